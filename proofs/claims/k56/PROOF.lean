import PyProof.Rows.All
import HandS.ForMost
import HandS.Evl
import HandS.IsInst
import HandS.Wide
import HandS.WideBits
import HandS.Zip
import HandS.Flow
import HandS.TupAny
import HandS.Exc
import HandS.Lambda
import HandS.Style
import HandS.Walk
import HandS.Rev
import HandS.RaiseMore
import KE.KNestM
import HandS.WideMore
import PyProof.ReprLen
import PyProof.ReprRoads
import HandS.Conv
import HandS.More
import HandS.HeadHook3
import KE.SortData
import PyProof.ListMulAny
import HandS.Deep
import KE.KDictZip
import PyProof.ListNew
import KE.GoesEnum
import HandS.Iter
import HandS.Text
import KE.DataCmp
import PyProof.LongRange
import HandS.NoneIn
import HandS.SetFor
import HandS.Strs
import HandS.TupMul
import HandS.ExcInit
import HandS.ExcOwn
import HandS.FStr
import HandS.TryMany
import HandS.ExcField
import HandS.ExcIs
import KE.KExcIs
import HandS.WrittenGet
import KE.GoesZip
import KE.GoesMore
import HandS.StrSplit
import KE.KRevSl
import PyProof.Rows.StrRev
import KE.KStrOpen
import PyProof.ListStr
import KE.IntTextLaws
import KE.KIntText
import PyProof.StrLawsChain
import KE.IntTextText
import HandS.TupSets
import KE.KeyNested
import PySem.Challenge.RW_stagedrounding_k56_texts_of_numbers_and
set_option Elab.async false
set_option linter.all false
set_option maxRecDepth 100000
set_option maxHeartbeats 4000000
set_option autoImplicit false
namespace Z
open L2 PySem PySem.Spec PyProof.Rows
open Evl (Ex ex_l ex_t ex_rd fresh_back)
abbrev Da := PyData
abbrev Fg := PySem.W.Frag
def keyD : Key → Da
  | .inl i => .int i
  | .inr x => .str x
mutual
inductive Rp (K : Fg) (F : Hp) : V → Da → Prop
  | non : Rp K F .non .none
  | bl (b : Bool) : Rp K F (.bl b) (.bool b)
  | int (i : Int) : Rp K F (.int i) (.int i)
  | str (x : Str) : Rp K F (.str x) (.str x)
  | lst {a : Addr} {xs : List V} {ds : List Da} : F a = some (.lst xs) → Rps K F xs ds → Rp K F (.ref a) (.list ds)
  | tup {a : Addr} {xs : List V} {ds : List Da} : SqT K F a xs → Rps K F xs ds → Rp K F (.ref a) (.tuple ds)
  | dct {a : Addr} {kvs : List (Key × V)} {es : List (Da × Da)} : Rd F a (.dK kvs) → RpK K F kvs es → Rp K F (.ref a) (.dict es)
inductive Rps (K : Fg) (F : Hp) : List V → List Da → Prop
  | nil : Rps K F [] []
  | cons {v : V} {vs : List V} {d : Da} {ds : List Da} : Rp K F v d → Rps K F vs ds → Rps K F (v :: vs) (d :: ds)
inductive RpK (K : Fg) (F : Hp) : List (Key × V) → List (Da × Da) → Prop
  | nil : RpK K F [] []
  | cons {k : Key} {v : V} {vs : List (Key × V)} {d : Da} {ds : List (Da × Da)} : Rp K F v d → RpK K F vs ds → RpK K F ((k, v) :: vs) ((keyD k, d) :: ds)
end
section
variable {K : Fg} {F F' : Hp}
mutual
theorem Rp.mono (e : Ex F F') : ∀ (d : Da) (v : V), Rp K F v d → Rp K F' v d
  | .none, _, h => by cases h; exact .non
  | .bool b, _, h => by cases h; exact .bl b
  | .int i, _, h => by cases h; exact .int i
  | .str x, _, h => by cases h; exact .str x
  | .list ds, _, h => by cases h with | lst hs ha => exact .lst (e _ _ hs) (Rps.mono e ds _ ha)
  | .tuple ds, _, h => by cases h with | tup hs ha => exact .tup (ex_t e hs) (Rps.mono e ds _ ha)
  | .dict es, _, h => by cases h with | dct hs ha => exact .dct (ex_rd e hs) (RpK.mono e es _ ha)
theorem Rps.mono (e : Ex F F') : ∀ (ds : List Da) (vs : List V), Rps K F vs ds → Rps K F' vs ds
  | [], _, h => by cases h; exact .nil
  | d :: ds, _, h => by cases h with | cons h1 h2 => exact .cons (Rp.mono e d _ h1) (Rps.mono e ds _ h2)
theorem RpK.mono (e : Ex F F') : ∀ (ds : List (Da × Da)) (vs : List (Key × V)), RpK K F vs ds → RpK K F' vs ds
  | [], _, h => by cases h; exact .nil
  | (_, d) :: ds, _, h => by cases h with | cons h1 h2 => exact .cons (Rp.mono e d _ h1) (RpK.mono e ds _ h2)
end
theorem Rp.up {v : V} {d : Da} (h : Rp K F v d) (e : Ex F F') : Rp K F' v d := Rp.mono e d v h
theorem Rps.up {v : List V} {d : List Da} (h : Rps K F v d) (e : Ex F F') : Rps K F' v d := Rps.mono e d v h
theorem Rps.len : ∀ {vs : List V} {ds : List Da}, Rps K F vs ds → vs.length = ds.length
  | _, _, .nil => rfl
  | _, _, .cons _ t => congrArg (· + 1) t.len
theorem Rps.get : ∀ {vs : List V} {ds : List Da} {i : Nat} {d : Da}, Rps K F vs ds → ds[i]? = some d → ∃ v, vs[i]? = some v ∧ Rp K F v d
  | _, _, _, _, .nil, e => by simp at e
  | _, _, 0, _, .cons r _, e => by simp at e; subst e; exact ⟨_, rfl, r⟩
  | _, _, i + 1, d, .cons _ t, e => by
    obtain ⟨u, h1, h2⟩ := Rps.get (i := i) (d := d) t (by simpa using e)
    exact ⟨u, by simpa using h1, h2⟩
theorem Rps.app : ∀ {vs us : List V} {ds es : List Da}, Rps K F vs ds → Rps K F us es → Rps K F (vs ++ us) (ds ++ es)
  | _, _, _, _, .nil, s => s
  | _, _, _, _, .cons r t, s => .cons r (t.app s)
theorem Rps.st {v : V} {d : Da} (r : Rp K F v d) : ∀ (n : Nat) {vs : List V} {ds : List Da}, Rps K F vs ds → Rps K F (vs.set n v) (ds.set n d)
  | _, _, _, .nil => .nil
  | 0, _, _, .cons _ t => .cons r t
  | n + 1, _, _, .cons q t => .cons q (Rps.st r n t)
end
/-- a still thing that is no datum: an instance by its class's name and its fields; an exception of the program's own by its class's name and its value -/
inductive Kd where | ins (nm : Str) (fs : List (Str × Da)) | exc (nm : Str) (z : Option Da) | at (p : Addr) | insAt (p : Addr) (nm : Str) (fs : List (Str × Da)) | lam (F0 : Hp) (f c : Addr) (q : Str)
/-- what an exception in the air says -/
def XvOk (K : Fg) (F : Hp) (cls : Value) (dd : Option Addr) (nm : Str) : Option Da → Prop
  | some z => ∃ (C x : Addr) (u : V), cls = .ref C ∧ PySem.W.nsIn K mainGlobals nm = some (some (.ref C)) ∧ dd = some x ∧ F x = some (.xd [("value", u)]) ∧ Rp K F u z
  | none => ∃ C : Addr, cls = .ref C ∧ PySem.W.nsIn K mainGlobals nm = some (some (.ref C)) ∧ dd = none
theorem XvOk.up {K : Fg} {F F' : Hp} {cls : Value} {dd : Option Addr} {nm : Str} (e : Ex F F') : ∀ {z : Option Da}, XvOk K F cls dd nm z → XvOk K F' cls dd nm z
  | some _, ⟨C, x, u, h1, h2, h3, h4, h5⟩ => ⟨C, x, u, h1, h2, h3, e _ _ h4, h5.up e⟩
  | none, h => h
/-- an exception that was caught, at a -/
def exT (a : Addr) (cls : Value) (d : Option Addr) : HO := .ext fun h => ∃ (oe : Obj) (vs : Array Value), h.get? a = some oe ∧ Zc cls d oe ∧ oe.data = .fields vs
def ObOk (K : Fg) (F : Hp) (v : V) : Kd → Prop
  | .ins nm fs => ∃ (p C dx : Addr) (us : List (Str × V)), v = .ref p ∧ PySem.W.nsIn K mainGlobals nm = some (some (.ref C)) ∧ F p = some (.ins C dx us) ∧ us.map Prod.fst = fs.map Prod.fst ∧ Rps K F (us.map Prod.snd) (fs.map Prod.snd)
  | .exc nm z => ∃ (a : Addr) (cls : Value) (dd : Option Addr), v = .ref a ∧ F a = some (exT a cls dd) ∧ XvOk K F cls dd nm z
  | .at p => v = .ref p
  | .lam F0 f c q => v = .ref f ∧ F c = some (LamX.CodeO c q) ∧ Ex F0 F
  | .insAt p nm fs => ∃ (C dx : Addr) (us : List (Str × V)), v = .ref p ∧ PySem.W.nsIn K mainGlobals nm = some (some (.ref C)) ∧ F p = some (.ins C dx us) ∧ us.map Prod.fst = fs.map Prod.fst ∧ Rps K F (us.map Prod.snd) (fs.map Prod.snd)
theorem ObOk.up {K : Fg} {F F' : Hp} {v : V} (e : Ex F F') : ∀ {k : Kd}, ObOk K F v k → ObOk K F' v k
  | .ins _ _, ⟨p, C, dx, us, h1, h2, h3, h4, h5⟩ => ⟨p, C, dx, us, h1, h2, e _ _ h3, h4, h5.up e⟩
  | .exc _ _, ⟨a, cls, dd, h1, h2, h3⟩ => ⟨a, cls, dd, h1, e _ _ h2, h3.up e⟩
  | .at _, h => h
  | .lam _ _ _ _, ⟨h1, h2, h3⟩ => ⟨h1, e _ _ h2, h3.trans e⟩
  | .insAt _ _ _, ⟨C, dx, us, h1, h2, h3, h4, h5⟩ => ⟨C, dx, us, h1, h2, e _ _ h3, h4, h5.up e⟩
/-- a local's content: a datum; an own list, not yet given away; the source of draws -/
inductive Sv where | val (d : Da) | own (ds : List Da) | src | scr (ns : List Int) | ob (k : Kd)
/-- an expression's value -/
inductive Rv where | val (d : Da) | src | scr (ns : List Int) | ob (k : Kd)
/-- a def's result; or what it raised: the class's name, the field value -/
inductive Rr where | val (d : Da) | own (ds : List Da) | exc (nm : Str) (d : Option Da)
structure Gs where
  sl : List (Option Sv)
  fu : Option Nat
  ow : Bool
/-- the entry: the still part, the heap, the source that was handed in -/
structure Con where
  F : Hp
  H : Hp
  ext : Option Addr
def modS : Int := 2305843009213693921
/-- a source of draws that may be asked n times more -/
def SrcAt (H : Hp) (a : Addr) (n : Nat) : Prop := ∃ x y z : Int, H a = some (.lst [.int x, .int y, .int z]) ∧ 0 ≤ x ∧ x < 2 ^ 1000 ∧ 0 ≤ y ∧ y < modS ∧ 0 ≤ z ∧ z + n ≤ 2 ^ 40
def SlOk (K : Fg) (F H : Hp) (c : Con) (a : Addr) (fu : Option Nat) (v : V) : Sv → Prop
  | .val d => Rp K F v d
  | .own ds => ∃ o xs, v = .ref o ∧ F o = none ∧ c.H o = none ∧ H o = some (.lst xs) ∧ Rps K F xs ds ∧ (fu ≠ none → o ≠ a)
  | .src => v = .ref a ∧ fu ≠ none
  | .scr ns => ∃ b, v = .ref b ∧ SqL K F b (ns.map V.int)
  | .ob k => ObOk K F v k
def RvOk (K : Fg) (F : Hp) (a : Addr) (fu : Option Nat) (v : V) : Rv → Prop
  | .val d => Rp K F v d
  | .src => v = .ref a ∧ fu ≠ none
  | .scr ns => ∃ b, v = .ref b ∧ SqL K F b (ns.map V.int)
  | .ob k => ObOk K F v k
theorem RvOk.up {K : Fg} {F F' : Hp} {a : Addr} {fu : Option Nat} {v : V} (e : Ex F F') : ∀ {r : Rv}, RvOk K F a fu v r → RvOk K F' a fu v r
  | .val _, h => Rp.up h e
  | .src, h => h
  | .scr _, ⟨b, h1, h2⟩ => ⟨b, h1, ex_l e h2⟩
  | .ob _, h => ObOk.up e h
inductive Tm (K : Fg) (F : Hp) (a : Addr) (fu : Option Nat) : List V → List Rv → Prop
  | nil : Tm K F a fu [] []
  | cons {v : V} {vs : List V} {r : Rv} {rs : List Rv} : RvOk K F a fu v r → Tm K F a fu vs rs → Tm K F a fu (v :: vs) (r :: rs)
def LAM : List Str := []
def lamQ (x : Str) : Str := x ++ ".<locals>.<lambda>"
/-- no table -/
def NT (o : HO) : Prop := ∀ ps, o ≠ .tbl ps
/-- the table at P: known to the heap, not to the still part; its code objects are known to the still part -/
structure TabAt (F H : Hp) (P : Addr) (q : Str) : Prop where
  ex : ∃ ps : Array Value, H P = some (.tbl ps) ∧ PySem.TriplesOk ps.toList ∧ ∀ (pos : Pos) (cv : Value), PySem.codeAmong pos ps.toList = some cv → ∃ c, cv = .ref c ∧ F c = some (LamX.CodeO c q)
  no : F P = none
def TabK (K : Fg) (F H : Hp) : Prop := ∀ x c P, x ∈ LAM → PySem.W.tabIn K x = some (c, P) → TabAt F H P (lamQ x)
theorem TabK.up {K : Fg} {F H F' H' : Hp} (t : TabK K F H) (ef : Ex F F') (eh : ∀ b ps, H b = some (.tbl ps) → H' b = some (.tbl ps)) (rn : ∀ b, F' b ≠ none → F b ≠ none ∨ ∀ ps, H b ≠ some (.tbl ps)) : TabK K F' H' := fun x c P h1 h2 => by
  obtain ⟨⟨ps, a1, a2, a3⟩, a4⟩ := t x c P h1 h2
  refine ⟨⟨ps, eh P ps a1, a2, fun pos cv hc => ?_⟩, ?_⟩
  · obtain ⟨c, e1, e2⟩ := a3 pos cv hc
    exact ⟨c, e1, ef _ _ e2⟩
  · cases q : F' P with
    | none => rfl
    | some o =>
      rcases rn P (by rw [q]; exact fun z => nomatch z) with w | w
      · exact absurd a4 w
      · exact absurd a1 (w ps)
/-- the still part grows by a list of the heap -/
theorem TabK.lst {K : Fg} {F H : Hp} {o : Addr} {xs : List V} (t : TabK K F H) (ho : H o = some (.lst xs)) (fo : F o = none) : TabK K (upd F o (.lst xs)) H :=
  t.up (Ex.new fo) (fun _ _ h => h) fun b h => by
    by_cases z : b = o
    · subst z
      exact .inr fun ps e => by rw [ho] at e; cases e
    · rw [upd_ne z] at h
      exact .inl h
/-- another thing at o, where there was no table -/
theorem TabK.but {K : Fg} {F H H' : Hp} {o : Addr} {w : HO} (t : TabK K F H) (ho : H o = some w) (n : NT w) (e : ∀ b u, b ≠ o → H b = some u → H' b = some u) : TabK K F H' :=
  t.up (Ex.refl F) (fun b ps h => e b _ (fun z => by rw [z, ho] at h; cases h; exact n _ rfl) h) fun _ h => .inl h
/-- tables stay tables -/
def TbS (H H' : Hp) : Prop := ∀ b ps, H b = some (.tbl ps) → ∃ ps', H' b = some (.tbl ps')
theorem TbS.refl {H : Hp} : TbS H H := fun _ ps h => ⟨ps, h⟩
theorem TbS.ex {H H' : Hp} (e : Ex H H') : TbS H H' := fun b ps h => ⟨ps, e b _ h⟩
theorem TbS.trans {H H1 H2 : Hp} (a : TbS H H1) (b : TbS H1 H2) : TbS H H2 := fun x ps h => let ⟨ps', h'⟩ := a x ps h; b x ps' h'
theorem TbS.but {H H' : Hp} {o : Addr} {w : HO} (ho : H o = some w) (n : NT w) (e : ∀ b u, b ≠ o → H b = some u → H' b = some u) : TbS H H' :=
  fun b ps h => ⟨ps, e b _ (fun z => by rw [z, ho] at h; cases h; exact n _ rfl) h⟩
structure Sta (K : Fg) (c : Con) (g : Gs) (σ : L2.St) (H : Hp) (tv : List V) (tr : List Rv) (F : Hp) (a : Addr) : Prop where
  e0 : Ex c.F F
  eh : Ex F H
  keep : ∀ b o, c.ext ≠ some b → NT o → c.H b = some o → H b = some o
  new : ∀ b, F b ≠ none → c.F b ≠ none ∨ c.H b = none
  ex : ∀ b, c.ext = some b → a = b ∧ g.fu ≠ none
  ow : g.ow = true → c.ext = none
  src : ∀ n, g.fu = some n → F a = none ∧ (c.ext = some a ∨ (c.ext = none ∧ c.H a = none)) ∧ SrcAt H a n
  tmp : Tm K F a g.fu tv tr
  len : σ.length = g.sl.length
  slot : ∀ (i : Nat) s, g.sl[i]? = some (some s) → ∃ v, σ[i]? = some (some v) ∧ SlOk K F H c a g.fu v s
  dis : ∀ (i j : Nat) ds es, i ≠ j → g.sl[i]? = some (some (.own ds)) → g.sl[j]? = some (some (.own es)) → σ[i]? ≠ σ[j]?
  t0 : TabK K F H
  tab : TbS c.H H
/-- still part and heap have grown -/
structure Gr (F H F' H' : Hp) : Prop where
  f : Ex F F'
  h : Ex H H'
  s : Ex F' H'
  n : ∀ b, F' b ≠ none → F b ≠ none ∨ H b = none
theorem Gr.refl {F H : Hp} (e : Ex F H) : Gr F H F H := ⟨Ex.refl _, Ex.refl _, e, fun _ h => .inl h⟩
theorem ne_none {α : Type} {x : Option α} {o : α} (h : x = some o) : x ≠ none := by rw [h]; exact fun z => nomatch z
theorem Gr.new {F H : Hp} {p : Addr} {o : HO} (e : Ex F H) (hp : H p = none) : Gr F H (upd F p o) (upd H p o) := by
  have fp : F p = none := fresh_back e hp
  refine ⟨Ex.new fp, Ex.new hp, fun b u q => ?_, fun b q => ?_⟩
  · by_cases hb : b = p
    · subst hb; rw [upd_same] at q ⊢; exact q
    · rw [upd_ne hb] at q ⊢; exact e b u q
  · by_cases hb : b = p
    · subst hb; exact .inr hp
    · rw [upd_ne hb] at q; exact .inl q
theorem Gr.trans {F H F1 H1 F2 H2 : Hp} (a : Gr F H F1 H1) (b : Gr F1 H1 F2 H2) : Gr F H F2 H2 :=
  ⟨a.f.trans b.f, a.h.trans b.h, b.s, fun x q => by
    rcases b.n x q with z | z
    · exact a.n x z
    · exact .inr (fresh_back a.h z)⟩
theorem Tm.up {K : Fg} {F F' : Hp} {a : Addr} {fu : Option Nat} (e : Ex F F') : ∀ {tv : List V} {tr : List Rv}, Tm K F a fu tv tr → Tm K F' a fu tv tr
  | _, _, .nil => .nil
  | _, _, .cons (r := r) h t => .cons (h.up e) (t.up e)
section
variable {K : Fg} {c : Con} {g : Gs} {σ : L2.St} {H H' F F' : Hp} {tv : List V} {tr : List Rv} {a : Addr}
/-- an old address is not new -/
theorem Sta.fresh (s : Sta K c g σ H tv tr F a) {b : Addr} (h : H b = none) : c.H b = none := by
  cases q : c.H b with
  | none => rfl
  | some o =>
    by_cases hx : c.ext = some b
    · obtain ⟨e1, e2⟩ := s.ex b hx
      subst e1
      cases hf : g.fu with
      | none => exact absurd hf e2
      | some n =>
        obtain ⟨_, _, x, y, z, e, _⟩ := s.src n hf
        rw [h] at e; cases e
    · cases o with
      | tbl ps =>
        obtain ⟨ps', z⟩ := s.tab b ps q
        rw [h] at z; cases z
      | _ => rw [s.keep b _ hx (fun _ z => by cases z) q] at h; cases h
theorem Sta.tabk (s : Sta K c g σ H tv tr F a) : TabK K F H := s.t0
theorem Sta.growN (s : Sta K c g σ H tv tr F a) (rf : Ex F F') (rh : ∀ b o, NT o → H b = some o → H' b = some o) (rs : Ex F' H') (rn : ∀ b, F' b ≠ none → F b ≠ none ∨ H b = none) (rt : TbS H H') (rk : TabK K F' H') : Sta K c g σ H' tv tr F' a where
  e0 := s.e0.trans rf
  eh := rs
  keep := fun b o h1 hn h2 => rh b o hn (s.keep b o h1 hn h2)
  new := fun b q => by
    rcases rn b q with z | z
    · exact s.new b z
    · exact .inr (s.fresh z)
  ex := s.ex
  ow := s.ow
  src := fun n h => by
    obtain ⟨h1, h2, x, y, z, e, h3⟩ := s.src n h
    refine ⟨?_, h2, x, y, z, rh _ _ (fun _ z => by cases z) e, h3⟩
    cases q : F' a with
    | none => rfl
    | some o =>
      rcases rn a (ne_none q) with z | z
      · exact absurd h1 z
      · rw [e] at z; cases z
  tmp := s.tmp.up rf
  len := s.len
  slot := fun i sv h => by
    obtain ⟨v, h1, h2⟩ := s.slot i sv h
    refine ⟨v, h1, ?_⟩
    cases sv with
    | val d => exact Rp.up h2 rf
    | src => exact h2
    | scr ns => obtain ⟨b, z1, z2⟩ := h2; exact ⟨b, z1, ex_l rf z2⟩
    | ob k => exact ObOk.up rf h2
    | own ds =>
      obtain ⟨o, xs, q1, q2, q3, q4, q5, q6⟩ := h2
      refine ⟨o, xs, q1, ?_, q3, rh _ _ (fun _ z => by cases z) q4, q5.up rf, q6⟩
      cases q : F' o with
      | none => rfl
      | some u =>
        rcases rn o (ne_none q) with z | z
        · exact absurd q2 z
        · rw [q4] at z; cases z
  dis := s.dis
  t0 := rk
  tab := s.tab.trans rt
theorem Sta.grow (s : Sta K c g σ H tv tr F a) (r : Gr F H F' H') : Sta K c g σ H' tv tr F' a := s.growN r.f (fun b o _ h => r.h b o h) r.s r.n (.ex r.h) (s.t0.up r.f (fun b ps h => r.h b _ h) fun b h => (r.n b h).imp id fun z ps e => by rw [z] at e; cases e)
theorem Sta.push (s : Sta K c g σ H tv tr F a) {v : V} {r : Rv} (h : RvOk K F a g.fu v r) : Sta K c g σ H (v :: tv) (r :: tr) F a :=
  ⟨s.e0, s.eh, s.keep, s.new, s.ex, s.ow, s.src, .cons h s.tmp, s.len, s.slot, s.dis, s.t0, s.tab⟩
theorem Sta.pop (s : Sta K c g σ H tv tr F a) {tv' : List V} {tr' : List Rv} (h : Tm K F a g.fu tv' tr') : Sta K c g σ H tv' tr' F a :=
  ⟨s.e0, s.eh, s.keep, s.new, s.ex, s.ow, s.src, h, s.len, s.slot, s.dis, s.t0, s.tab⟩
theorem Sta.pop1 {v : V} {r : Rv} (s : Sta K c g σ H (v :: tv) (r :: tr) F a) : Sta K c g σ H tv tr F a :=
  s.pop (by cases s.tmp with | cons _ t => exact t)
theorem Sta.top {v : V} {r : Rv} (s : Sta K c g σ H (v :: tv) (r :: tr) F a) : RvOk K F a g.fu v r := by
  cases s.tmp with | cons h _ => exact h
end
abbrev DE := Gs → (Rv → Gs → Prop) → Prop
abbrev DL := Gs → (List Da → Gs → Prop) → Prop
abbrev DT := Gs → (Bool → Gs → Prop) → Prop
abbrev DA := Gs → (List Rv → Gs → Prop) → Prop
structure DEnds where
  nx : Gs → Prop
  rt : Rr → Gs → Prop
  bk : Gs → Prop := fun _ => False
  ct : Gs → Prop := fun _ => False
abbrev DS := DEnds → Gs → Prop
def up (K : Fg) (t : DE) : TE := fun σ H Q => ∃ c g tv tr F a post, Sta K c g σ H tv tr F a ∧ t g post ∧
  ∀ r g' v H' F' a', post r g' → Sta K c g' σ H' (v :: tv) (r :: tr) F' a' → Q v H'
def upT (K : Fg) (t : DT) : TT := fun σ H Q => ∃ c g tv tr F a post, Sta K c g σ H tv tr F a ∧ t g post ∧
  ∀ b g' H' F' a', post b g' → Sta K c g' σ H' tv tr F' a' → Q b H'
/-- a new list, at an address of its own -/
structure NewL (K : Fg) (c : Con) (g : Gs) (σ : L2.St) (H F : Hp) (a : Addr) (v : V) (ds : List Da) : Prop where
  ex : ∃ o xs, v = .ref o ∧ F o = none ∧ c.H o = none ∧ H o = some (.lst xs) ∧ Rps K F xs ds ∧ (g.fu ≠ none → o ≠ a) ∧
    ∀ (i : Nat) (es : List Da), g.sl[i]? = some (some (Sv.own es)) → σ[i]? ≠ some (some (V.ref o))
def upL (K : Fg) (t : DL) : TE := fun σ H Q => ∃ c g tv tr F a post, Sta K c g σ H tv tr F a ∧ t g post ∧
  ∀ ds g' v H' F' a', post ds g' → Sta K c g' σ H' tv tr F' a' → NewL K c g' σ H' F' a' v ds → Q v H'
def upA (K : Fg) (t : DA) : TA := fun σ H Q => ∃ c g tv tr F a post, Sta K c g σ H tv tr F a ∧ t g post ∧
  ∀ rs g' vs H' F' a', post rs g' → Sta K c g' σ H' (vs.reverse ++ tv) (rs.reverse ++ tr) F' a' → vs.length = rs.length → Q vs H'
structure DD (K : Fg) (Wx : WX) (c : Con) (tv : List V) (tr : List Rv) (d : DEnds) (D : Ends) : Prop where
  nx : ∀ g σ H F a, d.nx g → Sta K c g σ H tv tr F a → D.nx σ H
  bk : ∀ g σ H F a, d.bk g → Sta K c g σ H tv tr F a → D.bk σ H
  ct : ∀ g σ H F a, d.ct g → Sta K c g σ H tv tr F a → D.ct σ H
  rv : ∀ x g σ v H F a, d.rt (.val x) g → Sta K c g σ H (v :: tv) (.val x :: tr) F a → D.rt v H
  ro : ∀ ds g σ v H F a, d.rt (.own ds) g → Sta K c g σ H tv tr F a → NewL K c { g with sl := [] } [] H F a v ds → D.rt v H
  rx : ∀ nm z g σ H F a cls dd, d.rt (.exc nm z) g → Sta K c g σ H tv tr F a → XvOk K F cls dd nm z → Wx cls dd σ H
def hasSrc : List Rv → Bool
  | [] => false
  | .src :: _ => true
  | _ :: r => hasSrc r
theorem hasSrc_app : ∀ {rs ts : List Rv}, hasSrc rs = false → hasSrc ts = false → hasSrc (rs ++ ts) = false
  | [], _, _, h => h
  | .val _ :: rs, _, h, h' => hasSrc_app (rs := rs) h h'
  | .scr _ :: rs, _, h, h' => hasSrc_app (rs := rs) h h'
  | .ob _ :: rs, _, h, h' => hasSrc_app (rs := rs) h h'
  | .src :: _, _, h, _ => by cases h
def upS (K : Fg) (Wx : WX) (t : DS) : TS := fun D σ H => ∃ c g tv tr F a d, Sta K c g σ H tv tr F a ∧ hasSrc tr = false ∧ t d g ∧ DD K Wx c tv tr d D
section
variable {X : Cx} {e : Expr}
theorem pe_to {t t' : TE} (h : PE X e t) (i : ∀ σ H Q, t' σ H Q → t σ H Q) : PE X e t' := ⟨fun pins s σ H Q I q => h.run pins s σ H Q I (i σ H Q q)⟩
theorem pt_to {t t' : TT} (h : PT X e t) (i : ∀ σ H Q, t' σ H Q → t σ H Q) : PT X e t' := ⟨fun pins s σ H Q I q => h.run pins s σ H Q I (i σ H Q q)⟩
theorem pw_to {t t' : TT} (h : PW X e t) (i : ∀ σ H Q, t' σ H Q → t σ H Q) : PW X e t' := ⟨fun w pins s σ H Q I q => h.run w pins s σ H Q I (i σ H Q q)⟩
theorem pa_to {es : List Expr} {t t' : TA} (h : PA X es t) (i : ∀ σ H Q, t' σ H Q → t σ H Q) : PA X es t' := ⟨fun p pins s σ H Q I q => h.run p pins s σ H Q I (i σ H Q q)⟩
theorem ps_to {st : Stmt} {t t' : TS} (h : PS X st t) (i : ∀ D σ H, t' D σ H → t D σ H) : PS X st t' := ⟨fun pins s σ H D I q => h.run pins s σ H D I (i D σ H q)⟩
theorem pss_to {st : List Stmt} {t t' : TS} (h : PSs X st t) (i : ∀ D σ H, t' D σ H → t D σ H) : PSs X st t' := ⟨fun pins s σ H D I q => h.run pins s σ H D I (i D σ H q)⟩
end
def Gs.set (g : Gs) (i : Nat) (s : Sv) : Gs := { g with sl := g.sl.set i (some s) }
def dVar (i : Nat) : DE := fun g Q => match g.sl[i]? with
  | some (some (.val d)) => Q (.val d) g
  | some (some .src) => Q .src g
  | some (some (.scr ns)) => Q (.scr ns) g
  | some (some (.ob k)) => Q (.ob k) g
  | some (some (.own ds)) => Q (.val (.list ds)) (g.set i (.val (.list ds)))
  | _ => False
def dC (d : Da) : DE := fun g Q => Q (.val d) g
section
variable {K : Fg} {c : Con} {g : Gs} {σ : L2.St} {H H' F F' : Hp} {tv : List V} {tr : List Rv} {a : Addr}
/-- an own list is given away: it stands still from now on -/
theorem Sta.freeze (s : Sta K c g σ H tv tr F a) {i : Nat} {ds : List Da} (h : g.sl[i]? = some (some (.own ds))) :
    ∃ o F', σ[i]? = some (some (.ref o)) ∧ Rp K F' (.ref o) (.list ds) ∧ Sta K c (g.set i (.val (.list ds))) σ H tv tr F' a := by
  obtain ⟨v, h1, o, xs, rfl, q2, q3, q4, q5, q6⟩ := s.slot i _ h
  have ef : Ex F (upd F o (.lst xs)) := Ex.new q2
  have ro : Rp K (upd F o (.lst xs)) (.ref o) (.list ds) := .lst upd_same (q5.up ef)
  have hi : i < g.sl.length := (List.getElem?_eq_some_iff.mp h).1
  refine ⟨o, upd F o (.lst xs), h1, ro, s.e0.trans ef, fun b u q => ?_, s.keep, fun b q => ?_, s.ex, s.ow, fun n hn => ?_, s.tmp.up ef, ?_, fun j sv hj => ?_, fun j k es fs hjk hj hk => ?_, s.t0.lst q4 q2, s.tab⟩
  · by_cases hb : b = o
    · subst hb; rw [upd_same] at q; cases q; exact q4
    · rw [upd_ne hb] at q; exact s.eh b u q
  · by_cases hb : b = o
    · subst hb; exact .inr q3
    · rw [upd_ne hb] at q; exact s.new b q
  · obtain ⟨z1, z2⟩ := s.src n hn
    refine ⟨?_, z2⟩
    rw [upd_ne (fun z => q6 (ne_none hn) z.symm)]; exact z1
  · show σ.length = (g.sl.set i _).length
    rw [List.length_set]; exact s.len
  · by_cases hji : j = i
    · subst hji
      have : (g.sl.set j (some (Sv.val (.list ds))))[j]? = some (some sv) := hj
      rw [List.getElem?_set_self hi] at this
      cases this
      exact ⟨_, h1, ro⟩
    · have : (g.sl.set i (some (Sv.val (.list ds))))[j]? = some (some sv) := hj
      rw [List.getElem?_set_ne (Ne.symm hji)] at this
      obtain ⟨v, w1, w2⟩ := s.slot j sv this
      refine ⟨v, w1, ?_⟩
      cases sv with
      | val d => exact Rp.up w2 ef
      | src => exact w2
      | scr ns => obtain ⟨b, z1, z2⟩ := w2; exact ⟨b, z1, ex_l ef z2⟩
      | ob k => exact ObOk.up ef w2
      | own es =>
        obtain ⟨o', ys, r1, r2, r3, r4, r5, r6⟩ := w2
        have ne : o' ≠ o := fun z => s.dis j i es ds hji this h (by rw [w1, h1, r1, z])
        exact ⟨o', ys, r1, by rw [upd_ne ne]; exact r2, r3, r4, r5.up ef, r6⟩
  · have n1 : j ≠ i := fun z => by
      subst z
      have : (g.sl.set j (some (Sv.val (.list ds))))[j]? = some (some (.own es)) := hj
      rw [List.getElem?_set_self hi] at this; cases this
    have n2 : k ≠ i := fun z => by
      subst z
      have : (g.sl.set k (some (Sv.val (.list ds))))[k]? = some (some (.own fs)) := hk
      rw [List.getElem?_set_self hi] at this; cases this
    have e1 : (g.sl.set i (some (Sv.val (.list ds))))[j]? = some (some (.own es)) := hj
    have e2 : (g.sl.set i (some (Sv.val (.list ds))))[k]? = some (some (.own fs)) := hk
    rw [List.getElem?_set_ne (Ne.symm n1)] at e1
    rw [List.getElem?_set_ne (Ne.symm n2)] at e2
    exact s.dis j k es fs hjk e1 e2
end
section
variable {X : Cx} {e : Expr}
theorem e_var (i : Nat) (h : PE X e (tVar i)) : PE X e (up X.K (dVar i)) := pe_to h fun σ H Q q => by
  obtain ⟨c, g, tv, tr, F, a, post, s, t, k⟩ := q
  unfold dVar at t
  split at t
  · rename_i d hd
    obtain ⟨v, h1, h2⟩ := s.slot i _ hd
    exact ⟨v, h1, k _ g v H F a t (s.push (r := .val d) h2)⟩
  · rename_i hd
    obtain ⟨v, h1, h2⟩ := s.slot i _ hd
    exact ⟨v, h1, k _ g v H F a t (s.push (r := .src) h2)⟩
  · rename_i ns hd
    obtain ⟨v, h1, h2⟩ := s.slot i _ hd
    exact ⟨v, h1, k _ g v H F a t (s.push (r := .scr ns) h2)⟩
  · rename_i kd hd
    obtain ⟨v, h1, h2⟩ := s.slot i _ hd
    exact ⟨v, h1, k _ g v H F a t (s.push (r := .ob kd) h2)⟩
  · rename_i ds hd
    obtain ⟨o, F', h1, h2, s'⟩ := s.freeze hd
    exact ⟨_, h1, k _ _ _ H F' a t (s'.push (r := .val (.list ds)) h2)⟩
  · exact t.elim
/-- anything whose value is plain and the same always -/
theorem e_c {v : V} {d : Da} (h : PE X e (tC v)) (r : ∀ F, Rp X.K F v d) : PE X e (up X.K (dC d)) := pe_to h fun σ H Q q => by
  obtain ⟨c, g, tv, tr, F, a, post, s, t, k⟩ := q
  exact k _ g v H F a t (s.push (r := .val d) (r F))
theorem e_int {i j pos} : PE X (.Constant (.int i) j pos) (up X.K (dC (.int i))) := e_c pe_int fun _ => .int i
theorem e_bl {b j pos} : PE X (.Constant (.bool b) j pos) (up X.K (dC (.bool b))) := e_c pe_bl fun _ => .bl b
theorem e_non {j pos} : PE X (.Constant .none j pos) (up X.K (dC .none)) := e_c pe_non fun _ => .non
theorem e_str {x j pos} : PE X (.Constant (.str x) j pos) (up X.K (dC (.str x))) := e_c pe_str fun _ => .str x
end
end Z
namespace Z
open L2 PySem PySem.Spec PyProof.Rows
open Evl (Ex ex_l ex_t ex_rd fresh_back)
abbrev BinF := Da → Da → (Da → Prop) → Prop
def dBin (f : BinF) (ta tb : DE) : DE := fun g Q => ta g fun x g1 => tb g1 fun y g2 => match x, y with
  | .val d, .val e => f d e fun z => Q (.val z) g2
  | _, _ => False
/-- on values: what r asks follows from f -/
def BinOk (K : Fg) (r : R2) (f : BinF) : Prop := ∀ (F H : Hp) (x y : V) (d e : Da) (post : Da → Prop) (Q : VK), Ex F H → Rp K F x d → Rp K F y e → f d e post →
  (∀ z v H' F', post z → Gr F H F' H' → Rp K F' v z → Q v H') → r x y H Q
section
variable {X : Cx} {a b : Expr} {ta tb : DE} {pos : Pos} {f : BinF} {r : R2}
theorem bin_core (hf : BinOk X.K r f) : ∀ σ H Q, up X.K (dBin f ta tb) σ H Q → tOp r (up X.K ta) (up X.K tb) σ H Q := fun σ H Q q => by
  obtain ⟨c, g, tv, tr, F, ad, post, s, t, k⟩ := q
  refine ⟨c, g, tv, tr, F, ad, _, s, t, fun x g1 v1 H1 F1 a1 t1 s1 => ?_⟩
  refine ⟨c, g1, _, _, F1, a1, _, s1, t1, fun y g2 v2 H2 F2 a2 t2 s2 => ?_⟩
  cases x with
  | val d =>
    cases y with
    | val e =>
      have r1 : Rp X.K F2 v1 d := s2.pop1.top
      have r2 : Rp X.K F2 v2 e := s2.top
      refine hf F2 H2 v1 v2 d e _ Q s2.eh r1 r2 t2 fun z v H' F' hz gr rz => ?_
      exact k _ g2 v H' F' a2 hz ((s2.pop1.pop1.grow gr).push (r := .val z) rz)
    | src => exact t2.elim
    | scr _ => exact t2.elim
    | ob _ => exact t2.elim
  | src => exact t2.elim
  | scr _ => exact t2.elim
  | ob _ => exact t2.elim
theorem e_bin {op : Operator} (ho : OpR X (binaryOp op) r) (hf : BinOk X.K r f) (ha : PE X a (up X.K ta)) (hb : PE X b (up X.K tb)) : PE X (.BinOp a op b pos) (up X.K (dBin f ta tb)) :=
  pe_to (pe_op ho ha hb) (bin_core hf)
theorem e_cmp {op : CmpOp} (ho : OpR X (compareOp op) r) (hf : BinOk X.K r f) (ha : PE X a (up X.K ta)) (hb : PE X b (up X.K tb)) (hm : behindInMarks op b = false) : PE X (.Compare a [op] [b] pos) (up X.K (dBin f ta tb)) :=
  pe_to (pe_cmpR ho ha hb hm) (bin_core hf)
theorem or_op {ff : Value → Value → Sem Value} {r1 r2 : R2} (h1 : OpR X ff r1) (h2 : OpR X ff r2) : OpR X ff (fun x y H Q => r1 x y H Q ∨ r2 x y H Q) := by
  intro pins s σ H x y v u Q I rx ry h
  rcases h with h | h
  · exact h1 pins s σ H x y v u Q I rx ry h
  · exact h2 pins s σ H x y v u Q I rx ry h
end
def fI (C : Int → Int → Prop) (o : Int → Int → Da) : BinF := fun d e post => match d, e with
  | .int i, .int j => C i j ∧ post (o i j)
  | _, _ => False
section
variable {K : Fg}
theorem ok_I {C : Int → Int → Prop} {o : Int → Int → Int} : BinOk K (rI C fun i j => .int (o i j)) (fI C fun i j => .int (o i j)) := fun F H x y d e post Q hx r1 r2 hf k => by
  cases d with
  | int i =>
    cases e with
    | int j =>
      cases r1; cases r2
      exact ⟨i, j, rfl, rfl, hf.1, k _ _ H F hf.2 (Gr.refl hx) (.int _)⟩
    | _ => exact hf.elim
  | _ => exact hf.elim
end
def fI0 (o : Int → Int → Da) : BinF := fun d e post => match d, e with
  | .int i, .int j => post (o i j)
  | _, _ => False
section
variable {K : Fg}
theorem ok_I0 {o : Int → Int → Int} : BinOk K (rI0 fun i j => .int (o i j)) (fI0 fun i j => .int (o i j)) := fun F H x y d e post Q hx r1 r2 hf k => by
  cases d with
  | int i =>
    cases e with
    | int j =>
      cases r1; cases r2
      exact ⟨i, j, rfl, rfl, k _ _ H F hf (Gr.refl hx) (.int _)⟩
    | _ => exact hf.elim
  | _ => exact hf.elim
theorem ok_I0b {o : Int → Int → Bool} : BinOk K (rI0 fun i j => .bl (o i j)) (fI0 fun i j => .bool (o i j)) := fun F H x y d e post Q hx r1 r2 hf k => by
  cases d with
  | int i =>
    cases e with
    | int j =>
      cases r1; cases r2
      exact ⟨i, j, rfl, rfl, k _ _ H F hf (Gr.refl hx) (.bl _)⟩
    | _ => exact hf.elim
  | _ => exact hf.elim
end
def CPowX (i j : Int) : Prop := 0 ≤ j ∧ (Builtin.Int.intBits i : Int) * j ≤ 2 ^ 27
/-- +: ints, texts, tuples, lists -/
def fAdd : BinF := fun d e post => match d, e with
  | .int i, .int j => post (.int (i + j))
  | .str x, .str y => x.length + y.length ≤ sizeLine ∧ post (.str (x ++ y))
  | .tuple xs, .tuple ys => xs ≠ [] ∧ xs.length + ys.length ≤ sizeLine ∧ post (.tuple (xs ++ ys))
  | .list xs, .list ys => xs.length + ys.length ≤ sizeLine ∧ post (.list (xs ++ ys))
  | _, _ => False
section
variable {X : Cx} {a b : Expr} {ta tb : DE} {pos : Pos}
theorem Rps.nil_iff {K : Fg} {F : Hp} {xs : List V} {ds : List Da} (h : Rps K F xs ds) : xs = [] ↔ ds = [] := by
  cases h <;> simp
theorem e_add (ha : PE X a (up X.K ta)) (hb : PE X b (up X.K tb)) : PE X (.BinOp a .Add b pos) (up X.K (dBin fAdd ta tb)) := by
  refine e_bin (or_op op_add (or_op op_add_str (or_op op_catT op_cat))) ?_ ha hb
  intro F H x y d e post Q hx r1 r2 hf k
  cases d with
  | int i =>
    cases e with
    | int j =>
      cases r1; cases r2
      exact .inl ⟨i, j, rfl, rfl, k _ _ H F hf (Gr.refl hx) (.int _)⟩
    | _ => exact hf.elim
  | str u =>
    cases e with
    | str w =>
      cases r1; cases r2
      exact .inr (.inl ⟨u, w, rfl, rfl, hf.1, k _ _ H F hf.2 (Gr.refl hx) (.str _)⟩)
    | _ => exact hf.elim
  | tuple ds =>
    cases e with
    | tuple es =>
      cases r1 with
      | tup s1 m1 =>
        cases r2 with
        | tup s2 m2 =>
          rename_i p1 xs p2 ys
          obtain ⟨h1, h2, h3⟩ := hf
          refine .inr (.inr (.inl ⟨p1, p2, xs, ys, rfl, rfl, ex_t hx s1, ex_t hx s2, fun z => h1 (m1.nil_iff.mp z), by rw [m1.len, m2.len]; exact h2, fun z => ?_, fun z p hp => ?_⟩))
          · have : es = [] := m2.nil_iff.mp z
            subst this
            rw [List.append_nil] at h3
            exact k _ _ H F h3 (Gr.refl hx) (.tup s1 m1)
          · have gr := Gr.new (o := .tup (xs ++ ys)) hx hp
            exact k _ _ _ _ h3 gr (.tup (.inl (.inl upd_same)) ((m1.up gr.f).app (m2.up gr.f)))
    | _ => exact hf.elim
  | list ds =>
    cases e with
    | list es =>
      cases r1 with
      | lst s1 m1 =>
        cases r2 with
        | lst s2 m2 =>
          rename_i p1 xs p2 ys
          obtain ⟨h2, h3⟩ := hf
          refine .inr (.inr (.inr ⟨p1, p2, xs, ys, rfl, rfl, hx _ _ s1, hx _ _ s2, by rw [m1.len, m2.len]; exact h2, fun p hp => ?_⟩))
          have gr := Gr.new (o := .lst (xs ++ ys)) hx hp
          exact k _ _ _ _ h3 gr (.lst upd_same ((m1.up gr.f).app (m2.up gr.f)))
    | _ => exact hf.elim
  | _ => exact hf.elim
theorem e_sub (ha : PE X a (up X.K ta)) (hb : PE X b (up X.K tb)) : PE X (.BinOp a .Sub b pos) (up X.K (dBin (fI0 fun i j => .int (i - j)) ta tb)) := e_bin op_sub ok_I0 ha hb
theorem e_mul (ha : PE X a (up X.K ta)) (hb : PE X b (up X.K tb)) : PE X (.BinOp a .Mult b pos) (up X.K (dBin (fI CMulX fun i j => .int (i * j)) ta tb)) := e_bin op_mulX ok_I ha hb
theorem e_div (ha : PE X a (up X.K ta)) (hb : PE X b (up X.K tb)) : PE X (.BinOp a .FloorDiv b pos) (up X.K (dBin (fI CDivW fun i j => .int (i / j)) ta tb)) := e_bin op_fdivW ok_I ha hb
theorem e_mod (ha : PE X a (up X.K ta)) (hb : PE X b (up X.K tb)) : PE X (.BinOp a .Mod b pos) (up X.K (dBin (fI (fun _ j => 0 < j) fun i j => .int (i % j)) ta tb)) := e_bin op_mod ok_I ha hb
theorem e_shl (ha : PE X a (up X.K ta)) (hb : PE X b (up X.K tb)) : PE X (.BinOp a .LShift b pos) (up X.K (dBin (fI CShl fun i j => .int (i * 2 ^ j.toNat)) ta tb)) := e_bin op_shlW ok_I ha hb
theorem op_powX : OpR X (binaryOp .Pow) (rI CPowX fun i j => .int (i ^ j.toNat)) := opI fun _ _ _ _ _ _ _ hc q => pow_int hc.1 hc.2 q
theorem e_pow (ha : PE X a (up X.K ta)) (hb : PE X b (up X.K tb)) : PE X (.BinOp a .Pow b pos) (up X.K (dBin (fI CPowX fun i j => .int (i ^ j.toNat)) ta tb)) := e_bin op_powX ok_I ha hb
theorem e_le (ha : PE X a (up X.K ta)) (hb : PE X b (up X.K tb)) : PE X (.Compare a [.LtE] [b] pos) (up X.K (dBin (fI0 fun i j => .bool (decide (i ≤ j))) ta tb)) := e_cmp op_le ok_I0b ha hb (nomark _)
theorem e_ge (ha : PE X a (up X.K ta)) (hb : PE X b (up X.K tb)) : PE X (.Compare a [.GtE] [b] pos) (up X.K (dBin (fI0 fun i j => .bool (decide (j ≤ i))) ta tb)) := e_cmp op_ge ok_I0b ha hb (nomark _)
end
section
variable {K : Fg} {F H : Hp}
mutual
theorem Rp.dp (e : Ex F H) : ∀ (d : Da) (v : V), Rp K F v d → d.canLay0 = true → Dp K H v d
  | .none, _, h, _ => by cases h; exact .non
  | .bool b, _, h, _ => by cases h; exact .bl b
  | .int i, _, h, _ => by cases h; exact .int i
  | .str x, _, h, _ => by cases h; exact .str x
  | .list ds, _, h, q => by cases h with | lst hs ha => exact .lst (.inl (.inl (e _ _ hs))) (Rps.dp e ds _ ha (by simpa [PyData.canLay0] using q))
  | .tuple ds, _, h, q => by cases h with | tup hs ha => exact .tup (ex_t e hs) (Rps.dp e ds _ ha (by simpa [PyData.canLay0] using q))
  | .dict es, _, h, q => by simp [PyData.canLay0] at q
theorem Rps.dp (e : Ex F H) : ∀ (ds : List Da) (vs : List V), Rps K F vs ds → PyData.canLayAll0 ds = true → DpAll K H vs ds
  | [], _, h, _ => by cases h; exact .nil
  | d :: ds, _, h, q => by
    cases h with
    | cons h1 h2 =>
      have q' : d.canLay0 = true ∧ PyData.canLayAll0 ds = true := by simpa [PyData.canLayAll0] using q
      exact .cons (Rp.dp e d _ h1 q'.1) (Rps.dp e ds _ h2 q'.2)
end
end
def fEq : BinF := fun d e post => SeqAt.shaped d = true ∧ SeqAt.shaped e = true ∧ post (.bool (d.eqv e))
def fNe : BinF := fun d e post => SeqAt.shaped d = true ∧ SeqAt.shaped e = true ∧ post (.bool (!d.eqv e))
theorem shaped_lay {d : Da} (h : SeqAt.shaped d = true) : d.canLay0 = true := by
  unfold SeqAt.shaped at h
  rw [Bool.and_eq_true] at h
  exact h.1
section
variable {X : Cx} {a b : Expr} {ta tb : DE} {pos : Pos}
theorem e_eq (hu : X.A.units + 64 < cLine) (ha : PE X a (up X.K ta)) (hb : PE X b (up X.K tb)) : PE X (.Compare a [.Eq] [b] pos) (up X.K (dBin fEq ta tb)) :=
  e_cmp (op_eqD hu) (fun F H x y d e post Q hx r1 r2 hf k => ⟨d, e, r1.dp hx d x (shaped_lay hf.1), r2.dp hx e y (shaped_lay hf.2.1), hf.1, hf.2.1, k _ _ H F hf.2.2 (Gr.refl hx) (.bl _)⟩) ha hb (nomark _)
end
def flatD : Da → Bool
  | .none => true
  | .bool _ => true
  | .int _ => true
  | .str _ => true
  | _ => false
def inD (d : Da) (es : List Da) : Bool := es.any fun y => y.eqv d
def fIn (neg : Bool) : BinF := fun d e post => match e with
  | .tuple es => flatD d = true ∧ es.all flatD = true ∧ post (.bool (if neg then !inD d es else inD d es))
  | .list es => flatD d = true ∧ es.all flatD = true ∧ post (.bool (if neg then !inD d es else inD d es))
  | _ => False
section
variable {K : Fg} {F H : Hp}
theorem flat_v {v : V} {d : Da} (r : Rp K F v d) (h : flatD d = true) : flatV v = true := by
  cases r <;> first | rfl | exact absurd (show false = true from h) Bool.false_ne_true
theorem eqv_v {v w : V} {d e : Da} (r : Rp K F v d) (q : Rp K F w e) (h : flatD d = true) (h' : flatD e = true) : eqV v w = d.eqv e := by
  cases r <;> first | exact absurd (show false = true from h) Bool.false_ne_true | (cases q <;> first | exact absurd (show false = true from h') Bool.false_ne_true | (simp [eqV, PyData.eqv]))
theorem flat_vs : ∀ {vs : List V} {ds : List Da}, Rps K F vs ds → ds.all flatD = true → vs.all flatV = true
  | _, _, .nil, _ => rfl
  | _, _, .cons r t, h => by
    rw [List.all_cons, Bool.and_eq_true] at h ⊢
    exact ⟨flat_v r h.1, flat_vs t h.2⟩
theorem in_v {x : V} {d : Da} (r : Rp K F x d) (hd : flatD d = true) : ∀ {vs : List V} {ds : List Da}, Rps K F vs ds → ds.all flatD = true → inV x vs = inD d ds
  | _, _, .nil, _ => rfl
  | _, _, .cons q t, h => by
    rw [List.all_cons, Bool.and_eq_true] at h
    have ih := in_v r hd t h.2
    unfold inV inD at ih ⊢
    rw [List.any_cons, List.any_cons, ih, eqv_v q r h.1 hd]
theorem ok_in {neg : Bool} : BinOk K (rIn K neg) (fIn neg) := fun F H x y d e post Q hx r1 r2 hf k => by
  cases e with
  | tuple es =>
    cases r2 with
    | tup s1 m1 =>
      obtain ⟨h1, h2, h3⟩ := hf
      refine ⟨_, _, rfl, .inr (ex_t hx s1), flat_v r1 h1, flat_vs m1 h2, ?_⟩
      rw [in_v r1 h1 m1 h2]
      exact k _ _ H F h3 (Gr.refl hx) (.bl _)
  | list es =>
    cases r2 with
    | lst s1 m1 =>
      obtain ⟨h1, h2, h3⟩ := hf
      refine ⟨_, _, rfl, .inl (.inl (.inl (hx _ _ s1))), flat_v r1 h1, flat_vs m1 h2, ?_⟩
      rw [in_v r1 h1 m1 h2]
      exact k _ _ H F h3 (Gr.refl hx) (.bl _)
  | _ => exact hf.elim
end
section
variable {X : Cx} {a b : Expr} {ta tb : DE} {pos : Pos}
theorem e_in (ha : PE X a (up X.K ta)) (hb : PE X b (up X.K tb)) (hm : behindInMarks .In b = false := by rfl) : PE X (.Compare a [.In] [b] pos) (up X.K (dBin (fIn false) ta tb)) := e_cmp op_in_seq ok_in ha hb hm
end
end Z
namespace Z
open L2 PySem PySem.Spec PyProof.Rows
open Evl (Ex ex_l ex_t ex_rd fresh_back)
def dTest (t : DE) : DT := fun g Q => t g fun r g1 => match r with
  | .val (.bool b) => Q b g1
  | _ => False
def dAndT (ta tb : DT) : DT := fun g Q => ta g fun b g1 => (b = true → tb g1 Q) ∧ (b = false → Q false g1)
def dOrT (ta tb : DT) : DT := fun g Q => ta g fun b g1 => (b = true → Q true g1) ∧ (b = false → tb g1 Q)
def dNotT (ta : DT) : DT := fun g Q => ta g fun b g1 => Q (!b) g1
def dAndV (ta tb : DE) : DE := fun g Q => ta g fun r g1 => match r with
  | .val (.bool b) => (b = true → tb g1 Q) ∧ (b = false → Q (.val (.bool false)) g1)
  | _ => False
def dNotV (ta : DE) : DE := fun g Q => ta g fun r g1 => match r with
  | .val (.bool b) => Q (.val (.bool (!b))) g1
  | _ => False
def dIf (t : DT) (ta tb : DE) : DE := fun g Q => t g fun b g1 => (b = true → ta g1 Q) ∧ (b = false → tb g1 Q)
section
variable {K : Fg} {F : Hp} {a : Addr} {fu : Option Nat} {v : V}
theorem RvOk.bl {r : Rv} (h : RvOk K F a fu v r) {b : Bool} (e : r = .val (.bool b)) : v = .bl b := by
  subst e
  have h' : Rp K F v (.bool b) := h
  cases h'; rfl
end
section
variable {X : Cx} {a b c e : Expr} {ta tb t : DE} {sa sb : DT} {pos : Pos} {rest : List Expr}
theorem t_val (h : PE X e (up X.K t)) (hw : ∀ whole : Sem Value, isTrue e X.env whole = (do
    let v ← whole
    standAt e.pos
    holding [v] (truthy v)) := by intro _; rfl) : PT X e (upT X.K (dTest t)) := pt_to (pt_val h hw) fun σ H Q q => by
  obtain ⟨c, g, tv, tr, F, ad, post, s, t1, k⟩ := q
  refine ⟨c, g, tv, tr, F, ad, _, s, t1, fun r g1 v1 H1 F1 a1 h1 s1 => ?_⟩
  cases r with
  | val d =>
    cases d with
    | bool b => exact ⟨b, s1.top.bl rfl, k b g1 H1 F1 a1 h1 s1.pop1⟩
    | _ => exact h1.elim
  | _ => exact h1.elim
theorem w_and (h1 : PT X a (upT X.K sa)) (h2 : PW X (.BoolOp .And (b :: rest) pos) (upT X.K sb)) : PW X (.BoolOp .And (a :: b :: rest) pos) (upT X.K (dAndT sa sb)) := pw_to (pw_and h1 h2) fun σ H Q q => by
  obtain ⟨c, g, tv, tr, F, ad, post, s, t1, k⟩ := q
  refine ⟨c, g, tv, tr, F, ad, _, s, t1, fun b g1 H1 F1 a1 h1 s1 => ?_⟩
  cases b with
  | true => rw [if_pos rfl]; exact ⟨c, g1, tv, tr, F1, a1, _, s1, h1.1 rfl, k⟩
  | false => rw [if_neg Bool.false_ne_true]; exact k false g1 H1 F1 a1 (h1.2 rfl) s1
theorem w_and1 (h1 : PT X a (upT X.K sa)) : PW X (.BoolOp .And [a] pos) (upT X.K sa) := pw_and1 h1
theorem w_or (h1 : PT X a (upT X.K sa)) (h2 : PW X (.BoolOp .Or (b :: rest) pos) (upT X.K sb)) : PW X (.BoolOp .Or (a :: b :: rest) pos) (upT X.K (dOrT sa sb)) := pw_to (pw_or h1 h2) fun σ H Q q => by
  obtain ⟨c, g, tv, tr, F, ad, post, s, t1, k⟩ := q
  refine ⟨c, g, tv, tr, F, ad, _, s, t1, fun b g1 H1 F1 a1 h1 s1 => ?_⟩
  cases b with
  | true => rw [if_pos rfl]; exact k true g1 H1 F1 a1 (h1.1 rfl) s1
  | false => rw [if_neg Bool.false_ne_true]; exact ⟨c, g1, tv, tr, F1, a1, _, s1, h1.2 rfl, k⟩
theorem w_or1 (h1 : PT X a (upT X.K sa)) : PW X (.BoolOp .Or [a] pos) (upT X.K sa) := pw_or1 h1
theorem t_not (h1 : PT X a (upT X.K sa)) : PT X (.UnaryOp .Not a pos) (upT X.K (dNotT sa)) := pt_to (pt_not h1) fun σ H Q q => by
  obtain ⟨c, g, tv, tr, F, ad, post, s, t1, k⟩ := q
  exact ⟨c, g, tv, tr, F, ad, _, s, t1, fun b g1 H1 F1 a1 h1 s1 => k _ g1 H1 F1 a1 h1 s1⟩
theorem e_and (h1 : PE X a (up X.K ta)) (h2 : PE X (.BoolOp .And (b :: rest) pos) (up X.K tb)) : PE X (.BoolOp .And (a :: b :: rest) pos) (up X.K (dAndV ta tb)) := pe_to (pe_and h1 h2) fun σ H Q q => by
  obtain ⟨c, g, tv, tr, F, ad, post, s, t1, k⟩ := q
  refine ⟨c, g, tv, tr, F, ad, _, s, t1, fun r g1 v1 H1 F1 a1 h1 s1 => ?_⟩
  cases r with
  | val d =>
    cases d with
    | bool b =>
      refine ⟨b, s1.top.bl rfl, ?_⟩
      cases b with
      | true => rw [if_pos rfl]; exact ⟨c, g1, tv, tr, F1, a1, _, s1.pop1, h1.1 rfl, k⟩
      | false => rw [if_neg Bool.false_ne_true]; exact k _ g1 _ H1 F1 a1 (h1.2 rfl) (s1.pop1.push (r := .val (.bool false)) (Rp.bl false))
    | _ => exact h1.elim
  | _ => exact h1.elim
theorem e_one {op : BoolOp} (h1 : PE X a (up X.K ta)) : PE X (.BoolOp op [a] pos) (up X.K ta) := pe_one h1
theorem e_not (h1 : PE X a (up X.K ta)) : PE X (.UnaryOp .Not a pos) (up X.K (dNotV ta)) := pe_to (pe_not h1) fun σ H Q q => by
  obtain ⟨c, g, tv, tr, F, ad, post, s, t1, k⟩ := q
  refine ⟨c, g, tv, tr, F, ad, _, s, t1, fun r g1 v1 H1 F1 a1 h1 s1 => ?_⟩
  cases r with
  | val d =>
    cases d with
    | bool b => exact ⟨b, s1.top.bl rfl, k _ g1 _ H1 F1 a1 h1 (s1.pop1.push (r := .val (.bool (!b))) (Rp.bl (!b)))⟩
    | _ => exact h1.elim
  | _ => exact h1.elim
theorem e_if (h : PT X c (upT X.K sa)) (h1 : PE X a (up X.K ta)) (h2 : PE X b (up X.K tb)) : PE X (.IfExp c a b pos) (up X.K (dIf sa ta tb)) := pe_to (pe_ifExp h h1 h2) fun σ H Q q => by
  obtain ⟨c, g, tv, tr, F, ad, post, s, t1, k⟩ := q
  refine ⟨c, g, tv, tr, F, ad, _, s, t1, fun b g1 H1 F1 a1 h1 s1 => ?_⟩
  cases b with
  | true => rw [if_pos rfl]; exact ⟨c, g1, tv, tr, F1, a1, _, s1, h1.1 rfl, k⟩
  | false => rw [if_neg Bool.false_ne_true]; exact ⟨c, g1, tv, tr, F1, a1, _, s1, h1.2 rfl, k⟩
/-- -a -/
def dNeg (ta : DE) : DE := fun g Q => ta g fun r g1 => match r with
  | .val (.int i) => Q (.val (.int (-i))) g1
  | _ => False
theorem e_neg (h1 : PE X a (up X.K ta)) : PE X (.UnaryOp .USub a pos) (up X.K (dNeg ta)) := pe_to (pe_un un_neg h1) fun σ H Q q => by
  obtain ⟨c, g, tv, tr, F, ad, post, s, t1, k⟩ := q
  refine ⟨c, g, tv, tr, F, ad, _, s, t1, fun r g1 v1 H1 F1 a1 h1 s1 => ?_⟩
  cases r with
  | val d =>
    cases d with
    | int i =>
      have hr : Rp X.K F1 v1 (.int i) := s1.top
      cases hr
      exact ⟨i, rfl, k _ g1 _ H1 F1 a1 h1 (s1.pop1.push (r := .val (.int (-i))) (Rp.int (-i)))⟩
    | _ => exact h1.elim
  | _ => exact h1.elim
/-- x is None, x is not None -/
def isNon : Da → Bool
  | .none => true
  | _ => false
def dIsN (neg : Bool) (ta : DE) : DE := fun g Q => ta g fun r g1 => match r with
  | .val d => Q (.val (.bool (if neg then !isNon d else isNon d))) g1
  | _ => False
theorem non_v {K : Fg} {F : Hp} {v : V} {d : Da} (h : Rp K F v d) : decide (v = .non) = isNon d := by
  cases h <;> simp [isNon]
/-- a < b < c -/
def dChain (f f' : BinF) (ta tb tc : DE) : DE := fun g Q => ta g fun x g1 => tb g1 fun y g2 => match x, y with
  | .val d, .val e => f d e fun z => match z with
    | .bool true => tc g2 fun w g3 => match w with
      | .val h => f' e h fun z' => Q (.val z') g3
      | _ => False
    | .bool false => Q (.val (.bool false)) g2
    | _ => False
  | _, _ => False
end
end Z
namespace Z
open L2 PySem PySem.Spec PyProof.Rows
open Evl (Ex ex_l ex_t ex_rd fresh_back)
section
variable {X : Cx} {a b c e : Expr} {ta tb tc t : DE} {pos : Pos}
theorem chain_core {r r' : R2} {f f' : BinF} (hf : BinOk X.K r f) (hf' : BinOk X.K r' f') {σ : L2.St} {H : Hp} {Q : VK} (q : up X.K (dChain f f' ta tb tc) σ H Q) : tChain r r' (up X.K ta) (up X.K tb) (up X.K tc) σ H Q := by
  obtain ⟨c, g, tv, tr, F, ad, post, s, t, k⟩ := q
  refine ⟨c, g, tv, tr, F, ad, _, s, t, fun x g1 v1 H1 F1 a1 t1 s1 => ?_⟩
  refine ⟨c, g1, _, _, F1, a1, _, s1, t1, fun y g2 v2 H2 F2 a2 t2 s2 => ?_⟩
  cases x with
  | val d =>
    cases y with
    | val e =>
      have r1 : Rp X.K F2 v1 d := s2.pop1.top
      have r2 : Rp X.K F2 v2 e := s2.top
      refine hf F2 H2 v1 v2 d e _ _ s2.eh r1 r2 t2 fun z v H3 F3 hz gr rz => ?_
      cases z with
      | bool k1 =>
        cases rz
        have s3 := s2.grow gr
        refine ⟨k1, rfl, ?_⟩
        cases k1 with
        | true =>
          rw [if_pos rfl]
          refine ⟨c, g2, _, _, F3, a2, _, s3, hz, fun w g4 v4 H4 F4 a4 t4 s4 => ?_⟩
          cases w with
          | val h =>
            have q2 : Rp X.K F4 v2 e := s4.pop1.top
            have q4 : Rp X.K F4 v4 h := s4.top
            exact hf' F4 H4 v2 v4 e h _ _ s4.eh q2 q4 t4 fun z' v' H5 F5 hz' gr' rz' => k _ g4 v' H5 F5 a4 hz' ((s4.pop1.pop1.pop1.grow gr').push (r := .val z') rz')
          | _ => exact t4.elim
        | false =>
          rw [if_neg Bool.false_ne_true]
          exact k _ g2 _ H3 F3 a2 hz (s3.pop1.pop1.push (r := .val (.bool false)) (Rp.bl false))
      | _ => exact hz.elim
    | _ => exact t2.elim
  | _ => exact t2.elim
theorem e_chain {op op' : CmpOp} {r r' : R2} {f f' : BinF} (ho : OpR X (compareOp op) r) (ho' : OpR X (compareOp op') r') (hf : BinOk X.K r f) (hf' : BinOk X.K r' f') (ha : PE X a (up X.K ta)) (hb : PE X b (up X.K tb)) (hc : PE X c (up X.K tc))
    (hm : lastMarks [op, op'] [b, c] = false := by with_unfolding_all rfl) : PE X (.Compare a [op, op'] [b, c] pos) (up X.K (dChain f f' ta tb tc)) := pe_to (pe_chain ho ho' ha hb hc hm) fun _ _ _ q => chain_core hf hf' q
theorem e_lele (ha : PE X a (up X.K ta)) (hb : PE X b (up X.K tb)) (hc : PE X c (up X.K tc)) (hm : lastMarks [.LtE, .LtE] [b, c] = false := by with_unfolding_all rfl) :
    PE X (.Compare a [.LtE, .LtE] [b, c] pos) (up X.K (dChain (fI0 fun i j => .bool (decide (i ≤ j))) (fI0 fun i j => .bool (decide (i ≤ j))) ta tb tc)) := e_chain op_le op_le ok_I0b ok_I0b ha hb hc hm
end
def dNil : DA := fun g Q => Q [] g
def dCons (te : DE) (tr : DA) : DA := fun g Q => te g fun x g1 => tr g1 fun xs g2 => Q (x :: xs) g2
section
variable {K : Fg} {F : Hp} {a : Addr} {fu : Option Nat}
theorem Tm.app : ∀ {xs ys : List V} {rs ts : List Rv}, Tm K F a fu xs rs → Tm K F a fu ys ts → Tm K F a fu (xs ++ ys) (rs ++ ts)
  | _, _, _, _, .nil, s => s
  | _, _, _, _, .cons r t, s => .cons r (t.app s)
theorem Tm.rev : ∀ {xs : List V} {rs : List Rv}, Tm K F a fu xs rs → Tm K F a fu xs.reverse rs.reverse
  | _, _, .nil => .nil
  | _, _, .cons r t => by
    rw [List.reverse_cons, List.reverse_cons]
    exact t.rev.app (.cons r .nil)
theorem Tm.split : ∀ {xs ys : List V} {rs ts : List Rv}, xs.length = rs.length → Tm K F a fu (xs ++ ys) (rs ++ ts) → Tm K F a fu xs rs ∧ Tm K F a fu ys ts
  | [], _, [], _, _, h => ⟨.nil, h⟩
  | [], _, _ :: _, _, e, _ => by simp at e
  | _ :: _, _, [], _, e, _ => by simp at e
  | x :: xs, ys, r :: rs, ts, e, h => by
    have h' : Tm K F a fu (x :: (xs ++ ys)) (r :: (rs ++ ts)) := h
    cases h' with
    | cons h1 h2 =>
      obtain ⟨q1, q2⟩ := Tm.split (by simpa using e) h2
      exact ⟨.cons h1 q1, q2⟩
theorem Tm.args {vs tv : List V} {rs tr : List Rv} (h : Tm K F a fu (vs.reverse ++ tv) (rs.reverse ++ tr)) (e : vs.length = rs.length) : Tm K F a fu vs rs ∧ Tm K F a fu tv tr := by
  obtain ⟨h1, h2⟩ := Tm.split (by simpa using e) h
  have := h1.rev
  rw [List.reverse_reverse, List.reverse_reverse] at this
  exact ⟨this, h2⟩
end
def valsD : List Rv → Option (List Da)
  | [] => some []
  | .val d :: rs => (valsD rs).map (d :: ·)
  | _ :: _ => none
theorem Tm.vals {K : Fg} {F : Hp} {a : Addr} {fu : Option Nat} : ∀ {vs : List V} {rs : List Rv} {ds : List Da}, Tm K F a fu vs rs → valsD rs = some ds → Rps K F vs ds
  | _, _, _, .nil, e => by cases e; exact .nil
  | _, .val d :: rs, ds, .cons h t, e => by
    unfold valsD at e
    cases q : valsD rs with
    | none => rw [q] at e; cases e
    | some es =>
      rw [q] at e
      cases e
      exact .cons h (t.vals q)
  | _, .src :: rs, ds, .cons h t, e => by cases e
  | _, .scr _ :: rs, ds, .cons h t, e => by cases e
  | _, .ob _ :: rs, ds, .cons h t, e => by cases e
def dTup (ta : DA) : DE := fun g Q => ta g fun rs g1 => match valsD rs with
  | some ds => ds.length ≤ 1000000 ∧ Q (.val (.tuple ds)) g1
  | none => False
def dLst (ta : DA) : DL := fun g Q => ta g fun rs g1 => match valsD rs with
  | some ds => ds.length ≤ 1000000 ∧ Q ds g1
  | none => False
def dFz (t : DL) : DE := fun g Q => t g fun ds g1 => Q (.val (.list ds)) g1
theorem mil {n : Nat} (h : n ≤ 1000000) : n ≤ sizeLine := Nat.le_trans h (by decide)
section
variable {K : Fg} {c : Con} {g : Gs} {σ : L2.St} {H F : Hp} {tv : List V} {tr : List Rv} {a : Addr}
/-- the new list stands still from now on -/
theorem Sta.still (s : Sta K c g σ H tv tr F a) {v : V} {ds : List Da} (h : NewL K c g σ H F a v ds) : ∃ F', Sta K c g σ H (v :: tv) (.val (.list ds) :: tr) F' a := by
  obtain ⟨o, xs, rfl, q2, q3, q4, q5, q6, q7⟩ := h.ex
  have ef : Ex F (upd F o (.lst xs)) := Ex.new q2
  have ro : Rp K (upd F o (.lst xs)) (.ref o) (.list ds) := .lst upd_same (q5.up ef)
  refine ⟨upd F o (.lst xs), s.e0.trans ef, fun b u q => ?_, s.keep, fun b q => ?_, s.ex, s.ow, fun n hn => ?_, .cons ro (s.tmp.up ef), s.len, fun j sv hj => ?_, s.dis, s.t0.lst q4 q2, s.tab⟩
  · by_cases hb : b = o
    · subst hb; rw [upd_same] at q; cases q; exact q4
    · rw [upd_ne hb] at q; exact s.eh b u q
  · by_cases hb : b = o
    · subst hb; exact .inr q3
    · rw [upd_ne hb] at q; exact s.new b q
  · obtain ⟨z1, z2⟩ := s.src n hn
    refine ⟨?_, z2⟩
    rw [upd_ne (fun z => q6 (ne_none hn) z.symm)]; exact z1
  · obtain ⟨v, w1, w2⟩ := s.slot j sv hj
    refine ⟨v, w1, ?_⟩
    cases sv with
    | val d => exact Rp.up w2 ef
    | src => exact w2
    | scr ns => obtain ⟨b, z1, z2⟩ := w2; exact ⟨b, z1, ex_l ef z2⟩
    | ob k => exact ObOk.up ef w2
    | own es =>
      obtain ⟨o', ys, r1, r2, r3, r4, r5, r6⟩ := w2
      have ne : o' ≠ o := fun z => q7 j es hj (by rw [w1, r1, z])
      exact ⟨o', ys, r1, by rw [upd_ne ne]; exact r2, r3, r4, r5.up ef, r6⟩
/-- a list laid at a free address -/
theorem Sta.laid (s : Sta K c g σ H tv tr F a) {p : Addr} (hp : H p = none) {xs : List V} {ds : List Da} (m : Rps K F xs ds) : Sta K c g σ (upd H p (.lst xs)) tv tr F a ∧ NewL K c g σ (upd H p (.lst xs)) F a (.ref p) ds := by
  have fp : F p = none := fresh_back s.eh hp
  have eH : Ex H (upd H p (.lst xs)) := Ex.new hp
  refine ⟨s.grow ⟨Ex.refl _, eH, s.eh.trans eH, fun b h => .inl h⟩, ⟨p, xs, rfl, fp, s.fresh hp, upd_same, m, fun hf z => ?_, fun i es hi z => ?_⟩⟩
  · cases q : g.fu with
    | none => exact hf q
    | some n =>
      obtain ⟨_, _, x, y, w, e, _⟩ := s.src n q
      rw [← z, hp] at e; cases e
  · obtain ⟨v, w1, o, ys, r1, r2, r3, r4, _⟩ := s.slot i _ hi
    rw [z] at w1
    cases w1
    cases r1
    rw [hp] at r4; cases r4
end
section
variable {X : Cx} {e : Expr} {es : List Expr} {te : DE} {tr : DA} {tl : DL} {pos : Pos}
theorem a_nil : PA X [] (upA X.K dNil) := pa_to pa_nil fun σ H Q q => by
  obtain ⟨c, g, tv, tr, F, ad, post, s, t, k⟩ := q
  exact k [] g [] H F ad t s rfl
theorem a_cons (h : PE X e (up X.K te)) (hr : PA X es (upA X.K tr)) (hs : starEach (e :: es) X.env = (false, eval e X.env) :: starEach es X.env := by rfl) : PA X (e :: es) (upA X.K (dCons te tr)) := pa_to (pa_cons h hr hs) fun σ H Q q => by
  obtain ⟨c, g, tv, tr, F, ad, post, s, t, k⟩ := q
  refine ⟨c, g, tv, tr, F, ad, _, s, t, fun x g1 v1 H1 F1 a1 t1 s1 => ?_⟩
  refine ⟨c, g1, _, _, F1, a1, _, s1, t1, fun xs g2 vs H2 F2 a2 t2 s2 hl => ?_⟩
  refine k (x :: xs) g2 (v1 :: vs) H2 F2 a2 t2 ?_ (by simp [hl])
  rw [List.reverse_cons, List.reverse_cons, List.append_assoc, List.append_assoc]
  exact s2
theorem e_tup {x1 : Nat} (h : PA X es (upA X.K tr)) : PE X (.Tuple es x1 pos) (up X.K (dTup tr)) := pe_to (pe_tup h) fun σ H Q q => by
  obtain ⟨c, g, tv, tr, F, ad, post, s, t, k⟩ := q
  refine ⟨c, g, tv, tr, F, ad, _, s, t, fun rs g1 vs H1 F1 a1 t1 s1 hl => ?_⟩
  cases q : valsD rs with
  | none => rw [q] at t1; exact t1.elim
  | some ds =>
    rw [q] at t1
    obtain ⟨m1, m2⟩ := s1.tmp.args hl
    have hv := m1.vals q
    refine ⟨by rw [hv.len]; exact mil t1.1, fun p hp => ?_⟩
    have gr := Gr.new (o := .tup vs) s1.eh hp
    exact k _ g1 _ _ _ a1 t1.2 (((s1.pop m2).grow gr).push (r := .val (.tuple ds)) (.tup (.inl (.inl upd_same)) (hv.up gr.f)))
theorem e_lstL (h : PA X es (upA X.K tr)) : PE X (.List es pos) (upL X.K (dLst tr)) := pe_to (pe_lst h) fun σ H Q q => by
  obtain ⟨c, g, tv, tr, F, ad, post, s, t, k⟩ := q
  refine ⟨c, g, tv, tr, F, ad, _, s, t, fun rs g1 vs H1 F1 a1 t1 s1 hl => ?_⟩
  cases q : valsD rs with
  | none => rw [q] at t1; exact t1.elim
  | some ds =>
    rw [q] at t1
    obtain ⟨m1, m2⟩ := s1.tmp.args hl
    have hv := m1.vals q
    refine ⟨by rw [hv.len]; exact mil t1.1, fun p hp => ?_⟩
    obtain ⟨s2, n2⟩ := (s1.pop m2).laid hp hv
    exact k ds g1 _ _ F1 a1 t1.2 s2 n2
theorem e_fz (h : PE X e (upL X.K tl)) : PE X e (up X.K (dFz tl)) := pe_to h fun σ H Q q => by
  obtain ⟨c, g, tv, tr, F, ad, post, s, t, k⟩ := q
  refine ⟨c, g, tv, tr, F, ad, _, s, t, fun ds g1 v H1 F1 a1 t1 s1 n1 => ?_⟩
  obtain ⟨F2, s2⟩ := s1.still n1
  exact k _ g1 v H1 F2 a1 t1 s2
end
def dIx (ta tb : DE) : DE := fun g Q => ta g fun x g1 => tb g1 fun y g2 => match x, y with
  | .val (.tuple ds), .val (.int i) => (match atI ds i with | some z => Q (.val z) g2 | none => False)
  | .val (.list ds), .val (.int i) => (match atI ds i with | some z => Q (.val z) g2 | none => False)
  | .scr ns, .val (.int i) => (match atI ns i with | some z => Q (.val (.int z)) g2 | none => False)
  | _, _ => False
theorem atI_get {K : Fg} {F : Hp} {vs : List V} {ds : List Da} {i : Int} {d : Da} (h : Rps K F vs ds) (e : atI ds i = some d) : ∃ v, atI vs i = some v ∧ Rp K F v d := by
  unfold atI at e ⊢
  rw [h.len]
  cases q : ixN ds.length i with
  | none => rw [q] at e; cases e
  | some j =>
    rw [q] at e
    exact h.get e
section
variable {X : Cx} {a b : Expr} {ta tb : DE} {pos : Pos}
theorem e_ix (ha : PE X a (up X.K ta)) (hb : PE X b (up X.K tb)) (hs : PlainIx b := by exact fun _ _ => rfl) : PE X (.Subscript a b pos) (up X.K (dIx ta tb)) := pe_to (pe_ix ix_seq ha hb hs) fun σ H Q q => by
  obtain ⟨c, g, tv, tr, F, ad, post, s, t, k⟩ := q
  refine ⟨c, g, tv, tr, F, ad, _, s, t, fun x g1 v1 H1 F1 a1 t1 s1 => ?_⟩
  refine ⟨c, g1, _, _, F1, a1, _, s1, t1, fun y g2 v2 H2 F2 a2 t2 s2 => ?_⟩
  have hx := s2.pop1.top
  have hy := s2.top
  have s3 := s2.pop1.pop1
  split at t2
  · rename_i ds i
    split at t2
    · rename_i z e
      have hy' : Rp X.K F2 v2 (.int i) := hy
      have hx' : Rp X.K F2 v1 (.tuple ds) := hx
      cases hy'
      cases hx' with
      | tup sq m =>
        obtain ⟨w, e1, e2⟩ := atI_get m e
        exact .inr (.inl ⟨_, _, i, w, rfl, rfl, ex_t s2.eh sq, e1, k _ g2 w H2 F2 a2 t2 (s3.push (r := .val z) e2)⟩)
    · exact t2.elim
  · rename_i ds i
    split at t2
    · rename_i z e
      have hy' : Rp X.K F2 v2 (.int i) := hy
      have hx' : Rp X.K F2 v1 (.list ds) := hx
      cases hy'
      cases hx' with
      | lst sq m =>
        obtain ⟨w, e1, e2⟩ := atI_get m e
        exact .inl ⟨_, _, i, w, rfl, rfl, .inl (.inl (s2.eh _ _ sq)), e1, k _ g2 w H2 F2 a2 t2 (s3.push (r := .val z) e2)⟩
    · exact t2.elim
  · rename_i ns i
    split at t2
    · rename_i z e
      have hy' : Rp X.K F2 v2 (.int i) := hy
      cases hy'
      obtain ⟨p, rfl, sq⟩ := hx
      have e' : atI (ns.map V.int) i = some (.int z) := by
        unfold atI at e ⊢
        rw [List.length_map]
        cases q : ixN ns.length i with
        | none => rw [q] at e; cases e
        | some j =>
          rw [q] at e
          show (ns.map V.int)[j]? = _
          rw [List.getElem?_map, show ns[j]? = some z from e]
          rfl
      exact .inl ⟨p, _, i, _, rfl, rfl, ex_l s2.eh sq, e', k _ g2 _ H2 F2 a2 t2 (s3.push (r := .val (.int z)) (Rp.int z))⟩
    · exact t2.elim
  · exact t2.elim
end
end Z
namespace Z
open L2 PySem PySem.Spec PyProof.Rows
open Evl (Ex ex_l ex_t ex_rd fresh_back)
structure Fn (P : Program) (w : World) (K : Fg) (mg : Str → Option Value) (base : Heap) (CX : CXT) (k : Nat) (f : Addr) (fd : FuncData) (ps : List Str) (sp : Sp) : Prop where
  len : ∀ vs H Q E, sp vs H Q E → vs.length = ps.length
  run : ∀ (A : Around) (outer : List Env) (s : Shared) (H : Hp) (args : Args) (us : List Value) (vs : List V) (Q : VK) (E : XK), Room k A → A.guards = some [] →
    Env0 P w K mg base A outer s H → BindsTo s fd args (ps.zip us) → Vals vs us → sp vs H Q E → codeAny (model P w) A (.call (.ref f) args) (CR CX outer P w H s Q E) s
theorem Fn.mono {P : Program} {w : World} {K : Fg} {mg : Str → Option Value} {base : Heap} {CX : CXT} {j k : Nat} {f : Addr} {fd : FuncData} {ps : List Str} {sp : Sp} (F : Fn P w K mg base CX j f fd ps sp) (h : j ≤ k) : Fn P w K mg base CX k f fd ps sp :=
  ⟨F.len, fun A outer s H args us vs Q E hr hg => F.run A outer s H args us vs Q E (hr.mono h) hg⟩
section
variable {P : Program} {w : World} {K : Fg} {mg : Str → Option Value} {base : Heap} {CX : CXT}
theorem fn_by {x qual : Str} {st : Stmt} {f : Addr} {fd : FuncData} {N ps : List Str} {k : Nat} {sp : Sp} (Fu : Fun K x qual st f fd) (S : FnScope N ps (defScope st)) (len : ∀ vs H Q E, sp vs H Q E → vs.length = ps.length)
    (hbody : ∀ (cdv : Value) (A : Around) (outer : List Env) (s : Shared) (H : Hp) (vs : List V) (Q : VK) (E : XK), Room k (A.deeper (envOfC qual (defScope st) s.heap.objs.size f cdv)) →
      (A.deeper (envOfC qual (defScope st) s.heap.objs.size f cdv)).guards = some [] → sp vs H Q E →
      ∃ t, PSs (cxOf CX P w K mg base N qual (defScope st) f cdv A outer s H E) (defBody st) t ∧ t { nx := fun _ H' => Q .non H', rt := Q } (start N vs) H) : Fn P w K mg base CX (k + 1) f fd ps sp := by
  obtain ⟨oc, od, kV, doc, pm, an, cdv, ct, osl, rfl, lk, hcd⟩ := Fu.ex
  refine ⟨len, fun A outer s H args us vs Q E hr hg e0 hb r hsp => ?_⟩
  have KX : K.In s.heap := e0.mod.kin.keeps fun b o e => (e0.bs b o e).1
  have kinds : ∀ y ∈ ps.zip us, (defScope st).names.lookup y.1 = some .local ∨ ((defScope st).names.lookup y.1 = some .cell ∧ ((cellsFrom (s.heap.objs.size + 1) (defScope st).names []).lookup y.1).isSome = true) := by
    rintro ⟨n, v⟩ hy
    exact (S.par n (List.of_mem_zip hy).1).imp id fun q => ⟨q, PySem.W.cellsFrom_some _ _ _ (.inl q)⟩
  refine codeAny_call_function hr.depth (KX _ _ lk) rfl S.co S.gen rfl (PySem.W.codeRec_of KX hcd) (hb _ _ _ _ (wpAny_newFunctionEnv_cells S.kind kinds fun env he s1 x => ?_))
  subst he
  refine ⟨(e0.mod.nolimit.keeps fun b o e => (e0.bs b o e).1).keeps x.toInCall.keep, codeAny_func ?_⟩
  obtain ⟨t, ht, hq⟩ := hbody cdv A outer s H vs Q E (hr.deeper _) hg hsp
  refine wpAny_mono (ht.run [] s1 (start N vs) H _ (inv_start S hr.hd e0 (len _ _ _ _ hsp) r x) hq) (fun fl s' hs => ?_) fun e s' hs => hs
  match fl, hs with
  | .ret u, ⟨v, σ', H', J, rv, q⟩ => exact ⟨v, H', J.os, J.bare, J.base, J.hok, rv, q⟩
  | .next, ⟨σ', H', J, q⟩ => exact ⟨.non, H', J.os, J.bare, J.base, J.hok, rfl, q⟩
  | .brk, ⟨_, _, _, q⟩ => exact q.elim
  | .cont, ⟨_, _, _, q⟩ => exact q.elim
end
section
variable {X : Cx} {CX : CXT} {k : Nat} {f : Addr} {fd : FuncData} {ps : List Str} {sp : Sp} {dvs : List V} {ds : List Value} {E : XK} {x : Str} {p pos : Pos} {e : Expr} {es : List Expr} {t : TA}
theorem fn_run {pins : List (Addr × Obj)} {σ : L2.St} {H : Hp} {s : Shared} {Q : VK} {args : Args} {us : List Value} {vs : List V} (F : Fn X.prog X.w X.K X.mg X.base CX k f fd ps sp) (hr : Room k X.A) (hg : X.A.guards = some []) (hx : Passes CX X E)
    (I : Inv X pins σ H s) (hb : BindsTo s fd args (ps.zip us)) (r : Vals vs us) (h : sp vs H Q E) : codeAny (model X.prog X.w) X.A (.call (.ref f) args) (fun r s' => match r with
      | .ok (.ret u) => EP X pins σ Q u s'
      | .ok _ => False
      | .error e => X.xe e s') s := by
  refine codeAny_mono (F.run X.A X.stack s H args us vs Q E hr hg I.env0 hb r h) fun r s' hq => ?_
  match r, hq with
  | .error e, hq => exact hx pins σ H s e s' I hq
  | .ok (.ret u), hq => exact I.after hq
  | .ok .next, hq => exact False.elim hq
  | .ok .brk, hq => exact False.elim hq
  | .ok .cont, hq => exact False.elim hq
theorem call_fin {pins : List (Addr × Obj)} {σ : L2.St} {H : Hp} {s : Shared} {Q : VK} {us : List Value} {vs : List V} (F : Fn X.prog X.w X.K X.mg X.base CX k f fd ps sp) (hr : Room k X.A) (hg : X.A.guards = some []) (hx : Passes CX X E)
    (I : Inv X pins σ H s) (hb : Binds X.K fd ps []) (r : Vals vs us) (h : sp vs H Q E) : wpAny (model X.prog X.w) X.A (call (.ref f) us) (EP X pins σ Q) X.xe s := by
  have hl : us.length = ps.length := by rw [← r.length]; exact F.len _ _ _ _ h
  have hb' := hb s us I.kIn (by rw [List.append_nil]; exact hl)
  rw [List.append_nil] at hb'
  refine wpAny_call (codeAny_mono (fn_run F hr hg hx I hb' r h) fun r s' hq => ?_)
  match r, hq with
  | .error e, hq => exact hq
  | .ok (.ret u), hq => exact hq
  | .ok .next, hq => exact hq.elim
  | .ok .brk, hq => exact hq.elim
  | .ok .cont, hq => exact hq.elim
theorem pe_fn (F : Fn X.prog X.w X.K X.mg X.base CX k f fd ps sp) (hr : Room k X.A) (hgd : X.A.guards = some []) (hg : Gl X x) (hm : X.mg x = some (.ref f)) (hk : PySem.W.keepIn X.K (.ref f) = true) (hb : Binds X.K fd ps []) (hx : Passes CX X E)
    (ha : PA X (e :: es) t) (hdb : (x == ("__debug__" : Str)) = false := by decide) (he : starEach (e :: es) X.env = (false, eval e X.env) :: starEach es X.env := by rfl) (hpl : (backTo pos (starEach es X.env)).any (·.1) = false := by rfl) :
    PE X (.Call (.Name x p) (e :: es) [] pos) (fun σ H Q => t σ H fun vs H1 => sp vs H1 Q E) :=
  ⟨fun pins s σ H Q I h => wpAny_Call_Name_kw (ld_glob I hg hm (PySem.W.callWith_K (h₀ := X.base) I.ok.mod.kin hk (thn (ha.run pos pins s σ H _ I h) fun us s1 ⟨vs, H1, I1, r, q⟩ => ⟨I1.kIn, call_fin F hr hgd hx I1 hb r q⟩) he hpl) hdb)⟩
end
abbrev FSp := List Rv → Option Nat → (Rr → Option Nat → Prop) → Prop
def RrOk (K : Fg) (F' H H' : Hp) (v : V) : Rr → Prop
  | .val d => Rp K F' v d
  | .own ds => ∃ o xs, v = .ref o ∧ H o = none ∧ F' o = none ∧ H' o = some (.lst xs) ∧ Rps K F' xs ds
  | .exc _ _ => False
/-- how a call lies behind: still part, heap, source -/
structure Out (K : Fg) (F H : Hp) (a : Addr) (fu : Option Nat) (fu' : Option Nat) (F' H' : Hp) (v : V) (r : Rr) : Prop where
  f : Ex F F'
  s : Ex F' H'
  keep : ∀ b o, (fu ≠ none → b ≠ a) → NT o → H b = some o → H' b = some o
  new : ∀ b, F' b ≠ none → F b ≠ none ∨ H b = none
  src : fu ≠ none → ∃ n, fu' = some n ∧ F' a = none ∧ SrcAt H' a n
  rep : RrOk K F' H H' v r
  tab : TbS H H'
  tk : TabK K F' H'
def lift (K : Fg) (np : Nat) (fs : FSp) : Sp := fun vs H Q _ => ∃ F a rs fu post, Ex F H ∧ Tm K F a fu vs rs ∧ vs.length = np ∧ (∀ n, fu = some n → F a = none ∧ SrcAt H a n) ∧ TabK K F H ∧ fs rs fu post ∧
  ∀ r fu' v H' F', post r fu' → Out K F H a fu fu' F' H' v r → Q v H'
theorem lift_len {K : Fg} {np : Nat} {fs : FSp} (vs : List V) (H : Hp) (Q : VK) (E : XK) (h : lift K np fs vs H Q E) : vs.length = np := by
  obtain ⟨_, _, _, _, _, _, _, h, _⟩ := h
  exact h
def rrv : Rr → Rv
  | .val d => .val d
  | .own ds => .val (.list ds)
  | .exc _ _ => .val .none
def dCall (np : Nat) (fs : FSp) (ta : DA) : DE := fun g Q => ta g fun rs g1 => rs.length = np ∧ match hasSrc rs with
  | true => fs rs g1.fu fun r fu' => Q (rrv r) { g1 with fu := fu' }
  | false => fs rs none fun r _ => Q (rrv r) g1
def dCallL (np : Nat) (fs : FSp) (ta : DA) : DL := fun g Q => ta g fun rs g1 => rs.length = np ∧ match hasSrc rs with
  | true => fs rs g1.fu fun r fu' => match r with | .own ds => Q ds { g1 with fu := fu' } | _ => False
  | false => fs rs none fun r _ => match r with | .own ds => Q ds g1 | _ => False
section
variable {K : Fg} {c : Con} {g : Gs} {σ : L2.St} {H F H' F' : Hp} {tv : List V} {tr : List Rv} {a : Addr}
theorem Tm.noSrc : ∀ {vs : List V} {rs : List Rv} {fu : Option Nat}, hasSrc rs = false → Tm K F a fu vs rs → Tm K F a none vs rs
  | _, _, _, _, .nil => .nil
  | _, .val d :: rs, _, h, .cons r t => .cons (show Rp K F _ d from r) (t.noSrc h)
  | _, .scr d :: rs, _, h, .cons r t => .cons r (t.noSrc h)
  | _, .ob d :: rs, _, h, .cons r t => .cons r (t.noSrc h)
  | _, .src :: rs, _, h, .cons r t => by cases h
theorem Tm.fu_ne : ∀ {vs : List V} {rs : List Rv} {fu : Option Nat}, hasSrc rs = true → Tm K F a fu vs rs → fu ≠ none
  | _, _, _, h, .nil => by cases h
  | _, .val d :: rs, _, h, .cons r t => Tm.fu_ne (rs := rs) h t
  | _, .scr d :: rs, _, h, .cons r t => Tm.fu_ne (rs := rs) h t
  | _, .ob d :: rs, _, h, .cons r t => Tm.fu_ne (rs := rs) h t
  | _, .src :: rs, _, h, .cons r t => r.2
theorem Tm.refu {fu fu' : Option Nat} (hf : fu' ≠ none) : ∀ {vs : List V} {rs : List Rv}, Tm K F a fu vs rs → Tm K F a fu' vs rs
  | _, _, .nil => .nil
  | _, .val d :: rs, .cons r t => .cons (show Rp K F _ d from r) (t.refu hf)
  | _, .scr d :: rs, .cons r t => .cons r (t.refu hf)
  | _, .ob d :: rs, .cons r t => .cons r (t.refu hf)
  | _, .src :: rs, .cons r t => .cons ⟨r.1, hf⟩ (t.refu hf)
/-- behind a call that had the source -/
theorem Sta.after1 (s : Sta K c g σ H tv tr F a) {v : V} {r : Rr} {fu' : Option Nat} (hf : g.fu ≠ none) (o : Out K F H a g.fu fu' F' H' v r) : Sta K c { g with fu := fu' } σ H' tv tr F' a := by
  obtain ⟨n', e', na, sa⟩ := o.src hf
  have ne' : fu' ≠ none := ne_none e'
  have oldF : ∀ b, H b ≠ none → F b = none → F' b = none := fun b h1 h2 => by
    cases q : F' b with
    | none => rfl
    | some u =>
      rcases o.new b (ne_none q) with z | z
      · exact absurd h2 z
      · exact absurd z h1
  obtain ⟨n0, e0⟩ : ∃ n, g.fu = some n := by cases q : g.fu with
    | none => exact absurd q hf
    | some n => exact ⟨n, rfl⟩
  obtain ⟨_, sx, _⟩ := s.src n0 e0
  refine ⟨s.e0.trans o.f, o.s, fun b u h1 hn h2 => ?_, fun b q => ?_, fun b h => ⟨(s.ex b h).1, ne'⟩, s.ow, fun n h => ?_, (s.tmp.up o.f).refu ne', s.len, fun i sv h => ?_, s.dis, o.tk, s.tab.trans o.tab⟩
  · refine o.keep b u (fun _ z => ?_) hn (s.keep b u h1 hn h2)
    subst z
    rcases sx with z | ⟨_, z⟩
    · exact h1 z
    · rw [h2] at z; cases z
  · rcases o.new b q with z | z
    · exact s.new b z
    · exact .inr (s.fresh z)
  · have h' : fu' = some n := h
    rw [e'] at h'; cases h'
    exact ⟨na, sx, sa⟩
  · obtain ⟨v, w1, w2⟩ := s.slot i sv h
    refine ⟨v, w1, ?_⟩
    cases sv with
    | val d => exact Rp.up w2 o.f
    | src => exact ⟨w2.1, ne'⟩
    | scr ns => obtain ⟨b, z1, z2⟩ := w2; exact ⟨b, z1, ex_l o.f z2⟩
    | ob k => exact ObOk.up o.f w2
    | own ds =>
      obtain ⟨p, xs, q1, q2, q3, q4, q5, q6⟩ := w2
      exact ⟨p, xs, q1, oldF p (ne_none q4) q2, q3, o.keep p _ (fun _ => q6 hf) (fun _ z => by cases z) q4, q5.up o.f, fun _ => q6 hf⟩
/-- behind a call that had it not -/
theorem Sta.after0 (s : Sta K c g σ H tv tr F a) {v : V} {r : Rr} {fu' : Option Nat} {b : Addr} (o : Out K F H b none fu' F' H' v r) : Sta K c g σ H' tv tr F' a :=
  s.growN o.f (fun x u hn h => o.keep x u (fun z => absurd rfl z) hn h) o.s o.new o.tab o.tk
theorem NewL.of (s : Sta K c g σ H tv tr F a) {g' : Gs} (hs : g'.sl = g.sl) (hfu : g'.fu ≠ none → g.fu ≠ none) {v : V} {ds : List Da} (h : RrOk K F' H H' v (.own ds)) : NewL K c g' σ H' F' a v ds := by
  obtain ⟨o, xs, rfl, q1, q2, q3, q4⟩ := h
  refine ⟨o, xs, rfl, q2, s.fresh q1, q3, q4, fun hf z => ?_, fun i es hi z => ?_⟩
  · cases q : g.fu with
    | none => exact hfu hf q
    | some n =>
      obtain ⟨_, _, x, y, w, e, _⟩ := s.src n q
      rw [← z, q1] at e; cases e
  · rw [hs] at hi
    obtain ⟨v, w1, o', ys, r1, r2, r3, r4, _⟩ := s.slot i _ hi
    rw [z] at w1
    cases w1
    cases r1
    rw [q1] at r4; cases r4
end
section
variable {X : Cx} {k : Nat} {f : Addr} {fd : FuncData} {ps : List Str} {fs : FSp} {x : Str} {p pos : Pos} {e : Expr} {es : List Expr} {tr : DA} {np : Nat} {E : XK} {CX : CXT}
theorem lift_core : ∀ σ H Q, up X.K (dCall np fs tr) σ H Q → upA X.K tr σ H fun vs H1 => lift X.K np fs vs H1 Q E := fun σ H Q q => by
  obtain ⟨c, g, tv, tr, F, ad, post, s, t, k⟩ := q
  refine ⟨c, g, tv, tr, F, ad, _, s, t, fun rs g1 vs H1 F1 a1 t1 s1 hl => ?_⟩
  obtain ⟨hn, t1⟩ := t1
  rw [← hl] at hn
  obtain ⟨m1, m2⟩ := s1.tmp.args hl
  have s2 := s1.pop m2
  cases q : hasSrc rs with
  | true =>
    rw [q] at t1
    have hf := m1.fu_ne q
    refine ⟨F1, a1, rs, g1.fu, _, s1.eh, m1, hn, fun n h => ⟨(s1.src n h).1, (s1.src n h).2.2⟩, s1.tabk, t1, fun r fu' v H' F' hp o => ?_⟩
    have s3 := s2.after1 hf o
    cases r with
    | exc _ _ => exact o.rep.elim
    | val d => exact k _ _ v H' F' a1 hp (s3.push (r := .val d) o.rep)
    | own ds =>
      obtain ⟨F'', s4⟩ := s3.still (NewL.of (g' := { g1 with fu := fu' }) s2 rfl (fun _ => hf) o.rep)
      exact k _ _ v H' F'' a1 hp s4
  | false =>
    rw [q] at t1
    refine ⟨F1, a1, rs, none, _, s1.eh, m1.noSrc q, hn, fun n h => by (cases h), s1.tabk, t1, fun r fu' v H' F' hp o => ?_⟩
    have s3 := s2.after0 o
    cases r with
    | exc _ _ => exact o.rep.elim
    | val d => exact k _ _ v H' F' a1 hp (s3.push (r := .val d) o.rep)
    | own ds =>
      obtain ⟨F'', s4⟩ := s3.still (NewL.of s2 rfl id o.rep)
      exact k _ _ v H' F'' a1 hp s4
theorem liftL_core : ∀ σ H Q, upL X.K (dCallL np fs tr) σ H Q → upA X.K tr σ H fun vs H1 => lift X.K np fs vs H1 Q E := fun σ H Q q => by
  obtain ⟨c, g, tv, tr, F, ad, post, s, t, k⟩ := q
  refine ⟨c, g, tv, tr, F, ad, _, s, t, fun rs g1 vs H1 F1 a1 t1 s1 hl => ?_⟩
  obtain ⟨hn, t1⟩ := t1
  rw [← hl] at hn
  obtain ⟨m1, m2⟩ := s1.tmp.args hl
  have s2 := s1.pop m2
  cases q : hasSrc rs with
  | true =>
    rw [q] at t1
    have hf := m1.fu_ne q
    refine ⟨F1, a1, rs, g1.fu, _, s1.eh, m1, hn, fun n h => ⟨(s1.src n h).1, (s1.src n h).2.2⟩, s1.tabk, t1, fun r fu' v H' F' hp o => ?_⟩
    have s3 := s2.after1 hf o
    cases r with
    | exc _ _ => exact hp.elim
    | val d => exact hp.elim
    | own ds => exact k _ _ v H' F' a1 hp s3 (NewL.of (g' := { g1 with fu := fu' }) s2 rfl (fun _ => hf) o.rep)
  | false =>
    rw [q] at t1
    refine ⟨F1, a1, rs, none, _, s1.eh, m1.noSrc q, hn, fun n h => by (cases h), s1.tabk, t1, fun r fu' v H' F' hp o => ?_⟩
    have s3 := s2.after0 o
    cases r with
    | exc _ _ => exact hp.elim
    | val d => exact hp.elim
    | own ds => exact k _ _ v H' F' a1 hp s3 (NewL.of s2 rfl id o.rep)
theorem e_call (G : Fn X.prog X.w X.K X.mg X.base CX k f fd ps (lift X.K np fs)) (hr : Room k X.A) (hgd : X.A.guards = some []) (hg : Gl X x) (hm : X.mg x = some (.ref f)) (hk : PySem.W.keepIn X.K (.ref f) = true) (hb : Binds X.K fd ps []) (hx : Passes CX X E)
    (ha : PA X (e :: es) (upA X.K tr)) (hdb : (x == ("__debug__" : Str)) = false := by decide) (he : starEach (e :: es) X.env = (false, eval e X.env) :: starEach es X.env := by rfl) (hpl : (backTo pos (starEach es X.env)).any (·.1) = false := by rfl) :
    PE X (.Call (.Name x p) (e :: es) [] pos) (up X.K (dCall np fs tr)) := pe_to (pe_fn G hr hgd hg hm hk hb hx ha hdb he hpl) lift_core
theorem e_callL (G : Fn X.prog X.w X.K X.mg X.base CX k f fd ps (lift X.K np fs)) (hr : Room k X.A) (hgd : X.A.guards = some []) (hg : Gl X x) (hm : X.mg x = some (.ref f)) (hk : PySem.W.keepIn X.K (.ref f) = true) (hb : Binds X.K fd ps []) (hx : Passes CX X E)
    (ha : PA X (e :: es) (upA X.K tr)) (hdb : (x == ("__debug__" : Str)) = false := by decide) (he : starEach (e :: es) X.env = (false, eval e X.env) :: starEach es X.env := by rfl) (hpl : (backTo pos (starEach es X.env)).any (·.1) = false := by rfl) :
    PE X (.Call (.Name x p) (e :: es) [] pos) (upL X.K (dCallL np fs tr)) := pe_to (pe_fn G hr hgd hg hm hk hb hx ha hdb he hpl) liftL_core
end
end Z
namespace Z
open L2 PySem PySem.Spec PyProof.Rows
open Evl (Ex ex_l ex_t ex_rd fresh_back)
variable {Wx : WX}
def rsv : Rv → Sv
  | .val d => .val d
  | .src => .src
  | .scr ns => .scr ns
  | .ob k => .ob k
section
variable {K : Fg} {c : Con} {g : Gs} {σ : L2.St} {H F : Hp} {tv : List V} {tr : List Rv} {a : Addr}
theorem set_some {α : Type} {l : List α} {i j : Nat} {x y : α} (h : (l.set i x)[j]? = some y) : (j = i ∧ j < l.length ∧ y = x) ∨ (j ≠ i ∧ l[j]? = some y) := by
  by_cases e : j = i
  · subst e
    have hl : j < (l.set j x).length := (List.getElem?_eq_some_iff.mp h).1
    rw [List.length_set] at hl
    rw [List.getElem?_set_self hl] at h
    cases h
    exact .inl ⟨rfl, hl, rfl⟩
  · rw [List.getElem?_set_ne (Ne.symm e)] at h
    exact .inr ⟨e, h⟩
theorem Sta.set {v : V} {r : Rv} (s : Sta K c g σ H (v :: tv) (r :: tr) F a) (i : Nat) : Sta K c (g.set i (rsv r)) (σ.set i (some v)) H tv tr F a := by
  have hr := s.top
  have s0 := s.pop1
  refine ⟨s0.e0, s0.eh, s0.keep, s0.new, s0.ex, s0.ow, s0.src, s0.tmp, ?_, fun j sv hj => ?_, fun j k ds es hjk hj hk => ?_, s0.t0, s0.tab⟩
  · show (σ.set i _).length = (g.sl.set i _).length
    rw [List.length_set, List.length_set]; exact s0.len
  · rcases set_some (show (g.sl.set i (some (rsv r)))[j]? = some (some sv) from hj) with ⟨rfl, hl, e⟩ | ⟨ne, e⟩
    · cases e
      refine ⟨v, List.getElem?_set_self (by rw [s0.len]; exact hl), ?_⟩
      cases r with
      | val d => exact hr
      | src => exact hr
      | scr ns => exact hr
      | ob k => exact hr
    · obtain ⟨w, h1, h2⟩ := s0.slot j sv e
      exact ⟨w, by rw [List.getElem?_set_ne (Ne.symm ne)]; exact h1, h2⟩
  · have no : ∀ k fs, (g.sl.set i (some (rsv r)))[k]? = some (some (Sv.own fs)) → k ≠ i ∧ g.sl[k]? = some (some (Sv.own fs)) := fun k fs h => by
      rcases set_some h with ⟨_, _, e⟩ | z
      · cases r <;> cases e
      · exact z
    obtain ⟨n1, e1⟩ := no j ds hj
    obtain ⟨n2, e2⟩ := no k es hk
    rw [List.getElem?_set_ne (Ne.symm n1), List.getElem?_set_ne (Ne.symm n2)]
    exact s0.dis j k ds es hjk e1 e2
theorem Sta.setOwn (s : Sta K c g σ H tv tr F a) {v : V} {ds : List Da} (h : NewL K c g σ H F a v ds) (i : Nat) : Sta K c (g.set i (.own ds)) (σ.set i (some v)) H tv tr F a := by
  obtain ⟨o, xs, rfl, q2, q3, q4, q5, q6, q7⟩ := h.ex
  refine ⟨s.e0, s.eh, s.keep, s.new, s.ex, s.ow, s.src, s.tmp, ?_, fun j sv hj => ?_, fun j k es fs hjk hj hk => ?_, s.t0, s.tab⟩
  · show (σ.set i _).length = (g.sl.set i _).length
    rw [List.length_set, List.length_set]; exact s.len
  · rcases set_some (show (g.sl.set i (some (Sv.own ds)))[j]? = some (some sv) from hj) with ⟨rfl, hl, e⟩ | ⟨ne, e⟩
    · cases e
      exact ⟨_, List.getElem?_set_self (by rw [s.len]; exact hl), o, xs, rfl, q2, q3, q4, q5, q6⟩
    · obtain ⟨w, h1, h2⟩ := s.slot j sv e
      exact ⟨w, by rw [List.getElem?_set_ne (Ne.symm ne)]; exact h1, h2⟩
  · rcases set_some (show (g.sl.set i (some (Sv.own ds)))[j]? = some (some (Sv.own es)) from hj) with ⟨rfl, hl, e⟩ | ⟨nj, ej⟩
    · rcases set_some (show (g.sl.set j (some (Sv.own ds)))[k]? = some (some (Sv.own fs)) from hk) with ⟨rfl, _, _⟩ | ⟨nk, ek⟩
      · exact absurd rfl hjk
      · rw [List.getElem?_set_self (by rw [s.len]; exact hl), List.getElem?_set_ne (Ne.symm nk)]
        exact fun z => q7 k fs ek z.symm
    · rcases set_some (show (g.sl.set i (some (Sv.own ds)))[k]? = some (some (Sv.own fs)) from hk) with ⟨rfl, hl, _⟩ | ⟨nk, ek⟩
      · rw [List.getElem?_set_self (by rw [s.len]; exact hl), List.getElem?_set_ne (Ne.symm nj)]
        exact q7 j es ej
      · rw [List.getElem?_set_ne (Ne.symm nj), List.getElem?_set_ne (Ne.symm nk)]
        exact s.dis j k es fs hjk ej ek
/-- an own list changes -/
theorem Sta.mut (s : Sta K c g σ H tv tr F a) {i : Nat} {o : Addr} {ds es : List Da} {ys : List V} (h : g.sl[i]? = some (some (.own ds))) (ho : σ[i]? = some (some (.ref o))) (hy : Rps K F ys es) :
    Sta K c (g.set i (.own es)) σ (upd H o (.lst ys)) tv tr F a := by
  obtain ⟨v, h1, o', xs, rfl, q2, q3, q4, q5, q6⟩ := s.slot i _ h
  rw [ho] at h1
  cases h1
  have hi : i < g.sl.length := (List.getElem?_eq_some_iff.mp h).1
  refine ⟨s.e0, fun b u q => ?_, fun b u z1 hn z2 => ?_, s.new, s.ex, s.ow, fun n hn => ?_, s.tmp, ?_, fun j sv hj => ?_, fun j k e1 e2 hjk hj hk => ?_, s.t0.but q4 (fun _ z => by cases z) fun b u ne h => by rw [upd_ne ne]; exact h, s.tab.trans (.but q4 (fun _ z => by cases z) fun b u ne h => by rw [upd_ne ne]; exact h)⟩
  · have nb : b ≠ o := fun z => by rw [z, q2] at q; cases q
    rw [upd_ne nb]; exact s.eh b u q
  · have nb : b ≠ o := fun z => by rw [z, q3] at z2; cases z2
    rw [upd_ne nb]; exact s.keep b u z1 hn z2
  · obtain ⟨z1, z2, x, y, z, e, z3⟩ := s.src n hn
    exact ⟨z1, z2, x, y, z, by rw [upd_ne (fun w => q6 (ne_none hn) w.symm)]; exact e, z3⟩
  · show σ.length = (g.sl.set i _).length
    rw [List.length_set]; exact s.len
  · rcases set_some (show (g.sl.set i (some (Sv.own es)))[j]? = some (some sv) from hj) with ⟨rfl, hl, e⟩ | ⟨ne, e⟩
    · cases e
      exact ⟨_, ho, o, ys, rfl, q2, q3, upd_same, hy, q6⟩
    · obtain ⟨w, h1, h2⟩ := s.slot j sv e
      refine ⟨w, h1, ?_⟩
      cases sv with
      | val d => exact h2
      | src => exact h2
      | scr ns => exact h2
      | ob k => exact h2
      | own fs =>
        obtain ⟨p, zs, r1, r2, r3, r4, r5, r6⟩ := h2
        have np : p ≠ o := fun z => s.dis j i fs ds ne e h (by rw [h1, ho, r1, z])
        exact ⟨p, zs, r1, r2, r3, by rw [upd_ne np]; exact r4, r5, r6⟩
  · have back : ∀ k e, (g.sl.set i (some (Sv.own es)))[k]? = some (some (Sv.own e)) → ∃ e', g.sl[k]? = some (some (Sv.own e')) := fun k e hk => by
      rcases set_some hk with ⟨rfl, _, _⟩ | ⟨_, z⟩
      · exact ⟨_, h⟩
      · exact ⟨_, z⟩
    obtain ⟨f1, w1⟩ := back j e1 hj
    obtain ⟨f2, w2⟩ := back k e2 hk
    exact s.dis j k f1 f2 hjk w1 w2
end
abbrev DG := Rv → Gs → (Gs → Prop) → Prop
abbrev DGs := List Da → Gs → (Gs → Prop) → Prop
def upG (K : Fg) (t : DG) : TG := fun v σ H Q => ∃ c g tv tr F a r post, Sta K c g σ H (v :: tv) (r :: tr) F a ∧ t r g post ∧ ∀ g' σ' H' F' a', post g' → Sta K c g' σ' H' tv tr F' a' → Q σ' H'
def upGs (K : Fg) (t : DGs) : TGs := fun vs σ H Q => ∃ c g tv tr F a ds post, Sta K c g σ H (vs ++ tv) (ds.map Rv.val ++ tr) F a ∧ vs.length = ds.length ∧ t ds g post ∧ ∀ g' σ' H' F' a', post g' → Sta K c g' σ' H' tv tr F' a' → Q σ' H'
def dN (i : Nat) : DG := fun r g Q => Q (g.set i (rsv r))
def dT (n : Nat) (t : DGs) : DG := fun r g Q => match r with
  | .val (.tuple ds) => ds.length = n ∧ t ds g Q
  | _ => False
def dTn : DGs := fun ds g Q => match ds with
  | [] => Q g
  | _ => False
def dTc (t : DG) (u : DGs) : DGs := fun ds g Q => match ds with
  | d :: r => t (.val d) g fun g1 => u r g1 Q
  | [] => False
section
variable {X : Cx} {pos : Pos} {e : Expr} {es : List Expr}
theorem pg_to {t t' : TG} (h : PG X e t) (i : ∀ v σ H Q, t' v σ H Q → t v σ H Q) : PG X e t' := ⟨fun pins s v u σ H Q I r q => h.run pins s v u σ H Q I r (i _ _ _ _ q)⟩
theorem pgs_to {t t' : TGs} (h : PGs X es t) (i : ∀ v σ H Q, t' v σ H Q → t v σ H Q) : PGs X es t' := ⟨fun pins s v u σ H Q I r q => h.run pins s v u σ H Q I r (i _ _ _ _ q)⟩
theorem Tm.ofRps {K : Fg} {F : Hp} {a : Addr} {fu : Option Nat} : ∀ {vs : List V} {ds : List Da}, Rps K F vs ds → Tm K F a fu vs (ds.map Rv.val)
  | _, _, .nil => .nil
  | _, _, .cons h t => .cons h (Tm.ofRps t)
theorem g_name {i : Nat} (h : PG X e (gName i)) : PG X e (upG X.K (dN i)) := pg_to h fun v σ H Q q => by
  obtain ⟨c, g, tv, tr, F, a, r, post, s, t, k⟩ := q
  exact k _ _ H F a t (s.set i)
theorem gs_nil : PGs X [] (upGs X.K dTn) := pgs_to pgs_nil fun vs σ H Q q => by
  obtain ⟨c, g, tv, tr, F, a, ds, post, s, hl, t, k⟩ := q
  cases ds with
  | nil =>
    have : vs = [] := List.length_eq_zero_iff.mp hl
    subst this
    exact ⟨rfl, k _ _ H F a t s⟩
  | cons d r => exact t.elim
theorem gs_cons {t : DG} {u : DGs} (h : PG X e (upG X.K t)) (hr : PGs X es (upGs X.K u)) (hs : (assignEach (e :: es) X.env).map (·.2) = assign e X.env :: (assignEach es X.env).map (·.2) := by rfl) : PGs X (e :: es) (upGs X.K (dTc t u)) := pgs_to (pgs_cons h hr hs) fun vs σ H Q q => by
  obtain ⟨c, g, tv, tr, F, a, ds, post, s, hl, t, k⟩ := q
  cases ds with
  | nil => exact t.elim
  | cons d r =>
    cases vs with
    | nil => simp at hl
    | cons v vs =>
      refine ⟨v, vs, rfl, c, g, _, _, F, a, _, _, s, t, fun g1 σ1 H1 F1 a1 t1 s1 => ?_⟩
      exact ⟨c, g1, tv, tr, F1, a1, r, _, s1, by simpa using hl, t1, k⟩
theorem g_tup {n k : Nat} {t : DGs} (hc : X.calm = true) (h : PGs X es (upGs X.K t)) (hn : (assignEach es X.env).length = n := by rfl) (hf : List.findIdx? (fun x => x.1) (assignEach es X.env) = none := by rfl) : PG X (.Tuple es k pos) (upG X.K (dT n t)) :=
  pg_to (pg_tup hc h hn hf) fun v σ H Q q => by
  obtain ⟨c, g, tv, tr, F, a, r, post, s, t, k⟩ := q
  cases r with
  | val d =>
    cases d with
    | tuple ds =>
      have hr : Rp X.K F v (.tuple ds) := s.top
      cases hr with
      | tup sq m =>
        refine ⟨_, _, rfl, ex_t s.eh sq, by rw [m.len]; exact t.1, c, g, tv, tr, F, a, ds, post, s.pop ((Tm.ofRps m).app s.pop1.tmp), m.len, t.2, k⟩
    | _ => exact t.elim
  | _ => exact t.elim
end
def dAsg (te : DE) (t : DG) : DS := fun d g => te g fun r g1 => t r g1 d.nx
def dSetL (i : Nat) (tl : DL) : DS := fun d g => tl g fun ds g1 => d.nx (g1.set i (.own ds))
def dSeq (t u : DS) : DS := fun d g => t { d with nx := u d } g
def dNext : DS := fun d g => d.nx g
def dIfS (c : DT) (t u : DS) : DS := fun d g => c g fun b g1 => (b = true → t d g1) ∧ (b = false → u d g1)
def dRet (te : DE) : DS := fun d g => te g fun r g1 => match r with
  | .val x => d.rt (.val x) g1
  | _ => False
def dRetL (tl : DL) : DS := fun d g => tl g fun ds g1 => d.rt (.own ds) g1
def dDrop (te : DE) : DS := fun d g => te g fun _ g1 => d.nx g1
def dNever : DS := fun _ _ => False
def dPar (i j : Nat) (ta tb : DE) : DS := fun d g => ta g fun r g1 => tb g1 fun s g2 => d.nx ((g2.set i (rsv r)).set j (rsv s))
def dApp (i : Nat) (te : DE) : DS := fun d g => (∃ ds, g.sl[i]? = some (some (.own ds))) ∧ te g fun r g1 => match r with
  | .val z => (match g1.sl[i]? with
    | some (some (.own ds)) => ds.length < 1000000 ∧ d.nx (g1.set i (.own (ds ++ [z])))
    | _ => False)
  | _ => False
def dExt (i : Nat) (te : DE) : DS := fun d g => (∃ ds, g.sl[i]? = some (some (.own ds))) ∧ te g fun r g1 => match r with
  | .val (.list zs) => (match g1.sl[i]? with
    | some (some (.own ds)) => ds.length + zs.length ≤ 1000000 ∧ d.nx (g1.set i (.own (ds ++ zs)))
    | _ => False)
  | _ => False
def dWhile (c : DT) (tb : DS) : DS := fun d g => ∃ W : Nat → Gs → Prop, (∃ m, W m g) ∧ ∀ m g, W m g → c g fun b g1 =>
  (b = true → tb { d with nx := fun g2 => ∃ m', m' < m ∧ W m' g2, ct := fun g2 => ∃ m', m' < m ∧ W m' g2, bk := d.nx } g1) ∧ (b = false → d.nx g1)
section
variable {X : Cx} {pos : Pos} {e tg : Expr} {te : DE} {tl : DL}
theorem s_asg {t : DG} (he : PE X e (up X.K te)) (hg : PG X tg (upG X.K t)) (h1 : swapsWithSole [tg] e pos.line X.env = pure false := by rfl) (h2 : swappedStores [tg] e X.env = pure none := by rfl) (h3 : (assignEach [tg] X.env).map (·.2) = [assign tg X.env] := by rfl) :
    PS X (.Assign [tg] e pos) (upS X.K Wx (dAsg te t)) := ps_to (ps_asg he hg h1 h2 h3) fun D σ H q => by
  obtain ⟨c, g, tv, tr, F, a, d, s, hn, t, k⟩ := q
  refine ⟨c, g, tv, tr, F, a, _, s, t, fun r g1 v H1 F1 a1 t1 s1 => ?_⟩
  exact ⟨c, g1, tv, tr, F1, a1, r, _, s1, t1, fun g2 σ2 H2 F2 a2 t2 s2 => k.nx g2 σ2 H2 F2 a2 t2 s2⟩
theorem s_set {i : Nat} {x : Str} {pos' : Pos} (hN : X.N.Nodup) (hi : X.N[i]? = some x) (hx : L2.Loc X.env.scope x) (he : PE X e (up X.K te)) (h1 : swapsWith e (some (.Name x pos')) pos.line X.env = pure false := by rfl)
    (hf : X.fn x = true ∨ X.env.scope.names.lookup x = some .local := by first | exact .inl rfl | exact .inr rfl) : PS X (.Assign [.Name x pos'] e pos) (upS X.K Wx (dAsg te (dN i))) := ps_to (ps_set hN hi hx he h1 hf) fun D σ H q => by
  obtain ⟨c, g, tv, tr, F, a, d, s, hn, t, k⟩ := q
  exact ⟨c, g, tv, tr, F, a, _, s, t, fun r g1 v H1 F1 a1 t1 s1 => k.nx _ _ H1 F1 a1 t1 (s1.set i)⟩
theorem s_setL {i : Nat} {x : Str} {pos' : Pos} (hN : X.N.Nodup) (hi : X.N[i]? = some x) (hx : L2.Loc X.env.scope x) (he : PE X e (upL X.K tl)) (h1 : swapsWith e (some (.Name x pos')) pos.line X.env = pure false := by rfl)
    (hf : X.fn x = true ∨ X.env.scope.names.lookup x = some .local := by first | exact .inl rfl | exact .inr rfl) : PS X (.Assign [.Name x pos'] e pos) (upS X.K Wx (dSetL i tl)) := ps_to (ps_set hN hi hx he h1 hf) fun D σ H q => by
  obtain ⟨c, g, tv, tr, F, a, d, s, hn, t, k⟩ := q
  exact ⟨c, g, tv, tr, F, a, _, s, t, fun ds g1 v H1 F1 a1 t1 s1 n1 => k.nx _ _ H1 F1 a1 t1 (s1.setOwn n1 i)⟩
variable {st : Stmt} {rest body : List Stmt} {t u : DS} {ct : DT}
theorem ss_nil : PSs X [] (upS X.K Wx dNext) := pss_to pss_nil fun D σ H q => by
  obtain ⟨c, g, tv, tr, F, a, d, s, hn, t, k⟩ := q
  exact k.nx g σ H F a t s
theorem DD.seq {K : Fg} {Wx : WX} {c : Con} {tv : List V} {tr : List Rv} {d : DEnds} {D : Ends} (k : DD K Wx c tv tr d D) {N : Gs → Prop} {M : L2.St → Hp → Prop} (h : ∀ g σ H F a, N g → Sta K c g σ H tv tr F a → M σ H) : DD K Wx c tv tr { d with nx := N } { D with nx := M } :=
  ⟨h, k.bk, k.ct, k.rv, k.ro, k.rx⟩
theorem ss_cons (h1 : PS X st (upS X.K Wx t)) (h2 : PSs X rest (upS X.K Wx u)) : PSs X (st :: rest) (upS X.K Wx (dSeq t u)) := pss_to (pss_cons h1 h2) fun D σ H q => by
  obtain ⟨c, g, tv, tr, F, a, d, s, hn, t, k⟩ := q
  exact ⟨c, g, tv, tr, F, a, _, s, hn, t, k.seq fun g1 σ1 H1 F1 a1 t1 s1 => ⟨c, g1, tv, tr, F1, a1, d, s1, hn, t1, k⟩⟩
theorem ss_one (h1 : PS X st (upS X.K Wx t)) : PSs X [st] (upS X.K Wx t) := pss_one h1
theorem s_if {c : Expr} {a b : List Stmt} (hc : PT X c (upT X.K ct)) (h1 : PSs X a (upS X.K Wx t)) (h2 : PSs X b (upS X.K Wx u)) : PS X (.If c a b pos) (upS X.K Wx (dIfS ct t u)) := ps_to (ps_if hc h1 h2) fun D σ H q => by
  obtain ⟨c, g, tv, tr, F, a, d, s, hn, t, k⟩ := q
  refine ⟨c, g, tv, tr, F, a, _, s, t, fun b g1 H1 F1 a1 t1 s1 => ?_⟩
  cases b with
  | true => rw [if_pos rfl]; exact ⟨c, g1, tv, tr, F1, a1, d, s1, hn, t1.1 rfl, k⟩
  | false => rw [if_neg Bool.false_ne_true]; exact ⟨c, g1, tv, tr, F1, a1, d, s1, hn, t1.2 rfl, k⟩
theorem s_ret (he : PE X e (up X.K te)) : PS X (.Return (some e) pos) (upS X.K Wx (dRet te)) := ps_to (ps_ret he) fun D σ H q => by
  obtain ⟨c, g, tv, tr, F, a, d, s, hn, t, k⟩ := q
  refine ⟨c, g, tv, tr, F, a, _, s, t, fun r g1 v H1 F1 a1 t1 s1 => ?_⟩
  cases r with
  | val x => exact k.rv x g1 σ v H1 F1 a1 t1 s1
  | _ => exact t1.elim
theorem s_retL (he : PE X e (upL X.K tl)) : PS X (.Return (some e) pos) (upS X.K Wx (dRetL tl)) := ps_to (ps_ret he) fun D σ H q => by
  obtain ⟨c, g, tv, tr, F, a, d, s, hn, t, k⟩ := q
  refine ⟨c, g, tv, tr, F, a, _, s, t, fun ds g1 v H1 F1 a1 t1 s1 n1 => ?_⟩
  obtain ⟨o, xs, q1, q2, q3, q4, q5, q6, _⟩ := n1.ex
  exact k.ro ds g1 σ v H1 F1 a1 t1 s1 ⟨o, xs, q1, q2, q3, q4, q5, q6, fun i es h => by simp at h⟩
theorem s_expr (he : PE X e (up X.K te)) (h1 : swapsWith e none pos.line X.env = pure false := by rfl) : PS X (.Expr e pos) (upS X.K Wx (dDrop te)) := ps_to (ps_expr he h1) fun D σ H q => by
  obtain ⟨c, g, tv, tr, F, a, d, s, hn, t, k⟩ := q
  exact ⟨c, g, tv, tr, F, a, _, s, t, fun r g1 v H1 F1 a1 t1 s1 => k.nx g1 σ H1 F1 a1 t1 s1.pop1⟩
theorem s_never : PS X st (upS X.K Wx dNever) := ps_to ps_never fun D σ H q => by
  obtain ⟨c, g, tv, tr, F, a, d, s, hn, t, k⟩ := q
  exact t.elim
theorem s_par {i j : Nat} {x y : Str} {a b : Expr} {ta tb : DE} {px py pt : Pos} {kt k2 : Nat} {pt2 : Pos} (hc : X.calm = true) (hN : X.N.Nodup) (hi : X.N[i]? = some x) (hj : X.N[j]? = some y) (hij : i ≠ j)
    (hx : X.env.scope.names.lookup x = some .local) (hy : X.env.scope.names.lookup y = some .local) (ha : PE X a (up X.K ta)) (hb : PE X b (up X.K tb))
    (hsw : swappedStores [.Tuple [.Name x px, .Name y py] kt pt] (.Tuple [a, b] k2 pt2) X.env = pure (some [x, y]) := by rfl) (h1 : swapsWithSole [.Tuple [.Name x px, .Name y py] kt pt] (.Tuple [a, b] k2 pt2) pos.line X.env = pure false := by rfl)
    (n1 : starEach [a, b] X.env = (false, eval a X.env) :: starEach [b] X.env := by rfl) (n2 : starEach [b] X.env = (false, eval b X.env) :: starEach [] X.env := by rfl) :
    PS X (.Assign [.Tuple [.Name x px, .Name y py] kt pt] (.Tuple [a, b] k2 pt2) pos) (upS X.K Wx (dPar i j ta tb)) := ps_to (ps_par hc hN hi hj hij hx hy (a_cons ha (a_cons hb a_nil n2) n1) hsw h1) fun D σ H q => by
  obtain ⟨c, g, tv, tr, F, a, d, s, hn, t, k⟩ := q
  refine ⟨c, g, tv, tr, F, a, fun rs g1 => match rs with | [r, s] => d.nx ((g1.set i (rsv r)).set j (rsv s)) | _ => False, s, t, fun rs g1 vs H1 F1 a1 t1 s1 hl => ?_⟩
  match rs, t1, vs, hl, s1 with
  | [r, s'], t1, [v, w], _, s1 =>
    refine ⟨v, w, rfl, k.nx _ _ H1 F1 a1 t1 ?_⟩
    have s2 : Sta X.K c g1 σ H1 (v :: w :: tv) (r :: s' :: tr) F1 a1 := by
      have e1 : Sta X.K c g1 σ H1 (w :: v :: tv) (s' :: r :: tr) F1 a1 := s1
      exact e1.pop (.cons e1.pop1.top (.cons e1.top e1.pop1.pop1.tmp))
    exact (s2.set i).set j
/-- x.append(e), x an own list -/
theorem s_app {i : Nat} {o : Expr} {apos cpos : Pos} {name : Str} (hv : PE X o (tVar i)) (he : PE X e (up X.K te))
    (hp : ∀ {t : TA} , PA X [e] t → PE X (.Call (.Attribute o "append" apos) [e] [] cpos) (tBM X.K "list" rAppend (tVar i) t)) (n1 : starEach [e] X.env = (false, eval e X.env) :: starEach [] X.env := by rfl)
    (h1 : swapsWith (.Call (.Attribute o "append" apos) [e] [] cpos) none pos.line X.env = pure false := by rfl) : PS X (.Expr (.Call (.Attribute o "append" apos) [e] [] cpos) pos) (upS X.K Wx (dApp i te)) := ps_to (ps_expr (hp (pa_cons he pa_nil n1)) h1) fun D σ H q => by
  obtain ⟨c, g, tv, tr, F, a, d, s, hn, ⟨⟨ds, hd⟩, t⟩, k⟩ := q
  obtain ⟨v, h1, o, xs, rfl, q2, q3, q4, q5, q6⟩ := s.slot i _ hd
  refine ⟨_, h1, .inl ⟨rfl, xs, .inl (.inl q4)⟩, c, g, tv, tr, F, a, _, s, t, fun r g1 w H1 F1 a1 t1 s1 => ?_⟩
  cases r with
  | val z =>
    simp only at t1
    split at t1
    · rename_i es he
      obtain ⟨v', h1', o', ys, rfl, p2, p3, p4, p5, p6⟩ := s1.slot i _ he
      rw [h1] at h1'
      cases h1'
      refine ⟨o, ys, w, rfl, rfl, p4, by rw [p5.len]; exact Nat.lt_of_lt_of_le t1.1 (by decide), k.nx _ _ _ F1 a1 t1.2 (s1.pop1.mut he h1 (p5.app (.cons s1.top .nil)))⟩
    · exact t1.elim
  | _ => exact t1.elim
theorem s_ext {i : Nat} {o : Expr} {apos cpos : Pos} {name : Str} (hv : PE X o (tVar i)) (he : PE X e (up X.K te))
    (hp : ∀ {t : TA} , PA X [e] t → PE X (.Call (.Attribute o "extend" apos) [e] [] cpos) (tBM X.K "list" rExtend (tVar i) t)) (n1 : starEach [e] X.env = (false, eval e X.env) :: starEach [] X.env := by rfl)
    (h1 : swapsWith (.Call (.Attribute o "extend" apos) [e] [] cpos) none pos.line X.env = pure false := by rfl) : PS X (.Expr (.Call (.Attribute o "extend" apos) [e] [] cpos) pos) (upS X.K Wx (dExt i te)) := ps_to (ps_expr (hp (pa_cons he pa_nil n1)) h1) fun D σ H q => by
  obtain ⟨c, g, tv, tr, F, a, d, s, hn, ⟨⟨ds, hd⟩, t⟩, k⟩ := q
  obtain ⟨v, h1, o, xs, rfl, q2, q3, q4, q5, q6⟩ := s.slot i _ hd
  refine ⟨_, h1, .inl ⟨rfl, xs, .inl (.inl q4)⟩, c, g, tv, tr, F, a, _, s, t, fun r g1 w H1 F1 a1 t1 s1 => ?_⟩
  cases r with
  | val z =>
    cases z with
    | list zs =>
      simp only at t1
      split at t1
      · rename_i es he
        obtain ⟨v', h1', o', ys, rfl, p2, p3, p4, p5, p6⟩ := s1.slot i _ he
        rw [h1] at h1'
        cases h1'
        have hw : Rp X.K F1 w (.list zs) := s1.top
        cases hw with
        | lst sq m =>
          refine ⟨o, _, ys, _, rfl, rfl, p4, s1.eh _ _ sq, by rw [p5.len, m.len]; exact mil t1.1, k.nx _ _ _ F1 a1 t1.2 (s1.pop1.mut he h1 (p5.app m))⟩
      · exact t1.elim
    | _ => exact t1.elim
  | _ => exact t1.elim
theorem s_while {c : Expr} (hp : PassesOwn (model X.prog X.w) X.A X.env X.xe) (hc : PT X c (upT X.K ct)) (hb : PSs X body (upS X.K Wx t)) : PS X (.While c body [] pos) (upS X.K Wx (dWhile ct t)) := ps_to (ps_while hp hc hb) fun D σ H q => by
  obtain ⟨c, g, tv, tr, F, a, d, s, hn, ⟨W, ⟨m, hm⟩, hw⟩, k⟩ := q
  refine ⟨fun m σ H => ∃ g F a, Sta X.K c g σ H tv tr F a ∧ W m g, ⟨m, g, F, a, s, hm⟩, fun m σ H hW => ?_⟩
  obtain ⟨g, F, a, s, hm⟩ := hW
  refine ⟨c, g, tv, tr, F, a, _, s, hw m g hm, fun b g1 H1 F1 a1 t1 s1 => ?_⟩
  cases b with
  | true =>
    rw [if_pos rfl]
    refine ⟨fun σ H => ∃ m', m' < m ∧ ∃ g F a, Sta X.K c g σ H tv tr F a ∧ W m' g, fun σ' H' h => h, c, g1, tv, tr, F1, a1, _, s1, hn, t1.1 rfl, ⟨fun g2 σ2 H2 F2 a2 ⟨m', h1, h2⟩ s2 => ⟨m', h1, g2, F2, a2, s2, h2⟩, k.nx, fun g2 σ2 H2 F2 a2 ⟨m', h1, h2⟩ s2 => ⟨m', h1, g2, F2, a2, s2, h2⟩, k.rv, k.ro, k.rx⟩⟩
  | false =>
    rw [if_neg Bool.false_ne_true]
    exact k.nx g1 σ H1 F1 a1 (t1.2 rfl) s1
end
end Z
namespace Z
open L2 PySem PySem.Spec PyProof.Rows
open Evl (Ex ex_l ex_t ex_rd fresh_back)
variable {Wx : WX}
structure WalkD (K : Fg) (J : It) (ds : List Da) (wv : List V) (wr : List Rv) : Prop where
  goes : ∀ (i : Nat) (F H : Hp) (a : Addr) (fu : Option Nat), Ex F H → Tm K F a fu wv wr → i < ds.length → J.go i H
  stops : ∀ (F H : Hp) (a : Addr) (fu : Option Nat), Ex F H → Tm K F a fu wv wr → J.stop ds.length H
  yields : ∀ (i : Nat) (F H : Hp) (a : Addr) (fu : Option Nat) (x : V) (H' : Hp), Ex F H → Tm K F a fu wv wr → i < ds.length → J.yld i H x H' → ∃ F' d, ds[i]? = some d ∧ Gr F H F' H' ∧ Rp K F' x d
theorem WalkD.walk {K : Fg} {J : It} {ds : List Da} {wv : List V} {wr : List Rv} (w : WalkD K J ds wv wr) : Walk J ds.length (fun H => ∃ F a fu, Ex F H ∧ Tm K F a fu wv wr) J.yld :=
  ⟨fun i H hi ⟨F, a, fu, e, t⟩ => w.goes i F H a fu e t hi, fun H ⟨F, a, fu, e, t⟩ => w.stops F H a fu e t, fun i H x H' hi _ y => y⟩
abbrev DW := Gs → (List Da → Gs → Prop) → Prop
def upI (K : Fg) (tw : DW) : TI := fun σ H R => ∃ c g tv tr F a post, Sta K c g σ H tv tr F a ∧ tw g post ∧
  ∀ ds g' H' F' a' J wv wr, post ds g' → Sta K c g' σ H' (wv ++ tv) (wr ++ tr) F' a' → wv.length = wr.length → hasSrc wr = false → WalkD K J ds wv wr → R J H'
def forD (t : DG) (tb : DS) : List Da → DS
  | [], d, g => d.nx g
  | x :: xs, d, g => t (.val x) g fun g1 => tb { d with nx := forD t tb xs d, ct := forD t tb xs d, bk := d.nx } g1
def dFor (tw : DW) (t : DG) (tb : DS) : DS := fun d g => tw g fun ds g1 => forD t tb ds d g1
theorem drop_at {α : Type} {l : List α} {i : Nat} {x : α} (h : l[i]? = some x) : l.drop i = x :: l.drop (i + 1) := by
  obtain ⟨hi, e⟩ := List.getElem?_eq_some_iff.mp h
  rw [List.drop_eq_getElem_cons hi, e]
section
variable {X : Cx} {tg iter : Expr} {body : List Stmt} {tw : DW} {t : DG} {tb : DS} {pos : Pos}
theorem s_for (hp : PassesOwn (model X.prog X.w) X.A X.env X.xe) (hc : X.calm = true) (hi : PI X tg iter (upI X.K tw)) (hg : PG X tg (upG X.K t)) (hb : PSs X body (upS X.K Wx tb)) (hfs : ∀ x, foldedSetIterable iter X.env x = pure x := by intro _; rfl) :
    PS X (.For tg iter body [] pos) (upS X.K Wx (dFor tw t tb)) := ps_to (ps_for hp hc hi hg hb hfs) fun D σ H q => by
  obtain ⟨c, g, tv, tr, F, a, d, s, hn, q, k⟩ := q
  refine ⟨c, g, tv, tr, F, a, _, s, q, fun ds g' H' F' a' J wv wr hf s' hl hw wd => ?_⟩
  have w := wd.walk
  have sp : ∀ {g : Gs} {σ : L2.St} {H F : Hp} {a : Addr}, Sta X.K c g σ H (wv ++ tv) (wr ++ tr) F a → Tm X.K F a g.fu wv wr ∧ Tm X.K F a g.fu tv tr := fun s => Tm.split hl s.tmp
  refine for_it w (fun i σ H => ∃ g F a, Sta X.K c g σ H (wv ++ tv) (wr ++ tr) F a ∧ forD t tb (ds.drop i) d g) ⟨g', F', a', s', hf⟩ (fun i σ H hi p => ?_) (fun i x σ H H' hi p y => ?_) (fun σ H p => ?_)
  · obtain ⟨g, F, a, s, _⟩ := p
    exact ⟨F, a, g.fu, s.eh, (sp s).1⟩
  · obtain ⟨g, F, a, s, f⟩ := p
    obtain ⟨F2, dx, e1, gr, rx⟩ := wd.yields i F H a g.fu x H' s.eh (sp s).1 hi y
    rw [drop_at e1] at f
    refine ⟨c, g, wv ++ tv, wr ++ tr, F2, a, .val dx, _, (s.grow gr).push (r := .val dx) rx, f, fun g1 σ1 H1 F1 a1 t1 s1 => ?_⟩
    refine ⟨c, g1, wv ++ tv, wr ++ tr, F1, a1, _, s1, hasSrc_app hw hn, t1, ⟨fun g2 σ2 H2 F2 a2 h s2 => ⟨g2, F2, a2, s2, h⟩, fun g2 σ2 H2 F2 a2 h s2 => k.nx g2 σ2 H2 F2 a2 h (s2.pop (sp s2).2), fun g2 σ2 H2 F2 a2 h s2 => ⟨g2, F2, a2, s2, h⟩, fun x g2 σ2 v H2 F2 a2 h s2 => ?_, fun es g2 σ2 v H2 F2 a2 h s2 n2 => ?_, fun nm z g2 σ2 H2 F2 a2 cls dd h s2 ox => k.rx nm z g2 σ2 H2 F2 a2 cls dd h (s2.pop (sp s2).2) ox⟩⟩
    · exact k.rv x g2 σ2 v H2 F2 a2 h ((s2.pop1.pop (sp s2.pop1).2).push (r := .val x) s2.top)
    · exact k.ro es g2 σ2 v H2 F2 a2 h (s2.pop (sp s2).2) n2
  · obtain ⟨g, F, a, s, f⟩ := p
    rw [List.drop_length] at f
    exact k.nx g σ H F a f (s.pop (sp s).2)
end
theorem walkD_list {K : Fg} {p : Addr} {ds : List Da} : WalkD K (Itl K p) ds [.ref p] [.val (.list ds)] := by
  have get : ∀ {F H : Hp} {a : Addr} {fu : Option Nat}, Ex F H → Tm K F a fu [.ref p] [.val (.list ds)] → ∃ xs, SqL K H p xs ∧ Rps K F xs ds := fun {F H a fu} e t => by
    cases t with
    | cons h _ =>
      have h' : Rp K F (.ref p) (.list ds) := h
      cases h' with
      | lst sq m => exact ⟨_, .inl (.inl (e _ _ sq)), m⟩
  refine ⟨fun i F H a fu e t hi => ?_, fun F H a fu e t => ?_, fun i F H a fu x H' e t hi y => ?_⟩
  · obtain ⟨xs, sq, m⟩ := get e t
    obtain ⟨v, h1, _⟩ := m.get (List.getElem?_eq_getElem hi)
    exact ⟨xs, v, sq, h1⟩
  · obtain ⟨xs, sq, m⟩ := get e t
    exact ⟨xs, sq, Nat.le_of_eq m.len⟩
  · obtain ⟨xs, sq, m⟩ := get e t
    obtain ⟨v, h1, h2⟩ := m.get (List.getElem?_eq_getElem hi)
    obtain ⟨rfl, hx⟩ := y
    rw [hx xs sq] at h1
    cases h1
    exact ⟨F, _, List.getElem?_eq_getElem hi, Gr.refl e, h2⟩
theorem walkD_tup {K : Fg} {p : Addr} {ds : List Da} : WalkD K (Itt K p) ds [.ref p] [.val (.tuple ds)] := by
  have get : ∀ {F H : Hp} {a : Addr} {fu : Option Nat}, Ex F H → Tm K F a fu [.ref p] [.val (.tuple ds)] → ∃ xs, SqT K H p xs ∧ Rps K F xs ds := fun {F H a fu} e t => by
    cases t with
    | cons h _ =>
      have h' : Rp K F (.ref p) (.tuple ds) := h
      cases h' with
      | tup sq m => exact ⟨_, ex_t e sq, m⟩
  refine ⟨fun i F H a fu e t hi => ?_, fun F H a fu e t => ?_, fun i F H a fu x H' e t hi y => ?_⟩
  · obtain ⟨xs, sq, m⟩ := get e t
    obtain ⟨v, h1, _⟩ := m.get (List.getElem?_eq_getElem hi)
    exact ⟨xs, v, sq, h1⟩
  · obtain ⟨xs, sq, m⟩ := get e t
    exact ⟨xs, sq, Nat.le_of_eq m.len⟩
  · obtain ⟨xs, sq, m⟩ := get e t
    obtain ⟨v, h1, h2⟩ := m.get (List.getElem?_eq_getElem hi)
    obtain ⟨rfl, hx⟩ := y
    rw [hx xs sq] at h1
    cases h1
    exact ⟨F, _, List.getElem?_eq_getElem hi, Gr.refl e, h2⟩
theorem walkD_scr {K : Fg} {p : Addr} {ns : List Int} : WalkD K (Itl K p) (ns.map PyData.int) [.ref p] [.scr ns] := by
  have get : ∀ {F H : Hp} {a : Addr} {fu : Option Nat}, Ex F H → Tm K F a fu [.ref p] [.scr ns] → SqL K H p (ns.map V.int) := fun {F H a fu} e t => by
    cases t with
    | cons h _ =>
      obtain ⟨b, e1, sq⟩ := h
      cases e1
      exact ex_l e sq
  refine ⟨fun i F H a fu e t hi => ?_, fun F H a fu e t => ?_, fun i F H a fu x H' e t hi y => ?_⟩
  · rw [List.length_map] at hi
    exact ⟨_, _, get e t, by rw [List.getElem?_map, List.getElem?_eq_getElem hi]; rfl⟩
  · exact ⟨_, get e t, by rw [List.length_map, List.length_map]; exact Nat.le_refl _⟩
  · obtain ⟨rfl, hx⟩ := y
    rw [List.length_map] at hi
    have h1 := hx _ (get e t)
    rw [List.getElem?_map, List.getElem?_eq_getElem hi] at h1
    cases h1
    exact ⟨F, .int ns[i], by rw [List.getElem?_map, List.getElem?_eq_getElem hi]; rfl, Gr.refl e, .int _⟩
def dItems (te : DE) : DW := fun g Q => te g fun r g1 => match r with
  | .val (.list ds) => Q ds g1
  | .val (.tuple ds) => Q ds g1
  | .scr ns => Q (ns.map PyData.int) g1
  | _ => False
def rangeD (lo : Int) (n : Nat) : List Da := (List.range n).map fun i => .int (lo + (i : Nat))
def dRange1 (te : DE) : DW := fun g Q => te g fun r g1 => match r with
  | .val (.int j) => j < 2 ^ 62 ∧ -(2 ^ 62) ≤ j ∧ Q (rangeD 0 j.toNat) g1
  | _ => False
section
variable {X : Cx} {tg l b : Expr} {te ta tb : DE} {p pos : Pos}
/-- a list, a tuple, the script -/
theorem i_items (hl : PE X l (up X.K te)) : PI X tg l (upI X.K (dItems te)) := by
  refine ⟨fun pins st σ H R I q => ?_⟩
  obtain ⟨c, g, tv, tr, F, a, post, s, t, k⟩ := q
  refine thn (hl.run pins st σ H (fun v H1 => (∃ p xs, v = .ref p ∧ SqL X.K H1 p xs ∧ R (Itl X.K p) H1) ∨ ∃ p xs, v = .ref p ∧ SqT X.K H1 p xs ∧ R (Itt X.K p) H1) I ?_) fun u s1 ⟨x, H1, I1, r1, q1⟩ => ?_
  · refine ⟨c, g, tv, tr, F, a, _, s, t, fun r g1 v H1 F1 a1 t1 s1 => ?_⟩
    cases r with
    | val d =>
      cases d with
      | list ds =>
        have hr : Rp X.K F1 v (.list ds) := s1.top
        cases hr with
        | lst sq m => exact .inl ⟨_, _, rfl, .inl (.inl (s1.eh _ _ sq)), k ds g1 H1 F1 a1 _ [_] [.val (.list ds)] t1 s1 rfl rfl walkD_list⟩
      | tuple ds =>
        have hr : Rp X.K F1 v (.tuple ds) := s1.top
        cases hr with
        | tup sq m => exact .inr ⟨_, _, rfl, ex_t s1.eh sq, k ds g1 H1 F1 a1 _ [_] [.val (.tuple ds)] t1 s1 rfl rfl walkD_tup⟩
      | _ => exact t1.elim
    | scr ns =>
      obtain ⟨b, rfl, sq⟩ := s1.top
      exact .inl ⟨_, _, rfl, ex_l s1.eh sq, k _ g1 H1 F1 a1 _ [_] [.scr ns] t1 s1 rfl rfl walkD_scr⟩
    | src => exact t1.elim
    | ob _ => exact t1.elim
  · have fr := I1.hok.fresh (Nat.le_refl s1.heap.objs.size)
    have fp : ∀ b ∈ [s1.heap.objs.size], FpOk X pins H1 b := fun b hb => by
      cases List.mem_singleton.mp hb
      exact I1.fpOk (Nat.le_refl _) fr
    rcases q1 with ⟨p, xs, rfl, sq, q⟩ | ⟨p, xs, rfl, sq, q⟩
    · cases r1
      obtain ⟨its, rv, pl, hz⟩ := I1.list sq
      exact wpAny_pyIter_list pl.isList ⟨_, _, _, _, H1, rfl, I1.kept (t' := s1.toks) fun b o e => Heap.get?_push_of_some _ e, turn_list p _, ⟨_, Heap.get?_push_size _ rfl, rfl, rfl⟩, fp, q⟩
    · cases r1
      obtain ⟨its, rv, pl, hz⟩ := I1.tuple sq
      exact wpAny_pyIter_tuple (show s1.heap.IsTuple p its.toArray from pl) ⟨_, _, _, _, H1, rfl, I1.kept (t' := s1.toks) fun b o e => Heap.get?_push_of_some _ e, turn_tuple p _, ⟨_, Heap.get?_push_size _ rfl, rfl, rfl⟩, fp, q⟩
theorem pi_to {w w' : TI} (h : PI X tg l w) (i : ∀ σ H R, w' σ H R → w σ H R) : PI X tg l w' := ⟨fun pins s σ H R I q => h.run pins s σ H R I (i _ _ _ q)⟩
theorem rangeD_get {lo : Int} {n i : Nat} (h : i < n) : (rangeD lo n)[i]? = some (.int (lo + (i : Nat))) := by
  unfold rangeD
  rw [List.getElem?_map, List.getElem?_range h]
  rfl
theorem rangeD_len (lo : Int) (n : Nat) : (rangeD lo n).length = n := by
  unfold rangeD
  rw [List.length_map, List.length_range]
theorem walkD_range {K : Fg} {lo : Int} {n : Nat} : WalkD K (Itr lo n) (rangeD lo n) [] [] := by
  refine ⟨fun i F H a fu e t hi => ?_, fun F H a fu e t => ?_, fun i F H a fu x H' e t hi y => ?_⟩
  · rw [rangeD_len] at hi; exact hi
  · rw [rangeD_len]; exact Nat.le_refl n
  · rw [rangeD_len] at hi
    obtain ⟨rfl, rfl⟩ := y
    exact ⟨F, _, rangeD_get hi, Gr.refl e, .int _⟩
theorem i_range1 (hg : Gl X "range") (hm : X.mg "range" = none) (ha : PE X l (up X.K te)) (hs : starEach [l] X.env = [(false, eval l X.env)] := by rfl) : PI X tg (.Call (.Name "range" p) [l] [] pos) (upI X.K (dRange1 te)) :=
  pi_to (pi_range1 hg hm (pa_cons ha pa_nil hs) hs) fun σ H R q => by
  obtain ⟨c, g, tv, tr, F, a, post, s, t, k⟩ := q
  refine ⟨c, g, tv, tr, F, a, _, s, t, fun r g1 v H1 F1 a1 t1 s1 => ?_⟩
  cases r with
  | val d =>
    cases d with
    | int j =>
      have hr : Rp X.K F1 v (.int j) := s1.top
      cases hr
      exact ⟨j, rfl, t1.2.1, t1.1, k _ g1 H1 F1 a1 _ [] [] t1.2.2 s1.pop1 rfl rfl walkD_range⟩
    | _ => exact t1.elim
  | _ => exact t1.elim
end
end Z
namespace Z
open L2 PySem PySem.Spec PyProof.Rows
open Evl (Ex ex_l ex_t ex_rd fresh_back)
variable {Wx : WX}
def upGw (K : Fg) (vs : List Nat) (t : DG) : TG := fun v σ H Q => ∃ c g tv tr F a r post, Sta K c g σ H (v :: tv) (r :: tr) F a ∧ t r g post ∧
  ∀ g' σ' H' F' a', post g' → Sta K c g' σ' H' tv tr F' a' → wipe σ' vs = wipe σ vs → Q σ' H'
def upGsw (K : Fg) (vs : List Nat) (t : DGs) : TGs := fun us σ H Q => ∃ c g tv tr F a ds post, Sta K c g σ H (us ++ tv) (ds.map Rv.val ++ tr) F a ∧ us.length = ds.length ∧ t ds g post ∧
  ∀ g' σ' H' F' a', post g' → Sta K c g' σ' H' tv tr F' a' → wipe σ' vs = wipe σ vs → Q σ' H'
theorem wipe_get {σ : L2.St} : ∀ {vs : List Nat} {i : Nat}, i ∉ vs → (wipe σ vs)[i]? = σ[i]?
  | [], _, _ => rfl
  | v :: vs, i, h => by
    show ((wipe σ vs).set v none)[i]? = _
    rw [List.getElem?_set_ne (fun e => h (by rw [e]; exact List.mem_cons_self)), wipe_get fun z => h (List.mem_cons_of_mem _ z)]
theorem wipe_in {σ : L2.St} : ∀ {vs : List Nat} {i : Nat}, i ∈ vs → i < σ.length → (wipe σ vs)[i]? = some none
  | v :: vs, i, h, hl => by
    show ((wipe σ vs).set v none)[i]? = _
    by_cases e : v = i
    · subst e
      exact List.getElem?_set_self (by rw [wipe_length]; exact hl)
    · rw [List.getElem?_set_ne e]
      rcases List.mem_cons.mp h with z | z
      · exact absurd z.symm e
      · exact wipe_in z hl
theorem wipe_set {σ : L2.St} {vs : List Nat} {i : Nat} {x : Option V} (h : i ∈ vs) : wipe (σ.set i x) vs = wipe σ vs := by
  apply List.ext_getElem?
  intro j
  by_cases hj : j ∈ vs
  · by_cases hl : j < σ.length
    · rw [wipe_in hj (by rw [List.length_set]; exact hl), wipe_in hj hl]
    · rw [List.getElem?_eq_none (by rw [wipe_length, List.length_set]; omega), List.getElem?_eq_none (by rw [wipe_length]; omega)]
  · rw [wipe_get hj, wipe_get hj, List.getElem?_set_ne (fun e => hj (by rw [← e]; exact h))]
section
variable {X : Cx} {pos : Pos} {e : Expr} {es : List Expr} {vs : List Nat} {K : Fg}
theorem gw_name {i : Nat} (hk : K = X.K) (h : PG X e (gName i)) (hi : i ∈ vs) : PG X e (upGw K vs (dN i)) := pg_to h fun v σ H Q q => by
  subst hk
  obtain ⟨c, g, tv, tr, F, a, r, post, s, t, k⟩ := q
  exact k _ _ H F a t (s.set i) (wipe_set hi)
theorem gsw_nil : PGs X [] (upGsw K vs dTn) := pgs_to pgs_nil fun us σ H Q q => by
  obtain ⟨c, g, tv, tr, F, a, ds, post, s, hl, t, k⟩ := q
  cases ds with
  | nil =>
    have : us = [] := List.length_eq_zero_iff.mp hl
    subst this
    exact ⟨rfl, k _ _ H F a t s rfl⟩
  | cons d r => exact t.elim
theorem gsw_cons {t : DG} {u : DGs} (h : PG X e (upGw K vs t)) (hr : PGs X es (upGsw K vs u)) (hs : (assignEach (e :: es) X.env).map (·.2) = assign e X.env :: (assignEach es X.env).map (·.2) := by rfl) : PGs X (e :: es) (upGsw K vs (dTc t u)) := pgs_to (pgs_cons h hr hs) fun us σ H Q q => by
  obtain ⟨c, g, tv, tr, F, a, ds, post, s, hl, t, k⟩ := q
  cases ds with
  | nil => exact t.elim
  | cons d r =>
    cases us with
    | nil => simp at hl
    | cons v us =>
      refine ⟨v, us, rfl, c, g, _, _, F, a, _, _, s, t, fun g1 σ1 H1 F1 a1 t1 s1 w1 => ?_⟩
      exact ⟨c, g1, tv, tr, F1, a1, r, _, s1, by simpa using hl, t1, fun g2 σ2 H2 F2 a2 t2 s2 w2 => k g2 σ2 H2 F2 a2 t2 s2 (w2.trans w1)⟩
theorem gw_tup {n k : Nat} {t : DGs} (hk : K = X.K) (hc : X.calm = true) (h : PGs X es (upGsw K vs t)) (hn : (assignEach es X.env).length = n := by rfl) (hf : List.findIdx? (fun x => x.1) (assignEach es X.env) = none := by rfl) : PG X (.Tuple es k pos) (upGw K vs (dT n t)) :=
  pg_to (pg_tup hc h hn hf) fun v σ H Q q => by
  subst hk
  obtain ⟨c, g, tv, tr, F, a, r, post, s, t, k⟩ := q
  cases r with
  | val d =>
    cases d with
    | tuple ds =>
      have hr : Rp X.K F v (.tuple ds) := s.top
      cases hr with
      | tup sq m =>
        refine ⟨_, _, rfl, ex_t s.eh sq, by rw [m.len]; exact t.1, c, g, tv, tr, F, a, ds, post, s.pop ((Tm.ofRps m).app s.pop1.tmp), m.len, t.2, k⟩
    | _ => exact t.elim
  | _ => exact t.elim
end
def noOwn : Option Sv → Option Sv
  | some (.own _) => none
  | x => x
def wipeS (sl : List (Option Sv)) : List Nat → List (Option Sv)
  | [] => sl
  | v :: vs => (wipeS sl vs).set v none
def hide (vs : List Nat) (sl : List (Option Sv)) : List (Option Sv) := wipeS (sl.map noOwn) vs
theorem wipeS_len (sl : List (Option Sv)) : ∀ vs, (wipeS sl vs).length = sl.length
  | [] => rfl
  | v :: vs => by
    show ((wipeS sl vs).set v none).length = _
    rw [List.length_set, wipeS_len sl vs]
theorem wipeS_some {sl : List (Option Sv)} : ∀ {vs : List Nat} {i : Nat} {s : Sv}, (wipeS sl vs)[i]? = some (some s) → i ∉ vs ∧ sl[i]? = some (some s)
  | [], _, _, h => ⟨by simp, h⟩
  | v :: vs, i, s, h => by
    rcases set_some (show ((wipeS sl vs).set v none)[i]? = some (some s) from h) with ⟨_, _, e⟩ | ⟨ne, e⟩
    · cases e
    · obtain ⟨h1, h2⟩ := wipeS_some e
      exact ⟨by simp only [List.mem_cons, not_or]; exact ⟨ne, h1⟩, h2⟩
theorem hide_some {sl : List (Option Sv)} {vs : List Nat} {i : Nat} {s : Sv} (h : (hide vs sl)[i]? = some (some s)) : i ∉ vs ∧ sl[i]? = some (some s) ∧ ∀ ds, s ≠ .own ds := by
  obtain ⟨h1, h2⟩ := wipeS_some h
  rw [List.getElem?_map] at h2
  cases q : sl[i]? with
  | none => rw [q] at h2; cases h2
  | some x =>
    rw [q] at h2
    have h3 : noOwn x = some s := Option.some.inj h2
    refine ⟨h1, ?_, fun ds e => ?_⟩
    · cases x with
      | none => cases h3
      | some y => cases y <;> first | (cases h3; rfl) | cases h3
    · subst e
      cases x with
      | none => cases h3
      | some y => cases y <;> cases h3
def fuN (fu fu' : Option Nat) : Option Nat := match fu with
  | some _ => fu'
  | none => none
def lcD (sl : List (Option Sv)) (t : DG) (tt : DT) (te : DE) : List Da → List Da → Option Nat → (List Da → Option Nat → Prop) → Prop
  | [], acc, fu, Q => Q acc fu
  | x :: xs, acc, fu, Q => t (.val x) ⟨sl, fu, false⟩ fun g1 => tt g1 fun b g2 =>
    (b = true → te g2 fun r g3 => match r with
      | .val d => acc.length < 1000000 ∧ lcD sl t tt te xs (acc ++ [d]) (fuN fu g3.fu) Q
      | _ => False) ∧ (b = false → lcD sl t tt te xs acc (fuN fu g2.fu) Q)
def dYes : DT := fun g Q => Q true g
def dLc (vs : List Nat) (tw : DW) (t : DG) (tt : DT) (te : DE) : DL := fun g Q => tw g fun ds g1 => lcD (hide vs g1.sl) t tt te ds [] g1.fu fun acc fu' => Q acc { g1 with fu := fu' }
section
variable {K : Fg} {F1 H1 F H : Hp} {a D : Addr} {fu0 fu : Option Nat} {acc : List Da}
/-- behind a turn: from the nested entry back to the one ahead of the comprehension -/
theorem Out.turn (o : Out K F1 H1 a fu0 fu F H (.ref D) (.own acc)) {g : Gs} {σ : L2.St} {H4 F4 : Hp} {tv : List V} {tr : List Rv} {a4 : Addr} (hfu : fu0 = none → fu = none) (hD : fu0 ≠ none → D ≠ a) (s : Sta K ⟨F, H, if fu = none then none else some a⟩ g σ H4 tv tr F4 a4) :
    (fu0 ≠ none → a4 = a) ∧ F4 D = none ∧ (fu0 = none → fuN fu g.fu = none) ∧ (∃ xs, H4 D = some (.lst xs) ∧ Rps K F4 xs acc) ∧ Out K F1 H1 a fu0 (fuN fu g.fu) F4 H4 (.ref D) (.own acc) := by
  obtain ⟨o', xs, eD, d1, d2, d3, d4⟩ := o.rep
  cases eD
  have fne : fu0 ≠ none → fu ≠ none := fun hf => by
    obtain ⟨n, e, _⟩ := o.src hf
    exact ne_none e
  have ext1 : fu0 ≠ none → (if fu = none then none else some a : Option Addr) = some a := fun hf => if_neg (fne hf)
  have ext0 : ∀ b, (fu0 ≠ none → b ≠ a) → (if fu = none then none else some a : Option Addr) ≠ some b := fun b hb => by
    by_cases hf : fu = none
    · rw [if_pos hf]; exact fun z => nomatch z
    · rw [if_neg hf]
      intro z
      cases z
      exact hb (fun z => hf (hfu z)) rfl
  have a4e : fu0 ≠ none → a4 = a ∧ g.fu ≠ none := fun hf => s.ex a (ext1 hf)
  have hD4 : H4 D = some (.lst xs) := s.keep D _ (ext0 D hD) (fun _ z => by cases z) d3
  have hF4 : F4 D = none := by
    cases q : F4 D with
    | none => rfl
    | some u =>
      rcases s.new D (ne_none q) with z | z
      · exact absurd d2 z
      · have z' : H D = none := z
        rw [d3] at z'; cases z'
  have hn : fu0 = none → fuN fu g.fu = none := fun z => by
    rw [hfu z]; rfl
  refine ⟨fun hf => (a4e hf).1, hF4, hn, ⟨xs, hD4, d4.up s.e0⟩, ⟨o.f.trans s.e0, s.eh, fun b u hb hn e => s.keep b u (ext0 b hb) hn (o.keep b u hb hn e), fun b q => ?_, fun hf => ?_, ⟨D, xs, rfl, d1, hF4, hD4, d4.up s.e0⟩, o.tab.trans s.tab, s.t0⟩⟩
  · rcases s.new b q with z | z
    · exact o.new b z
    · have z' : H b = none := z
      refine .inr ?_
      cases e : H1 b with
      | none => rfl
      | some u =>
        by_cases hb : fu0 ≠ none → b ≠ a
        · cases u with
          | tbl ps =>
            obtain ⟨ps', w⟩ := o.tab b ps e
            rw [w] at z'; cases z'
          | _ => rw [o.keep b _ hb (fun _ z => by cases z) e] at z'; cases z'
        · have hb1 : fu0 ≠ none := fun w => hb fun w' => absurd w w'
          have hb2 : b = a := Classical.byContradiction fun w => hb fun _ => w
          obtain ⟨n, _, _, x, y, w, q', _⟩ := o.src hb1
          rw [hb2, q'] at z'; cases z'
  · obtain ⟨e1, e2⟩ := a4e hf
    subst e1
    cases q : g.fu with
    | none => exact absurd q e2
    | some n =>
      obtain ⟨h1, _, h3⟩ := s.src n q
      cases q2 : fu with
      | none => exact absurd q2 (fne hf)
      | some m => exact ⟨n, rfl, h1, h3⟩
/-- the list at D grows -/
theorem Out.grow (o : Out K F1 H1 a fu0 fu F H (.ref D) (.own acc)) (hD : fu0 ≠ none → D ≠ a) {xs : List V} {v : V} {d : Da} (hx : H D = some (.lst xs)) (m : Rps K F xs acc) (r : Rp K F v d) : Out K F1 H1 a fu0 fu F (upd H D (.lst (xs ++ [v]))) (.ref D) (.own (acc ++ [d])) := by
  obtain ⟨o', ys, eD, d1, d2, d3, d4⟩ := o.rep
  cases eD
  refine ⟨o.f, fun b u q => ?_, fun b u hb hn e => ?_, o.new, fun hf => ?_, ⟨D, _, rfl, d1, d2, upd_same, m.app (.cons r .nil)⟩, o.tab.trans (.but hx (fun _ z => by cases z) fun b u ne h => by rw [upd_ne ne]; exact h), o.tk.but hx (fun _ z => by cases z) fun b u ne h => by rw [upd_ne ne]; exact h⟩
  · have nb : b ≠ D := fun z => by rw [z, d2] at q; cases q
    rw [upd_ne nb]; exact o.s b u q
  · have nb : b ≠ D := fun z => by rw [z, d1] at e; cases e
    rw [upd_ne nb]; exact o.keep b u hb hn e
  · obtain ⟨n, h1, h2, x, y, w, q', h3⟩ := o.src hf
    exact ⟨n, h1, h2, x, y, w, by rw [upd_ne (fun z => hD hf z.symm)]; exact q', h3⟩
end
theorem lc_sta {K : Fg} {c : Con} {g1 : Gs} {σ : L2.St} {H1 F1 : Hp} {tv : List V} {tr : List Rv} {a : Addr} (s : Sta K c g1 σ H1 tv tr F1 a) (vs : List Nat) {fu : Option Nat} {F H : Hp} {D : Addr} {acc : List Da} (o : Out K F1 H1 a g1.fu fu F H (.ref D) (.own acc)) (hfu : g1.fu = none → fu = none) :
    Sta K ⟨F, H, if fu = none then none else some a⟩ ⟨hide vs g1.sl, fu, false⟩ (wipe σ vs) H tv tr F a := by
  have fne : g1.fu ≠ none → fu ≠ none := fun hf => by
    obtain ⟨n, e, _⟩ := o.src hf
    exact ne_none e
  have bne : fu ≠ none → g1.fu ≠ none := fun hf z => hf (hfu z)
  have tm : Tm K F a fu tv tr := by
    cases q : g1.fu with
    | none =>
      have t := s.tmp.up o.f
      rw [q] at t
      rw [hfu q]
      exact t
    | some n => exact (s.tmp.up o.f).refu (fne (ne_none q))
  refine ⟨Ex.refl F, o.s, fun b u _ _ e => e, fun b q => .inl q, fun b e => ?_, fun z => (by cases z), fun n e => ?_, tm, ?_, fun i sv h => ?_, fun i j ds es _ h => ?_, o.tk, .refl⟩
  · by_cases hf : fu = none
    · simp [hf] at e
    · simp [hf] at e
      exact ⟨e, hf⟩
  · have e' : fu = some n := e
    obtain ⟨n', h1, h2, h3⟩ := o.src (bne (ne_none e'))
    rw [e'] at h1
    cases h1
    exact ⟨h2, .inl (if_neg (ne_none e')), h3⟩
  · show (wipe σ vs).length = (hide vs g1.sl).length
    rw [wipe_length]
    unfold hide
    rw [wipeS_len, List.length_map]
    exact s.len
  · obtain ⟨h1, h2, h3⟩ := hide_some (show (hide vs g1.sl)[i]? = some (some sv) from h)
    obtain ⟨v, w1, w2⟩ := s.slot i sv h2
    refine ⟨v, by rw [wipe_get h1]; exact w1, ?_⟩
    cases sv with
    | val d => exact Rp.up w2 o.f
    | src => exact ⟨w2.1, fne w2.2⟩
    | scr ns => obtain ⟨b, z1, z2⟩ := w2; exact ⟨b, z1, ex_l o.f z2⟩
    | ob k => exact ObOk.up o.f w2
    | own ds => exact absurd rfl (h3 ds)
  · obtain ⟨_, _, h3⟩ := hide_some (show (hide vs g1.sl)[i]? = some (some (Sv.own ds)) from h)
    exact absurd rfl (h3 ds)
section
variable {K : Fg} {vs : List Nat} {tw : DW} {t : DG} {tt : DT} {te : DE}
theorem lc_main : ∀ σ H Q, upL K (dLc vs tw t tt te) σ H Q → tLc (upI K tw) (upGw K vs t) (upT K tt) (up K te) vs σ H Q := fun σ H Q q => by
  obtain ⟨c, g, tv, tr, F, a, post, s, q, k⟩ := q
  refine ⟨c, g, tv, tr, F, a, _, s, q, fun ds g1 H1 F1 a1 J wv wr hf s1 hl hw wd D hD => ?_⟩
  have sp : ∀ {g : Gs} {c : Con} {σ : L2.St} {H F : Hp} {a : Addr}, Sta K c g σ H (wv ++ tv) (wr ++ tr) F a → Tm K F a g.fu wv wr ∧ Tm K F a g.fu tv tr := fun s => Tm.split hl s.tmp
  have srcH : g1.fu ≠ none → ∃ n, g1.fu = some n ∧ F1 a1 = none ∧ SrcAt H1 a1 n := fun hf => by
    cases q : g1.fu with
    | none => exact absurd q hf
    | some n => exact ⟨n, rfl, (s1.src n q).1, (s1.src n q).2.2⟩
  have Da1 : g1.fu ≠ none → D ≠ a1 := fun hf e => by
    obtain ⟨n, _, _, x, y, z, q, _⟩ := srcH hf
    rw [← e, hD] at q; cases q
  have o0 : Out K F1 H1 a1 g1.fu g1.fu F1 (upd H1 D (.lst [])) (.ref D) (.own []) := by
    have eH : Ex H1 (upd H1 D (.lst [])) := Ex.new hD
    refine ⟨Ex.refl F1, s1.eh.trans eH, fun b u _ _ e => eH b u e, fun b q => .inl q, fun hf => ?_, ⟨D, [], rfl, hD, fresh_back s1.eh hD, upd_same, .nil⟩, .ex eH, s1.t0.up (Ex.refl _) (fun b ps h => eH b _ h) fun _ h => .inl h⟩
    obtain ⟨n, h1, h2, x, y, z, q, h3⟩ := srcH hf
    exact ⟨n, h1, h2, x, y, z, eH _ _ q, h3⟩
  refine lc_it wd.walk (fun i H => ∃ F fu acc, Out K F1 H1 a1 g1.fu fu F H (.ref D) (.own acc) ∧ (g1.fu = none → fu = none) ∧ lcD (hide vs g1.sl) t tt te (ds.drop i) acc fu fun acc fu' => post acc { g1 with fu := fu' }) ⟨F1, g1.fu, [], o0, id, hf⟩ (fun i H hi p => ?_) (fun i x H H' hi p y => ?_) (fun H p => ?_)
  · obtain ⟨F, fu, acc, o, hfu, _⟩ := p
    have s2 := lc_sta s1 vs o hfu
    exact ⟨F, a1, fu, s2.eh, (sp s2).1⟩
  · obtain ⟨F, fu, acc, o, hfu, f⟩ := p
    have s2 := lc_sta s1 vs o hfu
    obtain ⟨F2, dx, e1, gr, rx⟩ := wd.yields i F H a1 fu x H' s2.eh (sp s2).1 hi y
    rw [drop_at e1] at f
    refine ⟨_, _, wv ++ tv, wr ++ tr, F2, a1, .val dx, _, (s2.grow gr).push (r := .val dx) rx, f, fun g3 σ3 H3 F3 a3 t3 s3 w3 => ⟨?_, ?_⟩⟩
    · rw [w3]
      apply List.ext_getElem?
      intro j
      by_cases hj : j ∈ vs
      · by_cases hl : j < σ.length
        · rw [wipe_in hj (by rw [wipe_length]; exact hl), wipe_in hj hl]
        · rw [List.getElem?_eq_none (by rw [wipe_length, wipe_length]; omega), List.getElem?_eq_none (by rw [wipe_length]; omega)]
      · rw [wipe_get hj, wipe_get hj]
    · refine ⟨_, g3, _, _, F3, a3, _, s3, t3, fun b g4 H4 F4 a4 t4 s4 => ?_⟩
      cases b with
      | true =>
        rw [if_pos rfl]
        refine ⟨_, g4, _, _, F4, a4, _, s4, t4.1 rfl, fun r g5 v H5 F5 a5 t5 s5 => ?_⟩
        cases r with
        | val d =>
          obtain ⟨ae, fD, fn, ⟨xs, hx, m⟩, o5⟩ := o.turn hfu Da1 s5.pop1
          exact ⟨xs, hx, by rw [m.len]; exact Nat.lt_of_lt_of_le t5.1 (by decide), F5, _, _, o5.grow Da1 hx m s5.top, fn, t5.2⟩
        | _ => exact t5.elim
      | false =>
        rw [if_neg Bool.false_ne_true]
        obtain ⟨ae, fD, fn, ⟨xs, hx, m⟩, o5⟩ := o.turn hfu Da1 s4
        exact ⟨F4, _, _, o5, fn, t4.2 rfl⟩
  · obtain ⟨F, fu, acc, o, hfu, f⟩ := p
    rw [List.drop_length] at f
    have s1' := s1.pop (sp s1).2
    by_cases hf : g1.fu = none
    · have o' := o
      rw [hf] at o'
      have s3 := s1'.after0 o'
      have e : ({ g1 with fu := fu } : Gs) = g1 := by
        rw [hfu hf, ← hf]
      refine k acc _ _ H F a1 f ?_ ?_
      · rw [e]; exact s3
      · rw [e]; exact NewL.of s1' rfl id o.rep
    · exact k acc _ _ H F a1 f (s1'.after1 hf o) (NewL.of (g' := { g1 with fu := fu }) s1' rfl (fun _ => hf) o.rep)
end
section
variable {X : Cx} {elt tg iter : Expr} {ifs : List Expr} {scope : Scope} {own : List (Str × Nat)} {pos spos : Pos} {tw : DW} {t : DG} {tt : DT} {te : DE}
theorem ts_yes : PTs X [] (upT X.K dYes) := ⟨fun pins s σ H Q I q => by
  obtain ⟨c, g, tv, tr, F, a, post, st, t, k⟩ := q
  exact pts_nil.run pins s σ H Q I (k true g H F a t st)⟩
theorem e_lc (hc : X.calm = true) (hN : X.N.Nodup) (hi : PI X tg iter (upI X.K tw)) (hb : BlkOk X.N X.env.scope scope own)
    (hg : ∀ s H C cl fp, PG (X.blk s H scope (compEnvC scope cl C X.env) fp) tg (upGw X.K (own.map (·.2)) t)) (ht : ∀ s H C cl fp, PTs (X.blk s H scope (compEnvC scope cl C X.env) fp) ifs (upT X.K tt))
    (he : ∀ s H C cl fp, PE (X.blk s H scope (compEnvC scope cl C X.env) fp) elt (up X.K te)) (hfs : ∀ x, foldedSetIterable iter X.env x = pure x := by intro _; rfl) :
    PE X (.ListComp elt [{ target := tg, iter := iter, ifs := ifs, is_async := 0 }] scope pos) (upL X.K (dLc (own.map (·.2)) tw t tt te)) := pe_to (pe_lc hc hN hi hb hg ht he hfs) lc_main
theorem s_setLc {i : Nat} {y : Str} {py : Pos} (hc : X.calm = true) (hN : X.N.Nodup) (hiy : X.N[i]? = some y) (hl : X.env.scope.names.lookup y = some .local)
    (hsw : swapsWith (.ListComp elt [{ target := tg, iter := iter, ifs := ifs, is_async := 0 }] scope pos) (some (.Name y py)) spos.line X.env = pure true)
    (hi : PI X tg iter (upI X.K tw)) (hb : BlkOk X.N X.env.scope scope own)
    (hg : ∀ s H C cl fp, PG (X.blk s H scope (compEnvC scope cl C X.env) fp) tg (upGw X.K (own.map (·.2)) t)) (ht : ∀ s H C cl fp, PTs (X.blk s H scope (compEnvC scope cl C X.env) fp) ifs (upT X.K tt))
    (he : ∀ s H C cl fp, PE (X.blk s H scope (compEnvC scope cl C X.env) fp) elt (up X.K te)) (hfs : ∀ x, foldedSetIterable iter X.env x = pure x := by intro _; rfl) :
    PS X (.Assign [.Name y py] (.ListComp elt [{ target := tg, iter := iter, ifs := ifs, is_async := 0 }] scope pos) spos) (upS X.K Wx (dSetL i (dLc (own.map (·.2)) tw t tt te))) := ps_to (ps_setLc hc hN hiy hl hsw hi hb hg ht he hfs) fun D σ H q => by
  obtain ⟨c, g, tv, tr, F, a, d, s, hn, q, k⟩ := q
  exact lc_main σ H _ ⟨c, g, tv, tr, F, a, _, s, q, fun ds g1 v H1 F1 a1 t1 s1 n1 => k.nx _ _ H1 F1 a1 t1 (s1.setOwn n1 i)⟩
end
end Z
namespace Z
open L2 PySem PySem.Spec PyProof.Rows
open Evl (Ex ex_l ex_t ex_rd fresh_back)
abbrev CF := List Rv → (Da → Prop) → Prop
def dCB (f : CF) (ta : DA) : DE := fun g Q => ta g fun rs g1 => f rs fun z => Q (.val z) g1
def CallOk (K : Fg) (r : List V → Hp → VK → Prop) (f : CF) : Prop := ∀ (F H : Hp) (a : Addr) (fu : Option Nat) (vs : List V) (rs : List Rv) (post : Da → Prop) (Q : VK), Ex F H → Tm K F a fu vs rs → f rs post →
  (∀ z v H' F', post z → Gr F H F' H' → Rp K F' v z → Q v H') → r vs H Q
section
variable {X : Cx} {x : Str} {p pos : Pos} {e : Expr} {es : List Expr} {tr : DA} {id T : String} {r : List V → Hp → VK → Prop} {f : CF}
theorem cb_core (hf : CallOk X.K r f) : ∀ σ H Q, up X.K (dCB f tr) σ H Q → tCB r (upA X.K tr) σ H Q := fun σ H Q q => by
  obtain ⟨c, g, tv, tr, F, ad, post, s, t, k⟩ := q
  refine ⟨c, g, tv, tr, F, ad, _, s, t, fun rs g1 vs H1 F1 a1 t1 s1 hl => ?_⟩
  obtain ⟨m1, m2⟩ := s1.tmp.args hl
  exact hf F1 H1 a1 g1.fu vs rs _ _ s1.eh m1 t1 fun z v H' F' hz gr rz => k _ g1 v H' F' a1 hz (((s1.pop m2).grow gr).push (r := .val z) rz)
theorem e_callB (hc : CallR X (.builtin id) r) (hf : CallOk X.K r f) (hg : Gl X x) (hm : X.mg x = none) (hv : bootBuiltins x = some (.builtin id)) (ha : PA X (e :: es) (upA X.K tr)) (hn : x ≠ "__name__" := by decide) (hdb : (x == ("__debug__" : Str)) = false := by decide)
    (he : starEach (e :: es) X.env = (false, eval e X.env) :: starEach es X.env := by rfl) (hpl : (backTo pos (starEach es X.env)).any (·.1) = false := by rfl) : PE X (.Call (.Name x p) (e :: es) [] pos) (up X.K (dCB f tr)) :=
  pe_to (pe_callB hc hg hm hv ha hn hdb he hpl) (cb_core hf)
theorem e_callTy (hc : CallR X (.type T) r) (hf : CallOk X.K r f) (hg : Gl X x) (hm : X.mg x = none) (hv : bootBuiltins x = some (.type T)) (ha : PA X (e :: es) (upA X.K tr)) (hn : x ≠ "__name__" := by decide) (hdb : (x == ("__debug__" : Str)) = false := by decide)
    (he : starEach (e :: es) X.env = (false, eval e X.env) :: starEach es X.env := by rfl) (hpl : (backTo pos (starEach es X.env)).any (·.1) = false := by rfl) : PE X (.Call (.Name x p) (e :: es) [] pos) (up X.K (dCB f tr)) :=
  pe_to (pe_callTy hc hg hm hv ha hn hdb he hpl) (cb_core hf)
end
section
variable {K : Fg}
theorem Tm.i1 {F : Hp} {a : Addr} {fu : Option Nat} {vs : List V} {i : Int} (h : Tm K F a fu vs [.val (.int i)]) : vs = [.int i] := by
  cases h with
  | cons h t =>
    cases t
    have h' : Rp K F _ (.int i) := h
    cases h'
    rfl
theorem Tm.i2 {F : Hp} {a : Addr} {fu : Option Nat} {vs : List V} {i j : Int} (h : Tm K F a fu vs [.val (.int i), .val (.int j)]) : vs = [.int i, .int j] := by
  cases h with
  | cons h t =>
    cases t.i1
    have h' : Rp K F _ (.int i) := h
    cases h'
    rfl
theorem Tm.v1 {F : Hp} {a : Addr} {fu : Option Nat} {vs : List V} {d : Da} (h : Tm K F a fu vs [.val d]) : ∃ v, vs = [v] ∧ Rp K F v d := by
  cases h with
  | cons h t =>
    cases t
    exact ⟨_, rfl, h⟩
def cInt1 (o : Int → Int) : CF := fun rs post => match rs with
  | [.val (.int i)] => post (.int (o i))
  | _ => False
def cInt2 (o : Int → Int → Int) : CF := fun rs post => match rs with
  | [.val (.int i), .val (.int j)] => post (.int (o i j))
  | _ => False
theorem ok_int1 {o : Int → Int} : CallOk K (fun xs H Q => ∃ i, xs = [V.int i] ∧ Q (.int (o i)) H) (cInt1 o) := fun F H a fu vs rs post Q e t hf k => by
  unfold cInt1 at hf
  split at hf
  · exact ⟨_, t.i1, k _ _ H F hf (Gr.refl e) (.int _)⟩
  · exact hf.elim
theorem ok_int2 {o : Int → Int → Int} : CallOk K (fun xs H Q => ∃ i j, xs = [V.int i, V.int j] ∧ Q (.int (o i j)) H) (cInt2 o) := fun F H a fu vs rs post Q e t hf k => by
  unfold cInt2 at hf
  split at hf
  · exact ⟨_, _, t.i2, k _ _ H F hf (Gr.refl e) (.int _)⟩
  · exact hf.elim
/-- len -/
def cLen : CF := fun rs post => match rs with
  | [.val (.list ds)] => post (.int ds.length)
  | [.val (.tuple ds)] => post (.int ds.length)
  | [.val (.str x)] => x.length ≤ sizeLine ∧ post (.int x.length)
  | [.scr ns] => post (.int ns.length)
  | _ => False
theorem ok_len : CallOk K (fun xs H Q => ∃ x n, xs = [x] ∧ LenV K x H n ∧ Q (.int n) H) cLen := fun F H a fu vs rs post Q e t hf k => by
  unfold cLen at hf
  split at hf
  · rename_i ds
    obtain ⟨v, rfl, r⟩ := t.v1
    cases r with
    | lst sq m => exact ⟨_, _, rfl, .inl ⟨_, .inl (.inl (e _ _ sq)), m.len.symm⟩, k _ _ H F hf (Gr.refl e) (.int _)⟩
  · rename_i ds
    obtain ⟨v, rfl, r⟩ := t.v1
    cases r with
    | tup sq m => exact ⟨_, _, rfl, .inr ⟨_, ex_t e sq, m.len.symm⟩, k _ _ H F hf (Gr.refl e) (.int _)⟩
  · rename_i x
    obtain ⟨v, rfl, r⟩ := t.v1
    cases r
    exact ⟨_, _, rfl, ⟨hf.1, rfl⟩, k _ _ H F hf.2 (Gr.refl e) (.int _)⟩
  · rename_i ns
    cases t with
    | cons h t =>
      cases t
      obtain ⟨b, rfl, sq⟩ := h
      exact ⟨_, _, rfl, .inl ⟨_, ex_l e sq, (List.length_map ..).symm⟩, k _ _ H F hf (Gr.refl e) (.int _)⟩
  · exact hf.elim
/-- all of a list of bools -/
def boolsD : List Da → Option (List Bool)
  | [] => some []
  | .bool b :: r => (boolsD r).map (b :: ·)
  | _ :: _ => none
theorem bools_v {F : Hp} : ∀ {vs : List V} {ds : List Da} {bs : List Bool}, Rps K F vs ds → boolsD ds = some bs → vs = bs.map V.bl
  | _, _, _, .nil, h => by cases h; rfl
  | _, d :: ds, bs, .cons r t, h => by
    cases d with
    | bool b =>
      unfold boolsD at h
      cases q : boolsD ds with
      | none => rw [q] at h; cases h
      | some cs =>
        rw [q] at h
        cases h
        cases r
        rw [bools_v t q]
        rfl
    | _ => cases h
def cAll : CF := fun rs post => match rs with
  | [.val (.list ds)] => (match boolsD ds with | some bs => post (.bool (bs.all id)) | none => False)
  | _ => False
theorem ok_all : CallOk K (rAll K) cAll := fun F H a fu vs rs post Q e t hf k => by
  unfold cAll at hf
  split at hf
  · rename_i ds
    split at hf
    · rename_i bs q
      obtain ⟨v, rfl, r⟩ := t.v1
      cases r with
      | lst sq m =>
        rw [bools_v m q] at sq
        exact ⟨_, bs, rfl, .inl (.inl (e _ _ sq)), k _ _ H F hf (Gr.refl e) (.bl _)⟩
    · exact hf.elim
  · exact hf.elim
/-- tuple(..) -/
def cTuple : CF := fun rs post => match rs with
  | [.val (.list ds)] => post (.tuple ds)
  | [.val (.tuple ds)] => post (.tuple ds)
  | _ => False
theorem ok_tuple : CallOk K (fun xs H Q => ∃ p ys, xs = [V.ref p] ∧ ((SqL K H p ys ∧ ∀ l, H l = none → Q (.ref l) (upd H l (.tup ys))) ∨ (SqT K H p ys ∧ Q (.ref p) H))) cTuple := fun F H a fu vs rs post Q e t hf k => by
  unfold cTuple at hf
  split at hf
  · rename_i ds
    obtain ⟨v, rfl, r⟩ := t.v1
    cases r with
    | lst sq m =>
      rename_i pp xs
      refine ⟨_, _, rfl, .inl ⟨.inl (.inl (e _ _ sq)), fun l hl => ?_⟩⟩
      have gr := Gr.new (o := .tup xs) e hl
      exact k _ _ _ _ hf gr (.tup (.inl (.inl upd_same)) (m.up gr.f))
  · rename_i ds
    obtain ⟨v, rfl, r⟩ := t.v1
    cases r with
    | tup sq m => exact ⟨_, _, rfl, .inr ⟨ex_t e sq, k _ _ H F hf (Gr.refl e) (.tup sq m)⟩⟩
  · exact hf.elim
end
def tyD : Da → String
  | .none => "NoneType"
  | .bool _ => "bool"
  | .int _ => "int"
  | .str _ => "str"
  | .list _ => "list"
  | .tuple _ => "tuple"
  | .dict _ => "dict"
theorem ty_v {K : Fg} {F H : Hp} {v : V} {d : Da} (e : Ex F H) (r : Rp K F v d) : TyX K H v (.type (tyD d)) := by
  cases r with
  | non => exact .base .non
  | bl b => exact .base (.bl b)
  | int i => exact .base (.int i)
  | str x => exact .base (.str x)
  | lst sq m => exact .base (.lst (e _ _ sq))
  | tup sq m =>
    rcases sq with (h | ⟨o, h⟩) | ⟨o, its, n, h1, h2, _⟩
    · exact .base (.tup (e _ _ h))
    · exact .fTuple (e _ _ h)
    · exact .kTuple h1 h2
  | dct h _ =>
    rcases h with h | ⟨o, h⟩
    · exact .base (.dK (e _ _ h))
    · exact .fDict (e _ _ h)
def isTy (T : String) (d : Da) : Bool := match d with
  | .none => T == "NoneType"
  | .bool _ => T == "bool" || T == "int"
  | .int _ => T == "int"
  | .str _ => T == "str"
  | .list _ => T == "list"
  | .tuple _ => T == "tuple"
  | .dict _ => T == "dict"
def dIsi (T : String) (ta : DE) : DE := fun g Q => ta g fun r g1 => match r with
  | .val d => Q (.val (.bool (isTy T d))) g1
  | _ => False
section
variable {X : Cx} {x : Str} {p pos : Pos} {e c : Expr} {te : DE} {T : String}
theorem e_isi (hT : ∀ d : Da, kitB (tyD d) T = some (isTy T d)) (hg : Gl X "isinstance") (hm : X.mg "isinstance" = none) (he : PE X e (up X.K te)) (hc : PE X c (tC (.ty T)))
    (h1 : starEach [e, c] X.env = (false, eval e X.env) :: starEach [c] X.env := by rfl) (h2 : starEach [c] X.env = (false, eval c X.env) :: starEach [] X.env := by rfl) (hpl : (backTo pos (starEach [c] X.env)).any (·.1) = false := by rfl) :
    PE X (.Call (.Name "isinstance" p) [e, c] [] pos) (up X.K (dIsi T te)) := pe_to (pe_callB call_isi hg hm (by decide +kernel) (pa_cons he (pa_cons hc pa_nil h2) h1) (by decide) (by decide) h1 hpl) fun σ H Q q => by
  obtain ⟨c, g, tv, tr, F, ad, post, s, t, k⟩ := q
  refine ⟨c, g, tv, tr, F, ad, _, s, t, fun r g1 v H1 F1 a1 t1 s1 => ?_⟩
  cases r with
  | val d => exact ⟨_, _, _, _, isTy T d, rfl, .ty T, ty_v s1.eh s1.top, kit_ty (hT d), k _ g1 _ H1 F1 a1 t1 (s1.pop1.push (r := .val (.bool _)) (Rp.bl _))⟩
  | _ => exact t1.elim
end
theorem kit_int : ∀ d : Da, kitB (tyD d) "int" = some (isTy "int" d)
  | .none => (by decide +kernel : kitB "NoneType" "int" = some false)
  | .bool _ => (by decide +kernel : kitB "bool" "int" = some true)
  | .int _ => (by decide +kernel : kitB "int" "int" = some true)
  | .str _ => (by decide +kernel : kitB "str" "int" = some false)
  | .list _ => (by decide +kernel : kitB "list" "int" = some false)
  | .tuple _ => (by decide +kernel : kitB "tuple" "int" = some false)
  | .dict _ => (by decide +kernel : kitB "dict" "int" = some false)
theorem kit_bool : ∀ d : Da, kitB (tyD d) "bool" = some (isTy "bool" d)
  | .none => (by decide +kernel : kitB "NoneType" "bool" = some false)
  | .bool _ => (by decide +kernel : kitB "bool" "bool" = some true)
  | .int _ => (by decide +kernel : kitB "int" "bool" = some false)
  | .str _ => (by decide +kernel : kitB "str" "bool" = some false)
  | .list _ => (by decide +kernel : kitB "list" "bool" = some false)
  | .tuple _ => (by decide +kernel : kitB "tuple" "bool" = some false)
  | .dict _ => (by decide +kernel : kitB "dict" "bool" = some false)
theorem kit_str : ∀ d : Da, kitB (tyD d) "str" = some (isTy "str" d)
  | .none => (by decide +kernel : kitB "NoneType" "str" = some false)
  | .bool _ => (by decide +kernel : kitB "bool" "str" = some false)
  | .int _ => (by decide +kernel : kitB "int" "str" = some false)
  | .str _ => (by decide +kernel : kitB "str" "str" = some true)
  | .list _ => (by decide +kernel : kitB "list" "str" = some false)
  | .tuple _ => (by decide +kernel : kitB "tuple" "str" = some false)
  | .dict _ => (by decide +kernel : kitB "dict" "str" = some false)
theorem kit_tuple : ∀ d : Da, kitB (tyD d) "tuple" = some (isTy "tuple" d)
  | .none => (by decide +kernel : kitB "NoneType" "tuple" = some false)
  | .bool _ => (by decide +kernel : kitB "bool" "tuple" = some false)
  | .int _ => (by decide +kernel : kitB "int" "tuple" = some false)
  | .str _ => (by decide +kernel : kitB "str" "tuple" = some false)
  | .list _ => (by decide +kernel : kitB "list" "tuple" = some false)
  | .tuple _ => (by decide +kernel : kitB "tuple" "tuple" = some true)
  | .dict _ => (by decide +kernel : kitB "dict" "tuple" = some false)
def svOf : Rv → Option Sv := fun r => some (rsv r)
section
variable {P : Program} {w : World} {K : Fg} {mg : Str → Option Value} {base : Heap} {CX : CXT}
def ent (N : List Str) (rs : List Rv) (fu : Option Nat) : Gs := ⟨rs.map svOf ++ List.replicate (N.length - rs.length) none, fu, fu.isNone⟩
theorem Tm.len : ∀ {F : Hp} {a : Addr} {fu : Option Nat} {vs : List V} {rs : List Rv}, Tm K F a fu vs rs → vs.length = rs.length
  | _, _, _, _, _, .nil => rfl
  | _, _, _, _, _, .cons _ t => congrArg (· + 1) t.len
theorem Tm.get : ∀ {F : Hp} {a : Addr} {fu : Option Nat} {vs : List V} {rs : List Rv} {i : Nat} {r : Rv}, Tm K F a fu vs rs → rs[i]? = some r → ∃ v, vs[i]? = some v ∧ RvOk K F a fu v r
  | _, _, _, _, _, _, _, .nil, e => by simp at e
  | _, _, _, _, _, 0, _, .cons r _, e => by simp at e; subst e; exact ⟨_, rfl, r⟩
  | _, _, _, _, _, i + 1, r, .cons _ t, e => by
    obtain ⟨u, h1, h2⟩ := Tm.get (i := i) (r := r) t (by simpa using e)
    exact ⟨u, by simpa using h1, h2⟩
theorem sta_ent {N : List Str} {F H : Hp} {a : Addr} {fu : Option Nat} {vs : List V} {rs : List Rv} (e : Ex F H) (t : Tm K F a fu vs rs) (hs : ∀ n, fu = some n → F a = none ∧ SrcAt H a n) (tk : TabK K F H) :
    Sta K ⟨F, H, if fu = none then none else some a⟩ (ent N rs fu) (L2.start N vs) H [] [] F a := by
  have atS : ∀ (i : Nat) s, (ent N rs fu).sl[i]? = some (some s) → ∃ r, rs[i]? = some r ∧ s = rsv r := fun i s h => by
    have h' : (rs.map svOf ++ List.replicate (N.length - rs.length) none)[i]? = some (some s) := h
    by_cases hi : i < rs.length
    · rw [List.getElem?_append_left (by simpa using hi), List.getElem?_map, List.getElem?_eq_getElem hi] at h'
      cases h'
      exact ⟨_, List.getElem?_eq_getElem hi, rfl⟩
    · rw [List.getElem?_append_right (by simpa using hi), List.getElem?_replicate] at h'
      split at h' <;> cases h'
  have noO : ∀ (i : Nat) ds, (ent N rs fu).sl[i]? = some (some (.own ds)) → False := fun i ds h => by
    obtain ⟨r, _, e⟩ := atS i _ h
    cases r <;> cases e
  refine ⟨Ex.refl F, e, fun b o _ _ h => h, fun b h => .inl h, fun b h => ?_, fun h => ?_, fun n h => ?_, .nil, ?_, fun i s h => ?_, fun i j ds es _ h => (noO i ds h).elim, tk, .refl⟩
  · by_cases hf : fu = none
    · simp [hf] at h
    · simp [hf] at h
      exact ⟨h, hf⟩
  · have h' : fu = none := Option.isNone_iff_eq_none.mp h
    exact if_pos h'
  · have h' : fu = some n := h
    exact ⟨(hs n h').1, .inl (if_neg (ne_none h')), (hs n h').2⟩
  · unfold L2.start ent
    rw [List.length_append, List.length_append, List.length_map, List.length_map, t.len, List.length_replicate, List.length_replicate]
  · obtain ⟨r, h1, rfl⟩ := atS i s h
    obtain ⟨v, h2, h3⟩ := t.get h1
    have hi : i < vs.length := (List.getElem?_eq_some_iff.mp h2).1
    refine ⟨v, ?_, ?_⟩
    · unfold L2.start
      rw [List.getElem?_append_left (by simpa using hi), List.getElem?_map, h2]
      rfl
    · cases r <;> exact h3
/-- any wish: no rule of the body asks for one -/
def W0 : WX := fun _ _ _ _ => True
theorem fn_data {x qual : Str} {st : Stmt} {f : Addr} {fd : FuncData} {N ps : List Str} {k : Nat} {fs : FSp} (Fu : Fun K x qual st f fd) (S : FnScope N ps (defScope st)) (tb : DS)
    (hd : ∀ (cdv : Value) (A : Around) (outer : List Env) (s : Shared) (H : Hp) (E : XK), Room k (A.deeper (envOfC qual (defScope st) s.heap.objs.size f cdv)) → (A.deeper (envOfC qual (defScope st) s.heap.objs.size f cdv)).guards = some [] →
      PSs (cxOf CX P w K mg base N qual (defScope st) f cdv A outer s H E).nox (defBody st) (upS K W0 tb))
    (hb : ∀ rs fu post, rs.length = ps.length → fs rs fu post → tb ⟨fun g => post (.val .none) g.fu, fun r g => post r g.fu, fun _ => False, fun _ => False⟩ (ent N rs fu)) : Fn P w K mg base CX (k + 1) f fd ps (lift K ps.length fs) := by
  refine fn_by Fu S lift_len fun cdv A outer s H vs Q E hr hg h => ⟨_, (hd cdv A outer s H E hr hg).nox, ?_⟩
  obtain ⟨F, a, rs, fu, post, e, t, hl, hs, tk, hf, hq⟩ := h
  have st0 := sta_ent (N := N) e t hs tk
  have fin : ∀ {g : Gs} {σ : L2.St} {H' F' : Hp} {tv : List V} {tr : List Rv} {a' : Addr} {v : V} {r : Rr}, Sta K ⟨F, H, if fu = none then none else some a⟩ g σ H' tv tr F' a' → RrOk K F' H H' v r → Out K F H a fu g.fu F' H' v r := fun {g σ H' F' tv tr a' v r} s hr => by
    refine ⟨s.e0, s.eh, fun b o hb hn h => s.keep b o (fun z => ?_) hn h, s.new, fun hf => ?_, hr, s.tab, s.t0⟩
    · by_cases hf : fu = none
      · simp [hf] at z
      · simp [hf] at z
        exact hb hf z.symm
    · obtain ⟨e1, e2⟩ := s.ex a (if_neg hf)
      subst e1
      cases q : g.fu with
      | none => exact absurd q e2
      | some n => exact ⟨n, rfl, (s.src n q).1, (s.src n q).2.2⟩
  refine ⟨_, _, [], [], F, a, _, st0, rfl, hb rs fu post (by rw [← t.len]; exact hl) hf, ⟨fun g σ H' F' a' h s => ?_, fun g σ H' F' a' h s => h, fun g σ H' F' a' h s => h, fun x g σ v H' F' a' h s => ?_, fun ds g σ v H' F' a' h s n => ?_, fun nm z g σ H' F' a' cls dd h s ox => ?_⟩⟩
  · exact hq _ _ _ H' F' h (fin s (r := .val .none) Rp.non)
  · exact hq _ _ _ H' F' h (fin s (r := .val x) s.top)
  · obtain ⟨o, xs, q1, q2, q3, q4, q5, _⟩ := n.ex
    exact hq _ _ _ H' F' h (fin s (r := .own ds) ⟨o, xs, q1, q3, q2, q4, q5⟩)
  · exact True.intro
end
end Z
namespace Z
open L2 PySem PySem.Spec PyProof.Rows
open Evl (Ex ex_l ex_t ex_rd fresh_back)
/-- the table of the def that makes lambdas -/
def tabA (K : Fg) : List Addr := LAM.filterMap fun x => (PySem.W.tabIn K x).map Prod.snd
theorem tabA_of {K : Fg} {x : Str} {c P : Addr} (h1 : x ∈ LAM) (h2 : PySem.W.tabIn K x = some (c, P)) : P ∈ tabA K :=
  List.mem_filterMap.mpr ⟨x, h1, by rw [h2]; rfl⟩
theorem of_tabA {K : Fg} {P : Addr} (h : P ∈ tabA K) : ∃ x c, x ∈ LAM ∧ PySem.W.tabIn K x = some (c, P) := by
  obtain ⟨x, h1, h2⟩ := List.mem_filterMap.mp h
  cases r : PySem.W.tabIn K x with
  | none => rw [r] at h2; cases h2
  | some cp =>
    rw [r] at h2
    obtain ⟨c, P'⟩ := cp
    cases h2
    exact ⟨x, c, h1, r⟩
/-- what the making of lambdas asks of the base -/
def TbB (K : Fg) (mg : Str → Option Value) (base : Heap) : Prop := ∀ x c P, x ∈ LAM → PySem.W.tabIn K x = some (c, P) → LamX.TabB base mg c P
/-- what the end asks of the table -/
structure TbE (K : Fg) (mg : Str → Option Value) (h : Heap) : Prop where
  at' : ∀ x c P, x ∈ LAM → PySem.W.tabIn K x = some (c, P) → PySem.W.CodeHd h c P ∧ h.get? P = some (PySem.W.tabObj #[])
  no : ∀ x c P, x ∈ LAM → PySem.W.tabIn K x = some (c, P) → K.lookup P = none
  bm : ∃ (bm : Addr) (ob : Obj), mg "__builtins__" = some (.ref bm) ∧ bm ≠ builtinsNs ∧ h.get? bm = some ob ∧ ob.cls = .type "module" ∧ ob.dict = some builtinsNs ∧ ob.data = .plain
section
variable {P : Program} {w : World} {K : Fg} {mg mb : Str → Option Value} {k : Nat} {fa a : Addr} {fd : FuncData} {x : Str} {s₁ : Shared} {vs : List Value} {ns : List Int} {fs : FSp}
theorem end_at {F H : Hp} (KX : K.In s₁.heap) (hns : s₁.heap.Ns mainGlobals mg) (hb : s₁.heap.Ns builtinsNs mb) (hbb : ∀ x : Str, x ≠ "__name__" → mb x = bootBuiltins x) (hlim : s₁.heap.NoLimit) (hg : s₁.gens = #[])
    (ha : s₁.heap.get? a = some { cls := .type "list", data := .seq vs.toArray }) (hr : Room k callerA) (T : TbE K mg s₁.heap)
    (Fu : ∀ base : Heap, K.In base → base.Ns mainGlobals mg → TbB K mg base → Fn P w K mg base CX0 k fa fd [x] (lift K 1 fs)) (hbind : ∀ (s : Shared) (u : Value), BindsTo s fd ⟨[u], []⟩ [(x, u)])
    (hsp : fs [.scr ns] none fun r _ => r = .val (.bool true)) (hO : ∀ b, H b = none ∨ (b ∈ tabA K ∧ H b = some (.tbl #[])) ∨ ∃ ob xs, H b = some (.frz ob (.lst xs))) (hFH : Ex F H) (hFn : ∀ b, b ∈ tabA K → F b = none) (hH : ∀ b, b ∈ tabA K → H b = some (.tbl #[]))
    (hS : SqL K F a (ns.map V.int)) (hok : HOk P w H s₁.heap) (hA : ∀ b, H b ≠ none → b = a ∨ b ∈ tabA K) (hK : a ∉ tabA K → H a ≠ none → K.lookup a = none) :
    codeAny (model P w) callerA (.call (.ref fa) ⟨[.ref a], []⟩) (fun r s' => r = .ok (.ret (.bool true)) ∧ OldK s₁.heap s'.heap ∧ s'.os = s₁.os ∧ AllBare s'.gens) s₁ := by
  have tabAt : ∀ b, b ∈ tabA K → ∃ c, PySem.W.CodeHd s₁.heap c b ∧ s₁.heap.get? b = some (PySem.W.tabObj #[]) := fun b h => by
    obtain ⟨x, c, h1, h2⟩ := of_tabA h
    exact ⟨c, T.at' x c b h1 h2⟩
  have hide : ∀ {b : Addr} {o : Obj}, s₁.heap.get? b = some o → o.cls ≠ .none → (∀ vs n, o.data ≠ .seq vs n) → H b = none := fun {b o} e n1 n2 => by
    cases q : H b with
    | none => rfl
    | some u =>
      rcases hA b (ne_none q) with rfl | z
      · rw [ha] at e
        cases e
        exact absurd rfl (n2 _ _)
      · obtain ⟨_, _, z2⟩ := tabAt b z
        rw [e] at z2
        cases z2
        exact absurd rfl n1
  have hideD : ∀ {b : Addr} {o : Obj} {es : Array DictEntry} {ep : Nat}, s₁.heap.get? b = some o → o.data = .dict es ep → H b = none := fun {b o es ep} e d => by
    cases q : H b with
    | none => rfl
    | some u =>
      rcases hA b (ne_none q) with rfl | z
      · rw [ha] at e
        cases e
        cases d
      · obtain ⟨_, _, z2⟩ := tabAt b z
        rw [e] at z2
        cases z2
        cases d
  have nsK : ∀ {b : Addr} {m : Str → Option Value}, s₁.heap.Ns b m → (hidT s₁.heap H).Ns b m := fun {b m} z => by
    obtain ⟨o, es, ep, e, d, r⟩ := z
    exact ⟨o, es, ep, hidT_get e (hideD e d), d, r⟩
  have hKb : K.In (hidT s₁.heap H) := fun b o e => hidT_get (KX b o e) (by
    cases q : H b with
    | none => rfl
    | some u =>
      rcases hA b (ne_none q) with rfl | z
      · by_cases hz : b ∈ tabA K
        · obtain ⟨x, c, h1, h2⟩ := of_tabA hz
          rw [T.no x c b h1 h2] at e
          cases e
        · rw [hK hz (ne_none q)] at e
          cases e
      · obtain ⟨x, c, h1, h2⟩ := of_tabA z
        rw [T.no x c b h1 h2] at e
        cases e)
  have TB : TbB K mg (hidT s₁.heap H) := fun x c P' h1 h2 => by
    obtain ⟨hc, hP⟩ := T.at' x c P' h1 h2
    have dG : ∀ {b : Addr} {m : Str → Option Value}, s₁.heap.Ns b m → b ≠ P' := fun {b m} z e => by
      obtain ⟨o, es, ep, e1, d, _⟩ := z
      rw [e, hP] at e1
      cases e1
      cases d
    refine ⟨?_, ?_, dG hns⟩
    · obtain ⟨o, us, file, tf, flags, tg, inF, text, tt, e1, r1, r2, r3⟩ := hc
      exact ⟨o, us, file, tf, flags, tg, inF, text, tt, hidT_get e1 (hide e1 (by rw [r1]; exact fun z => nomatch z) fun vs n z => by rw [r2] at z; cases z), r1, r2, r3⟩
    · obtain ⟨bm, ob, b1, b2, b3, b4, b5, b6⟩ := T.bm
      refine ⟨bm, ob, b1, b2, fun e => ?_, fun e => ?_, hidT_get b3 (hide b3 (by rw [b4]; exact fun z => nomatch z) fun vs n z => by rw [b6] at z; cases z), b4, b5, b6⟩
      · obtain ⟨o, es, ep, e1, d, _⟩ := hns
        rw [e, e1] at b3
        cases b3
        rw [b6] at d
        cases d
      · rw [e, hP] at b3
        cases b3
        cases b4
  obtain ⟨mc, h1, h2⟩ := hlim
  have e0 : Env0 P w K mg (hidT s₁.heap H) callerA [] s₁ H :=
    { frames := rfl, mod := ⟨hKb, nsK hns, ⟨mb, nsK hb, hbb⟩, ⟨mc, nsK h1, h2⟩⟩, bs := fun b o e => of_hidT e, bsz := Nat.le_of_eq (hidT_size _ _), funs := trivial
      frf := fun b hb => absurd (show b ∈ ([] : List Addr) from hb) (by simp), hok := hok, bare := .of_eq hg }
  have pr : lift K 1 fs [.ref a] H (fun v _ => v = .bl true) fun _ _ _ => False :=
    ⟨F, a, [.scr ns], none, _, hFH, .cons ⟨a, rfl, hS⟩ .nil, rfl, fun n z => (by cases z), fun x c P' h1 h2 => ⟨⟨#[], hH P' (tabA_of h1 h2), trivial, fun pos cv hc => by have z : PySem.codeAmong pos [] = some cv := hc; simp [PySem.codeAmong] at z⟩, hFn P' (tabA_of h1 h2)⟩, hsp, fun r fu' v H' F' e o => by
      subst e
      have q : Rp K F' v (.bool true) := o.rep
      cases q
      rfl⟩
  refine codeAny_mono ((Fu _ hKb (nsK hns) TB).run callerA [] s₁ H ⟨[.ref a], []⟩ [.ref a] [.ref a] _ _ hr rfl e0 (hbind s₁ (.ref a)) (.cons rfl .nil) pr) fun r s' h => ?_
  match r, h with
  | .error e, h => exact False.elim h
  | .ok .next, h => exact False.elim h
  | .ok .brk, h => exact False.elim h
  | .ok .cont, h => exact False.elim h
  | .ok (.ret u), ⟨v, H', os, bare, un, hok', rv, q⟩ =>
    have q' : v = .bl true := q
    subst q'
    have ru : u = Value.bool true := rv
    subst ru
    have stay : ∀ b o, b ∉ tabA K → s₁.heap.get? b = some o → s'.heap.get? b = some o := fun b o nb e => by
      rcases hO b with z | ⟨z, _⟩ | ⟨ob, xs, z⟩
      · exact un.keep b o e z (fun z => absurd (show b ∈ ([] : List Addr) from z) (by simp)) (by simp)
      · exact absurd z nb
      · obtain ⟨e1, _⟩ := hok b _ z
        obtain ⟨e2, _⟩ := hok' b _ (un.frzs b ob _ z)
        rw [e] at e1
        cases e1
        exact e2
    have grew : ∀ b, b ∈ tabA K → ∃ more : Array Value, s'.heap.get? b = some { cls := .none, data := .fields more } := fun b hb => by
      obtain ⟨more, z⟩ := un.tbls b #[] (hH b hb)
      exact ⟨_, hok' b _ z⟩
    refine ⟨rfl, ⟨fun b o e => ?_, fun b o e => ?_⟩, os, bare⟩
    · by_cases hb : b ∈ tabA K
      · obtain ⟨c, z1, z2⟩ := tabAt b hb
        obtain ⟨more, z3⟩ := grew b hb
        rw [e] at z2
        cases z2
        exact .inr (.inl ⟨(z1.tab e).isCodeTable, rfl, #[], more, rfl, by rw [Array.empty_append]; exact z3⟩)
      · exact .inl (stay b o hb e)
    · by_cases hb : b ∈ tabA K
      · obtain ⟨more, z3⟩ := grew b hb
        exact ⟨_, z3⟩
      · exact ⟨o, stay b o hb e⟩
theorem end_call (KX : K.In s₁.heap) (hns : s₁.heap.Ns mainGlobals mg) (hb : s₁.heap.Ns builtinsNs mb) (hbb : ∀ x : Str, x ≠ "__name__" → mb x = bootBuiltins x) (hlim : s₁.heap.NoLimit) (hg : s₁.gens = #[])
    (ha : s₁.heap.get? a = some { cls := .type "list", data := .seq vs.toArray }) (hi : IntsAre vs ns) (hl : ns.length ≤ sizeLine) (hr : Room k callerA) (T : TbE K mg s₁.heap)
    (Fu : ∀ base : Heap, K.In base → base.Ns mainGlobals mg → TbB K mg base → Fn P w K mg base CX0 k fa fd [x] (lift K 1 fs)) (hbind : ∀ (s : Shared) (u : Value), BindsTo s fd ⟨[u], []⟩ [(x, u)])
    (hsp : fs [.scr ns] none fun r _ => r = .val (.bool true)) :
    codeAny (model P w) callerA (.call (.ref fa) ⟨[.ref a], []⟩) (fun r s' => r = .ok (.ret (.bool true)) ∧ OldK s₁.heap s'.heap ∧ s'.os = s₁.os ∧ AllBare s'.gens) s₁ := by
  have rv := vals_ints hi
  have aT : a ∉ tabA K := fun z => by
    obtain ⟨x, c, h1, h2⟩ := of_tabA z
    have := (T.at' x c a h1 h2).2
    rw [ha] at this
    cases this
  have tO : ∀ b, b ∈ tabA K → s₁.heap.get? b = some (PySem.W.tabObj #[]) := fun b z => by
    obtain ⟨x, c, h1, h2⟩ := of_tabA z
    exact (T.at' x c b h1 h2).2
  let tb : Hp := fun b => if b ∈ tabA K then some (.tbl #[]) else none
  have tbY : ∀ {b}, b ∈ tabA K → tb b = some (.tbl #[]) := fun h => if_pos h
  have tbN : ∀ {b}, b ∉ tabA K → tb b = none := fun h => if_neg h
  have tb_of : ∀ {b u}, tb b = some u → b ∈ tabA K ∧ u = .tbl #[] := fun {b u} h => by
    by_cases z : b ∈ tabA K
    · rw [tbY z] at h
      exact ⟨z, (Option.some.inj h).symm⟩
    · rw [tbN z] at h
      cases h
  cases hk : K.lookup a with
  | some o =>
    have e := KX a o hk
    rw [ha] at e
    cases e
    have sz : vs.toArray.size ≤ sizeLine := by rw [List.size_toArray, hi.length]; exact hl
    refine end_at (F := fun _ => none) (H := tb) KX hns hb hbb hlim hg ha hr T Fu hbind hsp (fun b => ?_) (fun b u z => by cases (show (none : Option HO) = some u from z)) (fun _ _ => rfl) (fun b z => tbY z) (.inr ⟨_, vs.toArray, _, hk, rfl, rfl, rfl, sz, by simpa using rv⟩) (fun b u z => ?_) (fun b z => ?_) fun _ z => absurd (tbN aT) z
    · by_cases z : b ∈ tabA K
      · exact .inr (.inl ⟨z, tbY z⟩)
      · exact .inl (tbN z)
    · obtain ⟨z1, rfl⟩ := tb_of z
      exact tO b z1
    · cases q : tb b with
      | none => exact absurd q z
      | some u => exact .inr (tb_of q).1
  | none =>
    let ob : Obj := { cls := .type "list", data := .seq vs.toArray }
    let sc : Hp := fun b => if b = a then some (HO.frz ob (.lst (ns.map V.int))) else none
    have scY : sc a = some (HO.frz ob (.lst (ns.map V.int))) := if_pos rfl
    have scN : ∀ {b}, b ≠ a → sc b = none := fun h => if_neg h
    have at_a : ∀ {b : Addr} {u : HO}, sc b = some u → b = a ∧ u = .frz ob (.lst (ns.map V.int)) := fun {b u} z => by
      by_cases h : b = a
      · rw [h, scY] at z
        exact ⟨h, (Option.some.inj z).symm⟩
      · rw [scN h] at z
        cases z
    have ne : ∀ {b}, b ∈ tabA K → b ≠ a := fun {b} z e => aT (by rw [← e]; exact z)
    let H : Hp := fun b => if b ∈ tabA K then some (.tbl #[]) else sc b
    have HY : ∀ {b}, b ∈ tabA K → H b = some (.tbl #[]) := fun h => if_pos h
    have HN : ∀ {b}, b ∉ tabA K → H b = sc b := fun h => if_neg h
    refine end_at (F := sc) (H := H) KX hns hb hbb hlim hg ha hr T Fu hbind hsp (fun b => ?_) (fun b u z => ?_) (fun b z => scN (ne z)) (fun b z => HY z) (.inl (.inr ⟨ob, scY⟩)) (fun b u z => ?_) (fun b z => ?_) fun _ _ => hk
    · by_cases z : b ∈ tabA K
      · exact .inr (.inl ⟨z, HY z⟩)
      · rw [HN z]
        by_cases h : b = a
        · exact .inr (.inr ⟨ob, _, by rw [h]; exact scY⟩)
        · exact .inl (scN h)
    · obtain ⟨rfl, rfl⟩ := at_a z
      rw [HN aT]
      exact z
    · by_cases z1 : b ∈ tabA K
      · rw [HY z1] at z
        cases z
        exact tO b z1
      · rw [HN z1] at z
        obtain ⟨rfl, rfl⟩ := at_a z
        exact ⟨ha, by rw [List.length_map]; exact hl, vs, _, rv, ha⟩
    · by_cases z1 : b ∈ tabA K
      · exact .inr z1
      · rw [HN z1] at z
        exact .inl (Classical.byContradiction fun h => z (scN h))
end
/-- the maker's table as the head leaves it -/
def TbH (K : Fg) (h : Heap) : Prop := ∀ x c P, x ∈ LAM → PySem.W.tabIn K x = some (c, P) → (PySem.W.CodeHd h c P ∧ h.get? P = some (PySem.W.tabObj #[])) ∧ K.lookup P = none
theorem tbH_no {K : Fg} {h : Heap} (e : LAM = []) : TbH K h := fun x c P e1 => by rw [e] at e1; cases e1
theorem end_of {l : PySem.W.OpenLaw} {n k : Nat} {q : Program} {loose : List Str} {XP : (Str → Option Value) → Heap → Prop} {YP : World → Heap → Prop} {d : DefRec} {K : Params → PySem.W.Frag} {fs : FSp} {x : Str}
    (hn : l.most = some n) (hn2 : n ≤ sizeLine) (hdf : d.params.defaults = []) (hr : Room k callerA) (hY : ∀ (w : World) (h : Heap), YP w h → (K w.params).In h)
    (Fu : ∀ (w : World) (mg : Str → Option Value) (fa : Addr) (h : Heap), YP w h → (K w.params).In h → h.Ns mainGlobals mg → mg d.name = some (.ref fa) →
      ∃ fd : FuncData, (∀ (s : Shared) (u : Value), BindsTo s fd ⟨[u], []⟩ [(x, u)]) ∧ TbH (K w.params) h ∧ ∀ base : Heap, (K w.params).In base → base.Ns mainGlobals mg → TbB (K w.params) mg base → Fn l.prog w (K w.params) mg base CX0 k fa fd [x] (lift (K w.params) 1 fs))
    (hsp : ∀ ns : List Int, ns.length ≤ n → fs [.scr ns] none fun r _ => r = .val (.bool true)) : PySem.W.WalkO q loose XP YP l.row.toRowW d [] (fun f vs => PySem.call f vs) := by
  refine Att.attach_call hn hdf fun w s₀ s₁ mg mb fa o pm cd doc a vs ns G Y ho hd hcd hmg hobj hints hlen hg => ?_
  obtain ⟨fd, hb, hT, hF⟩ := Fu w mg fa _ Y (hY w _ Y) G.T.g hmg
  exact end_call (hY w _ Y) G.T.g G.T.b G.T.builtins G.T.nolimit hg hobj hints (Nat.le_trans hlen hn2) hr ⟨fun x c P e1 e2 => (hT x c P e1 e2).1, fun x c P e1 e2 => (hT x c P e1 e2).2, G.T.bmain⟩ hF hb (hsp ns hlen)
end Z
namespace Z
open L2 PySem PySem.Spec PyProof.Rows
open Evl (Ex ex_l ex_t ex_rd fresh_back)
variable {Wx : WX}
def SrcD (ds : List Da) (n : Nat) : Prop := ∃ x y z : Int, ds = [.int x, .int y, .int z] ∧ 0 ≤ x ∧ x < 2 ^ 1000 ∧ 0 ≤ y ∧ y < modS ∧ 0 ≤ z ∧ z + n ≤ 2 ^ 40
def noSrc : Option Sv → Option Sv
  | some .src => none
  | x => x
/-- f(a new source, constants ..) -/
def dCallS (np n : Nat) (fs : FSp) (tl : DL) (rs : List Rv) : DE := fun g Q => tl g fun ds g1 => SrcD ds n ∧ rs.length + 1 = np ∧ fs (.src :: rs) (some n) fun r _ => Q (rrv r) g1
section
variable {K : Fg} {c : Con} {g : Gs} {σ : L2.St} {H F H' F' : Hp} {tv : List V} {tr : List Rv} {a : Addr}
theorem Rps.three {xs : List V} {x y z : Int} (h : Rps K F xs [.int x, .int y, .int z]) : xs = [.int x, .int y, .int z] := by
  cases h with
  | cons h1 h =>
    cases h with
    | cons h2 h =>
      cases h with
      | cons h3 h =>
        cases h
        cases h1
        cases h2
        cases h3
        rfl
theorem SrcD.at {ds : List Da} {n : Nat} (h : SrcD ds n) {o : Addr} {xs : List V} (hH : H o = some (.lst xs)) (m : Rps K F xs ds) : SrcAt H o n := by
  obtain ⟨x, y, z, rfl, h⟩ := h
  rw [m.three] at hH
  exact ⟨x, y, z, hH, h⟩
/-- behind a call that had a source of its own -/
theorem Sta.after2 (s : Sta K c g σ H tv tr F a) {v u : V} {r : Rr} {ds : List Da} {n : Nat} {fu' : Option Nat} {o : Addr} (h : NewL K c g σ H F a (.ref o) ds) (ou : Out K F H o (some n) fu' F' H' u r) : Sta K c g σ H' tv tr F' a := by
  obtain ⟨o', xs, eo, q2, q3, q4, q5, q6, q7⟩ := h.ex
  cases eo
  have keepN : ∀ b x, b ≠ o → NT x → H b = some x → H' b = some x := fun b x hb hn e => ou.keep b x (fun _ => hb) hn e
  have oldF : ∀ b, H b ≠ none → F b = none → F' b = none := fun b h1 h2 => by
    cases q : F' b with
    | none => rfl
    | some u =>
      rcases ou.new b (ne_none q) with z | z
      · exact absurd h2 z
      · exact absurd z h1
  refine ⟨s.e0.trans ou.f, ou.s, fun b x z1 hn z2 => keepN b x (fun z => by rw [z, q3] at z2; cases z2) hn (s.keep b x z1 hn z2), fun b q => ?_, s.ex, s.ow, fun m hm => ?_, s.tmp.up ou.f, s.len, fun j sv hj => ?_, s.dis, ou.tk, s.tab.trans ou.tab⟩
  · rcases ou.new b q with z | z
    · exact s.new b z
    · exact .inr (s.fresh z)
  · obtain ⟨z1, z2, x, y, z, e, z3⟩ := s.src m hm
    exact ⟨oldF a (ne_none e) z1, z2, x, y, z, keepN a _ (fun w => q6 (ne_none hm) w.symm) (fun _ z => by cases z) e, z3⟩
  · obtain ⟨w, h1, h2⟩ := s.slot j sv hj
    refine ⟨w, h1, ?_⟩
    cases sv with
    | val d => exact Rp.up h2 ou.f
    | src => exact h2
    | scr ns => obtain ⟨b, z1, z2⟩ := h2; exact ⟨b, z1, ex_l ou.f z2⟩
    | ob k => exact ObOk.up ou.f h2
    | own es =>
      obtain ⟨p, ys, r1, r2, r3, r4, r5, r6⟩ := h2
      exact ⟨p, ys, r1, oldF p (ne_none r4) r2, r3, keepN p _ (fun z => q7 j es hj (by rw [h1, r1, z])) (fun _ z => by cases z) r4, r5.up ou.f, r6⟩
end
section
variable {X : Cx} {e : Expr} {tl : DL} {pos : Pos}
variable {CX : CXT} {k : Nat} {f : Addr} {fd : FuncData} {ps : List Str} {fs : FSp} {x : Str} {p : Pos} {es : List Expr} {np : Nat} {E : XK} {vs : List V} {rs : List Rv}
theorem e_callS (n : Nat) (G : Fn X.prog X.w X.K X.mg X.base CX k f fd ps (lift X.K np fs)) (hr : Room k X.A) (hgd : X.A.guards = some []) (hg : Gl X x) (hm : X.mg x = some (.ref f)) (hk : PySem.W.keepIn X.K (.ref f) = true) (hb : Binds X.K fd ps []) (hx : Passes CX X E)
    (he : PE X e (upL X.K tl)) (hes : PA X es fun _ H Q => Q vs H) (hvs : ∀ F a fu, Tm X.K F a fu vs rs) (hdb : (x == ("__debug__" : Str)) = false := by decide) (hs : starEach (e :: es) X.env = (false, eval e X.env) :: starEach es X.env := by rfl)
    (hpl : (backTo pos (starEach es X.env)).any (·.1) = false := by rfl) : PE X (.Call (.Name x p) (e :: es) [] pos) (up X.K (dCallS np n fs tl rs)) := pe_to (pe_fn G hr hgd hg hm hk hb hx (pa_cons he hes hs) hdb hs hpl) fun σ H Q q => by
  obtain ⟨c, g, tv, tr, F, a, post, s, t, k⟩ := q
  refine ⟨c, g, tv, tr, F, a, _, s, t, fun ds g1 v H1 F1 a1 t1 s1 n1 => ?_⟩
  obtain ⟨o, xs, rfl, q2, q3, q4, q5, q6, q7⟩ := n1.ex
  refine ⟨F1, o, .src :: rs, some n, _, s1.eh, .cons ⟨rfl, fun z => nomatch z⟩ (hvs F1 o _), ?_, fun m hm => ?_, s1.tabk, t1.2.2, fun r fu' v H' F' hp ou => ?_⟩
  · have := (hvs F1 o none).len
    rw [List.length_cons, this]; exact t1.2.1
  · cases hm
    exact ⟨q2, t1.1.at q4 q5⟩
  · have s2 := s1.after2 (v := v) n1 ou
    cases r with
    | val d => exact k _ _ v H' F' a1 hp (s2.push (r := .val d) ou.rep)
    | exc _ _ => exact ou.rep.elim
    | own es =>
      obtain ⟨F'', s4⟩ := s2.still (NewL.of s1 rfl id ou.rep)
      exact k _ _ v H' F'' a1 hp s4
theorem as_nil : PA X [] fun _ H Q => Q [] H := pa_nil
end
section
variable {X : Cx} {x : Str} {p pos : Pos} {e e2 : Expr} {tr : DA}
theorem e_len (hg : Gl X "len") (hm : X.mg "len" = none) (ha : PA X [e] (upA X.K tr)) (he : starEach [e] X.env = (false, eval e X.env) :: starEach [] X.env := by rfl) : PE X (.Call (.Name "len" p) [e] [] pos) (up X.K (dCB cLen tr)) := e_callB call_len ok_len hg hm PySem.boot_len ha (by decide) (by decide) he rfl
theorem e_abs (hg : Gl X "abs") (hm : X.mg "abs" = none) (ha : PA X [e] (upA X.K tr)) (he : starEach [e] X.env = (false, eval e X.env) :: starEach [] X.env := by rfl) : PE X (.Call (.Name "abs" p) [e] [] pos) (up X.K (dCB (cInt1 fun i => if i < 0 then -i else i) tr)) := e_callB call_abs ok_int1 hg hm (by decide +kernel) ha (by decide) (by decide) he rfl
theorem e_max (hc : X.calm = true) (hg : Gl X "max") (hm : X.mg "max" = none) (ha : PA X [e, e2] (upA X.K tr)) (he : starEach [e, e2] X.env = (false, eval e X.env) :: starEach [e2] X.env := by rfl) (hpl : (backTo pos (starEach [e2] X.env)).any (·.1) = false := by rfl) :
    PE X (.Call (.Name "max" p) [e, e2] [] pos) (up X.K (dCB (cInt2 fun i j => if j > i then j else i) tr)) := e_callB (call_max2 hc) ok_int2 hg hm (by decide +kernel) ha (by decide) (by decide) he hpl
theorem e_min (hc : X.calm = true) (hg : Gl X "min") (hm : X.mg "min" = none) (ha : PA X [e, e2] (upA X.K tr)) (he : starEach [e, e2] X.env = (false, eval e X.env) :: starEach [e2] X.env := by rfl) (hpl : (backTo pos (starEach [e2] X.env)).any (·.1) = false := by rfl) :
    PE X (.Call (.Name "min" p) [e, e2] [] pos) (up X.K (dCB (cInt2 fun i j => if j < i then j else i) tr)) := e_callB (call_min2 hc) ok_int2 hg hm (by decide +kernel) ha (by decide) (by decide) he hpl
theorem e_all (hc : X.calm = true) (hg : Gl X "all") (hm : X.mg "all" = none) (ha : PA X [e] (upA X.K tr)) (he : starEach [e] X.env = (false, eval e X.env) :: starEach [] X.env := by rfl) : PE X (.Call (.Name "all" p) [e] [] pos) (up X.K (dCB cAll tr)) := e_callB (cr_all hc) ok_all hg hm (by decide +kernel) ha (by decide) (by decide) he rfl
theorem e_tuple (hg : Gl X "tuple") (hm : X.mg "tuple" = none) (ha : PA X [e] (upA X.K tr)) (he : starEach [e] X.env = (false, eval e X.env) :: starEach [] X.env := by rfl) : PE X (.Call (.Name "tuple" p) [e] [] pos) (up X.K (dCB cTuple tr)) := e_callTy call_tuple_of ok_tuple hg hm (by decide +kernel) ha (by decide) (by decide) he rfl
theorem e_glob {v : V} {u : Value} {d : Da} (hg : Gl X x) (hm : X.mg x = some u) (r : RelV v u) (hr : ∀ F, Rp X.K F v d) (hd : (x == ("__debug__" : Str)) = false := by decide) : PE X (.Name x pos) (up X.K (dC d)) := e_c (pe_glob hg hm r hd) hr
theorem c_ty {T : String} (hg : Gl X x) (hm : X.mg x = none) (hv : bootBuiltins x = some (.type T)) (hn : x ≠ "__name__" := by decide) (hd : (x == ("__debug__" : Str)) = false := by decide) : PE X (.Name x pos) (tC (.ty T)) := pe_bltn hg hm hv rfl hn hd
end
end Z
namespace Z
open L2 PySem PySem.Spec PyProof.Rows
open Evl (Ex ex_l ex_t ex_rd fresh_back)
abbrev oSub : BinF := fI0 fun i j => .int (i - j)
abbrev oMul : BinF := fI CMulX fun i j => .int (i * j)
abbrev oDiv : BinF := fI CDivW fun i j => .int (i / j)
abbrev oMod : BinF := fI (fun _ j => 0 < j) fun i j => .int (i % j)
abbrev oShl : BinF := fI CShl fun i j => .int (i * 2 ^ j.toNat)
abbrev oPow : BinF := fI CPowX fun i j => .int (i ^ j.toNat)
abbrev oLt : BinF := fI0 fun i j => .bool (decide (i < j))
abbrev oLe : BinF := fI0 fun i j => .bool (decide (i ≤ j))
abbrev oGt : BinF := fI0 fun i j => .bool (decide (j < i))
abbrev oGe : BinF := fI0 fun i j => .bool (decide (j ≤ i))
abbrev oAbs : CF := cInt1 fun i => if i < 0 then -i else i
abbrev oMax : CF := cInt2 fun i j => if j > i then j else i
abbrev oMin : CF := cInt2 fun i j => if j < i then j else i
theorem test_core {K : Fg} {t : DE} {σ : L2.St} {H : Hp} {Q : Bool → Hp → Prop} (q : upT K (dTest t) σ H Q) : up K t σ H fun x H1 => ∃ k, x = .bl k ∧ Q k H1 := by
  obtain ⟨c, g, tv, tr, F, ad, post, s, t1, k⟩ := q
  refine ⟨c, g, tv, tr, F, ad, _, s, t1, fun r g1 v1 H1 F1 a1 h1 s1 => ?_⟩
  cases r with
  | val d =>
    cases d with
    | bool b => exact ⟨b, s1.top.bl rfl, k b g1 H1 F1 a1 h1 s1.pop1⟩
    | _ => exact h1.elim
  | _ => exact h1.elim
section
variable {X : Cx} {a b c : Expr} {ta tb tc : DE} {pos : Pos}
theorem t_cmp {op : CmpOp} {r : R2} {f : BinF} (ho : OpR X (compareOp op) r) (hf : BinOk X.K r f) (ha : PE X a (up X.K ta)) (hb : PE X b (up X.K tb)) (hm : behindInMarks op b = false) : PT X (.Compare a [op] [b] pos) (upT X.K (dTest (dBin f ta tb))) :=
  pt_to (pt_cmpR ho ha hb hm) fun σ H Q q => bin_core hf σ H _ (test_core q)
theorem t_lt (ha : PE X a (up X.K ta)) (hb : PE X b (up X.K tb)) : PT X (.Compare a [.Lt] [b] pos) (upT X.K (dTest (dBin oLt ta tb))) := t_cmp op_lt ok_I0b ha hb (nomark _)
theorem t_gt (ha : PE X a (up X.K ta)) (hb : PE X b (up X.K tb)) : PT X (.Compare a [.Gt] [b] pos) (upT X.K (dTest (dBin oGt ta tb))) := t_cmp op_gt ok_I0b ha hb (nomark _)
theorem t_ge (ha : PE X a (up X.K ta)) (hb : PE X b (up X.K tb)) : PT X (.Compare a [.GtE] [b] pos) (upT X.K (dTest (dBin oGe ta tb))) := t_cmp op_ge ok_I0b ha hb (nomark _)
theorem t_eq (hu : X.A.units + 64 < cLine) (ha : PE X a (up X.K ta)) (hb : PE X b (up X.K tb)) : PT X (.Compare a [.Eq] [b] pos) (upT X.K (dTest (dBin fEq ta tb))) :=
  t_cmp (op_eqD hu) (fun F H x y d e post Q hx r1 r2 hf k => ⟨d, e, r1.dp hx d x (shaped_lay hf.1), r2.dp hx e y (shaped_lay hf.2.1), hf.1, hf.2.1, k _ _ H F hf.2.2 (Gr.refl hx) (.bl _)⟩) ha hb (nomark _)
theorem t_ne (hu : X.A.units + 64 < cLine) (ha : PE X a (up X.K ta)) (hb : PE X b (up X.K tb)) : PT X (.Compare a [.NotEq] [b] pos) (upT X.K (dTest (dBin fNe ta tb))) :=
  t_cmp (op_neD hu) (fun F H x y d e post Q hx r1 r2 hf k => ⟨d, e, r1.dp hx d x (shaped_lay hf.1), r2.dp hx e y (shaped_lay hf.2.1), hf.1, hf.2.1, k _ _ H F hf.2.2 (Gr.refl hx) (.bl _)⟩) ha hb (nomark _)
theorem t_in (ha : PE X a (up X.K ta)) (hb : PE X b (up X.K tb)) (hm : behindInMarks .In b = false := by rfl) : PT X (.Compare a [.In] [b] pos) (upT X.K (dTest (dBin (fIn false) ta tb))) := t_cmp op_in_seq ok_in ha hb hm
theorem isn_core {neg : Bool} {σ : L2.St} {H : Hp} {Q : VK} (q : up X.K (dIsN neg ta) σ H Q) : up X.K ta σ H fun x H1 => Q (.bl (if neg then !decide (x = .non) else decide (x = .non))) H1 := by
  obtain ⟨c, g, tv, tr, F, ad, post, s, t1, k⟩ := q
  refine ⟨c, g, tv, tr, F, ad, _, s, t1, fun r g1 v1 H1 F1 a1 h1 s1 => ?_⟩
  cases r with
  | val d =>
    have hr : Rp X.K F1 v1 d := s1.top
    rw [non_v hr]
    exact k _ g1 _ H1 F1 a1 h1 (s1.pop1.push (r := .val (.bool _)) (Rp.bl _))
  | _ => exact h1.elim
theorem t_isN {j : Nat} {pos' : Pos} (ha : PE X a (up X.K ta)) : PT X (.Compare a [.Is] [.Constant .none j pos'] pos) (upT X.K (dTest (dIsN false ta))) := pt_to (pt_cmpR op_isN ha pe_non (nomark _)) fun σ H Q q => by
  obtain ⟨c, g, tv, tr, F, ad, post, s, t1, k⟩ := isn_core (test_core q)
  exact ⟨c, g, tv, tr, F, ad, post, s, t1, fun r g1 v1 H1 F1 a1 h1 s1 => ⟨rfl, k r g1 v1 H1 F1 a1 h1 s1⟩⟩
end
/-- a pair of ints -/
abbrev num (n d : Int) : Da := .tuple [.int n, .int d]
theorem atI_0 {α : Type} {x0 : α} {xs : List α} : atI (x0 :: xs) 0 = some x0 := by
  unfold atI ixN
  rw [if_pos (by decide), if_pos (by simp only [List.length_cons]; omega)]
  rfl
theorem atI_1 {α : Type} {x0 x1 : α} {xs : List α} : atI (x0 :: x1 :: xs) 1 = some x1 := by
  unfold atI ixN
  rw [if_pos (by decide), if_pos (by simp only [List.length_cons]; omega)]
  rfl
theorem atI_2 {α : Type} {x0 x1 x2 : α} {xs : List α} : atI (x0 :: x1 :: x2 :: xs) 2 = some x2 := by
  unfold atI ixN
  rw [if_pos (by decide), if_pos (by simp only [List.length_cons]; omega)]
  rfl
theorem atI_3 {α : Type} {x0 x1 x2 x3 : α} {xs : List α} : atI (x0 :: x1 :: x2 :: x3 :: xs) 3 = some x3 := by
  unfold atI ixN
  rw [if_pos (by decide), if_pos (by simp only [List.length_cons]; omega)]
  rfl
theorem atI_4 {α : Type} {x0 x1 x2 x3 x4 : α} {xs : List α} : atI (x0 :: x1 :: x2 :: x3 :: x4 :: xs) 4 = some x4 := by
  unfold atI ixN
  rw [if_pos (by decide), if_pos (by simp only [List.length_cons]; omega)]
  rfl
theorem atI_5 {α : Type} {x0 x1 x2 x3 x4 x5 : α} {xs : List α} : atI (x0 :: x1 :: x2 :: x3 :: x4 :: x5 :: xs) 5 = some x5 := by
  unfold atI ixN
  rw [if_pos (by decide), if_pos (by simp only [List.length_cons]; omega)]
  rfl
theorem eqv_ii (i j : Int) : (PyData.int i).eqv (.int j) = decide (i = j) := by
  simp only [PyData.eqv]
  rw [Bool.eq_iff_iff]
  simp
theorem eqv_ss (x y : Str) : (PyData.str x).eqv (.str y) = decide (x = y) := by
  simp only [PyData.eqv]
  rw [Bool.eq_iff_iff]
  simp
theorem eqv_num (a b c d : Int) : (PyData.tuple [.int a, .int b]).eqv (.tuple [.int c, .int d]) = (decide (a = c) && decide (b = d)) := by
  simp only [PyData.eqv, PyData.eqvAll]
  rw [Bool.eq_iff_iff]
  simp
theorem shaped_int (i : Int) : SeqAt.shaped (.int i) = true := rfl
theorem shaped_num (i j : Int) : SeqAt.shaped (.tuple [.int i, .int j]) = true := rfl
theorem shaped_none : SeqAt.shaped .none = true := rfl
theorem flat_str (x : Str) : flatD (.str x) = true := rfl
theorem flat_int (x : Int) : flatD (.int x) = true := rfl
theorem flat_none : flatD .none = true := rfl
/-- less than n bits -/
structure Bn (n : Nat) (i : Int) : Prop where
  lt : i.natAbs < 2 ^ n
theorem bits_lt {i : Int} {n : Nat} (h : Bn n i) : Builtin.Int.intBits i ≤ n := by
  unfold Builtin.Int.intBits
  split
  · exact Nat.zero_le _
  · rename_i h0
    have h1 : i ≠ 0 := fun z => h0 (by rw [z]; rfl)
    have : i.natAbs.log2 < n := (Nat.log2_lt (by omega)).mpr h.lt
    omega
theorem Bn.mono {n m : Nat} {i : Int} (h : Bn n i) (hm : n ≤ m) : Bn m i := ⟨Nat.lt_of_lt_of_le h.lt (Nat.pow_le_pow_right (by decide) hm)⟩
theorem Bn.le {n : Nat} {i j : Int} (h : Bn n j) (h0 : 0 ≤ i) (h1 : i ≤ j) : Bn n i := ⟨by have := h.lt; omega⟩
theorem Bn.mul {a b : Nat} {i j : Int} (ha : Bn a i) (hb : Bn b j) : Bn (a + b) (i * j) := ⟨by
  rw [Int.natAbs_mul, Nat.pow_add]
  exact Nat.mul_lt_mul'' ha.lt hb.lt⟩
theorem Bn.add {a : Nat} {i j : Int} (ha : Bn a i) (hb : Bn a j) : Bn (a + 1) (i + j) := ⟨by
  have h1 := ha.lt
  have h2 := hb.lt
  have h3 := Int.natAbs_add_le i j
  rw [Nat.pow_succ]
  omega⟩
theorem Bn.neg {a : Nat} {i : Int} (ha : Bn a i) : Bn a (-i) := ⟨by rw [Int.natAbs_neg]; exact ha.lt⟩
theorem Bn.sub {a : Nat} {i j : Int} (ha : Bn a i) (hb : Bn a j) : Bn (a + 1) (i - j) := by
  rw [Int.sub_eq_add_neg]
  exact ha.add hb.neg
theorem Bn.pow2 {n m : Nat} (h : n < m) : Bn m ((2 : Int) ^ n) := ⟨by
  rw [Int.natAbs_pow]
  exact Nat.pow_lt_pow_right (by decide) h⟩
theorem Bn.small {m : Nat} {i : Int} (h1 : -18446744073709551616 < i) (h2 : i < 18446744073709551616) (hm : 64 ≤ m) : Bn m i := by
  have e : (2 : Nat) ^ 64 = 18446744073709551616 := by decide
  exact Bn.mono (n := 64) ⟨by rw [e]; omega⟩ hm
theorem mulX {i j : Int} (a b : Nat) (ha : Bn a i) (hb : Bn b j) (h : a + b ≤ 134217728) : CMulX i j := by
  have h1 := bits_lt ha
  have h2 := bits_lt hb
  unfold CMulX
  omega
theorem shlX {i j : Int} (a : Nat) (ha : Bn a i) (h0 : 0 ≤ j) (h : (a : Int) + j ≤ 134217728) : CShl i j := by
  have h1 := bits_lt ha
  refine ⟨h0, ?_⟩
  have e : (2 : Int) ^ 27 = 134217728 := by decide
  rw [e]
  omega
theorem divX {i j : Int} (b : Nat) (h0 : 0 < j) (hb : Bn b j) (h9 : b ≤ 9000) : CDivW i j := wide_div h0 (Bn.mono hb h9).lt (by decide) (Nat.le_refl _)
theorem pow2_pos (n : Nat) : (0 : Int) < 2 ^ n := Int.pow_pos (by decide)
theorem shlB {i : Int} {a n : Nat} (ha : Bn a i) : Bn (a + n + 1) (i * 2 ^ n) := by
  have := ha.mul (Bn.pow2 (n := n) (m := n + 1) (by omega))
  exact this.mono (by omega)
end Z
namespace Z
open L2 PySem PySem.Spec PyProof.Rows
/-- by the number of turns gone -/
theorem forD_ix {t : DG} {tb : DS} {d : DEnds} (I : Nat → Gs → Prop) : ∀ {ds : List Da} {g : Gs} {k : Nat}, (∀ (i : Nat) x, ds[i]? = some x → ∀ g, I (k + i) g → ∀ N : Gs → Prop, (∀ g', I (k + i + 1) g' → N g') → t (.val x) g fun g1 => tb { d with nx := N, ct := N, bk := d.nx } g1) →
    (∀ g, I (k + ds.length) g → d.nx g) → I k g → forD t tb ds d g
  | [], g, k, _, hd, h => hd g h
  | x :: xs, g, k, hs, hd, h => hs 0 x rfl g h (forD t tb xs d) fun g' h' => forD_ix I (k := k + 1) (fun i y hy g2 h2 N hN => hs (i + 1) y (by simpa using hy) g2 (by rw [show k + (i + 1) = k + 1 + i by omega]; exact h2) N (fun g3 h3 => hN g3 (by rw [show k + 1 + i + 1 = k + (i + 1) + 1 by omega]; exact h3)))
      (fun g2 h2 => hd g2 (by rw [List.length_cons, show k + (xs.length + 1) = k + 1 + xs.length by omega]; exact h2)) h'
theorem fuN_self (fu : Option Nat) : fuN fu fu = fu := by cases fu <;> rfl
/-- a comprehension whose element is a plain function of the item -/
theorem lc_map {sl : List (Option Sv)} {i : Nat} {te : DE} (f : Da → Da) {Q : List Da → Option Nat → Prop} {fu : Option Nat} : ∀ {ds acc : List Da},
    (∀ x ∈ ds, ∀ R : Rv → Gs → Prop, (∀ g3 : Gs, g3.fu = fu → R (.val (f x)) g3) → te (Gs.set ⟨sl, fu, false⟩ i (.val x)) R) → acc.length + ds.length ≤ 1000000 → Q (acc ++ ds.map f) fu → lcD sl (dN i) dYes te ds acc fu Q
  | [], acc, _, _, h => by rw [List.map_nil, List.append_nil] at h; exact h
  | x :: xs, acc, hs, hl, h => by
    refine ⟨fun _ => hs x List.mem_cons_self _ fun g3 e => ⟨?_, ?_⟩, fun z => nomatch z⟩
    · rw [List.length_cons] at hl; omega
    · rw [e, fuN_self]
      refine lc_map f (fun y hy => hs y (List.mem_cons_of_mem _ hy)) ?_ ?_
      · rw [List.length_cons] at hl
        rw [List.length_append, List.length_cons, List.length_nil]
        omega
      · rw [List.append_assoc]
        exact h
theorem gcd_step {a b : Int} (ha : 0 ≤ a) (hb : 0 < b) : Int.gcd b (a % b) = Int.gcd a b := by
  obtain ⟨n, rfl⟩ := Int.eq_ofNat_of_zero_le ha
  obtain ⟨m, rfl⟩ := Int.eq_ofNat_of_zero_le (Int.le_of_lt hb)
  rw [← Int.natCast_emod, Int.gcd_natCast_natCast, Int.gcd_natCast_natCast, Nat.gcd_comm n m, Nat.gcd_rec m n, Nat.gcd_comm]
theorem gcd_pos {a b : Int} (hb : 0 < b) : 0 < (Int.gcd a b : Int) := by
  have := Int.gcd_pos_of_ne_zero_right a (show b ≠ 0 by omega)
  omega
theorem gcd_le {a b : Int} (hb : 0 < b) : (Int.gcd a b : Int) ≤ b := by
  have h : (Int.gcd a b : Int) ∣ b := Int.gcd_dvd_right a b
  exact Int.le_of_dvd hb h
def low (n d : Int) : Int × Int := (n / Int.gcd n d, d / Int.gcd n d)
def lowD (n d : Int) : Da := num (low n d).1 (low n d).2
def bl (i : Int) : Int := (Builtin.Int.intBits i : Nat)
/-- times 2 ** f, as two ints -/
def scI (n d f : Int) : Int × Int := (n * 2 ^ f.toNat, d * 2 ^ (-f).toNat)
def powI (k e : Int) : Int × Int := low (scI k 1 e).1 (scI k 1 e).2
def cellI (n d w : Int) : Int × Int :=
  if 2 ^ w.toNat ≤ (scI n d (0 - (bl n - bl d - w))).1 / (scI n d (0 - (bl n - bl d - w))).2 then ((scI n d (0 - (bl n - bl d - w + 1))).1 / (scI n d (0 - (bl n - bl d - w + 1))).2, bl n - bl d - w + 1)
  else ((scI n d (0 - (bl n - bl d - w))).1 / (scI n d (0 - (bl n - bl d - w))).2, bl n - bl d - w)
def posI (n d w : Int) : Int × Int :=
  low ((scI n d (0 - (cellI n d w).2)).1 - (cellI n d w).1 * (scI n d (0 - (cellI n d w).2)).2) (scI n d (0 - (cellI n d w).2)).2
/-- the six rules -/
inductive Ru where | dn | hd | he | hu | od | up
  deriving DecidableEq
def Ru.s : Ru → Str
  | .dn => "down"
  | .hd => "half_down"
  | .he => "half_even"
  | .hu => "half_up"
  | .od => "odd"
  | .up => "up"
theorem shaped_ru (r : Ru) : SeqAt.shaped (.str r.s) = true := by cases r <;> decide +kernel
abbrev nm (p : Int × Int) : Da := num p.1 p.2
end Z
namespace Z
open L2 PySem PySem.Spec PyProof.Rows
theorem scI_pos {n d f : Int} (hn : 0 < n) (hd : 0 < d) : 0 < (scI n d f).1 ∧ 0 < (scI n d f).2 := ⟨Int.mul_pos hn (pow2_pos _), Int.mul_pos hd (pow2_pos _)⟩
end Z
namespace Z
open L2 PySem PySem.Spec PyProof.Rows
open Evl (Ex ex_l ex_t ex_rd fresh_back)
mutual
/-- at most so long is its text -/
def szD : Da → Nat
  | .none => 4
  | .bool _ => 5
  | .int _ => 1921
  | .str x => 10 * x.length + 2
  | .list xs => szAll xs + 3
  | .tuple xs => szAll xs + 3
  | .dict _ => 0
def szAll : List Da → Nat
  | [] => 0
  | x :: xs => szD x + 2 + szAll xs
end
theorem strOk_small {x : Str} (h : PyData.strOk x = true) : ∀ c ∈ x.cps.toList, c < 16 ^ 8 := fun c hc => by
  unfold PyData.strOk at h
  rw [Array.all_eq_true_iff_forall_mem] at h
  have h1 := h c (by simpa using hc)
  have h2 : c < 0x110000 := of_decide_eq_true h1
  exact Nat.lt_trans h2 (by decide)
mutual
theorem szD_ok : ∀ d : Da, d.canLay0 = true → d.showable = true → d.shown.length ≤ szD d
  | .none, _, _ => by decide +kernel
  | .bool true, _, _ => by decide +kernel
  | .bool false, _, _ => by decide +kernel
  | .int i, _, h => int_text_len_1921 (of_decide_eq_true (show decide (i.natAbs.log2 < 1920) = true from h))
  | .str x, h, _ => StrLaws.reprText_len x (strOk_small h)
  | .list xs, h, h' => by
    have h1 := szAll_ok xs (by simpa [PyData.canLay0] using h) (by simpa [PyData.showable] using h')
    have h2 := listText_len_le (PyData.shownAll xs)
    show (listText (PyData.shownAll xs)).length ≤ szAll xs + 3
    omega
  | .tuple xs, h, h' => by
    have h1 := szAll_ok xs (by simpa [PyData.canLay0] using h) (by simpa [PyData.showable] using h')
    have h2 := tupleText_len_le (PyData.shownAll xs)
    show (tupleText (PyData.shownAll xs)).length ≤ szAll xs + 3
    omega
  | .dict _, h, _ => by simp [PyData.canLay0] at h
theorem szAll_ok : ∀ xs : List Da, PyData.canLayAll0 xs = true → PyData.showableAll xs = true → ((PyData.shownAll xs).map (·.length)).sum + 2 * (PyData.shownAll xs).length ≤ szAll xs
  | [], _, _ => by simp [PyData.shownAll, szAll]
  | x :: xs, h, h' => by
    have q : x.canLay0 = true ∧ PyData.canLayAll0 xs = true := by simpa [PyData.canLayAll0] using h
    have q' : x.showable = true ∧ PyData.showableAll xs = true := by simpa [PyData.showableAll] using h'
    have h1 := szD_ok x q.1 q'.1
    have h2 := szAll_ok xs q.2 q'.2
    simp only [PyData.shownAll, szAll, List.map_cons, List.sum_cons, List.length_cons]
    omega
end
/-- may be shown -/
def Sh (d : Da) : Prop := d.canLay0 = true ∧ d.showable = true ∧ d.depth ≤ 60 ∧ szD d ≤ 16000000
theorem Sh.len {d : Da} (h : Sh d) : d.shown.length ≤ sizeLine := Nat.le_trans (szD_ok d h.1 h.2.1) (Nat.le_trans h.2.2.2 (by decide))
def pick {α : Type} (perm : List Nat) (ws : List α) : List α := perm.filterMap fun i => ws[i]?
theorem Vals.pick {zs : List V} {ws : List Value} (h : Vals zs ws) : ∀ perm : List Nat, Vals (pick perm zs) (pick perm ws)
  | [] => .nil
  | i :: perm => by
    have ih := Vals.pick h perm
    unfold Z.pick at ih ⊢
    rw [List.filterMap_cons, List.filterMap_cons]
    cases q : zs[i]? with
    | none =>
      rw [Vals.none_of h q]
      exact ih
    | some x =>
      obtain ⟨u, h1, h2⟩ := Vals.get h q
      rw [h1]
      exact .cons h2 ih
theorem Tm.pick {K : Fg} {F : Hp} {a : Addr} {fu : Option Nat} {vs : List V} {rs : List Rv} (h : Tm K F a fu vs rs) : ∀ perm : List Nat, Tm K F a fu (pick perm vs) (pick perm rs)
  | [] => .nil
  | i :: perm => by
    have ih := Tm.pick h perm
    unfold Z.pick at ih ⊢
    rw [List.filterMap_cons, List.filterMap_cons]
    cases q : rs[i]? with
    | none =>
      have : vs[i]? = none := by
        have hl := h.len
        rw [List.getElem?_eq_none_iff] at q ⊢
        omega
      rw [this]
      exact ih
    | some x =>
      obtain ⟨u, h1, h2⟩ := h.get q
      rw [h1]
      exact .cons h2 ih
def KB (fd : FuncData) (ps ks : List Str) (perm : List Nat) : Prop := ∀ (s : Shared) (ws : List Value), ws.length = ks.length → BindsTo s fd ⟨[], ks.zip ws⟩ (ps.zip (pick perm ws))
theorem kb_of {K : Fg} {x qual : Str} {st : Stmt} {f : Addr} {fd : FuncData} {ps ks : List Str} {perm : List Nat} (Fu : Fun K x qual st f fd)
    (h : ∀ (kV doc pm : Value) (an : Option Addr) (cdv ct : Value) (ws : List Value), ws.length = ks.length → bindArgs (PySem.W.fnOf x qual (defArgs st) (defBody st) (defScope st) .none kV doc pm an cdv ct) ⟨[], ks.zip ws⟩ = pure (ps.zip (pick perm ws))) : KB fd ps ks perm := by
  obtain ⟨oc, od, kV, doc, pm, an, cdv, ct, osl, rfl, lk, hcd⟩ := Fu.ex
  exact fun s ws hl => .of_eq (h kV doc pm an cdv ct ws hl)
def dCallK (np nk : Nat) (perm : List Nat) (fs : FSp) (ta : DA) : DE := fun g Q => ta g fun rs g1 => rs.length = nk ∧ (pick perm rs).length = np ∧ hasSrc (pick perm rs) = false ∧ fs (pick perm rs) none fun r _ => Q (rrv r) g1
section
variable {X : Cx} {CX : CXT} {k : Nat} {f : Addr} {fd : FuncData} {ps ks : List Str} {fs : FSp} {E : XK} {x : Str} {p pos kpos : Pos} {e : Expr} {kws : List Keyword} {te : DE} {tr : DA} {nm : Option Str} {np : Nat} {perm : List Nat}
theorem k_nil : PK X [] (upA X.K dNil) := ⟨fun pos pins s σ H Q I q => by
  obtain ⟨c, g, tv, tr, F, ad, post, st, t, k⟩ := q
  exact pk_nil.run pos pins s σ H Q I (k [] g [] H F ad t st rfl)⟩
theorem k_cons (h : PE X e (up X.K te)) (hr : PK X kws (upA X.K tr)) : PK X (⟨nm, e, kpos⟩ :: kws) (upA X.K (dCons te tr)) := ⟨fun pos pins s σ H Q I q => by
  refine (pk_cons (nm := nm) (kpos := kpos) h hr).run pos pins s σ H Q I ?_
  obtain ⟨c, g, tv, tr, F, ad, post, s, t, k⟩ := q
  refine ⟨c, g, tv, tr, F, ad, _, s, t, fun x g1 v1 H1 F1 a1 t1 s1 => ?_⟩
  refine ⟨c, g1, _, _, F1, a1, _, s1, t1, fun xs g2 vs H2 F2 a2 t2 s2 hl => ?_⟩
  refine k (x :: xs) g2 (v1 :: vs) H2 F2 a2 t2 ?_ (by simp [hl])
  rw [List.reverse_cons, List.reverse_cons, List.append_assoc, List.append_assoc]
  exact s2⟩
theorem e_callK (G : Fn X.prog X.w X.K X.mg X.base CX k f fd ps (lift X.K np fs)) (hr : Room k X.A) (hgd : X.A.guards = some []) (hg : Gl X x) (hm : X.mg x = some (.ref f)) (hk : PySem.W.keepIn X.K (.ref f) = true) (hb : KB fd ps ks perm) (hx : Passes CX X E)
    (hkw : PK X kws (upA X.K tr)) (hall : (backToKw pos (keywordEach kws X.env)).all (·.1.isSome) = true := by rfl) (hks : (backToKw pos (keywordEach kws X.env)).filterMap (·.1) = ks := by rfl) (hdb : (x == ("__debug__" : Str)) = false := by decide)
    (hpl : ((backTo pos (starEach [] X.env)).any (·.1) || (backToKw pos (keywordEach kws X.env)).any (·.1.isNone)) = false := by rfl) : PE X (.Call (.Name x p) [] kws pos) (up X.K (dCallK np ks.length perm fs tr)) := by
  refine ⟨fun pins s σ H Q I q => ?_⟩
  refine wpAny_Call_Name_kw (ld_glob I hg hm ?_ hdb)
  refine PySem.W.callWith_KW0 (h₀ := X.base) I.ok.mod.kin hk hall (thn (hkw.run pos pins s σ H (fun vs H1 => vs.length = ks.length ∧ lift X.K np fs (pick perm vs) H1 Q E) I ?_) fun us s1 ⟨vs, H1, I1, r, hn, q1⟩ => ⟨I1.kIn, ?_⟩) hpl
  · obtain ⟨c, g, tv, tr, F, ad, post, s, t, k⟩ := q
    refine ⟨c, g, tv, tr, F, ad, _, s, t, fun rs g1 vs H1 F1 a1 t1 s1 hl => ?_⟩
    obtain ⟨hk, hn, hs, t1⟩ := t1
    obtain ⟨m1, m2⟩ := s1.tmp.args hl
    have s2 := s1.pop m2
    have mp := m1.pick perm
    refine ⟨by rw [hl]; exact hk, F1, a1, _, none, _, s1.eh, mp.noSrc hs, by rw [mp.len]; exact hn, fun n h => by (cases h), s1.tabk, t1, fun r fu' v H' F' hp o => ?_⟩
    have s3 := s2.after0 o
    cases r with
    | val d => exact k _ _ v H' F' a1 hp (s3.push (r := .val d) o.rep)
    | exc _ _ => exact o.rep.elim
    | own ds =>
      obtain ⟨F'', s4⟩ := s3.still (NewL.of s2 rfl id o.rep)
      exact k _ _ v H' F'' a1 hp s4
  · rw [hks]
    refine wpAny_call (codeAny_mono (fn_run G hr hgd hx I1 (hb s1 us (by rw [← r.length]; exact hn)) (Vals.pick r perm) q1) fun r s' hq => ?_)
    match r, hq with
    | .error e, hq => exact hq
    | .ok (.ret u), hq => exact hq
    | .ok .next, hq => exact hq.elim
    | .ok .brk, hq => exact hq.elim
    | .ok .cont, hq => exact hq.elim
end
end Z
namespace Z
open L2 PySem PySem.Spec PyProof.Rows
open Evl (Ex ex_l ex_t ex_rd fresh_back)
def Cps (x : Str) : Prop := ∀ c ∈ x.cps.toList, c < 0x110000
theorem cps_ok {x : Str} : PyData.strOk x = true ↔ Cps x := by
  unfold PyData.strOk Cps
  rw [Array.all_eq_true_iff_forall_mem]
  simp
theorem cps_of (s : String) : Cps (Str.ofString s) := by
  rw [Str.ofString_eq_toList]
  intro c hc
  simp only [List.mem_map] at hc
  obtain ⟨ch, _, rfl⟩ := hc
  have := ch.valid
  show ch.val.toNat < _
  rcases this with h | h
  · exact Nat.lt_trans h (by decide)
  · exact h.2
theorem cps_app {x y : Str} (hx : Cps x) (hy : Cps y) : Cps (x ++ y) := by
  intro c hc
  have : c ∈ (x.cps ++ y.cps).toList := hc
  rw [Array.toList_append, List.mem_append] at this
  exact this.elim (hx c) (hy c)
theorem cps_char {q c : Nat} (hq : q < 0x110000) (hc : c < 0x110000) : ∀ k ∈ Builtin.Str.reprChar q c, k < 0x110000 := by
  have hh : ∀ (w : Nat), ∀ k ∈ List.replicate (w - ((Nat.toDigits 16 c).map Char.toNat).length) 48 ++ (Nat.toDigits 16 c).map Char.toNat, k < 0x110000 := fun w k hk => by
    rw [List.mem_append] at hk
    rcases hk with h | h
    · have := (List.mem_replicate.mp h).2; omega
    · obtain ⟨ch, _, rfl⟩ := List.mem_map.mp h
      have := ch.valid
      show ch.val.toNat < _
      rcases this with h | h
      · exact Nat.lt_trans h (by decide)
      · exact h.2
  intro k hk
  unfold Builtin.Str.reprChar at hk
  dsimp only at hk
  repeat' split at hk
  all_goals first
    | (simp only [List.mem_append, List.mem_cons, List.not_mem_nil, or_false] at hk; omega)
    | (rw [List.mem_append] at hk
       rcases hk with h | h
       · (simp only [List.mem_cons, List.not_mem_nil, or_false] at h; omega)
       · exact hh _ k h)
theorem cps_fold {q : Nat} (hq : q < 0x110000) : ∀ (l : List Nat) (acc : Array Nat), (∀ c ∈ l, c < 0x110000) → (∀ c ∈ acc.toList, c < 0x110000) → ∀ c ∈ (l.foldl (fun out c => out ++ (Builtin.Str.reprChar q c).toArray) acc).toList, c < 0x110000
  | [], _, _, ha => ha
  | x :: l, acc, hl, ha => by
    rw [List.foldl_cons]
    refine cps_fold hq l _ (fun c hc => hl c (List.mem_cons_of_mem _ hc)) fun c hc => ?_
    rw [Array.toList_append, List.mem_append] at hc
    rcases hc with h | h
    · exact ha c h
    · exact cps_char hq (hl x List.mem_cons_self) c (by simpa using h)
theorem cps_repr {x : Str} (h : Cps x) : Cps (reprText x) := by
  have hq : reprQuote x < 0x110000 := by unfold reprQuote; split <;> decide
  intro c hc
  unfold reprText at hc
  rw [Array.toList_push, List.mem_append, ← Array.foldl_toList] at hc
  rcases hc with hc | hc
  · refine cps_fold hq _ _ h (fun d hd => ?_) c hc
    have : d = reprQuote x := by simpa using hd
    omega
  · have : c = reprQuote x := by simpa using hc
    omega
theorem cps_text : ∀ (ts : List Str) (k : Nat) (acc : Str), Cps acc → (∀ t ∈ ts, Cps t) → Cps (textFrom k acc ts)
  | [], _, _, ha, _ => ha
  | t :: ts, k, acc, ha, h => cps_text ts (k + 1) _ (cps_app (cps_app ha (cps_of _)) (h t List.mem_cons_self)) fun u hu => h u (List.mem_cons_of_mem _ hu)
theorem cps_join {sep : Str} (hs : Cps sep) : ∀ ts : List Str, (∀ t ∈ ts, Cps t) → Cps (Str.join sep ts)
  | [], _ => fun c hc => by simp [Str.join, Str.empty] at hc
  | [x], h => h x List.mem_cons_self
  | x :: y :: r, h => cps_app (cps_app (h x List.mem_cons_self) hs) (cps_join hs (y :: r) fun t ht => h t (List.mem_cons_of_mem _ ht))
mutual
theorem cps_shown : ∀ d : Da, d.canLay0 = true → Cps d.shown
  | .none, _ => cps_of _
  | .bool b, _ => by cases b <;> exact cps_of _
  | .int i, _ => cps_of _
  | .str x, h => cps_repr (cps_ok.mp (by simpa [PyData.canLay0] using h))
  | .list xs, h => cps_app (cps_text _ _ _ (cps_of _) (cps_all xs (by simpa [PyData.canLay0] using h))) (cps_of _)
  | .tuple xs, h => cps_app (cps_app (cps_of _) (cps_join (cps_of _) _ (cps_all xs (by simpa [PyData.canLay0] using h)))) (cps_of _)
  | .dict _, h => by simp [PyData.canLay0] at h
theorem cps_all : ∀ xs : List Da, PyData.canLayAll0 xs = true → ∀ t ∈ PyData.shownAll xs, Cps t
  | [], _, t, ht => by simp [PyData.shownAll] at ht
  | x :: xs, h, t, ht => by
    have q : x.canLay0 = true ∧ PyData.canLayAll0 xs = true := by simpa [PyData.canLayAll0] using h
    rcases List.mem_cons.mp (show t ∈ x.shown :: PyData.shownAll xs from ht) with rfl | ht
    · exact cps_shown x q.1
    · exact cps_all xs q.2 t ht
end
theorem shaped_str {x : Str} (h : Cps x) : SeqAt.shaped (.str x) = true := by
  have h1 : PyData.canLay0 (.str x) = true := cps_ok.mpr h
  unfold SeqAt.shaped
  rw [h1]
  rfl
theorem shaped_strs {x y : Str} (hx : Cps x) (hy : Cps y) : SeqAt.shaped (.list [.str x, .str y]) = true := by
  have h1 : PyData.canLay0 (.list [.str x, .str y]) = true := by
    have a : PyData.strOk x = true := cps_ok.mpr hx
    have b : PyData.strOk y = true := cps_ok.mpr hy
    simp [PyData.canLay0, PyData.canLayAll0, a, b]
  unfold SeqAt.shaped
  rw [h1]
  rfl
theorem eqv_strs (a b c d : Str) : (PyData.list [.str a, .str b]).eqv (.list [.str c, .str d]) = (decide (a = c) && decide (b = d)) := by
  simp [PyData.eqv, PyData.eqvAll]
  by_cases h1 : a = c <;> by_cases h2 : b = d <;> simp [h1, h2]
theorem showI {n : Int} (h : Bn 1900 n) : n.natAbs.log2 < 1920 := by
  by_cases h0 : n.natAbs = 0
  · rw [h0]; decide
  · exact (Nat.log2_lt h0).mpr (Nat.lt_trans h.lt (Nat.pow_lt_pow_right (by decide) (by decide)))
theorem Sh.num {n d : Int} (hn : Bn 1900 n) (hd : Bn 1900 d) : Sh (Z.num n d) := by
  refine ⟨rfl, ?_, by show 1 ≤ 60; decide, by show 1921 + 2 + (1921 + 2 + 0) + 3 ≤ 16000000; decide⟩
  have := showI hn
  have := showI hd
  simp [PyData.showable, PyData.showableAll, *]
theorem Sh.int {n : Int} (hn : Bn 1900 n) : Sh (.int n) := by
  refine ⟨rfl, ?_, by show 0 ≤ 60; decide, by show 1921 ≤ 16000000; decide⟩
  have := showI hn
  simp [PyData.showable, *]
theorem Sh.none : Sh .none := ⟨rfl, rfl, by decide, by decide⟩
theorem Sh.bool (b : Bool) : Sh (.bool b) := ⟨rfl, rfl, by show 0 ≤ 60; decide, by show 5 ≤ 16000000; decide⟩
theorem pick_0 {α : Type} (a : α) : pick [0] [a] = [a] := rfl
theorem pick_01 {α : Type} (a b : α) : pick [0, 1] [a, b] = [a, b] := rfl
theorem pick_10 {α : Type} (a b : α) : pick [1, 0] [a, b] = [b, a] := rfl
theorem pick_012 {α : Type} (a b c : α) : pick [0, 1, 2] [a, b, c] = [a, b, c] := rfl
theorem pick_021 {α : Type} (a b c : α) : pick [0, 2, 1] [a, b, c] = [a, c, b] := rfl
theorem pick_102 {α : Type} (a b c : α) : pick [1, 0, 2] [a, b, c] = [b, a, c] := rfl
theorem pick_120 {α : Type} (a b c : α) : pick [1, 2, 0] [a, b, c] = [b, c, a] := rfl
theorem pick_201 {α : Type} (a b c : α) : pick [2, 0, 1] [a, b, c] = [c, a, b] := rfl
theorem pick_210 {α : Type} (a b c : α) : pick [2, 1, 0] [a, b, c] = [c, b, a] := rfl
theorem boolsD_true : ∀ ds : List Da, boolsD (ds.map fun _ => .bool true) = some (ds.map fun _ => true)
  | [] => rfl
  | d :: ds => by
    have := boolsD_true ds
    simp [boolsD, this]
theorem rangeD_mem {lo : Int} {n : Nat} {x : Da} (h : x ∈ rangeD lo n) : ∃ i : Int, x = .int i ∧ lo ≤ i ∧ i < lo + n := by
  unfold rangeD at h
  obtain ⟨i, hi, rfl⟩ := List.mem_map.mp h
  have := List.mem_range.mp hi
  exact ⟨_, rfl, by omega, by omega⟩
theorem all_true (ds : List Da) : (ds.map fun _ => true).all id = true := by
  induction ds with
  | nil => rfl
  | cons d ds ih => simpa using ih
theorem low_pos {n d : Int} (hn : 0 < n) (hd : 0 < d) : 0 < (low n d).1 ∧ 0 < (low n d).2 ∧ Int.gcd (low n d).1 (low n d).2 = 1 ∧ (low n d).1 ≤ n ∧ (low n d).2 ≤ d := by
  have g0 := gcd_pos (a := n) hd
  have d1 : (Int.gcd n d : Int) ∣ n := Int.gcd_dvd_left n d
  have d2 : (Int.gcd n d : Int) ∣ d := Int.gcd_dvd_right n d
  refine ⟨Int.ediv_pos_of_pos_of_dvd hn (Int.le_of_lt g0) d1, Int.ediv_pos_of_pos_of_dvd hd (Int.le_of_lt g0) d2, ?_, Int.ediv_le_self _ (Int.le_of_lt hn), Int.ediv_le_self _ (Int.le_of_lt hd)⟩
  show Int.gcd (n / Int.gcd n d) (d / Int.gcd n d) = 1
  exact Int.gcd_ediv_gcd_ediv_gcd (by omega)
end Z
namespace Z
open L2 PySem PySem.Spec PyProof.Rows
end Z
namespace Z
open L2 PySem PySem.Spec PyProof.Rows
open Evl (Ex ex_l ex_t ex_rd fresh_back)
/-- the remainder of a * x lies between l and h -/
def Hit (a m l h x : Int) : Prop := l ≤ a * x % m ∧ a * x % m ≤ h
/-- the least int from 0 on that hits -/
def LM (a m l h : Int) : Option Int → Prop
  | some x => 0 ≤ x ∧ Hit a m l h x ∧ ∀ y, 0 ≤ y → Hit a m l h y → x ≤ y
  | none => ∀ y, 0 ≤ y → ¬Hit a m l h y
/-- rounded up -/
def upI' (n d : Int) : Int := -(-n / d)
theorem up_iff {n d x : Int} (hd : 0 < d) : upI' n d ≤ x ↔ n ≤ d * x := by
  unfold upI'
  have h1 := Int.ediv_mul_le (-n) (show d ≠ 0 by omega)
  have h2 := Int.lt_ediv_add_one_mul_self (-n) hd
  generalize -n / d = q at h1 h2 ⊢
  have e1 : (q + 1) * d = q * d + d := by grind
  rw [e1] at h2
  constructor
  · intro h
    have : (-q) * d ≤ x * d := Int.mul_le_mul_of_nonneg_right h (by omega)
    have e2 : (-q) * d = -(q * d) := by grind
    have e3 : x * d = d * x := by grind
    omega
  · intro h
    apply Int.not_lt.mp
    intro hc
    have : (x + 1) * d ≤ (-q) * d := Int.mul_le_mul_of_nonneg_right (by omega) (by omega)
    have e2 : (-q) * d = -(q * d) := by grind
    have e3 : (x + 1) * d = d * x + d := by grind
    omega
theorem up_lt {n d : Int} (hd : 0 < d) : d * (upI' n d - 1) < n ∧ n ≤ d * upI' n d := by
  refine ⟨?_, (up_iff hd).mp (Int.le_refl _)⟩
  apply Int.not_le.mp
  intro h
  have := (up_iff (x := upI' n d - 1) hd).mpr h
  omega
theorem up_eq {n d x : Int} (hd : 0 < d) (h1 : d * (x - 1) < n) (h2 : n ≤ d * x) : upI' n d = x := by
  have a := (up_iff hd).mpr h2
  have b : ¬upI' n d ≤ x - 1 := fun h => absurd ((up_iff hd).mp h) (by omega)
  omega
theorem mod_of {t q r m : Int} (h : t = m * q + r) (h0 : 0 ≤ r) (h1 : r < m) : t % m = r ∧ t / m = q := by
  have hm : 0 < m := by omega
  have e : t % m = r := by
    rw [h, Int.add_comm, Int.add_mul_emod_self_left, Int.emod_eq_of_lt h0 h1]
  refine ⟨e, ?_⟩
  have := Int.mul_ediv_add_emod t m
  rw [e] at this
  have h3 : m * (t / m) = m * q := by omega
  exact Int.eq_of_mul_eq_mul_left (by omega) h3
theorem hit_of {a m l h x y : Int} (h0 : 0 < l) (hm : h < m) (h1 : l ≤ a * x - m * y) (h2 : a * x - m * y ≤ h) : Hit a m l h x := by
  have := (mod_of (t := a * x) (q := y) (r := a * x - m * y) (m := m) (by omega) (by omega) (by omega)).1
  unfold Hit
  rw [this]
  exact ⟨h1, h2⟩
theorem hit_to {a m l h x : Int} (H : Hit a m l h x) : l ≤ a * x - m * (a * x / m) ∧ a * x - m * (a * x / m) ≤ h := by
  have := Int.mul_ediv_add_emod (a * x) m
  unfold Hit at H
  omega
/-- no multiple lies in it: what is left for the smaller problem -/
theorem lm_step {a m l h : Int} (ha : 0 < a) (h0 : 0 < l) (hl : l ≤ h) (hm : h < m) (hf : h < a * upI' l a) :
    (0 < -h % a ∧ -h % a ≤ -l % a ∧ -l % a < a) ∧ (∀ r, LM (m % a) a (-h % a) (-l % a) r → LM a m l h (r.map fun y => upI' (l + m * y) a)) := by
  obtain ⟨u1, u2⟩ := up_lt (n := l) ha
  generalize hc : upI' l a = c at u1 u2 hf
  have e1 : a * (c - 1) = a * c - a := by grind
  rw [e1] at u1
  -- the interval, from the multiple above it
  have m1 : -l % a = a * c - l := (mod_of (q := -c) (by grind) (by omega) (by omega)).1
  have m2 : -h % a = a * c - h := (mod_of (q := -c) (by grind) (by omega) (by omega)).1
  rw [m1, m2]
  have b1 : 0 < a * c - h := by omega
  have b2 : a * c - h ≤ a * c - l := by omega
  have b3 : a * c - l < a := by omega
  refine ⟨⟨b1, b2, b3⟩, ?_⟩
  have hm' := Int.mul_ediv_add_emod m a
  generalize hq : m / a = q at hm'
  generalize hk : m % a = k at hm'
  have k0 : 0 ≤ k := by rw [← hk]; exact Int.emod_nonneg _ (by omega)
  -- from a hit of the smaller problem
  have up1 : ∀ y, 0 ≤ y → Hit k a (a * c - h) (a * c - l) y → ∃ x, 0 ≤ x ∧ l ≤ a * x - m * y ∧ a * x - m * y ≤ h := fun y y0 hy => by
    obtain ⟨t1, t2⟩ := hit_to hy
    generalize hu : k * y / a = u at t1 t2
    have u0 : 0 ≤ u := by rw [← hu]; exact Int.ediv_nonneg (Int.mul_nonneg k0 y0) (by omega)
    have q0 : 0 ≤ q := by rw [← hq]; exact Int.ediv_nonneg (by omega) (by omega)
    have c0 : 0 ≤ c := by
      apply Int.not_lt.mp
      intro hc
      have : a * c ≤ a * 0 := Int.mul_le_mul_of_nonneg_left (by omega) (by omega)
      omega
    have x0 : 0 ≤ q * y := Int.mul_nonneg q0 y0
    have ex : a * (u + q * y + c) - m * y = a * u + a * c - k * y := by rw [← hm']; grind
    exact ⟨u + q * y + c, by omega, by omega, by omega⟩
  have down : ∀ x y, l ≤ a * x - m * y → a * x - m * y ≤ h → Hit k a (a * c - h) (a * c - l) y := fun x y t1 t2 => by
    have ex : a * x - m * y = a * (x - q * y) - k * y := by rw [← hm']; grind
    have ez : k * y - a * (x - q * y - c) = k * y - a * (x - q * y) + a * c := by grind
    exact hit_of (y := x - q * y - c) b1 (by omega) (by omega) (by omega)
  intro r hr
  cases r with
  | none =>
    intro x x0 hx
    obtain ⟨t1, t2⟩ := hit_to hx
    by_cases hy : 0 ≤ a * x / m
    · exact hr _ hy (down _ _ t1 t2)
    · exact absurd (Int.ediv_nonneg (Int.mul_nonneg (Int.le_of_lt ha) x0) (by omega)) hy
  | some y =>
    obtain ⟨y0, hy, hmin⟩ := hr
    obtain ⟨x, x0, t1, t2⟩ := up1 y y0 hy
    have ee : upI' (l + m * y) a = x := by
      have e3 : a * (x - 1) = a * x - a := by grind
      exact up_eq ha (by omega) (by omega)
    show LM a m l h (some (upI' (l + m * y) a))
    rw [ee]
    refine ⟨x0, hit_of h0 hm t1 t2, fun x' x0' hx' => ?_⟩
    obtain ⟨s1, s2⟩ := hit_to hx'
    have y0' : 0 ≤ a * x' / m := Int.ediv_nonneg (Int.mul_nonneg (Int.le_of_lt ha) x0') (by omega)
    have hle := hmin _ y0' (down _ _ s1 s2)
    rw [← ee]
    rw [up_iff ha]
    have : m * y ≤ m * (a * x' / m) := Int.mul_le_mul_of_nonneg_left hle (by omega)
    omega
/-- the steps put aside -/
inductive Chn (A M L H : Int) : List (Int × Int × Int) → Int → Int → Int → Int → Prop
  | nil : Chn A M L H [] A M L H
  | snoc {os : List (Int × Int × Int)} {a m l h : Int} (c : Chn A M L H os a m l h) (ha : 0 < a) (hf : h < a * upI' l a) : Chn A M L H (os ++ [(a, m, l)]) (m % a) a (-h % a) (-l % a)
theorem Chn.ok {A M L H : Int} (hA : 0 ≤ A) (hAM : A < M) (hL : 0 < L) (hLH : L ≤ H) (hM : H < M) {os : List (Int × Int × Int)} {a m l h : Int} (c : Chn A M L H os a m l h) : 0 ≤ a ∧ a < m ∧ 0 < l ∧ l ≤ h ∧ h < m ∧ m ≤ M ∧ a * m * 2 ^ os.length ≤ A * M := by
  induction c with
  | nil => exact ⟨hA, hAM, hL, hLH, hM, Int.le_refl _, by simp⟩
  | snoc c ha hf ih =>
    rename_i os a m l h
    obtain ⟨i1, i2, i3, i4, i5, i6, i7⟩ := ih
    obtain ⟨⟨s1, s2, s3⟩, _⟩ := lm_step (m := m) ha i3 i4 i5 hf
    have r0 := Int.emod_nonneg m (show a ≠ 0 by omega)
    have r1 := Int.emod_lt_of_pos m ha
    refine ⟨r0, r1, s1, s2, s3, by omega, ?_⟩
    refine Int.le_trans ?_ i7
    rw [List.length_append, List.length_cons, List.length_nil, Int.pow_succ]
    have q1 := Int.mul_ediv_add_emod m a
    have q2 : 1 ≤ m / a := by
      have := (Int.le_ediv_iff_mul_le ha (a := 1) (b := m)).mpr (by omega)
      exact this
    have q3 : a * 1 ≤ a * (m / a) := Int.mul_le_mul_of_nonneg_left q2 (by omega)
    have q4 : 2 * (m % a) ≤ m := by omega
    have p := pow2_pos os.length
    have e : m % a * a * (2 ^ os.length * 2) = 2 * (m % a) * (a * 2 ^ os.length) := by grind
    have e2 : a * m * 2 ^ os.length = m * (a * 2 ^ os.length) := by grind
    rw [e, e2]
    exact Int.mul_le_mul_of_nonneg_right q4 (Int.mul_nonneg (by omega) (Int.le_of_lt p))
end Z
namespace Z
open L2 PySem PySem.Spec PyProof.Rows
end Z
namespace Z
open L2 PySem PySem.Spec PyProof.Rows
end Z
namespace Z
open L2 PySem PySem.Spec PyProof.Rows
open Evl (Ex ex_l ex_t ex_rd fresh_back)
end Z
namespace Z
open L2 PySem PySem.Spec PyProof.Rows
open Evl (Ex ex_l ex_t ex_rd fresh_back)
end Z
namespace Z
open L2 PySem PySem.Spec PyProof.Rows
open Evl (Ex ex_l ex_t ex_rd fresh_back)
abbrev DO := Gs → (Option Int → Gs → Prop) → Prop
def oNo : DO := fun g Q => Q none g
def oSo (te : DE) : DO := fun g Q => te g fun r g1 => match r with
  | .val (.int i) => Q (some i) g1
  | _ => False
def upO (K : Fg) (t : DO) : TO := fun σ H Q => ∃ c g tv tr F a post, Sta K c g σ H tv tr F a ∧ t g post ∧
  ∀ o g' H' F' a', post o g' → Sta K c g' σ H' tv tr F' a' → Q o H'
def cutD (ds : List Da) (lo hi : Option Int) : List Da := (ds.drop (HT.sIx ds.length 0 lo)).take (HT.sIx ds.length ds.length hi - HT.sIx ds.length 0 lo)
def dSl (ta : DE) (tl th : DO) : DE := fun g Q => ta g fun x g1 => tl g1 fun lo g2 => th g2 fun hi g3 => match x with
  | .val (.list ds) => Q (.val (.list (cutD ds lo hi))) g3
  | .val (.tuple ds) => ¬(HT.sIx ds.length 0 lo = 0 ∧ HT.sIx ds.length ds.length hi = ds.length) ∧ Q (.val (.tuple (cutD ds lo hi))) g3
  | _ => False
theorem Rps.drop {K : Fg} {F : Hp} : ∀ {vs : List V} {ds : List Da} (n : Nat), Rps K F vs ds → Rps K F (vs.drop n) (ds.drop n)
  | _, _, 0, h => h
  | _, _, n + 1, .nil => .nil
  | _, _, n + 1, .cons _ t => Rps.drop n t
theorem Rps.take {K : Fg} {F : Hp} : ∀ {vs : List V} {ds : List Da} (n : Nat), Rps K F vs ds → Rps K F (vs.take n) (ds.take n)
  | _, _, 0, _ => .nil
  | _, _, n + 1, .nil => .nil
  | _, _, n + 1, .cons r t => .cons r (Rps.take n t)
theorem Rps.cut {K : Fg} {F : Hp} {vs : List V} {ds : List Da} (h : Rps K F vs ds) (lo hi : Option Int) : Rps K F (cutV vs lo hi) (cutD ds lo hi) := by
  unfold cutV cutD
  rw [h.len]
  exact (h.drop _).take _
section
variable {X : Cx} {e : Expr} {te : DE}
theorem po_to {o : Option Expr} {t t' : TO} (h : PO X o t) (i : ∀ σ H Q, t' σ H Q → t σ H Q) : PO X o t' := ⟨fun pins s σ H Q I q => h.run pins s σ H Q I (i σ H Q q)⟩
theorem o_none : PO X none (upO X.K oNo) := po_to po_none fun σ H Q q => by
  obtain ⟨c, g, tv, tr, F, ad, post, s, t, k⟩ := q
  exact k none g H F ad t s
theorem o_some (h : PE X e (up X.K te)) : PO X (some e) (upO X.K (oSo te)) := po_to (po_some h) fun σ H Q q => by
  obtain ⟨c, g, tv, tr, F, ad, post, s, t, k⟩ := q
  refine ⟨c, g, tv, tr, F, ad, _, s, t, fun r g1 v H1 F1 a1 t1 s1 => ?_⟩
  cases r with
  | val d =>
    cases d with
    | int i =>
      have hr : Rp X.K F1 v (.int i) := s1.top
      cases hr
      exact ⟨i, rfl, k _ g1 H1 F1 a1 t1 s1.pop1⟩
    | _ => exact t1.elim
  | _ => exact t1.elim
variable {lo hi : Option Expr} {tl th : DO} {ta : DE} {a : Expr} {p2 pos : Pos}
theorem e_sl (ha : PE X a (up X.K ta)) (hl : PO X lo (upO X.K tl)) (hu : PO X hi (upO X.K th)) : PE X (.Subscript a (.Slice lo hi none p2) pos) (up X.K (dSl ta tl th)) := pe_to (pe_slice (sl_list.or sl_tup) ha hl hu) fun σ H Q q => by
  obtain ⟨c, g, tv, tr, F, ad, post, s, t, k⟩ := q
  refine ⟨c, g, tv, tr, F, ad, _, s, t, fun x g1 v1 H1 F1 a1 t1 s1 => ?_⟩
  refine ⟨c, g1, _, _, F1, a1, _, s1, t1, fun l g2 H2 F2 a2 t2 s2 => ?_⟩
  refine ⟨c, g2, _, _, F2, a2, _, s2, t2, fun u g3 H3 F3 a3 t3 s3 => ?_⟩
  cases x with
  | val d =>
    cases d with
    | list ds =>
      have hr : Rp X.K F3 v1 (.list ds) := s3.top
      cases hr with
      | lst sq m =>
        rename_i pp xs
        refine .inl ⟨_, _, rfl, .inl (.inl (s3.eh _ _ sq)), fun q hq => ?_⟩
        have gr := Gr.new (o := .lst (cutV xs l u)) s3.eh hq
        exact k _ g3 _ _ _ a3 t3 ((s3.pop1.grow gr).push (r := .val (.list (cutD ds l u))) (.lst upd_same ((m.cut l u).up gr.f)))
    | tuple ds =>
      have hr : Rp X.K F3 v1 (.tuple ds) := s3.top
      cases hr with
      | tup sq m =>
        rename_i pp xs
        refine .inr ⟨_, _, rfl, ex_t s3.eh sq, by rw [m.len]; exact t3.1, fun q hq => ?_⟩
        have gr := Gr.new (o := .tup (cutV xs l u)) s3.eh hq
        exact k _ g3 _ _ _ a3 t3.2 ((s3.pop1.grow gr).push (r := .val (.tuple (cutD ds l u))) (.tup (.inl (.inl upd_same)) ((m.cut l u).up gr.f)))
    | _ => exact t3.elim
  | _ => exact t3.elim
end
end Z
namespace Z
open L2 PySem PySem.Spec PyProof.Rows
open Evl (Ex ex_l ex_t ex_rd fresh_back)
end Z
namespace Z
open L2 PySem PySem.Spec PyProof.Rows
end Z
namespace Z
open L2 PySem PySem.Spec PyProof.Rows
open Evl (Ex ex_l ex_t ex_rd fresh_back)
def rSortedD (K : Fg) : List V → Hp → VK → Prop := fun vs H Q => ∃ (a : Addr) (bs : List (V × Da)), vs = [V.ref a] ∧ SqL K H a (bs.map Prod.fst) ∧ (∀ b ∈ bs, Dp K H b.1 b.2) ∧ PySem.W.AllAlike (bs.map Prod.snd) ∧ PySem.W.Sortable (bs.map Prod.snd) ∧ (∀ b ∈ bs, b.2.depth ≤ 50) ∧
  ∀ (bs' : List (V × Da)) (p : Addr), bs'.Perm bs → (bs'.map Prod.snd).Pairwise (fun a b => PySem.W.dataLe false id a b = true) → H p = none → Q (.ref p) (upd H p (.lst (bs'.map Prod.fst)))
theorem each_vals : ∀ {bs : List (V × Da)} {its : List Value}, Vals (bs.map Prod.fst) its → PySem.W.EachIs (fun v b => RelV b.1 v) its bs
  | [], _, h => by cases h; exact .nil
  | b :: bs, _, h => by
    cases h with
    | cons h t => exact .cons h (each_vals t)
theorem vals_each : ∀ {bs : List (V × Da)} {its : List Value}, PySem.W.EachIs (fun v b => RelV b.1 v) its bs → Vals (bs.map Prod.fst) its
  | _, _, .nil => .nil
  | _, _, .cons h t => .cons h (vals_each t)
theorem each_and {α β : Type} {R S : α → β → Prop} : ∀ {as : List α} {bs : List β}, PySem.W.EachIs R as bs → (∀ a, ∀ b ∈ bs, R a b → S a b) → PySem.W.EachIs S as bs
  | _, _, .nil, _ => .nil
  | _, _, .cons h t, k => .cons (k _ _ (List.mem_cons_self ..) h) (each_and t fun a b hb => k a b (List.mem_cons_of_mem _ hb))
section
variable {X : Cx}
theorem cr_sortedD (hu : X.A.units + 64 < cLine) : CallR X (.builtin "sorted") (rSortedD X.K) := by
  intro pins s σ H vs us Q I r h
  obtain ⟨a, bs, rfl, hs, hd, ha, hk, hdp, q⟩ := h
  obtain ⟨its, rv, hl, hz⟩ := I.list hs
  rw [Vals.ref1 r]
  have e := each_vals rv
  have er : PySem.W.EachIs (fun v (b : V × Da) => ∃ as, Reads s.heap v b.2 as) its bs := each_and e fun v b hb hr => Dp.reads I b.2 b.1 v (hd b hb) hr
  rw [List.length_map] at hz
  refine PySem.W.sorted_data (enc := Prod.snd) hl.isList e er ha hk hz (fun b hb => by have := hdp b hb; omega) fun out h1 h2 => ?_
  obtain ⟨ep, he'⟩ := PyProof.Rows.sortedAll_at s.heap its out.toArray
  have pm : (bs.mergeSort (PySem.W.dataLe false Prod.snd)).Perm bs := List.mergeSort_perm ..
  have pw : ((bs.mergeSort (PySem.W.dataLe false Prod.snd)).map Prod.snd).Pairwise (fun a b => PySem.W.dataLe false id a b = true) := by
    rw [List.pairwise_map]
    exact PySem.W.sort_pairwise (PySem.W.sortLe_total _ _ _) bs
  have hlen : ((bs.mergeSort (PySem.W.dataLe false Prod.snd)).map Prod.fst).length ≤ sizeLine := by rw [List.length_map, pm.length_eq]; exact hz
  exact ⟨.ref _, upd H (s.heap.objs.size + 1) (.lst ((bs.mergeSort (PySem.W.dataLe false Prod.snd)).map Prod.fst)), I.laid (t' := s.toks) (fun _ _ => PyProof.Rows.sortedAll_old) (Nat.le_succ _) ⟨hlen, out, ep, vals_each h2, he'⟩, rfl, q _ _ pm pw (I.hok.fresh (Nat.le_succ _))⟩
end
def cSortedD : CF := fun rs post => match rs with
  | [.val (.list ds)] => PySem.W.AllAlike ds ∧ PySem.W.Sortable ds ∧ (∀ d ∈ ds, d.canLay0 = true ∧ d.depth ≤ 50) ∧ ∀ ds' : List Da, ds'.Perm ds → ds'.Pairwise (fun a b => PySem.W.dataLe false id a b = true) → post (.list ds')
  | _ => False
theorem rps_zip {K : Fg} {F : Hp} : ∀ {xs : List V} {ds : List Da}, Rps K F xs ds → ∃ bs : List (V × Da), bs.map Prod.fst = xs ∧ bs.map Prod.snd = ds ∧ ∀ b ∈ bs, Rp K F b.1 b.2
  | _, _, .nil => ⟨[], rfl, rfl, fun b hb => nomatch hb⟩
  | _, _, .cons h t => by
    obtain ⟨bs, rfl, rfl, h3⟩ := rps_zip t
    refine ⟨(_, _) :: bs, rfl, rfl, fun b hb => ?_⟩
    rcases List.mem_cons.mp hb with rfl | hb
    · exact h
    · exact h3 b hb
theorem zip_rps {K : Fg} {F : Hp} : ∀ {bs : List (V × Da)}, (∀ b ∈ bs, Rp K F b.1 b.2) → Rps K F (bs.map Prod.fst) (bs.map Prod.snd)
  | [], _ => .nil
  | b :: bs, h => .cons (h b (List.mem_cons_self ..)) (zip_rps fun c hc => h c (List.mem_cons_of_mem _ hc))
theorem ok_sortedD {K : Fg} : CallOk K (rSortedD K) cSortedD := fun F H a fu vs rs post Q e t hf k => by
  unfold cSortedD at hf
  split at hf
  · rename_i ds
    obtain ⟨v, rfl, r⟩ := t.v1
    obtain ⟨h1, h2, h3, h4⟩ := hf
    cases r with
    | lst sq m =>
      obtain ⟨bs, rfl, rfl, hb⟩ := rps_zip m
      refine ⟨_, bs, rfl, .inl (.inl (e _ _ sq)), fun b hm => (hb b hm).dp e _ _ (h3 _ (List.mem_map_of_mem hm)).1, h1, h2, fun b hm => (h3 _ (List.mem_map_of_mem hm)).2, fun bs' p pm pw hp => ?_⟩
      have gr := Gr.new (o := .lst (bs'.map Prod.fst)) e hp
      exact k _ _ _ _ (h4 _ (pm.map _) pw) gr (.lst upd_same ((zip_rps fun b hm => hb b (pm.mem_iff.mp hm)).up gr.f))
  · exact hf.elim
/-- pairs in order: their first ints are -/
theorem le_fst {i j : Int} {x y : Da} (h : PySem.W.dataLe false id (.tuple [.int i, x]) (.tuple [.int j, y]) = true) : i ≤ j := by
  rcases Int.lt_or_le j i with q | q
  · exfalso
    have h' : (!PyProof.Rows.lexLt PyProof.Rows.itemOrd (PySem.W.keyToks (.tuple [.int j, y])) (PySem.W.keyToks (.tuple [.int i, x]))) = true := h
    rw [Bool.not_eq_true'] at h'
    have e : PyProof.Rows.lexLt PyProof.Rows.itemOrd (PySem.W.keyToks (.tuple [.int j, y])) (PySem.W.keyToks (.tuple [.int i, x])) = true := by
      refine PyProof.Rows.lex_true.mpr (.inr ⟨rfl, PyProof.Rows.lex_true.mpr (.inl (decide_eq_true q))⟩)
    rw [e] at h'
    cases h'
  · exact q
section
variable {X : Cx} {p pos : Pos} {e : Expr} {tr : DA} {k : Nat}
theorem e_sortedD (hr : Room k X.A) (hg : Gl X "sorted") (hm : X.mg "sorted" = none) (ha : PA X [e] (upA X.K tr)) (he : starEach [e] X.env = (false, eval e X.env) :: starEach [] X.env := by rfl) : PE X (.Call (.Name "sorted" p) [e] [] pos) (up X.K (dCB cSortedD tr)) := e_callB (cr_sortedD hr.units) ok_sortedD hg hm (by decide +kernel) ha (by decide) (by decide) he rfl
end
end Z
namespace Z
open L2 PySem PySem.Spec PyProof.Rows
open Evl (Ex ex_l ex_t ex_rd fresh_back)
theorem low_val {x y : Int} (hy : 0 < y) : (low x y).1 * y = x * (low x y).2 := by
  unfold low
  obtain ⟨u, hu⟩ : (Int.gcd x y : Int) ∣ x := Int.gcd_dvd_left x y
  obtain ⟨v, hv⟩ : (Int.gcd x y : Int) ∣ y := Int.gcd_dvd_right x y
  have g0 := gcd_pos (a := x) hy
  generalize (Int.gcd x y : Int) = g at *
  subst hu hv
  rw [Int.mul_ediv_cancel_left _ (by omega), Int.mul_ediv_cancel_left _ (by omega)]
  grind
theorem pow_le2 {a b : Nat} (h : a ≤ b) : (2 : Int) ^ a ≤ 2 ^ b := by
  obtain ⟨c, rfl⟩ : ∃ c, b = a + c := ⟨b - a, by omega⟩
  rw [Int.pow_add]
  have h1 := pow2_pos a
  have h2 := pow2_pos c
  have := Int.mul_le_mul_of_nonneg_left (show (1 : Int) ≤ 2 ^ c by omega) (Int.le_of_lt h1)
  omega
theorem pow_pos {k e : Int} (hk : 0 < k) : 0 < (powI k e).1 ∧ 0 < (powI k e).2 ∧ Int.gcd (powI k e).1 (powI k e).2 = 1 := by
  unfold powI
  obtain ⟨a, b⟩ := scI_pos (n := k) (d := 1) (f := e) hk (by decide)
  obtain ⟨h1, h2, h3, _⟩ := low_pos a b
  exact ⟨h1, h2, h3⟩
/-- a threshold: a fraction, and to which side it goes there -/
structure Th where
  n : Int
  d : Int
  up : Bool
structure Th.Ok (t : Th) : Prop where
  n0 : 0 ≤ t.n
  nd : t.n ≤ t.d
  d0 : 0 < t.d
  z : t.n = 0 → t.up = false
  o : t.n = t.d → t.up = true
def Abv (x y : Int) (t : Th) : Prop := t.n * y < x * t.d ∨ (t.n * y = x * t.d ∧ t.up = true)
instance (x y : Int) (t : Th) : Decidable (Abv x y t) := by unfold Abv; infer_instance
def nev : Th := ⟨1, 1, true⟩
def alw : Th := ⟨0, 1, false⟩
def tieD : Th := ⟨1, 2, false⟩
def tieU : Th := ⟨1, 2, true⟩
def byR : Ru → Bool → Th
  | .dn, _ => nev
  | .hd, _ => tieD
  | .he, false => tieD
  | .he, true => tieU
  | .hu, _ => tieU
  | .od, false => alw
  | .od, true => nev
  | .up, _ => alw
theorem byR_ok (r : Ru) (b : Bool) : (byR r b).Ok := by
  cases r <;> cases b <;> exact ⟨by decide, by decide, by decide, by decide, by decide⟩
theorem lowZ' {x y : Int} (hy : 0 < y) : (low x y).1 = 0 ↔ x = 0 := by
  have h := low_val (x := x) hy
  constructor
  · intro z
    rw [z, Int.zero_mul] at h
    rcases Int.mul_eq_zero.mp h.symm with q | q
    · exact q
    · exfalso
      have g0 := gcd_pos (a := x) hy
      have : (low x y).2 = y / (Int.gcd x y : Int) := rfl
      obtain ⟨v, hv⟩ : (Int.gcd x y : Int) ∣ y := Int.gcd_dvd_right x y
      rw [this] at q
      generalize (Int.gcd x y : Int) = g at *
      rw [hv, Int.mul_ediv_cancel_left _ (by omega)] at q
      subst q
      omega
  · rintro rfl
    show 0 / _ = _
    exact Int.zero_ediv _
/-- the last index that stays down -/
def lastI (r : Ru) (far : Nat) (b : Bool) : Int :=
  if (byR r b).up = false then (byR r b).n * 2 ^ far / (byR r b).d else (byR r b).n * 2 ^ far / (byR r b).d - 1
def combI (T : Bool → Th) (r : Ru) (far : Nat) (b : Bool) : Th :=
  ⟨(low (lastI r far b * (T (decide (lastI r far b % 2 = 1))).d + (T (decide (lastI r far b % 2 = 1))).n) ((T (decide (lastI r far b % 2 = 1))).d * 2 ^ far)).1,
   (low (lastI r far b * (T (decide (lastI r far b % 2 = 1))).d + (T (decide (lastI r far b % 2 = 1))).n) ((T (decide (lastI r far b % 2 = 1))).d * 2 ^ far)).2,
   (T (decide (lastI r far b % 2 = 1))).up⟩
theorem last_rng {r : Ru} {far : Nat} {b : Bool} (hf : 1 ≤ far) : 0 ≤ lastI r far b ∧ lastI r far b < 2 ^ far := by
  obtain ⟨f, rfl⟩ : ∃ f, far = f + 1 := ⟨far - 1, by omega⟩
  have e : (2 : Int) ^ (f + 1) = 2 * 2 ^ f := by rw [Int.pow_succ, Int.mul_comm]
  have p := pow2_pos f
  unfold lastI
  rw [e]
  generalize (2 : Int) ^ f = F at *
  cases r <;> cases b <;> simp only [byR, nev, alw, tieD, tieU] <;> simp <;> omega
theorem th_ok_low {n d : Int} {up : Bool} (hd : 0 < d) (h0 : 0 ≤ n) (h1 : n ≤ d) (z : n = 0 → up = false) (o : n = d → up = true) : Th.Ok ⟨(low n d).1, (low n d).2, up⟩ := by
  have h := low_val (x := n) hd
  obtain ⟨v, hv⟩ : (Int.gcd n d : Int) ∣ d := Int.gcd_dvd_right n d
  have g0 := gcd_pos (a := n) hd
  have l2 : 0 < (low n d).2 := by
    show 0 < d / (Int.gcd n d : Int)
    generalize (Int.gcd n d : Int) = g at *
    rw [hv, Int.mul_ediv_cancel_left _ (by omega)]
    rw [hv] at hd
    exact Int.pos_of_mul_pos_right hd g0
  have l1 : 0 ≤ (low n d).1 := Int.ediv_nonneg h0 (Int.le_of_lt g0)
  refine ⟨l1, ?_, l2, ?_, ?_⟩
  · show (low n d).1 ≤ (low n d).2
    refine Int.le_of_mul_le_mul_right (a := d) ?_ hd
    rw [h, Int.mul_comm (low n d).2]
    exact Int.mul_le_mul_of_nonneg_right h1 (Int.le_of_lt l2)
  · intro q
    replace q : (low n d).1 = 0 := q
    exact z ((lowZ' hd).mp q)
  · intro q
    replace q : (low n d).1 = (low n d).2 := q
    refine o ?_
    rw [q, Int.mul_comm] at h
    exact (Int.eq_of_mul_eq_mul_right (by omega) h).symm
theorem comb_ok {T : Bool → Th} (hT : ∀ b, (T b).Ok) {r : Ru} {far : Nat} (hf : 1 ≤ far) (bo : Bool) : (combI T r far bo).Ok := by
  have F0 := pow2_pos far
  obtain ⟨i0, i1⟩ := last_rng (r := r) (b := bo) hf
  unfold combI
  generalize hi : lastI r far bo = i at *
  have ht := hT (decide (i % 2 = 1))
  generalize hTi : T (decide (i % 2 = 1)) = t at ht
  have hd := ht.d0
  have hn := ht.n0
  have x := Int.mul_nonneg i0 (Int.le_of_lt hd)
  have y : i * t.d + t.d ≤ t.d * 2 ^ far := by
    have := Int.mul_le_mul_of_nonneg_right (show i + 1 ≤ 2 ^ far by omega) (Int.le_of_lt hd)
    rw [Int.add_mul, Int.mul_comm (2 ^ far)] at this
    omega
  have hnd := ht.nd
  refine th_ok_low (Int.mul_pos hd F0) (by omega) (by omega) (fun z => ht.z (by omega)) (fun z => ht.o (by omega))
structure Nu (n d : Int) : Prop where
  n0 : 0 < n
  d0 : 0 < d
  g : Int.gcd n d = 1
def trimI : Option Int → List (Int × Ru) → List (Int × Ru)
  | _, [] => []
  | none, s :: c => s :: trimI (some s.1) c
  | some l, s :: c => if s.1 < l then s :: trimI (some s.1) c else trimI (some l) c
/-- a chain's widths -/
def Wds (c : List (Int × Ru)) : Prop := ∀ s ∈ c, 1 ≤ s.1 ∧ s.1 ≤ 100
theorem Wds.hd {s : Int × Ru} {c : List (Int × Ru)} (h : Wds (s :: c)) : 1 ≤ s.1 ∧ s.1 ≤ 100 := h s (List.mem_cons_self ..)
theorem Wds.tl {s : Int × Ru} {c : List (Int × Ru)} (h : Wds (s :: c)) : Wds c := fun t ht => h t (List.mem_cons_of_mem _ ht)
def Fall (w : Int) : List (Int × Ru) → Prop
  | [] => True
  | s :: c => 1 ≤ s.1 ∧ s.1 < w ∧ Fall s.1 c
theorem trim_fall : ∀ {c : List (Int × Ru)} {l : Int}, Wds c → Fall l (trimI (some l) c)
  | [], _, _ => trivial
  | s :: c, l, hw => by
    unfold trimI
    by_cases q : s.1 < l
    · rw [if_pos q]
      exact ⟨hw.hd.1, q, trim_fall hw.tl⟩
    · rw [if_neg q]
      exact trim_fall hw.tl
def thF (w : Int) (T : Bool → Th) : List (Int × Ru) → Int × (Bool → Th)
  | [] => (w, T)
  | s :: c => thF s.1 (combI T s.2 (w - s.1).toNat) c
/-- the whole chain by thresholds -/
def chT : List (Int × Ru) → Int × (Bool → Th)
  | [] => (1, byR .dn)
  | s :: c => thF s.1 (byR s.2) (trimI (some s.1) c)
/-- how great a threshold's denominator is; in lowest terms -/
theorem low_gcd {n d : Int} (hd : 0 < d) : Int.gcd (low n d).1 (low n d).2 = 1 ∧ 0 < (low n d).2 ∧ (low n d).2 ≤ d := by
  obtain ⟨u, hu⟩ : (Int.gcd n d : Int) ∣ n := Int.gcd_dvd_left n d
  obtain ⟨v, hv⟩ : (Int.gcd n d : Int) ∣ d := Int.gcd_dvd_right n d
  have g0 := gcd_pos (a := n) hd
  have e : low n d = (u, v) := by
    unfold low
    refine Prod.ext ?_ ?_
    · show n / (Int.gcd n d : Int) = u
      generalize (Int.gcd n d : Int) = g at *
      rw [hu, Int.mul_ediv_cancel_left _ (by omega)]
    · show d / (Int.gcd n d : Int) = v
      generalize (Int.gcd n d : Int) = g at *
      rw [hv, Int.mul_ediv_cancel_left _ (by omega)]
  have g1 : (Int.gcd n d) = (Int.gcd n d) * Int.gcd u v := by
    have h := Int.gcd_mul_left (Int.gcd n d : Int) u v
    rw [← hu, ← hv] at h
    simpa using h
  rw [e]
  refine ⟨?_, ?_, ?_⟩
  · have : 0 < Int.gcd n d := by omega
    show Int.gcd u v = 1
    have h2 : Int.gcd n d * 1 = Int.gcd n d * Int.gcd u v := by rw [Nat.mul_one]; exact g1
    exact (Nat.eq_of_mul_eq_mul_left this h2).symm
  · show 0 < v
    generalize (Int.gcd n d : Int) = g at *
    rw [hv] at hd
    exact Int.pos_of_mul_pos_right hd g0
  · show v ≤ d
    have v0 : 0 < v := by
      generalize (Int.gcd n d : Int) = g at *
      rw [hv] at hd
      exact Int.pos_of_mul_pos_right hd g0
    have : 1 * v ≤ (Int.gcd n d : Int) * v := Int.mul_le_mul_of_nonneg_right (by omega) (Int.le_of_lt v0)
    rw [← hv] at this
    omega
structure ThB (m : Nat) (T : Bool → Th) : Prop where
  ok : ∀ b, (T b).Ok
  g : ∀ b, Int.gcd (T b).n (T b).d = 1
  l : ∀ b, (T b).d ≤ 2 ^ m
theorem byR_B (r : Ru) : ThB 1 (byR r) := ⟨byR_ok r, fun b => by cases r <;> cases b <;> decide, fun b => by cases r <;> cases b <;> decide⟩
theorem comb_B {m far : Nat} {T : Bool → Th} {r : Ru} (h : ThB m T) (hf : 1 ≤ far) : ThB (m + far) (combI T r far) := by
  refine ⟨comb_ok h.ok hf, fun b => ?_, fun b => ?_⟩
  · exact (low_gcd (Int.mul_pos (h.ok _).d0 (pow2_pos far))).1
  · refine Int.le_trans (low_gcd (Int.mul_pos (h.ok _).d0 (pow2_pos far))).2.2 ?_
    rw [Int.pow_add]
    exact Int.mul_le_mul_of_nonneg_right (h.l _) (Int.le_of_lt (pow2_pos far))
theorem thF_B : ∀ {c : List (Int × Ru)} {w : Int} {m : Nat} {T : Bool → Th}, ThB m T → Fall w c → 1 ≤ w → ∃ m' : Nat, ThB m' (thF w T c).2 ∧ (m' : Int) ≤ m + w ∧ 1 ≤ (thF w T c).1 ∧ (thF w T c).1 ≤ w
  | [], w, m, T, h, _, hw => ⟨m, h, by omega, hw, Int.le_refl _⟩
  | s :: c, w, m, T, h, hf, hw => by
    obtain ⟨f1, f2, f3⟩ := hf
    obtain ⟨m', h1, h2, h3, h4⟩ := thF_B (c := c) (comb_B (r := s.2) (far := (w - s.1).toNat) h (by omega)) f3 f1
    exact ⟨m', h1, by omega, h3, by show (thF s.1 _ c).1 ≤ w; omega⟩
theorem ThB.mono {m m' : Nat} {T : Bool → Th} (h : ThB m T) (hm : m ≤ m') : ThB m' T := ⟨h.ok, h.g, fun b => Int.le_trans (h.l b) (pow_le2 hm)⟩
theorem chT_B {c : List (Int × Ru)} (hc : c ≠ []) (hw : Wds c) : ThB 101 (chT c).2 ∧ 1 ≤ (chT c).1 ∧ (chT c).1 ≤ 100 := by
  cases c with
  | nil => exact absurd rfl hc
  | cons s c =>
    obtain ⟨h1, h2⟩ := hw.hd
    obtain ⟨m, k1, k2, k3, k4⟩ := thF_B (byR_B s.2) (trim_fall (l := s.1) hw.tl) h1
    exact ⟨k1.mono (by omega), k3, by show (thF s.1 _ _).1 ≤ 100; omega⟩
structure Vb (a : Nat) (n d : Int) : Prop where
  hi : n ≤ d * 2 ^ a
  lo : d ≤ n * 2 ^ a
end Z
namespace Z
open L2 PySem PySem.Spec PyProof.Rows
open Evl (Ex ex_l ex_t ex_rd fresh_back)
theorem lc_mapT {sl : List (Option Sv)} {t : DG} {te : DE} (f : Da → Da) {Q : List Da → Option Nat → Prop} {fu : Option Nat} : ∀ {ds acc : List Da},
    (∀ x ∈ ds, ∀ (R : Rv → Gs → Prop) (N : Gs → Prop), (∀ g3 : Gs, g3.fu = fu → R (.val (f x)) g3) → t (.val x) ⟨sl, fu, false⟩ fun g1 => (true = true → te g1 R) ∧ (true = false → N g1)) → acc.length + ds.length ≤ 1000000 → Q (acc ++ ds.map f) fu → lcD sl t dYes te ds acc fu Q
  | [], acc, _, _, h => by rw [List.map_nil, List.append_nil] at h; exact h
  | x :: xs, acc, hs, hl, h => by
    have ih : lcD sl t dYes te xs (acc ++ [f x]) fu Q := lc_mapT f (fun y hy => hs y (List.mem_cons_of_mem _ hy)) (by rw [List.length_cons] at hl; rw [List.length_append, List.length_cons, List.length_nil]; omega) (by rw [List.append_assoc]; exact h)
    exact hs x List.mem_cons_self (fun r g3 => match r with
      | .val d => acc.length < 1000000 ∧ lcD sl t dYes te xs (acc ++ [d]) (fuN fu g3.fu) Q
      | _ => False) (fun g2 => lcD sl t dYes te xs acc (fuN fu g2.fu) Q) (fun g3 e => ⟨by rw [List.length_cons] at hl; omega, by rw [e, fuN_self]; exact ih⟩)
def stD (s : Int × Ru) : Da := .tuple [.int s.1, .str s.2.s]
def chD (c : List (Int × Ru)) : Da := .tuple (c.map stD)
theorem stD_inj {s s' : Int × Ru} (h : stD s = stD s') : s = s' := by
  obtain ⟨w, r⟩ := s
  obtain ⟨w', r'⟩ := s'
  simp only [stD, PyData.tuple.injEq, List.cons.injEq, PyData.int.injEq, PyData.str.injEq, and_true] at h
  obtain ⟨rfl, h⟩ := h
  refine Prod.ext rfl ?_
  revert h
  cases r <;> cases r' <;> first | exact fun _ => rfl | (intro h; exact absurd h (by decide +kernel))
/-- pairs of an int and a text: may be sorted -/
theorem pairs_sortable {ds : List Da} (h : ∀ d ∈ ds, ∃ (i : Int) (x : Str), d = .tuple [.int i, .str x] ∧ PyData.strOk x = true) :
    PySem.W.AllAlike ds ∧ PySem.W.Sortable ds ∧ ∀ d ∈ ds, d.canLay0 = true ∧ d.depth ≤ 50 := by
  refine ⟨fun d hd e he => ?_, .inl fun d hd => ?_, fun d hd => ?_⟩
  · obtain ⟨i, x, rfl, _⟩ := h d hd
    obtain ⟨j, y, rfl, _⟩ := h e he
    simp [PySem.W.alike, PySem.W.alikeAll]
  · obtain ⟨i, x, rfl, _⟩ := h d hd
    exact ⟨_, _, rfl⟩
  · obtain ⟨i, x, rfl, hx⟩ := h d hd
    refine ⟨?_, ?_⟩
    · simp [PyData.canLay0, PyData.canLayAll0, hx]
    · simp [PyData.depth, PyData.depthAll]
theorem ru_ok (r : Ru) : PyData.strOk r.s = true := by cases r <;> decide +kernel
end Z
namespace Z
open L2 PySem PySem.Spec PyProof.Rows
open Evl (Ex ex_l ex_t ex_rd fresh_back)
/-- a number of values from 2^-a to 2^a -/
structure NuB (a : Nat) (n d : Int) : Prop where
  nu : Nu n d
  v : Vb a n d
  bn : Bn (a + 300) n
  bd : Bn (a + 300) d
theorem NuB.mono {a b : Nat} {n d : Int} (h : NuB a n d) (hab : a ≤ b) : NuB b n d := by
  have p := pow_le2 hab
  have x := Int.mul_le_mul_of_nonneg_left p (Int.le_of_lt h.nu.d0)
  have y := Int.mul_le_mul_of_nonneg_left p (Int.le_of_lt h.nu.n0)
  have := h.v.hi
  have := h.v.lo
  exact ⟨h.nu, ⟨by omega, by omega⟩, h.bn.mono (by omega), h.bd.mono (by omega)⟩
structure Chn1 (c : List (Int × Ru)) : Prop where
  ne : c ≠ []
  len : c.length ≤ 12
  w : Wds c
end Z
namespace Z
open L2 PySem PySem.Spec PyProof.Rows
open Evl (Ex ex_l ex_t ex_rd fresh_back)
theorem Bn.leP {m : Nat} {i : Int} (h0 : 0 ≤ i) (h : i ≤ 2 ^ m) : Bn (m + 1) i := (Bn.pow2 (n := m) (m := m + 1) (by omega)).le h0 h
theorem ThB.bn {m : Nat} {T : Bool → Th} (h : ThB m T) (b : Bool) : Bn (m + 1) (T b).n ∧ Bn (m + 1) (T b).d :=
  ⟨Bn.leP (h.ok b).n0 (Int.le_trans (h.ok b).nd (h.l b)), Bn.leP (Int.le_of_lt (h.ok b).d0) (h.l b)⟩
end Z
namespace Z
open L2 PySem PySem.Spec PyProof.Rows
open Evl (Ex ex_l ex_t ex_rd fresh_back)
end Z
namespace Z
open L2 PySem PySem.Spec PyProof.Rows
open Evl (Ex ex_l ex_t ex_rd fresh_back)
end Z
namespace Z
open L2 PySem PySem.Spec PyProof.Rows
open Evl (Ex ex_l ex_t ex_rd fresh_back)
end Z
namespace Z
open L2 PySem PySem.Spec PyProof.Rows
open Evl (Ex ex_l ex_t ex_rd fresh_back)
end Z
namespace Z
open L2 PySem PySem.Spec PyProof.Rows
open Evl (Ex ex_l ex_t ex_rd fresh_back)
end Z
namespace Z
open L2 PySem PySem.Spec PyProof.Rows
open Evl (Ex ex_l ex_t ex_rd fresh_back)
end Z
namespace LZ
open PySem
open PySem.Sem (wp)
section
variable {prog : Program} {w : World} {A : Around} {s : Shared} {R : Result → Shared → Prop} {q TI TO u1 u2 t1 t2 S : Addr} {x0 x1 y0 y1 a b : Value}
/-- what the zip stands for, ahead of the first pair -/
structure Fresh (h : Heap) (q TI TO u1 u2 t1 t2 : Addr) (x0 x1 y0 y1 a b : Value) : Prop where
  D : ZipApart q TI TO u1 u2 t1 t2
  z : IsZip h q TI TO .none
  i : IsPair h TI (.ref u1) (.ref u2)
  o : IsPair h TO a b
  g1 : h.IsTupleIter u1 t1 0
  g2 : h.IsTupleIter u2 t2 0
  m1 : h.IsTuple t1 #[x0, x1]
  m2 : h.IsTuple t2 #[y0, y1]
theorem Fresh.keep {h h' : Heap} (F : Fresh h q TI TO u1 u2 t1 t2 x0 x1 y0 y1 a b) (hS : S ≠ q ∧ S ≠ TI ∧ S ≠ TO ∧ S ≠ u1 ∧ S ≠ u2 ∧ S ≠ t1 ∧ S ≠ t2) (hk : ∀ c o, c ≠ S → h.get? c = some o → h'.get? c = some o) : Fresh h' q TI TO u1 u2 t1 t2 x0 x1 y0 y1 a b := by
  obtain ⟨s1, s2, s3, s4, s5, s6, s7⟩ := hS
  exact ⟨F.D, hk _ _ s1.symm F.z, hk _ _ s2.symm F.i, hk _ _ s3.symm F.o, F.g1.at fun o e => hk _ o s4.symm e, F.g2.at fun o e => hk _ o s5.symm e, F.m1.at fun o e => hk _ o s6.symm e, F.m2.at fun o e => hk _ o s7.symm e⟩
end
end LZ
namespace Z
open L2 PySem PySem.Spec PyProof.Rows
open Evl (Ex ex_l ex_t ex_rd fresh_back)
end Z
namespace Z
open L2 PySem PySem.Spec PyProof.Rows
open Evl (Ex ex_l ex_t ex_rd fresh_back)
instance : DecidableEq Th := fun a b => decidable_of_iff (a.n = b.n ∧ a.d = b.d ∧ a.up = b.up) ⟨fun h => by cases a; cases b; simp_all, fun h => by subst h; exact ⟨rfl, rfl, rfl⟩⟩
def Bef (t u : Th) : Prop := t.n * u.d < u.n * t.d ∨ (t.n * u.d = u.n * t.d ∧ t.up = true ∧ u.up = false)
instance (t u : Th) : Decidable (Bef t u) := by unfold Bef; infer_instance
end Z
namespace Z
open L2 PySem PySem.Spec PyProof.Rows
open Evl (Ex ex_l ex_t ex_rd fresh_back)
end Z
namespace Z
open L2 PySem PySem.Spec PyProof.Rows
structure ShB (k z : Nat) (d : Da) : Prop where
  lay : d.canLay0 = true
  sh : d.showable = true
  dp : d.depth ≤ k
  sz : szD d ≤ z
theorem ShB.cps {k z : Nat} {d : Da} (h : ShB k z d) : Cps d.shown := cps_shown d h.lay
theorem ShB.shaped {k z : Nat} {d : Da} (h : ShB k z d) (hk : k ≤ 64) : SeqAt.shaped d = true := by
  unfold SeqAt.shaped
  rw [h.lay, Bool.true_and]
  exact decide_eq_true (Nat.le_trans h.dp hk)
theorem ShB.refl {k z : Nat} {d : Da} (h : ShB k z d) : d.eqv d = true := SeqAt.eqv_refl d h.lay
theorem ShB.mono {k z k' z' : Nat} {d : Da} (h : ShB k z d) (hk : k ≤ k') (hz : z ≤ z') : ShB k' z' d := ⟨h.lay, h.sh, Nat.le_trans h.dp hk, Nat.le_trans h.sz hz⟩
theorem ShB.int {i : Int} (h : Bn 1900 i) : ShB 0 1921 (.int i) := ⟨rfl, decide_eq_true (showI h), Nat.le_refl _, Nat.le_refl _⟩
theorem ShB.none : ShB 0 1921 .none := ⟨rfl, rfl, Nat.le_refl _, by show 4 ≤ 1921; decide⟩
theorem ShB.bool (b : Bool) : ShB 0 1921 (.bool b) := ⟨rfl, rfl, Nat.le_refl _, by show 5 ≤ 1921; decide⟩
theorem ShB.str {x : Str} (h : PyData.strOk x = true) (hl : x.length ≤ 100) : ShB 0 1921 (.str x) := ⟨h, rfl, Nat.le_refl _, by show 10 * x.length + 2 ≤ 1921; omega⟩
theorem ShB.all {k z : Nat} : ∀ {ds : List Da}, (∀ d ∈ ds, ShB k z d) → PyData.canLayAll0 ds = true ∧ PyData.showableAll ds = true ∧ PyData.depthAll ds ≤ k ∧ szAll ds ≤ ds.length * (z + 2)
  | [], _ => ⟨rfl, rfl, Nat.zero_le _, Nat.zero_le _⟩
  | d :: ds, h => by
    obtain ⟨i1, i2, i3, i4⟩ := ShB.all (ds := ds) fun e he => h e (List.mem_cons_of_mem _ he)
    have h0 := h d (List.mem_cons_self ..)
    have h1 := h0.dp
    have h2 := h0.sz
    refine ⟨by simp [PyData.canLayAll0, h0.lay, i1], by simp [PyData.showableAll, h0.sh, i2], ?_, ?_⟩
    · simp only [PyData.depthAll]
      omega
    · rw [List.length_cons, Nat.succ_mul]
      simp only [szAll]
      omega
theorem ShB.tup {k z n : Nat} {ds : List Da} (h : ∀ d ∈ ds, ShB k z d) (hn : ds.length ≤ n) : ShB (k + 1) (n * (z + 2) + 3) (.tuple ds) := by
  obtain ⟨i1, i2, i3, i4⟩ := ShB.all h
  have := Nat.mul_le_mul_right (z + 2) hn
  refine ⟨by simpa [PyData.canLay0] using i1, by simpa [PyData.showable] using i2, ?_, ?_⟩
  · simp only [PyData.depth]
    omega
  · simp only [szD]
    omega
theorem ShB.lst {k z n : Nat} {ds : List Da} (h : ∀ d ∈ ds, ShB k z d) (hn : ds.length ≤ n) : ShB (k + 1) (n * (z + 2) + 3) (.list ds) := by
  obtain ⟨i1, i2, i3, i4⟩ := ShB.all h
  have := Nat.mul_le_mul_right (z + 2) hn
  refine ⟨by simpa [PyData.canLay0] using i1, by simpa [PyData.showable] using i2, ?_, ?_⟩
  · simp only [PyData.depth]
    omega
  · simp only [szD]
    omega
theorem ShB.two {k z : Nat} {a b : Da} (ha : ShB k z a) (hb : ShB k z b) : ∀ d ∈ [a, b], ShB k z d := fun d hd => by
  simp only [List.mem_cons, List.not_mem_nil, or_false] at hd
  rcases hd with rfl | rfl
  · exact ha
  · exact hb
theorem ShB.num {n d : Int} (hn : Bn 1900 n) (hd : Bn 1900 d) : ShB 1 4000 (num n d) := (ShB.tup (ShB.two (ShB.int hn) (ShB.int hd)) (n := 2) (Nat.le_refl 2)).mono (by decide) (by decide)
theorem ru_len (r : Ru) : r.s.length ≤ 100 := by cases r <;> decide +kernel
theorem ShB.st (s : Int × Ru) (h1 : 1 ≤ s.1) (h2 : s.1 ≤ 100) : ShB 1 4000 (stD s) := (ShB.tup (ShB.two (ShB.int (Bn.small (by omega) (by omega) (by decide))) (ShB.str (ru_ok s.2) (ru_len s.2))) (n := 2) (Nat.le_refl 2)).mono (by decide) (by decide)
end Z
namespace Z
open L2 PySem PySem.Spec PyProof.Rows
def Dif (T U : Bool → Th) (b : Bool) (i p : Int) : Prop := ¬(Abv i p (T b) ↔ Abv i p (U b))
/-- the first place where two chains part: a grid of 2 ^ t, the parity of the cell, the index -/
structure SdAt (w : Int) (T U : Bool → Th) (t : Nat) (b : Bool) (j : Int) : Prop where
  b1 : w = 1 → b = true
  dif : Dif T U b j (2 ^ t)
  lo : 0 < j
  hi : j < 2 ^ t
  min : ∀ i, Dif T U b i (2 ^ t) → j ≤ i
  par : b = true → w ≠ 1 → ∀ i, ¬Dif T U false i (2 ^ t)
  pre : ∀ t', t' < t → ∀ b', (w = 1 → b' = true) → ∀ i, ¬Dif T U b' i (2 ^ t')
  tb : t ≤ 101
theorem SdAt.ne {w : Int} {T U : Bool → Th} {t : Nat} {b : Bool} {j : Int} (h : SdAt w T U t b j) : T b ≠ U b := fun e => h.dif (by rw [e])
end Z
namespace Z
open L2 PySem PySem.Spec PyProof.Rows
open Evl (Ex ex_l ex_t ex_rd fresh_back)
end Z
namespace Z
open L2 PySem PySem.Spec PyProof.Rows
instance (T U : Bool → Th) (b : Bool) (x y : Int) : Decidable (Dif T U b x y) := by unfold Dif; infer_instance
/-- x * f / d is a place where the two part -/
def DfX (w : Int) (T U : Bool → Th) (f d x : Int) : Prop := Dif T U (decide ((cellI (x * f) d w).1 % 2 = 1)) (posI (x * f) d w).1 (posI (x * f) d w).2
instance (w : Int) (T U : Bool → Th) (f d x : Int) : Decidable (DfX w T U f d x) := by unfold DfX; infer_instance
end Z
namespace Z
open L2 PySem PySem.Spec PyProof.Rows
/-- arguments of a search among operands -/
structure LoOk (w : Int) (T U : Bool → Th) (f d p : Int) : Prop where
  w1 : 1 ≤ w
  w2 : w ≤ 100
  T : ThB 101 T
  U : ThB 101 U
  f0 : 0 < f
  bf : Bn 300 f
  d0 : 0 < d
  bd : Bn 300 d
  p1 : 1 ≤ p
  p2 : p ≤ 100
/-- two chains that may be compared -/
structure Two (c c' : List (Int × Ru)) : Prop where
  a : Chn1 c
  b : Chn1 c'
  w : (chT c).1 = (chT c').1
theorem Two.lo {c c' : List (Int × Ru)} {f d p : Int} (h : Two c c') (f0 : 0 < f) (bf : Bn 300 f) (d0 : 0 < d) (bd : Bn 300 d) (p1 : 1 ≤ p) (p2 : p ≤ 100) : LoOk (chT c).1 (chT c).2 (chT c').2 f d p := by
  obtain ⟨hT, w1, w2⟩ := chT_B h.a.ne h.a.w
  obtain ⟨hU, _, _⟩ := chT_B h.b.ne h.b.w
  exact ⟨w1, w2, hT, hU, f0, bf, d0, bd, p1, p2⟩
end Z
namespace Z
open L2 PySem PySem.Spec PyProof.Rows
open Evl (Ex ex_l ex_t ex_rd fresh_back)
/-- chains differ at a product, at a quotient -/
def prP (c c' : List (Int × Ru)) (a b : Int) : Prop := DfX (chT c).1 (chT c).2 (chT c').2 a 1 b
def quP (c c' : List (Int × Ru)) (a b : Int) : Prop := DfX (chT c).1 (chT c).2 (chT c').2 1 b a
instance (c c' : List (Int × Ru)) (a b : Int) : Decidable (prP c c' a b) := by unfold prP; infer_instance
instance (c c' : List (Int × Ru)) (a b : Int) : Decidable (quP c c' a b) := by unfold quP; infer_instance
end Z
namespace Z
open L2 PySem PySem.Spec PyProof.Rows
open Evl (Ex ex_l ex_t ex_rd fresh_back)
def cIntS : CF := fun rs post => match rs with
  | [.val (.str x)] => (match PySem.intText? x with | some n => x.length ≤ 640 ∧ post (.int n) | none => False)
  | _ => False
section
variable {X : Cx} {a b e : Expr} {ta tb : DE} {tr : DA} {pos p : Pos}
theorem ok_intS {K : Fg} : CallOk K (fun xs H Q => ∃ a n, xs = [V.str a] ∧ PySem.intText? a = some n ∧ a.length ≤ 640 ∧ Q (.int n) H) cIntS := fun F H a fu vs rs post Q e t hf k => by
  unfold cIntS at hf
  split at hf
  · rename_i x
    obtain ⟨v, rfl, r⟩ := t.v1
    cases r
    split at hf
    · rename_i n hn
      exact ⟨_, n, rfl, hn, hf.1, k _ _ H F hf.2 (Gr.refl e) (.int _)⟩
    · exact hf.elim
  · exact hf.elim
theorem e_tointS (hg : Gl X "int") (hm : X.mg "int" = none) (ha : PA X [e] (upA X.K tr)) (he : starEach [e] X.env = (false, eval e X.env) :: starEach [] X.env := by rfl) : PE X (.Call (.Name "int" p) [e] [] pos) (up X.K (dCB cIntS tr)) := e_callTy call_int_str ok_intS hg hm (by decide +kernel) ha (by decide) (by decide) he rfl
end
end Z
namespace Z
open L2 PySem PySem.Spec PyProof.Rows
end Z
namespace L2
open PySem PySem.Spec PyProof.Rows
end L2
namespace Z
open L2 PySem PySem.Spec PyProof.Rows
open Evl (Ex ex_l ex_t ex_rd fresh_back)
end Z
namespace Z
open L2 PySem PySem.Spec PyProof.Rows
open Evl (Ex ex_l ex_t ex_rd fresh_back)
end Z
namespace Z
open L2 PySem PySem.Spec PyProof.Rows
end Z
namespace Z
open L2 PySem PySem.Spec PyProof.Rows
open Evl (Ex ex_l ex_t ex_rd fresh_back)
end Z
namespace Z
open L2 PySem PySem.Spec PyProof.Rows
end Z
namespace Z
open L2 PySem PySem.Spec PyProof.Rows
open Evl (Ex ex_l ex_t ex_rd fresh_back)
theorem Rps.at {K : Fg} {F : Hp} : ∀ {vs : List V} {ds : List Da}, Rps K F vs ds → ∀ (i : Nat) v d, vs[i]? = some v → ds[i]? = some d → Rp K F v d
  | _, _, .nil, i, v, d, h, _ => by simp at h
  | _, _, .cons r t, 0, v, d, h1, h2 => by simp at h1 h2; subst h1; subst h2; exact r
  | _, _, .cons r t, i + 1, v, d, h1, h2 => Rps.at t i v d (by simpa using h1) (by simpa using h2)
end Z
namespace Z
open L2 PySem PySem.Spec PyProof.Rows
open Evl (Ex ex_l ex_t ex_rd fresh_back)
variable {Wx : WX}
def isOwn : Option Sv → Bool
  | some (.own _) => true
  | _ => false
structure StI (K : Fg) (p C dx : Addr) (F0 H0 : Hp) (g : Gs) (σ : L2.St) (H F : Hp) (a : Addr) (us : List (Str × V)) (fs : List (Str × Da)) : Prop where
  st : Sta K ⟨F, H, none⟩ g σ H [] [] F a
  fu : g.fu = none
  sl0 : g.sl[0]? = some (some (.ob (.at p)))
  ins : H p = some (.ins C dx us)
  fp : F p = none
  nm : us.map Prod.fst = fs.map Prod.fst
  rp : Rps K F (us.map Prod.snd) (fs.map Prod.snd)
  e0 : Ex F0 F
  kp : ∀ b o, b ≠ p → NT o → H0 b = some o → H b = some o
  nw : ∀ b, F b ≠ none → F0 b ≠ none ∨ H0 b = none
  tb : TbS H0 H
section
variable {K : Fg} {p C dx : Addr} {F0 H0 : Hp} {g g' : Gs} {σ σ' : L2.St} {H F H' F' : Hp} {a a' : Addr} {us : List (Str × V)} {fs : List (Str × Da)}
theorem no_own (h : g'.sl.any isOwn = false) {i : Nat} {ds : List Da} : g'.sl[i]? ≠ some (some (.own ds)) := fun z => by
  have h1 := List.mem_of_getElem? z
  rw [List.any_eq_false] at h
  exact h _ h1 rfl
/-- the state from now on -/
theorem Sta.rebase {c : Con} (s : Sta K c g' σ' H' [] [] F' a') (fu : g'.fu = none) (no : g'.sl.any isOwn = false) : Sta K ⟨F', H', none⟩ g' σ' H' [] [] F' a' :=
  ⟨Ex.refl _, s.eh, fun b o _ _ h => h, fun b h => .inl h, fun b h => (by cases h), fun _ => rfl, fun n h => (by rw [fu] at h; cases h), s.tmp, s.len, fun i sv h => by
    obtain ⟨v, h1, h2⟩ := s.slot i sv h
    refine ⟨v, h1, ?_⟩
    cases sv with
    | own ds => exact absurd h (no_own no)
    | _ => exact h2, s.dis, s.tabk, .refl⟩
theorem StI.next (t : StI K p C dx F0 H0 g σ H F a us fs) (s : Sta K ⟨F, H, none⟩ g' σ' H' [] [] F' a') (fu : g'.fu = none) (no : g'.sl.any isOwn = false) (sl0 : g'.sl[0]? = some (some (.ob (.at p)))) : StI K p C dx F0 H0 g' σ' H' F' a' us fs := by
  have kp : ∀ b o, NT o → H b = some o → H' b = some o := fun b o hn h => s.keep b o (fun z => by cases z) hn h
  have fp : F' p = none := by
    cases q : F' p with
    | none => rfl
    | some u =>
      rcases s.new p (ne_none q) with z | z
      · exact absurd t.fp z
      · have : H p = none := z
        rw [t.ins] at this
        cases this
  refine ⟨s.rebase fu no, fu, sl0, kp _ _ (fun _ z => by cases z) t.ins, fp, t.nm, t.rp.up s.e0, t.e0.trans s.e0, fun b o n hn h => kp b o hn (t.kp b o n hn h), fun b h => ?_, t.tb.trans s.tab⟩
  rcases s.new b h with z | z
  · exact t.nw b z
  · by_cases q : b = p
    · subst q; exact absurd fp h
    · refine .inr ?_
      cases w : H0 b with
      | none => rfl
      | some o =>
        have z : H b = none := z
        cases o with
        | tbl ps =>
          obtain ⟨ps', w'⟩ := t.tb b ps w
          rw [w'] at z; cases z
        | _ => rw [t.kp b _ q (fun _ z => by cases z) w] at z; cases z
end
end Z
namespace Z
open L2 PySem PySem.Spec PyProof.Rows
open Evl (Ex ex_l ex_t ex_rd fresh_back)
theorem forD_ix0 {t : DG} {tb : DS} {d : DEnds} (I : Nat → Gs → Prop) {ds : List Da} {g : Gs} (h1 : ∀ (i : Nat) x, ds[i]? = some x → ∀ g, I i g → ∀ N : Gs → Prop, (∀ g', I (i + 1) g' → N g') → t (.val x) g fun g1 => tb { d with nx := N, ct := N, bk := d.nx } g1)
    (h2 : ∀ g, I ds.length g → d.nx g) (h3 : I 0 g) : forD t tb ds d g := by
  refine forD_ix (k := 0) I (fun i x hx g hg N hN => ?_) (fun g hg => ?_) h3
  · rw [Nat.zero_add] at hg hN
    exact h1 i x hx g hg N hN
  · rw [Nat.zero_add] at hg
    exact h2 g hg
theorem rangeD_at {lo : Int} {n k : Nat} {x : Da} (h : (rangeD lo n)[k]? = some x) : k < n ∧ x = .int (lo + k) := by
  have hk := (List.getElem?_eq_some_iff.mp h).1
  rw [rangeD_len] at hk
  unfold rangeD at h
  rw [List.getElem?_map, List.getElem?_range hk] at h
  cases h
  exact ⟨hk, rfl⟩
end Z
namespace Z
open L2 PySem PySem.Spec PyProof.Rows
end Z
namespace Z
open L2 PySem PySem.Spec PyProof.Rows
open Evl (Ex ex_l ex_t ex_rd fresh_back)
variable {Wx : WX}
def plainS : Option Sv → Bool
  | none => true
  | some (.val _) => true
  | _ => false
section
variable {K : Fg} {F F' : Hp}
theorem rd_off (e : ∀ b o, (∀ C dx us, o ≠ .ins C dx us) → F b = some o → F' b = some o) {a : Addr} {u : HO} (hu : ∀ C dx us, u ≠ .ins C dx us) (h : Rd F a u) : Rd F' a u := by
  rcases h with h | ⟨o, h⟩
  · exact .inl (e a _ hu h)
  · exact .inr ⟨o, e a _ (fun _ _ _ z => by cases z) h⟩
mutual
theorem Rp.off (e : ∀ b o, (∀ C dx us, o ≠ .ins C dx us) → F b = some o → F' b = some o) : ∀ (d : Da) (v : V), Rp K F v d → Rp K F' v d
  | .none, _, h => by cases h; exact .non
  | .bool b, _, h => by cases h; exact .bl b
  | .int i, _, h => by cases h; exact .int i
  | .str x, _, h => by cases h; exact .str x
  | .list ds, _, h => by cases h with | lst hs ha => exact .lst (e _ _ (fun _ _ _ z => by cases z) hs) (Rps.off e ds _ ha)
  | .tuple ds, _, h => by cases h with | tup hs ha => exact .tup (hs.imp (rd_off e fun _ _ _ z => by cases z) id) (Rps.off e ds _ ha)
  | .dict es, _, h => by cases h with | dct hs ha => exact .dct (rd_off e (fun _ _ _ z => by cases z) hs) (RpK.off e es _ ha)
theorem Rps.off (e : ∀ b o, (∀ C dx us, o ≠ .ins C dx us) → F b = some o → F' b = some o) : ∀ (ds : List Da) (vs : List V), Rps K F vs ds → Rps K F' vs ds
  | [], _, h => by cases h; exact .nil
  | d :: ds, _, h => by cases h with | cons h1 h2 => exact .cons (Rp.off e d _ h1) (Rps.off e ds _ h2)
theorem RpK.off (e : ∀ b o, (∀ C dx us, o ≠ .ins C dx us) → F b = some o → F' b = some o) : ∀ (ds : List (Da × Da)) (vs : List (Key × V)), RpK K F vs ds → RpK K F' vs ds
  | [], _, h => by cases h; exact .nil
  | (_, d) :: ds, _, h => by cases h with | cons h1 h2 => exact .cons (Rp.off e d _ h1) (RpK.off e ds _ h2)
end
end
structure StJ (K : Fg) (nm : Str) (p C dx : Addr) (F0 H0 : Hp) (g : Gs) (σ : L2.St) (H F : Hp) (a : Addr) (us : List (Str × V)) (fs : List (Str × Da)) : Prop where
  st : Sta K ⟨F, H, none⟩ g σ H [] [] F a
  fu : g.fu = none
  sl0 : g.sl[0]? = some (some (.ob (.insAt p nm fs)))
  pl : g.sl.tail.all plainS = true
  nsC : PySem.W.nsIn K mainGlobals nm = some (some (.ref C))
  ins : F p = some (.ins C dx us)
  fp : F0 p = none
  nm : us.map Prod.fst = fs.map Prod.fst
  rp : Rps K F (us.map Prod.snd) (fs.map Prod.snd)
  e0 : Ex F0 F
  kp : ∀ b o, b ≠ p → NT o → H0 b = some o → H b = some o
  nw : ∀ b, b ≠ p → F b ≠ none → F0 b ≠ none ∨ H0 b = none
  tb : TbS H0 H
/-- the new instance is as it was, nothing is own -/
def okJ (g g' : Gs) : Prop := g'.fu = none ∧ g'.sl[0]? = g.sl[0]? ∧ g'.sl.tail.all plainS = true
def putD (f : Str) (d : Da) : List (Str × Da) → List (Str × Da)
  | [] => [(f, d)]
  | (n, x) :: r => if n = f then (n, d) :: r else (n, x) :: putD f d r
theorem put_rel {K : Fg} {F : Hp} {f : Str} {v : V} {d : Da} (rv : Rp K F v d) : ∀ {us : List (Str × V)} {fs : List (Str × Da)}, us.map Prod.fst = fs.map Prod.fst → Rps K F (us.map Prod.snd) (fs.map Prod.snd) →
    (putF f v us).map Prod.fst = (putD f d fs).map Prod.fst ∧ Rps K F ((putF f v us).map Prod.snd) ((putD f d fs).map Prod.snd)
  | [], [], _, _ => ⟨rfl, .cons rv .nil⟩
  | [], _ :: _, h, _ => by cases h
  | _ :: _, [], h, _ => by cases h
  | (n, x) :: us, (n', y) :: fs, h, hr => by
    rw [List.map_cons, List.map_cons] at h hr
    injection h with h1 h2
    have h1 : n = n' := h1
    subst h1
    cases hr with
    | cons r1 r2 =>
      obtain ⟨e1, e2⟩ := put_rel rv h2 r2
      unfold putF putD
      by_cases e : n = f
      · rw [if_pos e, if_pos e]
        exact ⟨by rw [List.map_cons, List.map_cons, h2], .cons rv r2⟩
      · rw [if_neg e, if_neg e]
        exact ⟨by rw [List.map_cons, List.map_cons, e1], .cons r1 e2⟩
section
variable {K : Fg} {nm : Str} {p C dx : Addr} {F0 H0 : Hp} {g g' : Gs} {σ σ' : L2.St} {H F H' F' : Hp} {a a' : Addr} {us : List (Str × V)} {fs : List (Str × Da)}
theorem no_ownJ {k : Kd} (h0 : g.sl[0]? = some (some (.ob k))) (ht : g.sl.tail.all plainS = true) {i : Nat} {ds : List Da} : g.sl[i]? ≠ some (some (.own ds)) := fun z => by
  cases i with
  | zero => rw [h0] at z; cases z
  | succ i =>
    have h1 : g.sl.tail[i]? = some (some (.own ds)) := by rw [List.getElem?_tail]; exact z
    have := List.all_eq_true.mp ht _ (List.mem_of_getElem? h1)
    cases this
theorem StJ.next (t : StJ K nm p C dx F0 H0 g σ H F a us fs) (s : Sta K ⟨F, H, none⟩ g' σ' H' [] [] F' a') (ok : okJ g g') : StJ K nm p C dx F0 H0 g' σ' H' F' a' us fs := by
  obtain ⟨fu, o0, pl⟩ := ok
  have sl0 : g'.sl[0]? = some (some (.ob (.insAt p nm fs))) := o0.trans t.sl0
  have kp : ∀ b o, NT o → H b = some o → H' b = some o := fun b o hn h => s.keep b o (fun z => by cases z) hn h
  refine ⟨⟨Ex.refl _, s.eh, fun b o _ _ h => h, fun b h => .inl h, fun b h => (by cases h), fun _ => rfl, fun n h => (by rw [fu] at h; cases h), s.tmp, s.len, fun i sv h => ?_, s.dis, s.tabk, .refl⟩, fu, sl0, pl, t.nsC, s.e0 _ _ t.ins, t.fp, t.nm, t.rp.up s.e0, t.e0.trans s.e0, fun b o n hn h => kp b o hn (t.kp b o n hn h), fun b n h => ?_, t.tb.trans s.tab⟩
  · obtain ⟨v, h1, h2⟩ := s.slot i sv h
    refine ⟨v, h1, ?_⟩
    cases sv with
    | own ds => exact absurd h (no_ownJ sl0 pl)
    | _ => exact h2
  · rcases s.new b h with z | z
    · exact t.nw b n z
    · refine .inr ?_
      cases w : H0 b with
      | none => rfl
      | some o =>
        have z : H b = none := z
        cases o with
        | tbl ps =>
          obtain ⟨ps', w'⟩ := t.tb b ps w
          rw [w'] at z; cases z
        | _ => rw [t.kp b _ n (fun _ z => by cases z) w] at z; cases z
theorem StJ.put (t : StJ K nm p C dx F0 H0 g σ H F a us fs) {f : Str} {v : V} {d : Da} (rv : Rp K F v d) :
    StJ K nm p C dx F0 H0 (g.set 0 (.ob (.insAt p nm (putD f d fs)))) σ (upd H p (.ins C dx (putF f v us))) (upd F p (.ins C dx (putF f v us))) a (putF f v us) (putD f d fs) := by
  obtain ⟨r1, r2⟩ := put_rel (f := f) rv t.nm t.rp
  have off : ∀ b o, (∀ C dx us, o ≠ HO.ins C dx us) → F b = some o → (upd F p (.ins C dx (putF f v us))) b = some o := fun b o n h => by
    rw [upd_ne fun z => by subst z; rw [t.ins] at h; cases h; exact n _ _ _ rfl]
    exact h
  have r3 := Rps.off (K := K) off _ _ r2
  have l0 : 0 < g.sl.length := by
    have := t.sl0
    rcases Nat.eq_zero_or_pos g.sl.length with z | z
    · rw [List.getElem?_eq_none (by omega)] at this; cases this
    · exact z
  have sl0 : (g.set 0 (.ob (.insAt p nm (putD f d fs)))).sl[0]? = some (some (.ob (.insAt p nm (putD f d fs)))) := by
    show (g.sl.set 0 _)[0]? = _
    rw [List.getElem?_set_self l0]
  have pl : (g.set 0 (.ob (.insAt p nm (putD f d fs)))).sl.tail.all plainS = true := by
    show (g.sl.set 0 _).tail.all plainS = true
    have := t.pl
    cases h : g.sl with
    | nil => rfl
    | cons x xs => rw [h] at this; exact this
  obtain ⟨v0, w1, w2⟩ := t.st.slot 0 _ t.sl0
  have up := TbS.but (H' := upd H p (.ins C dx (putF f v us))) (t.st.eh _ _ t.ins) (fun _ z => by cases z) fun b u nb h => by rw [upd_ne nb]; exact h
  refine ⟨⟨Ex.refl _, fun b o h => ?_, fun b o _ _ h => h, fun b h => .inl h, fun b h => (by cases h), fun _ => rfl, fun n h => (by rw [show (g.set 0 (.ob (.insAt p nm (putD f d fs)))).fu = g.fu from rfl, t.fu] at h; cases h), .nil, ?_, fun i sv h => ?_, fun i j ds es _ h => absurd h (no_ownJ sl0 pl), fun y cd P e1 e2 => ?_, .refl⟩, t.fu, sl0, pl, t.nsC, upd_same, t.fp, r1, r3, fun b o h => ?_, fun b o n hn h => ?_, fun b n h => ?_, t.tb.trans up⟩
  rotate_left 3
  · obtain ⟨⟨ps, a1, a2, a3⟩, a4⟩ := t.st.t0 y cd P e1 e2
    have nP : P ≠ p := fun z => by rw [z, t.ins] at a4; cases a4
    refine ⟨⟨ps, (upd_ne nP).trans a1, a2, fun pos cv hc => ?_⟩, (upd_ne nP).trans a4⟩
    obtain ⟨c, w1, w2⟩ := a3 pos cv hc
    exact ⟨c, w1, (upd_ne fun z => by rw [z, t.ins] at w2; unfold LamX.CodeO at w2; cases w2).trans w2⟩
  rotate_right 3
  · by_cases e : b = p
    · subst e; rw [upd_same] at h ⊢; exact h
    · rw [upd_ne e] at h ⊢; exact t.st.eh b o h
  · show σ.length = (g.sl.set 0 _).length
    rw [List.length_set]; exact t.st.len
  · cases i with
    | zero =>
      rw [sl0] at h
      cases h
      refine ⟨v0, w1, ?_⟩
      obtain ⟨_, _, _, e1, _⟩ := w2
      exact ⟨C, dx, _, e1, t.nsC, upd_same, r1, r3⟩
    | succ i =>
      have h' : g.sl[i + 1]? = some (some sv) := by
        rw [← h]
        show _ = (g.sl.set 0 _)[i + 1]?
        rw [List.getElem?_set_ne (by omega)]
      obtain ⟨v, q1, q2⟩ := t.st.slot (i + 1) sv h'
      refine ⟨v, q1, ?_⟩
      have pp : plainS (some sv) = true := List.all_eq_true.mp t.pl _ (List.mem_of_getElem? (i := i) (by rw [List.getElem?_tail]; exact h'))
      cases sv with
      | val d => exact Rp.off off d v q2
      | _ => cases pp
  · rw [upd_ne fun z => by subst z; rw [t.fp] at h; cases h]
    exact t.e0 b o h
  · rw [upd_ne n]; exact t.kp b o n hn h
  · rw [upd_ne n] at h; exact t.nw b n h
end
end Z
namespace Z
open L2 PySem PySem.Spec PyProof.Rows
/-- the sign of the root of n / d minus t / b * 2 ^ e -/
def cmR (n d e t b : Int) : Int :=
  (if d * t * t * 2 ^ (2 * e).toNat < n * b * b * 2 ^ (0 - 2 * e).toNat then 1 else 0) - (if n * b * b * 2 ^ (0 - 2 * e).toNat < d * t * t * 2 ^ (2 * e).toNat then 1 else 0)
theorem cmR_pos {n d e t b : Int} : 0 < cmR n d e t b ↔ d * t * t * 2 ^ (2 * e).toNat < n * b * b * 2 ^ (0 - 2 * e).toNat := by
  unfold cmR
  split <;> split <;> omega
/-- the root's cell -/
structure RC (n d w k e : Int) : Prop where
  lo : 2 ^ (w - 1).toNat ≤ k
  hi : k < 2 ^ w.toNat
  le : k * k * (d * 2 ^ (2 * e).toNat) ≤ n * 2 ^ (0 - 2 * e).toNat
  lt : n * 2 ^ (0 - 2 * e).toNat < (k + 1) * (k + 1) * (d * 2 ^ (2 * e).toNat)
theorem sq_le {x y : Int} (h0 : 0 ≤ x) (h : x ≤ y) : x * x ≤ y * y := Int.mul_le_mul h h h0 (Int.le_trans h0 h)
theorem sq_lt {x y c : Int} (hc : 0 < c) (hx : 0 ≤ x) (hy : 0 ≤ y) (h : x * x * c < (y + 1) * (y + 1) * c) : x ≤ y := by
  rcases Int.lt_or_le y x with z | z
  · have := Int.mul_le_mul_of_nonneg_right (sq_le (show 0 ≤ y + 1 by omega) (show y + 1 ≤ x by omega)) (Int.le_of_lt hc)
    omega
  · exact z
theorem p4 (m : Nat) : (2 : Int) ^ m * 2 ^ m = 4 ^ m := by rw [← Int.mul_pow]; rfl
theorem RC.bnd {n d w k e : Int} (hd : 0 < d) (hw : 1 ≤ w) (h : RC n d w k e) : 4 ^ (w - 1).toNat * (d * 2 ^ (2 * e).toNat) ≤ n * 2 ^ (0 - 2 * e).toNat ∧ n * 2 ^ (0 - 2 * e).toNat < 4 * 4 ^ (w - 1).toNat * (d * 2 ^ (2 * e).toNat) := by
  obtain ⟨h1, h2, h3, h4⟩ := h
  have ew : w.toNat = (w - 1).toNat + 1 := by omega
  rw [ew, Int.pow_succ] at h2
  generalize (w - 1).toNat = m at *
  have hp := Int.mul_pos hd (pow2_pos (2 * e).toNat)
  generalize d * 2 ^ (2 * e).toNat = P at *
  have q1 := sq_le (Int.le_of_lt (pow2_pos m)) h1
  have q2 := sq_le (show 0 ≤ k + 1 by have := pow2_pos m; omega) (show k + 1 ≤ 2 ^ m * 2 by omega)
  have e2 : (2 : Int) ^ m * 2 * (2 ^ m * 2) = 4 * 4 ^ m := by rw [← p4]; grind
  rw [p4] at q1
  rw [e2] at q2
  have r1 := Int.mul_le_mul_of_nonneg_right q1 (Int.le_of_lt hp)
  have r2 := Int.mul_le_mul_of_nonneg_right q2 (Int.le_of_lt hp)
  omega
/-- the cell of a root times a power of two -/
theorem RC.scaled {n d n' d' w k e k' e' s : Int} {a b : Nat} (hd : 0 < d) (hd' : 0 < d') (hw : 1 ≤ w) (hx : n' * d * 2 ^ a = n * d' * 2 ^ b) (hs : (b : Int) - a = 2 * s) (h : RC n d w k e) (h' : RC n' d' w k' e') :
    k' = k ∧ e' = e + s ∧ n' * 2 ^ (0 - 2 * e').toNat * (d * 2 ^ (2 * e).toNat) = n * 2 ^ (0 - 2 * e).toNat * (d' * 2 ^ (2 * e').toNat) := by
  obtain ⟨b1, b2⟩ := h.bnd hd hw
  obtain ⟨c1, c2⟩ := h'.bnd hd' hw
  obtain ⟨lo, hi, x1, x2⟩ := h
  obtain ⟨lo', hi', y1, y2⟩ := h'
  generalize hq : (0 - 2 * e).toNat = q at *
  generalize hp : (2 * e).toNat = p at *
  generalize hq' : (0 - 2 * e').toNat = q' at *
  generalize hp' : (2 * e').toNat = p' at *
  have P0 := Int.mul_pos hd (pow2_pos p)
  have P0' := Int.mul_pos hd' (pow2_pos p')
  have k0 : 0 ≤ k := Int.le_trans (Int.le_of_lt (pow2_pos _)) lo
  have k0' : 0 ≤ k' := Int.le_trans (Int.le_of_lt (pow2_pos _)) lo'
  have m0 : (0 : Int) < 4 ^ (w - 1).toNat := Int.pow_pos (by decide)
  generalize (4 : Int) ^ (w - 1).toNat = M at *
  have key : n' * 2 ^ q' * (d * 2 ^ p) * 2 ^ (a + p' + q) = n * 2 ^ q * (d' * 2 ^ p') * 2 ^ (b + q' + p) := by
    calc n' * 2 ^ q' * (d * 2 ^ p) * 2 ^ (a + p' + q) = (n' * d * 2 ^ a) * (2 ^ q' * 2 ^ p * 2 ^ p' * 2 ^ q) := by rw [Int.pow_add, Int.pow_add]; grind
      _ = (n * d' * 2 ^ b) * (2 ^ q' * 2 ^ p * 2 ^ p' * 2 ^ q) := by rw [hx]
      _ = _ := by rw [Int.pow_add, Int.pow_add]; grind
  generalize hu : a + p' + q = u at key
  generalize hv : b + q' + p = v at key
  have huv : (v : Int) - u = 2 * (s + e - e') := by omega
  generalize hA : n * 2 ^ q = A at *
  generalize hP : d * 2 ^ p = P at *
  generalize hA' : n' * 2 ^ q' = A' at *
  generalize hP' : d' * 2 ^ p' = P' at *
  have t1 : ¬ u + 2 ≤ v := fun z => by
    obtain ⟨f, rfl⟩ : ∃ f, v = u + 2 + f := ⟨v - (u + 2), by omega⟩
    have k2 : A' * P = A * P' * (4 * 2 ^ f) := by
      refine Int.eq_of_mul_eq_mul_right (a := 2 ^ u) (by have := pow2_pos u; omega) ?_
      rw [key, Int.pow_add, Int.pow_add]
      grind
    have z1 : M * P * P' ≤ A * P' := Int.mul_le_mul_of_nonneg_right b1 (Int.le_of_lt P0')
    have z2 : A' * P < 4 * M * P' * P := Int.mul_lt_mul_of_pos_right c2 P0
    have z3 := Int.mul_nonneg (Int.le_trans (Int.mul_nonneg (Int.mul_nonneg (Int.le_of_lt m0) (Int.le_of_lt P0)) (Int.le_of_lt P0')) z1) (show (0 : Int) ≤ 2 ^ f - 1 by have := pow2_pos f; omega)
    have z4 : A * P' * (4 * 2 ^ f) = 4 * (A * P' * (2 ^ f - 1)) + 4 * (A * P') := by grind
    have z5 : 4 * M * P' * P = 4 * (M * P * P') := by grind
    omega
  have t2 : ¬ v + 2 ≤ u := fun z => by
    obtain ⟨f, rfl⟩ : ∃ f, u = v + 2 + f := ⟨u - (v + 2), by omega⟩
    have k2 : A * P' = A' * P * (4 * 2 ^ f) := by
      refine Int.eq_of_mul_eq_mul_right (a := 2 ^ v) (by have := pow2_pos v; omega) ?_
      rw [← key, Int.pow_add, Int.pow_add]
      grind
    have z1 : M * P' * P ≤ A' * P := Int.mul_le_mul_of_nonneg_right c1 (Int.le_of_lt P0)
    have z2 : A * P' < 4 * M * P * P' := Int.mul_lt_mul_of_pos_right b2 P0'
    have z3 := Int.mul_nonneg (Int.le_trans (Int.mul_nonneg (Int.mul_nonneg (Int.le_of_lt m0) (Int.le_of_lt P0')) (Int.le_of_lt P0)) z1) (show (0 : Int) ≤ 2 ^ f - 1 by have := pow2_pos f; omega)
    have z4 : A' * P * (4 * 2 ^ f) = 4 * (A' * P * (2 ^ f - 1)) + 4 * (A' * P) := by grind
    have z5 : 4 * M * P * P' = 4 * (M * P' * P) := by grind
    omega
  have e1 : u = v := by omega
  subst e1
  have k1 : A' * P = A * P' := Int.eq_of_mul_eq_mul_right (a := 2 ^ u) (by have := pow2_pos u; omega) key
  refine ⟨?_, by omega, k1⟩
  have PP := Int.mul_pos P0 P0'
  have l1 : k ≤ k' := sq_lt PP k0 k0' (by
    have r1 := Int.mul_le_mul_of_nonneg_right x1 (Int.le_of_lt P0')
    have r2 := Int.mul_lt_mul_of_pos_right y2 P0
    have q1 : k * k * P * P' = k * k * (P * P') := by grind
    have q2 : (k' + 1) * (k' + 1) * P' * P = (k' + 1) * (k' + 1) * (P * P') := by grind
    omega)
  have l2 : k' ≤ k := sq_lt PP k0' k0 (by
    have r1 := Int.mul_le_mul_of_nonneg_right y1 (Int.le_of_lt P0)
    have r2 := Int.mul_lt_mul_of_pos_right x2 P0'
    have q1 : k' * k' * P' * P = k' * k' * (P * P') := by grind
    have q2 : (k + 1) * (k + 1) * P * P' = (k + 1) * (k + 1) * (P * P') := by grind
    omega)
  omega
theorem RC.uniq {n d w k e k' e' : Int} (hd : 0 < d) (hw : 1 ≤ w) (h : RC n d w k e) (h' : RC n d w k' e') : k' = k ∧ e' = e := by
  obtain ⟨a, b, _⟩ := RC.scaled (a := 0) (b := 0) (s := 0) hd hd hw rfl (by decide) h h'
  exact ⟨a, by omega⟩
/-- whether the root's position is above the threshold -/
def UpR (n d e k : Int) (T : Bool → Th) : Prop :=
  cmR n d e k 1 ≠ 0 ∧ (0 < cmR n d e (k * (T (decide (k % 2 = 1))).d + (T (decide (k % 2 = 1))).n) (T (decide (k % 2 = 1))).d ∨ (cmR n d e (k * (T (decide (k % 2 = 1))).d + (T (decide (k % 2 = 1))).n) (T (decide (k % 2 = 1))).d = 0 ∧ (T (decide (k % 2 = 1))).up = true))
instance (n d e k : Int) (T : Bool → Th) : Decidable (UpR n d e k T) := by unfold UpR; infer_instance
end Z
namespace Z
open L2 PySem PySem.Spec PyProof.Rows
open Evl (Ex ex_l ex_t ex_rd fresh_back)
end Z
namespace Z
open L2 PySem PySem.Spec PyProof.Rows
open Evl (Ex ex_l ex_t ex_rd fresh_back)
mutual
def layX : Da → Bool
  | .none => true
  | .bool _ => true
  | .int _ => true
  | .str x => PyData.strOk x
  | .list xs => layXs xs
  | .tuple xs => layXs xs
  | .dict kvs => layKv kvs
def layXs : List Da → Bool
  | [] => true
  | x :: xs => layX x && layXs xs
def layKv : List (Da × Da) → Bool
  | [] => true
  | (k, v) :: r => layX k && layX v && layKv r
end
mutual
def szX : Da → Nat
  | .none => 4
  | .bool _ => 5
  | .int _ => 1921
  | .str x => 10 * x.length + 2
  | .list xs => szXs xs + 3
  | .tuple xs => szXs xs + 3
  | .dict kvs => szKv kvs + 3
def szXs : List Da → Nat
  | [] => 0
  | x :: xs => szX x + 2 + szXs xs
def szKv : List (Da × Da) → Nat
  | [] => 0
  | (k, v) :: r => szX k + szX v + 4 + szKv r
end
theorem dictText_len_le (ps : List Str) : (dictText ps).length ≤ (ps.map (·.length)).sum + 2 * ps.length + 2 := by
  have h : (Str.join ", " ps).length ≤ (ps.map (·.length)).sum + ps.length * 2 := StrLaws.join_length_le ", " ps
  unfold dictText
  rw [strLen_append, strLen_append]
  show 1 + (Str.join ", " ps).length + 1 ≤ _
  omega
mutual
theorem szX_ok : ∀ d : Da, layX d = true → d.showable = true → d.shown.length ≤ szX d
  | .none, _, _ => by decide +kernel
  | .bool true, _, _ => by decide +kernel
  | .bool false, _, _ => by decide +kernel
  | .int i, _, h => int_text_len_1921 (of_decide_eq_true (show decide (i.natAbs.log2 < 1920) = true from h))
  | .str x, h, _ => StrLaws.reprText_len x (strOk_small h)
  | .list xs, h, h' => by
    have h1 := szXs_ok xs h (by simpa [PyData.showable] using h')
    have h2 := listText_len_le (PyData.shownAll xs)
    show (listText (PyData.shownAll xs)).length ≤ szXs xs + 3
    omega
  | .tuple xs, h, h' => by
    have h1 := szXs_ok xs h (by simpa [PyData.showable] using h')
    have h2 := tupleText_len_le (PyData.shownAll xs)
    show (tupleText (PyData.shownAll xs)).length ≤ szXs xs + 3
    omega
  | .dict kvs, h, h' => by
    have h1 := szKv_ok kvs h (by simpa [PyData.showable] using h')
    have h2 := dictText_len_le (PyData.shownKv kvs)
    show (dictText (PyData.shownKv kvs)).length ≤ szKv kvs + 3
    omega
theorem szXs_ok : ∀ xs : List Da, layXs xs = true → PyData.showableAll xs = true → ((PyData.shownAll xs).map (·.length)).sum + 2 * (PyData.shownAll xs).length ≤ szXs xs
  | [], _, _ => by simp [PyData.shownAll, szXs]
  | x :: xs, h, h' => by
    have q : layX x = true ∧ layXs xs = true := by simpa [layXs] using h
    have q' : x.showable = true ∧ PyData.showableAll xs = true := by simpa [PyData.showableAll] using h'
    have h1 := szX_ok x q.1 q'.1
    have h2 := szXs_ok xs q.2 q'.2
    simp only [PyData.shownAll, szXs, List.map_cons, List.sum_cons, List.length_cons]
    omega
theorem szKv_ok : ∀ kvs : List (Da × Da), layKv kvs = true → PyData.showableKv kvs = true → ((PyData.shownKv kvs).map (·.length)).sum + 2 * (PyData.shownKv kvs).length ≤ szKv kvs
  | [], _, _ => by simp [PyData.shownKv, szKv]
  | (k, v) :: r, h, h' => by
    have q : (layX k = true ∧ layX v = true) ∧ layKv r = true := by simpa [layKv] using h
    have q' : (k.showable = true ∧ v.showable = true) ∧ PyData.showableKv r = true := by simpa [PyData.showableKv] using h'
    have h1 := szX_ok k q.1.1 q'.1.1
    have h2 := szX_ok v q.1.2 q'.1.2
    have h3 := szKv_ok r q.2 q'.2
    have e : (k.shown ++ ": " ++ v.shown).length = k.shown.length + 2 + v.shown.length := by
      rw [strLen_append, strLen_append]; rfl
    simp only [PyData.shownKv, szKv, List.map_cons, List.sum_cons, List.length_cons, e]
    omega
end
mutual
theorem cps_shownX : ∀ d : Da, layX d = true → Cps d.shown
  | .none, _ => cps_of _
  | .bool b, _ => by cases b <;> exact cps_of _
  | .int i, _ => cps_of _
  | .str x, h => cps_repr (cps_ok.mp h)
  | .list xs, h => cps_app (cps_text _ _ _ (cps_of _) (cps_allX xs h)) (cps_of _)
  | .tuple xs, h => cps_app (cps_app (cps_of _) (cps_join (cps_of _) _ (cps_allX xs h))) (cps_of _)
  | .dict kvs, h => cps_app (cps_app (cps_of _) (cps_join (cps_of _) _ (cps_allKv kvs h))) (cps_of _)
theorem cps_allX : ∀ xs : List Da, layXs xs = true → ∀ t ∈ PyData.shownAll xs, Cps t
  | [], _, t, ht => by simp [PyData.shownAll] at ht
  | x :: xs, h, t, ht => by
    have q : layX x = true ∧ layXs xs = true := by simpa [layXs] using h
    rcases List.mem_cons.mp (show t ∈ x.shown :: PyData.shownAll xs from ht) with rfl | ht
    · exact cps_shownX x q.1
    · exact cps_allX xs q.2 t ht
theorem cps_allKv : ∀ kvs : List (Da × Da), layKv kvs = true → ∀ t ∈ PyData.shownKv kvs, Cps t
  | [], _, t, ht => by simp [PyData.shownKv] at ht
  | (k, v) :: r, h, t, ht => by
    have q : (layX k = true ∧ layX v = true) ∧ layKv r = true := by simpa [layKv] using h
    rcases List.mem_cons.mp (show t ∈ (k.shown ++ ": " ++ v.shown) :: PyData.shownKv r from ht) with rfl | ht
    · exact cps_app (cps_app (cps_shownX k q.1.1) (cps_of _)) (cps_shownX v q.1.2)
    · exact cps_allKv r q.2 t ht
end
/-- may be shown, dicts among them -/
structure ShX (d : Da) : Prop where
  lay : layX d = true
  sh : d.showable = true
  dp : d.depth ≤ 60
  sz : szX d ≤ 16000000
theorem ShX.len {d : Da} (h : ShX d) : d.shown.length ≤ sizeLine := Nat.le_trans (szX_ok d h.lay h.sh) (Nat.le_trans h.sz (by decide))
theorem ShX.cps {d : Da} (h : ShX d) : Cps d.shown := cps_shownX d h.lay
section
variable {X : Cx} {pins : List (Addr × Obj)} {σ : L2.St} {H F : Hp} {s : Shared}
theorem rek_more {P : Program} {w : World} {as as' : List Addr} {h : Heap} {d d' : Nat} (hsub : ∀ b ∈ as, b ∈ as') (hd : d ≤ d') : ∀ {es : List DictEntry} {ps : List Str}, ReprEntriesK P w as h d es ps → ReprEntriesK P w as' h d' es ps
  | _, _, .nil => .nil
  | _, _, .cons h1 h2 h3 => .cons ((h1.more hsub).level_le hd) ((h2.more hsub).level_le hd) (rek_more hsub hd h3)
theorem key_reads {h : Heap} {k : Key} {v : Value} (e : keyIs k v = true) : Reads h v (keyD k) [] := by
  rcases keyIs_shape e with ⟨i, t, rfl, rfl⟩ | ⟨x, t, rfl, rfl⟩
  · exact .int i t
  · exact .str x t
mutual
theorem rp_repr (I : Inv X pins σ H s) (e : Ex F H) : ∀ (d : Da) (v : V) (u : Value), Rp X.K F v d → RelV v u → d.showable = true → d.shown.length ≤ sizeLine →
    ∃ as bs, Reads s.heap u d as ∧ ReadAtMost s.heap d.depth bs ∧ ReprK X.prog X.w bs s.heap d.depth u d.shown
  | .none, _, _, h, r, _, _ => by cases h; cases r; exact ⟨[], [], .none, (fun _ h => nomatch h), by simp only [PyData.shown]; exact .of_is ReprIs.none _ _ _⟩
  | .bool b, _, _, h, r, _, _ => by cases h; cases r; exact ⟨[], [], .bool b, (fun _ h => nomatch h), by simp only [PyData.shown]; exact .of_is (ReprIs.bool b) _ _ _⟩
  | .int i, _, _, h, r, hs, _ => by cases h; obtain ⟨t, rfl⟩ := r; exact ⟨[], [], .int i t, (fun _ h => nomatch h), by simp only [PyData.shown]; exact .of_is (ReprIs.int t (by simpa [PyData.showable] using hs)) _ _ _⟩
  | .str x, _, _, h, r, _, hz => by cases h; obtain ⟨t, rfl⟩ := r; exact ⟨[], [], .str x t, (fun _ h => nomatch h), by simp only [PyData.shown]; exact .of_is (ReprIs.str x t (by simpa only [PyData.shown] using hz)) _ _ _⟩
  | .list ds, _, _, h, r, hs, hz => by
    cases h with
    | lst hf ha =>
      rename_i a xs
      cases r
      obtain ⟨its, rv, ⟨⟨cls, dd, data, sls⟩, n, ho, hc, hdn, hdt⟩, hlen⟩ := I.list (.inl (.inl (e _ _ hf)))
      simp only at hc hdt
      subst hc hdt
      have hz' : (listText (PyData.shownAll ds)).length ≤ sizeLine := by simpa only [PyData.shown] using hz
      obtain ⟨as, bs, h4, hb, hk⟩ := rps_repr I e ds xs its ha rv (by simpa [PyData.showable] using hs) (fun t ht => Nat.le_trans (listText_mem_le ht) hz')
      have r : Reads s.heap (.ref a) (.list ds) _ := .list ho rfl rfl h4
      have hna : a ∉ bs := not_mem_of_deeper r (by simp only [PyData.depth]; omega) hb
      refine ⟨_, a :: bs, r, ReadAtMost.cons r (by simp only [PyData.depth]; omega) hb, ?_⟩
      simp only [PyData.depth, PyData.shown]
      cases its with
      | nil =>
        cases h4
        simp only [PyData.shownAll, listText_nil]
        exact ReprK.listEmpty ho rfl rfl
      | cons y l => exact ReprK.list ho rfl rfl hna (by simpa using hk.length_eq) (fun i y e => hk.item i y (by simpa using e))
  | .tuple ds, _, _, h, r, hs, hz => by
    cases h with
    | tup hf ha =>
      rename_i a xs
      cases r
      obtain ⟨its, rv, ⟨o, ho, hc, n, hd⟩, hlen⟩ := I.tuple (ex_t e hf)
      have hz' : (tupleText (PyData.shownAll ds)).length ≤ sizeLine := by simpa only [PyData.shown] using hz
      obtain ⟨as, bs, h4, hb, hk⟩ := rps_repr I e ds xs its ha rv (by simpa [PyData.showable] using hs) (fun t ht => Nat.le_trans (tupleText_mem_le ht) hz')
      have r : Reads s.heap (.ref a) (.tuple ds) _ := .tuple ho hc hd h4
      have hna : a ∉ bs := not_mem_of_deeper r (by simp only [PyData.depth]; omega) hb
      refine ⟨_, a :: bs, r, ReadAtMost.cons r (by simp only [PyData.depth]; omega) hb, ?_⟩
      simp only [PyData.depth, PyData.shown]
      exact ReprK.tuple ho hc hd hna hk
  | .dict es, _, _, h, r, hs, hz => by
    cases h with
    | dct hf ha =>
      rename_i a kvs
      cases r
      obtain ⟨hl, hsys, vs, hkv, o, en, ep, ho, hx, hd, _, hp, _⟩ := dk_rd I.hok (ex_rd e hf)
      have hz' : (dictText (PyData.shownKv es)).length ≤ sizeLine := by simpa only [PyData.shown] using hz
      obtain ⟨as, bs, b, h4, h5, hb, hk⟩ := rpk_repr I e es kvs vs en.toList ha hkv hp (by simpa [PyData.showable] using hs) (fun t ht => Nat.le_trans (dictText_mem_le ht) hz')
      have r : Reads s.heap (.ref a) (.dict es) _ := .dict ho hx.1 hd h4 h5
      have hna : a ∉ b := not_mem_of_deeper r (by simp only [PyData.depth]; omega) hb
      refine ⟨_, a :: b, r, ReadAtMost.cons r (by simp only [PyData.depth]; omega) hb, ?_⟩
      simp only [PyData.depth, PyData.shown]
      exact ReprK.dict ho hx.1 hd hsys hna hk
theorem rps_repr (I : Inv X pins σ H s) (e : Ex F H) : ∀ (ds : List Da) (vs : List V) (us : List Value), Rps X.K F vs ds → Vals vs us → PyData.showableAll ds = true → (∀ t ∈ PyData.shownAll ds, t.length ≤ sizeLine) →
    ∃ as bs, ReadsAll s.heap us ds as ∧ ReadAtMost s.heap (PyData.depthAll ds) bs ∧ ReprAllK X.prog X.w bs s.heap (PyData.depthAll ds) us (PyData.shownAll ds)
  | [], _, _, h, r, _, _ => by cases h; cases r; exact ⟨[], [], .nil, (fun _ h => nomatch h), by simp only [PyData.shownAll]; exact .nil⟩
  | d :: ds, _, _, h, r, hs, hz => by
    cases h with
    | cons h1 h2 =>
      cases r with
      | cons r1 r2 =>
        have hs' : d.showable = true ∧ PyData.showableAll ds = true := by simpa [PyData.showableAll] using hs
        obtain ⟨a1, b1, q1, hb1, k1⟩ := rp_repr I e d _ _ h1 r1 hs'.1 (hz _ (by simp only [PyData.shownAll]; exact List.mem_cons_self ..))
        obtain ⟨a2, b2, q2, hb2, k2⟩ := rps_repr I e ds _ _ h2 r2 hs'.2 (fun t ht => hz t (by simp only [PyData.shownAll]; exact List.mem_cons_of_mem _ ht))
        refine ⟨a1 ++ a2, b1 ++ b2, .cons q1 q2, ?_, ?_⟩
        · intro b hm
          simp only [PyData.depthAll]
          rcases List.mem_append.mp hm with hm | hm
          · obtain ⟨d', as', r', hd'⟩ := hb1 b hm
            exact ⟨d', as', r', Nat.le_trans hd' (Nat.le_max_left _ _)⟩
          · obtain ⟨d', as', r', hd'⟩ := hb2 b hm
            exact ⟨d', as', r', Nat.le_trans hd' (Nat.le_max_right _ _)⟩
        · simp only [PyData.depthAll, PyData.shownAll]
          exact .cons ((k1.more fun b hb => List.mem_append_left _ hb).level_le (Nat.le_max_left _ _)) (k2.more_le (fun b hb => List.mem_append_right _ hb) (Nat.le_max_right _ _))
theorem rpk_repr (I : Inv X pins σ H s) (e : Ex F H) : ∀ (es : List (Da × Da)) (kvs : List (Key × V)) (vs : List (Key × Value)) (en : List DictEntry), RpK X.K F kvs es → KV kvs vs → Pairs (mixKind X.prog X.w) en vs → PyData.showableKv es = true → (∀ t ∈ PyData.shownKv es, t.length ≤ sizeLine) →
    ∃ as bs b, ReadsAll s.heap (en.map (·.key)) (es.map (·.1)) as ∧ ReadsAll s.heap (en.map (·.val)) (es.map (·.2)) bs ∧ ReadAtMost s.heap (PyData.depthKv es) b ∧ ReprEntriesK X.prog X.w b s.heap (PyData.depthKv es) en (PyData.shownKv es)
  | [], _, _, _, h, r, p, _, _ => by
    cases h; cases r; cases p
    exact ⟨[], [], [], .nil, .nil, (fun _ h => nomatch h), by simp only [PyData.shownKv]; exact .nil⟩
  | (_, d) :: es, _, _, _, h, r, p, hs, hz => by
    cases h with
    | cons h1 h2 =>
      cases r with
      | cons r1 r2 =>
        cases p with
        | cons p1 p2 p3 =>
          rename_i k v kvs' q vs' en' es'
          obtain ⟨rk, rv⟩ := r1
          have rk : k = q.1 := rk
          have rv : RelV v q.2 := rv
          have hs' : ((keyD k).showable = true ∧ d.showable = true) ∧ PyData.showableKv es = true := by simpa [PyData.showableKv] using hs
          have hz1 : ((keyD k).shown ++ ": " ++ d.shown).length ≤ sizeLine := hz _ (by simp only [PyData.shownKv]; exact List.mem_cons_self ..)
          rw [strLen_append, strLen_append] at hz1
          have p1' : keyIs k en'.key = true := by rw [rk]; exact p1
          obtain ⟨a1, b1, q1, hb1, k1⟩ := rp_repr I e d _ _ h1 (show RelV v en'.val by rw [p2]; exact rv) hs'.1.2 (by omega)
          obtain ⟨a2, a3, b2, q2, q3, hb2, k2⟩ := rpk_repr I e es _ _ _ h2 r2 p3 hs'.2 (fun t ht => hz t (by simp only [PyData.shownKv]; exact List.mem_cons_of_mem _ ht))
          have kk : ReprK X.prog X.w (b1 ++ b2) s.heap (max (max (keyD k).depth d.depth) (PyData.depthKv es)) en'.key (keyD k).shown := by
            have g := hs'.1.1
            rcases keyIs_shape p1' with ⟨i, t, e1, e2⟩ | ⟨x, t, e1, e2⟩
            · rw [e2]
              rw [e1] at g ⊢
              simp only [keyD, PyData.shown]
              exact .of_is (ReprIs.int t (by simpa [keyD, PyData.showable] using g)) _ _ _
            · rw [e2]
              rw [e1] at hz1 ⊢
              simp only [keyD, PyData.shown] at hz1 ⊢
              exact .of_is (ReprIs.str x t (by omega)) _ _ _
          refine ⟨[] ++ a2, a1 ++ a3, b1 ++ b2, .cons (key_reads p1') q2, .cons q1 q3, ?_, ?_⟩
          · intro b hm
            simp only [PyData.depthKv]
            rcases List.mem_append.mp hm with hm | hm
            · obtain ⟨d', as', r', hd'⟩ := hb1 b hm
              exact ⟨d', as', r', by omega⟩
            · obtain ⟨d', as', r', hd'⟩ := hb2 b hm
              exact ⟨d', as', r', by omega⟩
          · simp only [PyData.depthKv, PyData.shownKv]
            have kv : ReprK X.prog X.w (b1 ++ b2) s.heap (max (max (keyD k).depth d.depth) (PyData.depthKv es)) en'.val d.shown := (k1.more fun b hb => List.mem_append_left _ hb).level_le (by omega)
            have kr : ReprEntriesK X.prog X.w (b1 ++ b2) s.heap (max (max (keyD k).depth d.depth) (PyData.depthKv es)) es' (PyData.shownKv es) := rek_more (fun b hb => List.mem_append_right _ hb) (by omega) k2
            first
              | exact .cons kk kv kr
              | (rw [Nat.max_assoc] at kk kv kr; exact .cons kk kv kr)
end
theorem shows_x (I : Inv X pins σ H s) (e : Ex F H) {a : Addr} {d : Da} {v : V} (hr : Rp X.K F v d) (r : RelV v (.ref a)) (hs : d.showable = true) (hz : d.shown.length ≤ sizeLine) : ∃ T idr, ShowsBy X.prog X.w s.heap a d T idr := by
  cases hr with
  | non => cases r
  | bl b => cases r
  | int i => obtain ⟨t, r⟩ := r; cases r
  | str x => obtain ⟨t, r⟩ := r; cases r
  | lst hf ha =>
    rename_i xs ds
    cases r
    obtain ⟨its, rv, ⟨⟨cls, dd, data, sls⟩, n, ho, hc, hdn, hdt⟩, hlen⟩ := I.list (.inl (.inl (e _ _ hf)))
    simp only at hc hdt
    subst hc hdt
    have hz' : (listText (PyData.shownAll ds)).length ≤ sizeLine := by simpa only [PyData.shown] using hz
    obtain ⟨as, bs, h4, hb, hk⟩ := rps_repr I e ds xs its ha rv (by simpa [PyData.showable] using hs) (fun t ht => Nat.le_trans (listText_mem_le ht) hz')
    have r : Reads s.heap (.ref a) (.list ds) _ := .list ho rfl rfl h4
    have hna : a ∉ bs := not_mem_of_deeper r (by simp only [PyData.depth]; omega) hb
    refine ⟨"list", "list.__repr__", PySem.F.slot_list_repr.toG, PySem.F.slot_list_str, PySem.F.slot_list_format, fun s hk0 => ⟨_, hk0 _ _ ho, rfl⟩, fun A E s Q hg hu hk0 hQ => ?_⟩
    simp only [PyData.depth] at hu
    simp only [PyData.shown] at hQ
    cases its with
    | nil =>
      cases h4
      simp only [PyData.shownAll, listText_nil] at hQ
      exact call_list_repr_empty ⟨_, hk0 _ _ ho, rfl⟩ (hk0 _ _ ho) rfl (hQ s.heap _ _ fun _ _ e => e)
    | cons y l => exact call_list_reprK ho rfl rfl hna (by simpa using hk.length_eq) (fun i y e => hk.item i y (by simpa using e)) hg (fun b _ => Clear.nil b) hu hk0 hQ hz'
  | tup hf ha =>
    rename_i xs ds
    cases r
    obtain ⟨its, rv, ⟨o, ho, hc, n, hd⟩, hlen⟩ := I.tuple (ex_t e hf)
    have hz' : (tupleText (PyData.shownAll ds)).length ≤ sizeLine := by simpa only [PyData.shown] using hz
    obtain ⟨as, bs, h4, hb, hk⟩ := rps_repr I e ds xs its ha rv (by simpa [PyData.showable] using hs) (fun t ht => Nat.le_trans (tupleText_mem_le ht) hz')
    have r : Reads s.heap (.ref a) (.tuple ds) _ := .tuple ho hc hd h4
    have hna : a ∉ bs := not_mem_of_deeper r (by simp only [PyData.depth]; omega) hb
    refine ⟨"tuple", "tuple.__repr__", PySem.F.slot_tuple_repr, PySem.F.slot_tuple_str, PySem.F.slot_tuple_format, fun s hk0 => ⟨o, hk0 _ _ ho, hc⟩, fun A E s Q hg hu hk0 hQ => ?_⟩
    simp only [PyData.depth] at hu
    simp only [PyData.shown] at hQ
    exact call_tuple_reprK ho hc hd hna hk hg (fun b _ => Clear.nil b) hu hk0 hQ hz'
  | dct hf ha =>
    rename_i kvs es
    cases r
    obtain ⟨hl, hsys, vs, hkv, o, en, ep, ho, hx, hd, _, hp, _⟩ := dk_rd I.hok (ex_rd e hf)
    have hz' : (dictText (PyData.shownKv es)).length ≤ sizeLine := by simpa only [PyData.shown] using hz
    obtain ⟨as, bs, b, h4, h5, hb, hk⟩ := rpk_repr I e es kvs vs en.toList ha hkv hp (by simpa [PyData.showable] using hs) (fun t ht => Nat.le_trans (dictText_mem_le ht) hz')
    have r : Reads s.heap (.ref a) (.dict es) _ := .dict ho hx.1 hd h4 h5
    have hna : a ∉ b := not_mem_of_deeper r (by simp only [PyData.depth]; omega) hb
    refine ⟨"dict", "dict.__repr__", PySem.F.slot_dict_repr, PySem.F.slot_dict_str, PySem.F.slot_dict_format, fun s hk0 => ⟨o, hk0 _ _ ho, hx.1⟩, fun A E s Q hg hu hk0 hQ => ?_⟩
    simp only [PyData.depth] at hu
    simp only [PyData.shown] at hQ
    exact call_dict_reprK ho hx.1 hd hsys hna hk hg (fun b _ => Clear.nil b) hu hk0 hQ hz'
end
def cReprX : CF := fun rs post => match rs with
  | [.val d] => ShX d ∧ post (.str d.shown)
  | _ => False
section
variable {X : Cx}
theorem call_reprX (hu : X.A.units + 64 < cLine) (hg : X.A.guards = some []) : CallR X (.builtin "repr") (fun xs H Q => ∃ x d F, xs = [x] ∧ Ex F H ∧ Rp X.K F x d ∧ ShX d ∧ Q (.str d.shown) H) := by
  intro pins s σ H xs us Q I r h
  obtain ⟨x, d, F, rfl, ef, hd, hs, q⟩ := h
  obtain ⟨u, rfl, ru⟩ := r.one
  have hz := hs.len
  have key : ∀ a, u = .ref a → wpAny (model X.prog X.w) X.A (call (.builtin "repr") [u]) (EP X pins σ Q) X.xe s := fun a e => by
    subst e
    obtain ⟨T, idr, S⟩ := shows_x I ef hd ru hs.sh hz
    exact call_repr_slot (by omega) (S.typeIs s fun _ _ e => e) S.slotRepr (S.call X.A.in1 X.xe s _ hg (by show X.A.units + 1 + d.depth < cLine; have := hs.dp; omega) (fun _ _ e => e) fun h' u tk hk => ⟨_, _, rfl, ⟨.str _, H, I.kept hk, ⟨_, rfl⟩, q⟩⟩)
  cases hd with
  | non => cases ru; exact P.repr_of_none ⟨.str _, H, I.tok _, ⟨_, rfl⟩, q⟩
  | bl b => cases ru; exact P.repr_of_bool ⟨.str _, H, I.tok _, ⟨_, rfl⟩, q⟩
  | int i =>
    obtain ⟨t, rfl⟩ := ru
    exact P.repr_of_int (of_decide_eq_true (show decide (i.natAbs.log2 < 1920) = true from hs.sh)) ⟨.str _, H, I.tok _, ⟨_, rfl⟩, q⟩
  | str z =>
    obtain ⟨t, rfl⟩ := ru
    exact P.repr_of_str ⟨.str _, H, I.tok _, ⟨_, rfl⟩, q⟩ hz
  | lst sq ha => exact key _ (by cases ru; rfl)
  | tup sq ha => exact key _ (by cases ru; rfl)
  | dct sq ha => exact key _ (by cases ru; rfl)
theorem ok_reprX {K : Fg} : CallOk K (fun xs H Q => ∃ x d F, xs = [x] ∧ Ex F H ∧ Rp K F x d ∧ ShX d ∧ Q (.str d.shown) H) cReprX := fun F H a fu vs rs post Q e t hf k => by
  unfold cReprX at hf
  split at hf
  · rename_i d
    obtain ⟨v, rfl, r⟩ := t.v1
    exact ⟨v, d, F, rfl, e, r, hf.1, k _ _ H F hf.2 (Gr.refl e) (.str _)⟩
  · exact hf.elim
variable {p pos : Pos} {e : Expr} {tr : DA} {k : Nat}
theorem e_reprX (hr : Room k X.A) (hgd : X.A.guards = some []) (hg : Gl X "repr") (hm : X.mg "repr" = none) (ha : PA X [e] (upA X.K tr)) (he : starEach [e] X.env = (false, eval e X.env) :: starEach [] X.env := by rfl) : PE X (.Call (.Name "repr" p) [e] [] pos) (up X.K (dCB cReprX tr)) :=
  e_callB (call_reprX hr.units hgd) ok_reprX hg hm (by decide +kernel) ha (by decide) (by decide) he rfl
end
end Z
namespace Z
open L2 PySem PySem.Spec PyProof.Rows
theorem sq_lt' {x y : Int} (hx : 0 ≤ x) (hy : 0 ≤ y) (h : x * x < y * y) : x < y := by
  rcases Int.lt_or_le x y with z | z
  · exact z
  · have := sq_le hy z
    omega
theorem sq_le' {x y : Int} (hx : 0 ≤ x) (hy : 0 ≤ y) (h : x * x ≤ y * y) : x ≤ y := by
  rcases Int.lt_or_le y x with z | z
  · have := Int.mul_le_mul z z (by omega) hx
    have e : (y + 1) * (y + 1) = y * y + 2 * y + 1 := by grind
    omega
  · exact z
theorem p4n (e : Int) : (2 : Int) ^ (2 * e).toNat = 2 ^ e.toNat * 2 ^ e.toNat ∧ (2 : Int) ^ (0 - 2 * e).toNat = 2 ^ (-e).toNat * 2 ^ (-e).toNat := by
  rw [← Int.pow_add, ← Int.pow_add]
  constructor <;> congr 1 <;> omega
/-- t / u at the root's side, told by a fraction a / b: A = a * 2 ^ -e, B = b * 2 ^ e -/
structure Side (n d a b A B e : Int) : Prop where
  hA : A = a * 2 ^ (-e).toNat
  hB : B = b * 2 ^ e.toNat
  n0 : 0 < n
  d0 : 0 < d
  a0 : 0 ≤ a
  b0 : 0 < b
section
variable {n d a b A B e t u : Int}
theorem Side.A0 (s : Side n d a b A B e) : 0 ≤ A := by rw [s.hA]; exact Int.mul_nonneg s.a0 (Int.le_of_lt (pow2_pos _))
theorem Side.B0 (s : Side n d a b A B e) : 0 < B := by rw [s.hB]; exact Int.mul_pos s.b0 (pow2_pos _)
/-- the two squares, told by cmR's two sides -/
theorem Side.sq (s : Side n d a b A B e) : (t * B) * (t * B) * d = (d * t * t * 2 ^ (2 * e).toNat) * (b * b) ∧ (u * A) * (u * A) * d = (u * u * 2 ^ (0 - 2 * e).toNat) * (a * a * d) := by
  rw [s.hA, s.hB, (p4n e).1, (p4n e).2]
  constructor <;> grind
/-- the fraction is not above the root -/
theorem Side.le (s : Side n d a b A B e) (h : a * a * d ≤ n * (b * b)) (u0 : 0 < u) (t0 : 0 ≤ t) (c : cmR n d e t u ≤ 0) : u * A ≤ t * B := by
  have c : n * u * u * 2 ^ (0 - 2 * e).toNat ≤ d * t * t * 2 ^ (2 * e).toNat := by
    have := cmR_pos (n := n) (d := d) (e := e) (t := t) (b := u)
    omega
  have hd := s.d0
  have bb := Int.mul_pos s.b0 s.b0
  refine sq_le' (Int.mul_nonneg (Int.le_of_lt u0) s.A0) (Int.mul_nonneg t0 (Int.le_of_lt s.B0)) (Int.le_of_mul_le_mul_right (a := d) ?_ hd)
  rw [(s.sq (t := t) (u := u)).1, (s.sq (t := t) (u := u)).2]
  have p := Int.mul_pos (Int.mul_pos u0 u0) (pow2_pos (0 - 2 * e).toNat)
  have q1 := Int.mul_le_mul_of_nonneg_right c (Int.le_of_lt bb)
  have q2 := Int.mul_le_mul_of_nonneg_left h (Int.le_of_lt p)
  have e1 : n * u * u * 2 ^ (0 - 2 * e).toNat * (b * b) = u * u * 2 ^ (0 - 2 * e).toNat * (n * (b * b)) := by grind
  omega
/-- the fraction is below the root -/
theorem Side.lt (s : Side n d a b A B e) (h : a * a * d < n * (b * b)) (u0 : 0 < u) (t0 : 0 ≤ t) (c : cmR n d e t u ≤ 0) : u * A < t * B := by
  have c : n * u * u * 2 ^ (0 - 2 * e).toNat ≤ d * t * t * 2 ^ (2 * e).toNat := by
    have := cmR_pos (n := n) (d := d) (e := e) (t := t) (b := u)
    omega
  have hd := s.d0
  have bb := Int.mul_pos s.b0 s.b0
  refine sq_lt' (Int.mul_nonneg (Int.le_of_lt u0) s.A0) (Int.mul_nonneg t0 (Int.le_of_lt s.B0)) (Int.lt_of_mul_lt_mul_right (a := d) ?_ (Int.le_of_lt hd))
  rw [(s.sq (t := t) (u := u)).1, (s.sq (t := t) (u := u)).2]
  have p := Int.mul_pos (Int.mul_pos u0 u0) (pow2_pos (0 - 2 * e).toNat)
  have q1 := Int.mul_le_mul_of_nonneg_right c (Int.le_of_lt bb)
  have q2 := Int.mul_lt_mul_of_pos_left h p
  have e1 : n * u * u * 2 ^ (0 - 2 * e).toNat * (b * b) = u * u * 2 ^ (0 - 2 * e).toNat * (n * (b * b)) := by grind
  omega
end
end Z
namespace Z
open L2 PySem PySem.Spec PyProof.Rows
open Evl (Ex ex_l ex_t ex_rd fresh_back)
variable {Wx : WX}
theorem Rps.app2 {K : Fg} {F : Hp} : ∀ {vs : List V} {ds : List Da} {v : V} {d : Da}, Rps K F vs ds → Rp K F v d → Rps K F (vs ++ [v]) (ds ++ [d])
  | _, _, _, _, .nil, r => .cons r .nil
  | _, _, _, _, .cons a t, r => .cons a (Rps.app2 t r)
theorem Rps.rev {K : Fg} {F : Hp} : ∀ {vs : List V} {ds : List Da}, Rps K F vs ds → Rps K F vs.reverse ds.reverse
  | _, _, .nil => .nil
  | _, _, .cons a t => by
    rw [List.reverse_cons, List.reverse_cons]
    exact Rps.app2 (Rps.rev t) a
structure Tri (x y z : Int) : Prop where
  x0 : 0 ≤ x
  y0 : 0 ≤ y
  z0 : 0 ≤ z
  ev : (x + y + z) % 2 = 0
  a : x ≤ y + z
  b : y ≤ x + z
  c : z ≤ x + y
theorem Tri.add {x y z x' y' z' : Int} (h : Tri x y z) (h' : Tri x' y' z') : Tri (x + x') (y + y') (z + z') := by
  obtain ⟨a1, a2, a3, a4, a5, a6, a7⟩ := h
  obtain ⟨b1, b2, b3, b4, b5, b6, b7⟩ := h'
  exact ⟨by omega, by omega, by omega, by omega, by omega, by omega, by omega⟩
theorem Tri.one {p q r : Bool} (h : r = (p != q)) : Tri (if p = true then 1 else 0) (if q = true then 1 else 0) (if r = true then 1 else 0) := by
  subst h
  cases p <;> cases q <;> exact ⟨by decide, by decide, by decide, by decide, by decide, by decide, by decide⟩
end Z
namespace Z
open L2 PySem PySem.Spec PyProof.Rows
open Evl (Ex ex_l ex_t ex_rd fresh_back)
variable {Wx : WX}
theorem NewL.grow {K : Fg} {c : Con} {g : Gs} {σ : L2.St} {H F : Hp} {a p : Addr} {v : V} {ds : List Da} {ot : HO} (h : NewL K c g σ H F a v ds) (e : Ex F H) (hp : H p = none) : NewL K c g σ (upd H p ot) (upd F p ot) a v ds := by
  obtain ⟨o, xs, rfl, q2, q3, q4, q5, q6, q7⟩ := h.ex
  have ne : o ≠ p := fun z => by rw [z, hp] at q4; cases q4
  exact ⟨o, xs, rfl, by rw [upd_ne ne]; exact q2, q3, by rw [upd_ne ne]; exact q4, q5.up (Gr.new e hp).f, q6, q7⟩
end Z
namespace LZN
open PySem
open PySem.Sem (wp)
/-- a zip ahead of an item: fresh, or its first tuple still held -/
def ZSt (h : Heap) (q TI TO u1 u2 S : Addr) : Prop := IsZip h q TI TO .none ∨ ∃ (T : Addr) (f : Bool) (oT : Obj), IsZipHeld h q TI TO T f ∧ h.get? T = some oT ∧ T ≠ q ∧ T ≠ u1 ∧ T ≠ u2 ∧ T ≠ S
structure Run (h : Heap) (q TI TO u1 u2 l1 l2 S : Addr) (xs ys : Array Value) (k : Nat) : Prop where
  D : ZipApart q TI TO u1 u2 l1 l2
  z : ZSt h q TI TO u1 u2 S
  o : ∃ a b, IsPair h TO a b
  i : IsPair h TI (.ref u1) (.ref u2)
  g1 : h.IsListIter u1 l1 k
  g2 : h.IsListIter u2 l2 k
  m1 : h.IsList l1 xs
  m2 : h.IsList l2 ys
structure Off (S q TI TO u1 u2 l1 l2 : Addr) : Prop where
  q : S ≠ q
  TI : S ≠ TI
  TO : S ≠ TO
  u1 : S ≠ u1
  u2 : S ≠ u2
  l1 : S ≠ l1
  l2 : S ≠ l2
section
variable {h h' : Heap} {q TI TO u1 u2 l1 l2 S : Addr} {xs ys : Array Value} {k : Nat}
theorem Run.keep (R : Run h q TI TO u1 u2 l1 l2 S xs ys k) (o : Off S q TI TO u1 u2 l1 l2) (hk : ∀ c ob, c ≠ S → h.get? c = some ob → h'.get? c = some ob) : Run h' q TI TO u1 u2 l1 l2 S xs ys k := by
  obtain ⟨a, b, z2⟩ := R.o
  refine ⟨R.D, ?_, ⟨a, b, hk _ _ o.TO.symm z2⟩, hk _ _ o.TI.symm R.i, R.g1.at fun ob e => hk _ ob o.u1.symm e, R.g2.at fun ob e => hk _ ob o.u2.symm e, R.m1.at fun ob e => hk _ ob o.l1.symm e, R.m2.at fun ob e => hk _ ob o.l2.symm e⟩
  rcases R.z with z1 | ⟨T, f, oT, z1, z2, n1, n2, n3, n4⟩
  · exact .inl (hk _ _ o.q.symm z1)
  · exact .inr ⟨T, f, oT, hk _ _ o.q.symm z1, hk _ _ n4 z2, n1, n2, n3, n4⟩
end
end LZN
namespace Z
open L2 PySem PySem.Spec PyProof.Rows
open Evl (Ex ex_l ex_t ex_rd fresh_back)
end Z
namespace L2
open PySem PySem.Spec PyProof.Rows
end L2
namespace Z
open L2 PySem PySem.Spec PyProof.Rows
open Evl (Ex ex_l ex_t ex_rd fresh_back)
end Z
namespace Z
open L2 PySem PySem.Spec PyProof.Rows
end Z
namespace Z
open L2 PySem PySem.Spec PyProof.Rows
end Z
namespace Z
open L2 PySem PySem.Spec PyProof.Rows
open Evl (Ex ex_l ex_t ex_rd fresh_back)
end Z
namespace Z
open L2 PySem PySem.Spec PyProof.Rows
open Evl (Ex ex_l ex_t ex_rd fresh_back)
def cStrI : CF := fun rs post => match rs with
  | [.val (.int i)] => i.natAbs.log2 < 1920 ∧ post (.str (toString i))
  | _ => False
theorem ok_strI {K : Fg} : CallOk K (fun xs H Q => ∃ i, xs = [V.int i] ∧ i.natAbs.log2 < 1920 ∧ Q (.str (toString i)) H) cStrI := fun F H a fu vs rs post Q e t hf k => by
  unfold cStrI at hf
  split at hf
  · exact ⟨_, t.i1, hf.1, k _ _ H F hf.2 (Gr.refl e) (.str _)⟩
  · exact hf.elim
section
variable {X : Cx} {p pos : Pos} {e : Expr} {tr : DA}
theorem e_strI (hg : Gl X "str") (hm : X.mg "str" = none) (ha : PA X [e] (upA X.K tr)) (he : starEach [e] X.env = (false, eval e X.env) :: starEach [] X.env := by rfl) : PE X (.Call (.Name "str" p) [e] [] pos) (up X.K (dCB cStrI tr)) :=
  e_callTy call_str_int ok_strI hg hm (by decide +kernel) ha (by decide) (by decide) he rfl
end
end Z
namespace Z
open L2 PySem PySem.Spec PyProof.Rows
open Evl (Ex ex_l ex_t ex_rd fresh_back)
end Z
namespace Z
open L2 PySem PySem.Spec PyProof.Rows
open Evl (Ex ex_l ex_t ex_rd fresh_back)
end Z
namespace Z
open L2 PySem PySem.Spec PyProof.Rows
open Evl (Ex ex_l ex_t ex_rd fresh_back)
variable {Wx : WX}
/-- an expression that may raise: it gives what a def gives -/
abbrev DX := Gs → (Rr → Gs → Prop) → Prop
def Gs.unset (g : Gs) (i : Nat) : Gs := { g with sl := g.sl.set i none }
def gAs (g : Gs) (nm : Str) (z : Option Da) : Option Nat → Gs
  | none => g
  | some i => g.set i (.ob (.exc nm z))
def rtN (post : Rr → Option Nat → Prop) : Rr → Gs → Prop := fun r g => match r with
  | .exc _ _ => False
  | .val x => post (.val x) g.fu
  | .own ds => post (.own ds) g.fu
end Z
namespace Z
open L2 PySem PySem.Spec PyProof.Rows
open Evl (Ex ex_l ex_t ex_rd fresh_back)
open LamX (LamS lamEnv lamCx lam_start2 inv_table CodeO)
variable {Wx : WX}
/-- what a lambda's body may see: no own list, no source -/
def plainO : Option Sv → Option Sv
  | some (.own _) => none
  | some .src => none
  | x => x
def gLam (g : Gs) : Gs := ⟨g.sl.map plainO, none, true⟩
/-- the lambda as a def's promise -/
def lamF (t : DX) (g : Gs) : FSp := fun rs fu post => rs = [] ∧ fu = none ∧ t (gLam g) fun r _ => post r none
section
variable {K : Fg} {c : Con} {g : Gs} {σ : L2.St} {H H' F F' : Hp} {tv : List V} {tr : List Rv} {a a' : Addr}
theorem Sta.lam (s : Sta K c g σ H tv tr F a) (ef : Ex F F') (eh : Ex F' H') (tk : TabK K F' H') : Sta K ⟨F', H', none⟩ (gLam g) σ H' [] [] F' a' := by
  have back : ∀ {i : Nat} {sv : Sv}, (gLam g).sl[i]? = some (some sv) → g.sl[i]? = some (some sv) ∧ (∀ ds, sv ≠ .own ds) ∧ sv ≠ .src := fun {i sv} h => by
    have h' : (g.sl.map plainO)[i]? = some (some sv) := h
    rw [List.getElem?_map] at h'
    cases q : g.sl[i]? with
    | none => rw [q] at h'; cases h'
    | some x =>
      rw [q] at h'
      have h2 : plainO x = some sv := Option.some.inj h'
      cases x with
      | none => cases h2
      | some y =>
        cases y with
        | own ds => cases h2
        | src => cases h2
        | val d => cases h2; exact ⟨rfl, fun _ z => (by cases z), fun z => (by cases z)⟩
        | scr d => cases h2; exact ⟨rfl, fun _ z => (by cases z), fun z => (by cases z)⟩
        | ob d => cases h2; exact ⟨rfl, fun _ z => (by cases z), fun z => (by cases z)⟩
  refine ⟨Ex.refl _, eh, fun b o _ _ h => h, fun b h => .inl h, fun b h => (by cases h), fun _ => rfl, fun n h => (by cases h), .nil, ?_, fun i sv h => ?_, fun i j ds es _ h => absurd rfl ((back h).2.1 ds), tk, .refl⟩
  · show σ.length = (g.sl.map plainO).length
    rw [List.length_map]; exact s.len
  · obtain ⟨h1, h2, h3⟩ := back h
    obtain ⟨v, w1, w2⟩ := s.slot i sv h1
    refine ⟨v, w1, ?_⟩
    cases sv with
    | val d => exact Rp.up w2 ef
    | src => exact absurd rfl h3
    | scr ns => obtain ⟨b, z1, z2⟩ := w2; exact ⟨b, z1, ex_l ef z2⟩
    | ob k => exact ObOk.up ef w2
    | own ds => exact absurd rfl (h2 ds)
end
end Z
namespace Z
open L2 PySem PySem.Spec PyProof.Rows
open Evl (Ex ex_l ex_t ex_rd fresh_back)
variable {Wx : WX}
/-- the classes, as values -/
inductive Cvs : List V → List Value → Prop
  | nil : Cvs [] []
  | cons {v : V} {u : Value} {vs : List V} {us : List Value} : (∀ w, RelV v w → w = u) → Cvs vs us → Cvs (v :: vs) (u :: us)
theorem Cvs.all {vs : List V} {us ws : List Value} (h : Cvs vs us) (r : Vals vs ws) : ws = us := by
  induction h generalizing ws with
  | nil => cases r; rfl
  | cons h1 _ ih =>
    cases r with
    | cons r1 r2 => rw [h1 _ r1, ih r2]
end Z
namespace Z
open L2 PySem PySem.Spec PyProof.Rows
open Evl (Ex ex_l ex_t ex_rd fresh_back)
end Z
namespace L2
open PySem PySem.Spec PyProof.Rows
end L2
namespace Z
open L2 PySem PySem.Spec PyProof.Rows
open Evl (Ex ex_l ex_t ex_rd fresh_back)
end Z
namespace Z
open L2 PySem PySem.Spec PyProof.Rows
open Evl (Ex ex_l ex_t ex_rd fresh_back)
end Z
namespace Z
open L2 PySem PySem.Spec PyProof.Rows
open Evl (Ex ex_l ex_t ex_rd fresh_back)
end Z
namespace Z
open L2 PySem PySem.Spec PyProof.Rows
open Evl (Ex ex_l ex_t ex_rd fresh_back)
end Z
namespace Z
open L2 PySem PySem.Spec PyProof.Rows
open Evl (Ex ex_l ex_t ex_rd fresh_back)
end Z
namespace Z
open L2 PySem PySem.Spec PyProof.Rows
end Z
namespace Z
open L2 PySem PySem.Spec PyProof.Rows
open Evl (Ex ex_l ex_t ex_rd fresh_back)
theorem rps_strs {K : Fg} {F : Hp} : ∀ ys : List Str, Rps K F (ys.map V.str) (ys.map PyData.str)
  | [] => .nil
  | y :: ys => .cons (.str y) (rps_strs ys)
theorem strs_v {K : Fg} {F : Hp} : ∀ {ys : List Str} {vs : List V}, Rps K F vs (ys.map PyData.str) → vs = ys.map V.str
  | [], _, .nil => rfl
  | y :: ys, _, .cons r t => by cases r; rw [strs_v t]; rfl
def dSplit (ta tb : DE) : DE := fun g Q => ta g fun x g1 => match x with
  | .val (.str a) => tb g1 fun y g2 => (match y with
    | .val (.str b) => (b.length == 0) = false ∧ a.length + 2 ≤ sizeLine ∧ Q (.val (.list ((Txt.split a b).map .str))) g2
    | _ => False)
  | _ => False
def dJoin (ta tb : DE) : DE := fun g Q => ta g fun x g1 => match x with
  | .val (.str a) => tb g1 fun y g2 => (match y with
    | .val (.list ds) => ∃ ys : List Str, ds = ys.map PyData.str ∧ (ys.map (·.length)).sum + ys.length * a.length ≤ 16777216 ∧ Q (.val (.str (Txt.join a ys))) g2
    | .val (.tuple ds) => ∃ ys : List Str, ds = ys.map PyData.str ∧ (ys.map (·.length)).sum + ys.length * a.length ≤ 16777216 ∧ Q (.val (.str (Txt.join a ys))) g2
    | _ => False)
  | _ => False
/-- {x} in an f-string -/
def dFmt (te : DE) : DE := fun g Q => te g fun r g1 => match r with
  | .val (.str y) => y.length ≤ sizeLine ∧ Q (.val (.str y)) g1
  | .val (.int i) => i.natAbs.log2 < 1920 ∧ Q (.val (.str (toString i))) g1
  | _ => False
def dJs : List DE → Str → DE
  | [], acc, g, Q => Q (.val (.str acc)) g
  | t :: ts, acc, g, Q => t g fun r g1 => match r with
    | .val (.str y) => (acc ++ y).length ≤ sizeLine ∧ dJs ts (acc ++ y) g1 Q
    | _ => False
def dFstr (ts : List DE) : DE := dJs ts Str.empty
def dIxS (ta tb : DE) : DE := fun g Q => ta g fun x g1 => tb g1 fun y g2 => match x, y with
  | .val (.str z), .val (.int i) => z.length ≤ sizeLine ∧ ∃ c, atI z.cps.toList i = some c ∧ Q (.val (.str ⟨#[c]⟩)) g2
  | _, _ => False
/-- one character in a text -/
def fInC (neg : Bool) : BinF := fun d e post => match d, e with
  | .str i, .str z => ∃ c, i = ⟨#[c]⟩ ∧ post (.bool (if neg then !decide (c ∈ z.cps.toList) else decide (c ∈ z.cps.toList)))
  | _, _ => False
section
variable {X : Cx} {a b e l tg : Expr} {ta tb te : DE} {pos apos : Pos}
theorem e_split (ha : PE X a (up X.K ta)) (hb : PE X b (up X.K tb)) (hs : starEach [b] X.env = [(false, eval b X.env)] := by rfl) (hbase : attributeBase a "split" X.env (eval a X.env) = eval a X.env := by rfl) (hline : (apos.endLine == pos.line) = true := by rfl) :
    PE X (.Call (.Attribute a "split" apos) [b] [] pos) (up X.K (dSplit ta tb)) := pe_to (pe_split ha hb hs hbase hline) fun σ H Q q => by
  obtain ⟨c, g, tv, tr, F, ad, post, s, t, k⟩ := q
  refine ⟨c, g, tv, tr, F, ad, _, s, t, fun x g1 v1 H1 F1 a1 t1 s1 => ?_⟩
  split at t1
  · rename_i x
    have hx : Rp X.K F1 v1 (.str x) := s1.top
    cases hx
    refine ⟨⟨x, rfl⟩, c, g1, _, _, F1, a1, _, s1.pop1, t1, fun y g2 v2 H2 F2 a2 t2 s2 => ?_⟩
    split at t2
    · rename_i y
      have hy : Rp X.K F2 v2 (.str y) := s2.top
      cases hy
      refine ⟨x, y, rfl, rfl, t2.1, t2.2.1, fun p hp => ?_⟩
      have gr := Gr.new (o := .lst ((Txt.split x y).map V.str)) s2.eh hp
      exact k _ g2 _ _ _ a2 t2.2.2 ((s2.pop1.grow gr).push (r := .val (.list ((Txt.split x y).map PyData.str))) (.lst upd_same (rps_strs _)))
    · exact t2.elim
  · exact t1.elim
theorem e_join (ha : PE X a (up X.K ta)) (hb : PE X b (up X.K tb)) (hs : starEach [b] X.env = [(false, eval b X.env)] := by rfl) (hbase : attributeBase a "join" X.env (eval a X.env) = eval a X.env := by rfl) (hline : (apos.endLine == pos.line) = true := by rfl) :
    PE X (.Call (.Attribute a "join" apos) [b] [] pos) (up X.K (dJoin ta tb)) := pe_to (pe_join ha hb hs hbase hline) fun σ H Q q => by
  obtain ⟨c, g, tv, tr, F, ad, post, s, t, k⟩ := q
  refine ⟨c, g, tv, tr, F, ad, _, s, t, fun x g1 v1 H1 F1 a1 t1 s1 => ?_⟩
  split at t1
  · rename_i x
    have hx : Rp X.K F1 v1 (.str x) := s1.top
    cases hx
    refine ⟨⟨x, rfl⟩, c, g1, _, _, F1, a1, _, s1.pop1, t1, fun y g2 v2 H2 F2 a2 t2 s2 => ?_⟩
    split at t2
    · rename_i ds
      obtain ⟨ys, rfl, hz, t2⟩ := t2
      have hy : Rp X.K F2 v2 (.list (ys.map PyData.str)) := s2.top
      cases hy with
      | @lst p xs _ h1 h2 =>
        have e := strs_v h2
        subst e
        exact ⟨x, p, ys, rfl, rfl, .inl (.inl (.inl (s2.eh _ _ h1))), hz, k _ g2 _ H2 F2 a2 t2 (s2.pop1.push (r := .val (.str (Txt.join x ys))) (.str _))⟩
    · rename_i ds
      obtain ⟨ys, rfl, hz, t2⟩ := t2
      have hy : Rp X.K F2 v2 (.tuple (ys.map PyData.str)) := s2.top
      cases hy with
      | @tup p xs _ h1 h2 =>
        have e := strs_v h2
        subst e
        exact ⟨x, p, ys, rfl, rfl, .inr (ex_t s2.eh h1), hz, k _ g2 _ H2 F2 a2 t2 (s2.pop1.push (r := .val (.str (Txt.join x ys))) (.str _))⟩
    · exact t2.elim
  · exact t1.elim
theorem e_fmt (he : PE X e (up X.K te)) : PE X (.FormattedValue e (-1) none pos) (up X.K (dFmt te)) := pe_to (pe_fmt he) fun σ H Q q => by
  obtain ⟨c, g, tv, tr, F, ad, post, s, t, k⟩ := q
  refine ⟨c, g, tv, tr, F, ad, _, s, t, fun x g1 v1 H1 F1 a1 t1 s1 => ?_⟩
  split at t1
  · rename_i x
    have hx : Rp X.K F1 v1 (.str x) := s1.top
    cases hx
    exact .inl ⟨x, rfl, t1.1, k _ g1 _ H1 F1 a1 t1.2 s1⟩
  · rename_i i
    have hx : Rp X.K F1 v1 (.int i) := s1.top
    cases hx
    exact .inr ⟨i, rfl, t1.1, k _ g1 _ H1 F1 a1 t1.2 (s1.pop1.push (r := .val (.str (toString i))) (.str _))⟩
  · exact t1.elim
theorem js_core {K : Fg} : ∀ (ts : List DE) (acc : Str) {σ : L2.St} {H : Hp} {Q : VK}, up K (dJs ts acc) σ H Q → tJs (ts.map (up K)) acc σ H fun out H1 => Q (.str out) H1
  | [], acc, σ, H, Q, q => by
    obtain ⟨c, g, tv, tr, F, ad, post, s, t, k⟩ := q
    exact k _ g _ H F ad t (s.push (r := .val (.str acc)) (.str _))
  | t0 :: ts, acc, σ, H, Q, q => by
    obtain ⟨c, g, tv, tr, F, ad, post, s, t, k⟩ := q
    refine ⟨c, g, tv, tr, F, ad, _, s, t, fun x g1 v1 H1 F1 a1 t1 s1 => ?_⟩
    split at t1
    · rename_i x
      have hx : Rp K F1 v1 (.str x) := s1.top
      cases hx
      exact ⟨x, rfl, t1.1, js_core ts (acc ++ x) ⟨c, g1, tv, tr, F1, a1, post, s1.pop1, t1.2, k⟩⟩
    · exact t1.elim
theorem e_fstr {v1 v2 : Expr} {rest : List Expr} {ts : List DE} (h : PJ X (v1 :: v2 :: rest) (ts.map (up X.K))) : PE X (.JoinedStr (v1 :: v2 :: rest) pos) (up X.K (dFstr ts)) := pe_to (pe_joined h) fun σ H Q q => js_core ts Str.empty q
theorem e_ixS (ha : PE X a (up X.K ta)) (hb : PE X b (up X.K tb)) (hs : PlainIx b := by exact fun _ _ => rfl) : PE X (.Subscript a b pos) (up X.K (dIxS ta tb)) := pe_to (pe_ix ix_str ha hb hs) fun σ H Q q => by
  obtain ⟨c, g, tv, tr, F, ad, post, s, t, k⟩ := q
  refine ⟨c, g, tv, tr, F, ad, _, s, t, fun x g1 v1 H1 F1 a1 t1 s1 => ?_⟩
  refine ⟨c, g1, _, _, F1, a1, _, s1, t1, fun y g2 v2 H2 F2 a2 t2 s2 => ?_⟩
  have hx := s2.pop1.top
  have hy := s2.top
  have s3 := s2.pop1.pop1
  split at t2
  · rename_i z i
    have hy' : Rp X.K F2 v2 (.int i) := hy
    have hx' : Rp X.K F2 v1 (.str z) := hx
    cases hy'
    cases hx'
    obtain ⟨z1, ch, z2, z3⟩ := t2
    exact ⟨z, i, ch, rfl, rfl, z1, z2, k _ g2 _ H2 F2 a2 z3 (s3.push (r := .val (.str ⟨#[ch]⟩)) (.str _))⟩
  · exact t2.elim
theorem ok_inC {K : Fg} : BinOk K (fun x y H Q => ∃ (c : Nat) (z : Str), x = .str ⟨#[c]⟩ ∧ y = .str z ∧ Q (.bl (decide (c ∈ z.cps.toList))) H) (fInC false) := fun F H x y d e post Q hx r1 r2 hf k => by
  cases d with
  | str i =>
    cases e with
    | str z =>
      cases r1
      cases r2
      obtain ⟨c, rfl, h⟩ := hf
      exact ⟨c, z, rfl, rfl, k _ _ H F h (Gr.refl hx) (.bl _)⟩
    | _ => exact hf.elim
  | _ => exact hf.elim
theorem e_inC (ha : PE X a (up X.K ta)) (hb : PE X b (up X.K tb)) (hm : behindInMarks .In b = false := by rfl) : PE X (.Compare a [.In] [b] pos) (up X.K (dBin (fInC false) ta tb)) := e_cmp op_in_sign ok_inC ha hb hm
theorem pjN : PJ X [] (([] : List DE).map (up X.K)) := .nil
theorem pjC {es : List Expr} {ts : List DE} (h : PE X e (up X.K te)) (r : PJ X es (ts.map (up X.K))) : PJ X (e :: es) ((te :: ts).map (up X.K)) := .cons h r
end
end Z
namespace L2
open PySem PySem.Spec PyProof.Rows
def revS (z : Str) : Str := ⟨z.cps.toList.reverse.toArray⟩
end L2
namespace Z
open L2 PySem PySem.Spec PyProof.Rows
open Evl (Ex ex_l ex_t ex_rd fresh_back)
end Z
namespace Z
open L2 PySem PySem.Spec PyProof.Rows
open Evl (Ex ex_l ex_t ex_rd fresh_back)
variable {Wx : WX}
def lettersD (x : Str) : List Da := x.cps.toList.map fun c => .str ⟨#[c]⟩
def dLetters (te : DE) : DW := fun g Q => te g fun r g1 => match r with
  | .val (.str x) => Q (lettersD x) g1
  | _ => False
theorem walkD_str {K : Fg} {x : Str} : WalkD K (Its x) (lettersD x) [] [] := by
  have hl : (lettersD x).length = x.cps.size := by unfold lettersD; rw [List.length_map, Array.length_toList]
  refine ⟨fun i F H a fu e t hi => ?_, fun F H a fu e t => ?_, fun i F H a fu v H' e t hi y => ?_⟩
  · rw [hl] at hi; exact hi
  · rw [hl]; exact Nat.le_refl _
  · obtain ⟨rfl, c, hc, rfl⟩ := y
    refine ⟨F, .str ⟨#[c]⟩, ?_, Gr.refl e, .str _⟩
    unfold lettersD
    rw [List.getElem?_map, Array.getElem?_toList, hc]
    rfl
section
variable {X : Cx} {tg a b l : Expr} {te ta tb tk : DE} {pos pos' p : Pos}
theorem i_letters (hl : PE X l (up X.K te)) : PI X tg l (upI X.K (dLetters te)) := pi_to (pi_str hl) fun σ H R q => by
  obtain ⟨c, g, tv, tr, F, a, post, s, t, k⟩ := q
  refine ⟨c, g, tv, tr, F, a, _, s, t, fun r g1 v H1 F1 a1 t1 s1 => ?_⟩
  split at t1
  · rename_i x
    have hr : Rp X.K F1 v (.str x) := s1.top
    cases hr
    exact ⟨x, rfl, k _ g1 H1 F1 a1 _ [] [] t1 s1.pop1 rfl rfl walkD_str⟩
  · exact t1.elim
end
end Z
namespace Z
open L2 PySem PySem.Spec PyProof.Rows
abbrev sg (x : Str) : List Nat := x.cps.toList
def isDg (c : Nat) : Bool := decide (48 ≤ c) && decide (c ≤ 57)
theorem dg_mem (c : Nat) : decide (c ∈ sg "0123456789") = isDg c := by
  have e : sg "0123456789" = [48, 49, 50, 51, 52, 53, 54, 55, 56, 57] := by decide +kernel
  rw [e]
  unfold isDg
  rw [← Bool.decide_and]
  refine decide_eq_decide.mpr ?_
  simp only [List.mem_cons, List.not_mem_nil, or_false]
  omega
/-- a word of digits without a leading zero -/
def dgW (w : Str) : Bool := (sg w).all isDg
theorem dgW_all {w : Str} (h : dgW w = true) : PySem.NumText.AllDigits (sg w) := fun c hc => by
  have := List.all_eq_true.mp h c hc
  simp only [isDg, Bool.and_eq_true, decide_eq_true_eq] at this
  exact this
def intIn (w : Str) : Option Int := if (sg w).isEmpty || !dgW w || (decide (1 < w.length) && decide ((sg w).head? = some 48)) then none else some ((PySem.NumText.digitsVal (sg w) : Nat) : Int)
theorem int_text {w : Str} (h : dgW w = true) (h0 : (sg w).isEmpty = false) (hl : w.length ≤ 640) : PySem.intText? w = some ((PySem.NumText.digitsVal (sg w) : Nat) : Int) :=
  PySem.intText_digits (dgW_all h) (fun e => by rw [show sg w = [] from e] at h0; cases h0) (by omega)
theorem sg_len (w : Str) : (sg w).length = w.length := Array.length_toList
theorem sg_empty (w : Str) : w = "" ↔ (sg w).isEmpty = true := by
  constructor
  · rintro rfl; decide +kernel
  · intro h
    obtain ⟨⟨l⟩⟩ := w
    cases l with
    | nil => decide +kernel
    | cons c l => cases h
def optI : Option Int → Da
  | none => .none
  | some n => .int n
theorem intIn_nn {w : Str} {n : Int} (h : intIn w = some n) : 0 ≤ n := by
  unfold intIn at h
  split at h
  · cases h
  · cases h; omega
theorem sub_joinL (S : List Nat) : ∀ {ps : List (List Nat)} {p : List Nat}, p ∈ ps → p.Sublist (TL.joinL S ps)
  | [], _, h => by cases h
  | [q], p, h => by
    rw [List.mem_singleton.mp h]
    exact List.Sublist.refl _
  | q :: r :: ps, p, h => by
    show p.Sublist (q ++ (S ++ TL.joinL S (r :: ps)))
    rcases List.mem_cons.mp h with e | h
    · rw [e]
      exact List.sublist_append_left _ _
    · exact ((sub_joinL S h).trans (List.sublist_append_right _ _)).trans (List.sublist_append_right _ _)
theorem split_sub {t sep p : Str} (h : p ∈ Txt.split t sep) : (sg p).Sublist (sg t) := by
  have e := PySem.StrLaws.join_split t sep
  have e2 := TL.tl_join sep (Txt.split t sep)
  rw [e] at e2
  show (TL.tl p).Sublist (TL.tl t)
  rw [e2]
  exact sub_joinL _ (List.mem_map.mpr ⟨p, h, rfl⟩)
/-- a text of the law: short, plain signs, few digits -/
structure TX (n : Nat) (t : Str) : Prop where
  len : t.length ≤ 20000
  asc : ∀ c ∈ sg t, c < 128
  dg : (sg t).countP isDg ≤ n
theorem TX.mono {n m : Nat} {t : Str} (h : TX n t) (hm : n ≤ m) : TX m t := ⟨h.len, h.asc, Nat.le_trans h.dg hm⟩
theorem TX.sub {n : Nat} {t p : Str} (h : TX n t) (s : (sg p).Sublist (sg t)) : TX n p :=
  ⟨by have := s.length_le; rw [sg_len, sg_len] at this; exact Nat.le_trans this h.len, fun c hc => h.asc c (s.subset hc), Nat.le_trans (s.countP_le) h.dg⟩
theorem TX.part {n : Nat} {t p sep : Str} (h : TX n t) (hp : p ∈ Txt.split t sep) : TX n p := h.sub (split_sub hp)
theorem TX.word {n : Nat} {t : Str} (h : TX n t) (hd : dgW t = true) : t.length ≤ n := by
  have e : (sg t).countP isDg = (sg t).length := List.countP_eq_length.mpr fun c hc => List.all_eq_true.mp hd c hc
  rw [← sg_len, ← e]
  exact h.dg
theorem TX.ok {n : Nat} {t : Str} (h : TX n t) : PyData.strOk t = true := by
  show t.cps.all (fun c => decide (c < 0x110000)) = true
  rw [← Array.all_toList, List.all_eq_true]
  exact fun c hc => decide_eq_true (Nat.lt_trans (h.asc c hc) (by decide))
theorem TX.shaped {n : Nat} {t : Str} (h : TX n t) : SeqAt.shaped (.str t) = true := by
  simp [SeqAt.shaped, PyData.canLay0, PyData.depth, h.ok]
theorem TX.fits {n : Nat} {t : Str} (h : TX n t) : t.length ≤ sizeLine ∧ t.length + 2 ≤ sizeLine ∧ t.length ≤ 1000000 := by
  have := h.len
  rw [sizeLine_eq]
  omega
/-- whether a letter is a digit, as data -/
def dgF : Da → Da
  | .str x => .bool (decide (x.cps.getD 0 0 ∈ sg "0123456789"))
  | _ => .none
theorem dg_letters (w : Str) : boolsD ((lettersD w).map dgF) = some ((sg w).map isDg) := by
  show boolsD (((sg w).map fun c => PyData.str ⟨#[c]⟩).map dgF) = some ((sg w).map isDg)
  generalize sg w = l
  induction l with
  | nil => rfl
  | cons c cs ih =>
    rw [List.map_cons, List.map_cons, List.map_cons]
    show (boolsD ((cs.map fun c => PyData.str ⟨#[c]⟩).map dgF)).map (decide (c ∈ sg "0123456789") :: ·) = _
    rw [ih, dg_mem]
    rfl
theorem dg_all (w : Str) : ((sg w).map isDg).all id = dgW w := by
  unfold dgW
  rw [List.all_map]
  rfl
theorem sg_first {w : Str} (h : (sg w).isEmpty = false) : ∃ c, atI w.cps.toList 0 = some c ∧ (sg w).head? = some c := by
  cases e : w.cps.toList with
  | nil => rw [show sg w = [] from e] at h; cases h
  | cons c cs => exact ⟨c, atI_0, by rw [show sg w = c :: cs from e]; rfl⟩
theorem str_zero {c : Nat} : (⟨#[c]⟩ : Str) = "0" ↔ c = 48 := by
  have e : ("0" : Str) = ⟨#[48]⟩ := by decide +kernel
  rw [e]
  constructor
  · intro h
    injection h with h
    have := congrArg Array.toList h
    simpa using this
  · rintro rfl; rfl
end Z
namespace ZS
open L2 PySem PySem.Spec PyProof.Rows
abbrev Old (h0 h : Heap) : Prop := ∀ b o, h0.get? b = some o → h.get? b = some o
theorem Old.trans {h0 h1 h2 : Heap} (x : Old h0 h1) (y : Old h1 h2) : Old h0 h2 := fun b o e => y b o (x b o e)
/-- the tuple at a is the key k -/
abbrev NK (h : Heap) (k : NestedKey) (a : Addr) : Prop := NestedIs h k (.ref a) ∧ k.depth ≤ 8
theorem NK.old {h h' : Heap} {k : NestedKey} {a : Addr} (x : NK h k a) (o : Old h h') : NK h' k a := ⟨NestedIs.at (fun b ob _ _ e _ => o b ob e) _ _ x.1, x.2⟩
section
variable {P : Program} {w : World}
/-- no class statement stands behind v, n levels down -/
def NoCls (P : Program) (w : World) (n : Nat) (s : Shared) (v : Value) : Prop := ∀ (A : Around) (E : Value → Shared → Prop) (Q : Bool → Shared → Prop), Q false s → wpAny (model P w) A (ofAClassStatement n v) Q E s
/-- hashByValue answers something -/
def HashSays (P : Program) (w : World) (n : Nat) (s : Shared) (v : Value) : Prop := ∀ (A : Around) (E : Value → Shared → Prop) (Q : Bool → Shared → Prop), (∀ b, Q b s) → wpAny (model P w) A (hashByValue n v) Q E s
theorem noCls_val {n : Nat} {s : Shared} {v : Value} (h : carriedByValue v = true) : NoCls P w n s v := fun A E Q q => by
  cases v with
  | ref a => exact nomatch h
  | _ => cases n <;> exact wpAny_pure q
theorem noCls_tup {n : Nat} {s : Shared} {a : Addr} {o : Obj} {vs : Array Value} {m : Nat} (ho : s.heap.get? a = some o) (hc : o.cls = .type "tuple") (hd : o.data = .seq vs m) (all : ∀ v ∈ vs.toList, NoCls P w n s v) : NoCls P w (n + 1) s (.ref a) := fun A E Q q => by
  have hT : s.TypeIs (.ref a) "tuple" := ⟨o, ho, hc⟩
  have et : (("tuple" : String) == "tuple") = true := by decide
  unfold ofAClassStatement
  refine wpAny_bind (wpAny_typeOf hT ?_)
  simp only [et, if_true, Bool.not_true, Bool.false_eq_true, if_false]
  try refine wpAny_bind (wpAny_pure ?_)
  try simp only [Bool.not_true, Bool.false_eq_true, if_false]
  refine wpAny_bind (m := seqItems? (.ref a)) (wpAny_seqItems ho hd (wpAny_bind ?_))
  show wpAny _ _ (forIn vs _ _) _ _ s
  rw [← Array.forIn_toList]
  refine wpAny_forIn_list _ (fun us r s' => (r.1 = none ∧ s' = s) ∧ ∀ v ∈ us, NoCls P w n s v) _ (fun v us r s' h => ?_) (fun r s' h => ?_) _ _ ⟨⟨rfl, rfl⟩, all⟩
  · obtain ⟨⟨h1, rfl⟩, h2⟩ := h
    refine wpAny_bind (h2 v List.mem_cons_self _ _ _ ?_)
    rw [if_neg (by decide)]
    exact wpAny_pure ⟨⟨rfl, rfl⟩, fun u hu => h2 u (List.mem_cons_of_mem _ hu)⟩
  · obtain ⟨r1, r2⟩ := r
    obtain ⟨⟨h1, rfl⟩, _⟩ := h
    cases h1
    exact wpAny_pure q
theorem hashSays_tup {n : Nat} {s : Shared} {a : Addr} {o : Obj} {vs : Array Value} {m : Nat} (ho : s.heap.get? a = some o) (hc : o.cls = .type "tuple") (hd : o.data = .seq vs m) (all : ∀ v ∈ vs.toList, HashSays P w n s v) : HashSays P w (n + 1) s (.ref a) := fun A E Q q => by
  have hT : s.TypeIs (.ref a) "tuple" := ⟨o, ho, hc⟩
  unfold hashByValue
  refine wpAny_bind (wpAny_specialOf hT F.slot_tuple_hash.lookup ?_)
  refine wpAny_bind (m := seqItems? (.ref a)) (wpAny_seqItems ho hd (wpAny_bind ?_))
  show wpAny _ _ (forIn vs _ _) _ _ s
  rw [← Array.forIn_toList]
  refine wpAny_forIn_list _ (fun us r s' => (r.1 = none ∧ s' = s) ∧ ∀ v ∈ us, HashSays P w n s v) _ (fun v us r s' h => ?_) (fun r s' h => ?_) _ _ ⟨⟨rfl, rfl⟩, all⟩
  · obtain ⟨⟨h1, rfl⟩, h2⟩ := h
    refine wpAny_bind (h2 v List.mem_cons_self _ _ _ fun b => ?_)
    cases b
    · rw [if_pos (by decide)]
      exact wpAny_pure (wpAny_pure (q false))
    · rw [if_neg (by decide)]
      exact wpAny_pure ⟨⟨rfl, rfl⟩, fun u hu => h2 u (List.mem_cons_of_mem _ hu)⟩
  · obtain ⟨r1, r2⟩ := r
    obtain ⟨⟨h1, rfl⟩, _⟩ := h
    cases h1
    exact wpAny_pure (q true)
mutual
theorem asks_key : ∀ (k : NestedKey) (v : Value) (n : Nat) (s : Shared), NestedIs s.heap k v → k.depth ≤ n → NoCls P w n s v ∧ HashSays P w n s v
  | .none, _, n, s, x, _ => by
    cases x
    exact ⟨noCls_val rfl, fun A E Q q => by cases n <;> exact wpAny_pure (q _)⟩
  | .num i, _, n, s, x, _ => by cases x <;> exact ⟨noCls_val rfl, fun A E Q q => by cases n <;> exact wpAny_pure (q _)⟩
  | .text y, _, n, s, x, _ => by
    cases x
    exact ⟨noCls_val rfl, fun A E Q q => by cases n <;> exact wpAny_pure (q _)⟩
  | .tup ks, _, n, s, x, hn => by
    cases x with
    | tup hg hc hd hk =>
      simp only [NestedKey.depth] at hn
      cases n with
      | zero => omega
      | succ n =>
        have h := asks_keys ks _ n s hk (by omega)
        exact ⟨noCls_tup hg hc hd fun v hv => (h v hv).1, hashSays_tup hg hc hd fun v hv => (h v hv).2⟩
theorem asks_keys : ∀ (ks : List NestedKey) (vs : List Value) (n : Nat) (s : Shared), NestedAll s.heap ks vs → NestedKey.depthAll ks ≤ n → ∀ v ∈ vs, NoCls P w n s v ∧ HashSays P w n s v
  | [], _, n, s, x, _, v, hv => by cases x; cases hv
  | k :: ks, _, n, s, x, hn, v, hv => by
    cases x with
    | cons x1 x2 =>
      simp only [NestedKey.depthAll] at hn
      rcases List.mem_cons.mp hv with e | hv
      · rw [e]; exact asks_key k _ n s x1 (by omega)
      · exact asks_keys ks _ n s x2 (by omega) v hv
end
end
section
variable {P : Program} {w : World} {A : Around} {E : Value → Shared → Prop} {s : Shared}
/-- asking nested tuples shows nothing of the table -/
theorem unseen {k : NestedKey} {b : Addr} {Q : Bool → Shared → Prop} (hb : NK s.heap k b) {ys : List Value} (hy : ∀ y ∈ ys, ∃ k' c, y = Value.ref c ∧ NK s.heap k' c) (h : Q false s) :
    wpAny (model P w) A (searchCouldBeSeen (.ref b) ys) Q E s := by
  unfold searchCouldBeSeen
  refine wpAny_bind (wpAny_forIn_list _ (fun us r s' => (r.1 = none ∧ s' = s) ∧ ∀ y ∈ us, ∃ k' c, y = Value.ref c ∧ NK s.heap k' c) _ (fun v us r s' g => ?_) (fun r s' g => ?_) _ _ ⟨⟨rfl, rfl⟩, hy⟩)
  · obtain ⟨⟨g1, rfl⟩, g2⟩ := g
    obtain ⟨k', c, rfl, hc⟩ := g2 v List.mem_cons_self
    have g3 : ∀ y ∈ us, ∃ k' c, y = Value.ref c ∧ NK s'.heap k' c := fun u hu => g2 u (List.mem_cons_of_mem _ hu)
    dsimp only
    by_cases hv : (b == c || (carriedByValue (.ref b) && carriedByValue (.ref c))) = true
    · exact wp_if_pos hv (wpAny_pure ⟨⟨rfl, rfl⟩, g3⟩)
    refine wp_if_neg hv (wpAny_bind ((nestedKind P w).quiet hb ?_))
    rw [if_neg (by decide)]
    refine wpAny_bind ((nestedKind P w).quiet hc ?_)
    rw [if_neg (by decide)]
    refine wpAny_bind ((asks_key _ _ 8 _ hb.1 hb.2).1 _ _ _ ?_)
    rw [if_neg (by decide)]
    refine wpAny_bind ((asks_key _ _ 8 _ hc.1 hc.2).1 _ _ _ ?_)
    rw [if_neg (by decide)]
    exact wpAny_pure ⟨⟨rfl, rfl⟩, g3⟩
  · obtain ⟨r1, r2⟩ := r
    obtain ⟨⟨g1, rfl⟩, _⟩ := g
    cases g1
    exact wpAny_pure h
end
end ZS
namespace ZS
open L2 PySem PySem.Spec PyProof.Rows
abbrev KL := List (Addr × NestedKey)
def row (w : World) (p : Addr × NestedKey) : Int × Value := (p.2.hash w, .ref p.1)
def hs (w : World) (L : KL) : List Int := L.map fun p => p.2.hash w
structure NSet (P : Program) (w : World) (h0 h : Heap) (a : Addr) (L : KL) (es : Array (Int × Value)) (ep : Nat) (t : SetTable) : Prop where
  obj : ∃ o, h.get? a = some o ∧ o.ExactSet ∧ o.data = .set es ep t
  rows : es.toList = L.map (row w)
  tab : TabOk t (hs w L)
  uniq : (L.map (·.2)).Nodup
  keys : ∀ p ∈ L, NK h0 p.2 p.1
  led : w.params.followText "set-order" = true ∨ t.led = true
  room : L.length * 5 < t.mask * 3
  few : L.length < 64
section
variable {P : Program} {w : World} {h0 : Heap} {a : Addr} {L : KL} {es : Array (Int × Value)} {ep : Nat} {t : SetTable}
theorem rows_size (r : es.toList = L.map (row w)) : es.size = L.length := by
  rw [← Array.length_toList, r, List.length_map]
theorem rows_at (r : es.toList = L.map (row w)) {i : Nat} {p : Addr × NestedKey} (h : L[i]? = some p) : es[i]? = some (p.2.hash w, Value.ref p.1) := by
  rw [← Array.getElem?_toList, r, List.getElem?_map, h] <;> rfl
theorem NSet.fit {h : Heap} (R : NSet P w h0 h a L es ep t) : t.fits es.size = true := by
  have h1 := R.tab.sz
  have h2 := rows_size R.rows
  have h3 := R.room
  simp only [hs, List.length_map] at h1
  simp only [SetTable.fits, SetTable.fill, R.tab.dm, Bool.and_eq_true, beq_iff_eq, decide_eq_true_eq]
  refine ⟨by omega, ?_⟩
  show t.place.size + 0 ≤ t.mask
  omega
theorem no_gaveWay (m : MaskOk t.mask) : t.gaveWay = false := by
  unfold SetTable.gaveWay
  rw [mask_odd m]
  decide
/-- the probe behind c steps -/
abbrev pr (t : SetTable) (h : Int) (c : Nat) : SetTable.Probe := nth t.mask (runAt t.mask (SetTable.bits h % (t.mask + 1)) (SetTable.bits h)) c
theorem pr_dummy (t : SetTable) (h : Int) : ∀ c, (pr t h c).dummy = none
  | 0 => rfl
  | c + 1 => by
    have ih := pr_dummy t h c
    show (nth t.mask _ (c + 1)).dummy = none
    rw [nth_succ]
    unfold adv
    split <;> exact ih
/-- what probing from the c-th step on meets: the next slot of this hash, or the empty one -/
theorem probe_from {hl : List Int} (T : TabOk t hl) (f : Nat → Int) (h : Int) {c K : Nat} (cK : c ≤ K) (Kb : K < 10 * SetTable.turns t.mask) (e : way t.mask h K ∉ t.place.toList) (full : ∀ q, q < K → way t.mask h q ∈ t.place.toList) :
    (∃ q i, (c ≤ q ∧ q < K) ∧ t.place.toList[i]? = some (way t.mask h q) ∧ (∀ q' i', c ≤ q' → q' < q → t.place.toList[i']? = some (way t.mask h q') → f i' ≠ h) ∧
      t.probe f h (pr t h c) = some (.candidate (way t.mask h q) i (pr t h (q + 1)))) ∨
    ((∀ q' i', c ≤ q' → q' < K → t.place.toList[i']? = some (way t.mask h q') → f i' ≠ h) ∧ t.probe f h (pr t h c) = some (.empty (way t.mask h K) none)) := by
  have sh : ∀ q, nth t.mask (pr t h c) q = pr t h (c + q) := fun q => (nth_add t.mask c _ q).symm
  have sj : ∀ q, (nth t.mask (pr t h c) q).j = way t.mask h (c + q) := fun q => by rw [sh]
  have eK : c + (K - c) = K := by omega
  rcases go_spec t T.ris T.dm f h (10 * SetTable.turns t.mask) (K - c) (pr t h c) (pr_dummy t h c) (by omega) (fun q hq => by rw [sj]; exact full _ (by omega)) (by rw [sj, eK]; exact e) with ⟨q, i, b1, b2, b3, b4, b5⟩ | ⟨b1, b2⟩
  · refine .inl ⟨c + q, i, ⟨by omega, by omega⟩, by rw [← sj]; exact b2, fun q' i' g1 g2 g3 => b4 (q' - c) i' (by omega) (by rw [sj, show c + (q' - c) = q' by omega]; exact g3), ?_⟩
    have z : t.probe f h (pr t h c) = some (.candidate (nth t.mask (pr t h c) q).j i (nth t.mask (pr t h c) (q + 1))) := b5
    rw [z, sj, sh, Nat.add_assoc]
  · refine .inr ⟨fun q' i' g1 g2 g3 => b1 (q' - c) i' (by omega) (by rw [sj, show c + (q' - c) = q' by omega]; exact g3), ?_⟩
    have z : t.probe f h (pr t h c) = some (.empty (nth t.mask (pr t h c) (K - c)).j none) := b2
    rw [z, sj, eK]
end
section
variable {P : Program} {w : World} {A : Around} {E : Value → Shared → Prop} {s : Shared} {h0 : Heap} {a : Addr} {L : KL} {es : Array (Int × Value)} {ep : Nat} {t : SetTable}
/-- the keys of this value stand on the way ahead -/
def Ahead (w : World) (L : KL) (t : SetTable) (k : NestedKey) (c K : Nat) : Prop := ∀ (i : Nat) (p : Addr × NestedKey), L[i]? = some p → p.2 = k → ∃ q, (c ≤ q ∧ q < K) ∧ t.place.toList[i]? = some (way t.mask (k.hash w) q)
theorem look (R : NSet P w h0 s.heap a L es ep t) (old : Old h0 s.heap) {x : Addr} {k : NestedKey} (hx : NK s.heap k x) (hu : A.units + 8 < cLine) {K : Nat} (Kb : K < 10 * SetTable.turns t.mask)
    (hK : way t.mask (k.hash w) K ∉ t.place.toList) (full : ∀ q, q < K → way t.mask (k.hash w) q ∈ t.place.toList) {Q : SetFound → Shared → Prop}
    (yes : k ∈ L.map (·.2) → Q (.there none) s) (no : k ∉ L.map (·.2) → Q (.free (way t.mask (k.hash w) K) false) s) :
    ∀ (f c : Nat) (at_ : Option SetTable.Probe), at_.getD (t.probeStart (k.hash w)) = pr t (k.hash w) c → c ≤ K → K < f + c → Ahead w L t k c K → wpAny (model P w) A (setSearchFrom a (.ref x) (k.hash w) true f at_) Q E s := by
  intro f
  obtain ⟨o, ho, hex, hd⟩ := R.obj
  have hashAt : ∀ (i : Nat) p, L[i]? = some p → (es[i]?.map (·.1)).getD 0 = p.2.hash w := fun i p hp => by rw [rows_at R.rows hp] <;> rfl
  induction f with
  | zero => intro c _ _ h1 h2; omega
  | succ f ih =>
    intro c at_ hat hc hf hah
    rw [setSearchFrom_succ]
    refine wpAny_bind (wpAny_setState_of ho hd R.fit ?_)
    dsimp only
    rw [no_gaveWay R.tab.mok, if_neg (by decide), hat]
    try refine wpAny_bind (wpAny_pure ?_)
    rcases probe_from R.tab (fun i => (es[i]?.map (·.1)).getD 0) (k.hash w) hc Kb hK full with ⟨q, i, ⟨q1, q2⟩, hi, hno, hp⟩ | ⟨hno, hp⟩
    · rw [hp]
      dsimp only
      have hil : i < L.length := by
        have h1 := (List.getElem?_eq_some_iff.mp hi).1
        have h2 := R.tab.sz
        simp only [hs, List.length_map] at h2
        rw [Array.length_toList] at h1
        omega
      obtain ⟨p, hLp⟩ : ∃ p, L[i]? = some p := ⟨_, List.getElem?_eq_getElem hil⟩
      have hm : p ∈ L := List.mem_of_getElem? hLp
      have hy : NK s.heap p.2 p.1 := (R.keys p hm).old old
      have go : wpAny (model P w) A (searchRest a (.ref x) (k.hash w) true f es t (way t.mask (k.hash w) q) i (pr t (k.hash w) (q + 1))) Q E s := by
        unfold searchRest
        rw [rows_at R.rows hLp]
        refine wpAny_bind (wpAny_holding ((nestedKind P w).eqBool hu hy hx ?_))
        refine wpAny_bind (wpAny_setState_of ho hd R.fit ?_)
        dsimp only
        by_cases hk : p.2 = k
        · rw [if_pos (by simp [hk])]
          exact wpAny_pure (yes (List.mem_map.mpr ⟨p, hm, hk⟩))
        rw [if_neg (by simp [hk])]
        try refine wpAny_bind (wpAny_pure ?_)
        have hsl := slot_live R.tab.ris hi
        rw [sameMem]
        dsimp only
        simp only [if_true, hsl, rows_at R.rows hLp]
        refine wpAny_bind (wpAny_isSame_ref_self (wpAny_bind (wpAny_pure ?_)))
        simp only [if_true, hk, decide_false, Bool.false_eq_true, if_false]
        refine ih (q + 1) _ rfl (by omega) (by omega) fun i0 p0 z1 z2 => ?_
        obtain ⟨q0, ⟨g1, g2⟩, g3⟩ := hah i0 p0 z1 z2
        refine ⟨q0, ⟨?_, g2⟩, g3⟩
        rcases Nat.lt_trichotomy q0 q with y | y | y
        · exact absurd ((hashAt i0 p0 z1).trans (by rw [z2])) (hno q0 i0 g1 y g3)
        · exfalso
          rw [y] at g3
          have s2 := slot_live R.tab.ris g3
          rw [hsl] at s2
          injection s2 with s2
          rw [← s2, hLp] at z1
          cases z1
          exact hk z2
        · exact y
      by_cases hl : t.led = true
      · rw [if_neg (by simp [hl])]
        try refine wpAny_bind (wpAny_pure ?_)
        exact go
      · rw [if_pos (by simp [hl])]
        refine wpAny_bind (unseen hx (fun y hy' => ?_) ?_)
        · obtain ⟨r, hr, er⟩ := List.mem_map.mp hy'
          have h1 : r ∈ es.toList := by
            have z : r ∈ es ∧ r.1 = k.hash w := by simpa using hr
            exact Array.mem_toList_iff.mpr z.1
          rw [R.rows] at h1
          obtain ⟨p2, hp2, e2⟩ := List.mem_map.mp h1
          exact ⟨p2.2, p2.1, by rw [← er, ← e2] <;> rfl, (R.keys p2 hp2).old old⟩
        · rw [if_neg (by decide)]
          try refine wpAny_bind (wpAny_pure ?_)
          exact go
    · rw [hp]
      dsimp only
      refine wpAny_pure (no fun hm => ?_)
      obtain ⟨p, h1, h2⟩ := List.mem_map.mp hm
      obtain ⟨i, hi, e⟩ := List.getElem_of_mem h1
      have h3 : L[i]? = some p := by rw [List.getElem?_eq_getElem hi, e]
      obtain ⟨q, ⟨g1, g2⟩, g3⟩ := hah i p h3 h2
      exact hno q i g1 g2 g3 ((hashAt i p h3).trans (by rw [h2]))
/-- the search that adding asks for -/
theorem look_all (R : NSet P w h0 s.heap a L es ep t) (old : Old h0 s.heap) {x : Addr} {k : NestedKey} (hx : NK s.heap k x) (hu : A.units + 8 < cLine) {Q : SetFound → Shared → Prop} (yes : k ∈ L.map (·.2) → Q (.there none) s)
    (no : ∀ K, k ∉ L.map (·.2) → way t.mask (k.hash w) K ∉ t.place.toList → (∀ q, q < K → way t.mask (k.hash w) q ∈ t.place.toList) → Q (.free (way t.mask (k.hash w) K) false) s) :
    wpAny (model P w) A (setSearch a (.ref x) (k.hash w) true) Q E s := by
  have hroom := R.room
  have hl : (hs w L).length = L.length := List.length_map ..
  obtain ⟨K, hKb, hK, full⟩ := R.tab.first (by rw [hl]; omega) (k.hash w)
  have big : 10 * SetTable.turns t.mask < 100000 := by
    unfold SetTable.turns
    rcases R.tab.mok with e | e | e <;> rw [e] <;> decide
  unfold setSearch
  refine look R old hx hu hKb hK full yes (fun n => no K n hK full) 100000 0 none rfl (Nat.zero_le _) (by omega) fun i p hi hp => ?_
  have h1 : (hs w L)[i]? = some (k.hash w) := by unfold hs; rw [List.getElem?_map, hi, ← hp] <;> rfl
  have h2 : i < t.place.toList.length := by
    have z := (List.getElem?_eq_some_iff.mp hi).1
    have z2 := R.tab.sz
    rw [hl] at z2
    rw [Array.length_toList]
    omega
  have h3 := List.getElem?_eq_getElem h2
  obtain ⟨q, hq, e⟩ := R.tab.before hK h1 h3
  exact ⟨q, ⟨Nat.zero_le _, hq⟩, by rw [h3, e]⟩
end
end ZS
namespace ZS
open L2 PySem PySem.Spec PyProof.Rows
section
variable {P : Program} {w : World}
theorem range_getD {α : Type} (d : α) (L : List α) : (List.range L.length).map (fun i => L.getD i d) = L := by
  refine List.ext_getElem (by simp) fun i h1 h2 => ?_
  simp [List.getD_eq_getElem?_getD, h2]
/-- a new order of the rows -/
theorem rows_order {L : KL} {es : Array (Int × Value)} {ord : Array Nat} (r : es.toList = L.map (row w)) (hp : ord.toList.Perm (List.range L.length)) :
    ∃ L2 : KL, L2.Perm L ∧ (ord.filterMap (es[·]?)).toList = L2.map (row w) ∧ hs w L2 = ord.toList.map fun i => (es.map (·.1)).getD i 0 := by
  have lt : ∀ i ∈ ord.toList, i < L.length := fun i hi => List.mem_range.mp (hp.mem_iff.mp hi)
  have at_ : ∀ i, i < L.length → es[i]? = some (row w (L.getD i (0, .none))) := fun i hi => by
    rw [← Array.getElem?_toList, r, List.getElem?_map, List.getElem?_eq_getElem hi, List.getD_eq_getElem?_getD, List.getElem?_eq_getElem hi] <;> rfl
  refine ⟨ord.toList.map fun i => L.getD i (0, .none), ?_, ?_, ?_⟩
  · have h := hp.map fun i => L.getD i (0, .none)
    rw [range_getD] at h
    exact h
  · rw [Array.toList_filterMap, List.map_map]
    generalize ord.toList = l at lt
    induction l with
    | nil => rfl
    | cons i l ih =>
      rw [List.filterMap_cons_some (at_ i (lt i List.mem_cons_self)), ih fun j hj => lt j (List.mem_cons_of_mem _ hj)] <;> rfl
  · unfold hs
    rw [List.map_map]
    refine List.map_congr_left fun i hi => ?_
    have h : (es.map (·.1))[i]? = some (((L.getD i (0, .none)).2).hash w) := by rw [Array.getElem?_map, at_ i (lt i hi)] <;> rfl
    rw [Array.getD_eq_getD_getElem?, h] <;> rfl
theorem tab_plain {t : SetTable} {hl : List Int} (T : TabOk t hl) (b : Bool) : TabOk { t with plain := b } hl := ⟨T.ris, T.dm, T.sz, T.mok, T.bd, T.reach⟩
theorem ins_perm {α : Type} (L : List α) (n : Nat) (x : α) : (L.take n ++ x :: L.drop n).Perm (x :: L) :=
  (List.perm_middle (l₁ := L.take n)).trans (by rw [List.take_append_drop])
end
section
variable {P : Program} {w : World} {A : Around} {E : Value → Shared → Prop} {s : Shared} {h0 : Heap} {a : Addr} {L : KL} {es : Array (Int × Value)} {ep : Nat} {t : SetTable}
/-- all but the room: what holds just before the table is laid anew -/
theorem relay {o : Obj} (ho : s.heap.get? a = some o) (hex : o.ExactSet) (hd : o.data = .set es ep t) (rows : es.toList = L.map (row w)) (tab : TabOk t (hs w L)) (uniq : (L.map (·.2)).Nodup) (keys : ∀ p ∈ L, NK h0 p.2 p.1)
    (led : w.params.followText "set-order" = true ∨ t.led = true) (few : L.length < 64) (fl : L.length ≤ t.mask) {g M : Nat} (eM : SetTable.sizeAbove g = M + 1) (hM : MaskOk M) (big : L.length * 5 < M * 3) {Q : Unit → Shared → Prop}
    (hQ : ∀ h' L' es' ep' t', Heap.SameBut a s.heap h' → NSet P w h0 h' a L' es' ep' t' → L'.Perm L → Q () { s with heap := h' }) : wpAny (model P w) A (setRelay a g) Q E s := by
  have hsz := rows_size rows
  have hpl : t.place.size = L.length := by
    have z := tab.sz
    simp only [hs, List.length_map] at z
    exact z
  have M128 : M ≤ 127 := by rcases hM with e | e | e <;> omega
  obtain ⟨t', ord, e1, e2, e3, e4, e5, _, _⟩ := relaid_ok t (hs := es.map (·.1)) (wanted := g) (M := M) (by omega) hM (by rw [Array.size_map]; omega)
  rw [Array.size_map, hsz] at e2
  obtain ⟨L2, p1, p2, p3⟩ := rows_order rows e2
  rw [← p3] at e3
  have n2 : (ord.filterMap (es[·]?)).size = es.size := by rw [rows_size p2, p1.length_eq, hsz]
  have fit : t.fits es.size = true := by
    simp only [SetTable.fits, SetTable.fill, tab.dm, Bool.and_eq_true, beq_iff_eq, decide_eq_true_eq]
    refine ⟨by omega, ?_⟩
    show t.place.size + 0 ≤ t.mask
    omega
  rw [setRelay_eq]
  refine wpAny_bind (wpAny_setState_of ho hd fit ?_)
  dsimp only
  rw [if_neg (by rw [sizeLine_eq]; omega)]
  try refine wpAny_bind (wpAny_pure ?_)
  rw [e1]
  dsimp only
  rw [n2]
  simp only [bne_self_eq_false, Bool.false_eq_true, if_false]
  try refine wpAny_bind (wpAny_pure ?_)
  try dsimp only
  refine wpAny_storeSet_of ho hd (hQ _ L2 (ord.filterMap (es[·]?)) (ep + 1) t' (Heap.SameBut.update ..) ?_ p1) (by rw [n2, hsz, sizeLine_eq]; omega)
  exact ⟨⟨_, store_at ho hd, ⟨hex.1, hex.2.1, hex.2.2⟩, rfl⟩, p2, e3, (p1.map (·.2)).nodup_iff.mpr uniq, fun p hp => keys p (p1.mem_iff.mp hp), by rw [e5]; exact led, by rw [p1.length_eq, e4]; exact big, by rw [p1.length_eq]; exact few⟩
theorem add_key (R : NSet P w h0 s.heap a L es ep t) (old : Old h0 s.heap) {x : Addr} {k : NestedKey} (hx : NK h0 k x) (hu : A.units + 8 < cLine) (few : L.length + 1 < 64) {Q : Bool → Shared → Prop}
    (hQ : ∀ b h' L' es' ep' t', Heap.SameBut a s.heap h' → NSet P w h0 h' a L' es' ep' t' → ((k ∈ L.map (·.2) ∧ L' = L) ∨ (k ∉ L.map (·.2) ∧ L'.Perm ((x, k) :: L))) → Q b { s with heap := h' }) :
    wpAny (model P w) A (setAddHashed a (.ref x) (k.hash w)) Q E s := by
  obtain ⟨o, ho, hex, hd⟩ := R.obj
  have hsz := rows_size R.rows
  have hroom := R.room
  unfold setAddHashed
  refine wpAny_holding ?_
  rw [setAddHashedIn_succ]
  refine wpAny_bind (wpAny_setState_of ho hd R.fit ?_)
  dsimp only
  rw [if_neg (by simp [byScan, Value.scannable])]
  try refine wpAny_bind (wpAny_pure ?_)
  refine wpAny_bind (look_all R old (hx.old old) hu (fun hm => wpAny_pure (hQ false s.heap L es ep t (Heap.SameBut.refl a s.heap) R (.inl ⟨hm, rfl⟩))) fun K hm hK full => ?_)
  dsimp only
  refine wpAny_bind (wpAny_setState_of ho hd R.fit ?_)
  dsimp only
  obtain ⟨c1, c2, c3, c4, c5, c6, c7, c8, c9⟩ := R.tab.put hK full
  generalize t.put (way t.mask (k.hash w) K) = tp at *
  obtain ⟨t1, n⟩ := tp
  dsimp only at c1 c3 c4 c5 c6 c7 c8 c9 ⊢
  rw [← c1] at c2 c3
  clear c1
  have pm := ins_perm L n (x, k)
  have r1 : (SetTable.insertAt es n (k.hash w, Value.ref x)).toList = (L.take n ++ (x, k) :: L.drop n).map (row w) := by
    rw [SetTable.toList_insertAt, R.rows, List.map_append, List.map_cons, List.map_take, List.map_drop] <;> rfl
  have r2 : (hs w L).take n ++ k.hash w :: (hs w L).drop n = hs w (L.take n ++ (x, k) :: L.drop n) := by
    unfold hs
    rw [List.map_append, List.map_cons, List.map_take, List.map_drop]
  rw [r2] at c3
  clear r2
  generalize SetTable.insertAt es n (k.hash w, Value.ref x) = es1 at r1 ⊢
  generalize L.take n ++ (x, k) :: L.drop n = L1 at pm r1 c3
  have l1 : L1.length = L.length + 1 := pm.length_eq
  have u1 : (L1.map (·.2)).Nodup := (pm.map (·.2)).nodup_iff.mpr (List.nodup_cons.mpr ⟨hm, R.uniq⟩)
  have k1 : ∀ p ∈ L1, NK h0 p.2 p.1 := fun p hp => by
    rcases List.mem_cons.mp (pm.mem_iff.mp hp) with e | hp
    · rw [e]; exact hx
    · exact R.keys p hp
  -- the rest, whatever hashByValue says
  have rest : ∀ b : Bool, wpAny (model P w) A (do
      storeSet a es1 (if b then t1 else { t1 with plain := false })
      if !false && (if b then t1 else { t1 with plain := false }).tooFull then setRelay a (SetTable.grown (es.size + 1))
      return true) Q E s := fun b => by
    have T2 : TabOk (if b then t1 else { t1 with plain := false }) (hs w L1) := by
      cases b
      · exact tab_plain c3 false
      · exact c3
    have m2 : (if b then t1 else { t1 with plain := false }).mask = t.mask := by cases b <;> exact c4
    have d2 : (if b then t1 else { t1 with plain := false }).led = t.led := by cases b <;> exact c5
    have f2 : (if b then t1 else { t1 with plain := false }).fill = (hs w L).length + 1 := by cases b <;> exact c9
    generalize (if b then t1 else { t1 with plain := false }) = t2 at *
    refine wpAny_bind (wpAny_storeSet_of ho hd ?_ (by rw [rows_size r1, l1, sizeLine_eq]; omega))
    have sb : Heap.SameBut a s.heap (s.heap.update a (Obj.putSet es1 t2)) := Heap.SameBut.update ..
    have ho2 := store_at (es' := es1) (t' := t2) ho hd
    generalize s.heap.update a (Obj.putSet es1 t2) = h1 at *
    have ld2 : w.params.followText "set-order" = true ∨ t2.led = true := by rw [d2]; exact R.led
    have full2 : t2.tooFull = decide ((L.length + 1) * 5 ≥ t.mask * 3) := by
      unfold SetTable.tooFull
      rw [f2, m2]
      simp only [hs, List.length_map]
    rw [full2]
    by_cases hf : (L.length + 1) * 5 ≥ t.mask * 3
    · rw [if_pos (by simp [hf])]
      have two : (t.mask = 7 ∧ L.length = 4) ∨ (t.mask = 31 ∧ L.length = 18) := by rcases R.tab.mok with e | e | e <;> rw [e] at hf hroom <;> omega
      have go : ∀ M, SetTable.sizeAbove (SetTable.grown (es.size + 1)) = M + 1 → MaskOk M → L1.length * 5 < M * 3 → wpAny (model P w) A (setRelay a (SetTable.grown (es.size + 1)) >>= fun _ => pure true) Q E { s with heap := h1 } := fun M g1 g2 g3 => by
        refine wpAny_bind (relay (s := { s with heap := h1 }) ho2 ⟨hex.1, hex.2.1, hex.2.2⟩ rfl r1 T2 u1 k1 ld2 (by omega) (by rw [m2]; rcases two with ⟨e, e'⟩ | ⟨e, e'⟩ <;> omega) g1 g2 g3 fun h2 L2 es2 ep2 t3 sb2 R2 pm2 => ?_)
        exact wpAny_pure (hQ true h2 L2 es2 ep2 t3 (sb.trans sb2) R2 (.inr ⟨hm, pm2.trans pm⟩))
      rcases two with ⟨_, e⟩ | ⟨_, e⟩
      · refine go 31 (by rw [hsz, e, size_20]) (.inr (.inl rfl)) (by omega)
      · refine go 127 (by rw [hsz, e, size_76]) (.inr (.inr rfl)) (by omega)
    · rw [if_neg (by simp [hf])]
      try refine wpAny_bind (wpAny_pure ?_)
      refine wpAny_pure (hQ true h1 L1 es1 (ep + 1) t2 sb ⟨⟨_, ho2, ⟨hex.1, hex.2.1, hex.2.2⟩, rfl⟩, r1, T2, u1, k1, ld2, ?_, by omega⟩ (.inr ⟨hm, pm⟩))
      rw [m2]
      omega
  by_cases hp : t1.plain = true
  · rw [if_pos hp]
    refine wpAny_bind ((asks_key _ _ 8 _ (hx.old old).1 hx.2).2 _ _ _ fun b => ?_)
    exact rest b
  · rw [if_neg hp]
    refine wpAny_bind (wpAny_pure ?_)
    exact rest true
end
end ZS
namespace ZS
open L2 PySem PySem.Spec PyProof.Rows
/-- a set as it is made -/
abbrev newO (w : World) : Obj := { cls := .type "set", dict := none, data := .set #[] 0 (.fresh 0 0 (!w.params.followText "set-order")) }
/-- how a set at S is filled: J i holds of its object when i items are in -/
structure Fill (P : Program) (w : World) (B : Around) (h0 : Heap) (S : Addr) (n : Nat) (item : Nat → Value → Prop) (J : Nat → Heap → Prop) : Prop where
  keep : ∀ i h h', J i h → (∀ o, h.get? S = some o → h'.get? S = some o) → J i h'
  add : ∀ i v (s : Shared) (Q : Bool → Shared → Prop) (E : Value → Shared → Prop), i < n → item i v → Old h0 s.heap → J i s.heap →
    (∀ b h' tk, Heap.SameBut S s.heap h' → s.toks ≤ tk → J (i + 1) h' → Q b { s with heap := h', toks := tk }) → wpAny (model P w) B (setAdd S v) Q E s
section
variable {P : Program} {w : World} {A : Around} {I : Addr} {fp wr : List Addr} {G : Array GenState → Array GenState → Prop} {n : Nat} {item : Nat → Value → Prop} {St : Nat → Shared → Prop} {R : Result → Shared → Prop} {h0 : Heap} {S : Addr} {J : Nat → Heap → Prop}
theorem fill_loop (W : WalksS P w A.in1 I fp wr G n item St) (Fi : Fill P w A.in1 h0 S n item J) (S1 : S ∉ fp) (new : ∀ b o, h0.get? b = some o → b ≠ S ∧ b ∉ wr) :
    ∀ (m i : Nat) (s : Shared), i + m = n → St i s → Old h0 s.heap → J i s.heap → (∀ s', Moved (S :: wr) G s s' → Old h0 s'.heap → J n s'.heap → R (.ok (.ret .none)) s') →
      codeAny (model P w) A (.builtin "set.update.loop" ⟨[.ref S, .ref I], []⟩) R s := by
  have S2 : S ∉ wr := fun z => S1 (W.sub _ z)
  have more : ∀ b ∈ wr, b ∈ S :: wr := fun b hb => List.mem_cons_of_mem _ hb
  have oldM : ∀ {s s' : Shared}, Moved wr G s s' → Old h0 s.heap → Old h0 s'.heap := fun mv o b x e => mv.heap b x (new b x e).2 (o b x e)
  intro m
  induction m with
  | zero =>
    intro i s e st old j hR
    obtain rfl : i = n := e
    refine codeAny_builtin F.entry_set_update_loop ?_
    rw [Around.under_plainId F.plain_set_update_loop _]
    show wpAny _ A.in1 (pyNext (.ref I) >>= _) _ _ s
    refine wpAny_bind (W.done s _ _ st fun s' mv => ?_)
    exact wpAny_pure (hR s' (mv.mono more) (oldM mv old) (Fi.keep _ _ _ j fun o e => mv.heap S o S2 e))
  | succ m ih =>
    intro i s e st old j hR
    have lt : i < n := by omega
    refine codeAny_builtin F.entry_set_update_loop ?_
    rw [Around.under_plainId F.plain_set_update_loop _]
    show wpAny _ A.in1 (pyNext (.ref I) >>= _) _ _ s
    refine wpAny_bind (W.item i s _ _ lt st fun v s' hv st' mv => ?_)
    show wpAny _ A.in1 (holding [v] (setAdd S v) >>= _) _ _ s'
    refine wpAny_bind (wpAny_holding (Fi.add i v s' _ _ lt hv (oldM mv old) (Fi.keep _ _ _ j fun o e => mv.heap S o S2 e) fun b h' tk sb le j' => ?_))
    have old' : Old h0 h' := fun b o e => (sb.2 b (new b o e).1).trans (oldM mv old b o e)
    refine wpAny_pure ⟨plainId_quiet F.plain_set_update_loop _, ih (i + 1) _ (by omega) (W.frame _ s' _ _ st' le fun b hb o e => (sb.2 b fun z => S1 (z ▸ hb)).trans e) old' j' fun s2 mv2 old2 j2 => ?_⟩
    exact hR s2 (Moved.trans W.gtrans ((mv.mono more).then_heap le fun b o hb e => (sb.2 b fun z => hb (z ▸ List.mem_cons_self)).trans e) mv2) old2 j2
end
section
variable {P : Program} {w : World} {A : Around} {E : Value → Shared → Prop} {s : Shared}
/-- set(xs) of a list, by how it is filled -/
theorem call_set_by {l : Addr} {items : Array Value} {J : Nat → Heap → Prop} {Q : Value → Shared → Prop} (calm : A.handled = none) (hl : s.heap.IsList l items)
    (Fi : Fill P w A.in1.in1.in1 s.heap s.heap.objs.size items.size (fun i v => items[i]? = some v) J) (new : ∀ h, h.get? s.heap.objs.size = some (newO w) → J 0 h)
    (h : ∀ (h' : Heap) (tk : Nat), J items.size h' → Old s.heap h' → Q (.ref s.heap.objs.size) { s with heap := h', toks := tk }) :
    wpAny (model P w) A (call (.type "set") [.ref l]) Q E s := by
  have un := F.called_set.notType
  have cr := F.called_set.canCreate
  have ct := F.typeCall_set_1 (.ref l)
  have md := F.called_set.made
  have su := F.called_set.sub
  obtain ⟨mc, mt, mro⟩ := F.called_set.mro
  refine wpAny_call (codeAny_of_tree ?_)
  show wpAny _ _ (callAny (.type "set") _) _ _ _
  refine wpAny_pure ⟨Code.quiet_builtin _ (by decide +kernel), codeAny_builtin F.entry_type_call ?_⟩
  rw [Around.under_plain (weight_type_call_type "set" [.ref l] []) rfl]
  repeat (any_goals (first | assumption | wp_step))
  refine codeAny_mono (code_set_led1 (.ref l) (E := E) (Q₁ := fun v s1 => v = .ref s.heap.objs.size ∧ s1 = { s with heap := s.heap.push (newO w) }) ⟨rfl, rfl⟩) fun r s1 hr => ?_
  cases r with
  | error e => exact hr
  | ok fl =>
    cases fl with
    | ret v =>
      obtain ⟨rfl, rfl⟩ := hr
      have hS : (s.heap.push (newO w)).get? s.heap.objs.size = some (newO w) := Heap.get?_push_size _ rfl
      have tS : Shared.TypeIs { s with heap := s.heap.push (newO w) } (.ref s.heap.objs.size) "set" := ⟨_, hS, rfl⟩
      have ini := F.called_set.init.lookup
      have inb := F.called_set.init.bind (.ref s.heap.objs.size)
      repeat (any_goals (first | assumption | wp_step))
      refine codeAny_mono (codeAny_call_builtin (R := wants (fun r s2 => r = .none ∧ ∃ h' tk, s2 = { s with heap := h', toks := tk } ∧ J items.size h' ∧ Old s.heap h') E) F.called_set.init.plain F.entry_set_init (check_set_init_1 tS ?_)) fun r s2 hr2 => ?_
      · have lS : l < s.heap.objs.size := by
          obtain ⟨_, e, _⟩ := hl
          exact Heap.lt_size e
        have hl2 : (s.heap.push (newO w)).IsList l items := hl.push _
        obtain ⟨ol, hol, hcl, nl, hdl⟩ := hl2
        obtain ⟨c1, c2, c3, c4⟩ := ol
        simp only at hcl hdl
        subst hcl hdl
        have hl2 : (s.heap.push (newO w)).IsList l items := ⟨_, hol, rfl, nl, rfl⟩
        have n1 := F.sub_list_set
        have n2 := F.sub_list_frozenset
        have n3 : (Value.type "list" == Value.type "dict") = false := by decide
        unfold Builtin.«set.__init__» noKeywords Builtin.Frozenset.updateFrom
        generalize hPI : pyIter = PI
        wp_walk
        subst hPI
        refine wpAny_pyIter_list hl2 ?_
        refine wpAny_bind (wpAny_runValue ?_)
        have sz : (s.heap.push (newO w)).objs.size = s.heap.objs.size + 1 := Heap.size_push ..
        have n4 : l ≠ (s.heap.push (newO w)).objs.size := by
          rw [sz]
          exact Nat.ne_of_lt (Nat.lt_succ_of_lt lS)
        have calm3 : A.in1.in1.in1.handled = none := by simp [calm]
        refine fill_loop ((Walks.list calm3 _ l n4 items).toS) Fi ?g1 ?g2 items.size 0 _ (Nat.zero_add _) ⟨⟨_, Heap.get?_push_size _ rfl, rfl, rfl⟩, hl2.push _⟩ (fun b o e => Heap.get?_push_of_some _ (Heap.get?_push_of_some _ e)) (new _ (Heap.get?_push_of_some _ hS)) ?g3
        case g1 =>
          rw [sz]
          intro z
          rcases List.mem_cons.mp z with z | z
          · exact absurd z (Nat.ne_of_lt (Nat.lt_succ_self _))
          · exact absurd (List.mem_singleton.mp z).symm (Nat.ne_of_lt lS)
        case g2 =>
          intro b o e
          have lb := Heap.lt_size e
          refine ⟨Nat.ne_of_lt lb, fun z => ?_⟩
          have z2 := List.mem_singleton.mp z
          rw [sz] at z2
          exact absurd z2 (Nat.ne_of_lt (Nat.lt_succ_of_lt lb))
        case g3 =>
          intro s' mv old j
          obtain ⟨h', g', d', tk', os'⟩ := s'
          obtain rfl : g' = s.gens := mv.gens
          obtain rfl : d' = s.drawn := mv.drawn
          obtain rfl : os' = s.os := mv.os
          exact wpAny_pure (wpAny_pure ⟨rfl, h', tk', rfl, j, old⟩)
      · cases r with
        | error e => exact hr2
        | ok fl =>
          cases fl with
          | ret v =>
            obtain ⟨rfl, h', tk, rfl, j, old⟩ := hr2
            repeat (any_goals (first | assumption | wp_step))
            exact h _ _ j old
          | _ => exact hr2.elim
    | _ => exact hr.elim
end
end ZS
namespace ZS
open L2 PySem PySem.Spec PyProof.Rows Z
section
variable {α : Type} [DecidableEq α]
def dd : List α → List α
  | [] => []
  | x :: xs => if x ∈ xs then dd xs else x :: dd xs
theorem dd_cons (x : α) (xs : List α) : dd (x :: xs) = if x ∈ xs then dd xs else x :: dd xs := rfl
theorem dd_mem : ∀ (xs : List α) (y : α), y ∈ dd xs ↔ y ∈ xs
  | [], y => Iff.rfl
  | x :: xs, y => by
    unfold dd
    split
    · rename_i h
      rw [dd_mem xs y, List.mem_cons]
      exact ⟨.inr, fun z => z.elim (fun e => e ▸ h) id⟩
    · rw [List.mem_cons, List.mem_cons, dd_mem xs y]
theorem dd_nodup : ∀ xs : List α, (dd xs).Nodup
  | [] => List.nodup_nil
  | x :: xs => by
    unfold dd
    split
    · exact dd_nodup xs
    · rename_i h
      exact List.nodup_cons.mpr ⟨fun z => h ((dd_mem xs x).mp z), dd_nodup xs⟩
theorem nodup_le : ∀ (l m : List α), l.Nodup → (∀ x ∈ l, x ∈ m) → l.length ≤ m.length
  | [], _, _, _ => Nat.zero_le _
  | x :: l, m, hn, hs => by
    obtain ⟨h1, h2⟩ := List.nodup_cons.mp hn
    have hx := hs x List.mem_cons_self
    have ih := nodup_le l (m.erase x) h2 fun y hy => (List.mem_erase_of_ne fun e : y = x => h1 (e ▸ hy)).2 (hs y (List.mem_cons_of_mem _ hy))
    have e := List.length_erase_of_mem hx
    have hp : 0 < m.length := List.length_pos_of_mem hx
    rw [List.length_cons]
    omega
theorem nodup_same {l m : List α} (h1 : l.Nodup) (h2 : m.Nodup) (h : ∀ x, x ∈ l ↔ x ∈ m) : l.length = m.length :=
  Nat.le_antisymm (nodup_le l m h1 fun x => (h x).mp) (nodup_le m l h2 fun x => (h x).mpr)
theorem dd_rev (xs : List α) : (dd xs.reverse).length = (dd xs).length := nodup_same (dd_nodup _) (dd_nodup _) fun x => by rw [dd_mem, dd_mem, List.mem_reverse]
/-- two pictures that tell the same ones apart -/
theorem dd_two {β γ : Type} [DecidableEq β] (f : γ → α) (g : γ → β) : ∀ xs : List γ, (∀ x ∈ xs, ∀ y ∈ xs, f x = f y ↔ g x = g y) → (dd (xs.map f)).length = (dd (xs.map g)).length
  | [], _ => rfl
  | x :: xs, h => by
    have ih := dd_two f g xs fun a ha b hb => h a (List.mem_cons_of_mem _ ha) b (List.mem_cons_of_mem _ hb)
    have e : f x ∈ xs.map f ↔ g x ∈ xs.map g := by
      rw [List.mem_map, List.mem_map]
      exact ⟨fun ⟨y, hy, e⟩ => ⟨y, hy, (h y (List.mem_cons_of_mem _ hy) x List.mem_cons_self).mp e⟩, fun ⟨y, hy, e⟩ => ⟨y, hy, (h y (List.mem_cons_of_mem _ hy) x List.mem_cons_self).mpr e⟩⟩
    rw [List.map_cons, List.map_cons]
    unfold dd
    by_cases c : f x ∈ xs.map f
    · rw [if_pos c, if_pos (e.mp c)]
      exact ih
    · rw [if_neg c, if_neg fun z => c (e.mpr z), List.length_cons, List.length_cons, ih]
end
section
variable {P : Program} {w : World} {B : Around} {h0 : Heap}
structure Met (ks : KL) (i : Nat) (L : KL) : Prop where
  mem : ∀ k, k ∈ L.map (·.2) ↔ k ∈ (ks.take i).map (·.2)
  len : L.length ≤ i
def JK (P : Program) (w : World) (h0 : Heap) (ks : KL) (i : Nat) (h : Heap) : Prop := ∃ L es ep t, NSet P w h0 h h0.objs.size L es ep t ∧ Met ks i L
theorem take_snoc {α : Type} {l : List α} {i : Nat} {x : α} (h : l[i]? = some x) : l.take (i + 1) = l.take i ++ [x] := by
  rw [List.take_succ, h] <;> rfl
theorem fill_keys {ks : KL} {items : Array Value} (hit : items.toList = ks.map fun p => Value.ref p.1) (hk : ∀ p ∈ ks, NK h0 p.2 p.1) (few : ks.length < 64) (hu : B.units + 8 < cLine) :
    Fill P w B h0 h0.objs.size items.size (fun i v => items[i]? = some v) (JK P w h0 ks) where
  keep := fun i h h' ⟨L, es, ep, t, R, m⟩ k => by
    obtain ⟨o, ho, r⟩ := R.obj
    exact ⟨L, es, ep, t, ⟨⟨o, k o ho, r⟩, R.rows, R.tab, R.uniq, R.keys, R.led, R.room, R.few⟩, m⟩
  add := fun i v s Q E lt hv old ⟨L, es, ep, t, R, m⟩ hQ => by
    have z : (ks.map fun p => Value.ref p.1)[i]? = some v := by rw [← hit, Array.getElem?_toList]; exact hv
    rw [List.getElem?_map] at z
    obtain ⟨p, hp, rfl⟩ := Option.map_eq_some_iff.mp z
    have hx := hk p (List.mem_of_getElem? hp)
    have hi : i < ks.length := (List.getElem?_eq_some_iff.mp hp).1
    unfold setAdd
    refine wpAny_holding (wpAny_bind ((nestedKind P w).pyHash hu (hx.old old) ?_))
    refine add_key (s := { s with toks := s.toks + p.2.draws }) R old hx hu (by have := m.len; omega) fun b h' L' es' ep' t' sb R' c => ?_
    refine hQ b h' _ sb (Nat.le_add_right _ _) ⟨L', es', ep', t', R', ?_⟩
    have e : (ks.take (i + 1)).map (·.2) = (ks.take i).map (·.2) ++ [p.2] := by rw [take_snoc hp, List.map_append] <;> rfl
    rcases c with ⟨c1, rfl⟩ | ⟨c1, pm⟩
    · refine ⟨fun k => ?_, Nat.le_succ_of_le m.len⟩
      rw [e, List.mem_append, ← m.mem, List.mem_singleton]
      exact ⟨.inl, fun z => z.elim id fun e => e ▸ c1⟩
    · refine ⟨fun k => ?_, by rw [pm.length_eq, List.length_cons]; exact Nat.succ_le_succ m.len⟩
      rw [e, List.mem_append, ← m.mem, List.mem_singleton, (pm.map (·.2)).mem_iff, List.map_cons, List.mem_cons]
      exact Or.comm
theorem new_keys {ks : KL} {h : Heap} (e : h.get? h0.objs.size = some (newO w)) : JK P w h0 ks 0 h := by
  refine ⟨[], #[], 0, _, ⟨⟨_, e, ⟨rfl, rfl, rfl⟩, rfl⟩, rfl, ⟨List.Pairwise.nil, rfl, rfl, .inl rfl, fun x hx => (by cases hx), fun i h j hi => (by simp [hs] at hi)⟩, List.nodup_nil, fun p hp => (by cases hp), ?_, by show 0 * 5 < 7 * 3; decide, by show 0 < 64; decide⟩, ⟨fun k => by simp, Nat.le_refl _⟩⟩
  show _ ∨ (!w.params.followText "set-order") = true
  cases w.params.followText "set-order"
  · exact .inr rfl
  · exact .inl rfl
def JS (P : Program) (w : World) (S : Addr) (xs : List Str) (i : Nat) (h : Heap) : Prop := h.SetOf (PySem.strKind P w) S (fun k => decide (k ∈ xs.take i)) (dd (xs.take i).reverse).length
theorem setOf_keep {S : Addr} {f : Str → Bool} {n : Nat} {h h' : Heap} (x : h.SetOf (PySem.strKind P w) S f n) (k : ∀ o, h.get? S = some o → h'.get? S = some o) : h'.SetOf (PySem.strKind P w) S f n := by
  obtain ⟨o, es, ep, t, ho, r⟩ := x
  exact ⟨o, es, ep, t, k o ho, r⟩
theorem fill_strs {S : Addr} {xs : List Str} {items : Array Value} (hit : PyProof.Rows.StrsAre items.toList xs) (few : xs.length < 64) : Fill P w B h0 S items.size (fun i v => items[i]? = some v) (JS P w S xs) where
  keep := fun i h h' x k => setOf_keep x k
  add := fun i v s Q E lt hv old x hQ => by
    have hl : items.size = xs.length := by rw [← PyProof.Rows.StrsAre.len_eq hit, Array.length_toList]
    have hi : i < xs.length := by omega
    have hx : xs[i]? = some xs[i] := List.getElem?_eq_getElem hi
    obtain ⟨t, rfl⟩ := SS.strs_at hit i v (by rw [Array.getElem?_toList]; exact hv)
    have e0 : xs.getD i Str.empty = xs[i] := by rw [List.getD_eq_getElem?_getD, hx] <;> rfl
    rw [e0]
    have few2 : (dd (xs.take i).reverse).length ≤ i := by
      have := nodup_le _ (xs.take i).reverse (dd_nodup (xs.take i).reverse) fun y hy => (dd_mem _ y).mp hy
      rw [List.length_reverse, List.length_take] at this
      omega
    unfold setAdd
    refine wpAny_holding (wpAny_bind ((PySem.strKind P w).pyHash (k := xs[i]) (PySem.strKind_is _ _ _ _) ?_))
    refine wpAny_setAddHashed_of (knd := PySem.strKind P w) (s := { s with toks := s.toks + 1 }) (PySem.strKind_is _ _ _ _) rfl x (by unfold scanBound; omega) fun h' sb x2 => ?_
    refine hQ _ h' _ sb (Nat.le_succ _) ?_
    unfold JS
    rw [take_snoc hx, List.reverse_append]
    show h'.SetOf _ _ _ (dd (xs[i] :: (xs.take i).reverse)).length
    refine PyProof.Rows.SetOf_congr x2 (fun k => ?_) ?_
    · rw [← Bool.decide_or]
      refine decide_eq_decide.mpr ?_
      rw [List.mem_append, List.mem_singleton]
    · rw [dd_cons]
      simp only [List.mem_reverse, decide_eq_true_eq]
      split <;> rfl
end
section
variable {P : Program} {w : World} {A : Around} {E : Value → Shared → Prop} {s : Shared}
/-- a set of n at a -/
def SetN (h : Heap) (a : Addr) (n : Nat) : Prop := n < 64 ∧ ∃ (o : Obj) (es : Array (Int × Value)) (ep : Nat) (t : SetTable), h.get? a = some o ∧ o.ExactSet ∧ o.data = .set es ep t ∧ t.fits es.size = true ∧ es.size = n
theorem len_set {a : Addr} {n : Nat} {Q : Value → Shared → Prop} (x : SetN s.heap a n) (h : ∀ tk tk2, Q (.int n tk2) { s with toks := tk }) : wpAny (model P w) A (call (.builtin "len") [.ref a]) Q E s := by
  obtain ⟨n64, o, es, ep, t, ho, hex, hd, hf, e⟩ := x
  refine call_len_set ho hex hd hf (by rw [e]; omega) ?_
  rw [e]
  exact h _ _
/-- set(xs), nested tuples or texts -/
theorem set_keys {l : Addr} {items : Array Value} {ks : KL} {Q : Value → Shared → Prop} (calm : A.handled = none) (hu : A.units + 16 < cLine) (hl : s.heap.IsList l items) (hit : items.toList = ks.map fun p => Value.ref p.1) (hk : ∀ p ∈ ks, NK s.heap p.2 p.1) (few : ks.length < 64)
    (h : ∀ (a : Addr) (h' : Heap) (tk : Nat), Old s.heap h' → SetN h' a (dd (ks.map (·.2))).length → Q (.ref a) { s with heap := h', toks := tk }) :
    wpAny (model P w) A (call (.type "set") [.ref l]) Q E s := by
  have sz : items.size = ks.length := by rw [← Array.length_toList, hit, List.length_map]
  refine call_set_by calm hl (fill_keys (P := P) (w := w) hit hk few (by simp only [Around.in1_units]; omega)) (fun h e => new_keys e) fun h' tk j old => ?_
  obtain ⟨L, es, ep, t, R, m⟩ := j
  have e1 := rows_size R.rows
  have e2 : L.length = (dd (ks.map (·.2))).length := by
    have q := nodup_same (l := L.map (·.2)) R.uniq (dd_nodup (ks.map (·.2))) fun k => by
      rw [m.mem, dd_mem, List.take_of_length_le (by omega)]
    rw [List.length_map] at q
    exact q
  have fw := R.few
  obtain ⟨o, ho, hex, hd⟩ := R.obj
  exact h _ h' tk old ⟨by omega, o, es, ep, t, ho, hex, hd, R.fit, e1.trans e2⟩
theorem set_strs {l : Addr} {items : Array Value} {xs : List Str} {Q : Value → Shared → Prop} (calm : A.handled = none) (hl : s.heap.IsList l items) (hit : PyProof.Rows.StrsAre items.toList xs) (few : xs.length < 64)
    (h : ∀ (a : Addr) (h' : Heap) (tk : Nat), Old s.heap h' → SetN h' a (dd xs).length → Q (.ref a) { s with heap := h', toks := tk }) :
    wpAny (model P w) A (call (.type "set") [.ref l]) Q E s := by
  have sz : items.size = xs.length := by rw [← PyProof.Rows.StrsAre.len_eq hit, Array.length_toList]
  refine call_set_by calm hl (fill_strs (P := P) (w := w) hit few) (fun h e => ?_) fun h' tk j old => ?_
  · exact PyProof.Rows.SetOf_congr ((PyProof.Rows.setObjOf_fresh (knd := PySem.strKind P w) _).setOf e (by unfold scanBound; omega)) (fun k => by simp) (by simp [dd])
  · have j2 : h'.SetOf (PySem.strKind P w) s.heap.objs.size (fun k => decide (k ∈ xs.take items.size)) (dd (xs.take items.size).reverse).length := j
    rw [List.take_of_length_le (Nat.le_of_eq sz.symm), dd_rev] at j2
    obtain ⟨o, es, ep, t, ho, hex, hd, _, _, _, hf, hn⟩ := j2
    have := nodup_le _ xs (dd_nodup xs) fun y hy => (dd_mem _ y).mp hy
    exact h _ h' tk old ⟨by omega, o, es, ep, t, ho, hex, hd, hf, hn⟩
end
mutual
def kD : Da → NestedKey
  | .none => .none
  | .bool b => .num (if b = true then 1 else 0)
  | .int i => .num i
  | .str x => .text x
  | .tuple ds => .tup (kDs ds)
  | .list _ => .none
  | .dict _ => .none
def kDs : List Da → List NestedKey
  | [] => []
  | d :: ds => kD d :: kDs ds
end
mutual
/-- data that has a hash -/
def okD : Da → Bool
  | .none => true
  | .bool _ => true
  | .int _ => true
  | .str _ => true
  | .tuple ds => okDs ds
  | .list _ => false
  | .dict _ => false
def okDs : List Da → Bool
  | [] => true
  | d :: ds => okD d && okDs ds
end
section
variable {X : Cx} {pins : List (Addr × Obj)} {σ : L2.St} {H F : Hp} {s : Shared}
mutual
theorem rp_key (I : Inv X pins σ H s) (e : Evl.Ex F H) : ∀ (d : Da) (v : V) (u : Value), Rp X.K F v d → RelV v u → okD d = true → NestedIs s.heap (kD d) u
  | .none, _, _, h, r, _ => by cases h; cases r; exact .none
  | .bool b, _, _, h, r, _ => by cases h; cases r; exact .bool rfl
  | .int i, _, _, h, r, _ => by cases h; obtain ⟨t, rfl⟩ := r; exact .int i t
  | .str x, _, _, h, r, _ => by cases h; obtain ⟨t, rfl⟩ := r; exact .text x t
  | .tuple ds, _, _, h, r, k => by
    cases h with
    | tup hs ha =>
      cases r
      obtain ⟨its, rv, ⟨o, ho, hc, n, hd⟩, _⟩ := I.tuple (Evl.ex_t e hs)
      exact .tup ho hc hd (rps_keys I e ds _ _ ha rv k)
  | .list _, _, _, _, _, k => nomatch k
  | .dict _, _, _, _, _, k => nomatch k
theorem rps_keys (I : Inv X pins σ H s) (e : Evl.Ex F H) : ∀ (ds : List Da) (vs : List V) (us : List Value), Rps X.K F vs ds → Vals vs us → okDs ds = true → NestedAll s.heap (kDs ds) us
  | [], _, _, h, r, _ => by cases h; cases r; exact .nil
  | d :: ds, _, _, h, r, k => by
    cases h with
    | cons h1 h2 =>
      cases r with
      | cons r1 r2 =>
        unfold okDs at k
        rw [Bool.and_eq_true] at k
        exact .cons (rp_key I e d _ _ h1 r1 k.1) (rps_keys I e ds _ _ h2 r2 k.2)
end
/-- a tuple that may lie in a set -/
def setD (d : Da) : Bool := (match d with
  | .tuple _ => true
  | _ => false) && okD d && decide ((kD d).depth ≤ 8)
theorem refs_keys (I : Inv X pins σ H s) (e : Evl.Ex F H) : ∀ (ds : List Da) (vs : List V) (us : List Value), Rps X.K F vs ds → Vals vs us → ds.all setD = true → ∃ ks : KL, us = ks.map (fun p => Value.ref p.1) ∧ ks.map (·.2) = ds.map kD ∧ ∀ p ∈ ks, NK s.heap p.2 p.1
  | [], _, _, h, r, _ => by cases h; cases r; exact ⟨[], rfl, rfl, fun p hp => (by cases hp)⟩
  | d :: ds, _, _, h, r, k => by
    cases h with
    | cons h1 h2 =>
      cases r with
      | cons r1 r2 =>
        rw [List.all_cons, Bool.and_eq_true] at k
        obtain ⟨k1, k2⟩ := k
        simp only [setD, Bool.and_eq_true, decide_eq_true_eq] at k1
        obtain ⟨ks, g1, g2, g3⟩ := refs_keys I e ds _ _ h2 r2 k2
        have nk := rp_key I e d _ _ h1 r1 k1.1.2
        cases d with
        | tuple zs =>
          cases h1
          cases r1
          exact ⟨(_, kD (.tuple zs)) :: ks, by rw [g1] <;> rfl, by rw [List.map_cons, g2] <;> rfl, fun p hp => by
            rcases List.mem_cons.mp hp with e | hp
            · rw [e]; exact ⟨nk, k1.2⟩
            · exact g3 p hp⟩
        | _ => exact nomatch k1.1.1
theorem strs_vals : ∀ (ds : List Da) (vs : List V) (us : List Value) (xs : List Str), Rps X.K F vs ds → Vals vs us → ds = xs.map PyData.str → PyProof.Rows.StrsAre us xs
  | [], _, _, xs, h, r, e => by
    cases xs with
    | nil => cases h; cases r; exact .nil
    | cons x xs => exact nomatch e
  | d :: ds, _, _, xs, h, r, e => by
    cases xs with
    | nil => exact nomatch e
    | cons x xs =>
      rw [List.map_cons] at e
      injection e with e1 e2
      subst e1
      cases h with
      | cons h1 h2 =>
        cases r with
        | cons r1 r2 =>
          cases h1
          obtain ⟨t, rfl⟩ := r1
          exact .cons _ t (strs_vals ds _ _ xs h2 r2 e2)
end
/-- how many different ones a list of texts or of tuples has -/
def cntD (ds : List Da) : Nat := (dd (ds.map kD)).length
theorem cnt_strs (xs : List Str) : cntD (xs.map PyData.str) = (dd xs).length := by
  unfold cntD
  rw [List.map_map]
  have h := dd_two (kD ∘ PyData.str) (fun x : Str => x) xs fun x _ y _ => ⟨fun e => by injection e, fun e => by rw [e]⟩
  rw [List.map_id'] at h
  exact h
def tLenSet (X : Cx) (ta : TE) : TE := fun σ H Q => ta σ H fun x H1 => ∃ (l : Addr) (xs : List V) (ds : List Da) (F : Hp), x = V.ref l ∧ SqL X.K H1 l xs ∧ Evl.Ex F H1 ∧ Rps X.K F xs ds ∧ ds.length < 64 ∧ (ds.all setD = true ∨ ∃ ts : List Str, ds = ts.map PyData.str) ∧ Q (.int (cntD ds)) H1
section
variable {X : Cx}
theorem pe_lenSet {a : Expr} {ta : TE} {p p2 q pos : Pos} (hc : X.calm = true) (hu : X.A.units + 64 < cLine) (hg : Gl X "len") (hm : X.mg "len" = none) (hg2 : Gl X "set") (hm2 : X.mg "set" = none) (ha : PE X a ta)
    (na : starEach [a] X.env = (false, eval a X.env) :: starEach [] X.env := by rfl) : PE X (.Call (.Name "len" p) [.Call (.Name "set" p2) [a] [] q] [] pos) (tLenSet X ta) := by
  refine ⟨fun pins s σ H Q I h => ?_⟩
  refine Call_ (ld_blt I hg hm PySem.boot_len ?_)
  refine PyProof.Rows.callWith_builtin1 (PyProof.Rows.args_cons ?_ rfl) rfl rfl
  refine Call_ (ld_blt I hg2 hm2 PyProof.Rows.boot_set ?_)
  refine PyProof.Rows.callWith_type1 (PyProof.Rows.args_cons (thn (ha.run pins s σ H _ I h) fun v s1 ⟨x, H1, I1, r1, q1⟩ => PyProof.Rows.args_nil ?_) na) na rfl
  obtain ⟨l, xs, ds, F, rfl, hq, ex, rp, few, hk, q1⟩ := q1
  cases r1
  obtain ⟨its, rv, pl, hz⟩ := I1.list hq
  have rp2 : Rps X.K H1 xs ds := rp.up ex
  have hl : its.length = ds.length := by rw [← rv.length]; exact rp.len
  have fin : ∀ (a : Addr) (h' : Heap) (tk : Nat), Old s1.heap h' → SetN h' a (cntD ds) → wpAny (model X.prog X.w) X.A (call (.builtin "len") [.ref a]) (EP X pins σ Q) X.xe { s1 with heap := h', toks := tk } := fun a h' tk old x => by
    refine len_set x fun tk1 tk2 => ?_
    exact ⟨.int (cntD ds), H1, I1.kept (t' := tk1) old, ⟨tk2, rfl⟩, q1⟩
  rcases hk with hk | ⟨ts, e⟩
  · obtain ⟨ks, k1, k2, k3⟩ := refs_keys I1 ex ds xs its rp rv hk
    refine set_keys (ks := ks) (I1.ok.hd hc) (by omega) pl.isList (by simpa using k1) k3 ?_ fun a h' tk old x => ?_
    · have := congrArg List.length k2
      rw [List.length_map, List.length_map] at this
      omega
    · rw [k2] at x
      exact PyProof.Rows.args_nil (fin a h' tk old x)
  · subst e
    refine set_strs (xs := ts) (I1.ok.hd hc) pl.isList (by simpa using strs_vals _ _ _ ts rp rv rfl) (by rw [List.length_map] at few; exact few) fun a h' tk old x => ?_
    rw [← cnt_strs] at x
    exact PyProof.Rows.args_nil (fin a h' tk old x)
end
end ZS
namespace Z
open L2 PySem PySem.Spec PyProof.Rows
/-- len(set(x)), x an own list of texts or of tuples -/
def dLenSet (i : Nat) : DE := fun g Q => ∃ ds, g.sl[i]? = some (some (.own ds)) ∧ ds.length < 64 ∧ (ds.all ZS.setD = true ∨ ∃ ts : List Str, ds = ts.map PyData.str) ∧ Q (.val (.int (ZS.cntD ds))) g
theorem e_lenSet {X : Cx} {i : Nat} {a : Expr} {p p2 q pos : Pos} (hc : X.calm = true) (hu : X.A.units + 64 < cLine) (hg : Gl X "len") (hm : X.mg "len" = none) (hg2 : Gl X "set") (hm2 : X.mg "set" = none) (ha : PE X a (tVar i))
    (na : starEach [a] X.env = (false, eval a X.env) :: starEach [] X.env := by rfl) : PE X (.Call (.Name "len" p) [.Call (.Name "set" p2) [a] [] q] [] pos) (up X.K (dLenSet i)) := pe_to (ZS.pe_lenSet hc hu hg hm hg2 hm2 ha na) fun σ H Q z => by
  obtain ⟨c, g, tv, tr, F, ad, post, s, ⟨ds, h0, few, hk, t⟩, k⟩ := z
  obtain ⟨v0, w0, o0, xs0, rfl, p2, p3, p4, p5, p6⟩ := s.slot i _ h0
  exact ⟨.ref o0, w0, o0, xs0, ds, F, rfl, .inl (.inl p4), s.eh, p5, few, hk, k _ g _ H F ad t (s.push (r := .val (.int (ZS.cntD ds))) (.int _))⟩
/-- x, y = [], []: both own lists -/
def dPar2E (i j : Nat) : DS := fun d g => d.nx ((g.set i (.own [])).set j (.own []))
section
variable {X : Cx} {Wx : WX} {pos : Pos}
theorem s_par2E {i j : Nat} {x y : Str} {px py pt : Pos} {kt k2 : Nat} {pt2 q2 q3 : Pos} (hc : X.calm = true) (hN : X.N.Nodup) (hi : X.N[i]? = some x) (hj : X.N[j]? = some y) (hij : i ≠ j)
    (hx : X.env.scope.names.lookup x = some .local) (hy : X.env.scope.names.lookup y = some .local)
    (hsw : swappedStores [.Tuple [.Name x px, .Name y py] kt pt] (.Tuple [.List [] q2, .List [] q3] k2 pt2) X.env = pure (some [x, y]) := by rfl)
    (h1 : swapsWithSole [.Tuple [.Name x px, .Name y py] kt pt] (.Tuple [.List [] q2, .List [] q3] k2 pt2) pos.line X.env = pure false := by rfl)
    (n1 : starEach [.List [] q2, .List [] q3] X.env = (false, eval (.List [] q2) X.env) :: starEach [.List [] q3] X.env := by rfl) (n2 : starEach [.List [] q3] X.env = (false, eval (.List [] q3) X.env) :: starEach [] X.env := by rfl) :
    PS X (.Assign [.Tuple [.Name x px, .Name y py] kt pt] (.Tuple [.List [] q2, .List [] q3] k2 pt2) pos) (upS X.K Wx (dPar2E i j)) := ps_to (ps_par hc hN hi hj hij hx hy (pa_cons (pe_lst pa_nil) (pa_cons (pe_lst pa_nil) pa_nil n2) n1) hsw h1) fun D σ H q => by
  obtain ⟨c, g, tv, tr, F, a, d, s, hn, t, k⟩ := q
  refine ⟨Nat.zero_le _, fun p1 hp1 => ⟨Nat.zero_le _, fun p2 hp2 => ?_⟩⟩
  refine ⟨.ref p1, .ref p2, rfl, ?_⟩
  obtain ⟨s2, n2⟩ := s.laid (ds := []) hp1 .nil
  obtain ⟨s3, n3⟩ := (s2.setOwn n2 i).laid (ds := []) hp2 .nil
  exact k.nx _ _ _ _ a t (s3.setOwn n3 j)
end
end Z
namespace LAW
open Z L2 PySem PySem.Spec PyProof.Rows
open Evl (Ex ex_l ex_t ex_rd fresh_back)
local macro_rules
  | `(tactic| simp_arith [$xs,*]) => `(tactic| simp only [↓dPar2E,↓dLenSet,↓dSplit,↓dJoin,↓dFmt,↓dJs,↓dFstr,↓dIxS,↓fInC,↓dSeq,↓dAsg,↓dSetL,↓dNext,↓dIfS,↓dRet,↓dRetL,↓dDrop,↓dNever,↓dPar,↓dApp,↓dExt,↓dVar,↓dC,↓dBin,↓fI,↓fI0,↓fAdd,↓fEq,↓fNe,↓fIn,↓dTest,↓dAndT,↓dOrT,↓dNotT,↓dAndV,↓dNotV,↓dIf,↓dNeg,↓dIsN,↓dChain,↓dNil,↓dCons,↓dTup,↓dLst,↓dFz,↓valsD,↓dIx,↓dCall,↓dCallL,↓hasSrc,↓rrv,↓dN,↓dT,↓dTn,↓dTc,↓rsv,↓Gs.set,↓dFor,↓dItems,↓dRange1,↓dLc,↓dCB,↓cLen,↓cAll,↓cTuple,↓cInt1,↓cInt2,↓dIsi,↓dCallS,↓oSub,↓oMul,↓oDiv,↓oMod,↓oShl,↓oPow,↓oLt,↓oLe,↓oGt,↓oGe,↓oAbs,↓oMax,↓oMin,↓dCallK,↓cSortedD,↓dSl,↓oNo,↓oSo,↓cIntS,↓cReprX,↓cStrI,↓gAs,↓Gs.unset,↓rtN,↓lamF,↓gLam,↓plainO,↓Z.isNon,↓dLetters, $xs,*, ent,svOf,List.map_cons,List.map_nil,List.cons_append,List.nil_append,List.append_nil,List.replicate,List.length_cons,List.length_nil,List.getElem?_cons_zero,List.getElem?_cons_succ,List.getElem?_nil,List.set_cons_zero,List.set_cons_succ,Option.map_some,Option.map_none,Option.isNone_some,Option.isNone_none,forall_const,true_implies,false_implies,and_true,true_and,Bool.true_eq_false,Bool.false_eq_true,reduceCtorEq,noOwn,wipeS,hide,fuN_self,lcD,dYes,Nat.zero_add,Nat.reduceAdd,Nat.reduceLeDiff,Nat.reduceSub,atI_0,atI_1,atI_2,atI_3,atI_4,atI_5,Int.one_mul,eqv_ii,eqv_ss,eqv_num,shaped_int,shaped_num,shaped_none,shaped_ru,flat_str,flat_int,flat_none,List.all_cons,List.all_nil,Bool.and_true,decide_eq_true_eq,decide_eq_false_iff_not,Bool.not_eq_true',Bool.not_eq_false',Decidable.not_not,↓reduceIte,Bool.false_eq_true,Int.reduceLT,eqv_strs,pick_0,pick_01,pick_10,pick_012,pick_021,pick_102,pick_120,pick_201,pick_210])
  | `(tactic| simp_arith [$xs,*] at $h:ident) => `(tactic| simp only [↓dPar2E,↓dLenSet,↓dSplit,↓dJoin,↓dFmt,↓dJs,↓dFstr,↓dIxS,↓fInC,↓dSeq,↓dAsg,↓dSetL,↓dNext,↓dIfS,↓dRet,↓dRetL,↓dDrop,↓dNever,↓dPar,↓dApp,↓dExt,↓dVar,↓dC,↓dBin,↓fI,↓fI0,↓fAdd,↓fEq,↓fNe,↓fIn,↓dTest,↓dAndT,↓dOrT,↓dNotT,↓dAndV,↓dNotV,↓dIf,↓dNeg,↓dIsN,↓dChain,↓dNil,↓dCons,↓dTup,↓dLst,↓dFz,↓valsD,↓dIx,↓dCall,↓dCallL,↓hasSrc,↓rrv,↓dN,↓dT,↓dTn,↓dTc,↓rsv,↓Gs.set,↓dFor,↓dItems,↓dRange1,↓dLc,↓dCB,↓cLen,↓cAll,↓cTuple,↓cInt1,↓cInt2,↓dIsi,↓dCallS,↓oSub,↓oMul,↓oDiv,↓oMod,↓oShl,↓oPow,↓oLt,↓oLe,↓oGt,↓oGe,↓oAbs,↓oMax,↓oMin,↓dCallK,↓cSortedD,↓dSl,↓oNo,↓oSo,↓cIntS,↓cReprX,↓cStrI,↓gAs,↓Gs.unset,↓rtN,↓lamF,↓gLam,↓plainO,↓Z.isNon,↓dLetters, $xs,*, ent,svOf,List.map_cons,List.map_nil,List.cons_append,List.nil_append,List.append_nil,List.replicate,List.length_cons,List.length_nil,List.getElem?_cons_zero,List.getElem?_cons_succ,List.getElem?_nil,List.set_cons_zero,List.set_cons_succ,Option.map_some,Option.map_none,Option.isNone_some,Option.isNone_none,forall_const,true_implies,false_implies,and_true,true_and,Bool.true_eq_false,Bool.false_eq_true,reduceCtorEq,noOwn,wipeS,hide,fuN_self,lcD,dYes,Nat.zero_add,Nat.reduceAdd,Nat.reduceLeDiff,Nat.reduceSub,atI_0,atI_1,atI_2,atI_3,atI_4,atI_5,Int.one_mul,eqv_ii,eqv_ss,eqv_num,shaped_int,shaped_num,shaped_none,shaped_ru,flat_str,flat_int,flat_none,List.all_cons,List.all_nil,Bool.and_true,decide_eq_true_eq,decide_eq_false_iff_not,Bool.not_eq_true',Bool.not_eq_false',Decidable.not_not,↓reduceIte,Bool.false_eq_true,Int.reduceLT,eqv_strs,pick_0,pick_01,pick_10,pick_012,pick_021,pick_102,pick_120,pick_201,pick_210] at $h:ident)
def topS (i : Nat) : Stmt := PySem.Challenge.pw_stagedrounding_k56_texts_of_numbers_and.main.body.getD i (.Pass ⟨0, 0, 0, 0⟩)
abbrev st_is_int : Stmt := topS 8
abbrev N_is_int : List Str := ["value", "least"]
theorem sc_is_int : FnScope N_is_int ["value", "least"] (defScope st_is_int) := ⟨rfl, rfl, rfl, by decide +kernel, rfl, by decide +kernel, by decide +kernel⟩
abbrev st_common_divisor : Stmt := topS 9
abbrev N_common_divisor : List Str := ["one", "other"]
theorem sc_common_divisor : FnScope N_common_divisor ["one", "other"] (defScope st_common_divisor) := ⟨rfl, rfl, rfl, by decide +kernel, rfl, by decide +kernel, by decide +kernel⟩
abbrev st_is_number : Stmt := topS 10
abbrev N_is_number : List Str := ["value", "part"]
theorem sc_is_number : FnScope N_is_number ["value"] (defScope st_is_number) := ⟨rfl, rfl, rfl, by decide +kernel, rfl, by decide +kernel, by decide +kernel⟩
abbrev st_is_width : Stmt := topS 11
abbrev N_is_width : List Str := ["value"]
theorem sc_is_width : FnScope N_is_width ["value"] (defScope st_is_width) := ⟨rfl, rfl, rfl, by decide +kernel, rfl, by decide +kernel, by decide +kernel⟩
abbrev st_check_number : Stmt := topS 12
abbrev N_check_number : List Str := ["value"]
theorem sc_check_number : FnScope N_check_number ["value"] (defScope st_check_number) := ⟨rfl, rfl, rfl, by decide +kernel, rfl, by decide +kernel, by decide +kernel⟩
abbrev st_is_rule : Stmt := topS 21
abbrev N_is_rule : List Str := ["value"]
theorem sc_is_rule : FnScope N_is_rule ["value"] (defScope st_is_rule) := ⟨rfl, rfl, rfl, by decide +kernel, rfl, by decide +kernel, by decide +kernel⟩
abbrev st_is_step : Stmt := topS 25
abbrev N_is_step : List Str := ["value"]
theorem sc_is_step : FnScope N_is_step ["value"] (defScope st_is_step) := ⟨rfl, rfl, rfl, by decide +kernel, rfl, by decide +kernel, by decide +kernel⟩
abbrev st_is_chain : Stmt := topS 26
abbrev N_is_chain : List Str := ["value", "step"]
theorem sc_is_chain : FnScope N_is_chain ["value"] (defScope st_is_chain) := ⟨rfl, rfl, rfl, by decide +kernel, rfl, by decide +kernel, by decide +kernel⟩
abbrev st_check_chain : Stmt := topS 27
abbrev N_check_chain : List Str := ["value"]
theorem sc_check_chain : FnScope N_check_chain ["value"] (defScope st_check_chain) := ⟨rfl, rfl, rfl, by decide +kernel, rfl, by decide +kernel, by decide +kernel⟩
abbrev st_format_number : Stmt := topS 33
abbrev N_format_number : List Str := ["number", "n", "d"]
theorem sc_format_number : FnScope N_format_number ["number"] (defScope st_format_number) := ⟨rfl, rfl, rfl, by decide +kernel, rfl, by decide +kernel, by decide +kernel⟩
abbrev st_format_chain : Stmt := topS 34
abbrev N_format_chain : List Str := ["chain", "width", "rule"]
theorem sc_format_chain : FnScope N_format_chain ["chain"] (defScope st_format_chain) := ⟨rfl, rfl, rfl, by decide +kernel, rfl, by decide +kernel, by decide +kernel⟩
abbrev st_int_in : Stmt := topS 35
abbrev N_int_in : List Str := ["word", "character"]
theorem sc_int_in : FnScope N_int_in ["word"] (defScope st_int_in) := ⟨rfl, rfl, rfl, by decide +kernel, rfl, by decide +kernel, by decide +kernel⟩
abbrev st_number_in : Stmt := topS 36
abbrev N_number_in : List Str := ["text", "parts", "number", "word"]
theorem sc_number_in : FnScope N_number_in ["text"] (defScope st_number_in) := ⟨rfl, rfl, rfl, by decide +kernel, rfl, by decide +kernel, by decide +kernel⟩
abbrev st_step_in : Stmt := topS 37
abbrev N_step_in : List Str := ["text", "words"]
theorem sc_step_in : FnScope N_step_in ["text"] (defScope st_step_in) := ⟨rfl, rfl, rfl, by decide +kernel, rfl, by decide +kernel, by decide +kernel⟩
abbrev st_chain_in : Stmt := topS 38
abbrev N_chain_in : List Str := ["text", "chain", "part"]
theorem sc_chain_in : FnScope N_chain_in ["text"] (defScope st_chain_in) := ⟨rfl, rfl, rfl, by decide +kernel, rfl, by decide +kernel, by decide +kernel⟩
abbrev st_parse_number : Stmt := topS 39
abbrev N_parse_number : List Str := ["text", "number"]
theorem sc_parse_number : FnScope N_parse_number ["text"] (defScope st_parse_number) := ⟨rfl, rfl, rfl, by decide +kernel, rfl, by decide +kernel, by decide +kernel⟩
abbrev st_parse_chain : Stmt := topS 40
abbrev N_parse_chain : List Str := ["text", "chain"]
theorem sc_parse_chain : FnScope N_parse_chain ["text"] (defScope st_parse_chain) := ⟨rfl, rfl, rfl, by decide +kernel, rfl, by decide +kernel, by decide +kernel⟩
abbrev st__law_source : Stmt := topS 42
abbrev N__law_source : List Str := ["_law_script", "_law_k", "_law_given", "_law_digits"]
theorem sc__law_source : FnScope N__law_source ["_law_script", "_law_k"] (defScope st__law_source) := ⟨rfl, rfl, rfl, by decide +kernel, rfl, by decide +kernel, by decide +kernel⟩
abbrev st__law_draw : Stmt := topS 43
abbrev N__law_draw : List Str := ["_law_source_here", "_law_size", "_law_digit", "_law_turn", "_law_mixed"]
theorem sc__law_draw : FnScope N__law_draw ["_law_source_here", "_law_size"] (defScope st__law_draw) := ⟨rfl, rfl, rfl, by decide +kernel, rfl, by decide +kernel, by decide +kernel⟩
abbrev st__law_pick : Stmt := topS 44
abbrev N__law_pick : List Str := ["_law_source_here", "_law_some"]
theorem sc__law_pick : FnScope N__law_pick ["_law_source_here", "_law_some"] (defScope st__law_pick) := ⟨rfl, rfl, rfl, by decide +kernel, rfl, by decide +kernel, by decide +kernel⟩
abbrev st__law_divisor : Stmt := topS 45
abbrev N__law_divisor : List Str := ["_law_one", "_law_other"]
theorem sc__law_divisor : FnScope N__law_divisor ["_law_one", "_law_other"] (defScope st__law_divisor) := ⟨rfl, rfl, rfl, by decide +kernel, rfl, by decide +kernel, by decide +kernel⟩
abbrev st__law_low : Stmt := topS 46
abbrev N__law_low : List Str := ["_law_n", "_law_d", "_law_by"]
theorem sc__law_low : FnScope N__law_low ["_law_n", "_law_d"] (defScope st__law_low) := ⟨rfl, rfl, rfl, by decide +kernel, rfl, by decide +kernel, by decide +kernel⟩
abbrev st__law_scaled : Stmt := topS 47
abbrev N__law_scaled : List Str := ["_law_amount", "_law_e", "_law_n", "_law_d"]
theorem sc__law_scaled : FnScope N__law_scaled ["_law_amount", "_law_e"] (defScope st__law_scaled) := ⟨rfl, rfl, rfl, by decide +kernel, rfl, by decide +kernel, by decide +kernel⟩
abbrev st__law_number : Stmt := topS 48
abbrev N__law_number : List Str := ["_law_source_here", "_law_most", "_law_n", "_law_d"]
theorem sc__law_number : FnScope N__law_number ["_law_source_here", "_law_most"] (defScope st__law_number) := ⟨rfl, rfl, rfl, by decide +kernel, rfl, by decide +kernel, by decide +kernel⟩
abbrev st__law_rule : Stmt := topS 49
abbrev N__law_rule : List Str := ["_law_source_here"]
theorem sc__law_rule : FnScope N__law_rule ["_law_source_here"] (defScope st__law_rule) := ⟨rfl, rfl, rfl, by decide +kernel, rfl, by decide +kernel, by decide +kernel⟩
abbrev st__law_chain : Stmt := topS 50
abbrev N__law_chain : List Str := ["_law_source_here", "_law_last", "_law_most", "_law_far", "_law_found", "_law_turn", "_law_falling", "_law_width", "_law_rule_here"]
theorem sc__law_chain : FnScope N__law_chain ["_law_source_here", "_law_last", "_law_most", "_law_far"] (defScope st__law_chain) := ⟨rfl, rfl, rfl, by decide +kernel, rfl, by decide +kernel, by decide +kernel⟩
abbrev st__law_number_text : Stmt := topS 51
abbrev N__law_number_text : List Str := ["_law_one"]
theorem sc__law_number_text : FnScope N__law_number_text ["_law_one"] (defScope st__law_number_text) := ⟨rfl, rfl, rfl, by decide +kernel, rfl, by decide +kernel, by decide +kernel⟩
abbrev st__law_chain_text : Stmt := topS 52
abbrev N__law_chain_text : List Str := ["_law_steps", "_law_wide", "_law_mode"]
theorem sc__law_chain_text : FnScope N__law_chain_text ["_law_steps"] (defScope st__law_chain_text) := ⟨rfl, rfl, rfl, by decide +kernel, rfl, by decide +kernel, by decide +kernel⟩
abbrev st__law_right : Stmt := topS 53
abbrev N__law_right : List Str := ["_law_source_here", "_law_values", "_law_written", "_law_turn", "_law_one", "_law_line", "_law_steps", "_law_line_of"]
theorem sc__law_right : FnScope N__law_right ["_law_source_here"] (defScope st__law_right) := ⟨rfl, rfl, rfl, by decide +kernel, rfl, by decide +kernel, by decide +kernel⟩
abbrev st_law : Stmt := topS 54
abbrev N_law : List Str := ["_law_script", "_law_k"]
theorem sc_law : FnScope N_law ["_law_script"] (defScope st_law) := ⟨rfl, rfl, rfl, by decide +kernel, rfl, by decide +kernel, by decide +kernel⟩
set_option genInjectivity false in
set_option genSizeOf false in
set_option genSizeOfSpec false in
structure Tx (w : World) (K : Fg) (mg : Str → Option Value) where
  f_is_int : Addr
  fd_is_int : FuncData
  F_is_int : Fun K "is_int" "is_int" st_is_int f_is_int fd_is_int
  b_is_int : Binds K fd_is_int ["value", "least"] []
  g_is_int : mg "is_int" = some (.ref f_is_int)
  f_common_divisor : Addr
  fd_common_divisor : FuncData
  F_common_divisor : Fun K "common_divisor" "common_divisor" st_common_divisor f_common_divisor fd_common_divisor
  b_common_divisor : Binds K fd_common_divisor ["one", "other"] []
  g_common_divisor : mg "common_divisor" = some (.ref f_common_divisor)
  f_is_number : Addr
  fd_is_number : FuncData
  F_is_number : Fun K "is_number" "is_number" st_is_number f_is_number fd_is_number
  b_is_number : Binds K fd_is_number ["value"] []
  g_is_number : mg "is_number" = some (.ref f_is_number)
  f_is_width : Addr
  fd_is_width : FuncData
  F_is_width : Fun K "is_width" "is_width" st_is_width f_is_width fd_is_width
  b_is_width : Binds K fd_is_width ["value"] []
  g_is_width : mg "is_width" = some (.ref f_is_width)
  f_check_number : Addr
  fd_check_number : FuncData
  F_check_number : Fun K "check_number" "check_number" st_check_number f_check_number fd_check_number
  b_check_number : Binds K fd_check_number ["value"] []
  g_check_number : mg "check_number" = some (.ref f_check_number)
  f_is_rule : Addr
  fd_is_rule : FuncData
  F_is_rule : Fun K "is_rule" "is_rule" st_is_rule f_is_rule fd_is_rule
  b_is_rule : Binds K fd_is_rule ["value"] []
  g_is_rule : mg "is_rule" = some (.ref f_is_rule)
  f_is_step : Addr
  fd_is_step : FuncData
  F_is_step : Fun K "is_step" "is_step" st_is_step f_is_step fd_is_step
  b_is_step : Binds K fd_is_step ["value"] []
  g_is_step : mg "is_step" = some (.ref f_is_step)
  f_is_chain : Addr
  fd_is_chain : FuncData
  F_is_chain : Fun K "is_chain" "is_chain" st_is_chain f_is_chain fd_is_chain
  b_is_chain : Binds K fd_is_chain ["value"] []
  g_is_chain : mg "is_chain" = some (.ref f_is_chain)
  f_check_chain : Addr
  fd_check_chain : FuncData
  F_check_chain : Fun K "check_chain" "check_chain" st_check_chain f_check_chain fd_check_chain
  b_check_chain : Binds K fd_check_chain ["value"] []
  g_check_chain : mg "check_chain" = some (.ref f_check_chain)
  f_format_number : Addr
  fd_format_number : FuncData
  F_format_number : Fun K "format_number" "format_number" st_format_number f_format_number fd_format_number
  b_format_number : Binds K fd_format_number ["number"] []
  g_format_number : mg "format_number" = some (.ref f_format_number)
  f_format_chain : Addr
  fd_format_chain : FuncData
  F_format_chain : Fun K "format_chain" "format_chain" st_format_chain f_format_chain fd_format_chain
  b_format_chain : Binds K fd_format_chain ["chain"] []
  g_format_chain : mg "format_chain" = some (.ref f_format_chain)
  f_int_in : Addr
  fd_int_in : FuncData
  F_int_in : Fun K "int_in" "int_in" st_int_in f_int_in fd_int_in
  b_int_in : Binds K fd_int_in ["word"] []
  g_int_in : mg "int_in" = some (.ref f_int_in)
  f_number_in : Addr
  fd_number_in : FuncData
  F_number_in : Fun K "number_in" "number_in" st_number_in f_number_in fd_number_in
  b_number_in : Binds K fd_number_in ["text"] []
  g_number_in : mg "number_in" = some (.ref f_number_in)
  f_step_in : Addr
  fd_step_in : FuncData
  F_step_in : Fun K "step_in" "step_in" st_step_in f_step_in fd_step_in
  b_step_in : Binds K fd_step_in ["text"] []
  g_step_in : mg "step_in" = some (.ref f_step_in)
  f_chain_in : Addr
  fd_chain_in : FuncData
  F_chain_in : Fun K "chain_in" "chain_in" st_chain_in f_chain_in fd_chain_in
  b_chain_in : Binds K fd_chain_in ["text"] []
  g_chain_in : mg "chain_in" = some (.ref f_chain_in)
  f_parse_number : Addr
  fd_parse_number : FuncData
  F_parse_number : Fun K "parse_number" "parse_number" st_parse_number f_parse_number fd_parse_number
  b_parse_number : Binds K fd_parse_number ["text"] []
  g_parse_number : mg "parse_number" = some (.ref f_parse_number)
  f_parse_chain : Addr
  fd_parse_chain : FuncData
  F_parse_chain : Fun K "parse_chain" "parse_chain" st_parse_chain f_parse_chain fd_parse_chain
  b_parse_chain : Binds K fd_parse_chain ["text"] []
  g_parse_chain : mg "parse_chain" = some (.ref f_parse_chain)
  f__law_source : Addr
  fd__law_source : FuncData
  F__law_source : Fun K "_law_source" "_law_source" st__law_source f__law_source fd__law_source
  b__law_source : Binds K fd__law_source ["_law_script", "_law_k"] []
  g__law_source : mg "_law_source" = some (.ref f__law_source)
  f__law_draw : Addr
  fd__law_draw : FuncData
  F__law_draw : Fun K "_law_draw" "_law_draw" st__law_draw f__law_draw fd__law_draw
  b__law_draw : Binds K fd__law_draw ["_law_source_here", "_law_size"] []
  g__law_draw : mg "_law_draw" = some (.ref f__law_draw)
  f__law_pick : Addr
  fd__law_pick : FuncData
  F__law_pick : Fun K "_law_pick" "_law_pick" st__law_pick f__law_pick fd__law_pick
  b__law_pick : Binds K fd__law_pick ["_law_source_here", "_law_some"] []
  g__law_pick : mg "_law_pick" = some (.ref f__law_pick)
  f__law_divisor : Addr
  fd__law_divisor : FuncData
  F__law_divisor : Fun K "_law_divisor" "_law_divisor" st__law_divisor f__law_divisor fd__law_divisor
  b__law_divisor : Binds K fd__law_divisor ["_law_one", "_law_other"] []
  g__law_divisor : mg "_law_divisor" = some (.ref f__law_divisor)
  f__law_low : Addr
  fd__law_low : FuncData
  F__law_low : Fun K "_law_low" "_law_low" st__law_low f__law_low fd__law_low
  b__law_low : Binds K fd__law_low ["_law_n", "_law_d"] []
  g__law_low : mg "_law_low" = some (.ref f__law_low)
  f__law_scaled : Addr
  fd__law_scaled : FuncData
  F__law_scaled : Fun K "_law_scaled" "_law_scaled" st__law_scaled f__law_scaled fd__law_scaled
  b__law_scaled : Binds K fd__law_scaled ["_law_amount", "_law_e"] []
  g__law_scaled : mg "_law_scaled" = some (.ref f__law_scaled)
  f__law_number : Addr
  fd__law_number : FuncData
  F__law_number : Fun K "_law_number" "_law_number" st__law_number f__law_number fd__law_number
  b__law_number : Binds K fd__law_number ["_law_source_here", "_law_most"] []
  g__law_number : mg "_law_number" = some (.ref f__law_number)
  f__law_rule : Addr
  fd__law_rule : FuncData
  F__law_rule : Fun K "_law_rule" "_law_rule" st__law_rule f__law_rule fd__law_rule
  b__law_rule : Binds K fd__law_rule ["_law_source_here"] []
  g__law_rule : mg "_law_rule" = some (.ref f__law_rule)
  f__law_chain : Addr
  fd__law_chain : FuncData
  F__law_chain : Fun K "_law_chain" "_law_chain" st__law_chain f__law_chain fd__law_chain
  b__law_chain : Binds K fd__law_chain ["_law_source_here", "_law_last", "_law_most", "_law_far"] []
  g__law_chain : mg "_law_chain" = some (.ref f__law_chain)
  f__law_number_text : Addr
  fd__law_number_text : FuncData
  F__law_number_text : Fun K "_law_number_text" "_law_number_text" st__law_number_text f__law_number_text fd__law_number_text
  b__law_number_text : Binds K fd__law_number_text ["_law_one"] []
  g__law_number_text : mg "_law_number_text" = some (.ref f__law_number_text)
  f__law_chain_text : Addr
  fd__law_chain_text : FuncData
  F__law_chain_text : Fun K "_law_chain_text" "_law_chain_text" st__law_chain_text f__law_chain_text fd__law_chain_text
  b__law_chain_text : Binds K fd__law_chain_text ["_law_steps"] []
  g__law_chain_text : mg "_law_chain_text" = some (.ref f__law_chain_text)
  f__law_right : Addr
  fd__law_right : FuncData
  F__law_right : Fun K "_law_right" "_law_right" st__law_right f__law_right fd__law_right
  b__law_right : Binds K fd__law_right ["_law_source_here"] []
  g__law_right : mg "_law_right" = some (.ref f__law_right)
  f_law : Addr
  fd_law : FuncData
  F_law : Fun K "law" "law" st_law f_law fd_law
  b_law : Binds K fd_law ["_law_script"] []
  g_law : mg "law" = some (.ref f_law)
  n_abs : mg "abs" = none
  n_all : mg "all" = none
  n_bool : mg "bool" = none
  n_int : mg "int" = none
  n_isinstance : mg "isinstance" = none
  n_len : mg "len" = none
  n_max : mg "max" = none
  n_min : mg "min" = none
  n_range : mg "range" = none
  n_repr : mg "repr" = none
  n_set : mg "set" = none
  n_sorted : mg "sorted" = none
  n_str : mg "str" = none
  n_tuple : mg "tuple" = none
  u_BETWEEN_STEPS : Value
  w_BETWEEN_STEPS : V
  c_BETWEEN_STEPS : mg "BETWEEN_STEPS" = some u_BETWEEN_STEPS
  v_BETWEEN_STEPS : RelV w_BETWEEN_STEPS u_BETWEEN_STEPS
  r_BETWEEN_STEPS : ∀ F, Rp K F w_BETWEEN_STEPS (.str ", ")
  u_DIGITS : Value
  w_DIGITS : V
  c_DIGITS : mg "DIGITS" = some u_DIGITS
  v_DIGITS : RelV w_DIGITS u_DIGITS
  r_DIGITS : ∀ F, Rp K F w_DIGITS (.str "0123456789")
  u_MOST_STEPS : Value
  w_MOST_STEPS : V
  c_MOST_STEPS : mg "MOST_STEPS" = some u_MOST_STEPS
  v_MOST_STEPS : RelV w_MOST_STEPS u_MOST_STEPS
  r_MOST_STEPS : ∀ F, Rp K F w_MOST_STEPS (.int 12)
  u_MOST_WIDTH : Value
  w_MOST_WIDTH : V
  c_MOST_WIDTH : mg "MOST_WIDTH" = some u_MOST_WIDTH
  v_MOST_WIDTH : RelV w_MOST_WIDTH u_MOST_WIDTH
  r_MOST_WIDTH : ∀ F, Rp K F w_MOST_WIDTH (.int 100)
  u_PAIR_cells : Value
  w_PAIR_cells : V
  c_PAIR_cells : mg "PAIR_cells" = some u_PAIR_cells
  v_PAIR_cells : RelV w_PAIR_cells u_PAIR_cells
  r_PAIR_cells : ∀ F, Rp K F w_PAIR_cells (.int 2)
  u_PAIR_chains : Value
  w_PAIR_chains : V
  c_PAIR_chains : mg "PAIR_chains" = some u_PAIR_chains
  v_PAIR_chains : RelV w_PAIR_chains u_PAIR_chains
  r_PAIR_chains : ∀ F, Rp K F w_PAIR_chains (.int 2)
  u_RULES : Value
  w_RULES : V
  c_RULES : mg "RULES" = some u_RULES
  v_RULES : RelV w_RULES u_RULES
  r_RULES : ∀ F, Rp K F w_RULES (.tuple [(.str "down"), (.str "half_down"), (.str "half_even"), (.str "half_up"), (.str "odd"), (.str "up")])
  u_SLASH : Value
  w_SLASH : V
  c_SLASH : mg "SLASH" = some u_SLASH
  v_SLASH : RelV w_SLASH u_SLASH
  r_SLASH : ∀ F, Rp K F w_SLASH (.str "/")
  u_SPACE : Value
  w_SPACE : V
  c_SPACE : mg "SPACE" = some u_SPACE
  v_SPACE : RelV w_SPACE u_SPACE
  r_SPACE : ∀ F, Rp K F w_SPACE (.str " ")
def b_is_int : DS :=
  (dRet (dAndV (dIsi "int" (dVar 0)) (dAndV (dNotV (dIsi "bool" (dVar 0))) (dBin oGe (dVar 0) (dVar 1)))))
/-- value is an int, no bool, at least m -/
def isInt (d : Da) (m : Int) : Bool := match d with
  | .int i => decide (m ≤ i)
  | _ => false
def fs_is_int : FSp := fun rs fu post => ∃ d m, rs = [.val d, .val (.int m)] ∧ post (.val (.bool (isInt d m))) fu
theorem p_is_int (rs : List Rv) (fu : Option Nat) (post : Rr → Option Nat → Prop) (hl : rs.length = 2) (h : fs_is_int rs fu post) : b_is_int ⟨fun g => post (.val .none) g.fu, fun r g => post r g.fu, fun _ => False, fun _ => False⟩ (ent N_is_int rs fu) := by
  obtain ⟨d, m, rfl, h⟩ := h
  cases d <;> (simp_arith [b_is_int]; simp_all [isInt, isTy])
theorem isInt_some {d : Da} {m : Int} (h : isInt d m = true) : ∃ i, d = .int i ∧ m ≤ i := by
  cases d with
  | int i => exact ⟨i, rfl, of_decide_eq_true h⟩
  | _ => cases h
section
variable {P : Program} {w : World} {K : Fg} {mg : Str → Option Value} {base : Heap}
theorem d_is_int (T : Tx w K mg) {cdv : Value} {A : Around} {outer : List Env} {s : Shared} {H : Hp} {E : XK} (hr : Room 0 (A.deeper (envOfC "is_int" (defScope st_is_int) s.heap.objs.size T.f_is_int cdv))) (hgd : (A.deeper (envOfC "is_int" (defScope st_is_int) s.heap.objs.size T.f_is_int cdv)).guards = some []) :
    PSs (cxOf CX0 P w K mg base N_is_int "is_int" (defScope st_is_int) T.f_is_int cdv A outer s H E).nox (defBody st_is_int) (upS K W0 b_is_int) :=
  (ss_one (s_ret (e_and (e_isi kit_int (by rfl) T.n_isinstance (e_var 0 (pv 0)) (c_ty (by rfl) T.n_int (by decide +kernel))) (e_and (e_not (e_isi kit_bool (by rfl) T.n_isinstance (e_var 0 (pv 0)) (c_ty (by rfl) T.n_bool (by decide +kernel)))) (e_one (e_ge (e_var 0 (pv 0)) (e_var 1 (pv 1))))))))
theorem ok_is_int (T : Tx w K mg) : Fn P w K mg base CX0 1 T.f_is_int T.fd_is_int ["value", "least"] (lift K 2 fs_is_int) := fn_data T.F_is_int sc_is_int b_is_int (fun _ _ _ _ _ _ hr hgd => d_is_int T hr hgd) p_is_int
end
def b_common_divisor : DS :=
  (dSeq (dWhile (dTest (dBin fNe (dVar 1) (dC (.int 0))))
    (dPar 0 1 (dVar 1) (dBin oMod (dVar 0) (dVar 1))))
  (dRet (dVar 0)))
def fs_common_divisor : FSp := fun rs fu post => ∃ a b : Int, rs = [.val (.int a), .val (.int b)] ∧ 0 ≤ a ∧ 0 ≤ b ∧ post (.val (.int (Int.gcd a b))) fu
theorem p_common_divisor (rs : List Rv) (fu : Option Nat) (post : Rr → Option Nat → Prop) (hl : rs.length = 2) (h : fs_common_divisor rs fu post) : b_common_divisor ⟨fun g => post (.val .none) g.fu, fun r g => post r g.fu, fun _ => False, fun _ => False⟩ (ent N_common_divisor rs fu) := by
  obtain ⟨a, b, rfl, ha, hb, h⟩ := h
  simp_arith [b_common_divisor]
  refine ⟨fun m g => ∃ x y : Int, g = ⟨[some (.val (.int x)), some (.val (.int y))], fu, fu.isNone⟩ ∧ 0 ≤ x ∧ 0 ≤ y ∧ y.toNat = m ∧ Int.gcd x y = Int.gcd a b, ⟨b.toNat, a, b, rfl, ha, hb, rfl, rfl⟩, fun m g hg => ?_⟩
  obtain ⟨x, y, rfl, hx, hy, rfl, e⟩ := hg
  simp_arith [Nat.zero_add]
  refine ⟨fun hne => ?_, fun heq => ?_⟩
  · have hy0 : 0 < y := by omega
    refine ⟨hy0, (x % y).toNat, ?_, y, x % y, rfl, hy, Int.emod_nonneg _ (by omega), rfl, by rw [gcd_step hx hy0, e]⟩
    have := Int.emod_lt_of_pos x hy0
    have := Int.emod_nonneg x (show y ≠ 0 by omega)
    omega
  · subst heq
    rw [Int.gcd_zero_right] at e
    have : x = ((Int.gcd a b : Nat) : Int) := by omega
    rw [this]
    exact h
section
variable {P : Program} {w : World} {K : Fg} {mg : Str → Option Value} {base : Heap}
theorem d_common_divisor (T : Tx w K mg) {cdv : Value} {A : Around} {outer : List Env} {s : Shared} {H : Hp} {E : XK} (hr : Room 0 (A.deeper (envOfC "common_divisor" (defScope st_common_divisor) s.heap.objs.size T.f_common_divisor cdv))) (hgd : (A.deeper (envOfC "common_divisor" (defScope st_common_divisor) s.heap.objs.size T.f_common_divisor cdv)).guards = some []) :
    PSs (cxOf CX0 P w K mg base N_common_divisor "common_divisor" (defScope st_common_divisor) T.f_common_divisor cdv A outer s H E).nox (defBody st_common_divisor) (upS K W0 b_common_divisor) :=
  (ss_cons (s_while PassesOwn.never (t_ne hr.units (e_var 1 (pv 1)) e_int) (ss_one (s_par (i := 0) (j := 1) rfl sc_common_divisor.nd rfl rfl (by decide) rfl rfl (e_var 1 (pv 1)) (e_mod (e_var 0 (pv 0)) (e_var 1 (pv 1))))))
    (ss_one (s_ret (e_var 0 (pv 0)))))
theorem ok_common_divisor (T : Tx w K mg) : Fn P w K mg base CX0 1 T.f_common_divisor T.fd_common_divisor ["one", "other"] (lift K 2 fs_common_divisor) := fn_data T.F_common_divisor sc_common_divisor b_common_divisor (fun _ _ _ _ _ _ hr hgd => d_common_divisor T hr hgd) p_common_divisor
end
def b_is_number : DS :=
  (dSeq (dIfS (dOrT (dNotT (dTest (dIsi "tuple" (dVar 0)))) (dOrT (dTest (dBin fNe (dCB cLen (dCons (dVar 0) dNil)) (dC (.int 2)))) (dNotT (dTest (dCB cAll (dCons (dFz (dLc [1] (dItems (dVar 0)) (dN 1) dYes (dCall 2 fs_is_int (dCons (dVar 1) (dCons (dC (.int 1)) dNil))))) dNil))))))
    (dRet (dC (.bool false)))
    dNext)
  (dRet (dBin fEq (dCall 2 fs_common_divisor (dCons (dIx (dVar 0) (dC (.int 0))) (dCons (dIx (dVar 0) (dC (.int 1))) dNil))) (dC (.int 1)))))
/-- a number: two ints from 1 on without a common divisor -/
def isNum : Da → Bool
  | .tuple [x, y] => isInt x 1 && isInt y 1 && (match x, y with | .int n, .int d => decide (Int.gcd n d = 1) | _, _ => false)
  | _ => false
theorem isNum_ne {xs : List Da} (h : xs.length ≠ 2) : isNum (.tuple xs) = false := by
  match xs with
  | [] => rfl
  | [_] => rfl
  | [_, _] => exact absurd rfl h
  | _ :: _ :: _ :: _ => rfl
theorem isNum_num {n d : Int} (hn : 1 ≤ n) (hd : 1 ≤ d) (h : Int.gcd n d = 1) : isNum (num n d) = true := by
  simp [isNum, isInt, hn, hd, h]
def fs_is_number : FSp := fun rs fu post => ∃ v, rs = [.val v] ∧ post (.val (.bool (isNum v))) fu
theorem p_is_number (rs : List Rv) (fu : Option Nat) (post : Rr → Option Nat → Prop) (hl : rs.length = 1) (h : fs_is_number rs fu post) : b_is_number ⟨fun g => post (.val .none) g.fu, fun r g => post r g.fu, fun _ => False, fun _ => False⟩ (ent N_is_number rs fu) := by
  obtain ⟨v, rfl, h⟩ := h
  cases v with
  | tuple xs =>
    simp_arith [b_is_number]
    refine ⟨fun z => (by simp [isTy] at z), fun _ => ⟨fun z => ?_, fun z => ?_⟩⟩
    · have e : xs.length ≠ 2 := by omega
      rw [isNum_ne e] at h
      exact h
    · have e : xs.length = 2 := by omega
      match xs, e with
      | [x, y], _ =>
        simp_arith [fs_is_int]
        refine ⟨x, 1, rfl, by decide, y, 1, rfl, by decide, ?_⟩
        simp only [boolsD, Option.map_some]
        simp only [isNum] at h
        refine ⟨fun hf => ?_, fun ht => ?_⟩
        · have : (isInt x 1 && isInt y 1) = false := by
            revert hf
            cases isInt x 1 <;> cases isInt y 1 <;> simp
          rw [this, Bool.false_and] at h
          exact h
        · have h12 : isInt x 1 = true ∧ isInt y 1 = true := by simpa using ht
          obtain ⟨n, rfl, hn⟩ := isInt_some h12.1
          obtain ⟨d, rfl, hd⟩ := isInt_some h12.2
          refine ⟨n, d, rfl, by omega, by omega, rfl, rfl, ?_⟩
          have e : ((PyData.int ((Int.gcd n d : Nat) : Int)).eqv (PyData.int 1)) = decide (Int.gcd n d = 1) := by
            simp only [PyData.eqv]
            rw [Bool.eq_iff_iff]
            simp
            omega
          rw [e]
          rw [h12.1, h12.2] at h
          simpa using h
  | _ => simp_arith [b_is_number]; simpa [isTy, isNum] using h
section
variable {P : Program} {w : World} {K : Fg} {mg : Str → Option Value} {base : Heap}
theorem d_is_number (T : Tx w K mg) {cdv : Value} {A : Around} {outer : List Env} {s : Shared} {H : Hp} {E : XK} (hr : Room 1 (A.deeper (envOfC "is_number" (defScope st_is_number) s.heap.objs.size T.f_is_number cdv))) (hgd : (A.deeper (envOfC "is_number" (defScope st_is_number) s.heap.objs.size T.f_is_number cdv)).guards = some []) :
    PSs (cxOf CX0 P w K mg base N_is_number "is_number" (defScope st_is_number) T.f_is_number cdv A outer s H E).nox (defBody st_is_number) (upS K W0 b_is_number) :=
  (ss_cons (s_if (PW.pt (w_or (t_not (t_val (e_isi kit_tuple (by rfl) T.n_isinstance (e_var 0 (pv 0)) (c_ty (by rfl) T.n_tuple (by decide +kernel))))) (w_or (t_ne hr.units (e_len (by rfl) T.n_len (a_cons (e_var 0 (pv 0)) a_nil)) (e_glob (by rfl) T.c_PAIR_cells T.v_PAIR_cells T.r_PAIR_cells)) (w_or1 (t_not (t_val (e_all rfl (by rfl) T.n_all (a_cons (e_fz (e_lc (own := [("part", 1)]) rfl sc_is_number.nd (i_items (e_var 0 (pv 0))) (blkOk_by (own := [("part", 1)]) (N := N_is_number) (sc := defScope st_is_number) (by decide +kernel)) (fun _ _ _ _ _ => (gw_name rfl (pg_name (i := 1) sc_is_number.nd rfl (.inl rfl)) (by decide))) (fun _ _ _ _ _ => ts_yes) (fun _ _ _ _ _ => (e_call (ok_is_int T) (hr.mono (by decide)) hgd (by rfl) T.g_is_int T.F_is_int.kp T.b_is_int pass0 (a_cons (e_var 1 (pv 1)) (a_cons e_int a_nil)))))) a_nil)))))))) (ss_one (s_ret e_bl)) ss_nil)
    (ss_one (s_ret (e_eq hr.units (e_call (ok_common_divisor T) (hr.mono (by decide)) hgd (by rfl) T.g_common_divisor T.F_common_divisor.kp T.b_common_divisor pass0 (a_cons (e_ix (e_var 0 (pv 0)) e_int) (a_cons (e_ix (e_var 0 (pv 0)) e_int) a_nil))) e_int))))
theorem ok_is_number (T : Tx w K mg) : Fn P w K mg base CX0 2 T.f_is_number T.fd_is_number ["value"] (lift K 1 fs_is_number) := fn_data T.F_is_number sc_is_number b_is_number (fun _ _ _ _ _ _ hr hgd => d_is_number T hr hgd) p_is_number
end
def b_is_width : DS :=
  (dRet (dAndV (dCall 2 fs_is_int (dCons (dVar 0) (dCons (dC (.int 1)) dNil))) (dBin oLe (dVar 0) (dC (.int 100)))))
def isWid (v : Da) : Bool := isInt v 1 && (match v with | .int i => decide (i ≤ 100) | _ => false)
theorem isWid_int {w : Int} (h1 : 1 ≤ w) (h2 : w ≤ 100) : isWid (.int w) = true := by simp [isWid, isInt, h1, h2]
def fs_is_width : FSp := fun rs fu post => ∃ v, rs = [.val v] ∧ post (.val (.bool (isWid v))) fu
theorem p_is_width (rs : List Rv) (fu : Option Nat) (post : Rr → Option Nat → Prop) (hl : rs.length = 1) (h : fs_is_width rs fu post) : b_is_width ⟨fun g => post (.val .none) g.fu, fun r g => post r g.fu, fun _ => False, fun _ => False⟩ (ent N_is_width rs fu) := by
  obtain ⟨v, rfl, h⟩ := h
  simp_arith [b_is_width, fs_is_int]
  refine ⟨v, 1, rfl, fun ht => ?_, fun hf => ?_⟩
  · obtain ⟨n, rfl, hn⟩ := isInt_some ht
    simpa [isWid, ht] using h
  · simpa [isWid, hf] using h
section
variable {P : Program} {w : World} {K : Fg} {mg : Str → Option Value} {base : Heap}
theorem d_is_width (T : Tx w K mg) {cdv : Value} {A : Around} {outer : List Env} {s : Shared} {H : Hp} {E : XK} (hr : Room 1 (A.deeper (envOfC "is_width" (defScope st_is_width) s.heap.objs.size T.f_is_width cdv))) (hgd : (A.deeper (envOfC "is_width" (defScope st_is_width) s.heap.objs.size T.f_is_width cdv)).guards = some []) :
    PSs (cxOf CX0 P w K mg base N_is_width "is_width" (defScope st_is_width) T.f_is_width cdv A outer s H E).nox (defBody st_is_width) (upS K W0 b_is_width) :=
  (ss_one (s_ret (e_and (e_call (ok_is_int T) (hr.mono (by decide)) hgd (by rfl) T.g_is_int T.F_is_int.kp T.b_is_int pass0 (a_cons (e_var 0 (pv 0)) (a_cons e_int a_nil))) (e_one (e_le (e_var 0 (pv 0)) (e_glob (by rfl) T.c_MOST_WIDTH T.v_MOST_WIDTH T.r_MOST_WIDTH))))))
theorem ok_is_width (T : Tx w K mg) : Fn P w K mg base CX0 2 T.f_is_width T.fd_is_width ["value"] (lift K 1 fs_is_width) := fn_data T.F_is_width sc_is_width b_is_width (fun _ _ _ _ _ _ hr hgd => d_is_width T hr hgd) p_is_width
end
def b_check_number : DS :=
  (dIfS (dNotT (dTest (dCall 1 fs_is_number (dCons (dVar 0) dNil))))
    dNever
    dNext)
def fs_check_number : FSp := fun rs fu post => ∃ v, rs = [.val v] ∧ isNum v = true ∧ post (.val .none) fu
theorem p_check_number (rs : List Rv) (fu : Option Nat) (post : Rr → Option Nat → Prop) (hl : rs.length = 1) (h : fs_check_number rs fu post) : b_check_number ⟨fun g => post (.val .none) g.fu, fun r g => post r g.fu, fun _ => False, fun _ => False⟩ (ent N_check_number rs fu) := by
  obtain ⟨v, rfl, hv, h⟩ := h
  simp_arith [b_check_number, fs_is_number]
  refine ⟨v, rfl, fun z => ?_, fun _ => h⟩
  rw [hv] at z
  exact absurd z (by decide)
section
variable {P : Program} {w : World} {K : Fg} {mg : Str → Option Value} {base : Heap}
theorem d_check_number (T : Tx w K mg) {cdv : Value} {A : Around} {outer : List Env} {s : Shared} {H : Hp} {E : XK} (hr : Room 2 (A.deeper (envOfC "check_number" (defScope st_check_number) s.heap.objs.size T.f_check_number cdv))) (hgd : (A.deeper (envOfC "check_number" (defScope st_check_number) s.heap.objs.size T.f_check_number cdv)).guards = some []) :
    PSs (cxOf CX0 P w K mg base N_check_number "check_number" (defScope st_check_number) T.f_check_number cdv A outer s H E).nox (defBody st_check_number) (upS K W0 b_check_number) :=
  (ss_one (s_if (t_not (t_val (e_call (ok_is_number T) (hr.mono (by decide)) hgd (by rfl) T.g_is_number T.F_is_number.kp T.b_is_number pass0 (a_cons (e_var 0 (pv 0)) a_nil)))) (ss_one s_never) ss_nil))
theorem ok_check_number (T : Tx w K mg) : Fn P w K mg base CX0 3 T.f_check_number T.fd_check_number ["value"] (lift K 1 fs_check_number) := fn_data T.F_check_number sc_check_number b_check_number (fun _ _ _ _ _ _ hr hgd => d_check_number T hr hgd) p_check_number
end
def b_is_rule : DS :=
  (dRet (dAndV (dIsi "str" (dVar 0)) (dBin (fIn false) (dVar 0) (dC (.tuple [(.str "down"), (.str "half_down"), (.str "half_even"), (.str "half_up"), (.str "odd"), (.str "up")])))))
abbrev rulesD : List Da := [.str "down", .str "half_down", .str "half_even", .str "half_up", .str "odd", .str "up"]
def isRul (v : Da) : Bool := match v with
  | .str r => inD (.str r) rulesD
  | _ => false
theorem isRul_s (r : Ru) : isRul (.str r.s) = true := by cases r <;> decide +kernel
def fs_is_rule : FSp := fun rs fu post => ∃ v, rs = [.val v] ∧ post (.val (.bool (isRul v))) fu
theorem p_is_rule (rs : List Rv) (fu : Option Nat) (post : Rr → Option Nat → Prop) (hl : rs.length = 1) (h : fs_is_rule rs fu post) : b_is_rule ⟨fun g => post (.val .none) g.fu, fun r g => post r g.fu, fun _ => False, fun _ => False⟩ (ent N_is_rule rs fu) := by
  obtain ⟨v, rfl, h⟩ := h
  cases v with
  | str r =>
    simp_arith [b_is_rule]
    refine ⟨fun _ => h, fun z => (by simp [isTy] at z)⟩
  | _ => simp_arith [b_is_rule]; simpa [isTy, isRul] using h
section
variable {P : Program} {w : World} {K : Fg} {mg : Str → Option Value} {base : Heap}
theorem d_is_rule (T : Tx w K mg) {cdv : Value} {A : Around} {outer : List Env} {s : Shared} {H : Hp} {E : XK} (hr : Room 0 (A.deeper (envOfC "is_rule" (defScope st_is_rule) s.heap.objs.size T.f_is_rule cdv))) (hgd : (A.deeper (envOfC "is_rule" (defScope st_is_rule) s.heap.objs.size T.f_is_rule cdv)).guards = some []) :
    PSs (cxOf CX0 P w K mg base N_is_rule "is_rule" (defScope st_is_rule) T.f_is_rule cdv A outer s H E).nox (defBody st_is_rule) (upS K W0 b_is_rule) :=
  (ss_one (s_ret (e_and (e_isi kit_str (by rfl) T.n_isinstance (e_var 0 (pv 0)) (c_ty (by rfl) T.n_str (by decide +kernel))) (e_one (e_in (e_var 0 (pv 0)) (e_glob (by rfl) T.c_RULES T.v_RULES T.r_RULES))))))
theorem ok_is_rule (T : Tx w K mg) : Fn P w K mg base CX0 1 T.f_is_rule T.fd_is_rule ["value"] (lift K 1 fs_is_rule) := fn_data T.F_is_rule sc_is_rule b_is_rule (fun _ _ _ _ _ _ hr hgd => d_is_rule T hr hgd) p_is_rule
end
def b_is_step : DS :=
  (dRet (dAndV (dIsi "tuple" (dVar 0)) (dAndV (dBin fEq (dCB cLen (dCons (dVar 0) dNil)) (dC (.int 2))) (dAndV (dCall 1 fs_is_width (dCons (dIx (dVar 0) (dC (.int 0))) dNil)) (dCall 1 fs_is_rule (dCons (dIx (dVar 0) (dC (.int 1))) dNil))))))
def isStp : Da → Bool
  | .tuple [x, y] => isWid x && isRul y
  | _ => false
theorem isStp_ne {xs : List Da} (h : xs.length ≠ 2) : isStp (.tuple xs) = false := by
  match xs with
  | [] => rfl
  | [_] => rfl
  | [_, _] => exact absurd rfl h
  | _ :: _ :: _ :: _ => rfl
theorem isStp_st {s : Int × Ru} (h : 1 ≤ s.1 ∧ s.1 ≤ 100) : isStp (stD s) = true := by
  show (isWid (.int s.1) && isRul (.str s.2.s)) = true
  rw [isWid_int h.1 h.2, isRul_s]
  rfl
def fs_is_step : FSp := fun rs fu post => ∃ v, rs = [.val v] ∧ post (.val (.bool (isStp v))) fu
theorem p_is_step (rs : List Rv) (fu : Option Nat) (post : Rr → Option Nat → Prop) (hl : rs.length = 1) (h : fs_is_step rs fu post) : b_is_step ⟨fun g => post (.val .none) g.fu, fun r g => post r g.fu, fun _ => False, fun _ => False⟩ (ent N_is_step rs fu) := by
  obtain ⟨v, rfl, h⟩ := h
  cases v with
  | tuple xs =>
    simp_arith [b_is_step]
    refine ⟨fun _ => ⟨fun z => ?_, fun z => ?_⟩, fun z => (by simp [isTy] at z)⟩
    · have e : xs.length = 2 := by omega
      match xs, e with
      | [x, y], _ =>
        simp_arith [fs_is_width, fs_is_rule]
        refine ⟨x, rfl, fun ht => ⟨y, rfl, ?_⟩, fun hf => ?_⟩
        · simp only [isStp, ht, Bool.true_and] at h
          exact h
        · simp only [isStp, hf, Bool.false_and] at h
          exact h
    · have e : xs.length ≠ 2 := by omega
      rw [isStp_ne e] at h
      exact h
  | _ => simp_arith [b_is_step]; simpa [isTy, isStp] using h
section
variable {P : Program} {w : World} {K : Fg} {mg : Str → Option Value} {base : Heap}
theorem d_is_step (T : Tx w K mg) {cdv : Value} {A : Around} {outer : List Env} {s : Shared} {H : Hp} {E : XK} (hr : Room 2 (A.deeper (envOfC "is_step" (defScope st_is_step) s.heap.objs.size T.f_is_step cdv))) (hgd : (A.deeper (envOfC "is_step" (defScope st_is_step) s.heap.objs.size T.f_is_step cdv)).guards = some []) :
    PSs (cxOf CX0 P w K mg base N_is_step "is_step" (defScope st_is_step) T.f_is_step cdv A outer s H E).nox (defBody st_is_step) (upS K W0 b_is_step) :=
  (ss_one (s_ret (e_and (e_isi kit_tuple (by rfl) T.n_isinstance (e_var 0 (pv 0)) (c_ty (by rfl) T.n_tuple (by decide +kernel))) (e_and (e_eq hr.units (e_len (by rfl) T.n_len (a_cons (e_var 0 (pv 0)) a_nil)) (e_glob (by rfl) T.c_PAIR_chains T.v_PAIR_chains T.r_PAIR_chains)) (e_and (e_call (ok_is_width T) (hr.mono (by decide)) hgd (by rfl) T.g_is_width T.F_is_width.kp T.b_is_width pass0 (a_cons (e_ix (e_var 0 (pv 0)) e_int) a_nil)) (e_one (e_call (ok_is_rule T) (hr.mono (by decide)) hgd (by rfl) T.g_is_rule T.F_is_rule.kp T.b_is_rule pass0 (a_cons (e_ix (e_var 0 (pv 0)) e_int) a_nil))))))))
theorem ok_is_step (T : Tx w K mg) : Fn P w K mg base CX0 3 T.f_is_step T.fd_is_step ["value"] (lift K 1 fs_is_step) := fn_data T.F_is_step sc_is_step b_is_step (fun _ _ _ _ _ _ hr hgd => d_is_step T hr hgd) p_is_step
end
def b_is_chain : DS :=
  (dRet (dAndV (dIsi "tuple" (dVar 0)) (dAndV (dChain oLe oLe (dC (.int 1)) (dCB cLen (dCons (dVar 0) dNil)) (dC (.int 12))) (dCB cAll (dCons (dFz (dLc [1] (dItems (dVar 0)) (dN 1) dYes (dCall 1 fs_is_step (dCons (dVar 1) dNil)))) dNil)))))
def isChn : Da → Bool
  | .tuple xs => decide (1 ≤ (xs.length : Int)) && decide ((xs.length : Int) ≤ 12) && xs.all isStp
  | _ => false
theorem isChn_ch {c : List (Int × Ru)} (h : c ≠ []) (hl : c.length ≤ 12) (hw : Wds c) : isChn (chD c) = true := by
  have h0 : 0 < c.length := List.length_pos_iff.mpr h
  simp only [isChn, chD, Bool.and_eq_true, decide_eq_true_eq, List.length_map]
  refine ⟨⟨by omega, by omega⟩, ?_⟩
  rw [List.all_map, List.all_eq_true]
  exact fun s hs => isStp_st (hw s hs)
theorem boolsD_map (f : Da → Bool) : ∀ ds : List Da, boolsD (ds.map fun d => .bool (f d)) = some (ds.map f)
  | [] => rfl
  | d :: ds => by
    have := boolsD_map f ds
    simp [boolsD, this]
def fs_is_chain : FSp := fun rs fu post => ∃ v, rs = [.val v] ∧ post (.val (.bool (isChn v))) fu
theorem p_is_chain (rs : List Rv) (fu : Option Nat) (post : Rr → Option Nat → Prop) (hl : rs.length = 1) (h : fs_is_chain rs fu post) : b_is_chain ⟨fun g => post (.val .none) g.fu, fun r g => post r g.fu, fun _ => False, fun _ => False⟩ (ent N_is_chain rs fu) := by
  obtain ⟨v, rfl, h⟩ := h
  cases v with
  | tuple xs =>
    simp_arith [b_is_chain]
    refine ⟨fun _ => ?_, fun z => (by simp [isTy] at z)⟩
    by_cases h1 : 1 ≤ (xs.length : Int)
    · by_cases h2 : (xs.length : Int) ≤ 12
      · rw [decide_eq_true h1]
        refine ⟨fun _ => ?_, fun z => absurd h2 (by simpa using z)⟩
        refine lc_map (fun x => .bool (isStp x)) (fun x hx R hR => ?_) (by simp only [List.length_nil]; omega) ?_
        · simp_arith [fs_is_step]
          exact ⟨x, rfl, hR _ rfl⟩
        · rw [List.nil_append, boolsD_map]
          simp only [isChn, h1, h2, decide_true, Bool.true_and] at h
          show post (.val (.bool ((List.map isStp xs).all id))) fu
          rw [List.all_map]
          exact h
      · rw [decide_eq_true h1]
        refine ⟨fun z => absurd (by simpa using z) h2, fun _ => ?_⟩
        simp only [isChn, h2, decide_false, Bool.and_false, Bool.false_and] at h
        exact h
    · rw [decide_eq_false h1]
      simp_arith [Nat.zero_add]
      simp only [isChn, h1, decide_false, Bool.and_false, Bool.false_and] at h
      exact h
  | _ => simp_arith [b_is_chain]; simpa [isTy, isChn] using h
section
variable {P : Program} {w : World} {K : Fg} {mg : Str → Option Value} {base : Heap}
theorem d_is_chain (T : Tx w K mg) {cdv : Value} {A : Around} {outer : List Env} {s : Shared} {H : Hp} {E : XK} (hr : Room 3 (A.deeper (envOfC "is_chain" (defScope st_is_chain) s.heap.objs.size T.f_is_chain cdv))) (hgd : (A.deeper (envOfC "is_chain" (defScope st_is_chain) s.heap.objs.size T.f_is_chain cdv)).guards = some []) :
    PSs (cxOf CX0 P w K mg base N_is_chain "is_chain" (defScope st_is_chain) T.f_is_chain cdv A outer s H E).nox (defBody st_is_chain) (upS K W0 b_is_chain) :=
  (ss_one (s_ret (e_and (e_isi kit_tuple (by rfl) T.n_isinstance (e_var 0 (pv 0)) (c_ty (by rfl) T.n_tuple (by decide +kernel))) (e_and (e_lele e_int (e_len (by rfl) T.n_len (a_cons (e_var 0 (pv 0)) a_nil)) (e_glob (by rfl) T.c_MOST_STEPS T.v_MOST_STEPS T.r_MOST_STEPS)) (e_one (e_all rfl (by rfl) T.n_all (a_cons (e_fz (e_lc (own := [("step", 1)]) rfl sc_is_chain.nd (i_items (e_var 0 (pv 0))) (blkOk_by (own := [("step", 1)]) (N := N_is_chain) (sc := defScope st_is_chain) (by decide +kernel)) (fun _ _ _ _ _ => (gw_name rfl (pg_name (i := 1) sc_is_chain.nd rfl (.inl rfl)) (by decide))) (fun _ _ _ _ _ => ts_yes) (fun _ _ _ _ _ => (e_call (ok_is_step T) (hr.mono (by decide)) hgd (by rfl) T.g_is_step T.F_is_step.kp T.b_is_step pass0 (a_cons (e_var 1 (pv 1)) a_nil))))) a_nil)))))))
theorem ok_is_chain (T : Tx w K mg) : Fn P w K mg base CX0 4 T.f_is_chain T.fd_is_chain ["value"] (lift K 1 fs_is_chain) := fn_data T.F_is_chain sc_is_chain b_is_chain (fun _ _ _ _ _ _ hr hgd => d_is_chain T hr hgd) p_is_chain
end
def b_check_chain : DS :=
  (dIfS (dNotT (dTest (dCall 1 fs_is_chain (dCons (dVar 0) dNil))))
    dNever
    dNext)
def fs_check_chain : FSp := fun rs fu post => ∃ v, rs = [.val v] ∧ isChn v = true ∧ post (.val .none) fu
theorem p_check_chain (rs : List Rv) (fu : Option Nat) (post : Rr → Option Nat → Prop) (hl : rs.length = 1) (h : fs_check_chain rs fu post) : b_check_chain ⟨fun g => post (.val .none) g.fu, fun r g => post r g.fu, fun _ => False, fun _ => False⟩ (ent N_check_chain rs fu) := by
  obtain ⟨v, rfl, hv, h⟩ := h
  simp_arith [b_check_chain, fs_is_chain]
  refine ⟨v, rfl, fun z => ?_, fun _ => h⟩
  rw [hv] at z
  exact absurd z (by decide)
section
variable {P : Program} {w : World} {K : Fg} {mg : Str → Option Value} {base : Heap}
theorem d_check_chain (T : Tx w K mg) {cdv : Value} {A : Around} {outer : List Env} {s : Shared} {H : Hp} {E : XK} (hr : Room 4 (A.deeper (envOfC "check_chain" (defScope st_check_chain) s.heap.objs.size T.f_check_chain cdv))) (hgd : (A.deeper (envOfC "check_chain" (defScope st_check_chain) s.heap.objs.size T.f_check_chain cdv)).guards = some []) :
    PSs (cxOf CX0 P w K mg base N_check_chain "check_chain" (defScope st_check_chain) T.f_check_chain cdv A outer s H E).nox (defBody st_check_chain) (upS K W0 b_check_chain) :=
  (ss_one (s_if (t_not (t_val (e_call (ok_is_chain T) (hr.mono (by decide)) hgd (by rfl) T.g_is_chain T.F_is_chain.kp T.b_is_chain pass0 (a_cons (e_var 0 (pv 0)) a_nil)))) (ss_one s_never) ss_nil))
theorem ok_check_chain (T : Tx w K mg) : Fn P w K mg base CX0 5 T.f_check_chain T.fd_check_chain ["value"] (lift K 1 fs_check_chain) := fn_data T.F_check_chain sc_check_chain b_check_chain (fun _ _ _ _ _ _ hr hgd => d_check_chain T hr hgd) p_check_chain
end
def b_format_number : DS :=
  (dSeq (dDrop (dCall 1 fs_check_number (dCons (dVar 0) dNil)))
  (dSeq (dAsg (dVar 0) (dT 2 (dTc (dN 1) (dTc (dN 2) dTn))))
  (dRet (dIf (dTest (dBin fEq (dVar 2) (dC (.int 1)))) (dCB cStrI (dCons (dVar 1) dNil)) (dFstr [(dFmt (dVar 1)), (dFmt (dC (.str "/"))), (dFmt (dVar 2))])))))
/-- the text of a number -/
def numT (n d : Int) : Str := if d = 1 then Str.ofString (toString n) else Str.empty ++ Str.ofString (toString n) ++ "/" ++ Str.ofString (toString d)
theorem int_len {n : Int} (h : Bn 1000 n) : (Str.ofString (toString n)).length ≤ 1921 :=
  szX_ok (.int n) rfl (decide_eq_true (showI (h.mono (by decide))))
theorem emp_len : Str.empty.length = 0 := by decide +kernel
def fs_format_number : FSp := fun rs fu post => ∃ n d : Int, rs = [.val (num n d)] ∧ isNum (num n d) = true ∧ Bn 1000 n ∧ Bn 1000 d ∧ post (.val (.str (numT n d))) fu
theorem p_format_number (rs : List Rv) (fu : Option Nat) (post : Rr → Option Nat → Prop) (hl : rs.length = 1) (h : fs_format_number rs fu post) : b_format_number ⟨fun g => post (.val .none) g.fu, fun r g => post r g.fu, fun _ => False, fun _ => False⟩ (ent N_format_number rs fu) := by
  obtain ⟨n, d, rfl, hn, bn, bd, h⟩ := h
  simp_arith [b_format_number, fs_check_number, num]
  have ln := int_len bn
  have ld := int_len bd
  have l1 : (Str.ofString "/").length = 1 := by decide +kernel
  have an := showI (bn.mono (m := 1900) (by decide))
  have ad := showI (bd.mono (m := 1900) (by decide))
  unfold numT at h
  refine ⟨_, rfl, hn, fun e => ⟨an, by rw [if_pos e] at h; exact h⟩, fun e => ?_⟩
  rw [if_neg e] at h
  simp only [Str.length_append, emp_len, l1]
  rw [sizeLine_eq]
  exact ⟨an, by omega, by decide, by omega, ad, by omega, h⟩
section
variable {P : Program} {w : World} {K : Fg} {mg : Str → Option Value} {base : Heap}
theorem d_format_number (T : Tx w K mg) {cdv : Value} {A : Around} {outer : List Env} {s : Shared} {H : Hp} {E : XK} (hr : Room 3 (A.deeper (envOfC "format_number" (defScope st_format_number) s.heap.objs.size T.f_format_number cdv))) (hgd : (A.deeper (envOfC "format_number" (defScope st_format_number) s.heap.objs.size T.f_format_number cdv)).guards = some []) :
    PSs (cxOf CX0 P w K mg base N_format_number "format_number" (defScope st_format_number) T.f_format_number cdv A outer s H E).nox (defBody st_format_number) (upS K W0 b_format_number) :=
  (ss_cons (s_expr (e_call (ok_check_number T) (hr.mono (by decide)) hgd (by rfl) T.g_check_number T.F_check_number.kp T.b_check_number pass0 (a_cons (e_var 0 (pv 0)) a_nil)))
    (ss_cons (s_asg (e_var 0 (pv 0)) (g_tup rfl (gs_cons (g_name (pg_name (i := 1) sc_format_number.nd rfl (.inl rfl))) (gs_cons (g_name (pg_name (i := 2) sc_format_number.nd rfl (.inl rfl))) gs_nil))))
    (ss_one (s_ret (e_if (t_eq hr.units (e_var 2 (pv 2)) e_int) (e_strI (by rfl) T.n_str (a_cons (e_var 1 (pv 1)) a_nil)) (e_fstr (ts := [(dFmt (dVar 1)), (dFmt (dC (.str "/"))), (dFmt (dVar 2))]) (pjC (e_fmt (e_var 1 (pv 1))) (pjC (e_fmt (e_glob (by rfl) T.c_SLASH T.v_SLASH T.r_SLASH)) (pjC (e_fmt (e_var 2 (pv 2))) pjN)))))))))
theorem ok_format_number (T : Tx w K mg) : Fn P w K mg base CX0 4 T.f_format_number T.fd_format_number ["number"] (lift K 1 fs_format_number) := fn_data T.F_format_number sc_format_number b_format_number (fun _ _ _ _ _ _ hr hgd => d_format_number T hr hgd) p_format_number
end
def b_format_chain : DS :=
  (dSeq (dDrop (dCall 1 fs_check_chain (dCons (dVar 0) dNil)))
  (dRet (dJoin (dC (.str ", ")) (dFz (dLc [1, 2] (dItems (dVar 0)) (dT 2 (dTc (dN 1) (dTc (dN 2) dTn))) dYes (dFstr [(dFmt (dVar 1)), (dC (.str " ")), (dFmt (dVar 2))]))))))
def stpT (s : Int × Ru) : Str := Str.empty ++ Str.ofString (toString s.1) ++ " " ++ s.2.s
/-- the text of a chain -/
def chnT (c : List (Int × Ru)) : Str := Txt.join ", " (c.map stpT)
def sdT : Da → Da
  | .tuple [.int n, .str r] => .str (Str.empty ++ Str.ofString (toString n) ++ " " ++ r)
  | _ => .none
def fs_format_chain : FSp := fun rs fu post => ∃ c : List (Int × Ru), rs = [.val (chD c)] ∧ Chn1 c ∧ post (.val (.str (chnT c))) fu
theorem ru_len (r : Ru) : r.s.length ≤ 10 := by cases r <;> decide +kernel
theorem stpT_len {s : Int × Ru} (h : 1 ≤ s.1 ∧ s.1 ≤ 100) : (stpT s).length ≤ 2000 := by
  have l1 : (Str.ofString " ").length = 1 := by decide +kernel
  have := int_len (n := s.1) (Bn.small (by omega) (by omega) (by decide))
  have := ru_len s.2
  unfold stpT
  simp only [Str.length_append, emp_len, l1]
  omega
theorem p_format_chain (rs : List Rv) (fu : Option Nat) (post : Rr → Option Nat → Prop) (hl : rs.length = 1) (h : fs_format_chain rs fu post) : b_format_chain ⟨fun g => post (.val .none) g.fu, fun r g => post r g.fu, fun _ => False, fun _ => False⟩ (ent N_format_chain rs fu) := by
  obtain ⟨c, rfl, hc, h⟩ := h
  simp_arith [b_format_chain, fs_check_chain, chD]
  have l1 : (Str.ofString " ").length = 1 := by decide +kernel
  refine ⟨_, rfl, isChn_ch hc.ne hc.len hc.w, lc_mapT sdT (fun x hx R N hR => ?_) (by rw [List.length_map, List.length_nil]; have := hc.len; omega) ?_⟩
  · obtain ⟨s, hs, rfl⟩ := List.mem_map.mp hx
    have hw := hc.w s hs
    have ln := int_len (n := s.1) (Bn.small (by omega) (by omega) (by decide))
    have ru := ru_len s.2
    have an := showI (n := s.1) ((Bn.small (m := 1900) (by omega) (by omega) (by decide)))
    simp_arith [stD]
    simp only [Str.length_append, emp_len, l1]
    rw [sizeLine_eq]
    exact ⟨an, by omega, by omega, by omega, by omega, hR _ rfl⟩
  · have e : [] ++ (c.map stD).map sdT = (c.map stpT).map PyData.str := by
      rw [List.nil_append, List.map_map, List.map_map]
      rfl
    rw [e]
    refine ⟨c.map stpT, rfl, ?_, h⟩
    have key : ∀ c : List (Int × Ru), Wds c → ((c.map stpT).map (·.length)).sum ≤ 2000 * c.length := fun c => by
      induction c with
      | nil => exact fun _ => Nat.le_refl _
      | cons s c ih =>
        intro hw
        have h1 := ih hw.tl
        have h2 := stpT_len hw.hd
        simp only [List.map_cons, List.sum_cons, List.length_cons]
        omega
    have k1 := key c hc.w
    have k2 := hc.len
    have k3 : (Str.ofString ", ").length = 2 := by decide +kernel
    rw [List.length_map, k3]
    omega
section
variable {P : Program} {w : World} {K : Fg} {mg : Str → Option Value} {base : Heap}
theorem d_format_chain (T : Tx w K mg) {cdv : Value} {A : Around} {outer : List Env} {s : Shared} {H : Hp} {E : XK} (hr : Room 5 (A.deeper (envOfC "format_chain" (defScope st_format_chain) s.heap.objs.size T.f_format_chain cdv))) (hgd : (A.deeper (envOfC "format_chain" (defScope st_format_chain) s.heap.objs.size T.f_format_chain cdv)).guards = some []) :
    PSs (cxOf CX0 P w K mg base N_format_chain "format_chain" (defScope st_format_chain) T.f_format_chain cdv A outer s H E).nox (defBody st_format_chain) (upS K W0 b_format_chain) :=
  (ss_cons (s_expr (e_call (ok_check_chain T) (hr.mono (by decide)) hgd (by rfl) T.g_check_chain T.F_check_chain.kp T.b_check_chain pass0 (a_cons (e_var 0 (pv 0)) a_nil)))
    (ss_one (s_ret (e_join (e_glob (by rfl) T.c_BETWEEN_STEPS T.v_BETWEEN_STEPS T.r_BETWEEN_STEPS) (e_fz (e_lc (own := [("width", 1), ("rule", 2)]) rfl sc_format_chain.nd (i_items (e_var 0 (pv 0))) (blkOk_by (own := [("width", 1), ("rule", 2)]) (N := N_format_chain) (sc := defScope st_format_chain) (by decide +kernel)) (fun _ _ _ _ _ => (gw_tup rfl rfl (gsw_cons (gw_name rfl (pg_name (i := 1) sc_format_chain.nd rfl (.inl rfl)) (by decide)) (gsw_cons (gw_name rfl (pg_name (i := 2) sc_format_chain.nd rfl (.inl rfl)) (by decide)) gsw_nil)))) (fun _ _ _ _ _ => ts_yes) (fun _ _ _ _ _ => (e_fstr (ts := [(dFmt (dVar 1)), (dC (.str " ")), (dFmt (dVar 2))]) (pjC (e_fmt (e_var 1 (pv 1))) (pjC e_str (pjC (e_fmt (e_var 2 (pv 2))) pjN)))))))))))
theorem ok_format_chain (T : Tx w K mg) : Fn P w K mg base CX0 6 T.f_format_chain T.fd_format_chain ["chain"] (lift K 1 fs_format_chain) := fn_data T.F_format_chain sc_format_chain b_format_chain (fun _ _ _ _ _ _ hr hgd => d_format_chain T hr hgd) p_format_chain
end
def b_int_in : DS :=
  (dSeq (dIfS (dOrT (dTest (dBin fEq (dVar 0) (dC (.str "")))) (dOrT (dNotT (dTest (dCB cAll (dCons (dFz (dLc [1] (dLetters (dVar 0)) (dN 1) dYes (dBin (fInC false) (dVar 1) (dC (.str "0123456789"))))) dNil)))) (dAndT (dTest (dBin oGt (dCB cLen (dCons (dVar 0) dNil)) (dC (.int 1)))) (dTest (dBin fEq (dIxS (dVar 0) (dC (.int 0))) (dC (.str "0")))))))
    (dRet (dC .none))
    dNext)
  (dRet (dCB cIntS (dCons (dVar 0) dNil))))
def fs_int_in : FSp := fun rs fu post => ∃ w : Str, rs = [.val (.str w)] ∧ TX 390 w ∧ post (.val (optI (intIn w))) fu
theorem p_int_in (rs : List Rv) (fu : Option Nat) (post : Rr → Option Nat → Prop) (hl : rs.length = 1) (h : fs_int_in rs fu post) : b_int_in ⟨fun g => post (.val .none) g.fu, fun r g => post r g.fu, fun _ => False, fun _ => False⟩ (ent N_int_in rs fu) := by
  obtain ⟨w, rfl, ht, h⟩ := h
  simp_arith [b_int_in]
  have no : (sg w).isEmpty = true ∨ dgW w = false ∨ (1 < w.length ∧ (sg w).head? = some 48) → post (.val .none) fu := fun q => by
    have : intIn w = none := by
      unfold intIn
      rw [if_pos]
      rcases q with q | q | ⟨q1, q2⟩
      · simp [q]
      · simp [q]
      · simp [q1, q2]
    rw [this] at h
    exact h
  refine ⟨ht.shaped, by decide +kernel, fun e => no (.inl ((sg_empty w).mp e)), fun ne => ?_⟩
  have e0 : (sg w).isEmpty = false := by
    cases q : (sg w).isEmpty with
    | false => rfl
    | true => exact absurd ((sg_empty w).mpr q) ne
  refine lc_map dgF (fun x hx R hR => ?_) (by unfold lettersD; rw [List.length_map, List.length_nil, Nat.zero_add]; exact Nat.le_trans (Nat.le_of_eq (sg_len w)) ht.fits.2.2) ?_
  · unfold lettersD at hx
    obtain ⟨c, hc, rfl⟩ := List.mem_map.mp hx
    simp_arith [Nat.zero_add]
    exact ⟨c, rfl, hR _ rfl⟩
  · rw [List.nil_append, dg_letters]
    show (((sg w).map isDg).all id = false → _) ∧ (((sg w).map isDg).all id = true → _)
    rw [dg_all]
    refine ⟨fun q => no (.inr (.inl q)), fun q => ?_⟩
    have hw := ht.word q
    have fin : ¬(1 < w.length ∧ (sg w).head? = some 48) → match intText? w with
      | some n => w.length ≤ 640 ∧ post (Rr.val (PyData.int n)) fu
      | none => False := fun z => by
      rw [int_text q e0 (by omega)]
      refine ⟨by omega, ?_⟩
      have : intIn w = some ((PySem.NumText.digitsVal (sg w) : Nat) : Int) := by
        unfold intIn
        rw [if_neg]
        simp only [e0, q, Bool.false_or, Bool.not_true, Bool.and_eq_true, decide_eq_true_eq]
        exact z
      rw [this] at h
      exact h
    obtain ⟨c, c1, c2⟩ := sg_first e0
    refine ⟨ht.fits.1, fun l1 => ⟨ht.fits.1, c, c1, ?_, by decide +kernel, fun e => ?_, fun e => ?_⟩, fun l1 => fin fun z => l1 (by omega)⟩
    · have hc : c < 128 := ht.asc c (List.mem_of_head? c2)
      have : PyData.strOk ⟨#[c]⟩ = true := by
        show (#[c] : Array Nat).all (fun c => decide (c < 0x110000)) = true
        simp
        omega
      simp [SeqAt.shaped, PyData.canLay0, PyData.depth, this]
    · rw [str_zero] at e
      exact no (.inr (.inr ⟨by omega, by rw [c2, e]⟩))
    · exact fin fun z => e (str_zero.mpr (by
        have := z.2
        rw [c2] at this
        injection this))
section
variable {P : Program} {w : World} {K : Fg} {mg : Str → Option Value} {base : Heap}
theorem d_int_in (T : Tx w K mg) {cdv : Value} {A : Around} {outer : List Env} {s : Shared} {H : Hp} {E : XK} (hr : Room 0 (A.deeper (envOfC "int_in" (defScope st_int_in) s.heap.objs.size T.f_int_in cdv))) (hgd : (A.deeper (envOfC "int_in" (defScope st_int_in) s.heap.objs.size T.f_int_in cdv)).guards = some []) :
    PSs (cxOf CX0 P w K mg base N_int_in "int_in" (defScope st_int_in) T.f_int_in cdv A outer s H E).nox (defBody st_int_in) (upS K W0 b_int_in) :=
  (ss_cons (s_if (PW.pt (w_or (t_eq hr.units (e_var 0 (pv 0)) e_str) (w_or (t_not (t_val (e_all rfl (by rfl) T.n_all (a_cons (e_fz (e_lc (own := [("character", 1)]) rfl sc_int_in.nd (i_letters (e_var 0 (pv 0))) (blkOk_by (own := [("character", 1)]) (N := N_int_in) (sc := defScope st_int_in) (by decide +kernel)) (fun _ _ _ _ _ => (gw_name rfl (pg_name (i := 1) sc_int_in.nd rfl (.inl rfl)) (by decide))) (fun _ _ _ _ _ => ts_yes) (fun _ _ _ _ _ => (e_inC (e_var 1 (pv 1)) (e_glob (by rfl) T.c_DIGITS T.v_DIGITS T.r_DIGITS))))) a_nil)))) (w_or1 (PW.pt (w_and (t_gt (e_len (by rfl) T.n_len (a_cons (e_var 0 (pv 0)) a_nil)) e_int) (w_and1 (t_eq hr.units (e_ixS (e_var 0 (pv 0)) e_int) e_str)))))))) (ss_one (s_ret e_non)) ss_nil)
    (ss_one (s_ret (e_tointS (by rfl) T.n_int (a_cons (e_var 0 (pv 0)) a_nil)))))
theorem ok_int_in (T : Tx w K mg) : Fn P w K mg base CX0 1 T.f_int_in T.fd_int_in ["word"] (lift K 1 fs_int_in) := fn_data T.F_int_in sc_int_in b_int_in (fun _ _ _ _ _ _ hr hgd => d_int_in T hr hgd) p_int_in
end
def b_number_in : DS :=
  (dSeq (dSetL 1 (dLc [3] (dItems (dSplit (dVar 0) (dC (.str "/")))) (dN 3) dYes (dCall 1 fs_int_in (dCons (dVar 3) dNil))))
  (dSeq (dIfS (dOrT (dTest (dBin (fIn false) (dC .none) (dVar 1))) (dOrT (dTest (dBin oGt (dCB cLen (dCons (dVar 1) dNil)) (dC (.int 2)))) (dAndT (dTest (dBin fEq (dCB cLen (dCons (dVar 1) dNil)) (dC (.int 2)))) (dTest (dBin fEq (dIx (dVar 1) (dC (.int 1))) (dC (.int 1)))))))
    (dRet (dC .none))
    dNext)
  (dSeq (dAsg (dTup (dCons (dIx (dVar 1) (dC (.int 0))) (dCons (dIf (dTest (dBin fEq (dCB cLen (dCons (dVar 1) dNil)) (dC (.int 2)))) (dIx (dVar 1) (dC (.int 1))) (dC (.int 1))) dNil))) (dN 2))
  (dRet (dIf (dTest (dCall 1 fs_is_number (dCons (dVar 2) dNil))) (dVar 2) (dC .none))))))
/-- the number of a text, by what its words write -/
def numP : List (Option Int) → Option (Int × Int)
  | [some a] => if isNum (num a 1) = true then some (a, 1) else none
  | [some a, some b] => if b ≠ 1 ∧ isNum (num a b) = true then some (a, b) else none
  | _ => none
def numIn (t : Str) : Option (Int × Int) := numP ((Txt.split t "/").map intIn)
def numD : Option (Int × Int) → Da
  | none => .none
  | some p => num p.1 p.2
def inF : Da → Da
  | .str w => optI (intIn w)
  | _ => .none
theorem none_in : ∀ P : List (Option Int), inD .none (P.map optI) = P.any Option.isNone
  | [] => rfl
  | none :: P => by
    unfold inD
    rw [List.map_cons, List.any_cons, List.any_cons]
    rfl
  | some n :: P => by
    have ih := none_in P
    unfold inD at ih ⊢
    rw [List.map_cons, List.any_cons, List.any_cons, ih]
    show (PyData.eqv (.int n) .none || _) = _
    rw [show PyData.eqv (.int n) .none = false by simp [PyData.eqv]]
    rfl
theorem flat_opt (P : List (Option Int)) : (P.map optI).all flatD = true := by
  rw [List.all_map, List.all_eq_true]
  intro x _
  cases x <;> rfl
theorem numP_none {P : List (Option Int)} (h : P.any Option.isNone = true ∨ 2 < P.length) : numP P = none := by
  match P with
  | [] => rfl
  | [none] => rfl
  | [some a] => rcases h with h | h <;> simp at h
  | [none, _] => rfl
  | [some _, none] => rfl
  | [some a, some b] => rcases h with h | h <;> simp at h
  | a :: b :: _ :: _ => cases a <;> cases b <;> rfl
def fs_number_in : FSp := fun rs fu post => ∃ t : Str, rs = [.val (.str t)] ∧ TX 390 t ∧ post (.val (numD (numIn t))) fu
theorem p_number_in (rs : List Rv) (fu : Option Nat) (post : Rr → Option Nat → Prop) (hl : rs.length = 1) (h : fs_number_in rs fu post) : b_number_in ⟨fun g => post (.val .none) g.fu, fun r g => post r g.fu, fun _ => False, fun _ => False⟩ (ent N_number_in rs fu) := by
  obtain ⟨t, rfl, ht, h⟩ := h
  simp_arith [b_number_in]
  have len : (Txt.split t "/").length ≤ 1000000 := by
    have := PyProof.Rows.split_le t "/"
    have := ht.len
    omega
  refine ⟨by decide +kernel, ht.fits.2.1, lc_map inF (fun x hx R hR => ?_) (by rw [List.length_map, List.length_nil, Nat.zero_add]; exact len) ?_⟩
  · obtain ⟨w, hw, rfl⟩ := List.mem_map.mp hx
    simp_arith [fs_int_in]
    exact ⟨w, rfl, ht.part hw, hR _ rfl⟩
  · have e : [] ++ ((Txt.split t "/").map PyData.str).map inF = ((Txt.split t "/").map intIn).map optI := by
      rw [List.nil_append, List.map_map, List.map_map]
      rfl
    rw [e]
    have hp : 1 ≤ ((Txt.split t "/").map intIn).length := by rw [List.length_map]; exact PyProof.Rows.split_pos t "/"
    unfold numIn at h
    have nn : ∀ q ∈ (Txt.split t "/").map intIn, ∀ n, q = some n → 0 ≤ n := fun q hq n e => by
      obtain ⟨w, _, rfl⟩ := List.mem_map.mp hq
      exact intIn_nn e
    generalize (Txt.split t "/").map intIn = P at h hp nn ⊢
    rw [none_in]
    refine ⟨flat_opt P, fun q => by rw [numP_none (.inl q)] at h; exact h, fun q => ?_⟩
    rw [List.length_map]
    refine ⟨fun l2 => by rw [numP_none (.inr (by omega))] at h; exact h, fun l2 => ?_⟩
    match P, hp with
    | [some a], _ =>
      simp_arith [fs_is_number, optI]
      refine ⟨fun z => absurd z (by decide), fun _ => ⟨fun z => absurd z (by decide), fun _ => ⟨_, rfl, fun e => ?_, fun e => ?_⟩⟩⟩
      · have : numP [some a] = some (a, 1) := if_pos e
        rw [this] at h
        exact h
      · have : numP [some a] = none := if_neg (by rw [show isNum (num a 1) = false from e]; decide)
        rw [this] at h
        exact h
    | [some a, some b], _ =>
      simp_arith [fs_is_number, optI]
      have no : ¬(b ≠ 1 ∧ isNum (num a b) = true) → post (.val .none) fu := fun z => by
        have : numP [some a, some b] = none := if_neg z
        rw [this] at h
        exact h
      refine ⟨fun _ => ⟨fun e => no fun z => z.1 e, fun e => ⟨fun _ => ⟨_, rfl, fun e2 => ?_, fun e2 => no fun z => ?_⟩, fun z => absurd rfl z⟩⟩, fun z => absurd rfl z⟩
      · have : numP [some a, some b] = some (a, b) := if_pos ⟨e, e2⟩
        rw [this] at h
        exact h
      · have z2 := z.2
        rw [show isNum (num a b) = false from e2] at z2
        cases z2
    | [none], _ => simp at q
    | [none, _], _ => simp at q
    | [some _, none], _ => simp at q
    | _ :: _ :: _ :: _, _ =>
      simp only [List.length_cons] at l2
      omega
section
variable {P : Program} {w : World} {K : Fg} {mg : Str → Option Value} {base : Heap}
theorem d_number_in (T : Tx w K mg) {cdv : Value} {A : Around} {outer : List Env} {s : Shared} {H : Hp} {E : XK} (hr : Room 2 (A.deeper (envOfC "number_in" (defScope st_number_in) s.heap.objs.size T.f_number_in cdv))) (hgd : (A.deeper (envOfC "number_in" (defScope st_number_in) s.heap.objs.size T.f_number_in cdv)).guards = some []) :
    PSs (cxOf CX0 P w K mg base N_number_in "number_in" (defScope st_number_in) T.f_number_in cdv A outer s H E).nox (defBody st_number_in) (upS K W0 b_number_in) :=
  (ss_cons (s_setLc (i := 1) (own := [("word", 3)]) rfl sc_number_in.nd rfl rfl (sw_true rfl rfl rfl (by decide +kernel)) (i_items (e_split (e_var 0 (pv 0)) (e_glob (by rfl) T.c_SLASH T.v_SLASH T.r_SLASH))) (blkOk_by (own := [("word", 3)]) (N := N_number_in) (sc := defScope st_number_in) (by decide +kernel)) (fun _ _ _ _ _ => (gw_name rfl (pg_name (i := 3) sc_number_in.nd rfl (.inl rfl)) (by decide))) (fun _ _ _ _ _ => ts_yes) (fun _ _ _ _ _ => (e_call (ok_int_in T) (hr.mono (by decide)) hgd (by rfl) T.g_int_in T.F_int_in.kp T.b_int_in pass0 (a_cons (e_var 3 (pv 3)) a_nil))))
    (ss_cons (s_if (PW.pt (w_or (t_in e_non (e_var 1 (pv 1))) (w_or (t_gt (e_len (by rfl) T.n_len (a_cons (e_var 1 (pv 1)) a_nil)) e_int) (w_or1 (PW.pt (w_and (t_eq hr.units (e_len (by rfl) T.n_len (a_cons (e_var 1 (pv 1)) a_nil)) e_int) (w_and1 (t_eq hr.units (e_ix (e_var 1 (pv 1)) e_int) e_int)))))))) (ss_one (s_ret e_non)) ss_nil)
    (ss_cons (s_set (i := 2) sc_number_in.nd rfl (.inl rfl) (e_tup (a_cons (e_ix (e_var 1 (pv 1)) e_int) (a_cons (e_if (t_eq hr.units (e_len (by rfl) T.n_len (a_cons (e_var 1 (pv 1)) a_nil)) e_int) (e_ix (e_var 1 (pv 1)) e_int) e_int) a_nil))))
    (ss_one (s_ret (e_if (t_val (e_call (ok_is_number T) (hr.mono (by decide)) hgd (by rfl) T.g_is_number T.F_is_number.kp T.b_is_number pass0 (a_cons (e_var 2 (pv 2)) a_nil))) (e_var 2 (pv 2)) e_non))))))
theorem ok_number_in (T : Tx w K mg) : Fn P w K mg base CX0 3 T.f_number_in T.fd_number_in ["text"] (lift K 1 fs_number_in) := fn_data T.F_number_in sc_number_in b_number_in (fun _ _ _ _ _ _ hr hgd => d_number_in T hr hgd) p_number_in
end
def b_step_in : DS :=
  (dSeq (dAsg (dSplit (dVar 0) (dC (.str " "))) (dN 1))
  (dRet (dIf (dTest (dBin fEq (dCB cLen (dCons (dVar 1) dNil)) (dC (.int 2)))) (dTup (dCons (dCall 1 fs_int_in (dCons (dIx (dVar 1) (dC (.int 0))) dNil)) (dCons (dIx (dVar 1) (dC (.int 1))) dNil))) (dC .none))))
def stpP : List Str → Da
  | [w, r] => .tuple [optI (intIn w), .str r]
  | _ => .none
def stpIn (p : Str) : Da := stpP (Txt.split p " ")
def fs_step_in : FSp := fun rs fu post => ∃ t : Str, rs = [.val (.str t)] ∧ TX 390 t ∧ post (.val (stpIn t)) fu
theorem stpP_ne {ps : List Str} (h : ps.length ≠ 2) : stpP ps = .none := by
  match ps with
  | [] => rfl
  | [_] => rfl
  | [_, _] => exact absurd rfl h
  | _ :: _ :: _ :: _ => rfl
theorem p_step_in (rs : List Rv) (fu : Option Nat) (post : Rr → Option Nat → Prop) (hl : rs.length = 1) (h : fs_step_in rs fu post) : b_step_in ⟨fun g => post (.val .none) g.fu, fun r g => post r g.fu, fun _ => False, fun _ => False⟩ (ent N_step_in rs fu) := by
  obtain ⟨t, rfl, ht, h⟩ := h
  simp_arith [b_step_in, fs_int_in]
  refine ⟨by decide +kernel, ht.fits.2.1, ?_⟩
  unfold stpIn at h
  have tw : ∀ w ∈ Txt.split t " ", TX 390 w := fun w hw => ht.part hw
  generalize Txt.split t " " = P at h tw ⊢
  refine ⟨fun e => ?_, fun e => by rw [stpP_ne (fun z => e (by rw [List.length_map, z]; rfl))] at h; exact h⟩
  rw [List.length_map] at e
  match P, e with
  | [w, r], _ =>
    simp_arith [Nat.zero_add]
    exact ⟨w, rfl, tw w (List.mem_cons_self ..), h⟩
  | [], e => exact absurd e (by decide)
  | [_], e => exact absurd e (by simp)
  | _ :: _ :: _ :: _, e =>
    simp only [List.length_cons] at e
    omega
section
variable {P : Program} {w : World} {K : Fg} {mg : Str → Option Value} {base : Heap}
theorem d_step_in (T : Tx w K mg) {cdv : Value} {A : Around} {outer : List Env} {s : Shared} {H : Hp} {E : XK} (hr : Room 1 (A.deeper (envOfC "step_in" (defScope st_step_in) s.heap.objs.size T.f_step_in cdv))) (hgd : (A.deeper (envOfC "step_in" (defScope st_step_in) s.heap.objs.size T.f_step_in cdv)).guards = some []) :
    PSs (cxOf CX0 P w K mg base N_step_in "step_in" (defScope st_step_in) T.f_step_in cdv A outer s H E).nox (defBody st_step_in) (upS K W0 b_step_in) :=
  (ss_cons (s_set (i := 1) sc_step_in.nd rfl (.inl rfl) (e_split (e_var 0 (pv 0)) (e_glob (by rfl) T.c_SPACE T.v_SPACE T.r_SPACE)))
    (ss_one (s_ret (e_if (t_eq hr.units (e_len (by rfl) T.n_len (a_cons (e_var 1 (pv 1)) a_nil)) e_int) (e_tup (a_cons (e_call (ok_int_in T) (hr.mono (by decide)) hgd (by rfl) T.g_int_in T.F_int_in.kp T.b_int_in pass0 (a_cons (e_ix (e_var 1 (pv 1)) e_int) a_nil)) (a_cons (e_ix (e_var 1 (pv 1)) e_int) a_nil))) e_non))))
theorem ok_step_in (T : Tx w K mg) : Fn P w K mg base CX0 2 T.f_step_in T.fd_step_in ["text"] (lift K 1 fs_step_in) := fn_data T.F_step_in sc_step_in b_step_in (fun _ _ _ _ _ _ hr hgd => d_step_in T hr hgd) p_step_in
end
def b_chain_in : DS :=
  (dSeq (dAsg (dCB cTuple (dCons (dFz (dLc [2] (dItems (dSplit (dVar 0) (dC (.str ", ")))) (dN 2) dYes (dCall 1 fs_step_in (dCons (dVar 2) dNil)))) dNil)) (dN 1))
  (dRet (dIf (dTest (dCall 1 fs_is_chain (dCons (dVar 1) dNil))) (dVar 1) (dC .none))))
def chnIn (t : Str) : Da := .tuple ((Txt.split t ", ").map stpIn)
def chnD (t : Str) : Da := if isChn (chnIn t) = true then chnIn t else .none
def stF : Da → Da
  | .str w => stpIn w
  | _ => .none
def fs_chain_in : FSp := fun rs fu post => ∃ t : Str, rs = [.val (.str t)] ∧ TX 390 t ∧ post (.val (chnD t)) fu
theorem p_chain_in (rs : List Rv) (fu : Option Nat) (post : Rr → Option Nat → Prop) (hl : rs.length = 1) (h : fs_chain_in rs fu post) : b_chain_in ⟨fun g => post (.val .none) g.fu, fun r g => post r g.fu, fun _ => False, fun _ => False⟩ (ent N_chain_in rs fu) := by
  obtain ⟨t, rfl, ht, h⟩ := h
  simp_arith [b_chain_in]
  have len : (Txt.split t ", ").length ≤ 1000000 := by
    have := PyProof.Rows.split_le t ", "
    have := ht.len
    omega
  refine ⟨by decide +kernel, ht.fits.2.1, lc_map stF (fun x hx R hR => ?_) (by rw [List.length_map, List.length_nil, Nat.zero_add]; exact len) ?_⟩
  · obtain ⟨w, hw, rfl⟩ := List.mem_map.mp hx
    simp_arith [fs_step_in]
    exact ⟨w, rfl, ht.part hw, hR _ rfl⟩
  · have e : [] ++ ((Txt.split t ", ").map PyData.str).map stF = (Txt.split t ", ").map stpIn := by
      rw [List.nil_append, List.map_map]
      rfl
    rw [e]
    simp_arith [fs_is_chain]
    unfold chnD at h
    refine ⟨_, rfl, fun q => ?_, fun q => ?_⟩
    · rw [if_pos (show isChn (chnIn t) = true from q)] at h
      exact h
    · rw [if_neg (show ¬isChn (chnIn t) = true by rw [show isChn (chnIn t) = false from q]; decide)] at h
      exact h
section
variable {P : Program} {w : World} {K : Fg} {mg : Str → Option Value} {base : Heap}
theorem d_chain_in (T : Tx w K mg) {cdv : Value} {A : Around} {outer : List Env} {s : Shared} {H : Hp} {E : XK} (hr : Room 4 (A.deeper (envOfC "chain_in" (defScope st_chain_in) s.heap.objs.size T.f_chain_in cdv))) (hgd : (A.deeper (envOfC "chain_in" (defScope st_chain_in) s.heap.objs.size T.f_chain_in cdv)).guards = some []) :
    PSs (cxOf CX0 P w K mg base N_chain_in "chain_in" (defScope st_chain_in) T.f_chain_in cdv A outer s H E).nox (defBody st_chain_in) (upS K W0 b_chain_in) :=
  (ss_cons (s_set (i := 1) sc_chain_in.nd rfl (.inl rfl) (e_tuple (by rfl) T.n_tuple (a_cons (e_fz (e_lc (own := [("part", 2)]) rfl sc_chain_in.nd (i_items (e_split (e_var 0 (pv 0)) (e_glob (by rfl) T.c_BETWEEN_STEPS T.v_BETWEEN_STEPS T.r_BETWEEN_STEPS))) (blkOk_by (own := [("part", 2)]) (N := N_chain_in) (sc := defScope st_chain_in) (by decide +kernel)) (fun _ _ _ _ _ => (gw_name rfl (pg_name (i := 2) sc_chain_in.nd rfl (.inl rfl)) (by decide))) (fun _ _ _ _ _ => ts_yes) (fun _ _ _ _ _ => (e_call (ok_step_in T) (hr.mono (by decide)) hgd (by rfl) T.g_step_in T.F_step_in.kp T.b_step_in pass0 (a_cons (e_var 2 (pv 2)) a_nil))))) a_nil)))
    (ss_one (s_ret (e_if (t_val (e_call (ok_is_chain T) (hr.mono (by decide)) hgd (by rfl) T.g_is_chain T.F_is_chain.kp T.b_is_chain pass0 (a_cons (e_var 1 (pv 1)) a_nil))) (e_var 1 (pv 1)) e_non))))
theorem ok_chain_in (T : Tx w K mg) : Fn P w K mg base CX0 5 T.f_chain_in T.fd_chain_in ["text"] (lift K 1 fs_chain_in) := fn_data T.F_chain_in sc_chain_in b_chain_in (fun _ _ _ _ _ _ hr hgd => d_chain_in T hr hgd) p_chain_in
end
def b_parse_number : DS :=
  (dSeq (dAsg (dIf (dTest (dIsi "str" (dVar 0))) (dCall 1 fs_number_in (dCons (dVar 0) dNil)) (dC .none)) (dN 1))
  (dSeq (dIfS (dTest (dIsN false (dVar 1)))
    dNever
    dNext)
  (dRet (dVar 1))))
def fs_parse_number : FSp := fun rs fu post => ∃ (t : Str) (p : Int × Int), rs = [.val (.str t)] ∧ TX 390 t ∧ numIn t = some p ∧ post (.val (num p.1 p.2)) fu
theorem p_parse_number (rs : List Rv) (fu : Option Nat) (post : Rr → Option Nat → Prop) (hl : rs.length = 1) (h : fs_parse_number rs fu post) : b_parse_number ⟨fun g => post (.val .none) g.fu, fun r g => post r g.fu, fun _ => False, fun _ => False⟩ (ent N_parse_number rs fu) := by
  obtain ⟨t, p, rfl, ht, hp, h⟩ := h
  simp_arith [b_parse_number, fs_number_in]
  exact ⟨fun _ => ⟨t, rfl, ht, (fun e => by rw [hp] at e; cases e), (fun _ => by rw [hp]; exact h)⟩, fun e => by simp [isTy] at e⟩
section
variable {P : Program} {w : World} {K : Fg} {mg : Str → Option Value} {base : Heap}
theorem d_parse_number (T : Tx w K mg) {cdv : Value} {A : Around} {outer : List Env} {s : Shared} {H : Hp} {E : XK} (hr : Room 3 (A.deeper (envOfC "parse_number" (defScope st_parse_number) s.heap.objs.size T.f_parse_number cdv))) (hgd : (A.deeper (envOfC "parse_number" (defScope st_parse_number) s.heap.objs.size T.f_parse_number cdv)).guards = some []) :
    PSs (cxOf CX0 P w K mg base N_parse_number "parse_number" (defScope st_parse_number) T.f_parse_number cdv A outer s H E).nox (defBody st_parse_number) (upS K W0 b_parse_number) :=
  (ss_cons (s_set (i := 1) sc_parse_number.nd rfl (.inl rfl) (e_if (t_val (e_isi kit_str (by rfl) T.n_isinstance (e_var 0 (pv 0)) (c_ty (by rfl) T.n_str (by decide +kernel)))) (e_call (ok_number_in T) (hr.mono (by decide)) hgd (by rfl) T.g_number_in T.F_number_in.kp T.b_number_in pass0 (a_cons (e_var 0 (pv 0)) a_nil)) e_non))
    (ss_cons (s_if (t_isN (e_var 1 (pv 1))) (ss_one s_never) ss_nil)
    (ss_one (s_ret (e_var 1 (pv 1))))))
theorem ok_parse_number (T : Tx w K mg) : Fn P w K mg base CX0 4 T.f_parse_number T.fd_parse_number ["text"] (lift K 1 fs_parse_number) := fn_data T.F_parse_number sc_parse_number b_parse_number (fun _ _ _ _ _ _ hr hgd => d_parse_number T hr hgd) p_parse_number
end
def b_parse_chain : DS :=
  (dSeq (dAsg (dIf (dTest (dIsi "str" (dVar 0))) (dCall 1 fs_chain_in (dCons (dVar 0) dNil)) (dC .none)) (dN 1))
  (dSeq (dIfS (dTest (dIsN false (dVar 1)))
    dNever
    dNext)
  (dRet (dVar 1))))
def fs_parse_chain : FSp := fun rs fu post => ∃ t : Str, rs = [.val (.str t)] ∧ TX 390 t ∧ isChn (chnIn t) = true ∧ post (.val (chnIn t)) fu
theorem p_parse_chain (rs : List Rv) (fu : Option Nat) (post : Rr → Option Nat → Prop) (hl : rs.length = 1) (h : fs_parse_chain rs fu post) : b_parse_chain ⟨fun g => post (.val .none) g.fu, fun r g => post r g.fu, fun _ => False, fun _ => False⟩ (ent N_parse_chain rs fu) := by
  obtain ⟨t, rfl, ht, hp, h⟩ := h
  simp_arith [b_parse_chain, fs_chain_in]
  have e1 : chnD t = chnIn t := if_pos hp
  exact ⟨fun _ => ⟨t, rfl, ht, (fun e => by rw [e1] at e; cases e), (fun _ => by rw [e1]; exact h)⟩, fun e => by simp [isTy] at e⟩
section
variable {P : Program} {w : World} {K : Fg} {mg : Str → Option Value} {base : Heap}
theorem d_parse_chain (T : Tx w K mg) {cdv : Value} {A : Around} {outer : List Env} {s : Shared} {H : Hp} {E : XK} (hr : Room 5 (A.deeper (envOfC "parse_chain" (defScope st_parse_chain) s.heap.objs.size T.f_parse_chain cdv))) (hgd : (A.deeper (envOfC "parse_chain" (defScope st_parse_chain) s.heap.objs.size T.f_parse_chain cdv)).guards = some []) :
    PSs (cxOf CX0 P w K mg base N_parse_chain "parse_chain" (defScope st_parse_chain) T.f_parse_chain cdv A outer s H E).nox (defBody st_parse_chain) (upS K W0 b_parse_chain) :=
  (ss_cons (s_set (i := 1) sc_parse_chain.nd rfl (.inl rfl) (e_if (t_val (e_isi kit_str (by rfl) T.n_isinstance (e_var 0 (pv 0)) (c_ty (by rfl) T.n_str (by decide +kernel)))) (e_call (ok_chain_in T) (hr.mono (by decide)) hgd (by rfl) T.g_chain_in T.F_chain_in.kp T.b_chain_in pass0 (a_cons (e_var 0 (pv 0)) a_nil)) e_non))
    (ss_cons (s_if (t_isN (e_var 1 (pv 1))) (ss_one s_never) ss_nil)
    (ss_one (s_ret (e_var 1 (pv 1))))))
theorem ok_parse_chain (T : Tx w K mg) : Fn P w K mg base CX0 6 T.f_parse_chain T.fd_parse_chain ["text"] (lift K 1 fs_parse_chain) := fn_data T.F_parse_chain sc_parse_chain b_parse_chain (fun _ _ _ _ _ _ hr hgd => d_parse_chain T hr hgd) p_parse_chain
end
def b__law_source : DS :=
  (dSeq (dAsg (dIf (dTest (dBin oLt (dVar 1) (dCB cLen (dCons (dVar 0) dNil)))) (dIx (dVar 0) (dVar 1)) (dC (.int 0))) (dN 2))
  (dSeq (dAsg (dIf (dTest (dBin oGe (dCB oAbs (dCons (dVar 2) dNil)) (dBin oPow (dC (.int 10)) (dC (.int 18))))) (dBin oMod (dCB oAbs (dCons (dVar 2) dNil)) (dBin oPow (dBin oPow (dC (.int 10)) (dC (.int 60))) (dC (.int 4)))) (dC (.int 0))) (dN 3))
  (dRetL (dLst (dCons (dVar 3) (dCons (dBin oMod (dBin fAdd (dBin fAdd (dBin oMul (dBin oMod (dVar 2) (dC (.int 2305843009213693951))) (dC (.int 1000003))) (dBin oMul (dBin oMul (dC (.int 7919)) (dVar 1)) (dVar 1))) (dC (.int 97))) (dC (.int 2305843009213693921))) (dCons (dC (.int 0)) dNil)))))))
def fs__law_source : FSp := fun rs fu post => ∃ (ns : List Int) (k : Int), rs = [.scr ns, .val (.int k)] ∧ 0 ≤ k ∧ k < 1000000 ∧ ∀ x y : Int, 0 ≤ x → x < 2 ^ 1000 → 0 ≤ y → y < modS → post (.own [.int x, .int y, .int 0]) fu
theorem atI_nn {ns : List Int} {k : Int} (h0 : 0 ≤ k) (h : k < ns.length) : ∃ z, atI ns k = some z := by
  unfold atI ixN
  rw [if_pos h0, if_pos h]
  exact ⟨_, List.getElem?_eq_getElem (show k.toNat < ns.length by omega)⟩
theorem pw1 : CPowX 10 18 := ⟨by decide, by decide +kernel⟩
theorem pw2 : CPowX 10 60 := ⟨by decide, by decide +kernel⟩
theorem pw3 : CPowX (10 ^ Int.toNat 60) 4 := ⟨by decide, by decide +kernel⟩
theorem pw4 : (0 : Int) < (10 ^ Int.toNat 60) ^ Int.toNat 4 := by decide +kernel
theorem pw5 : ((10 : Int) ^ Int.toNat 60) ^ Int.toNat 4 ≤ 2 ^ 1000 := by decide +kernel
theorem src_fin {fu : Option Nat} {post : Rr → Option Nat → Prop} {z k : Int} (h1 : 0 ≤ k) (h2 : k < 1000000) (h : ∀ x y : Int, 0 ≤ x → x < 2 ^ 1000 → 0 ≤ y → y < modS → post (.own [.int x, .int y, .int 0]) fu) :
    CMulX (z % 2305843009213693951) 1000003 ∧ CMulX 7919 k ∧ CMulX (7919 * k) k ∧ ∀ x : Int, 0 ≤ x → x < 2 ^ 1000 → post (.own [.int x, .int ((z % 2305843009213693951 * 1000003 + 7919 * k * k + 97) % 2305843009213693921), .int 0]) fu := by
  have a1 := Int.emod_nonneg z (show (2305843009213693951 : Int) ≠ 0 by decide)
  have a2 := Int.emod_lt_of_pos z (show (0 : Int) < 2305843009213693951 by decide)
  refine ⟨mulX 64 64 (Bn.small (by omega) (by omega) (by decide)) (Bn.small (by decide) (by decide) (by decide)) (by decide), mulX 64 64 (Bn.small (by decide) (by decide) (by decide)) (Bn.small (by omega) (by omega) (by decide)) (by decide),
    mulX 64 64 (Bn.small (by omega) (by omega) (by decide)) (Bn.small (by omega) (by omega) (by decide)) (by decide), fun x x0 x1 => h x _ x0 x1 (Int.emod_nonneg _ (by decide)) (Int.emod_lt_of_pos _ (by decide))⟩
/-- the body behind its first statement -/
def srcT : DS := (dSeq (dAsg (dIf (dTest (dBin oGe (dCB oAbs (dCons (dVar 2) dNil)) (dBin oPow (dC (.int 10)) (dC (.int 18))))) (dBin oMod (dCB oAbs (dCons (dVar 2) dNil)) (dBin oPow (dBin oPow (dC (.int 10)) (dC (.int 60))) (dC (.int 4)))) (dC (.int 0))) (dN 3))
  (dRetL (dLst (dCons (dVar 3) (dCons (dBin oMod (dBin fAdd (dBin fAdd (dBin oMul (dBin oMod (dVar 2) (dC (.int 2305843009213693951))) (dC (.int 1000003))) (dBin oMul (dBin oMul (dC (.int 7919)) (dVar 1)) (dVar 1))) (dC (.int 97))) (dC (.int 2305843009213693921))) (dCons (dC (.int 0)) dNil))))))
def srcB : DS := (dSeq (dAsg (dIf (dTest (dBin oLt (dVar 1) (dCB cLen (dCons (dVar 0) dNil)))) (dIx (dVar 0) (dVar 1)) (dC (.int 0))) (dN 2)) srcT)
theorem p_srcT (z : Int) (fu : Option Nat) (post : Rr → Option Nat → Prop) {ns : List Int} {k : Int} (h1 : 0 ≤ k) (h2 : k < 1000000) (h : ∀ x y : Int, 0 ≤ x → x < 2 ^ 1000 → 0 ≤ y → y < modS → post (.own [.int x, .int y, .int 0]) fu) : srcT ⟨fun g => post (.val .none) g.fu, fun r g => post r g.fu, fun _ => False, fun _ => False⟩ ⟨[some (.scr ns), some (.val (.int k)), some (.val (.int z)), none], fu, fu.isNone⟩ := by
  have m0 : ∀ a : Int, 0 ≤ a % (10 ^ Int.toNat 60) ^ Int.toNat 4 ∧ a % (10 ^ Int.toNat 60) ^ Int.toNat 4 < 2 ^ 1000 := fun a => ⟨Int.emod_nonneg _ (Int.ne_of_gt pw4), Int.lt_of_lt_of_le (Int.emod_lt_of_pos _ pw4) pw5⟩
  have p0 : (0 : Int) < 2 ^ 1000 := pow2_pos _
  simp_arith [srcT]
  obtain ⟨f1, f2, f3, f4⟩ := src_fin (z := z) h1 h2 h
  exact ⟨pw1, fun _ => ⟨pw2, pw3, pw4, f1, f2, f3, f4 _ (m0 _).1 (m0 _).2⟩, fun _ => ⟨f1, f2, f3, f4 0 (Int.le_refl 0) p0⟩⟩
theorem p_srcB (fu : Option Nat) (post : Rr → Option Nat → Prop) {ns : List Int} {k : Int} (h1 : 0 ≤ k) (h2 : k < 1000000) (h : ∀ x y : Int, 0 ≤ x → x < 2 ^ 1000 → 0 ≤ y → y < modS → post (.own [.int x, .int y, .int 0]) fu) : srcB ⟨fun g => post (.val .none) g.fu, fun r g => post r g.fu, fun _ => False, fun _ => False⟩ (ent N__law_source [.scr ns, .val (.int k)] fu) := by
  simp_arith [srcB]
  refine ⟨fun hk => ?_, fun hk => p_srcT 0 fu post h1 h2 h⟩
  obtain ⟨z, ez⟩ := atI_nn h1 hk
  rw [ez]
  exact p_srcT z fu post h1 h2 h
theorem p__law_source (rs : List Rv) (fu : Option Nat) (post : Rr → Option Nat → Prop) (hl : rs.length = 2) (h : fs__law_source rs fu post) : b__law_source ⟨fun g => post (.val .none) g.fu, fun r g => post r g.fu, fun _ => False, fun _ => False⟩ (ent N__law_source rs fu) := by
  obtain ⟨ns, k, rfl, h1, h2, h⟩ := h
  exact p_srcB fu post h1 h2 h
section
variable {P : Program} {w : World} {K : Fg} {mg : Str → Option Value} {base : Heap}
theorem d__law_source (T : Tx w K mg) {cdv : Value} {A : Around} {outer : List Env} {s : Shared} {H : Hp} {E : XK} (hr : Room 0 (A.deeper (envOfC "_law_source" (defScope st__law_source) s.heap.objs.size T.f__law_source cdv))) (hgd : (A.deeper (envOfC "_law_source" (defScope st__law_source) s.heap.objs.size T.f__law_source cdv)).guards = some []) :
    PSs (cxOf CX0 P w K mg base N__law_source "_law_source" (defScope st__law_source) T.f__law_source cdv A outer s H E).nox (defBody st__law_source) (upS K W0 b__law_source) :=
  (ss_cons (s_set (i := 2) sc__law_source.nd rfl (.inl rfl) (e_if (t_lt (e_var 1 (pv 1)) (e_len (by rfl) T.n_len (a_cons (e_var 0 (pv 0)) a_nil))) (e_ix (e_var 0 (pv 0)) (e_var 1 (pv 1))) e_int))
    (ss_cons (s_set (i := 3) sc__law_source.nd rfl (.inl rfl) (e_if (t_ge (e_abs (by rfl) T.n_abs (a_cons (e_var 2 (pv 2)) a_nil)) (e_pow e_int e_int)) (e_mod (e_abs (by rfl) T.n_abs (a_cons (e_var 2 (pv 2)) a_nil)) (e_pow (e_pow e_int e_int) e_int)) e_int))
    (ss_one (s_retL (e_lstL (a_cons (e_var 3 (pv 3)) (a_cons (e_mod (e_add (e_add (e_mul (e_mod (e_var 2 (pv 2)) e_int) e_int) (e_mul (e_mul e_int (e_var 1 (pv 1))) (e_var 1 (pv 1)))) e_int) e_int) (a_cons e_int a_nil))))))))
theorem ok__law_source (T : Tx w K mg) : Fn P w K mg base CX0 1 T.f__law_source T.fd__law_source ["_law_script", "_law_k"] (lift K 2 fs__law_source) := fn_data T.F__law_source sc__law_source b__law_source (fun _ _ _ _ _ _ hr hgd => d__law_source T hr hgd) p__law_source
end
/-- a draw: some int below the size, one draw less left -/
def fs__law_draw : FSp := fun rs fu post => ∃ (n : Int) (m : Nat), rs = [.src, .val (.int n)] ∧ fu = some (m + 1) ∧ 0 < n ∧ Bn 9000 n ∧ ∀ i : Int, 0 ≤ i → i < n → post (.val (.int i)) (some m)
theorem at3_0 {x y z : V} : atI [x, y, z] 0 = some x := atI_0
theorem at3_1 {x y z : V} : atI [x, y, z] 1 = some y := atI_1
theorem at3_2 {x y z : V} : atI [x, y, z] 2 = some z := atI_2
section
variable {P : Program} {w : World} {K : Fg} {mg : Str → Option Value} {base : Heap}
/-- behind the draw: all but the source is as it was -/
theorem draw_out {F H : Hp} {a : Addr} {m : Nat} {x y z i : Int} {o : List V} (tk : TabK K F H) (e : Ex F H) (hF : F a = none) (hH : H a = some (.lst o)) (hx : 0 ≤ x ∧ x < 2 ^ 1000 ∧ 0 ≤ y ∧ y < modS ∧ 0 ≤ z ∧ z + m ≤ 2 ^ 40) :
    Out K F H a (some (m + 1)) (some m) F (upd H a (.lst [.int x, .int y, .int z])) (.int i) (.val (.int i)) := by
  refine ⟨Ex.refl F, fun b u q => ?_, fun b u hb _ q => ?_, fun b q => .inl q, fun _ => ⟨m, rfl, hF, x, y, z, upd_same, hx⟩, Rp.int i, .but hH (fun _ z => by cases z) fun b u nb q => by rw [upd_ne nb]; exact q, tk.but hH (fun _ z => by cases z) fun b u nb q => by rw [upd_ne nb]; exact q⟩
  · rw [upd_ne (fun h => by rw [h, hF] at q; cases q)]; exact e b u q
  · rw [upd_ne (hb (fun h => nomatch h))]; exact q
theorem ok__law_draw (T : Tx w K mg) : Fn P w K mg base CX0 1 T.f__law_draw T.fd__law_draw ["_law_source_here", "_law_size"] (lift K 2 fs__law_draw) := by
  refine fn_by T.F__law_draw sc__law_draw lift_len fun cdv A outer s H vs Q E hr hg h => ?_
  obtain ⟨F, a, rs, fu, post, e, tm, hlen, hsrc, tk, ⟨n, m, rfl, rfl, n0, nB, hp⟩, hq⟩ := h
  obtain ⟨hF, x, y, z, hH, x0, x1, y0, y1, z0, z1⟩ := hsrc (m + 1) rfl
  have hv : vs = [.ref a, .int n] := by
    cases tm with
    | cons h1 t =>
      cases t.i1
      rw [h1.1]
  subst hv
  have zB : z < 2 ^ 40 := by omega
  have e40 : (2 : Int) ^ 40 = 1099511627776 := by decide
  rw [e40] at zB z1
  refine ⟨_, PSs.nox (pss_cons (ps_if (pt_cmpR op_gt (pe_ix ix_list (pv 0) pe_int (fun _ _ => rfl)) pe_int (nomark _))
      (pss_cons (ps_set (i := 2) sc__law_draw.nd rfl (.inl rfl) (pe_op op_mod (pe_ix ix_list (pv 0) pe_int (fun _ _ => rfl)) (pv 1)))
      (pss_cons (ps_asg (pe_op op_fdivW (pe_ix ix_list (pv 0) pe_int (fun _ _ => rfl)) (pv 1)) (pg_sub (pv 0) pe_int set_list))
      (pss_one (ps_ret (pv 2))))) pss_nil)
    (pss_cons (ps_asg (pe_op op_add (pe_ix ix_list (pv 0) pe_int (fun _ _ => rfl)) pe_int) (pg_sub (pv 0) pe_int set_list))
    (pss_cons (ps_set (i := 3) sc__law_draw.nd rfl (.inl rfl) (pe_ix ix_list (pv 0) pe_int (fun _ _ => rfl)))
    (pss_cons (ps_set (i := 4) sc__law_draw.nd rfl (.inl rfl) (pe_op op_mod (pe_op op_mulX (pe_op op_add (pe_op op_add (pe_ix ix_list (pv 0) pe_int (fun _ _ => rfl)) (pe_op op_mulX (pe_op op_mulX pe_int (pv 3)) (pv 3))) pe_int) pe_int) pe_int))
    (pss_cons (ps_set (i := 4) sc__law_draw.nd rfl (.inl rfl) (pe_op op_mod (pe_op op_mulX (pv 4) (pe_op op_add (pe_op op_mod (pv 4) pe_int) (pe_op op_mulX pe_int (pv 3)))) pe_int))
    (pss_one (ps_ret (pe_op op_mod (pe_op op_add (pe_op op_fdivW (pv 4) pe_int) (pe_op op_fdivW (pv 4) pe_int)) (pv 1))))))))), ?_⟩
  have sq : SqL K H a [.int x, .int y, .int z] := .inl (.inl hH)
  refine ⟨.ref a, rfl, a, _, 0, _, rfl, rfl, sq, at3_0, x, 0, rfl, rfl, _, rfl, ite2 (fun c => ?_) (fun c => ?_)⟩
  · have c' : 0 < x := of_decide_eq_true c
    refine ⟨.ref a, rfl, a, _, 0, _, rfl, rfl, sq, at3_0, .int n, rfl, x, n, rfl, rfl, n0, ?_⟩
    refine ⟨.ref a, rfl, a, _, 0, _, rfl, rfl, sq, at3_0, .int n, rfl, x, n, rfl, rfl, divX 9000 n0 nB (Nat.le_refl _), ?_⟩
    refine ⟨.ref a, rfl, a, _, 0, 0, rfl, rfl, hH, rfl, .int (x % n), rfl, ?_⟩
    refine hq _ _ _ _ F (hp (x % n) (Int.emod_nonneg _ (by omega)) (Int.emod_lt_of_pos _ n0)) (draw_out (x := x / n) (y := y) (z := z) tk e hF hH ⟨Int.ediv_nonneg x0 (by omega), ?_, y0, y1, z0, by omega⟩)
    exact Int.lt_of_le_of_lt (Int.ediv_le_self _ x0) x1
  · have hH2 : (upd H a (.lst [.int x, .int y, .int (z + 1)])) a = some (.lst [.int x, .int y, .int (z + 1)]) := upd_same
    have sq2 : SqL K (upd H a (.lst [.int x, .int y, .int (z + 1)])) a [.int x, .int y, .int (z + 1)] := .inl (.inl hH2)
    refine ⟨.ref a, rfl, a, _, 2, _, rfl, rfl, sq, at3_2, z, 1, rfl, rfl, .ref a, rfl, a, _, 2, 2, rfl, rfl, hH, rfl, ?_⟩
    refine ⟨.ref a, rfl, a, _, 2, _, rfl, rfl, sq2, at3_2, ?_⟩
    have y2 : y < 2305843009213693921 := y1
    have zz1 : Bn 64 (z + 1) := Bn.small (by omega) (by omega) (by decide)
    have m1 : Bn 128 (65537 * (z + 1)) := (Bn.small (m := 64) (i := 65537) (by decide) (by decide) (by decide)).mul zz1
    have m2 : Bn 192 (65537 * (z + 1) * (z + 1)) := m1.mul zz1
    have m3 : Bn 194 (y + 65537 * (z + 1) * (z + 1) + 11) := ((Bn.small (m := 192) (i := y) (by omega) (by omega) (by decide)).add m2).add (Bn.small (by decide) (by decide) (by decide))
    refine ⟨.ref a, rfl, a, _, 1, _, rfl, rfl, sq2, at3_1, .int (z + 1), rfl, 65537, z + 1, rfl, rfl, mulX 64 64 (Bn.small (by decide) (by decide) (by decide)) zz1 (by decide), .int (z + 1), rfl, _, _, rfl, rfl, mulX 128 64 m1 zz1 (by decide), _, _, rfl, rfl, _, _, rfl, rfl, _, _, rfl, rfl, mulX 194 64 m3 (Bn.small (by decide) (by decide) (by decide)) (by decide), _, _, rfl, rfl, (show (0 : Int) < 2305843009213693921 by decide), ?_⟩
    dsimp only
    generalize hmx : (y + 65537 * (z + 1) * (z + 1) + 11) * 48271 % 2305843009213693921 = mx
    have mx0 : 0 ≤ mx := by rw [← hmx]; exact Int.emod_nonneg _ (by decide)
    have mx1 : mx < 2305843009213693921 := by rw [← hmx]; exact Int.emod_lt_of_pos _ (by decide)
    have r0 := Int.emod_nonneg mx (show (1000003 : Int) ≠ 0 by decide)
    have r1 := Int.emod_lt_of_pos mx (show (0 : Int) < 1000003 by decide)
    have m4 : Bn 128 (99991 * (z + 1)) := (Bn.small (m := 64) (i := 99991) (by decide) (by decide) (by decide)).mul zz1
    have m5 : Bn 129 (mx % 1000003 + 99991 * (z + 1)) := (Bn.small (m := 128) (by omega) (by omega) (by decide)).add m4
    refine ⟨.int mx, rfl, .int mx, rfl, mx, 1000003, rfl, rfl, (show (0 : Int) < 1000003 by decide), .int (z + 1), rfl, 99991, z + 1, rfl, rfl, mulX 64 64 (Bn.small (by decide) (by decide) (by decide)) zz1 (by decide), _, _, rfl, rfl, _, _, rfl, rfl, mulX 64 129 (Bn.small (by omega) (by omega) (by decide)) m5 (by decide), _, _, rfl, rfl, (show (0 : Int) < 2305843009213693907 by decide), ?_⟩
    dsimp only
    generalize mx * (mx % 1000003 + 99991 * (z + 1)) % 2305843009213693907 = my
    refine ⟨.int my, rfl, my, 97, rfl, rfl, divX 64 (by decide) (Bn.small (by decide) (by decide) (by decide)) (by decide), .int my, rfl, my, 1000033, rfl, rfl, divX 64 (by decide) (Bn.small (by decide) (by decide) (by decide)) (by decide), _, _, rfl, rfl, .int n, rfl, _, n, rfl, rfl, n0, ?_⟩
    exact hq _ _ _ _ F (hp _ (Int.emod_nonneg _ (by omega)) (Int.emod_lt_of_pos _ n0)) (draw_out (x := x) (y := y) (z := z + 1) tk e hF hH ⟨x0, x1, y0, y1, by omega, by omega⟩)
end
def b__law_pick : DS :=
  (dRet (dIx (dVar 1) (dCall 2 fs__law_draw (dCons (dVar 0) (dCons (dCB cLen (dCons (dVar 1) dNil)) dNil)))))
theorem atI_mem {α : Type} {xs : List α} {k : Int} (h0 : 0 ≤ k) (h : k < xs.length) : ∃ z ∈ xs, atI xs k = some z := by
  unfold atI ixN
  rw [if_pos h0, if_pos h]
  have hk : k.toNat < xs.length := by omega
  exact ⟨xs[k.toNat], List.getElem_mem hk, List.getElem?_eq_getElem hk⟩
def fs__law_pick : FSp := fun rs fu post => ∃ (xs : List Da) (m : Nat), rs = [.src, .val (.list xs)] ∧ fu = some (m + 1) ∧ 0 < xs.length ∧ xs.length < 1000000 ∧ ∀ v ∈ xs, post (.val v) (some m)
theorem p__law_pick (rs : List Rv) (fu : Option Nat) (post : Rr → Option Nat → Prop) (hl : rs.length = 2) (h : fs__law_pick rs fu post) : b__law_pick ⟨fun g => post (.val .none) g.fu, fun r g => post r g.fu, fun _ => False, fun _ => False⟩ (ent N__law_pick rs fu) := by
  obtain ⟨xs, m, rfl, rfl, h0, h1, h⟩ := h
  simp_arith [b__law_pick, fs__law_draw]
  refine ⟨_, m, rfl, rfl, by omega, Bn.small (by omega) (by omega) (by decide), fun i i0 i1 => ?_⟩
  obtain ⟨z, hz, ez⟩ := atI_mem (xs := xs) i0 i1
  rw [ez]
  exact h z hz
section
variable {P : Program} {w : World} {K : Fg} {mg : Str → Option Value} {base : Heap}
theorem d__law_pick (T : Tx w K mg) {cdv : Value} {A : Around} {outer : List Env} {s : Shared} {H : Hp} {E : XK} (hr : Room 1 (A.deeper (envOfC "_law_pick" (defScope st__law_pick) s.heap.objs.size T.f__law_pick cdv))) (hgd : (A.deeper (envOfC "_law_pick" (defScope st__law_pick) s.heap.objs.size T.f__law_pick cdv)).guards = some []) :
    PSs (cxOf CX0 P w K mg base N__law_pick "_law_pick" (defScope st__law_pick) T.f__law_pick cdv A outer s H E).nox (defBody st__law_pick) (upS K W0 b__law_pick) :=
  (ss_one (s_ret (e_ix (e_var 1 (pv 1)) (e_call (ok__law_draw T) (hr.mono (by decide)) hgd (by rfl) T.g__law_draw T.F__law_draw.kp T.b__law_draw pass0 (a_cons (e_var 0 (pv 0)) (a_cons (e_len (by rfl) T.n_len (a_cons (e_var 1 (pv 1)) a_nil)) a_nil))))))
theorem ok__law_pick (T : Tx w K mg) : Fn P w K mg base CX0 2 T.f__law_pick T.fd__law_pick ["_law_source_here", "_law_some"] (lift K 2 fs__law_pick) := fn_data T.F__law_pick sc__law_pick b__law_pick (fun _ _ _ _ _ _ hr hgd => d__law_pick T hr hgd) p__law_pick
end
def b__law_divisor : DS :=
  (dSeq (dWhile (dTest (dBin oGt (dVar 1) (dC (.int 0))))
    (dPar 0 1 (dVar 1) (dBin oMod (dVar 0) (dVar 1))))
  (dRet (dVar 0)))
def fs__law_divisor : FSp := fun rs fu post => ∃ a b : Int, rs = [.val (.int a), .val (.int b)] ∧ 0 ≤ a ∧ 0 ≤ b ∧ post (.val (.int (Int.gcd a b))) fu
theorem p__law_divisor (rs : List Rv) (fu : Option Nat) (post : Rr → Option Nat → Prop) (hl : rs.length = 2) (h : fs__law_divisor rs fu post) : b__law_divisor ⟨fun g => post (.val .none) g.fu, fun r g => post r g.fu, fun _ => False, fun _ => False⟩ (ent N__law_divisor rs fu) := by
  obtain ⟨a, b, rfl, ha, hb, h⟩ := h
  simp_arith [b__law_divisor]
  refine ⟨fun m g => ∃ x y : Int, g = ⟨[some (.val (.int x)), some (.val (.int y))], fu, fu.isNone⟩ ∧ 0 ≤ x ∧ 0 ≤ y ∧ y.toNat = m ∧ Int.gcd x y = Int.gcd a b, ⟨b.toNat, a, b, rfl, ha, hb, rfl, rfl⟩, fun m g hg => ?_⟩
  obtain ⟨x, y, rfl, hx, hy, rfl, e⟩ := hg
  simp_arith [Nat.zero_add]
  refine ⟨fun hy0 => ?_, fun heq => ?_⟩
  · refine ⟨hy0, (x % y).toNat, ?_, y, x % y, rfl, hy, Int.emod_nonneg _ (by omega), rfl, by rw [gcd_step hx hy0, e]⟩
    have := Int.emod_lt_of_pos x hy0
    have := Int.emod_nonneg x (show y ≠ 0 by omega)
    omega
  · have hy0 : y = 0 := by omega
    subst hy0
    rw [Int.gcd_zero_right] at e
    have : x = ((Int.gcd a b : Nat) : Int) := by omega
    rw [this]
    exact h
section
variable {P : Program} {w : World} {K : Fg} {mg : Str → Option Value} {base : Heap}
theorem d__law_divisor (T : Tx w K mg) {cdv : Value} {A : Around} {outer : List Env} {s : Shared} {H : Hp} {E : XK} (hr : Room 0 (A.deeper (envOfC "_law_divisor" (defScope st__law_divisor) s.heap.objs.size T.f__law_divisor cdv))) (hgd : (A.deeper (envOfC "_law_divisor" (defScope st__law_divisor) s.heap.objs.size T.f__law_divisor cdv)).guards = some []) :
    PSs (cxOf CX0 P w K mg base N__law_divisor "_law_divisor" (defScope st__law_divisor) T.f__law_divisor cdv A outer s H E).nox (defBody st__law_divisor) (upS K W0 b__law_divisor) :=
  (ss_cons (s_while PassesOwn.never (t_gt (e_var 1 (pv 1)) e_int) (ss_one (s_par (i := 0) (j := 1) rfl sc__law_divisor.nd rfl rfl (by decide) rfl rfl (e_var 1 (pv 1)) (e_mod (e_var 0 (pv 0)) (e_var 1 (pv 1))))))
    (ss_one (s_ret (e_var 0 (pv 0)))))
theorem ok__law_divisor (T : Tx w K mg) : Fn P w K mg base CX0 1 T.f__law_divisor T.fd__law_divisor ["_law_one", "_law_other"] (lift K 2 fs__law_divisor) := fn_data T.F__law_divisor sc__law_divisor b__law_divisor (fun _ _ _ _ _ _ hr hgd => d__law_divisor T hr hgd) p__law_divisor
end
def b__law_low : DS :=
  (dSeq (dAsg (dCall 2 fs__law_divisor (dCons (dVar 0) (dCons (dVar 1) dNil))) (dN 2))
  (dRet (dTup (dCons (dBin oDiv (dVar 0) (dVar 2)) (dCons (dBin oDiv (dVar 1) (dVar 2)) dNil)))))
def fs__law_low : FSp := fun rs fu post => ∃ n d : Int, rs = [.val (.int n), .val (.int d)] ∧ 0 ≤ n ∧ 0 < d ∧ Bn 9000 d ∧ post (.val (lowD n d)) fu
theorem p__law_low (rs : List Rv) (fu : Option Nat) (post : Rr → Option Nat → Prop) (hl : rs.length = 2) (h : fs__law_low rs fu post) : b__law_low ⟨fun g => post (.val .none) g.fu, fun r g => post r g.fu, fun _ => False, fun _ => False⟩ (ent N__law_low rs fu) := by
  obtain ⟨n, d, rfl, hn, hd, hs, h⟩ := h
  simp_arith [b__law_low, fs__law_divisor]
  have dv : ∀ x, CDivW x (Int.gcd n d) := fun x => divX 9000 (gcd_pos hd) (hs.le (Int.le_of_lt (gcd_pos hd)) (gcd_le hd)) (Nat.le_refl _)
  refine ⟨n, d, rfl, hn, by omega, dv _, dv _, h⟩
section
variable {P : Program} {w : World} {K : Fg} {mg : Str → Option Value} {base : Heap}
theorem d__law_low (T : Tx w K mg) {cdv : Value} {A : Around} {outer : List Env} {s : Shared} {H : Hp} {E : XK} (hr : Room 1 (A.deeper (envOfC "_law_low" (defScope st__law_low) s.heap.objs.size T.f__law_low cdv))) (hgd : (A.deeper (envOfC "_law_low" (defScope st__law_low) s.heap.objs.size T.f__law_low cdv)).guards = some []) :
    PSs (cxOf CX0 P w K mg base N__law_low "_law_low" (defScope st__law_low) T.f__law_low cdv A outer s H E).nox (defBody st__law_low) (upS K W0 b__law_low) :=
  (ss_cons (s_set (i := 2) sc__law_low.nd rfl (.inl rfl) (e_call (ok__law_divisor T) (hr.mono (by decide)) hgd (by rfl) T.g__law_divisor T.F__law_divisor.kp T.b__law_divisor pass0 (a_cons (e_var 0 (pv 0)) (a_cons (e_var 1 (pv 1)) a_nil))))
    (ss_one (s_ret (e_tup (a_cons (e_div (e_var 0 (pv 0)) (e_var 2 (pv 2))) (a_cons (e_div (e_var 1 (pv 1)) (e_var 2 (pv 2))) a_nil))))))
theorem ok__law_low (T : Tx w K mg) : Fn P w K mg base CX0 2 T.f__law_low T.fd__law_low ["_law_n", "_law_d"] (lift K 2 fs__law_low) := fn_data T.F__law_low sc__law_low b__law_low (fun _ _ _ _ _ _ hr hgd => d__law_low T hr hgd) p__law_low
end
def b__law_scaled : DS :=
  (dSeq (dAsg (dVar 0) (dT 2 (dTc (dN 2) (dTc (dN 3) dTn))))
  (dRet (dIf (dTest (dBin oGe (dVar 1) (dC (.int 0)))) (dCall 2 fs__law_low (dCons (dBin oShl (dVar 2) (dVar 1)) (dCons (dVar 3) dNil))) (dCall 2 fs__law_low (dCons (dVar 2) (dCons (dBin oShl (dVar 3) (dBin oSub (dC (.int 0)) (dVar 1))) dNil))))))
/-- times 2 ** e, in lowest terms -/
def scl (n d e : Int) : Int × Int := low (scI n d e).1 (scI n d e).2
def fs__law_scaled : FSp := fun rs fu post => ∃ n d e : Int, rs = [.val (num n d), .val (.int e)] ∧ 0 ≤ n ∧ Bn 100000 n ∧ 0 < d ∧ Bn 4000 d ∧ -4000 ≤ e ∧ e ≤ 4000 ∧ post (.val (nm (scl n d e))) fu
theorem p__law_scaled (rs : List Rv) (fu : Option Nat) (post : Rr → Option Nat → Prop) (hl : rs.length = 2) (h : fs__law_scaled rs fu post) : b__law_scaled ⟨fun g => post (.val .none) g.fu, fun r g => post r g.fu, fun _ => False, fun _ => False⟩ (ent N__law_scaled rs fu) := by
  obtain ⟨n, d, e, rfl, hn, bn, hd, bd, h1, h2, h⟩ := h
  simp_arith [b__law_scaled, fs__law_low]
  refine ⟨fun he => ⟨shlX 100000 bn he (by omega), _, _, rfl, Int.mul_nonneg hn (Int.le_of_lt (pow2_pos _)), hd, bd.mono (by decide), ?_⟩, fun he => ⟨shlX 4000 bd (by omega) (by omega), _, _, rfl, hn, Int.mul_pos hd (pow2_pos _), (shlB bd).mono (by omega), ?_⟩⟩
  · have e1 : scI n d e = (n * 2 ^ e.toNat, d) := by
      unfold scI
      rw [show (-e).toNat = 0 by omega, Int.pow_zero, Int.mul_one]
    unfold scl at h
    rw [e1] at h
    exact h
  · have e1 : scI n d e = (n, d * 2 ^ (0 - e).toNat) := by
      unfold scI
      rw [show e.toNat = 0 by omega, Int.pow_zero, Int.mul_one, show (0 - e).toNat = (-e).toNat by omega]
    unfold scl at h
    rw [e1] at h
    exact h
theorem scl_ok {n d e : Int} (hn : 0 < n) (hd : 0 < d) : 0 < (scl n d e).1 ∧ 0 < (scl n d e).2 ∧ Int.gcd (scl n d e).1 (scl n d e).2 = 1 := by
  obtain ⟨a, b⟩ := scI_pos (f := e) hn hd
  obtain ⟨h1, h2, h3, _⟩ := low_pos a b
  exact ⟨h1, h2, h3⟩
theorem scl_B {n d e : Int} {a b : Nat} (hn : 0 < n) (hd : 0 < d) (bn : Bn a n) (bd : Bn b d) (m : Nat) (hm : (a : Int) + e + 1 ≤ m) (hm' : (b : Int) - e + 1 ≤ m) (ha : a + 1 ≤ m) (hb : b + 1 ≤ m) : Bn m (scl n d e).1 ∧ Bn m (scl n d e).2 := by
  obtain ⟨p, q⟩ := scI_pos (f := e) hn hd
  obtain ⟨h1, h2, h3, h4, h5⟩ := low_pos p q
  have b1 : Bn m (scI n d e).1 := (shlB bn).mono (by omega)
  have b2 : Bn m (scI n d e).2 := (shlB bd).mono (by omega)
  exact ⟨b1.le (Int.le_of_lt h1) h4, b2.le (Int.le_of_lt h2) h5⟩
section
variable {P : Program} {w : World} {K : Fg} {mg : Str → Option Value} {base : Heap}
theorem d__law_scaled (T : Tx w K mg) {cdv : Value} {A : Around} {outer : List Env} {s : Shared} {H : Hp} {E : XK} (hr : Room 2 (A.deeper (envOfC "_law_scaled" (defScope st__law_scaled) s.heap.objs.size T.f__law_scaled cdv))) (hgd : (A.deeper (envOfC "_law_scaled" (defScope st__law_scaled) s.heap.objs.size T.f__law_scaled cdv)).guards = some []) :
    PSs (cxOf CX0 P w K mg base N__law_scaled "_law_scaled" (defScope st__law_scaled) T.f__law_scaled cdv A outer s H E).nox (defBody st__law_scaled) (upS K W0 b__law_scaled) :=
  (ss_cons (s_asg (e_var 0 (pv 0)) (g_tup rfl (gs_cons (g_name (pg_name (i := 2) sc__law_scaled.nd rfl (.inl rfl))) (gs_cons (g_name (pg_name (i := 3) sc__law_scaled.nd rfl (.inl rfl))) gs_nil))))
    (ss_one (s_ret (e_if (t_ge (e_var 1 (pv 1)) e_int) (e_call (ok__law_low T) (hr.mono (by decide)) hgd (by rfl) T.g__law_low T.F__law_low.kp T.b__law_low pass0 (a_cons (e_shl (e_var 2 (pv 2)) (e_var 1 (pv 1))) (a_cons (e_var 3 (pv 3)) a_nil))) (e_call (ok__law_low T) (hr.mono (by decide)) hgd (by rfl) T.g__law_low T.F__law_low.kp T.b__law_low pass0 (a_cons (e_var 2 (pv 2)) (a_cons (e_shl (e_var 3 (pv 3)) (e_sub e_int (e_var 1 (pv 1)))) a_nil)))))))
theorem ok__law_scaled (T : Tx w K mg) : Fn P w K mg base CX0 3 T.f__law_scaled T.fd__law_scaled ["_law_amount", "_law_e"] (lift K 2 fs__law_scaled) := fn_data T.F__law_scaled sc__law_scaled b__law_scaled (fun _ _ _ _ _ _ hr hgd => d__law_scaled T hr hgd) p__law_scaled
end
def b__law_number : DS :=
  (dSeq (dPar 2 3 (dBin fAdd (dC (.int 1)) (dCall 2 fs__law_draw (dCons (dVar 0) (dCons (dCall 2 fs__law_pick (dCons (dVar 0) (dCons (dFz (dLst (dCons (dC (.int 8)) (dCons (dC (.int 64)) (dCons (dC (.int 1024)) (dCons (dVar 1) dNil)))))) dNil))) dNil)))) (dCall 2 fs__law_pick (dCons (dVar 0) (dCons (dFz (dLst (dCons (dC (.int 1)) (dCons (dC (.int 1)) (dCons (dC (.int 2)) (dCons (dC (.int 16)) (dCons (dC (.int 3)) (dCons (dC (.int 10)) dNil)))))))) dNil))))
  (dSeq (dAsg (dCall 2 fs__law_pick (dCons (dVar 0) (dCons (dFz (dLst (dCons (dVar 3) (dCons (dVar 3) (dCons (dBin fAdd (dC (.int 1)) (dCall 2 fs__law_draw (dCons (dVar 0) (dCons (dVar 1) dNil)))) dNil))))) dNil))) (dN 3))
  (dRet (dCall 2 fs__law_scaled (dCons (dCall 2 fs__law_low (dCons (dVar 2) (dCons (dVar 3) dNil))) (dCons (dBin oSub (dCall 2 fs__law_draw (dCons (dVar 0) (dCons (dC (.int 13)) dNil))) (dC (.int 6))) dNil))))))
theorem bnS {i : Int} (h1 : -2000000000000000000000000000000 < i) (h2 : i < 2000000000000000000000000000000) : Bn 110 i := ⟨by
  have e : (2 : Nat) ^ 110 = 1298074214633706907132624082305024 := by decide
  rw [e]
  omega⟩
def fs__law_number : FSp := fun rs fu post => ∃ (mo : Int) (m : Nat), rs = [.src, .val (.int mo)] ∧ fu = some (m + 6) ∧ 1 ≤ mo ∧ mo ≤ 10 ^ 30 ∧ ∀ n d : Int, 0 < n → Bn 140 n → 0 < d → Bn 140 d → Int.gcd n d = 1 → post (.val (num n d)) (some m)
theorem p__law_number (rs : List Rv) (fu : Option Nat) (post : Rr → Option Nat → Prop) (hl : rs.length = 2) (h : fs__law_number rs fu post) : b__law_number ⟨fun g => post (.val .none) g.fu, fun r g => post r g.fu, fun _ => False, fun _ => False⟩ (ent N__law_number rs fu) := by
  obtain ⟨mo, m, rfl, rfl, h0, h1, h⟩ := h
  have big : (10 : Int) ^ 30 = 1000000000000000000000000000000 := by decide
  rw [big] at h1
  simp_arith [b__law_number, fs__law_draw, fs__law_pick, fs__law_low, fs__law_scaled]
  refine ⟨_, m + 5, rfl, rfl, by show 0 < 4; decide, by show 4 < 1000000; decide, fun v hv => ?_⟩
  obtain ⟨s, rfl, s0, s1⟩ : ∃ s : Int, v = .int s ∧ 0 < s ∧ s ≤ 1000000000000000000000000000000 := by
    simp only [List.mem_cons, List.not_mem_nil, or_false] at hv
    rcases hv with rfl | rfl | rfl | rfl
    · exact ⟨_, rfl, by decide, by decide⟩
    · exact ⟨_, rfl, by decide, by decide⟩
    · exact ⟨_, rfl, by decide, by decide⟩
    · exact ⟨_, rfl, by omega, by omega⟩
  refine ⟨s, m + 4, rfl, rfl, s0, Bn.mono (n := 110) (bnS (by omega) (by omega)) (by decide), fun i i0 i1 => ?_⟩
  refine ⟨_, m + 3, rfl, rfl, by show 0 < 6; decide, by show 6 < 1000000; decide, fun v hv => ?_⟩
  obtain ⟨t, rfl, t0, t1⟩ : ∃ s : Int, v = .int s ∧ 0 < s ∧ s ≤ 16 := by
    simp only [List.mem_cons, List.not_mem_nil, or_false] at hv
    rcases hv with rfl | rfl | rfl | rfl | rfl | rfl <;> exact ⟨_, rfl, by decide, by decide⟩
  refine ⟨mo, m + 2, rfl, rfl, by omega, Bn.mono (n := 110) (bnS (by omega) (by omega)) (by decide), fun j j0 j1 => ?_⟩
  refine ⟨_, m + 1, rfl, rfl, by show 0 < 3; decide, by show 3 < 1000000; decide, fun v hv => ?_⟩
  obtain ⟨u, rfl, u0, u1⟩ : ∃ s : Int, v = .int s ∧ 0 < s ∧ s ≤ 1000000000000000000000000000001 := by
    simp only [List.mem_cons, List.not_mem_nil, or_false] at hv
    rcases hv with rfl | rfl | rfl
    · exact ⟨_, rfl, by omega, by omega⟩
    · exact ⟨_, rfl, by omega, by omega⟩
    · exact ⟨_, rfl, by omega, by omega⟩
  obtain ⟨l1, l2, l3, l4, l5⟩ := low_pos (n := 1 + i) (d := u) (by omega) u0
  refine ⟨1 + i, u, rfl, by omega, u0, Bn.mono (n := 110) (bnS (by omega) (by omega)) (by decide), 13, m, rfl, rfl, by decide, Bn.small (by decide) (by decide) (by decide), fun e e0 e1 => ?_⟩
  have bn : Bn 110 (low (1 + i) u).1 := Bn.mono (n := 110) (bnS (by omega) (by omega)) (by decide)
  have bd : Bn 110 (low (1 + i) u).2 := Bn.mono (n := 110) (bnS (by omega) (by omega)) (by decide)
  refine ⟨_, _, _, rfl, Int.le_of_lt l1, bn.mono (by decide), l2, bd.mono (by decide), by omega, by omega, ?_⟩
  obtain ⟨o1, o2, o3⟩ := scl_ok (e := e - 6) l1 l2
  obtain ⟨p1, p2⟩ := scl_B (e := e - 6) l1 l2 bn bd 140 (by omega) (by omega) (by decide) (by decide)
  exact h _ _ o1 p1 o2 p2 o3
section
variable {P : Program} {w : World} {K : Fg} {mg : Str → Option Value} {base : Heap}
theorem d__law_number (T : Tx w K mg) {cdv : Value} {A : Around} {outer : List Env} {s : Shared} {H : Hp} {E : XK} (hr : Room 3 (A.deeper (envOfC "_law_number" (defScope st__law_number) s.heap.objs.size T.f__law_number cdv))) (hgd : (A.deeper (envOfC "_law_number" (defScope st__law_number) s.heap.objs.size T.f__law_number cdv)).guards = some []) :
    PSs (cxOf CX0 P w K mg base N__law_number "_law_number" (defScope st__law_number) T.f__law_number cdv A outer s H E).nox (defBody st__law_number) (upS K W0 b__law_number) :=
  (ss_cons (s_par (i := 2) (j := 3) rfl sc__law_number.nd rfl rfl (by decide) rfl rfl (e_add e_int (e_call (ok__law_draw T) (hr.mono (by decide)) hgd (by rfl) T.g__law_draw T.F__law_draw.kp T.b__law_draw pass0 (a_cons (e_var 0 (pv 0)) (a_cons (e_call (ok__law_pick T) (hr.mono (by decide)) hgd (by rfl) T.g__law_pick T.F__law_pick.kp T.b__law_pick pass0 (a_cons (e_var 0 (pv 0)) (a_cons (e_fz (e_lstL (a_cons e_int (a_cons e_int (a_cons e_int (a_cons (e_var 1 (pv 1)) a_nil)))))) a_nil))) a_nil)))) (e_call (ok__law_pick T) (hr.mono (by decide)) hgd (by rfl) T.g__law_pick T.F__law_pick.kp T.b__law_pick pass0 (a_cons (e_var 0 (pv 0)) (a_cons (e_fz (e_lstL (a_cons e_int (a_cons e_int (a_cons e_int (a_cons e_int (a_cons e_int (a_cons e_int a_nil)))))))) a_nil))))
    (ss_cons (s_set (i := 3) sc__law_number.nd rfl (.inl rfl) (e_call (ok__law_pick T) (hr.mono (by decide)) hgd (by rfl) T.g__law_pick T.F__law_pick.kp T.b__law_pick pass0 (a_cons (e_var 0 (pv 0)) (a_cons (e_fz (e_lstL (a_cons (e_var 3 (pv 3)) (a_cons (e_var 3 (pv 3)) (a_cons (e_add e_int (e_call (ok__law_draw T) (hr.mono (by decide)) hgd (by rfl) T.g__law_draw T.F__law_draw.kp T.b__law_draw pass0 (a_cons (e_var 0 (pv 0)) (a_cons (e_var 1 (pv 1)) a_nil)))) a_nil))))) a_nil))))
    (ss_one (s_ret (e_call (ok__law_scaled T) (hr.mono (by decide)) hgd (by rfl) T.g__law_scaled T.F__law_scaled.kp T.b__law_scaled pass0 (a_cons (e_call (ok__law_low T) (hr.mono (by decide)) hgd (by rfl) T.g__law_low T.F__law_low.kp T.b__law_low pass0 (a_cons (e_var 2 (pv 2)) (a_cons (e_var 3 (pv 3)) a_nil))) (a_cons (e_sub (e_call (ok__law_draw T) (hr.mono (by decide)) hgd (by rfl) T.g__law_draw T.F__law_draw.kp T.b__law_draw pass0 (a_cons (e_var 0 (pv 0)) (a_cons e_int a_nil))) e_int) a_nil)))))))
theorem ok__law_number (T : Tx w K mg) : Fn P w K mg base CX0 4 T.f__law_number T.fd__law_number ["_law_source_here", "_law_most"] (lift K 2 fs__law_number) := fn_data T.F__law_number sc__law_number b__law_number (fun _ _ _ _ _ _ hr hgd => d__law_number T hr hgd) p__law_number
end
def b__law_rule : DS :=
  (dRet (dCall 2 fs__law_pick (dCons (dVar 0) (dCons (dFz (dLst (dCons (dC (.str "down")) (dCons (dC (.str "half_down")) (dCons (dC (.str "half_even")) (dCons (dC (.str "half_up")) (dCons (dC (.str "odd")) (dCons (dC (.str "up")) dNil)))))))) dNil))))
def ruD : List Da := [.str "down", .str "half_down", .str "half_even", .str "half_up", .str "odd", .str "up"]
theorem ru_memD {x : Da} (h : x ∈ ruD) : ∃ r : Ru, x = .str r.s := by
  simp only [ruD, List.mem_cons, List.not_mem_nil, or_false] at h
  rcases h with rfl | rfl | rfl | rfl | rfl | rfl
  · exact ⟨.dn, rfl⟩
  · exact ⟨.hd, rfl⟩
  · exact ⟨.he, rfl⟩
  · exact ⟨.hu, rfl⟩
  · exact ⟨.od, rfl⟩
  · exact ⟨.up, rfl⟩
def fs__law_rule : FSp := fun rs fu post => ∃ m : Nat, rs = [.src] ∧ fu = some (m + 1) ∧ ∀ r : Ru, post (.val (.str r.s)) (some m)
theorem p__law_rule (rs : List Rv) (fu : Option Nat) (post : Rr → Option Nat → Prop) (hl : rs.length = 1) (h : fs__law_rule rs fu post) : b__law_rule ⟨fun g => post (.val .none) g.fu, fun r g => post r g.fu, fun _ => False, fun _ => False⟩ (ent N__law_rule rs fu) := by
  obtain ⟨m, rfl, rfl, h⟩ := h
  simp_arith [b__law_rule, fs__law_pick]
  refine ⟨_, m, rfl, rfl, by show 0 < 6; decide, by show 6 < 1000000; decide, fun v hv => ?_⟩
  obtain ⟨r, rfl⟩ := ru_memD hv
  exact h r
section
variable {P : Program} {w : World} {K : Fg} {mg : Str → Option Value} {base : Heap}
theorem d__law_rule (T : Tx w K mg) {cdv : Value} {A : Around} {outer : List Env} {s : Shared} {H : Hp} {E : XK} (hr : Room 2 (A.deeper (envOfC "_law_rule" (defScope st__law_rule) s.heap.objs.size T.f__law_rule cdv))) (hgd : (A.deeper (envOfC "_law_rule" (defScope st__law_rule) s.heap.objs.size T.f__law_rule cdv)).guards = some []) :
    PSs (cxOf CX0 P w K mg base N__law_rule "_law_rule" (defScope st__law_rule) T.f__law_rule cdv A outer s H E).nox (defBody st__law_rule) (upS K W0 b__law_rule) :=
  (ss_one (s_ret (e_call (ok__law_pick T) (hr.mono (by decide)) hgd (by rfl) T.g__law_pick T.F__law_pick.kp T.b__law_pick pass0 (a_cons (e_var 0 (pv 0)) (a_cons (e_fz (e_lstL (a_cons e_str (a_cons e_str (a_cons e_str (a_cons e_str (a_cons e_str (a_cons e_str a_nil)))))))) a_nil)))))
theorem ok__law_rule (T : Tx w K mg) : Fn P w K mg base CX0 3 T.f__law_rule T.fd__law_rule ["_law_source_here"] (lift K 1 fs__law_rule) := fn_data T.F__law_rule sc__law_rule b__law_rule (fun _ _ _ _ _ _ hr hgd => d__law_rule T hr hgd) p__law_rule
end
def b__law_chain : DS :=
  (dSeq (dSetL 4 (dLst (dCons (dTup (dCons (dVar 1) (dCons (dCall 1 fs__law_rule (dCons (dVar 0) dNil)) dNil))) dNil)))
  (dSeq (dFor (dRange1 (dCall 2 fs__law_draw (dCons (dVar 0) (dCons (dVar 2) dNil)))) (dN 5)
    (dApp 4 (dTup (dCons (dBin fAdd (dBin fAdd (dVar 1) (dC (.int 1))) (dCall 2 fs__law_draw (dCons (dVar 0) (dCons (dVar 3) dNil)))) (dCons (dCall 1 fs__law_rule (dCons (dVar 0) dNil)) dNil)))))
  (dSeq (dIfS (dTest (dBin oGt (dCall 2 fs__law_draw (dCons (dVar 0) (dCons (dC (.int 4)) dNil))) (dC (.int 0))))
    (dSeq (dAsg (dCB cSortedD (dCons (dFz (dLc [7, 8] (dItems (dVar 4)) (dT 2 (dTc (dN 7) (dTc (dN 8) dTn))) dYes (dTup (dCons (dBin oSub (dC (.int 0)) (dVar 7)) (dCons (dVar 8) dNil))))) dNil)) (dN 6))
  (dRet (dCB cTuple (dCons (dFz (dLc [7, 8] (dItems (dVar 6)) (dT 2 (dTc (dN 7) (dTc (dN 8) dTn))) dYes (dTup (dCons (dBin oSub (dC (.int 0)) (dVar 7)) (dCons (dVar 8) dNil))))) dNil))))
    dNext)
  (dRet (dCB cTuple (dCons (dBin fAdd (dSl (dVar 4) (oSo (dC (.int 1))) oNo) (dSl (dVar 4) oNo (oSo (dC (.int 1))))) dNil))))))
/-- what a drawn chain is: its least width is last -/
structure Drc (last far most : Int) (c : List (Int × Ru)) : Prop where
  r : ∀ s ∈ c, last ≤ s.1 ∧ s.1 ≤ last + far
  l : ∃ s ∈ c, s.1 = last
  n : (c.length : Int) ≤ most
theorem Drc.chn {last far most : Int} {c : List (Int × Ru)} (h : Drc last far most c) (h1 : 1 ≤ last) (h2 : last + far ≤ 100) (h3 : most ≤ 12) : Chn1 c := by
  obtain ⟨s, hs, _⟩ := h.l
  have := h.n
  refine ⟨fun e => ?_, by omega, fun t ht => by have := h.r t ht; omega⟩
  rw [e] at hs
  exact absurd hs (by simp)
/-- its last step is the narrowest -/
def EndW (last : Int) (c : List (Int × Ru)) : Prop := ∃ (c0 : List (Int × Ru)) (r : Ru), c = c0 ++ [(last, r)]
theorem Drc.perm {last far most : Int} {c c' : List (Int × Ru)} (h : Drc last far most c) (h1 : ∀ s ∈ c', s ∈ c) (h2 : ∀ s ∈ c, s ∈ c') (h3 : c'.length = c.length) : Drc last far most c' := by
  obtain ⟨s, hs, e⟩ := h.l
  have := h.n
  exact ⟨fun t ht => h.r t (h1 t ht), ⟨s, h2 s hs, e⟩, by omega⟩
def ngD (s : Int × Ru) : Da := .tuple [.int (0 - s.1), .str s.2.s]
theorem ngD_inj {s s' : Int × Ru} (h : ngD s = ngD s') : s = s' := by
  obtain ⟨w, r⟩ := s
  obtain ⟨w', r'⟩ := s'
  simp only [ngD, PyData.tuple.injEq, List.cons.injEq, PyData.int.injEq, PyData.str.injEq, and_true] at h
  have e : stD (w, r) = stD (w', r') := by
    simp only [stD, PyData.tuple.injEq, List.cons.injEq, PyData.int.injEq, PyData.str.injEq, and_true]
    exact ⟨by omega, h.2⟩
  exact stD_inj e
theorem from_perm {f : Int × Ru → Da} {c : List (Int × Ru)} : ∀ {ds : List Da}, (∀ d ∈ ds, d ∈ c.map f) → ∃ c' : List (Int × Ru), ds = c'.map f ∧ ∀ s ∈ c', s ∈ c
  | [], _ => ⟨[], rfl, fun s hs => absurd hs (by simp)⟩
  | d :: ds, h => by
    obtain ⟨c', rfl, h2⟩ := from_perm (ds := ds) fun e he => h e (List.mem_cons_of_mem _ he)
    obtain ⟨s, hs, rfl⟩ := List.mem_map.mp (h d List.mem_cons_self)
    refine ⟨s :: c', rfl, fun t ht => ?_⟩
    rcases List.mem_cons.mp ht with rfl | ht
    · exact hs
    · exact h2 t ht
theorem cut_tl {ds : List Da} (h : 1 ≤ ds.length) : Z.cutD ds (some 1) none = ds.drop 1 := by
  unfold Z.cutD
  have e1 : HT.sIx ds.length 0 (some 1) = 1 := by
    show (if (1 : Int) < 0 then ((1 : Int) + (ds.length : Int)).toNat else min (1 : Int).toNat ds.length) = 1
    rw [if_neg (by decide)]
    simp
    omega
  rw [e1, HT.sIx_none, List.take_of_length_le (by rw [List.length_drop]; omega)]
theorem cut_hd {ds : List Da} (h : 1 ≤ ds.length) : Z.cutD ds none (some 1) = ds.take 1 := by
  unfold Z.cutD
  have e1 : HT.sIx ds.length ds.length (some 1) = 1 := by
    show (if (1 : Int) < 0 then ((1 : Int) + (ds.length : Int)).toNat else min (1 : Int).toNat ds.length) = 1
    rw [if_neg (by decide)]
    simp
    omega
  rw [e1, HT.sIx_none]
  rfl
def fs__law_chain : FSp := fun rs fu post => ∃ (last most far : Int) (m : Nat), rs = [.src, .val (.int last), .val (.int most), .val (.int far)] ∧ fu = some m ∧ 1 ≤ last ∧ 1 ≤ most ∧ most ≤ 12 ∧ 1 ≤ far ∧ last + far ≤ 100 ∧ 30 ≤ m ∧
  ∀ (c : List (Int × Ru)) (m' : Nat), m ≤ m' + 30 → Drc last far most c → EndW last c → post (.val (chD c)) (some m')
def lcF : DS := (dFor (dRange1 (dCall 2 fs__law_draw (dCons (dVar 0) (dCons (dVar 2) dNil)))) (dN 5)
    (dApp 4 (dTup (dCons (dBin fAdd (dBin fAdd (dVar 1) (dC (.int 1))) (dCall 2 fs__law_draw (dCons (dVar 0) (dCons (dVar 3) dNil)))) (dCons (dCall 1 fs__law_rule (dCons (dVar 0) dNil)) dNil)))))
def lcE : DS := (dSeq (dIfS (dTest (dBin oGt (dCall 2 fs__law_draw (dCons (dVar 0) (dCons (dC (.int 4)) dNil))) (dC (.int 0))))
    (dSeq (dAsg (dCB cSortedD (dCons (dFz (dLc [7, 8] (dItems (dVar 4)) (dT 2 (dTc (dN 7) (dTc (dN 8) dTn))) dYes (dTup (dCons (dBin oSub (dC (.int 0)) (dVar 7)) (dCons (dVar 8) dNil))))) dNil)) (dN 6))
  (dRet (dCB cTuple (dCons (dFz (dLc [7, 8] (dItems (dVar 6)) (dT 2 (dTc (dN 7) (dTc (dN 8) dTn))) dYes (dTup (dCons (dBin oSub (dC (.int 0)) (dVar 7)) (dCons (dVar 8) dNil))))) dNil))))
    dNext)
  (dRet (dCB cTuple (dCons (dBin fAdd (dSl (dVar 4) (oSo (dC (.int 1))) oNo) (dSl (dVar 4) oNo (oSo (dC (.int 1))))) dNil))))
theorem end_sorted {last far most : Int} {c : List (Int × Ru)} (hc : Drc last far most c) (pw : (c.map ngD).Pairwise (fun a b => PySem.W.dataLe false id a b = true)) : EndW last c := by
  obtain ⟨s, hs, e⟩ := hc.l
  have ne : c ≠ [] := fun z => by rw [z] at hs; exact absurd hs (by simp)
  have sp : c = c.dropLast ++ [c.getLast ne] := (List.dropLast_concat_getLast ne).symm
  generalize c.dropLast = c0 at sp
  generalize c.getLast ne = z at sp
  have z1 := hc.r z (by rw [sp]; simp)
  have z2 : z.1 ≤ s.1 := by
    rw [sp] at hs
    rcases List.mem_append.mp hs with q | q
    · rw [sp, List.map_append, List.pairwise_append] at pw
      have := le_fst (pw.2.2 (ngD s) (List.mem_map_of_mem q) (ngD z) (by simp))
      omega
    · rw [List.mem_singleton] at q
      rw [q]
      exact Int.le_refl _
  have : z = (last, z.2) := Prod.ext (by show z.1 = last; omega) rfl
  rw [this] at sp
  exact ⟨c0, z.2, sp⟩
def negD : Da → Da
  | .tuple [.int i, x] => .tuple [.int (0 - i), x]
  | d => d
theorem p_lcE {D : DEnds} {last most far : Int} {m : Nat} {t f w r : Option Sv} {c : List (Int × Ru)} (hc : Drc last far most c) (hl : c.length ≤ 100)
    (hh : ∃ (r0 : Ru) (t : List (Int × Ru)), c = (last, r0) :: t)
    (h : ∀ (c : List (Int × Ru)) (g : Gs), g.fu = some m → Drc last far most c → EndW last c → D.rt (.val (chD c)) g) :
    lcE D ⟨[some .src, some (.val (.int last)), some (.val (.int most)), some (.val (.int far)), some (.own (c.map stD)), t, f, w, r], some (m + 1), false⟩ := by
  have c1 : 1 ≤ (c.map stD).length := by
    obtain ⟨s, hs, _⟩ := hc.l
    rw [List.length_map]
    exact List.length_pos_iff.mpr (fun e => absurd hs (by rw [e]; simp))
  simp_arith [lcE, fs__law_draw]
  refine ⟨_, m, rfl, rfl, by decide, Bn.small (by decide) (by decide) (by decide), fun i i0 i1 => ⟨fun _ => ?_, fun _ => ?_⟩⟩
  · refine lc_mapT negD (fun x hx R N hR => ?_) (by simp; omega) ?_
    · obtain ⟨s, hs, rfl⟩ := List.mem_map.mp hx
      unfold stD at hR ⊢
      simp_arith [Nat.zero_add]
      exact hR _ rfl
    · have e : List.map negD (c.map stD) = c.map ngD := by
        rw [List.map_map]
        rfl
      rw [List.nil_append, e]
      obtain ⟨a1, a2, a3⟩ := pairs_sortable (ds := c.map ngD) fun d hd => by
        obtain ⟨s, hs, rfl⟩ := List.mem_map.mp hd
        exact ⟨_, _, rfl, ru_ok _⟩
      refine ⟨a1, a2, a3, fun ds' pm pw => ?_⟩
      obtain ⟨c', rfl, hm⟩ := from_perm fun d hd => pm.mem_iff.mp hd
      have hlen : c'.length = c.length := by
        have := pm.length_eq
        rw [List.length_map, List.length_map] at this
        exact this
      have hm' : ∀ s ∈ c, s ∈ c' := fun s hs => by
        obtain ⟨s', hs', e⟩ := List.mem_map.mp (pm.mem_iff.mpr (List.mem_map_of_mem (f := ngD) hs))
        rw [← ngD_inj e]
        exact hs'
      try simp_arith [Nat.zero_add]
      refine lc_mapT negD (fun x hx R N hR => ?_) (by simp; omega) ?_
      · obtain ⟨s, hs, rfl⟩ := List.mem_map.mp hx
        unfold ngD at hR ⊢
        simp_arith [Nat.zero_add]
        exact hR _ rfl
      · have e : List.map negD (c'.map ngD) = c'.map stD := by
          rw [List.map_map]
          refine List.map_congr_left fun s hs => ?_
          show PyData.tuple [.int (0 - (0 - s.1)), _] = PyData.tuple [.int s.1, _]
          rw [show 0 - (0 - s.1) = s.1 by omega]
        rw [List.nil_append, e]
        exact h c' _ rfl (hc.perm hm hm' hlen) (end_sorted (hc.perm hm hm' hlen) pw)
  · rw [cut_tl c1, cut_hd c1, ← List.map_drop, ← List.map_take, ← List.map_append]
    refine ⟨by simp only [List.length_map, List.length_append, List.length_drop, List.length_take, sizeLine_eq]; omega, ?_⟩
    refine h (c.drop 1 ++ c.take 1) _ rfl (hc.perm (fun s hs => ?_) (fun s hs => ?_) ?_) (by obtain ⟨r0, t, rfl⟩ := hh; exact ⟨t, r0, rfl⟩)
    · rcases List.mem_append.mp hs with q | q
      · exact List.mem_of_mem_drop q
      · exact List.mem_of_mem_take q
    · rw [← List.take_append_drop 1 c] at hs
      rcases List.mem_append.mp hs with q | q
      · exact List.mem_append_right _ q
      · exact List.mem_append_left _ q
    · rw [List.length_append, List.length_drop, List.length_take]
      rw [List.length_map] at c1
      omega
theorem p__law_chain (rs : List Rv) (fu : Option Nat) (post : Rr → Option Nat → Prop) (hl : rs.length = 4) (h : fs__law_chain rs fu post) : b__law_chain ⟨fun g => post (.val .none) g.fu, fun r g => post r g.fu, fun _ => False, fun _ => False⟩ (ent N__law_chain rs fu) := by
  obtain ⟨last, most, far, m0, rfl, rfl, h1, h2, h3, h4, h5, hm, h⟩ := h
  obtain ⟨m, rfl⟩ : ∃ m, m0 = m + 30 := ⟨m0 - 30, by omega⟩
  show dSeq _ (dSeq lcF lcE) _ _
  simp_arith [lcF, fs__law_draw, fs__law_rule]
  refine ⟨m + 29, rfl, fun r0 => ⟨most, m + 28, rfl, rfl, by omega, Bn.small (by omega) (by omega) (by decide), fun i i0 i1 => ⟨by omega, by omega, ?_⟩⟩⟩
  refine forD_ix (k := 0) (fun k g => ∃ (c : List (Int × Ru)) (m' : Nat) (t f w r : Option Sv), g = ⟨[some .src, some (.val (.int last)), some (.val (.int most)), some (.val (.int far)), some (.own (c.map stD)), t, f, w, r], some m', false⟩ ∧ m + 28 ≤ m' + 2 * k ∧ c.length = k + 1 ∧ (∀ s ∈ c, last ≤ s.1 ∧ s.1 ≤ last + far) ∧ (∃ s ∈ c, s.1 = last) ∧ ∃ (r0 : Ru) (t : List (Int × Ru)), c = (last, r0) :: t) (fun k x hx g hg N hN => ?_) (fun g hg => ?_) ⟨[(last, r0)], m + 28, _, _, _, _, rfl, by omega, rfl, fun s hs => ?_, ⟨(last, r0), List.mem_cons_self, rfl⟩, r0, [], rfl⟩
  · obtain ⟨c, m', t, f, w, r, rfl, q1, q2, q3, q4, q5⟩ := hg
    have hk : k < 12 := by
      have := (List.getElem?_eq_some_iff.mp hx).1
      rw [rangeD_len] at this
      omega
    obtain ⟨m1, rfl⟩ : ∃ m1, m' = m1 + 2 := ⟨m' - 2, by omega⟩
    simp_arith [fs__law_draw, fs__law_rule]
    refine ⟨⟨_, rfl⟩, far, m1 + 1, rfl, rfl, by omega, Bn.small (by omega) (by omega) (by decide), fun j j0 j1 => ⟨m1, rfl, fun r1 => ⟨by rw [List.length_map]; omega, ?_⟩⟩⟩
    refine hN _ ⟨c ++ [(last + 1 + j, r1)], m1, some (.val x), f, w, r, ?_, by omega, by rw [List.length_append]; simp; omega, fun s hs => ?_, ?_, ?_⟩
    · rw [List.map_append]
      rfl
    · rcases List.mem_append.mp hs with hs | hs
      · exact q3 s hs
      · rcases List.mem_cons.mp hs with rfl | hs
        · exact ⟨by show last ≤ last + 1 + j; omega, by show last + 1 + j ≤ last + far; omega⟩
        · exact absurd hs (by simp)
    · obtain ⟨s, hs, e⟩ := q4
      exact ⟨s, List.mem_append_left _ hs, e⟩
    · obtain ⟨r0, t, rfl⟩ := q5
      exact ⟨r0, _, rfl⟩
  · obtain ⟨c, m', t, f, w, r, rfl, q1, q2, q3, q4, q5⟩ := hg
    rw [rangeD_len] at q1 q2
    obtain ⟨m1, rfl⟩ : ∃ m1, m' = m1 + 1 := ⟨m' - 1, by omega⟩
    refine p_lcE ⟨q3, q4, by omega⟩ (by omega) q5 fun c' g e hc' he => ?_
    have := h c' m1 (by omega) hc' he
    rw [← e] at this
    exact this
  · rcases List.mem_cons.mp hs with rfl | hs
    · exact ⟨Int.le_refl _, by show last ≤ last + far; omega⟩
    · exact absurd hs (by simp)
section
variable {P : Program} {w : World} {K : Fg} {mg : Str → Option Value} {base : Heap}
theorem d__law_chain (T : Tx w K mg) {cdv : Value} {A : Around} {outer : List Env} {s : Shared} {H : Hp} {E : XK} (hr : Room 3 (A.deeper (envOfC "_law_chain" (defScope st__law_chain) s.heap.objs.size T.f__law_chain cdv))) (hgd : (A.deeper (envOfC "_law_chain" (defScope st__law_chain) s.heap.objs.size T.f__law_chain cdv)).guards = some []) :
    PSs (cxOf CX0 P w K mg base N__law_chain "_law_chain" (defScope st__law_chain) T.f__law_chain cdv A outer s H E).nox (defBody st__law_chain) (upS K W0 b__law_chain) :=
  (ss_cons (s_setL (i := 4) sc__law_chain.nd rfl (.inl rfl) (e_lstL (a_cons (e_tup (a_cons (e_var 1 (pv 1)) (a_cons (e_call (ok__law_rule T) (hr.mono (by decide)) hgd (by rfl) T.g__law_rule T.F__law_rule.kp T.b__law_rule pass0 (a_cons (e_var 0 (pv 0)) a_nil)) a_nil))) a_nil)))
    (ss_cons (s_for PassesOwn.never rfl (i_range1 (by rfl) T.n_range (e_call (ok__law_draw T) (hr.mono (by decide)) hgd (by rfl) T.g__law_draw T.F__law_draw.kp T.b__law_draw pass0 (a_cons (e_var 0 (pv 0)) (a_cons (e_var 2 (pv 2)) a_nil)))) (g_name (pg_name (i := 5) sc__law_chain.nd rfl (.inl rfl))) (ss_one (s_app (name := "x") (pv 4) (e_tup (a_cons (e_add (e_add (e_var 1 (pv 1)) e_int) (e_call (ok__law_draw T) (hr.mono (by decide)) hgd (by rfl) T.g__law_draw T.F__law_draw.kp T.b__law_draw pass0 (a_cons (e_var 0 (pv 0)) (a_cons (e_var 3 (pv 3)) a_nil)))) (a_cons (e_call (ok__law_rule T) (hr.mono (by decide)) hgd (by rfl) T.g__law_rule T.F__law_rule.kp T.b__law_rule pass0 (a_cons (e_var 0 (pv 0)) a_nil)) a_nil))) (fun h => pe_bm PySem.F.plainAttrs_list PySem.F.slot_list_append PySem.F.type_list_append mt_append (pv 4) h))))
    (ss_cons (s_if (t_gt (e_call (ok__law_draw T) (hr.mono (by decide)) hgd (by rfl) T.g__law_draw T.F__law_draw.kp T.b__law_draw pass0 (a_cons (e_var 0 (pv 0)) (a_cons e_int a_nil))) e_int) (ss_cons (s_set (i := 6) sc__law_chain.nd rfl (.inl rfl) (e_sortedD hr (by rfl) T.n_sorted (a_cons (e_fz (e_lc (own := [("_law_width", 7), ("_law_rule_here", 8)]) rfl sc__law_chain.nd (i_items (e_var 4 (pv 4))) (blkOk_by (own := [("_law_width", 7), ("_law_rule_here", 8)]) (N := N__law_chain) (sc := defScope st__law_chain) (by decide +kernel)) (fun _ _ _ _ _ => (gw_tup rfl rfl (gsw_cons (gw_name rfl (pg_name (i := 7) sc__law_chain.nd rfl (.inl rfl)) (by decide)) (gsw_cons (gw_name rfl (pg_name (i := 8) sc__law_chain.nd rfl (.inl rfl)) (by decide)) gsw_nil)))) (fun _ _ _ _ _ => ts_yes) (fun _ _ _ _ _ => (e_tup (a_cons (e_sub e_int (e_var 7 (pv 7))) (a_cons (e_var 8 (pv 8)) a_nil)))))) a_nil)))
    (ss_one (s_ret (e_tuple (by rfl) T.n_tuple (a_cons (e_fz (e_lc (own := [("_law_width", 7), ("_law_rule_here", 8)]) rfl sc__law_chain.nd (i_items (e_var 6 (pv 6))) (blkOk_by (own := [("_law_width", 7), ("_law_rule_here", 8)]) (N := N__law_chain) (sc := defScope st__law_chain) (by decide +kernel)) (fun _ _ _ _ _ => (gw_tup rfl rfl (gsw_cons (gw_name rfl (pg_name (i := 7) sc__law_chain.nd rfl (.inl rfl)) (by decide)) (gsw_cons (gw_name rfl (pg_name (i := 8) sc__law_chain.nd rfl (.inl rfl)) (by decide)) gsw_nil)))) (fun _ _ _ _ _ => ts_yes) (fun _ _ _ _ _ => (e_tup (a_cons (e_sub e_int (e_var 7 (pv 7))) (a_cons (e_var 8 (pv 8)) a_nil)))))) a_nil))))) ss_nil)
    (ss_one (s_ret (e_tuple (by rfl) T.n_tuple (a_cons (e_add (e_sl (e_var 4 (pv 4)) (o_some e_int) o_none) (e_sl (e_var 4 (pv 4)) o_none (o_some e_int))) a_nil)))))))
theorem ok__law_chain (T : Tx w K mg) : Fn P w K mg base CX0 4 T.f__law_chain T.fd__law_chain ["_law_source_here", "_law_last", "_law_most", "_law_far"] (lift K 4 fs__law_chain) := fn_data T.F__law_chain sc__law_chain b__law_chain (fun _ _ _ _ _ _ hr hgd => d__law_chain T hr hgd) p__law_chain
end
def b__law_number_text : DS :=
  (dRet (dBin fAdd (dCB cStrI (dCons (dIx (dVar 0) (dC (.int 0))) dNil)) (dIf (dTest (dBin oGt (dIx (dVar 0) (dC (.int 1))) (dC (.int 1)))) (dBin fAdd (dC (.str "/")) (dCB cStrI (dCons (dIx (dVar 0) (dC (.int 1))) dNil))) (dC (.str "")))))
theorem sg_app (x y : Str) : sg (x ++ y) = sg x ++ sg y := TL.tl_append x y
theorem _root_.Z.TX.app {a b : Nat} {x y : Str} (hx : TX a x) (hy : TX b y) (hl : x.length + y.length ≤ 20000) : TX (a + b) (x ++ y) :=
  ⟨by rw [Str.length_append]; exact hl, fun c hc => by
    rw [sg_app, List.mem_append] at hc
    exact hc.elim (hx.asc c) (hy.asc c), by
    rw [sg_app, List.countP_append]
    have := hx.dg
    have := hy.dg
    omega⟩
theorem cut_sub (z : Str) (a b : Option Int) : (sg (cutS z a b)).Sublist (sg z) := by
  show (((z.cps.toList.drop _).take _).toArray.toList).Sublist z.cps.toList
  rw [List.toList_toArray]
  exact (List.take_sublist _ _).trans (List.drop_sublist _ _)
theorem _root_.Z.TX.cut {n : Nat} {z : Str} (h : TX n z) (a b : Option Int) : TX n (cutS z a b) := h.sub (cut_sub z a b)
theorem rev_len (z : Str) : (revS z).length = z.length := by
  show (z.cps.toList.reverse.toArray).size = z.cps.size
  rw [List.size_toArray, List.length_reverse, Array.length_toList]
theorem _root_.Z.TX.rev {n : Nat} {z : Str} (h : TX n z) : TX n (revS z) := by
  have e : sg (revS z) = (sg z).reverse := List.toList_toArray
  refine ⟨by rw [rev_len]; exact h.len, fun c hc => h.asc c (by rw [e] at hc; exact List.mem_reverse.mp hc), ?_⟩
  rw [e, List.countP_reverse]
  exact h.dg
theorem _root_.Z.TX.lit {x : Str} {n : Nat} (h : (decide (x.length ≤ 20000) && (sg x).all (fun c => decide (c < 128)) && decide ((sg x).countP isDg ≤ n)) = true) : TX n x := by
  simp only [Bool.and_eq_true, decide_eq_true_eq, List.all_eq_true] at h
  exact ⟨h.1.1, h.1.2, h.2⟩
/-- a text of the law with its length told -/
structure TL2 (l n : Nat) (t : Str) : Prop where
  tx : TX n t
  len : t.length ≤ l
theorem TL2.mono {l n l' n' : Nat} {t : Str} (h : TL2 l n t) (h1 : l ≤ l') (h2 : n ≤ n') : TL2 l' n' t := ⟨h.tx.mono h2, Nat.le_trans h.len h1⟩
theorem TL2.app {l n l' n' : Nat} {x y : Str} (h : TL2 l n x) (h' : TL2 l' n' y) (hl : l + l' ≤ 20000) : TL2 (l + l') (n + n') (x ++ y) :=
  ⟨h.tx.app h'.tx (by have := h.len; have := h'.len; omega), by rw [Str.length_append]; have := h.len; have := h'.len; omega⟩
theorem dig_len : ∀ (k m : Nat), m < 10 ^ (k + 1) → (Nat.toDigits 10 m).length ≤ k + 1 ∧ ∀ c ∈ Nat.toDigits 10 m, c.toNat < 128
  | k, m, h => by
    by_cases h1 : m < 10
    · rw [Nat.toDigits_of_lt_base h1]
      refine ⟨by rw [List.length_singleton]; omega, fun c hc => ?_⟩
      rw [List.mem_singleton.mp hc]
      have all : ∀ d < 10, (Nat.digitChar d).toNat < 128 := by decide
      exact all m h1
    · cases k with
      | zero => omega
      | succ k =>
        have hm : m % 10 < 10 := Nat.mod_lt m (by decide)
        have t : Nat.toDigits 10 (m / 10) ++ Nat.toDigits 10 (m % 10) = Nat.toDigits 10 (10 * (m / 10) + m % 10) := Nat.toDigits_append_toDigits (by decide) (by omega) hm
        rw [Nat.div_add_mod] at t
        have ih := dig_len k (m / 10) (by rw [Nat.pow_succ] at h; omega)
        have i0 := dig_len 0 (m % 10) (by omega)
        rw [← t]
        refine ⟨by rw [List.length_append]; omega, fun c hc => ?_⟩
        rcases List.mem_append.mp hc with hc | hc
        · exact ih.2 c hc
        · exact i0.2 c hc
theorem int_tl {n : Int} {k : Nat} (h0 : 0 ≤ n) (h1 : n.toNat < 10 ^ (k + 1)) (hk : k ≤ 1000) : TL2 (k + 1) (k + 1) (Str.ofString (toString n)) := by
  obtain ⟨m, rfl⟩ : ∃ m : Nat, n = m := ⟨n.toNat, by omega⟩
  obtain ⟨d1, d2⟩ := dig_len k m (by simpa using h1)
  have e : sg (Str.ofString (toString ((m : Nat) : Int))) = (Nat.toDigits 10 m).map Char.toNat := PySem.W.KIN.signs_num m
  have len : (Str.ofString (toString ((m : Nat) : Int))).length ≤ k + 1 := by rw [← sg_len, e, List.length_map]; exact d1
  refine ⟨⟨by omega, fun c hc => ?_, ?_⟩, len⟩
  · rw [e] at hc
    obtain ⟨x, hx, rfl⟩ := List.mem_map.mp hc
    exact d2 x hx
  · refine Nat.le_trans List.countP_le_length ?_
    rw [sg_len]
    exact len
theorem emp_tl : TL2 0 0 Str.empty := ⟨TX.lit (by decide +kernel), by decide +kernel⟩
theorem dig_head : ∀ m : Nat, 0 < m → ∃ c r, Nat.toDigits 10 m = c :: r ∧ c ≠ '0' := fun m => by
  induction m using Nat.strongRecOn with
  | _ m ih =>
    intro h0
    by_cases h1 : m < 10
    · rw [Nat.toDigits_of_lt_base h1]
      refine ⟨_, [], rfl, ?_⟩
      have all : ∀ d < 10, 0 < d → Nat.digitChar d ≠ '0' := by decide
      exact all m h1 h0
    · have hm : m % 10 < 10 := Nat.mod_lt m (by decide)
      have t : Nat.toDigits 10 (m / 10) ++ Nat.toDigits 10 (m % 10) = Nat.toDigits 10 (10 * (m / 10) + m % 10) := Nat.toDigits_append_toDigits (by decide) (by omega) hm
      rw [Nat.div_add_mod] at t
      obtain ⟨c, r, e, hc⟩ := ih (m / 10) (by omega) (by omega)
      rw [← t, e]
      exact ⟨c, r ++ Nat.toDigits 10 (m % 10), rfl, hc⟩
theorem dig_dg : ∀ m : Nat, ∀ c ∈ Nat.toDigits 10 m, isDg c.toNat = true := fun m => by
  induction m using Nat.strongRecOn with
  | _ m ih =>
    by_cases h1 : m < 10
    · rw [Nat.toDigits_of_lt_base h1]
      intro c hc
      rw [List.mem_singleton.mp hc]
      have all : ∀ d < 10, isDg (Nat.digitChar d).toNat = true := by decide
      exact all m h1
    · have hm : m % 10 < 10 := Nat.mod_lt m (by decide)
      have t : Nat.toDigits 10 (m / 10) ++ Nat.toDigits 10 (m % 10) = Nat.toDigits 10 (10 * (m / 10) + m % 10) := Nat.toDigits_append_toDigits (by decide) (by omega) hm
      rw [Nat.div_add_mod] at t
      intro c hc
      rw [← t] at hc
      rcases List.mem_append.mp hc with hc | hc
      · exact ih (m / 10) (by omega) c hc
      · exact ih (m % 10) (by omega) c hc
/-- what an int writes -/
def itS (n : Int) : Str := Str.ofString (toString n)
theorem it_sg {n : Int} (h0 : 0 < n) : ∃ m : Nat, 0 < m ∧ n = m ∧ sg (itS n) = (Nat.toDigits 10 m).map Char.toNat := by
  obtain ⟨m, rfl⟩ : ∃ m : Nat, n = m := ⟨n.toNat, by omega⟩
  exact ⟨m, by omega, rfl, PySem.W.KIN.signs_num m⟩
theorem it_dg {n : Int} (h0 : 0 < n) : ∀ c ∈ sg (itS n), 48 ≤ c ∧ c ≤ 57 := by
  obtain ⟨m, hm, rfl, e⟩ := it_sg h0
  intro c hc
  rw [e] at hc
  obtain ⟨x, hx, rfl⟩ := List.mem_map.mp hc
  have := dig_dg m x hx
  simpa [isDg] using this
theorem it_in {n : Int} (h0 : 0 < n) : intIn (itS n) = some n := by
  have dg := it_dg h0
  obtain ⟨m, hm, rfl, e⟩ := it_sg h0
  obtain ⟨c, r, e2, hc⟩ := dig_head m hm
  have v : PySem.NumText.digitsVal (sg (itS (m : Int))) = m := by rw [e]; exact PySem.W.KIN.val_back m
  unfold intIn
  rw [if_neg, v]
  have d1 : dgW (itS (m : Int)) = true := List.all_eq_true.mpr fun c hc => by
    have := dg c hc
    simp [isDg]
    omega
  have d2 : (sg (itS (m : Int))).isEmpty = false := by rw [e, e2]; rfl
  have d3 : (sg (itS (m : Int))).head? ≠ some 48 := by
    rw [e, e2]
    intro z
    injection z with z
    exact hc (Char.toNat_inj.mp z)
  rw [d1, d2, decide_eq_false d3]
  simp
theorem app_join (sep x y : Str) : Txt.join sep [x, y] = x ++ sep ++ y := rfl
theorem emp_app (x : Str) : Str.empty ++ x = x := TL.ext_tl (by rw [TL.tl_append]; rfl)
theorem spl_one {sep x : Str} {s : Nat} {S : List Nat} (ey : TL.tl sep = s :: S) (hk : sep.cps.all (· < 256) = true) (h : s ∉ sg x) : Txt.split x sep = [x] := by
  have := TL.split_join ey hk (parts := [x]) (by simp) fun p hp => by rw [List.mem_singleton.mp hp]; exact h
  exact this
theorem numIn_T {n d : Int} (n0 : 0 < n) (d0 : 0 < d) (g : Int.gcd n d = 1) : numIn (numT n d) = some (n, d) := by
  have s47 : ∀ k : Int, 0 < k → 47 ∉ sg (itS k) := fun k hk z => by
    have := it_dg hk _ z
    omega
  have i := isNum_num (n := n) (d := d) (by omega) (by omega) g
  unfold numIn numT
  by_cases e : d = 1
  · rw [if_pos e]
    subst e
    rw [show Txt.split (Str.ofString (toString n)) "/" = [itS n] from spl_one (s := 47) (S := []) rfl (by decide +kernel) (s47 n n0)]
    simp only [List.map_cons, List.map_nil, it_in n0, numP]
    rw [if_pos i]
  · rw [if_neg e, emp_app]
    rw [show Str.ofString (toString n) ++ "/" ++ Str.ofString (toString d) = Txt.join "/" [itS n, itS d] from rfl]
    rw [TL.split_join (s := 47) (S := []) rfl (by decide +kernel) (by simp) fun p hp => ?_]
    · simp only [List.map_cons, List.map_nil, it_in n0, it_in d0, numP]
      rw [if_pos ⟨e, i⟩]
    · simp only [List.mem_cons, List.not_mem_nil, or_false] at hp
      rcases hp with rfl | rfl
      · exact s47 n n0
      · exact s47 d d0
theorem ru_sg (r : Ru) : ∀ c ∈ sg r.s, c ≠ 32 ∧ c ≠ 44 ∧ c ≠ 10 := by cases r <;> decide +kernel
theorem stp_eq2 (s : Int × Ru) : stpT s = Txt.join " " [itS s.1, s.2.s] := by
  unfold stpT
  rw [emp_app]
  rfl
theorem stp_sg {s : Int × Ru} (h : 0 < s.1) : ∀ c ∈ sg (stpT s), c ≠ 44 ∧ c ≠ 10 := fun c hc => by
  have e : sg (stpT s) = sg (itS s.1) ++ ([32] ++ sg s.2.s) := by
    rw [stp_eq2, app_join]
    show TL.tl _ = _
    rw [TL.tl_append, TL.tl_append, List.append_assoc]
    rfl
  rw [e, List.mem_append, List.mem_append] at hc
  rcases hc with hc | hc | hc
  · have := it_dg h c hc
    omega
  · rw [List.mem_singleton] at hc
    omega
  · have := ru_sg s.2 c hc
    exact ⟨this.2.1, this.2.2⟩
theorem stpIn_T {s : Int × Ru} (h : 0 < s.1) : stpIn (stpT s) = stD s := by
  unfold stpIn
  rw [stp_eq2, TL.split_join (s := 32) (S := []) rfl (by decide +kernel) (by simp) fun p hp => ?_]
  · show PyData.tuple [optI (intIn (itS s.1)), .str s.2.s] = _
    rw [it_in h]
    rfl
  · simp only [List.mem_cons, List.not_mem_nil, or_false] at hp
    rcases hp with rfl | rfl
    · intro z
      have := it_dg h _ z
      omega
    · intro z
      exact (ru_sg s.2 _ z).1 rfl
theorem chnIn_T {c : List (Int × Ru)} (hc : Chn1 c) : chnIn (chnT c) = chD c := by
  unfold chnIn chnT chD
  rw [TL.split_join (s := 44) (S := [32]) rfl (by decide +kernel) (by simpa using hc.ne) fun p hp => ?_]
  · rw [List.map_map]
    congr 1
    exact List.map_congr_left fun s hs => stpIn_T (by have := hc.w s hs; omega)
  · obtain ⟨s, hs, rfl⟩ := List.mem_map.mp hp
    intro z
    exact (stp_sg (by have := hc.w s hs; omega) _ z).1 rfl
/-- data that may be shown with a word ahead -/
structure KV (v : Da) : Prop where
  lay : layX v = true
  sh : v.showable = true
  dp : v.depth ≤ 8
  sz : szX v ≤ 300000
theorem num_kv {n d : Int} (bn : Bn 1300 n) (bd : Bn 1300 d) : KV (num n d) := by
  refine ⟨rfl, ?_, by simp [num, PyData.depth, PyData.depthAll], by simp [num, szX, szXs]⟩
  have a := showI (bn.mono (m := 1900) (by decide))
  have b := showI (bd.mono (m := 1900) (by decide))
  simp [num, PyData.showable, PyData.showableAll]
  exact ⟨a, b⟩
theorem st_v {s : Int × Ru} (h0 : 1 ≤ s.1) (h1 : s.1 ≤ 100) : layX (stD s) = true ∧ (stD s).showable = true ∧ (stD s).depth ≤ 3 ∧ szX (stD s) ≤ 3000 := by
  have r : ∀ r : Ru, PyData.strOk r.s = true ∧ PyData.showable (.str r.s) = true ∧ r.s.length ≤ 10 := fun r => by cases r <;> decide +kernel
  obtain ⟨r1, r2, r3⟩ := r s.2
  have a : PyData.showable (.int s.1) = true := by
    have := showI (n := s.1) (Bn.small (m := 1900) (by omega) (by omega) (by decide))
    simp [PyData.showable]
    exact this
  refine ⟨by simp [stD, layX, layXs, r1], by simp [stD, PyData.showableAll, PyData.showable.eq_6, a, r2], by simp [stD, PyData.depth, PyData.depthAll], ?_⟩
  simp only [stD, szX, szXs]
  omega
theorem sts_v : ∀ {c : List (Int × Ru)}, (∀ s ∈ c, 1 ≤ s.1 ∧ s.1 ≤ 100) → layXs (c.map stD) = true ∧ PyData.showableAll (c.map stD) = true ∧ PyData.depthAll (c.map stD) ≤ 3 ∧ szXs (c.map stD) ≤ 3002 * c.length
  | [], _ => ⟨rfl, rfl, by simp [PyData.depthAll], by simp [szXs]⟩
  | s :: c, h => by
    obtain ⟨a1, a2, a3, a4⟩ := st_v (h s List.mem_cons_self).1 (h s List.mem_cons_self).2
    obtain ⟨b1, b2, b3, b4⟩ := sts_v (c := c) fun t ht => h t (List.mem_cons_of_mem _ ht)
    refine ⟨by simp [layXs, a1, b1], by simp [PyData.showableAll, a2, b2], by simp only [List.map_cons, PyData.depthAll]; omega, ?_⟩
    simp only [List.map_cons, szXs, List.length_cons]
    omega
theorem v_ch {c : List (Int × Ru)} (hc : Chn1 c) : KV (chD c) := by
  obtain ⟨b1, b2, b3, b4⟩ := sts_v fun s hs => hc.w s hs
  have := hc.len
  exact ⟨b1, b2, by unfold chD; simp only [PyData.depth]; omega, by unfold chD; simp only [szX]; omega⟩
theorem stpT_tl {s : Int × Ru} (h : 1 ≤ s.1 ∧ s.1 ≤ 100) : TL2 14 3 (stpT s) := by
  have a := int_tl (n := s.1) (k := 2) (by omega) (by omega) (by decide)
  have s1 : TL2 1 0 " " := ⟨TX.lit (by decide +kernel), by decide +kernel⟩
  have r : TL2 10 0 s.2.s := by cases s.2 <;> exact ⟨TX.lit (by decide +kernel), by decide +kernel⟩
  exact (((emp_tl.app a (by decide)).app s1 (by decide)).app r (by decide)).mono (by decide) (by decide)
theorem join_tl : ∀ ps : List Str, ps.length ≤ 100 → (∀ p ∈ ps, TL2 14 3 p) → TL2 (16 * ps.length) (3 * ps.length) (Str.join ", " ps)
  | [], _, _ => emp_tl
  | [p], _, h => (h p (List.mem_cons_self ..)).mono (by simp) (by simp)
  | p :: q :: r, hl, h => by
    have s1 : TL2 2 0 ", " := ⟨TX.lit (by decide +kernel), by decide +kernel⟩
    have ih := join_tl (q :: r) (by simp only [List.length_cons] at hl ⊢; omega) fun x hx => h x (List.mem_cons_of_mem _ hx)
    have hp := h p (List.mem_cons_self ..)
    simp only [List.length_cons] at hl ih ⊢
    exact ((hp.app s1 (by decide)).app ih (by omega)).mono (by omega) (by omega)
theorem chnT_tl {c : List (Int × Ru)} (hc : Chn1 c) : TL2 192 36 (chnT c) := by
  have hl := hc.len
  have := join_tl (c.map stpT) (by rw [List.length_map]; omega) fun p hp => by
    obtain ⟨s, hs, rfl⟩ := List.mem_map.mp hp
    exact stpT_tl (hc.w s hs)
  rw [List.length_map] at this
  unfold chnT
  rw [TL.join_eq]
  exact this.mono (by omega) (by omega)
theorem bn121 {n : Int} (h : Bn 400 n) (h0 : 0 < n) : n.toNat < 10 ^ (120 + 1) := by
  have := h.lt
  have e : n.natAbs = n.toNat := by omega
  rw [e] at this
  exact Nat.lt_of_lt_of_le this (by decide +kernel)
theorem numT_tl {n d : Int} (n0 : 0 < n) (bn : Bn 400 n) (d0 : 0 < d) (bd : Bn 400 d) : TL2 260 250 (numT n d) := by
  have a := int_tl (Int.le_of_lt n0) (bn121 bn n0) (by decide)
  have b := int_tl (Int.le_of_lt d0) (bn121 bd d0) (by decide)
  have s1 : TL2 1 0 "/" := ⟨TX.lit (by decide +kernel), by decide +kernel⟩
  unfold numT
  split
  · exact a.mono (by decide) (by decide)
  · exact (((emp_tl.app a (by decide)).app s1 (by decide)).app b (by decide)).mono (by decide) (by decide)
theorem app_ass (x y z : Str) : x ++ (y ++ z) = x ++ y ++ z := TL.ext_tl (by rw [TL.tl_append, TL.tl_append, TL.tl_append, TL.tl_append, List.append_assoc])
theorem app_emp (x : Str) : x ++ Str.ofString "" = x := TL.ext_tl (by
  rw [TL.tl_append]
  show TL.tl x ++ [] = _
  rw [List.append_nil])
def fs__law_number_text : FSp := fun rs fu post => ∃ n d : Int, rs = [.val (num n d)] ∧ 0 < n ∧ 0 < d ∧ Bn 400 n ∧ Bn 400 d ∧ post (.val (.str (numT n d))) fu
theorem p__law_number_text (rs : List Rv) (fu : Option Nat) (post : Rr → Option Nat → Prop) (hl : rs.length = 1) (h : fs__law_number_text rs fu post) : b__law_number_text ⟨fun g => post (.val .none) g.fu, fun r g => post r g.fu, fun _ => False, fun _ => False⟩ (ent N__law_number_text rs fu) := by
  obtain ⟨n, d, rfl, n0, d0, bn, bd, h⟩ := h
  simp_arith [b__law_number_text, num]
  have a := (int_tl (Int.le_of_lt n0) (bn121 bn n0) (by decide)).len
  have b := (int_tl (Int.le_of_lt d0) (bn121 bd d0) (by decide)).len
  have l1 : (Str.ofString "/").length = 1 := by decide +kernel
  have l0 : (Str.ofString "").length = 0 := by decide +kernel
  have sz : (3000 : Nat) ≤ sizeLine := by decide
  unfold numT at h
  refine ⟨showI (bn.mono (m := 1900) (by decide)), fun q => ?_, fun q => ?_⟩
  · rw [if_neg (by omega), emp_app] at h
    rw [app_ass, Str.length_append, l1]
    exact ⟨showI (bd.mono (m := 1900) (by decide)), by omega, by omega, h⟩
  · rw [if_pos (by omega)] at h
    rw [app_emp, l0]
    exact ⟨by omega, h⟩
section
variable {P : Program} {w : World} {K : Fg} {mg : Str → Option Value} {base : Heap}
theorem d__law_number_text (T : Tx w K mg) {cdv : Value} {A : Around} {outer : List Env} {s : Shared} {H : Hp} {E : XK} (hr : Room 0 (A.deeper (envOfC "_law_number_text" (defScope st__law_number_text) s.heap.objs.size T.f__law_number_text cdv))) (hgd : (A.deeper (envOfC "_law_number_text" (defScope st__law_number_text) s.heap.objs.size T.f__law_number_text cdv)).guards = some []) :
    PSs (cxOf CX0 P w K mg base N__law_number_text "_law_number_text" (defScope st__law_number_text) T.f__law_number_text cdv A outer s H E).nox (defBody st__law_number_text) (upS K W0 b__law_number_text) :=
  (ss_one (s_ret (e_add (e_strI (by rfl) T.n_str (a_cons (e_ix (e_var 0 (pv 0)) e_int) a_nil)) (e_if (t_gt (e_ix (e_var 0 (pv 0)) e_int) e_int) (e_add e_str (e_strI (by rfl) T.n_str (a_cons (e_ix (e_var 0 (pv 0)) e_int) a_nil))) e_str))))
theorem ok__law_number_text (T : Tx w K mg) : Fn P w K mg base CX0 1 T.f__law_number_text T.fd__law_number_text ["_law_one"] (lift K 1 fs__law_number_text) := fn_data T.F__law_number_text sc__law_number_text b__law_number_text (fun _ _ _ _ _ _ hr hgd => d__law_number_text T hr hgd) p__law_number_text
end
def b__law_chain_text : DS :=
  (dRet (dJoin (dC (.str ", ")) (dFz (dLc [1, 2] (dItems (dVar 0)) (dT 2 (dTc (dN 1) (dTc (dN 2) dTn))) dYes (dBin fAdd (dBin fAdd (dCB cStrI (dCons (dVar 1) dNil)) (dC (.str " "))) (dVar 2))))))
def sdT2 : Da → Da
  | .tuple [.int n, .str r] => .str (Str.ofString (toString n) ++ " " ++ r)
  | _ => .none
theorem stpT_eq (s : Int × Ru) : sdT2 (stD s) = .str (stpT s) := by
  unfold stpT
  rw [emp_app]
  rfl
def fs__law_chain_text : FSp := fun rs fu post => ∃ c : List (Int × Ru), rs = [.val (chD c)] ∧ Chn1 c ∧ post (.val (.str (chnT c))) fu
theorem p__law_chain_text (rs : List Rv) (fu : Option Nat) (post : Rr → Option Nat → Prop) (hl : rs.length = 1) (h : fs__law_chain_text rs fu post) : b__law_chain_text ⟨fun g => post (.val .none) g.fu, fun r g => post r g.fu, fun _ => False, fun _ => False⟩ (ent N__law_chain_text rs fu) := by
  obtain ⟨c, rfl, hc, h⟩ := h
  simp_arith [b__law_chain_text, chD]
  have l1 : (Str.ofString " ").length = 1 := by decide +kernel
  refine lc_mapT sdT2 (fun x hx R N hR => ?_) (by rw [List.length_map, List.length_nil]; have := hc.len; omega) ?_
  · obtain ⟨s, hs, rfl⟩ := List.mem_map.mp hx
    have hw := hc.w s hs
    have ln := int_len (n := s.1) (Bn.small (by omega) (by omega) (by decide))
    have ru := ru_len s.2
    have an := showI (n := s.1) ((Bn.small (m := 1900) (by omega) (by omega) (by decide)))
    simp_arith [stD]
    simp only [Str.length_append, l1]
    rw [sizeLine_eq]
    exact ⟨an, by omega, by omega, hR _ rfl⟩
  · have e : [] ++ (c.map stD).map sdT2 = (c.map stpT).map PyData.str := by
      rw [List.nil_append, List.map_map, List.map_map]
      exact List.map_congr_left fun s _ => stpT_eq s
    rw [e]
    refine ⟨c.map stpT, rfl, ?_, h⟩
    have key : ∀ c : List (Int × Ru), Wds c → ((c.map stpT).map (·.length)).sum ≤ 2000 * c.length := fun c => by
      induction c with
      | nil => exact fun _ => Nat.le_refl _
      | cons s c ih =>
        intro hw
        have h1 := ih hw.tl
        have h2 := stpT_len hw.hd
        simp only [List.map_cons, List.sum_cons, List.length_cons]
        omega
    have k1 := key c hc.w
    have k2 := hc.len
    have k3 : (Str.ofString ", ").length = 2 := by decide +kernel
    rw [List.length_map, k3]
    omega
section
variable {P : Program} {w : World} {K : Fg} {mg : Str → Option Value} {base : Heap}
theorem d__law_chain_text (T : Tx w K mg) {cdv : Value} {A : Around} {outer : List Env} {s : Shared} {H : Hp} {E : XK} (hr : Room 0 (A.deeper (envOfC "_law_chain_text" (defScope st__law_chain_text) s.heap.objs.size T.f__law_chain_text cdv))) (hgd : (A.deeper (envOfC "_law_chain_text" (defScope st__law_chain_text) s.heap.objs.size T.f__law_chain_text cdv)).guards = some []) :
    PSs (cxOf CX0 P w K mg base N__law_chain_text "_law_chain_text" (defScope st__law_chain_text) T.f__law_chain_text cdv A outer s H E).nox (defBody st__law_chain_text) (upS K W0 b__law_chain_text) :=
  (ss_one (s_ret (e_join e_str (e_fz (e_lc (own := [("_law_wide", 1), ("_law_mode", 2)]) rfl sc__law_chain_text.nd (i_items (e_var 0 (pv 0))) (blkOk_by (own := [("_law_wide", 1), ("_law_mode", 2)]) (N := N__law_chain_text) (sc := defScope st__law_chain_text) (by decide +kernel)) (fun _ _ _ _ _ => (gw_tup rfl rfl (gsw_cons (gw_name rfl (pg_name (i := 1) sc__law_chain_text.nd rfl (.inl rfl)) (by decide)) (gsw_cons (gw_name rfl (pg_name (i := 2) sc__law_chain_text.nd rfl (.inl rfl)) (by decide)) gsw_nil)))) (fun _ _ _ _ _ => ts_yes) (fun _ _ _ _ _ => (e_add (e_add (e_strI (by rfl) T.n_str (a_cons (e_var 1 (pv 1)) a_nil)) e_str) (e_var 2 (pv 2)))))))))
theorem ok__law_chain_text (T : Tx w K mg) : Fn P w K mg base CX0 1 T.f__law_chain_text T.fd__law_chain_text ["_law_steps"] (lift K 1 fs__law_chain_text) := fn_data T.F__law_chain_text sc__law_chain_text b__law_chain_text (fun _ _ _ _ _ _ hr hgd => d__law_chain_text T hr hgd) p__law_chain_text
end
def b__law_right : DS :=
  (dSeq (dPar2E 1 2)
  (dSeq (dFor (dRange1 (dC (.int 20))) (dN 3)
    (dSeq (dAsg (dCall 2 fs__law_scaled (dCons (dCall 2 fs__law_number (dCons (dVar 0) (dCons (dBin oPow (dC (.int 10)) (dC (.int 30))) dNil))) (dCons (dCall 2 fs__law_pick (dCons (dVar 0) (dCons (dFz (dLst (dCons (dC (.int 0)) (dCons (dC (.int 0)) (dCons (dC (.int 0)) (dCons (dC (.int 200)) (dCons (dNeg (dC (.int 200))) dNil))))))) dNil))) dNil))) (dN 4))
  (dSeq (dAsg (dCall 1 fs__law_number_text (dCons (dVar 4) dNil)) (dN 5))
  (dSeq (dIfS (dTest (dBin fNe (dFz (dLst (dCons (dCall 1 fs_format_number (dCons (dVar 4) dNil)) (dCons (dCallK 1 1 [0] fs_format_number (dCons (dVar 4) dNil)) dNil)))) (dFz (dLst (dCons (dVar 5) (dCons (dVar 5) dNil))))))
    (dRet (dC (.bool false)))
    dNext)
  (dSeq (dIfS (dTest (dBin fNe (dCB cReprX (dCons (dFz (dLst (dCons (dCall 1 fs_parse_number (dCons (dVar 5) dNil)) (dCons (dCallK 1 1 [0] fs_parse_number (dCons (dVar 5) dNil)) dNil)))) dNil)) (dCB cReprX (dCons (dFz (dLst (dCons (dVar 4) (dCons (dVar 4) dNil)))) dNil))))
    (dRet (dC (.bool false)))
    dNext)
  (dSeq (dAsg (dCall 4 fs__law_chain (dCons (dVar 0) (dCons (dCall 2 fs__law_pick (dCons (dVar 0) (dCons (dFz (dLst (dCons (dC (.int 1)) (dCons (dC (.int 9)) (dCons (dC (.int 60)) dNil))))) dNil))) (dCons (dC (.int 12)) (dCons (dC (.int 40)) dNil))))) (dN 6))
  (dSeq (dAsg (dCall 1 fs__law_chain_text (dCons (dVar 6) dNil)) (dN 7))
  (dSeq (dIfS (dTest (dBin fNe (dFz (dLst (dCons (dCall 1 fs_format_chain (dCons (dVar 6) dNil)) (dCons (dCallK 1 1 [0] fs_format_chain (dCons (dVar 6) dNil)) dNil)))) (dFz (dLst (dCons (dVar 7) (dCons (dVar 7) dNil))))))
    (dRet (dC (.bool false)))
    dNext)
  (dSeq (dIfS (dTest (dBin fNe (dCB cReprX (dCons (dFz (dLst (dCons (dCall 1 fs_parse_chain (dCons (dVar 7) dNil)) (dCons (dCallK 1 1 [0] fs_parse_chain (dCons (dVar 7) dNil)) dNil)))) dNil)) (dCB cReprX (dCons (dFz (dLst (dCons (dVar 6) (dCons (dVar 6) dNil)))) dNil))))
    (dRet (dC (.bool false)))
    dNext)
  (dSeq (dExt 1 (dFz (dLst (dCons (dVar 4) (dCons (dVar 6) dNil)))))
  (dExt 2 (dFz (dLst (dCons (dVar 5) (dCons (dVar 7) dNil)))))))))))))))
  (dRet (dBin fEq (dLenSet 1) (dLenSet 2)))))
theorem two_X {v : Da} (h : KV v) : ShX (.list [v, v]) := by
  have hd := h.dp
  have hz := h.sz
  refine ⟨by simp [layX, layXs, h.lay], by simp [PyData.showable, PyData.showableAll, h.sh], ?_, ?_⟩
  · simp only [PyData.depth, PyData.depthAll]
    omega
  · simp only [szX, szXs]
    omega
theorem tx_two {n : Nat} {t : Str} (h : TX n t) : SeqAt.shaped (.list [.str t, .str t]) = true := by
  have q : Cps t := cps_ok.mp h.ok
  exact shaped_strs q q
def Pq (p : Da × Str) : Prop := (∃ n d : Int, p = (num n d, numT n d) ∧ 0 < n ∧ 0 < d ∧ Int.gcd n d = 1) ∨ ∃ c : List (Int × Ru), p = (chD c, chnT c) ∧ Chn1 c
theorem kds_stp : ∀ c c' : List (Int × Ru), ZS.kDs (c.map stD) = ZS.kDs (c'.map stD) → c.map stpT = c'.map stpT
  | [], [], _ => rfl
  | [], _ :: _, e => by simp [ZS.kDs] at e
  | _ :: _, [], e => by simp [ZS.kDs] at e
  | (w, r) :: c, (w', r') :: c', e => by
    simp only [List.map_cons, ZS.kDs, stD, ZS.kD] at e
    injection e with e1 e2
    injection e1 with e1
    injection e1 with e3 e4
    injection e3 with e3
    injection e4 with e4 _
    injection e4 with e4
    rw [List.map_cons, List.map_cons, kds_stp c c' e2]
    unfold stpT
    rw [show w = w' from e3, show r.s = r'.s from e4]
theorem sp_chn {c : List (Int × Ru)} (h : Chn1 c) : 32 ∈ sg (chnT c) := by
  have one : ∀ s : Int × Ru, 32 ∈ sg (stpT s) := fun s => by
    have e : sg (stpT s) = sg (itS s.1) ++ ([32] ++ sg s.2.s) := by
      rw [stp_eq2, app_join]
      show TL.tl _ = _
      rw [TL.tl_append, TL.tl_append, List.append_assoc]
      rfl
    rw [e]
    exact List.mem_append_right _ (List.mem_append_left _ (List.mem_singleton.mpr rfl))
  match c, h.ne with
  | [s], _ => exact one s
  | s :: t :: c, _ =>
    have e : chnT (s :: t :: c) = stpT s ++ ", " ++ chnT (t :: c) := by
      unfold chnT
      rw [TL.join_eq, TL.join_eq]
      rfl
    rw [e]
    show 32 ∈ TL.tl _
    rw [TL.tl_append, TL.tl_append, List.append_assoc]
    exact List.mem_append_left _ (one s)
theorem sp_num {n d : Int} (n0 : 0 < n) (d0 : 0 < d) : 32 ∉ sg (numT n d) := by
  unfold numT
  split
  · intro z
    have := it_dg n0 _ z
    omega
  · rw [emp_app]
    show 32 ∉ TL.tl _
    rw [TL.tl_append, TL.tl_append, List.mem_append, List.mem_append]
    rintro ((z | z) | z)
    · have := it_dg n0 _ z
      omega
    · exact absurd z (by decide +kernel)
    · have := it_dg d0 _ z
      omega
theorem num_inj {n d n' d' : Int} (n0 : 0 < n) (d0 : 0 < d) (g : Int.gcd n d = 1) (n0' : 0 < n') (d0' : 0 < d') (g' : Int.gcd n' d' = 1) (e : numT n d = numT n' d') : n = n' ∧ d = d' := by
  have h := numIn_T n0 d0 g
  rw [e, numIn_T n0' d0' g'] at h
  injection h with h
  injection h with h1 h2
  exact ⟨h1.symm, h2.symm⟩
theorem pq_iff {p q : Da × Str} (hp : Pq p) (hq : Pq q) : ZS.kD p.1 = ZS.kD q.1 ↔ p.2 = q.2 := by
  rcases hp with ⟨n, d, rfl, n0, d0, g⟩ | ⟨c, rfl, hc⟩
  · rcases hq with ⟨n', d', rfl, n0', d0', g'⟩ | ⟨c', rfl, hc'⟩
    · refine ⟨fun e => ?_, fun e => ?_⟩
      · simp only [num, ZS.kD, ZS.kDs] at e
        injection e with e
        injection e with e1 e2
        injection e1 with e1
        injection e2 with e2 _
        injection e2 with e2
        show numT n d = numT n' d'
        rw [e1, e2]
      · obtain ⟨e1, e2⟩ := num_inj n0 d0 g n0' d0' g' e
        rw [e1, e2]
    · refine ⟨fun e => ?_, fun e => ?_⟩
      · exfalso
        match c', hc'.ne, e with
        | s :: c', _, e =>
          simp only [num, chD, List.map_cons, stD, ZS.kD, ZS.kDs] at e
          injection e with e
          injection e with e _
          exact nomatch e
      · exact absurd (show 32 ∈ sg (numT n d) from by rw [show numT n d = chnT c' from e]; exact sp_chn hc') (sp_num n0 d0)
  · rcases hq with ⟨n', d', rfl, n0', d0', g'⟩ | ⟨c', rfl, hc'⟩
    · refine ⟨fun e => ?_, fun e => ?_⟩
      · exfalso
        match c, hc.ne, e with
        | s :: c, _, e =>
          simp only [num, chD, List.map_cons, stD, ZS.kD, ZS.kDs] at e
          injection e with e
          injection e with e _
          exact nomatch e
      · exact absurd (show 32 ∈ sg (numT n' d') from by rw [← show chnT c = numT n' d' from e]; exact sp_chn hc) (sp_num n0' d0')
    · refine ⟨fun e => ?_, fun e => ?_⟩
      · simp only [chD, ZS.kD] at e
        injection e with e
        show chnT c = chnT c'
        unfold chnT
        rw [kds_stp c c' e]
      · have h := chnIn_T hc
        rw [show chnT c = chnT c' from e, chnIn_T hc'] at h
        show ZS.kD (chD c) = ZS.kD (chD c')
        rw [h]
theorem ok_stps : ∀ c : List (Int × Ru), ZS.okDs (c.map stD) = true ∧ NestedKey.depthAll (ZS.kDs (c.map stD)) ≤ 1
  | [] => ⟨by simp [ZS.okDs], by simp [ZS.kDs, NestedKey.depthAll]⟩
  | s :: c => by
    obtain ⟨a, b⟩ := ok_stps c
    refine ⟨by simp [ZS.okDs, ZS.okD, stD, a], ?_⟩
    simp only [List.map_cons, ZS.kDs, NestedKey.depthAll, stD, ZS.kD, NestedKey.depth]
    omega
theorem pq_set {p : Da × Str} (hp : Pq p) : ZS.setD p.1 = true := by
  rcases hp with ⟨n, d, rfl, _⟩ | ⟨c, rfl, _⟩
  · simp [num, ZS.setD, ZS.okD, ZS.okDs, ZS.kD, ZS.kDs, NestedKey.depth, NestedKey.depthAll]
  · obtain ⟨a, b⟩ := ok_stps c
    simp only [chD, ZS.setD, ZS.okD, ZS.kD, NestedKey.depth, a, Bool.true_and, decide_eq_true_eq]
    omega
/-- what the law keeps of its turns -/
def vsD (ps : List (Da × Str)) : List Da := ps.map (·.1)
def wsD (ps : List (Da × Str)) : List Da := ps.map fun p => PyData.str p.2
theorem cnt_same {ps : List (Da × Str)} (h : ∀ p ∈ ps, Pq p) : ZS.cntD (vsD ps) = ZS.cntD (wsD ps) := by
  unfold ZS.cntD vsD wsD
  rw [List.map_map, List.map_map]
  refine ZS.dd_two _ _ ps fun p hp q hq => (pq_iff (h p hp) (h q hq)).trans ⟨fun e => ?_, fun e => ?_⟩
  · show ZS.kD (.str p.2) = ZS.kD (.str q.2)
    rw [e]
  · have e : ZS.kD (.str p.2) = ZS.kD (.str q.2) := e
    simp only [ZS.kD] at e
    injection e with e
abbrev gR (ps : List (Da × Str)) (x3 x4 x5 x6 x7 : Option Sv) (m : Nat) : Gs := ⟨[some .src, some (.own (vsD ps)), some (.own (wsD ps)), x3, x4, x5, x6, x7], some m, false⟩
def rN (K : DS) : DS := (dSeq (dAsg (dCall 2 fs__law_scaled (dCons (dCall 2 fs__law_number (dCons (dVar 0) (dCons (dBin oPow (dC (.int 10)) (dC (.int 30))) dNil))) (dCons (dCall 2 fs__law_pick (dCons (dVar 0) (dCons (dFz (dLst (dCons (dC (.int 0)) (dCons (dC (.int 0)) (dCons (dC (.int 0)) (dCons (dC (.int 200)) (dCons (dNeg (dC (.int 200))) dNil))))))) dNil))) dNil))) (dN 4)) K)
theorem p_rN {K : DS} {D : DEnds} {ps : List (Da × Str)} {x3 x4 x5 x6 x7 : Option Sv} {m : Nat} (h : ∀ n d : Int, 0 < n → 0 < d → Bn 400 n → Bn 400 d → Int.gcd n d = 1 → K D (gR ps x3 (some (.val (num n d))) x5 x6 x7 m)) : rN K D (gR ps x3 x4 x5 x6 x7 (m + 7)) := by
  simp_arith [rN, fs__law_scaled, fs__law_number, fs__law_pick]
  refine ⟨⟨by decide, by decide +kernel⟩, 10 ^ 30, m + 1, rfl, rfl, by decide, by decide, fun n d n0 bn d0 bd hg => ⟨_, m, rfl, rfl, by show 0 < 5; decide, by show 5 < 1000000; decide, fun v hv => ?_⟩⟩
  obtain ⟨e, rfl, e0, e1⟩ : ∃ e : Int, v = .int e ∧ -200 ≤ e ∧ e ≤ 200 := by
    simp only [List.mem_cons, List.not_mem_nil, or_false] at hv
    rcases hv with rfl | rfl | rfl | rfl | rfl <;> exact ⟨_, rfl, by decide, by decide⟩
  refine ⟨n, d, e, rfl, by omega, bn.mono (by decide), d0, bd.mono (by decide), by omega, by omega, ?_⟩
  obtain ⟨o1, o2, o3⟩ := scl_ok (e := e) n0 d0
  obtain ⟨p1, p2⟩ := scl_B (e := e) n0 d0 bn bd 400 (by omega) (by omega) (by decide) (by decide)
  exact h _ _ o1 o2 p1 p2 o3
def rT (K : DS) : DS := (dSeq (dAsg (dCall 1 fs__law_number_text (dCons (dVar 4) dNil)) (dN 5))
  (dSeq (dIfS (dTest (dBin fNe (dFz (dLst (dCons (dCall 1 fs_format_number (dCons (dVar 4) dNil)) (dCons (dCallK 1 1 [0] fs_format_number (dCons (dVar 4) dNil)) dNil)))) (dFz (dLst (dCons (dVar 5) (dCons (dVar 5) dNil))))))
    (dRet (dC (.bool false)))
    dNext)
  (dSeq (dIfS (dTest (dBin fNe (dCB cReprX (dCons (dFz (dLst (dCons (dCall 1 fs_parse_number (dCons (dVar 5) dNil)) (dCons (dCallK 1 1 [0] fs_parse_number (dCons (dVar 5) dNil)) dNil)))) dNil)) (dCB cReprX (dCons (dFz (dLst (dCons (dVar 4) (dCons (dVar 4) dNil)))) dNil))))
    (dRet (dC (.bool false)))
    dNext) K)))
theorem p_rT {K : DS} {D : DEnds} {ps : List (Da × Str)} {x3 x5 x6 x7 : Option Sv} {m : Nat} {n d : Int} (n0 : 0 < n) (d0 : 0 < d) (bn : Bn 400 n) (bd : Bn 400 d) (g : Int.gcd n d = 1)
    (h : K D (gR ps x3 (some (.val (num n d))) (some (.val (.str (numT n d)))) x6 x7 m)) : rT K D (gR ps x3 (some (.val (num n d))) x5 x6 x7 m) := by
  have isn : isNum (num n d) = true := isNum_num (by omega) (by omega) g
  have tn := (numT_tl n0 bn d0 bd).tx
  have q := two_X (num_kv (bn.mono (m := 1300) (by decide)) (bd.mono (m := 1300) (by decide)))
  have inn := numIn_T n0 d0 g
  simp_arith [rT, fs__law_number_text, fs_format_number, fs_parse_number]
  refine ⟨n, d, rfl, n0, d0, bn, bd, n, d, rfl, isn, bn.mono (by decide), bd.mono (by decide), n, d, rfl, isn, bn.mono (by decide), bd.mono (by decide), ?_⟩
  have s2 := tx_two tn
  have sq := shaped_str q.cps
  exact ⟨s2, s2, fun e => by simp at e, fun _ => ⟨numT n d, (n, d), rfl, tn.mono (by decide), inn, numT n d, (n, d), rfl, tn.mono (by decide), inn, q, q, sq, sq, fun e => absurd rfl e, fun _ => h⟩⟩
def rK (K : DS) : DS := (dSeq (dAsg (dCall 4 fs__law_chain (dCons (dVar 0) (dCons (dCall 2 fs__law_pick (dCons (dVar 0) (dCons (dFz (dLst (dCons (dC (.int 1)) (dCons (dC (.int 9)) (dCons (dC (.int 60)) dNil))))) dNil))) (dCons (dC (.int 12)) (dCons (dC (.int 40)) dNil))))) (dN 6)) K)
theorem p_rK {K : DS} {D : DEnds} {ps : List (Da × Str)} {x3 x4 x5 x6 x7 : Option Sv} {m : Nat} (h : ∀ (c : List (Int × Ru)) (m' : Nat), m ≤ m' → Chn1 c → K D (gR ps x3 x4 x5 (some (.val (chD c))) x7 m')) : rK K D (gR ps x3 x4 x5 x6 x7 (m + 31)) := by
  simp_arith [rK, fs__law_chain, fs__law_pick]
  refine ⟨_, m + 30, rfl, rfl, by show 0 < 3; decide, by show 3 < 1000000; decide, fun v hv => ?_⟩
  obtain ⟨e, rfl, e0, e1⟩ : ∃ e : Int, v = .int e ∧ 1 ≤ e ∧ e ≤ 60 := by
    simp only [List.mem_cons, List.not_mem_nil, or_false] at hv
    rcases hv with rfl | rfl | rfl <;> exact ⟨_, rfl, by decide, by decide⟩
  exact ⟨e, 12, 40, m + 30, rfl, rfl, e0, by decide, by decide, by decide, by omega, by omega, fun c m' hm hd _ => h c m' (by omega) (hd.chn e0 (by omega) (by decide))⟩
def rU (K : DS) : DS := (dSeq (dAsg (dCall 1 fs__law_chain_text (dCons (dVar 6) dNil)) (dN 7))
  (dSeq (dIfS (dTest (dBin fNe (dFz (dLst (dCons (dCall 1 fs_format_chain (dCons (dVar 6) dNil)) (dCons (dCallK 1 1 [0] fs_format_chain (dCons (dVar 6) dNil)) dNil)))) (dFz (dLst (dCons (dVar 7) (dCons (dVar 7) dNil))))))
    (dRet (dC (.bool false)))
    dNext)
  (dSeq (dIfS (dTest (dBin fNe (dCB cReprX (dCons (dFz (dLst (dCons (dCall 1 fs_parse_chain (dCons (dVar 7) dNil)) (dCons (dCallK 1 1 [0] fs_parse_chain (dCons (dVar 7) dNil)) dNil)))) dNil)) (dCB cReprX (dCons (dFz (dLst (dCons (dVar 6) (dCons (dVar 6) dNil)))) dNil))))
    (dRet (dC (.bool false)))
    dNext) K)))
theorem p_rU {K : DS} {D : DEnds} {ps : List (Da × Str)} {x3 x4 x5 x7 : Option Sv} {m : Nat} {c : List (Int × Ru)} (hc : Chn1 c)
    (h : K D (gR ps x3 x4 x5 (some (.val (chD c))) (some (.val (.str (chnT c)))) m)) : rU K D (gR ps x3 x4 x5 (some (.val (chD c))) x7 m) := by
  have tn := (chnT_tl hc).tx.mono (m := 390) (by decide)
  have q := two_X (v_ch hc)
  have inn := chnIn_T hc
  have ic : isChn (chnIn (chnT c)) = true := by rw [inn]; exact isChn_ch hc.ne hc.len hc.w
  have s2 := tx_two tn
  have sq := shaped_str q.cps
  simp_arith [rU, fs__law_chain_text, fs_format_chain, fs_parse_chain]
  refine ⟨c, rfl, hc, c, rfl, hc, c, rfl, hc, s2, s2, fun e => by simp at e, fun _ => ⟨chnT c, rfl, tn, ic, chnT c, rfl, tn, ic, ?_⟩⟩
  rw [inn]
  exact ⟨q, q, sq, sq, fun e => absurd rfl e, fun _ => h⟩
def rV : DS := (dSeq (dExt 1 (dFz (dLst (dCons (dVar 4) (dCons (dVar 6) dNil)))))
  (dExt 2 (dFz (dLst (dCons (dVar 5) (dCons (dVar 7) dNil))))))
theorem p_turn {D : DEnds} {ps : List (Da × Str)} {x3 x4 x5 x6 x7 : Option Sv} {m : Nat} (few : ps.length ≤ 1000) (hp : ∀ p ∈ ps, Pq p)
    (h : ∀ (qs : List (Da × Str)) (x3 x4 x5 x6 x7 : Option Sv) (m' : Nat), m ≤ m' → qs.length = ps.length + 2 → (∀ p ∈ qs, Pq p) → D.nx (gR qs x3 x4 x5 x6 x7 m')) : rN (rT (rK (rU rV))) D (gR ps x3 x4 x5 x6 x7 (m + 38)) := by
  refine p_rN (m := m + 31) fun n d n0 d0 bn bd g => p_rT n0 d0 bn bd g (p_rK (m := m) fun c m' hm hc => p_rU hc ?_)
  have fin := h (ps ++ [(num n d, numT n d), (chD c, chnT c)]) x3 (some (.val (num n d))) (some (.val (.str (numT n d)))) (some (.val (chD c))) (some (.val (.str (chnT c)))) m' hm (by simp) fun p hq => by
    rcases List.mem_append.mp hq with hq | hq
    · exact hp p hq
    · simp only [List.mem_cons, List.not_mem_nil, or_false] at hq
      rcases hq with rfl | rfl
      · exact .inl ⟨n, d, rfl, n0, d0, g⟩
      · exact .inr ⟨c, rfl, hc⟩
  have e1 : vsD (ps ++ [(num n d, numT n d), (chD c, chnT c)]) = vsD ps ++ [num n d, chD c] := by unfold vsD; rw [List.map_append] <;> rfl
  have e2 : wsD (ps ++ [(num n d, numT n d), (chD c, chnT c)]) = wsD ps ++ [.str (numT n d), .str (chnT c)] := by unfold wsD; rw [List.map_append] <;> rfl
  have l1 : (vsD ps).length = ps.length := List.length_map ..
  have l2 : (wsD ps).length = ps.length := List.length_map ..
  unfold gR at fin
  rw [e1, e2] at fin
  simp_arith [rV]
  exact ⟨⟨_, rfl⟩, by omega, ⟨_, rfl⟩, by omega, fin⟩
def fs__law_right : FSp := fun rs fu post => ∃ m : Nat, rs = [.src] ∧ fu = some m ∧ 900000 ≤ m ∧ ∀ m', post (.val (.bool true)) (some m')
theorem p__law_right (rs : List Rv) (fu : Option Nat) (post : Rr → Option Nat → Prop) (hl : rs.length = 1) (h : fs__law_right rs fu post) : b__law_right ⟨fun g => post (.val .none) g.fu, fun r g => post r g.fu, fun _ => False, fun _ => False⟩ (ent N__law_right rs fu) := by
  obtain ⟨m, rfl, rfl, hm, h⟩ := h
  have lB := @p_turn
  show (dSeq (dPar2E 1 2) (dSeq (dFor (dRange1 (dC (.int 20))) (dN 3) (rN (rT (rK (rU rV))))) (dRet (dBin fEq (dLenSet 1) (dLenSet 2))))) _ _
  generalize rb : rN (rT (rK (rU rV))) = B at lB
  simp_arith [Nat.zero_add]
  refine ⟨by decide, by decide, forD_ix0 (fun k g => ∃ (m' : Nat) (ps : List (Da × Str)) (x3 x4 x5 x6 x7 : Option Sv), m ≤ m' + 40 * k ∧ ps.length = 2 * k ∧ (∀ p ∈ ps, Pq p) ∧ g = gR ps x3 x4 x5 x6 x7 m') (fun k x hx g hg N hN => ?_) (fun g hg => ?_) ⟨m, [], _, _, _, _, _, by omega, rfl, fun p hp => by simp at hp, rfl⟩⟩
  · obtain ⟨m', ps, x3, x4, x5, x6, x7, h1, h2, h3, rfl⟩ := hg
    have hk : k < 20 := (rangeD_at hx).1
    obtain ⟨m3, rfl⟩ : ∃ m3, m' = m3 + 38 := ⟨m' - 38, by omega⟩
    simp_arith [Nat.zero_add]
    refine lB (m := m3) (ps := ps) (by omega) h3 fun qs x3 x4 x5 x6 x7 m4 g1 g2 g3 => hN _ ⟨m4, qs, x3, x4, x5, x6, x7, by omega, by omega, g3, rfl⟩
  · obtain ⟨m', ps, x3, x4, x5, x6, x7, h1, h2, h3, rfl⟩ := hg
    have len : ps.length = 40 := h2
    simp_arith [Nat.zero_add]
    refine ⟨_, rfl, by unfold vsD; rw [List.length_map]; omega, .inl (List.all_eq_true.mpr fun x hx => ?_), _, rfl, by unfold wsD; rw [List.length_map]; omega, .inr ⟨ps.map (·.2), by unfold wsD; rw [List.map_map] <;> rfl⟩, ?_⟩
    · obtain ⟨p, hp, rfl⟩ := List.mem_map.mp hx
      exact pq_set (h3 p hp)
    · rw [← cnt_same h3]
      have r := h m'
      simpa using r
section
variable {P : Program} {w : World} {K : Fg} {mg : Str → Option Value} {base : Heap}
theorem d__law_right (T : Tx w K mg) {cdv : Value} {A : Around} {outer : List Env} {s : Shared} {H : Hp} {E : XK} (hr : Room 6 (A.deeper (envOfC "_law_right" (defScope st__law_right) s.heap.objs.size T.f__law_right cdv))) (hgd : (A.deeper (envOfC "_law_right" (defScope st__law_right) s.heap.objs.size T.f__law_right cdv)).guards = some []) :
    PSs (cxOf CX0 P w K mg base N__law_right "_law_right" (defScope st__law_right) T.f__law_right cdv A outer s H E).nox (defBody st__law_right) (upS K W0 b__law_right) :=
  (ss_cons (s_par2E (i := 1) (j := 2) rfl sc__law_right.nd rfl rfl (by decide) rfl rfl)
    (ss_cons (s_for PassesOwn.never rfl (i_range1 (by rfl) T.n_range e_int) (g_name (pg_name (i := 3) sc__law_right.nd rfl (.inl rfl))) (ss_cons (s_set (i := 4) sc__law_right.nd rfl (.inl rfl) (e_call (ok__law_scaled T) (hr.mono (by decide)) hgd (by rfl) T.g__law_scaled T.F__law_scaled.kp T.b__law_scaled pass0 (a_cons (e_call (ok__law_number T) (hr.mono (by decide)) hgd (by rfl) T.g__law_number T.F__law_number.kp T.b__law_number pass0 (a_cons (e_var 0 (pv 0)) (a_cons (e_pow e_int e_int) a_nil))) (a_cons (e_call (ok__law_pick T) (hr.mono (by decide)) hgd (by rfl) T.g__law_pick T.F__law_pick.kp T.b__law_pick pass0 (a_cons (e_var 0 (pv 0)) (a_cons (e_fz (e_lstL (a_cons e_int (a_cons e_int (a_cons e_int (a_cons e_int (a_cons (e_neg e_int) a_nil))))))) a_nil))) a_nil))))
    (ss_cons (s_set (i := 5) sc__law_right.nd rfl (.inl rfl) (e_call (ok__law_number_text T) (hr.mono (by decide)) hgd (by rfl) T.g__law_number_text T.F__law_number_text.kp T.b__law_number_text pass0 (a_cons (e_var 4 (pv 4)) a_nil)))
    (ss_cons (s_if (t_ne hr.units (e_fz (e_lstL (a_cons (e_call (ok_format_number T) (hr.mono (by decide)) hgd (by rfl) T.g_format_number T.F_format_number.kp T.b_format_number pass0 (a_cons (e_var 4 (pv 4)) a_nil)) (a_cons (e_callK (ok_format_number T) (hr.mono (by decide)) hgd (by rfl) T.g_format_number T.F_format_number.kp (kb_of T.F_format_number (ks := ["number"]) (perm := [0]) fun _ _ _ _ _ _ ws hl => match ws, hl with | [_], _ => rfl) pass0 (k_cons (e_var 4 (pv 4)) k_nil)) a_nil)))) (e_fz (e_lstL (a_cons (e_var 5 (pv 5)) (a_cons (e_var 5 (pv 5)) a_nil))))) (ss_one (s_ret e_bl)) ss_nil)
    (ss_cons (s_if (t_ne hr.units (e_reprX hr hgd (by rfl) T.n_repr (a_cons (e_fz (e_lstL (a_cons (e_call (ok_parse_number T) (hr.mono (by decide)) hgd (by rfl) T.g_parse_number T.F_parse_number.kp T.b_parse_number pass0 (a_cons (e_var 5 (pv 5)) a_nil)) (a_cons (e_callK (ok_parse_number T) (hr.mono (by decide)) hgd (by rfl) T.g_parse_number T.F_parse_number.kp (kb_of T.F_parse_number (ks := ["text"]) (perm := [0]) fun _ _ _ _ _ _ ws hl => match ws, hl with | [_], _ => rfl) pass0 (k_cons (e_var 5 (pv 5)) k_nil)) a_nil)))) a_nil)) (e_reprX hr hgd (by rfl) T.n_repr (a_cons (e_fz (e_lstL (a_cons (e_var 4 (pv 4)) (a_cons (e_var 4 (pv 4)) a_nil)))) a_nil))) (ss_one (s_ret e_bl)) ss_nil)
    (ss_cons (s_set (i := 6) sc__law_right.nd rfl (.inl rfl) (e_call (ok__law_chain T) (hr.mono (by decide)) hgd (by rfl) T.g__law_chain T.F__law_chain.kp T.b__law_chain pass0 (a_cons (e_var 0 (pv 0)) (a_cons (e_call (ok__law_pick T) (hr.mono (by decide)) hgd (by rfl) T.g__law_pick T.F__law_pick.kp T.b__law_pick pass0 (a_cons (e_var 0 (pv 0)) (a_cons (e_fz (e_lstL (a_cons e_int (a_cons e_int (a_cons e_int a_nil))))) a_nil))) (a_cons e_int (a_cons e_int a_nil))))))
    (ss_cons (s_set (i := 7) sc__law_right.nd rfl (.inl rfl) (e_call (ok__law_chain_text T) (hr.mono (by decide)) hgd (by rfl) T.g__law_chain_text T.F__law_chain_text.kp T.b__law_chain_text pass0 (a_cons (e_var 6 (pv 6)) a_nil)))
    (ss_cons (s_if (t_ne hr.units (e_fz (e_lstL (a_cons (e_call (ok_format_chain T) (hr.mono (by decide)) hgd (by rfl) T.g_format_chain T.F_format_chain.kp T.b_format_chain pass0 (a_cons (e_var 6 (pv 6)) a_nil)) (a_cons (e_callK (ok_format_chain T) (hr.mono (by decide)) hgd (by rfl) T.g_format_chain T.F_format_chain.kp (kb_of T.F_format_chain (ks := ["chain"]) (perm := [0]) fun _ _ _ _ _ _ ws hl => match ws, hl with | [_], _ => rfl) pass0 (k_cons (e_var 6 (pv 6)) k_nil)) a_nil)))) (e_fz (e_lstL (a_cons (e_var 7 (pv 7)) (a_cons (e_var 7 (pv 7)) a_nil))))) (ss_one (s_ret e_bl)) ss_nil)
    (ss_cons (s_if (t_ne hr.units (e_reprX hr hgd (by rfl) T.n_repr (a_cons (e_fz (e_lstL (a_cons (e_call (ok_parse_chain T) (hr.mono (by decide)) hgd (by rfl) T.g_parse_chain T.F_parse_chain.kp T.b_parse_chain pass0 (a_cons (e_var 7 (pv 7)) a_nil)) (a_cons (e_callK (ok_parse_chain T) (hr.mono (by decide)) hgd (by rfl) T.g_parse_chain T.F_parse_chain.kp (kb_of T.F_parse_chain (ks := ["text"]) (perm := [0]) fun _ _ _ _ _ _ ws hl => match ws, hl with | [_], _ => rfl) pass0 (k_cons (e_var 7 (pv 7)) k_nil)) a_nil)))) a_nil)) (e_reprX hr hgd (by rfl) T.n_repr (a_cons (e_fz (e_lstL (a_cons (e_var 6 (pv 6)) (a_cons (e_var 6 (pv 6)) a_nil)))) a_nil))) (ss_one (s_ret e_bl)) ss_nil)
    (ss_cons (s_ext (name := "x") (pv 1) (e_fz (e_lstL (a_cons (e_var 4 (pv 4)) (a_cons (e_var 6 (pv 6)) a_nil)))) (fun h => pe_bm PySem.F.plainAttrs_list PySem.F.slot_list_extend PySem.F.type_list_extend mt_extend (pv 1) h))
    (ss_one (s_ext (name := "x") (pv 2) (e_fz (e_lstL (a_cons (e_var 5 (pv 5)) (a_cons (e_var 7 (pv 7)) a_nil)))) (fun h => pe_bm PySem.F.plainAttrs_list PySem.F.slot_list_extend PySem.F.type_list_extend mt_extend (pv 2) h)))))))))))))
    (ss_one (s_ret (e_eq hr.units (e_lenSet (i := 1) rfl hr.units (by rfl) T.n_len (by rfl) T.n_set (pv 1)) (e_lenSet (i := 2) rfl hr.units (by rfl) T.n_len (by rfl) T.n_set (pv 2)))))))
theorem ok__law_right (T : Tx w K mg) : Fn P w K mg base CX0 7 T.f__law_right T.fd__law_right ["_law_source_here"] (lift K 1 fs__law_right) := fn_data T.F__law_right sc__law_right b__law_right (fun _ _ _ _ _ _ hr hgd => d__law_right T hr hgd) p__law_right
end
def b_law : DS :=
  (dRet (dCB cAll (dCons (dFz (dLc [1] (dRange1 (dCB oMax (dCons (dC (.int 1)) (dCons (dCB oMin (dCons (dCB cLen (dCons (dVar 0) dNil)) (dCons (dC (.int 3)) dNil))) dNil)))) (dN 1) dYes (dCallS 1 1000000 fs__law_right (dCallL 2 fs__law_source (dCons (dVar 0) (dCons (dVar 1) dNil))) []))) dNil)))
def fs_law : FSp := fun rs fu post => ∃ ns : List Int, rs = [.scr ns] ∧ post (.val (.bool true)) fu
theorem p_law (rs : List Rv) (fu : Option Nat) (post : Rr → Option Nat → Prop) (hl : rs.length = 1) (h : fs_law rs fu post) : b_law ⟨fun g => post (.val .none) g.fu, fun r g => post r g.fu, fun _ => False, fun _ => False⟩ (ent N_law rs fu) := by
  obtain ⟨ns, rfl, h⟩ := h
  simp_arith [b_law]
  generalize hj : (if (if (3 : Int) < _ then _ else _) > (1 : Int) then _ else _) = j
  have j0 : j ≤ 3 ∧ 0 ≤ j := by subst hj; split <;> (try split) <;> omega
  refine ⟨by omega, by omega, lc_map (fun _ => .bool true) (fun x hx R hR => ?_) ?_ ?_⟩
  · obtain ⟨i, rfl, i0, i1⟩ := rangeD_mem hx
    simp_arith [fs__law_source, fs__law_right]
    exact ⟨ns, i, rfl, i0, by omega, fun x y hx0 hx hy0 hy => ⟨⟨x, y, 0, rfl, hx0, hx, hy0, hy, by decide, by decide⟩, 1000000, rfl, (by decide), hR _ rfl⟩⟩
  · simp [rangeD]; omega
  · rw [List.nil_append, boolsD_true]
    simp only [all_true]
    exact h
theorem law_true (ns : List Int) (hn : ns.length ≤ 63) : fs_law [.scr ns] none fun r _ => r = .val (.bool true) := ⟨ns, rfl, rfl⟩
section
variable {P : Program} {w : World} {K : Fg} {mg : Str → Option Value} {base : Heap}
theorem d_law (T : Tx w K mg) {cdv : Value} {A : Around} {outer : List Env} {s : Shared} {H : Hp} {E : XK} (hr : Room 7 (A.deeper (envOfC "law" (defScope st_law) s.heap.objs.size T.f_law cdv))) (hgd : (A.deeper (envOfC "law" (defScope st_law) s.heap.objs.size T.f_law cdv)).guards = some []) :
    PSs (cxOf CX0 P w K mg base N_law "law" (defScope st_law) T.f_law cdv A outer s H E).nox (defBody st_law) (upS K W0 b_law) :=
  (ss_one (s_ret (e_all rfl (by rfl) T.n_all (a_cons (e_fz (e_lc (own := [("_law_k", 1)]) rfl sc_law.nd (i_range1 (by rfl) T.n_range (e_max rfl (by rfl) T.n_max (a_cons e_int (a_cons (e_min rfl (by rfl) T.n_min (a_cons (e_len (by rfl) T.n_len (a_cons (e_var 0 (pv 0)) a_nil)) (a_cons e_int a_nil))) a_nil)))) (blkOk_by (own := [("_law_k", 1)]) (N := N_law) (sc := defScope st_law) (by decide +kernel)) (fun _ _ _ _ _ => (gw_name rfl (pg_name (i := 1) sc_law.nd rfl (.inl rfl)) (by decide))) (fun _ _ _ _ _ => ts_yes) (fun _ _ _ _ _ => (e_callS 1000000 (ok__law_right T) (hr.mono (by decide)) hgd (by rfl) T.g__law_right T.F__law_right.kp T.b__law_right pass0 (e_callL (ok__law_source T) (hr.mono (by decide)) hgd (by rfl) T.g__law_source T.F__law_source.kp T.b__law_source pass0 (a_cons (e_var 0 (pv 0)) (a_cons (e_var 1 (pv 1)) a_nil))) as_nil (fun _ _ _ => .nil))))) a_nil))))
theorem ok_law (T : Tx w K mg) : Fn P w K mg base CX0 8 T.f_law T.fd_law ["_law_script"] (lift K 1 fs_law) := fn_data T.F_law sc_law b_law (fun _ _ _ _ _ _ hr hgd => d_law T hr hgd) p_law
end
def mkTx {w : World} {K : Fg} {h : Heap} {mg : Str → Option Value} (X : K.In h) (G : h.Ns mainGlobals mg)  {f0 : Addr} {od0 an0 : Option Addr} {sl0 : Array (Option Value)} {oc0 kV0 dc0 pm0 cd0 ct0 : Value} {f1 : Addr} {od1 an1 : Option Addr} {sl1 : Array (Option Value)} {oc1 kV1 dc1 pm1 cd1 ct1 : Value} {f2 : Addr} {od2 an2 : Option Addr} {sl2 : Array (Option Value)} {oc2 kV2 dc2 pm2 cd2 ct2 : Value} {f3 : Addr} {od3 an3 : Option Addr} {sl3 : Array (Option Value)} {oc3 kV3 dc3 pm3 cd3 ct3 : Value} {f4 : Addr} {od4 an4 : Option Addr} {sl4 : Array (Option Value)} {oc4 kV4 dc4 pm4 cd4 ct4 : Value} {f5 : Addr} {od5 an5 : Option Addr} {sl5 : Array (Option Value)} {oc5 kV5 dc5 pm5 cd5 ct5 : Value} {f6 : Addr} {od6 an6 : Option Addr} {sl6 : Array (Option Value)} {oc6 kV6 dc6 pm6 cd6 ct6 : Value} {f7 : Addr} {od7 an7 : Option Addr} {sl7 : Array (Option Value)} {oc7 kV7 dc7 pm7 cd7 ct7 : Value} {f8 : Addr} {od8 an8 : Option Addr} {sl8 : Array (Option Value)} {oc8 kV8 dc8 pm8 cd8 ct8 : Value} {f9 : Addr} {od9 an9 : Option Addr} {sl9 : Array (Option Value)} {oc9 kV9 dc9 pm9 cd9 ct9 : Value} {f10 : Addr} {od10 an10 : Option Addr} {sl10 : Array (Option Value)} {oc10 kV10 dc10 pm10 cd10 ct10 : Value} {f11 : Addr} {od11 an11 : Option Addr} {sl11 : Array (Option Value)} {oc11 kV11 dc11 pm11 cd11 ct11 : Value} {f12 : Addr} {od12 an12 : Option Addr} {sl12 : Array (Option Value)} {oc12 kV12 dc12 pm12 cd12 ct12 : Value} {f13 : Addr} {od13 an13 : Option Addr} {sl13 : Array (Option Value)} {oc13 kV13 dc13 pm13 cd13 ct13 : Value} {f14 : Addr} {od14 an14 : Option Addr} {sl14 : Array (Option Value)} {oc14 kV14 dc14 pm14 cd14 ct14 : Value} {f15 : Addr} {od15 an15 : Option Addr} {sl15 : Array (Option Value)} {oc15 kV15 dc15 pm15 cd15 ct15 : Value} {f16 : Addr} {od16 an16 : Option Addr} {sl16 : Array (Option Value)} {oc16 kV16 dc16 pm16 cd16 ct16 : Value} {f17 : Addr} {od17 an17 : Option Addr} {sl17 : Array (Option Value)} {oc17 kV17 dc17 pm17 cd17 ct17 : Value} {f18 : Addr} {od18 an18 : Option Addr} {sl18 : Array (Option Value)} {oc18 kV18 dc18 pm18 cd18 ct18 : Value} {f19 : Addr} {od19 an19 : Option Addr} {sl19 : Array (Option Value)} {oc19 kV19 dc19 pm19 cd19 ct19 : Value} {f20 : Addr} {od20 an20 : Option Addr} {sl20 : Array (Option Value)} {oc20 kV20 dc20 pm20 cd20 ct20 : Value} {f21 : Addr} {od21 an21 : Option Addr} {sl21 : Array (Option Value)} {oc21 kV21 dc21 pm21 cd21 ct21 : Value} {f22 : Addr} {od22 an22 : Option Addr} {sl22 : Array (Option Value)} {oc22 kV22 dc22 pm22 cd22 ct22 : Value} {f23 : Addr} {od23 an23 : Option Addr} {sl23 : Array (Option Value)} {oc23 kV23 dc23 pm23 cd23 ct23 : Value} {f24 : Addr} {od24 an24 : Option Addr} {sl24 : Array (Option Value)} {oc24 kV24 dc24 pm24 cd24 ct24 : Value} {f25 : Addr} {od25 an25 : Option Addr} {sl25 : Array (Option Value)} {oc25 kV25 dc25 pm25 cd25 ct25 : Value} {f26 : Addr} {od26 an26 : Option Addr} {sl26 : Array (Option Value)} {oc26 kV26 dc26 pm26 cd26 ct26 : Value} {f27 : Addr} {od27 an27 : Option Addr} {sl27 : Array (Option Value)} {oc27 kV27 dc27 pm27 cd27 ct27 : Value} {f28 : Addr} {od28 an28 : Option Addr} {sl28 : Array (Option Value)} {oc28 kV28 dc28 pm28 cd28 ct28 : Value} {f29 : Addr} {od29 an29 : Option Addr} {sl29 : Array (Option Value)} {oc29 kV29 dc29 pm29 cd29 ct29 : Value} {tk_BETWEEN_STEPS : Tok} {tk_DIGITS : Tok} {tk_MOST_STEPS : Tok} {tk_MOST_WIDTH : Tok} {tk_PAIR_cells : Tok} {tk_PAIR_chains : Tok} {tk_RULES_0 : Tok} {tk_RULES_1 : Tok} {tk_RULES_2 : Tok} {tk_RULES_3 : Tok} {tk_RULES_4 : Tok} {tk_RULES_5 : Tok} {ra_RULES : Addr} {rd_RULES : Option Addr} {rn_RULES : Nat} {rs_RULES : Array (Option Value)} {tk_SLASH : Tok} {tk_SPACE : Tok}
    (a0 : PySem.W.nsIn K mainGlobals "is_int" = some (some (.ref f0)))
    (l0 : K.lookup f0 = some ⟨oc0, od0, .func (PySem.W.fnOf "is_int" "is_int" (defArgs st_is_int) (defBody st_is_int) (defScope st_is_int) .none kV0 dc0 pm0 an0 cd0 ct0), sl0⟩) (c0 : PySem.W.codeIn K cd0 "is_int" = true) (k0 : PySem.W.keepIn K (.ref f0) = true)
    (a1 : PySem.W.nsIn K mainGlobals "common_divisor" = some (some (.ref f1)))
    (l1 : K.lookup f1 = some ⟨oc1, od1, .func (PySem.W.fnOf "common_divisor" "common_divisor" (defArgs st_common_divisor) (defBody st_common_divisor) (defScope st_common_divisor) .none kV1 dc1 pm1 an1 cd1 ct1), sl1⟩) (c1 : PySem.W.codeIn K cd1 "common_divisor" = true) (k1 : PySem.W.keepIn K (.ref f1) = true)
    (a2 : PySem.W.nsIn K mainGlobals "is_number" = some (some (.ref f2)))
    (l2 : K.lookup f2 = some ⟨oc2, od2, .func (PySem.W.fnOf "is_number" "is_number" (defArgs st_is_number) (defBody st_is_number) (defScope st_is_number) .none kV2 dc2 pm2 an2 cd2 ct2), sl2⟩) (c2 : PySem.W.codeIn K cd2 "is_number" = true) (k2 : PySem.W.keepIn K (.ref f2) = true)
    (a3 : PySem.W.nsIn K mainGlobals "is_width" = some (some (.ref f3)))
    (l3 : K.lookup f3 = some ⟨oc3, od3, .func (PySem.W.fnOf "is_width" "is_width" (defArgs st_is_width) (defBody st_is_width) (defScope st_is_width) .none kV3 dc3 pm3 an3 cd3 ct3), sl3⟩) (c3 : PySem.W.codeIn K cd3 "is_width" = true) (k3 : PySem.W.keepIn K (.ref f3) = true)
    (a4 : PySem.W.nsIn K mainGlobals "check_number" = some (some (.ref f4)))
    (l4 : K.lookup f4 = some ⟨oc4, od4, .func (PySem.W.fnOf "check_number" "check_number" (defArgs st_check_number) (defBody st_check_number) (defScope st_check_number) .none kV4 dc4 pm4 an4 cd4 ct4), sl4⟩) (c4 : PySem.W.codeIn K cd4 "check_number" = true) (k4 : PySem.W.keepIn K (.ref f4) = true)
    (a5 : PySem.W.nsIn K mainGlobals "is_rule" = some (some (.ref f5)))
    (l5 : K.lookup f5 = some ⟨oc5, od5, .func (PySem.W.fnOf "is_rule" "is_rule" (defArgs st_is_rule) (defBody st_is_rule) (defScope st_is_rule) .none kV5 dc5 pm5 an5 cd5 ct5), sl5⟩) (c5 : PySem.W.codeIn K cd5 "is_rule" = true) (k5 : PySem.W.keepIn K (.ref f5) = true)
    (a6 : PySem.W.nsIn K mainGlobals "is_step" = some (some (.ref f6)))
    (l6 : K.lookup f6 = some ⟨oc6, od6, .func (PySem.W.fnOf "is_step" "is_step" (defArgs st_is_step) (defBody st_is_step) (defScope st_is_step) .none kV6 dc6 pm6 an6 cd6 ct6), sl6⟩) (c6 : PySem.W.codeIn K cd6 "is_step" = true) (k6 : PySem.W.keepIn K (.ref f6) = true)
    (a7 : PySem.W.nsIn K mainGlobals "is_chain" = some (some (.ref f7)))
    (l7 : K.lookup f7 = some ⟨oc7, od7, .func (PySem.W.fnOf "is_chain" "is_chain" (defArgs st_is_chain) (defBody st_is_chain) (defScope st_is_chain) .none kV7 dc7 pm7 an7 cd7 ct7), sl7⟩) (c7 : PySem.W.codeIn K cd7 "is_chain" = true) (k7 : PySem.W.keepIn K (.ref f7) = true)
    (a8 : PySem.W.nsIn K mainGlobals "check_chain" = some (some (.ref f8)))
    (l8 : K.lookup f8 = some ⟨oc8, od8, .func (PySem.W.fnOf "check_chain" "check_chain" (defArgs st_check_chain) (defBody st_check_chain) (defScope st_check_chain) .none kV8 dc8 pm8 an8 cd8 ct8), sl8⟩) (c8 : PySem.W.codeIn K cd8 "check_chain" = true) (k8 : PySem.W.keepIn K (.ref f8) = true)
    (a9 : PySem.W.nsIn K mainGlobals "format_number" = some (some (.ref f9)))
    (l9 : K.lookup f9 = some ⟨oc9, od9, .func (PySem.W.fnOf "format_number" "format_number" (defArgs st_format_number) (defBody st_format_number) (defScope st_format_number) .none kV9 dc9 pm9 an9 cd9 ct9), sl9⟩) (c9 : PySem.W.codeIn K cd9 "format_number" = true) (k9 : PySem.W.keepIn K (.ref f9) = true)
    (a10 : PySem.W.nsIn K mainGlobals "format_chain" = some (some (.ref f10)))
    (l10 : K.lookup f10 = some ⟨oc10, od10, .func (PySem.W.fnOf "format_chain" "format_chain" (defArgs st_format_chain) (defBody st_format_chain) (defScope st_format_chain) .none kV10 dc10 pm10 an10 cd10 ct10), sl10⟩) (c10 : PySem.W.codeIn K cd10 "format_chain" = true) (k10 : PySem.W.keepIn K (.ref f10) = true)
    (a11 : PySem.W.nsIn K mainGlobals "int_in" = some (some (.ref f11)))
    (l11 : K.lookup f11 = some ⟨oc11, od11, .func (PySem.W.fnOf "int_in" "int_in" (defArgs st_int_in) (defBody st_int_in) (defScope st_int_in) .none kV11 dc11 pm11 an11 cd11 ct11), sl11⟩) (c11 : PySem.W.codeIn K cd11 "int_in" = true) (k11 : PySem.W.keepIn K (.ref f11) = true)
    (a12 : PySem.W.nsIn K mainGlobals "number_in" = some (some (.ref f12)))
    (l12 : K.lookup f12 = some ⟨oc12, od12, .func (PySem.W.fnOf "number_in" "number_in" (defArgs st_number_in) (defBody st_number_in) (defScope st_number_in) .none kV12 dc12 pm12 an12 cd12 ct12), sl12⟩) (c12 : PySem.W.codeIn K cd12 "number_in" = true) (k12 : PySem.W.keepIn K (.ref f12) = true)
    (a13 : PySem.W.nsIn K mainGlobals "step_in" = some (some (.ref f13)))
    (l13 : K.lookup f13 = some ⟨oc13, od13, .func (PySem.W.fnOf "step_in" "step_in" (defArgs st_step_in) (defBody st_step_in) (defScope st_step_in) .none kV13 dc13 pm13 an13 cd13 ct13), sl13⟩) (c13 : PySem.W.codeIn K cd13 "step_in" = true) (k13 : PySem.W.keepIn K (.ref f13) = true)
    (a14 : PySem.W.nsIn K mainGlobals "chain_in" = some (some (.ref f14)))
    (l14 : K.lookup f14 = some ⟨oc14, od14, .func (PySem.W.fnOf "chain_in" "chain_in" (defArgs st_chain_in) (defBody st_chain_in) (defScope st_chain_in) .none kV14 dc14 pm14 an14 cd14 ct14), sl14⟩) (c14 : PySem.W.codeIn K cd14 "chain_in" = true) (k14 : PySem.W.keepIn K (.ref f14) = true)
    (a15 : PySem.W.nsIn K mainGlobals "parse_number" = some (some (.ref f15)))
    (l15 : K.lookup f15 = some ⟨oc15, od15, .func (PySem.W.fnOf "parse_number" "parse_number" (defArgs st_parse_number) (defBody st_parse_number) (defScope st_parse_number) .none kV15 dc15 pm15 an15 cd15 ct15), sl15⟩) (c15 : PySem.W.codeIn K cd15 "parse_number" = true) (k15 : PySem.W.keepIn K (.ref f15) = true)
    (a16 : PySem.W.nsIn K mainGlobals "parse_chain" = some (some (.ref f16)))
    (l16 : K.lookup f16 = some ⟨oc16, od16, .func (PySem.W.fnOf "parse_chain" "parse_chain" (defArgs st_parse_chain) (defBody st_parse_chain) (defScope st_parse_chain) .none kV16 dc16 pm16 an16 cd16 ct16), sl16⟩) (c16 : PySem.W.codeIn K cd16 "parse_chain" = true) (k16 : PySem.W.keepIn K (.ref f16) = true)
    (a17 : PySem.W.nsIn K mainGlobals "_law_source" = some (some (.ref f17)))
    (l17 : K.lookup f17 = some ⟨oc17, od17, .func (PySem.W.fnOf "_law_source" "_law_source" (defArgs st__law_source) (defBody st__law_source) (defScope st__law_source) .none kV17 dc17 pm17 an17 cd17 ct17), sl17⟩) (c17 : PySem.W.codeIn K cd17 "_law_source" = true) (k17 : PySem.W.keepIn K (.ref f17) = true)
    (a18 : PySem.W.nsIn K mainGlobals "_law_draw" = some (some (.ref f18)))
    (l18 : K.lookup f18 = some ⟨oc18, od18, .func (PySem.W.fnOf "_law_draw" "_law_draw" (defArgs st__law_draw) (defBody st__law_draw) (defScope st__law_draw) .none kV18 dc18 pm18 an18 cd18 ct18), sl18⟩) (c18 : PySem.W.codeIn K cd18 "_law_draw" = true) (k18 : PySem.W.keepIn K (.ref f18) = true)
    (a19 : PySem.W.nsIn K mainGlobals "_law_pick" = some (some (.ref f19)))
    (l19 : K.lookup f19 = some ⟨oc19, od19, .func (PySem.W.fnOf "_law_pick" "_law_pick" (defArgs st__law_pick) (defBody st__law_pick) (defScope st__law_pick) .none kV19 dc19 pm19 an19 cd19 ct19), sl19⟩) (c19 : PySem.W.codeIn K cd19 "_law_pick" = true) (k19 : PySem.W.keepIn K (.ref f19) = true)
    (a20 : PySem.W.nsIn K mainGlobals "_law_divisor" = some (some (.ref f20)))
    (l20 : K.lookup f20 = some ⟨oc20, od20, .func (PySem.W.fnOf "_law_divisor" "_law_divisor" (defArgs st__law_divisor) (defBody st__law_divisor) (defScope st__law_divisor) .none kV20 dc20 pm20 an20 cd20 ct20), sl20⟩) (c20 : PySem.W.codeIn K cd20 "_law_divisor" = true) (k20 : PySem.W.keepIn K (.ref f20) = true)
    (a21 : PySem.W.nsIn K mainGlobals "_law_low" = some (some (.ref f21)))
    (l21 : K.lookup f21 = some ⟨oc21, od21, .func (PySem.W.fnOf "_law_low" "_law_low" (defArgs st__law_low) (defBody st__law_low) (defScope st__law_low) .none kV21 dc21 pm21 an21 cd21 ct21), sl21⟩) (c21 : PySem.W.codeIn K cd21 "_law_low" = true) (k21 : PySem.W.keepIn K (.ref f21) = true)
    (a22 : PySem.W.nsIn K mainGlobals "_law_scaled" = some (some (.ref f22)))
    (l22 : K.lookup f22 = some ⟨oc22, od22, .func (PySem.W.fnOf "_law_scaled" "_law_scaled" (defArgs st__law_scaled) (defBody st__law_scaled) (defScope st__law_scaled) .none kV22 dc22 pm22 an22 cd22 ct22), sl22⟩) (c22 : PySem.W.codeIn K cd22 "_law_scaled" = true) (k22 : PySem.W.keepIn K (.ref f22) = true)
    (a23 : PySem.W.nsIn K mainGlobals "_law_number" = some (some (.ref f23)))
    (l23 : K.lookup f23 = some ⟨oc23, od23, .func (PySem.W.fnOf "_law_number" "_law_number" (defArgs st__law_number) (defBody st__law_number) (defScope st__law_number) .none kV23 dc23 pm23 an23 cd23 ct23), sl23⟩) (c23 : PySem.W.codeIn K cd23 "_law_number" = true) (k23 : PySem.W.keepIn K (.ref f23) = true)
    (a24 : PySem.W.nsIn K mainGlobals "_law_rule" = some (some (.ref f24)))
    (l24 : K.lookup f24 = some ⟨oc24, od24, .func (PySem.W.fnOf "_law_rule" "_law_rule" (defArgs st__law_rule) (defBody st__law_rule) (defScope st__law_rule) .none kV24 dc24 pm24 an24 cd24 ct24), sl24⟩) (c24 : PySem.W.codeIn K cd24 "_law_rule" = true) (k24 : PySem.W.keepIn K (.ref f24) = true)
    (a25 : PySem.W.nsIn K mainGlobals "_law_chain" = some (some (.ref f25)))
    (l25 : K.lookup f25 = some ⟨oc25, od25, .func (PySem.W.fnOf "_law_chain" "_law_chain" (defArgs st__law_chain) (defBody st__law_chain) (defScope st__law_chain) .none kV25 dc25 pm25 an25 cd25 ct25), sl25⟩) (c25 : PySem.W.codeIn K cd25 "_law_chain" = true) (k25 : PySem.W.keepIn K (.ref f25) = true)
    (a26 : PySem.W.nsIn K mainGlobals "_law_number_text" = some (some (.ref f26)))
    (l26 : K.lookup f26 = some ⟨oc26, od26, .func (PySem.W.fnOf "_law_number_text" "_law_number_text" (defArgs st__law_number_text) (defBody st__law_number_text) (defScope st__law_number_text) .none kV26 dc26 pm26 an26 cd26 ct26), sl26⟩) (c26 : PySem.W.codeIn K cd26 "_law_number_text" = true) (k26 : PySem.W.keepIn K (.ref f26) = true)
    (a27 : PySem.W.nsIn K mainGlobals "_law_chain_text" = some (some (.ref f27)))
    (l27 : K.lookup f27 = some ⟨oc27, od27, .func (PySem.W.fnOf "_law_chain_text" "_law_chain_text" (defArgs st__law_chain_text) (defBody st__law_chain_text) (defScope st__law_chain_text) .none kV27 dc27 pm27 an27 cd27 ct27), sl27⟩) (c27 : PySem.W.codeIn K cd27 "_law_chain_text" = true) (k27 : PySem.W.keepIn K (.ref f27) = true)
    (a28 : PySem.W.nsIn K mainGlobals "_law_right" = some (some (.ref f28)))
    (l28 : K.lookup f28 = some ⟨oc28, od28, .func (PySem.W.fnOf "_law_right" "_law_right" (defArgs st__law_right) (defBody st__law_right) (defScope st__law_right) .none kV28 dc28 pm28 an28 cd28 ct28), sl28⟩) (c28 : PySem.W.codeIn K cd28 "_law_right" = true) (k28 : PySem.W.keepIn K (.ref f28) = true)
    (a29 : PySem.W.nsIn K mainGlobals "law" = some (some (.ref f29)))
    (l29 : K.lookup f29 = some ⟨oc29, od29, .func (PySem.W.fnOf "law" "law" (defArgs st_law) (defBody st_law) (defScope st_law) .none kV29 dc29 pm29 an29 cd29 ct29), sl29⟩) (c29 : PySem.W.codeIn K cd29 "law" = true) (k29 : PySem.W.keepIn K (.ref f29) = true)
    (z_abs : PySem.W.nsIn K mainGlobals "abs" = some none)
    (z_all : PySem.W.nsIn K mainGlobals "all" = some none)
    (z_bool : PySem.W.nsIn K mainGlobals "bool" = some none)
    (z_int : PySem.W.nsIn K mainGlobals "int" = some none)
    (z_isinstance : PySem.W.nsIn K mainGlobals "isinstance" = some none)
    (z_len : PySem.W.nsIn K mainGlobals "len" = some none)
    (z_max : PySem.W.nsIn K mainGlobals "max" = some none)
    (z_min : PySem.W.nsIn K mainGlobals "min" = some none)
    (z_range : PySem.W.nsIn K mainGlobals "range" = some none)
    (z_repr : PySem.W.nsIn K mainGlobals "repr" = some none)
    (z_set : PySem.W.nsIn K mainGlobals "set" = some none)
    (z_sorted : PySem.W.nsIn K mainGlobals "sorted" = some none)
    (z_str : PySem.W.nsIn K mainGlobals "str" = some none)
    (z_tuple : PySem.W.nsIn K mainGlobals "tuple" = some none)
    (y_BETWEEN_STEPS : PySem.W.nsIn K mainGlobals "BETWEEN_STEPS" = some (some (.str ", " tk_BETWEEN_STEPS)))
    (y_DIGITS : PySem.W.nsIn K mainGlobals "DIGITS" = some (some (.str "0123456789" tk_DIGITS)))
    (y_MOST_STEPS : PySem.W.nsIn K mainGlobals "MOST_STEPS" = some (some (.int 12 tk_MOST_STEPS)))
    (y_MOST_WIDTH : PySem.W.nsIn K mainGlobals "MOST_WIDTH" = some (some (.int 100 tk_MOST_WIDTH)))
    (y_PAIR_cells : PySem.W.nsIn K mainGlobals "PAIR_cells" = some (some (.int 2 tk_PAIR_cells)))
    (y_PAIR_chains : PySem.W.nsIn K mainGlobals "PAIR_chains" = some (some (.int 2 tk_PAIR_chains)))
    (y_RULES : PySem.W.nsIn K mainGlobals "RULES" = some (some (.ref ra_RULES)))
    (x_RULES : K.lookup ra_RULES = some ⟨.type "tuple", rd_RULES, .seq #[.str "down" tk_RULES_0, .str "half_down" tk_RULES_1, .str "half_even" tk_RULES_2, .str "half_up" tk_RULES_3, .str "odd" tk_RULES_4, .str "up" tk_RULES_5] rn_RULES, rs_RULES⟩)
    (y_SLASH : PySem.W.nsIn K mainGlobals "SLASH" = some (some (.str "/" tk_SLASH)))
    (y_SPACE : PySem.W.nsIn K mainGlobals "SPACE" = some (some (.str " " tk_SPACE))) : Tx w K mg :=
  { f_is_int := f0, fd_is_int := _, F_is_int := fun_mk (st := st_is_int) l0 c0 k0, b_is_int := (fun_mk (st := st_is_int) l0 c0 k0).binds (ps := ["value", "least"]) fun _ _ _ _ _ _ us hl => match us, hl with | [_, _], _ => rfl,
    g_is_int := PySem.W.mg_of X G a0,
    f_common_divisor := f1, fd_common_divisor := _, F_common_divisor := fun_mk (st := st_common_divisor) l1 c1 k1, b_common_divisor := (fun_mk (st := st_common_divisor) l1 c1 k1).binds (ps := ["one", "other"]) fun _ _ _ _ _ _ us hl => match us, hl with | [_, _], _ => rfl,
    g_common_divisor := PySem.W.mg_of X G a1,
    f_is_number := f2, fd_is_number := _, F_is_number := fun_mk (st := st_is_number) l2 c2 k2, b_is_number := (fun_mk (st := st_is_number) l2 c2 k2).binds (ps := ["value"]) fun _ _ _ _ _ _ us hl => match us, hl with | [_], _ => rfl,
    g_is_number := PySem.W.mg_of X G a2,
    f_is_width := f3, fd_is_width := _, F_is_width := fun_mk (st := st_is_width) l3 c3 k3, b_is_width := (fun_mk (st := st_is_width) l3 c3 k3).binds (ps := ["value"]) fun _ _ _ _ _ _ us hl => match us, hl with | [_], _ => rfl,
    g_is_width := PySem.W.mg_of X G a3,
    f_check_number := f4, fd_check_number := _, F_check_number := fun_mk (st := st_check_number) l4 c4 k4, b_check_number := (fun_mk (st := st_check_number) l4 c4 k4).binds (ps := ["value"]) fun _ _ _ _ _ _ us hl => match us, hl with | [_], _ => rfl,
    g_check_number := PySem.W.mg_of X G a4,
    f_is_rule := f5, fd_is_rule := _, F_is_rule := fun_mk (st := st_is_rule) l5 c5 k5, b_is_rule := (fun_mk (st := st_is_rule) l5 c5 k5).binds (ps := ["value"]) fun _ _ _ _ _ _ us hl => match us, hl with | [_], _ => rfl,
    g_is_rule := PySem.W.mg_of X G a5,
    f_is_step := f6, fd_is_step := _, F_is_step := fun_mk (st := st_is_step) l6 c6 k6, b_is_step := (fun_mk (st := st_is_step) l6 c6 k6).binds (ps := ["value"]) fun _ _ _ _ _ _ us hl => match us, hl with | [_], _ => rfl,
    g_is_step := PySem.W.mg_of X G a6,
    f_is_chain := f7, fd_is_chain := _, F_is_chain := fun_mk (st := st_is_chain) l7 c7 k7, b_is_chain := (fun_mk (st := st_is_chain) l7 c7 k7).binds (ps := ["value"]) fun _ _ _ _ _ _ us hl => match us, hl with | [_], _ => rfl,
    g_is_chain := PySem.W.mg_of X G a7,
    f_check_chain := f8, fd_check_chain := _, F_check_chain := fun_mk (st := st_check_chain) l8 c8 k8, b_check_chain := (fun_mk (st := st_check_chain) l8 c8 k8).binds (ps := ["value"]) fun _ _ _ _ _ _ us hl => match us, hl with | [_], _ => rfl,
    g_check_chain := PySem.W.mg_of X G a8,
    f_format_number := f9, fd_format_number := _, F_format_number := fun_mk (st := st_format_number) l9 c9 k9, b_format_number := (fun_mk (st := st_format_number) l9 c9 k9).binds (ps := ["number"]) fun _ _ _ _ _ _ us hl => match us, hl with | [_], _ => rfl,
    g_format_number := PySem.W.mg_of X G a9,
    f_format_chain := f10, fd_format_chain := _, F_format_chain := fun_mk (st := st_format_chain) l10 c10 k10, b_format_chain := (fun_mk (st := st_format_chain) l10 c10 k10).binds (ps := ["chain"]) fun _ _ _ _ _ _ us hl => match us, hl with | [_], _ => rfl,
    g_format_chain := PySem.W.mg_of X G a10,
    f_int_in := f11, fd_int_in := _, F_int_in := fun_mk (st := st_int_in) l11 c11 k11, b_int_in := (fun_mk (st := st_int_in) l11 c11 k11).binds (ps := ["word"]) fun _ _ _ _ _ _ us hl => match us, hl with | [_], _ => rfl,
    g_int_in := PySem.W.mg_of X G a11,
    f_number_in := f12, fd_number_in := _, F_number_in := fun_mk (st := st_number_in) l12 c12 k12, b_number_in := (fun_mk (st := st_number_in) l12 c12 k12).binds (ps := ["text"]) fun _ _ _ _ _ _ us hl => match us, hl with | [_], _ => rfl,
    g_number_in := PySem.W.mg_of X G a12,
    f_step_in := f13, fd_step_in := _, F_step_in := fun_mk (st := st_step_in) l13 c13 k13, b_step_in := (fun_mk (st := st_step_in) l13 c13 k13).binds (ps := ["text"]) fun _ _ _ _ _ _ us hl => match us, hl with | [_], _ => rfl,
    g_step_in := PySem.W.mg_of X G a13,
    f_chain_in := f14, fd_chain_in := _, F_chain_in := fun_mk (st := st_chain_in) l14 c14 k14, b_chain_in := (fun_mk (st := st_chain_in) l14 c14 k14).binds (ps := ["text"]) fun _ _ _ _ _ _ us hl => match us, hl with | [_], _ => rfl,
    g_chain_in := PySem.W.mg_of X G a14,
    f_parse_number := f15, fd_parse_number := _, F_parse_number := fun_mk (st := st_parse_number) l15 c15 k15, b_parse_number := (fun_mk (st := st_parse_number) l15 c15 k15).binds (ps := ["text"]) fun _ _ _ _ _ _ us hl => match us, hl with | [_], _ => rfl,
    g_parse_number := PySem.W.mg_of X G a15,
    f_parse_chain := f16, fd_parse_chain := _, F_parse_chain := fun_mk (st := st_parse_chain) l16 c16 k16, b_parse_chain := (fun_mk (st := st_parse_chain) l16 c16 k16).binds (ps := ["text"]) fun _ _ _ _ _ _ us hl => match us, hl with | [_], _ => rfl,
    g_parse_chain := PySem.W.mg_of X G a16,
    f__law_source := f17, fd__law_source := _, F__law_source := fun_mk (st := st__law_source) l17 c17 k17, b__law_source := (fun_mk (st := st__law_source) l17 c17 k17).binds (ps := ["_law_script", "_law_k"]) fun _ _ _ _ _ _ us hl => match us, hl with | [_, _], _ => rfl,
    g__law_source := PySem.W.mg_of X G a17,
    f__law_draw := f18, fd__law_draw := _, F__law_draw := fun_mk (st := st__law_draw) l18 c18 k18, b__law_draw := (fun_mk (st := st__law_draw) l18 c18 k18).binds (ps := ["_law_source_here", "_law_size"]) fun _ _ _ _ _ _ us hl => match us, hl with | [_, _], _ => rfl,
    g__law_draw := PySem.W.mg_of X G a18,
    f__law_pick := f19, fd__law_pick := _, F__law_pick := fun_mk (st := st__law_pick) l19 c19 k19, b__law_pick := (fun_mk (st := st__law_pick) l19 c19 k19).binds (ps := ["_law_source_here", "_law_some"]) fun _ _ _ _ _ _ us hl => match us, hl with | [_, _], _ => rfl,
    g__law_pick := PySem.W.mg_of X G a19,
    f__law_divisor := f20, fd__law_divisor := _, F__law_divisor := fun_mk (st := st__law_divisor) l20 c20 k20, b__law_divisor := (fun_mk (st := st__law_divisor) l20 c20 k20).binds (ps := ["_law_one", "_law_other"]) fun _ _ _ _ _ _ us hl => match us, hl with | [_, _], _ => rfl,
    g__law_divisor := PySem.W.mg_of X G a20,
    f__law_low := f21, fd__law_low := _, F__law_low := fun_mk (st := st__law_low) l21 c21 k21, b__law_low := (fun_mk (st := st__law_low) l21 c21 k21).binds (ps := ["_law_n", "_law_d"]) fun _ _ _ _ _ _ us hl => match us, hl with | [_, _], _ => rfl,
    g__law_low := PySem.W.mg_of X G a21,
    f__law_scaled := f22, fd__law_scaled := _, F__law_scaled := fun_mk (st := st__law_scaled) l22 c22 k22, b__law_scaled := (fun_mk (st := st__law_scaled) l22 c22 k22).binds (ps := ["_law_amount", "_law_e"]) fun _ _ _ _ _ _ us hl => match us, hl with | [_, _], _ => rfl,
    g__law_scaled := PySem.W.mg_of X G a22,
    f__law_number := f23, fd__law_number := _, F__law_number := fun_mk (st := st__law_number) l23 c23 k23, b__law_number := (fun_mk (st := st__law_number) l23 c23 k23).binds (ps := ["_law_source_here", "_law_most"]) fun _ _ _ _ _ _ us hl => match us, hl with | [_, _], _ => rfl,
    g__law_number := PySem.W.mg_of X G a23,
    f__law_rule := f24, fd__law_rule := _, F__law_rule := fun_mk (st := st__law_rule) l24 c24 k24, b__law_rule := (fun_mk (st := st__law_rule) l24 c24 k24).binds (ps := ["_law_source_here"]) fun _ _ _ _ _ _ us hl => match us, hl with | [_], _ => rfl,
    g__law_rule := PySem.W.mg_of X G a24,
    f__law_chain := f25, fd__law_chain := _, F__law_chain := fun_mk (st := st__law_chain) l25 c25 k25, b__law_chain := (fun_mk (st := st__law_chain) l25 c25 k25).binds (ps := ["_law_source_here", "_law_last", "_law_most", "_law_far"]) fun _ _ _ _ _ _ us hl => match us, hl with | [_, _, _, _], _ => rfl,
    g__law_chain := PySem.W.mg_of X G a25,
    f__law_number_text := f26, fd__law_number_text := _, F__law_number_text := fun_mk (st := st__law_number_text) l26 c26 k26, b__law_number_text := (fun_mk (st := st__law_number_text) l26 c26 k26).binds (ps := ["_law_one"]) fun _ _ _ _ _ _ us hl => match us, hl with | [_], _ => rfl,
    g__law_number_text := PySem.W.mg_of X G a26,
    f__law_chain_text := f27, fd__law_chain_text := _, F__law_chain_text := fun_mk (st := st__law_chain_text) l27 c27 k27, b__law_chain_text := (fun_mk (st := st__law_chain_text) l27 c27 k27).binds (ps := ["_law_steps"]) fun _ _ _ _ _ _ us hl => match us, hl with | [_], _ => rfl,
    g__law_chain_text := PySem.W.mg_of X G a27,
    f__law_right := f28, fd__law_right := _, F__law_right := fun_mk (st := st__law_right) l28 c28 k28, b__law_right := (fun_mk (st := st__law_right) l28 c28 k28).binds (ps := ["_law_source_here"]) fun _ _ _ _ _ _ us hl => match us, hl with | [_], _ => rfl,
    g__law_right := PySem.W.mg_of X G a28,
    f_law := f29, fd_law := _, F_law := fun_mk (st := st_law) l29 c29 k29, b_law := (fun_mk (st := st_law) l29 c29 k29).binds (ps := ["_law_script"]) fun _ _ _ _ _ _ us hl => match us, hl with | [_], _ => rfl,
    g_law := PySem.W.mg_of X G a29,
    n_abs := PySem.W.mg_none_of X G z_abs,
    n_all := PySem.W.mg_none_of X G z_all,
    n_bool := PySem.W.mg_none_of X G z_bool,
    n_int := PySem.W.mg_none_of X G z_int,
    n_isinstance := PySem.W.mg_none_of X G z_isinstance,
    n_len := PySem.W.mg_none_of X G z_len,
    n_max := PySem.W.mg_none_of X G z_max,
    n_min := PySem.W.mg_none_of X G z_min,
    n_range := PySem.W.mg_none_of X G z_range,
    n_repr := PySem.W.mg_none_of X G z_repr,
    n_set := PySem.W.mg_none_of X G z_set,
    n_sorted := PySem.W.mg_none_of X G z_sorted,
    n_str := PySem.W.mg_none_of X G z_str,
    n_tuple := PySem.W.mg_none_of X G z_tuple,
    u_BETWEEN_STEPS := _, w_BETWEEN_STEPS := .str ", ", c_BETWEEN_STEPS := PySem.W.mg_of X G y_BETWEEN_STEPS, v_BETWEEN_STEPS := ⟨_, rfl⟩, r_BETWEEN_STEPS := fun _ => .str _,
    u_DIGITS := _, w_DIGITS := .str "0123456789", c_DIGITS := PySem.W.mg_of X G y_DIGITS, v_DIGITS := ⟨_, rfl⟩, r_DIGITS := fun _ => .str _,
    u_MOST_STEPS := _, w_MOST_STEPS := .int 12, c_MOST_STEPS := PySem.W.mg_of X G y_MOST_STEPS, v_MOST_STEPS := ⟨_, rfl⟩, r_MOST_STEPS := fun _ => .int _,
    u_MOST_WIDTH := _, w_MOST_WIDTH := .int 100, c_MOST_WIDTH := PySem.W.mg_of X G y_MOST_WIDTH, v_MOST_WIDTH := ⟨_, rfl⟩, r_MOST_WIDTH := fun _ => .int _,
    u_PAIR_cells := _, w_PAIR_cells := .int 2, c_PAIR_cells := PySem.W.mg_of X G y_PAIR_cells, v_PAIR_cells := ⟨_, rfl⟩, r_PAIR_cells := fun _ => .int _,
    u_PAIR_chains := _, w_PAIR_chains := .int 2, c_PAIR_chains := PySem.W.mg_of X G y_PAIR_chains, v_PAIR_chains := ⟨_, rfl⟩, r_PAIR_chains := fun _ => .int _,
    u_RULES := _, w_RULES := .ref ra_RULES, c_RULES := PySem.W.mg_of X G y_RULES, v_RULES := rfl, r_RULES := fun _ => .tup (.inr ⟨_, _, _, x_RULES, rfl, rfl, by (show 6 ≤ sizeLine; decide), (show Vals [.str "down", .str "half_down", .str "half_even", .str "half_up", .str "odd", .str "up"] _ from .cons ⟨_, rfl⟩ (.cons ⟨_, rfl⟩ (.cons ⟨_, rfl⟩ (.cons ⟨_, rfl⟩ (.cons ⟨_, rfl⟩ (.cons ⟨_, rfl⟩ (.nil)))))))⟩) (.cons (.str _) (.cons (.str _) (.cons (.str _) (.cons (.str _) (.cons (.str _) (.cons (.str _) (.nil))))))),
    u_SLASH := _, w_SLASH := .str "/", c_SLASH := PySem.W.mg_of X G y_SLASH, v_SLASH := ⟨_, rfl⟩, r_SLASH := fun _ => .str _,
    u_SPACE := _, w_SPACE := .str " ", c_SPACE := PySem.W.mg_of X G y_SPACE, v_SPACE := ⟨_, rfl⟩, r_SPACE := fun _ => .str _ }
theorem all_mk {l : PySem.W.OpenLaw} {w : World} {K : Fg} {h : Heap} {mg : Str → Option Value} {fa : Addr} (X : K.In h) (G : h.Ns mainGlobals mg) (hfa : mg "law" = some (.ref fa))  {f0 : Addr} {od0 an0 : Option Addr} {sl0 : Array (Option Value)} {oc0 kV0 dc0 pm0 cd0 ct0 : Value} {f1 : Addr} {od1 an1 : Option Addr} {sl1 : Array (Option Value)} {oc1 kV1 dc1 pm1 cd1 ct1 : Value} {f2 : Addr} {od2 an2 : Option Addr} {sl2 : Array (Option Value)} {oc2 kV2 dc2 pm2 cd2 ct2 : Value} {f3 : Addr} {od3 an3 : Option Addr} {sl3 : Array (Option Value)} {oc3 kV3 dc3 pm3 cd3 ct3 : Value} {f4 : Addr} {od4 an4 : Option Addr} {sl4 : Array (Option Value)} {oc4 kV4 dc4 pm4 cd4 ct4 : Value} {f5 : Addr} {od5 an5 : Option Addr} {sl5 : Array (Option Value)} {oc5 kV5 dc5 pm5 cd5 ct5 : Value} {f6 : Addr} {od6 an6 : Option Addr} {sl6 : Array (Option Value)} {oc6 kV6 dc6 pm6 cd6 ct6 : Value} {f7 : Addr} {od7 an7 : Option Addr} {sl7 : Array (Option Value)} {oc7 kV7 dc7 pm7 cd7 ct7 : Value} {f8 : Addr} {od8 an8 : Option Addr} {sl8 : Array (Option Value)} {oc8 kV8 dc8 pm8 cd8 ct8 : Value} {f9 : Addr} {od9 an9 : Option Addr} {sl9 : Array (Option Value)} {oc9 kV9 dc9 pm9 cd9 ct9 : Value} {f10 : Addr} {od10 an10 : Option Addr} {sl10 : Array (Option Value)} {oc10 kV10 dc10 pm10 cd10 ct10 : Value} {f11 : Addr} {od11 an11 : Option Addr} {sl11 : Array (Option Value)} {oc11 kV11 dc11 pm11 cd11 ct11 : Value} {f12 : Addr} {od12 an12 : Option Addr} {sl12 : Array (Option Value)} {oc12 kV12 dc12 pm12 cd12 ct12 : Value} {f13 : Addr} {od13 an13 : Option Addr} {sl13 : Array (Option Value)} {oc13 kV13 dc13 pm13 cd13 ct13 : Value} {f14 : Addr} {od14 an14 : Option Addr} {sl14 : Array (Option Value)} {oc14 kV14 dc14 pm14 cd14 ct14 : Value} {f15 : Addr} {od15 an15 : Option Addr} {sl15 : Array (Option Value)} {oc15 kV15 dc15 pm15 cd15 ct15 : Value} {f16 : Addr} {od16 an16 : Option Addr} {sl16 : Array (Option Value)} {oc16 kV16 dc16 pm16 cd16 ct16 : Value} {f17 : Addr} {od17 an17 : Option Addr} {sl17 : Array (Option Value)} {oc17 kV17 dc17 pm17 cd17 ct17 : Value} {f18 : Addr} {od18 an18 : Option Addr} {sl18 : Array (Option Value)} {oc18 kV18 dc18 pm18 cd18 ct18 : Value} {f19 : Addr} {od19 an19 : Option Addr} {sl19 : Array (Option Value)} {oc19 kV19 dc19 pm19 cd19 ct19 : Value} {f20 : Addr} {od20 an20 : Option Addr} {sl20 : Array (Option Value)} {oc20 kV20 dc20 pm20 cd20 ct20 : Value} {f21 : Addr} {od21 an21 : Option Addr} {sl21 : Array (Option Value)} {oc21 kV21 dc21 pm21 cd21 ct21 : Value} {f22 : Addr} {od22 an22 : Option Addr} {sl22 : Array (Option Value)} {oc22 kV22 dc22 pm22 cd22 ct22 : Value} {f23 : Addr} {od23 an23 : Option Addr} {sl23 : Array (Option Value)} {oc23 kV23 dc23 pm23 cd23 ct23 : Value} {f24 : Addr} {od24 an24 : Option Addr} {sl24 : Array (Option Value)} {oc24 kV24 dc24 pm24 cd24 ct24 : Value} {f25 : Addr} {od25 an25 : Option Addr} {sl25 : Array (Option Value)} {oc25 kV25 dc25 pm25 cd25 ct25 : Value} {f26 : Addr} {od26 an26 : Option Addr} {sl26 : Array (Option Value)} {oc26 kV26 dc26 pm26 cd26 ct26 : Value} {f27 : Addr} {od27 an27 : Option Addr} {sl27 : Array (Option Value)} {oc27 kV27 dc27 pm27 cd27 ct27 : Value} {f28 : Addr} {od28 an28 : Option Addr} {sl28 : Array (Option Value)} {oc28 kV28 dc28 pm28 cd28 ct28 : Value} {f29 : Addr} {od29 an29 : Option Addr} {sl29 : Array (Option Value)} {oc29 kV29 dc29 pm29 cd29 ct29 : Value} {tk_BETWEEN_STEPS : Tok} {tk_DIGITS : Tok} {tk_MOST_STEPS : Tok} {tk_MOST_WIDTH : Tok} {tk_PAIR_cells : Tok} {tk_PAIR_chains : Tok} {tk_RULES_0 : Tok} {tk_RULES_1 : Tok} {tk_RULES_2 : Tok} {tk_RULES_3 : Tok} {tk_RULES_4 : Tok} {tk_RULES_5 : Tok} {ra_RULES : Addr} {rd_RULES : Option Addr} {rn_RULES : Nat} {rs_RULES : Array (Option Value)} {tk_SLASH : Tok} {tk_SPACE : Tok}
    (a0 : PySem.W.nsIn K mainGlobals "is_int" = some (some (.ref f0)))
    (l0 : K.lookup f0 = some ⟨oc0, od0, .func (PySem.W.fnOf "is_int" "is_int" (defArgs st_is_int) (defBody st_is_int) (defScope st_is_int) .none kV0 dc0 pm0 an0 cd0 ct0), sl0⟩) (c0 : PySem.W.codeIn K cd0 "is_int" = true) (k0 : PySem.W.keepIn K (.ref f0) = true)
    (a1 : PySem.W.nsIn K mainGlobals "common_divisor" = some (some (.ref f1)))
    (l1 : K.lookup f1 = some ⟨oc1, od1, .func (PySem.W.fnOf "common_divisor" "common_divisor" (defArgs st_common_divisor) (defBody st_common_divisor) (defScope st_common_divisor) .none kV1 dc1 pm1 an1 cd1 ct1), sl1⟩) (c1 : PySem.W.codeIn K cd1 "common_divisor" = true) (k1 : PySem.W.keepIn K (.ref f1) = true)
    (a2 : PySem.W.nsIn K mainGlobals "is_number" = some (some (.ref f2)))
    (l2 : K.lookup f2 = some ⟨oc2, od2, .func (PySem.W.fnOf "is_number" "is_number" (defArgs st_is_number) (defBody st_is_number) (defScope st_is_number) .none kV2 dc2 pm2 an2 cd2 ct2), sl2⟩) (c2 : PySem.W.codeIn K cd2 "is_number" = true) (k2 : PySem.W.keepIn K (.ref f2) = true)
    (a3 : PySem.W.nsIn K mainGlobals "is_width" = some (some (.ref f3)))
    (l3 : K.lookup f3 = some ⟨oc3, od3, .func (PySem.W.fnOf "is_width" "is_width" (defArgs st_is_width) (defBody st_is_width) (defScope st_is_width) .none kV3 dc3 pm3 an3 cd3 ct3), sl3⟩) (c3 : PySem.W.codeIn K cd3 "is_width" = true) (k3 : PySem.W.keepIn K (.ref f3) = true)
    (a4 : PySem.W.nsIn K mainGlobals "check_number" = some (some (.ref f4)))
    (l4 : K.lookup f4 = some ⟨oc4, od4, .func (PySem.W.fnOf "check_number" "check_number" (defArgs st_check_number) (defBody st_check_number) (defScope st_check_number) .none kV4 dc4 pm4 an4 cd4 ct4), sl4⟩) (c4 : PySem.W.codeIn K cd4 "check_number" = true) (k4 : PySem.W.keepIn K (.ref f4) = true)
    (a5 : PySem.W.nsIn K mainGlobals "is_rule" = some (some (.ref f5)))
    (l5 : K.lookup f5 = some ⟨oc5, od5, .func (PySem.W.fnOf "is_rule" "is_rule" (defArgs st_is_rule) (defBody st_is_rule) (defScope st_is_rule) .none kV5 dc5 pm5 an5 cd5 ct5), sl5⟩) (c5 : PySem.W.codeIn K cd5 "is_rule" = true) (k5 : PySem.W.keepIn K (.ref f5) = true)
    (a6 : PySem.W.nsIn K mainGlobals "is_step" = some (some (.ref f6)))
    (l6 : K.lookup f6 = some ⟨oc6, od6, .func (PySem.W.fnOf "is_step" "is_step" (defArgs st_is_step) (defBody st_is_step) (defScope st_is_step) .none kV6 dc6 pm6 an6 cd6 ct6), sl6⟩) (c6 : PySem.W.codeIn K cd6 "is_step" = true) (k6 : PySem.W.keepIn K (.ref f6) = true)
    (a7 : PySem.W.nsIn K mainGlobals "is_chain" = some (some (.ref f7)))
    (l7 : K.lookup f7 = some ⟨oc7, od7, .func (PySem.W.fnOf "is_chain" "is_chain" (defArgs st_is_chain) (defBody st_is_chain) (defScope st_is_chain) .none kV7 dc7 pm7 an7 cd7 ct7), sl7⟩) (c7 : PySem.W.codeIn K cd7 "is_chain" = true) (k7 : PySem.W.keepIn K (.ref f7) = true)
    (a8 : PySem.W.nsIn K mainGlobals "check_chain" = some (some (.ref f8)))
    (l8 : K.lookup f8 = some ⟨oc8, od8, .func (PySem.W.fnOf "check_chain" "check_chain" (defArgs st_check_chain) (defBody st_check_chain) (defScope st_check_chain) .none kV8 dc8 pm8 an8 cd8 ct8), sl8⟩) (c8 : PySem.W.codeIn K cd8 "check_chain" = true) (k8 : PySem.W.keepIn K (.ref f8) = true)
    (a9 : PySem.W.nsIn K mainGlobals "format_number" = some (some (.ref f9)))
    (l9 : K.lookup f9 = some ⟨oc9, od9, .func (PySem.W.fnOf "format_number" "format_number" (defArgs st_format_number) (defBody st_format_number) (defScope st_format_number) .none kV9 dc9 pm9 an9 cd9 ct9), sl9⟩) (c9 : PySem.W.codeIn K cd9 "format_number" = true) (k9 : PySem.W.keepIn K (.ref f9) = true)
    (a10 : PySem.W.nsIn K mainGlobals "format_chain" = some (some (.ref f10)))
    (l10 : K.lookup f10 = some ⟨oc10, od10, .func (PySem.W.fnOf "format_chain" "format_chain" (defArgs st_format_chain) (defBody st_format_chain) (defScope st_format_chain) .none kV10 dc10 pm10 an10 cd10 ct10), sl10⟩) (c10 : PySem.W.codeIn K cd10 "format_chain" = true) (k10 : PySem.W.keepIn K (.ref f10) = true)
    (a11 : PySem.W.nsIn K mainGlobals "int_in" = some (some (.ref f11)))
    (l11 : K.lookup f11 = some ⟨oc11, od11, .func (PySem.W.fnOf "int_in" "int_in" (defArgs st_int_in) (defBody st_int_in) (defScope st_int_in) .none kV11 dc11 pm11 an11 cd11 ct11), sl11⟩) (c11 : PySem.W.codeIn K cd11 "int_in" = true) (k11 : PySem.W.keepIn K (.ref f11) = true)
    (a12 : PySem.W.nsIn K mainGlobals "number_in" = some (some (.ref f12)))
    (l12 : K.lookup f12 = some ⟨oc12, od12, .func (PySem.W.fnOf "number_in" "number_in" (defArgs st_number_in) (defBody st_number_in) (defScope st_number_in) .none kV12 dc12 pm12 an12 cd12 ct12), sl12⟩) (c12 : PySem.W.codeIn K cd12 "number_in" = true) (k12 : PySem.W.keepIn K (.ref f12) = true)
    (a13 : PySem.W.nsIn K mainGlobals "step_in" = some (some (.ref f13)))
    (l13 : K.lookup f13 = some ⟨oc13, od13, .func (PySem.W.fnOf "step_in" "step_in" (defArgs st_step_in) (defBody st_step_in) (defScope st_step_in) .none kV13 dc13 pm13 an13 cd13 ct13), sl13⟩) (c13 : PySem.W.codeIn K cd13 "step_in" = true) (k13 : PySem.W.keepIn K (.ref f13) = true)
    (a14 : PySem.W.nsIn K mainGlobals "chain_in" = some (some (.ref f14)))
    (l14 : K.lookup f14 = some ⟨oc14, od14, .func (PySem.W.fnOf "chain_in" "chain_in" (defArgs st_chain_in) (defBody st_chain_in) (defScope st_chain_in) .none kV14 dc14 pm14 an14 cd14 ct14), sl14⟩) (c14 : PySem.W.codeIn K cd14 "chain_in" = true) (k14 : PySem.W.keepIn K (.ref f14) = true)
    (a15 : PySem.W.nsIn K mainGlobals "parse_number" = some (some (.ref f15)))
    (l15 : K.lookup f15 = some ⟨oc15, od15, .func (PySem.W.fnOf "parse_number" "parse_number" (defArgs st_parse_number) (defBody st_parse_number) (defScope st_parse_number) .none kV15 dc15 pm15 an15 cd15 ct15), sl15⟩) (c15 : PySem.W.codeIn K cd15 "parse_number" = true) (k15 : PySem.W.keepIn K (.ref f15) = true)
    (a16 : PySem.W.nsIn K mainGlobals "parse_chain" = some (some (.ref f16)))
    (l16 : K.lookup f16 = some ⟨oc16, od16, .func (PySem.W.fnOf "parse_chain" "parse_chain" (defArgs st_parse_chain) (defBody st_parse_chain) (defScope st_parse_chain) .none kV16 dc16 pm16 an16 cd16 ct16), sl16⟩) (c16 : PySem.W.codeIn K cd16 "parse_chain" = true) (k16 : PySem.W.keepIn K (.ref f16) = true)
    (a17 : PySem.W.nsIn K mainGlobals "_law_source" = some (some (.ref f17)))
    (l17 : K.lookup f17 = some ⟨oc17, od17, .func (PySem.W.fnOf "_law_source" "_law_source" (defArgs st__law_source) (defBody st__law_source) (defScope st__law_source) .none kV17 dc17 pm17 an17 cd17 ct17), sl17⟩) (c17 : PySem.W.codeIn K cd17 "_law_source" = true) (k17 : PySem.W.keepIn K (.ref f17) = true)
    (a18 : PySem.W.nsIn K mainGlobals "_law_draw" = some (some (.ref f18)))
    (l18 : K.lookup f18 = some ⟨oc18, od18, .func (PySem.W.fnOf "_law_draw" "_law_draw" (defArgs st__law_draw) (defBody st__law_draw) (defScope st__law_draw) .none kV18 dc18 pm18 an18 cd18 ct18), sl18⟩) (c18 : PySem.W.codeIn K cd18 "_law_draw" = true) (k18 : PySem.W.keepIn K (.ref f18) = true)
    (a19 : PySem.W.nsIn K mainGlobals "_law_pick" = some (some (.ref f19)))
    (l19 : K.lookup f19 = some ⟨oc19, od19, .func (PySem.W.fnOf "_law_pick" "_law_pick" (defArgs st__law_pick) (defBody st__law_pick) (defScope st__law_pick) .none kV19 dc19 pm19 an19 cd19 ct19), sl19⟩) (c19 : PySem.W.codeIn K cd19 "_law_pick" = true) (k19 : PySem.W.keepIn K (.ref f19) = true)
    (a20 : PySem.W.nsIn K mainGlobals "_law_divisor" = some (some (.ref f20)))
    (l20 : K.lookup f20 = some ⟨oc20, od20, .func (PySem.W.fnOf "_law_divisor" "_law_divisor" (defArgs st__law_divisor) (defBody st__law_divisor) (defScope st__law_divisor) .none kV20 dc20 pm20 an20 cd20 ct20), sl20⟩) (c20 : PySem.W.codeIn K cd20 "_law_divisor" = true) (k20 : PySem.W.keepIn K (.ref f20) = true)
    (a21 : PySem.W.nsIn K mainGlobals "_law_low" = some (some (.ref f21)))
    (l21 : K.lookup f21 = some ⟨oc21, od21, .func (PySem.W.fnOf "_law_low" "_law_low" (defArgs st__law_low) (defBody st__law_low) (defScope st__law_low) .none kV21 dc21 pm21 an21 cd21 ct21), sl21⟩) (c21 : PySem.W.codeIn K cd21 "_law_low" = true) (k21 : PySem.W.keepIn K (.ref f21) = true)
    (a22 : PySem.W.nsIn K mainGlobals "_law_scaled" = some (some (.ref f22)))
    (l22 : K.lookup f22 = some ⟨oc22, od22, .func (PySem.W.fnOf "_law_scaled" "_law_scaled" (defArgs st__law_scaled) (defBody st__law_scaled) (defScope st__law_scaled) .none kV22 dc22 pm22 an22 cd22 ct22), sl22⟩) (c22 : PySem.W.codeIn K cd22 "_law_scaled" = true) (k22 : PySem.W.keepIn K (.ref f22) = true)
    (a23 : PySem.W.nsIn K mainGlobals "_law_number" = some (some (.ref f23)))
    (l23 : K.lookup f23 = some ⟨oc23, od23, .func (PySem.W.fnOf "_law_number" "_law_number" (defArgs st__law_number) (defBody st__law_number) (defScope st__law_number) .none kV23 dc23 pm23 an23 cd23 ct23), sl23⟩) (c23 : PySem.W.codeIn K cd23 "_law_number" = true) (k23 : PySem.W.keepIn K (.ref f23) = true)
    (a24 : PySem.W.nsIn K mainGlobals "_law_rule" = some (some (.ref f24)))
    (l24 : K.lookup f24 = some ⟨oc24, od24, .func (PySem.W.fnOf "_law_rule" "_law_rule" (defArgs st__law_rule) (defBody st__law_rule) (defScope st__law_rule) .none kV24 dc24 pm24 an24 cd24 ct24), sl24⟩) (c24 : PySem.W.codeIn K cd24 "_law_rule" = true) (k24 : PySem.W.keepIn K (.ref f24) = true)
    (a25 : PySem.W.nsIn K mainGlobals "_law_chain" = some (some (.ref f25)))
    (l25 : K.lookup f25 = some ⟨oc25, od25, .func (PySem.W.fnOf "_law_chain" "_law_chain" (defArgs st__law_chain) (defBody st__law_chain) (defScope st__law_chain) .none kV25 dc25 pm25 an25 cd25 ct25), sl25⟩) (c25 : PySem.W.codeIn K cd25 "_law_chain" = true) (k25 : PySem.W.keepIn K (.ref f25) = true)
    (a26 : PySem.W.nsIn K mainGlobals "_law_number_text" = some (some (.ref f26)))
    (l26 : K.lookup f26 = some ⟨oc26, od26, .func (PySem.W.fnOf "_law_number_text" "_law_number_text" (defArgs st__law_number_text) (defBody st__law_number_text) (defScope st__law_number_text) .none kV26 dc26 pm26 an26 cd26 ct26), sl26⟩) (c26 : PySem.W.codeIn K cd26 "_law_number_text" = true) (k26 : PySem.W.keepIn K (.ref f26) = true)
    (a27 : PySem.W.nsIn K mainGlobals "_law_chain_text" = some (some (.ref f27)))
    (l27 : K.lookup f27 = some ⟨oc27, od27, .func (PySem.W.fnOf "_law_chain_text" "_law_chain_text" (defArgs st__law_chain_text) (defBody st__law_chain_text) (defScope st__law_chain_text) .none kV27 dc27 pm27 an27 cd27 ct27), sl27⟩) (c27 : PySem.W.codeIn K cd27 "_law_chain_text" = true) (k27 : PySem.W.keepIn K (.ref f27) = true)
    (a28 : PySem.W.nsIn K mainGlobals "_law_right" = some (some (.ref f28)))
    (l28 : K.lookup f28 = some ⟨oc28, od28, .func (PySem.W.fnOf "_law_right" "_law_right" (defArgs st__law_right) (defBody st__law_right) (defScope st__law_right) .none kV28 dc28 pm28 an28 cd28 ct28), sl28⟩) (c28 : PySem.W.codeIn K cd28 "_law_right" = true) (k28 : PySem.W.keepIn K (.ref f28) = true)
    (a29 : PySem.W.nsIn K mainGlobals "law" = some (some (.ref f29)))
    (l29 : K.lookup f29 = some ⟨oc29, od29, .func (PySem.W.fnOf "law" "law" (defArgs st_law) (defBody st_law) (defScope st_law) .none kV29 dc29 pm29 an29 cd29 ct29), sl29⟩) (c29 : PySem.W.codeIn K cd29 "law" = true) (k29 : PySem.W.keepIn K (.ref f29) = true)
    (z_abs : PySem.W.nsIn K mainGlobals "abs" = some none)
    (z_all : PySem.W.nsIn K mainGlobals "all" = some none)
    (z_bool : PySem.W.nsIn K mainGlobals "bool" = some none)
    (z_int : PySem.W.nsIn K mainGlobals "int" = some none)
    (z_isinstance : PySem.W.nsIn K mainGlobals "isinstance" = some none)
    (z_len : PySem.W.nsIn K mainGlobals "len" = some none)
    (z_max : PySem.W.nsIn K mainGlobals "max" = some none)
    (z_min : PySem.W.nsIn K mainGlobals "min" = some none)
    (z_range : PySem.W.nsIn K mainGlobals "range" = some none)
    (z_repr : PySem.W.nsIn K mainGlobals "repr" = some none)
    (z_set : PySem.W.nsIn K mainGlobals "set" = some none)
    (z_sorted : PySem.W.nsIn K mainGlobals "sorted" = some none)
    (z_str : PySem.W.nsIn K mainGlobals "str" = some none)
    (z_tuple : PySem.W.nsIn K mainGlobals "tuple" = some none)
    (y_BETWEEN_STEPS : PySem.W.nsIn K mainGlobals "BETWEEN_STEPS" = some (some (.str ", " tk_BETWEEN_STEPS)))
    (y_DIGITS : PySem.W.nsIn K mainGlobals "DIGITS" = some (some (.str "0123456789" tk_DIGITS)))
    (y_MOST_STEPS : PySem.W.nsIn K mainGlobals "MOST_STEPS" = some (some (.int 12 tk_MOST_STEPS)))
    (y_MOST_WIDTH : PySem.W.nsIn K mainGlobals "MOST_WIDTH" = some (some (.int 100 tk_MOST_WIDTH)))
    (y_PAIR_cells : PySem.W.nsIn K mainGlobals "PAIR_cells" = some (some (.int 2 tk_PAIR_cells)))
    (y_PAIR_chains : PySem.W.nsIn K mainGlobals "PAIR_chains" = some (some (.int 2 tk_PAIR_chains)))
    (y_RULES : PySem.W.nsIn K mainGlobals "RULES" = some (some (.ref ra_RULES)))
    (x_RULES : K.lookup ra_RULES = some ⟨.type "tuple", rd_RULES, .seq #[.str "down" tk_RULES_0, .str "half_down" tk_RULES_1, .str "half_even" tk_RULES_2, .str "half_up" tk_RULES_3, .str "odd" tk_RULES_4, .str "up" tk_RULES_5] rn_RULES, rs_RULES⟩)
    (y_SLASH : PySem.W.nsIn K mainGlobals "SLASH" = some (some (.str "/" tk_SLASH)))
    (y_SPACE : PySem.W.nsIn K mainGlobals "SPACE" = some (some (.str " " tk_SPACE))) :
    ∃ fd : FuncData, (∀ (s : Shared) (v : Value), BindsTo s fd ⟨[v], []⟩ [("_law_script", v)]) ∧ TbH K h ∧ ∀ base : Heap, K.In base → base.Ns mainGlobals mg → TbB K mg base → Fn l.prog w K mg base CX0 8 fa fd ["_law_script"] (lift K 1 fs_law) := by
  have e := hfa.symm.trans (PySem.W.mg_of X G a29)
  cases e
  exact ⟨_, fun s v => .of_eq rfl, tbH_no rfl, fun base _ _ hB => ok_law (mkTx X G a0 l0 c0 k0 a1 l1 c1 k1 a2 l2 c2 k2 a3 l3 c3 k3 a4 l4 c4 k4 a5 l5 c5 k5 a6 l6 c6 k6 a7 l7 c7 k7 a8 l8 c8 k8 a9 l9 c9 k9 a10 l10 c10 k10 a11 l11 c11 k11 a12 l12 c12 k12 a13 l13 c13 k13 a14 l14 c14 k14 a15 l15 c15 k15 a16 l16 c16 k16 a17 l17 c17 k17 a18 l18 c18 k18 a19 l19 c19 k19 a20 l20 c20 k20 a21 l21 c21 k21 a22 l22 c22 k22 a23 l23 c23 k23 a24 l24 c24 k24 a25 l25 c25 k25 a26 l26 c26 k26 a27 l27 c27 k27 a28 l28 c28 k28 a29 l29 c29 k29 z_abs z_all z_bool z_int z_isinstance z_len z_max z_min z_range z_repr z_set z_sorted z_str z_tuple y_BETWEEN_STEPS y_DIGITS y_MOST_STEPS y_MOST_WIDTH y_PAIR_cells y_PAIR_chains y_RULES x_RULES y_SLASH y_SPACE)⟩
end LAW
namespace PySem.W.Fast
def tw18285340446321459368 : Nat := 0
def tw8416891052639558673 : Nat := 0
def tw3952243187646292173 : Nat := 0
def tw10446690405543148091 : Nat := 0
def tw5231252377679651504 : Nat := 0
def tw36475134150693704 : Nat := 0
def tw1493995084903943561 : Nat := 0
def tw5664492092722322838 : Nat := 0
def tw3061449297421308954 : Nat := 0
def tw12396020243777001740 : Nat := 0
def tw6353473521416787960 : Nat := 0
def tw18279432966631002263 : Nat := 0
def tw4355174374131544015 : Nat := 0
def tw14409860708416249722 : Nat := 0
def tw11513984388041569823 : Nat := 0
def tw14064455232513529181 : Nat := 0
def tw9193433659966861192 : Nat := 0
def tw5457862524381300708 : Nat := 0
def tw16727190385527955141 : Nat := 0
def tw7922637010189546333 : Nat := 0
def tw11425693720606671152 : Nat := 0
def tw11853842503661593345 : Nat := 0
def tw9270928805554171718 : Nat := 0
def tw6352549028814810684 : Nat := 0
def tw5571348369103212997 : Nat := 0
def tw17914095503790387315 : Nat := 0
def tw10947250183933868376 : Nat := 0
def tw10247222832331851596 : Nat := 0
def tw9912041638105015339 : Nat := 0
def tw16359731620326364221 : Nat := 0
def tw5758347290839436702 : Nat := 0
def tw9685825828760296830 : Nat := 0
def tw8495023539403601480 : Nat := 0
def tw7781053022236907395 : Nat := 0
def tw1806697528854389270 : Nat := 0
def tw17686188080863107058 : Nat := 0
def tw5837393578536887160 : Nat := 0
def tw79247772089784790 : Nat := 0
def tw2610769833987602349 : Nat := 0
def tw3796527680861124015 : Nat := 0
def tw9907715453660206991 : Nat := 0
def tw10315502441555649920 : Nat := 0
def tw14121586598687597325 : Nat := 0
def tw17642569241596849529 : Nat := 0
def tw13927065774389637560 : Nat := 0
def tw7844515916499863630 : Nat := 0
def tw15441149230810032494 : Nat := 0
def tw8129521675770855004 : Nat := 0
def tw14457427326879823070 : Nat := 0
def tw512878186151143995 : Nat := 0
def tw15839732507029002572 : Nat := 0
def tw16191922086692320961 : Nat := 0
def tw7144958390049167917 : Nat := 0
def tw1849911853219574793 : Nat := 0
def tw6357498199338572867 : Nat := 0
def tw3281682681718135000 : Nat := 0
def tw16072716043977681383 : Nat := 0
def tw1237577728694413423 : Nat := 0
def tw14980523300015815954 : Nat := 0
def tw10764122265118320940 : Nat := 0
def tw9077997558564627732 : Nat := 0
def tw9454631929278246483 : Nat := 0
def tw7051283355063593233 : Nat := 0
def tw12142476943628221024 : Nat := 0
def tw6430750928334015691 : Nat := 0
def tw11662803133790263371 : Nat := 0
def tw4703942471007827452 : Nat := 0
def tw9237936999523426139 : Nat := 0
def tw12763099207290899425 : Nat := 0
def tw5837572353061442216 : Nat := 0
def tw17744226655837093111 : Nat := 0
def tw2644801806915674380 : Nat := 0
def tw15567288550684600436 : Nat := 0
def tw10236424092130742804 : Nat := 0
def tw16060912534807168992 : Nat := 0
def tw4726536225510259151 : Nat := 0
def tw16439434087036412953 : Nat := 0
def tw1032574620098567077 : Nat := 0
def tw18293991964443916456 : Nat := 0
def tw14194551985530047476 : Nat := 0
def tw11555740189113271872 : Nat := 0
def tw17187978444136596128 : Nat := 0
def tw2399048434063370153 : Nat := 0
def tw5171263166241423813 : Nat := 0
def tw6844305592610752185 : Nat := 0
def tw15581217998670318603 : Nat := 0
def tw2757417504463215725 : Nat := 0
def tw6544358604670949872 : Nat := 0
def tw10184060991565321879 : Nat := 0
def tw4392086653445967266 : Nat := 0
def tw6539627740060939287 : Nat := 0
def tw17271367760087559006 : Nat := 0
def tw17758109605412935897 : Nat := 0
def tw993242907296279677 : Nat := 0
def tw14412601482510924819 : Nat := 0
def tw11965739102473860440 : Nat := 0
def tw6870639576486671821 : Nat := 0
def tw15546440030856095568 : Nat := 0
def tw14596946200013187147 : Nat := 0
def tw15413793531333337664 : Nat := 0
def tw14420110762899640801 : Nat := 0
def tw14801726672744226592 : Nat := 0
def tw9263479832949125691 : Nat := 0
def tw15659670942860460330 : Nat := 0
def tw11528515710502560389 : Nat := 0
def tw1284847678099318984 : Nat := 0
def tw451336686330001535 : Nat := 0
def tw2806489006489327401 : Nat := 0
def tw687440776424019973 : Nat := 0
def tw5256437076379279929 : Nat := 0
def tw9522785480288107865 : Nat := 0
def tw11187271810814335824 : Nat := 0
def tw7773758205205553650 : Nat := 0
def tw13031919029166074623 : Nat := 0
def tw7018491199317348080 : Nat := 0
def tw12481465867532233659 : Nat := 0
def tw7489726753669477018 : Nat := 0
def tw14435117033775931959 : Nat := 0
def tw5711705265875954281 : Nat := 0
def tw12708704776552472193 : Nat := 0
def tw15553327746989054903 : Nat := 0
def tw8991693687373091545 : Nat := 0
def tw1837250832398096600 : Nat := 0
def tw10628037006352704712 : Nat := 0
def tw12246649435721301717 : Nat := 0
def tw12748581212643448858 : Nat := 0
def tw13154672209754943587 : Nat := 0
def tw3460478839511970976 : Nat := 0
def tw4509028191122744397 : Nat := 0
def tw13976985906187285727 : Nat := 0
def tw11239343343861416568 : Nat := 0
def tw668463687579566874 : Nat := 0
def tw3562652359463857022 : Nat := 0
def tw14317494078770975718 : Nat := 0
def tw2995539072276095747 : Nat := 0
def tw18440276339351870739 : Nat := 0
def tw14041037655211061788 : Nat := 0
def tw2167929996342491002 : Nat := 0
def tw6829556090769312872 : Nat := 0
def tw1172740815029767970 : Nat := 0
def tw7169124135190871474 : Nat := 0
def tw9708423085754159211 : Nat := 0
def tw13527585798576926638 : Nat := 0
def tw3077064769444488769 : Nat := 0
def tw9383324745779900255 : Nat := 0
def tw11219862378783028710 : Nat := 0
def tw9513176746110512932 : Nat := 0
def tw12364645921450507813 : Nat := 0
def tw4404554422929765839 : Nat := 0
def tw1637562087173711432 : Nat := 0
def tw9636687186806234974 : Nat := 0
def tw15435125081754119717 : Nat := 0
def tw415413073686688562 : Nat := 0
def tw1152423666591614841 : Nat := 0
def tw15076289296470373053 : Nat := 0
def tw17980268875894940643 : Nat := 0
def tw7176175974832753118 : Nat := 0
def tw3456838422342711273 : Nat := 0
def tw15752758640731205232 : Nat := 0
def tw8975234822635447552 : Nat := 0
def tw16183261366096273274 : Nat := 0
def tw3229783291953038672 : Nat := 0
def tw8491146532903761738 : Nat := 0
def tw14729439924009974138 : Nat := 0
def tw9836350299883520485 : Nat := 0
def tw6126106338558086760 : Nat := 0
def tw1451841193015795040 : Nat := 0
def tw18067791722030629078 : Nat := 0
def tw15558183882910481535 : Nat := 0
def tw1274085929760340435 : Nat := 0
def tw163174104974252034 : Nat := 0
def tw1438165161752517171 : Nat := 0
def tw508639294231973459 : Nat := 0
def tw17883111138391725305 : Nat := 0
def tw17607487512684853267 : Nat := 0
def tw13592849641065577629 : Nat := 0
def tw13737325675178303821 : Nat := 0
def tw6078241569850569852 : Nat := 0
def tw7126560454212731646 : Nat := 0
def tw11308953713351632033 : Nat := 0
def tw10848956203825896335 : Nat := 0
def tw5079998277605335466 : Nat := 0
def tw10789366922530960144 : Nat := 0
def tw11839269200118085398 : Nat := 0
def tw1907356323493864369 : Nat := 0
def tw6404187126844080578 : Nat := 0
def tw14681064986167241028 : Nat := 0
def tw4413103455095262693 : Nat := 0
def tw12578488038097738069 : Nat := 0
def tw7750777233632394649 : Nat := 0
def tw17706082820295283784 : Nat := 0
def tw3525681829306284209 : Nat := 0
def tw10163939609213345020 : Nat := 0
def tw14902949832396524476 : Nat := 0
def tw4458683128189465742 : Nat := 0
def tw17253611933969187837 : Nat := 0
def tw12851878558296684163 : Nat := 0
def tw15609676233615652723 : Nat := 0
def tw6125852663771009188 : Nat := 0
def tw2184678243809215338 : Nat := 0
def tw13409862668335234572 : Nat := 0
def tw2909902271335699683 : Nat := 0
def tw9115997466230867502 : Nat := 0
def tw8225586235171252463 : Nat := 0
def tw5837266674171226796 : Nat := 0
def tw18210870865422175864 : Nat := 0
def tw5526815205939038538 : Nat := 0
def tw15494128949570681045 : Nat := 0
def tw10151478674574808692 : Nat := 0
def tw4855704624237745114 : Nat := 0
def tw4464427166977008281 : Nat := 0
def tw2162763345242268480 : Nat := 0
def tw11354019475417243724 : Nat := 0
def tw5964513767446673688 : Nat := 0
def tw165118765140201873 : Nat := 0
def tw5599731932326778457 : Nat := 0
def tw13317151881123622442 : Nat := 0
def tw4888778074514300687 : Nat := 0
def tw3282045845895980577 : Nat := 0
def tw14212117033409043520 : Nat := 0
def tw15522389042689079630 : Nat := 0
def tw10203759666419187048 : Nat := 0
def tw10077926193611370468 : Nat := 0
def tw6375983849096078053 : Nat := 0
def tw14079196456240529084 : Nat := 0
def tw5407853626465235069 : Nat := 0
def tw11450031333727689667 : Nat := 0
def tw8213208635292163666 : Nat := 0
def tw3709987421185228809 : Nat := 0
def tw2299678771063273520 : Nat := 0
def tw8557024196941713939 : Nat := 0
def tw5579793429425745194 : Nat := 0
def tw3774600431744311789 : Nat := 0
def tw7848786005344978298 : Nat := 0
def tw7985653986969961541 : Nat := 0
def tw6782393912604136541 : Nat := 0
def tw13046668329771690269 : Nat := 0
def tw11426589821054657071 : Nat := 0
def tw9541104451932592993 : Nat := 0
def tw15895160971828062170 : Nat := 0
def tw431220918650272665 : Nat := 0
def tw21485222556953114 : Nat := 0
def tw6307844836845877873 : Nat := 0
def tw8366218066446558119 : Nat := 0
def tw9588946679134992170 : Nat := 0
def tw7042437003525998856 : Nat := 0
def tw5750342058649074162 : Nat := 0
def tw12490299173509523824 : Nat := 0
def tw12129943592501090355 : Nat := 0
def tw13718761590465448248 : Nat := 0
def tw3524867574918500350 : Nat := 0
def tw14449972585285701673 : Nat := 0
def tw5346612971229972775 : Nat := 0
def tw8206051252247637000 : Nat := 0
def tw13100911592662328295 : Nat := 0
def tw5005725555249271442 : Nat := 0
def tw15349076445324054145 : Nat := 0
def tw11399105213397613611 : Nat := 0
def tw5326065206463802682 : Nat := 0
def tw13859352811300747725 : Nat := 0
def tw8773297612781728939 : Nat := 0
def tw1710451065121815368 : Nat := 0
def tw8794683872657654472 : Nat := 0
def tw1794504171735909478 : Nat := 0
def tw15764864072778469165 : Nat := 0
def tw11092894795707011313 : Nat := 0
def tw442116020129517393 : Nat := 0
def tw14694415245424030672 : Nat := 0
def tw445726890497113273 : Nat := 0
def tw5397007717203723905 : Nat := 0
def tw9979367514310624288 : Nat := 0
def tw11816119104531895860 : Nat := 0
def tw11139185501782455927 : Nat := 0
def tw3373200591677876803 : Nat := 0
def tw10307118183736233378 : Nat := 0
def tw13259973122731909272 : Nat := 0
def tw1936507665372672835 : Nat := 0
def tw15815658618979024580 : Nat := 0
def tw7077380446378525911 : Nat := 0
def tw155848170990442095 : Nat := 0
def tw8330097129260772169 : Nat := 0
def tw10355199914282915798 : Nat := 0
def tw12201605744423534384 : Nat := 0
def tw17401576767943124351 : Nat := 0
def tw10562637945538757091 : Nat := 0
def tw17387363239709650762 : Nat := 0
def tw12957724184162791372 : Nat := 0
def tw11219337571352601577 : Nat := 0
def tw15207626777337949407 : Nat := 0
def tw11402280105152475579 : Nat := 0
def tw6387536946414069466 : Nat := 0
def tw10864085874435201266 : Nat := 0
def tw14653356304687748363 : Nat := 0
def tw17492666270667643061 : Nat := 0
def tw18444920725241094290 : Nat := 0
def tw4039045133429604668 : Nat := 0
def tw1164994197411794359 : Nat := 0
def tw16546408177472528998 : Nat := 0
def tw14545986367631307991 : Nat := 0
def tw15839039577700798794 : Nat := 0
def tw17766308220776975147 : Nat := 0
def tw9671255063014640835 : Nat := 0
def tw5229971323320344662 : Nat := 0
def tw16707079636921435055 : Nat := 0
def tw18081597837532115928 : Nat := 0
def tw5635029404517369755 : Nat := 0
def tw14678435237704039775 : Nat := 0
def tw16772210656738684022 : Nat := 0
def tw14883062765748386256 : Nat := 0
def tw1055119295615150208 : Nat := 0
def tw9522244437747271486 : Nat := 0
def tw8217950216141537099 : Nat := 0
def tw3962823936647375887 : Nat := 0
def tw8933754527648817076 : Nat := 0
def tw12307001894710124192 : Nat := 0
def tw3979763227500552466 : Nat := 0
def tw7767267833660551657 : Nat := 0
def tw1541300575206725733 : Nat := 0
def tw8358573518935068045 : Nat := 0
def tw3545060809270813751 : Nat := 0
def tw8146049920499153174 : Nat := 0
def tw8800777395894205134 : Nat := 0
def tw12104467560713118448 : Nat := 0
def tw12201277391771302414 : Nat := 0
def tw17227568245582896042 : Nat := 0
def tw440701419232693924 : Nat := 0
def tw1785829443685347477 : Nat := 0
def tw643915123013827490 : Nat := 0
def tw45517861188981208 : Nat := 0
def tw6017785098333048691 : Nat := 0
def tw2583702912122856320 : Nat := 0
def tw3504970100700353845 : Nat := 0
def tw15116054849931899959 : Nat := 0
def tw2565991625967132593 : Nat := 0
def tw6623860269964076269 : Nat := 0
def tw7603811348230646060 : Nat := 0
def tw13784760506428804101 : Nat := 0
def tw13621733617565179995 : Nat := 0
def tw5692528209892793158 : Nat := 0
def tw7177302723820259559 : Nat := 0
def tw13763454218185279355 : Nat := 0
def tw5157143867935704900 : Nat := 0
def tw6116360351154439290 : Nat := 0
def tw8218696862980772505 : Nat := 0
def tw14640223890547814809 : Nat := 0
def tw4807871808363021623 : Nat := 0
def tw5095179987029665870 : Nat := 0
def tw15158398381666953991 : Nat := 0
def tw11732958303375875611 : Nat := 0
def tw6304672979694010818 : Nat := 0
def tw12137488652871288632 : Nat := 0
def tw4592563533549192687 : Nat := 0
def tw13091873390095284615 : Nat := 0
def tw6544412831429030901 : Nat := 0
def tw8655576617456700917 : Nat := 0
def tw5364030854535499703 : Nat := 0
def tw17544076636256195877 : Nat := 0
def tw7911942246201493876 : Nat := 0
def tw5610711491659048131 : Nat := 0
def tw12631268221677739376 : Nat := 0
def tw9427600756850067580 : Nat := 0
def tw6963791583163479120 : Nat := 0
def tw3718226076681074451 : Nat := 0
def tw10379902285898909388 : Nat := 0
def tw3666615366962332879 : Nat := 0
def tw8932365342968187172 : Nat := 0
def tw11196733534495543386 : Nat := 0
def tw8120930854232752419 : Nat := 0
def tw12029543362410805465 : Nat := 0
def tw16039776530940434666 : Nat := 0
def tw2987015854707034631 : Nat := 0
def tw12029060706575646579 : Nat := 0
def tw7573906445237138775 : Nat := 0
def tw15490202612528487100 : Nat := 0
def tw5136266256685989430 : Nat := 0
def tw13162499129913229107 : Nat := 0
def tw3391005910247809426 : Nat := 0
def tw4818747174241525512 : Nat := 0
def tw4131592521617013246 : Nat := 0
def tw9989304864972585111 : Nat := 0
def tw9100035862358582367 : Nat := 0
def tw4891240940116958577 : Nat := 0
def tw8875384386274037834 : Nat := 0
def tw15091406010540209923 : Nat := 0
def tw17860462941487567092 : Nat := 0
def tw14279289219134608567 : Nat := 0
def tw12812122918713473876 : Nat := 0
def tw1889195370603088715 : Nat := 0
def tw7683156315898686018 : Nat := 0
def tw11083033785375516484 : Nat := 0
def tw410844033482986473 : Nat := 0
def tw14814850304056012476 : Nat := 0
def tw5548884313161274873 : Nat := 0
def tw865593920549500893 : Nat := 0
def tw16145884680939507985 : Nat := 0
def tw2124890858350056264 : Nat := 0
def tw8353939120421552303 : Nat := 0
def tw14517599381412410621 : Nat := 0
def tw7925146196628658980 : Nat := 0
def tw3351691710027269793 : Nat := 0
def tw15196069077425746783 : Nat := 0
def tw6480920195424205972 : Nat := 0
def tw6089938352463568430 : Nat := 0
def tw4350981328618225241 : Nat := 0
def tw16246362913658743372 : Nat := 0
def tw6302789294340661378 : Nat := 0
def tw10390147445073969611 : Nat := 0
def tw11378163779553963663 : Nat := 0
def tw15435925805760675910 : Nat := 0
def tw11840371710705745855 : Nat := 0
def tw9834901856966766269 : Nat := 0
def tw14924864894283433728 : Nat := 0
def tw722835430704429979 : Nat := 0
def tw16974319693350824822 : Nat := 0
def tw10052063144702527712 : Nat := 0
def tw5132630348206608219 : Nat := 0
def tw1525953285892343745 : Nat := 0
def tw6493571480535031889 : Nat := 0
def tw6573296096830395943 : Nat := 0
def tw5695319241799933460 : Nat := 0
def tw6422628145323950024 : Nat := 0
def tw15359396777008819093 : Nat := 0
def tw6582321295791434692 : Nat := 0
def tw14322465621810990948 : Nat := 0
def tw174929486657061168 : Nat := 0
def tw16695150393020961610 : Nat := 0
def tw7318866117937802928 : Nat := 0
def tw4116511171123134090 : Nat := 0
def tw4943288666263276576 : Nat := 0
def tw2592426345440889125 : Nat := 0
def tw1630419014023601024 : Nat := 0
def tw4201825153041715683 : Nat := 0
def tw16348087644393056408 : Nat := 0
def tw16138717258396440721 : Nat := 0
def tw2984567383347910 : Nat := 0
def tw11762458835634707567 : Nat := 0
def tw12454587128295955160 : Nat := 0
def tw12382818960900934176 : Nat := 0
def tw9285944639142144765 : Nat := 0
def tw7881197573275421070 : Nat := 0
def tw10028102996190393495 : Nat := 0
def tw7211616762864823103 : Nat := 0
def tw950927605365186448 : Nat := 0
def tw11412329794561736281 : Nat := 0
def tw15758988983743918543 : Nat := 0
def tw777348287185613430 : Nat := 0
def tw13403298534754297460 : Nat := 0
def tw11074158026897508096 : Nat := 0
def tw15343465850553636698 : Nat := 0
def tw18284599448681003385 : Nat := 0
def tw14327970972670097342 : Nat := 0
def tw14557813466216194004 : Nat := 0
def tw6378615035059123419 : Nat := 0
def tw220356779515275814 : Nat := 0
def tw15936232150052144388 : Nat := 0
def tw16460605312203300097 : Nat := 0
def tw4710231667342578415 : Nat := 0
def tw3004004053809608713 : Nat := 0
def tw3017761918820289812 : Nat := 0
def tw14615602729127916039 : Nat := 0
def tw12407403589149549123 : Nat := 0
def tw3176247627000024507 : Nat := 0
def tw16969776607927808807 : Nat := 0
def tw401501353819479434 : Nat := 0
def tw9919370492831949934 : Nat := 0
def tw959056405188928026 : Nat := 0
def tw9501145520460497978 : Nat := 0
def tw14630028054793328437 : Nat := 0
def tw4253975306667934980 : Nat := 0
def tw1193003714053994579 : Nat := 0
def tw2382305657063587391 : Nat := 0
def tw11176552349858326163 : Nat := 0
def tw14889362314036663449 : Nat := 0
def tw14180359319183812843 : Nat := 0
def tw13781123504702483578 : Nat := 0
def tw8307448912534738434 : Nat := 0
def tw14343934536430203701 : Nat := 0
def tw13378662128989473936 : Nat := 0
def tw12184996203922453318 : Nat := 0
def tw6339325130990138787 : Nat := 0
def tw9984517548009308986 : Nat := 0
def tw18114212309521062813 : Nat := 0
def tw3586828738259615984 : Nat := 0
def tw9544109231083424956 : Nat := 0
def tw6001339051823643406 : Nat := 0
def tw12765760294490412694 : Nat := 0
def tw5654982352003080906 : Nat := 0
def tw16912297378336379844 : Nat := 0
def tw4040782254104483016 : Nat := 0
def tw17119572848906766634 : Nat := 0
def tw4232967717162096929 : Nat := 0
def tw1506221261563064753 : Nat := 0
def tw14042733196058556571 : Nat := 0
def tw280812836499188085 : Nat := 0
def tw8554614561545848620 : Nat := 0
def tw13675682275969282151 : Nat := 0
def tw10957942965948152262 : Nat := 0
def tw17441312391494540499 : Nat := 0
def tw16636511010010389028 : Nat := 0
def tw2717018886558634916 : Nat := 0
def tw5499694741369563592 : Nat := 0
def tw7996463892975720057 : Nat := 0
def tw2634749318997189912 : Nat := 0
def tw15126163254659733075 : Nat := 0
def tw15459407674128270087 : Nat := 0
def tw9127764218398639797 : Nat := 0
def tw825307320837858780 : Nat := 0
def tw11723577777122503452 : Nat := 0
def tw9051237813649862470 : Nat := 0
def tw14052590390072402709 : Nat := 0
def tw8126211715023537487 : Nat := 0
def tw1392346697773182883 : Nat := 0
def tw5265777339592296225 : Nat := 0
def tw11373645730870942412 : Nat := 0
def tw15777397640050615660 : Nat := 0
def tw7650782591815672870 : Nat := 0
def tw7821947968370871821 : Nat := 0
def tw12433749138276720140 : Nat := 0
def tw13961876996899913162 : Nat := 0
def tw9495335002797258840 : Nat := 0
def tw2472322650796254001 : Nat := 0
def tw10734135721575925534 : Nat := 0
def tw17049420833141788384 : Nat := 0
def tw8183315489509520198 : Nat := 0
def tw2506731465200944968 : Nat := 0
def tw14980008666367440159 : Nat := 0
def tw14152130984246034861 : Nat := 0
def tw5507095941692327519 : Nat := 0
def tw9693807689668972588 : Nat := 0
def tw7211461032481606754 : Nat := 0
def tw17103292026931401551 : Nat := 0
def tw10219133647733831981 : Nat := 0
def tw15281579058198400984 : Nat := 0
def tw12830387985466930096 : Nat := 0
def tw3572862343763559657 : Nat := 0
def tw3876996161122092559 : Nat := 0
def tw1912237565751293288 : Nat := 0
def tw8111947832956147544 : Nat := 0
def tw14552268515032560631 : Nat := 0
def tw2361283100113039509 : Nat := 0
def tw2143704893049862535 : Nat := 0
def tw1637364166433885423 : Nat := 0
def tw1144760795808933261 : Nat := 0
def tw16141393490253760980 : Nat := 0
def tw3621029283991431528 : Nat := 0
def tw12513987253450208527 : Nat := 0
def tw11916768158114032196 : Nat := 0
def tw16483699255875338540 : Nat := 0
def tw13507095081117247819 : Nat := 0
def tw5238401655419531237 : Nat := 0
def tw8248139104345219733 : Nat := 0
def tw3931374836647223077 : Nat := 0
def tw7619017332198767047 : Nat := 0
def tw16348828025659732656 : Nat := 0
def tw13182866339943262981 : Nat := 0
def tw3512647975323247131 : Nat := 0
def tw17864890275363828327 : Nat := 0
def tw17516182249799426444 : Nat := 0
def tw6166787547386532373 : Nat := 0
def tw2817450553256114259 : Nat := 0
def tw9211522820528973454 : Nat := 0
def tw4038476994143924908 : Nat := 0
def tw6487153450956396749 : Nat := 0
def tw10166956042696878500 : Nat := 0
def tw4980067135244493079 : Nat := 0
def tw1900790337700087508 : Nat := 0
def tw5549304267811426215 : Nat := 0
def tw12960364742625382240 : Nat := 0
def tw11728293180443024749 : Nat := 0
def tw16887540250207678894 : Nat := 0
def tw16264692865289018108 : Nat := 0
def tw16072191248341953924 : Nat := 0
def tw13398307204369823161 : Nat := 0
def tw13007205260583468085 : Nat := 0
def tw9516350369780558235 : Nat := 0
def tw9657507217257846127 : Nat := 0
def tw16905187653516638527 : Nat := 0
def tw7549010719309573758 : Nat := 0
def tw1285620752639473232 : Nat := 0
def tw4234615210478692109 : Nat := 0
def tw11892583174753182471 : Nat := 0
def tw12603751807903209751 : Nat := 0
def tw10269886200005407144 : Nat := 0
def tw7542101762275147525 : Nat := 0
def tw6306567352342599471 : Nat := 0
def tw4630153862309754507 : Nat := 0
def tw4955414181232655471 : Nat := 0
def tw2442710352161597761 : Nat := 0
def tw11752462970675893510 : Nat := 0
def tw17365182794352699977 : Nat := 0
def tw8775829462419700627 : Nat := 0
def tw2410965303276723994 : Nat := 0
def tw9627065554615442801 : Nat := 0
def tw15783712842785781127 : Nat := 0
def tw16385051847942265277 : Nat := 0
def tw10733645581104815799 : Nat := 0
def tw8027818352087656961 : Nat := 0
def tw15545848505178791214 : Nat := 0
def tw16450222406120197409 : Nat := 0
def tw9062719670546265294 : Nat := 0
def tw13283272293437140195 : Nat := 0
def tw4034687735716459550 : Nat := 0
def tw15215039248135826545 : Nat := 0
def tw9438231922239702410 : Nat := 0
def tw15064007009075444624 : Nat := 0
def tw6860635877920652206 : Nat := 0
def tw5290143872769653606 : Nat := 0
def tw15511374162754053934 : Nat := 0
def tw8213333142066163333 : Nat := 0
def tw13072848845190090359 : Nat := 0
def tw14018599833927680077 : Nat := 0
def tw15244088215849477636 : Nat := 0
def tw1338130021931785455 : Nat := 0
def tw11044037426830042938 : Nat := 0
def tw13298986242029131042 : Nat := 0
def tw13756234894641290180 : Nat := 0
def tw523213434025662203 : Nat := 0
def tw876207115892052616 : Nat := 0
def tw4153306483522995171 : Nat := 0
def tw11556868875116265936 : Nat := 0
def tw9473729171096714946 : Nat := 0
def tw16294908135221942167 : Nat := 0
def tw11397480106638055111 : Nat := 0
def tw16106715920747292444 : Nat := 0
def tw1070343360486972857 : Nat := 0
def tw12801949954429165183 : Nat := 0
def tw8331173934241966971 : Nat := 0
def tw184421751710872600 : Nat := 0
def tw3407544151295993203 : Nat := 0
def tw12690844202300084458 : Nat := 0
def tw7344178615998376573 : Nat := 0
def tw6497715249631416774 : Nat := 0
def tw514621116030141361 : Nat := 0
def tw5854217430530136422 : Nat := 0
def tw15236508591616189278 : Nat := 0
def tw13521737891564848110 : Nat := 0
def tw8392698061812807837 : Nat := 0
def tw17470010811440822775 : Nat := 0
def tw9637366739435307137 : Nat := 0
def tw16101931281502781890 : Nat := 0
def tw3945447298375313124 : Nat := 0
def tw5072338935944329617 : Nat := 0
def tw498683739875519372 : Nat := 0
def tw17412094540251183925 : Nat := 0
def tw733416997303456598 : Nat := 0
def tw16523655958835185322 : Nat := 0
def tw3695825607487590903 : Nat := 0
def tw15197611540774243267 : Nat := 0
def tw4292773463735652028 : Nat := 0
def tw11693609847031865337 : Nat := 0
def tw559222963782438715 : Nat := 0
def tw1586397946934173970 : Nat := 0
def tw7551945457145089044 : Nat := 0
def tw5192203669282683705 : Nat := 0
def tw8569827420023836084 : Nat := 0
def tw8244039137868529081 : Nat := 0
def tw14707002937906863530 : Nat := 0
def tw3447413680860625929 : Nat := 0
def tw1632168867404281074 : Nat := 0
def tw1065869928881724017 : Nat := 0
def tw8121177239252768863 : Nat := 0
def tw17443788912942527358 : Nat := 0
def tw10789485503537543439 : Nat := 0
def tw3900993997764160804 : Nat := 0
def tw7489144760213460211 : Nat := 0
def tw3710486841245794528 : Nat := 0
def tw5434603074106748189 : Nat := 0
def tw17056754131066497132 : Nat := 0
def tw7013540893473724542 : Nat := 0
def tw16506653751614399713 : Nat := 0
def tw7675451903002693733 : Nat := 0
def tw9850898121443376846 : Nat := 0
def tw12398648160797057817 : Nat := 0
def tw2620763839256356107 : Nat := 0
def tw11270699874540812465 : Nat := 0
def tw11380893399836847190 : Nat := 0
def tw14029725654215517002 : Nat := 0
def tw6914262386042517201 : Nat := 0
def tw16073391085963489602 : Nat := 0
def tw15534892273613880452 : Nat := 0
def tw122963481103658678 : Nat := 0
def tw10900775955172815533 : Nat := 0
def tw4260469404468296539 : Nat := 0
def tw12358132090119375515 : Nat := 0
def tw3270021820472510669 : Nat := 0
def tw7863211266442968042 : Nat := 0
def tw1218268531449543595 : Nat := 0
def tw13891517445616887455 : Nat := 0
def tw5336546482369944048 : Nat := 0
def tw5622281595381611666 : Nat := 0
def tw7337798327551373824 : Nat := 0
def tw13793635880522176562 : Nat := 0
def tw129901496316477121 : Nat := 0
def tw7468379657538075642 : Nat := 0
def tw9746399356303436693 : Nat := 0
def tw14153270085472018738 : Nat := 0
def tw9053771065106731486 : Nat := 0
def tw15346107115504996183 : Nat := 0
def tw1445661704178716022 : Nat := 0
def tw637323756077506045 : Nat := 0
def tw6020663264945147517 : Nat := 0
def tw14878513188756042846 : Nat := 0
def tw13998638825619682041 : Nat := 0
def tw17776134329758966492 : Nat := 0
def tw821926888418766390 : Nat := 0
def tw8283801716860641494 : Nat := 0
def tw8240529510590803317 : Nat := 0
def tw18437777130062230903 : Nat := 0
def tw6420200743777035950 : Nat := 0
def tw953488545735223866 : Nat := 0
def tw6091607454024270395 : Nat := 0
def tw5364034459126624515 : Nat := 0
def tw4743478010828763564 : Nat := 0
def tw15376264149159029460 : Nat := 0
def tw1274630765158795827 : Nat := 0
def tw17320410623965360070 : Nat := 0
def tw278920591706725093 : Nat := 0
def tw8058909106606887288 : Nat := 0
def tw3295913717935205599 : Nat := 0
def tw2025653650142858211 : Nat := 0
def tw4773723386603707603 : Nat := 0
def tw14828090531357989373 : Nat := 0
def tw8473008605898679341 : Nat := 0
def tw2123157854052438934 : Nat := 0
def tw10004913850840640273 : Nat := 0
def tw18075655509220581457 : Nat := 0
def tw7972109408040002493 : Nat := 0
def tw14627362427120333804 : Nat := 0
def tw17226890173632838288 : Nat := 0
def tw5082665346556936666 : Nat := 0
def tw9598256227163588343 : Nat := 0
def tw16101375379077367381 : Nat := 0
def tw3990922417195731127 : Nat := 0
def tw10407824410533322619 : Nat := 0
def tw13437053246777221754 : Nat := 0
def tw13696907857571761541 : Nat := 0
def tw18036015845836792028 : Nat := 0
def tw3337573972751255856 : Nat := 0
def tw17194532860559155529 : Nat := 0
def tw16929040097714361241 : Nat := 0
def tw12079028785207805883 : Nat := 0
def tw12854126224681142640 : Nat := 0
def tw1669982920511818252 : Nat := 0
def tw11198866548029070947 : Nat := 0
def tw4721123091593267872 : Nat := 0
def tw12119546811312736157 : Nat := 0
def tw17493768492940808234 : Nat := 0
def tw6015765239845880252 : Nat := 0
def tw5403978029707755778 : Nat := 0
def tw18087092182459095009 : Nat := 0
def tw7092756909010348617 : Nat := 0
def tw66648159903942492 : Nat := 0
def tw3288548237259824239 : Nat := 0
def tw8845893450830865280 : Nat := 0
def tw12895350353176918283 : Nat := 0
def tw13319883838769029990 : Nat := 0
def tw379847377930772170 : Nat := 0
def tw14518497445258351403 : Nat := 0
def tw15235717854075732664 : Nat := 0
def tw11562475848456716145 : Nat := 0
def tw14283082467608018512 : Nat := 0
def tw2604176668404506443 : Nat := 0
def tw6863463191969824555 : Nat := 0
def tw14955364674928840449 : Nat := 0
def tw9814529193809582431 : Nat := 0
def tw13641616028157459417 : Nat := 0
def tw1801084327249950384 : Nat := 0
def tw14846811191094825014 : Nat := 0
def tw16434562121727910715 : Nat := 0
def tw6229235032281360647 : Nat := 0
def tw8157606774372615867 : Nat := 0
def tw16970881883065523685 : Nat := 0
def tw5238315514271741443 : Nat := 0
def tw10482915990406143131 : Nat := 0
def tw11375009307389057039 : Nat := 0
def tw1214940186055524989 : Nat := 0
def tw14409437319985543053 : Nat := 0
def tw2424541400319920439 : Nat := 0
def tw9640631551756398735 : Nat := 0
def tw8741262021435234761 : Nat := 0
def tw6428315103661825372 : Nat := 0
def tw16808657199976226521 : Nat := 0
def tw18307625559727468998 : Nat := 0
def tw4502334073356954448 : Nat := 0
def tw4822044493716159169 : Nat := 0
def tw10600294417206995256 : Nat := 0
def tw8855609938286077956 : Nat := 0
def tw4981781952088296754 : Nat := 0
def tw15432672827195120390 : Nat := 0
def tw4017167266812707014 : Nat := 0
def tw6801275593045430993 : Nat := 0
def tw16511355641832255529 : Nat := 0
def tw8593348906435735609 : Nat := 0
def tw8978651293980332662 : Nat := 0
def tw1275876867279668231 : Nat := 0
def tw13857879487550531328 : Nat := 0
def tw12572952224928982374 : Nat := 0
def tw1540498481295989558 : Nat := 0
def tw1352936235809471239 : Nat := 0
def tw706739956021747655 : Nat := 0
def tw15262214501517326026 : Nat := 0
def tw10267927237635320864 : Nat := 0
def tw8130724769579556518 : Nat := 0
def tw11260040917916833010 : Nat := 0
def tw15559231628304433795 : Nat := 0
def tw671552235226805639 : Nat := 0
def tw7832198857819673051 : Nat := 0
def tw12472147778293816704 : Nat := 0
def tw12711328130705158454 : Nat := 0
def tw10877669800162815592 : Nat := 0
def tw9455315635297369973 : Nat := 0
def tw11459302294236880002 : Nat := 0
def tw8588638936072402954 : Nat := 0
def tw3402611611940549390 : Nat := 0
def tw12632894289660141529 : Nat := 0
def tw6476452166962677534 : Nat := 0
def tw10852002547057688113 : Nat := 0
def tw17608952420148325508 : Nat := 0
def tw10912456680650969028 : Nat := 0
def tw10605214757439220707 : Nat := 0
def tw2029313184538567300 : Nat := 0
def tw3634588828602441664 : Nat := 0
def tw16697869865838522886 : Nat := 0
def tw5293197662586658758 : Nat := 0
def tw13806296475507119121 : Nat := 0
def tw1890613456056541505 : Nat := 0
def tw11489804500157309593 : Nat := 0
def tw6785715115457648025 : Nat := 0
def tw13401514039676174742 : Nat := 0
def tw15001058449457475044 : Nat := 0
def tw9989862122986959886 : Nat := 0
def tw14030972165344007260 : Nat := 0
def tw17650711858922250073 : Nat := 0
def tw3075357685052863729 : Nat := 0
def tw11081348700919420342 : Nat := 0
def tw2406225155723400214 : Nat := 0
def tw10025974632583751292 : Nat := 0
def tw7160411448736902673 : Nat := 0
def tw10360811445354393059 : Nat := 0
def tw13552486910039360391 : Nat := 0
def tw3802413210524055549 : Nat := 0
def tw7108942003941334003 : Nat := 0
def tw5582505895239444018 : Nat := 0
def tw11447010403341546206 : Nat := 0
def tw11951982702997954764 : Nat := 0
def tw8382761988622365567 : Nat := 0
def tw6102324613497080706 : Nat := 0
def tw16233423845267567723 : Nat := 0
def tw3438912182985530117 : Nat := 0
def tw7783216200217870289 : Nat := 0
def tw9816589019406541872 : Nat := 0
def tw10425466148301230665 : Nat := 0
def tw6671720277387209225 : Nat := 0
def tw7038315551259961194 : Nat := 0
def tw6732313952177620593 : Nat := 0
def tw11453144425305921936 : Nat := 0
def tw12347588452053153243 : Nat := 0
def tw11784896558735020104 : Nat := 0
def tw14854617113982171627 : Nat := 0
def tw8074499287194722576 : Nat := 0
def tw3797787171109169311 : Nat := 0
def tw6470876843558011416 : Nat := 0
def tw6584499544871276026 : Nat := 0
def tw11471612583548396823 : Nat := 0
def tw11065728071070251524 : Nat := 0
def tw16525072478480028171 : Nat := 0
def tw10158727208755425474 : Nat := 0
def tw7435787785755151005 : Nat := 0
def tw3717645992515687949 : Nat := 0
def tw11574866402023960026 : Nat := 0
def tw13073232665416362889 : Nat := 0
def tw7020064021851527527 : Nat := 0
def tw2804259117476624429 : Nat := 0
def tw12114462569260208977 : Nat := 0
def tw6154406776560496393 : Nat := 0
def tw5212029368197640033 : Nat := 0
def tw12869248966444001379 : Nat := 0
def tw8038090006254924122 : Nat := 0
def tw16277655369316165109 : Nat := 0
def tw10638855940591145005 : Nat := 0
def tw2978980848717813376 : Nat := 0
def tw827871354738314758 : Nat := 0
def tw6505754664460682185 : Nat := 0
def tw4189136344169023745 : Nat := 0
def tw3930246994696950188 : Nat := 0
def tw10105715259376325556 : Nat := 0
def tw10510622108545485158 : Nat := 0
def tw11729867812856185201 : Nat := 0
def tw17440121329461402807 : Nat := 0
def tw5062427417457314010 : Nat := 0
def tw15460499227657342473 : Nat := 0
def tw112601873789471437 : Nat := 0
def tw7580727669564724280 : Nat := 0
def tw12711174764570518376 : Nat := 0
def tw5936347748864874612 : Nat := 0
def tw2620960862312562274 : Nat := 0
def tw137996609702127052 : Nat := 0
def tw14399994160150331273 : Nat := 0
def tw9696359901562874958 : Nat := 0
def tw17194868855204635169 : Nat := 0
def tw10235349344571210080 : Nat := 0
def tw3801386802376539396 : Nat := 0
def tw3576048867520256101 : Nat := 0
def tw13233277280070372124 : Nat := 0
def tw15095353806901862289 : Nat := 0
def tw15858577455045536355 : Nat := 0
def tw4691682338545418403 : Nat := 0
def tw521034273249242816 : Nat := 0
def tw5335069641976796909 : Nat := 0
def tw5606810785181503514 : Nat := 0
def tw4396993524980776754 : Nat := 0
def tw10563657430056259302 : Nat := 0
def tw1570150224748555276 : Nat := 0
def tw11794291853107351882 : Nat := 0
def tw1014550659354575353 : Nat := 0
def tw6126126595875611752 : Nat := 0
def tw3084174550050508391 : Nat := 0
def tw12380247099614481706 : Nat := 0
def tw4769621126105732887 : Nat := 0
def tw4624534616699558525 : Nat := 0
def tw5444491442079669527 : Nat := 0
def tw4246073279364726358 : Nat := 0
def tw11180224430342157638 : Nat := 0
def tw661755398595749921 : Nat := 0
def tw13048173080918722958 : Nat := 0
def tw1340608167633452976 : Nat := 0
def tw12370084324329789713 : Nat := 0
def tw5156285666593266488 : Nat := 0
def tw4163821559176140892 : Nat := 0
def tw3889027041973727446 : Nat := 0
def tw12268446944678943516 : Nat := 0
def tw3337089624118172579 : Nat := 0
def tw979961188268843009 : Nat := 0
def tw5208151144450881872 : Nat := 0
def tw535234579117931221 : Nat := 0
def tw5198338102422761818 : Nat := 0
def tw12810725738767496171 : Nat := 0
def tw5805738878003604251 : Nat := 0
def tw6841412541569198353 : Nat := 0
def tw7894147177153434501 : Nat := 0
def tw1321623333372906921 : Nat := 0
def tw6603831826625955846 : Nat := 0
def tw15411594187360256816 : Nat := 0
def tw5825889247001632009 : Nat := 0
def tw16287782845900235807 : Nat := 0
def tw10042611866632135593 : Nat := 0
def tw1200851908389106048 : Nat := 0
def tw8259050752626581265 : Nat := 0
def tw1900046053669646789 : Nat := 0
def tw2204828270084352547 : Nat := 0
def tw1455937656116614771 : Nat := 0
def tw17580827471682175666 : Nat := 0
def tw1701187805834410352 : Nat := 0
def tw16417130696266925265 : Nat := 0
def tw11762818194973164591 : Nat := 0
def tw13556818621510381354 : Nat := 0
def tw9878431500489232002 : Nat := 0
def tw10433176498836800170 : Nat := 0
def tw7279180781290922660 : Nat := 0
def tw12419555077828036731 : Nat := 0
def tw5730532327036448254 : Nat := 0
def tw16947595869107637508 : Nat := 0
def tw1453469652317382687 : Nat := 0
def tw11699461649627160589 : Nat := 0
def tw10189581471330369468 : Nat := 0
def tw11476899053188037699 : Nat := 0
def tw12010451125373636044 : Nat := 0
def tw15897307821904851362 : Nat := 0
def tw1700134209952852249 : Nat := 0
def tw2330267629169242444 : Nat := 0
def tw15235951216920227944 : Nat := 0
def tw12263024315976178469 : Nat := 0
def tw12822097427048077238 : Nat := 0
def tw7762062099275724226 : Nat := 0
def tw15509401771006167415 : Nat := 0
def tw8637908151458963655 : Nat := 0
def tw11170216426054054344 : Nat := 0
def tw10101914740194885554 : Nat := 0
def tw10599159434648717039 : Nat := 0
def tw11837213132580867092 : Nat := 0
def tw12971157366977566950 : Nat := 0
def tw8111320559199327758 : Nat := 0
def tw14902680599501441993 : Nat := 0
def tw13620708895463592650 : Nat := 0
def tw1424294299312157976 : Nat := 0
def tw7690877337266961854 : Nat := 0
def tw2735105691468473815 : Nat := 0
def tw15168516898642941032 : Nat := 0
def tw7806323454561641127 : Nat := 0
def tw13841821234135768555 : Nat := 0
def tw1146499265250973487 : Nat := 0
def tw2187902339560383876 : Nat := 0
def tw4665929336560767935 : Nat := 0
def tw14531436612721437182 : Nat := 0
def tw10005881306389957846 : Nat := 0
def tw5888241149249868613 : Nat := 0
def tw16321782917287891304 : Nat := 0
def tw13658325616446511332 : Nat := 0
def tw3736720092686269360 : Nat := 0
def tw8535873533346697982 : Nat := 0
def tw1502525612426293036 : Nat := 0
def tw14974972303114645452 : Nat := 0
def tw339426818328629009 : Nat := 0
def tw17111979389020017797 : Nat := 0
def tw17878389286171084068 : Nat := 0
def tw4902643285405615594 : Nat := 0
def tw10269374121337417173 : Nat := 0
def tw8018357313841574652 : Nat := 0
def tw3286815695746394390 : Nat := 0
def tw12807304950337683407 : Nat := 0
def tw11779270429710862456 : Nat := 0
def tw15922882171632812862 : Nat := 0
def tw10345427721262693546 : Nat := 0
def tw14053364728608727871 : Nat := 0
def tw11845564945775063302 : Nat := 0
def tw6581881914545441249 : Nat := 0
def tw4283881293480528832 : Nat := 0
def tw3049812879129331773 : Nat := 0
def tw15808618704600304841 : Nat := 0
def tw605046969260612106 : Nat := 0
def tw10843087387180509229 : Nat := 0
def tw15707454887878330657 : Nat := 0
def tw5877888411449973213 : Nat := 0
def tw14341138164132301844 : Nat := 0
def tw17680374165673392246 : Nat := 0
def tw3931414587825086339 : Nat := 0
def tw8480399984125246967 : Nat := 0
def tw15694256982804274292 : Nat := 0
def tw6471350534995013157 : Nat := 0
def tw3619264060132696279 : Nat := 0
def tw11188322851669397680 : Nat := 0
def tw8934402192489018047 : Nat := 0
def tw9248931815227228211 : Nat := 0
def tw12143916367299224669 : Nat := 0
def tw18253405735919111636 : Nat := 0
def tw18103115625629478779 : Nat := 0
def tw6650985119841797511 : Nat := 0
def tw8764325283715997834 : Nat := 0
def tw5159102859819748337 : Nat := 0
def tw9465318974245871521 : Nat := 0
def tw10340129630487834056 : Nat := 0
def tw13948728577370487881 : Nat := 0
def tw8149768069282405451 : Nat := 0
def tw8455497796563169922 : Nat := 0
def tw2001464115239852004 : Nat := 0
def tw3965477897312456291 : Nat := 0
def tw15969501694763050348 : Nat := 0
def tw6575917561561086361 : Nat := 0
def tw9197019831820431040 : Nat := 0
def tw18376160357359877408 : Nat := 0
def tw14966349980351623770 : Nat := 0
def tw11448766420025500544 : Nat := 0
def tw7179434917169951572 : Nat := 0
def tw2295985582709258054 : Nat := 0
def tw8729869801213925316 : Nat := 0
def tw1344459978542448615 : Nat := 0
def tw5359859030980638053 : Nat := 0
def tw415146752648291473 : Nat := 0
def tw7171373331321118879 : Nat := 0
def tw13318149969060497848 : Nat := 0
def tw15005758580302327019 : Nat := 0
def tw3356714786739973830 : Nat := 0
def tw10951112389166992041 : Nat := 0
def tw3441410320888814206 : Nat := 0
def tw4442486540351023681 : Nat := 0
def tw5074179923074137805 : Nat := 0
def tw6282877175735236537 : Nat := 0
def tw8090765050754216944 : Nat := 0
def tw5756337086322957002 : Nat := 0
def tw11577775954794657636 : Nat := 0
def tw18408247367339668309 : Nat := 0
def tw5392311823580181831 : Nat := 0
def tw4310015950044086781 : Nat := 0
def tw15496488420345970927 : Nat := 0
def tw1312980500311880980 : Nat := 0
def tw8090210686111995002 : Nat := 0
def tw946278770419405828 : Nat := 0
def tw12968832872102000036 : Nat := 0
def tw766310380035646323 : Nat := 0
def tw14051903580914194416 : Nat := 0
def tw4642053303589206211 : Nat := 0
def tw14019694401028036338 : Nat := 0
def tw12367154055394453441 : Nat := 0
def tw13226371154479685849 : Nat := 0
def tw17478428375903161149 : Nat := 0
def tw18041632079364250671 : Nat := 0
def tw17443001429606908931 : Nat := 0
def tw5245273538932086971 : Nat := 0
def tw352025384674689600 : Nat := 0
def tw9405461984785159789 : Nat := 0
def tw6905334911133914845 : Nat := 0
def tw626100236759830415 : Nat := 0
def tw7906889811759386495 : Nat := 0
def tw6008980831301483167 : Nat := 0
def tw5474289685208344010 : Nat := 0
def tw8209154015886433692 : Nat := 0
def tw10762993451182967903 : Nat := 0
def tw5048204644713824923 : Nat := 0
def tw12308648191792411716 : Nat := 0
def tw8521693579132255624 : Nat := 0
def tw5678988918999969557 : Nat := 0
def tw10994232352781062376 : Nat := 0
def tw3518033274181799490 : Nat := 0
def tw16321648615611729211 : Nat := 0
def tw12525113636641481310 : Nat := 0
def tw13286407820422670925 : Nat := 0
def tw14494577138817355836 : Nat := 0
def tw18390160584987968335 : Nat := 0
def tw11697886871677263660 : Nat := 0
def tw2191195537537718708 : Nat := 0
def tw18190541739161568425 : Nat := 0
def tw11284403154504131875 : Nat := 0
def tw15097403866915756266 : Nat := 0
def tw7163960410542593689 : Nat := 0
def tw7144929890717343309 : Nat := 0
def tw2339204758122124218 : Nat := 0
def tw7179547025679693031 : Nat := 0
def tw2643997360764438195 : Nat := 0
def tw11249661914830528603 : Nat := 0
def tw718244743706868956 : Nat := 0
def tw10913343945373737578 : Nat := 0
def tw18419466827122453649 : Nat := 0
def tw8386315442795662312 : Nat := 0
def tw5565681067850733790 : Nat := 0
def tw4283032504088640317 : Nat := 0
def tw6775701160559289366 : Nat := 0
def tw17576973601345779422 : Nat := 0
def tw10483112033963372094 : Nat := 0
def tw129473681236901511 : Nat := 0
def tw4836139039060371883 : Nat := 0
def tw2439276842146704581 : Nat := 0
def tw4311352336580292226 : Nat := 0
def tw16305560187315411157 : Nat := 0
def tw6388272863098839191 : Nat := 0
def tw6086951721371485216 : Nat := 0
def tw15550035275861329236 : Nat := 0
def tw6534663157497295311 : Nat := 0
def tw6785473293048596208 : Nat := 0
def tw6141752241937519671 : Nat := 0
def tw999795336714738294 : Nat := 0
def tw5337799513060250536 : Nat := 0
def tw9839901093203502653 : Nat := 0
def tw4398341411414516383 : Nat := 0
def tw15140396801161235626 : Nat := 0
def tw15555928079252709182 : Nat := 0
def tw1931423945294587831 : Nat := 0
def tw4397871798452453964 : Nat := 0
def tw11819527812775794422 : Nat := 0
def tw18377146007451311944 : Nat := 0
def tw4597947167201193208 : Nat := 0
def tw6714948284327280339 : Nat := 0
def tw16596599806493989066 : Nat := 0
def tw12384175419990462530 : Nat := 0
def tw6962842699198214171 : Nat := 0
def tw2371456550184391571 : Nat := 0
def tw13145711445637592278 : Nat := 0
def tw15423975520491237753 : Nat := 0
def tw11071451570810407539 : Nat := 0
def tw11054494404715909253 : Nat := 0
def tw6468067790476236625 : Nat := 0
def tw14365702383719043112 : Nat := 0
def tw1884846467324458532 : Nat := 0
def tw6735549424535238153 : Nat := 0
def tw7578594213550004705 : Nat := 0
def tw721880644253209712 : Nat := 0
def tw17239126930482231958 : Nat := 0
def tw6618413369430003278 : Nat := 0
def tw13424590410784316635 : Nat := 0
def tw11141082555103154889 : Nat := 0
def tw8742674847931105684 : Nat := 0
def tw8265222944662163140 : Nat := 0
def tw2391115642712371111 : Nat := 0
def tw13508485863797228735 : Nat := 0
def tw12080844333990403141 : Nat := 0
def tw11798356629745779040 : Nat := 0
def tw789411388273263226 : Nat := 0
def tw10930474438439324512 : Nat := 0
def tw8092962280067046342 : Nat := 0
def tw2979371808301608590 : Nat := 0
def tw10486548862902826206 : Nat := 0
def tw6561076470519567911 : Nat := 0
def tw699691540164564090 : Nat := 0
def tw5348855718219225756 : Nat := 0
def tw12065387894026474424 : Nat := 0
def tw7121877864108543384 : Nat := 0
def tw12697980589102083064 : Nat := 0
def tw3004876231676905374 : Nat := 0
def tw4734087332477141331 : Nat := 0
def tw12498729638981006148 : Nat := 0
def tw17436502420374297682 : Nat := 0
def tw17302841002193308112 : Nat := 0
def tw16858787393054184518 : Nat := 0
def tw3544663049927062039 : Nat := 0
def tw9350148578661155663 : Nat := 0
def tw3247689235660191389 : Nat := 0
def tw1913726810146940146 : Nat := 0
def tw2103584972581429317 : Nat := 0
def tw3571072097956458513 : Nat := 0
def tw2070497541029273023 : Nat := 0
def tw2288861864440943047 : Nat := 0
def tw123175327799618859 : Nat := 0
def tw8970533931923355496 : Nat := 0
def tw12856083591725647328 : Nat := 0
def tw17312150011407004391 : Nat := 0
def tw11937413335040918099 : Nat := 0
def tw2227920823284001672 : Nat := 0
def tw17994949213114128583 : Nat := 0
def tw3984180352592123906 : Nat := 0
def tw8152929164028068170 : Nat := 0
def tw1615354765807804890 : Nat := 0
def tw8447210678081622541 : Nat := 0
def tw6547717456701770369 : Nat := 0
def tw10951471880065267893 : Nat := 0
def tw4935939468385910817 : Nat := 0
def tw5675464967436923353 : Nat := 0
def tw3385628063194620471 : Nat := 0
def tw6426016755406146025 : Nat := 0
def tw4432693377172789301 : Nat := 0
def tw4177984245480521607 : Nat := 0
def tw1682392370125642271 : Nat := 0
def tw17038447573817426777 : Nat := 0
def tw6728602295396733723 : Nat := 0
def tw6909482444327944736 : Nat := 0
def tw9733269200788174069 : Nat := 0
def tw13579934231167916177 : Nat := 0
def tw5373516104928315646 : Nat := 0
def tw4933843143256273463 : Nat := 0
def tw5590442157051679330 : Nat := 0
def tw14849422270127448361 : Nat := 0
def tw18348424399725479441 : Nat := 0
def tw10627573917155521499 : Nat := 0
def tw1050956605043116142 : Nat := 0
def tw15746489432849875225 : Nat := 0
def tw7985357825399458380 : Nat := 0
def tw3366637218100209686 : Nat := 0
def tw2834836716097375514 : Nat := 0
def tw13236589677724584633 : Nat := 0
def tw12670424295301695613 : Nat := 0
def tw13469434973426931505 : Nat := 0
def tw13914185489358587429 : Nat := 0
def tw13756579521059248916 : Nat := 0
def tw5248454848189442440 : Nat := 0
def tw2074026996906279284 : Nat := 0
def tw909795921375475330 : Nat := 0
def tw5286584517617254231 : Nat := 0
def tw4068846469333365988 : Nat := 0
def tw17495962133027783609 : Nat := 0
def tw5501152018964318291 : Nat := 0
def tw3850051441849260769 : Nat := 0
def tw14783658708758406327 : Nat := 0
def tw17932679000936771813 : Nat := 0
def tw10372481935036549133 : Nat := 0
def tw6465500666826505642 : Nat := 0
def tw3172982288100663182 : Nat := 0
def tw14437117312968663756 : Nat := 0
def tw12752300823800337057 : Nat := 0
def tw5450573405791895475 : Nat := 0
def tw17889419276440005967 : Nat := 0
def tw17835353077314737601 : Nat := 0
def tw18091229669649370643 : Nat := 0
def tw3538724428385783654 : Nat := 0
def tw2447036746053957037 : Nat := 0
def tw2932667095227286212 : Nat := 0
def tw10830295818442232194 : Nat := 0
def tw15036533295765786343 : Nat := 0
def tw16718258527003969887 : Nat := 0
def tw15416057693238957427 : Nat := 0
def tw14652623226602609504 : Nat := 0
def tw2839126519351889093 : Nat := 0
def tw11732461861125250902 : Nat := 0
def tw16023652418799585874 : Nat := 0
def tw13063728472302403145 : Nat := 0
def tw12142842866242589382 : Nat := 0
def tw8998104501990405293 : Nat := 0
def tw8039053462553134372 : Nat := 0
def tw2642818795297911816 : Nat := 0
def tw17523343988136024442 : Nat := 0
def tw5263549251661618100 : Nat := 0
def tw6208060206513593576 : Nat := 0
def tw17037749210153489672 : Nat := 0
def tw6301373332600963375 : Nat := 0
def tw7906728252981002119 : Nat := 0
def tw1788524449971612799 : Nat := 0
def tw10869609451516254469 : Nat := 0
def tw3623648147542532779 : Nat := 0
def tw9601732615093449431 : Nat := 0
def tw10020217968642153944 : Nat := 0
def tw7060844390701530090 : Nat := 0
def tw14796135522665708970 : Nat := 0
def tw14868153942780632254 : Nat := 0
def tw8300588340914328892 : Nat := 0
def tw8251357416483766793 : Nat := 0
def tw8796524315753639392 : Nat := 0
def tw6434502813091837143 : Nat := 0
def tw10073059972853841609 : Nat := 0
def tw13290805164839645458 : Nat := 0
def tw7675505635830746823 : Nat := 0
def tw5907666984726262474 : Nat := 0
def tw6756926939624395031 : Nat := 0
def tw4304995119239891115 : Nat := 0
def tw13801862617288203145 : Nat := 0
def tw9592809063941365153 : Nat := 0
def tw16968380507644824982 : Nat := 0
def tw15809198537622587192 : Nat := 0
def tw12298106435144268875 : Nat := 0
def tw17836773464942750328 : Nat := 0
def tw6269748277150076675 : Nat := 0
def tw13610545455057933744 : Nat := 0
def tw8172653602671969999 : Nat := 0
def tw8342891010657035278 : Nat := 0
def tw12250189957932254080 : Nat := 0
def tw8689110853730429814 : Nat := 0
def tw9596933816092597236 : Nat := 0
def tw1729682161985051998 : Nat := 0
def tw14803998342096316109 : Nat := 0
def tw3240143906576492986 : Nat := 0
def tw1358977493194858900 : Nat := 0
def tw8454368575024305133 : Nat := 0
def tw2801681278275280743 : Nat := 0
def tw10727610386828633803 : Nat := 0
def tw14987611691719868081 : Nat := 0
def tw8248113610365210541 : Nat := 0
def tw18277393162516115626 : Nat := 0
def tw16856400439454496700 : Nat := 0
def tw16409151048722772496 : Nat := 0
def tw17453630652274783974 : Nat := 0
def tw6897113505371559037 : Nat := 0
def tw12371975477415315701 : Nat := 0
def tw1248691256350226990 : Nat := 0
def tw13554397964117570893 : Nat := 0
def tw14587803095760869209 : Nat := 0
def tw660394391719441918 : Nat := 0
def tw11477992500223966054 : Nat := 0
def tw12345037169162621844 : Nat := 0
def tw3970469018478501747 : Nat := 0
def tw2447696275949812875 : Nat := 0
def tw17451319214337192497 : Nat := 0
def tw9300215508676115125 : Nat := 0
def tw12014812340987265339 : Nat := 0
def tw17971569432276664177 : Nat := 0
def tw14223071206983402446 : Nat := 0
def tw2849278018282031534 : Nat := 0
def tw2508430425673054828 : Nat := 0
def tw12183232889714404004 : Nat := 0
def tw1775993433817233694 : Nat := 0
def tw16817801318782467653 : Nat := 0
def tw16294740726339679010 : Nat := 0
def tw13534423917475716397 : Nat := 0
def tw9287173361359795241 : Nat := 0
def tw5562848856930324013 : Nat := 0
def tw15526062063149815659 : Nat := 0
def tw7216117861468044559 : Nat := 0
def tw15882751597834931472 : Nat := 0
def tw5247346678780078277 : Nat := 0
def tw62239724694466839 : Nat := 0
def tw12404387645815007967 : Nat := 0
def tw10931889565354842474 : Nat := 0
def tw557633000375044620 : Nat := 0
def tw9707438713375069098 : Nat := 0
def tw11694475001866620678 : Nat := 0
def tw13387633702450966375 : Nat := 0
def tw7814834449286657869 : Nat := 0
def tw9514169019456158507 : Nat := 0
def tw1804106588848285757 : Nat := 0
def tw4404442409161897918 : Nat := 0
def tw12094090294448603090 : Nat := 0
def tw5664447703026030821 : Nat := 0
def tw15229449129147247919 : Nat := 0
def tw17958289508699640506 : Nat := 0
def tw10645507399247803757 : Nat := 0
def tw4038464272142589538 : Nat := 0
def tw3475164358163078587 : Nat := 0
def tw3056394369755109391 : Nat := 0
def tw1614380297120190928 : Nat := 0
def tw3983693871521127610 : Nat := 0
def tw3470802719832534174 : Nat := 0
def tw3243726972919506879 : Nat := 0
def tw3572414145165117212 : Nat := 0
def tw9127505718612769180 : Nat := 0
def tw9675394787097875738 : Nat := 0
def tw17941787913613795437 : Nat := 0
def tw15981983063991214841 : Nat := 0
def tw272511124319486576 : Nat := 0
def tw18393547138251758992 : Nat := 0
def tw15759081090667518540 : Nat := 0
def tw10164541251783268447 : Nat := 0
def tw4761580650252602691 : Nat := 0
def tw7839911894464897496 : Nat := 0
def tw14410309316943009436 : Nat := 0
def tw15189775969092825396 : Nat := 0
def tw11745909221017520853 : Nat := 0
def tw16588130011048363284 : Nat := 0
def tw1894371147823179596 : Nat := 0
def tw12030677067608190837 : Nat := 0
def tw10979740888871778046 : Nat := 0
def tw3751190149568707555 : Nat := 0
def tw9946494925338814391 : Nat := 0
def tw13684472976040246442 : Nat := 0
def tw11814927900634198747 : Nat := 0
def tw13139421169847780474 : Nat := 0
def tw9197193844574826886 : Nat := 0
def tw5201282334164377071 : Nat := 0
def tw6155775316073602559 : Nat := 0
def tw14735177418598396850 : Nat := 0
def tw1949843975403535302 : Nat := 0
def tw18337996377810417374 : Nat := 0
def tw13813965224516353545 : Nat := 0
def tw6152976093258720454 : Nat := 0
def tw13538155769438013444 : Nat := 0
def tw1510057717058294256 : Nat := 0
def tw17828395898879281958 : Nat := 0
def tw11449331521246721034 : Nat := 0
def tw1128989461038114058 : Nat := 0
def tw2143264345709792199 : Nat := 0
def tw5073343997629245080 : Nat := 0
def tw10265309101005520832 : Nat := 0
def tw1680965327968693028 : Nat := 0
def tw13880807751779868185 : Nat := 0
def tw16527801220536373564 : Nat := 0
def tw15365599121201840591 : Nat := 0
def tw13467864774160865896 : Nat := 0
def tw7052133087978827074 : Nat := 0
def tw15597054340887232453 : Nat := 0
def tw2980181800640654398 : Nat := 0
def tw7673490565084192029 : Nat := 0
def tw14824886436130300639 : Nat := 0
def tw11864663450028592613 : Nat := 0
def tw4832430215591070300 : Nat := 0
def tw9270868277445988050 : Nat := 0
def tw13522261828171429335 : Nat := 0
def tw5958512021958796450 : Nat := 0
def tw18019972604068757662 : Nat := 0
def tw16681896488394795836 : Nat := 0
def tw4584990213940234509 : Nat := 0
def tw17935019130241840464 : Nat := 0
def tw15364692245381670424 : Nat := 0
def tw10093570707482351117 : Nat := 0
def tw4049357447424175426 : Nat := 0
def tw550846421871582889 : Nat := 0
def tw17458129521503491824 : Nat := 0
def tw18052686810911439432 : Nat := 0
def tw2819911923538573958 : Nat := 0
def tw9431341995513254013 : Nat := 0
def tw13519884458561443832 : Nat := 0
def tw18174519286972671155 : Nat := 0
def tw3623903805870648523 : Nat := 0
def tw9090384230283251889 : Nat := 0
def tw6896122999339706011 : Nat := 0
def tw12848340923408199202 : Nat := 0
def tw9469601166055844133 : Nat := 0
def tw18227702031655866102 : Nat := 0
def tw7285982959468560970 : Nat := 0
def tw7069177152561280347 : Nat := 0
def tw8227541025513097113 : Nat := 0
def tw1757956781587843379 : Nat := 0
def tw17301283625377059907 : Nat := 0
def tw5311922187757879101 : Nat := 0
def tw10975222175360406255 : Nat := 0
def tw2681546550900899651 : Nat := 0
def tw8874812575920499732 : Nat := 0
def tw4963891476274387955 : Nat := 0
def tw4013340702999450188 : Nat := 0
def tw14987240422843921701 : Nat := 0
def tw10090166248974982849 : Nat := 0
def tw6103689968091960004 : Nat := 0
def tw12418588342576994656 : Nat := 0
def tw6614575347243893966 : Nat := 0
def tw11849871963470897675 : Nat := 0
def tw1604157034904297860 : Nat := 0
def tw4316689083070165110 : Nat := 0
def tw3477909075787510298 : Nat := 0
def tw5224640668374299441 : Nat := 0
def tw172188818931341420 : Nat := 0
def tw2518538939603448062 : Nat := 0
def tw16445200330827822264 : Nat := 0
def tw3541445836145429288 : Nat := 0
def tw4163226274025897285 : Nat := 0
def tw6009731986093276949 : Nat := 0
def tw1662397581592512473 : Nat := 0
def tw888512853594676808 : Nat := 0
def tw15156406016993370910 : Nat := 0
def tw13346125468011427207 : Nat := 0
def tw3687400269882897463 : Nat := 0
def tw10596487386094374241 : Nat := 0
def tw85319293156966971 : Nat := 0
def tw29941381394752521 : Nat := 0
def tw15160161000044359191 : Nat := 0
def tw1662194031403055597 : Nat := 0
def tw535975309018672505 : Nat := 0
def tw7856585447162044627 : Nat := 0
def tw93110038091481844 : Nat := 0
def tw14869706365032044840 : Nat := 0
def tw8249658395037965477 : Nat := 0
def tw8837142118535008885 : Nat := 0
def tw7734190567353486364 : Nat := 0
def tw12356124420705594723 : Nat := 0
def tw5161450093380316034 : Nat := 0
def tw11058336650225096359 : Nat := 0
def tw15272979201296789452 : Nat := 0
def tw9651330757814649064 : Nat := 0
def tw5427181931100208860 : Nat := 0
def tw16456217253107486988 : Nat := 0
def tw15493735716578988459 : Nat := 0
def tw16406390511792516613 : Nat := 0
def tw16414547654443518559 : Nat := 0
def tw16032867446342659930 : Nat := 0
def tw9202197797216324580 : Nat := 0
def tw1562006349834212929 : Nat := 0
def tw9901319168377992036 : Nat := 0
def tw10381072987556646962 : Nat := 0
def tw15777562371957071793 : Nat := 0
def tw14335484852234159139 : Nat := 0
def tw5449148097795732831 : Nat := 0
def tw12488674887002826339 : Nat := 0
def tw9224873024770270756 : Nat := 0
def tw18296831988545815517 : Nat := 0
def tw13297457573157890272 : Nat := 0
def tw10714884955864938434 : Nat := 0
def tw9275545636473803058 : Nat := 0
def tw6251650193445242242 : Nat := 0
def tw8486825360124591277 : Nat := 0
def tw3658734093578962619 : Nat := 0
def tw10810733130423982458 : Nat := 0
def tw764394145372584143 : Nat := 0
def tw1029154746268064025 : Nat := 0
def tw14364545799689879784 : Nat := 0
def tw3962661006159074146 : Nat := 0
def tw3966650228170881172 : Nat := 0
def tw6221468168928433683 : Nat := 0
def tw1200639416797494545 : Nat := 0
def tw10694754565454453019 : Nat := 0
def tw7492472282972573019 : Nat := 0
def tw11585477466302554835 : Nat := 0
def tw14540680896030477417 : Nat := 0
def tw15049409505199986918 : Nat := 0
def tw270248217117215512 : Nat := 0
def tw3553838972480173318 : Nat := 0
def tw16367005950628942132 : Nat := 0
def tw9595950396061699358 : Nat := 0
def tw15787036329699695281 : Nat := 0
def tw7314748405972524639 : Nat := 0
def tw10811018230546740198 : Nat := 0
def tw5326267735997800861 : Nat := 0
def tw17550202028476192393 : Nat := 0
def tw1623725836598558150 : Nat := 0
def tw243298959966630567 : Nat := 0
def tw16339123970737270145 : Nat := 0
def tw9398624632587691679 : Nat := 0
def tw11424126046430557892 : Nat := 0
def tw5004902862241216229 : Nat := 0
def tw6774008855908544595 : Nat := 0
def tw5041354541182227298 : Nat := 0
def tw11896221982238808597 : Nat := 0
def tw13103652281272285355 : Nat := 0
def tw15118154903387016248 : Nat := 0
def tw14390880414387477480 : Nat := 0
def tw4964541296091527766 : Nat := 0
def tw679380645718712722 : Nat := 0
def tw9774794852775140476 : Nat := 0
def tw12899734616012986559 : Nat := 0
def tw9614633699948091106 : Nat := 0
def tw7160373126384877258 : Nat := 0
def tw9920560635174375439 : Nat := 0
def tw3190059042339033056 : Nat := 0
def tw13546407808242576902 : Nat := 0
def tw14540358639870386917 : Nat := 0
def tw11076319522495860360 : Nat := 0
def tw1309120164007139489 : Nat := 0
def tw18085023462492616280 : Nat := 0
def tw5937733747911273332 : Nat := 0
def tw2715302589762571978 : Nat := 0
def tw17383912721436600174 : Nat := 0
def tw5933085499875457816 : Nat := 0
def tw6960113399764129603 : Nat := 0
def tw10510219463727067491 : Nat := 0
def tw2767826814699577293 : Nat := 0
def tw3083725262541973352 : Nat := 0
def tw1213804120032120540 : Nat := 0
def tw14578150643439006249 : Nat := 0
def tw2850127302171664908 : Nat := 0
def tw11845754911420853582 : Nat := 0
def tw16242253467598554756 : Nat := 0
def tw5719181712610673072 : Nat := 0
def tw18407372777720024984 : Nat := 0
def tw8477498736141348281 : Nat := 0
def tw7447536110268567334 : Nat := 0
def tw640634759631284421 : Nat := 0
def tw2261585921466606604 : Nat := 0
def tw1120491550426664582 : Nat := 0
def tw8593658455818509976 : Nat := 0
def tw2855509209885782684 : Nat := 0
def tw9583591336254731023 : Nat := 0
def tw3777288923713713810 : Nat := 0
def tw9238404848986478911 : Nat := 0
def tw11051477043058949567 : Nat := 0
def tw8470747564303032086 : Nat := 0
def tw8416908374903646442 : Nat := 0
def tw4701222876653458184 : Nat := 0
def tw4484670007058396309 : Nat := 0
def tw15581377784940211296 : Nat := 0
def tw14283563211359487666 : Nat := 0
def tw14741477741278674702 : Nat := 0
def tw5353089488921439093 : Nat := 0
def tw5656082956080349567 : Nat := 0
def tw1325023894099597374 : Nat := 0
def tw2563044924129318080 : Nat := 0
def tw8399145697425941118 : Nat := 0
def tw4996839438855250157 : Nat := 0
def tw12169877480340192998 : Nat := 0
def tw6917160219257180261 : Nat := 0
def tw16323107401409305568 : Nat := 0
def tw9549780231578364469 : Nat := 0
def tw12091042444495665125 : Nat := 0
def tw13472693546672487905 : Nat := 0
def tw9730429290842657213 : Nat := 0
def tw6463517409067585349 : Nat := 0
def tw244217453430804226 : Nat := 0
def tw9568401521627442149 : Nat := 0
def tw11563005833992941969 : Nat := 0
def tw10966063737717668385 : Nat := 0
def tw8342111076537716833 : Nat := 0
def tw10801296362996188517 : Nat := 0
def tw7631651969826514674 : Nat := 0
def tw5114963262507809769 : Nat := 0
def tw15713102710646534220 : Nat := 0
def tw8097496640240141686 : Nat := 0
def tw5625583621840188313 : Nat := 0
def tw17435808365994499178 : Nat := 0
def tw4357152484577719785 : Nat := 0
def tw16254501922664461835 : Nat := 0
def tw1179260498494023588 : Nat := 0
def tw6747861978495977914 : Nat := 0
def tw16872452707488212867 : Nat := 0
def tw11924041508074648618 : Nat := 0
def tw4514554322217279850 : Nat := 0
def tw16951317178545932635 : Nat := 0
def tw1503867128294733982 : Nat := 0
def tw9975089356582228187 : Nat := 0
def tw18409655906721997458 : Nat := 0
def tw14624372147167662336 : Nat := 0
def tw7073799640133619655 : Nat := 0
def tw4648363661518613127 : Nat := 0
def tw18421134879781664024 : Nat := 0
def tw16574623671968502890 : Nat := 0
def tw12223970349460686001 : Nat := 0
def tw2163093780975999699 : Nat := 0
def tw11871742674949875866 : Nat := 0
def tw5173515962458475666 : Nat := 0
def tw15557390813256458116 : Nat := 0
def tw16329159918830527461 : Nat := 0
def tw18267668949406971882 : Nat := 0
def tw7864470827156263478 : Nat := 0
def tw9148925750274944878 : Nat := 0
def tw13070388657457812682 : Nat := 0
def tw12681989522178351320 : Nat := 0
def tw2126159978162474465 : Nat := 0
def tw3529443916032868841 : Nat := 0
def tw16506680473112427732 : Nat := 0
def tw15215335696086383899 : Nat := 0
def tw1849377807650230461 : Nat := 0
def tw4504178817298297516 : Nat := 0
def tw17058688965393994748 : Nat := 0
def tw16151003941030241950 : Nat := 0
def tw14923239892579884577 : Nat := 0
def tw15477834055328512342 : Nat := 0
def tw3473130001722784900 : Nat := 0
def tw453758708393847810 : Nat := 0
def tw2506929312728858954 : Nat := 0
def tw10105892742395714400 : Nat := 0
def tw2262704404352374281 : Nat := 0
def tw5634887294885959392 : Nat := 0
def tw15339295207021717621 : Nat := 0
def tw18060160723209249529 : Nat := 0
def tw7019234912947965033 : Nat := 0
def tw1560274567695235948 : Nat := 0
def tw6717859483934585454 : Nat := 0
def tw13094810062339567812 : Nat := 0
def tw14254998779493250283 : Nat := 0
def tw6286265385640886941 : Nat := 0
def tw16361182419801188601 : Nat := 0
def tw2218804429875166203 : Nat := 0
def tw12559358124285294139 : Nat := 0
def tw16254366905495173711 : Nat := 0
def tw12360189142256916011 : Nat := 0
def tw4647445676354405271 : Nat := 0
def tw16043041191587905589 : Nat := 0
def tw11636582822130735294 : Nat := 0
def tw1068269292441786374 : Nat := 0
def tw10029630446893126125 : Nat := 0
def tw15478699791304436397 : Nat := 0
def tw10225041932123133193 : Nat := 0
def tw7397101903399574737 : Nat := 0
def tw14550345655861851741 : Nat := 0
def tw1922901835893032258 : Nat := 0
def tw17905981637471687597 : Nat := 0
def tw6810512299446280016 : Nat := 0
def tw6721037683123315872 : Nat := 0
def tw821180208683870962 : Nat := 0
def tw8189896025833804771 : Nat := 0
def tw16325658698446324722 : Nat := 0
def tw14004127249960560315 : Nat := 0
def tw143740318522844568 : Nat := 0
def tw2113142336679728547 : Nat := 0
def tw3593800829608533434 : Nat := 0
def tw15640107114424733585 : Nat := 0
def tw15894190218388429888 : Nat := 0
def tw16646813748735708448 : Nat := 0
def tw14587392341912406258 : Nat := 0
def tw17841636544461882548 : Nat := 0
def tw7692610208715414857 : Nat := 0
def tw15774038527167432584 : Nat := 0
def tw12172981802756321631 : Nat := 0
def tw7231457897451214730 : Nat := 0
def tw11578382166253510847 : Nat := 0
def tw2357432661713202744 : Nat := 0
def tw4665336994032543892 : Nat := 0
def tw1046669794418062432 : Nat := 0
def tw16457146838478566202 : Nat := 0
def tw4480282942619608623 : Nat := 0
def tw10745449699732319905 : Nat := 0
def tw11339623977032851332 : Nat := 0
def tw18378896097011170876 : Nat := 0
def tw11295853196257994031 : Nat := 0
def tw12621018545428194125 : Nat := 0
def tw11108150822217723624 : Nat := 0
def tw18444242986826175122 : Nat := 0
def tw2385680796933162239 : Nat := 0
def tw9209451630430077092 : Nat := 0
def tw13600070060493546990 : Nat := 0
def tw5602558977478212947 : Nat := 0
def tw1375500875902878250 : Nat := 0
def tw2338179498826272634 : Nat := 0
def tw12902300925840033957 : Nat := 0
def tw11731554093042199666 : Nat := 0
def tw4044116726188365753 : Nat := 0
def tw16103063286899199467 : Nat := 0
def tw10655147708147105554 : Nat := 0
def tw6480626797440619795 : Nat := 0
def tw8780307083727710369 : Nat := 0
def tw16572465020518776416 : Nat := 0
def tw14688100668528220702 : Nat := 0
def tw16038167353545995781 : Nat := 0
def tw1900735027030564006 : Nat := 0
def tw7381360653802908291 : Nat := 0
def tw14680827697136114676 : Nat := 0
def tw8947963516490808181 : Nat := 0
def tw12839785761824989165 : Nat := 0
def tw135808671677700956 : Nat := 0
def tw2883069841540843251 : Nat := 0
def tw3614301841117912095 : Nat := 0
def tw16761037875576223337 : Nat := 0
def tw16473654287114768612 : Nat := 0
def tw5091537475943171789 : Nat := 0
def tw15842598085714389759 : Nat := 0
def tw7961385876795696684 : Nat := 0
def tw5692685481655543999 : Nat := 0
def tw4495237171344462433 : Nat := 0
def tw9732940423938324069 : Nat := 0
def tw15512720661104586722 : Nat := 0
def tw17326839958187613126 : Nat := 0
def tw9877460123653439264 : Nat := 0
def tw15756525739057805779 : Nat := 0
def tw11939428216219665901 : Nat := 0
def tw10067244715765609263 : Nat := 0
def tw907365165901070508 : Nat := 0
def tw1482851339301290928 : Nat := 0
def tw11619917183085746240 : Nat := 0
def tw13080660218800669343 : Nat := 0
def tw1913751415676457197 : Nat := 0
def tw8095122365850848892 : Nat := 0
def tw7996685571131543551 : Nat := 0
def tw9712940585186779982 : Nat := 0
def tw7369964294724855551 : Nat := 0
def tw15693712461285285021 : Nat := 0
def tw15902913497596125457 : Nat := 0
def tw15522031535756053465 : Nat := 0
def tw16752784807581942475 : Nat := 0
def tw15968959130552425895 : Nat := 0
def tw1176409672239571108 : Nat := 0
def tw11936097242980090512 : Nat := 0
def tw11333074474701939418 : Nat := 0
def tw11949194309788311110 : Nat := 0
def tw5973103973303297673 : Nat := 0
def tw16090640161070127674 : Nat := 0
def tw4714578580487646959 : Nat := 0
def tw17157083875703730854 : Nat := 0
def tw1650863873956384477 : Nat := 0
def tw16228545686291024372 : Nat := 0
def tw6908438682330363368 : Nat := 0
def tw5675732988282209537 : Nat := 0
def tw10457564288867913278 : Nat := 0
def tw7484338868836960289 : Nat := 0
def tw18091576226337059741 : Nat := 0
def tw15602194264084825096 : Nat := 0
def tw3523103179229313910 : Nat := 0
def tw142481700283264647 : Nat := 0
def tw1320249171348402345 : Nat := 0
def tw13444836651131496344 : Nat := 0
def tw16901383190235659581 : Nat := 0
def tw5993473850873130792 : Nat := 0
def tw4244796894770815952 : Nat := 0
def tw16091956098654192228 : Nat := 0
def tw629468561444613947 : Nat := 0
def tw4792016884715603196 : Nat := 0
def tw15264444813033295286 : Nat := 0
def tw7785214933298548632 : Nat := 0
def tw980341034664718476 : Nat := 0
def tw426110763568266523 : Nat := 0
def tw8039416689737077172 : Nat := 0
def tw4618834044520207634 : Nat := 0
def tw7121131338704884834 : Nat := 0
def tw5808542093398028704 : Nat := 0
def tw3060191201172901886 : Nat := 0
def tw1312025387296636564 : Nat := 0
def tw6838060617228523996 : Nat := 0
def tw16435745932525792936 : Nat := 0
def tw7758622524465136359 : Nat := 0
def tw15039476490606609356 : Nat := 0
def tw6194003132704172230 : Nat := 0
def tw13876831639578940925 : Nat := 0
def tw8057049035250585618 : Nat := 0
def tw10460883809299674960 : Nat := 0
def tw784423500072965206 : Nat := 0
def tw1562381376165387715 : Nat := 0
def tw4689758270708911754 : Nat := 0
def tw18217599285100986127 : Nat := 0
def tw17958011432132970521 : Nat := 0
def tw7825030280558622070 : Nat := 0
def tw18079475917675856071 : Nat := 0
def tw18102825508295988701 : Nat := 0
def tw16025101601862494340 : Nat := 0
def tw8043091778094677259 : Nat := 0
def tw8133119738484335373 : Nat := 0
def tw12775305245173370523 : Nat := 0
def tw8576335549345039694 : Nat := 0
def tw1909186577725756041 : Nat := 0
def tw14319326438721727474 : Nat := 0
def tw2544965380191213392 : Nat := 0
def tw14923876397667489004 : Nat := 0
def tw14832365012690529625 : Nat := 0
def tw3746363659565779092 : Nat := 0
def tw14502035974853799302 : Nat := 0
def tw6985312425426565622 : Nat := 0
def tw7484430087606792092 : Nat := 0
def tw13924314326709271664 : Nat := 0
def tw12054512834083728939 : Nat := 0
def tw3556703038333350555 : Nat := 0
def tw14616314908406004421 : Nat := 0
def tw2445576020383110598 : Nat := 0
def tw15458318784492854429 : Nat := 0
def tw12270749694043417367 : Nat := 0
def tw18000548843157757332 : Nat := 0
def tw3319326314267776047 : Nat := 0
def tw3787989754337480304 : Nat := 0
def tw7721549145452440868 : Nat := 0
def tw17019668209420519349 : Nat := 0
def tw11404946697073895380 : Nat := 0
def tw1386783994740993112 : Nat := 0
def tw16663650957845671570 : Nat := 0
def tw6398500306938622520 : Nat := 0
def tw13207619173072808833 : Nat := 0
def tw12500803670139678160 : Nat := 0
def tw9605956912923409209 : Nat := 0
def tw7324438329789196203 : Nat := 0
def tw15301016924706753866 : Nat := 0
def tw4530259758977902132 : Nat := 0
def tw16353146986590321748 : Nat := 0
def tw14732853250958719422 : Nat := 0
def tw134964901253366088 : Nat := 0
def tw1758704377733585526 : Nat := 0
def tw5275604233657947613 : Nat := 0
def tw3863085288975382863 : Nat := 0
def tw13811619920033840558 : Nat := 0
def tw13123713522273501697 : Nat := 0
def tw14304674041494343899 : Nat := 0
def tw16363994143199495467 : Nat := 0
def tw11658520949466194792 : Nat := 0
def tw10942241697835021949 : Nat := 0
def tw5616140163582471501 : Nat := 0
def tw11917468620419659660 : Nat := 0
def tw12494995673451992314 : Nat := 0
def tw1447861189544202455 : Nat := 0
def tw4847079538399939932 : Nat := 0
def tw9344226741984493064 : Nat := 0
def tw8693662499618455541 : Nat := 0
def tw16354844030590357893 : Nat := 0
def tw8540979094669605044 : Nat := 0
def tw471548132031516532 : Nat := 0
def tw11098310834328187027 : Nat := 0
def tw12212920842539137843 : Nat := 0
def tw12599139504147350488 : Nat := 0
def tw11141197651042417492 : Nat := 0
def tw16836243305149855685 : Nat := 0
def tw5944085901346696520 : Nat := 0
def tw14355108503113265372 : Nat := 0
def tw14090441652477992249 : Nat := 0
def tw1449254549409890214 : Nat := 0
def tw6604698105829252283 : Nat := 0
def tw8207677498299273717 : Nat := 0
def tw9071303492398808965 : Nat := 0
def tw14392403391331937681 : Nat := 0
def tw12430462290591649496 : Nat := 0
def tw14269327833072704888 : Nat := 0
def tw6295502303082121468 : Nat := 0
def tw16457388872432098956 : Nat := 0
def tw16484378577929863579 : Nat := 0
def tw985362639114141683 : Nat := 0
def tw15672560335852522359 : Nat := 0
def tw2593903095150104603 : Nat := 0
def tw9642740592144284645 : Nat := 0
def tw18240708453212583293 : Nat := 0
def tw17579221321119025569 : Nat := 0
def tw12834473664723319656 : Nat := 0
def tw2077348255609117663 : Nat := 0
def tw17773016141842088152 : Nat := 0
def tw18316461471304285207 : Nat := 0
def tw15910161149713789074 : Nat := 0
def tw11431021471596997475 : Nat := 0
def tw8666273932325616375 : Nat := 0
def tw17881890815936478366 : Nat := 0
def tw968353860295467002 : Nat := 0
def tw2173632032433534895 : Nat := 0
def tw4718009836515943733 : Nat := 0
def tw7496307392024213002 : Nat := 0
def tw13526802072593130851 : Nat := 0
def tw5967807118078431980 : Nat := 0
def tw8387183034260117919 : Nat := 0
def tw4865233523691671615 : Nat := 0
def tw17456666250305145951 : Nat := 0
def tw7895988193984114473 : Nat := 0
def tw7648877373642767476 : Nat := 0
def tw9017081646575944783 : Nat := 0
def tw16891830258796224951 : Nat := 0
def tw13372444738466910144 : Nat := 0
def tw15717679054504579974 : Nat := 0
def tw11565150415259396288 : Nat := 0
def tw7048371495270837214 : Nat := 0
def tw3951242259397292530 : Nat := 0
def tw5397327389802149283 : Nat := 0
def tw3289523224723756240 : Nat := 0
def tw15912710594546095334 : Nat := 0
def tw3330973625392656468 : Nat := 0
def tw17307471313454451956 : Nat := 0
def tw11337166213975186139 : Nat := 0
def tw7941955267846933234 : Nat := 0
def tw2406277071796044684 : Nat := 0
def tw9643142492031568477 : Nat := 0
def tw7297395616978260549 : Nat := 0
def tw4420380432360626568 : Nat := 0
def tw13609001186544065899 : Nat := 0
def tw7066177113350834895 : Nat := 0
def tw18441367951471751724 : Nat := 0
def tw17112432415324070572 : Nat := 0
def tw17389856045758753103 : Nat := 0
def tw9201845076424504548 : Nat := 0
def tw7311454160449635997 : Nat := 0
def tw8440510363614656025 : Nat := 0
def tw13235063296566072217 : Nat := 0
def tw10327408967424294577 : Nat := 0
def tw14521913004632073327 : Nat := 0
def tw3803339477090544440 : Nat := 0
def tw16573370132325552252 : Nat := 0
def tw429876599918039476 : Nat := 0
def tw10261680103306049723 : Nat := 0
def tw5885096165074151550 : Nat := 0
def tw14215712710795031577 : Nat := 0
def tw5657517960025872528 : Nat := 0
def tw6332081540170490218 : Nat := 0
def tw7596053773211938682 : Nat := 0
def tw13893426897224643991 : Nat := 0
def tw7177928695738776813 : Nat := 0
def tw1806852790904559297 : Nat := 0
def tw14591004947833099088 : Nat := 0
def tw16273293091817321574 : Nat := 0
def tw10080161142148472982 : Nat := 0
def tw4299588431074733851 : Nat := 0
def tw7391742728174464982 : Nat := 0
def tw5643305271657528839 : Nat := 0
def tw13675960678019378134 : Nat := 0
def tw2468321607612351369 : Nat := 0
def tw1038524587540193558 : Nat := 0
def tw978753026985090340 : Nat := 0
def tw9496920900088115338 : Nat := 0
def tw15373056439505985130 : Nat := 0
def tw17050341908286168730 : Nat := 0
def tw4649732469424159654 : Nat := 0
def tw9331250567337014759 : Nat := 0
def tw15285081129081873954 : Nat := 0
def tw18116591035657195928 : Nat := 0
def tw2799523000913505898 : Nat := 0
def tw839564849007056211 : Nat := 0
def tw17253856354102954473 : Nat := 0
def tw7465527832196311021 : Nat := 0
def tw14800795338025012062 : Nat := 0
def tw16546306357942000468 : Nat := 0
def tw5268941892801205293 : Nat := 0
def tw17725628890288078330 : Nat := 0
def tw3978727113330530437 : Nat := 0
def tw10690563232886763386 : Nat := 0
def tw5219810104414999360 : Nat := 0
def tw11316774363303473184 : Nat := 0
def tw17331135582940393149 : Nat := 0
def tw1195919203862191983 : Nat := 0
def tw16308426093230913411 : Nat := 0
def tw10329848480724561249 : Nat := 0
def tw3495700314585446447 : Nat := 0
def tw9362702605067641203 : Nat := 0
def tw10028836810281361842 : Nat := 0
def tw6522302625376056659 : Nat := 0
def tw6719840237304138945 : Nat := 0
def tw6783378854276979527 : Nat := 0
def tw17160546545294276336 : Nat := 0
def tw3980249126122679184 : Nat := 0
def tw1591866283384419071 : Nat := 0
def tw12326508877519465859 : Nat := 0
def tw1655047646568384186 : Nat := 0
def tw11008170403411796444 : Nat := 0
def tw6994669961369311720 : Nat := 0
def tw6916240733846822619 : Nat := 0
def tw2409313782083109330 : Nat := 0
def tw17304076634199852728 : Nat := 0
def tw16008361049405030466 : Nat := 0
def tw3266778937263598674 : Nat := 0
def tw567057699323275071 : Nat := 0
def tw5382015123999525522 : Nat := 0
def tw13659445146140067873 : Nat := 0
def tw15248530350254059861 : Nat := 0
def tw8530027262508033206 : Nat := 0
def tw7311506648835755505 : Nat := 0
def tw11128822847118676306 : Nat := 0
def tw18122162007867430984 : Nat := 0
def tw802040349974507905 : Nat := 0
def tw16344932825094051380 : Nat := 0
def tw16866446056844916207 : Nat := 0
def tw1702770685349635193 : Nat := 0
def tw6388890188561570714 : Nat := 0
def tw12291565240754324841 : Nat := 0
def tw3768516165316541070 : Nat := 0
def tw2550457785911010435 : Nat := 0
def tw7486846570539840105 : Nat := 0
def tw8590609439932222717 : Nat := 0
def tw8804719501757270686 : Nat := 0
def tw11109478016215204828 : Nat := 0
def tw17542757441585714138 : Nat := 0
def tw18129424140879534015 : Nat := 0
def tw13506239918154430236 : Nat := 0
def tw15988335661420845646 : Nat := 0
def tw2589587607964945016 : Nat := 0
def tw8012973189553111336 : Nat := 0
def tw5668772427271256728 : Nat := 0
def tw9568066088542457218 : Nat := 0
def tw7694302469201280645 : Nat := 0
def tw17588904114727704803 : Nat := 0
def tw7319170286841007412 : Nat := 0
def tw11867011193776763953 : Nat := 0
def tw8554813575063771598 : Nat := 0
def tw1248230685678842198 : Nat := 0
def tw9112858238593045459 : Nat := 0
def tw6821282354258527915 : Nat := 0
def tw14260739087735174276 : Nat := 0
def tw12150931144227399841 : Nat := 0
def tw10195635857532472966 : Nat := 0
def tw17417345927968172454 : Nat := 0
def tw12441455686126213371 : Nat := 0
def tw5659079278761367494 : Nat := 0
def tw3851851060991745669 : Nat := 0
def tw16920683342350897107 : Nat := 0
def tw7006690170449469977 : Nat := 0
def tw17728875163732656782 : Nat := 0
def tw2718362526422954469 : Nat := 0
def tw669719057109758574 : Nat := 0
def tw13106152688103832606 : Nat := 0
def tw17569434850882763730 : Nat := 0
def tw5502096965217331979 : Nat := 0
def tw14240593845552369189 : Nat := 0
def tw10008615025996407837 : Nat := 0
def tw16591891351186169714 : Nat := 0
def tw6857071471417162751 : Nat := 0
def tw1570609801684440276 : Nat := 0
def tw7670901690768660690 : Nat := 0
def tw16122459858564802356 : Nat := 0
def tw15551620142977990334 : Nat := 0
def tw17601945826374232818 : Nat := 0
def tw2660896329844413582 : Nat := 0
def tw17759190488626190271 : Nat := 0
def tw14626300740912778809 : Nat := 0
def tw17512950477382718723 : Nat := 0
def tw8631570179587926686 : Nat := 0
def tw32969710989537446 : Nat := 0
def tw3889220587844974103 : Nat := 0
def tw10118387265264689906 : Nat := 0
def tw10809599667242106262 : Nat := 0
def tw10679764606820543971 : Nat := 0
def tw16164979783786185819 : Nat := 0
def tw16227025150478907770 : Nat := 0
def tw17657626417562104544 : Nat := 0
def tw6592987552023915954 : Nat := 0
def tw14596734859915125181 : Nat := 0
def tw13931092085505297191 : Nat := 0
def tw16144713731058884980 : Nat := 0
def tw16555072539340691774 : Nat := 0
def tw13402667564844164503 : Nat := 0
def tw7988640985494416599 : Nat := 0
def tw12169145231959604497 : Nat := 0
def tw7314550892816326727 : Nat := 0
def tw5300387778265226796 : Nat := 0
def tw11183977718463286127 : Nat := 0
def tw5903677805757455836 : Nat := 0
def tw7336164235826765323 : Nat := 0
def tw1702724468316195644 : Nat := 0
def tw11026530075710332003 : Nat := 0
def tw3068263703427852477 : Nat := 0
def tw4785079503228829218 : Nat := 0
def tw11234076411370665451 : Nat := 0
def tw9950326520856612990 : Nat := 0
def tw7313122137640268555 : Nat := 0
def tw17371810005052770527 : Nat := 0
def tw5504591804858857833 : Nat := 0
def tw8656421484390740744 : Nat := 0
def tw10949329868075203567 : Nat := 0
def tw315152081982961494 : Nat := 0
def tw7802098663127863046 : Nat := 0
def tw15963352113630096301 : Nat := 0
def tw8041880702784058005 : Nat := 0
def tw8138097653827706632 : Nat := 0
def tw6199025638138452963 : Nat := 0
def tw9893096374598517146 : Nat := 0
def tw17457781984490721829 : Nat := 0
def tw13625734829298372080 : Nat := 0
def tw10674935182877215473 : Nat := 0
def tw24490729602617383 : Nat := 0
def tw8623017186962091724 : Nat := 0
def tw6181238899617056604 : Nat := 0
def tw16205850477008728760 : Nat := 0
def tw13442877465524302947 : Nat := 0
def tw8045534547389305187 : Nat := 0
def tw743249590006300924 : Nat := 0
def tw16379583728566102181 : Nat := 0
def tw5428667034758810788 : Nat := 0
def tw6899519484464135736 : Nat := 0
def tw18007343333362740750 : Nat := 0
def tw2992259853201398694 : Nat := 0
def tw1642369420658697337 : Nat := 0
def tw1729947757855898046 : Nat := 0
def tw8101895649966906774 : Nat := 0
def tw17390433059980828796 : Nat := 0
def tw10577074372148316936 : Nat := 0
def tw8597267024315539101 : Nat := 0
def tw13996606410766877848 : Nat := 0
def tw6625420861637087940 : Nat := 0
def tw14250257439251817737 : Nat := 0
def tw10998767945812823028 : Nat := 0
def tw4357091901816391373 : Nat := 0
def tw17644102818002270417 : Nat := 0
def tw2630750627721685327 : Nat := 0
def tw7734163911520076921 : Nat := 0
def tw1779367838405884251 : Nat := 0
def tw2587805705598339036 : Nat := 0
def tw13181670312497724118 : Nat := 0
def tw6601591432864054379 : Nat := 0
def tw673861074569245810 : Nat := 0
def tw15661779957376159760 : Nat := 0
def tw8349639094425762472 : Nat := 0
def tw7995204169094160628 : Nat := 0
def tw12818260326257321257 : Nat := 0
def tw3753380298266836033 : Nat := 0
def tw200490205956769018 : Nat := 0
def tw324301933033787014 : Nat := 0
def tw14256769620850117551 : Nat := 0
def tw9625912907871388491 : Nat := 0
def tw18134671595895541694 : Nat := 0
def tw7686214811377303619 : Nat := 0
def tw14433556826245327703 : Nat := 0
def tw11571751376185503125 : Nat := 0
def tw17291180464377298490 : Nat := 0
def tw2360747369556924569 : Nat := 0
def tw1397545750319414140 : Nat := 0
def tw3771501782955258680 : Nat := 0
def tw12443036769030870372 : Nat := 0
def tw11856297456806148171 : Nat := 0
def tw6789658695159984172 : Nat := 0
def tw2654661767199197521 : Nat := 0
def tw15857037039673322862 : Nat := 0
def tw15546311218572569039 : Nat := 0
def tw4345714538545840062 : Nat := 0
def tw11423636785889490116 : Nat := 0
def tw15276191818536685350 : Nat := 0
def tw3006782068781459247 : Nat := 0
def tw477289829543516353 : Nat := 0
def tw2643975112046038924 : Nat := 0
def tw13724742515737279405 : Nat := 0
def tw7625650863208060712 : Nat := 0
def tw11808337933734790876 : Nat := 0
def tw5611510592475855323 : Nat := 0
def tw16713035026890586333 : Nat := 0
def tw12053327232292753080 : Nat := 0
def tw11321421912288342858 : Nat := 0
def tw3138060749164540159 : Nat := 0
def tw11176557937215024116 : Nat := 0
def tw1821967446783053785 : Nat := 0
def tw9575823841698033957 : Nat := 0
def tw6038952197948453329 : Nat := 0
def tw14269362277180985904 : Nat := 0
def tw7858483699508918075 : Nat := 0
def tw657635000631094322 : Nat := 0
def tw14565992601946484353 : Nat := 0
def tw14344699943277771326 : Nat := 0
def tw3761274931691276896 : Nat := 0
def tw3523677061192513517 : Nat := 0
def tw7329189662733363449 : Nat := 0
def tw15730856054152928141 : Nat := 0
def tw8436055280718829670 : Nat := 0
def tw9246668317050441388 : Nat := 0
def tw18135024880459407785 : Nat := 0
def tw10434219075386815579 : Nat := 0
def tw18392090017464694195 : Nat := 0
def tw5722458350552514591 : Nat := 0
def tw3244285572070005667 : Nat := 0
def tw15246438299277353148 : Nat := 0
def tw7086771651800522143 : Nat := 0
def tw1449342946946624155 : Nat := 0
def tw12003411688345726008 : Nat := 0
def tw14580629484527879836 : Nat := 0
def tw5106619856280257670 : Nat := 0
def tw18261827005935705310 : Nat := 0
def tw85658065571916798 : Nat := 0
def tw6927874540626456724 : Nat := 0
def tw4238704962558864762 : Nat := 0
def tw16296700450130503526 : Nat := 0
def tw4798622472976229929 : Nat := 0
def tw5596680303680172389 : Nat := 0
def tw12716875167192663418 : Nat := 0
def tw7583454944440106466 : Nat := 0
def tw10223559829486667601 : Nat := 0
def tw2170071798869611764 : Nat := 0
def tw14013521166558300722 : Nat := 0
def tw16628137656147848236 : Nat := 0
def tw9841560569335423912 : Nat := 0
def tw18363897058085145519 : Nat := 0
def tw16914483476985640498 : Nat := 0
def tw16669916930685843980 : Nat := 0
def tw4575581783820572006 : Nat := 0
def tw143634118447546350 : Nat := 0
def tw9586500612955910058 : Nat := 0
def tw16302139339409005208 : Nat := 0
def tw2295596441016396723 : Nat := 0
def tw17685982768376061052 : Nat := 0
def tw9823209716372930211 : Nat := 0
def tw1280129047995435227 : Nat := 0
def tw16276005848812478720 : Nat := 0
def tw3478143375434152359 : Nat := 0
def tw1931895533722282317 : Nat := 0
def tw15541610982466972189 : Nat := 0
def tw428467406522129041 : Nat := 0
def tw7989189614392059867 : Nat := 0
def tw10179043804440625456 : Nat := 0
def tw14498406153284226359 : Nat := 0
def tw6977782089799983902 : Nat := 0
def tw2922037492485746235 : Nat := 0
def tw3631605812274264680 : Nat := 0
def tw2040889617833344466 : Nat := 0
def tw9606510008636005060 : Nat := 0
def tw13476448832797863308 : Nat := 0
def tw10554224346463718537 : Nat := 0
def tw8958295776761750022 : Nat := 0
def tw17695671096415876991 : Nat := 0
def tw1878208712800103080 : Nat := 0
def tw5124605959020385511 : Nat := 0
def tw16372349692867499321 : Nat := 0
def tw7656836714214613325 : Nat := 0
def tw7486056006379292274 : Nat := 0
def tw6470272728796325934 : Nat := 0
def tw11829143300479370321 : Nat := 0
def tw3284226223230423222 : Nat := 0
def tw10433969959426177005 : Nat := 0
def tw9682077782768405523 : Nat := 0
def tw3842240854112016417 : Nat := 0
def tw18225533986374330034 : Nat := 0
def tw688514341454791477 : Nat := 0
def tw16725093749613866408 : Nat := 0
def tw12789608094173353262 : Nat := 0
def tw1412381472505581572 : Nat := 0
def tw701249164995405796 : Nat := 0
def tw15450289706394123112 : Nat := 0
def tw3623691959908694170 : Nat := 0
def tw15215338419778154204 : Nat := 0
def tw15667397231057947395 : Nat := 0
def tw17363671401422774059 : Nat := 0
def tw13296471196663433803 : Nat := 0
def tw7583211747404958313 : Nat := 0
def tw17895858654236812543 : Nat := 0
def tw1134626649525166444 : Nat := 0
def tw1827981998735887832 : Nat := 0
def tw9106671433563394054 : Nat := 0
def tw11742580506971566328 : Nat := 0
def tw16525234290453572177 : Nat := 0
def tw4078290175585326127 : Nat := 0
def tw4322331144847465232 : Nat := 0
def tw7402276162984178870 : Nat := 0
def tw2251480593529362034 : Nat := 0
def tw16584830834336443174 : Nat := 0
def tw5777705080877153819 : Nat := 0
def tw4296074351985561004 : Nat := 0
def tw7446766788290633898 : Nat := 0
def tw2502969009364705438 : Nat := 0
def tw3483334056901435098 : Nat := 0
def tw14131182207200232523 : Nat := 0
def tw4031765071154238031 : Nat := 0
def tw6446801576939929822 : Nat := 0
def tw17249572777968138510 : Nat := 0
def tw10575367793724043191 : Nat := 0
def tw14185129571561168694 : Nat := 0
def tw2866853645566512017 : Nat := 0
def tw17367693721448286206 : Nat := 0
def tw16707197834408279886 : Nat := 0
def tw2522651135510997567 : Nat := 0
def tw18047864982158949293 : Nat := 0
def tw8132983320945642078 : Nat := 0
def tw14802775175345774556 : Nat := 0
def tw8650852458357011585 : Nat := 0
def tw5790060658700754335 : Nat := 0
def tw3744747674860053853 : Nat := 0
def tw1290593768644951027 : Nat := 0
def tw12778933763394994879 : Nat := 0
def tw2837657596825160877 : Nat := 0
def tw8371796530075558996 : Nat := 0
def tw1152848884041199212 : Nat := 0
def tw1726701076021242299 : Nat := 0
def tw1071145286283718508 : Nat := 0
def tw10366398111730253751 : Nat := 0
def tw10132438718339205102 : Nat := 0
def tw5752992430997467433 : Nat := 0
def tw890062672945654398 : Nat := 0
def tw12113242832103665425 : Nat := 0
def tw8621309734660337147 : Nat := 0
def tw367865518482501882 : Nat := 0
def tw1173135785647654220 : Nat := 0
def tw4267430534839869191 : Nat := 0
def tw12617366008996222749 : Nat := 0
def tw1169626520852940282 : Nat := 0
def tw16764600860587038000 : Nat := 0
def tw4362588156952297241 : Nat := 0
def tw17921365915517082594 : Nat := 0
def tw838902080579147244 : Nat := 0
def tw2209549723212378830 : Nat := 0
def tw5166372680198635913 : Nat := 0
def tw16055836971742450251 : Nat := 0
def tw23026338260090181 : Nat := 0
def tw8132340761180234203 : Nat := 0
def tw2926880083265138400 : Nat := 0
def tw10667912834851517743 : Nat := 0
def tw4590956339019758874 : Nat := 0
def tw7760541286960480905 : Nat := 0
def tw4098347680025472242 : Nat := 0
def tw7806611058842711722 : Nat := 0
def tw5010350357479036841 : Nat := 0
def tw8592858120767805641 : Nat := 0
def tw9929807397138599809 : Nat := 0
def tw201499303546253990 : Nat := 0
def tw6956135691857133635 : Nat := 0
def tw7936496860170893641 : Nat := 0
def tw10580070704285061549 : Nat := 0
def tw1988802410829054418 : Nat := 0
def tw4323546764171800295 : Nat := 0
def tw928269026470861275 : Nat := 0
def tw5984766038894055526 : Nat := 0
def tw10090104772851326789 : Nat := 0
def tw17601119428476251986 : Nat := 0
def tw9583392813348143312 : Nat := 0
def tw4214102234263379877 : Nat := 0
def tw16649527359077304554 : Nat := 0
def tw16530532035466090909 : Nat := 0
def tw7656415794647729486 : Nat := 0
def tw1295205392141443448 : Nat := 0
def tw11753556896321775074 : Nat := 0
def tw10613650960522832743 : Nat := 0
def tw10447774465886024626 : Nat := 0
def tw4762814808150623705 : Nat := 0
def tw230655343494250194 : Nat := 0
def tw11389768636796271377 : Nat := 0
def tw14695536858812107688 : Nat := 0
def tw4838107075498416372 : Nat := 0
def tw17916663461079820880 : Nat := 0
def tw2114818298909561345 : Nat := 0
def tw3383032824685294767 : Nat := 0
def tw17160758918899487369 : Nat := 0
def tw18020639063186491690 : Nat := 0
def tw16757450729360260738 : Nat := 0
def tw9115566698371290124 : Nat := 0
def tw9962413192691755794 : Nat := 0
def tw18224273659858900206 : Nat := 0
def tw12466811024665820484 : Nat := 0
def tw15801948940642158156 : Nat := 0
def tw16387834372841744415 : Nat := 0
def tw17642317778030518493 : Nat := 0
def tw6537989028528879793 : Nat := 0
def tw4855374834192427993 : Nat := 0
def tw3494038213174188277 : Nat := 0
def tw5523765800379141330 : Nat := 0
def tw9086750520781872495 : Nat := 0
def tw1708134662547694012 : Nat := 0
def tw14054538863906036687 : Nat := 0
def tw14991649251299106464 : Nat := 0
def tw4329121327881940652 : Nat := 0
def tw365820632640923381 : Nat := 0
def tw8348290045185799355 : Nat := 0
def tw10329604199623926153 : Nat := 0
def tw13105360642543725715 : Nat := 0
def tw10300079167738939182 : Nat := 0
def tw14736508050560597537 : Nat := 0
def tw271690850080852349 : Nat := 0
def tw13991463816279663683 : Nat := 0
def tw4707795754964215303 : Nat := 0
def tw11573165786735227209 : Nat := 0
def tw5203369130672085917 : Nat := 0
def tw6938377566602516204 : Nat := 0
def tw2987782434458194532 : Nat := 0
def tw10729274147423011652 : Nat := 0
def tw1988768758034674348 : Nat := 0
def tw14913154202066038765 : Nat := 0
def tw10101865109037928730 : Nat := 0
def tw7223033743239149192 : Nat := 0
def tw15273877924828427238 : Nat := 0
def tw15982634264906527475 : Nat := 0
def tw13421287512430935834 : Nat := 0
def tw5448285011010328179 : Nat := 0
def tw7314179144964094148 : Nat := 0
def tw15255460265839427886 : Nat := 0
def tw16975948730339102255 : Nat := 0
def tw13981936796404668994 : Nat := 0
def tw15906719117591941189 : Nat := 0
def tw2346973588744484739 : Nat := 0
def tw12347467639073526369 : Nat := 0
def tw16092453439214480234 : Nat := 0
def tw6796830533691099101 : Nat := 0
def tw3539512215474573206 : Nat := 0
def tw17465624295727464729 : Nat := 0
def tw8403098810540445826 : Nat := 0
def tw726502221105138825 : Nat := 0
def tw1607977030692707859 : Nat := 0
def tw2597071580287553608 : Nat := 0
def tw1302960403087846886 : Nat := 0
def tw8516332384279196221 : Nat := 0
def tw16213940494574611219 : Nat := 0
def tw18239849036946072742 : Nat := 0
def tw9332610625419922710 : Nat := 0
def tw3716177029050454929 : Nat := 0
def tw12239005051039645227 : Nat := 0
def tw9275869966419722673 : Nat := 0
def tw14412638892251936712 : Nat := 0
def tw3761890121331717440 : Nat := 0
def tw18424598889089399340 : Nat := 0
def tw3735403498230448215 : Nat := 0
def tw14110109424897943133 : Nat := 0
def tw1881819792235185071 : Nat := 0
def tw15949367499124380540 : Nat := 0
def tw14835887397450611349 : Nat := 0
def tw8087999413065135543 : Nat := 0
def tw4369353583742130307 : Nat := 0
def tw3750275777024152907 : Nat := 0
def tw13936695387192930757 : Nat := 0
def tw12590209911147536505 : Nat := 0
def tw12266357548532912494 : Nat := 0
def tw8148235808876276114 : Nat := 0
def tw16717959117164672210 : Nat := 0
def tw2165320440727828912 : Nat := 0
def tw18298697765328564894 : Nat := 0
def tw17680144665035846711 : Nat := 0
def tw6986898192937413914 : Nat := 0
def tw2223647717487241644 : Nat := 0
def tw15075394635588193511 : Nat := 0
def tw10525383640733208408 : Nat := 0
def tw339013708250237912 : Nat := 0
def tw5802609090408883578 : Nat := 0
def tw1172586570894347213 : Nat := 0
def tw5045814833742697513 : Nat := 0
def tw9204649210889585873 : Nat := 0
def tw10199283073426310990 : Nat := 0
def tw14139578941782502444 : Nat := 0
def tw16891668341870491468 : Nat := 0
def tw5176278794150319857 : Nat := 0
def tw7465915740272917394 : Nat := 0
def tw9750837568319199895 : Nat := 0
def tw3512303873242778076 : Nat := 0
def tw10741015495348396288 : Nat := 0
def tw1728582501438090975 : Nat := 0
def tw2665480433540988817 : Nat := 0
def tw5859639136928727479 : Nat := 0
def tw9143931952662843546 : Nat := 0
def tw1116245814153221558 : Nat := 0
def tw17073727485673710346 : Nat := 0
def tw18367156317112186840 : Nat := 0
def tw13873880626433964365 : Nat := 0
def tw18002659618266340074 : Nat := 0
def tw13844196325034012372 : Nat := 0
def tw1855317663806154750 : Nat := 0
def tw15151055750197431259 : Nat := 0
def tw2296011491972302847 : Nat := 0
def tw10545191497645714336 : Nat := 0
def tw6778285017829210736 : Nat := 0
def tw14138460953361955945 : Nat := 0
def tw7893831105031793731 : Nat := 0
def tw13121322271063578435 : Nat := 0
def tw4798973027075591635 : Nat := 0
def tw14171124611753783543 : Nat := 0
def tw5866248343786003241 : Nat := 0
def tw10482118076443843975 : Nat := 0
def tw7918242489012388648 : Nat := 0
def tw5835554875842491834 : Nat := 0
def tw13615410988841435196 : Nat := 0
def tw8461627276738188051 : Nat := 0
def tw16317819586929037219 : Nat := 0
def tw2919758736538177057 : Nat := 0
def tw16572215841210339715 : Nat := 0
def tw15063728520716347057 : Nat := 0
def tw4165113071443122240 : Nat := 0
def tw1532381913319550375 : Nat := 0
def tw952041584797267391 : Nat := 0
def tw10525541396018032529 : Nat := 0
def tw10680324239042245439 : Nat := 0
def tw5214615051827073527 : Nat := 0
def tw11473175721187479280 : Nat := 0
def tw6308613428350468610 : Nat := 0
def tw15939782463349717382 : Nat := 0
def tw2104114827242905746 : Nat := 0
def tw2902124414799827300 : Nat := 0
def tw2744193632637605418 : Nat := 0
def tw12164007521756874529 : Nat := 0
def tw11732235891672258582 : Nat := 0
def tw3654605412425794712 : Nat := 0
def tw16821650572918509834 : Nat := 0
def tw16042516120357118229 : Nat := 0
def tw15062209375301523247 : Nat := 0
def tw8169172449922103334 : Nat := 0
def tw764034825293550377 : Nat := 0
def tw6223579645202490454 : Nat := 0
def tw2737711649303303168 : Nat := 0
def tw13494449399376499742 : Nat := 0
def tw14962630310463345829 : Nat := 0
def tw11289987876202948179 : Nat := 0
def tw4982719955427714776 : Nat := 0
def tw126064823774709541 : Nat := 0
def tw1648678656638754525 : Nat := 0
def tw13309966870650705310 : Nat := 0
def tw11376413721037861611 : Nat := 0
def tw9216415648199624112 : Nat := 0
def tw4699152055021889063 : Nat := 0
def tw6192211772815341938 : Nat := 0
def tw12327592969870091486 : Nat := 0
def tw17261733621398278910 : Nat := 0
def tw5176650500831121129 : Nat := 0
def tw16183280778129997039 : Nat := 0
def tw9216220853988109138 : Nat := 0
def tw16142570860117637434 : Nat := 0
def tw12595282061191162491 : Nat := 0
def tw11707271547496299123 : Nat := 0
def tw17193410681238121500 : Nat := 0
def tw9343030442585305140 : Nat := 0
def tw14898774511269705034 : Nat := 0
def tw7465182055336019537 : Nat := 0
def tw11048639436557274644 : Nat := 0
def tw598243041014985128 : Nat := 0
def tw9487112405358419222 : Nat := 0
def tw4007293746800452511 : Nat := 0
def tw1168528888342559837 : Nat := 0
def tw1786532266183674825 : Nat := 0
def tw17159304405189528838 : Nat := 0
def tw12726076995354527114 : Nat := 0
def tw12346193038269085819 : Nat := 0
def tw10383464875684489305 : Nat := 0
def tw12104346279766718465 : Nat := 0
def tw7814467976598729097 : Nat := 0
def tw14837760670081828303 : Nat := 0
def tw6653954148903205917 : Nat := 0
def tw11065921433777972688 : Nat := 0
def tw16304948545129934140 : Nat := 0
def tw13111228795885189741 : Nat := 0
def tw2665889411612547215 : Nat := 0
def tw5747375904645379334 : Nat := 0
def tw8629653457282286702 : Nat := 0
def tw4943970123405138946 : Nat := 0
def tw4061583005937154762 : Nat := 0
def tw13731916771739023520 : Nat := 0
def tw7338964736905344418 : Nat := 0
def tw1023192313387054773 : Nat := 0
def tw11599518952534082946 : Nat := 0
def tw2464416563280750529 : Nat := 0
def tw3467981871019221158 : Nat := 0
def tw9507116613177115482 : Nat := 0
def tw11829466966064765088 : Nat := 0
def tw17682134281717075327 : Nat := 0
def tw18051502856333200099 : Nat := 0
def tw13387139386929854705 : Nat := 0
def tw8105886770532300802 : Nat := 0
def tw16173761926044393601 : Nat := 0
def tw4396216606906246682 : Nat := 0
def tw15454609561796928965 : Nat := 0
def tw7629776717687880179 : Nat := 0
def tw6382501386499919890 : Nat := 0
def tw1606613422505013944 : Nat := 0
def tw829363035006821067 : Nat := 0
def tw3561687526663725084 : Nat := 0
def tw17910967025092661987 : Nat := 0
def tw11586389501019219249 : Nat := 0
def tw11641621293946939832 : Nat := 0
def tw4966075426358072679 : Nat := 0
def tw3068748074569096267 : Nat := 0
def tw10249231199337141345 : Nat := 0
def tw12058622430614858889 : Nat := 0
def tw9172926942700422597 : Nat := 0
def tw17579020077440283404 : Nat := 0
def tw14791990577212702481 : Nat := 0
def tw15625577273874313558 : Nat := 0
def tw1897149084278150598 : Nat := 0
def tw7279229622337494945 : Nat := 0
def tw4748025877443246843 : Nat := 0
def tw5348949040615536050 : Nat := 0
def tw6671888699226244398 : Nat := 0
def tw14246514631484782818 : Nat := 0
def tw13456805048892213554 : Nat := 0
def tw4144249024456828568 : Nat := 0
def tw14975628067600472789 : Nat := 0
def tw3843039019929066537 : Nat := 0
def tw12074550431549192466 : Nat := 0
def tw3261967027888849691 : Nat := 0
def tw1618412689139271333 : Nat := 0
def tw17755564711367277792 : Nat := 0
def tw10384993625729050479 : Nat := 0
def tw7741486949007871313 : Nat := 0
def tw7370950306204330894 : Nat := 0
def tw16320305298477035877 : Nat := 0
def tw3538113082766480161 : Nat := 0
def tw17828211056015376425 : Nat := 0
def tw15360036889238645079 : Nat := 0
def tw8679023808457936991 : Nat := 0
def tw10506009637286118112 : Nat := 0
def tw2011089381777933021 : Nat := 0
def tw2207761529633475976 : Nat := 0
def tw4622427015310543338 : Nat := 0
def tw17099612449922645108 : Nat := 0
def tw10941135053241776185 : Nat := 0
def tw9725203638501018222 : Nat := 0
def tw4940189021365944931 : Nat := 0
def tw5057952496915601242 : Nat := 0
def tw13508320528999761543 : Nat := 0
def tw14043887545238328603 : Nat := 0
def tw10931496887590862095 : Nat := 0
def tw1495729791661858403 : Nat := 0
def tw15787097492193176050 : Nat := 0
def tw8021121728191772445 : Nat := 0
def tw7894557896812239 : Nat := 0
def tw13245978265707629201 : Nat := 0
def tw6315433229791543666 : Nat := 0
def tw16416305519925196880 : Nat := 0
def tw5641863534981030071 : Nat := 0
def tw902873719371738210 : Nat := 0
def tw15694459925827156445 : Nat := 0
def tw2700569064088001969 : Nat := 0
def tw7579703318885825829 : Nat := 0
def tw12299556833318477802 : Nat := 0
def tw3028636277039621756 : Nat := 0
def tw18381936278353464765 : Nat := 0
def tw7273332310195473113 : Nat := 0
def tw4499521039808152130 : Nat := 0
def tw10657354854696761032 : Nat := 0
def tw8098812838922150621 : Nat := 0
def tw2674617104415486175 : Nat := 0
def tw4452615256514913046 : Nat := 0
def tw15246018597613057090 : Nat := 0
def tw6701640080857089137 : Nat := 0
def tw10928938104253372920 : Nat := 0
def tw12125749429774924896 : Nat := 0
def tw15291295593500983781 : Nat := 0
def tw7577657812389407825 : Nat := 0
def tw10808962792542280651 : Nat := 0
def tw7671800892237895222 : Nat := 0
def tw5797709233426590604 : Nat := 0
def tw3218530636442118337 : Nat := 0
def tw8537884661083167147 : Nat := 0
def tw3242097546571649236 : Nat := 0
def tw16182709318591015432 : Nat := 0
def tw5863958602544543093 : Nat := 0
def tw3179512215381507677 : Nat := 0
def tw13419168572237348949 : Nat := 0
def tw10700724625845511704 : Nat := 0
def tw13098837854991832116 : Nat := 0
def tw12398675082642219555 : Nat := 0
def tw16630918936669253834 : Nat := 0
def tw16972000307949632515 : Nat := 0
def tw7156318367369129473 : Nat := 0
def tw10442057951166329956 : Nat := 0
def tw10187738195619364030 : Nat := 0
def tw17268144093291793675 : Nat := 0
def tw17662925069596229061 : Nat := 0
def tw3864117875446506441 : Nat := 0
def tw259152750643565386 : Nat := 0
def tw11543635026191500902 : Nat := 0
def tw1320334836934654577 : Nat := 0
def tw14555001834864686912 : Nat := 0
def tw11474932540979056029 : Nat := 0
def tw4072531723102106679 : Nat := 0
def tw10893070572121474117 : Nat := 0
def tw15045348085742864259 : Nat := 0
def tw10068337868269176991 : Nat := 0
def tw16416695072208099492 : Nat := 0
def tw10749834540769425706 : Nat := 0
def tw2254876163050892458 : Nat := 0
def tw9665212055255776422 : Nat := 0
def tw13488222694672719252 : Nat := 0
def tw12683558998193864874 : Nat := 0
def tw11471427914339967997 : Nat := 0
def tw13606022487313436691 : Nat := 0
def tw5362440945531544368 : Nat := 0
def tw3374113074686761939 : Nat := 0
def tw4087861411380534365 : Nat := 0
def tw10175719795285396796 : Nat := 0
def tw10743633689692256448 : Nat := 0
def tw14877170394001132126 : Nat := 0
def tw15761322717140549199 : Nat := 0
def tw5502707311979404294 : Nat := 0
def tw13831088535117846855 : Nat := 0
def tw13572745918825585896 : Nat := 0
def tw17921271727373507084 : Nat := 0
def tw16012878727808220310 : Nat := 0
def tw10660390918615709235 : Nat := 0
def tw5127039492179954409 : Nat := 0
def tw700299831355042868 : Nat := 0
def tw5234548009078008214 : Nat := 0
def tw7641300881538265421 : Nat := 0
def tw18157989400014151461 : Nat := 0
def tw1563276014719629389 : Nat := 0
def tw10862242129714018192 : Nat := 0
def tw17073062613350335953 : Nat := 0
def tw3728932777811383745 : Nat := 0
def tw9258826191011981257 : Nat := 0
def tw13647197478815214623 : Nat := 0
def tw10035583126863036055 : Nat := 0
def tw93971914544440870 : Nat := 0
def tw16358137326795448731 : Nat := 0
def tw424464009956418870 : Nat := 0
def tw17510878062872030537 : Nat := 0
def tw6859943788218716176 : Nat := 0
def tw7368612838484756366 : Nat := 0
def tw17775863416340878608 : Nat := 0
def tw16318681427393134239 : Nat := 0
def tw5917857749277145615 : Nat := 0
def tw15577100024442283940 : Nat := 0
def tw13245732961923115425 : Nat := 0
def tw1724069623024753020 : Nat := 0
def tw3046986299045914414 : Nat := 0
def tw14886289121201442723 : Nat := 0
def tw17268253249375028403 : Nat := 0
def tw2792651480000361075 : Nat := 0
def tw7752712271672863535 : Nat := 0
def tw10465443970085140957 : Nat := 0
def tw11292089194892994431 : Nat := 0
def tw7553383728965973152 : Nat := 0
def tw13500278904241232966 : Nat := 0
def tw1151060595629512446 : Nat := 0
def tw15926079341232429670 : Nat := 0
def tw8265939997470675327 : Nat := 0
def tw1777951934572925012 : Nat := 0
def tw18253221223225455221 : Nat := 0
def tw15255073916908089915 : Nat := 0
def tw6152340484686000984 : Nat := 0
def tw10996694027542706865 : Nat := 0
def tw13227070999907413603 : Nat := 0
def tw8005749945029475686 : Nat := 0
def tw16359654785393839513 : Nat := 0
def tw5498768367613480622 : Nat := 0
def tw1519141001339743813 : Nat := 0
def tw8638779418662147303 : Nat := 0
def tw1484763298534201400 : Nat := 0
def tw13709242859779392522 : Nat := 0
def tw9989025600433137446 : Nat := 0
def tw2415379160867839927 : Nat := 0
def tw17835592027171392681 : Nat := 0
def tw12700481782018558128 : Nat := 0
def tw1485579089787634148 : Nat := 0
def tw7923329062674266928 : Nat := 0
def tw10231925158837696259 : Nat := 0
def tw2656045830549361265 : Nat := 0
def tw9721635886439744454 : Nat := 0
def tw2853455990199366736 : Nat := 0
def tw15863891658375263888 : Nat := 0
def tw11389016993727943326 : Nat := 0
def tw16321974481196597827 : Nat := 0
def tw7822532680726654602 : Nat := 0
def tw1264756368111535165 : Nat := 0
def tw235847256972680660 : Nat := 0
def tw14365505815977076301 : Nat := 0
def tw15473928763828301281 : Nat := 0
def tw14697113694495222570 : Nat := 0
def tw6438314115173923555 : Nat := 0
def tw16368160617027021443 : Nat := 0
def tw11886454440210170406 : Nat := 0
def tw4602416781195441551 : Nat := 0
def tw17367835357922197547 : Nat := 0
def tw16298288031746710255 : Nat := 0
def tw16028027101620530295 : Nat := 0
def tw8622736930621185834 : Nat := 0
def tw8100011318603870151 : Nat := 0
def tw12397658646372245983 : Nat := 0
def tw1853691814659014793 : Nat := 0
def tw10005714135501427317 : Nat := 0
def tw2963785194015596297 : Nat := 0
def tw8075429375174581336 : Nat := 0
def tw2827902865551315236 : Nat := 0
def tw6943127331994624173 : Nat := 0
def tw5041780196464192026 : Nat := 0
def tw15179804116034568578 : Nat := 0
def tw15176261092510125203 : Nat := 0
def tw173486011040186541 : Nat := 0
def tw4068267981384095051 : Nat := 0
def tw18250095957074441117 : Nat := 0
def tw4007774994504789532 : Nat := 0
def tw1393628192181683529 : Nat := 0
def tw14810750678597515105 : Nat := 0
def tw17717465987196709114 : Nat := 0
def tw7481263665307840935 : Nat := 0
def tw8693354710946559598 : Nat := 0
def tw7195391237295078 : Nat := 0
def tw17124214056949546229 : Nat := 0
def tw15604295262441082172 : Nat := 0
def tw13894667205022946808 : Nat := 0
def tw18348479709025356745 : Nat := 0
def tw13712478445309437965 : Nat := 0
def tw6607407399711142058 : Nat := 0
def tw9103965915066338975 : Nat := 0
def tw9786661870034034673 : Nat := 0
def tw12191857318641851537 : Nat := 0
def tw14249383573006314207 : Nat := 0
def tw12803728390155287646 : Nat := 0
def tw7655938538882238498 : Nat := 0
def tw812303291141508472 : Nat := 0
def tw5055453411865875632 : Nat := 0
def tw16457993588144090597 : Nat := 0
def tw2322824530731814016 : Nat := 0
def tw6894169114633833249 : Nat := 0
def tw124700521501840571 : Nat := 0
def tw17960127327855321720 : Nat := 0
def tw7304815332522671832 : Nat := 0
def tw832328309491945842 : Nat := 0
def tw2721873811814417178 : Nat := 0
def tw1764667852036842057 : Nat := 0
def tw8089692508815874717 : Nat := 0
def tw11210904457461997468 : Nat := 0
def tw2457258583828454892 : Nat := 0
def tw10923083167963841439 : Nat := 0
def tw6195428710490626272 : Nat := 0
def tw10103314362642131070 : Nat := 0
def tw4718135099759649360 : Nat := 0
def tw4100616238466219498 : Nat := 0
def tw1745914935036646981 : Nat := 0
def tw17944648508860705743 : Nat := 0
def tw3249681173924889735 : Nat := 0
def tw10315754314546362299 : Nat := 0
def tw7535955644832091982 : Nat := 0
def tw16292910690594971963 : Nat := 0
def tw4696117410530838288 : Nat := 0
def tw13260492197369894062 : Nat := 0
def tw9759733144703749224 : Nat := 0
def tw5810328343198909411 : Nat := 0
def tw17024569231854094065 : Nat := 0
def tw10155795912051314182 : Nat := 0
def tw1004183864442593001 : Nat := 0
def tw12711984202365488500 : Nat := 0
def tw16551089323643507901 : Nat := 0
def tw11622346006970570528 : Nat := 0
def tw875556183033197805 : Nat := 0
def tw1762301688654221784 : Nat := 0
def tw10318237361883261488 : Nat := 0
def tw2101331087765099861 : Nat := 0
def tw15510281433894312384 : Nat := 0
def tw13891190675841693999 : Nat := 0
def tw17664922262162214133 : Nat := 0
def tw2402994842829655377 : Nat := 0
def tw620480072521968325 : Nat := 0
def tw3205757531438131450 : Nat := 0
def tw17683736404048258374 : Nat := 0
def tw9424157666130947071 : Nat := 0
def tw2926381583667888110 : Nat := 0
def tw13596244868471698875 : Nat := 0
def tw5137354663506831817 : Nat := 0
def tw6029131220097852376 : Nat := 0
def tw4811126323280484993 : Nat := 0
def tw12553518350112387423 : Nat := 0
def tw8225642207747483608 : Nat := 0
def tw13998681598807837054 : Nat := 0
def tw15350144857781464849 : Nat := 0
def tw16917102117057542472 : Nat := 0
def tw2292174495660125792 : Nat := 0
def tw13246563992701269239 : Nat := 0
def tw15732644673119910470 : Nat := 0
def tw2100526353000056104 : Nat := 0
def tw8550384964481613274 : Nat := 0
def tw10286485454729702421 : Nat := 0
def tw13974149275351997289 : Nat := 0
def tw16643605332819549342 : Nat := 0
def tw9623675243466335452 : Nat := 0
def tw17975622312691703545 : Nat := 0
def tw5166397927944036335 : Nat := 0
def tw12882236979384575394 : Nat := 0
def tw18148476076748523667 : Nat := 0
def tw4391977866355786321 : Nat := 0
def tw2357126022176602689 : Nat := 0
def tw2238134622277334159 : Nat := 0
def tw8116592942798420121 : Nat := 0
def tw17228750615457994921 : Nat := 0
def tw8951339925423061569 : Nat := 0
def tw15726467016325632857 : Nat := 0
def tw885853351641641005 : Nat := 0
def tw3658667978184641185 : Nat := 0
def tw4441247078141578028 : Nat := 0
def tw14066409161109574795 : Nat := 0
def tw5990141597086978662 : Nat := 0
def tw6188726572522574695 : Nat := 0
def tw2288123062928080408 : Nat := 0
def tw7730696937040949858 : Nat := 0
def tw6800982367169817151 : Nat := 0
def tw5337512050961118011 : Nat := 0
def tw2410585093073375434 : Nat := 0
def tw11826337518704607524 : Nat := 0
def tw15107308711795518876 : Nat := 0
def tw13602683241991278939 : Nat := 0
def tw11896377540201429443 : Nat := 0
def tw676007182668273763 : Nat := 0
def tw5384531325320323583 : Nat := 0
def tw281947631373276047 : Nat := 0
def tw17283928676088125240 : Nat := 0
def tw10964811190034778531 : Nat := 0
def tw16517642169489006161 : Nat := 0
def tw6888127848843868429 : Nat := 0
def tw15928403804341833637 : Nat := 0
def tw7888802113550003101 : Nat := 0
def tw18172336730794290259 : Nat := 0
def tw14424713932934156658 : Nat := 0
def tw9882997582267265229 : Nat := 0
def tw2405211456433902146 : Nat := 0
def tw5259093829882592371 : Nat := 0
def tw10826699495046860889 : Nat := 0
def tw4795228666634912906 : Nat := 0
def tw12758969553974619849 : Nat := 0
def tw16159040107475410744 : Nat := 0
def tw14240638227785898770 : Nat := 0
def tw14497032443046803806 : Nat := 0
def tw3928758672478767226 : Nat := 0
def tw14486157147960636669 : Nat := 0
def tw14211625066113924572 : Nat := 0
def tw8702503679456033849 : Nat := 0
def tw3005028391643490283 : Nat := 0
def tw8618415602373374320 : Nat := 0
def tw16890800941973556004 : Nat := 0
def tw13509295564451100870 : Nat := 0
def tw14790480883523995874 : Nat := 0
def tw2707292107113121362 : Nat := 0
def tw3706221719338496610 : Nat := 0
def tw9287249537532661643 : Nat := 0
def tw5069499885399376996 : Nat := 0
def tw9146495863375200443 : Nat := 0
def tw7666335839208143361 : Nat := 0
def tw16434094542231009238 : Nat := 0
def tw6179336209559148613 : Nat := 0
def tw9234691146041154554 : Nat := 0
def tw4397014917560581994 : Nat := 0
def tw4716093776350500709 : Nat := 0
def tw3783325352836954996 : Nat := 0
def tw2275996477491495760 : Nat := 0
def tw11014514842578550353 : Nat := 0
def tw2898306297241449351 : Nat := 0
def tw7183724972814388446 : Nat := 0
def tw18289320910153890269 : Nat := 0
def tw16165667318411100123 : Nat := 0
def tw9384663285778937741 : Nat := 0
def tw4434501452882462744 : Nat := 0
def tw5959857771255597559 : Nat := 0
def tw16182638512199264896 : Nat := 0
def tw2095277323756826537 : Nat := 0
def tw15674624480985886629 : Nat := 0
def tw1035072515826624850 : Nat := 0
def tw3109804718564015621 : Nat := 0
def tw16949056595665848428 : Nat := 0
def tw12896619377613345099 : Nat := 0
def tw16671177595969709909 : Nat := 0
def tw9485759242298764955 : Nat := 0
def tw2350070392591496996 : Nat := 0
def tw1081342834991217319 : Nat := 0
def tw13690898352388064247 : Nat := 0
def tw18126940431819737325 : Nat := 0
def tw4620057961254366868 : Nat := 0
def tw3096624519107425928 : Nat := 0
def tw13229133285901928829 : Nat := 0
def tw13459246348056269090 : Nat := 0
def tw14476468207795568953 : Nat := 0
def tw10253478861677368158 : Nat := 0
def tw4649264840226950162 : Nat := 0
def tw17295709481726464339 : Nat := 0
def tw16491186323156378959 : Nat := 0
def tw16272207646329405643 : Nat := 0
def tw21659199395055858 : Nat := 0
def tw7212845101753390657 : Nat := 0
def tw6795943199247900299 : Nat := 0
def tw14784421800024675022 : Nat := 0
def tw4034877395067099942 : Nat := 0
def tw15581945071202435881 : Nat := 0
def tw16001504229384639871 : Nat := 0
def tw17801489814440451659 : Nat := 0
def tw1616014259741071494 : Nat := 0
def tw10473141368005675288 : Nat := 0
def tw994394755277633064 : Nat := 0
def tw9219317787374814462 : Nat := 0
def tw3517519718325154991 : Nat := 0
def tw13577487864597724047 : Nat := 0
def tw16324635685736759508 : Nat := 0
def tw16506348692168295346 : Nat := 0
def tw11665782168945219051 : Nat := 0
def tw11363574657162105563 : Nat := 0
def tw13689374755343586721 : Nat := 0
def tw3062462428332829537 : Nat := 0
def tw8031131646707426216 : Nat := 0
def tw10195715552545831753 : Nat := 0
def tw11432128469217754680 : Nat := 0
def tw17887991232392639973 : Nat := 0
def tw12490222819977015396 : Nat := 0
def tw7710298914472820029 : Nat := 0
def tw12235405590006598115 : Nat := 0
def tw10002807288105661700 : Nat := 0
def tw2831958347826467133 : Nat := 0
def tw2840251340981054709 : Nat := 0
def tw971206304581467786 : Nat := 0
def tw16330607570996738558 : Nat := 0
def tw6493519352545412878 : Nat := 0
def tw4802488731404240646 : Nat := 0
def tw3811596096173710555 : Nat := 0
def tw13568393816078916416 : Nat := 0
def tw5229777689655053262 : Nat := 0
def tw18003042708137296490 : Nat := 0
def tw18286265124672373906 : Nat := 0
def tw9195126891960673507 : Nat := 0
def tw9182519121985879040 : Nat := 0
def tw11818926220903341953 : Nat := 0
def tw12819993994405799684 : Nat := 0
def tw16853227927037100155 : Nat := 0
def tw16074545091945150951 : Nat := 0
def tw3789720974101344420 : Nat := 0
def tw10746137222317276086 : Nat := 0
def tw5626783055584541099 : Nat := 0
def tw543108867423607821 : Nat := 0
def tw10446509176200353504 : Nat := 0
def tw13002657003993781400 : Nat := 0
def tw4350656756884669542 : Nat := 0
def tw2072388885222640892 : Nat := 0
def tw3906564191120703665 : Nat := 0
def tw5624335853916338878 : Nat := 0
def tw5544149869483366370 : Nat := 0
def tw1767982837142988373 : Nat := 0
def tw14938314693423466047 : Nat := 0
def tw8648756006544769770 : Nat := 0
def tw14820601180791637099 : Nat := 0
def tw5033129672210204200 : Nat := 0
def tw4348013826707997990 : Nat := 0
def tw12940364038211686539 : Nat := 0
def tw4386610312736006311 : Nat := 0
def tw2346424664324875487 : Nat := 0
def tw3353860884733661253 : Nat := 0
def tw9954914364717682758 : Nat := 0
def tw9063069180950976593 : Nat := 0
def tw9790486095824748224 : Nat := 0
def tw1391182609728526691 : Nat := 0
def tw13139693793893926044 : Nat := 0
def tw10212481935476782680 : Nat := 0
def tw2988393088598256643 : Nat := 0
def tw17219443728504621146 : Nat := 0
def tw2923496075028370951 : Nat := 0
def tw12702595782062296730 : Nat := 0
def tw13765268863498161759 : Nat := 0
def tw12744525607627112575 : Nat := 0
def tw3957081010583145443 : Nat := 0
def tw9661310461334831644 : Nat := 0
def tw4808322292153743665 : Nat := 0
def tw13421958941764816818 : Nat := 0
def tw1724342740606948318 : Nat := 0
def tw9229957579163531458 : Nat := 0
def tw17966253232080557778 : Nat := 0
def tw14328412233535758727 : Nat := 0
def tw11817165617181340105 : Nat := 0
def tw10775460744887967569 : Nat := 0
def tw1822518607899047358 : Nat := 0
def tw5400074314685876809 : Nat := 0
def tw7522804658967311013 : Nat := 0
def tw10879939345577840139 : Nat := 0
def tw10646583709165678539 : Nat := 0
def tw16970009228187594251 : Nat := 0
def tw11909281656222589840 : Nat := 0
def tw9700752255712592207 : Nat := 0
def tw16479689664057950485 : Nat := 0
def tw6311237899656375050 : Nat := 0
def tw14944699770363480579 : Nat := 0
def tw1071128655400494533 : Nat := 0
def tw8547336643267684904 : Nat := 0
def tw1006236966772607477 : Nat := 0
def tw6180633478499456061 : Nat := 0
def tw10268744469376884417 : Nat := 0
def tw10578011245875399230 : Nat := 0
def tw9310390627254860797 : Nat := 0
def tw1830687880094742819 : Nat := 0
def tw4604354952787322133 : Nat := 0
def tw12252573460631679009 : Nat := 0
def tw11305495541220450366 : Nat := 0
def tw709446654076799534 : Nat := 0
def tw11300582309487147515 : Nat := 0
def tw10958701288766446431 : Nat := 0
def tw8176223343272050620 : Nat := 0
def tw8139455226177989121 : Nat := 0
def tw12082993211409104581 : Nat := 0
def tw12059408312976745209 : Nat := 0
def tw17721517187791814014 : Nat := 0
def tw4992017826765706908 : Nat := 0
def tw12091381229811797918 : Nat := 0
def tw7062203270145564246 : Nat := 0
def tw13999296323972265881 : Nat := 0
def tw5594652539496079590 : Nat := 0
def tw17199900018683079553 : Nat := 0
def tw12439072600937039810 : Nat := 0
def tw2085569842893077392 : Nat := 0
def tw12849022793608330482 : Nat := 0
def tw8028386579041530179 : Nat := 0
def tw18050965158822701332 : Nat := 0
def tw6055205785955989781 : Nat := 0
def tw14611299936553774199 : Nat := 0
def tw8673421919888213899 : Nat := 0
def tw8161618205157362759 : Nat := 0
def tw12698529197591897653 : Nat := 0
def tw11474831534408966163 : Nat := 0
def tw15954132082095007797 : Nat := 0
def tw17623858131816659969 : Nat := 0
def tw16851189547263650644 : Nat := 0
def tw10107282245263728017 : Nat := 0
def tw4725092943306680368 : Nat := 0
def tw12787360188297158026 : Nat := 0
def tw1528899274339504259 : Nat := 0
def tw17486417680866242665 : Nat := 0
def tw9598404358430040900 : Nat := 0
def tw4665108156297223785 : Nat := 0
def tw1189281507460964120 : Nat := 0
def tw3603844046484343884 : Nat := 0
def tw12579919814871061926 : Nat := 0
def tw14114591556520367732 : Nat := 0
def tw6117706829304525323 : Nat := 0
def tw2636900179492584273 : Nat := 0
def tw5254811315664748929 : Nat := 0
def tw8384931536982096611 : Nat := 0
def tw13025127879607439603 : Nat := 0
def tw7443452557019631235 : Nat := 0
def tw7890465853358561107 : Nat := 0
def tw6787441192955501094 : Nat := 0
def tw16490581463412852472 : Nat := 0
def tw16919221000078620580 : Nat := 0
def tw16876481815078616295 : Nat := 0
def tw11551574423294297498 : Nat := 0
def tw1911835511304603380 : Nat := 0
def tw9146852695815290571 : Nat := 0
def tw16537144212542311229 : Nat := 0
def tw8533448877844551847 : Nat := 0
def tw592451195686121171 : Nat := 0
def tw5674981554719159481 : Nat := 0
def tw1985725624661691750 : Nat := 0
def tw8125094280678076991 : Nat := 0
def tw12984084216319710152 : Nat := 0
def tw1222844539133920236 : Nat := 0
def tw3719506198076065487 : Nat := 0
def tw7288634678691492959 : Nat := 0
def tw4879308501537016 : Nat := 0
def tw6823993230624141190 : Nat := 0
def tw14635694441524292662 : Nat := 0
def tw15656463838755627194 : Nat := 0
def tw1953343759090494314 : Nat := 0
def tw7425578763665067783 : Nat := 0
def tw1595618453491953434 : Nat := 0
def tw3066748370301016263 : Nat := 0
def tw14030496522830693323 : Nat := 0
def tw6768619799942607768 : Nat := 0
def tw10140584901655285241 : Nat := 0
def tw1884209017374956625 : Nat := 0
def tw17400419557523308480 : Nat := 0
def tw10980102937162333001 : Nat := 0
def tw6524989086145076630 : Nat := 0
def tw1298124055816866167 : Nat := 0
def tw1602444772342090835 : Nat := 0
def tw6798521238405654245 : Nat := 0
def tw9331795445109391693 : Nat := 0
def tw4769612160482851078 : Nat := 0
def tw11691496678899110362 : Nat := 0
def tw8209354121659496368 : Nat := 0
def tw13426849760980368065 : Nat := 0
def tw4577616424735015973 : Nat := 0
def tw13065873041780361499 : Nat := 0
def tw9471528124296492697 : Nat := 0
def tw14827254363518018718 : Nat := 0
def tw11465467096210809698 : Nat := 0
def tw12202964043276205897 : Nat := 0
def tw17524704652776867559 : Nat := 0
def tw8598113532614168116 : Nat := 0
def tw10073564033687252286 : Nat := 0
def tw4688541724099939925 : Nat := 0
def tw8980865175516969672 : Nat := 0
def tw18157844017611750268 : Nat := 0
def tw4400314913186730285 : Nat := 0
def tw13634449708192020185 : Nat := 0
def tw11150122396025676901 : Nat := 0
def tw10395439982997473096 : Nat := 0
def tw18420969021411227311 : Nat := 0
def tw10143906613430559665 : Nat := 0
def tw9618007055715667174 : Nat := 0
def tw4543984834281146268 : Nat := 0
def tw787314246238549937 : Nat := 0
def tw6177048020315904314 : Nat := 0
def tw5002611127895632035 : Nat := 0
def tw6228617946842337915 : Nat := 0
def tw12724912987204325391 : Nat := 0
def tw7265252712976307044 : Nat := 0
def tw14054145195475393574 : Nat := 0
def tw12301788145352508267 : Nat := 0
def tw3704056375270193031 : Nat := 0
def tw15278698397738730325 : Nat := 0
def tw2218709494687020857 : Nat := 0
def tw10661930168987232353 : Nat := 0
def tw15199673621845210539 : Nat := 0
def tw13872360515676868595 : Nat := 0
def tw14661150759450424647 : Nat := 0
def tw12494999288999118381 : Nat := 0
def tw4356238548089030765 : Nat := 0
def tw1324553399008862798 : Nat := 0
def tw15542641206541858600 : Nat := 0
def tw8088530567336330402 : Nat := 0
def tw3018493980283771667 : Nat := 0
def tw10752043493730058670 : Nat := 0
def tw13269930309249590441 : Nat := 0
def tw1147301796803847411 : Nat := 0
def tw10796798402108165097 : Nat := 0
def tw1906046897996929167 : Nat := 0
def tw1021419608923333903 : Nat := 0
def tw16643336418838106255 : Nat := 0
def tw8136260725831930994 : Nat := 0
def tw17279963653244915027 : Nat := 0
def tw3945554033059596286 : Nat := 0
def tw11563122305306272012 : Nat := 0
def tw13568475264110752702 : Nat := 0
def tw9984384633441707876 : Nat := 0
def tw6439936985810127572 : Nat := 0
def tw15503876479673664504 : Nat := 0
def tw10187572009468438109 : Nat := 0
def tw2264461274261547464 : Nat := 0
def tw11326361470492103157 : Nat := 0
def tw1131325424724887156 : Nat := 0
def tw12674589731843647056 : Nat := 0
def tw972695786361840313 : Nat := 0
def tw2256571812888665175 : Nat := 0
def tw1457577351732170668 : Nat := 0
def tw8786031318812945128 : Nat := 0
def tw13647624680013563638 : Nat := 0
def tw7160050767933599855 : Nat := 0
def tw10898276013088534086 : Nat := 0
def tw17221605595333009095 : Nat := 0
def tw12596265768224442018 : Nat := 0
def tw15429848058477012402 : Nat := 0
def tw206989024020103360 : Nat := 0
def tw16737416901364596616 : Nat := 0
def tw4701870173094776645 : Nat := 0
def tw4454302301238147690 : Nat := 0
def tw4129799428796068991 : Nat := 0
def tw7619626221090753851 : Nat := 0
def tw15840350512955582195 : Nat := 0
def tw7561263891646254760 : Nat := 0
def tw17545208585662237913 : Nat := 0
def tw3745864720506621626 : Nat := 0
def tw8019971200842056013 : Nat := 0
def tw392772485268509416 : Nat := 0
def tw6391478636604442875 : Nat := 0
def tw5342572366434831806 : Nat := 0
def tw17778066785855489221 : Nat := 0
def tw18230031678831839770 : Nat := 0
def tw17001085486744710005 : Nat := 0
def tw6986573862275042020 : Nat := 0
def tw15572514402075443393 : Nat := 0
def tw10938580738814893881 : Nat := 0
def tw18034920362819593163 : Nat := 0
def tw9827964192174460275 : Nat := 0
def tw3755611274420926767 : Nat := 0
def tw9112838542275683623 : Nat := 0
def tw18271776281786698972 : Nat := 0
def tw17395952765569195903 : Nat := 0
def tw3958542529554425334 : Nat := 0
def tw269655104548326599 : Nat := 0
def tw1667054245881059244 : Nat := 0
def tw3421893928255986154 : Nat := 0
def tw17182254987039116343 : Nat := 0
def tw17931268286287068330 : Nat := 0
def tw14581788345662501721 : Nat := 0
def tw13216540154472838108 : Nat := 0
def tw8480564234250586341 : Nat := 0
def tw7438113705945170765 : Nat := 0
def tw5210982208694485832 : Nat := 0
def tw7256763866699805056 : Nat := 0
def tw18214404517254142643 : Nat := 0
def tw12683019802764168851 : Nat := 0
def tw12906502284375490136 : Nat := 0
def tw12821170267327284993 : Nat := 0
def tw13969690889914790943 : Nat := 0
def tw9000581656639223779 : Nat := 0
def tw8497062009284240457 : Nat := 0
def tw15113424752290587049 : Nat := 0
def tw5287577376550664625 : Nat := 0
def tw640078286927724045 : Nat := 0
def tw15175107153090310508 : Nat := 0
def tw15965074197829582803 : Nat := 0
def tw876453852333331211 : Nat := 0
def tw9785121289937875322 : Nat := 0
def tw8454993745940589785 : Nat := 0
def tw8058784071833778042 : Nat := 0
def tw14707368284004717752 : Nat := 0
def tw2942361135686108089 : Nat := 0
def tw3633041254205412280 : Nat := 0
def tw11741432911794682702 : Nat := 0
def tw13259112773965573522 : Nat := 0
def tw9876312427806817853 : Nat := 0
def tw17386865186642610013 : Nat := 0
def tw15018655004335757587 : Nat := 0
def tw4396201237048112695 : Nat := 0
def tw11379020695593568178 : Nat := 0
def tw8921808084188476562 : Nat := 0
def tw16886841132008635588 : Nat := 0
def tw12156666973576789890 : Nat := 0
def tw16485954182484289714 : Nat := 0
def tw15500594030114767677 : Nat := 0
def tw15072379467194027011 : Nat := 0
def tw8148432108461845994 : Nat := 0
def tw12869671614533564892 : Nat := 0
def tw18127243137237809496 : Nat := 0
def tw13691523428906109879 : Nat := 0
def tw10811379181964784430 : Nat := 0
def tw4454442891919433852 : Nat := 0
def tw3057093959804968614 : Nat := 0
def tw15570764789171844797 : Nat := 0
def tw16994795577119847890 : Nat := 0
def tw8699440321527216847 : Nat := 0
def tw9205159367340706350 : Nat := 0
def tw11637440070521421256 : Nat := 0
def tw7383915966508487536 : Nat := 0
def tw16138645087290656071 : Nat := 0
def tw14478240689362103330 : Nat := 0
def tw1511642927125259005 : Nat := 0
def tw1122111379419277001 : Nat := 0
def tw3765981028019757506 : Nat := 0
def tw1986426048461873417 : Nat := 0
def tw15509619529576004348 : Nat := 0
def tw6006413593017292597 : Nat := 0
def tw5873322648749701531 : Nat := 0
def tw8910648331353464754 : Nat := 0
def tw2332494364205044195 : Nat := 0
def tw17230564799675024084 : Nat := 0
def tw2315702750984503553 : Nat := 0
def tw12706959488851039219 : Nat := 0
def tw5004241697481439884 : Nat := 0
def tw2882582301894306140 : Nat := 0
def tw14754391710731740787 : Nat := 0
def tw7255770531292535021 : Nat := 0
def tw10836387203022782539 : Nat := 0
def tw2351495766099153664 : Nat := 0
def tw15240741919107151768 : Nat := 0
def tw11864915889013508903 : Nat := 0
def tw5831955278532951045 : Nat := 0
def tw8779425786528330847 : Nat := 0
def tw15719899466961008713 : Nat := 0
def tw12000923884408718597 : Nat := 0
def tw12401491837399812823 : Nat := 0
def tw7865533566333600222 : Nat := 0
def tw4182615118638620635 : Nat := 0
def tw10714306164482547744 : Nat := 0
def tw8654584007172634113 : Nat := 0
def tw8329594070122251287 : Nat := 0
def tw17459789752798714761 : Nat := 0
def tw9526588667704765598 : Nat := 0
def tw4464389778308663226 : Nat := 0
def tw16202297964234457194 : Nat := 0
def tw16419482541133102701 : Nat := 0
def tw17329993921132615641 : Nat := 0
def tw9215768061775190800 : Nat := 0
def tw17489246792931317838 : Nat := 0
def tw16800864210779359691 : Nat := 0
def tw12805133747825764364 : Nat := 0
def tw5557556866877358096 : Nat := 0
def tw14041817800472815593 : Nat := 0
def tw17119494319726350877 : Nat := 0
def tw7625662067022713209 : Nat := 0
def tw3700446300963397611 : Nat := 0
def tw15326363584623599694 : Nat := 0
def tw454316854907657634 : Nat := 0
def tw17570760290391427639 : Nat := 0
def tw14446101987670340044 : Nat := 0
def tw4384720293941188294 : Nat := 0
def tw6335209314058088638 : Nat := 0
def tw3856640737193235942 : Nat := 0
def tw17437191940856843128 : Nat := 0
def tw11660719006907153279 : Nat := 0
def tw2815104231894066363 : Nat := 0
def tw17071205662511229642 : Nat := 0
def tw14208674325463020546 : Nat := 0
def tw544182704287346233 : Nat := 0
def tw13662063930180551136 : Nat := 0
def tw7518300200612838828 : Nat := 0
def tw10882631360772016592 : Nat := 0
def tw10142037800257827259 : Nat := 0
def tw11270352998726817759 : Nat := 0
def tw2263516924584328310 : Nat := 0
def tw16942486579400167765 : Nat := 0
def tw16271731527576480980 : Nat := 0
def tw17446996453789424139 : Nat := 0
def tw16836270217679522908 : Nat := 0
def tw165516793302670089 : Nat := 0
def tw7260410405036712633 : Nat := 0
def tw14754643794809507625 : Nat := 0
def tw5006379919898409790 : Nat := 0
def tw5363873091053029775 : Nat := 0
def tw16381416159254310380 : Nat := 0
def tw15642985814499296622 : Nat := 0
def tw3093910043839910415 : Nat := 0
def tw10824585217045617824 : Nat := 0
def tw16482970801620677261 : Nat := 0
def tw16453246224475952606 : Nat := 0
def tw6692720023741774420 : Nat := 0
def tw2413851697738303500 : Nat := 0
def tw7486879133902770756 : Nat := 0
def tw16822432308469877326 : Nat := 0
def tw11752116709118375263 : Nat := 0
def tw11627145266121826613 : Nat := 0
def tw15846620156016165851 : Nat := 0
def tw7649373032933391713 : Nat := 0
def tw5877100413279889932 : Nat := 0
def tw9719080071232888401 : Nat := 0
def tw7541788087858516108 : Nat := 0
def tw16861815609698181376 : Nat := 0
def tw17599569977069833914 : Nat := 0
def tw8561799229664903613 : Nat := 0
def tw14210039563055464998 : Nat := 0
def tw10044812528803541057 : Nat := 0
def tw8491718648985859098 : Nat := 0
def tw15710911115882878541 : Nat := 0
def tw49929879924819916 : Nat := 0
def tw331001734032414359 : Nat := 0
def tw9558663474601959102 : Nat := 0
def tw16250645647222713522 : Nat := 0
def tw12037902066930850623 : Nat := 0
def tw882621841565929580 : Nat := 0
def tw4876235739143966245 : Nat := 0
def tw2471619919315534814 : Nat := 0
def tw11827812713780374445 : Nat := 0
def tw11209580371455197741 : Nat := 0
def tw5769121688929115338 : Nat := 0
def tw14756397114641152854 : Nat := 0
def tw15738441737348238595 : Nat := 0
def tw5191630566403998185 : Nat := 0
def tw14396707364831922391 : Nat := 0
def tw16406456290097402102 : Nat := 0
def tw7521034266033124018 : Nat := 0
def tw11208317060082272138 : Nat := 0
def tw11344057199761683914 : Nat := 0
def tw3442563864638369311 : Nat := 0
def tw6620474277740843234 : Nat := 0
def tw4001218837985649908 : Nat := 0
def tw15217224361680818621 : Nat := 0
def tw10874998398406939692 : Nat := 0
def tw13233959856202912776 : Nat := 0
def tw16197493851299050946 : Nat := 0
def tw3698713251335871211 : Nat := 0
def tw491368645234876099 : Nat := 0
def tw737330642090127105 : Nat := 0
def tw17837571451582571037 : Nat := 0
def tw12785862382892041070 : Nat := 0
def tw1470612034903291546 : Nat := 0
def tw495875368927748379 : Nat := 0
def tw15475632236110982191 : Nat := 0
def tw16384268830349206976 : Nat := 0
def tw14061216821055988729 : Nat := 0
def tw7676122229319415736 : Nat := 0
def tw4297765982549158234 : Nat := 0
def tw15332673383122020815 : Nat := 0
def tw5810561195709325270 : Nat := 0
def tw8820784503502258124 : Nat := 0
def tw5287925762045006771 : Nat := 0
def tw15758701024187884375 : Nat := 0
def tw10499651157964500152 : Nat := 0
def tw8075271536706072037 : Nat := 0
def tw12113571219888367663 : Nat := 0
def tw10743948959402911474 : Nat := 0
def tw7006751510333064025 : Nat := 0
def tw8299536850849066623 : Nat := 0
def tw5482035603750096858 : Nat := 0
def tw3397037666827087536 : Nat := 0
def tw13348009428897404310 : Nat := 0
def tw4858442296219152377 : Nat := 0
def tw936593107516692978 : Nat := 0
def tw6198861930068242651 : Nat := 0
def tw8986813279590904546 : Nat := 0
def tw9066621928334721343 : Nat := 0
def tw3171785781647237672 : Nat := 0
def tw14479215739519100794 : Nat := 0
def tw1382712606552903435 : Nat := 0
def tw2293694603700787869 : Nat := 0
def tw1973497208553909799 : Nat := 0
def tw3708571814430766339 : Nat := 0
def tw2025805478323261741 : Nat := 0
def tw15109259807446200887 : Nat := 0
def tw15097127029063790836 : Nat := 0
def tw16773239918318692118 : Nat := 0
def tw12511282888234058221 : Nat := 0
def tw12079331826843392779 : Nat := 0
def tw12283227709384721991 : Nat := 0
def tw7821650803432993044 : Nat := 0
def tw2798219855708134775 : Nat := 0
def tw9004925850619118847 : Nat := 0
def tw4478470600214007464 : Nat := 0
def tw11701503147337525325 : Nat := 0
def tw9139515292044991857 : Nat := 0
def tw12718186375123137798 : Nat := 0
def tw6082996503147492956 : Nat := 0
def tw3372115922130146440 : Nat := 0
def tw11841228235462265454 : Nat := 0
def tw17433259537503108791 : Nat := 0
def tw12075715783065668214 : Nat := 0
def tw4986681886170180488 : Nat := 0
def tw10553136291153572410 : Nat := 0
def tw3760612114869436635 : Nat := 0
def tw13529712101706186988 : Nat := 0
def tw2920704509470860319 : Nat := 0
def tw14133479509712966864 : Nat := 0
def tw11179573342612836136 : Nat := 0
def tw4063354705183664130 : Nat := 0
def tw10786743361238856726 : Nat := 0
def tw13472988603127532635 : Nat := 0
def tw17009948464954963736 : Nat := 0
def tw2121270426844018439 : Nat := 0
def tw1924635395201000960 : Nat := 0
def tw207651579560433872 : Nat := 0
def tw9623973644708858921 : Nat := 0
def tw3194663368185582223 : Nat := 0
def tw6932609621286534969 : Nat := 0
def tw16683560098848424904 : Nat := 0
def tw830340685475143703 : Nat := 0
def tw15842345167838619222 : Nat := 0
def tw13940556270524863853 : Nat := 0
def tw13529663761694740117 : Nat := 0
def tw14895469904982325526 : Nat := 0
def tw8082327455720694973 : Nat := 0
def tw3585666179427959121 : Nat := 0
def tw14592248074776629399 : Nat := 0
def tw1041122232056394007 : Nat := 0
def tw2134766815850664351 : Nat := 0
def tw12677565358193388593 : Nat := 0
def tw4864161554336491995 : Nat := 0
def tw10362940340454152053 : Nat := 0
def tw13306647140924695963 : Nat := 0
def tw14441376921843237584 : Nat := 0
def tw13139257204058911121 : Nat := 0
def tw7857582073303364963 : Nat := 0
def tw5084382905830959370 : Nat := 0
def tw7188374701292053072 : Nat := 0
def tw5590058954663715900 : Nat := 0
def tw13456097411005202857 : Nat := 0
def tw7062389124558778664 : Nat := 0
def tw12464013662977946250 : Nat := 0
def tw15743861482954399183 : Nat := 0
def tw11639732832851465229 : Nat := 0
def tw8118967702182966508 : Nat := 0
def tw12409242352475872455 : Nat := 0
def tw17677575191250932124 : Nat := 0
def tw15760282498045913832 : Nat := 0
def tw6511032688981109287 : Nat := 0
def tw13236122687604159837 : Nat := 0
def tw10623733359487532160 : Nat := 0
def tw14391110616617601596 : Nat := 0
def tw15939973589358961960 : Nat := 0
def tw15616379183637180923 : Nat := 0
def tw6929806681804531055 : Nat := 0
def tw6755237468372569534 : Nat := 0
def tw3709335710458543056 : Nat := 0
def tw14077682064763366954 : Nat := 0
def tw9297947176445992726 : Nat := 0
def tw15896160401058844839 : Nat := 0
def tw4701419863737210862 : Nat := 0
def tw18048503938317410166 : Nat := 0
def tw7738304595668699557 : Nat := 0
def tw11504166986918303348 : Nat := 0
def tw10697756570600154263 : Nat := 0
def tw2642173349945503947 : Nat := 0
def tw13340607784833323056 : Nat := 0
def tw17469224432698674995 : Nat := 0
def tw750743637686480925 : Nat := 0
def tw8366338143642001086 : Nat := 0
def tw1937834906346214095 : Nat := 0
def tw15250453974475622056 : Nat := 0
def tw5280241001519191090 : Nat := 0
def tw4502607049945226612 : Nat := 0
def tw15238930249273074938 : Nat := 0
def tw6774307812044364341 : Nat := 0
def tw13686470095425241741 : Nat := 0
def tw4071728917391046086 : Nat := 0
def tw15563908263293736025 : Nat := 0
def tw18373485321572932324 : Nat := 0
def tw4018066986464687009 : Nat := 0
def tw13004474904242901507 : Nat := 0
def tw11682021801269214194 : Nat := 0
def tw4911601250266305940 : Nat := 0
def tw5098682468318273983 : Nat := 0
def tw11798624542391329554 : Nat := 0
def tw18281747989461812871 : Nat := 0
def tw9379571649915120942 : Nat := 0
def tw9331922271563269351 : Nat := 0
def tw376411024125498296 : Nat := 0
def tw12041346888501108965 : Nat := 0
def tw16794067005682871858 : Nat := 0
def tw1465655076932216727 : Nat := 0
def tw11733020412720359232 : Nat := 0
def tw12177948436776791889 : Nat := 0
def tw16165346792913364585 : Nat := 0
def tw1390538396033910175 : Nat := 0
def tw14952292423616555824 : Nat := 0
def tw11785597434699090976 : Nat := 0
def tw12775525423173791990 : Nat := 0
def tw91159855813861451 : Nat := 0
def tw7611398468860319243 : Nat := 0
def tw10911179051094871972 : Nat := 0
def tw17635802984925005273 : Nat := 0
def tw5755483086037767777 : Nat := 0
def tw11165649212990341504 : Nat := 0
def tw17239177784884750915 : Nat := 0
def tw5304491608699648926 : Nat := 0
def tw15328201792530892721 : Nat := 0
def tw274076312263803712 : Nat := 0
def tw6778092430129283739 : Nat := 0
def tw13080807694701036536 : Nat := 0
def tw18029047398543974305 : Nat := 0
def tw18086724489892248899 : Nat := 0
def tw5666274572488339323 : Nat := 0
def tw5696978138754197824 : Nat := 0
def tw5355449050263191874 : Nat := 0
def tw1242407328217393501 : Nat := 0
def tw16301208380779826636 : Nat := 0
def tw18101876332359968719 : Nat := 0
def tw8762133094047635469 : Nat := 0
def tw4438025542545562833 : Nat := 0
def tw5860559270867999728 : Nat := 0
def tw2133606451936383921 : Nat := 0
def tw17607403077600684166 : Nat := 0
def tw17010343153477882967 : Nat := 0
def tw3040950637996699956 : Nat := 0
def tw2473076285813480244 : Nat := 0
def tw10835194024786030677 : Nat := 0
def tw13663719510355041390 : Nat := 0
def tw11811457522133478188 : Nat := 0
def tw16840444403336456995 : Nat := 0
def tw11673448354423389824 : Nat := 0
def tw225774978890077199 : Nat := 0
def tw17559396384227051750 : Nat := 0
def tw11188902257456575097 : Nat := 0
def tw12673234027714971554 : Nat := 0
def tw17700404496210370410 : Nat := 0
def tw1101776044883104107 : Nat := 0
def tw13019234304540960841 : Nat := 0
def tw15237750413328399122 : Nat := 0
def tw11503333070228327378 : Nat := 0
def tw371929369404187888 : Nat := 0
def tw9784510315221190843 : Nat := 0
def tw14047588500332382901 : Nat := 0
def tw6722388862138095146 : Nat := 0
def tw191343029969995907 : Nat := 0
def tw522901152557392689 : Nat := 0
def tw14214887112195360423 : Nat := 0
def tw15758796023275774211 : Nat := 0
def tw17729817782220945968 : Nat := 0
def tw13070488626498083270 : Nat := 0
def tw5738103605081023312 : Nat := 0
def tw2042617913084419091 : Nat := 0
def tw13686989022151162613 : Nat := 0
def tw13212431455278167048 : Nat := 0
def tw2623495478454488175 : Nat := 0
def tw17544054119064735345 : Nat := 0
def tw9272853585779840140 : Nat := 0
def tw17599872645701297883 : Nat := 0
def tw3737792531391102906 : Nat := 0
def tw13510823667716675598 : Nat := 0
def tw4392543792149184732 : Nat := 0
def tw15010030075072010652 : Nat := 0
def tw1378244077021736287 : Nat := 0
def tw1267356225268894277 : Nat := 0
def tw6200431395468253008 : Nat := 0
def tw17628790550401049357 : Nat := 0
def tw5922286646620588344 : Nat := 0
def tw9550903310067596664 : Nat := 0
def tw11026850019624125219 : Nat := 0
def tw3183808476840795099 : Nat := 0
def tw10968719160092919082 : Nat := 0
def tw3518191083378499631 : Nat := 0
def tw2605103759263696455 : Nat := 0
def tw4365627761132592667 : Nat := 0
def tw13524566630260032993 : Nat := 0
def tw8752163995240705220 : Nat := 0
def tw3582821468093230555 : Nat := 0
def tw308237399479579201 : Nat := 0
def tw10540865572089905383 : Nat := 0
def tw12588186299290064253 : Nat := 0
def tw5805111590226809097 : Nat := 0
def tw9801861483645926704 : Nat := 0
def tw11130439064582031834 : Nat := 0
def tw10634324260564289305 : Nat := 0
def tw13621528731913498102 : Nat := 0
def tw2556574543265874055 : Nat := 0
def tw3531955910660190287 : Nat := 0
def tw15402644424809832971 : Nat := 0
def tw13866444805052281926 : Nat := 0
def tw17694191705997215177 : Nat := 0
def tw5438795203556612225 : Nat := 0
def tw16691698336460901545 : Nat := 0
def tw11242116516477261418 : Nat := 0
def tw1413121021184955122 : Nat := 0
def tw15672815656683562688 : Nat := 0
def tw16578604439271053327 : Nat := 0
def tw939939154629614089 : Nat := 0
def tw18138759904890891045 : Nat := 0
def tw15277269738850973387 : Nat := 0
def tw4661874341665071827 : Nat := 0
def tw10977827764900102332 : Nat := 0
def tw9603974004620524945 : Nat := 0
def tw9946915236434240810 : Nat := 0
def tw2710319260791506856 : Nat := 0
def tw8014676012817234581 : Nat := 0
def tw16658442723070997274 : Nat := 0
def tw2913442298286901043 : Nat := 0
def tw1044517050845308962 : Nat := 0
def tw249788767622385660 : Nat := 0
def tw13649315213198412609 : Nat := 0
def tw2374973372305029869 : Nat := 0
def tw7782259413984220152 : Nat := 0
def tw7769797804940641129 : Nat := 0
def tw4867105353306827734 : Nat := 0
def tw11536692873861847567 : Nat := 0
def tw9287444083223414318 : Nat := 0
def tw16913553332307222084 : Nat := 0
def tw4848032220765603159 : Nat := 0
def tw15897440817245654024 : Nat := 0
def tw4551719183937957824 : Nat := 0
def tw5392684558727759914 : Nat := 0
def tw14192838833363296823 : Nat := 0
def tw2714265988061414954 : Nat := 0
def tw14381662202134624146 : Nat := 0
def tw11183274048898881861 : Nat := 0
def tw12827935290705526392 : Nat := 0
def tw4798674199827070275 : Nat := 0
def tw6501831080344085371 : Nat := 0
def tw15967408611758544870 : Nat := 0
def tw16796252652426925324 : Nat := 0
def tw4630954438836952337 : Nat := 0
def tw11231306786099419612 : Nat := 0
def tw15780419187430228650 : Nat := 0
def tw848962808979898993 : Nat := 0
def tw5846962241766871416 : Nat := 0
def tw13153077639519917231 : Nat := 0
def tw5789487123742602867 : Nat := 0
def tw14403895037101424022 : Nat := 0
def tw16703998462768537635 : Nat := 0
def tw780050529836461281 : Nat := 0
def tw3374027213668431869 : Nat := 0
def tw2484531196267636039 : Nat := 0
def tw17851704895531025294 : Nat := 0
def tw13109812882952732495 : Nat := 0
def tw11185386023047987136 : Nat := 0
def tw15725624572339464431 : Nat := 0
def tw14476944792416790969 : Nat := 0
def tw11639306690213383146 : Nat := 0
def tw18034483459267032980 : Nat := 0
def tw2375741373327831413 : Nat := 0
def tw15308561623788234870 : Nat := 0
def tw15389170780525922269 : Nat := 0
def tw17364777640156298898 : Nat := 0
def tw17909626982510643638 : Nat := 0
def tw16944083701071706216 : Nat := 0
def tw2717464412935030558 : Nat := 0
def tw16861094577219971173 : Nat := 0
def tw11831464077129004372 : Nat := 0
def tw6289205705172150122 : Nat := 0
def tw10672070638305491737 : Nat := 0
def tw12118302715621689232 : Nat := 0
def tw13739049879845703065 : Nat := 0
def tw13315432014092396762 : Nat := 0
def tw8017820602658578119 : Nat := 0
def tw11951184670512814810 : Nat := 0
def tw1986872148107852109 : Nat := 0
def tw8989757598852087158 : Nat := 0
def tw593217458930297893 : Nat := 0
def tw16078530120464409802 : Nat := 0
def tw9286020428952911384 : Nat := 0
def tw8831191702296286668 : Nat := 0
def tw15320598254784815835 : Nat := 0
def tw11252032267784934342 : Nat := 0
def tw13868635133897784361 : Nat := 0
def tw10062458920587536637 : Nat := 0
def tw9754583487433605561 : Nat := 0
def tw11525369803065020123 : Nat := 0
def tw4894420932076312238 : Nat := 0
def tw13556313349503454939 : Nat := 0
def tw8721439934311304312 : Nat := 0
def tw7630994862153814767 : Nat := 0
def tw4552100165803360170 : Nat := 0
def tw5043350630403624029 : Nat := 0
def tw8507322018728331737 : Nat := 0
def tw1757943434069386733 : Nat := 0
def tw13683921145745894468 : Nat := 0
def tw11151779878135536922 : Nat := 0
def tw2721655718474587127 : Nat := 0
def tw4345096637383252071 : Nat := 0
def tw14444610414032123717 : Nat := 0
def tw649199798169839414 : Nat := 0
def tw2704954057032171476 : Nat := 0
def tw4499523705840848036 : Nat := 0
def tw11961483899969451802 : Nat := 0
def tw5154886719025659463 : Nat := 0
def tw14666341891381669143 : Nat := 0
def tw18124402592053319975 : Nat := 0
def tw775212866756843028 : Nat := 0
def tw3988508763617682399 : Nat := 0
def tw5936650913887476723 : Nat := 0
def tw9522747679510014544 : Nat := 0
def tw8536943854388579586 : Nat := 0
def tw12792316958148772740 : Nat := 0
def tw16624932106067960105 : Nat := 0
def tw8385845766146843898 : Nat := 0
def tw6966619755674086031 : Nat := 0
def tw1806468444188808338 : Nat := 0
def tw4340742329469202480 : Nat := 0
def tw2715287973633205511 : Nat := 0
def tw12399641131654996855 : Nat := 0
def tw16260549312864326826 : Nat := 0
def tw6237894723135998785 : Nat := 0
def tw7824562754973425028 : Nat := 0
def tw14983187270013888354 : Nat := 0
def tw10332438587989340278 : Nat := 0
def tw17749864318373197887 : Nat := 0
def tw14471465394036191231 : Nat := 0
def tw16558884063112420626 : Nat := 0
def tw13160355245757110100 : Nat := 0
def tw7544047781438836621 : Nat := 0
def tw8492932929349004365 : Nat := 0
def tw489413837300460151 : Nat := 0
def tw10303861917519089312 : Nat := 0
def tw9563292625153491545 : Nat := 0
def tw1595472902039504595 : Nat := 0
def tw5181827722592753513 : Nat := 0
def tw16876287454154534608 : Nat := 0
def tw3378753055808104213 : Nat := 0
def tw15667809574651589890 : Nat := 0
def tw5386378267871815804 : Nat := 0
def tw17361818492379564693 : Nat := 0
def tw11935959574022150510 : Nat := 0
def tw7231194927605284568 : Nat := 0
def tw6726305975156699800 : Nat := 0
def tw11838903126923825644 : Nat := 0
def tw10296722183326143447 : Nat := 0
def tw18000291950104517631 : Nat := 0
def tw5600382288607327136 : Nat := 0
def tw16584572310058942936 : Nat := 0
def tw5574820068615784433 : Nat := 0
def tw16796101420489807177 : Nat := 0
def tw7967676238233994219 : Nat := 0
def tw3770456978750978021 : Nat := 0
def tw8182937892282582081 : Nat := 0
def tw6608125798758335645 : Nat := 0
def tw403903200458142429 : Nat := 0
def tw5158077305772765777 : Nat := 0
def tw15698432176059811344 : Nat := 0
def tw6320746504056490814 : Nat := 0
def tw8524209992995085559 : Nat := 0
def tw18280505386901494260 : Nat := 0
def tw10659933388885628223 : Nat := 0
def tw3458489589092214885 : Nat := 0
def tw13410536598162074236 : Nat := 0
def tw6038020721429875096 : Nat := 0
def tw1206928399941264651 : Nat := 0
def tw5406918426883729363 : Nat := 0
def tw5443391602707501723 : Nat := 0
def tw7333839728120662933 : Nat := 0
def tw16348762864061982320 : Nat := 0
def tw13642895811155854875 : Nat := 0
def tw14368089716161222117 : Nat := 0
def tw11672067572535495873 : Nat := 0
def tw4468710482953388153 : Nat := 0
def tw1411026258437311709 : Nat := 0
def tw16117915159811984564 : Nat := 0
def tw774805969798807343 : Nat := 0
def tw1180900270299387709 : Nat := 0
def tw15787229871534224409 : Nat := 0
def tw7669708862750416588 : Nat := 0
def tw10453461243133905773 : Nat := 0
def tw17625779638926100299 : Nat := 0
def tw3890899983374774662 : Nat := 0
def tw7506901435789349013 : Nat := 0
def tw11216208789804591003 : Nat := 0
def tw52277564745830694 : Nat := 0
def tw10840375764455283137 : Nat := 0
def tw17715347539686393878 : Nat := 0
def tw4303550330507078113 : Nat := 0
def tw5326423198836477618 : Nat := 0
def tw16063105844333146309 : Nat := 0
def tw3929274555542108096 : Nat := 0
def tw16875311117508233769 : Nat := 0
def tw11953799160595109906 : Nat := 0
def tw1551975809492091853 : Nat := 0
def tw8995906679853438940 : Nat := 0
def tw927425547976968266 : Nat := 0
def tw16858502960606411836 : Nat := 0
def tw3846383799059853571 : Nat := 0
def tw408154093261829887 : Nat := 0
def tw7873313915069520184 : Nat := 0
def tw654186259785777272 : Nat := 0
def tw682751901854346343 : Nat := 0
def tw4461016134269951558 : Nat := 0
def tw5505707585822167848 : Nat := 0
def tw9329967244954693057 : Nat := 0
def tw5350618671810718954 : Nat := 0
def tw4521381889916009119 : Nat := 0
def tw14754434369107556660 : Nat := 0
def tw17088700101225535745 : Nat := 0
def tw12815730787442814547 : Nat := 0
def tw7439009036013470459 : Nat := 0
def tw5638639343790904888 : Nat := 0
def tw4388283938677045414 : Nat := 0
def tw17456912916799713079 : Nat := 0
def tw4197575636551867501 : Nat := 0
def tw14060898853841217024 : Nat := 0
def tw8619871198267396482 : Nat := 0
def tw13036856036290933297 : Nat := 0
def tw1425422390043677509 : Nat := 0
def tw6124699589646869616 : Nat := 0
def tw9170655645314300085 : Nat := 0
def tw1230906859867809884 : Nat := 0
def tw14660692624746002998 : Nat := 0
def tw14010414944840127935 : Nat := 0
def tw19134493359124355 : Nat := 0
def tw254482336503190169 : Nat := 0
def tw11978921049620038205 : Nat := 0
def tw17196104059291354709 : Nat := 0
def tw6752620868124456422 : Nat := 0
def tw15183161991820733303 : Nat := 0
def tw17088689889250838934 : Nat := 0
def tw7991103522521685959 : Nat := 0
def tw16418811409819294729 : Nat := 0
def tw1684609087463364207 : Nat := 0
def tw17493545973268738520 : Nat := 0
def tw11666742180889110361 : Nat := 0
def tw2501776426588247139 : Nat := 0
def tw13340271471157735845 : Nat := 0
def tw15272069707249359408 : Nat := 0
def tw9623340425933485074 : Nat := 0
def tw1173321914066500229 : Nat := 0
def tw15733896796242225402 : Nat := 0
def tw5372806733455515292 : Nat := 0
def tw9140255528795981656 : Nat := 0
def tw9072386762831006047 : Nat := 0
def tw6414112778677175479 : Nat := 0
def tw251706715790392000 : Nat := 0
def tw75142267224719963 : Nat := 0
def tw10549824329391777279 : Nat := 0
def tw14029051577569981994 : Nat := 0
def tw9603553648430858584 : Nat := 0
def tw15064756396232914564 : Nat := 0
def tw6289358625664504024 : Nat := 0
def tw79573052087891076 : Nat := 0
def tw13791791965944180768 : Nat := 0
def tw14369385189188082471 : Nat := 0
def tw10627870771859331683 : Nat := 0
def tw230003642363974731 : Nat := 0
def tw12902257926941453296 : Nat := 0
def tw11005422880287623968 : Nat := 0
def tw16095525931293675936 : Nat := 0
def tw6461760671370404759 : Nat := 0
def tw16727516461447141858 : Nat := 0
def tw421758368647142899 : Nat := 0
def tw354546715924154362 : Nat := 0
def tw7005744300242023951 : Nat := 0
def tw9556852489430354445 : Nat := 0
def tw2932654230326630243 : Nat := 0
def tw2414437776154700531 : Nat := 0
def tw1112043756542532644 : Nat := 0
def tw1239574506801317571 : Nat := 0
def tw17800251934303815888 : Nat := 0
def tw2632941756600486347 : Nat := 0
def tw3984205881749019734 : Nat := 0
def tw6032301954451140286 : Nat := 0
def tw3882961440948232657 : Nat := 0
def tw2835055905961872839 : Nat := 0
def tw17932322239870498495 : Nat := 0
def tw13307925549988467779 : Nat := 0
def tw14307139317851070752 : Nat := 0
def tw945584157025680233 : Nat := 0
def tw1284395813677399935 : Nat := 0
def tw13840673283615379117 : Nat := 0
def tw13544271898345278638 : Nat := 0
def tw17245131936392390652 : Nat := 0
def tw6385606759905051598 : Nat := 0
def tw16629090260867524206 : Nat := 0
def tw4885755046635268263 : Nat := 0
def tw15853925535873422445 : Nat := 0
def tw12935170845444183698 : Nat := 0
def tw16302072495051664452 : Nat := 0
def tw16842470103853642590 : Nat := 0
def tw3431684909431068847 : Nat := 0
def tw12878986149593435169 : Nat := 0
def tw10877430135249553528 : Nat := 0
def tw7059740764021512154 : Nat := 0
def tw5692056122042103828 : Nat := 0
def tw9478059805424709514 : Nat := 0
def tw6916534898068564899 : Nat := 0
def tw4928902449654100718 : Nat := 0
def tw2427897786166503234 : Nat := 0
def tw9130065295801451062 : Nat := 0
def tw8453797840435218645 : Nat := 0
def tw1109914969932289309 : Nat := 0
def tw17411647486063746079 : Nat := 0
def tw1942405628264322599 : Nat := 0
def tw1055693768057901742 : Nat := 0
def tw16800218670860170282 : Nat := 0
def tw747749600829751453 : Nat := 0
def tw11350493592620976496 : Nat := 0
def tw7444374746062224172 : Nat := 0
def tw270258853375637988 : Nat := 0
def tw6258462877386241742 : Nat := 0
def tw11456546177352029254 : Nat := 0
def tw10138201484970424783 : Nat := 0
def tw7457097698577621933 : Nat := 0
def tw13552100396985448289 : Nat := 0
def tw15796782875383946694 : Nat := 0
def tw3969863947777848385 : Nat := 0
def tw4223726250294936731 : Nat := 0
def tw14158961807824612769 : Nat := 0
def tw12645961181098637881 : Nat := 0
def tw8439234799137838927 : Nat := 0
def tw2263907857228986843 : Nat := 0
def tw6383995424352038162 : Nat := 0
def tw5032322226953138952 : Nat := 0
def tw9797054610074100253 : Nat := 0
def tw9048254356357624010 : Nat := 0
def tw727191236464970257 : Nat := 0
def tw15168848483156850201 : Nat := 0
def tw1851449984071849910 : Nat := 0
def tw14491127585349369045 : Nat := 0
def tw4580351680471039851 : Nat := 0
def tw13374701745049544722 : Nat := 0
def tw5798010948493674939 : Nat := 0
def tw8873516256511203467 : Nat := 0
def tw3449804416374731295 : Nat := 0
def tw17841288920616679713 : Nat := 0
def tw4281332095961498784 : Nat := 0
def tw10804514268487369495 : Nat := 0
def tw18413754831874500184 : Nat := 0
def tw15534616109901315767 : Nat := 0
def tw12554816455732082054 : Nat := 0
def tw16800915975527559949 : Nat := 0
def tw296550430204935190 : Nat := 0
def tw12568731409236033210 : Nat := 0
def tw16347692821545503880 : Nat := 0
def tw8261204300176769537 : Nat := 0
def tw13791051511858411207 : Nat := 0
def tw11031112106759243431 : Nat := 0
def tw4280306483635372414 : Nat := 0
def tw6703140264165213804 : Nat := 0
def tw8221682422007652744 : Nat := 0
def tw9656522139696520441 : Nat := 0
def tw8273743749802949414 : Nat := 0
def tw1149634625429423340 : Nat := 0
def tw3244823714484372465 : Nat := 0
def tw16610799338052561587 : Nat := 0
def tw15650241077785759294 : Nat := 0
def tw3702344471096354322 : Nat := 0
def tw15048329437802273166 : Nat := 0
def tw12804390155465741372 : Nat := 0
def tw5978257429599231760 : Nat := 0
def tw8841845719062032900 : Nat := 0
def tw2913980609676928943 : Nat := 0
def tw16459734064615074188 : Nat := 0
def tw1049442465139166561 : Nat := 0
def tw9435590650848586148 : Nat := 0
def tw1404489164404665592 : Nat := 0
def tw14113620717888248569 : Nat := 0
def tw8170539909759772902 : Nat := 0
def tw18163416107584396863 : Nat := 0
def tw2796888490321651984 : Nat := 0
def tw4518790566170167710 : Nat := 0
def tw17104446993781204226 : Nat := 0
def tw9699247900893430645 : Nat := 0
def tw412484313040705522 : Nat := 0
def tw15567713182229204283 : Nat := 0
def tw481688655855020440 : Nat := 0
def tw1417553127050824157 : Nat := 0
def tw562156587457100965 : Nat := 0
def tw7087520270142631263 : Nat := 0
def tw9215478128997133203 : Nat := 0
def tw2970002009640871576 : Nat := 0
def tw1651680306711062786 : Nat := 0
def tw5282097168381481015 : Nat := 0
def tw4524269621352049232 : Nat := 0
def tw5387517365110873987 : Nat := 0
def tw7486520460373339655 : Nat := 0
def tw8140457839751609104 : Nat := 0
def tw9268652964768843501 : Nat := 0
def tw11424994601799100458 : Nat := 0
def tw12528672294942889446 : Nat := 0
def tw10135199206881878908 : Nat := 0
def tw1040537185366768649 : Nat := 0
def tw15957120803002442264 : Nat := 0
def tw398485602624665783 : Nat := 0
def tw1712246329411697447 : Nat := 0
def tw6050451799484545808 : Nat := 0
def tw17014661197254873682 : Nat := 0
def tw6668188086408908534 : Nat := 0
def tw13062522907242800715 : Nat := 0
def tw16766115656421010082 : Nat := 0
def tw17449365977353703966 : Nat := 0
def tw9709867543536032377 : Nat := 0
def tw7218665129761494256 : Nat := 0
def tw15622148114890520946 : Nat := 0
def tw2606067608642215690 : Nat := 0
def tw1673588859608244434 : Nat := 0
def tw7210380705469765081 : Nat := 0
def tw678025755471652741 : Nat := 0
def tw4196456445258123551 : Nat := 0
def tw7491781833400580173 : Nat := 0
def tw225900125016612299 : Nat := 0
def tw17152744490491735318 : Nat := 0
def tw16756109622225155226 : Nat := 0
def tw15478916560984108005 : Nat := 0
def tw2486895881471743730 : Nat := 0
def tw941613722397756195 : Nat := 0
def tw9341258360079589826 : Nat := 0
def tw11747212205490875428 : Nat := 0
def tw12924719824161712842 : Nat := 0
def tw4021415869821860570 : Nat := 0
def tw5700268157730145073 : Nat := 0
def tw13896918507828051839 : Nat := 0
def tw8879448699294698945 : Nat := 0
def tw10810623054743780184 : Nat := 0
def tw1039520157768888206 : Nat := 0
def tw16823765428597919367 : Nat := 0
def tw11607009885873506955 : Nat := 0
def tw15020013855695864502 : Nat := 0
def tw16360293365479677168 : Nat := 0
def tw9299692500439405397 : Nat := 0
def tw9091358886240509500 : Nat := 0
def tw13582005305113209990 : Nat := 0
def tw5327166910955239505 : Nat := 0
def tw12797909930343862820 : Nat := 0
def tw3644721531064830648 : Nat := 0
def tw17892572029763169670 : Nat := 0
def tw15533211100003248697 : Nat := 0
def tw3517731886023037005 : Nat := 0
def tw16852210518185328443 : Nat := 0
def tw5436438285366356954 : Nat := 0
def tw14914558949096225241 : Nat := 0
def tw2990971667283172184 : Nat := 0
def tw5155139617957356039 : Nat := 0
def tw4958376688139141443 : Nat := 0
def tw17926003355412129928 : Nat := 0
def tw2500833910940076308 : Nat := 0
def tw5285115255657465497 : Nat := 0
def tw12349431621591484864 : Nat := 0
def tw13792892771389935885 : Nat := 0
def tw12406596154613085917 : Nat := 0
def tw3812316742698486502 : Nat := 0
def tw1597448071336885380 : Nat := 0
def tw17082588922019876780 : Nat := 0
def tw14419310470312789061 : Nat := 0
def tw12027428721276364919 : Nat := 0
def tw11603805322616156550 : Nat := 0
def tw3055428365324784012 : Nat := 0
def tw7170037431390284977 : Nat := 0
def tw8096316246803476868 : Nat := 0
def tw9013859731474606778 : Nat := 0
def tw6796765824039220098 : Nat := 0
def tw10498647959764131484 : Nat := 0
def tw6928732979287235879 : Nat := 0
def tw15055521662358188197 : Nat := 0
def tw9387080909897624926 : Nat := 0
def tw4549858574308565213 : Nat := 0
def tw9673056878507723698 : Nat := 0
def tw16957034233235831640 : Nat := 0
def tw15590872313871995330 : Nat := 0
def tw11125192216457421635 : Nat := 0
def tw9011403891171238291 : Nat := 0
def tw10250893090695863020 : Nat := 0
def tw9894035359143335036 : Nat := 0
def tw16863858091213087776 : Nat := 0
def tw907775044387693448 : Nat := 0
def tw13800113709857611927 : Nat := 0
def tw9121670721276253125 : Nat := 0
def tw12254075117630215675 : Nat := 0
def tw15886341936721996375 : Nat := 0
def tw18169204829861571954 : Nat := 0
def tw5039530700197361862 : Nat := 0
def tw12795482887400620167 : Nat := 0
def tw17024468968514412005 : Nat := 0
def tw10989063146828855841 : Nat := 0
def tw9631896787477652951 : Nat := 0
def tw14373189820815566841 : Nat := 0
def tw15543491618632635413 : Nat := 0
def tw6308122746036361927 : Nat := 0
def tw6381352554429290430 : Nat := 0
def tw7827221276593485212 : Nat := 0
def tw14326903235375784264 : Nat := 0
def tw11685300339495395753 : Nat := 0
def tw361804997648510292 : Nat := 0
def tw11873331905331983265 : Nat := 0
def tw536341207583068637 : Nat := 0
def tw4997195215260637592 : Nat := 0
def tw7390043556038599638 : Nat := 0
def tw12943455656111361359 : Nat := 0
def tw17428503923976805911 : Nat := 0
def tw1042590778510772781 : Nat := 0
def tw6276764932689110765 : Nat := 0
def tw13293160409499579505 : Nat := 0
def tw8840311979577461345 : Nat := 0
def tw10320395506967915683 : Nat := 0
def tw12569090261282815283 : Nat := 0
def tw14091786936604885434 : Nat := 0
def tw5924735225851561597 : Nat := 0
def tw17191495658905820486 : Nat := 0
def tw16220369618318852281 : Nat := 0
def tw14490821550026572983 : Nat := 0
def tw2633146623269702795 : Nat := 0
def tw8328637404523671409 : Nat := 0
def tw1070747084732489786 : Nat := 0
def tw18055081800645722407 : Nat := 0
def tw8010824046080774263 : Nat := 0
def tw17104212081056874365 : Nat := 0
def tw14269003542668024877 : Nat := 0
def tw12703225889785686748 : Nat := 0
def tw16774624002326381140 : Nat := 0
def tw17509630335993765965 : Nat := 0
def tw14570495578330029961 : Nat := 0
def tw11228648273815530813 : Nat := 0
def tw15233066414836209867 : Nat := 0
def tw3244041550911315960 : Nat := 0
def tw4988751639552793294 : Nat := 0
def tw11155772676403837759 : Nat := 0
def tw5871592711623469337 : Nat := 0
def tw5367711921052572345 : Nat := 0
def tw17753794558081080527 : Nat := 0
def tw12873433145245332001 : Nat := 0
def tw3396590232905898351 : Nat := 0
def tw18293219735735018802 : Nat := 0
def tw7485279763826891402 : Nat := 0
def tw7483527005988557082 : Nat := 0
def tw3965960276680512333 : Nat := 0
def tw2066408307472757608 : Nat := 0
def tw3446695725727923027 : Nat := 0
def tw16856084094992160010 : Nat := 0
def tw9109409609701561554 : Nat := 0
def tw18019690608534358826 : Nat := 0
def tw13970122897165952673 : Nat := 0
def tw939521597832532035 : Nat := 0
def tw10606734902750277378 : Nat := 0
def tw7544462053027436682 : Nat := 0
def tw7717705091363677976 : Nat := 0
def tw262212448271320680 : Nat := 0
def tw15168566804357551154 : Nat := 0
def tw4470252128734689891 : Nat := 0
def tw9719328287398969242 : Nat := 0
def tw8122864570863512107 : Nat := 0
def tw7419004879198247976 : Nat := 0
def tw12727899972958617365 : Nat := 0
def tw2422550033570115606 : Nat := 0
def tw8285764331244221197 : Nat := 0
def tw15354014650914120967 : Nat := 0
def tw1337208481700983041 : Nat := 0
def tw146316276047641755 : Nat := 0
def tw6018047352464872300 : Nat := 0
def tw15831226428291432592 : Nat := 0
def tw1999015084525634580 : Nat := 0
def tw2108823177375536372 : Nat := 0
def tw7098852792821230940 : Nat := 0
def tw6553024665774962863 : Nat := 0
def tw1579918729942058245 : Nat := 0
def tw2579070718278065944 : Nat := 0
def tw7684921813792255908 : Nat := 0
def tw17948378396846230210 : Nat := 0
def tw18195657229591801417 : Nat := 0
def tw1394764236464765153 : Nat := 0
def tw2035035762714618892 : Nat := 0
def tw10075590343301885134 : Nat := 0
def tw16922741164298735809 : Nat := 0
def tw8976490267391939405 : Nat := 0
def tw1187690641296450189 : Nat := 0
def tw16113928951194984370 : Nat := 0
def tw7753138629709915504 : Nat := 0
def tw6394349859153707051 : Nat := 0
def tw12275433216290423820 : Nat := 0
def tw3342985728215574146 : Nat := 0
def tw12630807787137545977 : Nat := 0
def tw17711783898443947040 : Nat := 0
def tw12572621923953932598 : Nat := 0
def tw745900318372541743 : Nat := 0
def tw17683565227236600298 : Nat := 0
def tw16777703117320206267 : Nat := 0
def tw7890109895378759323 : Nat := 0
def tw5481708647974032642 : Nat := 0
def tw4870564882846059218 : Nat := 0
def tw9281510498073892992 : Nat := 0
def tw14380863138943433827 : Nat := 0
def tw17398727049901640620 : Nat := 0
def tw5279924702893805162 : Nat := 0
def tw7582024069886962019 : Nat := 0
def tw2721446069890035731 : Nat := 0
def tw7995393465455617263 : Nat := 0
def tw9966375365604218254 : Nat := 0
def tw18009356524701689764 : Nat := 0
def tw1221973503997659484 : Nat := 0
def tw9140551216030592840 : Nat := 0
def tw11796454488514917270 : Nat := 0
def tw16040877858970515949 : Nat := 0
def tw12574666105531419283 : Nat := 0
def tw17866271758615652152 : Nat := 0
def tw13342922203663500149 : Nat := 0
def tw14449750082424432929 : Nat := 0
def tw15282356350579599292 : Nat := 0
def tw13965899389078280766 : Nat := 0
def tw14484742085651918293 : Nat := 0
def tw11667579327471885298 : Nat := 0
def tw15802495710318628328 : Nat := 0
def tw2301821579292476220 : Nat := 0
def tw11508169154939840945 : Nat := 0
def tw5170198409222189653 : Nat := 0
def tw13596521470000921098 : Nat := 0
def tw823965682128722176 : Nat := 0
def tw6821307506073477974 : Nat := 0
def tw913080566417140707 : Nat := 0
def tw4270959655526115993 : Nat := 0
def tw2397253360920246972 : Nat := 0
def tw7690588955903692360 : Nat := 0
def tw3828342826249748168 : Nat := 0
def tw2664370277078030333 : Nat := 0
def tw5332279660400935196 : Nat := 0
def tw18338628343966424326 : Nat := 0
def tw8467219437808958106 : Nat := 0
def tw4429832084645996460 : Nat := 0
def tw12896861799970980343 : Nat := 0
def tw8349496925517315461 : Nat := 0
def tw9506210821219180133 : Nat := 0
def tw6517056608540202851 : Nat := 0
def tw10295278909060884515 : Nat := 0
def tw1658163509945869872 : Nat := 0
def tw17681673475177869654 : Nat := 0
def tw12052726236046311828 : Nat := 0
def tw2623368816827623319 : Nat := 0
def tw16124665662096562957 : Nat := 0
def tw16753183476331040860 : Nat := 0
def tw4694910468271922426 : Nat := 0
def tw4481936200141261229 : Nat := 0
def tw16345540631918237770 : Nat := 0
def tw2852161468910741557 : Nat := 0
def tw9194300890377934475 : Nat := 0
def tw13190094853535092465 : Nat := 0
def tw3997137460035324496 : Nat := 0
def tw8237755539347019473 : Nat := 0
def tw11364909003477548303 : Nat := 0
def tw6946569909227723310 : Nat := 0
def tw14337163702363280966 : Nat := 0
def tw4119073343476104777 : Nat := 0
def tw13747823316556504856 : Nat := 0
def tw11744030613339289954 : Nat := 0
def tw4508067491208179474 : Nat := 0
def tw12986889601842585228 : Nat := 0
def tw17762048908614048620 : Nat := 0
def tw14874147136161942980 : Nat := 0
def tw14809785406446364106 : Nat := 0
def tw246794164594831793 : Nat := 0
def tw6454423853401473923 : Nat := 0
def tw17905778543338028665 : Nat := 0
def tw15886445088479059352 : Nat := 0
def tw5333637281481222197 : Nat := 0
def tw13061131011484638220 : Nat := 0
def tw12082387938668931115 : Nat := 0
def tw6341554151912362581 : Nat := 0
def tw13809309101832897290 : Nat := 0
def tw18360856470562491739 : Nat := 0
def tw14767924425547967335 : Nat := 0
def tw7151543851343075087 : Nat := 0
def tw16179014169929038210 : Nat := 0
def tw11612914860680660243 : Nat := 0
def tw13619414085376097419 : Nat := 0
def tw15555427054972959337 : Nat := 0
def tw18196064061405606680 : Nat := 0
def tw4069681264653120957 : Nat := 0
def tw2909185215159060054 : Nat := 0
def tw12559449787636529354 : Nat := 0
def tw7665812634971598324 : Nat := 0
def tw13610582313143800231 : Nat := 0
def tw7843337554420147855 : Nat := 0
def tw4839030147728742053 : Nat := 0
def tw7663837291903402964 : Nat := 0
def tw11436562762706849218 : Nat := 0
def tw11148494692995031443 : Nat := 0
def tw761315128132883838 : Nat := 0
def tw3662950631197996588 : Nat := 0
def tw10695687242560163497 : Nat := 0
def tw3684412557721711697 : Nat := 0
def tw15081393099585500786 : Nat := 0
def tw12398916944681352886 : Nat := 0
def tw16836985364550015440 : Nat := 0
def tw7612471142506238403 : Nat := 0
def tw2213343183560380962 : Nat := 0
def tw11578404645974175118 : Nat := 0
def tw9013584973226652880 : Nat := 0
def tw2405198826133628318 : Nat := 0
def tw16744889216058167782 : Nat := 0
def tw9619774282040601707 : Nat := 0
def tw14304657823460557053 : Nat := 0
def tw2121625187036423285 : Nat := 0
def tw9231112755422851875 : Nat := 0
def tw9637320485614976131 : Nat := 0
def tw3815371408241089466 : Nat := 0
def tw3955866926728039103 : Nat := 0
def tw7767735051360910690 : Nat := 0
def tw1101296419364018423 : Nat := 0
def tw13439612085142186688 : Nat := 0
def tw2272813336084144749 : Nat := 0
def tw15524774390053944511 : Nat := 0
def tw329012893662399589 : Nat := 0
def tw8235221996364251309 : Nat := 0
def tw95459318145139173 : Nat := 0
def tw3940575322512961432 : Nat := 0
def tw8517873174130732720 : Nat := 0
def tw2057230484592951780 : Nat := 0
def tw3445284492468343385 : Nat := 0
def tw11658532679094862595 : Nat := 0
def tw12817936183707148686 : Nat := 0
def tw15470124366053624430 : Nat := 0
def tw13320039008319748468 : Nat := 0
def tw2768757663824396321 : Nat := 0
def tw4442881873543296579 : Nat := 0
def tw10651073364134657588 : Nat := 0
def tw9001114647686990023 : Nat := 0
def tw13765214148460251605 : Nat := 0
def tw11308967499712803528 : Nat := 0
def tw6151013825173541667 : Nat := 0
def tw18409538388240089106 : Nat := 0
def tw12129165945789510501 : Nat := 0
def tw1390572703357078757 : Nat := 0
def tw17865291345891651943 : Nat := 0
def tw6733150350838725188 : Nat := 0
def tw2324640251599473363 : Nat := 0
def tw2612222543145893546 : Nat := 0
def tw7567853463234065891 : Nat := 0
def tw6801138072852648002 : Nat := 0
def tw1867340819906421908 : Nat := 0
def tw8279012495504913306 : Nat := 0
def tw2798624338110352979 : Nat := 0
def tw12342266233708155298 : Nat := 0
def tw9714728921697704635 : Nat := 0
def tw8358663144853422214 : Nat := 0
def tw1777858964026434183 : Nat := 0
def tw179408356417913081 : Nat := 0
def tw11275918876215317195 : Nat := 0
def tw13591473257597023653 : Nat := 0
def tw14890760727260256022 : Nat := 0
def tw11623007169342126401 : Nat := 0
def tw3426149437396101754 : Nat := 0
def tw10048837420290818138 : Nat := 0
def tw6038720478142821903 : Nat := 0
def tw3359533431203268595 : Nat := 0
def tw8319369161099014992 : Nat := 0
def tw15667776420840997858 : Nat := 0
def tw2964724144426360701 : Nat := 0
def tw3742107542015773842 : Nat := 0
def tw9404041945053346042 : Nat := 0
def tw10996554354167788814 : Nat := 0
def tw6699520151757759733 : Nat := 0
def tw6933359047563971564 : Nat := 0
def tw17242241397930828858 : Nat := 0
def tw14681434013036894215 : Nat := 0
def tw9140043942945199725 : Nat := 0
def tw7417184941724079214 : Nat := 0
def tw4841202098042514478 : Nat := 0
def tw14170234257269551518 : Nat := 0
def tw9271124323363535080 : Nat := 0
def tw8886227214117515659 : Nat := 0
def tw3369997333476421270 : Nat := 0
def tw2524835278983728669 : Nat := 0
def tw18324001979529564277 : Nat := 0
def tw1776739767576979035 : Nat := 0
def tw1241211606545203963 : Nat := 0
def tw5541207444669277272 : Nat := 0
def tw14117096578383492948 : Nat := 0
def tw12115241222405515217 : Nat := 0
def tw17435810747320403113 : Nat := 0
def tw4032575660956008403 : Nat := 0
def tw906982043878480799 : Nat := 0
def tw13577694055388183853 : Nat := 0
def tw9281926389735248594 : Nat := 0
def tw12169290149084670691 : Nat := 0
def tw5945905698483229407 : Nat := 0
def tw17856994975031266467 : Nat := 0
def tw4056461241723171365 : Nat := 0
def tw3398466308832983730 : Nat := 0
def tw4410340859111906343 : Nat := 0
def tw10809240240878982565 : Nat := 0
def tw13164549363458131954 : Nat := 0
def tw7850845578711329385 : Nat := 0
def tw17671979904647559630 : Nat := 0
def tw9832688176171360313 : Nat := 0
def tw7312109652508482163 : Nat := 0
def tw7118784128665052870 : Nat := 0
def tw10704677724656247581 : Nat := 0
def tw2469071293207585888 : Nat := 0
def tw12160016019035871387 : Nat := 0
def tw16969279438769682363 : Nat := 0
def tw5111002012514009078 : Nat := 0
def tw7860748557894590962 : Nat := 0
def tw11814348876402021517 : Nat := 0
def tw836351169310968426 : Nat := 0
def tw3737637013559630189 : Nat := 0
def tw6337589762705387445 : Nat := 0
def tw11912965981838226225 : Nat := 0
def tw7218588958957275604 : Nat := 0
def tw11964578062709773553 : Nat := 0
def tw18384075869626014054 : Nat := 0
def tw9188058548128941048 : Nat := 0
def tw5360642336196828241 : Nat := 0
def tw13546114648870923316 : Nat := 0
def tw15182041993387865124 : Nat := 0
def tw3936753921733731224 : Nat := 0
def tw7795377659499939992 : Nat := 0
def tw2721569776419039627 : Nat := 0
def tw3074078108989493315 : Nat := 0
def tw4620348419245159927 : Nat := 0
def tw4028201502129232159 : Nat := 0
def tw16921517484388663071 : Nat := 0
def tw9504939730192177849 : Nat := 0
def tw6070408004937577623 : Nat := 0
def tw13092696702628641346 : Nat := 0
def tw5914793535992133679 : Nat := 0
def tw1278858335321235338 : Nat := 0
def tw14541836418288625611 : Nat := 0
def tw9361883419629460697 : Nat := 0
def tw16237208442123713703 : Nat := 0
def tw7814777342791410029 : Nat := 0
def tw2151211583432719981 : Nat := 0
def tw10445506736276100284 : Nat := 0
def tw2661669661322715862 : Nat := 0
def tw5484086393972977523 : Nat := 0
def tw3519768933709847537 : Nat := 0
def tw8968831856910022232 : Nat := 0
def tw8346768198708634821 : Nat := 0
def tw4843112089196477154 : Nat := 0
def tw136264807815596907 : Nat := 0
def tw4058039096792048479 : Nat := 0
def tw16927198253653830508 : Nat := 0
def tw1728916234392657831 : Nat := 0
def tw1676582625136943996 : Nat := 0
def tw11077734446252793945 : Nat := 0
def tw4940275601508801181 : Nat := 0
def tw12851558243732780255 : Nat := 0
def tw15559029135917625016 : Nat := 0
def tw1459953941287138268 : Nat := 0
def tw2196862196869094395 : Nat := 0
def tw12191115173581972623 : Nat := 0
def tw4986150597613328116 : Nat := 0
def tw9453591858676291283 : Nat := 0
def tw6024538453212063049 : Nat := 0
def tw3494997924233369272 : Nat := 0
def tw16805264910463239267 : Nat := 0
def tw3730350200289575760 : Nat := 0
def tw9051093499919454923 : Nat := 0
def tw12252328413819588901 : Nat := 0
def tw7680404844126665552 : Nat := 0
def tw16064836626424961483 : Nat := 0
def tw2644455990757349010 : Nat := 0
def tw10331938352799986920 : Nat := 0
def tw12656654962807929689 : Nat := 0
def tw1412645439660995297 : Nat := 0
def tw9361014273980849852 : Nat := 0
def tw6388069109466095168 : Nat := 0
def tw15080532849358011851 : Nat := 0
def tw17231309062665416802 : Nat := 0
def tw12900238781915571168 : Nat := 0
def tw4459217868351534679 : Nat := 0
def tw14202379001692437379 : Nat := 0
def tw6980965971712329620 : Nat := 0
def tw6478289010866500382 : Nat := 0
def tw2745126853886121503 : Nat := 0
def tw7821744863092283144 : Nat := 0
def tw12371110796595340268 : Nat := 0
def tw13161996617811428519 : Nat := 0
def tw10965749904880887334 : Nat := 0
def tw192558984720715941 : Nat := 0
def tw16999789277226728496 : Nat := 0
def tw4073581882042647308 : Nat := 0
def tw5213266084123193873 : Nat := 0
def tw14474174363261085322 : Nat := 0
def tw14160609012268520837 : Nat := 0
def tw468148430567260579 : Nat := 0
def tw704261741881798575 : Nat := 0
def tw14465200471771654315 : Nat := 0
def tw7564981445949228433 : Nat := 0
def tw12049198808767348191 : Nat := 0
def tw12123189050484662835 : Nat := 0
def tw16755008627585758043 : Nat := 0
def tw9807036305009526123 : Nat := 0
def tw327542533138518636 : Nat := 0
def tw4270140400836109137 : Nat := 0
def tw6316282579979998240 : Nat := 0
def tw13075123140119669599 : Nat := 0
def tw6689432666249231160 : Nat := 0
def tw10348732712205304566 : Nat := 0
def tw5078983506007510543 : Nat := 0
def tw8548401943458760418 : Nat := 0
def tw6005907866796847352 : Nat := 0
def tw3038921391393513290 : Nat := 0
def tw6393197089538495295 : Nat := 0
def tw6952730959044625849 : Nat := 0
def tw14258425788899889231 : Nat := 0
def tw13471629224022112366 : Nat := 0
def tw644684404565985556 : Nat := 0
def tw6824543254927858940 : Nat := 0
def tw5625503912381859789 : Nat := 0
def tw13721489615246155011 : Nat := 0
def tw12199814342017512162 : Nat := 0
def tw5937967793429871815 : Nat := 0
def tw12325671662877657538 : Nat := 0
def tw10259248631377282148 : Nat := 0
def tw2254263334398952119 : Nat := 0
def tw5528593169972436267 : Nat := 0
def tw15016226062053126775 : Nat := 0
def tw6836455247234807149 : Nat := 0
def tw15246855922643406614 : Nat := 0
def tw10740259086027603111 : Nat := 0
def tw3504845217401878777 : Nat := 0
def tw8610965702980734436 : Nat := 0
def tw6572542897631053052 : Nat := 0
def tw13822528719754286519 : Nat := 0
def tw13234911460081175987 : Nat := 0
def tw6666290468390609411 : Nat := 0
def tw7105113379588579217 : Nat := 0
def tw14387619470128402457 : Nat := 0
def tw6135488052248783473 : Nat := 0
def tw1124263360001551927 : Nat := 0
def tw5100087766582673527 : Nat := 0
def tw7278508961139907026 : Nat := 0
def tw16959161350325803131 : Nat := 0
def tw11081058382410108154 : Nat := 0
def tw12118197794767453366 : Nat := 0
def tw5504853601886060496 : Nat := 0
def tw13470473653741304175 : Nat := 0
def tw17499253404047886875 : Nat := 0
def tw16713822948119599780 : Nat := 0
def tw11924276494735890199 : Nat := 0
def tw9724770007879076381 : Nat := 0
def tw13878965678304616334 : Nat := 0
def tw16120719919330558671 : Nat := 0
def tw1100927529323263622 : Nat := 0
def tw7404645308276976823 : Nat := 0
def tw8020055052739874680 : Nat := 0
def tw18435848634369951006 : Nat := 0
def tw4837632348638992608 : Nat := 0
def tw16083464500455462234 : Nat := 0
def tw14248522511966501298 : Nat := 0
def tw8721048122648889355 : Nat := 0
def tw4984867522139515760 : Nat := 0
def tw16385494938731619026 : Nat := 0
def tw12635325112931920658 : Nat := 0
def tw1310370597424925196 : Nat := 0
def tw12570407884899368606 : Nat := 0
def tw15144631799456935888 : Nat := 0
def tw15027301947018020340 : Nat := 0
def tw6880978637202298926 : Nat := 0
def tw7509298095446859087 : Nat := 0
def tw1446567810016102527 : Nat := 0
def tw5735827632996182972 : Nat := 0
def tw14923293635295589100 : Nat := 0
def tw3113316360753115192 : Nat := 0
def tw3612645141479123734 : Nat := 0
def tw15589019393390982001 : Nat := 0
def tw4233848773484249003 : Nat := 0
def tw8982450178339980898 : Nat := 0
def tw17059696662596922461 : Nat := 0
def tw12723050092688862795 : Nat := 0
def tw1939921850922217410 : Nat := 0
def tw10270286473564562163 : Nat := 0
def tw5979609090674983317 : Nat := 0
def tw5243651455713212226 : Nat := 0
def tw17760481575900528630 : Nat := 0
def tw4128487594115372397 : Nat := 0
def tw11505444190722288843 : Nat := 0
def tw622025471090181867 : Nat := 0
def tw13898987506027541558 : Nat := 0
def tw9224923281471405847 : Nat := 0
def tw7295803986115601408 : Nat := 0
def tw316222692466824952 : Nat := 0
def tw14220787924753654301 : Nat := 0
def tw16338406987641766989 : Nat := 0
def tw15733186417846820608 : Nat := 0
def tw16103545460762448548 : Nat := 0
def tw14970686730639113636 : Nat := 0
def tw9591642888221751701 : Nat := 0
def tw14300501774842540773 : Nat := 0
def tw16535267934120500912 : Nat := 0
def tw6707429571139835770 : Nat := 0
def tw5678820848763986809 : Nat := 0
def tw3968591070111779243 : Nat := 0
def tw5324719902283942186 : Nat := 0
def tw17615501537419091995 : Nat := 0
def tw14203179766016215255 : Nat := 0
def tw9002784605499132302 : Nat := 0
def tw12214821750331813540 : Nat := 0
def tw14478792933257234381 : Nat := 0
def tw15712504185610737292 : Nat := 0
def tw4521789029538141207 : Nat := 0
def tw6381227397206246706 : Nat := 0
def tw8145278077914534721 : Nat := 0
def tw10748072450389691799 : Nat := 0
def tw17392403455568939908 : Nat := 0
def tw14290021596514682642 : Nat := 0
def tw16364546753593898898 : Nat := 0
def tw5566765894143795353 : Nat := 0
def tw6077650632491567282 : Nat := 0
def tw2359899541662510406 : Nat := 0
def tw4290702545028583738 : Nat := 0
def tw12059673271826173659 : Nat := 0
def tw13436744173261534008 : Nat := 0
def tw11399136079030317115 : Nat := 0
def tw4443532657887704409 : Nat := 0
def tw15639785799918657437 : Nat := 0
def tw8147155379321336596 : Nat := 0
def tw17978602156144050722 : Nat := 0
def tw3340668773023209333 : Nat := 0
def tw11652103041204886154 : Nat := 0
def tw10061296774881226536 : Nat := 0
def tw16719429659899052757 : Nat := 0
def tw8324384592385892494 : Nat := 0
def tw3738978960066205263 : Nat := 0
def tw7926101753794981954 : Nat := 0
def tw16077273185005738541 : Nat := 0
def tw7806928069981606853 : Nat := 0
def tw14055066355319753107 : Nat := 0
def tw13414654460827354821 : Nat := 0
def tw10432838630155494900 : Nat := 0
def tw8992797198183696652 : Nat := 0
def tw2480394489934567747 : Nat := 0
def tw14099772745006929168 : Nat := 0
def tw3161615972354273928 : Nat := 0
def tw4728063403886240036 : Nat := 0
def tw11528992207246272533 : Nat := 0
def tw2701023152939785745 : Nat := 0
def tw1996323155875887455 : Nat := 0
def tw8258191115185966719 : Nat := 0
def tw312436679902889145 : Nat := 0
def tw3305303570264026882 : Nat := 0
def tw16931062601399236737 : Nat := 0
def tw18291841244979255344 : Nat := 0
def tw896812365114820501 : Nat := 0
def tw8167402632337611101 : Nat := 0
def tw815437115428001961 : Nat := 0
def tw5752480823415612073 : Nat := 0
def tw16934412428559460064 : Nat := 0
def tw5377870088121365077 : Nat := 0
def tw12873886895306234620 : Nat := 0
def tw12554335323952185462 : Nat := 0
def tw2932538253200040040 : Nat := 0
def tw1798445891773603144 : Nat := 0
def tw7467850071617061586 : Nat := 0
def tw2974365630487096967 : Nat := 0
def tw6951730618199658509 : Nat := 0
def tw1876846410512266566 : Nat := 0
def tw4313966382145897809 : Nat := 0
def tw16172337314329015279 : Nat := 0
def tw8656207272792492622 : Nat := 0
def tw3694116399302157038 : Nat := 0
def tw13082196579935033652 : Nat := 0
def tw3277328701287849412 : Nat := 0
def tw18260679194047968639 : Nat := 0
def tw12975406085548667080 : Nat := 0
def tw17663634581120615216 : Nat := 0
def tw8882744665121580319 : Nat := 0
def tw5250137197090721374 : Nat := 0
def tw2209631712099781016 : Nat := 0
def tw8563848159232174487 : Nat := 0
def tw9935805813881966946 : Nat := 0
def tw14976356830174744331 : Nat := 0
def tw1813887006820738763 : Nat := 0
def tw4110267759864325482 : Nat := 0
def tw2405866527748635005 : Nat := 0
def tw524877968646371199 : Nat := 0
def tw243273749684746743 : Nat := 0
def tw2085688525002773279 : Nat := 0
def tw7203867780824087658 : Nat := 0
def tw17434422531289479446 : Nat := 0
def tw6374739456866251247 : Nat := 0
def tw6593903620341256939 : Nat := 0
def tw13740332562179027809 : Nat := 0
def tw9055936288430451061 : Nat := 0
def tw15726503215360056278 : Nat := 0
def tw7582932887401536423 : Nat := 0
def tw8709158023486187765 : Nat := 0
def tw9232694337900344926 : Nat := 0
def tw17335143971300421353 : Nat := 0
def tw2935886485491089209 : Nat := 0
def tw11448468853638135621 : Nat := 0
def tw9113805246502253693 : Nat := 0
def tw2836145064005408569 : Nat := 0
def tw11716589628254711500 : Nat := 0
def tw8805545555014505321 : Nat := 0
def tw12513755093019664294 : Nat := 0
def tw2220399327432763715 : Nat := 0
def tw12967694802367086690 : Nat := 0
def tw16004445488880099908 : Nat := 0
def tw8558744316834211025 : Nat := 0
def tw7585979792401358147 : Nat := 0
def tw6606581806989271374 : Nat := 0
def tw12213816381304368773 : Nat := 0
def tw6393760774864701137 : Nat := 0
def tw16125432199529560764 : Nat := 0
def tw10669483783979606553 : Nat := 0
def tw14848983368203528628 : Nat := 0
def tw6078133496308287758 : Nat := 0
def tw9708985286291388078 : Nat := 0
def tw17644727358208876191 : Nat := 0
def tw12029364379302232774 : Nat := 0
def tw4328312797597679014 : Nat := 0
def tw17053306466579381271 : Nat := 0
def tw7569860434554787919 : Nat := 0
def tw16310206309419418723 : Nat := 0
def tw10559150849737483844 : Nat := 0
def tw8869865540337007985 : Nat := 0
def tw18422323731650974162 : Nat := 0
def tw10137124075385542522 : Nat := 0
def tw2973292683624743209 : Nat := 0
def tw5531909519055403383 : Nat := 0
def tw5545131277510019809 : Nat := 0
def tw1043202196750522148 : Nat := 0
def tw17126382991265902159 : Nat := 0
def tw44762283038449209 : Nat := 0
def tw5060267088028551560 : Nat := 0
def tw10223357795967631160 : Nat := 0
def tw2431331120682706081 : Nat := 0
def tw11182718281150140858 : Nat := 0
def tw18267209409617260635 : Nat := 0
def tw4217930021797057543 : Nat := 0
def tw13753758889441832769 : Nat := 0
def tw3641938102395153904 : Nat := 0
def tw13264962272534497436 : Nat := 0
def tw9673369614986957995 : Nat := 0
def tw882537340872569649 : Nat := 0
def tw17486771704981451148 : Nat := 0
def tw17037893797576335160 : Nat := 0
def tw2015390422791653686 : Nat := 0
def tw4222874012843357625 : Nat := 0
def tw8871152726843398126 : Nat := 0
def tw1280716068388484515 : Nat := 0
def tw6255006042232168650 : Nat := 0
def tw12254438207326662213 : Nat := 0
def tw11696603854432897826 : Nat := 0
def tw9491152537469913518 : Nat := 0
def tw17043907119380374749 : Nat := 0
def tw4616906062868807135 : Nat := 0
def tw13830020744245467186 : Nat := 0
def tw3044304126446455456 : Nat := 0
def tw8362704381140900575 : Nat := 0
def tw6282858072534690826 : Nat := 0
def tw8590263587684884666 : Nat := 0
def tw16308680816742520628 : Nat := 0
def tw2177350347273737220 : Nat := 0
def tw7162429509304066394 : Nat := 0
def tw8282295889544521579 : Nat := 0
def tw4021548010368481520 : Nat := 0
def tw16098654293420547331 : Nat := 0
def tw1960402171964753352 : Nat := 0
def tw11451794502910033249 : Nat := 0
def tw10063354169018762004 : Nat := 0
def tw6022127155558073532 : Nat := 0
def tw11292880414721134123 : Nat := 0
def tw16901375861623859939 : Nat := 0
def tw9154651817255817720 : Nat := 0
def tw3394689941119144776 : Nat := 0
def tw182396704411114110 : Nat := 0
def tw13477767242259607860 : Nat := 0
def tw13378107765978296355 : Nat := 0
def tw10314340286401523020 : Nat := 0
def tw14419204564662981431 : Nat := 0
def tw14878860538466659489 : Nat := 0
def tw8081759292932907915 : Nat := 0
def tw11284224863206402896 : Nat := 0
def tw11339396828284305790 : Nat := 0
def tw799484324580680030 : Nat := 0
def tw7268018218186885901 : Nat := 0
def tw8120009301182473914 : Nat := 0
def tw14955276048163332695 : Nat := 0
def tw7146622482924915735 : Nat := 0
def tw13394475301628972101 : Nat := 0
def tw12318266445401416184 : Nat := 0
def tw15006390232453385113 : Nat := 0
def tw13104628622211723055 : Nat := 0
def tw13790880719756164649 : Nat := 0
def tw4117673606347665803 : Nat := 0
def tw8286843044733303062 : Nat := 0
def tw2788429803764327350 : Nat := 0
def tw16221781359838969832 : Nat := 0
def tw9605822956831928271 : Nat := 0
def tw10093159694771042558 : Nat := 0
def tw1531299185566258442 : Nat := 0
def tw13217395635790685246 : Nat := 0
def tw17646571301015285786 : Nat := 0
def tw17812986737857674701 : Nat := 0
def tw17764790952550112154 : Nat := 0
def tw2824014929172284496 : Nat := 0
def tw17672589297430640494 : Nat := 0
def tw15802219555403546689 : Nat := 0
def tw5390059157357424444 : Nat := 0
def tw14731283662195314188 : Nat := 0
def tw5972842508528287862 : Nat := 0
def tw16295911930123383704 : Nat := 0
def tw14146968502108499333 : Nat := 0
def tw15654919868674415848 : Nat := 0
def tw8233059119858781598 : Nat := 0
def tw1900159142437946250 : Nat := 0
def tw9994841914301754881 : Nat := 0
def tw14826963218476491798 : Nat := 0
def tw8547295307111999914 : Nat := 0
def tw16765721416396003952 : Nat := 0
def tw15069824614483317336 : Nat := 0
def tw14187715213630222396 : Nat := 0
def tw4258568182790060354 : Nat := 0
def tw12677734233047963736 : Nat := 0
def tw17861061355045117609 : Nat := 0
def tw13002113327796244090 : Nat := 0
def tw18190078640530420916 : Nat := 0
def tw3147302721731548967 : Nat := 0
def tw5913638748293026371 : Nat := 0
def tw10015965134503892905 : Nat := 0
def tw12567148773464937160 : Nat := 0
def tw2387529576037245962 : Nat := 0
def tw5135180447339299257 : Nat := 0
def tw13512207867405520164 : Nat := 0
def tw14521799312856853109 : Nat := 0
def tw11958297147804645430 : Nat := 0
def tw1579357876525238242 : Nat := 0
def tw15445646784053813830 : Nat := 0
def tw16161608294300343328 : Nat := 0
def tw7961535183843063851 : Nat := 0
def tw8479332657673206190 : Nat := 0
def tw5076776583249511207 : Nat := 0
def tw10753323046329677666 : Nat := 0
def tw8950582285432841257 : Nat := 0
def tw11845444628847378053 : Nat := 0
def tw14963162994693049906 : Nat := 0
def tw4620489706131904047 : Nat := 0
def tw15694784449280210428 : Nat := 0
def tw3228987161215084700 : Nat := 0
def tw1749609103509572300 : Nat := 0
def tw11086562823346236284 : Nat := 0
def tw1305766993423652318 : Nat := 0
def tw2668297392196153533 : Nat := 0
def tw12669088150850584418 : Nat := 0
def tw12280988599126320796 : Nat := 0
def tw2663496983697493776 : Nat := 0
def tw7063841999686483179 : Nat := 0
def tw16084855471893788248 : Nat := 0
def tw8841554477251584802 : Nat := 0
def tw10326756112258486846 : Nat := 0
def tw16887870921680029650 : Nat := 0
def tw4942190343852824504 : Nat := 0
def tw16649158889069605368 : Nat := 0
def tw4361118793058668013 : Nat := 0
def tw8450028623470717329 : Nat := 0
def tw17099368427656782106 : Nat := 0
def tw7932076027639064081 : Nat := 0
def tw15536890479153627130 : Nat := 0
def tw2812116594072829517 : Nat := 0
def tw2971737856776657720 : Nat := 0
def tw11929870724886842421 : Nat := 0
def tw2523436627712952919 : Nat := 0
def tw934309520254841774 : Nat := 0
def tw1081900070438544470 : Nat := 0
def tw15705173763518409481 : Nat := 0
def tw14635769633130345769 : Nat := 0
def tw8727126565535652656 : Nat := 0
def tw12326685776009816120 : Nat := 0
def tw5091957775718494867 : Nat := 0
def tw9539561120939566480 : Nat := 0
def tw15973506552366661153 : Nat := 0
def tw1286287332358031026 : Nat := 0
def tw14938836513708876838 : Nat := 0
def tw12849278736522150395 : Nat := 0
def tw15826156264668698728 : Nat := 0
def tw13461611511934114734 : Nat := 0
def tw11872778255757825474 : Nat := 0
def tw704928653417223157 : Nat := 0
def tw16356894110854440757 : Nat := 0
def tw15070380498328789634 : Nat := 0
def tw1252386761068228878 : Nat := 0
def tw9562004773027569814 : Nat := 0
def tw2709444181744579602 : Nat := 0
def tw6566170289926876262 : Nat := 0
def tw2680425658405257046 : Nat := 0
def tw3498576431678963317 : Nat := 0
def tw13480973577338401961 : Nat := 0
def tw11242289253202831423 : Nat := 0
def tw3499889710082767693 : Nat := 0
def tw5057194191759194537 : Nat := 0
def tw13015763331532907374 : Nat := 0
def tw624364755801345036 : Nat := 0
def tw11295729308571431452 : Nat := 0
def tw5666722099282924601 : Nat := 0
def tw15519695048684922484 : Nat := 0
def tw13763143988660426373 : Nat := 0
def tw14388146022094318513 : Nat := 0
def tw3829863375334145504 : Nat := 0
def tw13734932556788973824 : Nat := 0
def tw12019716450066652761 : Nat := 0
def tw737182551916979832 : Nat := 0
def tw4370747274606778904 : Nat := 0
def tw14069165439372739625 : Nat := 0
def tw18093188464890692607 : Nat := 0
def tw6977632493408278282 : Nat := 0
def tw8382102328908100781 : Nat := 0
def tw12612343543690102253 : Nat := 0
def tw1838840000515448191 : Nat := 0
def tw15824339554665818089 : Nat := 0
def tw14245884611907122007 : Nat := 0
def tw2724803635796604152 : Nat := 0
def tw4389595589977591843 : Nat := 0
def tw7198277218589052901 : Nat := 0
def tw8671671526320250425 : Nat := 0
def tw3170013120187166854 : Nat := 0
def tw3414130032884541341 : Nat := 0
def tw15568131137105729479 : Nat := 0
def tw16300893489436051323 : Nat := 0
def tw16688171969580147433 : Nat := 0
def tw6663675888737474247 : Nat := 0
def tw1070652246846804551 : Nat := 0
def tw12113100832371605932 : Nat := 0
def tw7121848997829264715 : Nat := 0
def tw9486705490298372036 : Nat := 0
def tw17259997457922314023 : Nat := 0
def tw10617927246399900046 : Nat := 0
def tw10379626115280517045 : Nat := 0
def tw18380194440787367327 : Nat := 0
def tw881021695221355347 : Nat := 0
def tw12289394959091252343 : Nat := 0
def tw17513779001429257541 : Nat := 0
def tw3754668810738872923 : Nat := 0
def tw5769599968621098692 : Nat := 0
def tw12392133543004153026 : Nat := 0
def tw13322533963022034815 : Nat := 0
def tw8700030522108094674 : Nat := 0
def tw11737669016838375649 : Nat := 0
def tw14166820312759032029 : Nat := 0
def tw6347656251119943436 : Nat := 0
def tw10565899720008830137 : Nat := 0
def tw3054789583301727639 : Nat := 0
def tw7838255129199124498 : Nat := 0
def tw747312548539940679 : Nat := 0
def tw1151982987845399348 : Nat := 0
def tw8592857904160043874 : Nat := 0
def tw14119699088715403053 : Nat := 0
def tw9047760880274561815 : Nat := 0
def tw3075688308762864733 : Nat := 0
def tw9792218419613516000 : Nat := 0
def tw6396490998615288778 : Nat := 0
def tw3641735383435098228 : Nat := 0
def tw15486996081554861293 : Nat := 0
def tw17792255254089769442 : Nat := 0
def tw5116109211477666665 : Nat := 0
def tw6309666449830598921 : Nat := 0
def tw2530898114814200982 : Nat := 0
def tw6584784100785746070 : Nat := 0
def tw621650016364006564 : Nat := 0
def tw799228553685989096 : Nat := 0
def tw10366313835384752873 : Nat := 0
def tw18248739640574983344 : Nat := 0
def tw321567623012306444 : Nat := 0
def tw13781651015965553196 : Nat := 0
def tw16278263322363515812 : Nat := 0
def tw7125834495770477222 : Nat := 0
def tw10917554955009885503 : Nat := 0
def tw4197278244449900443 : Nat := 0
def tw8772884884733212806 : Nat := 0
def tw5040951434103874076 : Nat := 0
def tw1618586078629587753 : Nat := 0
def tw7468409265964093301 : Nat := 0
def tw5643583490541708950 : Nat := 0
def tw9523888629681359989 : Nat := 0
def tw1423308028318804014 : Nat := 0
def tw1714752726546460665 : Nat := 0
def tw17567632689316691832 : Nat := 0
def tw11014508532942624793 : Nat := 0
def tw14060061505649626048 : Nat := 0
def tw8821294251442977789 : Nat := 0
def tw8622961127537754320 : Nat := 0
def tw15028488176516865418 : Nat := 0
def tw4355470099183244936 : Nat := 0
def tw18249453161769618514 : Nat := 0
def tw15505990278419799696 : Nat := 0
def tw6747636859384151545 : Nat := 0
def tw10560302827614668029 : Nat := 0
def tw7144787479751979673 : Nat := 0
def tw8308884829602654839 : Nat := 0
def tw9954060984986443151 : Nat := 0
def tw987837166787310228 : Nat := 0
def tw10404246440426741906 : Nat := 0
def tw267068220157816233 : Nat := 0
def tw6423644423011702271 : Nat := 0
def tw14309912486759945467 : Nat := 0
def tw422307072197920086 : Nat := 0
def tw8938968368564001688 : Nat := 0
def tw16439651872091991716 : Nat := 0
def tw7294738129346424256 : Nat := 0
def tw6242959385955508338 : Nat := 0
def tw17342372370752323478 : Nat := 0
def tw12088768728743568597 : Nat := 0
def tw864030562269927236 : Nat := 0
def tw5852088440647231435 : Nat := 0
def tw12347829886242232378 : Nat := 0
def tw12317848985540717273 : Nat := 0
def tw1034599963172155022 : Nat := 0
def tw7657390932339688959 : Nat := 0
def tw18175259514741721051 : Nat := 0
def tw247450502435337152 : Nat := 0
def tw7124984300110550733 : Nat := 0
def tw6896335256242474648 : Nat := 0
def tw14181491212444863325 : Nat := 0
def tw4881970435783207299 : Nat := 0
def tw15892833240925992737 : Nat := 0
def tw5337342314654624238 : Nat := 0
def tw5723816171455509259 : Nat := 0
def tw12251258811291811121 : Nat := 0
def tw17662502995494129405 : Nat := 0
def tw1548777604723558284 : Nat := 0
def tw18148650950298376565 : Nat := 0
def tw10326771541264365686 : Nat := 0
def tw6591798316580959199 : Nat := 0
def tw13764143555886753358 : Nat := 0
def tw8738037508431052194 : Nat := 0
def tw2095281489911597240 : Nat := 0
def tw7405676945283565684 : Nat := 0
def tw162178885728280359 : Nat := 0
def tw7377954598825535794 : Nat := 0
def tw7079253643832842214 : Nat := 0
def tw11597542803614646628 : Nat := 0
def tw2982827854155850404 : Nat := 0
def tw7496164687123485134 : Nat := 0
def tw7136187675506768696 : Nat := 0
def tw12260599838279115333 : Nat := 0
def tw6638632246945278968 : Nat := 0
def tw11978863098782348987 : Nat := 0
def tw15294851175687340973 : Nat := 0
def tw11398382519540881479 : Nat := 0
def tw12096569537023490305 : Nat := 0
def tw5731715616819107859 : Nat := 0
def tw14183301902639061299 : Nat := 0
def tw3792364594527818218 : Nat := 0
def tw14056942325195691844 : Nat := 0
def tw6848550269293507229 : Nat := 0
def tw17840274061297836665 : Nat := 0
def tw9025619895075894224 : Nat := 0
def tw8493439735231364951 : Nat := 0
def tw346081885319181697 : Nat := 0
def tw8548296542161688504 : Nat := 0
def tw11924630649633009798 : Nat := 0
def tw10030044740810939633 : Nat := 0
def tw4991610677104449723 : Nat := 0
def tw13615843287171234113 : Nat := 0
def tw17510606932224787647 : Nat := 0
def tw1745495424373307846 : Nat := 0
def tw18175827915326829117 : Nat := 0
def tw2362505762985934431 : Nat := 0
def tw4880266192041000369 : Nat := 0
def tw14840982210877204207 : Nat := 0
def tw760383322086992259 : Nat := 0
def tw3190877919787233990 : Nat := 0
def tw4932186524475741208 : Nat := 0
def tw3574537348956901361 : Nat := 0
def tw17863229932144344331 : Nat := 0
def tw7838295000260116061 : Nat := 0
def tw4371250595126243574 : Nat := 0
def tw15299519765212184758 : Nat := 0
def tw2186380615601975758 : Nat := 0
def tw11436142260387245368 : Nat := 0
def tw2238520410750450290 : Nat := 0
def tw13429519586523311081 : Nat := 0
def tw11866080524048768356 : Nat := 0
def tw481469187250581096 : Nat := 0
def tw10672209655538269423 : Nat := 0
def tw11924523437658033740 : Nat := 0
def tw12155779291707291606 : Nat := 0
def tw3922379214216271369 : Nat := 0
def tw5783691737790662169 : Nat := 0
def tw11227845808441352631 : Nat := 0
def tw14047631150622295896 : Nat := 0
def tw8337428638233830088 : Nat := 0
def tw17716536884482643673 : Nat := 0
def tw12805792167129775602 : Nat := 0
def tw10336030897560390622 : Nat := 0
def tw5373761792203312944 : Nat := 0
def tw3281130871385132347 : Nat := 0
def tw3934176197070192553 : Nat := 0
def tw6350891951357687302 : Nat := 0
def tw14915702512189140387 : Nat := 0
def tw15247565754824870847 : Nat := 0
def tw10903015617825505212 : Nat := 0
def tw16474752108697857486 : Nat := 0
def tw5304181618787497568 : Nat := 0
def tw9885658353576505958 : Nat := 0
def tw10074059628595674094 : Nat := 0
def tw15384457588691473470 : Nat := 0
def tw1533926268604128242 : Nat := 0
def tw1100747585883924848 : Nat := 0
def tw15694063409135031623 : Nat := 0
def tw100004000458095969 : Nat := 0
def tw8782297568989083501 : Nat := 0
def tw4034360247373279391 : Nat := 0
def tw7542832055958447830 : Nat := 0
def tw3603082084002855960 : Nat := 0
def tw5060387262901937137 : Nat := 0
def tw16385208844815993368 : Nat := 0
def tw842348525540867032 : Nat := 0
def tw17292057215645206392 : Nat := 0
def tw7014487739362862943 : Nat := 0
def tw17158379564799343206 : Nat := 0
def tw119362523234868332 : Nat := 0
def tw3633605444118122690 : Nat := 0
def tw8679041748590017286 : Nat := 0
def tw7159203630382062634 : Nat := 0
def tw2462416335657009762 : Nat := 0
def tw13834606531017061345 : Nat := 0
def tw10924882952109817895 : Nat := 0
def tw12663347121946533275 : Nat := 0
def tw17795310445226002749 : Nat := 0
def tw10060803800289820728 : Nat := 0
def tw2729075536229187660 : Nat := 0
def tw17130392888591619559 : Nat := 0
def tw17848231358023118749 : Nat := 0
def tw15859040263561584381 : Nat := 0
def tw18306525135422642788 : Nat := 0
def tw1266077276307311492 : Nat := 0
def tw5293813067065897996 : Nat := 0
def tw10408780372600284982 : Nat := 0
def tw968826972626266382 : Nat := 0
def tw17956002844734887370 : Nat := 0
def tw13803854267580882844 : Nat := 0
def tw9419483841212815213 : Nat := 0
def tw9631131488627819927 : Nat := 0
def tw8667963160277967954 : Nat := 0
def tw16579885513456186340 : Nat := 0
def tw16524837170750139337 : Nat := 0
def tw13322272065763103726 : Nat := 0
def tw15759923768867234930 : Nat := 0
def tw2326159335900869405 : Nat := 0
def tw17368874377480892475 : Nat := 0
def tw9585651878244433351 : Nat := 0
def tw10832481682622026480 : Nat := 0
def tw17066248967682268225 : Nat := 0
def tw8542599223772358455 : Nat := 0
def tw11111559347520685347 : Nat := 0
def tw1110616719307795 : Nat := 0
def tw3224675956992523996 : Nat := 0
def tw925844480064741493 : Nat := 0
def tw9237271206631658492 : Nat := 0
def tw1281019543214428241 : Nat := 0
def tw15296693885345946375 : Nat := 0
def tw13738571165370293562 : Nat := 0
def tw13541781538857668732 : Nat := 0
def tw12247396854362877773 : Nat := 0
def tw10422664166032206154 : Nat := 0
def tw2930114800216945896 : Nat := 0
def tw5330034794686003289 : Nat := 0
def tw5122157672538014883 : Nat := 0
def tw14923635624590680099 : Nat := 0
def tw14587995361158383529 : Nat := 0
def tw1602396148600908625 : Nat := 0
def tw6786887819893253880 : Nat := 0
def tw14586959178095087023 : Nat := 0
def tw16336380362686485938 : Nat := 0
def tw5153055481445266947 : Nat := 0
def tw16288580147119385804 : Nat := 0
def tw3552197030973810131 : Nat := 0
def tw13076098264317248338 : Nat := 0
def tw18158774532393441830 : Nat := 0
def tw17822996099218530810 : Nat := 0
def tw18381470590066822850 : Nat := 0
def tw13085124795598984083 : Nat := 0
def tw12658572175568130213 : Nat := 0
def tw12327582525929150769 : Nat := 0
def tw3775338162404197487 : Nat := 0
def tw12280461795225796744 : Nat := 0
def tw5088032040867560931 : Nat := 0
def tw17601882157875491085 : Nat := 0
def tw9561395673653501699 : Nat := 0
def tw844760985429318971 : Nat := 0
def tw10749907108021211236 : Nat := 0
def tw9523709077569868178 : Nat := 0
def tw8233077554848339935 : Nat := 0
def tw4188700317562590200 : Nat := 0
def tw966776256284677553 : Nat := 0
def tw12962905171211177997 : Nat := 0
def tw12417753210622907039 : Nat := 0
def tw13515020717995532368 : Nat := 0
def tw17758461265427874237 : Nat := 0
def tw10628495873883141122 : Nat := 0
def tw5433239023742429854 : Nat := 0
def tw12443851098326421468 : Nat := 0
def tw11719829303927312100 : Nat := 0
def tw11653603685184310586 : Nat := 0
def tw8214266423745699445 : Nat := 0
def tw13956404421130630665 : Nat := 0
def tw9232342616149710973 : Nat := 0
def tw13299371904388845084 : Nat := 0
def tw14026829281923705295 : Nat := 0
def tw6377581854831314787 : Nat := 0
def tw16508587716929639823 : Nat := 0
def tw11478995776897203259 : Nat := 0
def tw5911618495009569685 : Nat := 0
def tw18344547556345838268 : Nat := 0
def tw1782816874690199648 : Nat := 0
def tw3478335417645335674 : Nat := 0
def tw16855265471112081804 : Nat := 0
def tw9057549455976674651 : Nat := 0
def tw11199105328536353984 : Nat := 0
def tw14268113860315421271 : Nat := 0
def tw10543839657391170493 : Nat := 0
def tw2552328636355989088 : Nat := 0
def tw8847595653631812247 : Nat := 0
def tw10194834042105626951 : Nat := 0
def tw10870520324920975715 : Nat := 0
def tw18429066612976401015 : Nat := 0
end PySem.W.Fast
open PySem PySem.W PyProof.Rows
set_option maxHeartbeats 0 in
theorem PySem.Challenge.cw_stagedrounding_k56_texts_of_numbers_and_holds : PySem.Challenge.rw_stagedrounding_k56_texts_of_numbers_and.Holds := by
  w_on; o_law; k_head; (case hw => w_witness2)
  k_fill
  refine Z.end_of (l := PySem.Challenge.rw_stagedrounding_k56_texts_of_numbers_and) (n := 63) (k := 8) (x := "_law_script") (fs := LAW.fs_law) rfl (by decide) rfl ⟨rfl, by decide, by decide⟩ (fun w h Y => PySem.W.kIn_of Y) ?Fu LAW.law_true
  case Fu =>
    intro w mg fa h Y KX G hmg
    refine' LAW.all_mk KX G hmg ?a0 ?l0 ?c0 ?k0 ?a1 ?l1 ?c1 ?k1 ?a2 ?l2 ?c2 ?k2 ?a3 ?l3 ?c3 ?k3 ?a4 ?l4 ?c4 ?k4 ?a5 ?l5 ?c5 ?k5 ?a6 ?l6 ?c6 ?k6 ?a7 ?l7 ?c7 ?k7 ?a8 ?l8 ?c8 ?k8 ?a9 ?l9 ?c9 ?k9 ?a10 ?l10 ?c10 ?k10 ?a11 ?l11 ?c11 ?k11 ?a12 ?l12 ?c12 ?k12 ?a13 ?l13 ?c13 ?k13 ?a14 ?l14 ?c14 ?k14 ?a15 ?l15 ?c15 ?k15 ?a16 ?l16 ?c16 ?k16 ?a17 ?l17 ?c17 ?k17 ?a18 ?l18 ?c18 ?k18 ?a19 ?l19 ?c19 ?k19 ?a20 ?l20 ?c20 ?k20 ?a21 ?l21 ?c21 ?k21 ?a22 ?l22 ?c22 ?k22 ?a23 ?l23 ?c23 ?k23 ?a24 ?l24 ?c24 ?k24 ?a25 ?l25 ?c25 ?k25 ?a26 ?l26 ?c26 ?k26 ?a27 ?l27 ?c27 ?k27 ?a28 ?l28 ?c28 ?k28 ?a29 ?l29 ?c29 ?k29 ?z_abs ?z_all ?z_bool ?z_int ?z_isinstance ?z_len ?z_max ?z_min ?z_range ?z_repr ?z_set ?z_sorted ?z_str ?z_tuple ?y_BETWEEN_STEPS ?y_DIGITS ?y_MOST_STEPS ?y_MOST_WIDTH ?y_PAIR_cells ?y_PAIR_chains ?y_RULES ?x_RULES ?y_SLASH ?y_SPACE
    (case a0 => k_is); (case l0 => k_is); (case c0 => k_is); (case k0 => k_is); (case a1 => k_is); (case l1 => k_is); (case c1 => k_is); (case k1 => k_is); (case a2 => k_is); (case l2 => k_is); (case c2 => k_is); (case k2 => k_is); (case a3 => k_is); (case l3 => k_is); (case c3 => k_is); (case k3 => k_is); (case a4 => k_is); (case l4 => k_is); (case c4 => k_is); (case k4 => k_is); (case a5 => k_is); (case l5 => k_is); (case c5 => k_is); (case k5 => k_is); (case a6 => k_is); (case l6 => k_is); (case c6 => k_is); (case k6 => k_is); (case a7 => k_is); (case l7 => k_is); (case c7 => k_is); (case k7 => k_is); (case a8 => k_is); (case l8 => k_is); (case c8 => k_is); (case k8 => k_is); (case a9 => k_is); (case l9 => k_is); (case c9 => k_is); (case k9 => k_is); (case a10 => k_is); (case l10 => k_is); (case c10 => k_is); (case k10 => k_is); (case a11 => k_is); (case l11 => k_is); (case c11 => k_is); (case k11 => k_is); (case a12 => k_is); (case l12 => k_is); (case c12 => k_is); (case k12 => k_is); (case a13 => k_is); (case l13 => k_is); (case c13 => k_is); (case k13 => k_is); (case a14 => k_is); (case l14 => k_is); (case c14 => k_is); (case k14 => k_is); (case a15 => k_is); (case l15 => k_is); (case c15 => k_is); (case k15 => k_is); (case a16 => k_is); (case l16 => k_is); (case c16 => k_is); (case k16 => k_is); (case a17 => k_is); (case l17 => k_is); (case c17 => k_is); (case k17 => k_is); (case a18 => k_is); (case l18 => k_is); (case c18 => k_is); (case k18 => k_is); (case a19 => k_is); (case l19 => k_is); (case c19 => k_is); (case k19 => k_is); (case a20 => k_is); (case l20 => k_is); (case c20 => k_is); (case k20 => k_is); (case a21 => k_is); (case l21 => k_is); (case c21 => k_is); (case k21 => k_is); (case a22 => k_is); (case l22 => k_is); (case c22 => k_is); (case k22 => k_is); (case a23 => k_is); (case l23 => k_is); (case c23 => k_is); (case k23 => k_is); (case a24 => k_is); (case l24 => k_is); (case c24 => k_is); (case k24 => k_is); (case a25 => k_is); (case l25 => k_is); (case c25 => k_is); (case k25 => k_is); (case a26 => k_is); (case l26 => k_is); (case c26 => k_is); (case k26 => k_is); (case a27 => k_is); (case l27 => k_is); (case c27 => k_is); (case k27 => k_is); (case a28 => k_is); (case l28 => k_is); (case c28 => k_is); (case k28 => k_is); (case a29 => k_is); (case l29 => k_is); (case c29 => k_is); (case k29 => k_is); (case z_abs => k_is); (case z_all => k_is); (case z_bool => k_is); (case z_int => k_is); (case z_isinstance => k_is); (case z_len => k_is); (case z_max => k_is); (case z_min => k_is); (case z_range => k_is); (case z_repr => k_is); (case z_set => k_is); (case z_sorted => k_is); (case z_str => k_is); (case z_tuple => k_is); (case y_BETWEEN_STEPS => k_is); (case y_DIGITS => k_is); (case y_MOST_STEPS => k_is); (case y_MOST_WIDTH => k_is); (case y_PAIR_cells => k_is); (case y_PAIR_chains => k_is); (case y_RULES => k_is); (case x_RULES => k_is); (case y_SLASH => k_is); (case y_SPACE => k_is)
