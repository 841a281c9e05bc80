import PyProof.Rows.All
import HandS.ForMost
import HandS.Evl
import HandS.IsInst
import HandS.Wide
import HandS.WideBits
import HandS.Zip
import HandS.Flow
import HandS.TupAny
import HandS.Exc
import HandS.Lambda
import HandS.Style
import HandS.Walk
import HandS.Rev
import HandS.RaiseMore
import KE.KNestM
import HandS.WideMore
import PyProof.ReprLen
import PyProof.ReprRoads
import HandS.Conv
import HandS.More
import HandS.HeadHook3
import KE.SortData
import PyProof.ListMulAny
import HandS.Deep
import KE.KDictZip
import PyProof.ListNew
import KE.GoesEnum
import HandS.Iter
import HandS.Text
import KE.DataCmp
import PyProof.LongRange
import HandS.NoneIn
import HandS.SetFor
import HandS.Strs
import HandS.TupMul
import HandS.ExcInit
import HandS.ExcOwn
import HandS.FStr
import HandS.TryMany
import HandS.ExcField
import HandS.ExcIs
import KE.KExcIs
import HandS.WrittenGet
import KE.GoesZip
import KE.GoesMore
import HandS.StrSplit
import KE.KRevSl
import PyProof.Rows.StrRev
import KE.KStrOpen
import PyProof.ListStr
import KE.IntTextLaws
import KE.KIntText
import PyProof.StrLawsChain
import KE.IntTextText
import PySem.Challenge.RW_stagedrounding_k57_texts_of_no_number_or
set_option Elab.async false
set_option linter.all false
set_option maxRecDepth 100000
set_option maxHeartbeats 4000000
set_option autoImplicit false
namespace Z
open L2 PySem PySem.Spec PyProof.Rows
open Evl (Ex ex_l ex_t ex_rd fresh_back)
abbrev Da := PyData
abbrev Fg := PySem.W.Frag
def keyD : Key → Da
  | .inl i => .int i
  | .inr x => .str x
mutual
inductive Rp (K : Fg) (F : Hp) : V → Da → Prop
  | non : Rp K F .non .none
  | bl (b : Bool) : Rp K F (.bl b) (.bool b)
  | int (i : Int) : Rp K F (.int i) (.int i)
  | str (x : Str) : Rp K F (.str x) (.str x)
  | lst {a : Addr} {xs : List V} {ds : List Da} : F a = some (.lst xs) → Rps K F xs ds → Rp K F (.ref a) (.list ds)
  | tup {a : Addr} {xs : List V} {ds : List Da} : SqT K F a xs → Rps K F xs ds → Rp K F (.ref a) (.tuple ds)
  | dct {a : Addr} {kvs : List (Key × V)} {es : List (Da × Da)} : Rd F a (.dK kvs) → RpK K F kvs es → Rp K F (.ref a) (.dict es)
inductive Rps (K : Fg) (F : Hp) : List V → List Da → Prop
  | nil : Rps K F [] []
  | cons {v : V} {vs : List V} {d : Da} {ds : List Da} : Rp K F v d → Rps K F vs ds → Rps K F (v :: vs) (d :: ds)
inductive RpK (K : Fg) (F : Hp) : List (Key × V) → List (Da × Da) → Prop
  | nil : RpK K F [] []
  | cons {k : Key} {v : V} {vs : List (Key × V)} {d : Da} {ds : List (Da × Da)} : Rp K F v d → RpK K F vs ds → RpK K F ((k, v) :: vs) ((keyD k, d) :: ds)
end
section
variable {K : Fg} {F F' : Hp}
mutual
theorem Rp.mono (e : Ex F F') : ∀ (d : Da) (v : V), Rp K F v d → Rp K F' v d
  | .none, _, h => by cases h; exact .non
  | .bool b, _, h => by cases h; exact .bl b
  | .int i, _, h => by cases h; exact .int i
  | .str x, _, h => by cases h; exact .str x
  | .list ds, _, h => by cases h with | lst hs ha => exact .lst (e _ _ hs) (Rps.mono e ds _ ha)
  | .tuple ds, _, h => by cases h with | tup hs ha => exact .tup (ex_t e hs) (Rps.mono e ds _ ha)
  | .dict es, _, h => by cases h with | dct hs ha => exact .dct (ex_rd e hs) (RpK.mono e es _ ha)
theorem Rps.mono (e : Ex F F') : ∀ (ds : List Da) (vs : List V), Rps K F vs ds → Rps K F' vs ds
  | [], _, h => by cases h; exact .nil
  | d :: ds, _, h => by cases h with | cons h1 h2 => exact .cons (Rp.mono e d _ h1) (Rps.mono e ds _ h2)
theorem RpK.mono (e : Ex F F') : ∀ (ds : List (Da × Da)) (vs : List (Key × V)), RpK K F vs ds → RpK K F' vs ds
  | [], _, h => by cases h; exact .nil
  | (_, d) :: ds, _, h => by cases h with | cons h1 h2 => exact .cons (Rp.mono e d _ h1) (RpK.mono e ds _ h2)
end
theorem Rp.up {v : V} {d : Da} (h : Rp K F v d) (e : Ex F F') : Rp K F' v d := Rp.mono e d v h
theorem Rps.up {v : List V} {d : List Da} (h : Rps K F v d) (e : Ex F F') : Rps K F' v d := Rps.mono e d v h
theorem Rps.len : ∀ {vs : List V} {ds : List Da}, Rps K F vs ds → vs.length = ds.length
  | _, _, .nil => rfl
  | _, _, .cons _ t => congrArg (· + 1) t.len
theorem Rps.get : ∀ {vs : List V} {ds : List Da} {i : Nat} {d : Da}, Rps K F vs ds → ds[i]? = some d → ∃ v, vs[i]? = some v ∧ Rp K F v d
  | _, _, _, _, .nil, e => by simp at e
  | _, _, 0, _, .cons r _, e => by simp at e; subst e; exact ⟨_, rfl, r⟩
  | _, _, i + 1, d, .cons _ t, e => by
    obtain ⟨u, h1, h2⟩ := Rps.get (i := i) (d := d) t (by simpa using e)
    exact ⟨u, by simpa using h1, h2⟩
theorem Rps.app : ∀ {vs us : List V} {ds es : List Da}, Rps K F vs ds → Rps K F us es → Rps K F (vs ++ us) (ds ++ es)
  | _, _, _, _, .nil, s => s
  | _, _, _, _, .cons r t, s => .cons r (t.app s)
end
/-- a still thing that is no datum: an instance by its class's name and its fields; an exception of the program's own by its class's name and its value -/
inductive Kd where | ins (nm : Str) (fs : List (Str × Da)) | exc (nm : Str) (z : Option Da) | at (p : Addr) | insAt (p : Addr) (nm : Str) (fs : List (Str × Da)) | lam (F0 : Hp) (f c : Addr) (q : Str)
/-- what an exception in the air says -/
def XvOk (K : Fg) (F : Hp) (cls : Value) (dd : Option Addr) (nm : Str) : Option Da → Prop
  | some z => ∃ (C x : Addr) (u : V), cls = .ref C ∧ PySem.W.nsIn K mainGlobals nm = some (some (.ref C)) ∧ dd = some x ∧ F x = some (.xd [("value", u)]) ∧ Rp K F u z
  | none => ∃ C : Addr, cls = .ref C ∧ PySem.W.nsIn K mainGlobals nm = some (some (.ref C)) ∧ dd = none
theorem XvOk.up {K : Fg} {F F' : Hp} {cls : Value} {dd : Option Addr} {nm : Str} (e : Ex F F') : ∀ {z : Option Da}, XvOk K F cls dd nm z → XvOk K F' cls dd nm z
  | some _, ⟨C, x, u, h1, h2, h3, h4, h5⟩ => ⟨C, x, u, h1, h2, h3, e _ _ h4, h5.up e⟩
  | none, h => h
/-- an exception that was caught, at a -/
def exT (a : Addr) (cls : Value) (d : Option Addr) : HO := .ext fun h => ∃ (oe : Obj) (vs : Array Value), h.get? a = some oe ∧ Zc cls d oe ∧ oe.data = .fields vs
def ObOk (K : Fg) (F : Hp) (v : V) : Kd → Prop
  | .ins nm fs => ∃ (p C dx : Addr) (us : List (Str × V)), v = .ref p ∧ PySem.W.nsIn K mainGlobals nm = some (some (.ref C)) ∧ F p = some (.ins C dx us) ∧ us.map Prod.fst = fs.map Prod.fst ∧ Rps K F (us.map Prod.snd) (fs.map Prod.snd)
  | .exc nm z => ∃ (a : Addr) (cls : Value) (dd : Option Addr), v = .ref a ∧ F a = some (exT a cls dd) ∧ XvOk K F cls dd nm z
  | .at p => v = .ref p
  | .lam F0 f c q => v = .ref f ∧ F c = some (LamX.CodeO c q) ∧ Ex F0 F
  | .insAt p nm fs => ∃ (C dx : Addr) (us : List (Str × V)), v = .ref p ∧ PySem.W.nsIn K mainGlobals nm = some (some (.ref C)) ∧ F p = some (.ins C dx us) ∧ us.map Prod.fst = fs.map Prod.fst ∧ Rps K F (us.map Prod.snd) (fs.map Prod.snd)
theorem ObOk.up {K : Fg} {F F' : Hp} {v : V} (e : Ex F F') : ∀ {k : Kd}, ObOk K F v k → ObOk K F' v k
  | .ins _ _, ⟨p, C, dx, us, h1, h2, h3, h4, h5⟩ => ⟨p, C, dx, us, h1, h2, e _ _ h3, h4, h5.up e⟩
  | .exc _ _, ⟨a, cls, dd, h1, h2, h3⟩ => ⟨a, cls, dd, h1, e _ _ h2, h3.up e⟩
  | .at _, h => h
  | .lam _ _ _ _, ⟨h1, h2, h3⟩ => ⟨h1, e _ _ h2, h3.trans e⟩
  | .insAt _ _ _, ⟨C, dx, us, h1, h2, h3, h4, h5⟩ => ⟨C, dx, us, h1, h2, e _ _ h3, h4, h5.up e⟩
/-- a local's content: a datum; an own list, not yet given away; the source of draws -/
inductive Sv where | val (d : Da) | own (ds : List Da) | src | scr (ns : List Int) | ob (k : Kd)
/-- an expression's value -/
inductive Rv where | val (d : Da) | src | scr (ns : List Int) | ob (k : Kd)
/-- a def's result; or what it raised: the class's name, the field value -/
inductive Rr where | val (d : Da) | own (ds : List Da) | exc (nm : Str) (d : Option Da)
structure Gs where
  sl : List (Option Sv)
  fu : Option Nat
  ow : Bool
/-- the entry: the still part, the heap, the source that was handed in -/
structure Con where
  F : Hp
  H : Hp
  ext : Option Addr
def modS : Int := 2305843009213693921
/-- a source of draws that may be asked n times more -/
def SrcAt (H : Hp) (a : Addr) (n : Nat) : Prop := ∃ x y z : Int, H a = some (.lst [.int x, .int y, .int z]) ∧ 0 ≤ x ∧ x < 2 ^ 1000 ∧ 0 ≤ y ∧ y < modS ∧ 0 ≤ z ∧ z + n ≤ 2 ^ 40
def SlOk (K : Fg) (F H : Hp) (c : Con) (a : Addr) (fu : Option Nat) (v : V) : Sv → Prop
  | .val d => Rp K F v d
  | .own ds => ∃ o xs, v = .ref o ∧ F o = none ∧ c.H o = none ∧ H o = some (.lst xs) ∧ Rps K F xs ds ∧ (fu ≠ none → o ≠ a)
  | .src => v = .ref a ∧ fu ≠ none
  | .scr ns => ∃ b, v = .ref b ∧ SqL K F b (ns.map V.int)
  | .ob k => ObOk K F v k
def RvOk (K : Fg) (F : Hp) (a : Addr) (fu : Option Nat) (v : V) : Rv → Prop
  | .val d => Rp K F v d
  | .src => v = .ref a ∧ fu ≠ none
  | .scr ns => ∃ b, v = .ref b ∧ SqL K F b (ns.map V.int)
  | .ob k => ObOk K F v k
theorem RvOk.up {K : Fg} {F F' : Hp} {a : Addr} {fu : Option Nat} {v : V} (e : Ex F F') : ∀ {r : Rv}, RvOk K F a fu v r → RvOk K F' a fu v r
  | .val _, h => Rp.up h e
  | .src, h => h
  | .scr _, ⟨b, h1, h2⟩ => ⟨b, h1, ex_l e h2⟩
  | .ob _, h => ObOk.up e h
inductive Tm (K : Fg) (F : Hp) (a : Addr) (fu : Option Nat) : List V → List Rv → Prop
  | nil : Tm K F a fu [] []
  | cons {v : V} {vs : List V} {r : Rv} {rs : List Rv} : RvOk K F a fu v r → Tm K F a fu vs rs → Tm K F a fu (v :: vs) (r :: rs)
def LAM : List Str := ["_law_right"]
def lamQ (x : Str) : Str := x ++ ".<locals>.<lambda>"
/-- no table -/
def NT (o : HO) : Prop := ∀ ps, o ≠ .tbl ps
/-- the table at P: known to the heap, not to the still part; its code objects are known to the still part -/
structure TabAt (F H : Hp) (P : Addr) (q : Str) : Prop where
  ex : ∃ ps : Array Value, H P = some (.tbl ps) ∧ PySem.TriplesOk ps.toList ∧ ∀ (pos : Pos) (cv : Value), PySem.codeAmong pos ps.toList = some cv → ∃ c, cv = .ref c ∧ F c = some (LamX.CodeO c q)
  no : F P = none
def TabK (K : Fg) (F H : Hp) : Prop := ∀ x c P, x ∈ LAM → PySem.W.tabIn K x = some (c, P) → TabAt F H P (lamQ x)
theorem TabK.up {K : Fg} {F H F' H' : Hp} (t : TabK K F H) (ef : Ex F F') (eh : ∀ b ps, H b = some (.tbl ps) → H' b = some (.tbl ps)) (rn : ∀ b, F' b ≠ none → F b ≠ none ∨ ∀ ps, H b ≠ some (.tbl ps)) : TabK K F' H' := fun x c P h1 h2 => by
  obtain ⟨⟨ps, a1, a2, a3⟩, a4⟩ := t x c P h1 h2
  refine ⟨⟨ps, eh P ps a1, a2, fun pos cv hc => ?_⟩, ?_⟩
  · obtain ⟨c, e1, e2⟩ := a3 pos cv hc
    exact ⟨c, e1, ef _ _ e2⟩
  · cases q : F' P with
    | none => rfl
    | some o =>
      rcases rn P (by rw [q]; exact fun z => nomatch z) with w | w
      · exact absurd a4 w
      · exact absurd a1 (w ps)
/-- the still part grows by a list of the heap -/
theorem TabK.lst {K : Fg} {F H : Hp} {o : Addr} {xs : List V} (t : TabK K F H) (ho : H o = some (.lst xs)) (fo : F o = none) : TabK K (upd F o (.lst xs)) H :=
  t.up (Ex.new fo) (fun _ _ h => h) fun b h => by
    by_cases z : b = o
    · subst z
      exact .inr fun ps e => by rw [ho] at e; cases e
    · rw [upd_ne z] at h
      exact .inl h
/-- another thing at o, where there was no table -/
theorem TabK.but {K : Fg} {F H H' : Hp} {o : Addr} {w : HO} (t : TabK K F H) (ho : H o = some w) (n : NT w) (e : ∀ b u, b ≠ o → H b = some u → H' b = some u) : TabK K F H' :=
  t.up (Ex.refl F) (fun b ps h => e b _ (fun z => by rw [z, ho] at h; cases h; exact n _ rfl) h) fun _ h => .inl h
/-- tables stay tables -/
def TbS (H H' : Hp) : Prop := ∀ b ps, H b = some (.tbl ps) → ∃ ps', H' b = some (.tbl ps')
theorem TbS.refl {H : Hp} : TbS H H := fun _ ps h => ⟨ps, h⟩
theorem TbS.ex {H H' : Hp} (e : Ex H H') : TbS H H' := fun b ps h => ⟨ps, e b _ h⟩
theorem TbS.trans {H H1 H2 : Hp} (a : TbS H H1) (b : TbS H1 H2) : TbS H H2 := fun x ps h => let ⟨ps', h'⟩ := a x ps h; b x ps' h'
theorem TbS.but {H H' : Hp} {o : Addr} {w : HO} (ho : H o = some w) (n : NT w) (e : ∀ b u, b ≠ o → H b = some u → H' b = some u) : TbS H H' :=
  fun b ps h => ⟨ps, e b _ (fun z => by rw [z, ho] at h; cases h; exact n _ rfl) h⟩
structure Sta (K : Fg) (c : Con) (g : Gs) (σ : L2.St) (H : Hp) (tv : List V) (tr : List Rv) (F : Hp) (a : Addr) : Prop where
  e0 : Ex c.F F
  eh : Ex F H
  keep : ∀ b o, c.ext ≠ some b → NT o → c.H b = some o → H b = some o
  new : ∀ b, F b ≠ none → c.F b ≠ none ∨ c.H b = none
  ex : ∀ b, c.ext = some b → a = b ∧ g.fu ≠ none
  ow : g.ow = true → c.ext = none
  src : ∀ n, g.fu = some n → F a = none ∧ (c.ext = some a ∨ (c.ext = none ∧ c.H a = none)) ∧ SrcAt H a n
  tmp : Tm K F a g.fu tv tr
  len : σ.length = g.sl.length
  slot : ∀ (i : Nat) s, g.sl[i]? = some (some s) → ∃ v, σ[i]? = some (some v) ∧ SlOk K F H c a g.fu v s
  dis : ∀ (i j : Nat) ds es, i ≠ j → g.sl[i]? = some (some (.own ds)) → g.sl[j]? = some (some (.own es)) → σ[i]? ≠ σ[j]?
  t0 : TabK K F H
  tab : TbS c.H H
/-- still part and heap have grown -/
structure Gr (F H F' H' : Hp) : Prop where
  f : Ex F F'
  h : Ex H H'
  s : Ex F' H'
  n : ∀ b, F' b ≠ none → F b ≠ none ∨ H b = none
theorem Gr.refl {F H : Hp} (e : Ex F H) : Gr F H F H := ⟨Ex.refl _, Ex.refl _, e, fun _ h => .inl h⟩
theorem ne_none {α : Type} {x : Option α} {o : α} (h : x = some o) : x ≠ none := by rw [h]; exact fun z => nomatch z
theorem Gr.new {F H : Hp} {p : Addr} {o : HO} (e : Ex F H) (hp : H p = none) : Gr F H (upd F p o) (upd H p o) := by
  have fp : F p = none := fresh_back e hp
  refine ⟨Ex.new fp, Ex.new hp, fun b u q => ?_, fun b q => ?_⟩
  · by_cases hb : b = p
    · subst hb; rw [upd_same] at q ⊢; exact q
    · rw [upd_ne hb] at q ⊢; exact e b u q
  · by_cases hb : b = p
    · subst hb; exact .inr hp
    · rw [upd_ne hb] at q; exact .inl q
theorem Gr.trans {F H F1 H1 F2 H2 : Hp} (a : Gr F H F1 H1) (b : Gr F1 H1 F2 H2) : Gr F H F2 H2 :=
  ⟨a.f.trans b.f, a.h.trans b.h, b.s, fun x q => by
    rcases b.n x q with z | z
    · exact a.n x z
    · exact .inr (fresh_back a.h z)⟩
theorem Tm.up {K : Fg} {F F' : Hp} {a : Addr} {fu : Option Nat} (e : Ex F F') : ∀ {tv : List V} {tr : List Rv}, Tm K F a fu tv tr → Tm K F' a fu tv tr
  | _, _, .nil => .nil
  | _, _, .cons (r := r) h t => .cons (h.up e) (t.up e)
section
variable {K : Fg} {c : Con} {g : Gs} {σ : L2.St} {H H' F F' : Hp} {tv : List V} {tr : List Rv} {a : Addr}
/-- an old address is not new -/
theorem Sta.fresh (s : Sta K c g σ H tv tr F a) {b : Addr} (h : H b = none) : c.H b = none := by
  cases q : c.H b with
  | none => rfl
  | some o =>
    by_cases hx : c.ext = some b
    · obtain ⟨e1, e2⟩ := s.ex b hx
      subst e1
      cases hf : g.fu with
      | none => exact absurd hf e2
      | some n =>
        obtain ⟨_, _, x, y, z, e, _⟩ := s.src n hf
        rw [h] at e; cases e
    · cases o with
      | tbl ps =>
        obtain ⟨ps', z⟩ := s.tab b ps q
        rw [h] at z; cases z
      | _ => rw [s.keep b _ hx (fun _ z => by cases z) q] at h; cases h
theorem Sta.tabk (s : Sta K c g σ H tv tr F a) : TabK K F H := s.t0
theorem Sta.growN (s : Sta K c g σ H tv tr F a) (rf : Ex F F') (rh : ∀ b o, NT o → H b = some o → H' b = some o) (rs : Ex F' H') (rn : ∀ b, F' b ≠ none → F b ≠ none ∨ H b = none) (rt : TbS H H') (rk : TabK K F' H') : Sta K c g σ H' tv tr F' a where
  e0 := s.e0.trans rf
  eh := rs
  keep := fun b o h1 hn h2 => rh b o hn (s.keep b o h1 hn h2)
  new := fun b q => by
    rcases rn b q with z | z
    · exact s.new b z
    · exact .inr (s.fresh z)
  ex := s.ex
  ow := s.ow
  src := fun n h => by
    obtain ⟨h1, h2, x, y, z, e, h3⟩ := s.src n h
    refine ⟨?_, h2, x, y, z, rh _ _ (fun _ z => by cases z) e, h3⟩
    cases q : F' a with
    | none => rfl
    | some o =>
      rcases rn a (ne_none q) with z | z
      · exact absurd h1 z
      · rw [e] at z; cases z
  tmp := s.tmp.up rf
  len := s.len
  slot := fun i sv h => by
    obtain ⟨v, h1, h2⟩ := s.slot i sv h
    refine ⟨v, h1, ?_⟩
    cases sv with
    | val d => exact Rp.up h2 rf
    | src => exact h2
    | scr ns => obtain ⟨b, z1, z2⟩ := h2; exact ⟨b, z1, ex_l rf z2⟩
    | ob k => exact ObOk.up rf h2
    | own ds =>
      obtain ⟨o, xs, q1, q2, q3, q4, q5, q6⟩ := h2
      refine ⟨o, xs, q1, ?_, q3, rh _ _ (fun _ z => by cases z) q4, q5.up rf, q6⟩
      cases q : F' o with
      | none => rfl
      | some u =>
        rcases rn o (ne_none q) with z | z
        · exact absurd q2 z
        · rw [q4] at z; cases z
  dis := s.dis
  t0 := rk
  tab := s.tab.trans rt
theorem Sta.grow (s : Sta K c g σ H tv tr F a) (r : Gr F H F' H') : Sta K c g σ H' tv tr F' a := s.growN r.f (fun b o _ h => r.h b o h) r.s r.n (.ex r.h) (s.t0.up r.f (fun b ps h => r.h b _ h) fun b h => (r.n b h).imp id fun z ps e => by rw [z] at e; cases e)
theorem Sta.push (s : Sta K c g σ H tv tr F a) {v : V} {r : Rv} (h : RvOk K F a g.fu v r) : Sta K c g σ H (v :: tv) (r :: tr) F a :=
  ⟨s.e0, s.eh, s.keep, s.new, s.ex, s.ow, s.src, .cons h s.tmp, s.len, s.slot, s.dis, s.t0, s.tab⟩
theorem Sta.pop (s : Sta K c g σ H tv tr F a) {tv' : List V} {tr' : List Rv} (h : Tm K F a g.fu tv' tr') : Sta K c g σ H tv' tr' F a :=
  ⟨s.e0, s.eh, s.keep, s.new, s.ex, s.ow, s.src, h, s.len, s.slot, s.dis, s.t0, s.tab⟩
theorem Sta.pop1 {v : V} {r : Rv} (s : Sta K c g σ H (v :: tv) (r :: tr) F a) : Sta K c g σ H tv tr F a :=
  s.pop (by cases s.tmp with | cons _ t => exact t)
theorem Sta.top {v : V} {r : Rv} (s : Sta K c g σ H (v :: tv) (r :: tr) F a) : RvOk K F a g.fu v r := by
  cases s.tmp with | cons h _ => exact h
end
abbrev DE := Gs → (Rv → Gs → Prop) → Prop
abbrev DL := Gs → (List Da → Gs → Prop) → Prop
abbrev DT := Gs → (Bool → Gs → Prop) → Prop
abbrev DA := Gs → (List Rv → Gs → Prop) → Prop
structure DEnds where
  nx : Gs → Prop
  rt : Rr → Gs → Prop
  bk : Gs → Prop := fun _ => False
  ct : Gs → Prop := fun _ => False
abbrev DS := DEnds → Gs → Prop
def up (K : Fg) (t : DE) : TE := fun σ H Q => ∃ c g tv tr F a post, Sta K c g σ H tv tr F a ∧ t g post ∧
  ∀ r g' v H' F' a', post r g' → Sta K c g' σ H' (v :: tv) (r :: tr) F' a' → Q v H'
def upT (K : Fg) (t : DT) : TT := fun σ H Q => ∃ c g tv tr F a post, Sta K c g σ H tv tr F a ∧ t g post ∧
  ∀ b g' H' F' a', post b g' → Sta K c g' σ H' tv tr F' a' → Q b H'
/-- a new list, at an address of its own -/
structure NewL (K : Fg) (c : Con) (g : Gs) (σ : L2.St) (H F : Hp) (a : Addr) (v : V) (ds : List Da) : Prop where
  ex : ∃ o xs, v = .ref o ∧ F o = none ∧ c.H o = none ∧ H o = some (.lst xs) ∧ Rps K F xs ds ∧ (g.fu ≠ none → o ≠ a) ∧
    ∀ (i : Nat) (es : List Da), g.sl[i]? = some (some (Sv.own es)) → σ[i]? ≠ some (some (V.ref o))
def upL (K : Fg) (t : DL) : TE := fun σ H Q => ∃ c g tv tr F a post, Sta K c g σ H tv tr F a ∧ t g post ∧
  ∀ ds g' v H' F' a', post ds g' → Sta K c g' σ H' tv tr F' a' → NewL K c g' σ H' F' a' v ds → Q v H'
def upA (K : Fg) (t : DA) : TA := fun σ H Q => ∃ c g tv tr F a post, Sta K c g σ H tv tr F a ∧ t g post ∧
  ∀ rs g' vs H' F' a', post rs g' → Sta K c g' σ H' (vs.reverse ++ tv) (rs.reverse ++ tr) F' a' → vs.length = rs.length → Q vs H'
structure DD (K : Fg) (Wx : WX) (c : Con) (tv : List V) (tr : List Rv) (d : DEnds) (D : Ends) : Prop where
  nx : ∀ g σ H F a, d.nx g → Sta K c g σ H tv tr F a → D.nx σ H
  bk : ∀ g σ H F a, d.bk g → Sta K c g σ H tv tr F a → D.bk σ H
  ct : ∀ g σ H F a, d.ct g → Sta K c g σ H tv tr F a → D.ct σ H
  rv : ∀ x g σ v H F a, d.rt (.val x) g → Sta K c g σ H (v :: tv) (.val x :: tr) F a → D.rt v H
  ro : ∀ ds g σ v H F a, d.rt (.own ds) g → Sta K c g σ H tv tr F a → NewL K c { g with sl := [] } [] H F a v ds → D.rt v H
  rx : ∀ nm z g σ H F a cls dd, d.rt (.exc nm z) g → Sta K c g σ H tv tr F a → XvOk K F cls dd nm z → Wx cls dd σ H
def hasSrc : List Rv → Bool
  | [] => false
  | .src :: _ => true
  | _ :: r => hasSrc r
theorem hasSrc_app : ∀ {rs ts : List Rv}, hasSrc rs = false → hasSrc ts = false → hasSrc (rs ++ ts) = false
  | [], _, _, h => h
  | .val _ :: rs, _, h, h' => hasSrc_app (rs := rs) h h'
  | .scr _ :: rs, _, h, h' => hasSrc_app (rs := rs) h h'
  | .ob _ :: rs, _, h, h' => hasSrc_app (rs := rs) h h'
  | .src :: _, _, h, _ => by cases h
def upS (K : Fg) (Wx : WX) (t : DS) : TS := fun D σ H => ∃ c g tv tr F a d, Sta K c g σ H tv tr F a ∧ hasSrc tr = false ∧ t d g ∧ DD K Wx c tv tr d D
section
variable {X : Cx} {e : Expr}
theorem pe_to {t t' : TE} (h : PE X e t) (i : ∀ σ H Q, t' σ H Q → t σ H Q) : PE X e t' := ⟨fun pins s σ H Q I q => h.run pins s σ H Q I (i σ H Q q)⟩
theorem pt_to {t t' : TT} (h : PT X e t) (i : ∀ σ H Q, t' σ H Q → t σ H Q) : PT X e t' := ⟨fun pins s σ H Q I q => h.run pins s σ H Q I (i σ H Q q)⟩
theorem pw_to {t t' : TT} (h : PW X e t) (i : ∀ σ H Q, t' σ H Q → t σ H Q) : PW X e t' := ⟨fun w pins s σ H Q I q => h.run w pins s σ H Q I (i σ H Q q)⟩
theorem pa_to {es : List Expr} {t t' : TA} (h : PA X es t) (i : ∀ σ H Q, t' σ H Q → t σ H Q) : PA X es t' := ⟨fun p pins s σ H Q I q => h.run p pins s σ H Q I (i σ H Q q)⟩
theorem ps_to {st : Stmt} {t t' : TS} (h : PS X st t) (i : ∀ D σ H, t' D σ H → t D σ H) : PS X st t' := ⟨fun pins s σ H D I q => h.run pins s σ H D I (i D σ H q)⟩
theorem pss_to {st : List Stmt} {t t' : TS} (h : PSs X st t) (i : ∀ D σ H, t' D σ H → t D σ H) : PSs X st t' := ⟨fun pins s σ H D I q => h.run pins s σ H D I (i D σ H q)⟩
end
def Gs.set (g : Gs) (i : Nat) (s : Sv) : Gs := { g with sl := g.sl.set i (some s) }
def dVar (i : Nat) : DE := fun g Q => match g.sl[i]? with
  | some (some (.val d)) => Q (.val d) g
  | some (some .src) => Q .src g
  | some (some (.scr ns)) => Q (.scr ns) g
  | some (some (.ob k)) => Q (.ob k) g
  | some (some (.own ds)) => Q (.val (.list ds)) (g.set i (.val (.list ds)))
  | _ => False
def dC (d : Da) : DE := fun g Q => Q (.val d) g
section
variable {K : Fg} {c : Con} {g : Gs} {σ : L2.St} {H H' F F' : Hp} {tv : List V} {tr : List Rv} {a : Addr}
/-- an own list is given away: it stands still from now on -/
theorem Sta.freeze (s : Sta K c g σ H tv tr F a) {i : Nat} {ds : List Da} (h : g.sl[i]? = some (some (.own ds))) :
    ∃ o F', σ[i]? = some (some (.ref o)) ∧ Rp K F' (.ref o) (.list ds) ∧ Sta K c (g.set i (.val (.list ds))) σ H tv tr F' a := by
  obtain ⟨v, h1, o, xs, rfl, q2, q3, q4, q5, q6⟩ := s.slot i _ h
  have ef : Ex F (upd F o (.lst xs)) := Ex.new q2
  have ro : Rp K (upd F o (.lst xs)) (.ref o) (.list ds) := .lst upd_same (q5.up ef)
  have hi : i < g.sl.length := (List.getElem?_eq_some_iff.mp h).1
  refine ⟨o, upd F o (.lst xs), h1, ro, s.e0.trans ef, fun b u q => ?_, s.keep, fun b q => ?_, s.ex, s.ow, fun n hn => ?_, s.tmp.up ef, ?_, fun j sv hj => ?_, fun j k es fs hjk hj hk => ?_, s.t0.lst q4 q2, s.tab⟩
  · by_cases hb : b = o
    · subst hb; rw [upd_same] at q; cases q; exact q4
    · rw [upd_ne hb] at q; exact s.eh b u q
  · by_cases hb : b = o
    · subst hb; exact .inr q3
    · rw [upd_ne hb] at q; exact s.new b q
  · obtain ⟨z1, z2⟩ := s.src n hn
    refine ⟨?_, z2⟩
    rw [upd_ne (fun z => q6 (ne_none hn) z.symm)]; exact z1
  · show σ.length = (g.sl.set i _).length
    rw [List.length_set]; exact s.len
  · by_cases hji : j = i
    · subst hji
      have : (g.sl.set j (some (Sv.val (.list ds))))[j]? = some (some sv) := hj
      rw [List.getElem?_set_self hi] at this
      cases this
      exact ⟨_, h1, ro⟩
    · have : (g.sl.set i (some (Sv.val (.list ds))))[j]? = some (some sv) := hj
      rw [List.getElem?_set_ne (Ne.symm hji)] at this
      obtain ⟨v, w1, w2⟩ := s.slot j sv this
      refine ⟨v, w1, ?_⟩
      cases sv with
      | val d => exact Rp.up w2 ef
      | src => exact w2
      | scr ns => obtain ⟨b, z1, z2⟩ := w2; exact ⟨b, z1, ex_l ef z2⟩
      | ob k => exact ObOk.up ef w2
      | own es =>
        obtain ⟨o', ys, r1, r2, r3, r4, r5, r6⟩ := w2
        have ne : o' ≠ o := fun z => s.dis j i es ds hji this h (by rw [w1, h1, r1, z])
        exact ⟨o', ys, r1, by rw [upd_ne ne]; exact r2, r3, r4, r5.up ef, r6⟩
  · have n1 : j ≠ i := fun z => by
      subst z
      have : (g.sl.set j (some (Sv.val (.list ds))))[j]? = some (some (.own es)) := hj
      rw [List.getElem?_set_self hi] at this; cases this
    have n2 : k ≠ i := fun z => by
      subst z
      have : (g.sl.set k (some (Sv.val (.list ds))))[k]? = some (some (.own fs)) := hk
      rw [List.getElem?_set_self hi] at this; cases this
    have e1 : (g.sl.set i (some (Sv.val (.list ds))))[j]? = some (some (.own es)) := hj
    have e2 : (g.sl.set i (some (Sv.val (.list ds))))[k]? = some (some (.own fs)) := hk
    rw [List.getElem?_set_ne (Ne.symm n1)] at e1
    rw [List.getElem?_set_ne (Ne.symm n2)] at e2
    exact s.dis j k es fs hjk e1 e2
end
section
variable {X : Cx} {e : Expr}
theorem e_var (i : Nat) (h : PE X e (tVar i)) : PE X e (up X.K (dVar i)) := pe_to h fun σ H Q q => by
  obtain ⟨c, g, tv, tr, F, a, post, s, t, k⟩ := q
  unfold dVar at t
  split at t
  · rename_i d hd
    obtain ⟨v, h1, h2⟩ := s.slot i _ hd
    exact ⟨v, h1, k _ g v H F a t (s.push (r := .val d) h2)⟩
  · rename_i hd
    obtain ⟨v, h1, h2⟩ := s.slot i _ hd
    exact ⟨v, h1, k _ g v H F a t (s.push (r := .src) h2)⟩
  · rename_i ns hd
    obtain ⟨v, h1, h2⟩ := s.slot i _ hd
    exact ⟨v, h1, k _ g v H F a t (s.push (r := .scr ns) h2)⟩
  · rename_i kd hd
    obtain ⟨v, h1, h2⟩ := s.slot i _ hd
    exact ⟨v, h1, k _ g v H F a t (s.push (r := .ob kd) h2)⟩
  · rename_i ds hd
    obtain ⟨o, F', h1, h2, s'⟩ := s.freeze hd
    exact ⟨_, h1, k _ _ _ H F' a t (s'.push (r := .val (.list ds)) h2)⟩
  · exact t.elim
/-- anything whose value is plain and the same always -/
theorem e_c {v : V} {d : Da} (h : PE X e (tC v)) (r : ∀ F, Rp X.K F v d) : PE X e (up X.K (dC d)) := pe_to h fun σ H Q q => by
  obtain ⟨c, g, tv, tr, F, a, post, s, t, k⟩ := q
  exact k _ g v H F a t (s.push (r := .val d) (r F))
theorem e_int {i j pos} : PE X (.Constant (.int i) j pos) (up X.K (dC (.int i))) := e_c pe_int fun _ => .int i
theorem e_bl {b j pos} : PE X (.Constant (.bool b) j pos) (up X.K (dC (.bool b))) := e_c pe_bl fun _ => .bl b
theorem e_non {j pos} : PE X (.Constant .none j pos) (up X.K (dC .none)) := e_c pe_non fun _ => .non
theorem e_str {x j pos} : PE X (.Constant (.str x) j pos) (up X.K (dC (.str x))) := e_c pe_str fun _ => .str x
end
end Z
namespace Z
open L2 PySem PySem.Spec PyProof.Rows
open Evl (Ex ex_l ex_t ex_rd fresh_back)
abbrev BinF := Da → Da → (Da → Prop) → Prop
def dBin (f : BinF) (ta tb : DE) : DE := fun g Q => ta g fun x g1 => tb g1 fun y g2 => match x, y with
  | .val d, .val e => f d e fun z => Q (.val z) g2
  | _, _ => False
/-- on values: what r asks follows from f -/
def BinOk (K : Fg) (r : R2) (f : BinF) : Prop := ∀ (F H : Hp) (x y : V) (d e : Da) (post : Da → Prop) (Q : VK), Ex F H → Rp K F x d → Rp K F y e → f d e post →
  (∀ z v H' F', post z → Gr F H F' H' → Rp K F' v z → Q v H') → r x y H Q
section
variable {X : Cx} {a b : Expr} {ta tb : DE} {pos : Pos} {f : BinF} {r : R2}
theorem bin_core (hf : BinOk X.K r f) : ∀ σ H Q, up X.K (dBin f ta tb) σ H Q → tOp r (up X.K ta) (up X.K tb) σ H Q := fun σ H Q q => by
  obtain ⟨c, g, tv, tr, F, ad, post, s, t, k⟩ := q
  refine ⟨c, g, tv, tr, F, ad, _, s, t, fun x g1 v1 H1 F1 a1 t1 s1 => ?_⟩
  refine ⟨c, g1, _, _, F1, a1, _, s1, t1, fun y g2 v2 H2 F2 a2 t2 s2 => ?_⟩
  cases x with
  | val d =>
    cases y with
    | val e =>
      have r1 : Rp X.K F2 v1 d := s2.pop1.top
      have r2 : Rp X.K F2 v2 e := s2.top
      refine hf F2 H2 v1 v2 d e _ Q s2.eh r1 r2 t2 fun z v H' F' hz gr rz => ?_
      exact k _ g2 v H' F' a2 hz ((s2.pop1.pop1.grow gr).push (r := .val z) rz)
    | src => exact t2.elim
    | scr _ => exact t2.elim
    | ob _ => exact t2.elim
  | src => exact t2.elim
  | scr _ => exact t2.elim
  | ob _ => exact t2.elim
theorem e_bin {op : Operator} (ho : OpR X (binaryOp op) r) (hf : BinOk X.K r f) (ha : PE X a (up X.K ta)) (hb : PE X b (up X.K tb)) : PE X (.BinOp a op b pos) (up X.K (dBin f ta tb)) :=
  pe_to (pe_op ho ha hb) (bin_core hf)
theorem e_cmp {op : CmpOp} (ho : OpR X (compareOp op) r) (hf : BinOk X.K r f) (ha : PE X a (up X.K ta)) (hb : PE X b (up X.K tb)) (hm : behindInMarks op b = false) : PE X (.Compare a [op] [b] pos) (up X.K (dBin f ta tb)) :=
  pe_to (pe_cmpR ho ha hb hm) (bin_core hf)
theorem or_op {ff : Value → Value → Sem Value} {r1 r2 : R2} (h1 : OpR X ff r1) (h2 : OpR X ff r2) : OpR X ff (fun x y H Q => r1 x y H Q ∨ r2 x y H Q) := by
  intro pins s σ H x y v u Q I rx ry h
  rcases h with h | h
  · exact h1 pins s σ H x y v u Q I rx ry h
  · exact h2 pins s σ H x y v u Q I rx ry h
end
def fI (C : Int → Int → Prop) (o : Int → Int → Da) : BinF := fun d e post => match d, e with
  | .int i, .int j => C i j ∧ post (o i j)
  | _, _ => False
section
variable {K : Fg}
theorem ok_I {C : Int → Int → Prop} {o : Int → Int → Int} : BinOk K (rI C fun i j => .int (o i j)) (fI C fun i j => .int (o i j)) := fun F H x y d e post Q hx r1 r2 hf k => by
  cases d with
  | int i =>
    cases e with
    | int j =>
      cases r1; cases r2
      exact ⟨i, j, rfl, rfl, hf.1, k _ _ H F hf.2 (Gr.refl hx) (.int _)⟩
    | _ => exact hf.elim
  | _ => exact hf.elim
end
def fI0 (o : Int → Int → Da) : BinF := fun d e post => match d, e with
  | .int i, .int j => post (o i j)
  | _, _ => False
section
variable {K : Fg}
theorem ok_I0 {o : Int → Int → Int} : BinOk K (rI0 fun i j => .int (o i j)) (fI0 fun i j => .int (o i j)) := fun F H x y d e post Q hx r1 r2 hf k => by
  cases d with
  | int i =>
    cases e with
    | int j =>
      cases r1; cases r2
      exact ⟨i, j, rfl, rfl, k _ _ H F hf (Gr.refl hx) (.int _)⟩
    | _ => exact hf.elim
  | _ => exact hf.elim
theorem ok_I0b {o : Int → Int → Bool} : BinOk K (rI0 fun i j => .bl (o i j)) (fI0 fun i j => .bool (o i j)) := fun F H x y d e post Q hx r1 r2 hf k => by
  cases d with
  | int i =>
    cases e with
    | int j =>
      cases r1; cases r2
      exact ⟨i, j, rfl, rfl, k _ _ H F hf (Gr.refl hx) (.bl _)⟩
    | _ => exact hf.elim
  | _ => exact hf.elim
end
def CPowX (i j : Int) : Prop := 0 ≤ j ∧ (Builtin.Int.intBits i : Int) * j ≤ 2 ^ 27
/-- +: ints, texts, tuples, lists -/
def fAdd : BinF := fun d e post => match d, e with
  | .int i, .int j => post (.int (i + j))
  | .str x, .str y => x.length + y.length ≤ sizeLine ∧ post (.str (x ++ y))
  | .tuple xs, .tuple ys => xs ≠ [] ∧ xs.length + ys.length ≤ sizeLine ∧ post (.tuple (xs ++ ys))
  | .list xs, .list ys => xs.length + ys.length ≤ sizeLine ∧ post (.list (xs ++ ys))
  | _, _ => False
section
variable {X : Cx} {a b : Expr} {ta tb : DE} {pos : Pos}
theorem Rps.nil_iff {K : Fg} {F : Hp} {xs : List V} {ds : List Da} (h : Rps K F xs ds) : xs = [] ↔ ds = [] := by
  cases h <;> simp
theorem e_add (ha : PE X a (up X.K ta)) (hb : PE X b (up X.K tb)) : PE X (.BinOp a .Add b pos) (up X.K (dBin fAdd ta tb)) := by
  refine e_bin (or_op op_add (or_op op_add_str (or_op op_catT op_cat))) ?_ ha hb
  intro F H x y d e post Q hx r1 r2 hf k
  cases d with
  | int i =>
    cases e with
    | int j =>
      cases r1; cases r2
      exact .inl ⟨i, j, rfl, rfl, k _ _ H F hf (Gr.refl hx) (.int _)⟩
    | _ => exact hf.elim
  | str u =>
    cases e with
    | str w =>
      cases r1; cases r2
      exact .inr (.inl ⟨u, w, rfl, rfl, hf.1, k _ _ H F hf.2 (Gr.refl hx) (.str _)⟩)
    | _ => exact hf.elim
  | tuple ds =>
    cases e with
    | tuple es =>
      cases r1 with
      | tup s1 m1 =>
        cases r2 with
        | tup s2 m2 =>
          rename_i p1 xs p2 ys
          obtain ⟨h1, h2, h3⟩ := hf
          refine .inr (.inr (.inl ⟨p1, p2, xs, ys, rfl, rfl, ex_t hx s1, ex_t hx s2, fun z => h1 (m1.nil_iff.mp z), by rw [m1.len, m2.len]; exact h2, fun z => ?_, fun z p hp => ?_⟩))
          · have : es = [] := m2.nil_iff.mp z
            subst this
            rw [List.append_nil] at h3
            exact k _ _ H F h3 (Gr.refl hx) (.tup s1 m1)
          · have gr := Gr.new (o := .tup (xs ++ ys)) hx hp
            exact k _ _ _ _ h3 gr (.tup (.inl (.inl upd_same)) ((m1.up gr.f).app (m2.up gr.f)))
    | _ => exact hf.elim
  | list ds =>
    cases e with
    | list es =>
      cases r1 with
      | lst s1 m1 =>
        cases r2 with
        | lst s2 m2 =>
          rename_i p1 xs p2 ys
          obtain ⟨h2, h3⟩ := hf
          refine .inr (.inr (.inr ⟨p1, p2, xs, ys, rfl, rfl, hx _ _ s1, hx _ _ s2, by rw [m1.len, m2.len]; exact h2, fun p hp => ?_⟩))
          have gr := Gr.new (o := .lst (xs ++ ys)) hx hp
          exact k _ _ _ _ h3 gr (.lst upd_same ((m1.up gr.f).app (m2.up gr.f)))
    | _ => exact hf.elim
  | _ => exact hf.elim
theorem e_sub (ha : PE X a (up X.K ta)) (hb : PE X b (up X.K tb)) : PE X (.BinOp a .Sub b pos) (up X.K (dBin (fI0 fun i j => .int (i - j)) ta tb)) := e_bin op_sub ok_I0 ha hb
theorem e_mul (ha : PE X a (up X.K ta)) (hb : PE X b (up X.K tb)) : PE X (.BinOp a .Mult b pos) (up X.K (dBin (fI CMulX fun i j => .int (i * j)) ta tb)) := e_bin op_mulX ok_I ha hb
theorem e_div (ha : PE X a (up X.K ta)) (hb : PE X b (up X.K tb)) : PE X (.BinOp a .FloorDiv b pos) (up X.K (dBin (fI CDivW fun i j => .int (i / j)) ta tb)) := e_bin op_fdivW ok_I ha hb
theorem e_mod (ha : PE X a (up X.K ta)) (hb : PE X b (up X.K tb)) : PE X (.BinOp a .Mod b pos) (up X.K (dBin (fI (fun _ j => 0 < j) fun i j => .int (i % j)) ta tb)) := e_bin op_mod ok_I ha hb
theorem e_shl (ha : PE X a (up X.K ta)) (hb : PE X b (up X.K tb)) : PE X (.BinOp a .LShift b pos) (up X.K (dBin (fI CShl fun i j => .int (i * 2 ^ j.toNat)) ta tb)) := e_bin op_shlW ok_I ha hb
theorem op_powX : OpR X (binaryOp .Pow) (rI CPowX fun i j => .int (i ^ j.toNat)) := opI fun _ _ _ _ _ _ _ hc q => pow_int hc.1 hc.2 q
theorem e_pow (ha : PE X a (up X.K ta)) (hb : PE X b (up X.K tb)) : PE X (.BinOp a .Pow b pos) (up X.K (dBin (fI CPowX fun i j => .int (i ^ j.toNat)) ta tb)) := e_bin op_powX ok_I ha hb
theorem e_le (ha : PE X a (up X.K ta)) (hb : PE X b (up X.K tb)) : PE X (.Compare a [.LtE] [b] pos) (up X.K (dBin (fI0 fun i j => .bool (decide (i ≤ j))) ta tb)) := e_cmp op_le ok_I0b ha hb (nomark _)
theorem e_ge (ha : PE X a (up X.K ta)) (hb : PE X b (up X.K tb)) : PE X (.Compare a [.GtE] [b] pos) (up X.K (dBin (fI0 fun i j => .bool (decide (j ≤ i))) ta tb)) := e_cmp op_ge ok_I0b ha hb (nomark _)
end
section
variable {K : Fg} {F H : Hp}
mutual
theorem Rp.dp (e : Ex F H) : ∀ (d : Da) (v : V), Rp K F v d → d.canLay0 = true → Dp K H v d
  | .none, _, h, _ => by cases h; exact .non
  | .bool b, _, h, _ => by cases h; exact .bl b
  | .int i, _, h, _ => by cases h; exact .int i
  | .str x, _, h, _ => by cases h; exact .str x
  | .list ds, _, h, q => by cases h with | lst hs ha => exact .lst (.inl (.inl (e _ _ hs))) (Rps.dp e ds _ ha (by simpa [PyData.canLay0] using q))
  | .tuple ds, _, h, q => by cases h with | tup hs ha => exact .tup (ex_t e hs) (Rps.dp e ds _ ha (by simpa [PyData.canLay0] using q))
  | .dict es, _, h, q => by simp [PyData.canLay0] at q
theorem Rps.dp (e : Ex F H) : ∀ (ds : List Da) (vs : List V), Rps K F vs ds → PyData.canLayAll0 ds = true → DpAll K H vs ds
  | [], _, h, _ => by cases h; exact .nil
  | d :: ds, _, h, q => by
    cases h with
    | cons h1 h2 =>
      have q' : d.canLay0 = true ∧ PyData.canLayAll0 ds = true := by simpa [PyData.canLayAll0] using q
      exact .cons (Rp.dp e d _ h1 q'.1) (Rps.dp e ds _ h2 q'.2)
end
end
def fEq : BinF := fun d e post => SeqAt.shaped d = true ∧ SeqAt.shaped e = true ∧ post (.bool (d.eqv e))
def fNe : BinF := fun d e post => SeqAt.shaped d = true ∧ SeqAt.shaped e = true ∧ post (.bool (!d.eqv e))
theorem shaped_lay {d : Da} (h : SeqAt.shaped d = true) : d.canLay0 = true := by
  unfold SeqAt.shaped at h
  rw [Bool.and_eq_true] at h
  exact h.1
section
variable {X : Cx} {a b : Expr} {ta tb : DE} {pos : Pos}
theorem e_eq (hu : X.A.units + 64 < cLine) (ha : PE X a (up X.K ta)) (hb : PE X b (up X.K tb)) : PE X (.Compare a [.Eq] [b] pos) (up X.K (dBin fEq ta tb)) :=
  e_cmp (op_eqD hu) (fun F H x y d e post Q hx r1 r2 hf k => ⟨d, e, r1.dp hx d x (shaped_lay hf.1), r2.dp hx e y (shaped_lay hf.2.1), hf.1, hf.2.1, k _ _ H F hf.2.2 (Gr.refl hx) (.bl _)⟩) ha hb (nomark _)
end
def flatD : Da → Bool
  | .none => true
  | .bool _ => true
  | .int _ => true
  | .str _ => true
  | _ => false
def inD (d : Da) (es : List Da) : Bool := es.any fun y => y.eqv d
def fIn (neg : Bool) : BinF := fun d e post => match e with
  | .tuple es => flatD d = true ∧ es.all flatD = true ∧ post (.bool (if neg then !inD d es else inD d es))
  | .list es => flatD d = true ∧ es.all flatD = true ∧ post (.bool (if neg then !inD d es else inD d es))
  | _ => False
section
variable {K : Fg} {F H : Hp}
theorem flat_v {v : V} {d : Da} (r : Rp K F v d) (h : flatD d = true) : flatV v = true := by
  cases r <;> first | rfl | exact absurd (show false = true from h) Bool.false_ne_true
theorem eqv_v {v w : V} {d e : Da} (r : Rp K F v d) (q : Rp K F w e) (h : flatD d = true) (h' : flatD e = true) : eqV v w = d.eqv e := by
  cases r <;> first | exact absurd (show false = true from h) Bool.false_ne_true | (cases q <;> first | exact absurd (show false = true from h') Bool.false_ne_true | (simp [eqV, PyData.eqv]))
theorem flat_vs : ∀ {vs : List V} {ds : List Da}, Rps K F vs ds → ds.all flatD = true → vs.all flatV = true
  | _, _, .nil, _ => rfl
  | _, _, .cons r t, h => by
    rw [List.all_cons, Bool.and_eq_true] at h ⊢
    exact ⟨flat_v r h.1, flat_vs t h.2⟩
theorem in_v {x : V} {d : Da} (r : Rp K F x d) (hd : flatD d = true) : ∀ {vs : List V} {ds : List Da}, Rps K F vs ds → ds.all flatD = true → inV x vs = inD d ds
  | _, _, .nil, _ => rfl
  | _, _, .cons q t, h => by
    rw [List.all_cons, Bool.and_eq_true] at h
    have ih := in_v r hd t h.2
    unfold inV inD at ih ⊢
    rw [List.any_cons, List.any_cons, ih, eqv_v q r h.1 hd]
theorem ok_in {neg : Bool} : BinOk K (rIn K neg) (fIn neg) := fun F H x y d e post Q hx r1 r2 hf k => by
  cases e with
  | tuple es =>
    cases r2 with
    | tup s1 m1 =>
      obtain ⟨h1, h2, h3⟩ := hf
      refine ⟨_, _, rfl, .inr (ex_t hx s1), flat_v r1 h1, flat_vs m1 h2, ?_⟩
      rw [in_v r1 h1 m1 h2]
      exact k _ _ H F h3 (Gr.refl hx) (.bl _)
  | list es =>
    cases r2 with
    | lst s1 m1 =>
      obtain ⟨h1, h2, h3⟩ := hf
      refine ⟨_, _, rfl, .inl (.inl (.inl (hx _ _ s1))), flat_v r1 h1, flat_vs m1 h2, ?_⟩
      rw [in_v r1 h1 m1 h2]
      exact k _ _ H F h3 (Gr.refl hx) (.bl _)
  | _ => exact hf.elim
end
section
variable {X : Cx} {a b : Expr} {ta tb : DE} {pos : Pos}
theorem e_in (ha : PE X a (up X.K ta)) (hb : PE X b (up X.K tb)) (hm : behindInMarks .In b = false := by rfl) : PE X (.Compare a [.In] [b] pos) (up X.K (dBin (fIn false) ta tb)) := e_cmp op_in_seq ok_in ha hb hm
end
end Z
namespace Z
open L2 PySem PySem.Spec PyProof.Rows
open Evl (Ex ex_l ex_t ex_rd fresh_back)
def dTest (t : DE) : DT := fun g Q => t g fun r g1 => match r with
  | .val (.bool b) => Q b g1
  | _ => False
def dAndT (ta tb : DT) : DT := fun g Q => ta g fun b g1 => (b = true → tb g1 Q) ∧ (b = false → Q false g1)
def dOrT (ta tb : DT) : DT := fun g Q => ta g fun b g1 => (b = true → Q true g1) ∧ (b = false → tb g1 Q)
def dNotT (ta : DT) : DT := fun g Q => ta g fun b g1 => Q (!b) g1
def dAndV (ta tb : DE) : DE := fun g Q => ta g fun r g1 => match r with
  | .val (.bool b) => (b = true → tb g1 Q) ∧ (b = false → Q (.val (.bool false)) g1)
  | _ => False
def dNotV (ta : DE) : DE := fun g Q => ta g fun r g1 => match r with
  | .val (.bool b) => Q (.val (.bool (!b))) g1
  | _ => False
def dIf (t : DT) (ta tb : DE) : DE := fun g Q => t g fun b g1 => (b = true → ta g1 Q) ∧ (b = false → tb g1 Q)
section
variable {K : Fg} {F : Hp} {a : Addr} {fu : Option Nat} {v : V}
theorem RvOk.bl {r : Rv} (h : RvOk K F a fu v r) {b : Bool} (e : r = .val (.bool b)) : v = .bl b := by
  subst e
  have h' : Rp K F v (.bool b) := h
  cases h'; rfl
end
section
variable {X : Cx} {a b c e : Expr} {ta tb t : DE} {sa sb : DT} {pos : Pos} {rest : List Expr}
theorem t_val (h : PE X e (up X.K t)) (hw : ∀ whole : Sem Value, isTrue e X.env whole = (do
    let v ← whole
    standAt e.pos
    holding [v] (truthy v)) := by intro _; rfl) : PT X e (upT X.K (dTest t)) := pt_to (pt_val h hw) fun σ H Q q => by
  obtain ⟨c, g, tv, tr, F, ad, post, s, t1, k⟩ := q
  refine ⟨c, g, tv, tr, F, ad, _, s, t1, fun r g1 v1 H1 F1 a1 h1 s1 => ?_⟩
  cases r with
  | val d =>
    cases d with
    | bool b => exact ⟨b, s1.top.bl rfl, k b g1 H1 F1 a1 h1 s1.pop1⟩
    | _ => exact h1.elim
  | _ => exact h1.elim
theorem w_and (h1 : PT X a (upT X.K sa)) (h2 : PW X (.BoolOp .And (b :: rest) pos) (upT X.K sb)) : PW X (.BoolOp .And (a :: b :: rest) pos) (upT X.K (dAndT sa sb)) := pw_to (pw_and h1 h2) fun σ H Q q => by
  obtain ⟨c, g, tv, tr, F, ad, post, s, t1, k⟩ := q
  refine ⟨c, g, tv, tr, F, ad, _, s, t1, fun b g1 H1 F1 a1 h1 s1 => ?_⟩
  cases b with
  | true => rw [if_pos rfl]; exact ⟨c, g1, tv, tr, F1, a1, _, s1, h1.1 rfl, k⟩
  | false => rw [if_neg Bool.false_ne_true]; exact k false g1 H1 F1 a1 (h1.2 rfl) s1
theorem w_and1 (h1 : PT X a (upT X.K sa)) : PW X (.BoolOp .And [a] pos) (upT X.K sa) := pw_and1 h1
theorem w_or (h1 : PT X a (upT X.K sa)) (h2 : PW X (.BoolOp .Or (b :: rest) pos) (upT X.K sb)) : PW X (.BoolOp .Or (a :: b :: rest) pos) (upT X.K (dOrT sa sb)) := pw_to (pw_or h1 h2) fun σ H Q q => by
  obtain ⟨c, g, tv, tr, F, ad, post, s, t1, k⟩ := q
  refine ⟨c, g, tv, tr, F, ad, _, s, t1, fun b g1 H1 F1 a1 h1 s1 => ?_⟩
  cases b with
  | true => rw [if_pos rfl]; exact k true g1 H1 F1 a1 (h1.1 rfl) s1
  | false => rw [if_neg Bool.false_ne_true]; exact ⟨c, g1, tv, tr, F1, a1, _, s1, h1.2 rfl, k⟩
theorem w_or1 (h1 : PT X a (upT X.K sa)) : PW X (.BoolOp .Or [a] pos) (upT X.K sa) := pw_or1 h1
theorem t_not (h1 : PT X a (upT X.K sa)) : PT X (.UnaryOp .Not a pos) (upT X.K (dNotT sa)) := pt_to (pt_not h1) fun σ H Q q => by
  obtain ⟨c, g, tv, tr, F, ad, post, s, t1, k⟩ := q
  exact ⟨c, g, tv, tr, F, ad, _, s, t1, fun b g1 H1 F1 a1 h1 s1 => k _ g1 H1 F1 a1 h1 s1⟩
theorem e_and (h1 : PE X a (up X.K ta)) (h2 : PE X (.BoolOp .And (b :: rest) pos) (up X.K tb)) : PE X (.BoolOp .And (a :: b :: rest) pos) (up X.K (dAndV ta tb)) := pe_to (pe_and h1 h2) fun σ H Q q => by
  obtain ⟨c, g, tv, tr, F, ad, post, s, t1, k⟩ := q
  refine ⟨c, g, tv, tr, F, ad, _, s, t1, fun r g1 v1 H1 F1 a1 h1 s1 => ?_⟩
  cases r with
  | val d =>
    cases d with
    | bool b =>
      refine ⟨b, s1.top.bl rfl, ?_⟩
      cases b with
      | true => rw [if_pos rfl]; exact ⟨c, g1, tv, tr, F1, a1, _, s1.pop1, h1.1 rfl, k⟩
      | false => rw [if_neg Bool.false_ne_true]; exact k _ g1 _ H1 F1 a1 (h1.2 rfl) (s1.pop1.push (r := .val (.bool false)) (Rp.bl false))
    | _ => exact h1.elim
  | _ => exact h1.elim
theorem e_one {op : BoolOp} (h1 : PE X a (up X.K ta)) : PE X (.BoolOp op [a] pos) (up X.K ta) := pe_one h1
theorem e_not (h1 : PE X a (up X.K ta)) : PE X (.UnaryOp .Not a pos) (up X.K (dNotV ta)) := pe_to (pe_not h1) fun σ H Q q => by
  obtain ⟨c, g, tv, tr, F, ad, post, s, t1, k⟩ := q
  refine ⟨c, g, tv, tr, F, ad, _, s, t1, fun r g1 v1 H1 F1 a1 h1 s1 => ?_⟩
  cases r with
  | val d =>
    cases d with
    | bool b => exact ⟨b, s1.top.bl rfl, k _ g1 _ H1 F1 a1 h1 (s1.pop1.push (r := .val (.bool (!b))) (Rp.bl (!b)))⟩
    | _ => exact h1.elim
  | _ => exact h1.elim
theorem e_if (h : PT X c (upT X.K sa)) (h1 : PE X a (up X.K ta)) (h2 : PE X b (up X.K tb)) : PE X (.IfExp c a b pos) (up X.K (dIf sa ta tb)) := pe_to (pe_ifExp h h1 h2) fun σ H Q q => by
  obtain ⟨c, g, tv, tr, F, ad, post, s, t1, k⟩ := q
  refine ⟨c, g, tv, tr, F, ad, _, s, t1, fun b g1 H1 F1 a1 h1 s1 => ?_⟩
  cases b with
  | true => rw [if_pos rfl]; exact ⟨c, g1, tv, tr, F1, a1, _, s1, h1.1 rfl, k⟩
  | false => rw [if_neg Bool.false_ne_true]; exact ⟨c, g1, tv, tr, F1, a1, _, s1, h1.2 rfl, k⟩
/-- -a -/
def dNeg (ta : DE) : DE := fun g Q => ta g fun r g1 => match r with
  | .val (.int i) => Q (.val (.int (-i))) g1
  | _ => False
theorem e_neg (h1 : PE X a (up X.K ta)) : PE X (.UnaryOp .USub a pos) (up X.K (dNeg ta)) := pe_to (pe_un un_neg h1) fun σ H Q q => by
  obtain ⟨c, g, tv, tr, F, ad, post, s, t1, k⟩ := q
  refine ⟨c, g, tv, tr, F, ad, _, s, t1, fun r g1 v1 H1 F1 a1 h1 s1 => ?_⟩
  cases r with
  | val d =>
    cases d with
    | int i =>
      have hr : Rp X.K F1 v1 (.int i) := s1.top
      cases hr
      exact ⟨i, rfl, k _ g1 _ H1 F1 a1 h1 (s1.pop1.push (r := .val (.int (-i))) (Rp.int (-i)))⟩
    | _ => exact h1.elim
  | _ => exact h1.elim
/-- x is None, x is not None -/
def isNon : Da → Bool
  | .none => true
  | _ => false
def dIsN (neg : Bool) (ta : DE) : DE := fun g Q => ta g fun r g1 => match r with
  | .val d => Q (.val (.bool (if neg then !isNon d else isNon d))) g1
  | _ => False
theorem non_v {K : Fg} {F : Hp} {v : V} {d : Da} (h : Rp K F v d) : decide (v = .non) = isNon d := by
  cases h <;> simp [isNon]
/-- a < b < c -/
def dChain (f f' : BinF) (ta tb tc : DE) : DE := fun g Q => ta g fun x g1 => tb g1 fun y g2 => match x, y with
  | .val d, .val e => f d e fun z => match z with
    | .bool true => tc g2 fun w g3 => match w with
      | .val h => f' e h fun z' => Q (.val z') g3
      | _ => False
    | .bool false => Q (.val (.bool false)) g2
    | _ => False
  | _, _ => False
end
end Z
namespace Z
open L2 PySem PySem.Spec PyProof.Rows
open Evl (Ex ex_l ex_t ex_rd fresh_back)
section
variable {X : Cx} {a b c e : Expr} {ta tb tc t : DE} {pos : Pos}
theorem chain_core {r r' : R2} {f f' : BinF} (hf : BinOk X.K r f) (hf' : BinOk X.K r' f') {σ : L2.St} {H : Hp} {Q : VK} (q : up X.K (dChain f f' ta tb tc) σ H Q) : tChain r r' (up X.K ta) (up X.K tb) (up X.K tc) σ H Q := by
  obtain ⟨c, g, tv, tr, F, ad, post, s, t, k⟩ := q
  refine ⟨c, g, tv, tr, F, ad, _, s, t, fun x g1 v1 H1 F1 a1 t1 s1 => ?_⟩
  refine ⟨c, g1, _, _, F1, a1, _, s1, t1, fun y g2 v2 H2 F2 a2 t2 s2 => ?_⟩
  cases x with
  | val d =>
    cases y with
    | val e =>
      have r1 : Rp X.K F2 v1 d := s2.pop1.top
      have r2 : Rp X.K F2 v2 e := s2.top
      refine hf F2 H2 v1 v2 d e _ _ s2.eh r1 r2 t2 fun z v H3 F3 hz gr rz => ?_
      cases z with
      | bool k1 =>
        cases rz
        have s3 := s2.grow gr
        refine ⟨k1, rfl, ?_⟩
        cases k1 with
        | true =>
          rw [if_pos rfl]
          refine ⟨c, g2, _, _, F3, a2, _, s3, hz, fun w g4 v4 H4 F4 a4 t4 s4 => ?_⟩
          cases w with
          | val h =>
            have q2 : Rp X.K F4 v2 e := s4.pop1.top
            have q4 : Rp X.K F4 v4 h := s4.top
            exact hf' F4 H4 v2 v4 e h _ _ s4.eh q2 q4 t4 fun z' v' H5 F5 hz' gr' rz' => k _ g4 v' H5 F5 a4 hz' ((s4.pop1.pop1.pop1.grow gr').push (r := .val z') rz')
          | _ => exact t4.elim
        | false =>
          rw [if_neg Bool.false_ne_true]
          exact k _ g2 _ H3 F3 a2 hz (s3.pop1.pop1.push (r := .val (.bool false)) (Rp.bl false))
      | _ => exact hz.elim
    | _ => exact t2.elim
  | _ => exact t2.elim
theorem e_chain {op op' : CmpOp} {r r' : R2} {f f' : BinF} (ho : OpR X (compareOp op) r) (ho' : OpR X (compareOp op') r') (hf : BinOk X.K r f) (hf' : BinOk X.K r' f') (ha : PE X a (up X.K ta)) (hb : PE X b (up X.K tb)) (hc : PE X c (up X.K tc))
    (hm : lastMarks [op, op'] [b, c] = false := by with_unfolding_all rfl) : PE X (.Compare a [op, op'] [b, c] pos) (up X.K (dChain f f' ta tb tc)) := pe_to (pe_chain ho ho' ha hb hc hm) fun _ _ _ q => chain_core hf hf' q
theorem e_lele (ha : PE X a (up X.K ta)) (hb : PE X b (up X.K tb)) (hc : PE X c (up X.K tc)) (hm : lastMarks [.LtE, .LtE] [b, c] = false := by with_unfolding_all rfl) :
    PE X (.Compare a [.LtE, .LtE] [b, c] pos) (up X.K (dChain (fI0 fun i j => .bool (decide (i ≤ j))) (fI0 fun i j => .bool (decide (i ≤ j))) ta tb tc)) := e_chain op_le op_le ok_I0b ok_I0b ha hb hc hm
end
def dNil : DA := fun g Q => Q [] g
def dCons (te : DE) (tr : DA) : DA := fun g Q => te g fun x g1 => tr g1 fun xs g2 => Q (x :: xs) g2
section
variable {K : Fg} {F : Hp} {a : Addr} {fu : Option Nat}
theorem Tm.app : ∀ {xs ys : List V} {rs ts : List Rv}, Tm K F a fu xs rs → Tm K F a fu ys ts → Tm K F a fu (xs ++ ys) (rs ++ ts)
  | _, _, _, _, .nil, s => s
  | _, _, _, _, .cons r t, s => .cons r (t.app s)
theorem Tm.rev : ∀ {xs : List V} {rs : List Rv}, Tm K F a fu xs rs → Tm K F a fu xs.reverse rs.reverse
  | _, _, .nil => .nil
  | _, _, .cons r t => by
    rw [List.reverse_cons, List.reverse_cons]
    exact t.rev.app (.cons r .nil)
theorem Tm.split : ∀ {xs ys : List V} {rs ts : List Rv}, xs.length = rs.length → Tm K F a fu (xs ++ ys) (rs ++ ts) → Tm K F a fu xs rs ∧ Tm K F a fu ys ts
  | [], _, [], _, _, h => ⟨.nil, h⟩
  | [], _, _ :: _, _, e, _ => by simp at e
  | _ :: _, _, [], _, e, _ => by simp at e
  | x :: xs, ys, r :: rs, ts, e, h => by
    have h' : Tm K F a fu (x :: (xs ++ ys)) (r :: (rs ++ ts)) := h
    cases h' with
    | cons h1 h2 =>
      obtain ⟨q1, q2⟩ := Tm.split (by simpa using e) h2
      exact ⟨.cons h1 q1, q2⟩
theorem Tm.args {vs tv : List V} {rs tr : List Rv} (h : Tm K F a fu (vs.reverse ++ tv) (rs.reverse ++ tr)) (e : vs.length = rs.length) : Tm K F a fu vs rs ∧ Tm K F a fu tv tr := by
  obtain ⟨h1, h2⟩ := Tm.split (by simpa using e) h
  have := h1.rev
  rw [List.reverse_reverse, List.reverse_reverse] at this
  exact ⟨this, h2⟩
end
def valsD : List Rv → Option (List Da)
  | [] => some []
  | .val d :: rs => (valsD rs).map (d :: ·)
  | _ :: _ => none
theorem Tm.vals {K : Fg} {F : Hp} {a : Addr} {fu : Option Nat} : ∀ {vs : List V} {rs : List Rv} {ds : List Da}, Tm K F a fu vs rs → valsD rs = some ds → Rps K F vs ds
  | _, _, _, .nil, e => by cases e; exact .nil
  | _, .val d :: rs, ds, .cons h t, e => by
    unfold valsD at e
    cases q : valsD rs with
    | none => rw [q] at e; cases e
    | some es =>
      rw [q] at e
      cases e
      exact .cons h (t.vals q)
  | _, .src :: rs, ds, .cons h t, e => by cases e
  | _, .scr _ :: rs, ds, .cons h t, e => by cases e
  | _, .ob _ :: rs, ds, .cons h t, e => by cases e
def dTup (ta : DA) : DE := fun g Q => ta g fun rs g1 => match valsD rs with
  | some ds => ds.length ≤ 1000000 ∧ Q (.val (.tuple ds)) g1
  | none => False
def dLst (ta : DA) : DL := fun g Q => ta g fun rs g1 => match valsD rs with
  | some ds => ds.length ≤ 1000000 ∧ Q ds g1
  | none => False
def dFz (t : DL) : DE := fun g Q => t g fun ds g1 => Q (.val (.list ds)) g1
theorem mil {n : Nat} (h : n ≤ 1000000) : n ≤ sizeLine := Nat.le_trans h (by decide)
section
variable {K : Fg} {c : Con} {g : Gs} {σ : L2.St} {H F : Hp} {tv : List V} {tr : List Rv} {a : Addr}
/-- the new list stands still from now on -/
theorem Sta.still (s : Sta K c g σ H tv tr F a) {v : V} {ds : List Da} (h : NewL K c g σ H F a v ds) : ∃ F', Sta K c g σ H (v :: tv) (.val (.list ds) :: tr) F' a := by
  obtain ⟨o, xs, rfl, q2, q3, q4, q5, q6, q7⟩ := h.ex
  have ef : Ex F (upd F o (.lst xs)) := Ex.new q2
  have ro : Rp K (upd F o (.lst xs)) (.ref o) (.list ds) := .lst upd_same (q5.up ef)
  refine ⟨upd F o (.lst xs), s.e0.trans ef, fun b u q => ?_, s.keep, fun b q => ?_, s.ex, s.ow, fun n hn => ?_, .cons ro (s.tmp.up ef), s.len, fun j sv hj => ?_, s.dis, s.t0.lst q4 q2, s.tab⟩
  · by_cases hb : b = o
    · subst hb; rw [upd_same] at q; cases q; exact q4
    · rw [upd_ne hb] at q; exact s.eh b u q
  · by_cases hb : b = o
    · subst hb; exact .inr q3
    · rw [upd_ne hb] at q; exact s.new b q
  · obtain ⟨z1, z2⟩ := s.src n hn
    refine ⟨?_, z2⟩
    rw [upd_ne (fun z => q6 (ne_none hn) z.symm)]; exact z1
  · obtain ⟨v, w1, w2⟩ := s.slot j sv hj
    refine ⟨v, w1, ?_⟩
    cases sv with
    | val d => exact Rp.up w2 ef
    | src => exact w2
    | scr ns => obtain ⟨b, z1, z2⟩ := w2; exact ⟨b, z1, ex_l ef z2⟩
    | ob k => exact ObOk.up ef w2
    | own es =>
      obtain ⟨o', ys, r1, r2, r3, r4, r5, r6⟩ := w2
      have ne : o' ≠ o := fun z => q7 j es hj (by rw [w1, r1, z])
      exact ⟨o', ys, r1, by rw [upd_ne ne]; exact r2, r3, r4, r5.up ef, r6⟩
/-- a list laid at a free address -/
theorem Sta.laid (s : Sta K c g σ H tv tr F a) {p : Addr} (hp : H p = none) {xs : List V} {ds : List Da} (m : Rps K F xs ds) : Sta K c g σ (upd H p (.lst xs)) tv tr F a ∧ NewL K c g σ (upd H p (.lst xs)) F a (.ref p) ds := by
  have fp : F p = none := fresh_back s.eh hp
  have eH : Ex H (upd H p (.lst xs)) := Ex.new hp
  refine ⟨s.grow ⟨Ex.refl _, eH, s.eh.trans eH, fun b h => .inl h⟩, ⟨p, xs, rfl, fp, s.fresh hp, upd_same, m, fun hf z => ?_, fun i es hi z => ?_⟩⟩
  · cases q : g.fu with
    | none => exact hf q
    | some n =>
      obtain ⟨_, _, x, y, w, e, _⟩ := s.src n q
      rw [← z, hp] at e; cases e
  · obtain ⟨v, w1, o, ys, r1, r2, r3, r4, _⟩ := s.slot i _ hi
    rw [z] at w1
    cases w1
    cases r1
    rw [hp] at r4; cases r4
end
section
variable {X : Cx} {e : Expr} {es : List Expr} {te : DE} {tr : DA} {tl : DL} {pos : Pos}
theorem a_nil : PA X [] (upA X.K dNil) := pa_to pa_nil fun σ H Q q => by
  obtain ⟨c, g, tv, tr, F, ad, post, s, t, k⟩ := q
  exact k [] g [] H F ad t s rfl
theorem a_cons (h : PE X e (up X.K te)) (hr : PA X es (upA X.K tr)) (hs : starEach (e :: es) X.env = (false, eval e X.env) :: starEach es X.env := by rfl) : PA X (e :: es) (upA X.K (dCons te tr)) := pa_to (pa_cons h hr hs) fun σ H Q q => by
  obtain ⟨c, g, tv, tr, F, ad, post, s, t, k⟩ := q
  refine ⟨c, g, tv, tr, F, ad, _, s, t, fun x g1 v1 H1 F1 a1 t1 s1 => ?_⟩
  refine ⟨c, g1, _, _, F1, a1, _, s1, t1, fun xs g2 vs H2 F2 a2 t2 s2 hl => ?_⟩
  refine k (x :: xs) g2 (v1 :: vs) H2 F2 a2 t2 ?_ (by simp [hl])
  rw [List.reverse_cons, List.reverse_cons, List.append_assoc, List.append_assoc]
  exact s2
theorem e_tup {x1 : Nat} (h : PA X es (upA X.K tr)) : PE X (.Tuple es x1 pos) (up X.K (dTup tr)) := pe_to (pe_tup h) fun σ H Q q => by
  obtain ⟨c, g, tv, tr, F, ad, post, s, t, k⟩ := q
  refine ⟨c, g, tv, tr, F, ad, _, s, t, fun rs g1 vs H1 F1 a1 t1 s1 hl => ?_⟩
  cases q : valsD rs with
  | none => rw [q] at t1; exact t1.elim
  | some ds =>
    rw [q] at t1
    obtain ⟨m1, m2⟩ := s1.tmp.args hl
    have hv := m1.vals q
    refine ⟨by rw [hv.len]; exact mil t1.1, fun p hp => ?_⟩
    have gr := Gr.new (o := .tup vs) s1.eh hp
    exact k _ g1 _ _ _ a1 t1.2 (((s1.pop m2).grow gr).push (r := .val (.tuple ds)) (.tup (.inl (.inl upd_same)) (hv.up gr.f)))
theorem e_lstL (h : PA X es (upA X.K tr)) : PE X (.List es pos) (upL X.K (dLst tr)) := pe_to (pe_lst h) fun σ H Q q => by
  obtain ⟨c, g, tv, tr, F, ad, post, s, t, k⟩ := q
  refine ⟨c, g, tv, tr, F, ad, _, s, t, fun rs g1 vs H1 F1 a1 t1 s1 hl => ?_⟩
  cases q : valsD rs with
  | none => rw [q] at t1; exact t1.elim
  | some ds =>
    rw [q] at t1
    obtain ⟨m1, m2⟩ := s1.tmp.args hl
    have hv := m1.vals q
    refine ⟨by rw [hv.len]; exact mil t1.1, fun p hp => ?_⟩
    obtain ⟨s2, n2⟩ := (s1.pop m2).laid hp hv
    exact k ds g1 _ _ F1 a1 t1.2 s2 n2
theorem e_fz (h : PE X e (upL X.K tl)) : PE X e (up X.K (dFz tl)) := pe_to h fun σ H Q q => by
  obtain ⟨c, g, tv, tr, F, ad, post, s, t, k⟩ := q
  refine ⟨c, g, tv, tr, F, ad, _, s, t, fun ds g1 v H1 F1 a1 t1 s1 n1 => ?_⟩
  obtain ⟨F2, s2⟩ := s1.still n1
  exact k _ g1 v H1 F2 a1 t1 s2
end
def dIx (ta tb : DE) : DE := fun g Q => ta g fun x g1 => tb g1 fun y g2 => match x, y with
  | .val (.tuple ds), .val (.int i) => (match atI ds i with | some z => Q (.val z) g2 | none => False)
  | .val (.list ds), .val (.int i) => (match atI ds i with | some z => Q (.val z) g2 | none => False)
  | .scr ns, .val (.int i) => (match atI ns i with | some z => Q (.val (.int z)) g2 | none => False)
  | _, _ => False
theorem atI_get {K : Fg} {F : Hp} {vs : List V} {ds : List Da} {i : Int} {d : Da} (h : Rps K F vs ds) (e : atI ds i = some d) : ∃ v, atI vs i = some v ∧ Rp K F v d := by
  unfold atI at e ⊢
  rw [h.len]
  cases q : ixN ds.length i with
  | none => rw [q] at e; cases e
  | some j =>
    rw [q] at e
    exact h.get e
section
variable {X : Cx} {a b : Expr} {ta tb : DE} {pos : Pos}
theorem e_ix (ha : PE X a (up X.K ta)) (hb : PE X b (up X.K tb)) (hs : PlainIx b := by exact fun _ _ => rfl) : PE X (.Subscript a b pos) (up X.K (dIx ta tb)) := pe_to (pe_ix ix_seq ha hb hs) fun σ H Q q => by
  obtain ⟨c, g, tv, tr, F, ad, post, s, t, k⟩ := q
  refine ⟨c, g, tv, tr, F, ad, _, s, t, fun x g1 v1 H1 F1 a1 t1 s1 => ?_⟩
  refine ⟨c, g1, _, _, F1, a1, _, s1, t1, fun y g2 v2 H2 F2 a2 t2 s2 => ?_⟩
  have hx := s2.pop1.top
  have hy := s2.top
  have s3 := s2.pop1.pop1
  split at t2
  · rename_i ds i
    split at t2
    · rename_i z e
      have hy' : Rp X.K F2 v2 (.int i) := hy
      have hx' : Rp X.K F2 v1 (.tuple ds) := hx
      cases hy'
      cases hx' with
      | tup sq m =>
        obtain ⟨w, e1, e2⟩ := atI_get m e
        exact .inr (.inl ⟨_, _, i, w, rfl, rfl, ex_t s2.eh sq, e1, k _ g2 w H2 F2 a2 t2 (s3.push (r := .val z) e2)⟩)
    · exact t2.elim
  · rename_i ds i
    split at t2
    · rename_i z e
      have hy' : Rp X.K F2 v2 (.int i) := hy
      have hx' : Rp X.K F2 v1 (.list ds) := hx
      cases hy'
      cases hx' with
      | lst sq m =>
        obtain ⟨w, e1, e2⟩ := atI_get m e
        exact .inl ⟨_, _, i, w, rfl, rfl, .inl (.inl (s2.eh _ _ sq)), e1, k _ g2 w H2 F2 a2 t2 (s3.push (r := .val z) e2)⟩
    · exact t2.elim
  · rename_i ns i
    split at t2
    · rename_i z e
      have hy' : Rp X.K F2 v2 (.int i) := hy
      cases hy'
      obtain ⟨p, rfl, sq⟩ := hx
      have e' : atI (ns.map V.int) i = some (.int z) := by
        unfold atI at e ⊢
        rw [List.length_map]
        cases q : ixN ns.length i with
        | none => rw [q] at e; cases e
        | some j =>
          rw [q] at e
          show (ns.map V.int)[j]? = _
          rw [List.getElem?_map, show ns[j]? = some z from e]
          rfl
      exact .inl ⟨p, _, i, _, rfl, rfl, ex_l s2.eh sq, e', k _ g2 _ H2 F2 a2 t2 (s3.push (r := .val (.int z)) (Rp.int z))⟩
    · exact t2.elim
  · exact t2.elim
end
end Z
namespace Z
open L2 PySem PySem.Spec PyProof.Rows
open Evl (Ex ex_l ex_t ex_rd fresh_back)
structure Fn (P : Program) (w : World) (K : Fg) (mg : Str → Option Value) (base : Heap) (CX : CXT) (k : Nat) (f : Addr) (fd : FuncData) (ps : List Str) (sp : Sp) : Prop where
  len : ∀ vs H Q E, sp vs H Q E → vs.length = ps.length
  run : ∀ (A : Around) (outer : List Env) (s : Shared) (H : Hp) (args : Args) (us : List Value) (vs : List V) (Q : VK) (E : XK), Room k A → A.guards = some [] →
    Env0 P w K mg base A outer s H → BindsTo s fd args (ps.zip us) → Vals vs us → sp vs H Q E → codeAny (model P w) A (.call (.ref f) args) (CR CX outer P w H s Q E) s
theorem Fn.mono {P : Program} {w : World} {K : Fg} {mg : Str → Option Value} {base : Heap} {CX : CXT} {j k : Nat} {f : Addr} {fd : FuncData} {ps : List Str} {sp : Sp} (F : Fn P w K mg base CX j f fd ps sp) (h : j ≤ k) : Fn P w K mg base CX k f fd ps sp :=
  ⟨F.len, fun A outer s H args us vs Q E hr hg => F.run A outer s H args us vs Q E (hr.mono h) hg⟩
section
variable {P : Program} {w : World} {K : Fg} {mg : Str → Option Value} {base : Heap} {CX : CXT}
theorem fn_by {x qual : Str} {st : Stmt} {f : Addr} {fd : FuncData} {N ps : List Str} {k : Nat} {sp : Sp} (Fu : Fun K x qual st f fd) (S : FnScope N ps (defScope st)) (len : ∀ vs H Q E, sp vs H Q E → vs.length = ps.length)
    (hbody : ∀ (cdv : Value) (A : Around) (outer : List Env) (s : Shared) (H : Hp) (vs : List V) (Q : VK) (E : XK), Room k (A.deeper (envOfC qual (defScope st) s.heap.objs.size f cdv)) →
      (A.deeper (envOfC qual (defScope st) s.heap.objs.size f cdv)).guards = some [] → sp vs H Q E →
      ∃ t, PSs (cxOf CX P w K mg base N qual (defScope st) f cdv A outer s H E) (defBody st) t ∧ t { nx := fun _ H' => Q .non H', rt := Q } (start N vs) H) : Fn P w K mg base CX (k + 1) f fd ps sp := by
  obtain ⟨oc, od, kV, doc, pm, an, cdv, ct, osl, rfl, lk, hcd⟩ := Fu.ex
  refine ⟨len, fun A outer s H args us vs Q E hr hg e0 hb r hsp => ?_⟩
  have KX : K.In s.heap := e0.mod.kin.keeps fun b o e => (e0.bs b o e).1
  have kinds : ∀ y ∈ ps.zip us, (defScope st).names.lookup y.1 = some .local ∨ ((defScope st).names.lookup y.1 = some .cell ∧ ((cellsFrom (s.heap.objs.size + 1) (defScope st).names []).lookup y.1).isSome = true) := by
    rintro ⟨n, v⟩ hy
    exact (S.par n (List.of_mem_zip hy).1).imp id fun q => ⟨q, PySem.W.cellsFrom_some _ _ _ (.inl q)⟩
  refine codeAny_call_function hr.depth (KX _ _ lk) rfl S.co S.gen rfl (PySem.W.codeRec_of KX hcd) (hb _ _ _ _ (wpAny_newFunctionEnv_cells S.kind kinds fun env he s1 x => ?_))
  subst he
  refine ⟨(e0.mod.nolimit.keeps fun b o e => (e0.bs b o e).1).keeps x.toInCall.keep, codeAny_func ?_⟩
  obtain ⟨t, ht, hq⟩ := hbody cdv A outer s H vs Q E (hr.deeper _) hg hsp
  refine wpAny_mono (ht.run [] s1 (start N vs) H _ (inv_start S hr.hd e0 (len _ _ _ _ hsp) r x) hq) (fun fl s' hs => ?_) fun e s' hs => hs
  match fl, hs with
  | .ret u, ⟨v, σ', H', J, rv, q⟩ => exact ⟨v, H', J.os, J.bare, J.base, J.hok, rv, q⟩
  | .next, ⟨σ', H', J, q⟩ => exact ⟨.non, H', J.os, J.bare, J.base, J.hok, rfl, q⟩
  | .brk, ⟨_, _, _, q⟩ => exact q.elim
  | .cont, ⟨_, _, _, q⟩ => exact q.elim
end
section
variable {X : Cx} {CX : CXT} {k : Nat} {f : Addr} {fd : FuncData} {ps : List Str} {sp : Sp} {dvs : List V} {ds : List Value} {E : XK} {x : Str} {p pos : Pos} {e : Expr} {es : List Expr} {t : TA}
theorem fn_run {pins : List (Addr × Obj)} {σ : L2.St} {H : Hp} {s : Shared} {Q : VK} {args : Args} {us : List Value} {vs : List V} (F : Fn X.prog X.w X.K X.mg X.base CX k f fd ps sp) (hr : Room k X.A) (hg : X.A.guards = some []) (hx : Passes CX X E)
    (I : Inv X pins σ H s) (hb : BindsTo s fd args (ps.zip us)) (r : Vals vs us) (h : sp vs H Q E) : codeAny (model X.prog X.w) X.A (.call (.ref f) args) (fun r s' => match r with
      | .ok (.ret u) => EP X pins σ Q u s'
      | .ok _ => False
      | .error e => X.xe e s') s := by
  refine codeAny_mono (F.run X.A X.stack s H args us vs Q E hr hg I.env0 hb r h) fun r s' hq => ?_
  match r, hq with
  | .error e, hq => exact hx pins σ H s e s' I hq
  | .ok (.ret u), hq => exact I.after hq
  | .ok .next, hq => exact False.elim hq
  | .ok .brk, hq => exact False.elim hq
  | .ok .cont, hq => exact False.elim hq
theorem call_fin {pins : List (Addr × Obj)} {σ : L2.St} {H : Hp} {s : Shared} {Q : VK} {us : List Value} {vs : List V} (F : Fn X.prog X.w X.K X.mg X.base CX k f fd ps sp) (hr : Room k X.A) (hg : X.A.guards = some []) (hx : Passes CX X E)
    (I : Inv X pins σ H s) (hb : Binds X.K fd ps []) (r : Vals vs us) (h : sp vs H Q E) : wpAny (model X.prog X.w) X.A (call (.ref f) us) (EP X pins σ Q) X.xe s := by
  have hl : us.length = ps.length := by rw [← r.length]; exact F.len _ _ _ _ h
  have hb' := hb s us I.kIn (by rw [List.append_nil]; exact hl)
  rw [List.append_nil] at hb'
  refine wpAny_call (codeAny_mono (fn_run F hr hg hx I hb' r h) fun r s' hq => ?_)
  match r, hq with
  | .error e, hq => exact hq
  | .ok (.ret u), hq => exact hq
  | .ok .next, hq => exact hq.elim
  | .ok .brk, hq => exact hq.elim
  | .ok .cont, hq => exact hq.elim
theorem pe_fn (F : Fn X.prog X.w X.K X.mg X.base CX k f fd ps sp) (hr : Room k X.A) (hgd : X.A.guards = some []) (hg : Gl X x) (hm : X.mg x = some (.ref f)) (hk : PySem.W.keepIn X.K (.ref f) = true) (hb : Binds X.K fd ps []) (hx : Passes CX X E)
    (ha : PA X (e :: es) t) (hdb : (x == ("__debug__" : Str)) = false := by decide) (he : starEach (e :: es) X.env = (false, eval e X.env) :: starEach es X.env := by rfl) (hpl : (backTo pos (starEach es X.env)).any (·.1) = false := by rfl) :
    PE X (.Call (.Name x p) (e :: es) [] pos) (fun σ H Q => t σ H fun vs H1 => sp vs H1 Q E) :=
  ⟨fun pins s σ H Q I h => wpAny_Call_Name_kw (ld_glob I hg hm (PySem.W.callWith_K (h₀ := X.base) I.ok.mod.kin hk (thn (ha.run pos pins s σ H _ I h) fun us s1 ⟨vs, H1, I1, r, q⟩ => ⟨I1.kIn, call_fin F hr hgd hx I1 hb r q⟩) he hpl) hdb)⟩
end
abbrev FSp := List Rv → Option Nat → (Rr → Option Nat → Prop) → Prop
def RrOk (K : Fg) (F' H H' : Hp) (v : V) : Rr → Prop
  | .val d => Rp K F' v d
  | .own ds => ∃ o xs, v = .ref o ∧ H o = none ∧ F' o = none ∧ H' o = some (.lst xs) ∧ Rps K F' xs ds
  | .exc _ _ => False
/-- how a call lies behind: still part, heap, source -/
structure Out (K : Fg) (F H : Hp) (a : Addr) (fu : Option Nat) (fu' : Option Nat) (F' H' : Hp) (v : V) (r : Rr) : Prop where
  f : Ex F F'
  s : Ex F' H'
  keep : ∀ b o, (fu ≠ none → b ≠ a) → NT o → H b = some o → H' b = some o
  new : ∀ b, F' b ≠ none → F b ≠ none ∨ H b = none
  src : fu ≠ none → ∃ n, fu' = some n ∧ F' a = none ∧ SrcAt H' a n
  rep : RrOk K F' H H' v r
  tab : TbS H H'
  tk : TabK K F' H'
def lift (K : Fg) (np : Nat) (fs : FSp) : Sp := fun vs H Q _ => ∃ F a rs fu post, Ex F H ∧ Tm K F a fu vs rs ∧ vs.length = np ∧ (∀ n, fu = some n → F a = none ∧ SrcAt H a n) ∧ TabK K F H ∧ fs rs fu post ∧
  ∀ r fu' v H' F', post r fu' → Out K F H a fu fu' F' H' v r → Q v H'
theorem lift_len {K : Fg} {np : Nat} {fs : FSp} (vs : List V) (H : Hp) (Q : VK) (E : XK) (h : lift K np fs vs H Q E) : vs.length = np := by
  obtain ⟨_, _, _, _, _, _, _, h, _⟩ := h
  exact h
def rrv : Rr → Rv
  | .val d => .val d
  | .own ds => .val (.list ds)
  | .exc _ _ => .val .none
def dCall (np : Nat) (fs : FSp) (ta : DA) : DE := fun g Q => ta g fun rs g1 => rs.length = np ∧ match hasSrc rs with
  | true => fs rs g1.fu fun r fu' => Q (rrv r) { g1 with fu := fu' }
  | false => fs rs none fun r _ => Q (rrv r) g1
def dCallL (np : Nat) (fs : FSp) (ta : DA) : DL := fun g Q => ta g fun rs g1 => rs.length = np ∧ match hasSrc rs with
  | true => fs rs g1.fu fun r fu' => match r with | .own ds => Q ds { g1 with fu := fu' } | _ => False
  | false => fs rs none fun r _ => match r with | .own ds => Q ds g1 | _ => False
section
variable {K : Fg} {c : Con} {g : Gs} {σ : L2.St} {H F H' F' : Hp} {tv : List V} {tr : List Rv} {a : Addr}
theorem Tm.noSrc : ∀ {vs : List V} {rs : List Rv} {fu : Option Nat}, hasSrc rs = false → Tm K F a fu vs rs → Tm K F a none vs rs
  | _, _, _, _, .nil => .nil
  | _, .val d :: rs, _, h, .cons r t => .cons (show Rp K F _ d from r) (t.noSrc h)
  | _, .scr d :: rs, _, h, .cons r t => .cons r (t.noSrc h)
  | _, .ob d :: rs, _, h, .cons r t => .cons r (t.noSrc h)
  | _, .src :: rs, _, h, .cons r t => by cases h
theorem Tm.fu_ne : ∀ {vs : List V} {rs : List Rv} {fu : Option Nat}, hasSrc rs = true → Tm K F a fu vs rs → fu ≠ none
  | _, _, _, h, .nil => by cases h
  | _, .val d :: rs, _, h, .cons r t => Tm.fu_ne (rs := rs) h t
  | _, .scr d :: rs, _, h, .cons r t => Tm.fu_ne (rs := rs) h t
  | _, .ob d :: rs, _, h, .cons r t => Tm.fu_ne (rs := rs) h t
  | _, .src :: rs, _, h, .cons r t => r.2
theorem Tm.refu {fu fu' : Option Nat} (hf : fu' ≠ none) : ∀ {vs : List V} {rs : List Rv}, Tm K F a fu vs rs → Tm K F a fu' vs rs
  | _, _, .nil => .nil
  | _, .val d :: rs, .cons r t => .cons (show Rp K F _ d from r) (t.refu hf)
  | _, .scr d :: rs, .cons r t => .cons r (t.refu hf)
  | _, .ob d :: rs, .cons r t => .cons r (t.refu hf)
  | _, .src :: rs, .cons r t => .cons ⟨r.1, hf⟩ (t.refu hf)
/-- behind a call that had the source -/
theorem Sta.after1 (s : Sta K c g σ H tv tr F a) {v : V} {r : Rr} {fu' : Option Nat} (hf : g.fu ≠ none) (o : Out K F H a g.fu fu' F' H' v r) : Sta K c { g with fu := fu' } σ H' tv tr F' a := by
  obtain ⟨n', e', na, sa⟩ := o.src hf
  have ne' : fu' ≠ none := ne_none e'
  have oldF : ∀ b, H b ≠ none → F b = none → F' b = none := fun b h1 h2 => by
    cases q : F' b with
    | none => rfl
    | some u =>
      rcases o.new b (ne_none q) with z | z
      · exact absurd h2 z
      · exact absurd z h1
  obtain ⟨n0, e0⟩ : ∃ n, g.fu = some n := by cases q : g.fu with
    | none => exact absurd q hf
    | some n => exact ⟨n, rfl⟩
  obtain ⟨_, sx, _⟩ := s.src n0 e0
  refine ⟨s.e0.trans o.f, o.s, fun b u h1 hn h2 => ?_, fun b q => ?_, fun b h => ⟨(s.ex b h).1, ne'⟩, s.ow, fun n h => ?_, (s.tmp.up o.f).refu ne', s.len, fun i sv h => ?_, s.dis, o.tk, s.tab.trans o.tab⟩
  · refine o.keep b u (fun _ z => ?_) hn (s.keep b u h1 hn h2)
    subst z
    rcases sx with z | ⟨_, z⟩
    · exact h1 z
    · rw [h2] at z; cases z
  · rcases o.new b q with z | z
    · exact s.new b z
    · exact .inr (s.fresh z)
  · have h' : fu' = some n := h
    rw [e'] at h'; cases h'
    exact ⟨na, sx, sa⟩
  · obtain ⟨v, w1, w2⟩ := s.slot i sv h
    refine ⟨v, w1, ?_⟩
    cases sv with
    | val d => exact Rp.up w2 o.f
    | src => exact ⟨w2.1, ne'⟩
    | scr ns => obtain ⟨b, z1, z2⟩ := w2; exact ⟨b, z1, ex_l o.f z2⟩
    | ob k => exact ObOk.up o.f w2
    | own ds =>
      obtain ⟨p, xs, q1, q2, q3, q4, q5, q6⟩ := w2
      exact ⟨p, xs, q1, oldF p (ne_none q4) q2, q3, o.keep p _ (fun _ => q6 hf) (fun _ z => by cases z) q4, q5.up o.f, fun _ => q6 hf⟩
/-- behind a call that had it not -/
theorem Sta.after0 (s : Sta K c g σ H tv tr F a) {v : V} {r : Rr} {fu' : Option Nat} {b : Addr} (o : Out K F H b none fu' F' H' v r) : Sta K c g σ H' tv tr F' a :=
  s.growN o.f (fun x u hn h => o.keep x u (fun z => absurd rfl z) hn h) o.s o.new o.tab o.tk
theorem NewL.of (s : Sta K c g σ H tv tr F a) {g' : Gs} (hs : g'.sl = g.sl) (hfu : g'.fu ≠ none → g.fu ≠ none) {v : V} {ds : List Da} (h : RrOk K F' H H' v (.own ds)) : NewL K c g' σ H' F' a v ds := by
  obtain ⟨o, xs, rfl, q1, q2, q3, q4⟩ := h
  refine ⟨o, xs, rfl, q2, s.fresh q1, q3, q4, fun hf z => ?_, fun i es hi z => ?_⟩
  · cases q : g.fu with
    | none => exact hfu hf q
    | some n =>
      obtain ⟨_, _, x, y, w, e, _⟩ := s.src n q
      rw [← z, q1] at e; cases e
  · rw [hs] at hi
    obtain ⟨v, w1, o', ys, r1, r2, r3, r4, _⟩ := s.slot i _ hi
    rw [z] at w1
    cases w1
    cases r1
    rw [q1] at r4; cases r4
end
section
variable {X : Cx} {k : Nat} {f : Addr} {fd : FuncData} {ps : List Str} {fs : FSp} {x : Str} {p pos : Pos} {e : Expr} {es : List Expr} {tr : DA} {np : Nat} {E : XK} {CX : CXT}
theorem lift_core : ∀ σ H Q, up X.K (dCall np fs tr) σ H Q → upA X.K tr σ H fun vs H1 => lift X.K np fs vs H1 Q E := fun σ H Q q => by
  obtain ⟨c, g, tv, tr, F, ad, post, s, t, k⟩ := q
  refine ⟨c, g, tv, tr, F, ad, _, s, t, fun rs g1 vs H1 F1 a1 t1 s1 hl => ?_⟩
  obtain ⟨hn, t1⟩ := t1
  rw [← hl] at hn
  obtain ⟨m1, m2⟩ := s1.tmp.args hl
  have s2 := s1.pop m2
  cases q : hasSrc rs with
  | true =>
    rw [q] at t1
    have hf := m1.fu_ne q
    refine ⟨F1, a1, rs, g1.fu, _, s1.eh, m1, hn, fun n h => ⟨(s1.src n h).1, (s1.src n h).2.2⟩, s1.tabk, t1, fun r fu' v H' F' hp o => ?_⟩
    have s3 := s2.after1 hf o
    cases r with
    | exc _ _ => exact o.rep.elim
    | val d => exact k _ _ v H' F' a1 hp (s3.push (r := .val d) o.rep)
    | own ds =>
      obtain ⟨F'', s4⟩ := s3.still (NewL.of (g' := { g1 with fu := fu' }) s2 rfl (fun _ => hf) o.rep)
      exact k _ _ v H' F'' a1 hp s4
  | false =>
    rw [q] at t1
    refine ⟨F1, a1, rs, none, _, s1.eh, m1.noSrc q, hn, fun n h => by (cases h), s1.tabk, t1, fun r fu' v H' F' hp o => ?_⟩
    have s3 := s2.after0 o
    cases r with
    | exc _ _ => exact o.rep.elim
    | val d => exact k _ _ v H' F' a1 hp (s3.push (r := .val d) o.rep)
    | own ds =>
      obtain ⟨F'', s4⟩ := s3.still (NewL.of s2 rfl id o.rep)
      exact k _ _ v H' F'' a1 hp s4
theorem liftL_core : ∀ σ H Q, upL X.K (dCallL np fs tr) σ H Q → upA X.K tr σ H fun vs H1 => lift X.K np fs vs H1 Q E := fun σ H Q q => by
  obtain ⟨c, g, tv, tr, F, ad, post, s, t, k⟩ := q
  refine ⟨c, g, tv, tr, F, ad, _, s, t, fun rs g1 vs H1 F1 a1 t1 s1 hl => ?_⟩
  obtain ⟨hn, t1⟩ := t1
  rw [← hl] at hn
  obtain ⟨m1, m2⟩ := s1.tmp.args hl
  have s2 := s1.pop m2
  cases q : hasSrc rs with
  | true =>
    rw [q] at t1
    have hf := m1.fu_ne q
    refine ⟨F1, a1, rs, g1.fu, _, s1.eh, m1, hn, fun n h => ⟨(s1.src n h).1, (s1.src n h).2.2⟩, s1.tabk, t1, fun r fu' v H' F' hp o => ?_⟩
    have s3 := s2.after1 hf o
    cases r with
    | exc _ _ => exact hp.elim
    | val d => exact hp.elim
    | own ds => exact k _ _ v H' F' a1 hp s3 (NewL.of (g' := { g1 with fu := fu' }) s2 rfl (fun _ => hf) o.rep)
  | false =>
    rw [q] at t1
    refine ⟨F1, a1, rs, none, _, s1.eh, m1.noSrc q, hn, fun n h => by (cases h), s1.tabk, t1, fun r fu' v H' F' hp o => ?_⟩
    have s3 := s2.after0 o
    cases r with
    | exc _ _ => exact hp.elim
    | val d => exact hp.elim
    | own ds => exact k _ _ v H' F' a1 hp s3 (NewL.of s2 rfl id o.rep)
theorem e_call (G : Fn X.prog X.w X.K X.mg X.base CX k f fd ps (lift X.K np fs)) (hr : Room k X.A) (hgd : X.A.guards = some []) (hg : Gl X x) (hm : X.mg x = some (.ref f)) (hk : PySem.W.keepIn X.K (.ref f) = true) (hb : Binds X.K fd ps []) (hx : Passes CX X E)
    (ha : PA X (e :: es) (upA X.K tr)) (hdb : (x == ("__debug__" : Str)) = false := by decide) (he : starEach (e :: es) X.env = (false, eval e X.env) :: starEach es X.env := by rfl) (hpl : (backTo pos (starEach es X.env)).any (·.1) = false := by rfl) :
    PE X (.Call (.Name x p) (e :: es) [] pos) (up X.K (dCall np fs tr)) := pe_to (pe_fn G hr hgd hg hm hk hb hx ha hdb he hpl) lift_core
theorem e_callL (G : Fn X.prog X.w X.K X.mg X.base CX k f fd ps (lift X.K np fs)) (hr : Room k X.A) (hgd : X.A.guards = some []) (hg : Gl X x) (hm : X.mg x = some (.ref f)) (hk : PySem.W.keepIn X.K (.ref f) = true) (hb : Binds X.K fd ps []) (hx : Passes CX X E)
    (ha : PA X (e :: es) (upA X.K tr)) (hdb : (x == ("__debug__" : Str)) = false := by decide) (he : starEach (e :: es) X.env = (false, eval e X.env) :: starEach es X.env := by rfl) (hpl : (backTo pos (starEach es X.env)).any (·.1) = false := by rfl) :
    PE X (.Call (.Name x p) (e :: es) [] pos) (upL X.K (dCallL np fs tr)) := pe_to (pe_fn G hr hgd hg hm hk hb hx ha hdb he hpl) liftL_core
end
end Z
namespace Z
open L2 PySem PySem.Spec PyProof.Rows
open Evl (Ex ex_l ex_t ex_rd fresh_back)
variable {Wx : WX}
def rsv : Rv → Sv
  | .val d => .val d
  | .src => .src
  | .scr ns => .scr ns
  | .ob k => .ob k
section
variable {K : Fg} {c : Con} {g : Gs} {σ : L2.St} {H F : Hp} {tv : List V} {tr : List Rv} {a : Addr}
theorem set_some {α : Type} {l : List α} {i j : Nat} {x y : α} (h : (l.set i x)[j]? = some y) : (j = i ∧ j < l.length ∧ y = x) ∨ (j ≠ i ∧ l[j]? = some y) := by
  by_cases e : j = i
  · subst e
    have hl : j < (l.set j x).length := (List.getElem?_eq_some_iff.mp h).1
    rw [List.length_set] at hl
    rw [List.getElem?_set_self hl] at h
    cases h
    exact .inl ⟨rfl, hl, rfl⟩
  · rw [List.getElem?_set_ne (Ne.symm e)] at h
    exact .inr ⟨e, h⟩
theorem Sta.set {v : V} {r : Rv} (s : Sta K c g σ H (v :: tv) (r :: tr) F a) (i : Nat) : Sta K c (g.set i (rsv r)) (σ.set i (some v)) H tv tr F a := by
  have hr := s.top
  have s0 := s.pop1
  refine ⟨s0.e0, s0.eh, s0.keep, s0.new, s0.ex, s0.ow, s0.src, s0.tmp, ?_, fun j sv hj => ?_, fun j k ds es hjk hj hk => ?_, s0.t0, s0.tab⟩
  · show (σ.set i _).length = (g.sl.set i _).length
    rw [List.length_set, List.length_set]; exact s0.len
  · rcases set_some (show (g.sl.set i (some (rsv r)))[j]? = some (some sv) from hj) with ⟨rfl, hl, e⟩ | ⟨ne, e⟩
    · cases e
      refine ⟨v, List.getElem?_set_self (by rw [s0.len]; exact hl), ?_⟩
      cases r with
      | val d => exact hr
      | src => exact hr
      | scr ns => exact hr
      | ob k => exact hr
    · obtain ⟨w, h1, h2⟩ := s0.slot j sv e
      exact ⟨w, by rw [List.getElem?_set_ne (Ne.symm ne)]; exact h1, h2⟩
  · have no : ∀ k fs, (g.sl.set i (some (rsv r)))[k]? = some (some (Sv.own fs)) → k ≠ i ∧ g.sl[k]? = some (some (Sv.own fs)) := fun k fs h => by
      rcases set_some h with ⟨_, _, e⟩ | z
      · cases r <;> cases e
      · exact z
    obtain ⟨n1, e1⟩ := no j ds hj
    obtain ⟨n2, e2⟩ := no k es hk
    rw [List.getElem?_set_ne (Ne.symm n1), List.getElem?_set_ne (Ne.symm n2)]
    exact s0.dis j k ds es hjk e1 e2
theorem Sta.setOwn (s : Sta K c g σ H tv tr F a) {v : V} {ds : List Da} (h : NewL K c g σ H F a v ds) (i : Nat) : Sta K c (g.set i (.own ds)) (σ.set i (some v)) H tv tr F a := by
  obtain ⟨o, xs, rfl, q2, q3, q4, q5, q6, q7⟩ := h.ex
  refine ⟨s.e0, s.eh, s.keep, s.new, s.ex, s.ow, s.src, s.tmp, ?_, fun j sv hj => ?_, fun j k es fs hjk hj hk => ?_, s.t0, s.tab⟩
  · show (σ.set i _).length = (g.sl.set i _).length
    rw [List.length_set, List.length_set]; exact s.len
  · rcases set_some (show (g.sl.set i (some (Sv.own ds)))[j]? = some (some sv) from hj) with ⟨rfl, hl, e⟩ | ⟨ne, e⟩
    · cases e
      exact ⟨_, List.getElem?_set_self (by rw [s.len]; exact hl), o, xs, rfl, q2, q3, q4, q5, q6⟩
    · obtain ⟨w, h1, h2⟩ := s.slot j sv e
      exact ⟨w, by rw [List.getElem?_set_ne (Ne.symm ne)]; exact h1, h2⟩
  · rcases set_some (show (g.sl.set i (some (Sv.own ds)))[j]? = some (some (Sv.own es)) from hj) with ⟨rfl, hl, e⟩ | ⟨nj, ej⟩
    · rcases set_some (show (g.sl.set j (some (Sv.own ds)))[k]? = some (some (Sv.own fs)) from hk) with ⟨rfl, _, _⟩ | ⟨nk, ek⟩
      · exact absurd rfl hjk
      · rw [List.getElem?_set_self (by rw [s.len]; exact hl), List.getElem?_set_ne (Ne.symm nk)]
        exact fun z => q7 k fs ek z.symm
    · rcases set_some (show (g.sl.set i (some (Sv.own ds)))[k]? = some (some (Sv.own fs)) from hk) with ⟨rfl, hl, _⟩ | ⟨nk, ek⟩
      · rw [List.getElem?_set_self (by rw [s.len]; exact hl), List.getElem?_set_ne (Ne.symm nj)]
        exact q7 j es ej
      · rw [List.getElem?_set_ne (Ne.symm nj), List.getElem?_set_ne (Ne.symm nk)]
        exact s.dis j k es fs hjk ej ek
/-- an own list changes -/
theorem Sta.mut (s : Sta K c g σ H tv tr F a) {i : Nat} {o : Addr} {ds es : List Da} {ys : List V} (h : g.sl[i]? = some (some (.own ds))) (ho : σ[i]? = some (some (.ref o))) (hy : Rps K F ys es) :
    Sta K c (g.set i (.own es)) σ (upd H o (.lst ys)) tv tr F a := by
  obtain ⟨v, h1, o', xs, rfl, q2, q3, q4, q5, q6⟩ := s.slot i _ h
  rw [ho] at h1
  cases h1
  have hi : i < g.sl.length := (List.getElem?_eq_some_iff.mp h).1
  refine ⟨s.e0, fun b u q => ?_, fun b u z1 hn z2 => ?_, s.new, s.ex, s.ow, fun n hn => ?_, s.tmp, ?_, fun j sv hj => ?_, fun j k e1 e2 hjk hj hk => ?_, s.t0.but q4 (fun _ z => by cases z) fun b u ne h => by rw [upd_ne ne]; exact h, s.tab.trans (.but q4 (fun _ z => by cases z) fun b u ne h => by rw [upd_ne ne]; exact h)⟩
  · have nb : b ≠ o := fun z => by rw [z, q2] at q; cases q
    rw [upd_ne nb]; exact s.eh b u q
  · have nb : b ≠ o := fun z => by rw [z, q3] at z2; cases z2
    rw [upd_ne nb]; exact s.keep b u z1 hn z2
  · obtain ⟨z1, z2, x, y, z, e, z3⟩ := s.src n hn
    exact ⟨z1, z2, x, y, z, by rw [upd_ne (fun w => q6 (ne_none hn) w.symm)]; exact e, z3⟩
  · show σ.length = (g.sl.set i _).length
    rw [List.length_set]; exact s.len
  · rcases set_some (show (g.sl.set i (some (Sv.own es)))[j]? = some (some sv) from hj) with ⟨rfl, hl, e⟩ | ⟨ne, e⟩
    · cases e
      exact ⟨_, ho, o, ys, rfl, q2, q3, upd_same, hy, q6⟩
    · obtain ⟨w, h1, h2⟩ := s.slot j sv e
      refine ⟨w, h1, ?_⟩
      cases sv with
      | val d => exact h2
      | src => exact h2
      | scr ns => exact h2
      | ob k => exact h2
      | own fs =>
        obtain ⟨p, zs, r1, r2, r3, r4, r5, r6⟩ := h2
        have np : p ≠ o := fun z => s.dis j i fs ds ne e h (by rw [h1, ho, r1, z])
        exact ⟨p, zs, r1, r2, r3, by rw [upd_ne np]; exact r4, r5, r6⟩
  · have back : ∀ k e, (g.sl.set i (some (Sv.own es)))[k]? = some (some (Sv.own e)) → ∃ e', g.sl[k]? = some (some (Sv.own e')) := fun k e hk => by
      rcases set_some hk with ⟨rfl, _, _⟩ | ⟨_, z⟩
      · exact ⟨_, h⟩
      · exact ⟨_, z⟩
    obtain ⟨f1, w1⟩ := back j e1 hj
    obtain ⟨f2, w2⟩ := back k e2 hk
    exact s.dis j k f1 f2 hjk w1 w2
end
abbrev DG := Rv → Gs → (Gs → Prop) → Prop
abbrev DGs := List Da → Gs → (Gs → Prop) → Prop
def upG (K : Fg) (t : DG) : TG := fun v σ H Q => ∃ c g tv tr F a r post, Sta K c g σ H (v :: tv) (r :: tr) F a ∧ t r g post ∧ ∀ g' σ' H' F' a', post g' → Sta K c g' σ' H' tv tr F' a' → Q σ' H'
def upGs (K : Fg) (t : DGs) : TGs := fun vs σ H Q => ∃ c g tv tr F a ds post, Sta K c g σ H (vs ++ tv) (ds.map Rv.val ++ tr) F a ∧ vs.length = ds.length ∧ t ds g post ∧ ∀ g' σ' H' F' a', post g' → Sta K c g' σ' H' tv tr F' a' → Q σ' H'
def dN (i : Nat) : DG := fun r g Q => Q (g.set i (rsv r))
def dT (n : Nat) (t : DGs) : DG := fun r g Q => match r with
  | .val (.tuple ds) => ds.length = n ∧ t ds g Q
  | _ => False
def dTn : DGs := fun ds g Q => match ds with
  | [] => Q g
  | _ => False
def dTc (t : DG) (u : DGs) : DGs := fun ds g Q => match ds with
  | d :: r => t (.val d) g fun g1 => u r g1 Q
  | [] => False
section
variable {X : Cx} {pos : Pos} {e : Expr} {es : List Expr}
theorem pg_to {t t' : TG} (h : PG X e t) (i : ∀ v σ H Q, t' v σ H Q → t v σ H Q) : PG X e t' := ⟨fun pins s v u σ H Q I r q => h.run pins s v u σ H Q I r (i _ _ _ _ q)⟩
theorem pgs_to {t t' : TGs} (h : PGs X es t) (i : ∀ v σ H Q, t' v σ H Q → t v σ H Q) : PGs X es t' := ⟨fun pins s v u σ H Q I r q => h.run pins s v u σ H Q I r (i _ _ _ _ q)⟩
theorem Tm.ofRps {K : Fg} {F : Hp} {a : Addr} {fu : Option Nat} : ∀ {vs : List V} {ds : List Da}, Rps K F vs ds → Tm K F a fu vs (ds.map Rv.val)
  | _, _, .nil => .nil
  | _, _, .cons h t => .cons h (Tm.ofRps t)
theorem g_name {i : Nat} (h : PG X e (gName i)) : PG X e (upG X.K (dN i)) := pg_to h fun v σ H Q q => by
  obtain ⟨c, g, tv, tr, F, a, r, post, s, t, k⟩ := q
  exact k _ _ H F a t (s.set i)
theorem gs_nil : PGs X [] (upGs X.K dTn) := pgs_to pgs_nil fun vs σ H Q q => by
  obtain ⟨c, g, tv, tr, F, a, ds, post, s, hl, t, k⟩ := q
  cases ds with
  | nil =>
    have : vs = [] := List.length_eq_zero_iff.mp hl
    subst this
    exact ⟨rfl, k _ _ H F a t s⟩
  | cons d r => exact t.elim
theorem gs_cons {t : DG} {u : DGs} (h : PG X e (upG X.K t)) (hr : PGs X es (upGs X.K u)) (hs : (assignEach (e :: es) X.env).map (·.2) = assign e X.env :: (assignEach es X.env).map (·.2) := by rfl) : PGs X (e :: es) (upGs X.K (dTc t u)) := pgs_to (pgs_cons h hr hs) fun vs σ H Q q => by
  obtain ⟨c, g, tv, tr, F, a, ds, post, s, hl, t, k⟩ := q
  cases ds with
  | nil => exact t.elim
  | cons d r =>
    cases vs with
    | nil => simp at hl
    | cons v vs =>
      refine ⟨v, vs, rfl, c, g, _, _, F, a, _, _, s, t, fun g1 σ1 H1 F1 a1 t1 s1 => ?_⟩
      exact ⟨c, g1, tv, tr, F1, a1, r, _, s1, by simpa using hl, t1, k⟩
theorem g_tup {n k : Nat} {t : DGs} (hc : X.calm = true) (h : PGs X es (upGs X.K t)) (hn : (assignEach es X.env).length = n := by rfl) (hf : List.findIdx? (fun x => x.1) (assignEach es X.env) = none := by rfl) : PG X (.Tuple es k pos) (upG X.K (dT n t)) :=
  pg_to (pg_tup hc h hn hf) fun v σ H Q q => by
  obtain ⟨c, g, tv, tr, F, a, r, post, s, t, k⟩ := q
  cases r with
  | val d =>
    cases d with
    | tuple ds =>
      have hr : Rp X.K F v (.tuple ds) := s.top
      cases hr with
      | tup sq m =>
        refine ⟨_, _, rfl, ex_t s.eh sq, by rw [m.len]; exact t.1, c, g, tv, tr, F, a, ds, post, s.pop ((Tm.ofRps m).app s.pop1.tmp), m.len, t.2, k⟩
    | _ => exact t.elim
  | _ => exact t.elim
end
def dAsg (te : DE) (t : DG) : DS := fun d g => te g fun r g1 => t r g1 d.nx
def dSetL (i : Nat) (tl : DL) : DS := fun d g => tl g fun ds g1 => d.nx (g1.set i (.own ds))
def dSeq (t u : DS) : DS := fun d g => t { d with nx := u d } g
def dNext : DS := fun d g => d.nx g
def dIfS (c : DT) (t u : DS) : DS := fun d g => c g fun b g1 => (b = true → t d g1) ∧ (b = false → u d g1)
def dRet (te : DE) : DS := fun d g => te g fun r g1 => match r with
  | .val x => d.rt (.val x) g1
  | _ => False
def dRetL (tl : DL) : DS := fun d g => tl g fun ds g1 => d.rt (.own ds) g1
def dDrop (te : DE) : DS := fun d g => te g fun _ g1 => d.nx g1
def dNever : DS := fun _ _ => False
def dPar (i j : Nat) (ta tb : DE) : DS := fun d g => ta g fun r g1 => tb g1 fun s g2 => d.nx ((g2.set i (rsv r)).set j (rsv s))
def dApp (i : Nat) (te : DE) : DS := fun d g => (∃ ds, g.sl[i]? = some (some (.own ds))) ∧ te g fun r g1 => match r with
  | .val z => (match g1.sl[i]? with
    | some (some (.own ds)) => ds.length < 1000000 ∧ d.nx (g1.set i (.own (ds ++ [z])))
    | _ => False)
  | _ => False
def dExt (i : Nat) (te : DE) : DS := fun d g => (∃ ds, g.sl[i]? = some (some (.own ds))) ∧ te g fun r g1 => match r with
  | .val (.list zs) => (match g1.sl[i]? with
    | some (some (.own ds)) => ds.length + zs.length ≤ 1000000 ∧ d.nx (g1.set i (.own (ds ++ zs)))
    | _ => False)
  | _ => False
def dWhile (c : DT) (tb : DS) : DS := fun d g => ∃ W : Nat → Gs → Prop, (∃ m, W m g) ∧ ∀ m g, W m g → c g fun b g1 =>
  (b = true → tb { d with nx := fun g2 => ∃ m', m' < m ∧ W m' g2, ct := fun g2 => ∃ m', m' < m ∧ W m' g2, bk := d.nx } g1) ∧ (b = false → d.nx g1)
section
variable {X : Cx} {pos : Pos} {e tg : Expr} {te : DE} {tl : DL}
theorem s_asg {t : DG} (he : PE X e (up X.K te)) (hg : PG X tg (upG X.K t)) (h1 : swapsWithSole [tg] e pos.line X.env = pure false := by rfl) (h2 : swappedStores [tg] e X.env = pure none := by rfl) (h3 : (assignEach [tg] X.env).map (·.2) = [assign tg X.env] := by rfl) :
    PS X (.Assign [tg] e pos) (upS X.K Wx (dAsg te t)) := ps_to (ps_asg he hg h1 h2 h3) fun D σ H q => by
  obtain ⟨c, g, tv, tr, F, a, d, s, hn, t, k⟩ := q
  refine ⟨c, g, tv, tr, F, a, _, s, t, fun r g1 v H1 F1 a1 t1 s1 => ?_⟩
  exact ⟨c, g1, tv, tr, F1, a1, r, _, s1, t1, fun g2 σ2 H2 F2 a2 t2 s2 => k.nx g2 σ2 H2 F2 a2 t2 s2⟩
theorem s_set {i : Nat} {x : Str} {pos' : Pos} (hN : X.N.Nodup) (hi : X.N[i]? = some x) (hx : L2.Loc X.env.scope x) (he : PE X e (up X.K te)) (h1 : swapsWith e (some (.Name x pos')) pos.line X.env = pure false := by rfl)
    (hf : X.fn x = true ∨ X.env.scope.names.lookup x = some .local := by first | exact .inl rfl | exact .inr rfl) : PS X (.Assign [.Name x pos'] e pos) (upS X.K Wx (dAsg te (dN i))) := ps_to (ps_set hN hi hx he h1 hf) fun D σ H q => by
  obtain ⟨c, g, tv, tr, F, a, d, s, hn, t, k⟩ := q
  exact ⟨c, g, tv, tr, F, a, _, s, t, fun r g1 v H1 F1 a1 t1 s1 => k.nx _ _ H1 F1 a1 t1 (s1.set i)⟩
theorem s_setL {i : Nat} {x : Str} {pos' : Pos} (hN : X.N.Nodup) (hi : X.N[i]? = some x) (hx : L2.Loc X.env.scope x) (he : PE X e (upL X.K tl)) (h1 : swapsWith e (some (.Name x pos')) pos.line X.env = pure false := by rfl)
    (hf : X.fn x = true ∨ X.env.scope.names.lookup x = some .local := by first | exact .inl rfl | exact .inr rfl) : PS X (.Assign [.Name x pos'] e pos) (upS X.K Wx (dSetL i tl)) := ps_to (ps_set hN hi hx he h1 hf) fun D σ H q => by
  obtain ⟨c, g, tv, tr, F, a, d, s, hn, t, k⟩ := q
  exact ⟨c, g, tv, tr, F, a, _, s, t, fun ds g1 v H1 F1 a1 t1 s1 n1 => k.nx _ _ H1 F1 a1 t1 (s1.setOwn n1 i)⟩
variable {st : Stmt} {rest body : List Stmt} {t u : DS} {ct : DT}
theorem ss_nil : PSs X [] (upS X.K Wx dNext) := pss_to pss_nil fun D σ H q => by
  obtain ⟨c, g, tv, tr, F, a, d, s, hn, t, k⟩ := q
  exact k.nx g σ H F a t s
theorem DD.seq {K : Fg} {Wx : WX} {c : Con} {tv : List V} {tr : List Rv} {d : DEnds} {D : Ends} (k : DD K Wx c tv tr d D) {N : Gs → Prop} {M : L2.St → Hp → Prop} (h : ∀ g σ H F a, N g → Sta K c g σ H tv tr F a → M σ H) : DD K Wx c tv tr { d with nx := N } { D with nx := M } :=
  ⟨h, k.bk, k.ct, k.rv, k.ro, k.rx⟩
theorem ss_cons (h1 : PS X st (upS X.K Wx t)) (h2 : PSs X rest (upS X.K Wx u)) : PSs X (st :: rest) (upS X.K Wx (dSeq t u)) := pss_to (pss_cons h1 h2) fun D σ H q => by
  obtain ⟨c, g, tv, tr, F, a, d, s, hn, t, k⟩ := q
  exact ⟨c, g, tv, tr, F, a, _, s, hn, t, k.seq fun g1 σ1 H1 F1 a1 t1 s1 => ⟨c, g1, tv, tr, F1, a1, d, s1, hn, t1, k⟩⟩
theorem ss_one (h1 : PS X st (upS X.K Wx t)) : PSs X [st] (upS X.K Wx t) := pss_one h1
theorem s_if {c : Expr} {a b : List Stmt} (hc : PT X c (upT X.K ct)) (h1 : PSs X a (upS X.K Wx t)) (h2 : PSs X b (upS X.K Wx u)) : PS X (.If c a b pos) (upS X.K Wx (dIfS ct t u)) := ps_to (ps_if hc h1 h2) fun D σ H q => by
  obtain ⟨c, g, tv, tr, F, a, d, s, hn, t, k⟩ := q
  refine ⟨c, g, tv, tr, F, a, _, s, t, fun b g1 H1 F1 a1 t1 s1 => ?_⟩
  cases b with
  | true => rw [if_pos rfl]; exact ⟨c, g1, tv, tr, F1, a1, d, s1, hn, t1.1 rfl, k⟩
  | false => rw [if_neg Bool.false_ne_true]; exact ⟨c, g1, tv, tr, F1, a1, d, s1, hn, t1.2 rfl, k⟩
theorem s_ret (he : PE X e (up X.K te)) : PS X (.Return (some e) pos) (upS X.K Wx (dRet te)) := ps_to (ps_ret he) fun D σ H q => by
  obtain ⟨c, g, tv, tr, F, a, d, s, hn, t, k⟩ := q
  refine ⟨c, g, tv, tr, F, a, _, s, t, fun r g1 v H1 F1 a1 t1 s1 => ?_⟩
  cases r with
  | val x => exact k.rv x g1 σ v H1 F1 a1 t1 s1
  | _ => exact t1.elim
theorem s_retL (he : PE X e (upL X.K tl)) : PS X (.Return (some e) pos) (upS X.K Wx (dRetL tl)) := ps_to (ps_ret he) fun D σ H q => by
  obtain ⟨c, g, tv, tr, F, a, d, s, hn, t, k⟩ := q
  refine ⟨c, g, tv, tr, F, a, _, s, t, fun ds g1 v H1 F1 a1 t1 s1 n1 => ?_⟩
  obtain ⟨o, xs, q1, q2, q3, q4, q5, q6, _⟩ := n1.ex
  exact k.ro ds g1 σ v H1 F1 a1 t1 s1 ⟨o, xs, q1, q2, q3, q4, q5, q6, fun i es h => by simp at h⟩
theorem s_expr (he : PE X e (up X.K te)) (h1 : swapsWith e none pos.line X.env = pure false := by rfl) : PS X (.Expr e pos) (upS X.K Wx (dDrop te)) := ps_to (ps_expr he h1) fun D σ H q => by
  obtain ⟨c, g, tv, tr, F, a, d, s, hn, t, k⟩ := q
  exact ⟨c, g, tv, tr, F, a, _, s, t, fun r g1 v H1 F1 a1 t1 s1 => k.nx g1 σ H1 F1 a1 t1 s1.pop1⟩
theorem s_never : PS X st (upS X.K Wx dNever) := ps_to ps_never fun D σ H q => by
  obtain ⟨c, g, tv, tr, F, a, d, s, hn, t, k⟩ := q
  exact t.elim
theorem s_par {i j : Nat} {x y : Str} {a b : Expr} {ta tb : DE} {px py pt : Pos} {kt k2 : Nat} {pt2 : Pos} (hc : X.calm = true) (hN : X.N.Nodup) (hi : X.N[i]? = some x) (hj : X.N[j]? = some y) (hij : i ≠ j)
    (hx : X.env.scope.names.lookup x = some .local) (hy : X.env.scope.names.lookup y = some .local) (ha : PE X a (up X.K ta)) (hb : PE X b (up X.K tb))
    (hsw : swappedStores [.Tuple [.Name x px, .Name y py] kt pt] (.Tuple [a, b] k2 pt2) X.env = pure (some [x, y]) := by rfl) (h1 : swapsWithSole [.Tuple [.Name x px, .Name y py] kt pt] (.Tuple [a, b] k2 pt2) pos.line X.env = pure false := by rfl)
    (n1 : starEach [a, b] X.env = (false, eval a X.env) :: starEach [b] X.env := by rfl) (n2 : starEach [b] X.env = (false, eval b X.env) :: starEach [] X.env := by rfl) :
    PS X (.Assign [.Tuple [.Name x px, .Name y py] kt pt] (.Tuple [a, b] k2 pt2) pos) (upS X.K Wx (dPar i j ta tb)) := ps_to (ps_par hc hN hi hj hij hx hy (a_cons ha (a_cons hb a_nil n2) n1) hsw h1) fun D σ H q => by
  obtain ⟨c, g, tv, tr, F, a, d, s, hn, t, k⟩ := q
  refine ⟨c, g, tv, tr, F, a, fun rs g1 => match rs with | [r, s] => d.nx ((g1.set i (rsv r)).set j (rsv s)) | _ => False, s, t, fun rs g1 vs H1 F1 a1 t1 s1 hl => ?_⟩
  match rs, t1, vs, hl, s1 with
  | [r, s'], t1, [v, w], _, s1 =>
    refine ⟨v, w, rfl, k.nx _ _ H1 F1 a1 t1 ?_⟩
    have s2 : Sta X.K c g1 σ H1 (v :: w :: tv) (r :: s' :: tr) F1 a1 := by
      have e1 : Sta X.K c g1 σ H1 (w :: v :: tv) (s' :: r :: tr) F1 a1 := s1
      exact e1.pop (.cons e1.pop1.top (.cons e1.top e1.pop1.pop1.tmp))
    exact (s2.set i).set j
/-- x.append(e), x an own list -/
theorem s_app {i : Nat} {o : Expr} {apos cpos : Pos} {name : Str} (hv : PE X o (tVar i)) (he : PE X e (up X.K te))
    (hp : ∀ {t : TA} , PA X [e] t → PE X (.Call (.Attribute o "append" apos) [e] [] cpos) (tBM X.K "list" rAppend (tVar i) t)) (n1 : starEach [e] X.env = (false, eval e X.env) :: starEach [] X.env := by rfl)
    (h1 : swapsWith (.Call (.Attribute o "append" apos) [e] [] cpos) none pos.line X.env = pure false := by rfl) : PS X (.Expr (.Call (.Attribute o "append" apos) [e] [] cpos) pos) (upS X.K Wx (dApp i te)) := ps_to (ps_expr (hp (pa_cons he pa_nil n1)) h1) fun D σ H q => by
  obtain ⟨c, g, tv, tr, F, a, d, s, hn, ⟨⟨ds, hd⟩, t⟩, k⟩ := q
  obtain ⟨v, h1, o, xs, rfl, q2, q3, q4, q5, q6⟩ := s.slot i _ hd
  refine ⟨_, h1, .inl ⟨rfl, xs, .inl (.inl q4)⟩, c, g, tv, tr, F, a, _, s, t, fun r g1 w H1 F1 a1 t1 s1 => ?_⟩
  cases r with
  | val z =>
    simp only at t1
    split at t1
    · rename_i es he
      obtain ⟨v', h1', o', ys, rfl, p2, p3, p4, p5, p6⟩ := s1.slot i _ he
      rw [h1] at h1'
      cases h1'
      refine ⟨o, ys, w, rfl, rfl, p4, by rw [p5.len]; exact Nat.lt_of_lt_of_le t1.1 (by decide), k.nx _ _ _ F1 a1 t1.2 (s1.pop1.mut he h1 (p5.app (.cons s1.top .nil)))⟩
    · exact t1.elim
  | _ => exact t1.elim
theorem s_ext {i : Nat} {o : Expr} {apos cpos : Pos} {name : Str} (hv : PE X o (tVar i)) (he : PE X e (up X.K te))
    (hp : ∀ {t : TA} , PA X [e] t → PE X (.Call (.Attribute o "extend" apos) [e] [] cpos) (tBM X.K "list" rExtend (tVar i) t)) (n1 : starEach [e] X.env = (false, eval e X.env) :: starEach [] X.env := by rfl)
    (h1 : swapsWith (.Call (.Attribute o "extend" apos) [e] [] cpos) none pos.line X.env = pure false := by rfl) : PS X (.Expr (.Call (.Attribute o "extend" apos) [e] [] cpos) pos) (upS X.K Wx (dExt i te)) := ps_to (ps_expr (hp (pa_cons he pa_nil n1)) h1) fun D σ H q => by
  obtain ⟨c, g, tv, tr, F, a, d, s, hn, ⟨⟨ds, hd⟩, t⟩, k⟩ := q
  obtain ⟨v, h1, o, xs, rfl, q2, q3, q4, q5, q6⟩ := s.slot i _ hd
  refine ⟨_, h1, .inl ⟨rfl, xs, .inl (.inl q4)⟩, c, g, tv, tr, F, a, _, s, t, fun r g1 w H1 F1 a1 t1 s1 => ?_⟩
  cases r with
  | val z =>
    cases z with
    | list zs =>
      simp only at t1
      split at t1
      · rename_i es he
        obtain ⟨v', h1', o', ys, rfl, p2, p3, p4, p5, p6⟩ := s1.slot i _ he
        rw [h1] at h1'
        cases h1'
        have hw : Rp X.K F1 w (.list zs) := s1.top
        cases hw with
        | lst sq m =>
          refine ⟨o, _, ys, _, rfl, rfl, p4, s1.eh _ _ sq, by rw [p5.len, m.len]; exact mil t1.1, k.nx _ _ _ F1 a1 t1.2 (s1.pop1.mut he h1 (p5.app m))⟩
      · exact t1.elim
    | _ => exact t1.elim
  | _ => exact t1.elim
theorem s_while {c : Expr} (hp : PassesOwn (model X.prog X.w) X.A X.env X.xe) (hc : PT X c (upT X.K ct)) (hb : PSs X body (upS X.K Wx t)) : PS X (.While c body [] pos) (upS X.K Wx (dWhile ct t)) := ps_to (ps_while hp hc hb) fun D σ H q => by
  obtain ⟨c, g, tv, tr, F, a, d, s, hn, ⟨W, ⟨m, hm⟩, hw⟩, k⟩ := q
  refine ⟨fun m σ H => ∃ g F a, Sta X.K c g σ H tv tr F a ∧ W m g, ⟨m, g, F, a, s, hm⟩, fun m σ H hW => ?_⟩
  obtain ⟨g, F, a, s, hm⟩ := hW
  refine ⟨c, g, tv, tr, F, a, _, s, hw m g hm, fun b g1 H1 F1 a1 t1 s1 => ?_⟩
  cases b with
  | true =>
    rw [if_pos rfl]
    refine ⟨fun σ H => ∃ m', m' < m ∧ ∃ g F a, Sta X.K c g σ H tv tr F a ∧ W m' g, fun σ' H' h => h, c, g1, tv, tr, F1, a1, _, s1, hn, t1.1 rfl, ⟨fun g2 σ2 H2 F2 a2 ⟨m', h1, h2⟩ s2 => ⟨m', h1, g2, F2, a2, s2, h2⟩, k.nx, fun g2 σ2 H2 F2 a2 ⟨m', h1, h2⟩ s2 => ⟨m', h1, g2, F2, a2, s2, h2⟩, k.rv, k.ro, k.rx⟩⟩
  | false =>
    rw [if_neg Bool.false_ne_true]
    exact k.nx g1 σ H1 F1 a1 (t1.2 rfl) s1
end
end Z
namespace Z
open L2 PySem PySem.Spec PyProof.Rows
open Evl (Ex ex_l ex_t ex_rd fresh_back)
variable {Wx : WX}
structure WalkD (K : Fg) (J : It) (ds : List Da) (wv : List V) (wr : List Rv) : Prop where
  goes : ∀ (i : Nat) (F H : Hp) (a : Addr) (fu : Option Nat), Ex F H → Tm K F a fu wv wr → i < ds.length → J.go i H
  stops : ∀ (F H : Hp) (a : Addr) (fu : Option Nat), Ex F H → Tm K F a fu wv wr → J.stop ds.length H
  yields : ∀ (i : Nat) (F H : Hp) (a : Addr) (fu : Option Nat) (x : V) (H' : Hp), Ex F H → Tm K F a fu wv wr → i < ds.length → J.yld i H x H' → ∃ F' d, ds[i]? = some d ∧ Gr F H F' H' ∧ Rp K F' x d
theorem WalkD.walk {K : Fg} {J : It} {ds : List Da} {wv : List V} {wr : List Rv} (w : WalkD K J ds wv wr) : Walk J ds.length (fun H => ∃ F a fu, Ex F H ∧ Tm K F a fu wv wr) J.yld :=
  ⟨fun i H hi ⟨F, a, fu, e, t⟩ => w.goes i F H a fu e t hi, fun H ⟨F, a, fu, e, t⟩ => w.stops F H a fu e t, fun i H x H' hi _ y => y⟩
abbrev DW := Gs → (List Da → Gs → Prop) → Prop
def upI (K : Fg) (tw : DW) : TI := fun σ H R => ∃ c g tv tr F a post, Sta K c g σ H tv tr F a ∧ tw g post ∧
  ∀ ds g' H' F' a' J wv wr, post ds g' → Sta K c g' σ H' (wv ++ tv) (wr ++ tr) F' a' → wv.length = wr.length → hasSrc wr = false → WalkD K J ds wv wr → R J H'
def forD (t : DG) (tb : DS) : List Da → DS
  | [], d, g => d.nx g
  | x :: xs, d, g => t (.val x) g fun g1 => tb { d with nx := forD t tb xs d, ct := forD t tb xs d, bk := d.nx } g1
def dFor (tw : DW) (t : DG) (tb : DS) : DS := fun d g => tw g fun ds g1 => forD t tb ds d g1
theorem drop_at {α : Type} {l : List α} {i : Nat} {x : α} (h : l[i]? = some x) : l.drop i = x :: l.drop (i + 1) := by
  obtain ⟨hi, e⟩ := List.getElem?_eq_some_iff.mp h
  rw [List.drop_eq_getElem_cons hi, e]
section
variable {X : Cx} {tg iter : Expr} {body : List Stmt} {tw : DW} {t : DG} {tb : DS} {pos : Pos}
theorem s_for (hp : PassesOwn (model X.prog X.w) X.A X.env X.xe) (hc : X.calm = true) (hi : PI X tg iter (upI X.K tw)) (hg : PG X tg (upG X.K t)) (hb : PSs X body (upS X.K Wx tb)) (hfs : ∀ x, foldedSetIterable iter X.env x = pure x := by intro _; rfl) :
    PS X (.For tg iter body [] pos) (upS X.K Wx (dFor tw t tb)) := ps_to (ps_for hp hc hi hg hb hfs) fun D σ H q => by
  obtain ⟨c, g, tv, tr, F, a, d, s, hn, q, k⟩ := q
  refine ⟨c, g, tv, tr, F, a, _, s, q, fun ds g' H' F' a' J wv wr hf s' hl hw wd => ?_⟩
  have w := wd.walk
  have sp : ∀ {g : Gs} {σ : L2.St} {H F : Hp} {a : Addr}, Sta X.K c g σ H (wv ++ tv) (wr ++ tr) F a → Tm X.K F a g.fu wv wr ∧ Tm X.K F a g.fu tv tr := fun s => Tm.split hl s.tmp
  refine for_it w (fun i σ H => ∃ g F a, Sta X.K c g σ H (wv ++ tv) (wr ++ tr) F a ∧ forD t tb (ds.drop i) d g) ⟨g', F', a', s', hf⟩ (fun i σ H hi p => ?_) (fun i x σ H H' hi p y => ?_) (fun σ H p => ?_)
  · obtain ⟨g, F, a, s, _⟩ := p
    exact ⟨F, a, g.fu, s.eh, (sp s).1⟩
  · obtain ⟨g, F, a, s, f⟩ := p
    obtain ⟨F2, dx, e1, gr, rx⟩ := wd.yields i F H a g.fu x H' s.eh (sp s).1 hi y
    rw [drop_at e1] at f
    refine ⟨c, g, wv ++ tv, wr ++ tr, F2, a, .val dx, _, (s.grow gr).push (r := .val dx) rx, f, fun g1 σ1 H1 F1 a1 t1 s1 => ?_⟩
    refine ⟨c, g1, wv ++ tv, wr ++ tr, F1, a1, _, s1, hasSrc_app hw hn, t1, ⟨fun g2 σ2 H2 F2 a2 h s2 => ⟨g2, F2, a2, s2, h⟩, fun g2 σ2 H2 F2 a2 h s2 => k.nx g2 σ2 H2 F2 a2 h (s2.pop (sp s2).2), fun g2 σ2 H2 F2 a2 h s2 => ⟨g2, F2, a2, s2, h⟩, fun x g2 σ2 v H2 F2 a2 h s2 => ?_, fun es g2 σ2 v H2 F2 a2 h s2 n2 => ?_, fun nm z g2 σ2 H2 F2 a2 cls dd h s2 ox => k.rx nm z g2 σ2 H2 F2 a2 cls dd h (s2.pop (sp s2).2) ox⟩⟩
    · exact k.rv x g2 σ2 v H2 F2 a2 h ((s2.pop1.pop (sp s2.pop1).2).push (r := .val x) s2.top)
    · exact k.ro es g2 σ2 v H2 F2 a2 h (s2.pop (sp s2).2) n2
  · obtain ⟨g, F, a, s, f⟩ := p
    rw [List.drop_length] at f
    exact k.nx g σ H F a f (s.pop (sp s).2)
end
theorem walkD_list {K : Fg} {p : Addr} {ds : List Da} : WalkD K (Itl K p) ds [.ref p] [.val (.list ds)] := by
  have get : ∀ {F H : Hp} {a : Addr} {fu : Option Nat}, Ex F H → Tm K F a fu [.ref p] [.val (.list ds)] → ∃ xs, SqL K H p xs ∧ Rps K F xs ds := fun {F H a fu} e t => by
    cases t with
    | cons h _ =>
      have h' : Rp K F (.ref p) (.list ds) := h
      cases h' with
      | lst sq m => exact ⟨_, .inl (.inl (e _ _ sq)), m⟩
  refine ⟨fun i F H a fu e t hi => ?_, fun F H a fu e t => ?_, fun i F H a fu x H' e t hi y => ?_⟩
  · obtain ⟨xs, sq, m⟩ := get e t
    obtain ⟨v, h1, _⟩ := m.get (List.getElem?_eq_getElem hi)
    exact ⟨xs, v, sq, h1⟩
  · obtain ⟨xs, sq, m⟩ := get e t
    exact ⟨xs, sq, Nat.le_of_eq m.len⟩
  · obtain ⟨xs, sq, m⟩ := get e t
    obtain ⟨v, h1, h2⟩ := m.get (List.getElem?_eq_getElem hi)
    obtain ⟨rfl, hx⟩ := y
    rw [hx xs sq] at h1
    cases h1
    exact ⟨F, _, List.getElem?_eq_getElem hi, Gr.refl e, h2⟩
theorem walkD_tup {K : Fg} {p : Addr} {ds : List Da} : WalkD K (Itt K p) ds [.ref p] [.val (.tuple ds)] := by
  have get : ∀ {F H : Hp} {a : Addr} {fu : Option Nat}, Ex F H → Tm K F a fu [.ref p] [.val (.tuple ds)] → ∃ xs, SqT K H p xs ∧ Rps K F xs ds := fun {F H a fu} e t => by
    cases t with
    | cons h _ =>
      have h' : Rp K F (.ref p) (.tuple ds) := h
      cases h' with
      | tup sq m => exact ⟨_, ex_t e sq, m⟩
  refine ⟨fun i F H a fu e t hi => ?_, fun F H a fu e t => ?_, fun i F H a fu x H' e t hi y => ?_⟩
  · obtain ⟨xs, sq, m⟩ := get e t
    obtain ⟨v, h1, _⟩ := m.get (List.getElem?_eq_getElem hi)
    exact ⟨xs, v, sq, h1⟩
  · obtain ⟨xs, sq, m⟩ := get e t
    exact ⟨xs, sq, Nat.le_of_eq m.len⟩
  · obtain ⟨xs, sq, m⟩ := get e t
    obtain ⟨v, h1, h2⟩ := m.get (List.getElem?_eq_getElem hi)
    obtain ⟨rfl, hx⟩ := y
    rw [hx xs sq] at h1
    cases h1
    exact ⟨F, _, List.getElem?_eq_getElem hi, Gr.refl e, h2⟩
theorem walkD_scr {K : Fg} {p : Addr} {ns : List Int} : WalkD K (Itl K p) (ns.map PyData.int) [.ref p] [.scr ns] := by
  have get : ∀ {F H : Hp} {a : Addr} {fu : Option Nat}, Ex F H → Tm K F a fu [.ref p] [.scr ns] → SqL K H p (ns.map V.int) := fun {F H a fu} e t => by
    cases t with
    | cons h _ =>
      obtain ⟨b, e1, sq⟩ := h
      cases e1
      exact ex_l e sq
  refine ⟨fun i F H a fu e t hi => ?_, fun F H a fu e t => ?_, fun i F H a fu x H' e t hi y => ?_⟩
  · rw [List.length_map] at hi
    exact ⟨_, _, get e t, by rw [List.getElem?_map, List.getElem?_eq_getElem hi]; rfl⟩
  · exact ⟨_, get e t, by rw [List.length_map, List.length_map]; exact Nat.le_refl _⟩
  · obtain ⟨rfl, hx⟩ := y
    rw [List.length_map] at hi
    have h1 := hx _ (get e t)
    rw [List.getElem?_map, List.getElem?_eq_getElem hi] at h1
    cases h1
    exact ⟨F, .int ns[i], by rw [List.getElem?_map, List.getElem?_eq_getElem hi]; rfl, Gr.refl e, .int _⟩
def dItems (te : DE) : DW := fun g Q => te g fun r g1 => match r with
  | .val (.list ds) => Q ds g1
  | .val (.tuple ds) => Q ds g1
  | .scr ns => Q (ns.map PyData.int) g1
  | _ => False
def rangeD (lo : Int) (n : Nat) : List Da := (List.range n).map fun i => .int (lo + (i : Nat))
def dRange1 (te : DE) : DW := fun g Q => te g fun r g1 => match r with
  | .val (.int j) => j < 2 ^ 62 ∧ -(2 ^ 62) ≤ j ∧ Q (rangeD 0 j.toNat) g1
  | _ => False
section
variable {X : Cx} {tg l b : Expr} {te ta tb : DE} {p pos : Pos}
/-- a list, a tuple, the script -/
theorem i_items (hl : PE X l (up X.K te)) : PI X tg l (upI X.K (dItems te)) := by
  refine ⟨fun pins st σ H R I q => ?_⟩
  obtain ⟨c, g, tv, tr, F, a, post, s, t, k⟩ := q
  refine thn (hl.run pins st σ H (fun v H1 => (∃ p xs, v = .ref p ∧ SqL X.K H1 p xs ∧ R (Itl X.K p) H1) ∨ ∃ p xs, v = .ref p ∧ SqT X.K H1 p xs ∧ R (Itt X.K p) H1) I ?_) fun u s1 ⟨x, H1, I1, r1, q1⟩ => ?_
  · refine ⟨c, g, tv, tr, F, a, _, s, t, fun r g1 v H1 F1 a1 t1 s1 => ?_⟩
    cases r with
    | val d =>
      cases d with
      | list ds =>
        have hr : Rp X.K F1 v (.list ds) := s1.top
        cases hr with
        | lst sq m => exact .inl ⟨_, _, rfl, .inl (.inl (s1.eh _ _ sq)), k ds g1 H1 F1 a1 _ [_] [.val (.list ds)] t1 s1 rfl rfl walkD_list⟩
      | tuple ds =>
        have hr : Rp X.K F1 v (.tuple ds) := s1.top
        cases hr with
        | tup sq m => exact .inr ⟨_, _, rfl, ex_t s1.eh sq, k ds g1 H1 F1 a1 _ [_] [.val (.tuple ds)] t1 s1 rfl rfl walkD_tup⟩
      | _ => exact t1.elim
    | scr ns =>
      obtain ⟨b, rfl, sq⟩ := s1.top
      exact .inl ⟨_, _, rfl, ex_l s1.eh sq, k _ g1 H1 F1 a1 _ [_] [.scr ns] t1 s1 rfl rfl walkD_scr⟩
    | src => exact t1.elim
    | ob _ => exact t1.elim
  · have fr := I1.hok.fresh (Nat.le_refl s1.heap.objs.size)
    have fp : ∀ b ∈ [s1.heap.objs.size], FpOk X pins H1 b := fun b hb => by
      cases List.mem_singleton.mp hb
      exact I1.fpOk (Nat.le_refl _) fr
    rcases q1 with ⟨p, xs, rfl, sq, q⟩ | ⟨p, xs, rfl, sq, q⟩
    · cases r1
      obtain ⟨its, rv, pl, hz⟩ := I1.list sq
      exact wpAny_pyIter_list pl.isList ⟨_, _, _, _, H1, rfl, I1.kept (t' := s1.toks) fun b o e => Heap.get?_push_of_some _ e, turn_list p _, ⟨_, Heap.get?_push_size _ rfl, rfl, rfl⟩, fp, q⟩
    · cases r1
      obtain ⟨its, rv, pl, hz⟩ := I1.tuple sq
      exact wpAny_pyIter_tuple (show s1.heap.IsTuple p its.toArray from pl) ⟨_, _, _, _, H1, rfl, I1.kept (t' := s1.toks) fun b o e => Heap.get?_push_of_some _ e, turn_tuple p _, ⟨_, Heap.get?_push_size _ rfl, rfl, rfl⟩, fp, q⟩
theorem pi_to {w w' : TI} (h : PI X tg l w) (i : ∀ σ H R, w' σ H R → w σ H R) : PI X tg l w' := ⟨fun pins s σ H R I q => h.run pins s σ H R I (i _ _ _ q)⟩
theorem rangeD_get {lo : Int} {n i : Nat} (h : i < n) : (rangeD lo n)[i]? = some (.int (lo + (i : Nat))) := by
  unfold rangeD
  rw [List.getElem?_map, List.getElem?_range h]
  rfl
theorem rangeD_len (lo : Int) (n : Nat) : (rangeD lo n).length = n := by
  unfold rangeD
  rw [List.length_map, List.length_range]
theorem walkD_range {K : Fg} {lo : Int} {n : Nat} : WalkD K (Itr lo n) (rangeD lo n) [] [] := by
  refine ⟨fun i F H a fu e t hi => ?_, fun F H a fu e t => ?_, fun i F H a fu x H' e t hi y => ?_⟩
  · rw [rangeD_len] at hi; exact hi
  · rw [rangeD_len]; exact Nat.le_refl n
  · rw [rangeD_len] at hi
    obtain ⟨rfl, rfl⟩ := y
    exact ⟨F, _, rangeD_get hi, Gr.refl e, .int _⟩
theorem i_range1 (hg : Gl X "range") (hm : X.mg "range" = none) (ha : PE X l (up X.K te)) (hs : starEach [l] X.env = [(false, eval l X.env)] := by rfl) : PI X tg (.Call (.Name "range" p) [l] [] pos) (upI X.K (dRange1 te)) :=
  pi_to (pi_range1 hg hm (pa_cons ha pa_nil hs) hs) fun σ H R q => by
  obtain ⟨c, g, tv, tr, F, a, post, s, t, k⟩ := q
  refine ⟨c, g, tv, tr, F, a, _, s, t, fun r g1 v H1 F1 a1 t1 s1 => ?_⟩
  cases r with
  | val d =>
    cases d with
    | int j =>
      have hr : Rp X.K F1 v (.int j) := s1.top
      cases hr
      exact ⟨j, rfl, t1.2.1, t1.1, k _ g1 H1 F1 a1 _ [] [] t1.2.2 s1.pop1 rfl rfl walkD_range⟩
    | _ => exact t1.elim
  | _ => exact t1.elim
end
end Z
namespace Z
open L2 PySem PySem.Spec PyProof.Rows
open Evl (Ex ex_l ex_t ex_rd fresh_back)
variable {Wx : WX}
def upGw (K : Fg) (vs : List Nat) (t : DG) : TG := fun v σ H Q => ∃ c g tv tr F a r post, Sta K c g σ H (v :: tv) (r :: tr) F a ∧ t r g post ∧
  ∀ g' σ' H' F' a', post g' → Sta K c g' σ' H' tv tr F' a' → wipe σ' vs = wipe σ vs → Q σ' H'
def upGsw (K : Fg) (vs : List Nat) (t : DGs) : TGs := fun us σ H Q => ∃ c g tv tr F a ds post, Sta K c g σ H (us ++ tv) (ds.map Rv.val ++ tr) F a ∧ us.length = ds.length ∧ t ds g post ∧
  ∀ g' σ' H' F' a', post g' → Sta K c g' σ' H' tv tr F' a' → wipe σ' vs = wipe σ vs → Q σ' H'
theorem wipe_get {σ : L2.St} : ∀ {vs : List Nat} {i : Nat}, i ∉ vs → (wipe σ vs)[i]? = σ[i]?
  | [], _, _ => rfl
  | v :: vs, i, h => by
    show ((wipe σ vs).set v none)[i]? = _
    rw [List.getElem?_set_ne (fun e => h (by rw [e]; exact List.mem_cons_self)), wipe_get fun z => h (List.mem_cons_of_mem _ z)]
theorem wipe_in {σ : L2.St} : ∀ {vs : List Nat} {i : Nat}, i ∈ vs → i < σ.length → (wipe σ vs)[i]? = some none
  | v :: vs, i, h, hl => by
    show ((wipe σ vs).set v none)[i]? = _
    by_cases e : v = i
    · subst e
      exact List.getElem?_set_self (by rw [wipe_length]; exact hl)
    · rw [List.getElem?_set_ne e]
      rcases List.mem_cons.mp h with z | z
      · exact absurd z.symm e
      · exact wipe_in z hl
theorem wipe_set {σ : L2.St} {vs : List Nat} {i : Nat} {x : Option V} (h : i ∈ vs) : wipe (σ.set i x) vs = wipe σ vs := by
  apply List.ext_getElem?
  intro j
  by_cases hj : j ∈ vs
  · by_cases hl : j < σ.length
    · rw [wipe_in hj (by rw [List.length_set]; exact hl), wipe_in hj hl]
    · rw [List.getElem?_eq_none (by rw [wipe_length, List.length_set]; omega), List.getElem?_eq_none (by rw [wipe_length]; omega)]
  · rw [wipe_get hj, wipe_get hj, List.getElem?_set_ne (fun e => hj (by rw [← e]; exact h))]
section
variable {X : Cx} {pos : Pos} {e : Expr} {es : List Expr} {vs : List Nat} {K : Fg}
theorem gw_name {i : Nat} (hk : K = X.K) (h : PG X e (gName i)) (hi : i ∈ vs) : PG X e (upGw K vs (dN i)) := pg_to h fun v σ H Q q => by
  subst hk
  obtain ⟨c, g, tv, tr, F, a, r, post, s, t, k⟩ := q
  exact k _ _ H F a t (s.set i) (wipe_set hi)
theorem gsw_nil : PGs X [] (upGsw K vs dTn) := pgs_to pgs_nil fun us σ H Q q => by
  obtain ⟨c, g, tv, tr, F, a, ds, post, s, hl, t, k⟩ := q
  cases ds with
  | nil =>
    have : us = [] := List.length_eq_zero_iff.mp hl
    subst this
    exact ⟨rfl, k _ _ H F a t s rfl⟩
  | cons d r => exact t.elim
theorem gsw_cons {t : DG} {u : DGs} (h : PG X e (upGw K vs t)) (hr : PGs X es (upGsw K vs u)) (hs : (assignEach (e :: es) X.env).map (·.2) = assign e X.env :: (assignEach es X.env).map (·.2) := by rfl) : PGs X (e :: es) (upGsw K vs (dTc t u)) := pgs_to (pgs_cons h hr hs) fun us σ H Q q => by
  obtain ⟨c, g, tv, tr, F, a, ds, post, s, hl, t, k⟩ := q
  cases ds with
  | nil => exact t.elim
  | cons d r =>
    cases us with
    | nil => simp at hl
    | cons v us =>
      refine ⟨v, us, rfl, c, g, _, _, F, a, _, _, s, t, fun g1 σ1 H1 F1 a1 t1 s1 w1 => ?_⟩
      exact ⟨c, g1, tv, tr, F1, a1, r, _, s1, by simpa using hl, t1, fun g2 σ2 H2 F2 a2 t2 s2 w2 => k g2 σ2 H2 F2 a2 t2 s2 (w2.trans w1)⟩
theorem gw_tup {n k : Nat} {t : DGs} (hk : K = X.K) (hc : X.calm = true) (h : PGs X es (upGsw K vs t)) (hn : (assignEach es X.env).length = n := by rfl) (hf : List.findIdx? (fun x => x.1) (assignEach es X.env) = none := by rfl) : PG X (.Tuple es k pos) (upGw K vs (dT n t)) :=
  pg_to (pg_tup hc h hn hf) fun v σ H Q q => by
  subst hk
  obtain ⟨c, g, tv, tr, F, a, r, post, s, t, k⟩ := q
  cases r with
  | val d =>
    cases d with
    | tuple ds =>
      have hr : Rp X.K F v (.tuple ds) := s.top
      cases hr with
      | tup sq m =>
        refine ⟨_, _, rfl, ex_t s.eh sq, by rw [m.len]; exact t.1, c, g, tv, tr, F, a, ds, post, s.pop ((Tm.ofRps m).app s.pop1.tmp), m.len, t.2, k⟩
    | _ => exact t.elim
  | _ => exact t.elim
end
def noOwn : Option Sv → Option Sv
  | some (.own _) => none
  | x => x
def wipeS (sl : List (Option Sv)) : List Nat → List (Option Sv)
  | [] => sl
  | v :: vs => (wipeS sl vs).set v none
def hide (vs : List Nat) (sl : List (Option Sv)) : List (Option Sv) := wipeS (sl.map noOwn) vs
theorem wipeS_len (sl : List (Option Sv)) : ∀ vs, (wipeS sl vs).length = sl.length
  | [] => rfl
  | v :: vs => by
    show ((wipeS sl vs).set v none).length = _
    rw [List.length_set, wipeS_len sl vs]
theorem wipeS_some {sl : List (Option Sv)} : ∀ {vs : List Nat} {i : Nat} {s : Sv}, (wipeS sl vs)[i]? = some (some s) → i ∉ vs ∧ sl[i]? = some (some s)
  | [], _, _, h => ⟨by simp, h⟩
  | v :: vs, i, s, h => by
    rcases set_some (show ((wipeS sl vs).set v none)[i]? = some (some s) from h) with ⟨_, _, e⟩ | ⟨ne, e⟩
    · cases e
    · obtain ⟨h1, h2⟩ := wipeS_some e
      exact ⟨by simp only [List.mem_cons, not_or]; exact ⟨ne, h1⟩, h2⟩
theorem hide_some {sl : List (Option Sv)} {vs : List Nat} {i : Nat} {s : Sv} (h : (hide vs sl)[i]? = some (some s)) : i ∉ vs ∧ sl[i]? = some (some s) ∧ ∀ ds, s ≠ .own ds := by
  obtain ⟨h1, h2⟩ := wipeS_some h
  rw [List.getElem?_map] at h2
  cases q : sl[i]? with
  | none => rw [q] at h2; cases h2
  | some x =>
    rw [q] at h2
    have h3 : noOwn x = some s := Option.some.inj h2
    refine ⟨h1, ?_, fun ds e => ?_⟩
    · cases x with
      | none => cases h3
      | some y => cases y <;> first | (cases h3; rfl) | cases h3
    · subst e
      cases x with
      | none => cases h3
      | some y => cases y <;> cases h3
def fuN (fu fu' : Option Nat) : Option Nat := match fu with
  | some _ => fu'
  | none => none
def lcD (sl : List (Option Sv)) (t : DG) (tt : DT) (te : DE) : List Da → List Da → Option Nat → (List Da → Option Nat → Prop) → Prop
  | [], acc, fu, Q => Q acc fu
  | x :: xs, acc, fu, Q => t (.val x) ⟨sl, fu, false⟩ fun g1 => tt g1 fun b g2 =>
    (b = true → te g2 fun r g3 => match r with
      | .val d => acc.length < 1000000 ∧ lcD sl t tt te xs (acc ++ [d]) (fuN fu g3.fu) Q
      | _ => False) ∧ (b = false → lcD sl t tt te xs acc (fuN fu g2.fu) Q)
def dYes : DT := fun g Q => Q true g
def dLc (vs : List Nat) (tw : DW) (t : DG) (tt : DT) (te : DE) : DL := fun g Q => tw g fun ds g1 => lcD (hide vs g1.sl) t tt te ds [] g1.fu fun acc fu' => Q acc { g1 with fu := fu' }
section
variable {K : Fg} {F1 H1 F H : Hp} {a D : Addr} {fu0 fu : Option Nat} {acc : List Da}
/-- behind a turn: from the nested entry back to the one ahead of the comprehension -/
theorem Out.turn (o : Out K F1 H1 a fu0 fu F H (.ref D) (.own acc)) {g : Gs} {σ : L2.St} {H4 F4 : Hp} {tv : List V} {tr : List Rv} {a4 : Addr} (hfu : fu0 = none → fu = none) (hD : fu0 ≠ none → D ≠ a) (s : Sta K ⟨F, H, if fu = none then none else some a⟩ g σ H4 tv tr F4 a4) :
    (fu0 ≠ none → a4 = a) ∧ F4 D = none ∧ (fu0 = none → fuN fu g.fu = none) ∧ (∃ xs, H4 D = some (.lst xs) ∧ Rps K F4 xs acc) ∧ Out K F1 H1 a fu0 (fuN fu g.fu) F4 H4 (.ref D) (.own acc) := by
  obtain ⟨o', xs, eD, d1, d2, d3, d4⟩ := o.rep
  cases eD
  have fne : fu0 ≠ none → fu ≠ none := fun hf => by
    obtain ⟨n, e, _⟩ := o.src hf
    exact ne_none e
  have ext1 : fu0 ≠ none → (if fu = none then none else some a : Option Addr) = some a := fun hf => if_neg (fne hf)
  have ext0 : ∀ b, (fu0 ≠ none → b ≠ a) → (if fu = none then none else some a : Option Addr) ≠ some b := fun b hb => by
    by_cases hf : fu = none
    · rw [if_pos hf]; exact fun z => nomatch z
    · rw [if_neg hf]
      intro z
      cases z
      exact hb (fun z => hf (hfu z)) rfl
  have a4e : fu0 ≠ none → a4 = a ∧ g.fu ≠ none := fun hf => s.ex a (ext1 hf)
  have hD4 : H4 D = some (.lst xs) := s.keep D _ (ext0 D hD) (fun _ z => by cases z) d3
  have hF4 : F4 D = none := by
    cases q : F4 D with
    | none => rfl
    | some u =>
      rcases s.new D (ne_none q) with z | z
      · exact absurd d2 z
      · have z' : H D = none := z
        rw [d3] at z'; cases z'
  have hn : fu0 = none → fuN fu g.fu = none := fun z => by
    rw [hfu z]; rfl
  refine ⟨fun hf => (a4e hf).1, hF4, hn, ⟨xs, hD4, d4.up s.e0⟩, ⟨o.f.trans s.e0, s.eh, fun b u hb hn e => s.keep b u (ext0 b hb) hn (o.keep b u hb hn e), fun b q => ?_, fun hf => ?_, ⟨D, xs, rfl, d1, hF4, hD4, d4.up s.e0⟩, o.tab.trans s.tab, s.t0⟩⟩
  · rcases s.new b q with z | z
    · exact o.new b z
    · have z' : H b = none := z
      refine .inr ?_
      cases e : H1 b with
      | none => rfl
      | some u =>
        by_cases hb : fu0 ≠ none → b ≠ a
        · cases u with
          | tbl ps =>
            obtain ⟨ps', w⟩ := o.tab b ps e
            rw [w] at z'; cases z'
          | _ => rw [o.keep b _ hb (fun _ z => by cases z) e] at z'; cases z'
        · have hb1 : fu0 ≠ none := fun w => hb fun w' => absurd w w'
          have hb2 : b = a := Classical.byContradiction fun w => hb fun _ => w
          obtain ⟨n, _, _, x, y, w, q', _⟩ := o.src hb1
          rw [hb2, q'] at z'; cases z'
  · obtain ⟨e1, e2⟩ := a4e hf
    subst e1
    cases q : g.fu with
    | none => exact absurd q e2
    | some n =>
      obtain ⟨h1, _, h3⟩ := s.src n q
      cases q2 : fu with
      | none => exact absurd q2 (fne hf)
      | some m => exact ⟨n, rfl, h1, h3⟩
/-- the list at D grows -/
theorem Out.grow (o : Out K F1 H1 a fu0 fu F H (.ref D) (.own acc)) (hD : fu0 ≠ none → D ≠ a) {xs : List V} {v : V} {d : Da} (hx : H D = some (.lst xs)) (m : Rps K F xs acc) (r : Rp K F v d) : Out K F1 H1 a fu0 fu F (upd H D (.lst (xs ++ [v]))) (.ref D) (.own (acc ++ [d])) := by
  obtain ⟨o', ys, eD, d1, d2, d3, d4⟩ := o.rep
  cases eD
  refine ⟨o.f, fun b u q => ?_, fun b u hb hn e => ?_, o.new, fun hf => ?_, ⟨D, _, rfl, d1, d2, upd_same, m.app (.cons r .nil)⟩, o.tab.trans (.but hx (fun _ z => by cases z) fun b u ne h => by rw [upd_ne ne]; exact h), o.tk.but hx (fun _ z => by cases z) fun b u ne h => by rw [upd_ne ne]; exact h⟩
  · have nb : b ≠ D := fun z => by rw [z, d2] at q; cases q
    rw [upd_ne nb]; exact o.s b u q
  · have nb : b ≠ D := fun z => by rw [z, d1] at e; cases e
    rw [upd_ne nb]; exact o.keep b u hb hn e
  · obtain ⟨n, h1, h2, x, y, w, q', h3⟩ := o.src hf
    exact ⟨n, h1, h2, x, y, w, by rw [upd_ne (fun z => hD hf z.symm)]; exact q', h3⟩
end
theorem lc_sta {K : Fg} {c : Con} {g1 : Gs} {σ : L2.St} {H1 F1 : Hp} {tv : List V} {tr : List Rv} {a : Addr} (s : Sta K c g1 σ H1 tv tr F1 a) (vs : List Nat) {fu : Option Nat} {F H : Hp} {D : Addr} {acc : List Da} (o : Out K F1 H1 a g1.fu fu F H (.ref D) (.own acc)) (hfu : g1.fu = none → fu = none) :
    Sta K ⟨F, H, if fu = none then none else some a⟩ ⟨hide vs g1.sl, fu, false⟩ (wipe σ vs) H tv tr F a := by
  have fne : g1.fu ≠ none → fu ≠ none := fun hf => by
    obtain ⟨n, e, _⟩ := o.src hf
    exact ne_none e
  have bne : fu ≠ none → g1.fu ≠ none := fun hf z => hf (hfu z)
  have tm : Tm K F a fu tv tr := by
    cases q : g1.fu with
    | none =>
      have t := s.tmp.up o.f
      rw [q] at t
      rw [hfu q]
      exact t
    | some n => exact (s.tmp.up o.f).refu (fne (ne_none q))
  refine ⟨Ex.refl F, o.s, fun b u _ _ e => e, fun b q => .inl q, fun b e => ?_, fun z => (by cases z), fun n e => ?_, tm, ?_, fun i sv h => ?_, fun i j ds es _ h => ?_, o.tk, .refl⟩
  · by_cases hf : fu = none
    · simp [hf] at e
    · simp [hf] at e
      exact ⟨e, hf⟩
  · have e' : fu = some n := e
    obtain ⟨n', h1, h2, h3⟩ := o.src (bne (ne_none e'))
    rw [e'] at h1
    cases h1
    exact ⟨h2, .inl (if_neg (ne_none e')), h3⟩
  · show (wipe σ vs).length = (hide vs g1.sl).length
    rw [wipe_length]
    unfold hide
    rw [wipeS_len, List.length_map]
    exact s.len
  · obtain ⟨h1, h2, h3⟩ := hide_some (show (hide vs g1.sl)[i]? = some (some sv) from h)
    obtain ⟨v, w1, w2⟩ := s.slot i sv h2
    refine ⟨v, by rw [wipe_get h1]; exact w1, ?_⟩
    cases sv with
    | val d => exact Rp.up w2 o.f
    | src => exact ⟨w2.1, fne w2.2⟩
    | scr ns => obtain ⟨b, z1, z2⟩ := w2; exact ⟨b, z1, ex_l o.f z2⟩
    | ob k => exact ObOk.up o.f w2
    | own ds => exact absurd rfl (h3 ds)
  · obtain ⟨_, _, h3⟩ := hide_some (show (hide vs g1.sl)[i]? = some (some (Sv.own ds)) from h)
    exact absurd rfl (h3 ds)
section
variable {K : Fg} {vs : List Nat} {tw : DW} {t : DG} {tt : DT} {te : DE}
theorem lc_main : ∀ σ H Q, upL K (dLc vs tw t tt te) σ H Q → tLc (upI K tw) (upGw K vs t) (upT K tt) (up K te) vs σ H Q := fun σ H Q q => by
  obtain ⟨c, g, tv, tr, F, a, post, s, q, k⟩ := q
  refine ⟨c, g, tv, tr, F, a, _, s, q, fun ds g1 H1 F1 a1 J wv wr hf s1 hl hw wd D hD => ?_⟩
  have sp : ∀ {g : Gs} {c : Con} {σ : L2.St} {H F : Hp} {a : Addr}, Sta K c g σ H (wv ++ tv) (wr ++ tr) F a → Tm K F a g.fu wv wr ∧ Tm K F a g.fu tv tr := fun s => Tm.split hl s.tmp
  have srcH : g1.fu ≠ none → ∃ n, g1.fu = some n ∧ F1 a1 = none ∧ SrcAt H1 a1 n := fun hf => by
    cases q : g1.fu with
    | none => exact absurd q hf
    | some n => exact ⟨n, rfl, (s1.src n q).1, (s1.src n q).2.2⟩
  have Da1 : g1.fu ≠ none → D ≠ a1 := fun hf e => by
    obtain ⟨n, _, _, x, y, z, q, _⟩ := srcH hf
    rw [← e, hD] at q; cases q
  have o0 : Out K F1 H1 a1 g1.fu g1.fu F1 (upd H1 D (.lst [])) (.ref D) (.own []) := by
    have eH : Ex H1 (upd H1 D (.lst [])) := Ex.new hD
    refine ⟨Ex.refl F1, s1.eh.trans eH, fun b u _ _ e => eH b u e, fun b q => .inl q, fun hf => ?_, ⟨D, [], rfl, hD, fresh_back s1.eh hD, upd_same, .nil⟩, .ex eH, s1.t0.up (Ex.refl _) (fun b ps h => eH b _ h) fun _ h => .inl h⟩
    obtain ⟨n, h1, h2, x, y, z, q, h3⟩ := srcH hf
    exact ⟨n, h1, h2, x, y, z, eH _ _ q, h3⟩
  refine lc_it wd.walk (fun i H => ∃ F fu acc, Out K F1 H1 a1 g1.fu fu F H (.ref D) (.own acc) ∧ (g1.fu = none → fu = none) ∧ lcD (hide vs g1.sl) t tt te (ds.drop i) acc fu fun acc fu' => post acc { g1 with fu := fu' }) ⟨F1, g1.fu, [], o0, id, hf⟩ (fun i H hi p => ?_) (fun i x H H' hi p y => ?_) (fun H p => ?_)
  · obtain ⟨F, fu, acc, o, hfu, _⟩ := p
    have s2 := lc_sta s1 vs o hfu
    exact ⟨F, a1, fu, s2.eh, (sp s2).1⟩
  · obtain ⟨F, fu, acc, o, hfu, f⟩ := p
    have s2 := lc_sta s1 vs o hfu
    obtain ⟨F2, dx, e1, gr, rx⟩ := wd.yields i F H a1 fu x H' s2.eh (sp s2).1 hi y
    rw [drop_at e1] at f
    refine ⟨_, _, wv ++ tv, wr ++ tr, F2, a1, .val dx, _, (s2.grow gr).push (r := .val dx) rx, f, fun g3 σ3 H3 F3 a3 t3 s3 w3 => ⟨?_, ?_⟩⟩
    · rw [w3]
      apply List.ext_getElem?
      intro j
      by_cases hj : j ∈ vs
      · by_cases hl : j < σ.length
        · rw [wipe_in hj (by rw [wipe_length]; exact hl), wipe_in hj hl]
        · rw [List.getElem?_eq_none (by rw [wipe_length, wipe_length]; omega), List.getElem?_eq_none (by rw [wipe_length]; omega)]
      · rw [wipe_get hj, wipe_get hj]
    · refine ⟨_, g3, _, _, F3, a3, _, s3, t3, fun b g4 H4 F4 a4 t4 s4 => ?_⟩
      cases b with
      | true =>
        rw [if_pos rfl]
        refine ⟨_, g4, _, _, F4, a4, _, s4, t4.1 rfl, fun r g5 v H5 F5 a5 t5 s5 => ?_⟩
        cases r with
        | val d =>
          obtain ⟨ae, fD, fn, ⟨xs, hx, m⟩, o5⟩ := o.turn hfu Da1 s5.pop1
          exact ⟨xs, hx, by rw [m.len]; exact Nat.lt_of_lt_of_le t5.1 (by decide), F5, _, _, o5.grow Da1 hx m s5.top, fn, t5.2⟩
        | _ => exact t5.elim
      | false =>
        rw [if_neg Bool.false_ne_true]
        obtain ⟨ae, fD, fn, ⟨xs, hx, m⟩, o5⟩ := o.turn hfu Da1 s4
        exact ⟨F4, _, _, o5, fn, t4.2 rfl⟩
  · obtain ⟨F, fu, acc, o, hfu, f⟩ := p
    rw [List.drop_length] at f
    have s1' := s1.pop (sp s1).2
    by_cases hf : g1.fu = none
    · have o' := o
      rw [hf] at o'
      have s3 := s1'.after0 o'
      have e : ({ g1 with fu := fu } : Gs) = g1 := by
        rw [hfu hf, ← hf]
      refine k acc _ _ H F a1 f ?_ ?_
      · rw [e]; exact s3
      · rw [e]; exact NewL.of s1' rfl id o.rep
    · exact k acc _ _ H F a1 f (s1'.after1 hf o) (NewL.of (g' := { g1 with fu := fu }) s1' rfl (fun _ => hf) o.rep)
end
section
variable {X : Cx} {elt tg iter : Expr} {ifs : List Expr} {scope : Scope} {own : List (Str × Nat)} {pos spos : Pos} {tw : DW} {t : DG} {tt : DT} {te : DE}
theorem ts_yes : PTs X [] (upT X.K dYes) := ⟨fun pins s σ H Q I q => by
  obtain ⟨c, g, tv, tr, F, a, post, st, t, k⟩ := q
  exact pts_nil.run pins s σ H Q I (k true g H F a t st)⟩
theorem e_lc (hc : X.calm = true) (hN : X.N.Nodup) (hi : PI X tg iter (upI X.K tw)) (hb : BlkOk X.N X.env.scope scope own)
    (hg : ∀ s H C cl fp, PG (X.blk s H scope (compEnvC scope cl C X.env) fp) tg (upGw X.K (own.map (·.2)) t)) (ht : ∀ s H C cl fp, PTs (X.blk s H scope (compEnvC scope cl C X.env) fp) ifs (upT X.K tt))
    (he : ∀ s H C cl fp, PE (X.blk s H scope (compEnvC scope cl C X.env) fp) elt (up X.K te)) (hfs : ∀ x, foldedSetIterable iter X.env x = pure x := by intro _; rfl) :
    PE X (.ListComp elt [{ target := tg, iter := iter, ifs := ifs, is_async := 0 }] scope pos) (upL X.K (dLc (own.map (·.2)) tw t tt te)) := pe_to (pe_lc hc hN hi hb hg ht he hfs) lc_main
theorem s_setLc {i : Nat} {y : Str} {py : Pos} (hc : X.calm = true) (hN : X.N.Nodup) (hiy : X.N[i]? = some y) (hl : X.env.scope.names.lookup y = some .local)
    (hsw : swapsWith (.ListComp elt [{ target := tg, iter := iter, ifs := ifs, is_async := 0 }] scope pos) (some (.Name y py)) spos.line X.env = pure true)
    (hi : PI X tg iter (upI X.K tw)) (hb : BlkOk X.N X.env.scope scope own)
    (hg : ∀ s H C cl fp, PG (X.blk s H scope (compEnvC scope cl C X.env) fp) tg (upGw X.K (own.map (·.2)) t)) (ht : ∀ s H C cl fp, PTs (X.blk s H scope (compEnvC scope cl C X.env) fp) ifs (upT X.K tt))
    (he : ∀ s H C cl fp, PE (X.blk s H scope (compEnvC scope cl C X.env) fp) elt (up X.K te)) (hfs : ∀ x, foldedSetIterable iter X.env x = pure x := by intro _; rfl) :
    PS X (.Assign [.Name y py] (.ListComp elt [{ target := tg, iter := iter, ifs := ifs, is_async := 0 }] scope pos) spos) (upS X.K Wx (dSetL i (dLc (own.map (·.2)) tw t tt te))) := ps_to (ps_setLc hc hN hiy hl hsw hi hb hg ht he hfs) fun D σ H q => by
  obtain ⟨c, g, tv, tr, F, a, d, s, hn, q, k⟩ := q
  exact lc_main σ H _ ⟨c, g, tv, tr, F, a, _, s, q, fun ds g1 v H1 F1 a1 t1 s1 n1 => k.nx _ _ H1 F1 a1 t1 (s1.setOwn n1 i)⟩
end
end Z
namespace Z
open L2 PySem PySem.Spec PyProof.Rows
open Evl (Ex ex_l ex_t ex_rd fresh_back)
abbrev CF := List Rv → (Da → Prop) → Prop
def dCB (f : CF) (ta : DA) : DE := fun g Q => ta g fun rs g1 => f rs fun z => Q (.val z) g1
def CallOk (K : Fg) (r : List V → Hp → VK → Prop) (f : CF) : Prop := ∀ (F H : Hp) (a : Addr) (fu : Option Nat) (vs : List V) (rs : List Rv) (post : Da → Prop) (Q : VK), Ex F H → Tm K F a fu vs rs → f rs post →
  (∀ z v H' F', post z → Gr F H F' H' → Rp K F' v z → Q v H') → r vs H Q
section
variable {X : Cx} {x : Str} {p pos : Pos} {e : Expr} {es : List Expr} {tr : DA} {id T : String} {r : List V → Hp → VK → Prop} {f : CF}
theorem cb_core (hf : CallOk X.K r f) : ∀ σ H Q, up X.K (dCB f tr) σ H Q → tCB r (upA X.K tr) σ H Q := fun σ H Q q => by
  obtain ⟨c, g, tv, tr, F, ad, post, s, t, k⟩ := q
  refine ⟨c, g, tv, tr, F, ad, _, s, t, fun rs g1 vs H1 F1 a1 t1 s1 hl => ?_⟩
  obtain ⟨m1, m2⟩ := s1.tmp.args hl
  exact hf F1 H1 a1 g1.fu vs rs _ _ s1.eh m1 t1 fun z v H' F' hz gr rz => k _ g1 v H' F' a1 hz (((s1.pop m2).grow gr).push (r := .val z) rz)
theorem e_callB (hc : CallR X (.builtin id) r) (hf : CallOk X.K r f) (hg : Gl X x) (hm : X.mg x = none) (hv : bootBuiltins x = some (.builtin id)) (ha : PA X (e :: es) (upA X.K tr)) (hn : x ≠ "__name__" := by decide) (hdb : (x == ("__debug__" : Str)) = false := by decide)
    (he : starEach (e :: es) X.env = (false, eval e X.env) :: starEach es X.env := by rfl) (hpl : (backTo pos (starEach es X.env)).any (·.1) = false := by rfl) : PE X (.Call (.Name x p) (e :: es) [] pos) (up X.K (dCB f tr)) :=
  pe_to (pe_callB hc hg hm hv ha hn hdb he hpl) (cb_core hf)
theorem e_callTy (hc : CallR X (.type T) r) (hf : CallOk X.K r f) (hg : Gl X x) (hm : X.mg x = none) (hv : bootBuiltins x = some (.type T)) (ha : PA X (e :: es) (upA X.K tr)) (hn : x ≠ "__name__" := by decide) (hdb : (x == ("__debug__" : Str)) = false := by decide)
    (he : starEach (e :: es) X.env = (false, eval e X.env) :: starEach es X.env := by rfl) (hpl : (backTo pos (starEach es X.env)).any (·.1) = false := by rfl) : PE X (.Call (.Name x p) (e :: es) [] pos) (up X.K (dCB f tr)) :=
  pe_to (pe_callTy hc hg hm hv ha hn hdb he hpl) (cb_core hf)
end
section
variable {K : Fg}
theorem Tm.i1 {F : Hp} {a : Addr} {fu : Option Nat} {vs : List V} {i : Int} (h : Tm K F a fu vs [.val (.int i)]) : vs = [.int i] := by
  cases h with
  | cons h t =>
    cases t
    have h' : Rp K F _ (.int i) := h
    cases h'
    rfl
theorem Tm.i2 {F : Hp} {a : Addr} {fu : Option Nat} {vs : List V} {i j : Int} (h : Tm K F a fu vs [.val (.int i), .val (.int j)]) : vs = [.int i, .int j] := by
  cases h with
  | cons h t =>
    cases t.i1
    have h' : Rp K F _ (.int i) := h
    cases h'
    rfl
theorem Tm.v1 {F : Hp} {a : Addr} {fu : Option Nat} {vs : List V} {d : Da} (h : Tm K F a fu vs [.val d]) : ∃ v, vs = [v] ∧ Rp K F v d := by
  cases h with
  | cons h t =>
    cases t
    exact ⟨_, rfl, h⟩
def cInt1 (o : Int → Int) : CF := fun rs post => match rs with
  | [.val (.int i)] => post (.int (o i))
  | _ => False
def cInt2 (o : Int → Int → Int) : CF := fun rs post => match rs with
  | [.val (.int i), .val (.int j)] => post (.int (o i j))
  | _ => False
theorem ok_int1 {o : Int → Int} : CallOk K (fun xs H Q => ∃ i, xs = [V.int i] ∧ Q (.int (o i)) H) (cInt1 o) := fun F H a fu vs rs post Q e t hf k => by
  unfold cInt1 at hf
  split at hf
  · exact ⟨_, t.i1, k _ _ H F hf (Gr.refl e) (.int _)⟩
  · exact hf.elim
theorem ok_int2 {o : Int → Int → Int} : CallOk K (fun xs H Q => ∃ i j, xs = [V.int i, V.int j] ∧ Q (.int (o i j)) H) (cInt2 o) := fun F H a fu vs rs post Q e t hf k => by
  unfold cInt2 at hf
  split at hf
  · exact ⟨_, _, t.i2, k _ _ H F hf (Gr.refl e) (.int _)⟩
  · exact hf.elim
/-- len -/
def cLen : CF := fun rs post => match rs with
  | [.val (.list ds)] => post (.int ds.length)
  | [.val (.tuple ds)] => post (.int ds.length)
  | [.val (.str x)] => x.length ≤ sizeLine ∧ post (.int x.length)
  | [.scr ns] => post (.int ns.length)
  | _ => False
theorem ok_len : CallOk K (fun xs H Q => ∃ x n, xs = [x] ∧ LenV K x H n ∧ Q (.int n) H) cLen := fun F H a fu vs rs post Q e t hf k => by
  unfold cLen at hf
  split at hf
  · rename_i ds
    obtain ⟨v, rfl, r⟩ := t.v1
    cases r with
    | lst sq m => exact ⟨_, _, rfl, .inl ⟨_, .inl (.inl (e _ _ sq)), m.len.symm⟩, k _ _ H F hf (Gr.refl e) (.int _)⟩
  · rename_i ds
    obtain ⟨v, rfl, r⟩ := t.v1
    cases r with
    | tup sq m => exact ⟨_, _, rfl, .inr ⟨_, ex_t e sq, m.len.symm⟩, k _ _ H F hf (Gr.refl e) (.int _)⟩
  · rename_i x
    obtain ⟨v, rfl, r⟩ := t.v1
    cases r
    exact ⟨_, _, rfl, ⟨hf.1, rfl⟩, k _ _ H F hf.2 (Gr.refl e) (.int _)⟩
  · rename_i ns
    cases t with
    | cons h t =>
      cases t
      obtain ⟨b, rfl, sq⟩ := h
      exact ⟨_, _, rfl, .inl ⟨_, ex_l e sq, (List.length_map ..).symm⟩, k _ _ H F hf (Gr.refl e) (.int _)⟩
  · exact hf.elim
/-- all of a list of bools -/
def boolsD : List Da → Option (List Bool)
  | [] => some []
  | .bool b :: r => (boolsD r).map (b :: ·)
  | _ :: _ => none
theorem bools_v {F : Hp} : ∀ {vs : List V} {ds : List Da} {bs : List Bool}, Rps K F vs ds → boolsD ds = some bs → vs = bs.map V.bl
  | _, _, _, .nil, h => by cases h; rfl
  | _, d :: ds, bs, .cons r t, h => by
    cases d with
    | bool b =>
      unfold boolsD at h
      cases q : boolsD ds with
      | none => rw [q] at h; cases h
      | some cs =>
        rw [q] at h
        cases h
        cases r
        rw [bools_v t q]
        rfl
    | _ => cases h
def cAll : CF := fun rs post => match rs with
  | [.val (.list ds)] => (match boolsD ds with | some bs => post (.bool (bs.all id)) | none => False)
  | _ => False
theorem ok_all : CallOk K (rAll K) cAll := fun F H a fu vs rs post Q e t hf k => by
  unfold cAll at hf
  split at hf
  · rename_i ds
    split at hf
    · rename_i bs q
      obtain ⟨v, rfl, r⟩ := t.v1
      cases r with
      | lst sq m =>
        rw [bools_v m q] at sq
        exact ⟨_, bs, rfl, .inl (.inl (e _ _ sq)), k _ _ H F hf (Gr.refl e) (.bl _)⟩
    · exact hf.elim
  · exact hf.elim
/-- tuple(..) -/
def cTuple : CF := fun rs post => match rs with
  | [.val (.list ds)] => post (.tuple ds)
  | [.val (.tuple ds)] => post (.tuple ds)
  | _ => False
theorem ok_tuple : CallOk K (fun xs H Q => ∃ p ys, xs = [V.ref p] ∧ ((SqL K H p ys ∧ ∀ l, H l = none → Q (.ref l) (upd H l (.tup ys))) ∨ (SqT K H p ys ∧ Q (.ref p) H))) cTuple := fun F H a fu vs rs post Q e t hf k => by
  unfold cTuple at hf
  split at hf
  · rename_i ds
    obtain ⟨v, rfl, r⟩ := t.v1
    cases r with
    | lst sq m =>
      rename_i pp xs
      refine ⟨_, _, rfl, .inl ⟨.inl (.inl (e _ _ sq)), fun l hl => ?_⟩⟩
      have gr := Gr.new (o := .tup xs) e hl
      exact k _ _ _ _ hf gr (.tup (.inl (.inl upd_same)) (m.up gr.f))
  · rename_i ds
    obtain ⟨v, rfl, r⟩ := t.v1
    cases r with
    | tup sq m => exact ⟨_, _, rfl, .inr ⟨ex_t e sq, k _ _ H F hf (Gr.refl e) (.tup sq m)⟩⟩
  · exact hf.elim
end
def tyD : Da → String
  | .none => "NoneType"
  | .bool _ => "bool"
  | .int _ => "int"
  | .str _ => "str"
  | .list _ => "list"
  | .tuple _ => "tuple"
  | .dict _ => "dict"
theorem ty_v {K : Fg} {F H : Hp} {v : V} {d : Da} (e : Ex F H) (r : Rp K F v d) : TyX K H v (.type (tyD d)) := by
  cases r with
  | non => exact .base .non
  | bl b => exact .base (.bl b)
  | int i => exact .base (.int i)
  | str x => exact .base (.str x)
  | lst sq m => exact .base (.lst (e _ _ sq))
  | tup sq m =>
    rcases sq with (h | ⟨o, h⟩) | ⟨o, its, n, h1, h2, _⟩
    · exact .base (.tup (e _ _ h))
    · exact .fTuple (e _ _ h)
    · exact .kTuple h1 h2
  | dct h _ =>
    rcases h with h | ⟨o, h⟩
    · exact .base (.dK (e _ _ h))
    · exact .fDict (e _ _ h)
def isTy (T : String) (d : Da) : Bool := match d with
  | .none => T == "NoneType"
  | .bool _ => T == "bool" || T == "int"
  | .int _ => T == "int"
  | .str _ => T == "str"
  | .list _ => T == "list"
  | .tuple _ => T == "tuple"
  | .dict _ => T == "dict"
def dIsi (T : String) (ta : DE) : DE := fun g Q => ta g fun r g1 => match r with
  | .val d => Q (.val (.bool (isTy T d))) g1
  | _ => False
section
variable {X : Cx} {x : Str} {p pos : Pos} {e c : Expr} {te : DE} {T : String}
theorem e_isi (hT : ∀ d : Da, kitB (tyD d) T = some (isTy T d)) (hg : Gl X "isinstance") (hm : X.mg "isinstance" = none) (he : PE X e (up X.K te)) (hc : PE X c (tC (.ty T)))
    (h1 : starEach [e, c] X.env = (false, eval e X.env) :: starEach [c] X.env := by rfl) (h2 : starEach [c] X.env = (false, eval c X.env) :: starEach [] X.env := by rfl) (hpl : (backTo pos (starEach [c] X.env)).any (·.1) = false := by rfl) :
    PE X (.Call (.Name "isinstance" p) [e, c] [] pos) (up X.K (dIsi T te)) := pe_to (pe_callB call_isi hg hm (by decide +kernel) (pa_cons he (pa_cons hc pa_nil h2) h1) (by decide) (by decide) h1 hpl) fun σ H Q q => by
  obtain ⟨c, g, tv, tr, F, ad, post, s, t, k⟩ := q
  refine ⟨c, g, tv, tr, F, ad, _, s, t, fun r g1 v H1 F1 a1 t1 s1 => ?_⟩
  cases r with
  | val d => exact ⟨_, _, _, _, isTy T d, rfl, .ty T, ty_v s1.eh s1.top, kit_ty (hT d), k _ g1 _ H1 F1 a1 t1 (s1.pop1.push (r := .val (.bool _)) (Rp.bl _))⟩
  | _ => exact t1.elim
end
theorem kit_int : ∀ d : Da, kitB (tyD d) "int" = some (isTy "int" d)
  | .none => (by decide +kernel : kitB "NoneType" "int" = some false)
  | .bool _ => (by decide +kernel : kitB "bool" "int" = some true)
  | .int _ => (by decide +kernel : kitB "int" "int" = some true)
  | .str _ => (by decide +kernel : kitB "str" "int" = some false)
  | .list _ => (by decide +kernel : kitB "list" "int" = some false)
  | .tuple _ => (by decide +kernel : kitB "tuple" "int" = some false)
  | .dict _ => (by decide +kernel : kitB "dict" "int" = some false)
theorem kit_bool : ∀ d : Da, kitB (tyD d) "bool" = some (isTy "bool" d)
  | .none => (by decide +kernel : kitB "NoneType" "bool" = some false)
  | .bool _ => (by decide +kernel : kitB "bool" "bool" = some true)
  | .int _ => (by decide +kernel : kitB "int" "bool" = some false)
  | .str _ => (by decide +kernel : kitB "str" "bool" = some false)
  | .list _ => (by decide +kernel : kitB "list" "bool" = some false)
  | .tuple _ => (by decide +kernel : kitB "tuple" "bool" = some false)
  | .dict _ => (by decide +kernel : kitB "dict" "bool" = some false)
theorem kit_str : ∀ d : Da, kitB (tyD d) "str" = some (isTy "str" d)
  | .none => (by decide +kernel : kitB "NoneType" "str" = some false)
  | .bool _ => (by decide +kernel : kitB "bool" "str" = some false)
  | .int _ => (by decide +kernel : kitB "int" "str" = some false)
  | .str _ => (by decide +kernel : kitB "str" "str" = some true)
  | .list _ => (by decide +kernel : kitB "list" "str" = some false)
  | .tuple _ => (by decide +kernel : kitB "tuple" "str" = some false)
  | .dict _ => (by decide +kernel : kitB "dict" "str" = some false)
theorem kit_tuple : ∀ d : Da, kitB (tyD d) "tuple" = some (isTy "tuple" d)
  | .none => (by decide +kernel : kitB "NoneType" "tuple" = some false)
  | .bool _ => (by decide +kernel : kitB "bool" "tuple" = some false)
  | .int _ => (by decide +kernel : kitB "int" "tuple" = some false)
  | .str _ => (by decide +kernel : kitB "str" "tuple" = some false)
  | .list _ => (by decide +kernel : kitB "list" "tuple" = some false)
  | .tuple _ => (by decide +kernel : kitB "tuple" "tuple" = some true)
  | .dict _ => (by decide +kernel : kitB "dict" "tuple" = some false)
def svOf : Rv → Option Sv := fun r => some (rsv r)
section
variable {P : Program} {w : World} {K : Fg} {mg : Str → Option Value} {base : Heap} {CX : CXT}
def ent (N : List Str) (rs : List Rv) (fu : Option Nat) : Gs := ⟨rs.map svOf ++ List.replicate (N.length - rs.length) none, fu, fu.isNone⟩
theorem Tm.len : ∀ {F : Hp} {a : Addr} {fu : Option Nat} {vs : List V} {rs : List Rv}, Tm K F a fu vs rs → vs.length = rs.length
  | _, _, _, _, _, .nil => rfl
  | _, _, _, _, _, .cons _ t => congrArg (· + 1) t.len
theorem Tm.get : ∀ {F : Hp} {a : Addr} {fu : Option Nat} {vs : List V} {rs : List Rv} {i : Nat} {r : Rv}, Tm K F a fu vs rs → rs[i]? = some r → ∃ v, vs[i]? = some v ∧ RvOk K F a fu v r
  | _, _, _, _, _, _, _, .nil, e => by simp at e
  | _, _, _, _, _, 0, _, .cons r _, e => by simp at e; subst e; exact ⟨_, rfl, r⟩
  | _, _, _, _, _, i + 1, r, .cons _ t, e => by
    obtain ⟨u, h1, h2⟩ := Tm.get (i := i) (r := r) t (by simpa using e)
    exact ⟨u, by simpa using h1, h2⟩
theorem sta_ent {N : List Str} {F H : Hp} {a : Addr} {fu : Option Nat} {vs : List V} {rs : List Rv} (e : Ex F H) (t : Tm K F a fu vs rs) (hs : ∀ n, fu = some n → F a = none ∧ SrcAt H a n) (tk : TabK K F H) :
    Sta K ⟨F, H, if fu = none then none else some a⟩ (ent N rs fu) (L2.start N vs) H [] [] F a := by
  have atS : ∀ (i : Nat) s, (ent N rs fu).sl[i]? = some (some s) → ∃ r, rs[i]? = some r ∧ s = rsv r := fun i s h => by
    have h' : (rs.map svOf ++ List.replicate (N.length - rs.length) none)[i]? = some (some s) := h
    by_cases hi : i < rs.length
    · rw [List.getElem?_append_left (by simpa using hi), List.getElem?_map, List.getElem?_eq_getElem hi] at h'
      cases h'
      exact ⟨_, List.getElem?_eq_getElem hi, rfl⟩
    · rw [List.getElem?_append_right (by simpa using hi), List.getElem?_replicate] at h'
      split at h' <;> cases h'
  have noO : ∀ (i : Nat) ds, (ent N rs fu).sl[i]? = some (some (.own ds)) → False := fun i ds h => by
    obtain ⟨r, _, e⟩ := atS i _ h
    cases r <;> cases e
  refine ⟨Ex.refl F, e, fun b o _ _ h => h, fun b h => .inl h, fun b h => ?_, fun h => ?_, fun n h => ?_, .nil, ?_, fun i s h => ?_, fun i j ds es _ h => (noO i ds h).elim, tk, .refl⟩
  · by_cases hf : fu = none
    · simp [hf] at h
    · simp [hf] at h
      exact ⟨h, hf⟩
  · have h' : fu = none := Option.isNone_iff_eq_none.mp h
    exact if_pos h'
  · have h' : fu = some n := h
    exact ⟨(hs n h').1, .inl (if_neg (ne_none h')), (hs n h').2⟩
  · unfold L2.start ent
    rw [List.length_append, List.length_append, List.length_map, List.length_map, t.len, List.length_replicate, List.length_replicate]
  · obtain ⟨r, h1, rfl⟩ := atS i s h
    obtain ⟨v, h2, h3⟩ := t.get h1
    have hi : i < vs.length := (List.getElem?_eq_some_iff.mp h2).1
    refine ⟨v, ?_, ?_⟩
    · unfold L2.start
      rw [List.getElem?_append_left (by simpa using hi), List.getElem?_map, h2]
      rfl
    · cases r <;> exact h3
/-- any wish: no rule of the body asks for one -/
def W0 : WX := fun _ _ _ _ => True
theorem fn_data {x qual : Str} {st : Stmt} {f : Addr} {fd : FuncData} {N ps : List Str} {k : Nat} {fs : FSp} (Fu : Fun K x qual st f fd) (S : FnScope N ps (defScope st)) (tb : DS)
    (hd : ∀ (cdv : Value) (A : Around) (outer : List Env) (s : Shared) (H : Hp) (E : XK), Room k (A.deeper (envOfC qual (defScope st) s.heap.objs.size f cdv)) → (A.deeper (envOfC qual (defScope st) s.heap.objs.size f cdv)).guards = some [] →
      PSs (cxOf CX P w K mg base N qual (defScope st) f cdv A outer s H E).nox (defBody st) (upS K W0 tb))
    (hb : ∀ rs fu post, rs.length = ps.length → fs rs fu post → tb ⟨fun g => post (.val .none) g.fu, fun r g => post r g.fu, fun _ => False, fun _ => False⟩ (ent N rs fu)) : Fn P w K mg base CX (k + 1) f fd ps (lift K ps.length fs) := by
  refine fn_by Fu S lift_len fun cdv A outer s H vs Q E hr hg h => ⟨_, (hd cdv A outer s H E hr hg).nox, ?_⟩
  obtain ⟨F, a, rs, fu, post, e, t, hl, hs, tk, hf, hq⟩ := h
  have st0 := sta_ent (N := N) e t hs tk
  have fin : ∀ {g : Gs} {σ : L2.St} {H' F' : Hp} {tv : List V} {tr : List Rv} {a' : Addr} {v : V} {r : Rr}, Sta K ⟨F, H, if fu = none then none else some a⟩ g σ H' tv tr F' a' → RrOk K F' H H' v r → Out K F H a fu g.fu F' H' v r := fun {g σ H' F' tv tr a' v r} s hr => by
    refine ⟨s.e0, s.eh, fun b o hb hn h => s.keep b o (fun z => ?_) hn h, s.new, fun hf => ?_, hr, s.tab, s.t0⟩
    · by_cases hf : fu = none
      · simp [hf] at z
      · simp [hf] at z
        exact hb hf z.symm
    · obtain ⟨e1, e2⟩ := s.ex a (if_neg hf)
      subst e1
      cases q : g.fu with
      | none => exact absurd q e2
      | some n => exact ⟨n, rfl, (s.src n q).1, (s.src n q).2.2⟩
  refine ⟨_, _, [], [], F, a, _, st0, rfl, hb rs fu post (by rw [← t.len]; exact hl) hf, ⟨fun g σ H' F' a' h s => ?_, fun g σ H' F' a' h s => h, fun g σ H' F' a' h s => h, fun x g σ v H' F' a' h s => ?_, fun ds g σ v H' F' a' h s n => ?_, fun nm z g σ H' F' a' cls dd h s ox => ?_⟩⟩
  · exact hq _ _ _ H' F' h (fin s (r := .val .none) Rp.non)
  · exact hq _ _ _ H' F' h (fin s (r := .val x) s.top)
  · obtain ⟨o, xs, q1, q2, q3, q4, q5, _⟩ := n.ex
    exact hq _ _ _ H' F' h (fin s (r := .own ds) ⟨o, xs, q1, q3, q2, q4, q5⟩)
  · exact True.intro
end
end Z
namespace Z
open L2 PySem PySem.Spec PyProof.Rows
open Evl (Ex ex_l ex_t ex_rd fresh_back)
/-- the table of the def that makes lambdas -/
def tabA (K : Fg) : List Addr := LAM.filterMap fun x => (PySem.W.tabIn K x).map Prod.snd
theorem tabA_of {K : Fg} {x : Str} {c P : Addr} (h1 : x ∈ LAM) (h2 : PySem.W.tabIn K x = some (c, P)) : P ∈ tabA K :=
  List.mem_filterMap.mpr ⟨x, h1, by rw [h2]; rfl⟩
theorem of_tabA {K : Fg} {P : Addr} (h : P ∈ tabA K) : ∃ x c, x ∈ LAM ∧ PySem.W.tabIn K x = some (c, P) := by
  obtain ⟨x, h1, h2⟩ := List.mem_filterMap.mp h
  cases r : PySem.W.tabIn K x with
  | none => rw [r] at h2; cases h2
  | some cp =>
    rw [r] at h2
    obtain ⟨c, P'⟩ := cp
    cases h2
    exact ⟨x, c, h1, r⟩
/-- what the making of lambdas asks of the base -/
def TbB (K : Fg) (mg : Str → Option Value) (base : Heap) : Prop := ∀ x c P, x ∈ LAM → PySem.W.tabIn K x = some (c, P) → LamX.TabB base mg c P
/-- what the end asks of the table -/
structure TbE (K : Fg) (mg : Str → Option Value) (h : Heap) : Prop where
  at' : ∀ x c P, x ∈ LAM → PySem.W.tabIn K x = some (c, P) → PySem.W.CodeHd h c P ∧ h.get? P = some (PySem.W.tabObj #[])
  no : ∀ x c P, x ∈ LAM → PySem.W.tabIn K x = some (c, P) → K.lookup P = none
  bm : ∃ (bm : Addr) (ob : Obj), mg "__builtins__" = some (.ref bm) ∧ bm ≠ builtinsNs ∧ h.get? bm = some ob ∧ ob.cls = .type "module" ∧ ob.dict = some builtinsNs ∧ ob.data = .plain
section
variable {P : Program} {w : World} {K : Fg} {mg mb : Str → Option Value} {k : Nat} {fa a : Addr} {fd : FuncData} {x : Str} {s₁ : Shared} {vs : List Value} {ns : List Int} {fs : FSp}
theorem end_at {F H : Hp} (KX : K.In s₁.heap) (hns : s₁.heap.Ns mainGlobals mg) (hb : s₁.heap.Ns builtinsNs mb) (hbb : ∀ x : Str, x ≠ "__name__" → mb x = bootBuiltins x) (hlim : s₁.heap.NoLimit) (hg : s₁.gens = #[])
    (ha : s₁.heap.get? a = some { cls := .type "list", data := .seq vs.toArray }) (hr : Room k callerA) (T : TbE K mg s₁.heap)
    (Fu : ∀ base : Heap, K.In base → base.Ns mainGlobals mg → TbB K mg base → Fn P w K mg base CX0 k fa fd [x] (lift K 1 fs)) (hbind : ∀ (s : Shared) (u : Value), BindsTo s fd ⟨[u], []⟩ [(x, u)])
    (hsp : fs [.scr ns] none fun r _ => r = .val (.bool true)) (hO : ∀ b, H b = none ∨ (b ∈ tabA K ∧ H b = some (.tbl #[])) ∨ ∃ ob xs, H b = some (.frz ob (.lst xs))) (hFH : Ex F H) (hFn : ∀ b, b ∈ tabA K → F b = none) (hH : ∀ b, b ∈ tabA K → H b = some (.tbl #[]))
    (hS : SqL K F a (ns.map V.int)) (hok : HOk P w H s₁.heap) (hA : ∀ b, H b ≠ none → b = a ∨ b ∈ tabA K) (hK : a ∉ tabA K → H a ≠ none → K.lookup a = none) :
    codeAny (model P w) callerA (.call (.ref fa) ⟨[.ref a], []⟩) (fun r s' => r = .ok (.ret (.bool true)) ∧ OldK s₁.heap s'.heap ∧ s'.os = s₁.os ∧ AllBare s'.gens) s₁ := by
  have tabAt : ∀ b, b ∈ tabA K → ∃ c, PySem.W.CodeHd s₁.heap c b ∧ s₁.heap.get? b = some (PySem.W.tabObj #[]) := fun b h => by
    obtain ⟨x, c, h1, h2⟩ := of_tabA h
    exact ⟨c, T.at' x c b h1 h2⟩
  have hide : ∀ {b : Addr} {o : Obj}, s₁.heap.get? b = some o → o.cls ≠ .none → (∀ vs n, o.data ≠ .seq vs n) → H b = none := fun {b o} e n1 n2 => by
    cases q : H b with
    | none => rfl
    | some u =>
      rcases hA b (ne_none q) with rfl | z
      · rw [ha] at e
        cases e
        exact absurd rfl (n2 _ _)
      · obtain ⟨_, _, z2⟩ := tabAt b z
        rw [e] at z2
        cases z2
        exact absurd rfl n1
  have hideD : ∀ {b : Addr} {o : Obj} {es : Array DictEntry} {ep : Nat}, s₁.heap.get? b = some o → o.data = .dict es ep → H b = none := fun {b o es ep} e d => by
    cases q : H b with
    | none => rfl
    | some u =>
      rcases hA b (ne_none q) with rfl | z
      · rw [ha] at e
        cases e
        cases d
      · obtain ⟨_, _, z2⟩ := tabAt b z
        rw [e] at z2
        cases z2
        cases d
  have nsK : ∀ {b : Addr} {m : Str → Option Value}, s₁.heap.Ns b m → (hidT s₁.heap H).Ns b m := fun {b m} z => by
    obtain ⟨o, es, ep, e, d, r⟩ := z
    exact ⟨o, es, ep, hidT_get e (hideD e d), d, r⟩
  have hKb : K.In (hidT s₁.heap H) := fun b o e => hidT_get (KX b o e) (by
    cases q : H b with
    | none => rfl
    | some u =>
      rcases hA b (ne_none q) with rfl | z
      · by_cases hz : b ∈ tabA K
        · obtain ⟨x, c, h1, h2⟩ := of_tabA hz
          rw [T.no x c b h1 h2] at e
          cases e
        · rw [hK hz (ne_none q)] at e
          cases e
      · obtain ⟨x, c, h1, h2⟩ := of_tabA z
        rw [T.no x c b h1 h2] at e
        cases e)
  have TB : TbB K mg (hidT s₁.heap H) := fun x c P' h1 h2 => by
    obtain ⟨hc, hP⟩ := T.at' x c P' h1 h2
    have dG : ∀ {b : Addr} {m : Str → Option Value}, s₁.heap.Ns b m → b ≠ P' := fun {b m} z e => by
      obtain ⟨o, es, ep, e1, d, _⟩ := z
      rw [e, hP] at e1
      cases e1
      cases d
    refine ⟨?_, ?_, dG hns⟩
    · obtain ⟨o, us, file, tf, flags, tg, inF, text, tt, e1, r1, r2, r3⟩ := hc
      exact ⟨o, us, file, tf, flags, tg, inF, text, tt, hidT_get e1 (hide e1 (by rw [r1]; exact fun z => nomatch z) fun vs n z => by rw [r2] at z; cases z), r1, r2, r3⟩
    · obtain ⟨bm, ob, b1, b2, b3, b4, b5, b6⟩ := T.bm
      refine ⟨bm, ob, b1, b2, fun e => ?_, fun e => ?_, hidT_get b3 (hide b3 (by rw [b4]; exact fun z => nomatch z) fun vs n z => by rw [b6] at z; cases z), b4, b5, b6⟩
      · obtain ⟨o, es, ep, e1, d, _⟩ := hns
        rw [e, e1] at b3
        cases b3
        rw [b6] at d
        cases d
      · rw [e, hP] at b3
        cases b3
        cases b4
  obtain ⟨mc, h1, h2⟩ := hlim
  have e0 : Env0 P w K mg (hidT s₁.heap H) callerA [] s₁ H :=
    { frames := rfl, mod := ⟨hKb, nsK hns, ⟨mb, nsK hb, hbb⟩, ⟨mc, nsK h1, h2⟩⟩, bs := fun b o e => of_hidT e, bsz := Nat.le_of_eq (hidT_size _ _), funs := trivial
      frf := fun b hb => absurd (show b ∈ ([] : List Addr) from hb) (by simp), hok := hok, bare := .of_eq hg }
  have pr : lift K 1 fs [.ref a] H (fun v _ => v = .bl true) fun _ _ _ => False :=
    ⟨F, a, [.scr ns], none, _, hFH, .cons ⟨a, rfl, hS⟩ .nil, rfl, fun n z => (by cases z), fun x c P' h1 h2 => ⟨⟨#[], hH P' (tabA_of h1 h2), trivial, fun pos cv hc => by have z : PySem.codeAmong pos [] = some cv := hc; simp [PySem.codeAmong] at z⟩, hFn P' (tabA_of h1 h2)⟩, hsp, fun r fu' v H' F' e o => by
      subst e
      have q : Rp K F' v (.bool true) := o.rep
      cases q
      rfl⟩
  refine codeAny_mono ((Fu _ hKb (nsK hns) TB).run callerA [] s₁ H ⟨[.ref a], []⟩ [.ref a] [.ref a] _ _ hr rfl e0 (hbind s₁ (.ref a)) (.cons rfl .nil) pr) fun r s' h => ?_
  match r, h with
  | .error e, h => exact False.elim h
  | .ok .next, h => exact False.elim h
  | .ok .brk, h => exact False.elim h
  | .ok .cont, h => exact False.elim h
  | .ok (.ret u), ⟨v, H', os, bare, un, hok', rv, q⟩ =>
    have q' : v = .bl true := q
    subst q'
    have ru : u = Value.bool true := rv
    subst ru
    have stay : ∀ b o, b ∉ tabA K → s₁.heap.get? b = some o → s'.heap.get? b = some o := fun b o nb e => by
      rcases hO b with z | ⟨z, _⟩ | ⟨ob, xs, z⟩
      · exact un.keep b o e z (fun z => absurd (show b ∈ ([] : List Addr) from z) (by simp)) (by simp)
      · exact absurd z nb
      · obtain ⟨e1, _⟩ := hok b _ z
        obtain ⟨e2, _⟩ := hok' b _ (un.frzs b ob _ z)
        rw [e] at e1
        cases e1
        exact e2
    have grew : ∀ b, b ∈ tabA K → ∃ more : Array Value, s'.heap.get? b = some { cls := .none, data := .fields more } := fun b hb => by
      obtain ⟨more, z⟩ := un.tbls b #[] (hH b hb)
      exact ⟨_, hok' b _ z⟩
    refine ⟨rfl, ⟨fun b o e => ?_, fun b o e => ?_⟩, os, bare⟩
    · by_cases hb : b ∈ tabA K
      · obtain ⟨c, z1, z2⟩ := tabAt b hb
        obtain ⟨more, z3⟩ := grew b hb
        rw [e] at z2
        cases z2
        exact .inr (.inl ⟨(z1.tab e).isCodeTable, rfl, #[], more, rfl, by rw [Array.empty_append]; exact z3⟩)
      · exact .inl (stay b o hb e)
    · by_cases hb : b ∈ tabA K
      · obtain ⟨more, z3⟩ := grew b hb
        exact ⟨_, z3⟩
      · exact ⟨o, stay b o hb e⟩
theorem end_call (KX : K.In s₁.heap) (hns : s₁.heap.Ns mainGlobals mg) (hb : s₁.heap.Ns builtinsNs mb) (hbb : ∀ x : Str, x ≠ "__name__" → mb x = bootBuiltins x) (hlim : s₁.heap.NoLimit) (hg : s₁.gens = #[])
    (ha : s₁.heap.get? a = some { cls := .type "list", data := .seq vs.toArray }) (hi : IntsAre vs ns) (hl : ns.length ≤ sizeLine) (hr : Room k callerA) (T : TbE K mg s₁.heap)
    (Fu : ∀ base : Heap, K.In base → base.Ns mainGlobals mg → TbB K mg base → Fn P w K mg base CX0 k fa fd [x] (lift K 1 fs)) (hbind : ∀ (s : Shared) (u : Value), BindsTo s fd ⟨[u], []⟩ [(x, u)])
    (hsp : fs [.scr ns] none fun r _ => r = .val (.bool true)) :
    codeAny (model P w) callerA (.call (.ref fa) ⟨[.ref a], []⟩) (fun r s' => r = .ok (.ret (.bool true)) ∧ OldK s₁.heap s'.heap ∧ s'.os = s₁.os ∧ AllBare s'.gens) s₁ := by
  have rv := vals_ints hi
  have aT : a ∉ tabA K := fun z => by
    obtain ⟨x, c, h1, h2⟩ := of_tabA z
    have := (T.at' x c a h1 h2).2
    rw [ha] at this
    cases this
  have tO : ∀ b, b ∈ tabA K → s₁.heap.get? b = some (PySem.W.tabObj #[]) := fun b z => by
    obtain ⟨x, c, h1, h2⟩ := of_tabA z
    exact (T.at' x c b h1 h2).2
  let tb : Hp := fun b => if b ∈ tabA K then some (.tbl #[]) else none
  have tbY : ∀ {b}, b ∈ tabA K → tb b = some (.tbl #[]) := fun h => if_pos h
  have tbN : ∀ {b}, b ∉ tabA K → tb b = none := fun h => if_neg h
  have tb_of : ∀ {b u}, tb b = some u → b ∈ tabA K ∧ u = .tbl #[] := fun {b u} h => by
    by_cases z : b ∈ tabA K
    · rw [tbY z] at h
      exact ⟨z, (Option.some.inj h).symm⟩
    · rw [tbN z] at h
      cases h
  cases hk : K.lookup a with
  | some o =>
    have e := KX a o hk
    rw [ha] at e
    cases e
    have sz : vs.toArray.size ≤ sizeLine := by rw [List.size_toArray, hi.length]; exact hl
    refine end_at (F := fun _ => none) (H := tb) KX hns hb hbb hlim hg ha hr T Fu hbind hsp (fun b => ?_) (fun b u z => by cases (show (none : Option HO) = some u from z)) (fun _ _ => rfl) (fun b z => tbY z) (.inr ⟨_, vs.toArray, _, hk, rfl, rfl, rfl, sz, by simpa using rv⟩) (fun b u z => ?_) (fun b z => ?_) fun _ z => absurd (tbN aT) z
    · by_cases z : b ∈ tabA K
      · exact .inr (.inl ⟨z, tbY z⟩)
      · exact .inl (tbN z)
    · obtain ⟨z1, rfl⟩ := tb_of z
      exact tO b z1
    · cases q : tb b with
      | none => exact absurd q z
      | some u => exact .inr (tb_of q).1
  | none =>
    let ob : Obj := { cls := .type "list", data := .seq vs.toArray }
    let sc : Hp := fun b => if b = a then some (HO.frz ob (.lst (ns.map V.int))) else none
    have scY : sc a = some (HO.frz ob (.lst (ns.map V.int))) := if_pos rfl
    have scN : ∀ {b}, b ≠ a → sc b = none := fun h => if_neg h
    have at_a : ∀ {b : Addr} {u : HO}, sc b = some u → b = a ∧ u = .frz ob (.lst (ns.map V.int)) := fun {b u} z => by
      by_cases h : b = a
      · rw [h, scY] at z
        exact ⟨h, (Option.some.inj z).symm⟩
      · rw [scN h] at z
        cases z
    have ne : ∀ {b}, b ∈ tabA K → b ≠ a := fun {b} z e => aT (by rw [← e]; exact z)
    let H : Hp := fun b => if b ∈ tabA K then some (.tbl #[]) else sc b
    have HY : ∀ {b}, b ∈ tabA K → H b = some (.tbl #[]) := fun h => if_pos h
    have HN : ∀ {b}, b ∉ tabA K → H b = sc b := fun h => if_neg h
    refine end_at (F := sc) (H := H) KX hns hb hbb hlim hg ha hr T Fu hbind hsp (fun b => ?_) (fun b u z => ?_) (fun b z => scN (ne z)) (fun b z => HY z) (.inl (.inr ⟨ob, scY⟩)) (fun b u z => ?_) (fun b z => ?_) fun _ _ => hk
    · by_cases z : b ∈ tabA K
      · exact .inr (.inl ⟨z, HY z⟩)
      · rw [HN z]
        by_cases h : b = a
        · exact .inr (.inr ⟨ob, _, by rw [h]; exact scY⟩)
        · exact .inl (scN h)
    · obtain ⟨rfl, rfl⟩ := at_a z
      rw [HN aT]
      exact z
    · by_cases z1 : b ∈ tabA K
      · rw [HY z1] at z
        cases z
        exact tO b z1
      · rw [HN z1] at z
        obtain ⟨rfl, rfl⟩ := at_a z
        exact ⟨ha, by rw [List.length_map]; exact hl, vs, _, rv, ha⟩
    · by_cases z1 : b ∈ tabA K
      · exact .inr z1
      · rw [HN z1] at z
        exact .inl (Classical.byContradiction fun h => z (scN h))
end
/-- the maker's table as the head leaves it -/
def TbH (K : Fg) (h : Heap) : Prop := ∀ x c P, x ∈ LAM → PySem.W.tabIn K x = some (c, P) → (PySem.W.CodeHd h c P ∧ h.get? P = some (PySem.W.tabObj #[])) ∧ K.lookup P = none
/-- of one def that makes lambdas -/
def TbH1 (K : Fg) (h : Heap) (x : Str) : Prop := ∀ c P, PySem.W.tabIn K x = some (c, P) → (PySem.W.CodeHd h c P ∧ h.get? P = some (PySem.W.tabObj #[])) ∧ K.lookup P = none
theorem tbH1_of {K : Fg} {h : Heap} {x : Str} {c P : Addr} (X : K.In h) (ht : PySem.W.tabIn K x = some (c, P)) (hc : PySem.W.codeHdIn K c P = true) (hn : K.lookup P = none) (hP : h.get? P = some (PySem.W.tabObj #[])) : TbH1 K h x := fun c' P' e2 => by
  rw [ht] at e2
  cases e2
  exact ⟨⟨PySem.W.codeHd_of_K X hc, hP⟩, hn⟩
theorem tbH_one {K : Fg} {h : Heap} {x : Str} (e : LAM = [x]) (t : TbH1 K h x) : TbH K h := fun y c P e1 => by
  rw [e, List.mem_singleton] at e1
  subst e1
  exact t c P
theorem end_of {l : PySem.W.OpenLaw} {n k : Nat} {q : Program} {loose : List Str} {XP : (Str → Option Value) → Heap → Prop} {YP : World → Heap → Prop} {d : DefRec} {K : Params → PySem.W.Frag} {fs : FSp} {x : Str}
    (hn : l.most = some n) (hn2 : n ≤ sizeLine) (hdf : d.params.defaults = []) (hr : Room k callerA) (hY : ∀ (w : World) (h : Heap), YP w h → (K w.params).In h)
    (Fu : ∀ (w : World) (mg : Str → Option Value) (fa : Addr) (h : Heap), YP w h → (K w.params).In h → h.Ns mainGlobals mg → mg d.name = some (.ref fa) →
      ∃ fd : FuncData, (∀ (s : Shared) (u : Value), BindsTo s fd ⟨[u], []⟩ [(x, u)]) ∧ TbH (K w.params) h ∧ ∀ base : Heap, (K w.params).In base → base.Ns mainGlobals mg → TbB (K w.params) mg base → Fn l.prog w (K w.params) mg base CX0 k fa fd [x] (lift (K w.params) 1 fs))
    (hsp : ∀ ns : List Int, ns.length ≤ n → fs [.scr ns] none fun r _ => r = .val (.bool true)) : PySem.W.WalkO q loose XP YP l.row.toRowW d [] (fun f vs => PySem.call f vs) := by
  refine Att.attach_call hn hdf fun w s₀ s₁ mg mb fa o pm cd doc a vs ns G Y ho hd hcd hmg hobj hints hlen hg => ?_
  obtain ⟨fd, hb, hT, hF⟩ := Fu w mg fa _ Y (hY w _ Y) G.T.g hmg
  exact end_call (hY w _ Y) G.T.g G.T.b G.T.builtins G.T.nolimit hg hobj hints (Nat.le_trans hlen hn2) hr ⟨fun x c P e1 e2 => (hT x c P e1 e2).1, fun x c P e1 e2 => (hT x c P e1 e2).2, G.T.bmain⟩ hF hb (hsp ns hlen)
end Z
namespace Z
open L2 PySem PySem.Spec PyProof.Rows
open Evl (Ex ex_l ex_t ex_rd fresh_back)
variable {Wx : WX}
def SrcD (ds : List Da) (n : Nat) : Prop := ∃ x y z : Int, ds = [.int x, .int y, .int z] ∧ 0 ≤ x ∧ x < 2 ^ 1000 ∧ 0 ≤ y ∧ y < modS ∧ 0 ≤ z ∧ z + n ≤ 2 ^ 40
def noSrc : Option Sv → Option Sv
  | some .src => none
  | x => x
/-- f(a new source, constants ..) -/
def dCallS (np n : Nat) (fs : FSp) (tl : DL) (rs : List Rv) : DE := fun g Q => tl g fun ds g1 => SrcD ds n ∧ rs.length + 1 = np ∧ fs (.src :: rs) (some n) fun r _ => Q (rrv r) g1
section
variable {K : Fg} {c : Con} {g : Gs} {σ : L2.St} {H F H' F' : Hp} {tv : List V} {tr : List Rv} {a : Addr}
theorem Rps.three {xs : List V} {x y z : Int} (h : Rps K F xs [.int x, .int y, .int z]) : xs = [.int x, .int y, .int z] := by
  cases h with
  | cons h1 h =>
    cases h with
    | cons h2 h =>
      cases h with
      | cons h3 h =>
        cases h
        cases h1
        cases h2
        cases h3
        rfl
theorem SrcD.at {ds : List Da} {n : Nat} (h : SrcD ds n) {o : Addr} {xs : List V} (hH : H o = some (.lst xs)) (m : Rps K F xs ds) : SrcAt H o n := by
  obtain ⟨x, y, z, rfl, h⟩ := h
  rw [m.three] at hH
  exact ⟨x, y, z, hH, h⟩
/-- behind a call that had a source of its own -/
theorem Sta.after2 (s : Sta K c g σ H tv tr F a) {v u : V} {r : Rr} {ds : List Da} {n : Nat} {fu' : Option Nat} {o : Addr} (h : NewL K c g σ H F a (.ref o) ds) (ou : Out K F H o (some n) fu' F' H' u r) : Sta K c g σ H' tv tr F' a := by
  obtain ⟨o', xs, eo, q2, q3, q4, q5, q6, q7⟩ := h.ex
  cases eo
  have keepN : ∀ b x, b ≠ o → NT x → H b = some x → H' b = some x := fun b x hb hn e => ou.keep b x (fun _ => hb) hn e
  have oldF : ∀ b, H b ≠ none → F b = none → F' b = none := fun b h1 h2 => by
    cases q : F' b with
    | none => rfl
    | some u =>
      rcases ou.new b (ne_none q) with z | z
      · exact absurd h2 z
      · exact absurd z h1
  refine ⟨s.e0.trans ou.f, ou.s, fun b x z1 hn z2 => keepN b x (fun z => by rw [z, q3] at z2; cases z2) hn (s.keep b x z1 hn z2), fun b q => ?_, s.ex, s.ow, fun m hm => ?_, s.tmp.up ou.f, s.len, fun j sv hj => ?_, s.dis, ou.tk, s.tab.trans ou.tab⟩
  · rcases ou.new b q with z | z
    · exact s.new b z
    · exact .inr (s.fresh z)
  · obtain ⟨z1, z2, x, y, z, e, z3⟩ := s.src m hm
    exact ⟨oldF a (ne_none e) z1, z2, x, y, z, keepN a _ (fun w => q6 (ne_none hm) w.symm) (fun _ z => by cases z) e, z3⟩
  · obtain ⟨w, h1, h2⟩ := s.slot j sv hj
    refine ⟨w, h1, ?_⟩
    cases sv with
    | val d => exact Rp.up h2 ou.f
    | src => exact h2
    | scr ns => obtain ⟨b, z1, z2⟩ := h2; exact ⟨b, z1, ex_l ou.f z2⟩
    | ob k => exact ObOk.up ou.f h2
    | own es =>
      obtain ⟨p, ys, r1, r2, r3, r4, r5, r6⟩ := h2
      exact ⟨p, ys, r1, oldF p (ne_none r4) r2, r3, keepN p _ (fun z => q7 j es hj (by rw [h1, r1, z])) (fun _ z => by cases z) r4, r5.up ou.f, r6⟩
end
section
variable {X : Cx} {e : Expr} {tl : DL} {pos : Pos}
variable {CX : CXT} {k : Nat} {f : Addr} {fd : FuncData} {ps : List Str} {fs : FSp} {x : Str} {p : Pos} {es : List Expr} {np : Nat} {E : XK} {vs : List V} {rs : List Rv}
theorem e_callS (n : Nat) (G : Fn X.prog X.w X.K X.mg X.base CX k f fd ps (lift X.K np fs)) (hr : Room k X.A) (hgd : X.A.guards = some []) (hg : Gl X x) (hm : X.mg x = some (.ref f)) (hk : PySem.W.keepIn X.K (.ref f) = true) (hb : Binds X.K fd ps []) (hx : Passes CX X E)
    (he : PE X e (upL X.K tl)) (hes : PA X es fun _ H Q => Q vs H) (hvs : ∀ F a fu, Tm X.K F a fu vs rs) (hdb : (x == ("__debug__" : Str)) = false := by decide) (hs : starEach (e :: es) X.env = (false, eval e X.env) :: starEach es X.env := by rfl)
    (hpl : (backTo pos (starEach es X.env)).any (·.1) = false := by rfl) : PE X (.Call (.Name x p) (e :: es) [] pos) (up X.K (dCallS np n fs tl rs)) := pe_to (pe_fn G hr hgd hg hm hk hb hx (pa_cons he hes hs) hdb hs hpl) fun σ H Q q => by
  obtain ⟨c, g, tv, tr, F, a, post, s, t, k⟩ := q
  refine ⟨c, g, tv, tr, F, a, _, s, t, fun ds g1 v H1 F1 a1 t1 s1 n1 => ?_⟩
  obtain ⟨o, xs, rfl, q2, q3, q4, q5, q6, q7⟩ := n1.ex
  refine ⟨F1, o, .src :: rs, some n, _, s1.eh, .cons ⟨rfl, fun z => nomatch z⟩ (hvs F1 o _), ?_, fun m hm => ?_, s1.tabk, t1.2.2, fun r fu' v H' F' hp ou => ?_⟩
  · have := (hvs F1 o none).len
    rw [List.length_cons, this]; exact t1.2.1
  · cases hm
    exact ⟨q2, t1.1.at q4 q5⟩
  · have s2 := s1.after2 (v := v) n1 ou
    cases r with
    | val d => exact k _ _ v H' F' a1 hp (s2.push (r := .val d) ou.rep)
    | exc _ _ => exact ou.rep.elim
    | own es =>
      obtain ⟨F'', s4⟩ := s2.still (NewL.of s1 rfl id ou.rep)
      exact k _ _ v H' F'' a1 hp s4
theorem as_nil : PA X [] fun _ H Q => Q [] H := pa_nil
theorem as_cons {e : Expr} {es : List Expr} {v : V} {vs : List V} (h : PE X e (tC v)) (hr : PA X es fun _ H Q => Q vs H) (hs : starEach (e :: es) X.env = (false, eval e X.env) :: starEach es X.env := by rfl) : PA X (e :: es) fun _ H Q => Q (v :: vs) H := pa_cons h hr hs
end
section
variable {X : Cx} {x : Str} {p pos : Pos} {e e2 : Expr} {tr : DA}
theorem e_len (hg : Gl X "len") (hm : X.mg "len" = none) (ha : PA X [e] (upA X.K tr)) (he : starEach [e] X.env = (false, eval e X.env) :: starEach [] X.env := by rfl) : PE X (.Call (.Name "len" p) [e] [] pos) (up X.K (dCB cLen tr)) := e_callB call_len ok_len hg hm PySem.boot_len ha (by decide) (by decide) he rfl
theorem e_abs (hg : Gl X "abs") (hm : X.mg "abs" = none) (ha : PA X [e] (upA X.K tr)) (he : starEach [e] X.env = (false, eval e X.env) :: starEach [] X.env := by rfl) : PE X (.Call (.Name "abs" p) [e] [] pos) (up X.K (dCB (cInt1 fun i => if i < 0 then -i else i) tr)) := e_callB call_abs ok_int1 hg hm (by decide +kernel) ha (by decide) (by decide) he rfl
theorem e_max (hc : X.calm = true) (hg : Gl X "max") (hm : X.mg "max" = none) (ha : PA X [e, e2] (upA X.K tr)) (he : starEach [e, e2] X.env = (false, eval e X.env) :: starEach [e2] X.env := by rfl) (hpl : (backTo pos (starEach [e2] X.env)).any (·.1) = false := by rfl) :
    PE X (.Call (.Name "max" p) [e, e2] [] pos) (up X.K (dCB (cInt2 fun i j => if j > i then j else i) tr)) := e_callB (call_max2 hc) ok_int2 hg hm (by decide +kernel) ha (by decide) (by decide) he hpl
theorem e_min (hc : X.calm = true) (hg : Gl X "min") (hm : X.mg "min" = none) (ha : PA X [e, e2] (upA X.K tr)) (he : starEach [e, e2] X.env = (false, eval e X.env) :: starEach [e2] X.env := by rfl) (hpl : (backTo pos (starEach [e2] X.env)).any (·.1) = false := by rfl) :
    PE X (.Call (.Name "min" p) [e, e2] [] pos) (up X.K (dCB (cInt2 fun i j => if j < i then j else i) tr)) := e_callB (call_min2 hc) ok_int2 hg hm (by decide +kernel) ha (by decide) (by decide) he hpl
theorem e_all (hc : X.calm = true) (hg : Gl X "all") (hm : X.mg "all" = none) (ha : PA X [e] (upA X.K tr)) (he : starEach [e] X.env = (false, eval e X.env) :: starEach [] X.env := by rfl) : PE X (.Call (.Name "all" p) [e] [] pos) (up X.K (dCB cAll tr)) := e_callB (cr_all hc) ok_all hg hm (by decide +kernel) ha (by decide) (by decide) he rfl
theorem e_tuple (hg : Gl X "tuple") (hm : X.mg "tuple" = none) (ha : PA X [e] (upA X.K tr)) (he : starEach [e] X.env = (false, eval e X.env) :: starEach [] X.env := by rfl) : PE X (.Call (.Name "tuple" p) [e] [] pos) (up X.K (dCB cTuple tr)) := e_callTy call_tuple_of ok_tuple hg hm (by decide +kernel) ha (by decide) (by decide) he rfl
theorem e_glob {v : V} {u : Value} {d : Da} (hg : Gl X x) (hm : X.mg x = some u) (r : RelV v u) (hr : ∀ F, Rp X.K F v d) (hd : (x == ("__debug__" : Str)) = false := by decide) : PE X (.Name x pos) (up X.K (dC d)) := e_c (pe_glob hg hm r hd) hr
theorem c_ty {T : String} (hg : Gl X x) (hm : X.mg x = none) (hv : bootBuiltins x = some (.type T)) (hn : x ≠ "__name__" := by decide) (hd : (x == ("__debug__" : Str)) = false := by decide) : PE X (.Name x pos) (tC (.ty T)) := pe_bltn hg hm hv rfl hn hd
end
end Z
namespace Z
open L2 PySem PySem.Spec PyProof.Rows
open Evl (Ex ex_l ex_t ex_rd fresh_back)
abbrev oSub : BinF := fI0 fun i j => .int (i - j)
abbrev oMul : BinF := fI CMulX fun i j => .int (i * j)
abbrev oDiv : BinF := fI CDivW fun i j => .int (i / j)
abbrev oMod : BinF := fI (fun _ j => 0 < j) fun i j => .int (i % j)
abbrev oShl : BinF := fI CShl fun i j => .int (i * 2 ^ j.toNat)
abbrev oPow : BinF := fI CPowX fun i j => .int (i ^ j.toNat)
abbrev oLt : BinF := fI0 fun i j => .bool (decide (i < j))
abbrev oLe : BinF := fI0 fun i j => .bool (decide (i ≤ j))
abbrev oGt : BinF := fI0 fun i j => .bool (decide (j < i))
abbrev oGe : BinF := fI0 fun i j => .bool (decide (j ≤ i))
abbrev oAbs : CF := cInt1 fun i => if i < 0 then -i else i
abbrev oMax : CF := cInt2 fun i j => if j > i then j else i
abbrev oMin : CF := cInt2 fun i j => if j < i then j else i
theorem test_core {K : Fg} {t : DE} {σ : L2.St} {H : Hp} {Q : Bool → Hp → Prop} (q : upT K (dTest t) σ H Q) : up K t σ H fun x H1 => ∃ k, x = .bl k ∧ Q k H1 := by
  obtain ⟨c, g, tv, tr, F, ad, post, s, t1, k⟩ := q
  refine ⟨c, g, tv, tr, F, ad, _, s, t1, fun r g1 v1 H1 F1 a1 h1 s1 => ?_⟩
  cases r with
  | val d =>
    cases d with
    | bool b => exact ⟨b, s1.top.bl rfl, k b g1 H1 F1 a1 h1 s1.pop1⟩
    | _ => exact h1.elim
  | _ => exact h1.elim
section
variable {X : Cx} {a b c : Expr} {ta tb tc : DE} {pos : Pos}
theorem t_cmp {op : CmpOp} {r : R2} {f : BinF} (ho : OpR X (compareOp op) r) (hf : BinOk X.K r f) (ha : PE X a (up X.K ta)) (hb : PE X b (up X.K tb)) (hm : behindInMarks op b = false) : PT X (.Compare a [op] [b] pos) (upT X.K (dTest (dBin f ta tb))) :=
  pt_to (pt_cmpR ho ha hb hm) fun σ H Q q => bin_core hf σ H _ (test_core q)
theorem t_lt (ha : PE X a (up X.K ta)) (hb : PE X b (up X.K tb)) : PT X (.Compare a [.Lt] [b] pos) (upT X.K (dTest (dBin oLt ta tb))) := t_cmp op_lt ok_I0b ha hb (nomark _)
theorem t_gt (ha : PE X a (up X.K ta)) (hb : PE X b (up X.K tb)) : PT X (.Compare a [.Gt] [b] pos) (upT X.K (dTest (dBin oGt ta tb))) := t_cmp op_gt ok_I0b ha hb (nomark _)
theorem t_ge (ha : PE X a (up X.K ta)) (hb : PE X b (up X.K tb)) : PT X (.Compare a [.GtE] [b] pos) (upT X.K (dTest (dBin oGe ta tb))) := t_cmp op_ge ok_I0b ha hb (nomark _)
theorem t_eq (hu : X.A.units + 64 < cLine) (ha : PE X a (up X.K ta)) (hb : PE X b (up X.K tb)) : PT X (.Compare a [.Eq] [b] pos) (upT X.K (dTest (dBin fEq ta tb))) :=
  t_cmp (op_eqD hu) (fun F H x y d e post Q hx r1 r2 hf k => ⟨d, e, r1.dp hx d x (shaped_lay hf.1), r2.dp hx e y (shaped_lay hf.2.1), hf.1, hf.2.1, k _ _ H F hf.2.2 (Gr.refl hx) (.bl _)⟩) ha hb (nomark _)
theorem t_ne (hu : X.A.units + 64 < cLine) (ha : PE X a (up X.K ta)) (hb : PE X b (up X.K tb)) : PT X (.Compare a [.NotEq] [b] pos) (upT X.K (dTest (dBin fNe ta tb))) :=
  t_cmp (op_neD hu) (fun F H x y d e post Q hx r1 r2 hf k => ⟨d, e, r1.dp hx d x (shaped_lay hf.1), r2.dp hx e y (shaped_lay hf.2.1), hf.1, hf.2.1, k _ _ H F hf.2.2 (Gr.refl hx) (.bl _)⟩) ha hb (nomark _)
theorem t_in (ha : PE X a (up X.K ta)) (hb : PE X b (up X.K tb)) (hm : behindInMarks .In b = false := by rfl) : PT X (.Compare a [.In] [b] pos) (upT X.K (dTest (dBin (fIn false) ta tb))) := t_cmp op_in_seq ok_in ha hb hm
theorem t_notin (ha : PE X a (up X.K ta)) (hb : PE X b (up X.K tb)) (hm : behindInMarks .NotIn b = false := by rfl) : PT X (.Compare a [.NotIn] [b] pos) (upT X.K (dTest (dBin (fIn true) ta tb))) := t_cmp op_notIn_seq ok_in ha hb hm
theorem isn_core {neg : Bool} {σ : L2.St} {H : Hp} {Q : VK} (q : up X.K (dIsN neg ta) σ H Q) : up X.K ta σ H fun x H1 => Q (.bl (if neg then !decide (x = .non) else decide (x = .non))) H1 := by
  obtain ⟨c, g, tv, tr, F, ad, post, s, t1, k⟩ := q
  refine ⟨c, g, tv, tr, F, ad, _, s, t1, fun r g1 v1 H1 F1 a1 h1 s1 => ?_⟩
  cases r with
  | val d =>
    have hr : Rp X.K F1 v1 d := s1.top
    rw [non_v hr]
    exact k _ g1 _ H1 F1 a1 h1 (s1.pop1.push (r := .val (.bool _)) (Rp.bl _))
  | _ => exact h1.elim
theorem t_isN {j : Nat} {pos' : Pos} (ha : PE X a (up X.K ta)) : PT X (.Compare a [.Is] [.Constant .none j pos'] pos) (upT X.K (dTest (dIsN false ta))) := pt_to (pt_cmpR op_isN ha pe_non (nomark _)) fun σ H Q q => by
  obtain ⟨c, g, tv, tr, F, ad, post, s, t1, k⟩ := isn_core (test_core q)
  exact ⟨c, g, tv, tr, F, ad, post, s, t1, fun r g1 v1 H1 F1 a1 h1 s1 => ⟨rfl, k r g1 v1 H1 F1 a1 h1 s1⟩⟩
theorem t_lele (ha : PE X a (up X.K ta)) (hb : PE X b (up X.K tb)) (hc : PE X c (up X.K tc)) (hm : lastMarks [.LtE, .LtE] [b, c] = false := by with_unfolding_all rfl) : PT X (.Compare a [.LtE, .LtE] [b, c] pos) (upT X.K (dTest (dChain oLe oLe ta tb tc))) := pt_to (pt_chain op_le op_le ha hb hc hm) fun _ _ _ q => chain_core ok_I0b ok_I0b (test_core q)
theorem t_ltlt (ha : PE X a (up X.K ta)) (hb : PE X b (up X.K tb)) (hc : PE X c (up X.K tc)) (hm : lastMarks [.Lt, .Lt] [b, c] = false := by with_unfolding_all rfl) : PT X (.Compare a [.Lt, .Lt] [b, c] pos) (upT X.K (dTest (dChain oLt oLt ta tb tc))) := pt_to (pt_chain op_lt op_lt ha hb hc hm) fun _ _ _ q => chain_core ok_I0b ok_I0b (test_core q)
end
/-- a pair of ints -/
abbrev num (n d : Int) : Da := .tuple [.int n, .int d]
theorem atI_0 {α : Type} {x0 : α} {xs : List α} : atI (x0 :: xs) 0 = some x0 := by
  unfold atI ixN
  rw [if_pos (by decide), if_pos (by simp only [List.length_cons]; omega)]
  rfl
theorem atI_1 {α : Type} {x0 x1 : α} {xs : List α} : atI (x0 :: x1 :: xs) 1 = some x1 := by
  unfold atI ixN
  rw [if_pos (by decide), if_pos (by simp only [List.length_cons]; omega)]
  rfl
theorem atI_2 {α : Type} {x0 x1 x2 : α} {xs : List α} : atI (x0 :: x1 :: x2 :: xs) 2 = some x2 := by
  unfold atI ixN
  rw [if_pos (by decide), if_pos (by simp only [List.length_cons]; omega)]
  rfl
theorem atI_3 {α : Type} {x0 x1 x2 x3 : α} {xs : List α} : atI (x0 :: x1 :: x2 :: x3 :: xs) 3 = some x3 := by
  unfold atI ixN
  rw [if_pos (by decide), if_pos (by simp only [List.length_cons]; omega)]
  rfl
theorem atI_4 {α : Type} {x0 x1 x2 x3 x4 : α} {xs : List α} : atI (x0 :: x1 :: x2 :: x3 :: x4 :: xs) 4 = some x4 := by
  unfold atI ixN
  rw [if_pos (by decide), if_pos (by simp only [List.length_cons]; omega)]
  rfl
theorem atI_5 {α : Type} {x0 x1 x2 x3 x4 x5 : α} {xs : List α} : atI (x0 :: x1 :: x2 :: x3 :: x4 :: x5 :: xs) 5 = some x5 := by
  unfold atI ixN
  rw [if_pos (by decide), if_pos (by simp only [List.length_cons]; omega)]
  rfl
theorem eqv_ii (i j : Int) : (PyData.int i).eqv (.int j) = decide (i = j) := by
  simp only [PyData.eqv]
  rw [Bool.eq_iff_iff]
  simp
theorem eqv_ss (x y : Str) : (PyData.str x).eqv (.str y) = decide (x = y) := by
  simp only [PyData.eqv]
  rw [Bool.eq_iff_iff]
  simp
theorem eqv_num (a b c d : Int) : (PyData.tuple [.int a, .int b]).eqv (.tuple [.int c, .int d]) = (decide (a = c) && decide (b = d)) := by
  simp only [PyData.eqv, PyData.eqvAll]
  rw [Bool.eq_iff_iff]
  simp
theorem shaped_int (i : Int) : SeqAt.shaped (.int i) = true := rfl
theorem shaped_num (i j : Int) : SeqAt.shaped (.tuple [.int i, .int j]) = true := rfl
theorem shaped_none : SeqAt.shaped .none = true := rfl
theorem flat_str (x : Str) : flatD (.str x) = true := rfl
theorem flat_int (x : Int) : flatD (.int x) = true := rfl
theorem flat_none : flatD .none = true := rfl
/-- less than n bits -/
structure Bn (n : Nat) (i : Int) : Prop where
  lt : i.natAbs < 2 ^ n
theorem bits_lt {i : Int} {n : Nat} (h : Bn n i) : Builtin.Int.intBits i ≤ n := by
  unfold Builtin.Int.intBits
  split
  · exact Nat.zero_le _
  · rename_i h0
    have h1 : i ≠ 0 := fun z => h0 (by rw [z]; rfl)
    have : i.natAbs.log2 < n := (Nat.log2_lt (by omega)).mpr h.lt
    omega
theorem Bn.mono {n m : Nat} {i : Int} (h : Bn n i) (hm : n ≤ m) : Bn m i := ⟨Nat.lt_of_lt_of_le h.lt (Nat.pow_le_pow_right (by decide) hm)⟩
theorem Bn.le {n : Nat} {i j : Int} (h : Bn n j) (h0 : 0 ≤ i) (h1 : i ≤ j) : Bn n i := ⟨by have := h.lt; omega⟩
theorem Bn.nat {n : Nat} {i : Nat} (h : i < 2 ^ n) : Bn n (i : Int) := ⟨h⟩
theorem Bn.mul {a b : Nat} {i j : Int} (ha : Bn a i) (hb : Bn b j) : Bn (a + b) (i * j) := ⟨by
  rw [Int.natAbs_mul, Nat.pow_add]
  exact Nat.mul_lt_mul'' ha.lt hb.lt⟩
theorem Bn.add {a : Nat} {i j : Int} (ha : Bn a i) (hb : Bn a j) : Bn (a + 1) (i + j) := ⟨by
  have h1 := ha.lt
  have h2 := hb.lt
  have h3 := Int.natAbs_add_le i j
  rw [Nat.pow_succ]
  omega⟩
theorem Bn.neg {a : Nat} {i : Int} (ha : Bn a i) : Bn a (-i) := ⟨by rw [Int.natAbs_neg]; exact ha.lt⟩
theorem Bn.sub {a : Nat} {i j : Int} (ha : Bn a i) (hb : Bn a j) : Bn (a + 1) (i - j) := by
  rw [Int.sub_eq_add_neg]
  exact ha.add hb.neg
theorem Bn.pow2 {n m : Nat} (h : n < m) : Bn m ((2 : Int) ^ n) := ⟨by
  rw [Int.natAbs_pow]
  exact Nat.pow_lt_pow_right (by decide) h⟩
theorem Bn.small {m : Nat} {i : Int} (h1 : -18446744073709551616 < i) (h2 : i < 18446744073709551616) (hm : 64 ≤ m) : Bn m i := by
  have e : (2 : Nat) ^ 64 = 18446744073709551616 := by decide
  exact Bn.mono (n := 64) ⟨by rw [e]; omega⟩ hm
theorem mulX {i j : Int} (a b : Nat) (ha : Bn a i) (hb : Bn b j) (h : a + b ≤ 134217728) : CMulX i j := by
  have h1 := bits_lt ha
  have h2 := bits_lt hb
  unfold CMulX
  omega
theorem shlX {i j : Int} (a : Nat) (ha : Bn a i) (h0 : 0 ≤ j) (h : (a : Int) + j ≤ 134217728) : CShl i j := by
  have h1 := bits_lt ha
  refine ⟨h0, ?_⟩
  have e : (2 : Int) ^ 27 = 134217728 := by decide
  rw [e]
  omega
theorem divX {i j : Int} (b : Nat) (h0 : 0 < j) (hb : Bn b j) (h9 : b ≤ 9000) : CDivW i j := wide_div h0 (Bn.mono hb h9).lt (by decide) (Nat.le_refl _)
theorem pow2_pos (n : Nat) : (0 : Int) < 2 ^ n := Int.pow_pos (by decide)
theorem shlB {i : Int} {a n : Nat} (ha : Bn a i) : Bn (a + n + 1) (i * 2 ^ n) := by
  have := ha.mul (Bn.pow2 (n := n) (m := n + 1) (by omega))
  exact this.mono (by omega)
end Z
namespace Z
open L2 PySem PySem.Spec PyProof.Rows
theorem forD_inv {t : DG} {tb : DS} {d : DEnds} (I : Gs → Prop) : ∀ {ds : List Da} {g : Gs}, (∀ x ∈ ds, ∀ g, I g → ∀ N : Gs → Prop, (∀ g', I g' → N g') → t (.val x) g fun g1 => tb { d with nx := N, ct := N, bk := d.nx } g1) → (∀ g, I g → d.nx g) → I g → forD t tb ds d g
  | [], g, _, hd, h => hd g h
  | x :: xs, g, hs, hd, h => hs x List.mem_cons_self g h (forD t tb xs d) fun g' h' => forD_inv I (fun y hy => hs y (List.mem_cons_of_mem _ hy)) hd h'
/-- by the number of turns gone -/
theorem forD_ix {t : DG} {tb : DS} {d : DEnds} (I : Nat → Gs → Prop) : ∀ {ds : List Da} {g : Gs} {k : Nat}, (∀ (i : Nat) x, ds[i]? = some x → ∀ g, I (k + i) g → ∀ N : Gs → Prop, (∀ g', I (k + i + 1) g' → N g') → t (.val x) g fun g1 => tb { d with nx := N, ct := N, bk := d.nx } g1) →
    (∀ g, I (k + ds.length) g → d.nx g) → I k g → forD t tb ds d g
  | [], g, k, _, hd, h => hd g h
  | x :: xs, g, k, hs, hd, h => hs 0 x rfl g h (forD t tb xs d) fun g' h' => forD_ix I (k := k + 1) (fun i y hy g2 h2 N hN => hs (i + 1) y (by simpa using hy) g2 (by rw [show k + (i + 1) = k + 1 + i by omega]; exact h2) N (fun g3 h3 => hN g3 (by rw [show k + 1 + i + 1 = k + (i + 1) + 1 by omega]; exact h3)))
      (fun g2 h2 => hd g2 (by rw [List.length_cons, show k + (xs.length + 1) = k + 1 + xs.length by omega]; exact h2)) h'
theorem fuN_self (fu : Option Nat) : fuN fu fu = fu := by cases fu <;> rfl
/-- a comprehension whose element is a plain function of the item -/
theorem lc_map {sl : List (Option Sv)} {i : Nat} {te : DE} (f : Da → Da) {Q : List Da → Option Nat → Prop} {fu : Option Nat} : ∀ {ds acc : List Da},
    (∀ x ∈ ds, ∀ R : Rv → Gs → Prop, (∀ g3 : Gs, g3.fu = fu → R (.val (f x)) g3) → te (Gs.set ⟨sl, fu, false⟩ i (.val x)) R) → acc.length + ds.length ≤ 1000000 → Q (acc ++ ds.map f) fu → lcD sl (dN i) dYes te ds acc fu Q
  | [], acc, _, _, h => by rw [List.map_nil, List.append_nil] at h; exact h
  | x :: xs, acc, hs, hl, h => by
    refine ⟨fun _ => hs x List.mem_cons_self _ fun g3 e => ⟨?_, ?_⟩, fun z => nomatch z⟩
    · rw [List.length_cons] at hl; omega
    · rw [e, fuN_self]
      refine lc_map f (fun y hy => hs y (List.mem_cons_of_mem _ hy)) ?_ ?_
      · rw [List.length_cons] at hl
        rw [List.length_append, List.length_cons, List.length_nil]
        omega
      · rw [List.append_assoc]
        exact h
theorem gcd_step {a b : Int} (ha : 0 ≤ a) (hb : 0 < b) : Int.gcd b (a % b) = Int.gcd a b := by
  obtain ⟨n, rfl⟩ := Int.eq_ofNat_of_zero_le ha
  obtain ⟨m, rfl⟩ := Int.eq_ofNat_of_zero_le (Int.le_of_lt hb)
  rw [← Int.natCast_emod, Int.gcd_natCast_natCast, Int.gcd_natCast_natCast, Nat.gcd_comm n m, Nat.gcd_rec m n, Nat.gcd_comm]
theorem gcd_pos {a b : Int} (hb : 0 < b) : 0 < (Int.gcd a b : Int) := by
  have := Int.gcd_pos_of_ne_zero_right a (show b ≠ 0 by omega)
  omega
theorem gcd_le {a b : Int} (hb : 0 < b) : (Int.gcd a b : Int) ≤ b := by
  have h : (Int.gcd a b : Int) ∣ b := Int.gcd_dvd_right a b
  exact Int.le_of_dvd hb h
def low (n d : Int) : Int × Int := (n / Int.gcd n d, d / Int.gcd n d)
def lowD (n d : Int) : Da := num (low n d).1 (low n d).2
def bl (i : Int) : Int := (Builtin.Int.intBits i : Nat)
/-- times 2 ** f, as two ints -/
def scI (n d f : Int) : Int × Int := (n * 2 ^ f.toNat, d * 2 ^ (-f).toNat)
def powI (k e : Int) : Int × Int := low (scI k 1 e).1 (scI k 1 e).2
def cellI (n d w : Int) : Int × Int :=
  if 2 ^ w.toNat ≤ (scI n d (0 - (bl n - bl d - w))).1 / (scI n d (0 - (bl n - bl d - w))).2 then ((scI n d (0 - (bl n - bl d - w + 1))).1 / (scI n d (0 - (bl n - bl d - w + 1))).2, bl n - bl d - w + 1)
  else ((scI n d (0 - (bl n - bl d - w))).1 / (scI n d (0 - (bl n - bl d - w))).2, bl n - bl d - w)
def posI (n d w : Int) : Int × Int :=
  low ((scI n d (0 - (cellI n d w).2)).1 - (cellI n d w).1 * (scI n d (0 - (cellI n d w).2)).2) (scI n d (0 - (cellI n d w).2)).2
/-- the six rules -/
inductive Ru where | dn | hd | he | hu | od | up
  deriving DecidableEq
def Ru.s : Ru → Str
  | .dn => "down"
  | .hd => "half_down"
  | .he => "half_even"
  | .hu => "half_up"
  | .od => "odd"
  | .up => "up"
theorem shaped_ru (r : Ru) : SeqAt.shaped (.str r.s) = true := by cases r <;> decide +kernel
abbrev nm (p : Int × Int) : Da := num p.1 p.2
end Z
namespace Z
open L2 PySem PySem.Spec PyProof.Rows
theorem scI_pos {n d f : Int} (hn : 0 < n) (hd : 0 < d) : 0 < (scI n d f).1 ∧ 0 < (scI n d f).2 := ⟨Int.mul_pos hn (pow2_pos _), Int.mul_pos hd (pow2_pos _)⟩
end Z
namespace Z
open L2 PySem PySem.Spec PyProof.Rows
open Evl (Ex ex_l ex_t ex_rd fresh_back)
mutual
/-- at most so long is its text -/
def szD : Da → Nat
  | .none => 4
  | .bool _ => 5
  | .int _ => 1921
  | .str x => 10 * x.length + 2
  | .list xs => szAll xs + 3
  | .tuple xs => szAll xs + 3
  | .dict _ => 0
def szAll : List Da → Nat
  | [] => 0
  | x :: xs => szD x + 2 + szAll xs
end
theorem strOk_small {x : Str} (h : PyData.strOk x = true) : ∀ c ∈ x.cps.toList, c < 16 ^ 8 := fun c hc => by
  unfold PyData.strOk at h
  rw [Array.all_eq_true_iff_forall_mem] at h
  have h1 := h c (by simpa using hc)
  have h2 : c < 0x110000 := of_decide_eq_true h1
  exact Nat.lt_trans h2 (by decide)
mutual
theorem szD_ok : ∀ d : Da, d.canLay0 = true → d.showable = true → d.shown.length ≤ szD d
  | .none, _, _ => by decide +kernel
  | .bool true, _, _ => by decide +kernel
  | .bool false, _, _ => by decide +kernel
  | .int i, _, h => int_text_len_1921 (of_decide_eq_true (show decide (i.natAbs.log2 < 1920) = true from h))
  | .str x, h, _ => StrLaws.reprText_len x (strOk_small h)
  | .list xs, h, h' => by
    have h1 := szAll_ok xs (by simpa [PyData.canLay0] using h) (by simpa [PyData.showable] using h')
    have h2 := listText_len_le (PyData.shownAll xs)
    show (listText (PyData.shownAll xs)).length ≤ szAll xs + 3
    omega
  | .tuple xs, h, h' => by
    have h1 := szAll_ok xs (by simpa [PyData.canLay0] using h) (by simpa [PyData.showable] using h')
    have h2 := tupleText_len_le (PyData.shownAll xs)
    show (tupleText (PyData.shownAll xs)).length ≤ szAll xs + 3
    omega
  | .dict _, h, _ => by simp [PyData.canLay0] at h
theorem szAll_ok : ∀ xs : List Da, PyData.canLayAll0 xs = true → PyData.showableAll xs = true → ((PyData.shownAll xs).map (·.length)).sum + 2 * (PyData.shownAll xs).length ≤ szAll xs
  | [], _, _ => by simp [PyData.shownAll, szAll]
  | x :: xs, h, h' => by
    have q : x.canLay0 = true ∧ PyData.canLayAll0 xs = true := by simpa [PyData.canLayAll0] using h
    have q' : x.showable = true ∧ PyData.showableAll xs = true := by simpa [PyData.showableAll] using h'
    have h1 := szD_ok x q.1 q'.1
    have h2 := szAll_ok xs q.2 q'.2
    simp only [PyData.shownAll, szAll, List.map_cons, List.sum_cons, List.length_cons]
    omega
end
/-- may be shown -/
def Sh (d : Da) : Prop := d.canLay0 = true ∧ d.showable = true ∧ d.depth ≤ 60 ∧ szD d ≤ 16000000
theorem Sh.len {d : Da} (h : Sh d) : d.shown.length ≤ sizeLine := Nat.le_trans (szD_ok d h.1 h.2.1) (Nat.le_trans h.2.2.2 (by decide))
def pick {α : Type} (perm : List Nat) (ws : List α) : List α := perm.filterMap fun i => ws[i]?
end Z
namespace Z
open L2 PySem PySem.Spec PyProof.Rows
open Evl (Ex ex_l ex_t ex_rd fresh_back)
def Cps (x : Str) : Prop := ∀ c ∈ x.cps.toList, c < 0x110000
theorem cps_ok {x : Str} : PyData.strOk x = true ↔ Cps x := by
  unfold PyData.strOk Cps
  rw [Array.all_eq_true_iff_forall_mem]
  simp
theorem cps_of (s : String) : Cps (Str.ofString s) := by
  rw [Str.ofString_eq_toList]
  intro c hc
  simp only [List.mem_map] at hc
  obtain ⟨ch, _, rfl⟩ := hc
  have := ch.valid
  show ch.val.toNat < _
  rcases this with h | h
  · exact Nat.lt_trans h (by decide)
  · exact h.2
theorem cps_app {x y : Str} (hx : Cps x) (hy : Cps y) : Cps (x ++ y) := by
  intro c hc
  have : c ∈ (x.cps ++ y.cps).toList := hc
  rw [Array.toList_append, List.mem_append] at this
  exact this.elim (hx c) (hy c)
theorem cps_char {q c : Nat} (hq : q < 0x110000) (hc : c < 0x110000) : ∀ k ∈ Builtin.Str.reprChar q c, k < 0x110000 := by
  have hh : ∀ (w : Nat), ∀ k ∈ List.replicate (w - ((Nat.toDigits 16 c).map Char.toNat).length) 48 ++ (Nat.toDigits 16 c).map Char.toNat, k < 0x110000 := fun w k hk => by
    rw [List.mem_append] at hk
    rcases hk with h | h
    · have := (List.mem_replicate.mp h).2; omega
    · obtain ⟨ch, _, rfl⟩ := List.mem_map.mp h
      have := ch.valid
      show ch.val.toNat < _
      rcases this with h | h
      · exact Nat.lt_trans h (by decide)
      · exact h.2
  intro k hk
  unfold Builtin.Str.reprChar at hk
  dsimp only at hk
  repeat' split at hk
  all_goals first
    | (simp only [List.mem_append, List.mem_cons, List.not_mem_nil, or_false] at hk; omega)
    | (rw [List.mem_append] at hk
       rcases hk with h | h
       · (simp only [List.mem_cons, List.not_mem_nil, or_false] at h; omega)
       · exact hh _ k h)
theorem cps_fold {q : Nat} (hq : q < 0x110000) : ∀ (l : List Nat) (acc : Array Nat), (∀ c ∈ l, c < 0x110000) → (∀ c ∈ acc.toList, c < 0x110000) → ∀ c ∈ (l.foldl (fun out c => out ++ (Builtin.Str.reprChar q c).toArray) acc).toList, c < 0x110000
  | [], _, _, ha => ha
  | x :: l, acc, hl, ha => by
    rw [List.foldl_cons]
    refine cps_fold hq l _ (fun c hc => hl c (List.mem_cons_of_mem _ hc)) fun c hc => ?_
    rw [Array.toList_append, List.mem_append] at hc
    rcases hc with h | h
    · exact ha c h
    · exact cps_char hq (hl x List.mem_cons_self) c (by simpa using h)
theorem cps_repr {x : Str} (h : Cps x) : Cps (reprText x) := by
  have hq : reprQuote x < 0x110000 := by unfold reprQuote; split <;> decide
  intro c hc
  unfold reprText at hc
  rw [Array.toList_push, List.mem_append, ← Array.foldl_toList] at hc
  rcases hc with hc | hc
  · refine cps_fold hq _ _ h (fun d hd => ?_) c hc
    have : d = reprQuote x := by simpa using hd
    omega
  · have : c = reprQuote x := by simpa using hc
    omega
theorem cps_text : ∀ (ts : List Str) (k : Nat) (acc : Str), Cps acc → (∀ t ∈ ts, Cps t) → Cps (textFrom k acc ts)
  | [], _, _, ha, _ => ha
  | t :: ts, k, acc, ha, h => cps_text ts (k + 1) _ (cps_app (cps_app ha (cps_of _)) (h t List.mem_cons_self)) fun u hu => h u (List.mem_cons_of_mem _ hu)
theorem cps_join {sep : Str} (hs : Cps sep) : ∀ ts : List Str, (∀ t ∈ ts, Cps t) → Cps (Str.join sep ts)
  | [], _ => fun c hc => by simp [Str.join, Str.empty] at hc
  | [x], h => h x List.mem_cons_self
  | x :: y :: r, h => cps_app (cps_app (h x List.mem_cons_self) hs) (cps_join hs (y :: r) fun t ht => h t (List.mem_cons_of_mem _ ht))
mutual
theorem cps_shown : ∀ d : Da, d.canLay0 = true → Cps d.shown
  | .none, _ => cps_of _
  | .bool b, _ => by cases b <;> exact cps_of _
  | .int i, _ => cps_of _
  | .str x, h => cps_repr (cps_ok.mp (by simpa [PyData.canLay0] using h))
  | .list xs, h => cps_app (cps_text _ _ _ (cps_of _) (cps_all xs (by simpa [PyData.canLay0] using h))) (cps_of _)
  | .tuple xs, h => cps_app (cps_app (cps_of _) (cps_join (cps_of _) _ (cps_all xs (by simpa [PyData.canLay0] using h)))) (cps_of _)
  | .dict _, h => by simp [PyData.canLay0] at h
theorem cps_all : ∀ xs : List Da, PyData.canLayAll0 xs = true → ∀ t ∈ PyData.shownAll xs, Cps t
  | [], _, t, ht => by simp [PyData.shownAll] at ht
  | x :: xs, h, t, ht => by
    have q : x.canLay0 = true ∧ PyData.canLayAll0 xs = true := by simpa [PyData.canLayAll0] using h
    rcases List.mem_cons.mp (show t ∈ x.shown :: PyData.shownAll xs from ht) with rfl | ht
    · exact cps_shown x q.1
    · exact cps_all xs q.2 t ht
end
theorem shaped_str {x : Str} (h : Cps x) : SeqAt.shaped (.str x) = true := by
  have h1 : PyData.canLay0 (.str x) = true := cps_ok.mpr h
  unfold SeqAt.shaped
  rw [h1]
  rfl
theorem eqv_strs (a b c d : Str) : (PyData.list [.str a, .str b]).eqv (.list [.str c, .str d]) = (decide (a = c) && decide (b = d)) := by
  simp [PyData.eqv, PyData.eqvAll]
  by_cases h1 : a = c <;> by_cases h2 : b = d <;> simp [h1, h2]
theorem showI {n : Int} (h : Bn 1900 n) : n.natAbs.log2 < 1920 := by
  by_cases h0 : n.natAbs = 0
  · rw [h0]; decide
  · exact (Nat.log2_lt h0).mpr (Nat.lt_trans h.lt (Nat.pow_lt_pow_right (by decide) (by decide)))
theorem Sh.int {n : Int} (hn : Bn 1900 n) : Sh (.int n) := by
  refine ⟨rfl, ?_, by show 0 ≤ 60; decide, by show 1921 ≤ 16000000; decide⟩
  have := showI hn
  simp [PyData.showable, *]
theorem Sh.none : Sh .none := ⟨rfl, rfl, by decide, by decide⟩
theorem Sh.bool (b : Bool) : Sh (.bool b) := ⟨rfl, rfl, by show 0 ≤ 60; decide, by show 5 ≤ 16000000; decide⟩
theorem pick_0 {α : Type} (a : α) : pick [0] [a] = [a] := rfl
theorem pick_01 {α : Type} (a b : α) : pick [0, 1] [a, b] = [a, b] := rfl
theorem pick_10 {α : Type} (a b : α) : pick [1, 0] [a, b] = [b, a] := rfl
theorem pick_012 {α : Type} (a b c : α) : pick [0, 1, 2] [a, b, c] = [a, b, c] := rfl
theorem pick_021 {α : Type} (a b c : α) : pick [0, 2, 1] [a, b, c] = [a, c, b] := rfl
theorem pick_102 {α : Type} (a b c : α) : pick [1, 0, 2] [a, b, c] = [b, a, c] := rfl
theorem pick_120 {α : Type} (a b c : α) : pick [1, 2, 0] [a, b, c] = [b, c, a] := rfl
theorem pick_201 {α : Type} (a b c : α) : pick [2, 0, 1] [a, b, c] = [c, a, b] := rfl
theorem pick_210 {α : Type} (a b c : α) : pick [2, 1, 0] [a, b, c] = [c, b, a] := rfl
theorem boolsD_true : ∀ ds : List Da, boolsD (ds.map fun _ => .bool true) = some (ds.map fun _ => true)
  | [] => rfl
  | d :: ds => by
    have := boolsD_true ds
    simp [boolsD, this]
theorem rangeD_mem {lo : Int} {n : Nat} {x : Da} (h : x ∈ rangeD lo n) : ∃ i : Int, x = .int i ∧ lo ≤ i ∧ i < lo + n := by
  unfold rangeD at h
  obtain ⟨i, hi, rfl⟩ := List.mem_map.mp h
  have := List.mem_range.mp hi
  exact ⟨_, rfl, by omega, by omega⟩
theorem all_true (ds : List Da) : (ds.map fun _ => true).all id = true := by
  induction ds with
  | nil => rfl
  | cons d ds ih => simpa using ih
theorem low_pos {n d : Int} (hn : 0 < n) (hd : 0 < d) : 0 < (low n d).1 ∧ 0 < (low n d).2 ∧ Int.gcd (low n d).1 (low n d).2 = 1 ∧ (low n d).1 ≤ n ∧ (low n d).2 ≤ d := by
  have g0 := gcd_pos (a := n) hd
  have d1 : (Int.gcd n d : Int) ∣ n := Int.gcd_dvd_left n d
  have d2 : (Int.gcd n d : Int) ∣ d := Int.gcd_dvd_right n d
  refine ⟨Int.ediv_pos_of_pos_of_dvd hn (Int.le_of_lt g0) d1, Int.ediv_pos_of_pos_of_dvd hd (Int.le_of_lt g0) d2, ?_, Int.ediv_le_self _ (Int.le_of_lt hn), Int.ediv_le_self _ (Int.le_of_lt hd)⟩
  show Int.gcd (n / Int.gcd n d) (d / Int.gcd n d) = 1
  exact Int.gcd_ediv_gcd_ediv_gcd (by omega)
end Z
namespace Z
open L2 PySem PySem.Spec PyProof.Rows
end Z
namespace Z
open L2 PySem PySem.Spec PyProof.Rows
open Evl (Ex ex_l ex_t ex_rd fresh_back)
/-- the remainder of a * x lies between l and h -/
def Hit (a m l h x : Int) : Prop := l ≤ a * x % m ∧ a * x % m ≤ h
/-- the least int from 0 on that hits -/
def LM (a m l h : Int) : Option Int → Prop
  | some x => 0 ≤ x ∧ Hit a m l h x ∧ ∀ y, 0 ≤ y → Hit a m l h y → x ≤ y
  | none => ∀ y, 0 ≤ y → ¬Hit a m l h y
/-- rounded up -/
def upI' (n d : Int) : Int := -(-n / d)
theorem up_iff {n d x : Int} (hd : 0 < d) : upI' n d ≤ x ↔ n ≤ d * x := by
  unfold upI'
  have h1 := Int.ediv_mul_le (-n) (show d ≠ 0 by omega)
  have h2 := Int.lt_ediv_add_one_mul_self (-n) hd
  generalize -n / d = q at h1 h2 ⊢
  have e1 : (q + 1) * d = q * d + d := by grind
  rw [e1] at h2
  constructor
  · intro h
    have : (-q) * d ≤ x * d := Int.mul_le_mul_of_nonneg_right h (by omega)
    have e2 : (-q) * d = -(q * d) := by grind
    have e3 : x * d = d * x := by grind
    omega
  · intro h
    apply Int.not_lt.mp
    intro hc
    have : (x + 1) * d ≤ (-q) * d := Int.mul_le_mul_of_nonneg_right (by omega) (by omega)
    have e2 : (-q) * d = -(q * d) := by grind
    have e3 : (x + 1) * d = d * x + d := by grind
    omega
theorem up_lt {n d : Int} (hd : 0 < d) : d * (upI' n d - 1) < n ∧ n ≤ d * upI' n d := by
  refine ⟨?_, (up_iff hd).mp (Int.le_refl _)⟩
  apply Int.not_le.mp
  intro h
  have := (up_iff (x := upI' n d - 1) hd).mpr h
  omega
theorem up_eq {n d x : Int} (hd : 0 < d) (h1 : d * (x - 1) < n) (h2 : n ≤ d * x) : upI' n d = x := by
  have a := (up_iff hd).mpr h2
  have b : ¬upI' n d ≤ x - 1 := fun h => absurd ((up_iff hd).mp h) (by omega)
  omega
theorem mod_of {t q r m : Int} (h : t = m * q + r) (h0 : 0 ≤ r) (h1 : r < m) : t % m = r ∧ t / m = q := by
  have hm : 0 < m := by omega
  have e : t % m = r := by
    rw [h, Int.add_comm, Int.add_mul_emod_self_left, Int.emod_eq_of_lt h0 h1]
  refine ⟨e, ?_⟩
  have := Int.mul_ediv_add_emod t m
  rw [e] at this
  have h3 : m * (t / m) = m * q := by omega
  exact Int.eq_of_mul_eq_mul_left (by omega) h3
theorem hit_of {a m l h x y : Int} (h0 : 0 < l) (hm : h < m) (h1 : l ≤ a * x - m * y) (h2 : a * x - m * y ≤ h) : Hit a m l h x := by
  have := (mod_of (t := a * x) (q := y) (r := a * x - m * y) (m := m) (by omega) (by omega) (by omega)).1
  unfold Hit
  rw [this]
  exact ⟨h1, h2⟩
theorem hit_to {a m l h x : Int} (H : Hit a m l h x) : l ≤ a * x - m * (a * x / m) ∧ a * x - m * (a * x / m) ≤ h := by
  have := Int.mul_ediv_add_emod (a * x) m
  unfold Hit at H
  omega
/-- no multiple lies in it: what is left for the smaller problem -/
theorem lm_step {a m l h : Int} (ha : 0 < a) (h0 : 0 < l) (hl : l ≤ h) (hm : h < m) (hf : h < a * upI' l a) :
    (0 < -h % a ∧ -h % a ≤ -l % a ∧ -l % a < a) ∧ (∀ r, LM (m % a) a (-h % a) (-l % a) r → LM a m l h (r.map fun y => upI' (l + m * y) a)) := by
  obtain ⟨u1, u2⟩ := up_lt (n := l) ha
  generalize hc : upI' l a = c at u1 u2 hf
  have e1 : a * (c - 1) = a * c - a := by grind
  rw [e1] at u1
  -- the interval, from the multiple above it
  have m1 : -l % a = a * c - l := (mod_of (q := -c) (by grind) (by omega) (by omega)).1
  have m2 : -h % a = a * c - h := (mod_of (q := -c) (by grind) (by omega) (by omega)).1
  rw [m1, m2]
  have b1 : 0 < a * c - h := by omega
  have b2 : a * c - h ≤ a * c - l := by omega
  have b3 : a * c - l < a := by omega
  refine ⟨⟨b1, b2, b3⟩, ?_⟩
  have hm' := Int.mul_ediv_add_emod m a
  generalize hq : m / a = q at hm'
  generalize hk : m % a = k at hm'
  have k0 : 0 ≤ k := by rw [← hk]; exact Int.emod_nonneg _ (by omega)
  -- from a hit of the smaller problem
  have up1 : ∀ y, 0 ≤ y → Hit k a (a * c - h) (a * c - l) y → ∃ x, 0 ≤ x ∧ l ≤ a * x - m * y ∧ a * x - m * y ≤ h := fun y y0 hy => by
    obtain ⟨t1, t2⟩ := hit_to hy
    generalize hu : k * y / a = u at t1 t2
    have u0 : 0 ≤ u := by rw [← hu]; exact Int.ediv_nonneg (Int.mul_nonneg k0 y0) (by omega)
    have q0 : 0 ≤ q := by rw [← hq]; exact Int.ediv_nonneg (by omega) (by omega)
    have c0 : 0 ≤ c := by
      apply Int.not_lt.mp
      intro hc
      have : a * c ≤ a * 0 := Int.mul_le_mul_of_nonneg_left (by omega) (by omega)
      omega
    have x0 : 0 ≤ q * y := Int.mul_nonneg q0 y0
    have ex : a * (u + q * y + c) - m * y = a * u + a * c - k * y := by rw [← hm']; grind
    exact ⟨u + q * y + c, by omega, by omega, by omega⟩
  have down : ∀ x y, l ≤ a * x - m * y → a * x - m * y ≤ h → Hit k a (a * c - h) (a * c - l) y := fun x y t1 t2 => by
    have ex : a * x - m * y = a * (x - q * y) - k * y := by rw [← hm']; grind
    have ez : k * y - a * (x - q * y - c) = k * y - a * (x - q * y) + a * c := by grind
    exact hit_of (y := x - q * y - c) b1 (by omega) (by omega) (by omega)
  intro r hr
  cases r with
  | none =>
    intro x x0 hx
    obtain ⟨t1, t2⟩ := hit_to hx
    by_cases hy : 0 ≤ a * x / m
    · exact hr _ hy (down _ _ t1 t2)
    · exact absurd (Int.ediv_nonneg (Int.mul_nonneg (Int.le_of_lt ha) x0) (by omega)) hy
  | some y =>
    obtain ⟨y0, hy, hmin⟩ := hr
    obtain ⟨x, x0, t1, t2⟩ := up1 y y0 hy
    have ee : upI' (l + m * y) a = x := by
      have e3 : a * (x - 1) = a * x - a := by grind
      exact up_eq ha (by omega) (by omega)
    show LM a m l h (some (upI' (l + m * y) a))
    rw [ee]
    refine ⟨x0, hit_of h0 hm t1 t2, fun x' x0' hx' => ?_⟩
    obtain ⟨s1, s2⟩ := hit_to hx'
    have y0' : 0 ≤ a * x' / m := Int.ediv_nonneg (Int.mul_nonneg (Int.le_of_lt ha) x0') (by omega)
    have hle := hmin _ y0' (down _ _ s1 s2)
    rw [← ee]
    rw [up_iff ha]
    have : m * y ≤ m * (a * x' / m) := Int.mul_le_mul_of_nonneg_left hle (by omega)
    omega
/-- the steps put aside -/
inductive Chn (A M L H : Int) : List (Int × Int × Int) → Int → Int → Int → Int → Prop
  | nil : Chn A M L H [] A M L H
  | snoc {os : List (Int × Int × Int)} {a m l h : Int} (c : Chn A M L H os a m l h) (ha : 0 < a) (hf : h < a * upI' l a) : Chn A M L H (os ++ [(a, m, l)]) (m % a) a (-h % a) (-l % a)
theorem Chn.ok {A M L H : Int} (hA : 0 ≤ A) (hAM : A < M) (hL : 0 < L) (hLH : L ≤ H) (hM : H < M) {os : List (Int × Int × Int)} {a m l h : Int} (c : Chn A M L H os a m l h) : 0 ≤ a ∧ a < m ∧ 0 < l ∧ l ≤ h ∧ h < m ∧ m ≤ M ∧ a * m * 2 ^ os.length ≤ A * M := by
  induction c with
  | nil => exact ⟨hA, hAM, hL, hLH, hM, Int.le_refl _, by simp⟩
  | snoc c ha hf ih =>
    rename_i os a m l h
    obtain ⟨i1, i2, i3, i4, i5, i6, i7⟩ := ih
    obtain ⟨⟨s1, s2, s3⟩, _⟩ := lm_step (m := m) ha i3 i4 i5 hf
    have r0 := Int.emod_nonneg m (show a ≠ 0 by omega)
    have r1 := Int.emod_lt_of_pos m ha
    refine ⟨r0, r1, s1, s2, s3, by omega, ?_⟩
    refine Int.le_trans ?_ i7
    rw [List.length_append, List.length_cons, List.length_nil, Int.pow_succ]
    have q1 := Int.mul_ediv_add_emod m a
    have q2 : 1 ≤ m / a := by
      have := (Int.le_ediv_iff_mul_le ha (a := 1) (b := m)).mpr (by omega)
      exact this
    have q3 : a * 1 ≤ a * (m / a) := Int.mul_le_mul_of_nonneg_left q2 (by omega)
    have q4 : 2 * (m % a) ≤ m := by omega
    have p := pow2_pos os.length
    have e : m % a * a * (2 ^ os.length * 2) = 2 * (m % a) * (a * 2 ^ os.length) := by grind
    have e2 : a * m * 2 ^ os.length = m * (a * 2 ^ os.length) := by grind
    rw [e, e2]
    exact Int.mul_le_mul_of_nonneg_right q4 (Int.mul_nonneg (by omega) (Int.le_of_lt p))
end Z
namespace Z
open L2 PySem PySem.Spec PyProof.Rows
end Z
namespace Z
open L2 PySem PySem.Spec PyProof.Rows
end Z
namespace Z
open L2 PySem PySem.Spec PyProof.Rows
open Evl (Ex ex_l ex_t ex_rd fresh_back)
end Z
namespace Z
open L2 PySem PySem.Spec PyProof.Rows
open Evl (Ex ex_l ex_t ex_rd fresh_back)
end Z
namespace Z
open L2 PySem PySem.Spec PyProof.Rows
open Evl (Ex ex_l ex_t ex_rd fresh_back)
abbrev DO := Gs → (Option Int → Gs → Prop) → Prop
def oNo : DO := fun g Q => Q none g
def oSo (te : DE) : DO := fun g Q => te g fun r g1 => match r with
  | .val (.int i) => Q (some i) g1
  | _ => False
def upO (K : Fg) (t : DO) : TO := fun σ H Q => ∃ c g tv tr F a post, Sta K c g σ H tv tr F a ∧ t g post ∧
  ∀ o g' H' F' a', post o g' → Sta K c g' σ H' tv tr F' a' → Q o H'
def cutD (ds : List Da) (lo hi : Option Int) : List Da := (ds.drop (HT.sIx ds.length 0 lo)).take (HT.sIx ds.length ds.length hi - HT.sIx ds.length 0 lo)
def dSl (ta : DE) (tl th : DO) : DE := fun g Q => ta g fun x g1 => tl g1 fun lo g2 => th g2 fun hi g3 => match x with
  | .val (.list ds) => Q (.val (.list (cutD ds lo hi))) g3
  | .val (.tuple ds) => ¬(HT.sIx ds.length 0 lo = 0 ∧ HT.sIx ds.length ds.length hi = ds.length) ∧ Q (.val (.tuple (cutD ds lo hi))) g3
  | _ => False
theorem Rps.drop {K : Fg} {F : Hp} : ∀ {vs : List V} {ds : List Da} (n : Nat), Rps K F vs ds → Rps K F (vs.drop n) (ds.drop n)
  | _, _, 0, h => h
  | _, _, n + 1, .nil => .nil
  | _, _, n + 1, .cons _ t => Rps.drop n t
theorem Rps.take {K : Fg} {F : Hp} : ∀ {vs : List V} {ds : List Da} (n : Nat), Rps K F vs ds → Rps K F (vs.take n) (ds.take n)
  | _, _, 0, _ => .nil
  | _, _, n + 1, .nil => .nil
  | _, _, n + 1, .cons r t => .cons r (Rps.take n t)
theorem Rps.cut {K : Fg} {F : Hp} {vs : List V} {ds : List Da} (h : Rps K F vs ds) (lo hi : Option Int) : Rps K F (cutV vs lo hi) (cutD ds lo hi) := by
  unfold cutV cutD
  rw [h.len]
  exact (h.drop _).take _
section
variable {X : Cx} {e : Expr} {te : DE}
theorem po_to {o : Option Expr} {t t' : TO} (h : PO X o t) (i : ∀ σ H Q, t' σ H Q → t σ H Q) : PO X o t' := ⟨fun pins s σ H Q I q => h.run pins s σ H Q I (i σ H Q q)⟩
theorem o_none : PO X none (upO X.K oNo) := po_to po_none fun σ H Q q => by
  obtain ⟨c, g, tv, tr, F, ad, post, s, t, k⟩ := q
  exact k none g H F ad t s
theorem o_some (h : PE X e (up X.K te)) : PO X (some e) (upO X.K (oSo te)) := po_to (po_some h) fun σ H Q q => by
  obtain ⟨c, g, tv, tr, F, ad, post, s, t, k⟩ := q
  refine ⟨c, g, tv, tr, F, ad, _, s, t, fun r g1 v H1 F1 a1 t1 s1 => ?_⟩
  cases r with
  | val d =>
    cases d with
    | int i =>
      have hr : Rp X.K F1 v (.int i) := s1.top
      cases hr
      exact ⟨i, rfl, k _ g1 H1 F1 a1 t1 s1.pop1⟩
    | _ => exact t1.elim
  | _ => exact t1.elim
variable {lo hi : Option Expr} {tl th : DO} {ta : DE} {a : Expr} {p2 pos : Pos}
theorem e_sl (ha : PE X a (up X.K ta)) (hl : PO X lo (upO X.K tl)) (hu : PO X hi (upO X.K th)) : PE X (.Subscript a (.Slice lo hi none p2) pos) (up X.K (dSl ta tl th)) := pe_to (pe_slice (sl_list.or sl_tup) ha hl hu) fun σ H Q q => by
  obtain ⟨c, g, tv, tr, F, ad, post, s, t, k⟩ := q
  refine ⟨c, g, tv, tr, F, ad, _, s, t, fun x g1 v1 H1 F1 a1 t1 s1 => ?_⟩
  refine ⟨c, g1, _, _, F1, a1, _, s1, t1, fun l g2 H2 F2 a2 t2 s2 => ?_⟩
  refine ⟨c, g2, _, _, F2, a2, _, s2, t2, fun u g3 H3 F3 a3 t3 s3 => ?_⟩
  cases x with
  | val d =>
    cases d with
    | list ds =>
      have hr : Rp X.K F3 v1 (.list ds) := s3.top
      cases hr with
      | lst sq m =>
        rename_i pp xs
        refine .inl ⟨_, _, rfl, .inl (.inl (s3.eh _ _ sq)), fun q hq => ?_⟩
        have gr := Gr.new (o := .lst (cutV xs l u)) s3.eh hq
        exact k _ g3 _ _ _ a3 t3 ((s3.pop1.grow gr).push (r := .val (.list (cutD ds l u))) (.lst upd_same ((m.cut l u).up gr.f)))
    | tuple ds =>
      have hr : Rp X.K F3 v1 (.tuple ds) := s3.top
      cases hr with
      | tup sq m =>
        rename_i pp xs
        refine .inr ⟨_, _, rfl, ex_t s3.eh sq, by rw [m.len]; exact t3.1, fun q hq => ?_⟩
        have gr := Gr.new (o := .tup (cutV xs l u)) s3.eh hq
        exact k _ g3 _ _ _ a3 t3.2 ((s3.pop1.grow gr).push (r := .val (.tuple (cutD ds l u))) (.tup (.inl (.inl upd_same)) ((m.cut l u).up gr.f)))
    | _ => exact t3.elim
  | _ => exact t3.elim
end
end Z
namespace Z
open L2 PySem PySem.Spec PyProof.Rows
open Evl (Ex ex_l ex_t ex_rd fresh_back)
end Z
namespace Z
open L2 PySem PySem.Spec PyProof.Rows
end Z
namespace Z
open L2 PySem PySem.Spec PyProof.Rows
open Evl (Ex ex_l ex_t ex_rd fresh_back)
def rSortedD (K : Fg) : List V → Hp → VK → Prop := fun vs H Q => ∃ (a : Addr) (bs : List (V × Da)), vs = [V.ref a] ∧ SqL K H a (bs.map Prod.fst) ∧ (∀ b ∈ bs, Dp K H b.1 b.2) ∧ PySem.W.AllAlike (bs.map Prod.snd) ∧ PySem.W.Sortable (bs.map Prod.snd) ∧ (∀ b ∈ bs, b.2.depth ≤ 50) ∧
  ∀ (bs' : List (V × Da)) (p : Addr), bs'.Perm bs → (bs'.map Prod.snd).Pairwise (fun a b => PySem.W.dataLe false id a b = true) → H p = none → Q (.ref p) (upd H p (.lst (bs'.map Prod.fst)))
theorem each_vals : ∀ {bs : List (V × Da)} {its : List Value}, Vals (bs.map Prod.fst) its → PySem.W.EachIs (fun v b => RelV b.1 v) its bs
  | [], _, h => by cases h; exact .nil
  | b :: bs, _, h => by
    cases h with
    | cons h t => exact .cons h (each_vals t)
theorem vals_each : ∀ {bs : List (V × Da)} {its : List Value}, PySem.W.EachIs (fun v b => RelV b.1 v) its bs → Vals (bs.map Prod.fst) its
  | _, _, .nil => .nil
  | _, _, .cons h t => .cons h (vals_each t)
theorem each_and {α β : Type} {R S : α → β → Prop} : ∀ {as : List α} {bs : List β}, PySem.W.EachIs R as bs → (∀ a, ∀ b ∈ bs, R a b → S a b) → PySem.W.EachIs S as bs
  | _, _, .nil, _ => .nil
  | _, _, .cons h t, k => .cons (k _ _ (List.mem_cons_self ..) h) (each_and t fun a b hb => k a b (List.mem_cons_of_mem _ hb))
section
variable {X : Cx}
theorem cr_sortedD (hu : X.A.units + 64 < cLine) : CallR X (.builtin "sorted") (rSortedD X.K) := by
  intro pins s σ H vs us Q I r h
  obtain ⟨a, bs, rfl, hs, hd, ha, hk, hdp, q⟩ := h
  obtain ⟨its, rv, hl, hz⟩ := I.list hs
  rw [Vals.ref1 r]
  have e := each_vals rv
  have er : PySem.W.EachIs (fun v (b : V × Da) => ∃ as, Reads s.heap v b.2 as) its bs := each_and e fun v b hb hr => Dp.reads I b.2 b.1 v (hd b hb) hr
  rw [List.length_map] at hz
  refine PySem.W.sorted_data (enc := Prod.snd) hl.isList e er ha hk hz (fun b hb => by have := hdp b hb; omega) fun out h1 h2 => ?_
  obtain ⟨ep, he'⟩ := PyProof.Rows.sortedAll_at s.heap its out.toArray
  have pm : (bs.mergeSort (PySem.W.dataLe false Prod.snd)).Perm bs := List.mergeSort_perm ..
  have pw : ((bs.mergeSort (PySem.W.dataLe false Prod.snd)).map Prod.snd).Pairwise (fun a b => PySem.W.dataLe false id a b = true) := by
    rw [List.pairwise_map]
    exact PySem.W.sort_pairwise (PySem.W.sortLe_total _ _ _) bs
  have hlen : ((bs.mergeSort (PySem.W.dataLe false Prod.snd)).map Prod.fst).length ≤ sizeLine := by rw [List.length_map, pm.length_eq]; exact hz
  exact ⟨.ref _, upd H (s.heap.objs.size + 1) (.lst ((bs.mergeSort (PySem.W.dataLe false Prod.snd)).map Prod.fst)), I.laid (t' := s.toks) (fun _ _ => PyProof.Rows.sortedAll_old) (Nat.le_succ _) ⟨hlen, out, ep, vals_each h2, he'⟩, rfl, q _ _ pm pw (I.hok.fresh (Nat.le_succ _))⟩
end
def cSortedD : CF := fun rs post => match rs with
  | [.val (.list ds)] => PySem.W.AllAlike ds ∧ PySem.W.Sortable ds ∧ (∀ d ∈ ds, d.canLay0 = true ∧ d.depth ≤ 50) ∧ ∀ ds' : List Da, ds'.Perm ds → ds'.Pairwise (fun a b => PySem.W.dataLe false id a b = true) → post (.list ds')
  | _ => False
theorem rps_zip {K : Fg} {F : Hp} : ∀ {xs : List V} {ds : List Da}, Rps K F xs ds → ∃ bs : List (V × Da), bs.map Prod.fst = xs ∧ bs.map Prod.snd = ds ∧ ∀ b ∈ bs, Rp K F b.1 b.2
  | _, _, .nil => ⟨[], rfl, rfl, fun b hb => nomatch hb⟩
  | _, _, .cons h t => by
    obtain ⟨bs, rfl, rfl, h3⟩ := rps_zip t
    refine ⟨(_, _) :: bs, rfl, rfl, fun b hb => ?_⟩
    rcases List.mem_cons.mp hb with rfl | hb
    · exact h
    · exact h3 b hb
theorem zip_rps {K : Fg} {F : Hp} : ∀ {bs : List (V × Da)}, (∀ b ∈ bs, Rp K F b.1 b.2) → Rps K F (bs.map Prod.fst) (bs.map Prod.snd)
  | [], _ => .nil
  | b :: bs, h => .cons (h b (List.mem_cons_self ..)) (zip_rps fun c hc => h c (List.mem_cons_of_mem _ hc))
theorem ok_sortedD {K : Fg} : CallOk K (rSortedD K) cSortedD := fun F H a fu vs rs post Q e t hf k => by
  unfold cSortedD at hf
  split at hf
  · rename_i ds
    obtain ⟨v, rfl, r⟩ := t.v1
    obtain ⟨h1, h2, h3, h4⟩ := hf
    cases r with
    | lst sq m =>
      obtain ⟨bs, rfl, rfl, hb⟩ := rps_zip m
      refine ⟨_, bs, rfl, .inl (.inl (e _ _ sq)), fun b hm => (hb b hm).dp e _ _ (h3 _ (List.mem_map_of_mem hm)).1, h1, h2, fun b hm => (h3 _ (List.mem_map_of_mem hm)).2, fun bs' p pm pw hp => ?_⟩
      have gr := Gr.new (o := .lst (bs'.map Prod.fst)) e hp
      exact k _ _ _ _ (h4 _ (pm.map _) pw) gr (.lst upd_same ((zip_rps fun b hm => hb b (pm.mem_iff.mp hm)).up gr.f))
  · exact hf.elim
/-- pairs in order: their first ints are -/
theorem le_fst {i j : Int} {x y : Da} (h : PySem.W.dataLe false id (.tuple [.int i, x]) (.tuple [.int j, y]) = true) : i ≤ j := by
  rcases Int.lt_or_le j i with q | q
  · exfalso
    have h' : (!PyProof.Rows.lexLt PyProof.Rows.itemOrd (PySem.W.keyToks (.tuple [.int j, y])) (PySem.W.keyToks (.tuple [.int i, x]))) = true := h
    rw [Bool.not_eq_true'] at h'
    have e : PyProof.Rows.lexLt PyProof.Rows.itemOrd (PySem.W.keyToks (.tuple [.int j, y])) (PySem.W.keyToks (.tuple [.int i, x])) = true := by
      refine PyProof.Rows.lex_true.mpr (.inr ⟨rfl, PyProof.Rows.lex_true.mpr (.inl (decide_eq_true q))⟩)
    rw [e] at h'
    cases h'
  · exact q
section
variable {X : Cx} {p pos : Pos} {e : Expr} {tr : DA} {k : Nat}
theorem e_sortedD (hr : Room k X.A) (hg : Gl X "sorted") (hm : X.mg "sorted" = none) (ha : PA X [e] (upA X.K tr)) (he : starEach [e] X.env = (false, eval e X.env) :: starEach [] X.env := by rfl) : PE X (.Call (.Name "sorted" p) [e] [] pos) (up X.K (dCB cSortedD tr)) := e_callB (cr_sortedD hr.units) ok_sortedD hg hm (by decide +kernel) ha (by decide) (by decide) he rfl
end
end Z
namespace Z
open L2 PySem PySem.Spec PyProof.Rows
open Evl (Ex ex_l ex_t ex_rd fresh_back)
theorem low_val {x y : Int} (hy : 0 < y) : (low x y).1 * y = x * (low x y).2 := by
  unfold low
  obtain ⟨u, hu⟩ : (Int.gcd x y : Int) ∣ x := Int.gcd_dvd_left x y
  obtain ⟨v, hv⟩ : (Int.gcd x y : Int) ∣ y := Int.gcd_dvd_right x y
  have g0 := gcd_pos (a := x) hy
  generalize (Int.gcd x y : Int) = g at *
  subst hu hv
  rw [Int.mul_ediv_cancel_left _ (by omega), Int.mul_ediv_cancel_left _ (by omega)]
  grind
theorem pow_le2 {a b : Nat} (h : a ≤ b) : (2 : Int) ^ a ≤ 2 ^ b := by
  obtain ⟨c, rfl⟩ : ∃ c, b = a + c := ⟨b - a, by omega⟩
  rw [Int.pow_add]
  have h1 := pow2_pos a
  have h2 := pow2_pos c
  have := Int.mul_le_mul_of_nonneg_left (show (1 : Int) ≤ 2 ^ c by omega) (Int.le_of_lt h1)
  omega
theorem pow_pos {k e : Int} (hk : 0 < k) : 0 < (powI k e).1 ∧ 0 < (powI k e).2 ∧ Int.gcd (powI k e).1 (powI k e).2 = 1 := by
  unfold powI
  obtain ⟨a, b⟩ := scI_pos (n := k) (d := 1) (f := e) hk (by decide)
  obtain ⟨h1, h2, h3, _⟩ := low_pos a b
  exact ⟨h1, h2, h3⟩
/-- a threshold: a fraction, and to which side it goes there -/
structure Th where
  n : Int
  d : Int
  up : Bool
structure Th.Ok (t : Th) : Prop where
  n0 : 0 ≤ t.n
  nd : t.n ≤ t.d
  d0 : 0 < t.d
  z : t.n = 0 → t.up = false
  o : t.n = t.d → t.up = true
def Abv (x y : Int) (t : Th) : Prop := t.n * y < x * t.d ∨ (t.n * y = x * t.d ∧ t.up = true)
instance (x y : Int) (t : Th) : Decidable (Abv x y t) := by unfold Abv; infer_instance
def nev : Th := ⟨1, 1, true⟩
def alw : Th := ⟨0, 1, false⟩
def tieD : Th := ⟨1, 2, false⟩
def tieU : Th := ⟨1, 2, true⟩
def byR : Ru → Bool → Th
  | .dn, _ => nev
  | .hd, _ => tieD
  | .he, false => tieD
  | .he, true => tieU
  | .hu, _ => tieU
  | .od, false => alw
  | .od, true => nev
  | .up, _ => alw
theorem byR_ok (r : Ru) (b : Bool) : (byR r b).Ok := by
  cases r <;> cases b <;> exact ⟨by decide, by decide, by decide, by decide, by decide⟩
theorem lowZ' {x y : Int} (hy : 0 < y) : (low x y).1 = 0 ↔ x = 0 := by
  have h := low_val (x := x) hy
  constructor
  · intro z
    rw [z, Int.zero_mul] at h
    rcases Int.mul_eq_zero.mp h.symm with q | q
    · exact q
    · exfalso
      have g0 := gcd_pos (a := x) hy
      have : (low x y).2 = y / (Int.gcd x y : Int) := rfl
      obtain ⟨v, hv⟩ : (Int.gcd x y : Int) ∣ y := Int.gcd_dvd_right x y
      rw [this] at q
      generalize (Int.gcd x y : Int) = g at *
      rw [hv, Int.mul_ediv_cancel_left _ (by omega)] at q
      subst q
      omega
  · rintro rfl
    show 0 / _ = _
    exact Int.zero_ediv _
/-- the last index that stays down -/
def lastI (r : Ru) (far : Nat) (b : Bool) : Int :=
  if (byR r b).up = false then (byR r b).n * 2 ^ far / (byR r b).d else (byR r b).n * 2 ^ far / (byR r b).d - 1
def combI (T : Bool → Th) (r : Ru) (far : Nat) (b : Bool) : Th :=
  ⟨(low (lastI r far b * (T (decide (lastI r far b % 2 = 1))).d + (T (decide (lastI r far b % 2 = 1))).n) ((T (decide (lastI r far b % 2 = 1))).d * 2 ^ far)).1,
   (low (lastI r far b * (T (decide (lastI r far b % 2 = 1))).d + (T (decide (lastI r far b % 2 = 1))).n) ((T (decide (lastI r far b % 2 = 1))).d * 2 ^ far)).2,
   (T (decide (lastI r far b % 2 = 1))).up⟩
theorem last_rng {r : Ru} {far : Nat} {b : Bool} (hf : 1 ≤ far) : 0 ≤ lastI r far b ∧ lastI r far b < 2 ^ far := by
  obtain ⟨f, rfl⟩ : ∃ f, far = f + 1 := ⟨far - 1, by omega⟩
  have e : (2 : Int) ^ (f + 1) = 2 * 2 ^ f := by rw [Int.pow_succ, Int.mul_comm]
  have p := pow2_pos f
  unfold lastI
  rw [e]
  generalize (2 : Int) ^ f = F at *
  cases r <;> cases b <;> simp only [byR, nev, alw, tieD, tieU] <;> simp <;> omega
theorem th_ok_low {n d : Int} {up : Bool} (hd : 0 < d) (h0 : 0 ≤ n) (h1 : n ≤ d) (z : n = 0 → up = false) (o : n = d → up = true) : Th.Ok ⟨(low n d).1, (low n d).2, up⟩ := by
  have h := low_val (x := n) hd
  obtain ⟨v, hv⟩ : (Int.gcd n d : Int) ∣ d := Int.gcd_dvd_right n d
  have g0 := gcd_pos (a := n) hd
  have l2 : 0 < (low n d).2 := by
    show 0 < d / (Int.gcd n d : Int)
    generalize (Int.gcd n d : Int) = g at *
    rw [hv, Int.mul_ediv_cancel_left _ (by omega)]
    rw [hv] at hd
    exact Int.pos_of_mul_pos_right hd g0
  have l1 : 0 ≤ (low n d).1 := Int.ediv_nonneg h0 (Int.le_of_lt g0)
  refine ⟨l1, ?_, l2, ?_, ?_⟩
  · show (low n d).1 ≤ (low n d).2
    refine Int.le_of_mul_le_mul_right (a := d) ?_ hd
    rw [h, Int.mul_comm (low n d).2]
    exact Int.mul_le_mul_of_nonneg_right h1 (Int.le_of_lt l2)
  · intro q
    replace q : (low n d).1 = 0 := q
    exact z ((lowZ' hd).mp q)
  · intro q
    replace q : (low n d).1 = (low n d).2 := q
    refine o ?_
    rw [q, Int.mul_comm] at h
    exact (Int.eq_of_mul_eq_mul_right (by omega) h).symm
theorem comb_ok {T : Bool → Th} (hT : ∀ b, (T b).Ok) {r : Ru} {far : Nat} (hf : 1 ≤ far) (bo : Bool) : (combI T r far bo).Ok := by
  have F0 := pow2_pos far
  obtain ⟨i0, i1⟩ := last_rng (r := r) (b := bo) hf
  unfold combI
  generalize hi : lastI r far bo = i at *
  have ht := hT (decide (i % 2 = 1))
  generalize hTi : T (decide (i % 2 = 1)) = t at ht
  have hd := ht.d0
  have hn := ht.n0
  have x := Int.mul_nonneg i0 (Int.le_of_lt hd)
  have y : i * t.d + t.d ≤ t.d * 2 ^ far := by
    have := Int.mul_le_mul_of_nonneg_right (show i + 1 ≤ 2 ^ far by omega) (Int.le_of_lt hd)
    rw [Int.add_mul, Int.mul_comm (2 ^ far)] at this
    omega
  have hnd := ht.nd
  refine th_ok_low (Int.mul_pos hd F0) (by omega) (by omega) (fun z => ht.z (by omega)) (fun z => ht.o (by omega))
structure Nu (n d : Int) : Prop where
  n0 : 0 < n
  d0 : 0 < d
  g : Int.gcd n d = 1
def trimI : Option Int → List (Int × Ru) → List (Int × Ru)
  | _, [] => []
  | none, s :: c => s :: trimI (some s.1) c
  | some l, s :: c => if s.1 < l then s :: trimI (some s.1) c else trimI (some l) c
/-- a chain's widths -/
def Wds (c : List (Int × Ru)) : Prop := ∀ s ∈ c, 1 ≤ s.1 ∧ s.1 ≤ 100
theorem Wds.hd {s : Int × Ru} {c : List (Int × Ru)} (h : Wds (s :: c)) : 1 ≤ s.1 ∧ s.1 ≤ 100 := h s (List.mem_cons_self ..)
theorem Wds.tl {s : Int × Ru} {c : List (Int × Ru)} (h : Wds (s :: c)) : Wds c := fun t ht => h t (List.mem_cons_of_mem _ ht)
def Fall (w : Int) : List (Int × Ru) → Prop
  | [] => True
  | s :: c => 1 ≤ s.1 ∧ s.1 < w ∧ Fall s.1 c
theorem trim_fall : ∀ {c : List (Int × Ru)} {l : Int}, Wds c → Fall l (trimI (some l) c)
  | [], _, _ => trivial
  | s :: c, l, hw => by
    unfold trimI
    by_cases q : s.1 < l
    · rw [if_pos q]
      exact ⟨hw.hd.1, q, trim_fall hw.tl⟩
    · rw [if_neg q]
      exact trim_fall hw.tl
def thF (w : Int) (T : Bool → Th) : List (Int × Ru) → Int × (Bool → Th)
  | [] => (w, T)
  | s :: c => thF s.1 (combI T s.2 (w - s.1).toNat) c
/-- the whole chain by thresholds -/
def chT : List (Int × Ru) → Int × (Bool → Th)
  | [] => (1, byR .dn)
  | s :: c => thF s.1 (byR s.2) (trimI (some s.1) c)
/-- how great a threshold's denominator is; in lowest terms -/
theorem low_gcd {n d : Int} (hd : 0 < d) : Int.gcd (low n d).1 (low n d).2 = 1 ∧ 0 < (low n d).2 ∧ (low n d).2 ≤ d := by
  obtain ⟨u, hu⟩ : (Int.gcd n d : Int) ∣ n := Int.gcd_dvd_left n d
  obtain ⟨v, hv⟩ : (Int.gcd n d : Int) ∣ d := Int.gcd_dvd_right n d
  have g0 := gcd_pos (a := n) hd
  have e : low n d = (u, v) := by
    unfold low
    refine Prod.ext ?_ ?_
    · show n / (Int.gcd n d : Int) = u
      generalize (Int.gcd n d : Int) = g at *
      rw [hu, Int.mul_ediv_cancel_left _ (by omega)]
    · show d / (Int.gcd n d : Int) = v
      generalize (Int.gcd n d : Int) = g at *
      rw [hv, Int.mul_ediv_cancel_left _ (by omega)]
  have g1 : (Int.gcd n d) = (Int.gcd n d) * Int.gcd u v := by
    have h := Int.gcd_mul_left (Int.gcd n d : Int) u v
    rw [← hu, ← hv] at h
    simpa using h
  rw [e]
  refine ⟨?_, ?_, ?_⟩
  · have : 0 < Int.gcd n d := by omega
    show Int.gcd u v = 1
    have h2 : Int.gcd n d * 1 = Int.gcd n d * Int.gcd u v := by rw [Nat.mul_one]; exact g1
    exact (Nat.eq_of_mul_eq_mul_left this h2).symm
  · show 0 < v
    generalize (Int.gcd n d : Int) = g at *
    rw [hv] at hd
    exact Int.pos_of_mul_pos_right hd g0
  · show v ≤ d
    have v0 : 0 < v := by
      generalize (Int.gcd n d : Int) = g at *
      rw [hv] at hd
      exact Int.pos_of_mul_pos_right hd g0
    have : 1 * v ≤ (Int.gcd n d : Int) * v := Int.mul_le_mul_of_nonneg_right (by omega) (Int.le_of_lt v0)
    rw [← hv] at this
    omega
structure ThB (m : Nat) (T : Bool → Th) : Prop where
  ok : ∀ b, (T b).Ok
  g : ∀ b, Int.gcd (T b).n (T b).d = 1
  l : ∀ b, (T b).d ≤ 2 ^ m
theorem byR_B (r : Ru) : ThB 1 (byR r) := ⟨byR_ok r, fun b => by cases r <;> cases b <;> decide, fun b => by cases r <;> cases b <;> decide⟩
theorem comb_B {m far : Nat} {T : Bool → Th} {r : Ru} (h : ThB m T) (hf : 1 ≤ far) : ThB (m + far) (combI T r far) := by
  refine ⟨comb_ok h.ok hf, fun b => ?_, fun b => ?_⟩
  · exact (low_gcd (Int.mul_pos (h.ok _).d0 (pow2_pos far))).1
  · refine Int.le_trans (low_gcd (Int.mul_pos (h.ok _).d0 (pow2_pos far))).2.2 ?_
    rw [Int.pow_add]
    exact Int.mul_le_mul_of_nonneg_right (h.l _) (Int.le_of_lt (pow2_pos far))
theorem thF_B : ∀ {c : List (Int × Ru)} {w : Int} {m : Nat} {T : Bool → Th}, ThB m T → Fall w c → 1 ≤ w → ∃ m' : Nat, ThB m' (thF w T c).2 ∧ (m' : Int) ≤ m + w ∧ 1 ≤ (thF w T c).1 ∧ (thF w T c).1 ≤ w
  | [], w, m, T, h, _, hw => ⟨m, h, by omega, hw, Int.le_refl _⟩
  | s :: c, w, m, T, h, hf, hw => by
    obtain ⟨f1, f2, f3⟩ := hf
    obtain ⟨m', h1, h2, h3, h4⟩ := thF_B (c := c) (comb_B (r := s.2) (far := (w - s.1).toNat) h (by omega)) f3 f1
    exact ⟨m', h1, by omega, h3, by show (thF s.1 _ c).1 ≤ w; omega⟩
theorem ThB.mono {m m' : Nat} {T : Bool → Th} (h : ThB m T) (hm : m ≤ m') : ThB m' T := ⟨h.ok, h.g, fun b => Int.le_trans (h.l b) (pow_le2 hm)⟩
theorem chT_B {c : List (Int × Ru)} (hc : c ≠ []) (hw : Wds c) : ThB 101 (chT c).2 ∧ 1 ≤ (chT c).1 ∧ (chT c).1 ≤ 100 := by
  cases c with
  | nil => exact absurd rfl hc
  | cons s c =>
    obtain ⟨h1, h2⟩ := hw.hd
    obtain ⟨m, k1, k2, k3, k4⟩ := thF_B (byR_B s.2) (trim_fall (l := s.1) hw.tl) h1
    exact ⟨k1.mono (by omega), k3, by show (thF s.1 _ _).1 ≤ 100; omega⟩
structure Vb (a : Nat) (n d : Int) : Prop where
  hi : n ≤ d * 2 ^ a
  lo : d ≤ n * 2 ^ a
end Z
namespace Z
open L2 PySem PySem.Spec PyProof.Rows
open Evl (Ex ex_l ex_t ex_rd fresh_back)
theorem lc_mapT {sl : List (Option Sv)} {t : DG} {te : DE} (f : Da → Da) {Q : List Da → Option Nat → Prop} {fu : Option Nat} : ∀ {ds acc : List Da},
    (∀ x ∈ ds, ∀ (R : Rv → Gs → Prop) (N : Gs → Prop), (∀ g3 : Gs, g3.fu = fu → R (.val (f x)) g3) → t (.val x) ⟨sl, fu, false⟩ fun g1 => (true = true → te g1 R) ∧ (true = false → N g1)) → acc.length + ds.length ≤ 1000000 → Q (acc ++ ds.map f) fu → lcD sl t dYes te ds acc fu Q
  | [], acc, _, _, h => by rw [List.map_nil, List.append_nil] at h; exact h
  | x :: xs, acc, hs, hl, h => by
    have ih : lcD sl t dYes te xs (acc ++ [f x]) fu Q := lc_mapT f (fun y hy => hs y (List.mem_cons_of_mem _ hy)) (by rw [List.length_cons] at hl; rw [List.length_append, List.length_cons, List.length_nil]; omega) (by rw [List.append_assoc]; exact h)
    exact hs x List.mem_cons_self (fun r g3 => match r with
      | .val d => acc.length < 1000000 ∧ lcD sl t dYes te xs (acc ++ [d]) (fuN fu g3.fu) Q
      | _ => False) (fun g2 => lcD sl t dYes te xs acc (fuN fu g2.fu) Q) (fun g3 e => ⟨by rw [List.length_cons] at hl; omega, by rw [e, fuN_self]; exact ih⟩)
def stD (s : Int × Ru) : Da := .tuple [.int s.1, .str s.2.s]
def chD (c : List (Int × Ru)) : Da := .tuple (c.map stD)
theorem stD_inj {s s' : Int × Ru} (h : stD s = stD s') : s = s' := by
  obtain ⟨w, r⟩ := s
  obtain ⟨w', r'⟩ := s'
  simp only [stD, PyData.tuple.injEq, List.cons.injEq, PyData.int.injEq, PyData.str.injEq, and_true] at h
  obtain ⟨rfl, h⟩ := h
  refine Prod.ext rfl ?_
  revert h
  cases r <;> cases r' <;> first | exact fun _ => rfl | (intro h; exact absurd h (by decide +kernel))
/-- pairs of an int and a text: may be sorted -/
theorem pairs_sortable {ds : List Da} (h : ∀ d ∈ ds, ∃ (i : Int) (x : Str), d = .tuple [.int i, .str x] ∧ PyData.strOk x = true) :
    PySem.W.AllAlike ds ∧ PySem.W.Sortable ds ∧ ∀ d ∈ ds, d.canLay0 = true ∧ d.depth ≤ 50 := by
  refine ⟨fun d hd e he => ?_, .inl fun d hd => ?_, fun d hd => ?_⟩
  · obtain ⟨i, x, rfl, _⟩ := h d hd
    obtain ⟨j, y, rfl, _⟩ := h e he
    simp [PySem.W.alike, PySem.W.alikeAll]
  · obtain ⟨i, x, rfl, _⟩ := h d hd
    exact ⟨_, _, rfl⟩
  · obtain ⟨i, x, rfl, hx⟩ := h d hd
    refine ⟨?_, ?_⟩
    · simp [PyData.canLay0, PyData.canLayAll0, hx]
    · simp [PyData.depth, PyData.depthAll]
theorem ru_ok (r : Ru) : PyData.strOk r.s = true := by cases r <;> decide +kernel
end Z
namespace Z
open L2 PySem PySem.Spec PyProof.Rows
open Evl (Ex ex_l ex_t ex_rd fresh_back)
/-- a number of values from 2^-a to 2^a -/
structure NuB (a : Nat) (n d : Int) : Prop where
  nu : Nu n d
  v : Vb a n d
  bn : Bn (a + 300) n
  bd : Bn (a + 300) d
theorem NuB.mono {a b : Nat} {n d : Int} (h : NuB a n d) (hab : a ≤ b) : NuB b n d := by
  have p := pow_le2 hab
  have x := Int.mul_le_mul_of_nonneg_left p (Int.le_of_lt h.nu.d0)
  have y := Int.mul_le_mul_of_nonneg_left p (Int.le_of_lt h.nu.n0)
  have := h.v.hi
  have := h.v.lo
  exact ⟨h.nu, ⟨by omega, by omega⟩, h.bn.mono (by omega), h.bd.mono (by omega)⟩
structure Chn1 (c : List (Int × Ru)) : Prop where
  ne : c ≠ []
  len : c.length ≤ 12
  w : Wds c
end Z
namespace Z
open L2 PySem PySem.Spec PyProof.Rows
open Evl (Ex ex_l ex_t ex_rd fresh_back)
theorem Bn.leP {m : Nat} {i : Int} (h0 : 0 ≤ i) (h : i ≤ 2 ^ m) : Bn (m + 1) i := (Bn.pow2 (n := m) (m := m + 1) (by omega)).le h0 h
theorem ThB.bn {m : Nat} {T : Bool → Th} (h : ThB m T) (b : Bool) : Bn (m + 1) (T b).n ∧ Bn (m + 1) (T b).d :=
  ⟨Bn.leP (h.ok b).n0 (Int.le_trans (h.ok b).nd (h.l b)), Bn.leP (Int.le_of_lt (h.ok b).d0) (h.l b)⟩
end Z
namespace Z
open L2 PySem PySem.Spec PyProof.Rows
open Evl (Ex ex_l ex_t ex_rd fresh_back)
def dD0 : DE := fun g Q => Q (.val (.dict [])) g
def dD1 (x : Str) (i : Nat) : DE := fun g Q => match g.sl[i]? with
  | some (some (.val d)) => Q (.val (.dict [(.str x, d)])) g
  | _ => False
section
variable {X : Cx} {pos : Pos} {k e : Expr}
theorem e_d0 : PE X (.Dict [] [] pos) (up X.K dD0) := pe_to pe_dnewK fun σ H Q q => by
  obtain ⟨c, g, tv, tr, F, a, post, s, t, k⟩ := q
  intro p hp
  have gr := Gr.new (o := .dK []) s.eh hp
  exact k _ g _ _ _ a t ((s.grow gr).push (r := .val (.dict [])) (.dct (.inl upd_same) .nil))
theorem upd_twice {H : Hp} {p : Addr} {a b : HO} : upd (upd H p a) p b = upd H p b := by
  funext q
  by_cases h : q = p
  · subst h; rw [upd_same, upd_same]
  · rw [upd_ne h, upd_ne h, upd_ne h]
theorem e_d1 {x : Str} (i : Nat) (hk : PE X k (tC (.str x))) (hv : PE X e (tVar i)) : PE X (.Dict [some k] [e] pos) (up X.K (dD1 x i)) := pe_to (pe_disp (pps_cons hk hv pps_nil) rfl rfl (by simp) (by simp)) fun σ H Q q => by
  obtain ⟨c, g, tv, tr, F, a, post, s, t, k⟩ := q
  unfold dD1 at t
  split at t
  · rename_i d hd
    obtain ⟨v, h1, h2⟩ := s.slot i _ hd
    intro p hp
    refine ⟨v, h1, upd_same, [(.inr x, v)], rfl, by simp, ?_⟩
    rw [upd_twice]
    have gr := Gr.new (o := .dK [(.inr x, v)]) s.eh hp
    exact k _ g _ _ _ a t ((s.grow gr).push (r := .val (.dict [(.str x, d)])) (.dct (.inl upd_same) (.cons (h2.mono gr.f _ _) .nil)))
  · exact t.elim
end
end Z
namespace Z
open L2 PySem PySem.Spec PyProof.Rows
open Evl (Ex ex_l ex_t ex_rd fresh_back)
/-- a comprehension that draws at most c times each turn -/
theorem lc_drawV {sl : List (Option Sv)} {i : Nat} {te : DE} (P : Da → Prop) (c : Nat) {Q : List Da → Option Nat → Prop} : ∀ {ds acc : List Da} {k : Nat}, c * ds.length ≤ k →
    (∀ x ∈ ds, ∀ (m : Nat) (R : Rv → Gs → Prop), (∀ (z : Da) (g3 : Gs) (m' : Nat), P z → g3.fu = some m' → m ≤ m' → R (.val z) g3) → te (Gs.set ⟨sl, some (m + c), false⟩ i (.val x)) R) → acc.length + ds.length ≤ 1000000 →
    (∀ (zs : List Da) (m' : Nat), zs.length = ds.length → (∀ z ∈ zs, P z) → k ≤ m' + c * ds.length → Q (acc ++ zs) (some m')) → lcD sl (dN i) dYes te ds acc (some k) Q
  | [], acc, k, hk, _, _, h => by
    have := h [] k rfl (fun z hz => by simp at hz) (by simp)
    rw [List.append_nil] at this
    exact this
  | x :: xs, acc, k, hk, hs, hl, h => by
    rw [List.length_cons, Nat.mul_succ] at hk
    obtain ⟨k1, rfl⟩ : ∃ k1, k = k1 + c := ⟨k - c, by omega⟩
    refine ⟨fun _ => hs x List.mem_cons_self k1 _ fun z g3 m' hz e3 hm => ⟨?_, ?_⟩, fun z => nomatch z⟩
    · rw [List.length_cons] at hl; omega
    · rw [e3]
      refine lc_drawV P c (by omega) (fun y hy => hs y (List.mem_cons_of_mem _ hy)) ?_ fun zs m2 h1 h2 h3 => ?_
      · rw [List.length_cons] at hl
        rw [List.length_append, List.length_cons, List.length_nil]
        omega
      · rw [List.append_assoc]
        refine h (z :: zs) m2 (by simp [h1]) (fun y hy => ?_) (by rw [List.length_cons, Nat.mul_succ]; omega)
        rcases List.mem_cons.mp hy with rfl | hy
        · exact hz
        · exact h2 y hy
end Z
namespace Z
open L2 PySem PySem.Spec PyProof.Rows
open Evl (Ex ex_l ex_t ex_rd fresh_back)
variable {Wx : WX}
def fAddT : BinF := fun d e post => match d, e with
  | .tuple xs, .tuple ys => xs.length + ys.length ≤ sizeLine ∧ post (.tuple (xs ++ ys))
  | _, _ => False
section
variable {X : Cx} {a b : Expr} {ta tb : DE} {pos : Pos}
theorem e_addT (ha : PE X a (up X.K ta)) (hb : PE X b (up X.K tb)) : PE X (.BinOp a .Add b pos) (up X.K (dBin fAddT ta tb)) := by
  refine e_bin op_catA ?_ ha hb
  intro F H x y d e post Q hx r1 r2 hf k
  cases d with
  | tuple ds =>
    cases e with
    | tuple es =>
      cases r1 with
      | tup s1 m1 =>
        cases r2 with
        | tup s2 m2 =>
          rename_i p1 xs p2 ys
          obtain ⟨h2, h3⟩ := hf
          refine ⟨p1, p2, xs, ys, rfl, rfl, ex_t hx s1, ex_t hx s2, by rw [m1.len, m2.len]; exact h2, fun z => ?_, fun _ z => ?_, fun _ _ p hp => ?_⟩
          · have : ds = [] := m1.nil_iff.mp z
            subst this
            rw [List.nil_append] at h3
            exact k _ _ H F h3 (Gr.refl hx) (.tup s2 m2)
          · have : es = [] := m2.nil_iff.mp z
            subst this
            rw [List.append_nil] at h3
            exact k _ _ H F h3 (Gr.refl hx) (.tup s1 m1)
          · have gr := Gr.new (o := .tup (xs ++ ys)) hx hp
            exact k _ _ _ _ h3 gr (.tup (.inl (.inl upd_same)) ((m1.up gr.f).app (m2.up gr.f)))
    | _ => exact hf.elim
  | _ => exact hf.elim
variable {lo hi : Option Expr} {tl th : DO} {p2 : Pos}
end
end Z
namespace Z
open L2 PySem PySem.Spec PyProof.Rows
open Evl (Ex ex_l ex_t ex_rd fresh_back)
end Z
namespace Z
open L2 PySem PySem.Spec PyProof.Rows
open Evl (Ex ex_l ex_t ex_rd fresh_back)
end Z
namespace Z
open L2 PySem PySem.Spec PyProof.Rows
open Evl (Ex ex_l ex_t ex_rd fresh_back)
end Z
namespace LZ
open PySem
open PySem.Sem (wp)
section
variable {prog : Program} {w : World} {A : Around} {s : Shared} {R : Result → Shared → Prop} {q TI TO u1 u2 t1 t2 S : Addr} {x0 x1 y0 y1 a b : Value}
/-- what the zip stands for, ahead of the first pair -/
structure Fresh (h : Heap) (q TI TO u1 u2 t1 t2 : Addr) (x0 x1 y0 y1 a b : Value) : Prop where
  D : ZipApart q TI TO u1 u2 t1 t2
  z : IsZip h q TI TO .none
  i : IsPair h TI (.ref u1) (.ref u2)
  o : IsPair h TO a b
  g1 : h.IsTupleIter u1 t1 0
  g2 : h.IsTupleIter u2 t2 0
  m1 : h.IsTuple t1 #[x0, x1]
  m2 : h.IsTuple t2 #[y0, y1]
theorem Fresh.keep {h h' : Heap} (F : Fresh h q TI TO u1 u2 t1 t2 x0 x1 y0 y1 a b) (hS : S ≠ q ∧ S ≠ TI ∧ S ≠ TO ∧ S ≠ u1 ∧ S ≠ u2 ∧ S ≠ t1 ∧ S ≠ t2) (hk : ∀ c o, c ≠ S → h.get? c = some o → h'.get? c = some o) : Fresh h' q TI TO u1 u2 t1 t2 x0 x1 y0 y1 a b := by
  obtain ⟨s1, s2, s3, s4, s5, s6, s7⟩ := hS
  exact ⟨F.D, hk _ _ s1.symm F.z, hk _ _ s2.symm F.i, hk _ _ s3.symm F.o, F.g1.at fun o e => hk _ o s4.symm e, F.g2.at fun o e => hk _ o s5.symm e, F.m1.at fun o e => hk _ o s6.symm e, F.m2.at fun o e => hk _ o s7.symm e⟩
end
end LZ
namespace Z
open L2 PySem PySem.Spec PyProof.Rows
open Evl (Ex ex_l ex_t ex_rd fresh_back)
end Z
namespace Z
open L2 PySem PySem.Spec PyProof.Rows
open Evl (Ex ex_l ex_t ex_rd fresh_back)
instance : DecidableEq Th := fun a b => decidable_of_iff (a.n = b.n ∧ a.d = b.d ∧ a.up = b.up) ⟨fun h => by cases a; cases b; simp_all, fun h => by subst h; exact ⟨rfl, rfl, rfl⟩⟩
def Bef (t u : Th) : Prop := t.n * u.d < u.n * t.d ∨ (t.n * u.d = u.n * t.d ∧ t.up = true ∧ u.up = false)
instance (t u : Th) : Decidable (Bef t u) := by unfold Bef; infer_instance
end Z
namespace Z
open L2 PySem PySem.Spec PyProof.Rows
open Evl (Ex ex_l ex_t ex_rd fresh_back)
end Z
namespace Z
open L2 PySem PySem.Spec PyProof.Rows
theorem sIx_k {n k : Nat} {d : Nat} (h : k ≤ n) : HT.sIx n d (some (k : Int)) = k := by
  rw [HT.sIx_nat]
  omega
theorem cut_from {ds : List Da} {k : Nat} (h : k ≤ ds.length) : Z.cutD ds (some (k : Int)) none = ds.drop k := by
  unfold Z.cutD
  rw [sIx_k h, HT.sIx_none, List.take_of_length_le (by rw [List.length_drop]; omega)]
structure ShB (k z : Nat) (d : Da) : Prop where
  lay : d.canLay0 = true
  sh : d.showable = true
  dp : d.depth ≤ k
  sz : szD d ≤ z
theorem ShB.cps {k z : Nat} {d : Da} (h : ShB k z d) : Cps d.shown := cps_shown d h.lay
theorem ShB.shaped {k z : Nat} {d : Da} (h : ShB k z d) (hk : k ≤ 64) : SeqAt.shaped d = true := by
  unfold SeqAt.shaped
  rw [h.lay, Bool.true_and]
  exact decide_eq_true (Nat.le_trans h.dp hk)
theorem ShB.refl {k z : Nat} {d : Da} (h : ShB k z d) : d.eqv d = true := SeqAt.eqv_refl d h.lay
theorem ShB.mono {k z k' z' : Nat} {d : Da} (h : ShB k z d) (hk : k ≤ k') (hz : z ≤ z') : ShB k' z' d := ⟨h.lay, h.sh, Nat.le_trans h.dp hk, Nat.le_trans h.sz hz⟩
theorem ShB.int {i : Int} (h : Bn 1900 i) : ShB 0 1921 (.int i) := ⟨rfl, decide_eq_true (showI h), Nat.le_refl _, Nat.le_refl _⟩
theorem ShB.none : ShB 0 1921 .none := ⟨rfl, rfl, Nat.le_refl _, by show 4 ≤ 1921; decide⟩
theorem ShB.bool (b : Bool) : ShB 0 1921 (.bool b) := ⟨rfl, rfl, Nat.le_refl _, by show 5 ≤ 1921; decide⟩
theorem ShB.str {x : Str} (h : PyData.strOk x = true) (hl : x.length ≤ 100) : ShB 0 1921 (.str x) := ⟨h, rfl, Nat.le_refl _, by show 10 * x.length + 2 ≤ 1921; omega⟩
theorem ShB.all {k z : Nat} : ∀ {ds : List Da}, (∀ d ∈ ds, ShB k z d) → PyData.canLayAll0 ds = true ∧ PyData.showableAll ds = true ∧ PyData.depthAll ds ≤ k ∧ szAll ds ≤ ds.length * (z + 2)
  | [], _ => ⟨rfl, rfl, Nat.zero_le _, Nat.zero_le _⟩
  | d :: ds, h => by
    obtain ⟨i1, i2, i3, i4⟩ := ShB.all (ds := ds) fun e he => h e (List.mem_cons_of_mem _ he)
    have h0 := h d (List.mem_cons_self ..)
    have h1 := h0.dp
    have h2 := h0.sz
    refine ⟨by simp [PyData.canLayAll0, h0.lay, i1], by simp [PyData.showableAll, h0.sh, i2], ?_, ?_⟩
    · simp only [PyData.depthAll]
      omega
    · rw [List.length_cons, Nat.succ_mul]
      simp only [szAll]
      omega
theorem ShB.tup {k z n : Nat} {ds : List Da} (h : ∀ d ∈ ds, ShB k z d) (hn : ds.length ≤ n) : ShB (k + 1) (n * (z + 2) + 3) (.tuple ds) := by
  obtain ⟨i1, i2, i3, i4⟩ := ShB.all h
  have := Nat.mul_le_mul_right (z + 2) hn
  refine ⟨by simpa [PyData.canLay0] using i1, by simpa [PyData.showable] using i2, ?_, ?_⟩
  · simp only [PyData.depth]
    omega
  · simp only [szD]
    omega
theorem ShB.lst {k z n : Nat} {ds : List Da} (h : ∀ d ∈ ds, ShB k z d) (hn : ds.length ≤ n) : ShB (k + 1) (n * (z + 2) + 3) (.list ds) := by
  obtain ⟨i1, i2, i3, i4⟩ := ShB.all h
  have := Nat.mul_le_mul_right (z + 2) hn
  refine ⟨by simpa [PyData.canLay0] using i1, by simpa [PyData.showable] using i2, ?_, ?_⟩
  · simp only [PyData.depth]
    omega
  · simp only [szD]
    omega
theorem ShB.two {k z : Nat} {a b : Da} (ha : ShB k z a) (hb : ShB k z b) : ∀ d ∈ [a, b], ShB k z d := fun d hd => by
  simp only [List.mem_cons, List.not_mem_nil, or_false] at hd
  rcases hd with rfl | rfl
  · exact ha
  · exact hb
theorem ru_len (r : Ru) : r.s.length ≤ 100 := by cases r <;> decide +kernel
theorem ShB.st (s : Int × Ru) (h1 : 1 ≤ s.1) (h2 : s.1 ≤ 100) : ShB 1 4000 (stD s) := (ShB.tup (ShB.two (ShB.int (Bn.small (by omega) (by omega) (by decide))) (ShB.str (ru_ok s.2) (ru_len s.2))) (n := 2) (Nat.le_refl 2)).mono (by decide) (by decide)
theorem ShB.ch {c : List (Int × Ru)} (hw : Wds c) (hl : c.length ≤ 12) : ShB 2 50000 (chD c) := (ShB.tup (k := 1) (z := 4000) (fun d hd => by
  obtain ⟨s, hs, rfl⟩ := List.mem_map.mp hd
  exact ShB.st s (hw s hs).1 (hw s hs).2) (n := 12) (by rw [List.length_map]; exact hl)).mono (by decide) (by decide)
end Z
namespace Z
open L2 PySem PySem.Spec PyProof.Rows
def Dif (T U : Bool → Th) (b : Bool) (i p : Int) : Prop := ¬(Abv i p (T b) ↔ Abv i p (U b))
/-- the first place where two chains part: a grid of 2 ^ t, the parity of the cell, the index -/
structure SdAt (w : Int) (T U : Bool → Th) (t : Nat) (b : Bool) (j : Int) : Prop where
  b1 : w = 1 → b = true
  dif : Dif T U b j (2 ^ t)
  lo : 0 < j
  hi : j < 2 ^ t
  min : ∀ i, Dif T U b i (2 ^ t) → j ≤ i
  par : b = true → w ≠ 1 → ∀ i, ¬Dif T U false i (2 ^ t)
  pre : ∀ t', t' < t → ∀ b', (w = 1 → b' = true) → ∀ i, ¬Dif T U b' i (2 ^ t')
  tb : t ≤ 101
theorem SdAt.ne {w : Int} {T U : Bool → Th} {t : Nat} {b : Bool} {j : Int} (h : SdAt w T U t b j) : T b ≠ U b := fun e => h.dif (by rw [e])
end Z
namespace Z
open L2 PySem PySem.Spec PyProof.Rows
open Evl (Ex ex_l ex_t ex_rd fresh_back)
def dSlS (ta : DE) (tl th : DO) : DE := fun g Q => ta g fun x g1 => tl g1 fun lo g2 => th g2 fun hi g3 => match x with
  | .val (.str z) => z.length ≤ sizeLine ∧ Q (.val (.str (cutS z lo hi))) g3
  | _ => False
section
variable {X : Cx} {lo hi : Option Expr} {tl th : DO} {ta : DE} {a : Expr} {p2 pos : Pos}
theorem e_slS (ha : PE X a (up X.K ta)) (hl : PO X lo (upO X.K tl)) (hu : PO X hi (upO X.K th)) : PE X (.Subscript a (.Slice lo hi none p2) pos) (up X.K (dSlS ta tl th)) := pe_to (pe_slice sl_str ha hl hu) fun σ H Q q => by
  obtain ⟨c, g, tv, tr, F, ad, post, s, t, k⟩ := q
  refine ⟨c, g, tv, tr, F, ad, _, s, t, fun x g1 v1 H1 F1 a1 t1 s1 => ?_⟩
  refine ⟨c, g1, _, _, F1, a1, _, s1, t1, fun l g2 H2 F2 a2 t2 s2 => ?_⟩
  refine ⟨c, g2, _, _, F2, a2, _, s2, t2, fun u g3 H3 F3 a3 t3 s3 => ?_⟩
  cases x with
  | val d =>
    cases d with
    | str z =>
      have hr : Rp X.K F3 v1 (.str z) := s3.top
      cases hr with
      | str => exact ⟨_, rfl, t3.1, k _ g3 _ _ _ a3 t3.2 (s3.pop1.push (r := .val (.str _)) (.str _))⟩
    | _ => exact t3.elim
  | _ => exact t3.elim
end
end Z
namespace Z
open L2 PySem PySem.Spec PyProof.Rows
instance (T U : Bool → Th) (b : Bool) (x y : Int) : Decidable (Dif T U b x y) := by unfold Dif; infer_instance
/-- x * f / d is a place where the two part -/
def DfX (w : Int) (T U : Bool → Th) (f d x : Int) : Prop := Dif T U (decide ((cellI (x * f) d w).1 % 2 = 1)) (posI (x * f) d w).1 (posI (x * f) d w).2
instance (w : Int) (T U : Bool → Th) (f d x : Int) : Decidable (DfX w T U f d x) := by unfold DfX; infer_instance
end Z
namespace Z
open L2 PySem PySem.Spec PyProof.Rows
/-- arguments of a search among operands -/
structure LoOk (w : Int) (T U : Bool → Th) (f d p : Int) : Prop where
  w1 : 1 ≤ w
  w2 : w ≤ 100
  T : ThB 101 T
  U : ThB 101 U
  f0 : 0 < f
  bf : Bn 300 f
  d0 : 0 < d
  bd : Bn 300 d
  p1 : 1 ≤ p
  p2 : p ≤ 100
/-- two chains that may be compared -/
structure Two (c c' : List (Int × Ru)) : Prop where
  a : Chn1 c
  b : Chn1 c'
  w : (chT c).1 = (chT c').1
theorem Two.lo {c c' : List (Int × Ru)} {f d p : Int} (h : Two c c') (f0 : 0 < f) (bf : Bn 300 f) (d0 : 0 < d) (bd : Bn 300 d) (p1 : 1 ≤ p) (p2 : p ≤ 100) : LoOk (chT c).1 (chT c).2 (chT c').2 f d p := by
  obtain ⟨hT, w1, w2⟩ := chT_B h.a.ne h.a.w
  obtain ⟨hU, _, _⟩ := chT_B h.b.ne h.b.w
  exact ⟨w1, w2, hT, hU, f0, bf, d0, bd, p1, p2⟩
end Z
namespace Z
open L2 PySem PySem.Spec PyProof.Rows
open Evl (Ex ex_l ex_t ex_rd fresh_back)
/-- chains differ at a product, at a quotient -/
def prP (c c' : List (Int × Ru)) (a b : Int) : Prop := DfX (chT c).1 (chT c).2 (chT c').2 a 1 b
def quP (c c' : List (Int × Ru)) (a b : Int) : Prop := DfX (chT c).1 (chT c).2 (chT c').2 1 b a
instance (c c' : List (Int × Ru)) (a b : Int) : Decidable (prP c c' a b) := by unfold prP; infer_instance
instance (c c' : List (Int × Ru)) (a b : Int) : Decidable (quP c c' a b) := by unfold quP; infer_instance
end Z
namespace Z
open L2 PySem PySem.Spec PyProof.Rows
open Evl (Ex ex_l ex_t ex_rd fresh_back)
def dCatL (ta tb : DE) : DL := fun g Q => ta g fun x g1 => tb g1 fun y g2 => match x, y with
  | .val (.list xs), .val (.list ys) => xs.length + ys.length ≤ sizeLine ∧ Q (xs ++ ys) g2
  | _, _ => False
section
variable {X : Cx} {a b e : Expr} {ta tb : DE} {pos p : Pos}
theorem e_catL (ha : PE X a (up X.K ta)) (hb : PE X b (up X.K tb)) : PE X (.BinOp a .Add b pos) (upL X.K (dCatL ta tb)) := pe_to (pe_op op_cat ha hb) fun σ H Q q => by
  obtain ⟨c, g, tv, tr, F, ad, post, s, t, k⟩ := q
  refine ⟨c, g, tv, tr, F, ad, _, s, t, fun x g1 v1 H1 F1 a1 t1 s1 => ?_⟩
  refine ⟨c, g1, _, _, F1, a1, _, s1, t1, fun y g2 v2 H2 F2 a2 t2 s2 => ?_⟩
  split at t2
  · rename_i xs ys
    have r1 : Rp X.K F2 v1 (.list xs) := s2.pop1.top
    have r2 : Rp X.K F2 v2 (.list ys) := s2.top
    cases r1 with
    | lst q1 m1 =>
      cases r2 with
      | lst q2 m2 =>
        refine ⟨_, _, _, _, rfl, rfl, s2.eh _ _ q1, s2.eh _ _ q2, by rw [m1.len, m2.len]; exact t2.1, fun p hp => ?_⟩
        obtain ⟨s3, n3⟩ := s2.pop1.pop1.laid hp (m1.app m2)
        exact k _ g2 _ _ F2 a2 t2.2 s3 n3
  · exact t2.elim
end
def cIntS : CF := fun rs post => match rs with
  | [.val (.str x)] => (match PySem.intText? x with | some n => x.length ≤ 640 ∧ post (.int n) | none => False)
  | _ => False
section
variable {X : Cx} {a b e : Expr} {ta tb : DE} {tr : DA} {pos p : Pos}
theorem ok_intS {K : Fg} : CallOk K (fun xs H Q => ∃ a n, xs = [V.str a] ∧ PySem.intText? a = some n ∧ a.length ≤ 640 ∧ Q (.int n) H) cIntS := fun F H a fu vs rs post Q e t hf k => by
  unfold cIntS at hf
  split at hf
  · rename_i x
    obtain ⟨v, rfl, r⟩ := t.v1
    cases r
    split at hf
    · rename_i n hn
      exact ⟨_, n, rfl, hn, hf.1, k _ _ H F hf.2 (Gr.refl e) (.int _)⟩
    · exact hf.elim
  · exact hf.elim
theorem e_tointS (hg : Gl X "int") (hm : X.mg "int" = none) (ha : PA X [e] (upA X.K tr)) (he : starEach [e] X.env = (false, eval e X.env) :: starEach [] X.env := by rfl) : PE X (.Call (.Name "int" p) [e] [] pos) (up X.K (dCB cIntS tr)) := e_callTy call_int_str ok_intS hg hm (by decide +kernel) ha (by decide) (by decide) he rfl
end
end Z
namespace Z
open L2 PySem PySem.Spec PyProof.Rows
end Z
namespace L2
open PySem PySem.Spec PyProof.Rows
end L2
namespace Z
open L2 PySem PySem.Spec PyProof.Rows
open Evl (Ex ex_l ex_t ex_rd fresh_back)
end Z
namespace Z
open L2 PySem PySem.Spec PyProof.Rows
open Evl (Ex ex_l ex_t ex_rd fresh_back)
end Z
namespace Z
open L2 PySem PySem.Spec PyProof.Rows
end Z
namespace Z
open L2 PySem PySem.Spec PyProof.Rows
open Evl (Ex ex_l ex_t ex_rd fresh_back)
end Z
namespace Z
open L2 PySem PySem.Spec PyProof.Rows
end Z
namespace Z
open L2 PySem PySem.Spec PyProof.Rows
open Evl (Ex ex_l ex_t ex_rd fresh_back)
theorem Rps.at {K : Fg} {F : Hp} : ∀ {vs : List V} {ds : List Da}, Rps K F vs ds → ∀ (i : Nat) v d, vs[i]? = some v → ds[i]? = some d → Rp K F v d
  | _, _, .nil, i, v, d, h, _ => by simp at h
  | _, _, .cons r t, 0, v, d, h1, h2 => by simp at h1 h2; subst h1; subst h2; exact r
  | _, _, .cons r t, i + 1, v, d, h1, h2 => Rps.at t i v d (by simpa using h1) (by simpa using h2)
end Z
namespace Z
open L2 PySem PySem.Spec PyProof.Rows
open Evl (Ex ex_l ex_t ex_rd fresh_back)
variable {Wx : WX}
def isOwn : Option Sv → Bool
  | some (.own _) => true
  | _ => false
structure StI (K : Fg) (p C dx : Addr) (F0 H0 : Hp) (g : Gs) (σ : L2.St) (H F : Hp) (a : Addr) (us : List (Str × V)) (fs : List (Str × Da)) : Prop where
  st : Sta K ⟨F, H, none⟩ g σ H [] [] F a
  fu : g.fu = none
  sl0 : g.sl[0]? = some (some (.ob (.at p)))
  ins : H p = some (.ins C dx us)
  fp : F p = none
  nm : us.map Prod.fst = fs.map Prod.fst
  rp : Rps K F (us.map Prod.snd) (fs.map Prod.snd)
  e0 : Ex F0 F
  kp : ∀ b o, b ≠ p → NT o → H0 b = some o → H b = some o
  nw : ∀ b, F b ≠ none → F0 b ≠ none ∨ H0 b = none
  tb : TbS H0 H
section
variable {K : Fg} {p C dx : Addr} {F0 H0 : Hp} {g g' : Gs} {σ σ' : L2.St} {H F H' F' : Hp} {a a' : Addr} {us : List (Str × V)} {fs : List (Str × Da)}
theorem no_own (h : g'.sl.any isOwn = false) {i : Nat} {ds : List Da} : g'.sl[i]? ≠ some (some (.own ds)) := fun z => by
  have h1 := List.mem_of_getElem? z
  rw [List.any_eq_false] at h
  exact h _ h1 rfl
/-- the state from now on -/
theorem Sta.rebase {c : Con} (s : Sta K c g' σ' H' [] [] F' a') (fu : g'.fu = none) (no : g'.sl.any isOwn = false) : Sta K ⟨F', H', none⟩ g' σ' H' [] [] F' a' :=
  ⟨Ex.refl _, s.eh, fun b o _ _ h => h, fun b h => .inl h, fun b h => (by cases h), fun _ => rfl, fun n h => (by rw [fu] at h; cases h), s.tmp, s.len, fun i sv h => by
    obtain ⟨v, h1, h2⟩ := s.slot i sv h
    refine ⟨v, h1, ?_⟩
    cases sv with
    | own ds => exact absurd h (no_own no)
    | _ => exact h2, s.dis, s.tabk, .refl⟩
theorem StI.next (t : StI K p C dx F0 H0 g σ H F a us fs) (s : Sta K ⟨F, H, none⟩ g' σ' H' [] [] F' a') (fu : g'.fu = none) (no : g'.sl.any isOwn = false) (sl0 : g'.sl[0]? = some (some (.ob (.at p)))) : StI K p C dx F0 H0 g' σ' H' F' a' us fs := by
  have kp : ∀ b o, NT o → H b = some o → H' b = some o := fun b o hn h => s.keep b o (fun z => by cases z) hn h
  have fp : F' p = none := by
    cases q : F' p with
    | none => rfl
    | some u =>
      rcases s.new p (ne_none q) with z | z
      · exact absurd t.fp z
      · have : H p = none := z
        rw [t.ins] at this
        cases this
  refine ⟨s.rebase fu no, fu, sl0, kp _ _ (fun _ z => by cases z) t.ins, fp, t.nm, t.rp.up s.e0, t.e0.trans s.e0, fun b o n hn h => kp b o hn (t.kp b o n hn h), fun b h => ?_, t.tb.trans s.tab⟩
  rcases s.new b h with z | z
  · exact t.nw b z
  · by_cases q : b = p
    · subst q; exact absurd fp h
    · refine .inr ?_
      cases w : H0 b with
      | none => rfl
      | some o =>
        have z : H b = none := z
        cases o with
        | tbl ps =>
          obtain ⟨ps', w'⟩ := t.tb b ps w
          rw [w'] at z; cases z
        | _ => rw [t.kp b _ q (fun _ z => by cases z) w] at z; cases z
end
end Z
namespace Z
open L2 PySem PySem.Spec PyProof.Rows
open Evl (Ex ex_l ex_t ex_rd fresh_back)
theorem forD_ix0 {t : DG} {tb : DS} {d : DEnds} (I : Nat → Gs → Prop) {ds : List Da} {g : Gs} (h1 : ∀ (i : Nat) x, ds[i]? = some x → ∀ g, I i g → ∀ N : Gs → Prop, (∀ g', I (i + 1) g' → N g') → t (.val x) g fun g1 => tb { d with nx := N, ct := N, bk := d.nx } g1)
    (h2 : ∀ g, I ds.length g → d.nx g) (h3 : I 0 g) : forD t tb ds d g := by
  refine forD_ix (k := 0) I (fun i x hx g hg N hN => ?_) (fun g hg => ?_) h3
  · rw [Nat.zero_add] at hg hN
    exact h1 i x hx g hg N hN
  · rw [Nat.zero_add] at hg
    exact h2 g hg
theorem rangeD_at {lo : Int} {n k : Nat} {x : Da} (h : (rangeD lo n)[k]? = some x) : k < n ∧ x = .int (lo + k) := by
  have hk := (List.getElem?_eq_some_iff.mp h).1
  rw [rangeD_len] at hk
  unfold rangeD at h
  rw [List.getElem?_map, List.getElem?_range hk] at h
  cases h
  exact ⟨hk, rfl⟩
end Z
namespace Z
open L2 PySem PySem.Spec PyProof.Rows
end Z
namespace Z
open L2 PySem PySem.Spec PyProof.Rows
open Evl (Ex ex_l ex_t ex_rd fresh_back)
variable {Wx : WX}
def plainS : Option Sv → Bool
  | none => true
  | some (.val _) => true
  | _ => false
structure StJ (K : Fg) (nm : Str) (p C dx : Addr) (F0 H0 : Hp) (g : Gs) (σ : L2.St) (H F : Hp) (a : Addr) (us : List (Str × V)) (fs : List (Str × Da)) : Prop where
  st : Sta K ⟨F, H, none⟩ g σ H [] [] F a
  fu : g.fu = none
  sl0 : g.sl[0]? = some (some (.ob (.insAt p nm fs)))
  pl : g.sl.tail.all plainS = true
  nsC : PySem.W.nsIn K mainGlobals nm = some (some (.ref C))
  ins : F p = some (.ins C dx us)
  fp : F0 p = none
  nm : us.map Prod.fst = fs.map Prod.fst
  rp : Rps K F (us.map Prod.snd) (fs.map Prod.snd)
  e0 : Ex F0 F
  kp : ∀ b o, b ≠ p → NT o → H0 b = some o → H b = some o
  nw : ∀ b, b ≠ p → F b ≠ none → F0 b ≠ none ∨ H0 b = none
  tb : TbS H0 H
/-- the new instance is as it was, nothing is own -/
def okJ (g g' : Gs) : Prop := g'.fu = none ∧ g'.sl[0]? = g.sl[0]? ∧ g'.sl.tail.all plainS = true
section
variable {K : Fg} {nm : Str} {p C dx : Addr} {F0 H0 : Hp} {g g' : Gs} {σ σ' : L2.St} {H F H' F' : Hp} {a a' : Addr} {us : List (Str × V)} {fs : List (Str × Da)}
theorem no_ownJ {k : Kd} (h0 : g.sl[0]? = some (some (.ob k))) (ht : g.sl.tail.all plainS = true) {i : Nat} {ds : List Da} : g.sl[i]? ≠ some (some (.own ds)) := fun z => by
  cases i with
  | zero => rw [h0] at z; cases z
  | succ i =>
    have h1 : g.sl.tail[i]? = some (some (.own ds)) := by rw [List.getElem?_tail]; exact z
    have := List.all_eq_true.mp ht _ (List.mem_of_getElem? h1)
    cases this
theorem StJ.next (t : StJ K nm p C dx F0 H0 g σ H F a us fs) (s : Sta K ⟨F, H, none⟩ g' σ' H' [] [] F' a') (ok : okJ g g') : StJ K nm p C dx F0 H0 g' σ' H' F' a' us fs := by
  obtain ⟨fu, o0, pl⟩ := ok
  have sl0 : g'.sl[0]? = some (some (.ob (.insAt p nm fs))) := o0.trans t.sl0
  have kp : ∀ b o, NT o → H b = some o → H' b = some o := fun b o hn h => s.keep b o (fun z => by cases z) hn h
  refine ⟨⟨Ex.refl _, s.eh, fun b o _ _ h => h, fun b h => .inl h, fun b h => (by cases h), fun _ => rfl, fun n h => (by rw [fu] at h; cases h), s.tmp, s.len, fun i sv h => ?_, s.dis, s.tabk, .refl⟩, fu, sl0, pl, t.nsC, s.e0 _ _ t.ins, t.fp, t.nm, t.rp.up s.e0, t.e0.trans s.e0, fun b o n hn h => kp b o hn (t.kp b o n hn h), fun b n h => ?_, t.tb.trans s.tab⟩
  · obtain ⟨v, h1, h2⟩ := s.slot i sv h
    refine ⟨v, h1, ?_⟩
    cases sv with
    | own ds => exact absurd h (no_ownJ sl0 pl)
    | _ => exact h2
  · rcases s.new b h with z | z
    · exact t.nw b n z
    · refine .inr ?_
      cases w : H0 b with
      | none => rfl
      | some o =>
        have z : H b = none := z
        cases o with
        | tbl ps =>
          obtain ⟨ps', w'⟩ := t.tb b ps w
          rw [w'] at z; cases z
        | _ => rw [t.kp b _ n (fun _ z => by cases z) w] at z; cases z
end
end Z
namespace Z
open L2 PySem PySem.Spec PyProof.Rows
/-- the sign of the root of n / d minus t / b * 2 ^ e -/
def cmR (n d e t b : Int) : Int :=
  (if d * t * t * 2 ^ (2 * e).toNat < n * b * b * 2 ^ (0 - 2 * e).toNat then 1 else 0) - (if n * b * b * 2 ^ (0 - 2 * e).toNat < d * t * t * 2 ^ (2 * e).toNat then 1 else 0)
theorem cmR_pos {n d e t b : Int} : 0 < cmR n d e t b ↔ d * t * t * 2 ^ (2 * e).toNat < n * b * b * 2 ^ (0 - 2 * e).toNat := by
  unfold cmR
  split <;> split <;> omega
theorem sq_le {x y : Int} (h0 : 0 ≤ x) (h : x ≤ y) : x * x ≤ y * y := Int.mul_le_mul h h h0 (Int.le_trans h0 h)
theorem p4 (m : Nat) : (2 : Int) ^ m * 2 ^ m = 4 ^ m := by rw [← Int.mul_pow]; rfl
/-- whether the root's position is above the threshold -/
def UpR (n d e k : Int) (T : Bool → Th) : Prop :=
  cmR n d e k 1 ≠ 0 ∧ (0 < cmR n d e (k * (T (decide (k % 2 = 1))).d + (T (decide (k % 2 = 1))).n) (T (decide (k % 2 = 1))).d ∨ (cmR n d e (k * (T (decide (k % 2 = 1))).d + (T (decide (k % 2 = 1))).n) (T (decide (k % 2 = 1))).d = 0 ∧ (T (decide (k % 2 = 1))).up = true))
instance (n d e k : Int) (T : Bool → Th) : Decidable (UpR n d e k T) := by unfold UpR; infer_instance
end Z
namespace Z
open L2 PySem PySem.Spec PyProof.Rows
open Evl (Ex ex_l ex_t ex_rd fresh_back)
end Z
namespace Z
open L2 PySem PySem.Spec PyProof.Rows
open Evl (Ex ex_l ex_t ex_rd fresh_back)
mutual
def layX : Da → Bool
  | .none => true
  | .bool _ => true
  | .int _ => true
  | .str x => PyData.strOk x
  | .list xs => layXs xs
  | .tuple xs => layXs xs
  | .dict kvs => layKv kvs
def layXs : List Da → Bool
  | [] => true
  | x :: xs => layX x && layXs xs
def layKv : List (Da × Da) → Bool
  | [] => true
  | (k, v) :: r => layX k && layX v && layKv r
end
mutual
def szX : Da → Nat
  | .none => 4
  | .bool _ => 5
  | .int _ => 1921
  | .str x => 10 * x.length + 2
  | .list xs => szXs xs + 3
  | .tuple xs => szXs xs + 3
  | .dict kvs => szKv kvs + 3
def szXs : List Da → Nat
  | [] => 0
  | x :: xs => szX x + 2 + szXs xs
def szKv : List (Da × Da) → Nat
  | [] => 0
  | (k, v) :: r => szX k + szX v + 4 + szKv r
end
theorem dictText_len_le (ps : List Str) : (dictText ps).length ≤ (ps.map (·.length)).sum + 2 * ps.length + 2 := by
  have h : (Str.join ", " ps).length ≤ (ps.map (·.length)).sum + ps.length * 2 := StrLaws.join_length_le ", " ps
  unfold dictText
  rw [strLen_append, strLen_append]
  show 1 + (Str.join ", " ps).length + 1 ≤ _
  omega
mutual
theorem szX_ok : ∀ d : Da, layX d = true → d.showable = true → d.shown.length ≤ szX d
  | .none, _, _ => by decide +kernel
  | .bool true, _, _ => by decide +kernel
  | .bool false, _, _ => by decide +kernel
  | .int i, _, h => int_text_len_1921 (of_decide_eq_true (show decide (i.natAbs.log2 < 1920) = true from h))
  | .str x, h, _ => StrLaws.reprText_len x (strOk_small h)
  | .list xs, h, h' => by
    have h1 := szXs_ok xs h (by simpa [PyData.showable] using h')
    have h2 := listText_len_le (PyData.shownAll xs)
    show (listText (PyData.shownAll xs)).length ≤ szXs xs + 3
    omega
  | .tuple xs, h, h' => by
    have h1 := szXs_ok xs h (by simpa [PyData.showable] using h')
    have h2 := tupleText_len_le (PyData.shownAll xs)
    show (tupleText (PyData.shownAll xs)).length ≤ szXs xs + 3
    omega
  | .dict kvs, h, h' => by
    have h1 := szKv_ok kvs h (by simpa [PyData.showable] using h')
    have h2 := dictText_len_le (PyData.shownKv kvs)
    show (dictText (PyData.shownKv kvs)).length ≤ szKv kvs + 3
    omega
theorem szXs_ok : ∀ xs : List Da, layXs xs = true → PyData.showableAll xs = true → ((PyData.shownAll xs).map (·.length)).sum + 2 * (PyData.shownAll xs).length ≤ szXs xs
  | [], _, _ => by simp [PyData.shownAll, szXs]
  | x :: xs, h, h' => by
    have q : layX x = true ∧ layXs xs = true := by simpa [layXs] using h
    have q' : x.showable = true ∧ PyData.showableAll xs = true := by simpa [PyData.showableAll] using h'
    have h1 := szX_ok x q.1 q'.1
    have h2 := szXs_ok xs q.2 q'.2
    simp only [PyData.shownAll, szXs, List.map_cons, List.sum_cons, List.length_cons]
    omega
theorem szKv_ok : ∀ kvs : List (Da × Da), layKv kvs = true → PyData.showableKv kvs = true → ((PyData.shownKv kvs).map (·.length)).sum + 2 * (PyData.shownKv kvs).length ≤ szKv kvs
  | [], _, _ => by simp [PyData.shownKv, szKv]
  | (k, v) :: r, h, h' => by
    have q : (layX k = true ∧ layX v = true) ∧ layKv r = true := by simpa [layKv] using h
    have q' : (k.showable = true ∧ v.showable = true) ∧ PyData.showableKv r = true := by simpa [PyData.showableKv] using h'
    have h1 := szX_ok k q.1.1 q'.1.1
    have h2 := szX_ok v q.1.2 q'.1.2
    have h3 := szKv_ok r q.2 q'.2
    have e : (k.shown ++ ": " ++ v.shown).length = k.shown.length + 2 + v.shown.length := by
      rw [strLen_append, strLen_append]; rfl
    simp only [PyData.shownKv, szKv, List.map_cons, List.sum_cons, List.length_cons, e]
    omega
end
mutual
theorem cps_shownX : ∀ d : Da, layX d = true → Cps d.shown
  | .none, _ => cps_of _
  | .bool b, _ => by cases b <;> exact cps_of _
  | .int i, _ => cps_of _
  | .str x, h => cps_repr (cps_ok.mp h)
  | .list xs, h => cps_app (cps_text _ _ _ (cps_of _) (cps_allX xs h)) (cps_of _)
  | .tuple xs, h => cps_app (cps_app (cps_of _) (cps_join (cps_of _) _ (cps_allX xs h))) (cps_of _)
  | .dict kvs, h => cps_app (cps_app (cps_of _) (cps_join (cps_of _) _ (cps_allKv kvs h))) (cps_of _)
theorem cps_allX : ∀ xs : List Da, layXs xs = true → ∀ t ∈ PyData.shownAll xs, Cps t
  | [], _, t, ht => by simp [PyData.shownAll] at ht
  | x :: xs, h, t, ht => by
    have q : layX x = true ∧ layXs xs = true := by simpa [layXs] using h
    rcases List.mem_cons.mp (show t ∈ x.shown :: PyData.shownAll xs from ht) with rfl | ht
    · exact cps_shownX x q.1
    · exact cps_allX xs q.2 t ht
theorem cps_allKv : ∀ kvs : List (Da × Da), layKv kvs = true → ∀ t ∈ PyData.shownKv kvs, Cps t
  | [], _, t, ht => by simp [PyData.shownKv] at ht
  | (k, v) :: r, h, t, ht => by
    have q : (layX k = true ∧ layX v = true) ∧ layKv r = true := by simpa [layKv] using h
    rcases List.mem_cons.mp (show t ∈ (k.shown ++ ": " ++ v.shown) :: PyData.shownKv r from ht) with rfl | ht
    · exact cps_app (cps_app (cps_shownX k q.1.1) (cps_of _)) (cps_shownX v q.1.2)
    · exact cps_allKv r q.2 t ht
end
/-- may be shown, dicts among them -/
structure ShX (d : Da) : Prop where
  lay : layX d = true
  sh : d.showable = true
  dp : d.depth ≤ 60
  sz : szX d ≤ 16000000
theorem ShX.len {d : Da} (h : ShX d) : d.shown.length ≤ sizeLine := Nat.le_trans (szX_ok d h.lay h.sh) (Nat.le_trans h.sz (by decide))
theorem ShX.cps {d : Da} (h : ShX d) : Cps d.shown := cps_shownX d h.lay
section
variable {X : Cx} {pins : List (Addr × Obj)} {σ : L2.St} {H F : Hp} {s : Shared}
theorem rek_more {P : Program} {w : World} {as as' : List Addr} {h : Heap} {d d' : Nat} (hsub : ∀ b ∈ as, b ∈ as') (hd : d ≤ d') : ∀ {es : List DictEntry} {ps : List Str}, ReprEntriesK P w as h d es ps → ReprEntriesK P w as' h d' es ps
  | _, _, .nil => .nil
  | _, _, .cons h1 h2 h3 => .cons ((h1.more hsub).level_le hd) ((h2.more hsub).level_le hd) (rek_more hsub hd h3)
theorem key_reads {h : Heap} {k : Key} {v : Value} (e : keyIs k v = true) : Reads h v (keyD k) [] := by
  rcases keyIs_shape e with ⟨i, t, rfl, rfl⟩ | ⟨x, t, rfl, rfl⟩
  · exact .int i t
  · exact .str x t
mutual
theorem rp_repr (I : Inv X pins σ H s) (e : Ex F H) : ∀ (d : Da) (v : V) (u : Value), Rp X.K F v d → RelV v u → d.showable = true → d.shown.length ≤ sizeLine →
    ∃ as bs, Reads s.heap u d as ∧ ReadAtMost s.heap d.depth bs ∧ ReprK X.prog X.w bs s.heap d.depth u d.shown
  | .none, _, _, h, r, _, _ => by cases h; cases r; exact ⟨[], [], .none, (fun _ h => nomatch h), by simp only [PyData.shown]; exact .of_is ReprIs.none _ _ _⟩
  | .bool b, _, _, h, r, _, _ => by cases h; cases r; exact ⟨[], [], .bool b, (fun _ h => nomatch h), by simp only [PyData.shown]; exact .of_is (ReprIs.bool b) _ _ _⟩
  | .int i, _, _, h, r, hs, _ => by cases h; obtain ⟨t, rfl⟩ := r; exact ⟨[], [], .int i t, (fun _ h => nomatch h), by simp only [PyData.shown]; exact .of_is (ReprIs.int t (by simpa [PyData.showable] using hs)) _ _ _⟩
  | .str x, _, _, h, r, _, hz => by cases h; obtain ⟨t, rfl⟩ := r; exact ⟨[], [], .str x t, (fun _ h => nomatch h), by simp only [PyData.shown]; exact .of_is (ReprIs.str x t (by simpa only [PyData.shown] using hz)) _ _ _⟩
  | .list ds, _, _, h, r, hs, hz => by
    cases h with
    | lst hf ha =>
      rename_i a xs
      cases r
      obtain ⟨its, rv, ⟨⟨cls, dd, data, sls⟩, n, ho, hc, hdn, hdt⟩, hlen⟩ := I.list (.inl (.inl (e _ _ hf)))
      simp only at hc hdt
      subst hc hdt
      have hz' : (listText (PyData.shownAll ds)).length ≤ sizeLine := by simpa only [PyData.shown] using hz
      obtain ⟨as, bs, h4, hb, hk⟩ := rps_repr I e ds xs its ha rv (by simpa [PyData.showable] using hs) (fun t ht => Nat.le_trans (listText_mem_le ht) hz')
      have r : Reads s.heap (.ref a) (.list ds) _ := .list ho rfl rfl h4
      have hna : a ∉ bs := not_mem_of_deeper r (by simp only [PyData.depth]; omega) hb
      refine ⟨_, a :: bs, r, ReadAtMost.cons r (by simp only [PyData.depth]; omega) hb, ?_⟩
      simp only [PyData.depth, PyData.shown]
      cases its with
      | nil =>
        cases h4
        simp only [PyData.shownAll, listText_nil]
        exact ReprK.listEmpty ho rfl rfl
      | cons y l => exact ReprK.list ho rfl rfl hna (by simpa using hk.length_eq) (fun i y e => hk.item i y (by simpa using e))
  | .tuple ds, _, _, h, r, hs, hz => by
    cases h with
    | tup hf ha =>
      rename_i a xs
      cases r
      obtain ⟨its, rv, ⟨o, ho, hc, n, hd⟩, hlen⟩ := I.tuple (ex_t e hf)
      have hz' : (tupleText (PyData.shownAll ds)).length ≤ sizeLine := by simpa only [PyData.shown] using hz
      obtain ⟨as, bs, h4, hb, hk⟩ := rps_repr I e ds xs its ha rv (by simpa [PyData.showable] using hs) (fun t ht => Nat.le_trans (tupleText_mem_le ht) hz')
      have r : Reads s.heap (.ref a) (.tuple ds) _ := .tuple ho hc hd h4
      have hna : a ∉ bs := not_mem_of_deeper r (by simp only [PyData.depth]; omega) hb
      refine ⟨_, a :: bs, r, ReadAtMost.cons r (by simp only [PyData.depth]; omega) hb, ?_⟩
      simp only [PyData.depth, PyData.shown]
      exact ReprK.tuple ho hc hd hna hk
  | .dict es, _, _, h, r, hs, hz => by
    cases h with
    | dct hf ha =>
      rename_i a kvs
      cases r
      obtain ⟨hl, hsys, vs, hkv, o, en, ep, ho, hx, hd, _, hp, _⟩ := dk_rd I.hok (ex_rd e hf)
      have hz' : (dictText (PyData.shownKv es)).length ≤ sizeLine := by simpa only [PyData.shown] using hz
      obtain ⟨as, bs, b, h4, h5, hb, hk⟩ := rpk_repr I e es kvs vs en.toList ha hkv hp (by simpa [PyData.showable] using hs) (fun t ht => Nat.le_trans (dictText_mem_le ht) hz')
      have r : Reads s.heap (.ref a) (.dict es) _ := .dict ho hx.1 hd h4 h5
      have hna : a ∉ b := not_mem_of_deeper r (by simp only [PyData.depth]; omega) hb
      refine ⟨_, a :: b, r, ReadAtMost.cons r (by simp only [PyData.depth]; omega) hb, ?_⟩
      simp only [PyData.depth, PyData.shown]
      exact ReprK.dict ho hx.1 hd hsys hna hk
theorem rps_repr (I : Inv X pins σ H s) (e : Ex F H) : ∀ (ds : List Da) (vs : List V) (us : List Value), Rps X.K F vs ds → Vals vs us → PyData.showableAll ds = true → (∀ t ∈ PyData.shownAll ds, t.length ≤ sizeLine) →
    ∃ as bs, ReadsAll s.heap us ds as ∧ ReadAtMost s.heap (PyData.depthAll ds) bs ∧ ReprAllK X.prog X.w bs s.heap (PyData.depthAll ds) us (PyData.shownAll ds)
  | [], _, _, h, r, _, _ => by cases h; cases r; exact ⟨[], [], .nil, (fun _ h => nomatch h), by simp only [PyData.shownAll]; exact .nil⟩
  | d :: ds, _, _, h, r, hs, hz => by
    cases h with
    | cons h1 h2 =>
      cases r with
      | cons r1 r2 =>
        have hs' : d.showable = true ∧ PyData.showableAll ds = true := by simpa [PyData.showableAll] using hs
        obtain ⟨a1, b1, q1, hb1, k1⟩ := rp_repr I e d _ _ h1 r1 hs'.1 (hz _ (by simp only [PyData.shownAll]; exact List.mem_cons_self ..))
        obtain ⟨a2, b2, q2, hb2, k2⟩ := rps_repr I e ds _ _ h2 r2 hs'.2 (fun t ht => hz t (by simp only [PyData.shownAll]; exact List.mem_cons_of_mem _ ht))
        refine ⟨a1 ++ a2, b1 ++ b2, .cons q1 q2, ?_, ?_⟩
        · intro b hm
          simp only [PyData.depthAll]
          rcases List.mem_append.mp hm with hm | hm
          · obtain ⟨d', as', r', hd'⟩ := hb1 b hm
            exact ⟨d', as', r', Nat.le_trans hd' (Nat.le_max_left _ _)⟩
          · obtain ⟨d', as', r', hd'⟩ := hb2 b hm
            exact ⟨d', as', r', Nat.le_trans hd' (Nat.le_max_right _ _)⟩
        · simp only [PyData.depthAll, PyData.shownAll]
          exact .cons ((k1.more fun b hb => List.mem_append_left _ hb).level_le (Nat.le_max_left _ _)) (k2.more_le (fun b hb => List.mem_append_right _ hb) (Nat.le_max_right _ _))
theorem rpk_repr (I : Inv X pins σ H s) (e : Ex F H) : ∀ (es : List (Da × Da)) (kvs : List (Key × V)) (vs : List (Key × Value)) (en : List DictEntry), RpK X.K F kvs es → KV kvs vs → Pairs (mixKind X.prog X.w) en vs → PyData.showableKv es = true → (∀ t ∈ PyData.shownKv es, t.length ≤ sizeLine) →
    ∃ as bs b, ReadsAll s.heap (en.map (·.key)) (es.map (·.1)) as ∧ ReadsAll s.heap (en.map (·.val)) (es.map (·.2)) bs ∧ ReadAtMost s.heap (PyData.depthKv es) b ∧ ReprEntriesK X.prog X.w b s.heap (PyData.depthKv es) en (PyData.shownKv es)
  | [], _, _, _, h, r, p, _, _ => by
    cases h; cases r; cases p
    exact ⟨[], [], [], .nil, .nil, (fun _ h => nomatch h), by simp only [PyData.shownKv]; exact .nil⟩
  | (_, d) :: es, _, _, _, h, r, p, hs, hz => by
    cases h with
    | cons h1 h2 =>
      cases r with
      | cons r1 r2 =>
        cases p with
        | cons p1 p2 p3 =>
          rename_i k v kvs' q vs' en' es'
          obtain ⟨rk, rv⟩ := r1
          have rk : k = q.1 := rk
          have rv : RelV v q.2 := rv
          have hs' : ((keyD k).showable = true ∧ d.showable = true) ∧ PyData.showableKv es = true := by simpa [PyData.showableKv] using hs
          have hz1 : ((keyD k).shown ++ ": " ++ d.shown).length ≤ sizeLine := hz _ (by simp only [PyData.shownKv]; exact List.mem_cons_self ..)
          rw [strLen_append, strLen_append] at hz1
          have p1' : keyIs k en'.key = true := by rw [rk]; exact p1
          obtain ⟨a1, b1, q1, hb1, k1⟩ := rp_repr I e d _ _ h1 (show RelV v en'.val by rw [p2]; exact rv) hs'.1.2 (by omega)
          obtain ⟨a2, a3, b2, q2, q3, hb2, k2⟩ := rpk_repr I e es _ _ _ h2 r2 p3 hs'.2 (fun t ht => hz t (by simp only [PyData.shownKv]; exact List.mem_cons_of_mem _ ht))
          have kk : ReprK X.prog X.w (b1 ++ b2) s.heap (max (max (keyD k).depth d.depth) (PyData.depthKv es)) en'.key (keyD k).shown := by
            have g := hs'.1.1
            rcases keyIs_shape p1' with ⟨i, t, e1, e2⟩ | ⟨x, t, e1, e2⟩
            · rw [e2]
              rw [e1] at g ⊢
              simp only [keyD, PyData.shown]
              exact .of_is (ReprIs.int t (by simpa [keyD, PyData.showable] using g)) _ _ _
            · rw [e2]
              rw [e1] at hz1 ⊢
              simp only [keyD, PyData.shown] at hz1 ⊢
              exact .of_is (ReprIs.str x t (by omega)) _ _ _
          refine ⟨[] ++ a2, a1 ++ a3, b1 ++ b2, .cons (key_reads p1') q2, .cons q1 q3, ?_, ?_⟩
          · intro b hm
            simp only [PyData.depthKv]
            rcases List.mem_append.mp hm with hm | hm
            · obtain ⟨d', as', r', hd'⟩ := hb1 b hm
              exact ⟨d', as', r', by omega⟩
            · obtain ⟨d', as', r', hd'⟩ := hb2 b hm
              exact ⟨d', as', r', by omega⟩
          · simp only [PyData.depthKv, PyData.shownKv]
            have kv : ReprK X.prog X.w (b1 ++ b2) s.heap (max (max (keyD k).depth d.depth) (PyData.depthKv es)) en'.val d.shown := (k1.more fun b hb => List.mem_append_left _ hb).level_le (by omega)
            have kr : ReprEntriesK X.prog X.w (b1 ++ b2) s.heap (max (max (keyD k).depth d.depth) (PyData.depthKv es)) es' (PyData.shownKv es) := rek_more (fun b hb => List.mem_append_right _ hb) (by omega) k2
            first
              | exact .cons kk kv kr
              | (rw [Nat.max_assoc] at kk kv kr; exact .cons kk kv kr)
end
theorem shows_x (I : Inv X pins σ H s) (e : Ex F H) {a : Addr} {d : Da} {v : V} (hr : Rp X.K F v d) (r : RelV v (.ref a)) (hs : d.showable = true) (hz : d.shown.length ≤ sizeLine) : ∃ T idr, ShowsBy X.prog X.w s.heap a d T idr := by
  cases hr with
  | non => cases r
  | bl b => cases r
  | int i => obtain ⟨t, r⟩ := r; cases r
  | str x => obtain ⟨t, r⟩ := r; cases r
  | lst hf ha =>
    rename_i xs ds
    cases r
    obtain ⟨its, rv, ⟨⟨cls, dd, data, sls⟩, n, ho, hc, hdn, hdt⟩, hlen⟩ := I.list (.inl (.inl (e _ _ hf)))
    simp only at hc hdt
    subst hc hdt
    have hz' : (listText (PyData.shownAll ds)).length ≤ sizeLine := by simpa only [PyData.shown] using hz
    obtain ⟨as, bs, h4, hb, hk⟩ := rps_repr I e ds xs its ha rv (by simpa [PyData.showable] using hs) (fun t ht => Nat.le_trans (listText_mem_le ht) hz')
    have r : Reads s.heap (.ref a) (.list ds) _ := .list ho rfl rfl h4
    have hna : a ∉ bs := not_mem_of_deeper r (by simp only [PyData.depth]; omega) hb
    refine ⟨"list", "list.__repr__", PySem.F.slot_list_repr.toG, PySem.F.slot_list_str, PySem.F.slot_list_format, fun s hk0 => ⟨_, hk0 _ _ ho, rfl⟩, fun A E s Q hg hu hk0 hQ => ?_⟩
    simp only [PyData.depth] at hu
    simp only [PyData.shown] at hQ
    cases its with
    | nil =>
      cases h4
      simp only [PyData.shownAll, listText_nil] at hQ
      exact call_list_repr_empty ⟨_, hk0 _ _ ho, rfl⟩ (hk0 _ _ ho) rfl (hQ s.heap _ _ fun _ _ e => e)
    | cons y l => exact call_list_reprK ho rfl rfl hna (by simpa using hk.length_eq) (fun i y e => hk.item i y (by simpa using e)) hg (fun b _ => Clear.nil b) hu hk0 hQ hz'
  | tup hf ha =>
    rename_i xs ds
    cases r
    obtain ⟨its, rv, ⟨o, ho, hc, n, hd⟩, hlen⟩ := I.tuple (ex_t e hf)
    have hz' : (tupleText (PyData.shownAll ds)).length ≤ sizeLine := by simpa only [PyData.shown] using hz
    obtain ⟨as, bs, h4, hb, hk⟩ := rps_repr I e ds xs its ha rv (by simpa [PyData.showable] using hs) (fun t ht => Nat.le_trans (tupleText_mem_le ht) hz')
    have r : Reads s.heap (.ref a) (.tuple ds) _ := .tuple ho hc hd h4
    have hna : a ∉ bs := not_mem_of_deeper r (by simp only [PyData.depth]; omega) hb
    refine ⟨"tuple", "tuple.__repr__", PySem.F.slot_tuple_repr, PySem.F.slot_tuple_str, PySem.F.slot_tuple_format, fun s hk0 => ⟨o, hk0 _ _ ho, hc⟩, fun A E s Q hg hu hk0 hQ => ?_⟩
    simp only [PyData.depth] at hu
    simp only [PyData.shown] at hQ
    exact call_tuple_reprK ho hc hd hna hk hg (fun b _ => Clear.nil b) hu hk0 hQ hz'
  | dct hf ha =>
    rename_i kvs es
    cases r
    obtain ⟨hl, hsys, vs, hkv, o, en, ep, ho, hx, hd, _, hp, _⟩ := dk_rd I.hok (ex_rd e hf)
    have hz' : (dictText (PyData.shownKv es)).length ≤ sizeLine := by simpa only [PyData.shown] using hz
    obtain ⟨as, bs, b, h4, h5, hb, hk⟩ := rpk_repr I e es kvs vs en.toList ha hkv hp (by simpa [PyData.showable] using hs) (fun t ht => Nat.le_trans (dictText_mem_le ht) hz')
    have r : Reads s.heap (.ref a) (.dict es) _ := .dict ho hx.1 hd h4 h5
    have hna : a ∉ b := not_mem_of_deeper r (by simp only [PyData.depth]; omega) hb
    refine ⟨"dict", "dict.__repr__", PySem.F.slot_dict_repr, PySem.F.slot_dict_str, PySem.F.slot_dict_format, fun s hk0 => ⟨o, hk0 _ _ ho, hx.1⟩, fun A E s Q hg hu hk0 hQ => ?_⟩
    simp only [PyData.depth] at hu
    simp only [PyData.shown] at hQ
    exact call_dict_reprK ho hx.1 hd hsys hna hk hg (fun b _ => Clear.nil b) hu hk0 hQ hz'
end
def cReprX : CF := fun rs post => match rs with
  | [.val d] => ShX d ∧ post (.str d.shown)
  | _ => False
section
variable {X : Cx}
theorem call_reprX (hu : X.A.units + 64 < cLine) (hg : X.A.guards = some []) : CallR X (.builtin "repr") (fun xs H Q => ∃ x d F, xs = [x] ∧ Ex F H ∧ Rp X.K F x d ∧ ShX d ∧ Q (.str d.shown) H) := by
  intro pins s σ H xs us Q I r h
  obtain ⟨x, d, F, rfl, ef, hd, hs, q⟩ := h
  obtain ⟨u, rfl, ru⟩ := r.one
  have hz := hs.len
  have key : ∀ a, u = .ref a → wpAny (model X.prog X.w) X.A (call (.builtin "repr") [u]) (EP X pins σ Q) X.xe s := fun a e => by
    subst e
    obtain ⟨T, idr, S⟩ := shows_x I ef hd ru hs.sh hz
    exact call_repr_slot (by omega) (S.typeIs s fun _ _ e => e) S.slotRepr (S.call X.A.in1 X.xe s _ hg (by show X.A.units + 1 + d.depth < cLine; have := hs.dp; omega) (fun _ _ e => e) fun h' u tk hk => ⟨_, _, rfl, ⟨.str _, H, I.kept hk, ⟨_, rfl⟩, q⟩⟩)
  cases hd with
  | non => cases ru; exact P.repr_of_none ⟨.str _, H, I.tok _, ⟨_, rfl⟩, q⟩
  | bl b => cases ru; exact P.repr_of_bool ⟨.str _, H, I.tok _, ⟨_, rfl⟩, q⟩
  | int i =>
    obtain ⟨t, rfl⟩ := ru
    exact P.repr_of_int (of_decide_eq_true (show decide (i.natAbs.log2 < 1920) = true from hs.sh)) ⟨.str _, H, I.tok _, ⟨_, rfl⟩, q⟩
  | str z =>
    obtain ⟨t, rfl⟩ := ru
    exact P.repr_of_str ⟨.str _, H, I.tok _, ⟨_, rfl⟩, q⟩ hz
  | lst sq ha => exact key _ (by cases ru; rfl)
  | tup sq ha => exact key _ (by cases ru; rfl)
  | dct sq ha => exact key _ (by cases ru; rfl)
theorem ok_reprX {K : Fg} : CallOk K (fun xs H Q => ∃ x d F, xs = [x] ∧ Ex F H ∧ Rp K F x d ∧ ShX d ∧ Q (.str d.shown) H) cReprX := fun F H a fu vs rs post Q e t hf k => by
  unfold cReprX at hf
  split at hf
  · rename_i d
    obtain ⟨v, rfl, r⟩ := t.v1
    exact ⟨v, d, F, rfl, e, r, hf.1, k _ _ H F hf.2 (Gr.refl e) (.str _)⟩
  · exact hf.elim
variable {p pos : Pos} {e : Expr} {tr : DA} {k : Nat}
theorem e_reprX (hr : Room k X.A) (hgd : X.A.guards = some []) (hg : Gl X "repr") (hm : X.mg "repr" = none) (ha : PA X [e] (upA X.K tr)) (he : starEach [e] X.env = (false, eval e X.env) :: starEach [] X.env := by rfl) : PE X (.Call (.Name "repr" p) [e] [] pos) (up X.K (dCB cReprX tr)) :=
  e_callB (call_reprX hr.units hgd) ok_reprX hg hm (by decide +kernel) ha (by decide) (by decide) he rfl
end
end Z
namespace Z
open L2 PySem PySem.Spec PyProof.Rows
theorem sq_lt' {x y : Int} (hx : 0 ≤ x) (hy : 0 ≤ y) (h : x * x < y * y) : x < y := by
  rcases Int.lt_or_le x y with z | z
  · exact z
  · have := sq_le hy z
    omega
theorem sq_le' {x y : Int} (hx : 0 ≤ x) (hy : 0 ≤ y) (h : x * x ≤ y * y) : x ≤ y := by
  rcases Int.lt_or_le y x with z | z
  · have := Int.mul_le_mul z z (by omega) hx
    have e : (y + 1) * (y + 1) = y * y + 2 * y + 1 := by grind
    omega
  · exact z
theorem p4n (e : Int) : (2 : Int) ^ (2 * e).toNat = 2 ^ e.toNat * 2 ^ e.toNat ∧ (2 : Int) ^ (0 - 2 * e).toNat = 2 ^ (-e).toNat * 2 ^ (-e).toNat := by
  rw [← Int.pow_add, ← Int.pow_add]
  constructor <;> congr 1 <;> omega
/-- t / u at the root's side, told by a fraction a / b: A = a * 2 ^ -e, B = b * 2 ^ e -/
structure Side (n d a b A B e : Int) : Prop where
  hA : A = a * 2 ^ (-e).toNat
  hB : B = b * 2 ^ e.toNat
  n0 : 0 < n
  d0 : 0 < d
  a0 : 0 ≤ a
  b0 : 0 < b
section
variable {n d a b A B e t u : Int}
theorem Side.A0 (s : Side n d a b A B e) : 0 ≤ A := by rw [s.hA]; exact Int.mul_nonneg s.a0 (Int.le_of_lt (pow2_pos _))
theorem Side.B0 (s : Side n d a b A B e) : 0 < B := by rw [s.hB]; exact Int.mul_pos s.b0 (pow2_pos _)
/-- the two squares, told by cmR's two sides -/
theorem Side.sq (s : Side n d a b A B e) : (t * B) * (t * B) * d = (d * t * t * 2 ^ (2 * e).toNat) * (b * b) ∧ (u * A) * (u * A) * d = (u * u * 2 ^ (0 - 2 * e).toNat) * (a * a * d) := by
  rw [s.hA, s.hB, (p4n e).1, (p4n e).2]
  constructor <;> grind
/-- the fraction is not above the root -/
theorem Side.le (s : Side n d a b A B e) (h : a * a * d ≤ n * (b * b)) (u0 : 0 < u) (t0 : 0 ≤ t) (c : cmR n d e t u ≤ 0) : u * A ≤ t * B := by
  have c : n * u * u * 2 ^ (0 - 2 * e).toNat ≤ d * t * t * 2 ^ (2 * e).toNat := by
    have := cmR_pos (n := n) (d := d) (e := e) (t := t) (b := u)
    omega
  have hd := s.d0
  have bb := Int.mul_pos s.b0 s.b0
  refine sq_le' (Int.mul_nonneg (Int.le_of_lt u0) s.A0) (Int.mul_nonneg t0 (Int.le_of_lt s.B0)) (Int.le_of_mul_le_mul_right (a := d) ?_ hd)
  rw [(s.sq (t := t) (u := u)).1, (s.sq (t := t) (u := u)).2]
  have p := Int.mul_pos (Int.mul_pos u0 u0) (pow2_pos (0 - 2 * e).toNat)
  have q1 := Int.mul_le_mul_of_nonneg_right c (Int.le_of_lt bb)
  have q2 := Int.mul_le_mul_of_nonneg_left h (Int.le_of_lt p)
  have e1 : n * u * u * 2 ^ (0 - 2 * e).toNat * (b * b) = u * u * 2 ^ (0 - 2 * e).toNat * (n * (b * b)) := by grind
  omega
/-- the fraction is below the root -/
theorem Side.lt (s : Side n d a b A B e) (h : a * a * d < n * (b * b)) (u0 : 0 < u) (t0 : 0 ≤ t) (c : cmR n d e t u ≤ 0) : u * A < t * B := by
  have c : n * u * u * 2 ^ (0 - 2 * e).toNat ≤ d * t * t * 2 ^ (2 * e).toNat := by
    have := cmR_pos (n := n) (d := d) (e := e) (t := t) (b := u)
    omega
  have hd := s.d0
  have bb := Int.mul_pos s.b0 s.b0
  refine sq_lt' (Int.mul_nonneg (Int.le_of_lt u0) s.A0) (Int.mul_nonneg t0 (Int.le_of_lt s.B0)) (Int.lt_of_mul_lt_mul_right (a := d) ?_ (Int.le_of_lt hd))
  rw [(s.sq (t := t) (u := u)).1, (s.sq (t := t) (u := u)).2]
  have p := Int.mul_pos (Int.mul_pos u0 u0) (pow2_pos (0 - 2 * e).toNat)
  have q1 := Int.mul_le_mul_of_nonneg_right c (Int.le_of_lt bb)
  have q2 := Int.mul_lt_mul_of_pos_left h p
  have e1 : n * u * u * 2 ^ (0 - 2 * e).toNat * (b * b) = u * u * 2 ^ (0 - 2 * e).toNat * (n * (b * b)) := by grind
  omega
end
end Z
namespace Z
open L2 PySem PySem.Spec PyProof.Rows
open Evl (Ex ex_l ex_t ex_rd fresh_back)
variable {Wx : WX}
theorem Rps.app2 {K : Fg} {F : Hp} : ∀ {vs : List V} {ds : List Da} {v : V} {d : Da}, Rps K F vs ds → Rp K F v d → Rps K F (vs ++ [v]) (ds ++ [d])
  | _, _, _, _, .nil, r => .cons r .nil
  | _, _, _, _, .cons a t, r => .cons a (Rps.app2 t r)
theorem Rps.rev {K : Fg} {F : Hp} : ∀ {vs : List V} {ds : List Da}, Rps K F vs ds → Rps K F vs.reverse ds.reverse
  | _, _, .nil => .nil
  | _, _, .cons a t => by
    rw [List.reverse_cons, List.reverse_cons]
    exact Rps.app2 (Rps.rev t) a
structure Tri (x y z : Int) : Prop where
  x0 : 0 ≤ x
  y0 : 0 ≤ y
  z0 : 0 ≤ z
  ev : (x + y + z) % 2 = 0
  a : x ≤ y + z
  b : y ≤ x + z
  c : z ≤ x + y
theorem Tri.add {x y z x' y' z' : Int} (h : Tri x y z) (h' : Tri x' y' z') : Tri (x + x') (y + y') (z + z') := by
  obtain ⟨a1, a2, a3, a4, a5, a6, a7⟩ := h
  obtain ⟨b1, b2, b3, b4, b5, b6, b7⟩ := h'
  exact ⟨by omega, by omega, by omega, by omega, by omega, by omega, by omega⟩
theorem Tri.one {p q r : Bool} (h : r = (p != q)) : Tri (if p = true then 1 else 0) (if q = true then 1 else 0) (if r = true then 1 else 0) := by
  subst h
  cases p <;> cases q <;> exact ⟨by decide, by decide, by decide, by decide, by decide, by decide, by decide⟩
end Z
namespace Z
open L2 PySem PySem.Spec PyProof.Rows
open Evl (Ex ex_l ex_t ex_rd fresh_back)
variable {Wx : WX}
theorem NewL.grow {K : Fg} {c : Con} {g : Gs} {σ : L2.St} {H F : Hp} {a p : Addr} {v : V} {ds : List Da} {ot : HO} (h : NewL K c g σ H F a v ds) (e : Ex F H) (hp : H p = none) : NewL K c g σ (upd H p ot) (upd F p ot) a v ds := by
  obtain ⟨o, xs, rfl, q2, q3, q4, q5, q6, q7⟩ := h.ex
  have ne : o ≠ p := fun z => by rw [z, hp] at q4; cases q4
  exact ⟨o, xs, rfl, by rw [upd_ne ne]; exact q2, q3, by rw [upd_ne ne]; exact q4, q5.up (Gr.new e hp).f, q6, q7⟩
end Z
namespace LZN
open PySem
open PySem.Sem (wp)
/-- a zip ahead of an item: fresh, or its first tuple still held -/
def ZSt (h : Heap) (q TI TO u1 u2 S : Addr) : Prop := IsZip h q TI TO .none ∨ ∃ (T : Addr) (f : Bool) (oT : Obj), IsZipHeld h q TI TO T f ∧ h.get? T = some oT ∧ T ≠ q ∧ T ≠ u1 ∧ T ≠ u2 ∧ T ≠ S
structure Run (h : Heap) (q TI TO u1 u2 l1 l2 S : Addr) (xs ys : Array Value) (k : Nat) : Prop where
  D : ZipApart q TI TO u1 u2 l1 l2
  z : ZSt h q TI TO u1 u2 S
  o : ∃ a b, IsPair h TO a b
  i : IsPair h TI (.ref u1) (.ref u2)
  g1 : h.IsListIter u1 l1 k
  g2 : h.IsListIter u2 l2 k
  m1 : h.IsList l1 xs
  m2 : h.IsList l2 ys
structure Off (S q TI TO u1 u2 l1 l2 : Addr) : Prop where
  q : S ≠ q
  TI : S ≠ TI
  TO : S ≠ TO
  u1 : S ≠ u1
  u2 : S ≠ u2
  l1 : S ≠ l1
  l2 : S ≠ l2
section
variable {h h' : Heap} {q TI TO u1 u2 l1 l2 S : Addr} {xs ys : Array Value} {k : Nat}
theorem Run.keep (R : Run h q TI TO u1 u2 l1 l2 S xs ys k) (o : Off S q TI TO u1 u2 l1 l2) (hk : ∀ c ob, c ≠ S → h.get? c = some ob → h'.get? c = some ob) : Run h' q TI TO u1 u2 l1 l2 S xs ys k := by
  obtain ⟨a, b, z2⟩ := R.o
  refine ⟨R.D, ?_, ⟨a, b, hk _ _ o.TO.symm z2⟩, hk _ _ o.TI.symm R.i, R.g1.at fun ob e => hk _ ob o.u1.symm e, R.g2.at fun ob e => hk _ ob o.u2.symm e, R.m1.at fun ob e => hk _ ob o.l1.symm e, R.m2.at fun ob e => hk _ ob o.l2.symm e⟩
  rcases R.z with z1 | ⟨T, f, oT, z1, z2, n1, n2, n3, n4⟩
  · exact .inl (hk _ _ o.q.symm z1)
  · exact .inr ⟨T, f, oT, hk _ _ o.q.symm z1, hk _ _ n4 z2, n1, n2, n3, n4⟩
end
end LZN
namespace Z
open L2 PySem PySem.Spec PyProof.Rows
open Evl (Ex ex_l ex_t ex_rd fresh_back)
end Z
namespace L2
open PySem PySem.Spec PyProof.Rows
end L2
namespace Z
open L2 PySem PySem.Spec PyProof.Rows
open Evl (Ex ex_l ex_t ex_rd fresh_back)
end Z
namespace Z
open L2 PySem PySem.Spec PyProof.Rows
end Z
namespace Z
open L2 PySem PySem.Spec PyProof.Rows
end Z
namespace Z
open L2 PySem PySem.Spec PyProof.Rows
open Evl (Ex ex_l ex_t ex_rd fresh_back)
end Z
namespace Z
open L2 PySem PySem.Spec PyProof.Rows
open Evl (Ex ex_l ex_t ex_rd fresh_back)
def cStrI : CF := fun rs post => match rs with
  | [.val (.int i)] => i.natAbs.log2 < 1920 ∧ post (.str (toString i))
  | _ => False
theorem ok_strI {K : Fg} : CallOk K (fun xs H Q => ∃ i, xs = [V.int i] ∧ i.natAbs.log2 < 1920 ∧ Q (.str (toString i)) H) cStrI := fun F H a fu vs rs post Q e t hf k => by
  unfold cStrI at hf
  split at hf
  · exact ⟨_, t.i1, hf.1, k _ _ H F hf.2 (Gr.refl e) (.str _)⟩
  · exact hf.elim
section
variable {X : Cx} {p pos : Pos} {e : Expr} {tr : DA}
theorem e_strI (hg : Gl X "str") (hm : X.mg "str" = none) (ha : PA X [e] (upA X.K tr)) (he : starEach [e] X.env = (false, eval e X.env) :: starEach [] X.env := by rfl) : PE X (.Call (.Name "str" p) [e] [] pos) (up X.K (dCB cStrI tr)) :=
  e_callTy call_str_int ok_strI hg hm (by decide +kernel) ha (by decide) (by decide) he rfl
end
end Z
namespace Z
open L2 PySem PySem.Spec PyProof.Rows
open Evl (Ex ex_l ex_t ex_rd fresh_back)
variable {Wx : WX}
def tFmtX (K : Fg) (te : TE) : TE := fun σ H Q => te σ H fun x H1 => ∃ d F, Ex F H1 ∧ Rp K F x d ∧ ShX d ∧ Q (.str d.shown) H1
section
variable {X : Cx} {e : Expr} {te : TE} {pos : Pos}
theorem pe_fmtX (hu : X.A.units + 64 < cLine) (hg : X.A.guards = some []) (he : PE X e te) : PE X (.FormattedValue e 114 none pos) (tFmtX X.K te) := by
  refine ⟨fun pins s σ H Q I h => ?_⟩
  refine wpAny_FormattedValue_repr (thn (he.run pins s σ H _ I h) fun v s1 hv => ?_)
  obtain ⟨x, H1, I1, r1, d, F, ef, hd, hs, q⟩ := hv
  have hz := hs.len
  have fin : ∀ {s2 : Shared} {tk : Tok}, Inv X pins σ H1 s2 → wpAny (model X.prog X.w) X.A (formatField (.str d.shown tk) Str.empty) (EP X pins σ Q) X.xe s2 := fun {s2 tk} I2 =>
    wpAny_formatField_str ⟨.str d.shown, H1, I2, ⟨_, rfl⟩, q⟩ ⟨.str d.shown, H1, I2.tok _, ⟨_, rfl⟩, q⟩ hz
  have key : ∀ a, v = .ref a → wpAny (model X.prog X.w) X.A (pyReprObj v) (fun r s₂ => wpAny (model X.prog X.w) X.A (formatField r Str.empty) (EP X pins σ Q) X.xe s₂) X.xe s1 := fun a e => by
    subst e
    obtain ⟨T, idr, S⟩ := shows_x I1 ef hd r1 hs.sh hz
    exact wpAny_pyReprObj_slot (by omega) (S.typeIs s1 fun _ _ e => e) S.slotRepr (S.call X.A X.xe s1 _ hg (by have := hs.dp; omega) (fun _ _ e => e) fun h' u tk hk => ⟨_, _, rfl, fin (I1.kept hk)⟩)
  cases hd with
  | non => cases r1; exact pyReprObj_none (fin (I1.tok _))
  | bl b => cases r1; cases b <;> exact pyReprObj_bool (fin (I1.tok _))
  | int i =>
    obtain ⟨t, rfl⟩ := r1
    exact pyReprObj_int (of_decide_eq_true (show decide (i.natAbs.log2 < 1920) = true from hs.sh)) (fin (I1.tok _))
  | str z =>
    obtain ⟨t, rfl⟩ := r1
    exact pyReprObj_str (fin (I1.tok _)) hz
  | lst sq ha => exact key _ (by cases r1; rfl)
  | tup sq ha => exact key _ (by cases r1; rfl)
  | dct sq ha => exact key _ (by cases r1; rfl)
end
/-- what is read off the base's class -/
structure BaseC (K : Fg) (R : Addr) : Prop where
  ga : PySem.W.specialIn K (.ref R) "__getattribute__" = some (some (.builtin "type.__getattribute__"))
  rd : PySem.W.readsIn K R (.type "type") = true
  at_ : PySem.W.findCls K (.ref R) (.type "type") "__init__" = some (.val (.builtin "ValueError.__init__"))
section
variable {X : Cx} {e : Expr} {es : List Expr} {ta : TA} {x : Str} {R : Addr} {p1 p2 pos : Pos}
theorem pe_baseinit {pl : Sem Bool} (B : BaseC X.K R) (hg : Gl X x) (hm : X.mg x = some (.ref R)) (ha : PA X (e :: es) ta) (hdb : (x == ("__debug__" : Str)) = false := by decide)
    (hc : eval (.Call (.Attribute (.Name x p1) "__init__" p2) (e :: es) [] pos) X.env = (do
      let ov ← eval (.Name x p1) X.env
      standAt p2.atName
      let (f, first) ← holding [ov] (getMethod ov "__init__" pl)
      callWith pos f first (backTo pos (starEach (e :: es) X.env)) (backToKw pos (keywordEach [] X.env))) := by rfl)
    (he : starEach (e :: es) X.env = (false, eval e X.env) :: starEach es X.env := by rfl) (hpl : (backTo pos (starEach es X.env)).any (·.1) = false := by rfl) :
    PE X (.Call (.Attribute (.Name x p1) "__init__" p2) (e :: es) [] pos) (tVeI X.K ta) := by
  refine ⟨fun pins s σ H Q I h => ?_⟩
  refine PySem.W.methodCall_KW (ld_glob I hg hm ?_ hdb) hc
  refine PySem.W.method_cls I.kIn B.ga ?_
  refine PySem.W.cls_value I.kIn B.rd B.at_ (by decide +kernel) ?_
  show wpAny _ _ (callWith pos (Value.builtin "ValueError.__init__") [] (backTo pos (starEach (e :: es) X.env)) []) _ _ _
  refine PyProof.Rows.callWith_method1 (thn (ha.run pos pins _ σ H _ (I.tok _) h) fun us s1 ⟨vs, H1, I1, r1, a, C, ws, ev, hl, T, ea, q⟩ => ?_) he hpl
  subst ev
  cases r1 with
  | @cons _ u0 _ ur ra rw' =>
    obtain rfl : u0 = Value.ref a := ra
    have hlen : ur.length ≤ sizeLine := by
      rw [← Paired.length rw', sizeLine_eq]
      omega
    exact oinit_ok T I1 ea hlen fun s' J => ⟨.non, H1, J, rfl, q⟩
end
def spXi (K : Fg) : Sp := fun vs H Q _ => ∃ (a C : Addr) (v : V) (F : Hp) (d : Da), vs = [.ref a, v] ∧ OexC K C ∧ PySem.W.findIn K (.ref C) "value" = some none ∧ H a = some (exo a C none) ∧ Ex F H ∧ Rp K F v d ∧ ShX d ∧
  ∀ dx, H dx = none → dx ≠ a → Q .non (upd (upd H dx (exd dx [("value", v)])) a (exo a C (some dx)))
theorem spXi_len {K : Fg} (vs : List V) (H : Hp) (Q : VK) (E : XK) (h : spXi K vs H Q E) : vs.length = 2 := by
  obtain ⟨a, C, v, F, d, rfl, _⟩ := h
  rfl
def tXi (K : Fg) : TS := fun D σ H => ∃ (a C : Addr) (v : V) (F : Hp) (d : Da), σ[0]? = some (some (.ref a)) ∧ σ[1]? = some (some v) ∧ OexC K C ∧ PySem.W.findIn K (.ref C) "value" = some none ∧ H a = some (exo a C none) ∧ Ex F H ∧ Rp K F v d ∧ ShX d ∧
  ∀ dx, H dx = none → dx ≠ a → D.nx σ (upd (upd H dx (exd dx [("value", v)])) a (exo a C (some dx)))
section
variable {X : Cx} {x sfx : Str} {R : Addr} {j : Option Str} {p1 p2 p3 p4 p5 p6 p7 p8 p9 p10 p11 p12 p13 : Pos}
theorem pss_xinit (B : BaseC X.K R) (hg : Gl X x) (hm : X.mg x = some (.ref R)) (hu : X.A.units + 64 < cLine) (hgd : X.A.guards = some []) (hz : sfx.length ≤ 500) (pv0 : PE X (.Name "self" p3) (tVar 0)) (pv1 : PE X (.Name "value" p4) (tVar 1)) (pv0' : PE X (.Name "self" p9) (tVar 0)) (pv1' : PE X (.Name "value" p10) (tVar 1))
    {jj : _} (hdb : (x == ("__debug__" : Str)) = false := by decide)
    {pl : Sem Bool}
    (hc : eval (.Call (.Attribute (.Name x p1) "__init__" p2) [.Name "self" p3, .JoinedStr [.FormattedValue (.Name "value" p4) 114 none p5, .Constant (.str sfx) jj p6] p7] [] p8) X.env = (do
      let ov ← eval (.Name x p1) X.env
      standAt p2.atName
      let (f, first) ← holding [ov] (getMethod ov "__init__" pl)
      callWith p8 f first (backTo p8 (starEach [.Name "self" p3, .JoinedStr [.FormattedValue (.Name "value" p4) 114 none p5, .Constant (.str sfx) jj p6] p7] X.env)) (backToKw p8 (keywordEach [] X.env))) := by rfl) :
    PSs X [.Expr (.Call (.Attribute (.Name x p1) "__init__" p2) [.Name "self" p3, .JoinedStr [.FormattedValue (.Name "value" p4) 114 none p5, .Constant (.str sfx) jj p6] p7] [] p8) p11, .Assign [.Attribute (.Name "self" p9) "value" p12] (.Name "value" p10) p13]
      (tXi X.K) := by
  have e1 : PE X (.JoinedStr [.FormattedValue (.Name "value" p4) 114 none p5, .Constant (.str sfx) jj p6] p7) _ := pe_joined (.cons (pe_fmtX hu hgd pv1) (.cons pe_str .nil))
  refine pss_to (pss_cons (ps_expr (pe_baseinit B hg hm (pa_cons pv0 (pa_cons e1 pa_nil)) hdb hc)) (pss_one (ps_ost pv0' pv1'))) fun D σ H q => ?_
  obtain ⟨a, C, v, F, d, h0, h1, T, hno, ha, ef, rd, hs, hq⟩ := q
  have hl := szX_ok d hs.lay hs.sh
  have hl2 := hs.sz
  have sl := sizeLine_eq
  have l1 : (Str.empty ++ d.shown).length ≤ sizeLine := by
    rw [strLen_append]
    show 0 + _ ≤ _
    omega
  have l2 : (Str.empty ++ d.shown ++ sfx).length ≤ sizeLine := by
    rw [strLen_append, strLen_append]
    show 0 + _ + _ ≤ _
    omega
  exact ⟨_, h0, v, h1, d, F, ef, rd, hs, d.shown, rfl, l1, sfx, rfl, l2, a, C, [.str (Str.empty ++ d.shown ++ sfx)], rfl, (by show 1 ≤ 1000; omega), T, ha, v, h1, _, h0, a, C, rfl, T, hno, .inl ⟨ha, hq⟩⟩
end
section
variable {P : Program} {w : World} {K : Fg} {mg : Str → Option Value} {base : Heap} {CX : CXT}
theorem fn_xinit {x qual sfx : Str} {st : Stmt} {f R : Addr} {fd : FuncData} {p1 p2 p3 p4 p5 p6 p7 p8 p9 p10 p11 p12 p13 : Pos} {jj : _} (Fu : Fun K x qual st f fd) (S : FnScope ["self", "value"] ["self", "value"] (defScope st)) (B : BaseC K R) (gR : mg "RoundingError" = some (.ref R)) (hz : sfx.length ≤ 500)
    (hb : defBody st = [.Expr (.Call (.Attribute (.Name "RoundingError" p1) "__init__" p2) [.Name "self" p3, .JoinedStr [.FormattedValue (.Name "value" p4) 114 none p5, .Constant (.str sfx) jj p6] p7] [] p8) p11, .Assign [.Attribute (.Name "self" p9) "value" p12] (.Name "value" p10) p13])
    (h0 : (defScope st).names.lookup ("self" : Str) = some .local) (h1 : (defScope st).names.lookup ("value" : Str) = some .local) (hl : (defScope st).names.lookup ("RoundingError" : Str) = some .globalImplicit)
    (hc : ∀ env : Env, ∃ pl : Sem Bool, eval (.Call (.Attribute (.Name "RoundingError" p1) "__init__" p2) [.Name "self" p3, .JoinedStr [.FormattedValue (.Name "value" p4) 114 none p5, .Constant (.str sfx) jj p6] p7] [] p8) env = (do
      let ov ← eval (.Name "RoundingError" p1) env
      standAt p2.atName
      let (f, first) ← holding [ov] (getMethod ov "__init__" pl)
      callWith p8 f first (backTo p8 (starEach [.Name "self" p3, .JoinedStr [.FormattedValue (.Name "value" p4) 114 none p5, .Constant (.str sfx) jj p6] p7] env)) (backToKw p8 (keywordEach [] env)))) : Fn P w K mg base CX0 2 f fd ["self", "value"] (spXi K) := by
  refine fn_by Fu S spXi_len fun cdv A outer s H vs Q E hr hg h => ⟨tXi K, ?_, ?_⟩
  · obtain ⟨pl, hc⟩ := hc (envOfC qual (defScope st) s.heap.objs.size f cdv)
    rw [hb]
    exact pss_xinit (X := cxOf CX0 P w K mg base ["self", "value"] qual (defScope st) f cdv A outer s H E) B hl gR hr.units hg hz (pe_var rfl (.inl h0)) (pe_var rfl (.inl h1)) (pe_var rfl (.inl h0)) (pe_var rfl (.inl h1)) (by decide) hc
  · obtain ⟨a, C, v, F, d, rfl, T, hno, ha, ef, rd, hs, q⟩ := h
    exact ⟨a, C, v, F, d, rfl, rfl, T, hno, ha, ef, rd, hs, q⟩
end
section
variable {X : Cx} {e : Expr} {es : List Expr} {ta : TA} {p pos : Pos}
theorem pmk_oexF {CX : CXT} {x : Str} {C fI : Addr} {k : Nat} {fd : FuncData} {ps : List Str} {sp : Sp} (T : OexC X.K C) (iC : PySem.W.findIn X.K (.ref C) "__init__" = some (some (.ref fI))) (tI : PySem.W.typeIn X.K (.ref fI) = some (.type "function"))
    (F1 : Fn X.prog X.w X.K X.mg X.base CX k fI fd ps sp) (hr : Room (k + 1) X.A) (hgd : X.A.guards = some []) (hb : Binds X.K fd ps []) (hx : Passes CX X (fun _ _ _ => False)) (hg : Gl X x) (hm : X.mg x = some (.ref C)) (ha : PA X (e :: es) ta)
    (hdb : (x == ("__debug__" : Str)) = false := by decide) (he : starEach (e :: es) X.env = (false, eval e X.env) :: starEach es X.env := by rfl) (hpl : (backTo pos (starEach es X.env)).any (·.1) = false := by rfl) :
    PMk X (.Call (.Name x p) (e :: es) [] pos) (tMkO C sp [] ta) := by
  intro pins s σ H Q I h
  obtain ⟨nm, q, N, bs, bm, sn, sub, ab, col, dd, k0, k1, k2, k3, k5, hC, hbm⟩ := T.cls
  refine wpAny_Call_Name_kw (ld_glob I hg hm ?_ hdb)
  refine PySem.W.callWith_K (h₀ := X.base) I.ok.mod.kin T.kC (thn (ha.run pos pins s σ H _ I h) fun us s1 ⟨vs, H1, I1, r1, hz, q1⟩ => ⟨I1.kIn, ?_⟩) he hpl
  show wpAny _ _ (call (.ref C) us) _ _ _
  obtain ⟨hp, g, dr, tk, os⟩ := s1
  have hsz : hp.objs.size ≤ hp.objs.size + 1 := Nat.le_succ _
  have hn : H1 (hp.objs.size + 1) = none := I1.hok.fresh hsz
  have hq := q1 (hp.objs.size + 1) hn
  rw [List.append_nil] at hq
  have kk : ∀ b o, hp.get? b = some o → ((hp.push (PySem.W.kdv_tup us)).push (PySem.HandSPX.excO C hp.objs.size)).get? b = some o := fun b o e => Heap.get?_push_of_some _ (Heap.get?_push_of_some _ e)
  have hget : ((hp.push (PySem.W.kdv_tup us)).push (PySem.HandSPX.excO C hp.objs.size)).get? (hp.objs.size + 1) = some (PySem.HandSPX.excO C hp.objs.size) := by heap_get
  have I2 : Inv X pins σ (upd H1 (hp.objs.size + 1) (exo (hp.objs.size + 1) C none)) ⟨(hp.push (PySem.W.kdv_tup us)).push (PySem.HandSPX.excO C hp.objs.size), g, dr, tk, os⟩ :=
    I1.laid (t' := tk) (a := hp.objs.size + 1) (o := exo (hp.objs.size + 1) C none) (h' := (hp.push (PySem.W.kdv_tup us)).push (PySem.HandSPX.excO C hp.objs.size)) kk hsz (exo_ok hget)
  have r2 : Vals (V.ref (hp.objs.size + 1) :: vs) (Value.ref (hp.objs.size + 1) :: us) := .cons rfl r1
  have hl : (Value.ref (hp.objs.size + 1) :: us).length = ps.length := by
    have e := r2.length
    rw [F1.len _ _ _ _ hq] at e
    exact e.symm
  have hus : us.length ≤ sizeLine := by
    rw [← Paired.length r1, sizeLine_eq]
    omega
  have hb' := hb _ (Value.ref (hp.objs.size + 1) :: us) I2.kIn (by rw [List.append_nil]; exact hl)
  rw [List.append_nil] at hb'
  refine wpAny_call (PySem.HandSPX.call_own F.excBase_ValueError (fun Y => PySem.HandSPX.refsVE_contains Y bm hbm) (I1.kIn _ _ hC) (PySem.W.looks_findIn I1.kIn iC) (fun self => PySem.W.bind_fn I1.kIn self tI) hus
    (codeAny_mono (F1.run _ X.stack _ _ ⟨Value.ref (hp.objs.size + 1) :: us, []⟩ (Value.ref (hp.objs.size + 1) :: us) _ _ (fun _ _ _ => False) (hr.make C us []) hgd (I2.env0.make C us []) hb' r2 hq) fun r s' hq' => ?_))
  cases r with
  | error er => exact hx pins σ _ _ er s' I2 hq'
  | ok fl =>
    cases fl with
    | ret u =>
      obtain ⟨v, H2, os2, bare2, un2, hok2, rv, ev, d, fs, ea, ed, hd1, q2⟩ := hq'
      subst ev
      obtain ⟨h2, g2, d2, t2, os'⟩ := s'
      exact ⟨rv, mk_end (raises_own T.exC T.tyC) I1 hsz kk un2 hok2 os2 bare2 ea ed hd1 q2⟩
    | next => exact False.elim hq'
    | brk => exact False.elim hq'
    | cont => exact False.elim hq'
end
/-- what the text must have for an own exception with a field value -/
structure XcV (K : Fg) (nm : Str) (C fI : Addr) : Prop where
  oex : OexC K C
  ns : PySem.W.nsIn K mainGlobals nm = some (some (.ref C))
  ini : PySem.W.findIn K (.ref C) "__init__" = some (some (.ref fI))
  fn : PySem.W.typeIn K (.ref fI) = some (.type "function")
  nov : PySem.W.findIn K (.ref C) "value" = some none
def dRaise (nm : Str) (te : DE) : DS := fun d g => te g fun r g1 => match r with
  | .val z => ShX z ∧ d.rt (.exc nm (some z)) g1
  | _ => False
section
variable {X : Cx} {e : Expr} {te : DE} {nm : Str} {C fI : Addr} {k : Nat} {fd : FuncData} {p pos pos2 : Pos}
theorem s_raise (hc : X.calm = true) (tk : Takes X Wx) (T : XcV X.K nm C fI) (F1 : Fn X.prog X.w X.K X.mg X.base CX0 k fI fd ["self", "value"] (spXi X.K)) (hr : Room (k + 1) X.A) (hgd : X.A.guards = some []) (hb : Binds X.K fd ["self", "value"] []) (hg : Gl X nm) (hm : X.mg nm = some (.ref C)) (ha : PE X e (up X.K te))
    (hdb : (nm == ("__debug__" : Str)) = false := by decide) (he : starEach [e] X.env = (false, eval e X.env) :: starEach [] X.env := by rfl) : PS X (.Raise (some (.Call (.Name nm p) [e] [] pos)) none pos2) (upS X.K Wx (dRaise nm te)) :=
  ps_to (ps_raise hc tk (pmk_oexF T.oex T.ini T.fn F1 hr hgd hb pass0 hg hm (pa_cons ha pa_nil he) hdb he rfl)) fun D σ H q => by
  obtain ⟨c, g, tv, tr, F, a, d, s, hn, t, kk⟩ := q
  refine ⟨c, g, tv, tr, F, a, _, s, t, fun r g1 v H1 F1 a1 t1 s1 => ?_⟩
  cases r with
  | val z =>
    refine ⟨by show 1 ≤ 1000; omega, fun x hx => ?_⟩
    have rz : Rp X.K F1 v z := s1.top
    have ef : Ex F1 (upd H1 x (exo x C none)) := s1.eh.trans (Ex.new hx)
    refine ⟨x, C, v, F1, z, rfl, T.oex, T.nov, upd_same, ef, rz, t1.1, fun dx hdx ne => ⟨rfl, dx, [("value", v)], upd_same, ?_, ?_, ?_⟩⟩
    · rw [upd_ne ne, upd_same]
    · rw [upd_ne ne] at hdx; exact hdx
    · rw [upd_ne ne] at hdx
      have eq : upd (del (upd (upd (upd H1 x (exo x C none)) dx (exd dx [("value", v)])) x (exo x C (some dx))) x) dx (.xd [("value", v)]) = upd H1 dx (.xd [("value", v)]) := by
        funext b
        by_cases hb : b = dx
        · rw [hb, upd_same, upd_same]
        · rw [upd_ne hb, upd_ne hb]
          by_cases hbx : b = x
          · rw [hbx, del_same, hx]
          · rw [del_ne hbx, upd_ne hbx, upd_ne hb, upd_ne hbx]
      rw [eq]
      have gr := Gr.new (o := .xd [("value", v)]) s1.eh hdx
      exact kk.rx nm (some z) g1 σ _ _ a1 _ _ t1.2 (s1.pop1.grow gr) ⟨C, dx, v, rfl, T.ns, rfl, upd_same, rz.up gr.f⟩
  | _ => exact t1.elim
/-- not reached -/
def dStop : DS := fun _ _ => False
theorem ss_stop {ss : List Stmt} : PSs X ss (upS X.K Wx dStop) := ⟨fun pins s σ H D I q => by
  obtain ⟨c, g, tv, tr, F, a, d, s, hn, t, k⟩ := q
  exact t.elim⟩
end
end Z
namespace Z
open L2 PySem PySem.Spec PyProof.Rows
open Evl (Ex ex_l ex_t ex_rd fresh_back)
theorem exT_ok {P : Program} {w : World} {H : Hp} {h : Heap} {a : Addr} {cls : Value} {d : Option Addr} {oe : Obj} {vs : Array Value} (he : h.get? a = some oe) (hz : Zc cls d oe) (hd : oe.data = .fields vs) : ObjOk P w H h a (exT a cls d) :=
  ⟨⟨oe, vs, he, hz, hd⟩, ⟨_, he⟩, fun h1 h2 z k => by
    obtain ⟨o, vs, q, r⟩ := z
    exact ⟨o, vs, k _ q, r⟩⟩
theorem exT_at {P : Program} {w : World} {H : Hp} {h : Heap} {a : Addr} {cls : Value} {d : Option Addr} (hok : HOk P w H h) (he : H a = some (exT a cls d)) : ∃ (oe : Obj) (vs : Array Value), h.get? a = some oe ∧ Zc cls d oe ∧ oe.data = .fields vs := by
  have x : ObjOk P w H h a (.ext fun h => ∃ (oe : Obj) (vs : Array Value), h.get? a = some oe ∧ Zc cls d oe ∧ oe.data = .fields vs) := hok a _ he
  exact x.1
section
variable {X : Cx} {pins : List (Addr × Obj)} {σ : L2.St} {H : Hp} {s : Shared} {a : Addr} {cls : Value} {d : Option Addr} {oe : Obj} {vs : Array Value}
theorem inv_track (I : Inv X pins σ H s) (ha : s.heap.get? a = some oe) (hz : Zc cls d oe) (hd : oe.data = .fields vs) (na : H a = none) (nL : a ≠ X.env.locals) (n0 : ∀ o, X.s_0.heap.get? a = some o → X.H_0 a ≠ none) (np : ∀ p ∈ X.pn ++ pins, p.1 ≠ a) :
    Inv X pins σ (upd H a (exT a cls d)) s := by
  refine ⟨I.ok, I.os, I.bare, ⟨I.base.keep, I.base.slot, fun b o e n hx => ?_, I.base.there, fun b xs q => ?_, fun b o xs q => ?_, fun b ps q => ?_⟩, I.loc, I.cell, ?_, fun y c e => ?_, fun p hp => ?_, fun b o q => ?_, I.len⟩
  · by_cases hb : b = a
    · subst hb
      exact absurd n (n0 o e)
    · rw [upd_ne hb]; exact I.base.free b o e n hx
  · have z := I.base.tups b xs q
    rw [upd_ne (fun e => by rw [e, na] at z; cases z)]; exact z
  · have z := I.base.frzs b o xs q
    rw [upd_ne (fun e => by rw [e, na] at z; cases z)]; exact z
  · obtain ⟨more, z⟩ := I.base.tbls b ps q
    exact ⟨more, by rw [upd_ne (fun e => by rw [e, na] at z; cases z)]; exact z⟩
  · rw [upd_ne (Ne.symm nL)]; exact I.free
  · rw [upd_ne ?_]
    · exact I.freeC y c e
    · intro hc
      obtain ⟨w', z⟩ := I.cell y c e
      obtain ⟨o, h1, h2⟩ := z
      subst hc
      rw [ha] at h1
      cases h1
      rw [hd] at h2
      cases h2
  · obtain ⟨q1, q2, q3⟩ := I.pin p hp
    exact ⟨q1, by rw [upd_ne (np p hp)]; exact q2, q3⟩
  · by_cases hb : b = a
    · subst hb
      rw [upd_same] at q
      cases q
      exact exT_ok ha hz hd
    · rw [upd_ne hb] at q
      exact (I.hok b o q).stay (fun c v hc z => z) (fun c hc => by rw [upd_ne (fun e => by rw [e, na] at hc; cases hc)]; exact hc) (fun c xs hc => by rw [upd_ne (fun e => by rw [e, na] at hc; cases hc)]; exact hc)
theorem inv_suite (I : Inv X pins σ H s) (a : Addr) : Inv (X.suite a (X.pn ++ pins)) [] σ H s :=
  ⟨I.ok.suite _ _, I.os, I.bare, I.base, I.loc, I.cell, I.free, I.freeC, fun p hp => I.pin p (by rw [List.append_nil] at hp; exact hp), I.hok, I.len⟩
theorem inv_unsuite {pn' : List (Addr × Obj)} (I : Inv (X.suite a (X.pn ++ pins)) pn' σ H s) (ok : X.Ok) : Inv X pins σ H s :=
  ⟨ok, I.os, I.bare, I.base, I.loc, I.cell, I.free, I.freeC, fun p hp => I.pin p (List.mem_append_left _ hp), I.hok, I.len⟩
end
/-- the ends of a suite whose clause names slot i -/
def endsAs (D : Ends) : Option Nat → Ends
  | none => D
  | some i => { nx := fun σ' H' => D.nx (σ'.set i none) H', rt := D.rt, bk := fun σ' H' => D.bk (σ'.set i none) H', ct := fun σ' H' => D.ct (σ'.set i none) H' }
def slotAs (σ : L2.St) (a : Addr) : Option Nat → L2.St
  | none => σ
  | some i => σ.set i (some (.ref a))
/-- what the clauses wish of an exception of the body, one after the other -/
def wT (K : Fg) (Wout : WX) (D : Ends) : List (Value × Option Nat × TS) → WX
  | [] => Wout
  | (c, i, ts) :: r => fun cls d σ H => ∃ b, PySem.W.exmOne K cls c = some b ∧ (b = true → ∀ a, H a = none → ts (endsAs D i) (slotAs σ a i) (upd H a (exT a cls d))) ∧ (b = false → wT K Wout D r cls d σ H)
inductive HdT (X : Cx) : List ExceptHandler → List (Value × Option Nat × TS) → Prop
  | nil : HdT X [] []
  | no {x : Str} {c : Value} {ts : TS} {b₀ : Stmt} {suite : List Stmt} {np pos' : Pos} {hds : List ExceptHandler} {l : List (Value × Option Nat × TS)} (hc : Names X x c)
      (hsu : ∀ (a : Addr) (pn : List (Addr × Obj)), PSs (X.suite a pn) (b₀ :: suite) ts) (r : HdT X hds l) :
      HdT X (.ExceptHandler (some (.Name x np)) none (b₀ :: suite) pos' :: hds) ((c, none, ts) :: l)
  | as {x n : Str} {c : Value} {i : Nat} {ts : TS} {b₀ : Stmt} {suite : List Stmt} {np pos' : Pos} {hds : List ExceptHandler} {l : List (Value × Option Nat × TS)} (hc : Names X x c) (hi : X.N[i]? = some n) (hln : X.env.kindOf n = some .local)
      (hsu : ∀ (a : Addr) (pn : List (Addr × Obj)), PSs (X.suite a pn) (b₀ :: suite) ts) (r : HdT X hds l) :
      HdT X (.ExceptHandler (some (.Name x np)) (some n) (b₀ :: suite) pos' :: hds) ((c, some i, ts) :: l)
section
variable {X : Cx} {body : List Stmt} {h₀ : ExceptHandler} {hds : List ExceptHandler} {l : List (Value × Option Nat × TS)} {pos : Pos} {tb : WX → TS} {Wout : WX}
theorem ps_tryT (hs : X.stack = X.env :: X.outer) (hf : X.env.frame = some X.env.locals) (hex : X.ex = []) (hN : X.N.Nodup) (tk : Takes X Wout)
    (hb : ∀ (W : WX) (pn : List (Addr × Obj)) (xe : Value → Shared → Prop), Takes (X.tr pn xe) W → PassesOwn (model X.prog X.w) X.A X.env xe → PSs (X.tr pn xe) body (tb W))
    (hh : HdT X (h₀ :: hds) l) : PS X (.Try body (h₀ :: hds) [] [] pos) (fun D σ H => tb (wT X.K Wout D l) D σ H) := by
  refine ⟨fun pins s σ H D I h => ?_⟩
  have ok := I.ok
  have hfr : X.A.frames = some (X.env :: X.outer) := by rw [ok.frames, hs]
  refine wpAny_Try_except ?_
  refine wpAny_mono ((hb (wT X.K Wout D l) (X.pn ++ pins) (fun e s₁ => wpAny (model X.prog X.w) X.A (noteFrame e X.env) (fun _ s₂ => wpAny (model X.prog X.w) X.A (setFlight e none) (fun _ s₃ =>
    wpAny (model X.prog X.w) X.A (handleBy e X.env (h₀ :: hds)) (SP X pins D) X.xe s₃) X.xe s₂) X.xe s₁) (fun u s' xx => ?_) PassesOwn.looking).run [] s σ H D (I.toTry _) h) (fun f s1 hsp => ?_) (fun e s1 he => he)
  · -- the catch
    obtain ⟨a, B, sI, pins', σ', H', cls, d, rfl, J', nb, up, sky, na, os, ag, w⟩ := xx
    have J : Inv X pins σ' H' sI := J'.ofTry ok
    have sky' : Sky B (X.env :: X.outer) a (Zc cls d) X.env.locals s'.heap := by rw [← hs]; exact sky
    show wpAny (model X.prog X.w) X.A (noteFrame (.ref a) X.env) _ _ _
    refine Sky.land Zc.steady hfr hf sky' fun h3 fl3 up3 => ?_
    have J3 : Inv X pins σ' H' { s' with heap := h3 } := J.landed nb fl3.1 (up.trans up3) os ag
    obtain ⟨oe3, vs3, he3, hz3, hd3⟩ := fl3.there
    have notFr : ∀ {h : Heap} {o : Obj} {vs : Array Value}, h.FunFrames B (X.env :: X.outer) → h.get? a = some o → o.data = .fields vs → a ∉ frs (X.env :: X.outer) := fun {h o vs} ff e dd hm => by
      obtain ⟨_, o', e', hnf⟩ := ff.mem hm
      rw [e] at e'; cases e'
      exact hnf _ dd
    have nfr := notFr fl3.2.2.1 he3 hd3
    have nL : a ≠ X.env.locals := fun z => nfr (List.mem_filterMap.mpr ⟨X.env, List.mem_cons_self, by rw [hf, z]⟩)
    have nF : a ∉ X.fs := fun hm => by
      obtain ⟨e, he, q⟩ := List.mem_filterMap.mp hm
      exact nfr (List.mem_filterMap.mpr ⟨e, List.mem_cons_of_mem _ he, q⟩)
    have Ba : B.get? a = none := fl3.2.1
    have n0 : ∀ o, X.s_0.heap.get? a = some o → X.H_0 a ≠ none := fun o e n => by
      have z := nb a o (J.base.keep a o e n nF (by rw [hex]; exact fun z => nomatch z)) (by rw [hs]; exact nfr)
      rw [Ba] at z; cases z
    have np : ∀ p ∈ X.pn ++ pins, p.1 ≠ a := fun p hp e => by
      obtain ⟨q1, _, q3, q4, _⟩ := J.pin p hp
      have z := nb p.1 p.2 q1 (fun hm => by
        rcases List.mem_cons.mp (J.stkSub p.1 hm) with z | z
        · exact q3 z
        · exact q4 z)
      rw [e, Ba] at z; cases z
    have S3 := J3.suite he3 hd3 na nL nF
    have go : ∀ {hds' : List ExceptHandler} {l' : List (Value × Option Nat × TS)}, HdT X hds' l' → wT X.K Wout D l' cls d σ' H' →
        wpAny (model X.prog X.w) X.A (handleBy (.ref a) X.env hds') (SP X pins D) X.xe { s' with heap := h3 } := by
      intro hds' l' hk
      have LT : PySem.W.Looks (model X.prog X.w) h3 (typeOf (.ref a)) cls := fun A Q E s k q => wpAny_typeOf_ref (k _ _ he3) (by rw [hz3.1]; exact q)
      have test : ∀ {x : Str} {c : Value} {np : Pos} {Q : Value → Shared → Prop} {E : Value → Shared → Prop}, Names X x c → Q c { s' with heap := h3 } → wpAny (model X.prog X.w) (X.A.mark (some (.ref a))) (eval (.Name x np) X.env) Q E { s' with heap := h3 } := fun {x c np Q E} hc q => by
        obtain ⟨hg, hdbg, hm | ⟨hm, hv, hnn⟩⟩ := hc
        · exact ld_glob (X := X.suite a ((a, oe3) :: (X.pn ++ pins))) S3 hg hm q hdbg
        · exact ld_blt (X := X.suite a ((a, oe3) :: (X.pn ++ pins))) S3 hg hm hv q hnn hdbg
      have track : ∀ {h4 : Heap}, HandSPX.FlyingZ B (X.env :: X.outer) a (Zc cls d) h4 → h3.UpToSlots h4 → Inv X pins σ' (upd H' a (exT a cls d)) { s' with heap := h4 } := fun {h4} fl4 up4 => by
        have J4 : Inv X pins σ' H' { s' with heap := h4 } := J.landed nb fl4.1 ((up.trans up3).trans up4) os ag
        obtain ⟨oe4, vs4, he4, hz4, hd4⟩ := fl4.there
        exact inv_track J4 he4 hz4 hd4 na nL n0 np
      induction hk with
      | nil =>
        intro w
        refine wpAny_handleBy_nil ?_
        obtain ⟨k1, k2, k3, oe, vs, T, oT, ts', he, hz, hd, h1, hr⟩ := id fl3
        unfold PySem.passOn
        refine wpAny_bind (wpAny_field he hd h1 ?_)
        rw [if_neg (show ¬ ((Value.ref T == Value.none) = true) from by simp)]
        have fin : wpAny (model X.prog X.w) X.A (setFlight (.ref a) X.env.frame) (fun _ s4 => wpAny (model X.prog X.w) X.A (throw (.ref a) : Sem Flow) (SP X pins D) X.xe s4) X.xe { s' with heap := h3 } := by
          rw [hf]
          refine HandSPX.setFlight_upZ fl3 fun h4 hh4 up4 => wpAny_throw (tk _ _ ?_)
          exact ⟨a, B, sI, pins, σ', H', cls, d, rfl, J, nb, (up.trans up3).trans up4, .inr (.inr (by rw [hs]; exact hh4)), na, os, ag, w⟩
        first
          | exact wpAny_bind (wpAny_pure (wpAny_bind fin))
          | exact wpAny_bind fin
      | @no x c ts b₀ suite np pos' hds2 l2 hc hsu r ih =>
        intro w
        obtain ⟨b, hb1, hyes, hno⟩ := w
        refine wpAny_handleBy_cons (codeAny_handlers_test ?_) (by intro q; cases q)
        have LM := PySem.W.exm_one (M := model X.prog X.w) (J3.kIn) LT hb1
        refine test hc (LM.here ?_)
        cases b with
        | true =>
          refine codeAny_handlers_suite ?_
          refine HandSPX.lands_againZ fl3 fun h4 fl4 up4 => ?_
          have S4 := inv_suite (track fl4 up4) a
          refine wpAny_mono ((hsu a (X.pn ++ pins)).run [] _ _ _ _ S4 (hyes rfl a na)) (fun f s6 hsp => ?_) (fun _ _ z => False.elim z)
          cases f with
          | next =>
            obtain ⟨σ6, H6, S6, q6⟩ := hsp
            exact ⟨_, _, inv_unsuite S6 ok, q6⟩
          | brk =>
            obtain ⟨σ6, H6, S6, q6⟩ := hsp
            exact ⟨_, _, inv_unsuite S6 ok, q6⟩
          | cont =>
            obtain ⟨σ6, H6, S6, q6⟩ := hsp
            exact ⟨_, _, inv_unsuite S6 ok, q6⟩
          | ret u =>
            obtain ⟨v6, σ6, H6, S6, r6, q6⟩ := hsp
            exact ⟨_, _, _, inv_unsuite S6 ok, r6, q6⟩
        | false =>
          show wpAny _ X.A (handleBy (.ref a) X.env hds2) _ _ _
          exact ih (hno rfl)
      | @as x n c i ts b₀ suite np pos' hds2 l2 hc hi hln hsu r ih =>
        intro w
        have hloc : Loc X.env.scope n := .inl hln
        obtain ⟨b, hb1, hyes, hno⟩ := w
        refine wpAny_handleBy_cons (codeAny_handlers_test ?_) (by intro q; cases q)
        have LM := PySem.W.exm_one (M := model X.prog X.w) (J3.kIn) LT hb1
        refine test hc (LM.here ?_)
        cases b with
        | true =>
          refine codeAny_handlers_suite_as ?_
          refine HandSPX.lands_againZ fl3 fun h4 fl4 up4 => ?_
          have S4 := inv_suite (track fl4 up4) a
          refine store_ok (X := X.suite a (X.pn ++ pins)) (v := .ref a) S4 hN hi hloc rfl (fun s5 S5 => ?_) (.inr hln)
          refine wpAny_mono ((hsu a (X.pn ++ pins)).run [] s5 _ _ _ S5 (hyes rfl a na)) (fun f s6 hsp => ?_) (fun _ _ z => False.elim z)
          have end_ : ∀ {σ6 : L2.St} {H6 : Hp} {Q : Shared → Prop}, Inv (X.suite a (X.pn ++ pins)) [] σ6 H6 s6 → (∀ s7, Inv X pins (σ6.set i none) H6 s7 → Q s7) →
              wpAny (model X.prog X.w) X.A (do bindName X.env n .none; unbindBehindTheSuite X.env n pos') (fun _ s7 => Q s7) X.xe s6 := fun {σ6 H6 Q} S6 hq => gone_ok (inv_unsuite S6 ok) hN hi hln hq
          cases f with
          | next =>
            obtain ⟨σ6, H6, S6, q6⟩ := hsp
            exact end_ S6 fun s7 J7 => ⟨_, _, J7, q6⟩
          | brk =>
            obtain ⟨σ6, H6, S6, q6⟩ := hsp
            exact end_ S6 fun s7 J7 => ⟨_, _, J7, q6⟩
          | cont =>
            obtain ⟨σ6, H6, S6, q6⟩ := hsp
            exact end_ S6 fun s7 J7 => ⟨_, _, J7, q6⟩
          | ret u =>
            obtain ⟨v6, σ6, H6, S6, r6, q6⟩ := hsp
            exact end_ S6 fun s7 J7 => ⟨_, _, _, J7, r6, q6⟩
        | false =>
          show wpAny _ X.A (handleBy (.ref a) X.env hds2) _ _ _
          exact ih (hno rfl)
    exact go hh w
  · cases f with
    | next =>
      obtain ⟨σ', H', J', q⟩ := hsp
      exact wpAny_execs_nil ⟨σ', H', J'.ofTry ok, q⟩
    | brk =>
      obtain ⟨σ', H', J', q⟩ := hsp
      exact ⟨σ', H', J'.ofTry ok, q⟩
    | cont =>
      obtain ⟨σ', H', J', q⟩ := hsp
      exact ⟨σ', H', J'.ofTry ok, q⟩
    | ret u =>
      obtain ⟨v, σ', H', J', r, q⟩ := hsp
      exact ⟨v, σ', H', J'.ofTry ok, r, q⟩
end
end Z
namespace Z
open L2 PySem PySem.Spec PyProof.Rows
open Evl (Ex ex_l ex_t ex_rd fresh_back)
variable {Wx : WX}
structure OutX (K : Fg) (F H : Hp) (a : Addr) (fu : Option Nat) (fu' : Option Nat) (F' H' : Hp) : Prop where
  f : Ex F F'
  s : Ex F' H'
  keep : ∀ b o, (fu ≠ none → b ≠ a) → NT o → H b = some o → H' b = some o
  new : ∀ b, F' b ≠ none → F b ≠ none ∨ H b = none
  src : fu ≠ none → ∃ n, fu' = some n ∧ F' a = none ∧ SrcAt H' a n
  tab : TbS H H'
  tk : TabK K F' H'
theorem OutX.out {K : Fg} {F H : Hp} {a : Addr} {fu fu' : Option Nat} {F' H' : Hp} (o : OutX K F H a fu fu' F' H') : Out K F H a fu fu' F' H' .non (.val .none) := ⟨o.f, o.s, o.keep, o.new, o.src, Rp.non, o.tab, o.tk⟩
def liftX (K : Fg) (np : Nat) (fs : FSp) : Sp := fun vs H Q E => ∃ F a rs fu post, Ex F H ∧ Tm K F a fu vs rs ∧ vs.length = np ∧ (∀ n, fu = some n → F a = none ∧ SrcAt H a n) ∧ TabK K F H ∧ fs rs fu post ∧
  (∀ r fu' v H' F', post r fu' → Out K F H a fu fu' F' H' v r → Q v H') ∧
  ∀ nm z fu' cls dd H' F', post (.exc nm z) fu' → OutX K F H a fu fu' F' H' → XvOk K F' cls dd nm z → E cls dd H'
theorem liftX_len {K : Fg} {np : Nat} {fs : FSp} (vs : List V) (H : Hp) (Q : VK) (E : XK) (h : liftX K np fs vs H Q E) : vs.length = np := by
  obtain ⟨_, _, _, _, _, _, _, h, _⟩ := h
  exact h
/-- an expression that may raise: it gives what a def gives -/
abbrev DX := Gs → (Rr → Gs → Prop) → Prop
def upX (K : Fg) (Wx : WX) (t : DX) : TE := fun σ H Q => ∃ c g tv tr F a post, Sta K c g σ H tv tr F a ∧ t g post ∧
  (∀ z g' v H' F' a', post (.val z) g' → Sta K c g' σ H' (v :: tv) (.val z :: tr) F' a' → Q v H') ∧
  (∀ ds g' v H' F' a', post (.own ds) g' → Sta K c g' σ H' tv tr F' a' → NewL K c g' σ H' F' a' v ds → Q v H') ∧
  ∀ nm z g' H' F' a' cls dd, post (.exc nm z) g' → Sta K c g' σ H' tv tr F' a' → XvOk K F' cls dd nm z → Wx cls dd σ H'
def dCallX (np : Nat) (fs : FSp) (ta : DA) : DX := fun g Q => ta g fun rs g1 => rs.length = np ∧ match hasSrc rs with
  | true => fs rs g1.fu fun r fu' => Q r { g1 with fu := fu' }
  | false => fs rs none fun r _ => Q r g1
section
variable {X : Cx} {k : Nat} {f : Addr} {fd : FuncData} {ps : List Str} {fs fs2 : FSp} {x : Str} {p pos : Pos} {e : Expr} {es : List Expr} {tr : DA} {np : Nat} {CX : CXT} {sp : Sp} {E : L2.St → XK} {t : TA}
theorem pe_fnS (F : Fn X.prog X.w X.K X.mg X.base CX k f fd ps sp) (hr : Room k X.A) (hgd : X.A.guards = some []) (hg : Gl X x) (hm : X.mg x = some (.ref f)) (hk : PySem.W.keepIn X.K (.ref f) = true) (hb : Binds X.K fd ps []) (hx : ∀ σ, PassesAt CX X σ (E σ))
    (ha : PA X (e :: es) t) (hdb : (x == ("__debug__" : Str)) = false := by decide) (he : starEach (e :: es) X.env = (false, eval e X.env) :: starEach es X.env := by rfl) (hpl : (backTo pos (starEach es X.env)).any (·.1) = false := by rfl) :
    PE X (.Call (.Name x p) (e :: es) [] pos) (tCallS sp E t) := by
  refine ⟨fun pins s σ H Q I h => ?_⟩
  refine wpAny_Call_Name_kw (ld_glob I hg hm ?_ hdb)
  refine PySem.W.callWith_K (h₀ := X.base) I.ok.mod.kin hk (thn (ha.run pos pins s σ H _ I h) fun us s1 ⟨vs, H1, I1, r, q⟩ => ⟨I1.kIn, ?_⟩) he hpl
  have hl : us.length = ps.length := by rw [← r.length]; exact F.len _ _ _ _ q
  have b := hb s1 us I1.kIn (by rw [List.append_nil]; exact hl)
  rw [List.append_nil] at b
  refine wpAny_call (codeAny_mono (F.run X.A X.stack s1 H1 ⟨us, []⟩ us vs Q (E σ) hr hgd I1.env0 b r q) fun r s' hq => ?_)
  cases r with
  | error e => exact hx σ pins H1 s1 e s' I1 hq
  | ok fl =>
    cases fl with
    | ret u => exact I1.after hq
    | next => exact False.elim hq
    | brk => exact False.elim hq
    | cont => exact False.elim hq
theorem liftX_core : ∀ σ H Q, upX X.K Wx (dCallX np fs tr) σ H Q → tCallS (liftX X.K np fs) (WE Wx) (upA X.K tr) σ H Q := fun σ H Q q => by
  obtain ⟨c, g, tv, tr, F, ad, post, s, t, k1, k2, k3⟩ := q
  refine ⟨c, g, tv, tr, F, ad, _, s, t, fun rs g1 vs H1 F1 a1 t1 s1 hl => ?_⟩
  obtain ⟨hn, t1⟩ := t1
  rw [← hl] at hn
  obtain ⟨m1, m2⟩ := s1.tmp.args hl
  have s2 := s1.pop m2
  cases q : hasSrc rs with
  | true =>
    rw [q] at t1
    have hf := m1.fu_ne q
    refine ⟨F1, a1, rs, g1.fu, _, s1.eh, m1, hn, fun n h => ⟨(s1.src n h).1, (s1.src n h).2.2⟩, s1.tabk, t1, fun r fu' v H' F' hp o => ?_, fun nm z fu' cls dd H' F' hp o ox => ?_⟩
    · have s3 := s2.after1 hf o
      cases r with
      | val d => exact k1 _ _ v H' F' a1 hp (s3.push (r := .val d) o.rep)
      | exc _ _ => exact o.rep.elim
      | own ds => exact k2 _ _ v H' F' a1 hp s3 (NewL.of (g' := { g1 with fu := fu' }) s2 rfl (fun _ => hf) o.rep)
    · exact k3 nm z _ H' F' a1 cls dd hp (s2.after1 hf o.out) ox
  | false =>
    rw [q] at t1
    refine ⟨F1, a1, rs, none, _, s1.eh, m1.noSrc q, hn, fun n h => by (cases h), s1.tabk, t1, fun r fu' v H' F' hp o => ?_, fun nm z fu' cls dd H' F' hp o ox => ?_⟩
    · have s3 := s2.after0 o
      cases r with
      | val d => exact k1 _ _ v H' F' a1 hp (s3.push (r := .val d) o.rep)
      | exc _ _ => exact o.rep.elim
      | own ds => exact k2 _ _ v H' F' a1 hp s3 (NewL.of s2 rfl id o.rep)
    · exact k3 nm z _ H' F' a1 cls dd hp (s2.after0 o.out) ox
theorem x_call (tk : Takes X Wx) (G : Fn X.prog X.w X.K X.mg X.base (L2.CX X.prog X.w) k f fd ps (liftX X.K np fs)) (hr : Room k X.A) (hgd : X.A.guards = some []) (hg : Gl X x) (hm : X.mg x = some (.ref f)) (hk : PySem.W.keepIn X.K (.ref f) = true) (hb : Binds X.K fd ps [])
    (ha : PA X (e :: es) (upA X.K tr)) (hdb : (x == ("__debug__" : Str)) = false := by decide) (he : starEach (e :: es) X.env = (false, eval e X.env) :: starEach es X.env := by rfl) (hpl : (backTo pos (starEach es X.env)).any (·.1) = false := by rfl) :
    PE X (.Call (.Name x p) (e :: es) [] pos) (upX X.K Wx (dCallX np fs tr)) := pe_to (pe_fnS G hr hgd hg hm hk hb (fun σ => passAt tk σ) ha hdb he hpl) liftX_core
end
/-- the def's promise where it doesn't raise, and where it does -/
def orF (fs fs2 : FSp) : FSp := fun rs fu post => fs rs fu post ∨ fs2 rs fu post
theorem fn_orX {P : Program} {w : World} {K : Fg} {mg : Str → Option Value} {base : Heap} {k np : Nat} {f : Addr} {fd : FuncData} {ps : List Str} {fs fs2 : FSp} (A : Fn P w K mg base CX0 k f fd ps (lift K np fs)) (B : Fn P w K mg base (L2.CX P w) k f fd ps (liftX K np fs2)) :
    Fn P w K mg base (L2.CX P w) k f fd ps (liftX K np (orF fs fs2)) := by
  refine ⟨fun vs H Q E h => ?_, fun A' outer s H args us vs Q E hr hg e0 hb r h => ?_⟩
  · obtain ⟨F, a, rs, fu, post, e, t, hl, hs, tk, hf | hf, hq, hx⟩ := h
    · exact A.len vs H Q E ⟨F, a, rs, fu, post, e, t, hl, hs, tk, hf, hq⟩
    · exact B.len vs H Q E ⟨F, a, rs, fu, post, e, t, hl, hs, tk, hf, hq, hx⟩
  · obtain ⟨F, a, rs, fu, post, e, t, hl, hs, tk, hf | hf, hq, hx⟩ := h
    · refine codeAny_mono (A.run A' outer s H args us vs Q E hr hg e0 hb r ⟨F, a, rs, fu, post, e, t, hl, hs, tk, hf, hq⟩) fun r s' h => ?_
      match r, h with
      | .error _, h => exact False.elim h
      | .ok (.ret _), h => exact h
      | .ok .next, h => exact False.elim h
      | .ok .brk, h => exact False.elim h
      | .ok .cont, h => exact False.elim h
    · exact B.run A' outer s H args us vs Q E hr hg e0 hb r ⟨F, a, rs, fu, post, e, t, hl, hs, tk, hf, hq, hx⟩
def dDropX (t : DX) : DS := fun d g => t g fun r g1 => match r with
  | .exc nm z => d.rt (.exc nm z) g1
  | _ => d.nx g1
def dAsgX (i : Nat) (t : DX) : DS := fun d g => t g fun r g1 => match r with
  | .val z => d.nx (g1.set i (.val z))
  | .own ds => d.nx (g1.set i (.own ds))
  | .exc nm z => d.rt (.exc nm z) g1
section
variable {X : Cx} {e a b : Expr} {t : DX} {pos : Pos}
theorem s_exprX (he : PE X e (upX X.K Wx t)) (h1 : swapsWith e none pos.line X.env = pure false := by rfl) : PS X (.Expr e pos) (upS X.K Wx (dDropX t)) := ps_to (ps_expr he h1) fun D σ H q => by
  obtain ⟨c, g, tv, tr, F, a, d, s, hn, t, k⟩ := q
  exact ⟨c, g, tv, tr, F, a, _, s, t, fun z g1 v H1 F1 a1 t1 s1 => k.nx g1 σ H1 F1 a1 t1 s1.pop1, fun ds g1 v H1 F1 a1 t1 s1 n1 => k.nx g1 σ H1 F1 a1 t1 s1, fun nm z g1 H1 F1 a1 cls dd t1 s1 ox => k.rx nm z g1 σ H1 F1 a1 cls dd t1 s1 ox⟩
theorem s_setX {i : Nat} {x : Str} {pos' : Pos} (hN : X.N.Nodup) (hi : X.N[i]? = some x) (hx : L2.Loc X.env.scope x) (he : PE X e (upX X.K Wx t)) (h1 : swapsWith e (some (.Name x pos')) pos.line X.env = pure false := by rfl)
    (hf : X.fn x = true ∨ X.env.scope.names.lookup x = some .local := by first | exact .inl rfl | exact .inr rfl) : PS X (.Assign [.Name x pos'] e pos) (upS X.K Wx (dAsgX i t)) := ps_to (ps_set hN hi hx he h1 hf) fun D σ H q => by
  obtain ⟨c, g, tv, tr, F, a, d, s, hn, t, k⟩ := q
  exact ⟨c, g, tv, tr, F, a, _, s, t, fun z g1 v H1 F1 a1 t1 s1 => k.nx _ _ H1 F1 a1 t1 (Sta.set (r := .val z) s1 i), fun ds g1 v H1 F1 a1 t1 s1 n1 => k.nx _ _ H1 F1 a1 t1 (s1.setOwn n1 i), fun nm z g1 H1 F1 a1 cls dd t1 s1 ox => k.rx nm z g1 σ H1 F1 a1 cls dd t1 s1 ox⟩
end
def dXval (xs : List Str) (te : DE) : DE := fun g Q => te g fun r g1 => match r with
  | .ob (.exc nm (some z)) => nm ∈ xs ∧ Q (.val z) g1
  | _ => False
/-- what the text must have for the field of a caught exception -/
def XvC (K : Fg) (nm : Str) : Prop := ∃ C : Addr, PySem.W.nsIn K mainGlobals nm = some (some (.ref C)) ∧ XfC K C ∧ PySem.W.findIn K (.ref C) "value" = some none
section
variable {X : Cx} {e : Expr} {te : TE} {pos : Pos} {n : Str}
def tXfT (K : Fg) (f : Str) (te : TE) : TE := fun σ H Q => te σ H fun x H1 => ∃ (a C dd : Addr) (fs : List (Str × V)) (v : V), x = .ref a ∧ H1 a = some (exT a (.ref C) (some dd)) ∧ XfC K C ∧ PySem.W.findIn K (.ref C) f = some none ∧ H1 dd = some (.xd fs) ∧ fs.lookup f = some v ∧ Q v H1
theorem pe_xfT (he : PE X e te) (hb : attributeBase e n X.env (eval e X.env) = eval e X.env := by rfl) : PE X (.Attribute e n pos) (tXfT X.K n te) := by
  refine ⟨fun pins s σ H Q I h => ?_⟩
  refine attr_of hb (thn (he.run pins s σ H _ I h) fun u s1 hh => ?_)
  obtain ⟨x, H1, I1, rx, a, C, dd, fs, v, ex, ha, T, hno, ed, l, q⟩ := hh
  subst ex
  obtain rfl : u = Value.ref a := rx
  obtain ⟨oe, vs, he, hz, hd⟩ := exT_at I1.hok ha
  have hx : ObjOk X.prog X.w H1 s1.heap dd (.xd fs) := I1.hok dd _ ed
  obtain ⟨mA, hns, hr⟩ := hx
  obtain ⟨od, ho, hl⟩ := lookIn_ns hns
  obtain ⟨u, hu, ru⟩ := RelO.some_of (v := v) (o := mA n) (by rw [← l]; exact hr n)
  have J : PySem.W.InstAt s1.heap a oe C (some od) := ⟨he, hz.1, by unfold PySem.W.notCls; rw [hd] <;> rfl, by rw [hz.2]; exact ho⟩
  exact HandSPX.exc_get I1.kIn J T.ga T.gg T.exC (PySem.W.findObj_own T.hdC hno rfl (by rw [hl, hu])) (handed_of ru) ⟨v, H1, I1.tok _, ru, q⟩
theorem e_xval {ta : DE} {xs : List Str} (hxs : ∀ nm ∈ xs, XvC X.K nm) (he : PE X e (up X.K ta)) (hb : attributeBase e "value" X.env (eval e X.env) = eval e X.env := by rfl) : PE X (.Attribute e "value" pos) (up X.K (dXval xs ta)) := pe_to (pe_xfT he hb) fun σ H Q q => by
  obtain ⟨c, g, tv, tr, F, a, post, s, t, k⟩ := q
  refine ⟨c, g, tv, tr, F, a, _, s, t, fun r g1 v H1 F1 a1 t1 s1 => ?_⟩
  split at t1
  · rename_i nm z
    obtain ⟨ax, cls, dd, rfl, hF, C, x, u, rfl, hns, rfl, hx, rz⟩ := id s1.top
    obtain ⟨C', hns', T, hno⟩ := hxs nm t1.1
    rw [hns] at hns'
    cases hns'
    exact ⟨ax, C, x, _, u, rfl, s1.eh _ _ hF, T, hno, s1.eh _ _ hx, by simp [List.lookup], k _ g1 u H1 F1 a1 t1.2 (s1.pop1.push (r := .val z) rz)⟩
  · exact t1.elim
end
/-- the program's own exceptions: all straight below the base -/
def xsub (nm c : Str) : Bool := decide (nm = c) || decide (c = "RoundingError") || decide (c = "ValueError")
def Gs.unset (g : Gs) (i : Nat) : Gs := { g with sl := g.sl.set i none }
def dAs (d : DEnds) : Option Nat → DEnds
  | none => d
  | some i => { nx := fun g => d.nx (g.unset i), rt := d.rt, bk := fun g => d.bk (g.unset i), ct := fun g => d.ct (g.unset i) }
def gAs (g : Gs) (nm : Str) (z : Option Da) : Option Nat → Gs
  | none => g
  | some i => g.set i (.ob (.exc nm z))
def dHand : List (Str × Option Nat × DS) → DEnds → Str → Option Da → Gs → Prop
  | [], d, nm, z, g => d.rt (.exc nm z) g
  | (c, i, ts) :: r, d, nm, z, g => (xsub nm c = true → ts (dAs d i) (gAs g nm z i)) ∧ (xsub nm c = false → dHand r d nm z g)
def dTry (xs : List Str) (tb : DS) (l : List (Str × Option Nat × DS)) : DS := fun d g => tb { d with rt := fun r g1 => match r with
  | .exc nm z => nm ∈ xs ∧ dHand l d nm z g1
  | .val x => d.rt (.val x) g1
  | .own ds => d.rt (.own ds) g1 } g
section
variable {K : Fg} {c : Con} {g : Gs} {σ : L2.St} {H F : Hp} {tv : List V} {tr : List Rv} {a : Addr}
theorem Sta.unset (s : Sta K c g σ H tv tr F a) (i : Nat) : Sta K c (g.unset i) (σ.set i none) H tv tr F a := by
  have key : ∀ {j : Nat} {sv : Sv}, (g.sl.set i none)[j]? = some (some sv) → j ≠ i ∧ g.sl[j]? = some (some sv) := fun {j sv} h => by
    rcases set_some h with ⟨_, _, e⟩ | h
    · cases e
    · exact h
  refine ⟨s.e0, s.eh, s.keep, s.new, s.ex, s.ow, s.src, s.tmp, ?_, fun j sv hj => ?_, fun j k ds es hjk hj hk => ?_, s.t0, s.tab⟩
  · show (σ.set i _).length = (g.sl.set i _).length
    rw [List.length_set, List.length_set]; exact s.len
  · obtain ⟨ne, e⟩ := key hj
    obtain ⟨v, w1, w2⟩ := s.slot j sv e
    exact ⟨v, by rw [List.getElem?_set_ne (Ne.symm ne)]; exact w1, w2⟩
  · obtain ⟨n1, e1⟩ := key hj
    obtain ⟨n2, e2⟩ := key hk
    rw [List.getElem?_set_ne (Ne.symm n1), List.getElem?_set_ne (Ne.symm n2)]
    exact s.dis j k ds es hjk e1 e2
end
/-- a clause names the class of c's name; every exception that may come is known to the clause -/
structure HdC (X : Cx) (xs : List Str) (x : Str) (C : Addr) : Prop where
  nm : Names X x (.ref C)
  ex : ∀ nm ∈ xs, ∃ D : Addr, PySem.W.nsIn X.K mainGlobals nm = some (some (.ref D)) ∧ PySem.W.exmOne X.K (.ref D) (.ref C) = some (xsub nm x)
inductive HdD (X : Cx) (xs : List Str) : List ExceptHandler → List (Str × Option Nat × DS) → Prop
  | nil : HdD X xs [] []
  | no {x : Str} {C : Addr} {ts : DS} {b₀ : Stmt} {suite : List Stmt} {np pos' : Pos} {hds : List ExceptHandler} {l : List (Str × Option Nat × DS)} (hc : HdC X xs x C)
      (hsu : ∀ (a : Addr) (pn : List (Addr × Obj)), PSs (X.suite a pn) (b₀ :: suite) (upS X.K W0 ts)) (r : HdD X xs hds l) :
      HdD X xs (.ExceptHandler (some (.Name x np)) none (b₀ :: suite) pos' :: hds) ((x, none, ts) :: l)
  | as {x n : Str} {C : Addr} {i : Nat} {ts : DS} {b₀ : Stmt} {suite : List Stmt} {np pos' : Pos} {hds : List ExceptHandler} {l : List (Str × Option Nat × DS)} (hc : HdC X xs x C) (hi : X.N[i]? = some n) (hln : X.env.kindOf n = some .local)
      (hsu : ∀ (a : Addr) (pn : List (Addr × Obj)), PSs (X.suite a pn) (b₀ :: suite) (upS X.K W0 ts)) (r : HdD X xs hds l) :
      HdD X xs (.ExceptHandler (some (.Name x np)) (some n) (b₀ :: suite) pos' :: hds) ((x, some i, ts) :: l)
section
variable {X : Cx} {xs : List Str} {body : List Stmt} {h₀ : ExceptHandler} {hds : List ExceptHandler} {l : List (Str × Option Nat × DS)} {pos : Pos} {tb : DS}
theorem hd_lift {hds : List ExceptHandler} {l : List (Str × Option Nat × DS)} (h : HdD X xs hds l) : ∃ l', HdT X hds l' ∧ ∀ (c : Con) (tv : List V) (tr : List Rv) (d : DEnds) (D : Ends), DD X.K Wx c tv tr d D → ∀ nm z g σ H F a cls dd, nm ∈ xs → hasSrc tr = false → dHand l d nm z g → Sta X.K c g σ H tv tr F a → XvOk X.K F cls dd nm z → wT X.K Wx D l' cls dd σ H := by
  have the : ∀ {F : Hp} {cls : Value} {dd : Option Addr} {nm : Str} {z : Option Da} {E : Addr}, XvOk X.K F cls dd nm z → PySem.W.nsIn X.K mainGlobals nm = some (some (.ref E)) → cls = .ref E := fun {F cls dd nm z E} ox hE => by
    cases z with
    | none =>
      obtain ⟨C, rfl, h, _⟩ := ox
      rw [hE] at h
      cases h
      rfl
    | some z =>
      obtain ⟨C, x, u, rfl, h, _⟩ := ox
      rw [hE] at h
      cases h
      rfl
  induction h with
  | nil => exact ⟨[], .nil, fun c tv tr d D k nm z g σ H F a cls dd _ _ t s ox => k.rx nm z g σ H F a cls dd t s ox⟩
  | @no x C ts b₀ suite np pos' hds l hc hsu r ih =>
    obtain ⟨l', h1, h2⟩ := ih
    refine ⟨_, .no hc.nm hsu h1, fun c tv tr d D k nm z g σ H F a cls dd hm hn t s ox => ?_⟩
    obtain ⟨E, hE, hb⟩ := hc.ex nm hm
    obtain rfl := the ox hE
    refine ⟨_, hb, fun e p hp => ?_, fun e => h2 c tv tr d D k nm z g σ H F a _ dd hm hn (t.2 e) s ox⟩
    have gr := Gr.new (o := exT p (.ref E) dd) s.eh hp
    exact ⟨c, g, tv, tr, _, a, d, s.grow gr, hn, t.1 e, k.nx, k.bk, k.ct, k.rv, k.ro, fun _ _ _ _ _ _ _ _ _ _ _ _ => True.intro⟩
  | @as x n C i ts b₀ suite np pos' hds l hc hi hln hsu r ih =>
    obtain ⟨l', h1, h2⟩ := ih
    refine ⟨_, .as hc.nm hi hln hsu h1, fun c tv tr d D k nm z g σ H F a cls dd hm hn t s ox => ?_⟩
    obtain ⟨E, hE, hb⟩ := hc.ex nm hm
    obtain rfl := the ox hE
    refine ⟨_, hb, fun e p hp => ?_, fun e => h2 c tv tr d D k nm z g σ H F a _ dd hm hn (t.2 e) s ox⟩
    have gr := Gr.new (o := exT p (.ref E) dd) s.eh hp
    have s1 := ((s.grow gr).push (v := .ref p) (r := .ob (.exc nm z)) ⟨p, _, dd, rfl, upd_same, ox.up gr.f⟩).set i
    exact ⟨c, _, tv, tr, _, a, _, s1, hn, t.1 e, fun g σ H F a h s => k.nx _ _ H F a h (s.unset i), fun g σ H F a h s => k.bk _ _ H F a h (s.unset i), fun g σ H F a h s => k.ct _ _ H F a h (s.unset i), k.rv, k.ro, fun _ _ _ _ _ _ _ _ _ _ _ _ => True.intro⟩
theorem s_try (hs : X.stack = X.env :: X.outer) (hf : X.env.frame = some X.env.locals) (hex : X.ex = []) (hN : X.N.Nodup) (tk : Takes X Wx)
    (hb : ∀ (W : WX) (pn : List (Addr × Obj)) (xe : Value → Shared → Prop), Takes (X.tr pn xe) W → PassesOwn (model X.prog X.w) X.A X.env xe → PSs (X.tr pn xe) body (upS X.K W tb))
    (hh : HdD X xs (h₀ :: hds) l) : PS X (.Try body (h₀ :: hds) [] [] pos) (upS X.K Wx (dTry xs tb l)) := by
  obtain ⟨l', h1, h2⟩ := hd_lift (Wx := Wx) hh
  refine ps_to (ps_tryT hs hf hex hN tk (tb := fun W => upS X.K W tb) hb h1) fun D σ H q => ?_
  obtain ⟨c, g, tv, tr, F, a, d, s, hn, t, k⟩ := q
  exact ⟨c, g, tv, tr, F, a, _, s, hn, t, k.nx, k.bk, k.ct, fun x g σ v H F a h s => k.rv x g σ v H F a h s, fun ds g σ v H F a h s n => k.ro ds g σ v H F a h s n, fun nm z g σ H F a cls dd h s ox => h2 c tv tr d D k nm z g σ H F a cls dd h.1 hn h.2 s ox⟩
end
/-- nothing raised -/
def WF : WX := fun _ _ _ _ => False
def rtN (post : Rr → Option Nat → Prop) : Rr → Gs → Prop := fun r g => match r with
  | .exc _ _ => False
  | .val x => post (.val x) g.fu
  | .own ds => post (.own ds) g.fu
section
variable {P : Program} {w : World} {K : Fg} {mg : Str → Option Value} {base : Heap} {CX : CXT}
theorem fin_out {F H : Hp} {a : Addr} {fu : Option Nat} {g : Gs} {σ : L2.St} {H' F' : Hp} {tv : List V} {tr : List Rv} {a' : Addr} (s : Sta K ⟨F, H, if fu = none then none else some a⟩ g σ H' tv tr F' a') : OutX K F H a fu g.fu F' H' := by
  refine ⟨s.e0, s.eh, fun b o hb hn h => s.keep b o (fun z => ?_) hn h, s.new, fun hf => ?_, s.tab, s.t0⟩
  · by_cases hf : fu = none
    · simp [hf] at z
    · simp [hf] at z
      exact hb hf z.symm
  · obtain ⟨e1, e2⟩ := s.ex a (if_neg hf)
    subst e1
    cases q : g.fu with
    | none => exact absurd q e2
    | some n => exact ⟨n, rfl, (s.src n q).1, (s.src n q).2.2⟩
theorem OutX.with {F H : Hp} {a : Addr} {fu fu' : Option Nat} {F' H' : Hp} {v : V} {r : Rr} (o : OutX K F H a fu fu' F' H') (h : RrOk K F' H H' v r) : Out K F H a fu fu' F' H' v r := ⟨o.f, o.s, o.keep, o.new, o.src, h, o.tab, o.tk⟩
/-- the def may raise -/
theorem fn_dataX {x qual : Str} {st : Stmt} {f : Addr} {fd : FuncData} {N ps : List Str} {k : Nat} {fs : FSp} (Fu : Fun K x qual st f fd) (S : FnScope N ps (defScope st)) (tb : DS)
    (hd : ∀ (cdv : Value) (A : Around) (outer : List Env) (s : Shared) (H : Hp) (E : XK), Room k (A.deeper (envOfC qual (defScope st) s.heap.objs.size f cdv)) → (A.deeper (envOfC qual (defScope st) s.heap.objs.size f cdv)).guards = some [] →
      Takes (cxOf (L2.CX P w) P w K mg base N qual (defScope st) f cdv A outer s H E) (fun cls d _ H => E cls d H) →
      PSs (cxOf (L2.CX P w) P w K mg base N qual (defScope st) f cdv A outer s H E) (defBody st) (upS K (fun cls d _ H => E cls d H) tb))
    (hb : ∀ rs fu post, rs.length = ps.length → fs rs fu post → tb ⟨fun g => post (.val .none) g.fu, fun r g => post r g.fu, fun _ => False, fun _ => False⟩ (ent N rs fu)) : Fn P w K mg base (L2.CX P w) (k + 1) f fd ps (liftX K ps.length fs) := by
  refine fn_by Fu S liftX_len fun cdv A outer s H vs Q E hr hg h => ⟨_, hd cdv A outer s H E hr hg (takes_of rfl rfl rfl rfl), ?_⟩
  obtain ⟨F, a, rs, fu, post, e, t, hl, hs, tk, hf, hq, hx⟩ := h
  have st0 := sta_ent (N := N) e t hs tk
  refine ⟨_, _, [], [], F, a, _, st0, rfl, hb rs fu post (by rw [← t.len]; exact hl) hf, ⟨fun g σ H' F' a' h s => ?_, fun g σ H' F' a' h s => h, fun g σ H' F' a' h s => h, fun x g σ v H' F' a' h s => ?_, fun ds g σ v H' F' a' h s n => ?_, fun nm z g σ H' F' a' cls dd h s ox => ?_⟩⟩
  · exact hq _ _ _ H' F' h ((fin_out s).with (r := .val .none) Rp.non)
  · exact hq _ _ _ H' F' h ((fin_out s).with (r := .val x) s.top)
  · obtain ⟨o, xs, q1, q2, q3, q4, q5, _⟩ := n.ex
    exact hq _ _ _ H' F' h ((fin_out s).with (r := .own ds) ⟨o, xs, q1, q3, q2, q4, q5⟩)
  · exact hx nm z _ cls dd H' F' h (fin_out s) ox
end
end Z
namespace Z
open L2 PySem PySem.Spec PyProof.Rows
open Evl (Ex ex_l ex_t ex_rd fresh_back)
open LamX (LamS lamEnv lamCx lam_start2 inv_table CodeO)
variable {Wx : WX}
/-- what a lambda's body may see: no own list, no source -/
def plainO : Option Sv → Option Sv
  | some (.own _) => none
  | some .src => none
  | x => x
def gLam (g : Gs) : Gs := ⟨g.sl.map plainO, none, true⟩
/-- the lambda as a def's promise -/
def lamF (t : DX) (g : Gs) : FSp := fun rs fu post => rs = [] ∧ fu = none ∧ t (gLam g) fun r _ => post r none
/-- x(lambda: t), R: the promise of x -/
def dLam (R : Kd → FSp → FSp) (t : DX) : DE := fun g Q => ∀ L : Kd, R L (lamF t g) [.ob L] none fun r _ => Q (rrv r) g
/-- a(), where a holds the lambda L -/
def dAct (L : Kd) (fA : FSp) : DX := fun g Q => g.sl[0]? = some (some (.ob L)) ∧ fA [] none fun r _ => Q r g
section
variable {K : Fg} {c : Con} {g : Gs} {σ : L2.St} {H H' F F' : Hp} {tv : List V} {tr : List Rv} {a a' : Addr}
theorem Sta.lam (s : Sta K c g σ H tv tr F a) (ef : Ex F F') (eh : Ex F' H') (tk : TabK K F' H') : Sta K ⟨F', H', none⟩ (gLam g) σ H' [] [] F' a' := by
  have back : ∀ {i : Nat} {sv : Sv}, (gLam g).sl[i]? = some (some sv) → g.sl[i]? = some (some sv) ∧ (∀ ds, sv ≠ .own ds) ∧ sv ≠ .src := fun {i sv} h => by
    have h' : (g.sl.map plainO)[i]? = some (some sv) := h
    rw [List.getElem?_map] at h'
    cases q : g.sl[i]? with
    | none => rw [q] at h'; cases h'
    | some x =>
      rw [q] at h'
      have h2 : plainO x = some sv := Option.some.inj h'
      cases x with
      | none => cases h2
      | some y =>
        cases y with
        | own ds => cases h2
        | src => cases h2
        | val d => cases h2; exact ⟨rfl, fun _ z => (by cases z), fun z => (by cases z)⟩
        | scr d => cases h2; exact ⟨rfl, fun _ z => (by cases z), fun z => (by cases z)⟩
        | ob d => cases h2; exact ⟨rfl, fun _ z => (by cases z), fun z => (by cases z)⟩
  refine ⟨Ex.refl _, eh, fun b o _ _ h => h, fun b h => .inl h, fun b h => (by cases h), fun _ => rfl, fun n h => (by cases h), .nil, ?_, fun i sv h => ?_, fun i j ds es _ h => absurd rfl ((back h).2.1 ds), tk, .refl⟩
  · show σ.length = (g.sl.map plainO).length
    rw [List.length_map]; exact s.len
  · obtain ⟨h1, h2, h3⟩ := back h
    obtain ⟨v, w1, w2⟩ := s.slot i sv h1
    refine ⟨v, w1, ?_⟩
    cases sv with
    | val d => exact Rp.up w2 ef
    | src => exact absurd rfl h3
    | scr ns => obtain ⟨b, z1, z2⟩ := w2; exact ⟨b, z1, ex_l ef z2⟩
    | ob k => exact ObOk.up ef w2
    | own ds => exact absurd rfl (h2 ds)
end
section
variable {X : Cx} {pins : List (Addr × Obj)} {σ : L2.St} {H : Hp} {s : Shared}
/-- the lambda is made; its code object is new, or the table has it -/
theorem lam_mk {c P : Addr} {q : Str} {params : Arguments} {body : Expr} {scope : Scope} {pos : Pos} {E : Value → Shared → Prop} {Q : Value → Shared → Prop} {F : Hp} (I : Inv X pins σ H s) (TB : LamX.TabB X.base X.mg c P) (hcode : X.env.code = .ref c)
    (hq : X.env.qual ++ "<lambda>" = q) (eh : Ex F H) (T : TabAt F H P q) (hdef : defaultsOf params X.env = ([], [])) (hfree : ∀ y ∈ scope.names, y.2 = .free → ∃ c, X.env.cells.lookup y.1 = some c)
    (h : ∀ (f c' : Addr) (pm ctv : Value) (H1 F1 : Hp) (s' : Shared), Inv X pins σ H1 s' → Ex F F1 → (∀ b o, b ≠ P → H b = some o → H1 b = some o) → Ex F1 H1 → (∀ b, F1 b ≠ none → F b ≠ none ∨ H b = none) → TbS H H1 → TabAt F1 H1 P q → F1 c' = some (CodeO c' q) →
      s'.heap.get? f = some (PySem.W.kla_obj "<lambda>" q params body scope (cloFrom X.env.cells scope.names []) pm c' ctv) → H1 f = none → f ∉ frs X.stack → Q (.ref f) s') :
    wpAny (model X.prog X.w) X.A (eval (.Lambda params body scope pos) X.env) Q E s := by
  subst hq
  obtain ⟨⟨ps, hP, ht, ha⟩, fP⟩ := T
  refine PySem.W.kla_eval hdef ?_
  have bP : s.heap.BuiltinsAt X.mg P := TB.bm.keeps I.bk
  have hP' : s.heap.get? P = some { cls := .none, data := .fields ps } := I.hok P _ hP
  have nofr : ∀ f, s.heap.objs.size ≤ f → f ∉ frs X.stack := fun f hf z => by
    rcases List.mem_cons.mp (I.stkSub _ z) with e | e
    · rw [e] at hf
      exact absurd I.lt (Nat.not_lt.mpr hf)
    · exact I.nofs hf e
  have al : ∀ (p' : Pos) (cv : Value) (c' : Addr), codeAmong p' (ps ++ #[rawInt pos.line, rawInt pos.col, .ref c']).toList = some cv → codeAmong p' ps.toList = some cv ∨ cv = .ref c' := fun p' cv c' h => by
    rw [show (ps ++ #[rawInt pos.line, rawInt pos.col, .ref c']).toList = ps.toList ++ [rawInt pos.line, rawInt pos.col, .ref c'] by simp] at h
    exact LamX.among_app _ ht h
  cases hc : codeAmong pos ps.toList with
  | some cv =>
    obtain ⟨c', rfl, hco⟩ := ha pos cv hc
    refine PySem.W.kla_makeFunctionHit (mg := X.mg) (c := c) (P := P) (ps := ps) (closure_ok hfree) I.ok.glob (I.mod.glob.keeps I.bk) hcode (TB.code.keeps I.bk) hP' ht hc bP fun ctv h' tk hx hsz => ?_
    exact h h'.objs.size c' ((X.mg "__name__").getD .none) ctv H F _ (I.kept fun b o e => Heap.get?_push_of_some _ (hx b o e)) (Ex.refl F) (fun _ _ _ e => e) eh (fun _ e => .inl e) .refl ⟨⟨ps, hP, ht, ha⟩, fP⟩ hco (Heap.get?_push_size _ rfl) (I.hok.fresh hsz) (nofr _ hsz)
  | none =>
    refine PySem.W.kla_makeFunction (mg := X.mg) (c := c) (P := P) (ps := ps) (closure_ok hfree) I.ok.glob (I.mod.glob.keeps I.bk) hcode (TB.code.keeps I.bk) hP' ht hc TB.gP bP fun c' ctv h' tk hx hge hlt hrec htb => ?_
    obtain ⟨c2, oc, vs, t, e2, hoc, hd, hv⟩ := hrec
    cases e2
    have nC : H c' = none := I.hok.fresh hge
    have fC : F c' = none := fresh_back eh nC
    have nPc : P ≠ c' := fun z => by rw [z, nC] at hP; cases hP
    have I1 := inv_table (t' := tk) (more := #[rawInt pos.line, rawInt pos.col, .ref c']) (h' := h'.push (PySem.W.kla_obj "<lambda>" (X.env.qual ++ "<lambda>") params body scope (cloFrom X.env.cells scope.names []) ((X.mg "__name__").getD .none) c' ctv)) I hP
      (fun b o hb e => Heap.get?_push_of_some _ (hx b o hb e)) (Heap.get?_push_of_some _ htb) hge ⟨oc, vs, t, Heap.get?_push_of_some _ hoc, hd, hv⟩
    have up1 : ∀ b o, b ≠ P → H b = some o → upd (upd H P (.tbl (ps ++ #[rawInt pos.line, rawInt pos.col, .ref c']))) c' (CodeO c' (X.env.qual ++ "<lambda>")) b = some o := fun b o nb e => by
      rw [upd_ne (fun z => by rw [z, nC] at e; cases e), upd_ne nb]; exact e
    have atP : upd (upd H P (.tbl (ps ++ #[rawInt pos.line, rawInt pos.col, .ref c']))) c' (CodeO c' (X.env.qual ++ "<lambda>")) P = some (.tbl (ps ++ #[rawInt pos.line, rawInt pos.col, .ref c'])) := by
      rw [upd_ne nPc, upd_same]
    have sz : s.heap.objs.size ≤ h'.objs.size := Nat.le_trans hge (Nat.le_of_lt hlt)
    refine h h'.objs.size c' ((X.mg "__name__").getD .none) ctv _ (upd F c' (CodeO c' (X.env.qual ++ "<lambda>"))) _ I1 (Ex.new fC) up1 (fun b o e => ?_) (fun b e => ?_) (fun b qs e => ?_) ⟨⟨_, atP, ?_, fun p' cv hcv => ?_⟩, ?_⟩ upd_same (Heap.get?_push_size _ rfl) ?_ (nofr _ sz)
    · by_cases hb : b = c'
      · subst hb
        rw [upd_same] at e ⊢
        exact e
      · rw [upd_ne hb] at e
        exact up1 b o (fun z => by rw [z, fP] at e; cases e) (eh b o e)
    · by_cases hb : b = c'
      · subst hb
        exact .inr nC
      · rw [upd_ne hb] at e
        exact .inl e
    · by_cases hb : b = P
      · subst hb
        exact ⟨_, atP⟩
      · exact ⟨qs, up1 b _ hb e⟩
    · rw [show (ps ++ #[rawInt pos.line, rawInt pos.col, .ref c']).toList = ps.toList ++ [rawInt pos.line, rawInt pos.col, .ref c'] by simp]
      exact PySem.TriplesOk_snoc _ _ _ _ ht
    · rcases al p' cv c' hcv with z | z
      · obtain ⟨c0, e1, e2⟩ := ha p' cv z
        exact ⟨c0, e1, Ex.new fC _ _ e2⟩
      · exact ⟨c', z, upd_same⟩
    · rw [upd_ne nPc]; exact fP
    · rw [upd_ne (Nat.ne_of_gt hlt), upd_ne (Nat.ne_of_gt (Nat.lt_of_lt_of_le (Heap.lt_size hP') sz))]
      exact I.hok.fresh sz
/-- a(), in the def that got the lambda -/
theorem x_act {Ng : List Str} {qg : Str} {sg : Scope} {gr f c' : Addr} {cdg pm ctv : Value} {params : Arguments} {body : Expr} {scope : Scope} {k : Nat} {a q : Str} {pn : List (Addr × Obj)} {xe : Value → Shared → Prop} {W : WX} {t : DX} {p1 p2 : Pos} {cc : Con} {g : Gs} {tv : List V} {tr : List Rv} {F : Hp} {ad : Addr} {CXg : CXT} {Eg : XK}
    (I : Inv X pins σ H s) (st : Sta X.K cc g σ H tv tr F ad) (L : LamS X.env.scope scope) (hq : X.env.qual ++ "<lambda>" = q) (hf : s.heap.get? f = some (PySem.W.kla_obj "<lambda>" q params body scope (cloFrom X.env.cells scope.names []) pm c' ctv)) (hfn : H f = none) (hfr : f ∉ frs X.stack)
    (hbind : bindArgs (PySem.W.kla_fn "<lambda>" q params body scope (cloFrom X.env.cells scope.names []) pm (.ref c') ctv) ⟨[], []⟩ = pure [])
    (tk : Takes ((cxOf CXg X.prog X.w X.K X.mg X.base Ng qg sg gr cdg X.A X.stack s H Eg).tr pn xe) W) (hr : Room (k + 1) (X.A.deeper (envOfC qg sg s.heap.objs.size gr cdg))) (hgd : X.A.guards = some [])
    (hbody : ∀ (A : Around) (outer : List Env) (s : Shared) (H : Hp) (E : XK), Room k (A.deeper (lamEnv X scope s.heap.objs.size f c')) → (A.deeper (lamEnv X scope s.heap.objs.size f c')).guards = some [] → PE (lamCx X A outer s H E scope f c') body (upX X.K (fun cls d _ H => E cls d H) t))
    (hN : Ng[0]? = some a) (hv : Vis sg a) (hd : (a == ("__debug__" : Str)) = false := by decide) (hcd : (a == ("__classdict__" : Str)) = false := by decide) :
    PE ((cxOf CXg X.prog X.w X.K X.mg X.base Ng qg sg gr cdg X.A X.stack s H Eg).tr pn xe) (.Call (.Name a p1) [] [] p2) (upX X.K W (dAct (.lam F f c' q) (lamF t g))) := by
  subst hq
  refine ⟨fun pinsZ sZ σZ HZ Q IZ h => ?_⟩
  obtain ⟨cz, gz, tvz, trz, FZ, az, postz, sz, ⟨hs0, _, _, ht⟩, k1, k2, k3⟩ := h
  obtain ⟨v0, w1, rfl, hco, eF⟩ := sz.slot 0 _ hs0
  have sl : Sta X.K ⟨FZ, HZ, none⟩ (gLam g) σ HZ [] [] FZ az := st.lam eF sz.eh sz.t0
  refine wpAny_Call_Name_kw (thn ((pe_var (pos := p1) (i := 0) hN hv hd hcd).run pinsZ sZ σZ HZ (fun v H1 => v = .ref f ∧ H1 = HZ) IZ ⟨.ref f, w1, rfl, rfl⟩) fun u s1 ⟨v, H1, I1, r1, q1⟩ => ?_)
  obtain ⟨rfl, rfl⟩ := q1
  obtain rfl : u = Value.ref f := r1
  have of1 : s1.heap.get? f = some (PySem.W.kla_obj "<lambda>" (X.env.qual ++ "<lambda>") params body scope (cloFrom X.env.cells scope.names []) pm c' ctv) := I1.base.keep f _ hf hfn hfr (fun z => nomatch (show f ∈ ([] : List Addr) from z))
  refine PySem.W.callWith_F0 ⟨_, _, _, _, of1⟩ ?_
  have un : Un (frs X.stack) [] H H1 s.heap s1.heap := I1.base
  obtain ⟨⟨oc, vs, tt, hoc, hdc, hvc⟩, _, _⟩ := I1.hok c' _ (sz.eh _ _ hco)
  have rc : codeAny (model X.prog X.w) (X.A.deeper (envOfC qg sg s.heap.objs.size gr cdg)) (.call (.ref f) ⟨[], []⟩) (CR (L2.CX X.prog X.w) (envOfC qg sg s.heap.objs.size gr cdg :: X.stack) X.prog X.w H1 s1 Q (WE W σZ)) s1 := by
    refine PySem.W.kla_callFunE hr.depth of1 rfl L.co L.gen rfl ⟨c', oc, vs, tt, rfl, hoc, hdc, hvc⟩ ?_
    rw [hbind]
    refine wpAny_pure (wpAny_newFunctionEnv (fun y hy => (L.own y hy).2) (fun y hy => absurd hy (by simp)) (fun h₁ hns hsb => ⟨I1.nolimit.fresh _ hsb, ?_⟩) L.kind)
    show codeAny _ _ (.expr body (lamEnv X scope s1.heap.objs.size f c')) _ _
    have kp : ∀ b o, s1.heap.get? b = some o → h₁.get? b = some o := fun b o e => hsb.extBut b o (Nat.ne_of_lt (Heap.lt_size e)) (Heap.get?_push_of_some _ e)
    have J : Inv (lamCx X (X.A.deeper (envOfC qg sg s.heap.objs.size gr cdg)) (envOfC qg sg s.heap.objs.size gr cdg :: X.stack) s1 H1 (WE W σZ) scope f c') [] σ H1 { s1 with heap := h₁, toks := s1.toks + ([] : List (Str × Value)).length } :=
      lam_start2 I L I1.env0 hr.hd un hns kp
    refine PySem.W.kla_codeExpr (wpAny_mono ((hbody _ _ s1 H1 _ (hr.deeper _) hgd).run [] _ _ H1 Q J ⟨⟨FZ, H1, none⟩, gLam g, [], [], FZ, az, _, sl, ht, fun z g' v H' F' a' hp s' => ?_, fun ds g' v H' F' a' hp s' n' => ?_, fun nm z g' H' F' a' cls dd hp s' ox => ?_⟩) (fun v s' hq => ?_) fun e s' hq => hq)
    · have o := (fin_out (fu := none) (a := az) s').with (r := .val z) (v := v) s'.top
      exact k1 z gz v H' F' az hp ((sz.after0 o).push (r := .val z) o.rep)
    · obtain ⟨o, xs, q1, q2, q3, q4, q5, _⟩ := n'.ex
      have o := (fin_out (fu := none) (a := az) s').with (r := .own ds) (v := v) ⟨o, xs, q1, q3, q2, q4, q5⟩
      exact k2 ds gz v H' F' az hp (sz.after0 o) (NewL.of sz rfl id o.rep)
    · exact k3 nm z gz H' F' az cls dd hp (sz.after0 (fin_out (fu := none) (a := az) s').out) ox
    · obtain ⟨w', H', J', rv, q⟩ := hq
      exact ⟨w', H', J'.os, J'.bare, J'.base, J'.hok, rv, q⟩
  have hx := passAt tk σZ
  refine wpAny_call (codeAny_mono rc fun r s' hq => ?_)
  match r, hq with
  | .error e, hq => exact hx pinsZ H1 s1 e s' I1 hq
  | .ok (.ret u), hq => exact I1.after hq
  | .ok .next, hq => exact False.elim hq
  | .ok .brk, hq => exact False.elim hq
  | .ok .cont, hq => exact False.elim hq
end
section
variable {X : Cx} {R : Kd → FSp → FSp} {t : DX}
/-- x(lambda: t) -/
theorem e_lam {x y a : Str} {st : Stmt} {fr c P : Addr} {fd : FuncData} {Nr : List Str} {br : Kd → FSp → DS} {k : Nat} {params : Arguments} {body : Expr} {scope : Scope} {p lpos pos : Pos}
    (Fu : Fun X.K x x st fr fd) (S : FnScope Nr [a] (defScope st)) (hNr : Nr[0]? = some a) (hva : Vis (defScope st) a) (hg : Gl X x) (hm : X.mg x = some (.ref fr)) (hb : Binds X.K fd [a] [])
    (hd : ∀ (L : Kd) (fA : FSp) (cdv : Value) (s : Shared) (H : Hp), Room (k + 1) (X.A.deeper (envOfC x (defScope st) s.heap.objs.size fr cdv)) → X.A.guards = some [] →
      (∀ (W : WX) (pn : List (Addr × Obj)) (xe : Value → Shared → Prop) (p1 p2 : Pos), Takes ((cxOf CX0 X.prog X.w X.K X.mg X.base Nr x (defScope st) fr cdv X.A X.stack s H C8.E0).tr pn xe) W →
        PE ((cxOf CX0 X.prog X.w X.K X.mg X.base Nr x (defScope st) fr cdv X.A X.stack s H C8.E0).tr pn xe) (.Call (.Name a p1) [] [] p2) (upX X.K W (dAct L fA))) →
      PSs (cxOf CX0 X.prog X.w X.K X.mg X.base Nr x (defScope st) fr cdv X.A X.stack s H C8.E0).nox (defBody st) (upS X.K WF (br L fA)))
    (hbp : ∀ (L : Kd) (fA : FSp) (post : Rr → Option Nat → Prop), R L fA [.ob L] none post → br L fA ⟨fun g => post (.val .none) g.fu, rtN post, fun _ => False, fun _ => False⟩ (ent Nr [.ob L] none))
    (hL : y ∈ LAM) (hne : ∀ y' c2 P2, y' ∈ LAM → PySem.W.tabIn X.K y' = some (c2, P2) → y' = y ∨ P2 ≠ P) (hT : PySem.W.tabIn X.K y = some (c, P)) (TB : TbB X.K X.mg X.base) (hcode : X.env.code = .ref c) (hq : X.env.qual ++ "<lambda>" = lamQ y)
    (hr : Room (k + 2) X.A) (hgd : X.A.guards = some []) (Ls : LamS X.env.scope scope) (hdef : defaultsOf params X.env = ([], []))
    (hbind : ∀ (q : Str) (cl : List (Str × Addr)) (pm cv ctv : Value), bindArgs (PySem.W.kla_fn "<lambda>" q params body scope cl pm cv ctv) ⟨[], []⟩ = pure [])
    (hbody : ∀ (A : Around) (outer : List Env) (s : Shared) (H : Hp) (E : XK) (f c' : Addr), Room k (A.deeper (lamEnv X scope s.heap.objs.size f c')) → (A.deeper (lamEnv X scope s.heap.objs.size f c')).guards = some [] → PE (lamCx X A outer s H E scope f c') body (upX X.K (fun cls d _ H => E cls d H) t))
    (hdb : (x == ("__debug__" : Str)) = false := by decide) (hd1 : (a == ("__debug__" : Str)) = false := by decide) (hcd : (a == ("__classdict__" : Str)) = false := by decide) :
    PE X (.Call (.Name x p) [.Lambda params body scope lpos] [] pos) (up X.K (dLam R t)) := by
  refine ⟨fun pins s σ H Q I q => ?_⟩
  obtain ⟨cc, g, tv, tr, F, ad, post, st0, tl, kk⟩ := q
  refine wpAny_Call_Name_kw (ld_glob I hg hm ?_ hdb)
  refine PySem.W.callWith_K (h₀ := X.base) I.ok.mod.kin Fu.kp ?_ (by rfl) (by rfl)
  show wpAny _ _ (spliced ((false, eval (.Lambda params body scope lpos) X.env) :: backTo pos (starEach [] X.env))) _ _ s
  refine Calls.spliced_cons (lam_mk I (TB y c P hL hT) hcode hq st0.eh (st0.t0 y c P hL hT) hdef (Ls.has I.ok) fun f c' pm ctv H1 F1 s1 I1 e1 e2 e3 e4 e5 e6 e7 hf hfn hfr => ?_)
  refine Calls.spliced_nil ⟨I1.kIn, ?_⟩
  obtain ⟨⟨ps0, hPs, _, _⟩, _⟩ := st0.t0 y c P hL hT
  have st1 : Sta X.K cc g σ H1 tv tr F1 ad := st0.growN e1 (fun b o n e => e2 b o (fun z => by rw [z, hPs] at e; cases e; exact n _ rfl) e) e3 e4 e5 fun y' c2 P2 w1 w2 => by
    rcases hne y' c2 P2 w1 w2 with rfl | ne
    · rw [hT] at w2
      cases w2
      exact e6
    · obtain ⟨⟨ps2, a1, a2, a3⟩, a4⟩ := st0.t0 y' c2 P2 w1 w2
      refine ⟨⟨ps2, e2 P2 _ ne a1, a2, fun pos cv hc => ?_⟩, ?_⟩
      · obtain ⟨c, z1, z2⟩ := a3 pos cv hc
        exact ⟨c, z1, e1 _ _ z2⟩
      · cases q : F1 P2 with
        | none => rfl
        | some o =>
          rcases e4 P2 (by rw [q]; exact fun z => nomatch z) with w | w
          · exact absurd a4 w
          · rw [a1] at w
            cases w
  have fin : ∀ {r : Rr} {fu' : Option Nat} {v : V} {H' F' : Hp}, post (rrv r) g → Out X.K F1 H1 ad none fu' F' H' v r → Q v H' := fun {r fu' v H' F'} hp o => by
    have s3 := st1.after0 o
    cases r with
    | val d => exact kk _ _ v H' F' ad hp (s3.push (r := .val d) o.rep)
    | exc _ _ => exact o.rep.elim
    | own ds =>
      obtain ⟨F'', s4⟩ := s3.still (NewL.of st1 rfl id o.rep)
      exact kk _ _ v H' F'' ad hp s4
  obtain ⟨oc, od, kV, doc, pm', an, cdv, ct, osl, rfl, lk, hcdv⟩ := Fu.ex
  have rc : codeAny (model X.prog X.w) X.A (.call (.ref fr) ⟨[.ref f], []⟩) (CR C8.CX0 X.stack X.prog X.w H1 s1 Q C8.E0) s1 := by
    refine LamX.run_ofS (N := Nr) (ps := [a]) (us := [.ref f]) (vs := [.ref f]) lk hcdv S hr I1.env0 (hb s1 [.ref f] I1.kIn rfl) (.cons rfl .nil) rfl fun hr' => ?_
    refine ⟨_, (hd (.lam F1 f c' (lamQ y)) (lamF t g) cdv s1 H1 hr' hgd fun W pn xe p1 p2 tk => x_act I1 st1 Ls hq hf hfn hfr (hbind _ _ _ _ _) tk hr' hgd (fun A outer s H E => hbody A outer s H E f c') hNr hva hd1 hcd).nox, ?_⟩
    have se := sta_ent (N := Nr) (K := X.K) (F := F1) (H := H1) (a := ad) (fu := none) (vs := [.ref f]) (rs := [.ob (.lam F1 f c' (lamQ y))]) e3 (.cons ⟨rfl, e7, Ex.refl _⟩ .nil) (fun n z => by cases z) st1.t0
    refine ⟨_, _, [], [], F1, ad, _, se, rfl, hbp _ _ _ (tl (.lam F1 f c' (lamQ y))), ⟨fun g σ H' F' a' h s => ?_, fun g σ H' F' a' h s => h, fun g σ H' F' a' h s => h, fun x g σ v H' F' a' h s => ?_, fun ds g σ v H' F' a' h s n => ?_, fun nm z g σ H' F' a' cls dd h s ox => ?_⟩⟩
    · exact fin h ((fin_out s).with (r := .val .none) Rp.non)
    · exact fin (r := .val x) h ((fin_out s).with (r := .val x) s.top)
    · obtain ⟨o, xs, q1, q2, q3, q4, q5, _⟩ := n.ex
      exact fin (r := .own ds) h ((fin_out s).with (r := .own ds) ⟨o, xs, q1, q3, q2, q4, q5⟩)
    · exact h
  refine wpAny_call (codeAny_mono rc fun r s2 hq => ?_)
  match r, hq with
  | .error e, hq => exact (show False from hq).elim
  | .ok (.ret u), hq => exact I1.after hq
  | .ok .next, hq => exact False.elim hq
  | .ok .brk, hq => exact False.elim hq
  | .ok .cont, hq => exact False.elim hq
end
section
variable {P : Program} {w : World} {K : Fg} {mg : Str → Option Value} {base : Heap} {CX : CXT}
theorem fn_byM {x qual : Str} {st : Stmt} {f : Addr} {fd : FuncData} {N ps : List Str} {k : Nat} {sp : Sp} (Fu : Fun K x qual st f fd) (S : FnScope N ps (defScope st)) (len : ∀ vs H Q E, sp vs H Q E → vs.length = ps.length)
    (hbody : ∀ (cdv : Value) (A : Around) (outer : List Env) (s : Shared) (H : Hp) (vs : List V) (Q : VK) (E : XK), fd.code = cdv → Room k (A.deeper (envOfC qual (defScope st) s.heap.objs.size f cdv)) →
      (A.deeper (envOfC qual (defScope st) s.heap.objs.size f cdv)).guards = some [] → sp vs H Q E →
      ∃ t, PSs (cxOf CX P w K mg base N qual (defScope st) f cdv A outer s H E) (defBody st) t ∧ t { nx := fun _ H' => Q .non H', rt := Q } (start N vs) H) : Fn P w K mg base CX (k + 1) f fd ps sp := by
  obtain ⟨oc, od, kV, doc, pm, an, cdv, ct, osl, rfl, lk, hcd⟩ := Fu.ex
  refine ⟨len, fun A outer s H args us vs Q E hr hg e0 hb r hsp => ?_⟩
  have KX : K.In s.heap := e0.mod.kin.keeps fun b o e => (e0.bs b o e).1
  have kinds : ∀ y ∈ ps.zip us, (defScope st).names.lookup y.1 = some .local ∨ ((defScope st).names.lookup y.1 = some .cell ∧ ((cellsFrom (s.heap.objs.size + 1) (defScope st).names []).lookup y.1).isSome = true) := by
    rintro ⟨n, v⟩ hy
    exact (S.par n (List.of_mem_zip hy).1).imp id fun q => ⟨q, PySem.W.cellsFrom_some _ _ _ (.inl q)⟩
  refine codeAny_call_function hr.depth (KX _ _ lk) rfl S.co S.gen rfl (PySem.W.codeRec_of KX hcd) (hb _ _ _ _ (wpAny_newFunctionEnv_cells S.kind kinds fun env he s1 x => ?_))
  subst he
  refine ⟨(e0.mod.nolimit.keeps fun b o e => (e0.bs b o e).1).keeps x.toInCall.keep, codeAny_func ?_⟩
  obtain ⟨t, ht, hq⟩ := hbody cdv A outer s H vs Q E rfl (hr.deeper _) hg hsp
  refine wpAny_mono (ht.run [] s1 (start N vs) H _ (inv_start S hr.hd e0 (len _ _ _ _ hsp) r x) hq) (fun fl s' hs => ?_) fun e s' hs => hs
  match fl, hs with
  | .ret u, ⟨v, σ', H', J, rv, q⟩ => exact ⟨v, H', J.os, J.bare, J.base, J.hok, rv, q⟩
  | .next, ⟨σ', H', J, q⟩ => exact ⟨.non, H', J.os, J.bare, J.base, J.hok, rfl, q⟩
  | .brk, ⟨_, _, _, q⟩ => exact q.elim
  | .cont, ⟨_, _, _, q⟩ => exact q.elim
theorem fn_dataM {x qual : Str} {st : Stmt} {f : Addr} {fd : FuncData} {N ps : List Str} {k : Nat} {fs : FSp} (Fu : Fun K x qual st f fd) (S : FnScope N ps (defScope st)) (tb : DS)
    (hd : ∀ (cdv : Value) (A : Around) (outer : List Env) (s : Shared) (H : Hp) (E : XK), fd.code = cdv → Room k (A.deeper (envOfC qual (defScope st) s.heap.objs.size f cdv)) → (A.deeper (envOfC qual (defScope st) s.heap.objs.size f cdv)).guards = some [] →
      PSs (cxOf CX P w K mg base N qual (defScope st) f cdv A outer s H E).nox (defBody st) (upS K WF tb))
    (hb : ∀ rs fu post, rs.length = ps.length → fs rs fu post → tb ⟨fun g => post (.val .none) g.fu, rtN post, fun _ => False, fun _ => False⟩ (ent N rs fu)) : Fn P w K mg base CX (k + 1) f fd ps (lift K ps.length fs) := by
  refine fn_byM Fu S lift_len fun cdv A outer s H vs Q E hc hr hg h => ⟨_, (hd cdv A outer s H E hc hr hg).nox, ?_⟩
  obtain ⟨F, a, rs, fu, post, e, t, hl, hs, tk, hf, hq⟩ := h
  have st0 := sta_ent (N := N) e t hs tk
  refine ⟨_, _, [], [], F, a, _, st0, rfl, hb rs fu post (by rw [← t.len]; exact hl) hf, ⟨fun g σ H' F' a' h s => ?_, fun g σ H' F' a' h s => h, fun g σ H' F' a' h s => h, fun x g σ v H' F' a' h s => ?_, fun ds g σ v H' F' a' h s n => ?_, fun nm z g σ H' F' a' cls dd h s ox => ?_⟩⟩
  · exact hq _ _ _ H' F' h ((fin_out s).with (r := .val .none) Rp.non)
  · exact hq _ _ _ H' F' h ((fin_out s).with (r := .val x) s.top)
  · obtain ⟨o, xs, q1, q2, q3, q4, q5, _⟩ := n.ex
    exact hq _ _ _ H' F' h ((fin_out s).with (r := .own ds) ⟨o, xs, q1, q3, q2, q4, q5⟩)
  · exact h
end
end Z
namespace Z
open L2 PySem PySem.Spec PyProof.Rows
open Evl (Ex ex_l ex_t ex_rd fresh_back)
variable {Wx : WX}
/-- what the class of nm must say for isinstance -/
structure IsC (K : Fg) (C : Addr) : Prop where
  cl : (PySem.W.clsIn K C).isSome = true
  hg : PySem.W.findIn K (.ref C) "__getattribute__" = some (some (.builtin "BaseException.__getattribute__"))
  hk : ∃ gt, PySem.W.findIn K (.ref C) "__getattr__" = some gt
  hs : PySem.W.subIn K (.ref C) (.type "BaseException") = some true
  ha : PySem.W.findIn K (.ref C) "__class__" = some (some (.builtin "object.__class__"))
  hn : PySem.W.specialIn K (.builtin "object.__class__") "__get__" = some (some (.builtin "getset_descriptor.__get__"))
  ht : PySem.W.takesIn K (.builtin "object.__class__") = some true
  hm : PySem.W.mroIn K C (.type "object") = some true
def dIsiX (xs : List Str) (c : Str) (te : DE) : DE := fun g Q => te g fun r g1 => match r with
  | .ob (.exc nm _) => nm ∈ xs ∧ Q (.val (.bool (xsub nm c))) g1
  | _ => False
/-- x is None, x a datum or a caught exception -/
def dIsNX (te : DE) : DE := fun g Q => te g fun r g1 => match r with
  | .val d => Q (.val (.bool (isNon d))) g1
  | .ob (.exc _ _) => Q (.val (.bool false)) g1
  | _ => False
/-- one answer of isinstance for all exceptions that may come -/
def IsK (K : Fg) (xs : List Str) (c : Str) (cv : Value) : Prop := ∀ nm ∈ xs, ∃ C : Addr, PySem.W.nsIn K mainGlobals nm = some (some (.ref C)) ∧ IsC K C ∧ PySem.W.kitOne K (.ref C) cv = some (xsub nm c)
theorem inst_at {P : Program} {w : World} {K : Fg} {F H : Hp} {h : Heap} {a : Addr} {cls : Value} {dd : Option Addr} {nm : Str} {z : Option Da} {C : Addr} (hok : HOk P w H h) (eh : Ex F H) (hF : F a = some (exT a cls dd)) (hx : XvOk K F cls dd nm z) (hC : PySem.W.nsIn K mainGlobals nm = some (some (.ref C))) :
    ∃ (oe : Obj) (od : Option Obj), cls = .ref C ∧ PySem.W.InstAt h a oe C od := by
  obtain ⟨oe, vs, he, hz, hd⟩ := exT_at hok (eh _ _ hF)
  cases z with
  | none =>
    obtain ⟨C', rfl, h1, rfl⟩ := hx
    rw [hC] at h1
    cases h1
    exact ⟨oe, none, rfl, he, hz.1, by unfold PySem.W.notCls; rw [hd] <;> rfl, by rw [hz.2]; trivial⟩
  | some z =>
    obtain ⟨C', x, u, rfl, h1, rfl, h2, _⟩ := hx
    rw [hC] at h1
    cases h1
    have hx : ObjOk P w H h x (.xd [("value", u)]) := hok x _ (eh _ _ h2)
    obtain ⟨mA, hns, hr⟩ := hx
    obtain ⟨od, ho, hl⟩ := lookIn_ns hns
    exact ⟨oe, some od, rfl, he, hz.1, by unfold PySem.W.notCls; rw [hd] <;> rfl, by rw [hz.2]; exact ho⟩
section
variable {X : Cx} {p pos : Pos} {e c : Expr} {te : DE}
def rIsX (K : Fg) (xs : List Str) (cn : Str) (cv : Value) : List V → Hp → VK → Prop := fun vs H Q => ∃ (v cV : V) (F : Hp) (nm : Str) (z : Option Da), vs = [v, cV] ∧ (∀ u, RelV cV u → u = cv) ∧ Ex F H ∧ ObOk K F v (.exc nm z) ∧ nm ∈ xs ∧ Q (.bl (xsub nm cn)) H
theorem call_isX {xs : List Str} {cn : Str} {cv : Value} (hK : IsK X.K xs cn cv) : CallR X (.builtin "isinstance") (rIsX X.K xs cn cv) := by
  intro pins s σ H vs us Q I r h
  obtain ⟨v, cV, F, nm, z, rfl, hcv, eh, ⟨a, cls, dd, rfl, hF, hx⟩, hm, q⟩ := h
  obtain ⟨u1, u2, rfl, r1, r2⟩ := vals2 r
  obtain rfl := hcv _ r2
  obtain rfl : u1 = Value.ref a := r1
  obtain ⟨C, hC, T, hk⟩ := hK nm hm
  obtain ⟨oe, od, rfl, J⟩ := inst_at I.hok eh hF hx hC
  obtain ⟨gt, hgt⟩ := T.hk
  exact PySem.W.kia_one (PySem.W.kitx_exc T.cl T.hg hgt T.hs T.ha T.hn T.ht T.hm) I.kIn J hk (fun z => nomatch z) fun tk => ⟨.bl _, H, I.tok tk, rfl, q⟩
theorem e_isiX {xs : List Str} {cn : Str} {cV : V} {cv : Value} (hK : IsK X.K xs cn cv) (hcv : ∀ u, RelV cV u → u = cv) (hg : Gl X "isinstance") (hm : X.mg "isinstance" = none) (he : PE X e (up X.K te)) (hc : PE X c (tC cV))
    (h1 : starEach [e, c] X.env = (false, eval e X.env) :: starEach [c] X.env := by rfl) (h2 : starEach [c] X.env = (false, eval c X.env) :: starEach [] X.env := by rfl) (hpl : (backTo pos (starEach [c] X.env)).any (·.1) = false := by rfl) :
    PE X (.Call (.Name "isinstance" p) [e, c] [] pos) (up X.K (dIsiX xs cn te)) := pe_to (pe_callB (call_isX hK) hg hm (by decide +kernel) (pa_cons he (pa_cons hc pa_nil h2) h1) (by decide) (by decide) h1 hpl) fun σ H Q q => by
  obtain ⟨c, g, tv, tr, F, ad, post, s, t, k⟩ := q
  refine ⟨c, g, tv, tr, F, ad, _, s, t, fun r g1 v H1 F1 a1 t1 s1 => ?_⟩
  split at t1
  · rename_i nm z
    exact ⟨v, _, F1, nm, z, rfl, hcv, s1.eh, s1.top, t1.1, k _ g1 _ H1 F1 a1 t1.2 (s1.pop1.push (r := .val (.bool _)) (Rp.bl _))⟩
  · exact t1.elim
end
section
variable {X : Cx} {e : Expr} {te : DE} {pos : Pos}
theorem isnX_core {σ : L2.St} {H : Hp} {Q : VK} (q : up X.K (dIsNX te) σ H Q) : up X.K te σ H fun x H1 => Q (.bl (decide (x = .non))) H1 := by
  obtain ⟨c, g, tv, tr, F, ad, post, s, t1, k⟩ := q
  refine ⟨c, g, tv, tr, F, ad, _, s, t1, fun r g1 v1 H1 F1 a1 h1 s1 => ?_⟩
  split at h1
  · rename_i d
    have hr : Rp X.K F1 v1 d := s1.top
    rw [non_v hr]
    exact k _ g1 _ H1 F1 a1 h1 (s1.pop1.push (r := .val (.bool (isNon d))) (Rp.bl _))
  · obtain ⟨a, cls, dd, rfl, _⟩ := id s1.top
    rw [show decide (V.ref a = V.non) = false from rfl]
    exact k _ g1 _ H1 F1 a1 h1 (s1.pop1.push (r := .val (.bool false)) (Rp.bl _))
  · exact h1.elim
theorem t_isNX {j : Nat} {pos' : Pos} (ha : PE X e (up X.K te)) : PT X (.Compare e [.Is] [.Constant .none j pos'] pos) (upT X.K (dTest (dIsNX te))) := pt_to (pt_cmpR op_isN ha pe_non (nomark _)) fun σ H Q q => by
  obtain ⟨c, g, tv, tr, F, ad, post, s, t1, k⟩ := isnX_core (test_core q)
  exact ⟨c, g, tv, tr, F, ad, post, s, t1, fun r g1 v1 H1 F1 a1 h1 s1 => ⟨rfl, k r g1 v1 H1 F1 a1 h1 s1⟩⟩
end
def dIsiXT (xs cs : List Str) (te : DE) : DE := fun g Q => te g fun r g1 => match r with
  | .ob (.exc nm _) => nm ∈ xs ∧ Q (.val (.bool (cs.any fun c => xsub nm c))) g1
  | _ => False
def IsKT (K : Fg) (xs cs : List Str) (cvs : List Value) : Prop := ∀ nm ∈ xs, ∃ C : Addr, PySem.W.nsIn K mainGlobals nm = some (some (.ref C)) ∧ IsC K C ∧ PySem.W.kitAny K (.ref C) cvs = some (cs.any fun c => xsub nm c)
/-- the classes, as values -/
inductive Cvs : List V → List Value → Prop
  | nil : Cvs [] []
  | cons {v : V} {u : Value} {vs : List V} {us : List Value} : (∀ w, RelV v w → w = u) → Cvs vs us → Cvs (v :: vs) (u :: us)
theorem Cvs.all {vs : List V} {us ws : List Value} (h : Cvs vs us) (r : Vals vs ws) : ws = us := by
  induction h generalizing ws with
  | nil => cases r; rfl
  | cons h1 _ ih =>
    cases r with
    | cons r1 r2 => rw [h1 _ r1, ih r2]
section
variable {X : Cx} {p pos : Pos} {e : Expr} {te : DE}
def rIsXT (K : Fg) (xs cs : List Str) (vcs : List V) : List V → Hp → VK → Prop := fun vs H Q => ∃ (v : V) (tp : Addr) (F : Hp) (nm : Str) (z : Option Da), vs = [v, .ref tp] ∧ H tp = some (.tup vcs) ∧ Ex F H ∧ ObOk K F v (.exc nm z) ∧ nm ∈ xs ∧ Q (.bl (cs.any fun c => xsub nm c)) H
theorem call_isXT {xs cs : List Str} {vcs : List V} {cvs : List Value} (hK : IsKT X.K xs cs cvs) (hc : Cvs vcs cvs) : CallR X (.builtin "isinstance") (rIsXT X.K xs cs vcs) := by
  intro pins s σ H vs us Q I r h
  obtain ⟨v, tp, F, nm, z, rfl, ht, eh, ⟨a, cls, dd, rfl, hF, hx⟩, hm, q⟩ := h
  obtain ⟨u1, u2, rfl, r1, r2⟩ := vals2 r
  cases (show u2 = Value.ref tp from r2)
  obtain rfl : u1 = Value.ref a := r1
  obtain ⟨C, hC, T, hk⟩ := hK nm hm
  obtain ⟨oe, od, rfl, J⟩ := inst_at I.hok eh hF hx hC
  obtain ⟨gt, hgt⟩ := T.hk
  obtain ⟨_, its, rv, o, h1, h2, n, h3⟩ := (show ObjOk X.prog X.w H s.heap tp (.tup vcs) from I.hok tp _ ht)
  have e3 := hc.all rv
  subst e3
  obtain ⟨oc, od', dt, sl⟩ := o
  simp only at h2 h3
  subst h2 h3
  exact PySem.W.kia_tup (PySem.W.kitx_exc T.cl T.hg hgt T.hs T.ha T.hn T.ht T.hm) I.kIn J h1 hk (fun z => nomatch z) fun tk => ⟨.bl _, H, I.tok tk, rfl, q⟩
theorem pa_cs {es : List Expr} {x1 : Nat} {vcs : List V} (ha : PA X es fun _ H Q => Q vcs H) (hl : vcs.length ≤ 1000) : PE X (.Tuple es x1 pos) (fun σ H Q => ∀ tp, H tp = none → Q (.ref tp) (upd H tp (.tup vcs))) := pe_to (pe_tup ha) fun σ H Q q => ⟨Nat.le_trans hl (by decide), fun tp hp => q tp hp⟩
theorem e_isiXT {xs cs : List Str} {vcs : List V} {cvs : List Value} {es : List Expr} {x1 : Nat} {p2 : Pos} (hK : IsKT X.K xs cs cvs) (hcv : Cvs vcs cvs) (hl : vcs.length ≤ 1000) (hg : Gl X "isinstance") (hm : X.mg "isinstance" = none) (he : PE X e (up X.K te)) (hc : PA X es fun _ H Q => Q vcs H)
    (h1 : starEach [e, .Tuple es x1 p2] X.env = (false, eval e X.env) :: starEach [.Tuple es x1 p2] X.env := by rfl) (h2 : starEach [.Tuple es x1 p2] X.env = (false, eval (.Tuple es x1 p2) X.env) :: starEach [] X.env := by rfl) (hpl : (backTo pos (starEach [.Tuple es x1 p2] X.env)).any (·.1) = false := by rfl) :
    PE X (.Call (.Name "isinstance" p) [e, .Tuple es x1 p2] [] pos) (up X.K (dIsiXT xs cs te)) := pe_to (pe_callB (call_isXT hK hcv) hg hm (by decide +kernel) (pa_cons he (pa_cons (pa_cs hc hl) pa_nil h2) h1) (by decide) (by decide) h1 hpl) fun σ H Q q => by
  obtain ⟨c, g, tv, tr, F, ad, post, s, t, k⟩ := q
  refine ⟨c, g, tv, tr, F, ad, _, s, t, fun r g1 v H1 F1 a1 t1 s1 => ?_⟩
  split at t1
  · rename_i nm z
    refine fun tp hp => ⟨v, tp, F1, nm, z, rfl, upd_same, s1.eh.trans (Ex.new hp), s1.top, t1.1, ?_⟩
    have gr : Gr F1 H1 F1 (upd H1 tp (.tup vcs)) := ⟨Ex.refl _, Ex.new hp, s1.eh.trans (Ex.new hp), fun b hb => .inl hb⟩
    exact k _ g1 _ _ F1 a1 t1.2 ((s1.pop1.grow gr).push (r := .val (.bool _)) (Rp.bl _))
  · exact t1.elim
end
end Z
namespace Z
open L2 PySem PySem.Spec PyProof.Rows
open Evl (Ex ex_l ex_t ex_rd fresh_back)
end Z
namespace L2
open PySem PySem.Spec PyProof.Rows
end L2
namespace Z
open L2 PySem PySem.Spec PyProof.Rows
open Evl (Ex ex_l ex_t ex_rd fresh_back)
end Z
namespace Z
open L2 PySem PySem.Spec PyProof.Rows
open Evl (Ex ex_l ex_t ex_rd fresh_back)
def lkS (kvs : List (Str × Da)) (x : Str) : Option Da := (kvs.find? fun p => decide (p.1 = x)).map (·.2)
structure KDi (K : Fg) (w : World) (a : Addr) (kvs : List (Str × Da)) : Prop where
  d : ∃ es n, K.lookup a = some ⟨.type "dict", none, .dict es n, #[]⟩ ∧ PySem.W.KeysLit w.params es.toList
  low : (a == sysModules) = false
  get : ∀ x, (lkS kvs x = none ∧ PySem.W.nsIn K a x = some none) ∨ ∃ d v u, lkS kvs x = some d ∧ PySem.W.nsIn K a x = some (some u) ∧ RelV v u ∧ ∀ F, Rp K F v d
def KHas (K : Fg) (w : World) (p : Addr) (z : Str) (b : Bool) : Prop := ∃ es n r, K.lookup p = some ⟨.type "dict", none, .dict es n, #[]⟩ ∧ PySem.W.KeysLit w.params es.toList ∧ (p == sysModules) = false ∧ PySem.W.nsIn K p z = some r ∧ r.isSome = b
section
variable {X : Cx} {b : Expr} {te : DE} {p pos : Pos} {x : Str} {ra : Addr} {kvs : List (Str × Da)} {pins : List (Addr × Obj)} {s : Shared} {σ : L2.St} {H : Hp}
theorem KDi.has {K : Fg} {w : World} {a : Addr} (h : KDi K w a kvs) (z : Str) : KHas K w a z (lkS kvs z).isSome := by
  obtain ⟨es, n, h1, h2⟩ := h.d
  rcases h.get z with ⟨e1, e2⟩ | ⟨d, v, u, e1, e2, _⟩
  · exact ⟨es, n, _, h1, h2, h.low, e2, by rw [e1]; rfl⟩
  · exact ⟨es, n, _, h1, h2, h.low, e2, by rw [e1]; rfl⟩
end
end Z
namespace Z
open L2 PySem PySem.Spec PyProof.Rows
open Evl (Ex ex_l ex_t ex_rd fresh_back)
end Z
namespace Z
open L2 PySem PySem.Spec PyProof.Rows
open Evl (Ex ex_l ex_t ex_rd fresh_back)
end Z
namespace Z
open L2 PySem PySem.Spec PyProof.Rows
open Evl (Ex ex_l ex_t ex_rd fresh_back)
end Z
namespace Z
open L2 PySem PySem.Spec PyProof.Rows
end Z
namespace Z
open L2 PySem PySem.Spec PyProof.Rows
open Evl (Ex ex_l ex_t ex_rd fresh_back)
theorem rps_strs {K : Fg} {F : Hp} : ∀ ys : List Str, Rps K F (ys.map V.str) (ys.map PyData.str)
  | [] => .nil
  | y :: ys => .cons (.str y) (rps_strs ys)
theorem strs_v {K : Fg} {F : Hp} : ∀ {ys : List Str} {vs : List V}, Rps K F vs (ys.map PyData.str) → vs = ys.map V.str
  | [], _, .nil => rfl
  | y :: ys, _, .cons r t => by cases r; rw [strs_v t]; rfl
def dSplit (ta tb : DE) : DE := fun g Q => ta g fun x g1 => match x with
  | .val (.str a) => tb g1 fun y g2 => (match y with
    | .val (.str b) => (b.length == 0) = false ∧ a.length + 2 ≤ sizeLine ∧ Q (.val (.list ((Txt.split a b).map .str))) g2
    | _ => False)
  | _ => False
def dJoin (ta tb : DE) : DE := fun g Q => ta g fun x g1 => match x with
  | .val (.str a) => tb g1 fun y g2 => (match y with
    | .val (.list ds) => ∃ ys : List Str, ds = ys.map PyData.str ∧ (ys.map (·.length)).sum + ys.length * a.length ≤ 16777216 ∧ Q (.val (.str (Txt.join a ys))) g2
    | _ => False)
  | _ => False
/-- {x} in an f-string -/
def dFmt (te : DE) : DE := fun g Q => te g fun r g1 => match r with
  | .val (.str y) => y.length ≤ sizeLine ∧ Q (.val (.str y)) g1
  | .val (.int i) => i.natAbs.log2 < 1920 ∧ Q (.val (.str (toString i))) g1
  | _ => False
def dJs : List DE → Str → DE
  | [], acc, g, Q => Q (.val (.str acc)) g
  | t :: ts, acc, g, Q => t g fun r g1 => match r with
    | .val (.str y) => (acc ++ y).length ≤ sizeLine ∧ dJs ts (acc ++ y) g1 Q
    | _ => False
def dFstr (ts : List DE) : DE := dJs ts Str.empty
def dIxS (ta tb : DE) : DE := fun g Q => ta g fun x g1 => tb g1 fun y g2 => match x, y with
  | .val (.str z), .val (.int i) => z.length ≤ sizeLine ∧ ∃ c, atI z.cps.toList i = some c ∧ Q (.val (.str ⟨#[c]⟩)) g2
  | _, _ => False
/-- one character in a text -/
def fInC (neg : Bool) : BinF := fun d e post => match d, e with
  | .str i, .str z => ∃ c, i = ⟨#[c]⟩ ∧ post (.bool (if neg then !decide (c ∈ z.cps.toList) else decide (c ∈ z.cps.toList)))
  | _, _ => False
section
variable {X : Cx} {a b e l tg : Expr} {ta tb te : DE} {pos apos : Pos}
theorem e_split (ha : PE X a (up X.K ta)) (hb : PE X b (up X.K tb)) (hs : starEach [b] X.env = [(false, eval b X.env)] := by rfl) (hbase : attributeBase a "split" X.env (eval a X.env) = eval a X.env := by rfl) (hline : (apos.endLine == pos.line) = true := by rfl) :
    PE X (.Call (.Attribute a "split" apos) [b] [] pos) (up X.K (dSplit ta tb)) := pe_to (pe_split ha hb hs hbase hline) fun σ H Q q => by
  obtain ⟨c, g, tv, tr, F, ad, post, s, t, k⟩ := q
  refine ⟨c, g, tv, tr, F, ad, _, s, t, fun x g1 v1 H1 F1 a1 t1 s1 => ?_⟩
  split at t1
  · rename_i x
    have hx : Rp X.K F1 v1 (.str x) := s1.top
    cases hx
    refine ⟨⟨x, rfl⟩, c, g1, _, _, F1, a1, _, s1.pop1, t1, fun y g2 v2 H2 F2 a2 t2 s2 => ?_⟩
    split at t2
    · rename_i y
      have hy : Rp X.K F2 v2 (.str y) := s2.top
      cases hy
      refine ⟨x, y, rfl, rfl, t2.1, t2.2.1, fun p hp => ?_⟩
      have gr := Gr.new (o := .lst ((Txt.split x y).map V.str)) s2.eh hp
      exact k _ g2 _ _ _ a2 t2.2.2 ((s2.pop1.grow gr).push (r := .val (.list ((Txt.split x y).map PyData.str))) (.lst upd_same (rps_strs _)))
    · exact t2.elim
  · exact t1.elim
theorem e_join (ha : PE X a (up X.K ta)) (hb : PE X b (up X.K tb)) (hs : starEach [b] X.env = [(false, eval b X.env)] := by rfl) (hbase : attributeBase a "join" X.env (eval a X.env) = eval a X.env := by rfl) (hline : (apos.endLine == pos.line) = true := by rfl) :
    PE X (.Call (.Attribute a "join" apos) [b] [] pos) (up X.K (dJoin ta tb)) := pe_to (pe_join ha hb hs hbase hline) fun σ H Q q => by
  obtain ⟨c, g, tv, tr, F, ad, post, s, t, k⟩ := q
  refine ⟨c, g, tv, tr, F, ad, _, s, t, fun x g1 v1 H1 F1 a1 t1 s1 => ?_⟩
  split at t1
  · rename_i x
    have hx : Rp X.K F1 v1 (.str x) := s1.top
    cases hx
    refine ⟨⟨x, rfl⟩, c, g1, _, _, F1, a1, _, s1.pop1, t1, fun y g2 v2 H2 F2 a2 t2 s2 => ?_⟩
    split at t2
    · rename_i ds
      obtain ⟨ys, rfl, hz, t2⟩ := t2
      have hy : Rp X.K F2 v2 (.list (ys.map PyData.str)) := s2.top
      cases hy with
      | @lst p xs _ h1 h2 =>
        have e := strs_v h2
        subst e
        exact ⟨x, p, ys, rfl, rfl, .inl (.inl (.inl (s2.eh _ _ h1))), hz, k _ g2 _ H2 F2 a2 t2 (s2.pop1.push (r := .val (.str (Txt.join x ys))) (.str _))⟩
    · exact t2.elim
  · exact t1.elim
theorem e_fmt (he : PE X e (up X.K te)) : PE X (.FormattedValue e (-1) none pos) (up X.K (dFmt te)) := pe_to (pe_fmt he) fun σ H Q q => by
  obtain ⟨c, g, tv, tr, F, ad, post, s, t, k⟩ := q
  refine ⟨c, g, tv, tr, F, ad, _, s, t, fun x g1 v1 H1 F1 a1 t1 s1 => ?_⟩
  split at t1
  · rename_i x
    have hx : Rp X.K F1 v1 (.str x) := s1.top
    cases hx
    exact .inl ⟨x, rfl, t1.1, k _ g1 _ H1 F1 a1 t1.2 s1⟩
  · rename_i i
    have hx : Rp X.K F1 v1 (.int i) := s1.top
    cases hx
    exact .inr ⟨i, rfl, t1.1, k _ g1 _ H1 F1 a1 t1.2 (s1.pop1.push (r := .val (.str (toString i))) (.str _))⟩
  · exact t1.elim
theorem js_core {K : Fg} : ∀ (ts : List DE) (acc : Str) {σ : L2.St} {H : Hp} {Q : VK}, up K (dJs ts acc) σ H Q → tJs (ts.map (up K)) acc σ H fun out H1 => Q (.str out) H1
  | [], acc, σ, H, Q, q => by
    obtain ⟨c, g, tv, tr, F, ad, post, s, t, k⟩ := q
    exact k _ g _ H F ad t (s.push (r := .val (.str acc)) (.str _))
  | t0 :: ts, acc, σ, H, Q, q => by
    obtain ⟨c, g, tv, tr, F, ad, post, s, t, k⟩ := q
    refine ⟨c, g, tv, tr, F, ad, _, s, t, fun x g1 v1 H1 F1 a1 t1 s1 => ?_⟩
    split at t1
    · rename_i x
      have hx : Rp K F1 v1 (.str x) := s1.top
      cases hx
      exact ⟨x, rfl, t1.1, js_core ts (acc ++ x) ⟨c, g1, tv, tr, F1, a1, post, s1.pop1, t1.2, k⟩⟩
    · exact t1.elim
theorem e_fstr {v1 v2 : Expr} {rest : List Expr} {ts : List DE} (h : PJ X (v1 :: v2 :: rest) (ts.map (up X.K))) : PE X (.JoinedStr (v1 :: v2 :: rest) pos) (up X.K (dFstr ts)) := pe_to (pe_joined h) fun σ H Q q => js_core ts Str.empty q
theorem e_ixS (ha : PE X a (up X.K ta)) (hb : PE X b (up X.K tb)) (hs : PlainIx b := by exact fun _ _ => rfl) : PE X (.Subscript a b pos) (up X.K (dIxS ta tb)) := pe_to (pe_ix ix_str ha hb hs) fun σ H Q q => by
  obtain ⟨c, g, tv, tr, F, ad, post, s, t, k⟩ := q
  refine ⟨c, g, tv, tr, F, ad, _, s, t, fun x g1 v1 H1 F1 a1 t1 s1 => ?_⟩
  refine ⟨c, g1, _, _, F1, a1, _, s1, t1, fun y g2 v2 H2 F2 a2 t2 s2 => ?_⟩
  have hx := s2.pop1.top
  have hy := s2.top
  have s3 := s2.pop1.pop1
  split at t2
  · rename_i z i
    have hy' : Rp X.K F2 v2 (.int i) := hy
    have hx' : Rp X.K F2 v1 (.str z) := hx
    cases hy'
    cases hx'
    obtain ⟨z1, ch, z2, z3⟩ := t2
    exact ⟨z, i, ch, rfl, rfl, z1, z2, k _ g2 _ H2 F2 a2 z3 (s3.push (r := .val (.str ⟨#[ch]⟩)) (.str _))⟩
  · exact t2.elim
theorem ok_inC {K : Fg} : BinOk K (fun x y H Q => ∃ (c : Nat) (z : Str), x = .str ⟨#[c]⟩ ∧ y = .str z ∧ Q (.bl (decide (c ∈ z.cps.toList))) H) (fInC false) := fun F H x y d e post Q hx r1 r2 hf k => by
  cases d with
  | str i =>
    cases e with
    | str z =>
      cases r1
      cases r2
      obtain ⟨c, rfl, h⟩ := hf
      exact ⟨c, z, rfl, rfl, k _ _ H F h (Gr.refl hx) (.bl _)⟩
    | _ => exact hf.elim
  | _ => exact hf.elim
theorem e_inC (ha : PE X a (up X.K ta)) (hb : PE X b (up X.K tb)) (hm : behindInMarks .In b = false := by rfl) : PE X (.Compare a [.In] [b] pos) (up X.K (dBin (fInC false) ta tb)) := e_cmp op_in_sign ok_inC ha hb hm
theorem pjN : PJ X [] (([] : List DE).map (up X.K)) := .nil
theorem pjC {es : List Expr} {ts : List DE} (h : PE X e (up X.K te)) (r : PJ X es (ts.map (up X.K))) : PJ X (e :: es) ((te :: ts).map (up X.K)) := .cons h r
end
end Z
namespace L2
open PySem PySem.Spec PyProof.Rows
def revS (z : Str) : Str := ⟨z.cps.toList.reverse.toArray⟩
theorem rev_made (z : Str) (t : Tok) {l u st : Option (Int × Tok)} (hl : l.map (·.1) = none) (hu : u.map (·.1) = none) (hs : st.map (·.1) = some (-1)) : sliceMade z t l u st = .str (revS z) := by
  unfold sliceMade slicePicked
  rw [hl, hu, hs]
  rw [if_neg (by simp)]
  congr 1
  show (⟨((Builtin.Str.strSliceIndices none none (-1) z.length).filterMap (z.cps[·]?)).toArray⟩ : Str) = _
  rw [picked_rev, PySem.W.krv_range, List.filterMap_reverse]
  show (⟨((List.range z.cps.size).filterMap (z.cps[·]?)).reverse.toArray⟩ : Str) = _
  rw [PySem.W.krv_all]
  rfl
section
variable {X : Cx}
def tRevS (te : TE) : TE := fun σ H Q => te σ H fun x H1 => ∃ z, x = .str z ∧ z.length ≤ sizeLine ∧ Q (.str (revS z)) H1
theorem pe_revS {e : Expr} {te : TE} {k : Nat} {p1 p2 p3 pos : Pos} (he : PE X e te) : PE X (.Subscript e (.Slice none none (some (.UnaryOp .USub (.Constant (.int 1) k p1) p2)) p3) pos) (tRevS te) := by
  refine ⟨fun pins s σ H Q I h => ?_⟩
  refine Subscript_ (thn (he.run pins s σ H _ I h) fun v s1 ⟨x, H1, I1, r1, q1⟩ => ?_)
  obtain ⟨z, ex, hz, q⟩ := q1
  subst ex
  obtain ⟨t, rfl⟩ := r1
  have hst : PO X (some (.UnaryOp .USub (.Constant (.int 1) k p1) p2)) (tPart (tUn (rU fun i => .int (-i)) (tC (.int 1)))) := po_some (pe_un un_neg pe_int)
  refine wpAny_Slice (thn (po_none.run pins s1 σ H1 (fun o H2 => o = none ∧ H2 = H1) I1 ⟨rfl, rfl⟩) fun vl s2 ⟨l, H2, I2, pl, el, e2⟩ => ?_)
  subst el e2
  refine thn (po_none.run pins s2 σ H2 (fun o H3 => o = none ∧ H3 = H2) I2 ⟨rfl, rfl⟩) fun vu s3 ⟨u, H3, I3, pu, eu, e3⟩ => ?_
  subst eu e3
  refine thn (hst.run pins s3 σ H3 (fun o H4 => o = some (-1) ∧ H4 = H3) I3 ⟨1, rfl, -1, rfl, rfl, rfl⟩) fun vs s4 ⟨o, H4, I4, ps, eo, e4⟩ => ?_
  subst eo e4
  have I5 : Inv X pins σ H4 { s4 with heap := s4.heap.push { cls := .type "slice", data := .fields #[vl, vu, vs] } } := I4.kept (t' := s4.toks) fun b ob q => Heap.get?_push_of_some _ q
  obtain ⟨os, hos, hcs, hds⟩ := Heap.IsSliceOf.new s4.heap vl vu vs
  obtain ⟨l, rfl, hl⟩ := IsPart.raw pl
  obtain ⟨u, rfl, hu⟩ := IsPart.raw pu
  obtain ⟨st, rfl, hs⟩ := IsPart.raw ps
  show wpAny (model X.prog X.w) X.A (subscriptTail e (.Slice none none (some (.UnaryOp .USub (.Constant (.int 1) k p1) p2)) p3) (.str z t) (.ref s4.heap.objs.size)) (EP X pins σ Q) X.xe { s4 with heap := s4.heap.push { cls := .type "slice", data := .fields #[partValue l, partValue u, partValue st] } }
  refine tail_any (ops := [.str z t, .ref s4.heap.objs.size]) (typeIs_str _ _ _) (F.slot_str_getitem.lookup) ?_ (by with_unfolding_all rfl)
  refine wpAny_getItem_str_slice (l := l) (u := u) (st := st) ⟨os, hos, hcs, hds⟩ (by rw [hs]; decide) ?_
  rw [rev_made z t hl hu hs]
  have hz2 : (revS z).length ≤ sizeLine := by
    show (z.cps.toList.reverse.toArray).size ≤ _
    rw [List.size_toArray, List.length_reverse]
    exact hz
  exact ⟨hz2, .str (revS z), H4, I5.tok _, ⟨_, rfl⟩, q⟩
end
end L2
namespace Z
open L2 PySem PySem.Spec PyProof.Rows
open Evl (Ex ex_l ex_t ex_rd fresh_back)
def dRevS (te : DE) : DE := fun g Q => te g fun x g1 => match x with
  | .val (.str z) => z.length ≤ sizeLine ∧ Q (.val (.str (revS z))) g1
  | _ => False
def dUpper (te : DE) : DE := fun g Q => te g fun x g1 => match x with
  | .val (.str z) => z.length ≤ 5592405 ∧ Q (.val (.str (Txt.upper z))) g1
  | _ => False
section
variable {X : Cx} {a e : Expr} {ta te : DE} {tl th : DO} {lo hi : Option Expr} {p1 p2 p3 pos apos : Pos}
theorem e_revS {k0 : Nat} (he : PE X e (up X.K te)) : PE X (.Subscript e (.Slice none none (some (.UnaryOp .USub (.Constant (.int 1) k0 p1) p2)) p3) pos) (up X.K (dRevS te)) := pe_to (pe_revS he) fun σ H Q q => by
  obtain ⟨c, g, tv, tr, F, ad, post, s, t, k⟩ := q
  refine ⟨c, g, tv, tr, F, ad, _, s, t, fun x g1 v1 H1 F1 a1 t1 s1 => ?_⟩
  split at t1
  · rename_i z
    have hr : Rp X.K F1 v1 (.str z) := s1.top
    cases hr
    exact ⟨z, rfl, t1.1, k _ g1 _ H1 F1 a1 t1.2 (s1.pop1.push (r := .val (.str (revS z))) (.str _))⟩
  · exact t1.elim
theorem e_upper (he : PE X e (up X.K te)) (hbase : attributeBase e "upper" X.env (eval e X.env) = eval e X.env := by rfl) (hline : (apos.endLine == pos.line) = true := by rfl) :
    PE X (.Call (.Attribute e "upper" apos) [] [] pos) (up X.K (dUpper te)) := pe_to (pe_upper he hbase hline) fun σ H Q q => by
  obtain ⟨c, g, tv, tr, F, ad, post, s, t, k⟩ := q
  refine ⟨c, g, tv, tr, F, ad, _, s, t, fun x g1 v1 H1 F1 a1 t1 s1 => ?_⟩
  split at t1
  · rename_i z
    have hr : Rp X.K F1 v1 (.str z) := s1.top
    cases hr
    exact ⟨⟨z, rfl⟩, z, rfl, rfl, t1.1, k _ g1 _ H1 F1 a1 t1.2 (s1.pop1.push (r := .val (.str (Txt.upper z))) (.str _))⟩
  · exact t1.elim
end
end Z
namespace Z
open L2 PySem PySem.Spec PyProof.Rows
open Evl (Ex ex_l ex_t ex_rd fresh_back)
variable {Wx : WX}
def lettersD (x : Str) : List Da := x.cps.toList.map fun c => .str ⟨#[c]⟩
def dLetters (te : DE) : DW := fun g Q => te g fun r g1 => match r with
  | .val (.str x) => Q (lettersD x) g1
  | _ => False
theorem walkD_str {K : Fg} {x : Str} : WalkD K (Its x) (lettersD x) [] [] := by
  have hl : (lettersD x).length = x.cps.size := by unfold lettersD; rw [List.length_map, Array.length_toList]
  refine ⟨fun i F H a fu e t hi => ?_, fun F H a fu e t => ?_, fun i F H a fu v H' e t hi y => ?_⟩
  · rw [hl] at hi; exact hi
  · rw [hl]; exact Nat.le_refl _
  · obtain ⟨rfl, c, hc, rfl⟩ := y
    refine ⟨F, .str ⟨#[c]⟩, ?_, Gr.refl e, .str _⟩
    unfold lettersD
    rw [List.getElem?_map, Array.getElem?_toList, hc]
    rfl
section
variable {X : Cx} {tg a b l : Expr} {te ta tb tk : DE} {pos pos' p : Pos}
theorem i_letters (hl : PE X l (up X.K te)) : PI X tg l (upI X.K (dLetters te)) := pi_to (pi_str hl) fun σ H R q => by
  obtain ⟨c, g, tv, tr, F, a, post, s, t, k⟩ := q
  refine ⟨c, g, tv, tr, F, a, _, s, t, fun r g1 v H1 F1 a1 t1 s1 => ?_⟩
  split at t1
  · rename_i x
    have hr : Rp X.K F1 v (.str x) := s1.top
    cases hr
    exact ⟨x, rfl, k _ g1 H1 F1 a1 _ [] [] t1 s1.pop1 rfl rfl walkD_str⟩
  · exact t1.elim
end
def lettersV (x : Str) : List V := x.cps.toList.map fun c => .str ⟨#[c]⟩
theorem letters_vals {x : Str} {acc : Array Value} (h : ItemsOf (SignAt x) acc x.cps.size) : Vals (lettersV x) acc.toList := by
  obtain ⟨h1, h2⟩ := h
  have key : ∀ (cs : List Nat) (us : List Value) (k : Nat), us.length = cs.length → (∀ (i : Nat) (v : Value), us[i]? = some v → ∃ c u, cs[i]? = some c ∧ v = Value.str ⟨#[c]⟩ u) → Vals (cs.map fun c => V.str ⟨#[c]⟩) us := by
    intro cs
    induction cs with
    | nil =>
      intro us k hl _
      cases us with
      | nil => exact .nil
      | cons u us => cases hl
    | cons c cs ih =>
      intro us k hl hv
      cases us with
      | nil => cases hl
      | cons u us =>
        obtain ⟨c', t, e1, e2⟩ := hv 0 u rfl
        cases e1
        rw [List.map_cons]
        exact .cons ⟨t, e2⟩ (ih us k (Nat.succ.inj hl) fun i v hi => hv (i + 1) v hi)
  refine key x.cps.toList acc.toList 0 (by rw [Array.length_toList, Array.length_toList]; exact h1) fun i v hi => ?_
  rw [Array.getElem?_toList] at hi
  obtain ⟨c, u, e1, e2⟩ := h2 i v hi
  exact ⟨c, u, by rw [Array.getElem?_toList]; exact e1, e2⟩
def cListS : CF := fun rs post => match rs with
  | [.val (.str x)] => x.cps.size ≤ 1000 ∧ post (.list (lettersD x))
  | _ => False
section
variable {X : Cx} {p pos : Pos} {e : Expr} {tr : DA}
theorem call_listS (hc : X.calm = true) : CallR X (.type "list") (fun xs H Q => ∃ x, xs = [.str x] ∧ x.cps.size ≤ 1000 ∧ ∀ l, H l = none → Q (.ref l) (upd H l (.lst (lettersV x)))) := by
  intro pins s σ H xs us Q I r h
  obtain ⟨x, rfl, hl, q⟩ := h
  obtain ⟨u, rfl, rx⟩ := vals1 r
  obtain ⟨t, rfl⟩ := rx
  have hz : x.cps.size ≤ sizeLine := Nat.le_trans hl (by decide)
  refine call_list_str (I.ok.hd hc) x t (fun h' tk acc' c' kp e it => ?_) hz
  have hv := letters_vals it
  have hn : (lettersV x).length ≤ sizeLine := by unfold lettersV; rw [List.length_map, Array.length_toList]; exact hz
  exact ⟨.ref s.heap.objs.size, _, I.laid (t' := tk) kp (Nat.le_refl _) (show ObjOk X.prog X.w _ h' _ (.lst (lettersV x)) from ⟨hn, acc'.toList, c', hv, e⟩), rfl, q _ (I.hok.fresh (Nat.le_refl _))⟩
theorem letters_rps {K : Fg} {F : Hp} : ∀ cs : List Nat, Rps K F (cs.map fun c => V.str ⟨#[c]⟩) (cs.map fun c => PyData.str ⟨#[c]⟩)
  | [] => .nil
  | c :: cs => .cons (.str _) (letters_rps cs)
theorem ok_listS {K : Fg} : CallOk K (fun xs H Q => ∃ x, xs = [.str x] ∧ x.cps.size ≤ 1000 ∧ ∀ l, H l = none → Q (.ref l) (upd H l (.lst (lettersV x)))) cListS := fun F H a fu vs rs post Q e t hf k => by
  unfold cListS at hf
  split at hf
  · rename_i x
    obtain ⟨v, rfl, r⟩ := t.v1
    cases r
    refine ⟨x, rfl, hf.1, fun l hl => ?_⟩
    have gr := Gr.new (o := .lst (lettersV x)) e hl
    exact k _ _ _ _ hf.2 gr (.lst upd_same (letters_rps _))
  · exact hf.elim
theorem e_listS (hc : X.calm = true) (hg : Gl X "list") (hm : X.mg "list" = none) (ha : PA X [e] (upA X.K tr)) (he : starEach [e] X.env = (false, eval e X.env) :: starEach [] X.env := by rfl) : PE X (.Call (.Name "list" p) [e] [] pos) (up X.K (dCB cListS tr)) := e_callTy (call_listS hc) ok_listS hg hm (by decide +kernel) ha (by decide) (by decide) he rfl
end
end Z
namespace Z
open L2 PySem PySem.Spec PyProof.Rows
abbrev sg (x : Str) : List Nat := x.cps.toList
def isDg (c : Nat) : Bool := decide (48 ≤ c) && decide (c ≤ 57)
theorem dg_mem (c : Nat) : decide (c ∈ sg "0123456789") = isDg c := by
  have e : sg "0123456789" = [48, 49, 50, 51, 52, 53, 54, 55, 56, 57] := by decide +kernel
  rw [e]
  unfold isDg
  rw [← Bool.decide_and]
  refine decide_eq_decide.mpr ?_
  simp only [List.mem_cons, List.not_mem_nil, or_false]
  omega
/-- a word of digits without a leading zero -/
def dgW (w : Str) : Bool := (sg w).all isDg
theorem dgW_all {w : Str} (h : dgW w = true) : PySem.NumText.AllDigits (sg w) := fun c hc => by
  have := List.all_eq_true.mp h c hc
  simp only [isDg, Bool.and_eq_true, decide_eq_true_eq] at this
  exact this
def intIn (w : Str) : Option Int := if (sg w).isEmpty || !dgW w || (decide (1 < w.length) && decide ((sg w).head? = some 48)) then none else some ((PySem.NumText.digitsVal (sg w) : Nat) : Int)
theorem int_text {w : Str} (h : dgW w = true) (h0 : (sg w).isEmpty = false) (hl : w.length ≤ 640) : PySem.intText? w = some ((PySem.NumText.digitsVal (sg w) : Nat) : Int) :=
  PySem.intText_digits (dgW_all h) (fun e => by rw [show sg w = [] from e] at h0; cases h0) (by omega)
theorem sg_len (w : Str) : (sg w).length = w.length := Array.length_toList
theorem sg_empty (w : Str) : w = "" ↔ (sg w).isEmpty = true := by
  constructor
  · rintro rfl; decide +kernel
  · intro h
    obtain ⟨⟨l⟩⟩ := w
    cases l with
    | nil => decide +kernel
    | cons c l => cases h
def optI : Option Int → Da
  | none => .none
  | some n => .int n
/-- what the law's own count says -/
def cntIn (w : Str) : Int := match intIn w with
  | none => -1
  | some n => n
theorem intIn_nn {w : Str} {n : Int} (h : intIn w = some n) : 0 ≤ n := by
  unfold intIn at h
  split at h
  · cases h
  · cases h; omega
theorem intIn_dg {w : Str} {n : Int} (h : intIn w = some n) : dgW w = true ∧ (sg w).isEmpty = false := by
  unfold intIn at h
  split at h
  · cases h
  · rename_i q
    simp only [Bool.or_eq_true, not_or, Bool.not_eq_true, Bool.not_eq_false'] at q
    exact ⟨by simpa using q.1.2, q.1.1⟩
theorem sub_joinL (S : List Nat) : ∀ {ps : List (List Nat)} {p : List Nat}, p ∈ ps → p.Sublist (TL.joinL S ps)
  | [], _, h => by cases h
  | [q], p, h => by
    rw [List.mem_singleton.mp h]
    exact List.Sublist.refl _
  | q :: r :: ps, p, h => by
    show p.Sublist (q ++ (S ++ TL.joinL S (r :: ps)))
    rcases List.mem_cons.mp h with e | h
    · rw [e]
      exact List.sublist_append_left _ _
    · exact ((sub_joinL S h).trans (List.sublist_append_right _ _)).trans (List.sublist_append_right _ _)
theorem split_sub {t sep p : Str} (h : p ∈ Txt.split t sep) : (sg p).Sublist (sg t) := by
  have e := PySem.StrLaws.join_split t sep
  have e2 := TL.tl_join sep (Txt.split t sep)
  rw [e] at e2
  show (TL.tl p).Sublist (TL.tl t)
  rw [e2]
  exact sub_joinL _ (List.mem_map.mpr ⟨p, h, rfl⟩)
/-- a text of the law: short, plain signs, few digits -/
structure TX (n : Nat) (t : Str) : Prop where
  len : t.length ≤ 20000
  asc : ∀ c ∈ sg t, c < 128
  dg : (sg t).countP isDg ≤ n
theorem TX.mono {n m : Nat} {t : Str} (h : TX n t) (hm : n ≤ m) : TX m t := ⟨h.len, h.asc, Nat.le_trans h.dg hm⟩
theorem TX.sub {n : Nat} {t p : Str} (h : TX n t) (s : (sg p).Sublist (sg t)) : TX n p :=
  ⟨by have := s.length_le; rw [sg_len, sg_len] at this; exact Nat.le_trans this h.len, fun c hc => h.asc c (s.subset hc), Nat.le_trans (s.countP_le) h.dg⟩
theorem TX.part {n : Nat} {t p sep : Str} (h : TX n t) (hp : p ∈ Txt.split t sep) : TX n p := h.sub (split_sub hp)
theorem TX.word {n : Nat} {t : Str} (h : TX n t) (hd : dgW t = true) : t.length ≤ n := by
  have e : (sg t).countP isDg = (sg t).length := List.countP_eq_length.mpr fun c hc => List.all_eq_true.mp hd c hc
  rw [← sg_len, ← e]
  exact h.dg
theorem TX.ok {n : Nat} {t : Str} (h : TX n t) : PyData.strOk t = true := by
  show t.cps.all (fun c => decide (c < 0x110000)) = true
  rw [← Array.all_toList, List.all_eq_true]
  exact fun c hc => decide_eq_true (Nat.lt_trans (h.asc c hc) (by decide))
theorem TX.shaped {n : Nat} {t : Str} (h : TX n t) : SeqAt.shaped (.str t) = true := by
  simp [SeqAt.shaped, PyData.canLay0, PyData.depth, h.ok]
theorem TX.fits {n : Nat} {t : Str} (h : TX n t) : t.length ≤ sizeLine ∧ t.length + 2 ≤ sizeLine ∧ t.length ≤ 1000000 := by
  have := h.len
  rw [sizeLine_eq]
  omega
/-- whether a letter is a digit, as data -/
def dgF : Da → Da
  | .str x => .bool (decide (x.cps.getD 0 0 ∈ sg "0123456789"))
  | _ => .none
theorem dg_letters (w : Str) : boolsD ((lettersD w).map dgF) = some ((sg w).map isDg) := by
  show boolsD (((sg w).map fun c => PyData.str ⟨#[c]⟩).map dgF) = some ((sg w).map isDg)
  generalize sg w = l
  induction l with
  | nil => rfl
  | cons c cs ih =>
    rw [List.map_cons, List.map_cons, List.map_cons]
    show (boolsD ((cs.map fun c => PyData.str ⟨#[c]⟩).map dgF)).map (decide (c ∈ sg "0123456789") :: ·) = _
    rw [ih, dg_mem]
    rfl
theorem dg_all (w : Str) : ((sg w).map isDg).all id = dgW w := by
  unfold dgW
  rw [List.all_map]
  rfl
theorem sg_first {w : Str} (h : (sg w).isEmpty = false) : ∃ c, atI w.cps.toList 0 = some c ∧ (sg w).head? = some c := by
  cases e : w.cps.toList with
  | nil => rw [show sg w = [] from e] at h; cases h
  | cons c cs => exact ⟨c, atI_0, by rw [show sg w = c :: cs from e]; rfl⟩
theorem str_zero {c : Nat} : (⟨#[c]⟩ : Str) = "0" ↔ c = 48 := by
  have e : ("0" : Str) = ⟨#[48]⟩ := by decide +kernel
  rw [e]
  constructor
  · intro h
    injection h with h
    have := congrArg Array.toList h
    simpa using this
  · rintro rfl; rfl
end Z
namespace LAW
open Z L2 PySem PySem.Spec PyProof.Rows
open Evl (Ex ex_l ex_t ex_rd fresh_back)
local macro_rules
  | `(tactic| simp_arith [$xs,*]) => `(tactic| simp only [↓dSplit,↓dJoin,↓dFmt,↓dJs,↓dFstr,↓dIxS,↓fInC,↓dRevS,↓dUpper,↓dSeq,↓dAsg,↓dSetL,↓dNext,↓dIfS,↓dRet,↓dRetL,↓dDrop,↓dNever,↓dPar,↓dApp,↓dExt,↓dVar,↓dC,↓dBin,↓fI,↓fI0,↓fAdd,↓fEq,↓fNe,↓fIn,↓dTest,↓dAndT,↓dOrT,↓dNotT,↓dAndV,↓dNotV,↓dIf,↓dNeg,↓dIsN,↓dChain,↓dNil,↓dCons,↓dTup,↓dLst,↓dFz,↓valsD,↓dIx,↓dCall,↓dCallL,↓hasSrc,↓rrv,↓dN,↓dT,↓dTn,↓dTc,↓rsv,↓Gs.set,↓dFor,↓dItems,↓dRange1,↓dLc,↓dCB,↓cLen,↓cAll,↓cTuple,↓cInt1,↓cInt2,↓dIsi,↓dCallS,↓oSub,↓oMul,↓oDiv,↓oMod,↓oShl,↓oPow,↓oLt,↓oLe,↓oGt,↓oGe,↓oAbs,↓oMax,↓oMin,↓cSortedD,↓dSl,↓oNo,↓oSo,↓dD0,↓dD1,↓fAddT,↓dSlS,↓dCatL,↓cIntS,↓cReprX,↓cStrI,↓dRaise,↓dStop,↓dDropX,↓dAsgX,↓dCallX,↓dXval,↓dTry,↓dHand,↓dAs,↓gAs,↓Gs.unset,↓rtN,↓dLam,↓dAct,↓lamF,↓gLam,↓plainO,↓dIsiX,↓dIsiXT,↓dIsNX,↓Z.isNon,↓dLetters, $xs,*, ent,svOf,List.map_cons,List.map_nil,List.cons_append,List.nil_append,List.append_nil,List.replicate,List.length_cons,List.length_nil,List.getElem?_cons_zero,List.getElem?_cons_succ,List.getElem?_nil,List.set_cons_zero,List.set_cons_succ,Option.map_some,Option.map_none,Option.isNone_some,Option.isNone_none,forall_const,true_implies,false_implies,and_true,true_and,Bool.true_eq_false,Bool.false_eq_true,reduceCtorEq,noOwn,wipeS,hide,fuN_self,lcD,dYes,Nat.zero_add,Nat.reduceAdd,Nat.reduceLeDiff,Nat.reduceSub,atI_0,atI_1,atI_2,atI_3,atI_4,atI_5,Int.one_mul,eqv_ii,eqv_ss,eqv_num,shaped_int,shaped_num,shaped_none,shaped_ru,flat_str,flat_int,flat_none,List.all_cons,List.all_nil,Bool.and_true,decide_eq_true_eq,decide_eq_false_iff_not,Bool.not_eq_true',Bool.not_eq_false',Decidable.not_not,↓reduceIte,Bool.false_eq_true,Int.reduceLT,eqv_strs,pick_0,pick_01,pick_10,pick_012,pick_021,pick_102,pick_120,pick_201,pick_210])
  | `(tactic| simp_arith [$xs,*] at $h:ident) => `(tactic| simp only [↓dSplit,↓dJoin,↓dFmt,↓dJs,↓dFstr,↓dIxS,↓fInC,↓dRevS,↓dUpper,↓dSeq,↓dAsg,↓dSetL,↓dNext,↓dIfS,↓dRet,↓dRetL,↓dDrop,↓dNever,↓dPar,↓dApp,↓dExt,↓dVar,↓dC,↓dBin,↓fI,↓fI0,↓fAdd,↓fEq,↓fNe,↓fIn,↓dTest,↓dAndT,↓dOrT,↓dNotT,↓dAndV,↓dNotV,↓dIf,↓dNeg,↓dIsN,↓dChain,↓dNil,↓dCons,↓dTup,↓dLst,↓dFz,↓valsD,↓dIx,↓dCall,↓dCallL,↓hasSrc,↓rrv,↓dN,↓dT,↓dTn,↓dTc,↓rsv,↓Gs.set,↓dFor,↓dItems,↓dRange1,↓dLc,↓dCB,↓cLen,↓cAll,↓cTuple,↓cInt1,↓cInt2,↓dIsi,↓dCallS,↓oSub,↓oMul,↓oDiv,↓oMod,↓oShl,↓oPow,↓oLt,↓oLe,↓oGt,↓oGe,↓oAbs,↓oMax,↓oMin,↓cSortedD,↓dSl,↓oNo,↓oSo,↓dD0,↓dD1,↓fAddT,↓dSlS,↓dCatL,↓cIntS,↓cReprX,↓cStrI,↓dRaise,↓dStop,↓dDropX,↓dAsgX,↓dCallX,↓dXval,↓dTry,↓dHand,↓dAs,↓gAs,↓Gs.unset,↓rtN,↓dLam,↓dAct,↓lamF,↓gLam,↓plainO,↓dIsiX,↓dIsiXT,↓dIsNX,↓Z.isNon,↓dLetters, $xs,*, ent,svOf,List.map_cons,List.map_nil,List.cons_append,List.nil_append,List.append_nil,List.replicate,List.length_cons,List.length_nil,List.getElem?_cons_zero,List.getElem?_cons_succ,List.getElem?_nil,List.set_cons_zero,List.set_cons_succ,Option.map_some,Option.map_none,Option.isNone_some,Option.isNone_none,forall_const,true_implies,false_implies,and_true,true_and,Bool.true_eq_false,Bool.false_eq_true,reduceCtorEq,noOwn,wipeS,hide,fuN_self,lcD,dYes,Nat.zero_add,Nat.reduceAdd,Nat.reduceLeDiff,Nat.reduceSub,atI_0,atI_1,atI_2,atI_3,atI_4,atI_5,Int.one_mul,eqv_ii,eqv_ss,eqv_num,shaped_int,shaped_num,shaped_none,shaped_ru,flat_str,flat_int,flat_none,List.all_cons,List.all_nil,Bool.and_true,decide_eq_true_eq,decide_eq_false_iff_not,Bool.not_eq_true',Bool.not_eq_false',Decidable.not_not,↓reduceIte,Bool.false_eq_true,Int.reduceLT,eqv_strs,pick_0,pick_01,pick_10,pick_012,pick_021,pick_102,pick_120,pick_201,pick_210] at $h:ident)
def topS (i : Nat) : Stmt := PySem.Challenge.pw_stagedrounding_k57_texts_of_no_number_or.main.body.getD i (.Pass ⟨0, 0, 0, 0⟩)
abbrev st_InvalidText_init : Stmt := inClass (topS 4) 0
abbrev N_InvalidText_init : List Str := ["self", "value"]
theorem sc_InvalidText_init : FnScope N_InvalidText_init ["self", "value"] (defScope st_InvalidText_init) := ⟨rfl, rfl, rfl, by decide +kernel, rfl, by decide +kernel, by decide +kernel⟩
abbrev st_InvalidChain_init : Stmt := inClass (topS 3) 0
abbrev N_InvalidChain_init : List Str := ["self", "value"]
theorem sc_InvalidChain_init : FnScope N_InvalidChain_init ["self", "value"] (defScope st_InvalidChain_init) := ⟨rfl, rfl, rfl, by decide +kernel, rfl, by decide +kernel, by decide +kernel⟩
abbrev st_InvalidNumber_init : Stmt := inClass (topS 2) 0
abbrev N_InvalidNumber_init : List Str := ["self", "value"]
theorem sc_InvalidNumber_init : FnScope N_InvalidNumber_init ["self", "value"] (defScope st_InvalidNumber_init) := ⟨rfl, rfl, rfl, by decide +kernel, rfl, by decide +kernel, by decide +kernel⟩
abbrev st_is_int : Stmt := topS 8
abbrev N_is_int : List Str := ["value", "least"]
theorem sc_is_int : FnScope N_is_int ["value", "least"] (defScope st_is_int) := ⟨rfl, rfl, rfl, by decide +kernel, rfl, by decide +kernel, by decide +kernel⟩
abbrev st_common_divisor : Stmt := topS 9
abbrev N_common_divisor : List Str := ["one", "other"]
theorem sc_common_divisor : FnScope N_common_divisor ["one", "other"] (defScope st_common_divisor) := ⟨rfl, rfl, rfl, by decide +kernel, rfl, by decide +kernel, by decide +kernel⟩
abbrev st_is_number : Stmt := topS 10
abbrev N_is_number : List Str := ["value", "part"]
theorem sc_is_number : FnScope N_is_number ["value"] (defScope st_is_number) := ⟨rfl, rfl, rfl, by decide +kernel, rfl, by decide +kernel, by decide +kernel⟩
abbrev st_is_width : Stmt := topS 11
abbrev N_is_width : List Str := ["value"]
theorem sc_is_width : FnScope N_is_width ["value"] (defScope st_is_width) := ⟨rfl, rfl, rfl, by decide +kernel, rfl, by decide +kernel, by decide +kernel⟩
abbrev st_check_number : Stmt := topS 12
abbrev N_check_number : List Str := ["value"]
theorem sc_check_number : FnScope N_check_number ["value"] (defScope st_check_number) := ⟨rfl, rfl, rfl, by decide +kernel, rfl, by decide +kernel, by decide +kernel⟩
abbrev st_is_rule : Stmt := topS 21
abbrev N_is_rule : List Str := ["value"]
theorem sc_is_rule : FnScope N_is_rule ["value"] (defScope st_is_rule) := ⟨rfl, rfl, rfl, by decide +kernel, rfl, by decide +kernel, by decide +kernel⟩
abbrev st_is_step : Stmt := topS 25
abbrev N_is_step : List Str := ["value"]
theorem sc_is_step : FnScope N_is_step ["value"] (defScope st_is_step) := ⟨rfl, rfl, rfl, by decide +kernel, rfl, by decide +kernel, by decide +kernel⟩
abbrev st_is_chain : Stmt := topS 26
abbrev N_is_chain : List Str := ["value", "step"]
theorem sc_is_chain : FnScope N_is_chain ["value"] (defScope st_is_chain) := ⟨rfl, rfl, rfl, by decide +kernel, rfl, by decide +kernel, by decide +kernel⟩
abbrev st_check_chain : Stmt := topS 27
abbrev N_check_chain : List Str := ["value"]
theorem sc_check_chain : FnScope N_check_chain ["value"] (defScope st_check_chain) := ⟨rfl, rfl, rfl, by decide +kernel, rfl, by decide +kernel, by decide +kernel⟩
abbrev st_format_number : Stmt := topS 33
abbrev N_format_number : List Str := ["number", "n", "d"]
theorem sc_format_number : FnScope N_format_number ["number"] (defScope st_format_number) := ⟨rfl, rfl, rfl, by decide +kernel, rfl, by decide +kernel, by decide +kernel⟩
abbrev st_format_chain : Stmt := topS 34
abbrev N_format_chain : List Str := ["chain", "width", "rule"]
theorem sc_format_chain : FnScope N_format_chain ["chain"] (defScope st_format_chain) := ⟨rfl, rfl, rfl, by decide +kernel, rfl, by decide +kernel, by decide +kernel⟩
abbrev st_int_in : Stmt := topS 35
abbrev N_int_in : List Str := ["word", "character"]
theorem sc_int_in : FnScope N_int_in ["word"] (defScope st_int_in) := ⟨rfl, rfl, rfl, by decide +kernel, rfl, by decide +kernel, by decide +kernel⟩
abbrev st_number_in : Stmt := topS 36
abbrev N_number_in : List Str := ["text", "parts", "number", "word"]
theorem sc_number_in : FnScope N_number_in ["text"] (defScope st_number_in) := ⟨rfl, rfl, rfl, by decide +kernel, rfl, by decide +kernel, by decide +kernel⟩
abbrev st_step_in : Stmt := topS 37
abbrev N_step_in : List Str := ["text", "words"]
theorem sc_step_in : FnScope N_step_in ["text"] (defScope st_step_in) := ⟨rfl, rfl, rfl, by decide +kernel, rfl, by decide +kernel, by decide +kernel⟩
abbrev st_chain_in : Stmt := topS 38
abbrev N_chain_in : List Str := ["text", "chain", "part"]
theorem sc_chain_in : FnScope N_chain_in ["text"] (defScope st_chain_in) := ⟨rfl, rfl, rfl, by decide +kernel, rfl, by decide +kernel, by decide +kernel⟩
abbrev st_parse_number : Stmt := topS 39
abbrev N_parse_number : List Str := ["text", "number"]
theorem sc_parse_number : FnScope N_parse_number ["text"] (defScope st_parse_number) := ⟨rfl, rfl, rfl, by decide +kernel, rfl, by decide +kernel, by decide +kernel⟩
abbrev st_parse_chain : Stmt := topS 40
abbrev N_parse_chain : List Str := ["text", "chain"]
theorem sc_parse_chain : FnScope N_parse_chain ["text"] (defScope st_parse_chain) := ⟨rfl, rfl, rfl, by decide +kernel, rfl, by decide +kernel, by decide +kernel⟩
abbrev st__law_source : Stmt := topS 42
abbrev N__law_source : List Str := ["_law_script", "_law_k", "_law_given", "_law_digits"]
theorem sc__law_source : FnScope N__law_source ["_law_script", "_law_k"] (defScope st__law_source) := ⟨rfl, rfl, rfl, by decide +kernel, rfl, by decide +kernel, by decide +kernel⟩
abbrev st__law_draw : Stmt := topS 43
abbrev N__law_draw : List Str := ["_law_source_here", "_law_size", "_law_digit", "_law_turn", "_law_mixed"]
theorem sc__law_draw : FnScope N__law_draw ["_law_source_here", "_law_size"] (defScope st__law_draw) := ⟨rfl, rfl, rfl, by decide +kernel, rfl, by decide +kernel, by decide +kernel⟩
abbrev st__law_pick : Stmt := topS 44
abbrev N__law_pick : List Str := ["_law_source_here", "_law_some"]
theorem sc__law_pick : FnScope N__law_pick ["_law_source_here", "_law_some"] (defScope st__law_pick) := ⟨rfl, rfl, rfl, by decide +kernel, rfl, by decide +kernel, by decide +kernel⟩
abbrev st__law_divisor : Stmt := topS 45
abbrev N__law_divisor : List Str := ["_law_one", "_law_other"]
theorem sc__law_divisor : FnScope N__law_divisor ["_law_one", "_law_other"] (defScope st__law_divisor) := ⟨rfl, rfl, rfl, by decide +kernel, rfl, by decide +kernel, by decide +kernel⟩
abbrev st__law_low : Stmt := topS 46
abbrev N__law_low : List Str := ["_law_n", "_law_d", "_law_by"]
theorem sc__law_low : FnScope N__law_low ["_law_n", "_law_d"] (defScope st__law_low) := ⟨rfl, rfl, rfl, by decide +kernel, rfl, by decide +kernel, by decide +kernel⟩
abbrev st__law_scaled : Stmt := topS 47
abbrev N__law_scaled : List Str := ["_law_number_here", "_law_e", "_law_n", "_law_d"]
theorem sc__law_scaled : FnScope N__law_scaled ["_law_number_here", "_law_e"] (defScope st__law_scaled) := ⟨rfl, rfl, rfl, by decide +kernel, rfl, by decide +kernel, by decide +kernel⟩
abbrev st__law_number : Stmt := topS 48
abbrev N__law_number : List Str := ["_law_source_here", "_law_most", "_law_n", "_law_d"]
theorem sc__law_number : FnScope N__law_number ["_law_source_here", "_law_most"] (defScope st__law_number) := ⟨rfl, rfl, rfl, by decide +kernel, rfl, by decide +kernel, by decide +kernel⟩
abbrev st__law_rule : Stmt := topS 49
abbrev N__law_rule : List Str := ["_law_source_here"]
theorem sc__law_rule : FnScope N__law_rule ["_law_source_here"] (defScope st__law_rule) := ⟨rfl, rfl, rfl, by decide +kernel, rfl, by decide +kernel, by decide +kernel⟩
abbrev st__law_chain : Stmt := topS 50
abbrev N__law_chain : List Str := ["_law_source_here", "_law_last", "_law_most", "_law_far", "_law_found", "_law_turn", "_law_falling", "_law_width", "_law_rule_here"]
theorem sc__law_chain : FnScope N__law_chain ["_law_source_here", "_law_last", "_law_most", "_law_far"] (defScope st__law_chain) := ⟨rfl, rfl, rfl, by decide +kernel, rfl, by decide +kernel, by decide +kernel⟩
abbrev st__law_is_int : Stmt := topS 51
abbrev N__law_is_int : List Str := ["_law_value", "_law_least"]
theorem sc__law_is_int : FnScope N__law_is_int ["_law_value", "_law_least"] (defScope st__law_is_int) := ⟨rfl, rfl, rfl, by decide +kernel, rfl, by decide +kernel, by decide +kernel⟩
abbrev st__law_is_number : Stmt := topS 52
abbrev N__law_is_number : List Str := ["_law_value", "_law_part"]
theorem sc__law_is_number : FnScope N__law_is_number ["_law_value"] (defScope st__law_is_number) := ⟨rfl, rfl, rfl, by decide +kernel, rfl, by decide +kernel, by decide +kernel⟩
abbrev st__law_is_chain : Stmt := topS 53
abbrev N__law_is_chain : List Str := ["_law_value", "_law_rules", "_law_step"]
theorem sc__law_is_chain : FnScope N__law_is_chain ["_law_value"] (defScope st__law_is_chain) := ⟨rfl, rfl, rfl, by decide +kernel, rfl, by decide +kernel, by decide +kernel⟩
abbrev st__law_odd : Stmt := topS 54
abbrev N__law_odd : List Str := ["_law_source_here", "_law_some", "_law_given", "_law_turn"]
theorem sc__law_odd : FnScope N__law_odd ["_law_source_here"] (defScope st__law_odd) := ⟨rfl, rfl, rfl, by decide +kernel, rfl, by decide +kernel, by decide +kernel⟩
abbrev st__law_count_in : Stmt := topS 55
abbrev N__law_count_in : List Str := ["_law_word", "_law_character"]
theorem sc__law_count_in : FnScope N__law_count_in ["_law_word"] (defScope st__law_count_in) := ⟨rfl, rfl, rfl, by decide +kernel, rfl, by decide +kernel, by decide +kernel⟩
abbrev st__law_number_in : Stmt := topS 56
abbrev N__law_number_in : List Str := ["_law_line", "_law_parts", "_law_word"]
theorem sc__law_number_in : FnScope N__law_number_in ["_law_line"] (defScope st__law_number_in) := ⟨rfl, rfl, rfl, by decide +kernel, rfl, by decide +kernel, by decide +kernel⟩
abbrev st__law_chain_in : Stmt := topS 57
abbrev N__law_chain_in : List Str := ["_law_line", "_law_found", "_law_part", "_law_words"]
theorem sc__law_chain_in : FnScope N__law_chain_in ["_law_line"] (defScope st__law_chain_in) := ⟨rfl, rfl, rfl, by decide +kernel, rfl, by decide +kernel, by decide +kernel⟩
abbrev st__law_changed : Stmt := topS 58
abbrev N__law_changed : List Str := ["_law_source_here", "_law_line", "_law_at", "_law_way"]
theorem sc__law_changed : FnScope N__law_changed ["_law_source_here", "_law_line"] (defScope st__law_changed) := ⟨rfl, rfl, rfl, by decide +kernel, rfl, by decide +kernel, by decide +kernel⟩
abbrev st__law_told : Stmt := topS 59
abbrev N__law_told : List Str := ["_law_ask", "_law_caught", "_law_told_here", "error"]
theorem sc__law_told : FnScope N__law_told ["_law_ask"] (defScope st__law_told) := ⟨rfl, rfl, rfl, by decide +kernel, rfl, by decide +kernel, by decide +kernel⟩
abbrev st__law_right : Stmt := topS 60
abbrev N__law_right : List Str := ["_law_source_here", "_law_lines", "_law_turn", "_law_one", "_law_steps", "_law_line", "_law_due"]
theorem sc__law_right : FnScope N__law_right ["_law_source_here"] (defScope st__law_right) := ⟨rfl, rfl, rfl, by decide +kernel, rfl, by decide +kernel, by decide +kernel⟩
abbrev st_law : Stmt := topS 61
abbrev N_law : List Str := ["_law_script", "_law_k"]
theorem sc_law : FnScope N_law ["_law_script"] (defScope st_law) := ⟨rfl, rfl, rfl, by decide +kernel, rfl, by decide +kernel, by decide +kernel⟩
set_option genInjectivity false in
set_option genSizeOf false in
set_option genSizeOfSpec false in
structure Tx (w : World) (K : Fg) (mg : Str → Option Value) where
  f_InvalidText_init : Addr
  fd_InvalidText_init : FuncData
  F_InvalidText_init : Fun K "__init__" "InvalidText.__init__" st_InvalidText_init f_InvalidText_init fd_InvalidText_init
  b_InvalidText_init : Binds K fd_InvalidText_init ["self", "value"] []
  f_InvalidChain_init : Addr
  fd_InvalidChain_init : FuncData
  F_InvalidChain_init : Fun K "__init__" "InvalidChain.__init__" st_InvalidChain_init f_InvalidChain_init fd_InvalidChain_init
  b_InvalidChain_init : Binds K fd_InvalidChain_init ["self", "value"] []
  f_InvalidNumber_init : Addr
  fd_InvalidNumber_init : FuncData
  F_InvalidNumber_init : Fun K "__init__" "InvalidNumber.__init__" st_InvalidNumber_init f_InvalidNumber_init fd_InvalidNumber_init
  b_InvalidNumber_init : Binds K fd_InvalidNumber_init ["self", "value"] []
  f_is_int : Addr
  fd_is_int : FuncData
  F_is_int : Fun K "is_int" "is_int" st_is_int f_is_int fd_is_int
  b_is_int : Binds K fd_is_int ["value", "least"] []
  g_is_int : mg "is_int" = some (.ref f_is_int)
  f_common_divisor : Addr
  fd_common_divisor : FuncData
  F_common_divisor : Fun K "common_divisor" "common_divisor" st_common_divisor f_common_divisor fd_common_divisor
  b_common_divisor : Binds K fd_common_divisor ["one", "other"] []
  g_common_divisor : mg "common_divisor" = some (.ref f_common_divisor)
  f_is_number : Addr
  fd_is_number : FuncData
  F_is_number : Fun K "is_number" "is_number" st_is_number f_is_number fd_is_number
  b_is_number : Binds K fd_is_number ["value"] []
  g_is_number : mg "is_number" = some (.ref f_is_number)
  f_is_width : Addr
  fd_is_width : FuncData
  F_is_width : Fun K "is_width" "is_width" st_is_width f_is_width fd_is_width
  b_is_width : Binds K fd_is_width ["value"] []
  g_is_width : mg "is_width" = some (.ref f_is_width)
  f_check_number : Addr
  fd_check_number : FuncData
  F_check_number : Fun K "check_number" "check_number" st_check_number f_check_number fd_check_number
  b_check_number : Binds K fd_check_number ["value"] []
  g_check_number : mg "check_number" = some (.ref f_check_number)
  f_is_rule : Addr
  fd_is_rule : FuncData
  F_is_rule : Fun K "is_rule" "is_rule" st_is_rule f_is_rule fd_is_rule
  b_is_rule : Binds K fd_is_rule ["value"] []
  g_is_rule : mg "is_rule" = some (.ref f_is_rule)
  f_is_step : Addr
  fd_is_step : FuncData
  F_is_step : Fun K "is_step" "is_step" st_is_step f_is_step fd_is_step
  b_is_step : Binds K fd_is_step ["value"] []
  g_is_step : mg "is_step" = some (.ref f_is_step)
  f_is_chain : Addr
  fd_is_chain : FuncData
  F_is_chain : Fun K "is_chain" "is_chain" st_is_chain f_is_chain fd_is_chain
  b_is_chain : Binds K fd_is_chain ["value"] []
  g_is_chain : mg "is_chain" = some (.ref f_is_chain)
  f_check_chain : Addr
  fd_check_chain : FuncData
  F_check_chain : Fun K "check_chain" "check_chain" st_check_chain f_check_chain fd_check_chain
  b_check_chain : Binds K fd_check_chain ["value"] []
  g_check_chain : mg "check_chain" = some (.ref f_check_chain)
  f_format_number : Addr
  fd_format_number : FuncData
  F_format_number : Fun K "format_number" "format_number" st_format_number f_format_number fd_format_number
  b_format_number : Binds K fd_format_number ["number"] []
  g_format_number : mg "format_number" = some (.ref f_format_number)
  f_format_chain : Addr
  fd_format_chain : FuncData
  F_format_chain : Fun K "format_chain" "format_chain" st_format_chain f_format_chain fd_format_chain
  b_format_chain : Binds K fd_format_chain ["chain"] []
  g_format_chain : mg "format_chain" = some (.ref f_format_chain)
  f_int_in : Addr
  fd_int_in : FuncData
  F_int_in : Fun K "int_in" "int_in" st_int_in f_int_in fd_int_in
  b_int_in : Binds K fd_int_in ["word"] []
  g_int_in : mg "int_in" = some (.ref f_int_in)
  f_number_in : Addr
  fd_number_in : FuncData
  F_number_in : Fun K "number_in" "number_in" st_number_in f_number_in fd_number_in
  b_number_in : Binds K fd_number_in ["text"] []
  g_number_in : mg "number_in" = some (.ref f_number_in)
  f_step_in : Addr
  fd_step_in : FuncData
  F_step_in : Fun K "step_in" "step_in" st_step_in f_step_in fd_step_in
  b_step_in : Binds K fd_step_in ["text"] []
  g_step_in : mg "step_in" = some (.ref f_step_in)
  f_chain_in : Addr
  fd_chain_in : FuncData
  F_chain_in : Fun K "chain_in" "chain_in" st_chain_in f_chain_in fd_chain_in
  b_chain_in : Binds K fd_chain_in ["text"] []
  g_chain_in : mg "chain_in" = some (.ref f_chain_in)
  f_parse_number : Addr
  fd_parse_number : FuncData
  F_parse_number : Fun K "parse_number" "parse_number" st_parse_number f_parse_number fd_parse_number
  b_parse_number : Binds K fd_parse_number ["text"] []
  g_parse_number : mg "parse_number" = some (.ref f_parse_number)
  f_parse_chain : Addr
  fd_parse_chain : FuncData
  F_parse_chain : Fun K "parse_chain" "parse_chain" st_parse_chain f_parse_chain fd_parse_chain
  b_parse_chain : Binds K fd_parse_chain ["text"] []
  g_parse_chain : mg "parse_chain" = some (.ref f_parse_chain)
  f__law_source : Addr
  fd__law_source : FuncData
  F__law_source : Fun K "_law_source" "_law_source" st__law_source f__law_source fd__law_source
  b__law_source : Binds K fd__law_source ["_law_script", "_law_k"] []
  g__law_source : mg "_law_source" = some (.ref f__law_source)
  f__law_draw : Addr
  fd__law_draw : FuncData
  F__law_draw : Fun K "_law_draw" "_law_draw" st__law_draw f__law_draw fd__law_draw
  b__law_draw : Binds K fd__law_draw ["_law_source_here", "_law_size"] []
  g__law_draw : mg "_law_draw" = some (.ref f__law_draw)
  f__law_pick : Addr
  fd__law_pick : FuncData
  F__law_pick : Fun K "_law_pick" "_law_pick" st__law_pick f__law_pick fd__law_pick
  b__law_pick : Binds K fd__law_pick ["_law_source_here", "_law_some"] []
  g__law_pick : mg "_law_pick" = some (.ref f__law_pick)
  f__law_divisor : Addr
  fd__law_divisor : FuncData
  F__law_divisor : Fun K "_law_divisor" "_law_divisor" st__law_divisor f__law_divisor fd__law_divisor
  b__law_divisor : Binds K fd__law_divisor ["_law_one", "_law_other"] []
  g__law_divisor : mg "_law_divisor" = some (.ref f__law_divisor)
  f__law_low : Addr
  fd__law_low : FuncData
  F__law_low : Fun K "_law_low" "_law_low" st__law_low f__law_low fd__law_low
  b__law_low : Binds K fd__law_low ["_law_n", "_law_d"] []
  g__law_low : mg "_law_low" = some (.ref f__law_low)
  f__law_scaled : Addr
  fd__law_scaled : FuncData
  F__law_scaled : Fun K "_law_scaled" "_law_scaled" st__law_scaled f__law_scaled fd__law_scaled
  b__law_scaled : Binds K fd__law_scaled ["_law_number_here", "_law_e"] []
  g__law_scaled : mg "_law_scaled" = some (.ref f__law_scaled)
  f__law_number : Addr
  fd__law_number : FuncData
  F__law_number : Fun K "_law_number" "_law_number" st__law_number f__law_number fd__law_number
  b__law_number : Binds K fd__law_number ["_law_source_here", "_law_most"] []
  g__law_number : mg "_law_number" = some (.ref f__law_number)
  f__law_rule : Addr
  fd__law_rule : FuncData
  F__law_rule : Fun K "_law_rule" "_law_rule" st__law_rule f__law_rule fd__law_rule
  b__law_rule : Binds K fd__law_rule ["_law_source_here"] []
  g__law_rule : mg "_law_rule" = some (.ref f__law_rule)
  f__law_chain : Addr
  fd__law_chain : FuncData
  F__law_chain : Fun K "_law_chain" "_law_chain" st__law_chain f__law_chain fd__law_chain
  b__law_chain : Binds K fd__law_chain ["_law_source_here", "_law_last", "_law_most", "_law_far"] []
  g__law_chain : mg "_law_chain" = some (.ref f__law_chain)
  f__law_is_int : Addr
  fd__law_is_int : FuncData
  F__law_is_int : Fun K "_law_is_int" "_law_is_int" st__law_is_int f__law_is_int fd__law_is_int
  b__law_is_int : Binds K fd__law_is_int ["_law_value", "_law_least"] []
  g__law_is_int : mg "_law_is_int" = some (.ref f__law_is_int)
  f__law_is_number : Addr
  fd__law_is_number : FuncData
  F__law_is_number : Fun K "_law_is_number" "_law_is_number" st__law_is_number f__law_is_number fd__law_is_number
  b__law_is_number : Binds K fd__law_is_number ["_law_value"] []
  g__law_is_number : mg "_law_is_number" = some (.ref f__law_is_number)
  f__law_is_chain : Addr
  fd__law_is_chain : FuncData
  F__law_is_chain : Fun K "_law_is_chain" "_law_is_chain" st__law_is_chain f__law_is_chain fd__law_is_chain
  b__law_is_chain : Binds K fd__law_is_chain ["_law_value"] []
  g__law_is_chain : mg "_law_is_chain" = some (.ref f__law_is_chain)
  f__law_odd : Addr
  fd__law_odd : FuncData
  F__law_odd : Fun K "_law_odd" "_law_odd" st__law_odd f__law_odd fd__law_odd
  b__law_odd : Binds K fd__law_odd ["_law_source_here"] []
  g__law_odd : mg "_law_odd" = some (.ref f__law_odd)
  f__law_count_in : Addr
  fd__law_count_in : FuncData
  F__law_count_in : Fun K "_law_count_in" "_law_count_in" st__law_count_in f__law_count_in fd__law_count_in
  b__law_count_in : Binds K fd__law_count_in ["_law_word"] []
  g__law_count_in : mg "_law_count_in" = some (.ref f__law_count_in)
  f__law_number_in : Addr
  fd__law_number_in : FuncData
  F__law_number_in : Fun K "_law_number_in" "_law_number_in" st__law_number_in f__law_number_in fd__law_number_in
  b__law_number_in : Binds K fd__law_number_in ["_law_line"] []
  g__law_number_in : mg "_law_number_in" = some (.ref f__law_number_in)
  f__law_chain_in : Addr
  fd__law_chain_in : FuncData
  F__law_chain_in : Fun K "_law_chain_in" "_law_chain_in" st__law_chain_in f__law_chain_in fd__law_chain_in
  b__law_chain_in : Binds K fd__law_chain_in ["_law_line"] []
  g__law_chain_in : mg "_law_chain_in" = some (.ref f__law_chain_in)
  f__law_changed : Addr
  fd__law_changed : FuncData
  F__law_changed : Fun K "_law_changed" "_law_changed" st__law_changed f__law_changed fd__law_changed
  b__law_changed : Binds K fd__law_changed ["_law_source_here", "_law_line"] []
  g__law_changed : mg "_law_changed" = some (.ref f__law_changed)
  f__law_told : Addr
  fd__law_told : FuncData
  F__law_told : Fun K "_law_told" "_law_told" st__law_told f__law_told fd__law_told
  b__law_told : Binds K fd__law_told ["_law_ask"] []
  g__law_told : mg "_law_told" = some (.ref f__law_told)
  f__law_right : Addr
  fd__law_right : FuncData
  F__law_right : Fun K "_law_right" "_law_right" st__law_right f__law_right fd__law_right
  b__law_right : Binds K fd__law_right ["_law_source_here"] []
  g__law_right : mg "_law_right" = some (.ref f__law_right)
  f_law : Addr
  fd_law : FuncData
  F_law : Fun K "law" "law" st_law f_law fd_law
  b_law : Binds K fd_law ["_law_script"] []
  g_law : mg "law" = some (.ref f_law)
  c_tab__law_right : Addr
  P_tab__law_right : Addr
  tab__law_right : PySem.W.tabIn K "_law_right" = some (c_tab__law_right, P_tab__law_right)
  code__law_right : fd__law_right.code = .ref c_tab__law_right
  C_RoundingError : Addr
  g_RoundingError : mg "RoundingError" = some (.ref C_RoundingError)
  bc : BaseC K C_RoundingError
  C_InvalidChain : Addr
  g_InvalidChain : mg "InvalidChain" = some (.ref C_InvalidChain)
  xv_InvalidChain : XcV K "InvalidChain" C_InvalidChain f_InvalidChain_init
  C_InvalidNumber : Addr
  g_InvalidNumber : mg "InvalidNumber" = some (.ref C_InvalidNumber)
  xv_InvalidNumber : XcV K "InvalidNumber" C_InvalidNumber f_InvalidNumber_init
  C_InvalidText : Addr
  g_InvalidText : mg "InvalidText" = some (.ref C_InvalidText)
  xv_InvalidText : XcV K "InvalidText" C_InvalidText f_InvalidText_init
  hx_RoundingError : ∀ nm ∈ (["InvalidChain", "InvalidNumber", "InvalidText"] : List Str), ∃ D : Addr, PySem.W.nsIn K mainGlobals nm = some (some (.ref D)) ∧ PySem.W.exmOne K (.ref D) (.ref C_RoundingError) = some (xsub nm "RoundingError")
  is_InvalidChain : IsK K ["InvalidChain", "InvalidNumber", "InvalidText"] "InvalidChain" (.ref C_InvalidChain)
  is_InvalidNumber : IsK K ["InvalidChain", "InvalidNumber", "InvalidText"] "InvalidNumber" (.ref C_InvalidNumber)
  is_InvalidText : IsK K ["InvalidChain", "InvalidNumber", "InvalidText"] "InvalidText" (.ref C_InvalidText)
  it_InvalidNumber_InvalidChain : IsKT K ["InvalidChain", "InvalidNumber", "InvalidText"] ["InvalidNumber", "InvalidChain"] [.ref C_InvalidNumber, .ref C_InvalidChain]
  hv : ∀ nm ∈ (["InvalidChain", "InvalidNumber", "InvalidText"] : List Str), XvC K nm
  n_abs : mg "abs" = none
  n_all : mg "all" = none
  n_bool : mg "bool" = none
  n_int : mg "int" = none
  n_isinstance : mg "isinstance" = none
  n_len : mg "len" = none
  n_list : mg "list" = none
  n_max : mg "max" = none
  n_min : mg "min" = none
  n_range : mg "range" = none
  n_repr : mg "repr" = none
  n_sorted : mg "sorted" = none
  n_str : mg "str" = none
  n_tuple : mg "tuple" = none
  u_BETWEEN_STEPS : Value
  w_BETWEEN_STEPS : V
  c_BETWEEN_STEPS : mg "BETWEEN_STEPS" = some u_BETWEEN_STEPS
  v_BETWEEN_STEPS : RelV w_BETWEEN_STEPS u_BETWEEN_STEPS
  r_BETWEEN_STEPS : ∀ F, Rp K F w_BETWEEN_STEPS (.str ", ")
  u_DIGITS : Value
  w_DIGITS : V
  c_DIGITS : mg "DIGITS" = some u_DIGITS
  v_DIGITS : RelV w_DIGITS u_DIGITS
  r_DIGITS : ∀ F, Rp K F w_DIGITS (.str "0123456789")
  u_MOST_STEPS : Value
  w_MOST_STEPS : V
  c_MOST_STEPS : mg "MOST_STEPS" = some u_MOST_STEPS
  v_MOST_STEPS : RelV w_MOST_STEPS u_MOST_STEPS
  r_MOST_STEPS : ∀ F, Rp K F w_MOST_STEPS (.int 12)
  u_MOST_WIDTH : Value
  w_MOST_WIDTH : V
  c_MOST_WIDTH : mg "MOST_WIDTH" = some u_MOST_WIDTH
  v_MOST_WIDTH : RelV w_MOST_WIDTH u_MOST_WIDTH
  r_MOST_WIDTH : ∀ F, Rp K F w_MOST_WIDTH (.int 100)
  u_PAIR_cells : Value
  w_PAIR_cells : V
  c_PAIR_cells : mg "PAIR_cells" = some u_PAIR_cells
  v_PAIR_cells : RelV w_PAIR_cells u_PAIR_cells
  r_PAIR_cells : ∀ F, Rp K F w_PAIR_cells (.int 2)
  u_PAIR_chains : Value
  w_PAIR_chains : V
  c_PAIR_chains : mg "PAIR_chains" = some u_PAIR_chains
  v_PAIR_chains : RelV w_PAIR_chains u_PAIR_chains
  r_PAIR_chains : ∀ F, Rp K F w_PAIR_chains (.int 2)
  u_RULES : Value
  w_RULES : V
  c_RULES : mg "RULES" = some u_RULES
  v_RULES : RelV w_RULES u_RULES
  r_RULES : ∀ F, Rp K F w_RULES (.tuple [(.str "down"), (.str "half_down"), (.str "half_even"), (.str "half_up"), (.str "odd"), (.str "up")])
  u_SLASH : Value
  w_SLASH : V
  c_SLASH : mg "SLASH" = some u_SLASH
  v_SLASH : RelV w_SLASH u_SLASH
  r_SLASH : ∀ F, Rp K F w_SLASH (.str "/")
  u_SPACE : Value
  w_SPACE : V
  c_SPACE : mg "SPACE" = some u_SPACE
  v_SPACE : RelV w_SPACE u_SPACE
  r_SPACE : ∀ F, Rp K F w_SPACE (.str " ")
theorem lamne__law_right {w : World} {K : Fg} {mg : Str → Option Value} (T : Tx w K mg) : ∀ y (c2 P2 : Addr), y ∈ LAM → PySem.W.tabIn K y = some (c2, P2) → y = "_law_right" ∨ P2 ≠ T.P_tab__law_right := fun y c P h _ => .inl (List.mem_singleton.mp h)
section
variable {P : Program} {w : World} {K : Fg} {mg : Str → Option Value} {base : Heap}
theorem ok_InvalidText_init (T : Tx w K mg) : Fn P w K mg base CX0 2 T.f_InvalidText_init T.fd_InvalidText_init ["self", "value"] (spXi K) := fn_xinit T.F_InvalidText_init sc_InvalidText_init T.bc T.g_RoundingError (by decide) rfl rfl rfl rfl (fun env => ⟨_, rfl⟩)
end
section
variable {P : Program} {w : World} {K : Fg} {mg : Str → Option Value} {base : Heap}
theorem ok_InvalidChain_init (T : Tx w K mg) : Fn P w K mg base CX0 2 T.f_InvalidChain_init T.fd_InvalidChain_init ["self", "value"] (spXi K) := fn_xinit T.F_InvalidChain_init sc_InvalidChain_init T.bc T.g_RoundingError (by decide) rfl rfl rfl rfl (fun env => ⟨_, rfl⟩)
end
section
variable {P : Program} {w : World} {K : Fg} {mg : Str → Option Value} {base : Heap}
theorem ok_InvalidNumber_init (T : Tx w K mg) : Fn P w K mg base CX0 2 T.f_InvalidNumber_init T.fd_InvalidNumber_init ["self", "value"] (spXi K) := fn_xinit T.F_InvalidNumber_init sc_InvalidNumber_init T.bc T.g_RoundingError (by decide) rfl rfl rfl rfl (fun env => ⟨_, rfl⟩)
end
def b_is_int : DS :=
  (dRet (dAndV (dIsi "int" (dVar 0)) (dAndV (dNotV (dIsi "bool" (dVar 0))) (dBin oGe (dVar 0) (dVar 1)))))
/-- value is an int, no bool, at least m -/
def isInt (d : Da) (m : Int) : Bool := match d with
  | .int i => decide (m ≤ i)
  | _ => false
def fs_is_int : FSp := fun rs fu post => ∃ d m, rs = [.val d, .val (.int m)] ∧ post (.val (.bool (isInt d m))) fu
theorem p_is_int (rs : List Rv) (fu : Option Nat) (post : Rr → Option Nat → Prop) (hl : rs.length = 2) (h : fs_is_int rs fu post) : b_is_int ⟨fun g => post (.val .none) g.fu, fun r g => post r g.fu, fun _ => False, fun _ => False⟩ (ent N_is_int rs fu) := by
  obtain ⟨d, m, rfl, h⟩ := h
  cases d <;> (simp_arith [b_is_int]; simp_all [isInt, isTy])
theorem isInt_some {d : Da} {m : Int} (h : isInt d m = true) : ∃ i, d = .int i ∧ m ≤ i := by
  cases d with
  | int i => exact ⟨i, rfl, of_decide_eq_true h⟩
  | _ => cases h
section
variable {P : Program} {w : World} {K : Fg} {mg : Str → Option Value} {base : Heap}
theorem d_is_int (T : Tx w K mg) {cdv : Value} {A : Around} {outer : List Env} {s : Shared} {H : Hp} {E : XK} (hr : Room 0 (A.deeper (envOfC "is_int" (defScope st_is_int) s.heap.objs.size T.f_is_int cdv))) (hgd : (A.deeper (envOfC "is_int" (defScope st_is_int) s.heap.objs.size T.f_is_int cdv)).guards = some []) :
    PSs (cxOf CX0 P w K mg base N_is_int "is_int" (defScope st_is_int) T.f_is_int cdv A outer s H E).nox (defBody st_is_int) (upS K W0 b_is_int) :=
  (ss_one (s_ret (e_and (e_isi kit_int (by rfl) T.n_isinstance (e_var 0 (pv 0)) (c_ty (by rfl) T.n_int (by decide +kernel))) (e_and (e_not (e_isi kit_bool (by rfl) T.n_isinstance (e_var 0 (pv 0)) (c_ty (by rfl) T.n_bool (by decide +kernel)))) (e_one (e_ge (e_var 0 (pv 0)) (e_var 1 (pv 1))))))))
theorem ok_is_int (T : Tx w K mg) : Fn P w K mg base CX0 1 T.f_is_int T.fd_is_int ["value", "least"] (lift K 2 fs_is_int) := fn_data T.F_is_int sc_is_int b_is_int (fun _ _ _ _ _ _ hr hgd => d_is_int T hr hgd) p_is_int
end
def b_common_divisor : DS :=
  (dSeq (dWhile (dTest (dBin fNe (dVar 1) (dC (.int 0))))
    (dPar 0 1 (dVar 1) (dBin oMod (dVar 0) (dVar 1))))
  (dRet (dVar 0)))
def fs_common_divisor : FSp := fun rs fu post => ∃ a b : Int, rs = [.val (.int a), .val (.int b)] ∧ 0 ≤ a ∧ 0 ≤ b ∧ post (.val (.int (Int.gcd a b))) fu
theorem p_common_divisor (rs : List Rv) (fu : Option Nat) (post : Rr → Option Nat → Prop) (hl : rs.length = 2) (h : fs_common_divisor rs fu post) : b_common_divisor ⟨fun g => post (.val .none) g.fu, fun r g => post r g.fu, fun _ => False, fun _ => False⟩ (ent N_common_divisor rs fu) := by
  obtain ⟨a, b, rfl, ha, hb, h⟩ := h
  simp_arith [b_common_divisor]
  refine ⟨fun m g => ∃ x y : Int, g = ⟨[some (.val (.int x)), some (.val (.int y))], fu, fu.isNone⟩ ∧ 0 ≤ x ∧ 0 ≤ y ∧ y.toNat = m ∧ Int.gcd x y = Int.gcd a b, ⟨b.toNat, a, b, rfl, ha, hb, rfl, rfl⟩, fun m g hg => ?_⟩
  obtain ⟨x, y, rfl, hx, hy, rfl, e⟩ := hg
  simp_arith [Nat.zero_add]
  refine ⟨fun hne => ?_, fun heq => ?_⟩
  · have hy0 : 0 < y := by omega
    refine ⟨hy0, (x % y).toNat, ?_, y, x % y, rfl, hy, Int.emod_nonneg _ (by omega), rfl, by rw [gcd_step hx hy0, e]⟩
    have := Int.emod_lt_of_pos x hy0
    have := Int.emod_nonneg x (show y ≠ 0 by omega)
    omega
  · subst heq
    rw [Int.gcd_zero_right] at e
    have : x = ((Int.gcd a b : Nat) : Int) := by omega
    rw [this]
    exact h
section
variable {P : Program} {w : World} {K : Fg} {mg : Str → Option Value} {base : Heap}
theorem d_common_divisor (T : Tx w K mg) {cdv : Value} {A : Around} {outer : List Env} {s : Shared} {H : Hp} {E : XK} (hr : Room 0 (A.deeper (envOfC "common_divisor" (defScope st_common_divisor) s.heap.objs.size T.f_common_divisor cdv))) (hgd : (A.deeper (envOfC "common_divisor" (defScope st_common_divisor) s.heap.objs.size T.f_common_divisor cdv)).guards = some []) :
    PSs (cxOf CX0 P w K mg base N_common_divisor "common_divisor" (defScope st_common_divisor) T.f_common_divisor cdv A outer s H E).nox (defBody st_common_divisor) (upS K W0 b_common_divisor) :=
  (ss_cons (s_while PassesOwn.never (t_ne hr.units (e_var 1 (pv 1)) e_int) (ss_one (s_par (i := 0) (j := 1) rfl sc_common_divisor.nd rfl rfl (by decide) rfl rfl (e_var 1 (pv 1)) (e_mod (e_var 0 (pv 0)) (e_var 1 (pv 1))))))
    (ss_one (s_ret (e_var 0 (pv 0)))))
theorem ok_common_divisor (T : Tx w K mg) : Fn P w K mg base CX0 1 T.f_common_divisor T.fd_common_divisor ["one", "other"] (lift K 2 fs_common_divisor) := fn_data T.F_common_divisor sc_common_divisor b_common_divisor (fun _ _ _ _ _ _ hr hgd => d_common_divisor T hr hgd) p_common_divisor
end
def b_is_number : DS :=
  (dSeq (dIfS (dOrT (dNotT (dTest (dIsi "tuple" (dVar 0)))) (dOrT (dTest (dBin fNe (dCB cLen (dCons (dVar 0) dNil)) (dC (.int 2)))) (dNotT (dTest (dCB cAll (dCons (dFz (dLc [1] (dItems (dVar 0)) (dN 1) dYes (dCall 2 fs_is_int (dCons (dVar 1) (dCons (dC (.int 1)) dNil))))) dNil))))))
    (dRet (dC (.bool false)))
    dNext)
  (dRet (dBin fEq (dCall 2 fs_common_divisor (dCons (dIx (dVar 0) (dC (.int 0))) (dCons (dIx (dVar 0) (dC (.int 1))) dNil))) (dC (.int 1)))))
/-- a number: two ints from 1 on without a common divisor -/
def isNum : Da → Bool
  | .tuple [x, y] => isInt x 1 && isInt y 1 && (match x, y with | .int n, .int d => decide (Int.gcd n d = 1) | _, _ => false)
  | _ => false
theorem isNum_ne {xs : List Da} (h : xs.length ≠ 2) : isNum (.tuple xs) = false := by
  match xs with
  | [] => rfl
  | [_] => rfl
  | [_, _] => exact absurd rfl h
  | _ :: _ :: _ :: _ => rfl
theorem isNum_num {n d : Int} (hn : 1 ≤ n) (hd : 1 ≤ d) (h : Int.gcd n d = 1) : isNum (num n d) = true := by
  simp [isNum, isInt, hn, hd, h]
def fs_is_number : FSp := fun rs fu post => ∃ v, rs = [.val v] ∧ post (.val (.bool (isNum v))) fu
theorem p_is_number (rs : List Rv) (fu : Option Nat) (post : Rr → Option Nat → Prop) (hl : rs.length = 1) (h : fs_is_number rs fu post) : b_is_number ⟨fun g => post (.val .none) g.fu, fun r g => post r g.fu, fun _ => False, fun _ => False⟩ (ent N_is_number rs fu) := by
  obtain ⟨v, rfl, h⟩ := h
  cases v with
  | tuple xs =>
    simp_arith [b_is_number]
    refine ⟨fun z => (by simp [isTy] at z), fun _ => ⟨fun z => ?_, fun z => ?_⟩⟩
    · have e : xs.length ≠ 2 := by omega
      rw [isNum_ne e] at h
      exact h
    · have e : xs.length = 2 := by omega
      match xs, e with
      | [x, y], _ =>
        simp_arith [fs_is_int]
        refine ⟨x, 1, rfl, by decide, y, 1, rfl, by decide, ?_⟩
        simp only [boolsD, Option.map_some]
        simp only [isNum] at h
        refine ⟨fun hf => ?_, fun ht => ?_⟩
        · have : (isInt x 1 && isInt y 1) = false := by
            revert hf
            cases isInt x 1 <;> cases isInt y 1 <;> simp
          rw [this, Bool.false_and] at h
          exact h
        · have h12 : isInt x 1 = true ∧ isInt y 1 = true := by simpa using ht
          obtain ⟨n, rfl, hn⟩ := isInt_some h12.1
          obtain ⟨d, rfl, hd⟩ := isInt_some h12.2
          refine ⟨n, d, rfl, by omega, by omega, rfl, rfl, ?_⟩
          have e : ((PyData.int ((Int.gcd n d : Nat) : Int)).eqv (PyData.int 1)) = decide (Int.gcd n d = 1) := by
            simp only [PyData.eqv]
            rw [Bool.eq_iff_iff]
            simp
            omega
          rw [e]
          rw [h12.1, h12.2] at h
          simpa using h
  | _ => simp_arith [b_is_number]; simpa [isTy, isNum] using h
section
variable {P : Program} {w : World} {K : Fg} {mg : Str → Option Value} {base : Heap}
theorem d_is_number (T : Tx w K mg) {cdv : Value} {A : Around} {outer : List Env} {s : Shared} {H : Hp} {E : XK} (hr : Room 1 (A.deeper (envOfC "is_number" (defScope st_is_number) s.heap.objs.size T.f_is_number cdv))) (hgd : (A.deeper (envOfC "is_number" (defScope st_is_number) s.heap.objs.size T.f_is_number cdv)).guards = some []) :
    PSs (cxOf CX0 P w K mg base N_is_number "is_number" (defScope st_is_number) T.f_is_number cdv A outer s H E).nox (defBody st_is_number) (upS K W0 b_is_number) :=
  (ss_cons (s_if (PW.pt (w_or (t_not (t_val (e_isi kit_tuple (by rfl) T.n_isinstance (e_var 0 (pv 0)) (c_ty (by rfl) T.n_tuple (by decide +kernel))))) (w_or (t_ne hr.units (e_len (by rfl) T.n_len (a_cons (e_var 0 (pv 0)) a_nil)) (e_glob (by rfl) T.c_PAIR_cells T.v_PAIR_cells T.r_PAIR_cells)) (w_or1 (t_not (t_val (e_all rfl (by rfl) T.n_all (a_cons (e_fz (e_lc (own := [("part", 1)]) rfl sc_is_number.nd (i_items (e_var 0 (pv 0))) (blkOk_by (own := [("part", 1)]) (N := N_is_number) (sc := defScope st_is_number) (by decide +kernel)) (fun _ _ _ _ _ => (gw_name rfl (pg_name (i := 1) sc_is_number.nd rfl (.inl rfl)) (by decide))) (fun _ _ _ _ _ => ts_yes) (fun _ _ _ _ _ => (e_call (ok_is_int T) (hr.mono (by decide)) hgd (by rfl) T.g_is_int T.F_is_int.kp T.b_is_int pass0 (a_cons (e_var 1 (pv 1)) (a_cons e_int a_nil)))))) a_nil)))))))) (ss_one (s_ret e_bl)) ss_nil)
    (ss_one (s_ret (e_eq hr.units (e_call (ok_common_divisor T) (hr.mono (by decide)) hgd (by rfl) T.g_common_divisor T.F_common_divisor.kp T.b_common_divisor pass0 (a_cons (e_ix (e_var 0 (pv 0)) e_int) (a_cons (e_ix (e_var 0 (pv 0)) e_int) a_nil))) e_int))))
theorem ok_is_number (T : Tx w K mg) : Fn P w K mg base CX0 2 T.f_is_number T.fd_is_number ["value"] (lift K 1 fs_is_number) := fn_data T.F_is_number sc_is_number b_is_number (fun _ _ _ _ _ _ hr hgd => d_is_number T hr hgd) p_is_number
end
def b_is_width : DS :=
  (dRet (dAndV (dCall 2 fs_is_int (dCons (dVar 0) (dCons (dC (.int 1)) dNil))) (dBin oLe (dVar 0) (dC (.int 100)))))
def isWid (v : Da) : Bool := isInt v 1 && (match v with | .int i => decide (i ≤ 100) | _ => false)
theorem isWid_int {w : Int} (h1 : 1 ≤ w) (h2 : w ≤ 100) : isWid (.int w) = true := by simp [isWid, isInt, h1, h2]
def fs_is_width : FSp := fun rs fu post => ∃ v, rs = [.val v] ∧ post (.val (.bool (isWid v))) fu
theorem p_is_width (rs : List Rv) (fu : Option Nat) (post : Rr → Option Nat → Prop) (hl : rs.length = 1) (h : fs_is_width rs fu post) : b_is_width ⟨fun g => post (.val .none) g.fu, fun r g => post r g.fu, fun _ => False, fun _ => False⟩ (ent N_is_width rs fu) := by
  obtain ⟨v, rfl, h⟩ := h
  simp_arith [b_is_width, fs_is_int]
  refine ⟨v, 1, rfl, fun ht => ?_, fun hf => ?_⟩
  · obtain ⟨n, rfl, hn⟩ := isInt_some ht
    simpa [isWid, ht] using h
  · simpa [isWid, hf] using h
section
variable {P : Program} {w : World} {K : Fg} {mg : Str → Option Value} {base : Heap}
theorem d_is_width (T : Tx w K mg) {cdv : Value} {A : Around} {outer : List Env} {s : Shared} {H : Hp} {E : XK} (hr : Room 1 (A.deeper (envOfC "is_width" (defScope st_is_width) s.heap.objs.size T.f_is_width cdv))) (hgd : (A.deeper (envOfC "is_width" (defScope st_is_width) s.heap.objs.size T.f_is_width cdv)).guards = some []) :
    PSs (cxOf CX0 P w K mg base N_is_width "is_width" (defScope st_is_width) T.f_is_width cdv A outer s H E).nox (defBody st_is_width) (upS K W0 b_is_width) :=
  (ss_one (s_ret (e_and (e_call (ok_is_int T) (hr.mono (by decide)) hgd (by rfl) T.g_is_int T.F_is_int.kp T.b_is_int pass0 (a_cons (e_var 0 (pv 0)) (a_cons e_int a_nil))) (e_one (e_le (e_var 0 (pv 0)) (e_glob (by rfl) T.c_MOST_WIDTH T.v_MOST_WIDTH T.r_MOST_WIDTH))))))
theorem ok_is_width (T : Tx w K mg) : Fn P w K mg base CX0 2 T.f_is_width T.fd_is_width ["value"] (lift K 1 fs_is_width) := fn_data T.F_is_width sc_is_width b_is_width (fun _ _ _ _ _ _ hr hgd => d_is_width T hr hgd) p_is_width
end
def b_check_number : DS :=
  (dIfS (dNotT (dTest (dCall 1 fs_is_number (dCons (dVar 0) dNil))))
    dNever
    dNext)
def fs_check_number : FSp := fun rs fu post => ∃ v, rs = [.val v] ∧ isNum v = true ∧ post (.val .none) fu
theorem p_check_number (rs : List Rv) (fu : Option Nat) (post : Rr → Option Nat → Prop) (hl : rs.length = 1) (h : fs_check_number rs fu post) : b_check_number ⟨fun g => post (.val .none) g.fu, fun r g => post r g.fu, fun _ => False, fun _ => False⟩ (ent N_check_number rs fu) := by
  obtain ⟨v, rfl, hv, h⟩ := h
  simp_arith [b_check_number, fs_is_number]
  refine ⟨v, rfl, fun z => ?_, fun _ => h⟩
  rw [hv] at z
  exact absurd z (by decide)
section
variable {P : Program} {w : World} {K : Fg} {mg : Str → Option Value} {base : Heap}
theorem d_check_number (T : Tx w K mg) {cdv : Value} {A : Around} {outer : List Env} {s : Shared} {H : Hp} {E : XK} (hr : Room 3 (A.deeper (envOfC "check_number" (defScope st_check_number) s.heap.objs.size T.f_check_number cdv))) (hgd : (A.deeper (envOfC "check_number" (defScope st_check_number) s.heap.objs.size T.f_check_number cdv)).guards = some []) :
    PSs (cxOf CX0 P w K mg base N_check_number "check_number" (defScope st_check_number) T.f_check_number cdv A outer s H E).nox (defBody st_check_number) (upS K W0 b_check_number) :=
  (ss_one (s_if (t_not (t_val (e_call (ok_is_number T) (hr.mono (by decide)) hgd (by rfl) T.g_is_number T.F_is_number.kp T.b_is_number pass0 (a_cons (e_var 0 (pv 0)) a_nil)))) (ss_one s_never) ss_nil))
theorem ok_check_number (T : Tx w K mg) : Fn P w K mg base CX0 4 T.f_check_number T.fd_check_number ["value"] (lift K 1 fs_check_number) := fn_data T.F_check_number sc_check_number b_check_number (fun _ _ _ _ _ _ hr hgd => d_check_number T hr hgd) p_check_number
end
def b_check_numberX : DS :=
  (dIfS (dNotT (dTest (dCall 1 fs_is_number (dCons (dVar 0) dNil))))
    (dRaise "InvalidNumber" (dVar 0))
    dNext)
def fs_check_numberX : FSp := fun rs fu post => ∃ v, rs = [.val v] ∧ isNum v = false ∧ ShX v ∧ post (.exc "InvalidNumber" (some v)) fu
theorem p_check_numberX (rs : List Rv) (fu : Option Nat) (post : Rr → Option Nat → Prop) (hl : rs.length = 1) (h : fs_check_numberX rs fu post) : b_check_numberX ⟨fun g => post (.val .none) g.fu, fun r g => post r g.fu, fun _ => False, fun _ => False⟩ (ent N_check_number rs fu) := by
  obtain ⟨v, rfl, hv, hs, h⟩ := h
  simp_arith [b_check_numberX, fs_is_number]
  refine ⟨v, rfl, fun _ => ⟨hs, h⟩, fun z => ?_⟩
  rw [hv] at z
  cases z
section
variable {P : Program} {w : World} {K : Fg} {mg : Str → Option Value} {base : Heap}
theorem d_check_numberX (T : Tx w K mg) {cdv : Value} {A : Around} {outer : List Env} {s : Shared} {H : Hp} {E : XK} (hr : Room 3 (A.deeper (envOfC "check_number" (defScope st_check_number) s.heap.objs.size T.f_check_number cdv))) (hgd : (A.deeper (envOfC "check_number" (defScope st_check_number) s.heap.objs.size T.f_check_number cdv)).guards = some [])
    (tk : Takes (cxOf (L2.CX P w) P w K mg base N_check_number "check_number" (defScope st_check_number) T.f_check_number cdv A outer s H E) (fun cls d _ H => E cls d H)) :
    PSs (cxOf (L2.CX P w) P w K mg base N_check_number "check_number" (defScope st_check_number) T.f_check_number cdv A outer s H E) (defBody st_check_number) (upS K (fun cls d _ H => E cls d H) b_check_numberX) :=
  (ss_one (s_if (t_not (t_val (e_call (ok_is_number T) (hr.mono (by decide)) hgd (by rfl) T.g_is_number T.F_is_number.kp T.b_is_number pass0 (a_cons (e_var 0 (pv 0)) a_nil)))) (ss_one (s_raise rfl tk T.xv_InvalidNumber (ok_InvalidNumber_init T) (hr.mono (by decide)) hgd T.b_InvalidNumber_init (by rfl) T.g_InvalidNumber (e_var 0 (pv 0)))) ss_nil))
theorem ok_check_numberX (T : Tx w K mg) : Fn P w K mg base (L2.CX P w) 4 T.f_check_number T.fd_check_number ["value"] (liftX K 1 fs_check_numberX) := fn_dataX T.F_check_number sc_check_number b_check_numberX (fun _ _ _ _ _ _ hr hgd tk => d_check_numberX T hr hgd tk) p_check_numberX
theorem ok_check_numberO (T : Tx w K mg) : Fn P w K mg base (L2.CX P w) 4 T.f_check_number T.fd_check_number ["value"] (liftX K 1 (orF fs_check_number fs_check_numberX)) := fn_orX (ok_check_number T) (ok_check_numberX T)
end
def b_is_rule : DS :=
  (dRet (dAndV (dIsi "str" (dVar 0)) (dBin (fIn false) (dVar 0) (dC (.tuple [(.str "down"), (.str "half_down"), (.str "half_even"), (.str "half_up"), (.str "odd"), (.str "up")])))))
abbrev rulesD : List Da := [.str "down", .str "half_down", .str "half_even", .str "half_up", .str "odd", .str "up"]
def isRul (v : Da) : Bool := match v with
  | .str r => inD (.str r) rulesD
  | _ => false
theorem isRul_s (r : Ru) : isRul (.str r.s) = true := by cases r <;> decide +kernel
theorem isRul_ru {v : Da} (h : isRul v = true) : ∃ r : Ru, v = .str r.s := by
  cases v with
  | str x =>
    simp [isRul, inD, PyData.eqv] at h
    rcases h with h | h | h | h | h | h
    · exact ⟨.dn, by rw [← h]; rfl⟩
    · exact ⟨.hd, by rw [← h]; rfl⟩
    · exact ⟨.he, by rw [← h]; rfl⟩
    · exact ⟨.hu, by rw [← h]; rfl⟩
    · exact ⟨.od, by rw [← h]; rfl⟩
    · exact ⟨.up, by rw [← h]; rfl⟩
  | _ => cases h
def fs_is_rule : FSp := fun rs fu post => ∃ v, rs = [.val v] ∧ post (.val (.bool (isRul v))) fu
theorem p_is_rule (rs : List Rv) (fu : Option Nat) (post : Rr → Option Nat → Prop) (hl : rs.length = 1) (h : fs_is_rule rs fu post) : b_is_rule ⟨fun g => post (.val .none) g.fu, fun r g => post r g.fu, fun _ => False, fun _ => False⟩ (ent N_is_rule rs fu) := by
  obtain ⟨v, rfl, h⟩ := h
  cases v with
  | str r =>
    simp_arith [b_is_rule]
    refine ⟨fun _ => h, fun z => (by simp [isTy] at z)⟩
  | _ => simp_arith [b_is_rule]; simpa [isTy, isRul] using h
section
variable {P : Program} {w : World} {K : Fg} {mg : Str → Option Value} {base : Heap}
theorem d_is_rule (T : Tx w K mg) {cdv : Value} {A : Around} {outer : List Env} {s : Shared} {H : Hp} {E : XK} (hr : Room 0 (A.deeper (envOfC "is_rule" (defScope st_is_rule) s.heap.objs.size T.f_is_rule cdv))) (hgd : (A.deeper (envOfC "is_rule" (defScope st_is_rule) s.heap.objs.size T.f_is_rule cdv)).guards = some []) :
    PSs (cxOf CX0 P w K mg base N_is_rule "is_rule" (defScope st_is_rule) T.f_is_rule cdv A outer s H E).nox (defBody st_is_rule) (upS K W0 b_is_rule) :=
  (ss_one (s_ret (e_and (e_isi kit_str (by rfl) T.n_isinstance (e_var 0 (pv 0)) (c_ty (by rfl) T.n_str (by decide +kernel))) (e_one (e_in (e_var 0 (pv 0)) (e_glob (by rfl) T.c_RULES T.v_RULES T.r_RULES))))))
theorem ok_is_rule (T : Tx w K mg) : Fn P w K mg base CX0 1 T.f_is_rule T.fd_is_rule ["value"] (lift K 1 fs_is_rule) := fn_data T.F_is_rule sc_is_rule b_is_rule (fun _ _ _ _ _ _ hr hgd => d_is_rule T hr hgd) p_is_rule
end
def b_is_step : DS :=
  (dRet (dAndV (dIsi "tuple" (dVar 0)) (dAndV (dBin fEq (dCB cLen (dCons (dVar 0) dNil)) (dC (.int 2))) (dAndV (dCall 1 fs_is_width (dCons (dIx (dVar 0) (dC (.int 0))) dNil)) (dCall 1 fs_is_rule (dCons (dIx (dVar 0) (dC (.int 1))) dNil))))))
def isStp : Da → Bool
  | .tuple [x, y] => isWid x && isRul y
  | _ => false
theorem isStp_ne {xs : List Da} (h : xs.length ≠ 2) : isStp (.tuple xs) = false := by
  match xs with
  | [] => rfl
  | [_] => rfl
  | [_, _] => exact absurd rfl h
  | _ :: _ :: _ :: _ => rfl
theorem isStp_st {s : Int × Ru} (h : 1 ≤ s.1 ∧ s.1 ≤ 100) : isStp (stD s) = true := by
  show (isWid (.int s.1) && isRul (.str s.2.s)) = true
  rw [isWid_int h.1 h.2, isRul_s]
  rfl
def fs_is_step : FSp := fun rs fu post => ∃ v, rs = [.val v] ∧ post (.val (.bool (isStp v))) fu
theorem p_is_step (rs : List Rv) (fu : Option Nat) (post : Rr → Option Nat → Prop) (hl : rs.length = 1) (h : fs_is_step rs fu post) : b_is_step ⟨fun g => post (.val .none) g.fu, fun r g => post r g.fu, fun _ => False, fun _ => False⟩ (ent N_is_step rs fu) := by
  obtain ⟨v, rfl, h⟩ := h
  cases v with
  | tuple xs =>
    simp_arith [b_is_step]
    refine ⟨fun _ => ⟨fun z => ?_, fun z => ?_⟩, fun z => (by simp [isTy] at z)⟩
    · have e : xs.length = 2 := by omega
      match xs, e with
      | [x, y], _ =>
        simp_arith [fs_is_width, fs_is_rule]
        refine ⟨x, rfl, fun ht => ⟨y, rfl, ?_⟩, fun hf => ?_⟩
        · simp only [isStp, ht, Bool.true_and] at h
          exact h
        · simp only [isStp, hf, Bool.false_and] at h
          exact h
    · have e : xs.length ≠ 2 := by omega
      rw [isStp_ne e] at h
      exact h
  | _ => simp_arith [b_is_step]; simpa [isTy, isStp] using h
section
variable {P : Program} {w : World} {K : Fg} {mg : Str → Option Value} {base : Heap}
theorem d_is_step (T : Tx w K mg) {cdv : Value} {A : Around} {outer : List Env} {s : Shared} {H : Hp} {E : XK} (hr : Room 2 (A.deeper (envOfC "is_step" (defScope st_is_step) s.heap.objs.size T.f_is_step cdv))) (hgd : (A.deeper (envOfC "is_step" (defScope st_is_step) s.heap.objs.size T.f_is_step cdv)).guards = some []) :
    PSs (cxOf CX0 P w K mg base N_is_step "is_step" (defScope st_is_step) T.f_is_step cdv A outer s H E).nox (defBody st_is_step) (upS K W0 b_is_step) :=
  (ss_one (s_ret (e_and (e_isi kit_tuple (by rfl) T.n_isinstance (e_var 0 (pv 0)) (c_ty (by rfl) T.n_tuple (by decide +kernel))) (e_and (e_eq hr.units (e_len (by rfl) T.n_len (a_cons (e_var 0 (pv 0)) a_nil)) (e_glob (by rfl) T.c_PAIR_chains T.v_PAIR_chains T.r_PAIR_chains)) (e_and (e_call (ok_is_width T) (hr.mono (by decide)) hgd (by rfl) T.g_is_width T.F_is_width.kp T.b_is_width pass0 (a_cons (e_ix (e_var 0 (pv 0)) e_int) a_nil)) (e_one (e_call (ok_is_rule T) (hr.mono (by decide)) hgd (by rfl) T.g_is_rule T.F_is_rule.kp T.b_is_rule pass0 (a_cons (e_ix (e_var 0 (pv 0)) e_int) a_nil))))))))
theorem ok_is_step (T : Tx w K mg) : Fn P w K mg base CX0 3 T.f_is_step T.fd_is_step ["value"] (lift K 1 fs_is_step) := fn_data T.F_is_step sc_is_step b_is_step (fun _ _ _ _ _ _ hr hgd => d_is_step T hr hgd) p_is_step
end
def b_is_chain : DS :=
  (dRet (dAndV (dIsi "tuple" (dVar 0)) (dAndV (dChain oLe oLe (dC (.int 1)) (dCB cLen (dCons (dVar 0) dNil)) (dC (.int 12))) (dCB cAll (dCons (dFz (dLc [1] (dItems (dVar 0)) (dN 1) dYes (dCall 1 fs_is_step (dCons (dVar 1) dNil)))) dNil)))))
def isChn : Da → Bool
  | .tuple xs => decide (1 ≤ (xs.length : Int)) && decide ((xs.length : Int) ≤ 12) && xs.all isStp
  | _ => false
theorem isChn_ch {c : List (Int × Ru)} (h : c ≠ []) (hl : c.length ≤ 12) (hw : Wds c) : isChn (chD c) = true := by
  have h0 : 0 < c.length := List.length_pos_iff.mpr h
  simp only [isChn, chD, Bool.and_eq_true, decide_eq_true_eq, List.length_map]
  refine ⟨⟨by omega, by omega⟩, ?_⟩
  rw [List.all_map, List.all_eq_true]
  exact fun s hs => isStp_st (hw s hs)
theorem boolsD_map (f : Da → Bool) : ∀ ds : List Da, boolsD (ds.map fun d => .bool (f d)) = some (ds.map f)
  | [] => rfl
  | d :: ds => by
    have := boolsD_map f ds
    simp [boolsD, this]
def fs_is_chain : FSp := fun rs fu post => ∃ v, rs = [.val v] ∧ post (.val (.bool (isChn v))) fu
theorem p_is_chain (rs : List Rv) (fu : Option Nat) (post : Rr → Option Nat → Prop) (hl : rs.length = 1) (h : fs_is_chain rs fu post) : b_is_chain ⟨fun g => post (.val .none) g.fu, fun r g => post r g.fu, fun _ => False, fun _ => False⟩ (ent N_is_chain rs fu) := by
  obtain ⟨v, rfl, h⟩ := h
  cases v with
  | tuple xs =>
    simp_arith [b_is_chain]
    refine ⟨fun _ => ?_, fun z => (by simp [isTy] at z)⟩
    by_cases h1 : 1 ≤ (xs.length : Int)
    · by_cases h2 : (xs.length : Int) ≤ 12
      · rw [decide_eq_true h1]
        refine ⟨fun _ => ?_, fun z => absurd h2 (by simpa using z)⟩
        refine lc_map (fun x => .bool (isStp x)) (fun x hx R hR => ?_) (by simp only [List.length_nil]; omega) ?_
        · simp_arith [fs_is_step]
          exact ⟨x, rfl, hR _ rfl⟩
        · rw [List.nil_append, boolsD_map]
          simp only [isChn, h1, h2, decide_true, Bool.true_and] at h
          show post (.val (.bool ((List.map isStp xs).all id))) fu
          rw [List.all_map]
          exact h
      · rw [decide_eq_true h1]
        refine ⟨fun z => absurd (by simpa using z) h2, fun _ => ?_⟩
        simp only [isChn, h2, decide_false, Bool.and_false, Bool.false_and] at h
        exact h
    · rw [decide_eq_false h1]
      simp_arith [Nat.zero_add]
      simp only [isChn, h1, decide_false, Bool.and_false, Bool.false_and] at h
      exact h
  | _ => simp_arith [b_is_chain]; simpa [isTy, isChn] using h
section
variable {P : Program} {w : World} {K : Fg} {mg : Str → Option Value} {base : Heap}
theorem d_is_chain (T : Tx w K mg) {cdv : Value} {A : Around} {outer : List Env} {s : Shared} {H : Hp} {E : XK} (hr : Room 3 (A.deeper (envOfC "is_chain" (defScope st_is_chain) s.heap.objs.size T.f_is_chain cdv))) (hgd : (A.deeper (envOfC "is_chain" (defScope st_is_chain) s.heap.objs.size T.f_is_chain cdv)).guards = some []) :
    PSs (cxOf CX0 P w K mg base N_is_chain "is_chain" (defScope st_is_chain) T.f_is_chain cdv A outer s H E).nox (defBody st_is_chain) (upS K W0 b_is_chain) :=
  (ss_one (s_ret (e_and (e_isi kit_tuple (by rfl) T.n_isinstance (e_var 0 (pv 0)) (c_ty (by rfl) T.n_tuple (by decide +kernel))) (e_and (e_lele e_int (e_len (by rfl) T.n_len (a_cons (e_var 0 (pv 0)) a_nil)) (e_glob (by rfl) T.c_MOST_STEPS T.v_MOST_STEPS T.r_MOST_STEPS)) (e_one (e_all rfl (by rfl) T.n_all (a_cons (e_fz (e_lc (own := [("step", 1)]) rfl sc_is_chain.nd (i_items (e_var 0 (pv 0))) (blkOk_by (own := [("step", 1)]) (N := N_is_chain) (sc := defScope st_is_chain) (by decide +kernel)) (fun _ _ _ _ _ => (gw_name rfl (pg_name (i := 1) sc_is_chain.nd rfl (.inl rfl)) (by decide))) (fun _ _ _ _ _ => ts_yes) (fun _ _ _ _ _ => (e_call (ok_is_step T) (hr.mono (by decide)) hgd (by rfl) T.g_is_step T.F_is_step.kp T.b_is_step pass0 (a_cons (e_var 1 (pv 1)) a_nil))))) a_nil)))))))
theorem ok_is_chain (T : Tx w K mg) : Fn P w K mg base CX0 4 T.f_is_chain T.fd_is_chain ["value"] (lift K 1 fs_is_chain) := fn_data T.F_is_chain sc_is_chain b_is_chain (fun _ _ _ _ _ _ hr hgd => d_is_chain T hr hgd) p_is_chain
end
def b_check_chain : DS :=
  (dIfS (dNotT (dTest (dCall 1 fs_is_chain (dCons (dVar 0) dNil))))
    dNever
    dNext)
def fs_check_chain : FSp := fun rs fu post => ∃ v, rs = [.val v] ∧ isChn v = true ∧ post (.val .none) fu
theorem p_check_chain (rs : List Rv) (fu : Option Nat) (post : Rr → Option Nat → Prop) (hl : rs.length = 1) (h : fs_check_chain rs fu post) : b_check_chain ⟨fun g => post (.val .none) g.fu, fun r g => post r g.fu, fun _ => False, fun _ => False⟩ (ent N_check_chain rs fu) := by
  obtain ⟨v, rfl, hv, h⟩ := h
  simp_arith [b_check_chain, fs_is_chain]
  refine ⟨v, rfl, fun z => ?_, fun _ => h⟩
  rw [hv] at z
  exact absurd z (by decide)
section
variable {P : Program} {w : World} {K : Fg} {mg : Str → Option Value} {base : Heap}
theorem d_check_chain (T : Tx w K mg) {cdv : Value} {A : Around} {outer : List Env} {s : Shared} {H : Hp} {E : XK} (hr : Room 4 (A.deeper (envOfC "check_chain" (defScope st_check_chain) s.heap.objs.size T.f_check_chain cdv))) (hgd : (A.deeper (envOfC "check_chain" (defScope st_check_chain) s.heap.objs.size T.f_check_chain cdv)).guards = some []) :
    PSs (cxOf CX0 P w K mg base N_check_chain "check_chain" (defScope st_check_chain) T.f_check_chain cdv A outer s H E).nox (defBody st_check_chain) (upS K W0 b_check_chain) :=
  (ss_one (s_if (t_not (t_val (e_call (ok_is_chain T) (hr.mono (by decide)) hgd (by rfl) T.g_is_chain T.F_is_chain.kp T.b_is_chain pass0 (a_cons (e_var 0 (pv 0)) a_nil)))) (ss_one s_never) ss_nil))
theorem ok_check_chain (T : Tx w K mg) : Fn P w K mg base CX0 5 T.f_check_chain T.fd_check_chain ["value"] (lift K 1 fs_check_chain) := fn_data T.F_check_chain sc_check_chain b_check_chain (fun _ _ _ _ _ _ hr hgd => d_check_chain T hr hgd) p_check_chain
end
def b_check_chainX : DS :=
  (dIfS (dNotT (dTest (dCall 1 fs_is_chain (dCons (dVar 0) dNil))))
    (dRaise "InvalidChain" (dVar 0))
    dNext)
def fs_check_chainX : FSp := fun rs fu post => ∃ v, rs = [.val v] ∧ isChn v = false ∧ ShX v ∧ post (.exc "InvalidChain" (some v)) fu
theorem p_check_chainX (rs : List Rv) (fu : Option Nat) (post : Rr → Option Nat → Prop) (hl : rs.length = 1) (h : fs_check_chainX rs fu post) : b_check_chainX ⟨fun g => post (.val .none) g.fu, fun r g => post r g.fu, fun _ => False, fun _ => False⟩ (ent N_check_chain rs fu) := by
  obtain ⟨v, rfl, hv, hs, h⟩ := h
  simp_arith [b_check_chainX, fs_is_chain]
  refine ⟨v, rfl, fun _ => ⟨hs, h⟩, fun z => ?_⟩
  rw [hv] at z
  cases z
section
variable {P : Program} {w : World} {K : Fg} {mg : Str → Option Value} {base : Heap}
theorem d_check_chainX (T : Tx w K mg) {cdv : Value} {A : Around} {outer : List Env} {s : Shared} {H : Hp} {E : XK} (hr : Room 4 (A.deeper (envOfC "check_chain" (defScope st_check_chain) s.heap.objs.size T.f_check_chain cdv))) (hgd : (A.deeper (envOfC "check_chain" (defScope st_check_chain) s.heap.objs.size T.f_check_chain cdv)).guards = some [])
    (tk : Takes (cxOf (L2.CX P w) P w K mg base N_check_chain "check_chain" (defScope st_check_chain) T.f_check_chain cdv A outer s H E) (fun cls d _ H => E cls d H)) :
    PSs (cxOf (L2.CX P w) P w K mg base N_check_chain "check_chain" (defScope st_check_chain) T.f_check_chain cdv A outer s H E) (defBody st_check_chain) (upS K (fun cls d _ H => E cls d H) b_check_chainX) :=
  (ss_one (s_if (t_not (t_val (e_call (ok_is_chain T) (hr.mono (by decide)) hgd (by rfl) T.g_is_chain T.F_is_chain.kp T.b_is_chain pass0 (a_cons (e_var 0 (pv 0)) a_nil)))) (ss_one (s_raise rfl tk T.xv_InvalidChain (ok_InvalidChain_init T) (hr.mono (by decide)) hgd T.b_InvalidChain_init (by rfl) T.g_InvalidChain (e_var 0 (pv 0)))) ss_nil))
theorem ok_check_chainX (T : Tx w K mg) : Fn P w K mg base (L2.CX P w) 5 T.f_check_chain T.fd_check_chain ["value"] (liftX K 1 fs_check_chainX) := fn_dataX T.F_check_chain sc_check_chain b_check_chainX (fun _ _ _ _ _ _ hr hgd tk => d_check_chainX T hr hgd tk) p_check_chainX
theorem ok_check_chainO (T : Tx w K mg) : Fn P w K mg base (L2.CX P w) 5 T.f_check_chain T.fd_check_chain ["value"] (liftX K 1 (orF fs_check_chain fs_check_chainX)) := fn_orX (ok_check_chain T) (ok_check_chainX T)
end
def b_format_number : DS :=
  (dSeq (dDrop (dCall 1 fs_check_number (dCons (dVar 0) dNil)))
  (dSeq (dAsg (dVar 0) (dT 2 (dTc (dN 1) (dTc (dN 2) dTn))))
  (dRet (dIf (dTest (dBin fEq (dVar 2) (dC (.int 1)))) (dCB cStrI (dCons (dVar 1) dNil)) (dFstr [(dFmt (dVar 1)), (dFmt (dC (.str "/"))), (dFmt (dVar 2))])))))
/-- the text of a number -/
def numT (n d : Int) : Str := if d = 1 then Str.ofString (toString n) else Str.empty ++ Str.ofString (toString n) ++ "/" ++ Str.ofString (toString d)
theorem int_len {n : Int} (h : Bn 1000 n) : (Str.ofString (toString n)).length ≤ 1921 :=
  szX_ok (.int n) rfl (decide_eq_true (showI (h.mono (by decide))))
theorem emp_len : Str.empty.length = 0 := by decide +kernel
def fs_format_number : FSp := fun rs fu post => ∃ n d : Int, rs = [.val (num n d)] ∧ isNum (num n d) = true ∧ Bn 1000 n ∧ Bn 1000 d ∧ post (.val (.str (numT n d))) fu
theorem p_format_number (rs : List Rv) (fu : Option Nat) (post : Rr → Option Nat → Prop) (hl : rs.length = 1) (h : fs_format_number rs fu post) : b_format_number ⟨fun g => post (.val .none) g.fu, fun r g => post r g.fu, fun _ => False, fun _ => False⟩ (ent N_format_number rs fu) := by
  obtain ⟨n, d, rfl, hn, bn, bd, h⟩ := h
  simp_arith [b_format_number, fs_check_number, num]
  have ln := int_len bn
  have ld := int_len bd
  have l1 : (Str.ofString "/").length = 1 := by decide +kernel
  have an := showI (bn.mono (m := 1900) (by decide))
  have ad := showI (bd.mono (m := 1900) (by decide))
  unfold numT at h
  refine ⟨_, rfl, hn, fun e => ⟨an, by rw [if_pos e] at h; exact h⟩, fun e => ?_⟩
  rw [if_neg e] at h
  simp only [Str.length_append, emp_len, l1]
  rw [sizeLine_eq]
  exact ⟨an, by omega, by decide, by omega, ad, by omega, h⟩
section
variable {P : Program} {w : World} {K : Fg} {mg : Str → Option Value} {base : Heap}
theorem d_format_number (T : Tx w K mg) {cdv : Value} {A : Around} {outer : List Env} {s : Shared} {H : Hp} {E : XK} (hr : Room 4 (A.deeper (envOfC "format_number" (defScope st_format_number) s.heap.objs.size T.f_format_number cdv))) (hgd : (A.deeper (envOfC "format_number" (defScope st_format_number) s.heap.objs.size T.f_format_number cdv)).guards = some []) :
    PSs (cxOf CX0 P w K mg base N_format_number "format_number" (defScope st_format_number) T.f_format_number cdv A outer s H E).nox (defBody st_format_number) (upS K W0 b_format_number) :=
  (ss_cons (s_expr (e_call (ok_check_number T) (hr.mono (by decide)) hgd (by rfl) T.g_check_number T.F_check_number.kp T.b_check_number pass0 (a_cons (e_var 0 (pv 0)) a_nil)))
    (ss_cons (s_asg (e_var 0 (pv 0)) (g_tup rfl (gs_cons (g_name (pg_name (i := 1) sc_format_number.nd rfl (.inl rfl))) (gs_cons (g_name (pg_name (i := 2) sc_format_number.nd rfl (.inl rfl))) gs_nil))))
    (ss_one (s_ret (e_if (t_eq hr.units (e_var 2 (pv 2)) e_int) (e_strI (by rfl) T.n_str (a_cons (e_var 1 (pv 1)) a_nil)) (e_fstr (ts := [(dFmt (dVar 1)), (dFmt (dC (.str "/"))), (dFmt (dVar 2))]) (pjC (e_fmt (e_var 1 (pv 1))) (pjC (e_fmt (e_glob (by rfl) T.c_SLASH T.v_SLASH T.r_SLASH)) (pjC (e_fmt (e_var 2 (pv 2))) pjN)))))))))
theorem ok_format_number (T : Tx w K mg) : Fn P w K mg base CX0 5 T.f_format_number T.fd_format_number ["number"] (lift K 1 fs_format_number) := fn_data T.F_format_number sc_format_number b_format_number (fun _ _ _ _ _ _ hr hgd => d_format_number T hr hgd) p_format_number
end
def b_format_numberX : DS :=
  (dSeq (dDropX (dCallX 1 (orF fs_check_number fs_check_numberX) (dCons (dVar 0) dNil)))
  dStop)
def fs_format_numberX : FSp := fun rs fu post => ∃ v, rs = [.val v] ∧ isNum v = false ∧ ShX v ∧ post (.exc "InvalidNumber" (some v)) fu
theorem p_format_numberX (rs : List Rv) (fu : Option Nat) (post : Rr → Option Nat → Prop) (hl : rs.length = 1) (h : fs_format_numberX rs fu post) : b_format_numberX ⟨fun g => post (.val .none) g.fu, fun r g => post r g.fu, fun _ => False, fun _ => False⟩ (ent N_format_number rs fu) := by
  obtain ⟨v, rfl, hv, hs, h⟩ := h
  simp_arith [b_format_numberX]
  exact .inr ⟨v, rfl, hv, hs, h⟩
section
variable {P : Program} {w : World} {K : Fg} {mg : Str → Option Value} {base : Heap}
theorem d_format_numberX (T : Tx w K mg) {cdv : Value} {A : Around} {outer : List Env} {s : Shared} {H : Hp} {E : XK} (hr : Room 4 (A.deeper (envOfC "format_number" (defScope st_format_number) s.heap.objs.size T.f_format_number cdv))) (hgd : (A.deeper (envOfC "format_number" (defScope st_format_number) s.heap.objs.size T.f_format_number cdv)).guards = some [])
    (tk : Takes (cxOf (L2.CX P w) P w K mg base N_format_number "format_number" (defScope st_format_number) T.f_format_number cdv A outer s H E) (fun cls d _ H => E cls d H)) :
    PSs (cxOf (L2.CX P w) P w K mg base N_format_number "format_number" (defScope st_format_number) T.f_format_number cdv A outer s H E) (defBody st_format_number) (upS K (fun cls d _ H => E cls d H) b_format_numberX) :=
  (ss_cons (s_exprX (x_call tk (ok_check_numberO T) (hr.mono (by decide)) hgd (by rfl) T.g_check_number T.F_check_number.kp T.b_check_number (a_cons (e_var 0 (pv 0)) a_nil)))
    ss_stop)
theorem ok_format_numberX (T : Tx w K mg) : Fn P w K mg base (L2.CX P w) 5 T.f_format_number T.fd_format_number ["number"] (liftX K 1 fs_format_numberX) := fn_dataX T.F_format_number sc_format_number b_format_numberX (fun _ _ _ _ _ _ hr hgd tk => d_format_numberX T hr hgd tk) p_format_numberX
theorem ok_format_numberO (T : Tx w K mg) : Fn P w K mg base (L2.CX P w) 5 T.f_format_number T.fd_format_number ["number"] (liftX K 1 (orF fs_format_number fs_format_numberX)) := fn_orX (ok_format_number T) (ok_format_numberX T)
end
def b_format_chain : DS :=
  (dSeq (dDrop (dCall 1 fs_check_chain (dCons (dVar 0) dNil)))
  (dRet (dJoin (dC (.str ", ")) (dFz (dLc [1, 2] (dItems (dVar 0)) (dT 2 (dTc (dN 1) (dTc (dN 2) dTn))) dYes (dFstr [(dFmt (dVar 1)), (dC (.str " ")), (dFmt (dVar 2))]))))))
def stpT (s : Int × Ru) : Str := Str.empty ++ Str.ofString (toString s.1) ++ " " ++ s.2.s
/-- the text of a chain -/
def chnT (c : List (Int × Ru)) : Str := Txt.join ", " (c.map stpT)
def sdT : Da → Da
  | .tuple [.int n, .str r] => .str (Str.empty ++ Str.ofString (toString n) ++ " " ++ r)
  | _ => .none
def fs_format_chain : FSp := fun rs fu post => ∃ c : List (Int × Ru), rs = [.val (chD c)] ∧ Chn1 c ∧ post (.val (.str (chnT c))) fu
theorem ru_len (r : Ru) : r.s.length ≤ 10 := by cases r <;> decide +kernel
theorem stpT_len {s : Int × Ru} (h : 1 ≤ s.1 ∧ s.1 ≤ 100) : (stpT s).length ≤ 2000 := by
  have l1 : (Str.ofString " ").length = 1 := by decide +kernel
  have := int_len (n := s.1) (Bn.small (by omega) (by omega) (by decide))
  have := ru_len s.2
  unfold stpT
  simp only [Str.length_append, emp_len, l1]
  omega
theorem p_format_chain (rs : List Rv) (fu : Option Nat) (post : Rr → Option Nat → Prop) (hl : rs.length = 1) (h : fs_format_chain rs fu post) : b_format_chain ⟨fun g => post (.val .none) g.fu, fun r g => post r g.fu, fun _ => False, fun _ => False⟩ (ent N_format_chain rs fu) := by
  obtain ⟨c, rfl, hc, h⟩ := h
  simp_arith [b_format_chain, fs_check_chain, chD]
  have l1 : (Str.ofString " ").length = 1 := by decide +kernel
  refine ⟨_, rfl, isChn_ch hc.ne hc.len hc.w, lc_mapT sdT (fun x hx R N hR => ?_) (by rw [List.length_map, List.length_nil]; have := hc.len; omega) ?_⟩
  · obtain ⟨s, hs, rfl⟩ := List.mem_map.mp hx
    have hw := hc.w s hs
    have ln := int_len (n := s.1) (Bn.small (by omega) (by omega) (by decide))
    have ru := ru_len s.2
    have an := showI (n := s.1) ((Bn.small (m := 1900) (by omega) (by omega) (by decide)))
    simp_arith [stD]
    simp only [Str.length_append, emp_len, l1]
    rw [sizeLine_eq]
    exact ⟨an, by omega, by omega, by omega, by omega, hR _ rfl⟩
  · have e : [] ++ (c.map stD).map sdT = (c.map stpT).map PyData.str := by
      rw [List.nil_append, List.map_map, List.map_map]
      rfl
    rw [e]
    refine ⟨c.map stpT, rfl, ?_, h⟩
    have key : ∀ c : List (Int × Ru), Wds c → ((c.map stpT).map (·.length)).sum ≤ 2000 * c.length := fun c => by
      induction c with
      | nil => exact fun _ => Nat.le_refl _
      | cons s c ih =>
        intro hw
        have h1 := ih hw.tl
        have h2 := stpT_len hw.hd
        simp only [List.map_cons, List.sum_cons, List.length_cons]
        omega
    have k1 := key c hc.w
    have k2 := hc.len
    have k3 : (Str.ofString ", ").length = 2 := by decide +kernel
    rw [List.length_map, k3]
    omega
section
variable {P : Program} {w : World} {K : Fg} {mg : Str → Option Value} {base : Heap}
theorem d_format_chain (T : Tx w K mg) {cdv : Value} {A : Around} {outer : List Env} {s : Shared} {H : Hp} {E : XK} (hr : Room 5 (A.deeper (envOfC "format_chain" (defScope st_format_chain) s.heap.objs.size T.f_format_chain cdv))) (hgd : (A.deeper (envOfC "format_chain" (defScope st_format_chain) s.heap.objs.size T.f_format_chain cdv)).guards = some []) :
    PSs (cxOf CX0 P w K mg base N_format_chain "format_chain" (defScope st_format_chain) T.f_format_chain cdv A outer s H E).nox (defBody st_format_chain) (upS K W0 b_format_chain) :=
  (ss_cons (s_expr (e_call (ok_check_chain T) (hr.mono (by decide)) hgd (by rfl) T.g_check_chain T.F_check_chain.kp T.b_check_chain pass0 (a_cons (e_var 0 (pv 0)) a_nil)))
    (ss_one (s_ret (e_join (e_glob (by rfl) T.c_BETWEEN_STEPS T.v_BETWEEN_STEPS T.r_BETWEEN_STEPS) (e_fz (e_lc (own := [("width", 1), ("rule", 2)]) rfl sc_format_chain.nd (i_items (e_var 0 (pv 0))) (blkOk_by (own := [("width", 1), ("rule", 2)]) (N := N_format_chain) (sc := defScope st_format_chain) (by decide +kernel)) (fun _ _ _ _ _ => (gw_tup rfl rfl (gsw_cons (gw_name rfl (pg_name (i := 1) sc_format_chain.nd rfl (.inl rfl)) (by decide)) (gsw_cons (gw_name rfl (pg_name (i := 2) sc_format_chain.nd rfl (.inl rfl)) (by decide)) gsw_nil)))) (fun _ _ _ _ _ => ts_yes) (fun _ _ _ _ _ => (e_fstr (ts := [(dFmt (dVar 1)), (dC (.str " ")), (dFmt (dVar 2))]) (pjC (e_fmt (e_var 1 (pv 1))) (pjC e_str (pjC (e_fmt (e_var 2 (pv 2))) pjN)))))))))))
theorem ok_format_chain (T : Tx w K mg) : Fn P w K mg base CX0 6 T.f_format_chain T.fd_format_chain ["chain"] (lift K 1 fs_format_chain) := fn_data T.F_format_chain sc_format_chain b_format_chain (fun _ _ _ _ _ _ hr hgd => d_format_chain T hr hgd) p_format_chain
end
def b_format_chainX : DS :=
  (dSeq (dDropX (dCallX 1 (orF fs_check_chain fs_check_chainX) (dCons (dVar 0) dNil)))
  dStop)
def fs_format_chainX : FSp := fun rs fu post => ∃ v, rs = [.val v] ∧ isChn v = false ∧ ShX v ∧ post (.exc "InvalidChain" (some v)) fu
theorem p_format_chainX (rs : List Rv) (fu : Option Nat) (post : Rr → Option Nat → Prop) (hl : rs.length = 1) (h : fs_format_chainX rs fu post) : b_format_chainX ⟨fun g => post (.val .none) g.fu, fun r g => post r g.fu, fun _ => False, fun _ => False⟩ (ent N_format_chain rs fu) := by
  obtain ⟨v, rfl, hv, hs, h⟩ := h
  simp_arith [b_format_chainX]
  exact .inr ⟨v, rfl, hv, hs, h⟩
section
variable {P : Program} {w : World} {K : Fg} {mg : Str → Option Value} {base : Heap}
theorem d_format_chainX (T : Tx w K mg) {cdv : Value} {A : Around} {outer : List Env} {s : Shared} {H : Hp} {E : XK} (hr : Room 5 (A.deeper (envOfC "format_chain" (defScope st_format_chain) s.heap.objs.size T.f_format_chain cdv))) (hgd : (A.deeper (envOfC "format_chain" (defScope st_format_chain) s.heap.objs.size T.f_format_chain cdv)).guards = some [])
    (tk : Takes (cxOf (L2.CX P w) P w K mg base N_format_chain "format_chain" (defScope st_format_chain) T.f_format_chain cdv A outer s H E) (fun cls d _ H => E cls d H)) :
    PSs (cxOf (L2.CX P w) P w K mg base N_format_chain "format_chain" (defScope st_format_chain) T.f_format_chain cdv A outer s H E) (defBody st_format_chain) (upS K (fun cls d _ H => E cls d H) b_format_chainX) :=
  (ss_cons (s_exprX (x_call tk (ok_check_chainO T) (hr.mono (by decide)) hgd (by rfl) T.g_check_chain T.F_check_chain.kp T.b_check_chain (a_cons (e_var 0 (pv 0)) a_nil)))
    ss_stop)
theorem ok_format_chainX (T : Tx w K mg) : Fn P w K mg base (L2.CX P w) 6 T.f_format_chain T.fd_format_chain ["chain"] (liftX K 1 fs_format_chainX) := fn_dataX T.F_format_chain sc_format_chain b_format_chainX (fun _ _ _ _ _ _ hr hgd tk => d_format_chainX T hr hgd tk) p_format_chainX
theorem ok_format_chainO (T : Tx w K mg) : Fn P w K mg base (L2.CX P w) 6 T.f_format_chain T.fd_format_chain ["chain"] (liftX K 1 (orF fs_format_chain fs_format_chainX)) := fn_orX (ok_format_chain T) (ok_format_chainX T)
end
def b_int_in : DS :=
  (dSeq (dIfS (dOrT (dTest (dBin fEq (dVar 0) (dC (.str "")))) (dOrT (dNotT (dTest (dCB cAll (dCons (dFz (dLc [1] (dLetters (dVar 0)) (dN 1) dYes (dBin (fInC false) (dVar 1) (dC (.str "0123456789"))))) dNil)))) (dAndT (dTest (dBin oGt (dCB cLen (dCons (dVar 0) dNil)) (dC (.int 1)))) (dTest (dBin fEq (dIxS (dVar 0) (dC (.int 0))) (dC (.str "0")))))))
    (dRet (dC .none))
    dNext)
  (dRet (dCB cIntS (dCons (dVar 0) dNil))))
def fs_int_in : FSp := fun rs fu post => ∃ w : Str, rs = [.val (.str w)] ∧ TX 390 w ∧ post (.val (optI (intIn w))) fu
theorem p_int_in (rs : List Rv) (fu : Option Nat) (post : Rr → Option Nat → Prop) (hl : rs.length = 1) (h : fs_int_in rs fu post) : b_int_in ⟨fun g => post (.val .none) g.fu, fun r g => post r g.fu, fun _ => False, fun _ => False⟩ (ent N_int_in rs fu) := by
  obtain ⟨w, rfl, ht, h⟩ := h
  simp_arith [b_int_in]
  have no : (sg w).isEmpty = true ∨ dgW w = false ∨ (1 < w.length ∧ (sg w).head? = some 48) → post (.val .none) fu := fun q => by
    have : intIn w = none := by
      unfold intIn
      rw [if_pos]
      rcases q with q | q | ⟨q1, q2⟩
      · simp [q]
      · simp [q]
      · simp [q1, q2]
    rw [this] at h
    exact h
  refine ⟨ht.shaped, by decide +kernel, fun e => no (.inl ((sg_empty w).mp e)), fun ne => ?_⟩
  have e0 : (sg w).isEmpty = false := by
    cases q : (sg w).isEmpty with
    | false => rfl
    | true => exact absurd ((sg_empty w).mpr q) ne
  refine lc_map dgF (fun x hx R hR => ?_) (by unfold lettersD; rw [List.length_map, List.length_nil, Nat.zero_add]; exact Nat.le_trans (Nat.le_of_eq (sg_len w)) ht.fits.2.2) ?_
  · unfold lettersD at hx
    obtain ⟨c, hc, rfl⟩ := List.mem_map.mp hx
    simp_arith [Nat.zero_add]
    exact ⟨c, rfl, hR _ rfl⟩
  · rw [List.nil_append, dg_letters]
    show (((sg w).map isDg).all id = false → _) ∧ (((sg w).map isDg).all id = true → _)
    rw [dg_all]
    refine ⟨fun q => no (.inr (.inl q)), fun q => ?_⟩
    have hw := ht.word q
    have fin : ¬(1 < w.length ∧ (sg w).head? = some 48) → match intText? w with
      | some n => w.length ≤ 640 ∧ post (Rr.val (PyData.int n)) fu
      | none => False := fun z => by
      rw [int_text q e0 (by omega)]
      refine ⟨by omega, ?_⟩
      have : intIn w = some ((PySem.NumText.digitsVal (sg w) : Nat) : Int) := by
        unfold intIn
        rw [if_neg]
        simp only [e0, q, Bool.false_or, Bool.not_true, Bool.and_eq_true, decide_eq_true_eq]
        exact z
      rw [this] at h
      exact h
    obtain ⟨c, c1, c2⟩ := sg_first e0
    refine ⟨ht.fits.1, fun l1 => ⟨ht.fits.1, c, c1, ?_, by decide +kernel, fun e => ?_, fun e => ?_⟩, fun l1 => fin fun z => l1 (by omega)⟩
    · have hc : c < 128 := ht.asc c (List.mem_of_head? c2)
      have : PyData.strOk ⟨#[c]⟩ = true := by
        show (#[c] : Array Nat).all (fun c => decide (c < 0x110000)) = true
        simp
        omega
      simp [SeqAt.shaped, PyData.canLay0, PyData.depth, this]
    · rw [str_zero] at e
      exact no (.inr (.inr ⟨by omega, by rw [c2, e]⟩))
    · exact fin fun z => e (str_zero.mpr (by
        have := z.2
        rw [c2] at this
        injection this))
section
variable {P : Program} {w : World} {K : Fg} {mg : Str → Option Value} {base : Heap}
theorem d_int_in (T : Tx w K mg) {cdv : Value} {A : Around} {outer : List Env} {s : Shared} {H : Hp} {E : XK} (hr : Room 0 (A.deeper (envOfC "int_in" (defScope st_int_in) s.heap.objs.size T.f_int_in cdv))) (hgd : (A.deeper (envOfC "int_in" (defScope st_int_in) s.heap.objs.size T.f_int_in cdv)).guards = some []) :
    PSs (cxOf CX0 P w K mg base N_int_in "int_in" (defScope st_int_in) T.f_int_in cdv A outer s H E).nox (defBody st_int_in) (upS K W0 b_int_in) :=
  (ss_cons (s_if (PW.pt (w_or (t_eq hr.units (e_var 0 (pv 0)) e_str) (w_or (t_not (t_val (e_all rfl (by rfl) T.n_all (a_cons (e_fz (e_lc (own := [("character", 1)]) rfl sc_int_in.nd (i_letters (e_var 0 (pv 0))) (blkOk_by (own := [("character", 1)]) (N := N_int_in) (sc := defScope st_int_in) (by decide +kernel)) (fun _ _ _ _ _ => (gw_name rfl (pg_name (i := 1) sc_int_in.nd rfl (.inl rfl)) (by decide))) (fun _ _ _ _ _ => ts_yes) (fun _ _ _ _ _ => (e_inC (e_var 1 (pv 1)) (e_glob (by rfl) T.c_DIGITS T.v_DIGITS T.r_DIGITS))))) a_nil)))) (w_or1 (PW.pt (w_and (t_gt (e_len (by rfl) T.n_len (a_cons (e_var 0 (pv 0)) a_nil)) e_int) (w_and1 (t_eq hr.units (e_ixS (e_var 0 (pv 0)) e_int) e_str)))))))) (ss_one (s_ret e_non)) ss_nil)
    (ss_one (s_ret (e_tointS (by rfl) T.n_int (a_cons (e_var 0 (pv 0)) a_nil)))))
theorem ok_int_in (T : Tx w K mg) : Fn P w K mg base CX0 1 T.f_int_in T.fd_int_in ["word"] (lift K 1 fs_int_in) := fn_data T.F_int_in sc_int_in b_int_in (fun _ _ _ _ _ _ hr hgd => d_int_in T hr hgd) p_int_in
end
def b_number_in : DS :=
  (dSeq (dSetL 1 (dLc [3] (dItems (dSplit (dVar 0) (dC (.str "/")))) (dN 3) dYes (dCall 1 fs_int_in (dCons (dVar 3) dNil))))
  (dSeq (dIfS (dOrT (dTest (dBin (fIn false) (dC .none) (dVar 1))) (dOrT (dTest (dBin oGt (dCB cLen (dCons (dVar 1) dNil)) (dC (.int 2)))) (dAndT (dTest (dBin fEq (dCB cLen (dCons (dVar 1) dNil)) (dC (.int 2)))) (dTest (dBin fEq (dIx (dVar 1) (dC (.int 1))) (dC (.int 1)))))))
    (dRet (dC .none))
    dNext)
  (dSeq (dAsg (dTup (dCons (dIx (dVar 1) (dC (.int 0))) (dCons (dIf (dTest (dBin fEq (dCB cLen (dCons (dVar 1) dNil)) (dC (.int 2)))) (dIx (dVar 1) (dC (.int 1))) (dC (.int 1))) dNil))) (dN 2))
  (dRet (dIf (dTest (dCall 1 fs_is_number (dCons (dVar 2) dNil))) (dVar 2) (dC .none))))))
/-- the number of a text, by what its words write -/
def numP : List (Option Int) → Option (Int × Int)
  | [some a] => if isNum (num a 1) = true then some (a, 1) else none
  | [some a, some b] => if b ≠ 1 ∧ isNum (num a b) = true then some (a, b) else none
  | _ => none
def numIn (t : Str) : Option (Int × Int) := numP ((Txt.split t "/").map intIn)
def numD : Option (Int × Int) → Da
  | none => .none
  | some p => num p.1 p.2
def inF : Da → Da
  | .str w => optI (intIn w)
  | _ => .none
theorem none_in : ∀ P : List (Option Int), inD .none (P.map optI) = P.any Option.isNone
  | [] => rfl
  | none :: P => by
    unfold inD
    rw [List.map_cons, List.any_cons, List.any_cons]
    rfl
  | some n :: P => by
    have ih := none_in P
    unfold inD at ih ⊢
    rw [List.map_cons, List.any_cons, List.any_cons, ih]
    show (PyData.eqv (.int n) .none || _) = _
    rw [show PyData.eqv (.int n) .none = false by simp [PyData.eqv]]
    rfl
theorem flat_opt (P : List (Option Int)) : (P.map optI).all flatD = true := by
  rw [List.all_map, List.all_eq_true]
  intro x _
  cases x <;> rfl
theorem numP_none {P : List (Option Int)} (h : P.any Option.isNone = true ∨ 2 < P.length) : numP P = none := by
  match P with
  | [] => rfl
  | [none] => rfl
  | [some a] => rcases h with h | h <;> simp at h
  | [none, _] => rfl
  | [some _, none] => rfl
  | [some a, some b] => rcases h with h | h <;> simp at h
  | a :: b :: _ :: _ => cases a <;> cases b <;> rfl
def fs_number_in : FSp := fun rs fu post => ∃ t : Str, rs = [.val (.str t)] ∧ TX 390 t ∧ post (.val (numD (numIn t))) fu
theorem p_number_in (rs : List Rv) (fu : Option Nat) (post : Rr → Option Nat → Prop) (hl : rs.length = 1) (h : fs_number_in rs fu post) : b_number_in ⟨fun g => post (.val .none) g.fu, fun r g => post r g.fu, fun _ => False, fun _ => False⟩ (ent N_number_in rs fu) := by
  obtain ⟨t, rfl, ht, h⟩ := h
  simp_arith [b_number_in]
  have len : (Txt.split t "/").length ≤ 1000000 := by
    have := PyProof.Rows.split_le t "/"
    have := ht.len
    omega
  refine ⟨by decide +kernel, ht.fits.2.1, lc_map inF (fun x hx R hR => ?_) (by rw [List.length_map, List.length_nil, Nat.zero_add]; exact len) ?_⟩
  · obtain ⟨w, hw, rfl⟩ := List.mem_map.mp hx
    simp_arith [fs_int_in]
    exact ⟨w, rfl, ht.part hw, hR _ rfl⟩
  · have e : [] ++ ((Txt.split t "/").map PyData.str).map inF = ((Txt.split t "/").map intIn).map optI := by
      rw [List.nil_append, List.map_map, List.map_map]
      rfl
    rw [e]
    have hp : 1 ≤ ((Txt.split t "/").map intIn).length := by rw [List.length_map]; exact PyProof.Rows.split_pos t "/"
    unfold numIn at h
    have nn : ∀ q ∈ (Txt.split t "/").map intIn, ∀ n, q = some n → 0 ≤ n := fun q hq n e => by
      obtain ⟨w, _, rfl⟩ := List.mem_map.mp hq
      exact intIn_nn e
    generalize (Txt.split t "/").map intIn = P at h hp nn ⊢
    rw [none_in]
    refine ⟨flat_opt P, fun q => by rw [numP_none (.inl q)] at h; exact h, fun q => ?_⟩
    rw [List.length_map]
    refine ⟨fun l2 => by rw [numP_none (.inr (by omega))] at h; exact h, fun l2 => ?_⟩
    match P, hp with
    | [some a], _ =>
      simp_arith [fs_is_number, optI]
      refine ⟨fun z => absurd z (by decide), fun _ => ⟨fun z => absurd z (by decide), fun _ => ⟨_, rfl, fun e => ?_, fun e => ?_⟩⟩⟩
      · have : numP [some a] = some (a, 1) := if_pos e
        rw [this] at h
        exact h
      · have : numP [some a] = none := if_neg (by rw [show isNum (num a 1) = false from e]; decide)
        rw [this] at h
        exact h
    | [some a, some b], _ =>
      simp_arith [fs_is_number, optI]
      have no : ¬(b ≠ 1 ∧ isNum (num a b) = true) → post (.val .none) fu := fun z => by
        have : numP [some a, some b] = none := if_neg z
        rw [this] at h
        exact h
      refine ⟨fun _ => ⟨fun e => no fun z => z.1 e, fun e => ⟨fun _ => ⟨_, rfl, fun e2 => ?_, fun e2 => no fun z => ?_⟩, fun z => absurd rfl z⟩⟩, fun z => absurd rfl z⟩
      · have : numP [some a, some b] = some (a, b) := if_pos ⟨e, e2⟩
        rw [this] at h
        exact h
      · have z2 := z.2
        rw [show isNum (num a b) = false from e2] at z2
        cases z2
    | [none], _ => simp at q
    | [none, _], _ => simp at q
    | [some _, none], _ => simp at q
    | _ :: _ :: _ :: _, _ =>
      simp only [List.length_cons] at l2
      omega
section
variable {P : Program} {w : World} {K : Fg} {mg : Str → Option Value} {base : Heap}
theorem d_number_in (T : Tx w K mg) {cdv : Value} {A : Around} {outer : List Env} {s : Shared} {H : Hp} {E : XK} (hr : Room 2 (A.deeper (envOfC "number_in" (defScope st_number_in) s.heap.objs.size T.f_number_in cdv))) (hgd : (A.deeper (envOfC "number_in" (defScope st_number_in) s.heap.objs.size T.f_number_in cdv)).guards = some []) :
    PSs (cxOf CX0 P w K mg base N_number_in "number_in" (defScope st_number_in) T.f_number_in cdv A outer s H E).nox (defBody st_number_in) (upS K W0 b_number_in) :=
  (ss_cons (s_setLc (i := 1) (own := [("word", 3)]) rfl sc_number_in.nd rfl rfl (sw_true rfl rfl rfl (by decide +kernel)) (i_items (e_split (e_var 0 (pv 0)) (e_glob (by rfl) T.c_SLASH T.v_SLASH T.r_SLASH))) (blkOk_by (own := [("word", 3)]) (N := N_number_in) (sc := defScope st_number_in) (by decide +kernel)) (fun _ _ _ _ _ => (gw_name rfl (pg_name (i := 3) sc_number_in.nd rfl (.inl rfl)) (by decide))) (fun _ _ _ _ _ => ts_yes) (fun _ _ _ _ _ => (e_call (ok_int_in T) (hr.mono (by decide)) hgd (by rfl) T.g_int_in T.F_int_in.kp T.b_int_in pass0 (a_cons (e_var 3 (pv 3)) a_nil))))
    (ss_cons (s_if (PW.pt (w_or (t_in e_non (e_var 1 (pv 1))) (w_or (t_gt (e_len (by rfl) T.n_len (a_cons (e_var 1 (pv 1)) a_nil)) e_int) (w_or1 (PW.pt (w_and (t_eq hr.units (e_len (by rfl) T.n_len (a_cons (e_var 1 (pv 1)) a_nil)) e_int) (w_and1 (t_eq hr.units (e_ix (e_var 1 (pv 1)) e_int) e_int)))))))) (ss_one (s_ret e_non)) ss_nil)
    (ss_cons (s_set (i := 2) sc_number_in.nd rfl (.inl rfl) (e_tup (a_cons (e_ix (e_var 1 (pv 1)) e_int) (a_cons (e_if (t_eq hr.units (e_len (by rfl) T.n_len (a_cons (e_var 1 (pv 1)) a_nil)) e_int) (e_ix (e_var 1 (pv 1)) e_int) e_int) a_nil))))
    (ss_one (s_ret (e_if (t_val (e_call (ok_is_number T) (hr.mono (by decide)) hgd (by rfl) T.g_is_number T.F_is_number.kp T.b_is_number pass0 (a_cons (e_var 2 (pv 2)) a_nil))) (e_var 2 (pv 2)) e_non))))))
theorem ok_number_in (T : Tx w K mg) : Fn P w K mg base CX0 3 T.f_number_in T.fd_number_in ["text"] (lift K 1 fs_number_in) := fn_data T.F_number_in sc_number_in b_number_in (fun _ _ _ _ _ _ hr hgd => d_number_in T hr hgd) p_number_in
end
def b_step_in : DS :=
  (dSeq (dAsg (dSplit (dVar 0) (dC (.str " "))) (dN 1))
  (dRet (dIf (dTest (dBin fEq (dCB cLen (dCons (dVar 1) dNil)) (dC (.int 2)))) (dTup (dCons (dCall 1 fs_int_in (dCons (dIx (dVar 1) (dC (.int 0))) dNil)) (dCons (dIx (dVar 1) (dC (.int 1))) dNil))) (dC .none))))
def stpP : List Str → Da
  | [w, r] => .tuple [optI (intIn w), .str r]
  | _ => .none
def stpIn (p : Str) : Da := stpP (Txt.split p " ")
def fs_step_in : FSp := fun rs fu post => ∃ t : Str, rs = [.val (.str t)] ∧ TX 390 t ∧ post (.val (stpIn t)) fu
theorem stpP_ne {ps : List Str} (h : ps.length ≠ 2) : stpP ps = .none := by
  match ps with
  | [] => rfl
  | [_] => rfl
  | [_, _] => exact absurd rfl h
  | _ :: _ :: _ :: _ => rfl
theorem p_step_in (rs : List Rv) (fu : Option Nat) (post : Rr → Option Nat → Prop) (hl : rs.length = 1) (h : fs_step_in rs fu post) : b_step_in ⟨fun g => post (.val .none) g.fu, fun r g => post r g.fu, fun _ => False, fun _ => False⟩ (ent N_step_in rs fu) := by
  obtain ⟨t, rfl, ht, h⟩ := h
  simp_arith [b_step_in, fs_int_in]
  refine ⟨by decide +kernel, ht.fits.2.1, ?_⟩
  unfold stpIn at h
  have tw : ∀ w ∈ Txt.split t " ", TX 390 w := fun w hw => ht.part hw
  generalize Txt.split t " " = P at h tw ⊢
  refine ⟨fun e => ?_, fun e => by rw [stpP_ne (fun z => e (by rw [List.length_map, z]; rfl))] at h; exact h⟩
  rw [List.length_map] at e
  match P, e with
  | [w, r], _ =>
    simp_arith [Nat.zero_add]
    exact ⟨w, rfl, tw w (List.mem_cons_self ..), h⟩
  | [], e => exact absurd e (by decide)
  | [_], e => exact absurd e (by simp)
  | _ :: _ :: _ :: _, e =>
    simp only [List.length_cons] at e
    omega
section
variable {P : Program} {w : World} {K : Fg} {mg : Str → Option Value} {base : Heap}
theorem d_step_in (T : Tx w K mg) {cdv : Value} {A : Around} {outer : List Env} {s : Shared} {H : Hp} {E : XK} (hr : Room 1 (A.deeper (envOfC "step_in" (defScope st_step_in) s.heap.objs.size T.f_step_in cdv))) (hgd : (A.deeper (envOfC "step_in" (defScope st_step_in) s.heap.objs.size T.f_step_in cdv)).guards = some []) :
    PSs (cxOf CX0 P w K mg base N_step_in "step_in" (defScope st_step_in) T.f_step_in cdv A outer s H E).nox (defBody st_step_in) (upS K W0 b_step_in) :=
  (ss_cons (s_set (i := 1) sc_step_in.nd rfl (.inl rfl) (e_split (e_var 0 (pv 0)) (e_glob (by rfl) T.c_SPACE T.v_SPACE T.r_SPACE)))
    (ss_one (s_ret (e_if (t_eq hr.units (e_len (by rfl) T.n_len (a_cons (e_var 1 (pv 1)) a_nil)) e_int) (e_tup (a_cons (e_call (ok_int_in T) (hr.mono (by decide)) hgd (by rfl) T.g_int_in T.F_int_in.kp T.b_int_in pass0 (a_cons (e_ix (e_var 1 (pv 1)) e_int) a_nil)) (a_cons (e_ix (e_var 1 (pv 1)) e_int) a_nil))) e_non))))
theorem ok_step_in (T : Tx w K mg) : Fn P w K mg base CX0 2 T.f_step_in T.fd_step_in ["text"] (lift K 1 fs_step_in) := fn_data T.F_step_in sc_step_in b_step_in (fun _ _ _ _ _ _ hr hgd => d_step_in T hr hgd) p_step_in
end
def b_chain_in : DS :=
  (dSeq (dAsg (dCB cTuple (dCons (dFz (dLc [2] (dItems (dSplit (dVar 0) (dC (.str ", ")))) (dN 2) dYes (dCall 1 fs_step_in (dCons (dVar 2) dNil)))) dNil)) (dN 1))
  (dRet (dIf (dTest (dCall 1 fs_is_chain (dCons (dVar 1) dNil))) (dVar 1) (dC .none))))
def chnIn (t : Str) : Da := .tuple ((Txt.split t ", ").map stpIn)
def chnD (t : Str) : Da := if isChn (chnIn t) = true then chnIn t else .none
def stF : Da → Da
  | .str w => stpIn w
  | _ => .none
def fs_chain_in : FSp := fun rs fu post => ∃ t : Str, rs = [.val (.str t)] ∧ TX 390 t ∧ post (.val (chnD t)) fu
theorem p_chain_in (rs : List Rv) (fu : Option Nat) (post : Rr → Option Nat → Prop) (hl : rs.length = 1) (h : fs_chain_in rs fu post) : b_chain_in ⟨fun g => post (.val .none) g.fu, fun r g => post r g.fu, fun _ => False, fun _ => False⟩ (ent N_chain_in rs fu) := by
  obtain ⟨t, rfl, ht, h⟩ := h
  simp_arith [b_chain_in]
  have len : (Txt.split t ", ").length ≤ 1000000 := by
    have := PyProof.Rows.split_le t ", "
    have := ht.len
    omega
  refine ⟨by decide +kernel, ht.fits.2.1, lc_map stF (fun x hx R hR => ?_) (by rw [List.length_map, List.length_nil, Nat.zero_add]; exact len) ?_⟩
  · obtain ⟨w, hw, rfl⟩ := List.mem_map.mp hx
    simp_arith [fs_step_in]
    exact ⟨w, rfl, ht.part hw, hR _ rfl⟩
  · have e : [] ++ ((Txt.split t ", ").map PyData.str).map stF = (Txt.split t ", ").map stpIn := by
      rw [List.nil_append, List.map_map]
      rfl
    rw [e]
    simp_arith [fs_is_chain]
    unfold chnD at h
    refine ⟨_, rfl, fun q => ?_, fun q => ?_⟩
    · rw [if_pos (show isChn (chnIn t) = true from q)] at h
      exact h
    · rw [if_neg (show ¬isChn (chnIn t) = true by rw [show isChn (chnIn t) = false from q]; decide)] at h
      exact h
section
variable {P : Program} {w : World} {K : Fg} {mg : Str → Option Value} {base : Heap}
theorem d_chain_in (T : Tx w K mg) {cdv : Value} {A : Around} {outer : List Env} {s : Shared} {H : Hp} {E : XK} (hr : Room 4 (A.deeper (envOfC "chain_in" (defScope st_chain_in) s.heap.objs.size T.f_chain_in cdv))) (hgd : (A.deeper (envOfC "chain_in" (defScope st_chain_in) s.heap.objs.size T.f_chain_in cdv)).guards = some []) :
    PSs (cxOf CX0 P w K mg base N_chain_in "chain_in" (defScope st_chain_in) T.f_chain_in cdv A outer s H E).nox (defBody st_chain_in) (upS K W0 b_chain_in) :=
  (ss_cons (s_set (i := 1) sc_chain_in.nd rfl (.inl rfl) (e_tuple (by rfl) T.n_tuple (a_cons (e_fz (e_lc (own := [("part", 2)]) rfl sc_chain_in.nd (i_items (e_split (e_var 0 (pv 0)) (e_glob (by rfl) T.c_BETWEEN_STEPS T.v_BETWEEN_STEPS T.r_BETWEEN_STEPS))) (blkOk_by (own := [("part", 2)]) (N := N_chain_in) (sc := defScope st_chain_in) (by decide +kernel)) (fun _ _ _ _ _ => (gw_name rfl (pg_name (i := 2) sc_chain_in.nd rfl (.inl rfl)) (by decide))) (fun _ _ _ _ _ => ts_yes) (fun _ _ _ _ _ => (e_call (ok_step_in T) (hr.mono (by decide)) hgd (by rfl) T.g_step_in T.F_step_in.kp T.b_step_in pass0 (a_cons (e_var 2 (pv 2)) a_nil))))) a_nil)))
    (ss_one (s_ret (e_if (t_val (e_call (ok_is_chain T) (hr.mono (by decide)) hgd (by rfl) T.g_is_chain T.F_is_chain.kp T.b_is_chain pass0 (a_cons (e_var 1 (pv 1)) a_nil))) (e_var 1 (pv 1)) e_non))))
theorem ok_chain_in (T : Tx w K mg) : Fn P w K mg base CX0 5 T.f_chain_in T.fd_chain_in ["text"] (lift K 1 fs_chain_in) := fn_data T.F_chain_in sc_chain_in b_chain_in (fun _ _ _ _ _ _ hr hgd => d_chain_in T hr hgd) p_chain_in
end
def b_parse_number : DS :=
  (dSeq (dAsg (dIf (dTest (dIsi "str" (dVar 0))) (dCall 1 fs_number_in (dCons (dVar 0) dNil)) (dC .none)) (dN 1))
  (dSeq (dIfS (dTest (dIsN false (dVar 1)))
    dNever
    dNext)
  (dRet (dVar 1))))
def fs_parse_number : FSp := fun rs fu post => ∃ (t : Str) (p : Int × Int), rs = [.val (.str t)] ∧ TX 390 t ∧ numIn t = some p ∧ post (.val (num p.1 p.2)) fu
theorem p_parse_number (rs : List Rv) (fu : Option Nat) (post : Rr → Option Nat → Prop) (hl : rs.length = 1) (h : fs_parse_number rs fu post) : b_parse_number ⟨fun g => post (.val .none) g.fu, fun r g => post r g.fu, fun _ => False, fun _ => False⟩ (ent N_parse_number rs fu) := by
  obtain ⟨t, p, rfl, ht, hp, h⟩ := h
  simp_arith [b_parse_number, fs_number_in]
  exact ⟨fun _ => ⟨t, rfl, ht, (fun e => by rw [hp] at e; cases e), (fun _ => by rw [hp]; exact h)⟩, fun e => by simp [isTy] at e⟩
section
variable {P : Program} {w : World} {K : Fg} {mg : Str → Option Value} {base : Heap}
theorem d_parse_number (T : Tx w K mg) {cdv : Value} {A : Around} {outer : List Env} {s : Shared} {H : Hp} {E : XK} (hr : Room 3 (A.deeper (envOfC "parse_number" (defScope st_parse_number) s.heap.objs.size T.f_parse_number cdv))) (hgd : (A.deeper (envOfC "parse_number" (defScope st_parse_number) s.heap.objs.size T.f_parse_number cdv)).guards = some []) :
    PSs (cxOf CX0 P w K mg base N_parse_number "parse_number" (defScope st_parse_number) T.f_parse_number cdv A outer s H E).nox (defBody st_parse_number) (upS K W0 b_parse_number) :=
  (ss_cons (s_set (i := 1) sc_parse_number.nd rfl (.inl rfl) (e_if (t_val (e_isi kit_str (by rfl) T.n_isinstance (e_var 0 (pv 0)) (c_ty (by rfl) T.n_str (by decide +kernel)))) (e_call (ok_number_in T) (hr.mono (by decide)) hgd (by rfl) T.g_number_in T.F_number_in.kp T.b_number_in pass0 (a_cons (e_var 0 (pv 0)) a_nil)) e_non))
    (ss_cons (s_if (t_isN (e_var 1 (pv 1))) (ss_one s_never) ss_nil)
    (ss_one (s_ret (e_var 1 (pv 1))))))
theorem ok_parse_number (T : Tx w K mg) : Fn P w K mg base CX0 4 T.f_parse_number T.fd_parse_number ["text"] (lift K 1 fs_parse_number) := fn_data T.F_parse_number sc_parse_number b_parse_number (fun _ _ _ _ _ _ hr hgd => d_parse_number T hr hgd) p_parse_number
end
def b_parse_numberX : DS :=
  (dSeq (dAsg (dIf (dTest (dIsi "str" (dVar 0))) (dCall 1 fs_number_in (dCons (dVar 0) dNil)) (dC .none)) (dN 1))
  (dSeq (dIfS (dTest (dIsN false (dVar 1)))
    (dRaise "InvalidText" (dVar 0))
    dNext)
  dStop))
def fs_parse_numberX : FSp := fun rs fu post => ∃ v, rs = [.val v] ∧ (isTy "str" v = false ∨ ∃ t, v = .str t ∧ TX 390 t ∧ numIn t = none) ∧ ShX v ∧ post (.exc "InvalidText" (some v)) fu
theorem p_parse_numberX (rs : List Rv) (fu : Option Nat) (post : Rr → Option Nat → Prop) (hl : rs.length = 1) (h : fs_parse_numberX rs fu post) : b_parse_numberX ⟨fun g => post (.val .none) g.fu, fun r g => post r g.fu, fun _ => False, fun _ => False⟩ (ent N_parse_number rs fu) := by
  obtain ⟨v, rfl, hv, hs, h⟩ := h
  simp_arith [b_parse_numberX, fs_number_in]
  refine ⟨fun e => ?_, fun _ => ⟨hs, h⟩⟩
  rcases hv with hv | ⟨t, rfl, ht, hn⟩
  · rw [hv] at e
    cases e
  · exact ⟨t, rfl, ht, fun _ => ⟨hs, h⟩, fun e => by rw [hn] at e; cases e⟩
section
variable {P : Program} {w : World} {K : Fg} {mg : Str → Option Value} {base : Heap}
theorem d_parse_numberX (T : Tx w K mg) {cdv : Value} {A : Around} {outer : List Env} {s : Shared} {H : Hp} {E : XK} (hr : Room 3 (A.deeper (envOfC "parse_number" (defScope st_parse_number) s.heap.objs.size T.f_parse_number cdv))) (hgd : (A.deeper (envOfC "parse_number" (defScope st_parse_number) s.heap.objs.size T.f_parse_number cdv)).guards = some [])
    (tk : Takes (cxOf (L2.CX P w) P w K mg base N_parse_number "parse_number" (defScope st_parse_number) T.f_parse_number cdv A outer s H E) (fun cls d _ H => E cls d H)) :
    PSs (cxOf (L2.CX P w) P w K mg base N_parse_number "parse_number" (defScope st_parse_number) T.f_parse_number cdv A outer s H E) (defBody st_parse_number) (upS K (fun cls d _ H => E cls d H) b_parse_numberX) :=
  (ss_cons (s_set (i := 1) sc_parse_number.nd rfl (.inl rfl) (e_if (t_val (e_isi kit_str (by rfl) T.n_isinstance (e_var 0 (pv 0)) (c_ty (by rfl) T.n_str (by decide +kernel)))) (e_call (ok_number_in T) (hr.mono (by decide)) hgd (by rfl) T.g_number_in T.F_number_in.kp T.b_number_in pass0 (a_cons (e_var 0 (pv 0)) a_nil)) e_non))
    (ss_cons (s_if (t_isN (e_var 1 (pv 1))) (ss_one (s_raise rfl tk T.xv_InvalidText (ok_InvalidText_init T) (hr.mono (by decide)) hgd T.b_InvalidText_init (by rfl) T.g_InvalidText (e_var 0 (pv 0)))) ss_nil)
    ss_stop))
theorem ok_parse_numberX (T : Tx w K mg) : Fn P w K mg base (L2.CX P w) 4 T.f_parse_number T.fd_parse_number ["text"] (liftX K 1 fs_parse_numberX) := fn_dataX T.F_parse_number sc_parse_number b_parse_numberX (fun _ _ _ _ _ _ hr hgd tk => d_parse_numberX T hr hgd tk) p_parse_numberX
theorem ok_parse_numberO (T : Tx w K mg) : Fn P w K mg base (L2.CX P w) 4 T.f_parse_number T.fd_parse_number ["text"] (liftX K 1 (orF fs_parse_number fs_parse_numberX)) := fn_orX (ok_parse_number T) (ok_parse_numberX T)
end
def b_parse_chain : DS :=
  (dSeq (dAsg (dIf (dTest (dIsi "str" (dVar 0))) (dCall 1 fs_chain_in (dCons (dVar 0) dNil)) (dC .none)) (dN 1))
  (dSeq (dIfS (dTest (dIsN false (dVar 1)))
    dNever
    dNext)
  (dRet (dVar 1))))
def fs_parse_chain : FSp := fun rs fu post => ∃ t : Str, rs = [.val (.str t)] ∧ TX 390 t ∧ isChn (chnIn t) = true ∧ post (.val (chnIn t)) fu
theorem p_parse_chain (rs : List Rv) (fu : Option Nat) (post : Rr → Option Nat → Prop) (hl : rs.length = 1) (h : fs_parse_chain rs fu post) : b_parse_chain ⟨fun g => post (.val .none) g.fu, fun r g => post r g.fu, fun _ => False, fun _ => False⟩ (ent N_parse_chain rs fu) := by
  obtain ⟨t, rfl, ht, hp, h⟩ := h
  simp_arith [b_parse_chain, fs_chain_in]
  have e1 : chnD t = chnIn t := if_pos hp
  exact ⟨fun _ => ⟨t, rfl, ht, (fun e => by rw [e1] at e; cases e), (fun _ => by rw [e1]; exact h)⟩, fun e => by simp [isTy] at e⟩
section
variable {P : Program} {w : World} {K : Fg} {mg : Str → Option Value} {base : Heap}
theorem d_parse_chain (T : Tx w K mg) {cdv : Value} {A : Around} {outer : List Env} {s : Shared} {H : Hp} {E : XK} (hr : Room 5 (A.deeper (envOfC "parse_chain" (defScope st_parse_chain) s.heap.objs.size T.f_parse_chain cdv))) (hgd : (A.deeper (envOfC "parse_chain" (defScope st_parse_chain) s.heap.objs.size T.f_parse_chain cdv)).guards = some []) :
    PSs (cxOf CX0 P w K mg base N_parse_chain "parse_chain" (defScope st_parse_chain) T.f_parse_chain cdv A outer s H E).nox (defBody st_parse_chain) (upS K W0 b_parse_chain) :=
  (ss_cons (s_set (i := 1) sc_parse_chain.nd rfl (.inl rfl) (e_if (t_val (e_isi kit_str (by rfl) T.n_isinstance (e_var 0 (pv 0)) (c_ty (by rfl) T.n_str (by decide +kernel)))) (e_call (ok_chain_in T) (hr.mono (by decide)) hgd (by rfl) T.g_chain_in T.F_chain_in.kp T.b_chain_in pass0 (a_cons (e_var 0 (pv 0)) a_nil)) e_non))
    (ss_cons (s_if (t_isN (e_var 1 (pv 1))) (ss_one s_never) ss_nil)
    (ss_one (s_ret (e_var 1 (pv 1))))))
theorem ok_parse_chain (T : Tx w K mg) : Fn P w K mg base CX0 6 T.f_parse_chain T.fd_parse_chain ["text"] (lift K 1 fs_parse_chain) := fn_data T.F_parse_chain sc_parse_chain b_parse_chain (fun _ _ _ _ _ _ hr hgd => d_parse_chain T hr hgd) p_parse_chain
end
def b_parse_chainX : DS :=
  (dSeq (dAsg (dIf (dTest (dIsi "str" (dVar 0))) (dCall 1 fs_chain_in (dCons (dVar 0) dNil)) (dC .none)) (dN 1))
  (dSeq (dIfS (dTest (dIsN false (dVar 1)))
    (dRaise "InvalidText" (dVar 0))
    dNext)
  dStop))
def fs_parse_chainX : FSp := fun rs fu post => ∃ v, rs = [.val v] ∧ (isTy "str" v = false ∨ ∃ t, v = .str t ∧ TX 390 t ∧ isChn (chnIn t) = false) ∧ ShX v ∧ post (.exc "InvalidText" (some v)) fu
theorem p_parse_chainX (rs : List Rv) (fu : Option Nat) (post : Rr → Option Nat → Prop) (hl : rs.length = 1) (h : fs_parse_chainX rs fu post) : b_parse_chainX ⟨fun g => post (.val .none) g.fu, fun r g => post r g.fu, fun _ => False, fun _ => False⟩ (ent N_parse_chain rs fu) := by
  obtain ⟨v, rfl, hv, hs, h⟩ := h
  simp_arith [b_parse_chainX, fs_chain_in]
  refine ⟨fun e => ?_, fun _ => ⟨hs, h⟩⟩
  rcases hv with hv | ⟨t, rfl, ht, hn⟩
  · rw [hv] at e
    cases e
  · have e1 : chnD t = .none := if_neg (by rw [hn]; decide)
    exact ⟨t, rfl, ht, fun _ => ⟨hs, h⟩, fun e => by rw [e1] at e; cases e⟩
section
variable {P : Program} {w : World} {K : Fg} {mg : Str → Option Value} {base : Heap}
theorem d_parse_chainX (T : Tx w K mg) {cdv : Value} {A : Around} {outer : List Env} {s : Shared} {H : Hp} {E : XK} (hr : Room 5 (A.deeper (envOfC "parse_chain" (defScope st_parse_chain) s.heap.objs.size T.f_parse_chain cdv))) (hgd : (A.deeper (envOfC "parse_chain" (defScope st_parse_chain) s.heap.objs.size T.f_parse_chain cdv)).guards = some [])
    (tk : Takes (cxOf (L2.CX P w) P w K mg base N_parse_chain "parse_chain" (defScope st_parse_chain) T.f_parse_chain cdv A outer s H E) (fun cls d _ H => E cls d H)) :
    PSs (cxOf (L2.CX P w) P w K mg base N_parse_chain "parse_chain" (defScope st_parse_chain) T.f_parse_chain cdv A outer s H E) (defBody st_parse_chain) (upS K (fun cls d _ H => E cls d H) b_parse_chainX) :=
  (ss_cons (s_set (i := 1) sc_parse_chain.nd rfl (.inl rfl) (e_if (t_val (e_isi kit_str (by rfl) T.n_isinstance (e_var 0 (pv 0)) (c_ty (by rfl) T.n_str (by decide +kernel)))) (e_call (ok_chain_in T) (hr.mono (by decide)) hgd (by rfl) T.g_chain_in T.F_chain_in.kp T.b_chain_in pass0 (a_cons (e_var 0 (pv 0)) a_nil)) e_non))
    (ss_cons (s_if (t_isN (e_var 1 (pv 1))) (ss_one (s_raise rfl tk T.xv_InvalidText (ok_InvalidText_init T) (hr.mono (by decide)) hgd T.b_InvalidText_init (by rfl) T.g_InvalidText (e_var 0 (pv 0)))) ss_nil)
    ss_stop))
theorem ok_parse_chainX (T : Tx w K mg) : Fn P w K mg base (L2.CX P w) 6 T.f_parse_chain T.fd_parse_chain ["text"] (liftX K 1 fs_parse_chainX) := fn_dataX T.F_parse_chain sc_parse_chain b_parse_chainX (fun _ _ _ _ _ _ hr hgd tk => d_parse_chainX T hr hgd tk) p_parse_chainX
theorem ok_parse_chainO (T : Tx w K mg) : Fn P w K mg base (L2.CX P w) 6 T.f_parse_chain T.fd_parse_chain ["text"] (liftX K 1 (orF fs_parse_chain fs_parse_chainX)) := fn_orX (ok_parse_chain T) (ok_parse_chainX T)
end
def b__law_source : DS :=
  (dSeq (dAsg (dIf (dTest (dBin oLt (dVar 1) (dCB cLen (dCons (dVar 0) dNil)))) (dIx (dVar 0) (dVar 1)) (dC (.int 0))) (dN 2))
  (dSeq (dAsg (dIf (dTest (dBin oGe (dCB oAbs (dCons (dVar 2) dNil)) (dBin oPow (dC (.int 10)) (dC (.int 18))))) (dBin oMod (dCB oAbs (dCons (dVar 2) dNil)) (dBin oPow (dBin oPow (dC (.int 10)) (dC (.int 60))) (dC (.int 4)))) (dC (.int 0))) (dN 3))
  (dRetL (dLst (dCons (dVar 3) (dCons (dBin oMod (dBin fAdd (dBin fAdd (dBin oMul (dBin oMod (dVar 2) (dC (.int 2305843009213693951))) (dC (.int 1000003))) (dBin oMul (dBin oMul (dC (.int 7919)) (dVar 1)) (dVar 1))) (dC (.int 97))) (dC (.int 2305843009213693921))) (dCons (dC (.int 0)) dNil)))))))
def fs__law_source : FSp := fun rs fu post => ∃ (ns : List Int) (k : Int), rs = [.scr ns, .val (.int k)] ∧ 0 ≤ k ∧ k < 1000000 ∧ ∀ x y : Int, 0 ≤ x → x < 2 ^ 1000 → 0 ≤ y → y < modS → post (.own [.int x, .int y, .int 0]) fu
theorem atI_nn {ns : List Int} {k : Int} (h0 : 0 ≤ k) (h : k < ns.length) : ∃ z, atI ns k = some z := by
  unfold atI ixN
  rw [if_pos h0, if_pos h]
  exact ⟨_, List.getElem?_eq_getElem (show k.toNat < ns.length by omega)⟩
theorem pw1 : CPowX 10 18 := ⟨by decide, by decide +kernel⟩
theorem pw2 : CPowX 10 60 := ⟨by decide, by decide +kernel⟩
theorem pw3 : CPowX (10 ^ Int.toNat 60) 4 := ⟨by decide, by decide +kernel⟩
theorem pw4 : (0 : Int) < (10 ^ Int.toNat 60) ^ Int.toNat 4 := by decide +kernel
theorem pw5 : ((10 : Int) ^ Int.toNat 60) ^ Int.toNat 4 ≤ 2 ^ 1000 := by decide +kernel
theorem src_fin {fu : Option Nat} {post : Rr → Option Nat → Prop} {z k : Int} (h1 : 0 ≤ k) (h2 : k < 1000000) (h : ∀ x y : Int, 0 ≤ x → x < 2 ^ 1000 → 0 ≤ y → y < modS → post (.own [.int x, .int y, .int 0]) fu) :
    CMulX (z % 2305843009213693951) 1000003 ∧ CMulX 7919 k ∧ CMulX (7919 * k) k ∧ ∀ x : Int, 0 ≤ x → x < 2 ^ 1000 → post (.own [.int x, .int ((z % 2305843009213693951 * 1000003 + 7919 * k * k + 97) % 2305843009213693921), .int 0]) fu := by
  have a1 := Int.emod_nonneg z (show (2305843009213693951 : Int) ≠ 0 by decide)
  have a2 := Int.emod_lt_of_pos z (show (0 : Int) < 2305843009213693951 by decide)
  refine ⟨mulX 64 64 (Bn.small (by omega) (by omega) (by decide)) (Bn.small (by decide) (by decide) (by decide)) (by decide), mulX 64 64 (Bn.small (by decide) (by decide) (by decide)) (Bn.small (by omega) (by omega) (by decide)) (by decide),
    mulX 64 64 (Bn.small (by omega) (by omega) (by decide)) (Bn.small (by omega) (by omega) (by decide)) (by decide), fun x x0 x1 => h x _ x0 x1 (Int.emod_nonneg _ (by decide)) (Int.emod_lt_of_pos _ (by decide))⟩
/-- the body behind its first statement -/
def srcT : DS := (dSeq (dAsg (dIf (dTest (dBin oGe (dCB oAbs (dCons (dVar 2) dNil)) (dBin oPow (dC (.int 10)) (dC (.int 18))))) (dBin oMod (dCB oAbs (dCons (dVar 2) dNil)) (dBin oPow (dBin oPow (dC (.int 10)) (dC (.int 60))) (dC (.int 4)))) (dC (.int 0))) (dN 3))
  (dRetL (dLst (dCons (dVar 3) (dCons (dBin oMod (dBin fAdd (dBin fAdd (dBin oMul (dBin oMod (dVar 2) (dC (.int 2305843009213693951))) (dC (.int 1000003))) (dBin oMul (dBin oMul (dC (.int 7919)) (dVar 1)) (dVar 1))) (dC (.int 97))) (dC (.int 2305843009213693921))) (dCons (dC (.int 0)) dNil))))))
def srcB : DS := (dSeq (dAsg (dIf (dTest (dBin oLt (dVar 1) (dCB cLen (dCons (dVar 0) dNil)))) (dIx (dVar 0) (dVar 1)) (dC (.int 0))) (dN 2)) srcT)
theorem p_srcT (z : Int) (fu : Option Nat) (post : Rr → Option Nat → Prop) {ns : List Int} {k : Int} (h1 : 0 ≤ k) (h2 : k < 1000000) (h : ∀ x y : Int, 0 ≤ x → x < 2 ^ 1000 → 0 ≤ y → y < modS → post (.own [.int x, .int y, .int 0]) fu) : srcT ⟨fun g => post (.val .none) g.fu, fun r g => post r g.fu, fun _ => False, fun _ => False⟩ ⟨[some (.scr ns), some (.val (.int k)), some (.val (.int z)), none], fu, fu.isNone⟩ := by
  have m0 : ∀ a : Int, 0 ≤ a % (10 ^ Int.toNat 60) ^ Int.toNat 4 ∧ a % (10 ^ Int.toNat 60) ^ Int.toNat 4 < 2 ^ 1000 := fun a => ⟨Int.emod_nonneg _ (Int.ne_of_gt pw4), Int.lt_of_lt_of_le (Int.emod_lt_of_pos _ pw4) pw5⟩
  have p0 : (0 : Int) < 2 ^ 1000 := pow2_pos _
  simp_arith [srcT]
  obtain ⟨f1, f2, f3, f4⟩ := src_fin (z := z) h1 h2 h
  exact ⟨pw1, fun _ => ⟨pw2, pw3, pw4, f1, f2, f3, f4 _ (m0 _).1 (m0 _).2⟩, fun _ => ⟨f1, f2, f3, f4 0 (Int.le_refl 0) p0⟩⟩
theorem p_srcB (fu : Option Nat) (post : Rr → Option Nat → Prop) {ns : List Int} {k : Int} (h1 : 0 ≤ k) (h2 : k < 1000000) (h : ∀ x y : Int, 0 ≤ x → x < 2 ^ 1000 → 0 ≤ y → y < modS → post (.own [.int x, .int y, .int 0]) fu) : srcB ⟨fun g => post (.val .none) g.fu, fun r g => post r g.fu, fun _ => False, fun _ => False⟩ (ent N__law_source [.scr ns, .val (.int k)] fu) := by
  simp_arith [srcB]
  refine ⟨fun hk => ?_, fun hk => p_srcT 0 fu post h1 h2 h⟩
  obtain ⟨z, ez⟩ := atI_nn h1 hk
  rw [ez]
  exact p_srcT z fu post h1 h2 h
theorem p__law_source (rs : List Rv) (fu : Option Nat) (post : Rr → Option Nat → Prop) (hl : rs.length = 2) (h : fs__law_source rs fu post) : b__law_source ⟨fun g => post (.val .none) g.fu, fun r g => post r g.fu, fun _ => False, fun _ => False⟩ (ent N__law_source rs fu) := by
  obtain ⟨ns, k, rfl, h1, h2, h⟩ := h
  exact p_srcB fu post h1 h2 h
section
variable {P : Program} {w : World} {K : Fg} {mg : Str → Option Value} {base : Heap}
theorem d__law_source (T : Tx w K mg) {cdv : Value} {A : Around} {outer : List Env} {s : Shared} {H : Hp} {E : XK} (hr : Room 0 (A.deeper (envOfC "_law_source" (defScope st__law_source) s.heap.objs.size T.f__law_source cdv))) (hgd : (A.deeper (envOfC "_law_source" (defScope st__law_source) s.heap.objs.size T.f__law_source cdv)).guards = some []) :
    PSs (cxOf CX0 P w K mg base N__law_source "_law_source" (defScope st__law_source) T.f__law_source cdv A outer s H E).nox (defBody st__law_source) (upS K W0 b__law_source) :=
  (ss_cons (s_set (i := 2) sc__law_source.nd rfl (.inl rfl) (e_if (t_lt (e_var 1 (pv 1)) (e_len (by rfl) T.n_len (a_cons (e_var 0 (pv 0)) a_nil))) (e_ix (e_var 0 (pv 0)) (e_var 1 (pv 1))) e_int))
    (ss_cons (s_set (i := 3) sc__law_source.nd rfl (.inl rfl) (e_if (t_ge (e_abs (by rfl) T.n_abs (a_cons (e_var 2 (pv 2)) a_nil)) (e_pow e_int e_int)) (e_mod (e_abs (by rfl) T.n_abs (a_cons (e_var 2 (pv 2)) a_nil)) (e_pow (e_pow e_int e_int) e_int)) e_int))
    (ss_one (s_retL (e_lstL (a_cons (e_var 3 (pv 3)) (a_cons (e_mod (e_add (e_add (e_mul (e_mod (e_var 2 (pv 2)) e_int) e_int) (e_mul (e_mul e_int (e_var 1 (pv 1))) (e_var 1 (pv 1)))) e_int) e_int) (a_cons e_int a_nil))))))))
theorem ok__law_source (T : Tx w K mg) : Fn P w K mg base CX0 1 T.f__law_source T.fd__law_source ["_law_script", "_law_k"] (lift K 2 fs__law_source) := fn_data T.F__law_source sc__law_source b__law_source (fun _ _ _ _ _ _ hr hgd => d__law_source T hr hgd) p__law_source
end
/-- a draw: some int below the size, one draw less left -/
def fs__law_draw : FSp := fun rs fu post => ∃ (n : Int) (m : Nat), rs = [.src, .val (.int n)] ∧ fu = some (m + 1) ∧ 0 < n ∧ Bn 9000 n ∧ ∀ i : Int, 0 ≤ i → i < n → post (.val (.int i)) (some m)
theorem at3_0 {x y z : V} : atI [x, y, z] 0 = some x := atI_0
theorem at3_1 {x y z : V} : atI [x, y, z] 1 = some y := atI_1
theorem at3_2 {x y z : V} : atI [x, y, z] 2 = some z := atI_2
section
variable {P : Program} {w : World} {K : Fg} {mg : Str → Option Value} {base : Heap}
/-- behind the draw: all but the source is as it was -/
theorem draw_out {F H : Hp} {a : Addr} {m : Nat} {x y z i : Int} {o : List V} (tk : TabK K F H) (e : Ex F H) (hF : F a = none) (hH : H a = some (.lst o)) (hx : 0 ≤ x ∧ x < 2 ^ 1000 ∧ 0 ≤ y ∧ y < modS ∧ 0 ≤ z ∧ z + m ≤ 2 ^ 40) :
    Out K F H a (some (m + 1)) (some m) F (upd H a (.lst [.int x, .int y, .int z])) (.int i) (.val (.int i)) := by
  refine ⟨Ex.refl F, fun b u q => ?_, fun b u hb _ q => ?_, fun b q => .inl q, fun _ => ⟨m, rfl, hF, x, y, z, upd_same, hx⟩, Rp.int i, .but hH (fun _ z => by cases z) fun b u nb q => by rw [upd_ne nb]; exact q, tk.but hH (fun _ z => by cases z) fun b u nb q => by rw [upd_ne nb]; exact q⟩
  · rw [upd_ne (fun h => by rw [h, hF] at q; cases q)]; exact e b u q
  · rw [upd_ne (hb (fun h => nomatch h))]; exact q
theorem ok__law_draw (T : Tx w K mg) : Fn P w K mg base CX0 1 T.f__law_draw T.fd__law_draw ["_law_source_here", "_law_size"] (lift K 2 fs__law_draw) := by
  refine fn_by T.F__law_draw sc__law_draw lift_len fun cdv A outer s H vs Q E hr hg h => ?_
  obtain ⟨F, a, rs, fu, post, e, tm, hlen, hsrc, tk, ⟨n, m, rfl, rfl, n0, nB, hp⟩, hq⟩ := h
  obtain ⟨hF, x, y, z, hH, x0, x1, y0, y1, z0, z1⟩ := hsrc (m + 1) rfl
  have hv : vs = [.ref a, .int n] := by
    cases tm with
    | cons h1 t =>
      cases t.i1
      rw [h1.1]
  subst hv
  have zB : z < 2 ^ 40 := by omega
  have e40 : (2 : Int) ^ 40 = 1099511627776 := by decide
  rw [e40] at zB z1
  refine ⟨_, PSs.nox (pss_cons (ps_if (pt_cmpR op_gt (pe_ix ix_list (pv 0) pe_int (fun _ _ => rfl)) pe_int (nomark _))
      (pss_cons (ps_set (i := 2) sc__law_draw.nd rfl (.inl rfl) (pe_op op_mod (pe_ix ix_list (pv 0) pe_int (fun _ _ => rfl)) (pv 1)))
      (pss_cons (ps_asg (pe_op op_fdivW (pe_ix ix_list (pv 0) pe_int (fun _ _ => rfl)) (pv 1)) (pg_sub (pv 0) pe_int set_list))
      (pss_one (ps_ret (pv 2))))) pss_nil)
    (pss_cons (ps_asg (pe_op op_add (pe_ix ix_list (pv 0) pe_int (fun _ _ => rfl)) pe_int) (pg_sub (pv 0) pe_int set_list))
    (pss_cons (ps_set (i := 3) sc__law_draw.nd rfl (.inl rfl) (pe_ix ix_list (pv 0) pe_int (fun _ _ => rfl)))
    (pss_cons (ps_set (i := 4) sc__law_draw.nd rfl (.inl rfl) (pe_op op_mod (pe_op op_mulX (pe_op op_add (pe_op op_add (pe_ix ix_list (pv 0) pe_int (fun _ _ => rfl)) (pe_op op_mulX (pe_op op_mulX pe_int (pv 3)) (pv 3))) pe_int) pe_int) pe_int))
    (pss_cons (ps_set (i := 4) sc__law_draw.nd rfl (.inl rfl) (pe_op op_mod (pe_op op_mulX (pv 4) (pe_op op_add (pe_op op_mod (pv 4) pe_int) (pe_op op_mulX pe_int (pv 3)))) pe_int))
    (pss_one (ps_ret (pe_op op_mod (pe_op op_add (pe_op op_fdivW (pv 4) pe_int) (pe_op op_fdivW (pv 4) pe_int)) (pv 1))))))))), ?_⟩
  have sq : SqL K H a [.int x, .int y, .int z] := .inl (.inl hH)
  refine ⟨.ref a, rfl, a, _, 0, _, rfl, rfl, sq, at3_0, x, 0, rfl, rfl, _, rfl, ite2 (fun c => ?_) (fun c => ?_)⟩
  · have c' : 0 < x := of_decide_eq_true c
    refine ⟨.ref a, rfl, a, _, 0, _, rfl, rfl, sq, at3_0, .int n, rfl, x, n, rfl, rfl, n0, ?_⟩
    refine ⟨.ref a, rfl, a, _, 0, _, rfl, rfl, sq, at3_0, .int n, rfl, x, n, rfl, rfl, divX 9000 n0 nB (Nat.le_refl _), ?_⟩
    refine ⟨.ref a, rfl, a, _, 0, 0, rfl, rfl, hH, rfl, .int (x % n), rfl, ?_⟩
    refine hq _ _ _ _ F (hp (x % n) (Int.emod_nonneg _ (by omega)) (Int.emod_lt_of_pos _ n0)) (draw_out (x := x / n) (y := y) (z := z) tk e hF hH ⟨Int.ediv_nonneg x0 (by omega), ?_, y0, y1, z0, by omega⟩)
    exact Int.lt_of_le_of_lt (Int.ediv_le_self _ x0) x1
  · have hH2 : (upd H a (.lst [.int x, .int y, .int (z + 1)])) a = some (.lst [.int x, .int y, .int (z + 1)]) := upd_same
    have sq2 : SqL K (upd H a (.lst [.int x, .int y, .int (z + 1)])) a [.int x, .int y, .int (z + 1)] := .inl (.inl hH2)
    refine ⟨.ref a, rfl, a, _, 2, _, rfl, rfl, sq, at3_2, z, 1, rfl, rfl, .ref a, rfl, a, _, 2, 2, rfl, rfl, hH, rfl, ?_⟩
    refine ⟨.ref a, rfl, a, _, 2, _, rfl, rfl, sq2, at3_2, ?_⟩
    have y2 : y < 2305843009213693921 := y1
    have zz1 : Bn 64 (z + 1) := Bn.small (by omega) (by omega) (by decide)
    have m1 : Bn 128 (65537 * (z + 1)) := (Bn.small (m := 64) (i := 65537) (by decide) (by decide) (by decide)).mul zz1
    have m2 : Bn 192 (65537 * (z + 1) * (z + 1)) := m1.mul zz1
    have m3 : Bn 194 (y + 65537 * (z + 1) * (z + 1) + 11) := ((Bn.small (m := 192) (i := y) (by omega) (by omega) (by decide)).add m2).add (Bn.small (by decide) (by decide) (by decide))
    refine ⟨.ref a, rfl, a, _, 1, _, rfl, rfl, sq2, at3_1, .int (z + 1), rfl, 65537, z + 1, rfl, rfl, mulX 64 64 (Bn.small (by decide) (by decide) (by decide)) zz1 (by decide), .int (z + 1), rfl, _, _, rfl, rfl, mulX 128 64 m1 zz1 (by decide), _, _, rfl, rfl, _, _, rfl, rfl, _, _, rfl, rfl, mulX 194 64 m3 (Bn.small (by decide) (by decide) (by decide)) (by decide), _, _, rfl, rfl, (show (0 : Int) < 2305843009213693921 by decide), ?_⟩
    dsimp only
    generalize hmx : (y + 65537 * (z + 1) * (z + 1) + 11) * 48271 % 2305843009213693921 = mx
    have mx0 : 0 ≤ mx := by rw [← hmx]; exact Int.emod_nonneg _ (by decide)
    have mx1 : mx < 2305843009213693921 := by rw [← hmx]; exact Int.emod_lt_of_pos _ (by decide)
    have r0 := Int.emod_nonneg mx (show (1000003 : Int) ≠ 0 by decide)
    have r1 := Int.emod_lt_of_pos mx (show (0 : Int) < 1000003 by decide)
    have m4 : Bn 128 (99991 * (z + 1)) := (Bn.small (m := 64) (i := 99991) (by decide) (by decide) (by decide)).mul zz1
    have m5 : Bn 129 (mx % 1000003 + 99991 * (z + 1)) := (Bn.small (m := 128) (by omega) (by omega) (by decide)).add m4
    refine ⟨.int mx, rfl, .int mx, rfl, mx, 1000003, rfl, rfl, (show (0 : Int) < 1000003 by decide), .int (z + 1), rfl, 99991, z + 1, rfl, rfl, mulX 64 64 (Bn.small (by decide) (by decide) (by decide)) zz1 (by decide), _, _, rfl, rfl, _, _, rfl, rfl, mulX 64 129 (Bn.small (by omega) (by omega) (by decide)) m5 (by decide), _, _, rfl, rfl, (show (0 : Int) < 2305843009213693907 by decide), ?_⟩
    dsimp only
    generalize mx * (mx % 1000003 + 99991 * (z + 1)) % 2305843009213693907 = my
    refine ⟨.int my, rfl, my, 97, rfl, rfl, divX 64 (by decide) (Bn.small (by decide) (by decide) (by decide)) (by decide), .int my, rfl, my, 1000033, rfl, rfl, divX 64 (by decide) (Bn.small (by decide) (by decide) (by decide)) (by decide), _, _, rfl, rfl, .int n, rfl, _, n, rfl, rfl, n0, ?_⟩
    exact hq _ _ _ _ F (hp _ (Int.emod_nonneg _ (by omega)) (Int.emod_lt_of_pos _ n0)) (draw_out (x := x) (y := y) (z := z + 1) tk e hF hH ⟨x0, x1, y0, y1, by omega, by omega⟩)
end
def b__law_pick : DS :=
  (dRet (dIx (dVar 1) (dCall 2 fs__law_draw (dCons (dVar 0) (dCons (dCB cLen (dCons (dVar 1) dNil)) dNil)))))
theorem atI_mem {α : Type} {xs : List α} {k : Int} (h0 : 0 ≤ k) (h : k < xs.length) : ∃ z ∈ xs, atI xs k = some z := by
  unfold atI ixN
  rw [if_pos h0, if_pos h]
  have hk : k.toNat < xs.length := by omega
  exact ⟨xs[k.toNat], List.getElem_mem hk, List.getElem?_eq_getElem hk⟩
def fs__law_pick : FSp := fun rs fu post => ∃ (xs : List Da) (m : Nat), rs = [.src, .val (.list xs)] ∧ fu = some (m + 1) ∧ 0 < xs.length ∧ xs.length < 1000000 ∧ ∀ v ∈ xs, post (.val v) (some m)
theorem p__law_pick (rs : List Rv) (fu : Option Nat) (post : Rr → Option Nat → Prop) (hl : rs.length = 2) (h : fs__law_pick rs fu post) : b__law_pick ⟨fun g => post (.val .none) g.fu, fun r g => post r g.fu, fun _ => False, fun _ => False⟩ (ent N__law_pick rs fu) := by
  obtain ⟨xs, m, rfl, rfl, h0, h1, h⟩ := h
  simp_arith [b__law_pick, fs__law_draw]
  refine ⟨_, m, rfl, rfl, by omega, Bn.small (by omega) (by omega) (by decide), fun i i0 i1 => ?_⟩
  obtain ⟨z, hz, ez⟩ := atI_mem (xs := xs) i0 i1
  rw [ez]
  exact h z hz
section
variable {P : Program} {w : World} {K : Fg} {mg : Str → Option Value} {base : Heap}
theorem d__law_pick (T : Tx w K mg) {cdv : Value} {A : Around} {outer : List Env} {s : Shared} {H : Hp} {E : XK} (hr : Room 1 (A.deeper (envOfC "_law_pick" (defScope st__law_pick) s.heap.objs.size T.f__law_pick cdv))) (hgd : (A.deeper (envOfC "_law_pick" (defScope st__law_pick) s.heap.objs.size T.f__law_pick cdv)).guards = some []) :
    PSs (cxOf CX0 P w K mg base N__law_pick "_law_pick" (defScope st__law_pick) T.f__law_pick cdv A outer s H E).nox (defBody st__law_pick) (upS K W0 b__law_pick) :=
  (ss_one (s_ret (e_ix (e_var 1 (pv 1)) (e_call (ok__law_draw T) (hr.mono (by decide)) hgd (by rfl) T.g__law_draw T.F__law_draw.kp T.b__law_draw pass0 (a_cons (e_var 0 (pv 0)) (a_cons (e_len (by rfl) T.n_len (a_cons (e_var 1 (pv 1)) a_nil)) a_nil))))))
theorem ok__law_pick (T : Tx w K mg) : Fn P w K mg base CX0 2 T.f__law_pick T.fd__law_pick ["_law_source_here", "_law_some"] (lift K 2 fs__law_pick) := fn_data T.F__law_pick sc__law_pick b__law_pick (fun _ _ _ _ _ _ hr hgd => d__law_pick T hr hgd) p__law_pick
end
def b__law_divisor : DS :=
  (dSeq (dWhile (dTest (dBin oGt (dVar 1) (dC (.int 0))))
    (dPar 0 1 (dVar 1) (dBin oMod (dVar 0) (dVar 1))))
  (dRet (dVar 0)))
def fs__law_divisor : FSp := fun rs fu post => ∃ a b : Int, rs = [.val (.int a), .val (.int b)] ∧ 0 ≤ a ∧ 0 ≤ b ∧ post (.val (.int (Int.gcd a b))) fu
theorem p__law_divisor (rs : List Rv) (fu : Option Nat) (post : Rr → Option Nat → Prop) (hl : rs.length = 2) (h : fs__law_divisor rs fu post) : b__law_divisor ⟨fun g => post (.val .none) g.fu, fun r g => post r g.fu, fun _ => False, fun _ => False⟩ (ent N__law_divisor rs fu) := by
  obtain ⟨a, b, rfl, ha, hb, h⟩ := h
  simp_arith [b__law_divisor]
  refine ⟨fun m g => ∃ x y : Int, g = ⟨[some (.val (.int x)), some (.val (.int y))], fu, fu.isNone⟩ ∧ 0 ≤ x ∧ 0 ≤ y ∧ y.toNat = m ∧ Int.gcd x y = Int.gcd a b, ⟨b.toNat, a, b, rfl, ha, hb, rfl, rfl⟩, fun m g hg => ?_⟩
  obtain ⟨x, y, rfl, hx, hy, rfl, e⟩ := hg
  simp_arith [Nat.zero_add]
  refine ⟨fun hy0 => ?_, fun heq => ?_⟩
  · refine ⟨hy0, (x % y).toNat, ?_, y, x % y, rfl, hy, Int.emod_nonneg _ (by omega), rfl, by rw [gcd_step hx hy0, e]⟩
    have := Int.emod_lt_of_pos x hy0
    have := Int.emod_nonneg x (show y ≠ 0 by omega)
    omega
  · have hy0 : y = 0 := by omega
    subst hy0
    rw [Int.gcd_zero_right] at e
    have : x = ((Int.gcd a b : Nat) : Int) := by omega
    rw [this]
    exact h
section
variable {P : Program} {w : World} {K : Fg} {mg : Str → Option Value} {base : Heap}
theorem d__law_divisor (T : Tx w K mg) {cdv : Value} {A : Around} {outer : List Env} {s : Shared} {H : Hp} {E : XK} (hr : Room 0 (A.deeper (envOfC "_law_divisor" (defScope st__law_divisor) s.heap.objs.size T.f__law_divisor cdv))) (hgd : (A.deeper (envOfC "_law_divisor" (defScope st__law_divisor) s.heap.objs.size T.f__law_divisor cdv)).guards = some []) :
    PSs (cxOf CX0 P w K mg base N__law_divisor "_law_divisor" (defScope st__law_divisor) T.f__law_divisor cdv A outer s H E).nox (defBody st__law_divisor) (upS K W0 b__law_divisor) :=
  (ss_cons (s_while PassesOwn.never (t_gt (e_var 1 (pv 1)) e_int) (ss_one (s_par (i := 0) (j := 1) rfl sc__law_divisor.nd rfl rfl (by decide) rfl rfl (e_var 1 (pv 1)) (e_mod (e_var 0 (pv 0)) (e_var 1 (pv 1))))))
    (ss_one (s_ret (e_var 0 (pv 0)))))
theorem ok__law_divisor (T : Tx w K mg) : Fn P w K mg base CX0 1 T.f__law_divisor T.fd__law_divisor ["_law_one", "_law_other"] (lift K 2 fs__law_divisor) := fn_data T.F__law_divisor sc__law_divisor b__law_divisor (fun _ _ _ _ _ _ hr hgd => d__law_divisor T hr hgd) p__law_divisor
end
def b__law_low : DS :=
  (dSeq (dAsg (dCall 2 fs__law_divisor (dCons (dVar 0) (dCons (dVar 1) dNil))) (dN 2))
  (dRet (dTup (dCons (dBin oDiv (dVar 0) (dVar 2)) (dCons (dBin oDiv (dVar 1) (dVar 2)) dNil)))))
def fs__law_low : FSp := fun rs fu post => ∃ n d : Int, rs = [.val (.int n), .val (.int d)] ∧ 0 ≤ n ∧ 0 < d ∧ Bn 9000 d ∧ post (.val (lowD n d)) fu
theorem p__law_low (rs : List Rv) (fu : Option Nat) (post : Rr → Option Nat → Prop) (hl : rs.length = 2) (h : fs__law_low rs fu post) : b__law_low ⟨fun g => post (.val .none) g.fu, fun r g => post r g.fu, fun _ => False, fun _ => False⟩ (ent N__law_low rs fu) := by
  obtain ⟨n, d, rfl, hn, hd, hs, h⟩ := h
  simp_arith [b__law_low, fs__law_divisor]
  have dv : ∀ x, CDivW x (Int.gcd n d) := fun x => divX 9000 (gcd_pos hd) (hs.le (Int.le_of_lt (gcd_pos hd)) (gcd_le hd)) (Nat.le_refl _)
  refine ⟨n, d, rfl, hn, by omega, dv _, dv _, h⟩
section
variable {P : Program} {w : World} {K : Fg} {mg : Str → Option Value} {base : Heap}
theorem d__law_low (T : Tx w K mg) {cdv : Value} {A : Around} {outer : List Env} {s : Shared} {H : Hp} {E : XK} (hr : Room 1 (A.deeper (envOfC "_law_low" (defScope st__law_low) s.heap.objs.size T.f__law_low cdv))) (hgd : (A.deeper (envOfC "_law_low" (defScope st__law_low) s.heap.objs.size T.f__law_low cdv)).guards = some []) :
    PSs (cxOf CX0 P w K mg base N__law_low "_law_low" (defScope st__law_low) T.f__law_low cdv A outer s H E).nox (defBody st__law_low) (upS K W0 b__law_low) :=
  (ss_cons (s_set (i := 2) sc__law_low.nd rfl (.inl rfl) (e_call (ok__law_divisor T) (hr.mono (by decide)) hgd (by rfl) T.g__law_divisor T.F__law_divisor.kp T.b__law_divisor pass0 (a_cons (e_var 0 (pv 0)) (a_cons (e_var 1 (pv 1)) a_nil))))
    (ss_one (s_ret (e_tup (a_cons (e_div (e_var 0 (pv 0)) (e_var 2 (pv 2))) (a_cons (e_div (e_var 1 (pv 1)) (e_var 2 (pv 2))) a_nil))))))
theorem ok__law_low (T : Tx w K mg) : Fn P w K mg base CX0 2 T.f__law_low T.fd__law_low ["_law_n", "_law_d"] (lift K 2 fs__law_low) := fn_data T.F__law_low sc__law_low b__law_low (fun _ _ _ _ _ _ hr hgd => d__law_low T hr hgd) p__law_low
end
def b__law_scaled : DS :=
  (dSeq (dAsg (dVar 0) (dT 2 (dTc (dN 2) (dTc (dN 3) dTn))))
  (dRet (dIf (dTest (dBin oGe (dVar 1) (dC (.int 0)))) (dCall 2 fs__law_low (dCons (dBin oShl (dVar 2) (dVar 1)) (dCons (dVar 3) dNil))) (dCall 2 fs__law_low (dCons (dVar 2) (dCons (dBin oShl (dVar 3) (dBin oSub (dC (.int 0)) (dVar 1))) dNil))))))
/-- times 2 ** e, in lowest terms -/
def scl (n d e : Int) : Int × Int := low (scI n d e).1 (scI n d e).2
def fs__law_scaled : FSp := fun rs fu post => ∃ n d e : Int, rs = [.val (num n d), .val (.int e)] ∧ 0 ≤ n ∧ Bn 100000 n ∧ 0 < d ∧ Bn 4000 d ∧ -4000 ≤ e ∧ e ≤ 4000 ∧ post (.val (nm (scl n d e))) fu
theorem p__law_scaled (rs : List Rv) (fu : Option Nat) (post : Rr → Option Nat → Prop) (hl : rs.length = 2) (h : fs__law_scaled rs fu post) : b__law_scaled ⟨fun g => post (.val .none) g.fu, fun r g => post r g.fu, fun _ => False, fun _ => False⟩ (ent N__law_scaled rs fu) := by
  obtain ⟨n, d, e, rfl, hn, bn, hd, bd, h1, h2, h⟩ := h
  simp_arith [b__law_scaled, fs__law_low]
  refine ⟨fun he => ⟨shlX 100000 bn he (by omega), _, _, rfl, Int.mul_nonneg hn (Int.le_of_lt (pow2_pos _)), hd, bd.mono (by decide), ?_⟩, fun he => ⟨shlX 4000 bd (by omega) (by omega), _, _, rfl, hn, Int.mul_pos hd (pow2_pos _), (shlB bd).mono (by omega), ?_⟩⟩
  · have e1 : scI n d e = (n * 2 ^ e.toNat, d) := by
      unfold scI
      rw [show (-e).toNat = 0 by omega, Int.pow_zero, Int.mul_one]
    unfold scl at h
    rw [e1] at h
    exact h
  · have e1 : scI n d e = (n, d * 2 ^ (0 - e).toNat) := by
      unfold scI
      rw [show e.toNat = 0 by omega, Int.pow_zero, Int.mul_one, show (0 - e).toNat = (-e).toNat by omega]
    unfold scl at h
    rw [e1] at h
    exact h
theorem scl_ok {n d e : Int} (hn : 0 < n) (hd : 0 < d) : 0 < (scl n d e).1 ∧ 0 < (scl n d e).2 ∧ Int.gcd (scl n d e).1 (scl n d e).2 = 1 := by
  obtain ⟨a, b⟩ := scI_pos (f := e) hn hd
  obtain ⟨h1, h2, h3, _⟩ := low_pos a b
  exact ⟨h1, h2, h3⟩
theorem scl_B {n d e : Int} {a b : Nat} (hn : 0 < n) (hd : 0 < d) (bn : Bn a n) (bd : Bn b d) (m : Nat) (hm : (a : Int) + e + 1 ≤ m) (hm' : (b : Int) - e + 1 ≤ m) (ha : a + 1 ≤ m) (hb : b + 1 ≤ m) : Bn m (scl n d e).1 ∧ Bn m (scl n d e).2 := by
  obtain ⟨p, q⟩ := scI_pos (f := e) hn hd
  obtain ⟨h1, h2, h3, h4, h5⟩ := low_pos p q
  have b1 : Bn m (scI n d e).1 := (shlB bn).mono (by omega)
  have b2 : Bn m (scI n d e).2 := (shlB bd).mono (by omega)
  exact ⟨b1.le (Int.le_of_lt h1) h4, b2.le (Int.le_of_lt h2) h5⟩
section
variable {P : Program} {w : World} {K : Fg} {mg : Str → Option Value} {base : Heap}
theorem d__law_scaled (T : Tx w K mg) {cdv : Value} {A : Around} {outer : List Env} {s : Shared} {H : Hp} {E : XK} (hr : Room 2 (A.deeper (envOfC "_law_scaled" (defScope st__law_scaled) s.heap.objs.size T.f__law_scaled cdv))) (hgd : (A.deeper (envOfC "_law_scaled" (defScope st__law_scaled) s.heap.objs.size T.f__law_scaled cdv)).guards = some []) :
    PSs (cxOf CX0 P w K mg base N__law_scaled "_law_scaled" (defScope st__law_scaled) T.f__law_scaled cdv A outer s H E).nox (defBody st__law_scaled) (upS K W0 b__law_scaled) :=
  (ss_cons (s_asg (e_var 0 (pv 0)) (g_tup rfl (gs_cons (g_name (pg_name (i := 2) sc__law_scaled.nd rfl (.inl rfl))) (gs_cons (g_name (pg_name (i := 3) sc__law_scaled.nd rfl (.inl rfl))) gs_nil))))
    (ss_one (s_ret (e_if (t_ge (e_var 1 (pv 1)) e_int) (e_call (ok__law_low T) (hr.mono (by decide)) hgd (by rfl) T.g__law_low T.F__law_low.kp T.b__law_low pass0 (a_cons (e_shl (e_var 2 (pv 2)) (e_var 1 (pv 1))) (a_cons (e_var 3 (pv 3)) a_nil))) (e_call (ok__law_low T) (hr.mono (by decide)) hgd (by rfl) T.g__law_low T.F__law_low.kp T.b__law_low pass0 (a_cons (e_var 2 (pv 2)) (a_cons (e_shl (e_var 3 (pv 3)) (e_sub e_int (e_var 1 (pv 1)))) a_nil)))))))
theorem ok__law_scaled (T : Tx w K mg) : Fn P w K mg base CX0 3 T.f__law_scaled T.fd__law_scaled ["_law_number_here", "_law_e"] (lift K 2 fs__law_scaled) := fn_data T.F__law_scaled sc__law_scaled b__law_scaled (fun _ _ _ _ _ _ hr hgd => d__law_scaled T hr hgd) p__law_scaled
end
def b__law_number : DS :=
  (dSeq (dPar 2 3 (dBin fAdd (dC (.int 1)) (dCall 2 fs__law_draw (dCons (dVar 0) (dCons (dCall 2 fs__law_pick (dCons (dVar 0) (dCons (dFz (dLst (dCons (dC (.int 8)) (dCons (dC (.int 64)) (dCons (dC (.int 1024)) (dCons (dVar 1) dNil)))))) dNil))) dNil)))) (dCall 2 fs__law_pick (dCons (dVar 0) (dCons (dFz (dLst (dCons (dC (.int 1)) (dCons (dC (.int 1)) (dCons (dC (.int 2)) (dCons (dC (.int 16)) (dCons (dC (.int 3)) (dCons (dC (.int 10)) dNil)))))))) dNil))))
  (dSeq (dAsg (dCall 2 fs__law_pick (dCons (dVar 0) (dCons (dFz (dLst (dCons (dVar 3) (dCons (dVar 3) (dCons (dBin fAdd (dC (.int 1)) (dCall 2 fs__law_draw (dCons (dVar 0) (dCons (dVar 1) dNil)))) dNil))))) dNil))) (dN 3))
  (dRet (dCall 2 fs__law_scaled (dCons (dCall 2 fs__law_low (dCons (dVar 2) (dCons (dVar 3) dNil))) (dCons (dBin oSub (dCall 2 fs__law_draw (dCons (dVar 0) (dCons (dC (.int 13)) dNil))) (dC (.int 6))) dNil))))))
def fs__law_number : FSp := fun rs fu post => ∃ (mo : Int) (m : Nat), rs = [.src, .val (.int mo)] ∧ fu = some (m + 6) ∧ 1 ≤ mo ∧ mo ≤ 1000000000000 ∧ ∀ n d : Int, 0 < n → Bn 80 n → 0 < d → Bn 80 d → Int.gcd n d = 1 → post (.val (num n d)) (some m)
theorem p__law_number (rs : List Rv) (fu : Option Nat) (post : Rr → Option Nat → Prop) (hl : rs.length = 2) (h : fs__law_number rs fu post) : b__law_number ⟨fun g => post (.val .none) g.fu, fun r g => post r g.fu, fun _ => False, fun _ => False⟩ (ent N__law_number rs fu) := by
  obtain ⟨mo, m, rfl, rfl, h0, h1, h⟩ := h
  simp_arith [b__law_number, fs__law_draw, fs__law_pick, fs__law_low, fs__law_scaled]
  refine ⟨_, m + 5, rfl, rfl, by show 0 < 4; decide, by show 4 < 1000000; decide, fun v hv => ?_⟩
  obtain ⟨s, rfl, s0, s1⟩ : ∃ s : Int, v = .int s ∧ 0 < s ∧ s ≤ 1000000000000 := by
    simp only [List.mem_cons, List.not_mem_nil, or_false] at hv
    rcases hv with rfl | rfl | rfl | rfl
    · exact ⟨_, rfl, by decide, by decide⟩
    · exact ⟨_, rfl, by decide, by decide⟩
    · exact ⟨_, rfl, by decide, by decide⟩
    · exact ⟨_, rfl, by omega, by omega⟩
  refine ⟨s, m + 4, rfl, rfl, s0, Bn.small (by omega) (by omega) (by decide), fun i i0 i1 => ?_⟩
  refine ⟨_, m + 3, rfl, rfl, by show 0 < 6; decide, by show 6 < 1000000; decide, fun v hv => ?_⟩
  obtain ⟨t, rfl, t0, t1⟩ : ∃ s : Int, v = .int s ∧ 0 < s ∧ s ≤ 16 := by
    simp only [List.mem_cons, List.not_mem_nil, or_false] at hv
    rcases hv with rfl | rfl | rfl | rfl | rfl | rfl <;> exact ⟨_, rfl, by decide, by decide⟩
  refine ⟨mo, m + 2, rfl, rfl, by omega, Bn.small (by omega) (by omega) (by decide), fun j j0 j1 => ?_⟩
  refine ⟨_, m + 1, rfl, rfl, by show 0 < 3; decide, by show 3 < 1000000; decide, fun v hv => ?_⟩
  obtain ⟨u, rfl, u0, u1⟩ : ∃ s : Int, v = .int s ∧ 0 < s ∧ s ≤ 1000000000001 := by
    simp only [List.mem_cons, List.not_mem_nil, or_false] at hv
    rcases hv with rfl | rfl | rfl
    · exact ⟨_, rfl, by omega, by omega⟩
    · exact ⟨_, rfl, by omega, by omega⟩
    · exact ⟨_, rfl, by omega, by omega⟩
  obtain ⟨l1, l2, l3, l4, l5⟩ := low_pos (n := 1 + i) (d := u) (by omega) u0
  refine ⟨1 + i, u, rfl, by omega, u0, Bn.small (by omega) (by omega) (by decide), 13, m, rfl, rfl, by decide, Bn.small (by decide) (by decide) (by decide), fun e e0 e1 => ?_⟩
  have bn : Bn 64 (low (1 + i) u).1 := Bn.small (by omega) (by omega) (by decide)
  have bd : Bn 64 (low (1 + i) u).2 := Bn.small (by omega) (by omega) (by decide)
  refine ⟨_, _, _, rfl, Int.le_of_lt l1, bn.mono (by decide), l2, bd.mono (by decide), by omega, by omega, ?_⟩
  obtain ⟨o1, o2, o3⟩ := scl_ok (e := e - 6) l1 l2
  obtain ⟨p1, p2⟩ := scl_B (e := e - 6) l1 l2 bn bd 80 (by omega) (by omega) (by decide) (by decide)
  exact h _ _ o1 p1 o2 p2 o3
section
variable {P : Program} {w : World} {K : Fg} {mg : Str → Option Value} {base : Heap}
theorem d__law_number (T : Tx w K mg) {cdv : Value} {A : Around} {outer : List Env} {s : Shared} {H : Hp} {E : XK} (hr : Room 3 (A.deeper (envOfC "_law_number" (defScope st__law_number) s.heap.objs.size T.f__law_number cdv))) (hgd : (A.deeper (envOfC "_law_number" (defScope st__law_number) s.heap.objs.size T.f__law_number cdv)).guards = some []) :
    PSs (cxOf CX0 P w K mg base N__law_number "_law_number" (defScope st__law_number) T.f__law_number cdv A outer s H E).nox (defBody st__law_number) (upS K W0 b__law_number) :=
  (ss_cons (s_par (i := 2) (j := 3) rfl sc__law_number.nd rfl rfl (by decide) rfl rfl (e_add e_int (e_call (ok__law_draw T) (hr.mono (by decide)) hgd (by rfl) T.g__law_draw T.F__law_draw.kp T.b__law_draw pass0 (a_cons (e_var 0 (pv 0)) (a_cons (e_call (ok__law_pick T) (hr.mono (by decide)) hgd (by rfl) T.g__law_pick T.F__law_pick.kp T.b__law_pick pass0 (a_cons (e_var 0 (pv 0)) (a_cons (e_fz (e_lstL (a_cons e_int (a_cons e_int (a_cons e_int (a_cons (e_var 1 (pv 1)) a_nil)))))) a_nil))) a_nil)))) (e_call (ok__law_pick T) (hr.mono (by decide)) hgd (by rfl) T.g__law_pick T.F__law_pick.kp T.b__law_pick pass0 (a_cons (e_var 0 (pv 0)) (a_cons (e_fz (e_lstL (a_cons e_int (a_cons e_int (a_cons e_int (a_cons e_int (a_cons e_int (a_cons e_int a_nil)))))))) a_nil))))
    (ss_cons (s_set (i := 3) sc__law_number.nd rfl (.inl rfl) (e_call (ok__law_pick T) (hr.mono (by decide)) hgd (by rfl) T.g__law_pick T.F__law_pick.kp T.b__law_pick pass0 (a_cons (e_var 0 (pv 0)) (a_cons (e_fz (e_lstL (a_cons (e_var 3 (pv 3)) (a_cons (e_var 3 (pv 3)) (a_cons (e_add e_int (e_call (ok__law_draw T) (hr.mono (by decide)) hgd (by rfl) T.g__law_draw T.F__law_draw.kp T.b__law_draw pass0 (a_cons (e_var 0 (pv 0)) (a_cons (e_var 1 (pv 1)) a_nil)))) a_nil))))) a_nil))))
    (ss_one (s_ret (e_call (ok__law_scaled T) (hr.mono (by decide)) hgd (by rfl) T.g__law_scaled T.F__law_scaled.kp T.b__law_scaled pass0 (a_cons (e_call (ok__law_low T) (hr.mono (by decide)) hgd (by rfl) T.g__law_low T.F__law_low.kp T.b__law_low pass0 (a_cons (e_var 2 (pv 2)) (a_cons (e_var 3 (pv 3)) a_nil))) (a_cons (e_sub (e_call (ok__law_draw T) (hr.mono (by decide)) hgd (by rfl) T.g__law_draw T.F__law_draw.kp T.b__law_draw pass0 (a_cons (e_var 0 (pv 0)) (a_cons e_int a_nil))) e_int) a_nil)))))))
theorem ok__law_number (T : Tx w K mg) : Fn P w K mg base CX0 4 T.f__law_number T.fd__law_number ["_law_source_here", "_law_most"] (lift K 2 fs__law_number) := fn_data T.F__law_number sc__law_number b__law_number (fun _ _ _ _ _ _ hr hgd => d__law_number T hr hgd) p__law_number
end
def b__law_rule : DS :=
  (dRet (dCall 2 fs__law_pick (dCons (dVar 0) (dCons (dFz (dLst (dCons (dC (.str "down")) (dCons (dC (.str "half_down")) (dCons (dC (.str "half_even")) (dCons (dC (.str "half_up")) (dCons (dC (.str "odd")) (dCons (dC (.str "up")) dNil)))))))) dNil))))
def ruD : List Da := [.str "down", .str "half_down", .str "half_even", .str "half_up", .str "odd", .str "up"]
theorem ru_memD {x : Da} (h : x ∈ ruD) : ∃ r : Ru, x = .str r.s := by
  simp only [ruD, List.mem_cons, List.not_mem_nil, or_false] at h
  rcases h with rfl | rfl | rfl | rfl | rfl | rfl
  · exact ⟨.dn, rfl⟩
  · exact ⟨.hd, rfl⟩
  · exact ⟨.he, rfl⟩
  · exact ⟨.hu, rfl⟩
  · exact ⟨.od, rfl⟩
  · exact ⟨.up, rfl⟩
def fs__law_rule : FSp := fun rs fu post => ∃ m : Nat, rs = [.src] ∧ fu = some (m + 1) ∧ ∀ r : Ru, post (.val (.str r.s)) (some m)
theorem p__law_rule (rs : List Rv) (fu : Option Nat) (post : Rr → Option Nat → Prop) (hl : rs.length = 1) (h : fs__law_rule rs fu post) : b__law_rule ⟨fun g => post (.val .none) g.fu, fun r g => post r g.fu, fun _ => False, fun _ => False⟩ (ent N__law_rule rs fu) := by
  obtain ⟨m, rfl, rfl, h⟩ := h
  simp_arith [b__law_rule, fs__law_pick]
  refine ⟨_, m, rfl, rfl, by show 0 < 6; decide, by show 6 < 1000000; decide, fun v hv => ?_⟩
  obtain ⟨r, rfl⟩ := ru_memD hv
  exact h r
section
variable {P : Program} {w : World} {K : Fg} {mg : Str → Option Value} {base : Heap}
theorem d__law_rule (T : Tx w K mg) {cdv : Value} {A : Around} {outer : List Env} {s : Shared} {H : Hp} {E : XK} (hr : Room 2 (A.deeper (envOfC "_law_rule" (defScope st__law_rule) s.heap.objs.size T.f__law_rule cdv))) (hgd : (A.deeper (envOfC "_law_rule" (defScope st__law_rule) s.heap.objs.size T.f__law_rule cdv)).guards = some []) :
    PSs (cxOf CX0 P w K mg base N__law_rule "_law_rule" (defScope st__law_rule) T.f__law_rule cdv A outer s H E).nox (defBody st__law_rule) (upS K W0 b__law_rule) :=
  (ss_one (s_ret (e_call (ok__law_pick T) (hr.mono (by decide)) hgd (by rfl) T.g__law_pick T.F__law_pick.kp T.b__law_pick pass0 (a_cons (e_var 0 (pv 0)) (a_cons (e_fz (e_lstL (a_cons e_str (a_cons e_str (a_cons e_str (a_cons e_str (a_cons e_str (a_cons e_str a_nil)))))))) a_nil)))))
theorem ok__law_rule (T : Tx w K mg) : Fn P w K mg base CX0 3 T.f__law_rule T.fd__law_rule ["_law_source_here"] (lift K 1 fs__law_rule) := fn_data T.F__law_rule sc__law_rule b__law_rule (fun _ _ _ _ _ _ hr hgd => d__law_rule T hr hgd) p__law_rule
end
def b__law_chain : DS :=
  (dSeq (dSetL 4 (dLst (dCons (dTup (dCons (dVar 1) (dCons (dCall 1 fs__law_rule (dCons (dVar 0) dNil)) dNil))) dNil)))
  (dSeq (dFor (dRange1 (dCall 2 fs__law_draw (dCons (dVar 0) (dCons (dVar 2) dNil)))) (dN 5)
    (dApp 4 (dTup (dCons (dBin fAdd (dBin fAdd (dVar 1) (dC (.int 1))) (dCall 2 fs__law_draw (dCons (dVar 0) (dCons (dVar 3) dNil)))) (dCons (dCall 1 fs__law_rule (dCons (dVar 0) dNil)) dNil)))))
  (dSeq (dIfS (dTest (dBin oGt (dCall 2 fs__law_draw (dCons (dVar 0) (dCons (dC (.int 4)) dNil))) (dC (.int 0))))
    (dSeq (dAsg (dCB cSortedD (dCons (dFz (dLc [7, 8] (dItems (dVar 4)) (dT 2 (dTc (dN 7) (dTc (dN 8) dTn))) dYes (dTup (dCons (dBin oSub (dC (.int 0)) (dVar 7)) (dCons (dVar 8) dNil))))) dNil)) (dN 6))
  (dRet (dCB cTuple (dCons (dFz (dLc [7, 8] (dItems (dVar 6)) (dT 2 (dTc (dN 7) (dTc (dN 8) dTn))) dYes (dTup (dCons (dBin oSub (dC (.int 0)) (dVar 7)) (dCons (dVar 8) dNil))))) dNil))))
    dNext)
  (dRet (dCB cTuple (dCons (dBin fAdd (dSl (dVar 4) (oSo (dC (.int 1))) oNo) (dSl (dVar 4) oNo (oSo (dC (.int 1))))) dNil))))))
/-- what a drawn chain is: its least width is last -/
structure Drc (last far most : Int) (c : List (Int × Ru)) : Prop where
  r : ∀ s ∈ c, last ≤ s.1 ∧ s.1 ≤ last + far
  l : ∃ s ∈ c, s.1 = last
  n : (c.length : Int) ≤ most
theorem Drc.chn {last far most : Int} {c : List (Int × Ru)} (h : Drc last far most c) (h1 : 1 ≤ last) (h2 : last + far ≤ 100) (h3 : most ≤ 12) : Chn1 c := by
  obtain ⟨s, hs, _⟩ := h.l
  have := h.n
  refine ⟨fun e => ?_, by omega, fun t ht => by have := h.r t ht; omega⟩
  rw [e] at hs
  exact absurd hs (by simp)
/-- its last step is the narrowest -/
def EndW (last : Int) (c : List (Int × Ru)) : Prop := ∃ (c0 : List (Int × Ru)) (r : Ru), c = c0 ++ [(last, r)]
theorem Drc.perm {last far most : Int} {c c' : List (Int × Ru)} (h : Drc last far most c) (h1 : ∀ s ∈ c', s ∈ c) (h2 : ∀ s ∈ c, s ∈ c') (h3 : c'.length = c.length) : Drc last far most c' := by
  obtain ⟨s, hs, e⟩ := h.l
  have := h.n
  exact ⟨fun t ht => h.r t (h1 t ht), ⟨s, h2 s hs, e⟩, by omega⟩
def ngD (s : Int × Ru) : Da := .tuple [.int (0 - s.1), .str s.2.s]
theorem ngD_inj {s s' : Int × Ru} (h : ngD s = ngD s') : s = s' := by
  obtain ⟨w, r⟩ := s
  obtain ⟨w', r'⟩ := s'
  simp only [ngD, PyData.tuple.injEq, List.cons.injEq, PyData.int.injEq, PyData.str.injEq, and_true] at h
  have e : stD (w, r) = stD (w', r') := by
    simp only [stD, PyData.tuple.injEq, List.cons.injEq, PyData.int.injEq, PyData.str.injEq, and_true]
    exact ⟨by omega, h.2⟩
  exact stD_inj e
theorem from_perm {f : Int × Ru → Da} {c : List (Int × Ru)} : ∀ {ds : List Da}, (∀ d ∈ ds, d ∈ c.map f) → ∃ c' : List (Int × Ru), ds = c'.map f ∧ ∀ s ∈ c', s ∈ c
  | [], _ => ⟨[], rfl, fun s hs => absurd hs (by simp)⟩
  | d :: ds, h => by
    obtain ⟨c', rfl, h2⟩ := from_perm (ds := ds) fun e he => h e (List.mem_cons_of_mem _ he)
    obtain ⟨s, hs, rfl⟩ := List.mem_map.mp (h d List.mem_cons_self)
    refine ⟨s :: c', rfl, fun t ht => ?_⟩
    rcases List.mem_cons.mp ht with rfl | ht
    · exact hs
    · exact h2 t ht
theorem cut_tl {ds : List Da} (h : 1 ≤ ds.length) : Z.cutD ds (some 1) none = ds.drop 1 := by
  unfold Z.cutD
  have e1 : HT.sIx ds.length 0 (some 1) = 1 := by
    show (if (1 : Int) < 0 then ((1 : Int) + (ds.length : Int)).toNat else min (1 : Int).toNat ds.length) = 1
    rw [if_neg (by decide)]
    simp
    omega
  rw [e1, HT.sIx_none, List.take_of_length_le (by rw [List.length_drop]; omega)]
theorem cut_hd {ds : List Da} (h : 1 ≤ ds.length) : Z.cutD ds none (some 1) = ds.take 1 := by
  unfold Z.cutD
  have e1 : HT.sIx ds.length ds.length (some 1) = 1 := by
    show (if (1 : Int) < 0 then ((1 : Int) + (ds.length : Int)).toNat else min (1 : Int).toNat ds.length) = 1
    rw [if_neg (by decide)]
    simp
    omega
  rw [e1, HT.sIx_none]
  rfl
def fs__law_chain : FSp := fun rs fu post => ∃ (last most far : Int) (m : Nat), rs = [.src, .val (.int last), .val (.int most), .val (.int far)] ∧ fu = some m ∧ 1 ≤ last ∧ 1 ≤ most ∧ most ≤ 12 ∧ 1 ≤ far ∧ last + far ≤ 100 ∧ 30 ≤ m ∧
  ∀ (c : List (Int × Ru)) (m' : Nat), m ≤ m' + 30 → Drc last far most c → EndW last c → post (.val (chD c)) (some m')
def lcF : DS := (dFor (dRange1 (dCall 2 fs__law_draw (dCons (dVar 0) (dCons (dVar 2) dNil)))) (dN 5)
    (dApp 4 (dTup (dCons (dBin fAdd (dBin fAdd (dVar 1) (dC (.int 1))) (dCall 2 fs__law_draw (dCons (dVar 0) (dCons (dVar 3) dNil)))) (dCons (dCall 1 fs__law_rule (dCons (dVar 0) dNil)) dNil)))))
def lcE : DS := (dSeq (dIfS (dTest (dBin oGt (dCall 2 fs__law_draw (dCons (dVar 0) (dCons (dC (.int 4)) dNil))) (dC (.int 0))))
    (dSeq (dAsg (dCB cSortedD (dCons (dFz (dLc [7, 8] (dItems (dVar 4)) (dT 2 (dTc (dN 7) (dTc (dN 8) dTn))) dYes (dTup (dCons (dBin oSub (dC (.int 0)) (dVar 7)) (dCons (dVar 8) dNil))))) dNil)) (dN 6))
  (dRet (dCB cTuple (dCons (dFz (dLc [7, 8] (dItems (dVar 6)) (dT 2 (dTc (dN 7) (dTc (dN 8) dTn))) dYes (dTup (dCons (dBin oSub (dC (.int 0)) (dVar 7)) (dCons (dVar 8) dNil))))) dNil))))
    dNext)
  (dRet (dCB cTuple (dCons (dBin fAdd (dSl (dVar 4) (oSo (dC (.int 1))) oNo) (dSl (dVar 4) oNo (oSo (dC (.int 1))))) dNil))))
theorem end_sorted {last far most : Int} {c : List (Int × Ru)} (hc : Drc last far most c) (pw : (c.map ngD).Pairwise (fun a b => PySem.W.dataLe false id a b = true)) : EndW last c := by
  obtain ⟨s, hs, e⟩ := hc.l
  have ne : c ≠ [] := fun z => by rw [z] at hs; exact absurd hs (by simp)
  have sp : c = c.dropLast ++ [c.getLast ne] := (List.dropLast_concat_getLast ne).symm
  generalize c.dropLast = c0 at sp
  generalize c.getLast ne = z at sp
  have z1 := hc.r z (by rw [sp]; simp)
  have z2 : z.1 ≤ s.1 := by
    rw [sp] at hs
    rcases List.mem_append.mp hs with q | q
    · rw [sp, List.map_append, List.pairwise_append] at pw
      have := le_fst (pw.2.2 (ngD s) (List.mem_map_of_mem q) (ngD z) (by simp))
      omega
    · rw [List.mem_singleton] at q
      rw [q]
      exact Int.le_refl _
  have : z = (last, z.2) := Prod.ext (by show z.1 = last; omega) rfl
  rw [this] at sp
  exact ⟨c0, z.2, sp⟩
def negD : Da → Da
  | .tuple [.int i, x] => .tuple [.int (0 - i), x]
  | d => d
theorem p_lcE {D : DEnds} {last most far : Int} {m : Nat} {t f w r : Option Sv} {c : List (Int × Ru)} (hc : Drc last far most c) (hl : c.length ≤ 100)
    (hh : ∃ (r0 : Ru) (t : List (Int × Ru)), c = (last, r0) :: t)
    (h : ∀ (c : List (Int × Ru)) (g : Gs), g.fu = some m → Drc last far most c → EndW last c → D.rt (.val (chD c)) g) :
    lcE D ⟨[some .src, some (.val (.int last)), some (.val (.int most)), some (.val (.int far)), some (.own (c.map stD)), t, f, w, r], some (m + 1), false⟩ := by
  have c1 : 1 ≤ (c.map stD).length := by
    obtain ⟨s, hs, _⟩ := hc.l
    rw [List.length_map]
    exact List.length_pos_iff.mpr (fun e => absurd hs (by rw [e]; simp))
  simp_arith [lcE, fs__law_draw]
  refine ⟨_, m, rfl, rfl, by decide, Bn.small (by decide) (by decide) (by decide), fun i i0 i1 => ⟨fun _ => ?_, fun _ => ?_⟩⟩
  · refine lc_mapT negD (fun x hx R N hR => ?_) (by simp; omega) ?_
    · obtain ⟨s, hs, rfl⟩ := List.mem_map.mp hx
      unfold stD at hR ⊢
      simp_arith [Nat.zero_add]
      exact hR _ rfl
    · have e : List.map negD (c.map stD) = c.map ngD := by
        rw [List.map_map]
        rfl
      rw [List.nil_append, e]
      obtain ⟨a1, a2, a3⟩ := pairs_sortable (ds := c.map ngD) fun d hd => by
        obtain ⟨s, hs, rfl⟩ := List.mem_map.mp hd
        exact ⟨_, _, rfl, ru_ok _⟩
      refine ⟨a1, a2, a3, fun ds' pm pw => ?_⟩
      obtain ⟨c', rfl, hm⟩ := from_perm fun d hd => pm.mem_iff.mp hd
      have hlen : c'.length = c.length := by
        have := pm.length_eq
        rw [List.length_map, List.length_map] at this
        exact this
      have hm' : ∀ s ∈ c, s ∈ c' := fun s hs => by
        obtain ⟨s', hs', e⟩ := List.mem_map.mp (pm.mem_iff.mpr (List.mem_map_of_mem (f := ngD) hs))
        rw [← ngD_inj e]
        exact hs'
      try simp_arith [Nat.zero_add]
      refine lc_mapT negD (fun x hx R N hR => ?_) (by simp; omega) ?_
      · obtain ⟨s, hs, rfl⟩ := List.mem_map.mp hx
        unfold ngD at hR ⊢
        simp_arith [Nat.zero_add]
        exact hR _ rfl
      · have e : List.map negD (c'.map ngD) = c'.map stD := by
          rw [List.map_map]
          refine List.map_congr_left fun s hs => ?_
          show PyData.tuple [.int (0 - (0 - s.1)), _] = PyData.tuple [.int s.1, _]
          rw [show 0 - (0 - s.1) = s.1 by omega]
        rw [List.nil_append, e]
        exact h c' _ rfl (hc.perm hm hm' hlen) (end_sorted (hc.perm hm hm' hlen) pw)
  · rw [cut_tl c1, cut_hd c1, ← List.map_drop, ← List.map_take, ← List.map_append]
    refine ⟨by simp only [List.length_map, List.length_append, List.length_drop, List.length_take, sizeLine_eq]; omega, ?_⟩
    refine h (c.drop 1 ++ c.take 1) _ rfl (hc.perm (fun s hs => ?_) (fun s hs => ?_) ?_) (by obtain ⟨r0, t, rfl⟩ := hh; exact ⟨t, r0, rfl⟩)
    · rcases List.mem_append.mp hs with q | q
      · exact List.mem_of_mem_drop q
      · exact List.mem_of_mem_take q
    · rw [← List.take_append_drop 1 c] at hs
      rcases List.mem_append.mp hs with q | q
      · exact List.mem_append_right _ q
      · exact List.mem_append_left _ q
    · rw [List.length_append, List.length_drop, List.length_take]
      rw [List.length_map] at c1
      omega
theorem p__law_chain (rs : List Rv) (fu : Option Nat) (post : Rr → Option Nat → Prop) (hl : rs.length = 4) (h : fs__law_chain rs fu post) : b__law_chain ⟨fun g => post (.val .none) g.fu, fun r g => post r g.fu, fun _ => False, fun _ => False⟩ (ent N__law_chain rs fu) := by
  obtain ⟨last, most, far, m0, rfl, rfl, h1, h2, h3, h4, h5, hm, h⟩ := h
  obtain ⟨m, rfl⟩ : ∃ m, m0 = m + 30 := ⟨m0 - 30, by omega⟩
  show dSeq _ (dSeq lcF lcE) _ _
  simp_arith [lcF, fs__law_draw, fs__law_rule]
  refine ⟨m + 29, rfl, fun r0 => ⟨most, m + 28, rfl, rfl, by omega, Bn.small (by omega) (by omega) (by decide), fun i i0 i1 => ⟨by omega, by omega, ?_⟩⟩⟩
  refine forD_ix (k := 0) (fun k g => ∃ (c : List (Int × Ru)) (m' : Nat) (t f w r : Option Sv), g = ⟨[some .src, some (.val (.int last)), some (.val (.int most)), some (.val (.int far)), some (.own (c.map stD)), t, f, w, r], some m', false⟩ ∧ m + 28 ≤ m' + 2 * k ∧ c.length = k + 1 ∧ (∀ s ∈ c, last ≤ s.1 ∧ s.1 ≤ last + far) ∧ (∃ s ∈ c, s.1 = last) ∧ ∃ (r0 : Ru) (t : List (Int × Ru)), c = (last, r0) :: t) (fun k x hx g hg N hN => ?_) (fun g hg => ?_) ⟨[(last, r0)], m + 28, _, _, _, _, rfl, by omega, rfl, fun s hs => ?_, ⟨(last, r0), List.mem_cons_self, rfl⟩, r0, [], rfl⟩
  · obtain ⟨c, m', t, f, w, r, rfl, q1, q2, q3, q4, q5⟩ := hg
    have hk : k < 12 := by
      have := (List.getElem?_eq_some_iff.mp hx).1
      rw [rangeD_len] at this
      omega
    obtain ⟨m1, rfl⟩ : ∃ m1, m' = m1 + 2 := ⟨m' - 2, by omega⟩
    simp_arith [fs__law_draw, fs__law_rule]
    refine ⟨⟨_, rfl⟩, far, m1 + 1, rfl, rfl, by omega, Bn.small (by omega) (by omega) (by decide), fun j j0 j1 => ⟨m1, rfl, fun r1 => ⟨by rw [List.length_map]; omega, ?_⟩⟩⟩
    refine hN _ ⟨c ++ [(last + 1 + j, r1)], m1, some (.val x), f, w, r, ?_, by omega, by rw [List.length_append]; simp; omega, fun s hs => ?_, ?_, ?_⟩
    · rw [List.map_append]
      rfl
    · rcases List.mem_append.mp hs with hs | hs
      · exact q3 s hs
      · rcases List.mem_cons.mp hs with rfl | hs
        · exact ⟨by show last ≤ last + 1 + j; omega, by show last + 1 + j ≤ last + far; omega⟩
        · exact absurd hs (by simp)
    · obtain ⟨s, hs, e⟩ := q4
      exact ⟨s, List.mem_append_left _ hs, e⟩
    · obtain ⟨r0, t, rfl⟩ := q5
      exact ⟨r0, _, rfl⟩
  · obtain ⟨c, m', t, f, w, r, rfl, q1, q2, q3, q4, q5⟩ := hg
    rw [rangeD_len] at q1 q2
    obtain ⟨m1, rfl⟩ : ∃ m1, m' = m1 + 1 := ⟨m' - 1, by omega⟩
    refine p_lcE ⟨q3, q4, by omega⟩ (by omega) q5 fun c' g e hc' he => ?_
    have := h c' m1 (by omega) hc' he
    rw [← e] at this
    exact this
  · rcases List.mem_cons.mp hs with rfl | hs
    · exact ⟨Int.le_refl _, by show last ≤ last + far; omega⟩
    · exact absurd hs (by simp)
section
variable {P : Program} {w : World} {K : Fg} {mg : Str → Option Value} {base : Heap}
theorem d__law_chain (T : Tx w K mg) {cdv : Value} {A : Around} {outer : List Env} {s : Shared} {H : Hp} {E : XK} (hr : Room 3 (A.deeper (envOfC "_law_chain" (defScope st__law_chain) s.heap.objs.size T.f__law_chain cdv))) (hgd : (A.deeper (envOfC "_law_chain" (defScope st__law_chain) s.heap.objs.size T.f__law_chain cdv)).guards = some []) :
    PSs (cxOf CX0 P w K mg base N__law_chain "_law_chain" (defScope st__law_chain) T.f__law_chain cdv A outer s H E).nox (defBody st__law_chain) (upS K W0 b__law_chain) :=
  (ss_cons (s_setL (i := 4) sc__law_chain.nd rfl (.inl rfl) (e_lstL (a_cons (e_tup (a_cons (e_var 1 (pv 1)) (a_cons (e_call (ok__law_rule T) (hr.mono (by decide)) hgd (by rfl) T.g__law_rule T.F__law_rule.kp T.b__law_rule pass0 (a_cons (e_var 0 (pv 0)) a_nil)) a_nil))) a_nil)))
    (ss_cons (s_for PassesOwn.never rfl (i_range1 (by rfl) T.n_range (e_call (ok__law_draw T) (hr.mono (by decide)) hgd (by rfl) T.g__law_draw T.F__law_draw.kp T.b__law_draw pass0 (a_cons (e_var 0 (pv 0)) (a_cons (e_var 2 (pv 2)) a_nil)))) (g_name (pg_name (i := 5) sc__law_chain.nd rfl (.inl rfl))) (ss_one (s_app (name := "x") (pv 4) (e_tup (a_cons (e_add (e_add (e_var 1 (pv 1)) e_int) (e_call (ok__law_draw T) (hr.mono (by decide)) hgd (by rfl) T.g__law_draw T.F__law_draw.kp T.b__law_draw pass0 (a_cons (e_var 0 (pv 0)) (a_cons (e_var 3 (pv 3)) a_nil)))) (a_cons (e_call (ok__law_rule T) (hr.mono (by decide)) hgd (by rfl) T.g__law_rule T.F__law_rule.kp T.b__law_rule pass0 (a_cons (e_var 0 (pv 0)) a_nil)) a_nil))) (fun h => pe_bm PySem.F.plainAttrs_list PySem.F.slot_list_append PySem.F.type_list_append mt_append (pv 4) h))))
    (ss_cons (s_if (t_gt (e_call (ok__law_draw T) (hr.mono (by decide)) hgd (by rfl) T.g__law_draw T.F__law_draw.kp T.b__law_draw pass0 (a_cons (e_var 0 (pv 0)) (a_cons e_int a_nil))) e_int) (ss_cons (s_set (i := 6) sc__law_chain.nd rfl (.inl rfl) (e_sortedD hr (by rfl) T.n_sorted (a_cons (e_fz (e_lc (own := [("_law_width", 7), ("_law_rule_here", 8)]) rfl sc__law_chain.nd (i_items (e_var 4 (pv 4))) (blkOk_by (own := [("_law_width", 7), ("_law_rule_here", 8)]) (N := N__law_chain) (sc := defScope st__law_chain) (by decide +kernel)) (fun _ _ _ _ _ => (gw_tup rfl rfl (gsw_cons (gw_name rfl (pg_name (i := 7) sc__law_chain.nd rfl (.inl rfl)) (by decide)) (gsw_cons (gw_name rfl (pg_name (i := 8) sc__law_chain.nd rfl (.inl rfl)) (by decide)) gsw_nil)))) (fun _ _ _ _ _ => ts_yes) (fun _ _ _ _ _ => (e_tup (a_cons (e_sub e_int (e_var 7 (pv 7))) (a_cons (e_var 8 (pv 8)) a_nil)))))) a_nil)))
    (ss_one (s_ret (e_tuple (by rfl) T.n_tuple (a_cons (e_fz (e_lc (own := [("_law_width", 7), ("_law_rule_here", 8)]) rfl sc__law_chain.nd (i_items (e_var 6 (pv 6))) (blkOk_by (own := [("_law_width", 7), ("_law_rule_here", 8)]) (N := N__law_chain) (sc := defScope st__law_chain) (by decide +kernel)) (fun _ _ _ _ _ => (gw_tup rfl rfl (gsw_cons (gw_name rfl (pg_name (i := 7) sc__law_chain.nd rfl (.inl rfl)) (by decide)) (gsw_cons (gw_name rfl (pg_name (i := 8) sc__law_chain.nd rfl (.inl rfl)) (by decide)) gsw_nil)))) (fun _ _ _ _ _ => ts_yes) (fun _ _ _ _ _ => (e_tup (a_cons (e_sub e_int (e_var 7 (pv 7))) (a_cons (e_var 8 (pv 8)) a_nil)))))) a_nil))))) ss_nil)
    (ss_one (s_ret (e_tuple (by rfl) T.n_tuple (a_cons (e_add (e_sl (e_var 4 (pv 4)) (o_some e_int) o_none) (e_sl (e_var 4 (pv 4)) o_none (o_some e_int))) a_nil)))))))
theorem ok__law_chain (T : Tx w K mg) : Fn P w K mg base CX0 4 T.f__law_chain T.fd__law_chain ["_law_source_here", "_law_last", "_law_most", "_law_far"] (lift K 4 fs__law_chain) := fn_data T.F__law_chain sc__law_chain b__law_chain (fun _ _ _ _ _ _ hr hgd => d__law_chain T hr hgd) p__law_chain
end
def b__law_is_int : DS :=
  (dRet (dAndV (dIsi "int" (dVar 0)) (dAndV (dNotV (dIsi "bool" (dVar 0))) (dBin oGe (dVar 0) (dVar 1)))))
def fs__law_is_int : FSp := fun rs fu post => ∃ d m, rs = [.val d, .val (.int m)] ∧ post (.val (.bool (isInt d m))) fu
theorem p__law_is_int (rs : List Rv) (fu : Option Nat) (post : Rr → Option Nat → Prop) (hl : rs.length = 2) (h : fs__law_is_int rs fu post) : b__law_is_int ⟨fun g => post (.val .none) g.fu, fun r g => post r g.fu, fun _ => False, fun _ => False⟩ (ent N__law_is_int rs fu) := by
  obtain ⟨d, m, rfl, h⟩ := h
  cases d <;> (simp_arith [b__law_is_int]; simp_all [isInt, isTy])
section
variable {P : Program} {w : World} {K : Fg} {mg : Str → Option Value} {base : Heap}
theorem d__law_is_int (T : Tx w K mg) {cdv : Value} {A : Around} {outer : List Env} {s : Shared} {H : Hp} {E : XK} (hr : Room 0 (A.deeper (envOfC "_law_is_int" (defScope st__law_is_int) s.heap.objs.size T.f__law_is_int cdv))) (hgd : (A.deeper (envOfC "_law_is_int" (defScope st__law_is_int) s.heap.objs.size T.f__law_is_int cdv)).guards = some []) :
    PSs (cxOf CX0 P w K mg base N__law_is_int "_law_is_int" (defScope st__law_is_int) T.f__law_is_int cdv A outer s H E).nox (defBody st__law_is_int) (upS K W0 b__law_is_int) :=
  (ss_one (s_ret (e_and (e_isi kit_int (by rfl) T.n_isinstance (e_var 0 (pv 0)) (c_ty (by rfl) T.n_int (by decide +kernel))) (e_and (e_not (e_isi kit_bool (by rfl) T.n_isinstance (e_var 0 (pv 0)) (c_ty (by rfl) T.n_bool (by decide +kernel)))) (e_one (e_ge (e_var 0 (pv 0)) (e_var 1 (pv 1))))))))
theorem ok__law_is_int (T : Tx w K mg) : Fn P w K mg base CX0 1 T.f__law_is_int T.fd__law_is_int ["_law_value", "_law_least"] (lift K 2 fs__law_is_int) := fn_data T.F__law_is_int sc__law_is_int b__law_is_int (fun _ _ _ _ _ _ hr hgd => d__law_is_int T hr hgd) p__law_is_int
end
def b__law_is_number : DS :=
  (dSeq (dIfS (dOrT (dNotT (dTest (dIsi "tuple" (dVar 0)))) (dOrT (dTest (dBin fNe (dCB cLen (dCons (dVar 0) dNil)) (dC (.int 2)))) (dNotT (dTest (dCB cAll (dCons (dFz (dLc [1] (dItems (dVar 0)) (dN 1) dYes (dCall 2 fs__law_is_int (dCons (dVar 1) (dCons (dC (.int 1)) dNil))))) dNil))))))
    (dRet (dC (.bool false)))
    dNext)
  (dRet (dBin fEq (dCall 2 fs__law_divisor (dCons (dIx (dVar 0) (dC (.int 0))) (dCons (dIx (dVar 0) (dC (.int 1))) dNil))) (dC (.int 1)))))
def fs__law_is_number : FSp := fun rs fu post => ∃ v, rs = [.val v] ∧ post (.val (.bool (isNum v))) fu
theorem p__law_is_number (rs : List Rv) (fu : Option Nat) (post : Rr → Option Nat → Prop) (hl : rs.length = 1) (h : fs__law_is_number rs fu post) : b__law_is_number ⟨fun g => post (.val .none) g.fu, fun r g => post r g.fu, fun _ => False, fun _ => False⟩ (ent N__law_is_number rs fu) := by
  obtain ⟨v, rfl, h⟩ := h
  cases v with
  | tuple xs =>
    simp_arith [b__law_is_number]
    refine ⟨fun z => (by simp [isTy] at z), fun _ => ⟨fun z => ?_, fun z => ?_⟩⟩
    · have e : xs.length ≠ 2 := by omega
      rw [isNum_ne e] at h
      exact h
    · have e : xs.length = 2 := by omega
      match xs, e with
      | [x, y], _ =>
        simp_arith [fs__law_is_int]
        refine ⟨x, 1, rfl, by decide, y, 1, rfl, by decide, ?_⟩
        simp only [boolsD, Option.map_some]
        simp only [isNum] at h
        refine ⟨fun hf => ?_, fun ht => ?_⟩
        · have : (isInt x 1 && isInt y 1) = false := by
            revert hf
            cases isInt x 1 <;> cases isInt y 1 <;> simp
          rw [this, Bool.false_and] at h
          exact h
        · have h12 : isInt x 1 = true ∧ isInt y 1 = true := by simpa using ht
          obtain ⟨n, rfl, hn⟩ := isInt_some h12.1
          obtain ⟨d, rfl, hd⟩ := isInt_some h12.2
          refine ⟨n, d, rfl, by omega, by omega, rfl, rfl, ?_⟩
          have e : ((PyData.int ((Int.gcd n d : Nat) : Int)).eqv (PyData.int 1)) = decide (Int.gcd n d = 1) := by
            simp only [PyData.eqv]
            rw [Bool.eq_iff_iff]
            simp
            omega
          rw [e]
          rw [h12.1, h12.2] at h
          simpa using h
  | _ => simp_arith [b__law_is_number]; simpa [isTy, isNum] using h
section
variable {P : Program} {w : World} {K : Fg} {mg : Str → Option Value} {base : Heap}
theorem d__law_is_number (T : Tx w K mg) {cdv : Value} {A : Around} {outer : List Env} {s : Shared} {H : Hp} {E : XK} (hr : Room 1 (A.deeper (envOfC "_law_is_number" (defScope st__law_is_number) s.heap.objs.size T.f__law_is_number cdv))) (hgd : (A.deeper (envOfC "_law_is_number" (defScope st__law_is_number) s.heap.objs.size T.f__law_is_number cdv)).guards = some []) :
    PSs (cxOf CX0 P w K mg base N__law_is_number "_law_is_number" (defScope st__law_is_number) T.f__law_is_number cdv A outer s H E).nox (defBody st__law_is_number) (upS K W0 b__law_is_number) :=
  (ss_cons (s_if (PW.pt (w_or (t_not (t_val (e_isi kit_tuple (by rfl) T.n_isinstance (e_var 0 (pv 0)) (c_ty (by rfl) T.n_tuple (by decide +kernel))))) (w_or (t_ne hr.units (e_len (by rfl) T.n_len (a_cons (e_var 0 (pv 0)) a_nil)) e_int) (w_or1 (t_not (t_val (e_all rfl (by rfl) T.n_all (a_cons (e_fz (e_lc (own := [("_law_part", 1)]) rfl sc__law_is_number.nd (i_items (e_var 0 (pv 0))) (blkOk_by (own := [("_law_part", 1)]) (N := N__law_is_number) (sc := defScope st__law_is_number) (by decide +kernel)) (fun _ _ _ _ _ => (gw_name rfl (pg_name (i := 1) sc__law_is_number.nd rfl (.inl rfl)) (by decide))) (fun _ _ _ _ _ => ts_yes) (fun _ _ _ _ _ => (e_call (ok__law_is_int T) (hr.mono (by decide)) hgd (by rfl) T.g__law_is_int T.F__law_is_int.kp T.b__law_is_int pass0 (a_cons (e_var 1 (pv 1)) (a_cons e_int a_nil)))))) a_nil)))))))) (ss_one (s_ret e_bl)) ss_nil)
    (ss_one (s_ret (e_eq hr.units (e_call (ok__law_divisor T) (hr.mono (by decide)) hgd (by rfl) T.g__law_divisor T.F__law_divisor.kp T.b__law_divisor pass0 (a_cons (e_ix (e_var 0 (pv 0)) e_int) (a_cons (e_ix (e_var 0 (pv 0)) e_int) a_nil))) e_int))))
theorem ok__law_is_number (T : Tx w K mg) : Fn P w K mg base CX0 2 T.f__law_is_number T.fd__law_is_number ["_law_value"] (lift K 1 fs__law_is_number) := fn_data T.F__law_is_number sc__law_is_number b__law_is_number (fun _ _ _ _ _ _ hr hgd => d__law_is_number T hr hgd) p__law_is_number
end
def b__law_is_chain : DS :=
  (dSeq (dAsg (dTup (dCons (dC (.str "down")) (dCons (dC (.str "half_down")) (dCons (dC (.str "half_even")) (dCons (dC (.str "half_up")) (dCons (dC (.str "odd")) (dCons (dC (.str "up")) dNil))))))) (dN 1))
  (dSeq (dIfS (dOrT (dNotT (dTest (dIsi "tuple" (dVar 0)))) (dNotT (dTest (dChain oLe oLe (dC (.int 1)) (dCB cLen (dCons (dVar 0) dNil)) (dC (.int 12))))))
    (dRet (dC (.bool false)))
    dNext)
  (dSeq (dFor (dItems (dVar 0)) (dN 2)
    (dSeq (dIfS (dOrT (dNotT (dTest (dIsi "tuple" (dVar 2)))) (dOrT (dTest (dBin fNe (dCB cLen (dCons (dVar 2) dNil)) (dC (.int 2)))) (dOrT (dNotT (dTest (dCall 2 fs__law_is_int (dCons (dIx (dVar 2) (dC (.int 0))) (dCons (dC (.int 1)) dNil))))) (dTest (dBin oGt (dIx (dVar 2) (dC (.int 0))) (dC (.int 100)))))))
    (dRet (dC (.bool false)))
    dNext)
  (dIfS (dOrT (dNotT (dTest (dIsi "str" (dIx (dVar 2) (dC (.int 1)))))) (dTest (dBin (fIn true) (dIx (dVar 2) (dC (.int 1))) (dVar 1))))
    (dRet (dC (.bool false)))
    dNext)))
  (dRet (dC (.bool true))))))
def fs__law_is_chain : FSp := fun rs fu post => ∃ v, rs = [.val v] ∧ layX v = true ∧ post (.val (.bool (isChn v))) fu
theorem layX_mem : ∀ {xs : List Da}, layXs xs = true → ∀ x ∈ xs, layX x = true
  | [], _, x, h => by cases h
  | y :: ys, h, x, hx => by
    have q : layX y = true ∧ layXs ys = true := by simpa [layXs] using h
    rcases List.mem_cons.mp hx with rfl | hx
    · exact q.1
    · exact layX_mem q.2 x hx
def icR : Da := .tuple [.str "down", .str "half_down", .str "half_even", .str "half_up", .str "odd", .str "up"]
def icB : DS := (dSeq (dIfS (dOrT (dNotT (dTest (dIsi "tuple" (dVar 2)))) (dOrT (dTest (dBin fNe (dCB cLen (dCons (dVar 2) dNil)) (dC (.int 2)))) (dOrT (dNotT (dTest (dCall 2 fs__law_is_int (dCons (dIx (dVar 2) (dC (.int 0))) (dCons (dC (.int 1)) dNil))))) (dTest (dBin oGt (dIx (dVar 2) (dC (.int 0))) (dC (.int 100)))))))
    (dRet (dC (.bool false)))
    dNext)
  (dIfS (dOrT (dNotT (dTest (dIsi "str" (dIx (dVar 2) (dC (.int 1)))))) (dTest (dBin (fIn true) (dIx (dVar 2) (dC (.int 1))) (dVar 1))))
    (dRet (dC (.bool false)))
    dNext))
theorem p_icB {D : DEnds} {v x : Da} {fu : Option Nat} (lay : layX x = true) (hn : isStp x = true → D.nx ⟨[some (.val v), some (.val icR), some (.val x)], fu, fu.isNone⟩) (hr : isStp x = false → ∀ g : Gs, g.fu = fu → D.rt (.val (.bool false)) g) :
    icB D ⟨[some (.val v), some (.val icR), some (.val x)], fu, fu.isNone⟩ := by
  cases x with
  | tuple xs =>
    simp_arith [icB]
    refine ⟨fun z => (by simp [isTy] at z), fun _ => ⟨fun z => hr (isStp_ne (by omega)) _ rfl, fun z => ?_⟩⟩
    have e : xs.length = 2 := by omega
    match xs, e with
    | [x, y], _ =>
      have ly : layX y = true := layX_mem (show layXs [x, y] = true from lay) y (by simp)
      simp_arith [fs__law_is_int]
      refine ⟨x, 1, rfl, fun hf => hr ?_ _ rfl, fun ht => ?_⟩
      · have w : isWid x = false := by
          cases x with
          | int n =>
            have : ¬ (1 ≤ n) := by simpa [isInt] using hf
            simp [isWid, isInt]
            omega
          | _ => rfl
        simp [isStp, w]
      · obtain ⟨n, rfl, hn0⟩ := isInt_some ht
        have wd : isWid (.int n) = (decide (1 ≤ n) && decide (n ≤ 100)) := by simp [isWid, isInt]
        simp_arith [Nat.zero_add]
        refine ⟨fun q => hr (by simp [isStp, wd]; intro; omega) _ rfl, fun q => ?_⟩
        have w1 : isWid (.int n) = true := by rw [wd, decide_eq_true hn0, decide_eq_true (by omega)]; rfl
        have sp : isStp (.tuple [.int n, y]) = isRul y := by simp [isStp, w1]
        rw [sp] at hn hr
        cases y with
        | str r =>
          have fl : flatD (.str r) = true := rfl
          refine ⟨fun q => (by simp [isTy] at q), fun _ => ?_⟩
          unfold icR
          simp_arith [Nat.zero_add]
          exact ⟨fun q => hr q _ rfl, fun q => hn q⟩
        | _ => exact ⟨fun _ => hr rfl _ rfl, fun q => (by simp [isTy] at q)⟩
  | _ => simp_arith [icB]; exact ⟨fun _ => hr rfl _ rfl, fun q => (by simp [isTy] at q)⟩
theorem p__law_is_chain (rs : List Rv) (fu : Option Nat) (post : Rr → Option Nat → Prop) (hl : rs.length = 1) (h : fs__law_is_chain rs fu post) : b__law_is_chain ⟨fun g => post (.val .none) g.fu, fun r g => post r g.fu, fun _ => False, fun _ => False⟩ (ent N__law_is_chain rs fu) := by
  obtain ⟨v, rfl, lay, h⟩ := h
  have lB := @p_icB
  show (dSeq (dAsg (dTup (dCons (dC (.str "down")) (dCons (dC (.str "half_down")) (dCons (dC (.str "half_even")) (dCons (dC (.str "half_up")) (dCons (dC (.str "odd")) (dCons (dC (.str "up")) dNil))))))) (dN 1)) (dSeq (dIfS (dOrT (dNotT (dTest (dIsi "tuple" (dVar 0)))) (dNotT (dTest (dChain oLe oLe (dC (.int 1)) (dCB cLen (dCons (dVar 0) dNil)) (dC (.int 12))))))
    (dRet (dC (.bool false)))
    dNext)
  (dSeq (dFor (dItems (dVar 0)) (dN 2) icB)
  (dRet (dC (.bool true)))))) _ _
  generalize ll : icB = L at lB
  cases v with
  | tuple xs =>
    simp_arith [Nat.zero_add]
    refine ⟨fun z => (by simp [isTy] at z), fun _ => ?_⟩
    by_cases h1 : 1 ≤ (xs.length : Int)
    · rw [decide_eq_true h1]
      refine ⟨fun z => ?_, fun h2 => ?_⟩
      · have e : isChn (.tuple xs) = false := by simp [isChn]; intro _ q; exact absurd q z
        rw [e] at h
        exact h
      · have ec : isChn (.tuple xs) = xs.all isStp := by simp only [isChn, h1, h2, decide_true, Bool.true_and]
        rw [ec] at h
        refine forD_ix0 (fun k g => (∀ (i : Nat) x, i < k → xs[i]? = some x → isStp x = true) ∧ ∃ x2 : Option Sv, g = ⟨[some (.val (.tuple xs)), some (.val icR), x2], fu, fu.isNone⟩) (fun k x hx g hg N hN => ?_) (fun g hg => ?_) ⟨fun i x hi => absurd hi (Nat.not_lt_zero _), _, rfl⟩
        · obtain ⟨ha, x2, rfl⟩ := hg
          simp_arith [Nat.zero_add]
          refine lB (layX_mem (show layXs xs = true from lay) x (List.mem_of_getElem? hx)) (fun st => hN _ ⟨fun i y hi hy => ?_, _, rfl⟩) (fun st g hg => ?_)
          · rcases Nat.lt_or_ge i k with q | q
            · exact ha i y q hy
            · obtain rfl : i = k := by omega
              rw [hx] at hy
              cases hy
              exact st
          · show post _ g.fu
            rw [hg]
            have e : xs.all isStp = false := List.all_eq_false.mpr ⟨x, List.mem_of_getElem? hx, by rw [st]; decide⟩
            rw [e] at h
            exact h
        · obtain ⟨ha, x2, rfl⟩ := hg
          simp_arith [Nat.zero_add]
          have e : xs.all isStp = true := List.all_eq_true.mpr fun x hx => by
            obtain ⟨i, hi⟩ := List.mem_iff_getElem?.mp hx
            exact ha i x (List.getElem?_eq_some_iff.mp hi).1 hi
          rw [e] at h
          exact h
    · rw [decide_eq_false h1]
      simp_arith [Nat.zero_add]
      have e : isChn (.tuple xs) = false := by simp only [isChn, h1, decide_false, Bool.false_and]
      rw [e] at h
      exact h
  | _ => simp_arith [Nat.zero_add]; exact ⟨fun _ => h, fun q => (by simp [isTy] at q)⟩
section
variable {P : Program} {w : World} {K : Fg} {mg : Str → Option Value} {base : Heap}
theorem d__law_is_chain (T : Tx w K mg) {cdv : Value} {A : Around} {outer : List Env} {s : Shared} {H : Hp} {E : XK} (hr : Room 1 (A.deeper (envOfC "_law_is_chain" (defScope st__law_is_chain) s.heap.objs.size T.f__law_is_chain cdv))) (hgd : (A.deeper (envOfC "_law_is_chain" (defScope st__law_is_chain) s.heap.objs.size T.f__law_is_chain cdv)).guards = some []) :
    PSs (cxOf CX0 P w K mg base N__law_is_chain "_law_is_chain" (defScope st__law_is_chain) T.f__law_is_chain cdv A outer s H E).nox (defBody st__law_is_chain) (upS K W0 b__law_is_chain) :=
  (ss_cons (s_set (i := 1) sc__law_is_chain.nd rfl (.inl rfl) (e_tup (a_cons e_str (a_cons e_str (a_cons e_str (a_cons e_str (a_cons e_str (a_cons e_str a_nil))))))))
    (ss_cons (s_if (PW.pt (w_or (t_not (t_val (e_isi kit_tuple (by rfl) T.n_isinstance (e_var 0 (pv 0)) (c_ty (by rfl) T.n_tuple (by decide +kernel))))) (w_or1 (t_not (t_lele e_int (e_len (by rfl) T.n_len (a_cons (e_var 0 (pv 0)) a_nil)) e_int))))) (ss_one (s_ret e_bl)) ss_nil)
    (ss_cons (s_for PassesOwn.never rfl (i_items (e_var 0 (pv 0))) (g_name (pg_name (i := 2) sc__law_is_chain.nd rfl (.inl rfl))) (ss_cons (s_if (PW.pt (w_or (t_not (t_val (e_isi kit_tuple (by rfl) T.n_isinstance (e_var 2 (pv 2)) (c_ty (by rfl) T.n_tuple (by decide +kernel))))) (w_or (t_ne hr.units (e_len (by rfl) T.n_len (a_cons (e_var 2 (pv 2)) a_nil)) e_int) (w_or (t_not (t_val (e_call (ok__law_is_int T) (hr.mono (by decide)) hgd (by rfl) T.g__law_is_int T.F__law_is_int.kp T.b__law_is_int pass0 (a_cons (e_ix (e_var 2 (pv 2)) e_int) (a_cons e_int a_nil))))) (w_or1 (t_gt (e_ix (e_var 2 (pv 2)) e_int) e_int)))))) (ss_one (s_ret e_bl)) ss_nil)
    (ss_one (s_if (PW.pt (w_or (t_not (t_val (e_isi kit_str (by rfl) T.n_isinstance (e_ix (e_var 2 (pv 2)) e_int) (c_ty (by rfl) T.n_str (by decide +kernel))))) (w_or1 (t_notin (e_ix (e_var 2 (pv 2)) e_int) (e_var 1 (pv 1)))))) (ss_one (s_ret e_bl)) ss_nil))))
    (ss_one (s_ret e_bl)))))
theorem ok__law_is_chain (T : Tx w K mg) : Fn P w K mg base CX0 2 T.f__law_is_chain T.fd__law_is_chain ["_law_value"] (lift K 1 fs__law_is_chain) := fn_data T.F__law_is_chain sc__law_is_chain b__law_is_chain (fun _ _ _ _ _ _ hr hgd => d__law_is_chain T hr hgd) p__law_is_chain
end
def b__law_odd : DS :=
  (dSeq (dAsg (dFz (dLst (dCons (dC .none) (dCons (dC (.bool true)) (dCons (dC (.bool false)) (dCons (dC (.int 0)) (dCons (dNeg (dC (.int 1))) (dCons (dC (.int 1)) (dCons (dC (.int 7)) (dCons (dC (.int 101)) (dCons (dBin oPow (dC (.int 10)) (dC (.int 30))) (dCons (dC (.str "")) (dCons (dC (.str "a")) (dCons (dC (.str "up")) (dCons (dC (.str "4 up")) (dCons (dTup dNil) (dCons (dFz (dLst dNil)) (dCons dD0 (dCons (dTup (dCons (dC (.int 1)) dNil)) (dCons (dTup (dCons (dC (.int 1)) (dCons (dC (.int 1)) dNil))) (dCons (dFz (dLst (dCons (dC (.int 1)) (dCons (dC (.int 2)) dNil)))) dNil))))))))))))))))))))) (dN 1))
  (dSeq (dAsg (dCall 2 fs__law_pick (dCons (dVar 0) (dCons (dBin fAdd (dVar 1) (dFz (dLst (dCons (dTup (dCons (dC (.int 2)) (dCons (dC (.int 4)) dNil))) (dCons (dTup (dCons (dC (.int 0)) (dCons (dC (.int 1)) dNil))) (dCons (dTup (dCons (dC (.int 1)) (dCons (dC (.int 0)) dNil))) (dCons (dTup (dCons (dNeg (dC (.int 1))) (dCons (dC (.int 2)) dNil))) (dCons (dTup (dCons (dC (.bool true)) (dCons (dC (.int 2)) dNil))) (dCons (dTup (dCons (dC (.int 4)) (dCons (dC (.str "up")) dNil))) (dCons (dTup (dCons (dTup (dCons (dC (.int 4)) (dCons (dC (.str "up")) dNil))) dNil)) (dCons (dTup (dCons (dC (.int 3)) (dCons (dC (.int 5)) (dCons (dC (.int 7)) dNil)))) dNil))))))))))) dNil))) (dN 2))
  (dSeq (dFor (dRange1 (dCall 2 fs__law_pick (dCons (dVar 0) (dCons (dFz (dLst (dCons (dC (.int 0)) (dCons (dC (.int 0)) (dCons (dC (.int 0)) (dCons (dC (.int 1)) (dCons (dC (.int 2)) (dCons (dC (.int 5)) dNil)))))))) dNil)))) (dN 3)
    (dAsg (dCall 2 fs__law_pick (dCons (dVar 0) (dCons (dFz (dLst (dCons (dTup (dCons (dVar 2) dNil)) (dCons (dFz (dLst (dCons (dVar 2) dNil))) (dCons (dD1 "a" 2) (dCons (dTup (dCons (dVar 2) (dCons (dC (.int 1)) dNil))) (dCons (dTup (dCons (dC (.int 1)) (dCons (dVar 2) dNil))) dNil))))))) dNil))) (dN 2)))
  (dRet (dVar 2)))))
/-- a text that the law may read -/
def bnB : Da → Bool
  | .str x => decide (x.length ≤ 20000) && (sg x).all (fun c => decide (c < 128)) && decide ((sg x).countP isDg ≤ 390)
  | _ => true
/-- a value of any kind, k deep at most -/
structure OddX (k : Nat) (d : Da) : Prop where
  lay : layX d = true
  sh : d.showable = true
  dp : d.depth ≤ 3 + k
  sz : szX d ≤ 10000 + 2000 * k
  bn : bnB d = true
theorem OddX.X {k : Nat} {d : Da} (h : OddX k d) (hk : k ≤ 40) : ShX d := ⟨h.lay, h.sh, by have := h.dp; omega, by have := h.sz; omega⟩
theorem OddX.mono {k j : Nat} {d : Da} (h : OddX k d) (hk : k ≤ j) : OddX j d := ⟨h.lay, h.sh, by have := h.dp; omega, by have := h.sz; omega, h.bn⟩
theorem OddX.base {d : Da} (h1 : layX d = true) (h2 : d.showable = true) (h3 : d.depth ≤ 3) (h4 : szX d ≤ 10000) (h5 : bnB d = true) : OddX 0 d := ⟨h1, h2, h3, h4, h5⟩
theorem OddX.wrap {k : Nat} {d v : Da} (h : OddX k d) (hv : v ∈ ([.tuple [d], .list [d], .dict [(.str "a", d)], .tuple [d, .int 1], .tuple [.int 1, d]] : List Da)) : OddX (k + 1) v := by
  obtain ⟨h1, h2, h3, h4, h5⟩ := h
  have a : PyData.strOk (Str.ofString "a") = true := by decide +kernel
  have b : PyData.showable (.str (Str.ofString "a")) = true := by decide +kernel
  have c : (Str.ofString "a").length = 1 := by decide +kernel
  have e : PyData.showable (.int 1) = true := by decide +kernel
  simp only [List.mem_cons, List.not_mem_nil, or_false] at hv
  rcases hv with rfl | rfl | rfl | rfl | rfl
  all_goals
    refine ⟨?_, ?_, ?_, ?_, ?_⟩
    · simp [layX, layXs, layKv, h1, a]
    · simp [PyData.showable, PyData.showableAll, PyData.showableKv, h2] <;> first | exact b | exact e | decide +kernel | skip
    · simp [PyData.depth, PyData.depthAll, PyData.depthKv]; omega
    · simp [szX, szXs, szKv, c]; omega
    · cases d <;> first | rfl | (simp only [bnB, Bool.and_eq_true, decide_eq_true_eq] at h5 ⊢; first | exact ⟨h5, by decide⟩ | exact ⟨by decide, h5⟩)
theorem pw1030 : CPowX 10 30 := ⟨by decide, by decide +kernel⟩
theorem odd_base : ∀ d ∈ ([.none, .bool true, .bool false, .int 0, .int (-1), .int 1, .int 7, .int 101, .int (10 ^ Int.toNat 30), .str (Str.ofString ""), .str (Str.ofString "a"), .str (Str.ofString "up"), .str (Str.ofString "4 up"), .tuple [], .list [], .dict [], .tuple [.int 1], .tuple [.int 1, .int 1], .list [.int 1, .int 2], .tuple [.int 2, .int 4], .tuple [.int 0, .int 1], .tuple [.int 1, .int 0], .tuple [.int (-1), .int 2], .tuple [.bool true, .int 2], .tuple [.int 4, .str (Str.ofString "up")], .tuple [.tuple [.int 4, .str (Str.ofString "up")]], .tuple [.int 3, .int 5, .int 7]] : List Da), OddX 0 d := by
  intro d hd
  have a : layX d = true ∧ PyData.showable d = true ∧ PyData.depth d ≤ 3 ∧ szX d ≤ 10000 ∧ bnB d = true := by
    simp only [List.mem_cons, List.not_mem_nil, or_false] at hd
    rcases hd with rfl | rfl | rfl | rfl | rfl | rfl | rfl | rfl | rfl | rfl | rfl | rfl | rfl | rfl | rfl | rfl | rfl | rfl | rfl | rfl | rfl | rfl | rfl | rfl | rfl | rfl | rfl
    all_goals exact ⟨by decide +kernel, by decide +kernel, by decide +kernel, by decide +kernel, by decide +kernel⟩
  exact ⟨a.1, a.2.1, a.2.2.1, a.2.2.2.1, a.2.2.2.2⟩
def fs__law_odd : FSp := fun rs fu post => ∃ m : Nat, rs = [.src] ∧ fu = some (m + 7) ∧ ∀ (d : Da) (m' : Nat), m ≤ m' → OddX 5 d → post (.val d) (some m')
theorem p__law_odd (rs : List Rv) (fu : Option Nat) (post : Rr → Option Nat → Prop) (hl : rs.length = 1) (h : fs__law_odd rs fu post) : b__law_odd ⟨fun g => post (.val .none) g.fu, fun r g => post r g.fu, fun _ => False, fun _ => False⟩ (ent N__law_odd rs fu) := by
  obtain ⟨m, rfl, rfl, h⟩ := h
  have ob := odd_base
  simp_arith [b__law_odd]
  refine ⟨pw1030, by decide, _, m + 6, rfl, rfl, by show 0 < 27; decide, by show 27 < 1000000; decide, fun d hd => ?_⟩
  have hd := ob d hd
  refine ⟨_, m + 5, rfl, rfl, by show 0 < 6; decide, by show 6 < 1000000; decide, fun v hv => ?_⟩
  obtain ⟨v, rfl, v0, v1⟩ : ∃ s : Int, v = .int s ∧ 0 ≤ s ∧ s ≤ 5 := by
    simp only [List.mem_cons, List.not_mem_nil, or_false] at hv
    rcases hv with rfl | rfl | rfl | rfl | rfl | rfl <;> exact ⟨_, rfl, by decide, by decide⟩
  clear ob
  simp_arith [Nat.zero_add]
  refine ⟨by omega, by omega, forD_ix (k := 0) (fun k g => ∃ (m' : Nat) (L : Option Sv) (d : Da) (t : Option Sv), m + 5 ≤ m' + k ∧ OddX k d ∧ g = ⟨[some .src, L, some (.val d), t], some m', false⟩) (fun k x hx g hg N hN => ?_) (fun g hg => ?_) ⟨m + 5, _, d, _, by omega, hd, rfl⟩⟩
  · obtain ⟨m', L, d, t, hm, ho, rfl⟩ := hg
    have hk : k < 5 := by
      have := (List.getElem?_eq_some_iff.mp hx).1
      rw [rangeD_len] at this
      omega
    obtain ⟨m1, rfl⟩ : ∃ m1, m' = m1 + 1 := ⟨m' - 1, by omega⟩
    have ho : OddX k d := by simpa using ho
    simp_arith [fs__law_pick]
    refine ⟨_, m1, rfl, rfl, by show 0 < 5; decide, by show 5 < 1000000; decide, fun v hv => ?_⟩
    exact hN _ ⟨m1, _, v, _, by omega, by simpa using ho.wrap hv, rfl⟩
  · obtain ⟨m', L, d, t, hm, ho, rfl⟩ := hg
    rw [rangeD_len] at hm ho
    simp_arith [Nat.zero_add]
    exact h d m' (by omega) (ho.mono (by omega))
section
variable {P : Program} {w : World} {K : Fg} {mg : Str → Option Value} {base : Heap}
theorem d__law_odd (T : Tx w K mg) {cdv : Value} {A : Around} {outer : List Env} {s : Shared} {H : Hp} {E : XK} (hr : Room 2 (A.deeper (envOfC "_law_odd" (defScope st__law_odd) s.heap.objs.size T.f__law_odd cdv))) (hgd : (A.deeper (envOfC "_law_odd" (defScope st__law_odd) s.heap.objs.size T.f__law_odd cdv)).guards = some []) :
    PSs (cxOf CX0 P w K mg base N__law_odd "_law_odd" (defScope st__law_odd) T.f__law_odd cdv A outer s H E).nox (defBody st__law_odd) (upS K W0 b__law_odd) :=
  (ss_cons (s_set (i := 1) sc__law_odd.nd rfl (.inl rfl) (e_fz (e_lstL (a_cons e_non (a_cons e_bl (a_cons e_bl (a_cons e_int (a_cons (e_neg e_int) (a_cons e_int (a_cons e_int (a_cons e_int (a_cons (e_pow e_int e_int) (a_cons e_str (a_cons e_str (a_cons e_str (a_cons e_str (a_cons (e_tup a_nil) (a_cons (e_fz (e_lstL a_nil)) (a_cons e_d0 (a_cons (e_tup (a_cons e_int a_nil)) (a_cons (e_tup (a_cons e_int (a_cons e_int a_nil))) (a_cons (e_fz (e_lstL (a_cons e_int (a_cons e_int a_nil)))) a_nil))))))))))))))))))))))
    (ss_cons (s_set (i := 2) sc__law_odd.nd rfl (.inl rfl) (e_call (ok__law_pick T) (hr.mono (by decide)) hgd (by rfl) T.g__law_pick T.F__law_pick.kp T.b__law_pick pass0 (a_cons (e_var 0 (pv 0)) (a_cons (e_add (e_var 1 (pv 1)) (e_fz (e_lstL (a_cons (e_tup (a_cons e_int (a_cons e_int a_nil))) (a_cons (e_tup (a_cons e_int (a_cons e_int a_nil))) (a_cons (e_tup (a_cons e_int (a_cons e_int a_nil))) (a_cons (e_tup (a_cons (e_neg e_int) (a_cons e_int a_nil))) (a_cons (e_tup (a_cons e_bl (a_cons e_int a_nil))) (a_cons (e_tup (a_cons e_int (a_cons e_str a_nil))) (a_cons (e_tup (a_cons (e_tup (a_cons e_int (a_cons e_str a_nil))) a_nil)) (a_cons (e_tup (a_cons e_int (a_cons e_int (a_cons e_int a_nil)))) a_nil))))))))))) a_nil))))
    (ss_cons (s_for PassesOwn.never rfl (i_range1 (by rfl) T.n_range (e_call (ok__law_pick T) (hr.mono (by decide)) hgd (by rfl) T.g__law_pick T.F__law_pick.kp T.b__law_pick pass0 (a_cons (e_var 0 (pv 0)) (a_cons (e_fz (e_lstL (a_cons e_int (a_cons e_int (a_cons e_int (a_cons e_int (a_cons e_int (a_cons e_int a_nil)))))))) a_nil)))) (g_name (pg_name (i := 3) sc__law_odd.nd rfl (.inl rfl))) (ss_one (s_set (i := 2) sc__law_odd.nd rfl (.inl rfl) (e_call (ok__law_pick T) (hr.mono (by decide)) hgd (by rfl) T.g__law_pick T.F__law_pick.kp T.b__law_pick pass0 (a_cons (e_var 0 (pv 0)) (a_cons (e_fz (e_lstL (a_cons (e_tup (a_cons (e_var 2 (pv 2)) a_nil)) (a_cons (e_fz (e_lstL (a_cons (e_var 2 (pv 2)) a_nil))) (a_cons (e_d1 2 pe_str (pv 2)) (a_cons (e_tup (a_cons (e_var 2 (pv 2)) (a_cons e_int a_nil))) (a_cons (e_tup (a_cons e_int (a_cons (e_var 2 (pv 2)) a_nil))) a_nil))))))) a_nil))))))
    (ss_one (s_ret (e_var 2 (pv 2)))))))
theorem ok__law_odd (T : Tx w K mg) : Fn P w K mg base CX0 3 T.f__law_odd T.fd__law_odd ["_law_source_here"] (lift K 1 fs__law_odd) := fn_data T.F__law_odd sc__law_odd b__law_odd (fun _ _ _ _ _ _ hr hgd => d__law_odd T hr hgd) p__law_odd
end
def b__law_count_in : DS :=
  (dSeq (dIfS (dOrT (dNotT (dTest (dChain oLt oLt (dC (.int 0)) (dCB cLen (dCons (dVar 0) dNil)) (dC (.int 400))))) (dNotT (dTest (dCB cAll (dCons (dFz (dLc [1] (dLetters (dVar 0)) (dN 1) dYes (dBin (fInC false) (dVar 1) (dC (.str "0123456789"))))) dNil)))))
    (dRet (dNeg (dC (.int 1))))
    dNext)
  (dRet (dIf (dOrT (dTest (dBin fEq (dVar 0) (dC (.str "0")))) (dTest (dBin fNe (dIxS (dVar 0) (dC (.int 0))) (dC (.str "0"))))) (dCB cIntS (dCons (dVar 0) dNil)) (dNeg (dC (.int 1))))))
theorem in_none {w : Str} (q : (sg w).isEmpty = true ∨ dgW w = false ∨ (1 < w.length ∧ (sg w).head? = some 48)) : intIn w = none := by
  unfold intIn
  rw [if_pos]
  rcases q with q | q | ⟨q1, q2⟩
  · simp [q]
  · simp [q]
  · simp [q1, q2]
theorem in_some {w : Str} (e0 : (sg w).isEmpty = false) (q : dgW w = true) (z : ¬(1 < w.length ∧ (sg w).head? = some 48)) : intIn w = some ((PySem.NumText.digitsVal (sg w) : Nat) : Int) := by
  unfold intIn
  rw [if_neg]
  simp only [e0, q, Bool.false_or, Bool.not_true, Bool.and_eq_true, decide_eq_true_eq]
  exact z
theorem one_shaped {c : Nat} (hc : c < 128) : SeqAt.shaped (.str ⟨#[c]⟩) = true := by
  have : PyData.strOk ⟨#[c]⟩ = true := by
    show (#[c] : Array Nat).all (fun c => decide (c < 0x110000)) = true
    simp
    omega
  simp [SeqAt.shaped, PyData.canLay0, PyData.depth, this]
theorem one_sign : ∀ {w : Str} {c : Nat}, w.length = 1 → (sg w).head? = some c → w = ⟨#[c]⟩
  | ⟨⟨[x]⟩⟩, c, _, h => by
    have h : some x = some c := h
    injection h with e
    rw [e]
  | ⟨⟨[]⟩⟩, _, l, _ => by cases l
  | ⟨⟨_ :: _ :: _⟩⟩, _, l, _ => by simp [Str.length] at l
def fs__law_count_in : FSp := fun rs fu post => ∃ w : Str, rs = [.val (.str w)] ∧ TX 390 w ∧ post (.val (.int (cntIn w))) fu
theorem p__law_count_in (rs : List Rv) (fu : Option Nat) (post : Rr → Option Nat → Prop) (hl : rs.length = 1) (h : fs__law_count_in rs fu post) : b__law_count_in ⟨fun g => post (.val .none) g.fu, fun r g => post r g.fu, fun _ => False, fun _ => False⟩ (ent N__law_count_in rs fu) := by
  obtain ⟨w, rfl, ht, h⟩ := h
  simp_arith [b__law_count_in]
  have no : intIn w = none → post (.val (.int (-1))) fu := fun q => by
    unfold cntIn at h
    rw [q] at h
    exact h
  refine ⟨ht.fits.1, ?_⟩
  have el := sg_len w
  cases e0 : (sg w).isEmpty with
  | true =>
    have : (sg w).length = 0 := by rw [List.isEmpty_iff] at e0; rw [e0]; rfl
    rw [show decide (0 < (w.length : Int)) = false from decide_eq_false (by omega)]
    exact no (in_none (.inl e0))
  | false =>
    have : 0 < (sg w).length := by
      rw [List.length_pos_iff]
      intro z
      rw [z] at e0
      cases e0
    rw [show decide (0 < (w.length : Int)) = true from decide_eq_true (by omega)]
    refine ⟨fun l => no ?_, fun l => lc_map dgF (fun x hx R hR => ?_) (by unfold lettersD; rw [List.length_map, List.length_nil, Nat.zero_add]; exact Nat.le_trans (Nat.le_of_eq (sg_len w)) ht.fits.2.2) ?_⟩
    · cases q : dgW w with
      | false => exact in_none (.inr (.inl q))
      | true =>
        have := ht.word q
        omega
    · unfold lettersD at hx
      obtain ⟨c, hc, rfl⟩ := List.mem_map.mp hx
      simp_arith [Nat.zero_add]
      exact ⟨c, rfl, hR _ rfl⟩
    · rw [List.nil_append, dg_letters]
      show (((sg w).map isDg).all id = false → _) ∧ (((sg w).map isDg).all id = true → _)
      rw [dg_all]
      refine ⟨fun q => no (in_none (.inr (.inl q))), fun q => ?_⟩
      have hw := ht.word q
      have fin : ¬(1 < w.length ∧ (sg w).head? = some 48) → match intText? w with
        | some n => w.length ≤ 640 ∧ post (Rr.val (PyData.int n)) fu
        | none => False := fun z => by
        rw [int_text q e0 (by omega)]
        refine ⟨by omega, ?_⟩
        unfold cntIn at h
        rw [in_some e0 q z] at h
        exact h
      obtain ⟨c, c1, c2⟩ := sg_first e0
      have hc : c < 128 := ht.asc c (List.mem_of_head? c2)
      refine ⟨ht.shaped, by decide +kernel, fun e => fin fun z => ?_, fun e => ⟨ht.fits.1, c, c1, one_shaped hc, by decide +kernel, fun e2 => fin fun z => ?_, fun e2 => ?_⟩⟩
      · have : w.length = 1 := by rw [e]; decide +kernel
        omega
      · refine e2 (str_zero.mpr ?_)
        have := z.2
        rw [c2] at this
        injection this
      · rw [str_zero] at e2
        by_cases l1 : 1 < w.length
        · exact no (in_none (.inr (.inr ⟨l1, by rw [c2, e2]⟩)))
        · refine absurd ?_ e
          have l2 : w.length = 1 := by omega
          rw [one_sign l2 c2]
          exact str_zero.mpr e2
section
variable {P : Program} {w : World} {K : Fg} {mg : Str → Option Value} {base : Heap}
theorem d__law_count_in (T : Tx w K mg) {cdv : Value} {A : Around} {outer : List Env} {s : Shared} {H : Hp} {E : XK} (hr : Room 0 (A.deeper (envOfC "_law_count_in" (defScope st__law_count_in) s.heap.objs.size T.f__law_count_in cdv))) (hgd : (A.deeper (envOfC "_law_count_in" (defScope st__law_count_in) s.heap.objs.size T.f__law_count_in cdv)).guards = some []) :
    PSs (cxOf CX0 P w K mg base N__law_count_in "_law_count_in" (defScope st__law_count_in) T.f__law_count_in cdv A outer s H E).nox (defBody st__law_count_in) (upS K W0 b__law_count_in) :=
  (ss_cons (s_if (PW.pt (w_or (t_not (t_ltlt e_int (e_len (by rfl) T.n_len (a_cons (e_var 0 (pv 0)) a_nil)) e_int)) (w_or1 (t_not (t_val (e_all rfl (by rfl) T.n_all (a_cons (e_fz (e_lc (own := [("_law_character", 1)]) rfl sc__law_count_in.nd (i_letters (e_var 0 (pv 0))) (blkOk_by (own := [("_law_character", 1)]) (N := N__law_count_in) (sc := defScope st__law_count_in) (by decide +kernel)) (fun _ _ _ _ _ => (gw_name rfl (pg_name (i := 1) sc__law_count_in.nd rfl (.inl rfl)) (by decide))) (fun _ _ _ _ _ => ts_yes) (fun _ _ _ _ _ => (e_inC (e_var 1 (pv 1)) e_str)))) a_nil))))))) (ss_one (s_ret (e_neg e_int))) ss_nil)
    (ss_one (s_ret (e_if (PW.pt (w_or (t_eq hr.units (e_var 0 (pv 0)) e_str) (w_or1 (t_ne hr.units (e_ixS (e_var 0 (pv 0)) e_int) e_str)))) (e_tointS (by rfl) T.n_int (a_cons (e_var 0 (pv 0)) a_nil)) (e_neg e_int)))))
theorem ok__law_count_in (T : Tx w K mg) : Fn P w K mg base CX0 1 T.f__law_count_in T.fd__law_count_in ["_law_word"] (lift K 1 fs__law_count_in) := fn_data T.F__law_count_in sc__law_count_in b__law_count_in (fun _ _ _ _ _ _ hr hgd => d__law_count_in T hr hgd) p__law_count_in
end
def b__law_number_in : DS :=
  (dSeq (dIfS (dNotT (dTest (dIsi "str" (dVar 0))))
    (dRet (dC .none))
    dNext)
  (dSeq (dSetL 1 (dLc [2] (dItems (dSplit (dVar 0) (dC (.str "/")))) (dN 2) dYes (dCall 1 fs__law_count_in (dCons (dVar 2) dNil))))
  (dSeq (dIfS (dTest (dBin fEq (dCB cLen (dCons (dVar 1) dNil)) (dC (.int 1))))
    (dAsg (dBin fAdd (dVar 1) (dFz (dLst (dCons (dC (.int 1)) dNil)))) (dN 1))
    (dIfS (dTest (dBin fEq (dIx (dVar 1) (dC (.int 1))) (dC (.int 1))))
    (dRet (dC .none))
    dNext))
  (dRet (dIf (dTest (dCall 1 fs__law_is_number (dCons (dCB cTuple (dCons (dVar 1) dNil)) dNil))) (dCB cTuple (dCons (dVar 1) dNil)) (dC .none))))))
def cnF : Da → Da
  | .str w => .int (cntIn w)
  | _ => .none
def cntD : Option Int → Da
  | none => .int (-1)
  | some n => .int n
theorem cn_eq (w : Str) : cnF (.str w) = cntD (intIn w) := by
  show PyData.int (cntIn w) = _
  unfold cntIn
  cases intIn w <;> rfl
theorem neg_num (x : Da) : isNum (.tuple [.int (-1), x]) = false := by simp [isNum, isInt]
theorem num_neg (x : Da) : isNum (.tuple [x, .int (-1)]) = false := by cases x <;> simp [isNum, isInt]
def fs__law_number_in : FSp := fun rs fu post => ∃ v, rs = [.val v] ∧ ((isTy "str" v = false ∧ post (.val .none) fu) ∨ ∃ t, v = .str t ∧ TX 390 t ∧ post (.val (numD (numIn t))) fu)
theorem p__law_number_in (rs : List Rv) (fu : Option Nat) (post : Rr → Option Nat → Prop) (hl : rs.length = 1) (h : fs__law_number_in rs fu post) : b__law_number_in ⟨fun g => post (.val .none) g.fu, fun r g => post r g.fu, fun _ => False, fun _ => False⟩ (ent N__law_number_in rs fu) := by
  obtain ⟨v, rfl, h⟩ := h
  simp_arith [b__law_number_in]
  refine ⟨fun e => ?_, fun e => ?_⟩
  · rcases h with ⟨_, h⟩ | ⟨t, rfl, _⟩
    · exact h
    · simp [isTy] at e
  · rcases h with ⟨hv, h⟩ | ⟨t, rfl, ht, h⟩
    · rw [hv] at e
      cases e
    · simp_arith [Nat.zero_add]
      have len : (Txt.split t "/").length ≤ 1000000 := by
        have := PyProof.Rows.split_le t "/"
        have := ht.len
        omega
      refine ⟨by decide +kernel, ht.fits.2.1, lc_map cnF (fun x hx R hR => ?_) (by rw [List.length_map, List.length_nil, Nat.zero_add]; exact len) ?_⟩
      · obtain ⟨w, hw, rfl⟩ := List.mem_map.mp hx
        simp_arith [fs__law_count_in]
        exact ⟨w, rfl, ht.part hw, hR _ rfl⟩
      · have e : [] ++ ((Txt.split t "/").map PyData.str).map cnF = ((Txt.split t "/").map intIn).map cntD := by
          rw [List.nil_append, List.map_map, List.map_map]
          exact List.map_congr_left fun w _ => cn_eq w
        rw [e]
        have hp : 1 ≤ ((Txt.split t "/").map intIn).length := by rw [List.length_map]; exact PyProof.Rows.split_pos t "/"
        unfold numIn at h
        have nn : ∀ q ∈ (Txt.split t "/").map intIn, ∀ n, q = some n → 0 ≤ n := fun q hq n e => by
          obtain ⟨w, _, rfl⟩ := List.mem_map.mp hq
          exact intIn_nn e
        have sz : ((Txt.split t "/").map intIn).length + 1 ≤ sizeLine := by
          rw [List.length_map, sizeLine_eq]
          omega
        generalize (Txt.split t "/").map intIn = P at h hp nn sz ⊢
        rw [List.length_map]
        match P, hp with
        | [a], _ =>
          simp_arith [fs__law_is_number, cntD]
          refine ⟨fun _ => ⟨by rw [sizeLine_eq]; decide, _, rfl, fun q => ?_, fun q => ?_⟩, fun z => absurd rfl z⟩
          · cases a with
            | none => rw [neg_num] at q; cases q
            | some a =>
              have : numP [some a] = some (a, 1) := if_pos q
              rw [this] at h
              exact h
          · cases a with
            | none => exact h
            | some a =>
              have : numP [some a] = none := if_neg (by rw [show isNum (num a 1) = false from q]; decide)
              rw [this] at h
              exact h
        | [none, some b], _ =>
          simp_arith [fs__law_is_number, cntD]
          refine ⟨fun z => absurd z (by decide), fun _ => ⟨fun _ => h, fun _ => ⟨_, rfl, fun q => (by rw [neg_num] at q; cases q), fun _ => h⟩⟩⟩
        | [some a, none], _ =>
          simp_arith [fs__law_is_number, cntD]
          refine ⟨fun z => absurd z (by decide), fun _ _ => ⟨_, rfl, fun q => (by rw [num_neg] at q; cases q), fun _ => h⟩⟩
        | [none, none], _ =>
          simp_arith [fs__law_is_number, cntD]
          refine ⟨fun z => absurd z (by decide), fun _ _ => ⟨_, rfl, fun q => (by rw [neg_num] at q; cases q), fun _ => h⟩⟩
        | [some a, some b], _ =>
          simp_arith [fs__law_is_number, cntD]
          have no : ¬(b ≠ 1 ∧ isNum (num a b) = true) → post (.val .none) fu := fun z => by
            have : numP [some a, some b] = none := if_neg z
            rw [this] at h
            exact h
          refine ⟨fun z => absurd z (by decide), fun _ => ⟨fun q => no fun z => z.1 q, fun q => ⟨_, rfl, fun q2 => ?_, fun q2 => no fun z => ?_⟩⟩⟩
          · have : numP [some a, some b] = some (a, b) := if_pos ⟨q, q2⟩
            rw [this] at h
            exact h
          · have z2 := z.2
            rw [show isNum (num a b) = false from q2] at z2
            cases z2
        | a :: b :: c :: P, _ =>
          have hn : numP (a :: b :: c :: P) = none := numP_none (.inr (by simp only [List.length_cons]; omega))
          rw [hn] at h
          have h : post (.val .none) fu := h
          have hb : SeqAt.shaped (cntD b) = true := by cases b <;> exact shaped_int _
          have hs : isNum (.tuple (cntD a :: cntD b :: cntD c :: P.map cntD)) = false := isNum_ne (by simp only [List.length_cons]; omega)
          simp_arith [fs__law_is_number]
          refine ⟨fun z => absurd z (by omega), fun _ => ⟨hb, fun _ => h, fun _ => ⟨_, rfl, fun q => (by rw [hs] at q; cases q), fun _ => h⟩⟩⟩
section
variable {P : Program} {w : World} {K : Fg} {mg : Str → Option Value} {base : Heap}
theorem d__law_number_in (T : Tx w K mg) {cdv : Value} {A : Around} {outer : List Env} {s : Shared} {H : Hp} {E : XK} (hr : Room 2 (A.deeper (envOfC "_law_number_in" (defScope st__law_number_in) s.heap.objs.size T.f__law_number_in cdv))) (hgd : (A.deeper (envOfC "_law_number_in" (defScope st__law_number_in) s.heap.objs.size T.f__law_number_in cdv)).guards = some []) :
    PSs (cxOf CX0 P w K mg base N__law_number_in "_law_number_in" (defScope st__law_number_in) T.f__law_number_in cdv A outer s H E).nox (defBody st__law_number_in) (upS K W0 b__law_number_in) :=
  (ss_cons (s_if (t_not (t_val (e_isi kit_str (by rfl) T.n_isinstance (e_var 0 (pv 0)) (c_ty (by rfl) T.n_str (by decide +kernel))))) (ss_one (s_ret e_non)) ss_nil)
    (ss_cons (s_setLc (i := 1) (own := [("_law_word", 2)]) rfl sc__law_number_in.nd rfl rfl (sw_true rfl rfl rfl (by decide +kernel)) (i_items (e_split (e_var 0 (pv 0)) e_str)) (blkOk_by (own := [("_law_word", 2)]) (N := N__law_number_in) (sc := defScope st__law_number_in) (by decide +kernel)) (fun _ _ _ _ _ => (gw_name rfl (pg_name (i := 2) sc__law_number_in.nd rfl (.inl rfl)) (by decide))) (fun _ _ _ _ _ => ts_yes) (fun _ _ _ _ _ => (e_call (ok__law_count_in T) (hr.mono (by decide)) hgd (by rfl) T.g__law_count_in T.F__law_count_in.kp T.b__law_count_in pass0 (a_cons (e_var 2 (pv 2)) a_nil))))
    (ss_cons (s_if (t_eq hr.units (e_len (by rfl) T.n_len (a_cons (e_var 1 (pv 1)) a_nil)) e_int) (ss_one (s_set (i := 1) sc__law_number_in.nd rfl (.inl rfl) (e_add (e_var 1 (pv 1)) (e_fz (e_lstL (a_cons e_int a_nil)))))) (ss_one (s_if (t_eq hr.units (e_ix (e_var 1 (pv 1)) e_int) e_int) (ss_one (s_ret e_non)) ss_nil)))
    (ss_one (s_ret (e_if (t_val (e_call (ok__law_is_number T) (hr.mono (by decide)) hgd (by rfl) T.g__law_is_number T.F__law_is_number.kp T.b__law_is_number pass0 (a_cons (e_tuple (by rfl) T.n_tuple (a_cons (e_var 1 (pv 1)) a_nil)) a_nil))) (e_tuple (by rfl) T.n_tuple (a_cons (e_var 1 (pv 1)) a_nil)) e_non))))))
theorem ok__law_number_in (T : Tx w K mg) : Fn P w K mg base CX0 3 T.f__law_number_in T.fd__law_number_in ["_law_line"] (lift K 1 fs__law_number_in) := fn_data T.F__law_number_in sc__law_number_in b__law_number_in (fun _ _ _ _ _ _ hr hgd => d__law_number_in T hr hgd) p__law_number_in
end
def b__law_chain_in : DS :=
  (dSeq (dIfS (dNotT (dTest (dIsi "str" (dVar 0))))
    (dRet (dC .none))
    dNext)
  (dSeq (dSetL 1 (dLst dNil))
  (dSeq (dFor (dItems (dSplit (dVar 0) (dC (.str ", ")))) (dN 2)
    (dSeq (dAsg (dSplit (dVar 2) (dC (.str " "))) (dN 3))
  (dApp 1 (dBin fAddT (dTup (dCons (dCall 1 fs__law_count_in (dCons (dIx (dVar 3) (dC (.int 0))) dNil)) dNil)) (dCB cTuple (dCons (dSl (dVar 3) (oSo (dC (.int 1))) oNo) dNil))))))
  (dRet (dIf (dTest (dCall 1 fs__law_is_chain (dCons (dCB cTuple (dCons (dVar 1) dNil)) dNil))) (dCB cTuple (dCons (dVar 1) dNil)) (dC .none))))))
/-- a step as the law reads it -/
def lwP : List Str → Da
  | [] => .none
  | w :: r => .tuple (.int (cntIn w) :: r.map PyData.str)
def lwS (p : Str) : Da := lwP (Txt.split p " ")
theorem wid_cnt (w : Str) : isWid (.int (cntIn w)) = isWid (optI (intIn w)) := by
  unfold cntIn
  cases intIn w <;> rfl
theorem stp_eq (ps : List Str) : isStp (lwP ps) = isStp (stpP ps) ∧ (isStp (stpP ps) = true → lwP ps = stpP ps) := by
  match ps with
  | [] => exact ⟨rfl, fun h => nomatch h⟩
  | [_] => exact ⟨rfl, fun h => nomatch h⟩
  | [w, r] =>
    refine ⟨?_, fun h => ?_⟩
    · show (isWid (.int (cntIn w)) && isRul (.str r)) = (isWid (optI (intIn w)) && isRul (.str r))
      rw [wid_cnt]
    · have h : (isWid (optI (intIn w)) && isRul (.str r)) = true := h
      rw [Bool.and_eq_true] at h
      show PyData.tuple [.int (cntIn w), .str r] = .tuple [optI (intIn w), .str r]
      unfold cntIn
      cases q : intIn w with
      | none => rw [q] at h; cases h.1
      | some n => rfl
  | _ :: _ :: _ :: _ => exact ⟨isStp_ne (by simp only [List.length_cons, List.length_map]; omega), fun h => nomatch h⟩
theorem chn_eq (t : Str) : isChn (.tuple ((Txt.split t ", ").map lwS)) = isChn (chnIn t) ∧ (isChn (chnIn t) = true → PyData.tuple ((Txt.split t ", ").map lwS) = chnIn t) := by
  have e : ((Txt.split t ", ").map lwS).all isStp = ((Txt.split t ", ").map stpIn).all isStp := by
    rw [List.all_map, List.all_map]
    exact congrArg (fun f => (Txt.split t ", ").all f) (funext fun p => (stp_eq _).1)
  refine ⟨?_, fun h => ?_⟩
  · show (decide (1 ≤ ((((Txt.split t ", ").map lwS).length : Nat) : Int)) && decide (((((Txt.split t ", ").map lwS).length : Nat) : Int) ≤ 12) && ((Txt.split t ", ").map lwS).all isStp) = (decide (1 ≤ ((((Txt.split t ", ").map stpIn).length : Nat) : Int)) && decide (((((Txt.split t ", ").map stpIn).length : Nat) : Int) ≤ 12) && ((Txt.split t ", ").map stpIn).all isStp)
    rw [e, List.length_map, List.length_map]
  · unfold chnIn isChn at h
    simp only [Bool.and_eq_true] at h
    have h2 := List.all_eq_true.mp h.2
    unfold chnIn
    congr 1
    exact List.map_congr_left fun p hp => (stp_eq _).2 (h2 _ (List.mem_map.mpr ⟨p, hp, rfl⟩))
def fs__law_chain_in : FSp := fun rs fu post => ∃ v, rs = [.val v] ∧ ((isTy "str" v = false ∧ post (.val .none) fu) ∨ ∃ t, v = .str t ∧ TX 390 t ∧ post (.val (chnD t)) fu)
theorem p__law_chain_in (rs : List Rv) (fu : Option Nat) (post : Rr → Option Nat → Prop) (hl : rs.length = 1) (h : fs__law_chain_in rs fu post) : b__law_chain_in ⟨fun g => post (.val .none) g.fu, fun r g => post r g.fu, fun _ => False, fun _ => False⟩ (ent N__law_chain_in rs fu) := by
  obtain ⟨v, rfl, h⟩ := h
  simp_arith [b__law_chain_in]
  refine ⟨fun e => ?_, fun e => ?_⟩
  · rcases h with ⟨_, h⟩ | ⟨t, rfl, _⟩
    · exact h
    · simp [isTy] at e
  · rcases h with ⟨hv, h⟩ | ⟨t, rfl, ht, h⟩
    · rw [hv] at e
      cases e
    · simp_arith [Nat.zero_add]
      refine ⟨by decide +kernel, ht.fits.2.1, ?_⟩
      refine forD_ix0 (fun k g => ∃ x2 x3, g = ⟨[some (.val (.str t)), some (.own (((Txt.split t ", ").take k).map lwS)), x2, x3], fu, fu.isNone⟩) (fun k x hx g hg N hN => ?_) (fun g hg => ?_) ⟨_, _, rfl⟩
      · obtain ⟨x2, x3, rfl⟩ := hg
        rw [List.getElem?_map] at hx
        cases q : (Txt.split t ", ")[k]? with
        | none => rw [q] at hx; cases hx
        | some p =>
          rw [q] at hx
          cases hx
          have hp : TX 390 p := ht.part (List.mem_of_getElem? q)
          have lenT : (Txt.split t ", ").length ≤ 100000 := by
            have := PyProof.Rows.split_le t ", "
            have := ht.len
            omega
          have lenP := PyProof.Rows.split_le p " "
          have pos := PyProof.Rows.split_pos p " "
          have hpl := hp.len
          have kl := (List.getElem?_eq_some_iff.mp q).1
          have tk : (((Txt.split t ", ").take (k + 1)).map lwS) = (((Txt.split t ", ").take k).map lwS) ++ [lwS p] := by
            rw [List.take_succ, q, List.map_append]
            rfl
          have hw : ∀ w ∈ Txt.split p " ", TX 390 w := fun w h => hp.part h
          simp_arith [Nat.zero_add]
          unfold lwS at tk
          generalize Txt.split p " " = P at lenP pos hw tk ⊢
          cases P with
          | nil => simp at pos
          | cons w r =>
            simp_arith [fs__law_count_in]
            rw [show (some (1 : Int)) = some ((1 : Nat) : Int) from rfl, cut_from (by simp)]
            have l1 : (((Txt.split t ", ").take k).map fun p => lwP (Txt.split p " ")).length < 1000000 := by
              rw [List.length_map, List.length_take]
              omega
            have hN2 := hN ⟨[some (.val (.str t)), some (.own (((Txt.split t ", ").take (k + 1)).map fun p => lwP (Txt.split p " "))), some (.val (.str p)), some (.val (.list ((w :: r).map PyData.str)))], fu, fu.isNone⟩ ⟨_, _, rfl⟩
            rw [tk] at hN2
            refine ⟨by decide +kernel, hp.fits.2.1, ⟨_, rfl⟩, w, rfl, hw w (List.mem_cons_self ..), ?_⟩
            refine ⟨?_, l1, hN2⟩
            rw [List.drop_succ_cons, List.drop_zero, List.length_map, sizeLine_eq]
            rw [List.length_cons] at lenP
            omega
      · obtain ⟨x2, x3, rfl⟩ := hg
        rw [List.take_of_length_le (by rw [List.length_map]; exact Nat.le_refl _)]
        simp_arith [fs__law_is_chain]
        obtain ⟨c1, c2⟩ := chn_eq t
        have lay : layX (.tuple ((Txt.split t ", ").map lwS)) = true := by
          have key : ∀ ps : List Str, (∀ p ∈ ps, TX 390 p) → layXs (ps.map lwS) = true := fun ps => by
            induction ps with
            | nil => exact fun _ => rfl
            | cons p ps ih =>
              intro hp
              have ih := ih fun q hq => hp q (List.mem_cons_of_mem _ hq)
              have hw : ∀ w ∈ Txt.split p " ", TX 390 w := fun w h => (hp p (List.mem_cons_self ..)).part h
              have one : layX (lwS p) = true := by
                unfold lwS
                generalize Txt.split p " " = P at hw
                cases P with
                | nil => rfl
                | cons w r =>
                  have layR : ∀ r : List Str, (∀ w ∈ r, TX 390 w) → layXs (r.map PyData.str) = true := fun r => by
                    induction r with
                    | nil => exact fun _ => rfl
                    | cons a r ihr =>
                      intro h
                      simp [layXs, layX, (h a (List.mem_cons_self ..)).ok, ihr fun q hq => h q (List.mem_cons_of_mem _ hq)]
                  simp [lwP, layX, layXs, layR r fun q hq => hw q (List.mem_cons_of_mem _ hq)]
              simp [layXs, one, ih]
          exact key _ fun p hp => ht.part hp
        refine ⟨_, rfl, lay, fun q => ?_, fun q => ?_⟩
        · rw [c1] at q
          have e1 : chnD t = chnIn t := if_pos q
          rw [e1] at h
          rw [c2 q]
          exact h
        · rw [c1] at q
          have e1 : chnD t = .none := if_neg (by rw [q]; decide)
          rw [e1] at h
          exact h
section
variable {P : Program} {w : World} {K : Fg} {mg : Str → Option Value} {base : Heap}
theorem d__law_chain_in (T : Tx w K mg) {cdv : Value} {A : Around} {outer : List Env} {s : Shared} {H : Hp} {E : XK} (hr : Room 2 (A.deeper (envOfC "_law_chain_in" (defScope st__law_chain_in) s.heap.objs.size T.f__law_chain_in cdv))) (hgd : (A.deeper (envOfC "_law_chain_in" (defScope st__law_chain_in) s.heap.objs.size T.f__law_chain_in cdv)).guards = some []) :
    PSs (cxOf CX0 P w K mg base N__law_chain_in "_law_chain_in" (defScope st__law_chain_in) T.f__law_chain_in cdv A outer s H E).nox (defBody st__law_chain_in) (upS K W0 b__law_chain_in) :=
  (ss_cons (s_if (t_not (t_val (e_isi kit_str (by rfl) T.n_isinstance (e_var 0 (pv 0)) (c_ty (by rfl) T.n_str (by decide +kernel))))) (ss_one (s_ret e_non)) ss_nil)
    (ss_cons (s_setL (i := 1) sc__law_chain_in.nd rfl (.inl rfl) (e_lstL a_nil))
    (ss_cons (s_for PassesOwn.never rfl (i_items (e_split (e_var 0 (pv 0)) e_str)) (g_name (pg_name (i := 2) sc__law_chain_in.nd rfl (.inl rfl))) (ss_cons (s_set (i := 3) sc__law_chain_in.nd rfl (.inl rfl) (e_split (e_var 2 (pv 2)) e_str))
    (ss_one (s_app (name := "x") (pv 1) (e_addT (e_tup (a_cons (e_call (ok__law_count_in T) (hr.mono (by decide)) hgd (by rfl) T.g__law_count_in T.F__law_count_in.kp T.b__law_count_in pass0 (a_cons (e_ix (e_var 3 (pv 3)) e_int) a_nil)) a_nil)) (e_tuple (by rfl) T.n_tuple (a_cons (e_sl (e_var 3 (pv 3)) (o_some e_int) o_none) a_nil))) (fun h => pe_bm PySem.F.plainAttrs_list PySem.F.slot_list_append PySem.F.type_list_append mt_append (pv 1) h)))))
    (ss_one (s_ret (e_if (t_val (e_call (ok__law_is_chain T) (hr.mono (by decide)) hgd (by rfl) T.g__law_is_chain T.F__law_is_chain.kp T.b__law_is_chain pass0 (a_cons (e_tuple (by rfl) T.n_tuple (a_cons (e_var 1 (pv 1)) a_nil)) a_nil))) (e_tuple (by rfl) T.n_tuple (a_cons (e_var 1 (pv 1)) a_nil)) e_non))))))
theorem ok__law_chain_in (T : Tx w K mg) : Fn P w K mg base CX0 3 T.f__law_chain_in T.fd__law_chain_in ["_law_line"] (lift K 1 fs__law_chain_in) := fn_data T.F__law_chain_in sc__law_chain_in b__law_chain_in (fun _ _ _ _ _ _ hr hgd => d__law_chain_in T hr hgd) p__law_chain_in
end
def b__law_changed : DS :=
  (dSeq (dPar 2 3 (dCall 2 fs__law_draw (dCons (dVar 0) (dCons (dBin fAdd (dCB cLen (dCons (dVar 1) dNil)) (dC (.int 1))) dNil))) (dCall 2 fs__law_draw (dCons (dVar 0) (dCons (dC (.int 6)) dNil))))
  (dSeq (dIfS (dTest (dBin fEq (dVar 3) (dC (.int 0))))
    (dRet (dBin fAdd (dSlS (dVar 1) oNo (oSo (dVar 2))) (dSlS (dVar 1) (oSo (dBin fAdd (dVar 2) (dC (.int 1)))) oNo)))
    dNext)
  (dSeq (dIfS (dTest (dBin fEq (dVar 3) (dC (.int 1))))
    (dRet (dBin fAdd (dBin fAdd (dSlS (dVar 1) oNo (oSo (dVar 2))) (dCall 2 fs__law_pick (dCons (dVar 0) (dCons (dBin fAdd (dCB cListS (dCons (dC (.str "0123/ -+,.ud")) dNil)) (dFz (dLst (dCons (dC (.str "\n")) (dCons (dC (.str "_")) (dCons (dC (.str "e3")) (dCons (dC (.str ", ")) (dCons (dC (.str "1/")) (dCons (dC (.str "00")) dNil))))))))) dNil)))) (dSlS (dVar 1) (oSo (dVar 2)) oNo)))
    dNext)
  (dSeq (dIfS (dTest (dBin fEq (dVar 3) (dC (.int 2))))
    (dRet (dBin fAdd (dBin fAdd (dSlS (dVar 1) oNo (oSo (dVar 2))) (dSlS (dVar 1) (oSo (dVar 2)) (oSo (dBin fAdd (dVar 2) (dC (.int 1)))))) (dSlS (dVar 1) (oSo (dVar 2)) oNo)))
    dNext)
  (dSeq (dIfS (dTest (dBin fEq (dVar 3) (dC (.int 3))))
    (dRet (dBin fAdd (dBin fAdd (dSlS (dVar 1) oNo (oSo (dVar 2))) (dRevS (dSlS (dVar 1) (oSo (dVar 2)) (oSo (dBin fAdd (dVar 2) (dC (.int 2))))))) (dSlS (dVar 1) (oSo (dBin fAdd (dVar 2) (dC (.int 2)))) oNo)))
    dNext)
  (dRet (dCall 2 fs__law_pick (dCons (dVar 0) (dCons (dFz (dLst (dCons (dBin fAdd (dC (.str "0")) (dVar 1)) (dCons (dBin fAdd (dVar 1) (dC (.str "/1"))) (dCons (dBin fAdd (dC (.str " ")) (dVar 1)) (dCons (dBin fAdd (dVar 1) (dC (.str ", "))) (dCons (dBin fAdd (dBin fAdd (dVar 1) (dC (.str ", "))) (dVar 1)) (dCons (dUpper (dVar 1)) (dCons (dC (.str "")) dNil))))))))) dNil)))))))))
theorem sg_app (x y : Str) : sg (x ++ y) = sg x ++ sg y := TL.tl_append x y
theorem _root_.Z.TX.app {a b : Nat} {x y : Str} (hx : TX a x) (hy : TX b y) (hl : x.length + y.length ≤ 20000) : TX (a + b) (x ++ y) :=
  ⟨by rw [Str.length_append]; exact hl, fun c hc => by
    rw [sg_app, List.mem_append] at hc
    exact hc.elim (hx.asc c) (hy.asc c), by
    rw [sg_app, List.countP_append]
    have := hx.dg
    have := hy.dg
    omega⟩
theorem cut_sub (z : Str) (a b : Option Int) : (sg (cutS z a b)).Sublist (sg z) := by
  show (((z.cps.toList.drop _).take _).toArray.toList).Sublist z.cps.toList
  rw [List.toList_toArray]
  exact (List.take_sublist _ _).trans (List.drop_sublist _ _)
theorem _root_.Z.TX.cut {n : Nat} {z : Str} (h : TX n z) (a b : Option Int) : TX n (cutS z a b) := h.sub (cut_sub z a b)
theorem cut_len (z : Str) (a b : Option Int) : (cutS z a b).length ≤ z.length := cutS_length z a b
/-- a short slice -/
theorem cut_short (z : Str) {i j : Int} {k : Nat} (h0 : 0 ≤ i) (h : j = i + k) : (cutS z (some i) (some j)).length ≤ k := by
  show ((((z.cps.toList.drop (HT.sIx z.length 0 (some i))).take (HT.sIx z.length z.length (some j) - HT.sIx z.length 0 (some i))).toArray).size) ≤ k
  rw [List.size_toArray, List.length_take]
  obtain ⟨a, rfl⟩ : ∃ a : Nat, i = a := ⟨i.toNat, by omega⟩
  rw [h, show ((a : Int) + k) = ((a + k : Nat) : Int) by omega, HT.sIx_nat, HT.sIx_nat]
  omega
theorem rev_len (z : Str) : (revS z).length = z.length := by
  show (z.cps.toList.reverse.toArray).size = z.cps.size
  rw [List.size_toArray, List.length_reverse, Array.length_toList]
theorem _root_.Z.TX.rev {n : Nat} {z : Str} (h : TX n z) : TX n (revS z) := by
  have e : sg (revS z) = (sg z).reverse := List.toList_toArray
  refine ⟨by rw [rev_len]; exact h.len, fun c hc => h.asc c (by rw [e] at hc; exact List.mem_reverse.mp hc), ?_⟩
  rw [e, List.countP_reverse]
  exact h.dg
theorem _root_.Z.TX.lit {x : Str} {n : Nat} (h : (decide (x.length ≤ 20000) && (sg x).all (fun c => decide (c < 128)) && decide ((sg x).countP isDg ≤ n)) = true) : TX n x := by
  simp only [Bool.and_eq_true, decide_eq_true_eq, List.all_eq_true] at h
  exact ⟨h.1.1, h.1.2, h.2⟩
/-- a text of the law with its length told -/
structure TL2 (l n : Nat) (t : Str) : Prop where
  tx : TX n t
  len : t.length ≤ l
theorem TL2.mono {l n l' n' : Nat} {t : Str} (h : TL2 l n t) (h1 : l ≤ l') (h2 : n ≤ n') : TL2 l' n' t := ⟨h.tx.mono h2, Nat.le_trans h.len h1⟩
theorem TL2.app {l n l' n' : Nat} {x y : Str} (h : TL2 l n x) (h' : TL2 l' n' y) (hl : l + l' ≤ 20000) : TL2 (l + l') (n + n') (x ++ y) :=
  ⟨h.tx.app h'.tx (by have := h.len; have := h'.len; omega), by rw [Str.length_append]; have := h.len; have := h'.len; omega⟩
theorem TL2.short {n k : Nat} {t : Str} (h : TX n t) (hl : t.length ≤ k) : TL2 k k t :=
  ⟨⟨h.len, h.asc, Nat.le_trans List.countP_le_length (by rw [sg_len]; exact hl)⟩, hl⟩
theorem up_list : ∀ cs : List Nat, (∀ c ∈ cs, c < 128) → ∀ z : Str, sg z = cs → sg (Txt.upper z) = cs.map fun c => if 97 ≤ c ∧ c ≤ 122 then c - 32 else c
  | [], _, z, e => by
    have : z = Str.empty := by
      obtain ⟨⟨l⟩⟩ := z
      cases (show l = [] from e)
      rfl
    rw [this]
    decide +kernel
  | c :: cs, h, z, e => by
    have hz : z = (⟨#[c]⟩ : Str) ++ ⟨cs.toArray⟩ := TL.ext_tl (by
      show sg z = sg ((⟨#[c]⟩ : Str) ++ ⟨cs.toArray⟩)
      rw [sg_app, e]
      rfl)
    have hc := h c (List.mem_cons_self ..)
    have ih := up_list cs (fun d hd => h d (List.mem_cons_of_mem _ hd)) ⟨cs.toArray⟩ rfl
    rw [hz, PySem.W.KOpn.upper_app, PySem.W.KOpn.upper_one hc, sg_app, ih]
    rfl
theorem TL2.up {l n : Nat} {t : Str} (h : TL2 l n t) : TL2 l n (Txt.upper t) := by
  have e := up_list (sg t) h.tx.asc t rfl
  have len : (Txt.upper t).length = t.length := by rw [← sg_len, e, List.length_map, sg_len]
  refine ⟨⟨by rw [len]; exact h.tx.len, fun c hc => ?_, ?_⟩, by rw [len]; exact h.len⟩
  · rw [e] at hc
    obtain ⟨d, hd, rfl⟩ := List.mem_map.mp hc
    have := h.tx.asc d hd
    split <;> omega
  · rw [e, List.countP_map]
    refine Nat.le_trans (List.countP_mono_left fun c _ hc => ?_) h.tx.dg
    simp only [Function.comp, isDg, Bool.and_eq_true, decide_eq_true_eq] at hc ⊢
    split at hc <;> omega
theorem pick_tx (v : Da) (h : v ∈ lettersD (Str.ofString "0123/ -+,.ud") ++ [PyData.str (Str.ofString "\n"), PyData.str (Str.ofString "_"), PyData.str (Str.ofString "e3"), PyData.str (Str.ofString ", "), PyData.str (Str.ofString "1/"), PyData.str (Str.ofString "00")]) : ∃ y, v = .str y ∧ TL2 2 2 y := by
  rcases List.mem_append.mp h with h | h
  · unfold lettersD at h
    obtain ⟨c, hc, rfl⟩ := List.mem_map.mp h
    have all : (sg (Str.ofString "0123/ -+,.ud")).all (fun c => decide (c < 128)) = true := by decide +kernel
    have c128 : c < 128 := of_decide_eq_true (List.all_eq_true.mp all c hc)
    refine ⟨_, rfl, ⟨Nat.le_of_lt (show 1 < 20000 by decide), fun d hd => ?_, ?_⟩, (show 1 ≤ 2 by decide)⟩
    · rw [List.mem_singleton.mp (show d ∈ [c] from hd)]
      exact c128
    · exact Nat.le_trans List.countP_le_length (show 1 ≤ 2 by decide)
  · simp only [List.mem_cons, List.not_mem_nil, or_false] at h
    rcases h with rfl | rfl | rfl | rfl | rfl | rfl <;> exact ⟨_, rfl, TX.lit (by decide +kernel), by decide +kernel⟩
def fs__law_changed : FSp := fun rs fu post => ∃ (t : Str) (l n m : Nat), rs = [.src, .val (.str t)] ∧ fu = some (m + 3) ∧ TL2 l n t ∧ l ≤ 2000 ∧ ∀ (t' : Str) (m' : Nat), m ≤ m' → TL2 (2 * l + 2) (2 * n + 2) t' → post (.val (.str t')) (some m')
theorem p__law_changed (rs : List Rv) (fu : Option Nat) (post : Rr → Option Nat → Prop) (hl : rs.length = 2) (h : fs__law_changed rs fu post) : b__law_changed ⟨fun g => post (.val .none) g.fu, fun r g => post r g.fu, fun _ => False, fun _ => False⟩ (ent N__law_changed rs fu) := by
  obtain ⟨t, l, n, m, rfl, rfl, ht, hl, h⟩ := h
  simp_arith [b__law_changed, fs__law_draw, fs__law_pick, cListS]
  have c : ∀ a b : Option Int, TL2 l n (cutS t a b) := fun a b => ⟨ht.tx.cut a b, Nat.le_trans (cut_len t a b) ht.len⟩
  have fz := ht.tx.fits.1
  have sl : 100000 ≤ sizeLine := by rw [sizeLine_eq]; decide
  have tl := ht.len
  refine ⟨fz, _, m + 2, rfl, rfl, by omega, Bn.small (by omega) (by omega) (by decide), fun i i0 i1 => ⟨6, m + 1, rfl, rfl, by decide, Bn.small (by decide) (by decide) (by decide), fun j j0 j1 => ?_⟩⟩
  refine ⟨fun _ => ⟨fz, fz, by have := (c none (some i)).len; have := (c (some (i + 1)) none).len; omega, h _ _ (by omega) (((c _ _).app (c _ _) (by omega)).mono (by omega) (by omega))⟩, fun _ => ⟨fun _ => ?_, fun _ => ⟨fun _ => ?_, fun _ => ⟨fun _ => ?_, fun _ => ?_⟩⟩⟩⟩
  · refine ⟨fz, by decide +kernel, ?_, _, m, rfl, rfl, ?_, ?_, fun v hv => ?_⟩
    · have : (lettersD (Str.ofString "0123/ -+,.ud")).length = 12 := by decide +kernel
      omega
    · rw [List.length_append]
      exact Nat.lt_of_lt_of_le (by decide) (Nat.le_add_left _ _)
    · have : (lettersD (Str.ofString "0123/ -+,.ud")).length = 12 := by decide +kernel
      rw [List.length_append, this]
      decide
    · obtain ⟨y, rfl, hy⟩ := pick_tx v hv
      have c1 := (c none (some i)).len
      have c2 := (c (some i) none).len
      have c3 := hy.len
      refine ⟨by omega, fz, by rw [Str.length_append]; omega, h _ _ (by omega) ?_⟩
      exact (((c none (some i)).app hy (by omega)).app (c (some i) none) (by omega)).mono (by omega) (by omega)
  · have c1 := (c none (some i)).len
    have c2 := (c (some i) none).len
    have c3 := (c (some i) (some (i + 1))).len
    have s1 : TL2 1 1 (cutS t (some i) (some (i + 1))) := TL2.short (c _ _).tx (cut_short t i0 rfl)
    refine ⟨fz, fz, by omega, fz, by rw [Str.length_append]; omega, h _ _ (by omega) ?_⟩
    exact (((c none (some i)).app s1 (by omega)).app (c (some i) none) (by omega)).mono (by omega) (by omega)
  · have r : TL2 2 2 (revS (cutS t (some i) (some (i + 2)))) := TL2.short (c _ _).tx.rev (by rw [rev_len]; exact cut_short t i0 rfl)
    have c1 := (c none (some i)).len
    have c2 := (c (some (i + 2)) none).len
    have c3 := r.len
    have c4 := (c (some i) (some (i + 2))).len
    refine ⟨fz, fz, by omega, by omega, fz, by rw [Str.length_append]; omega, h _ _ (by omega) ?_⟩
    exact (((c none (some i)).app r (by omega)).app (c (some (i + 2)) none) (by omega)).mono (by omega) (by omega)
  · have e1 : (Str.ofString "0").length = 1 := by decide +kernel
    have e2 : (Str.ofString "/1").length = 2 := by decide +kernel
    have e3 : (Str.ofString " ").length = 1 := by decide +kernel
    have e4 : (Str.ofString ", ").length = 2 := by decide +kernel
    have x1 : TL2 2 2 "0" := ⟨TX.lit (by decide +kernel), by decide +kernel⟩
    have x2 : TL2 2 2 "/1" := ⟨TX.lit (by decide +kernel), by decide +kernel⟩
    have x3 : TL2 2 2 " " := ⟨TX.lit (by decide +kernel), by decide +kernel⟩
    have x4 : TL2 2 2 ", " := ⟨TX.lit (by decide +kernel), by decide +kernel⟩
    have x5 : TL2 2 2 "" := ⟨TX.lit (by decide +kernel), by decide +kernel⟩
    refine ⟨by omega, by omega, by omega, by omega, by omega, by rw [Str.length_append]; omega, by omega, _, m, rfl, rfl, (show 0 < 7 by decide), (show 7 < 1000000 by decide), fun v hv => ?_⟩
    have fin : ∀ y : Str, TL2 (2 * l + 2) (2 * n + 2) y → post (.val (.str y)) (some m) := fun y hy => h _ _ (by omega) hy
    simp only [List.mem_cons, List.not_mem_nil, or_false] at hv
    rcases hv with rfl | rfl | rfl | rfl | rfl | rfl | rfl
    · exact fin _ ((x1.app ht (by omega)).mono (by omega) (by omega))
    · exact fin _ ((ht.app x2 (by omega)).mono (by omega) (by omega))
    · exact fin _ ((x3.app ht (by omega)).mono (by omega) (by omega))
    · exact fin _ ((ht.app x4 (by omega)).mono (by omega) (by omega))
    · exact fin _ (((ht.app x4 (by omega)).app ht (by omega)).mono (by omega) (by omega))
    · exact fin _ (ht.up.mono (by omega) (by omega))
    · exact fin _ (x5.mono (by omega) (by omega))
section
variable {P : Program} {w : World} {K : Fg} {mg : Str → Option Value} {base : Heap}
theorem d__law_changed (T : Tx w K mg) {cdv : Value} {A : Around} {outer : List Env} {s : Shared} {H : Hp} {E : XK} (hr : Room 2 (A.deeper (envOfC "_law_changed" (defScope st__law_changed) s.heap.objs.size T.f__law_changed cdv))) (hgd : (A.deeper (envOfC "_law_changed" (defScope st__law_changed) s.heap.objs.size T.f__law_changed cdv)).guards = some []) :
    PSs (cxOf CX0 P w K mg base N__law_changed "_law_changed" (defScope st__law_changed) T.f__law_changed cdv A outer s H E).nox (defBody st__law_changed) (upS K W0 b__law_changed) :=
  (ss_cons (s_par (i := 2) (j := 3) rfl sc__law_changed.nd rfl rfl (by decide) rfl rfl (e_call (ok__law_draw T) (hr.mono (by decide)) hgd (by rfl) T.g__law_draw T.F__law_draw.kp T.b__law_draw pass0 (a_cons (e_var 0 (pv 0)) (a_cons (e_add (e_len (by rfl) T.n_len (a_cons (e_var 1 (pv 1)) a_nil)) e_int) a_nil))) (e_call (ok__law_draw T) (hr.mono (by decide)) hgd (by rfl) T.g__law_draw T.F__law_draw.kp T.b__law_draw pass0 (a_cons (e_var 0 (pv 0)) (a_cons e_int a_nil))))
    (ss_cons (s_if (t_eq hr.units (e_var 3 (pv 3)) e_int) (ss_one (s_ret (e_add (e_slS (e_var 1 (pv 1)) o_none (o_some (e_var 2 (pv 2)))) (e_slS (e_var 1 (pv 1)) (o_some (e_add (e_var 2 (pv 2)) e_int)) o_none)))) ss_nil)
    (ss_cons (s_if (t_eq hr.units (e_var 3 (pv 3)) e_int) (ss_one (s_ret (e_add (e_add (e_slS (e_var 1 (pv 1)) o_none (o_some (e_var 2 (pv 2)))) (e_call (ok__law_pick T) (hr.mono (by decide)) hgd (by rfl) T.g__law_pick T.F__law_pick.kp T.b__law_pick pass0 (a_cons (e_var 0 (pv 0)) (a_cons (e_add (e_listS rfl (by rfl) T.n_list (a_cons e_str a_nil)) (e_fz (e_lstL (a_cons e_str (a_cons e_str (a_cons e_str (a_cons e_str (a_cons e_str (a_cons e_str a_nil))))))))) a_nil)))) (e_slS (e_var 1 (pv 1)) (o_some (e_var 2 (pv 2))) o_none)))) ss_nil)
    (ss_cons (s_if (t_eq hr.units (e_var 3 (pv 3)) e_int) (ss_one (s_ret (e_add (e_add (e_slS (e_var 1 (pv 1)) o_none (o_some (e_var 2 (pv 2)))) (e_slS (e_var 1 (pv 1)) (o_some (e_var 2 (pv 2))) (o_some (e_add (e_var 2 (pv 2)) e_int)))) (e_slS (e_var 1 (pv 1)) (o_some (e_var 2 (pv 2))) o_none)))) ss_nil)
    (ss_cons (s_if (t_eq hr.units (e_var 3 (pv 3)) e_int) (ss_one (s_ret (e_add (e_add (e_slS (e_var 1 (pv 1)) o_none (o_some (e_var 2 (pv 2)))) (e_revS (e_slS (e_var 1 (pv 1)) (o_some (e_var 2 (pv 2))) (o_some (e_add (e_var 2 (pv 2)) e_int))))) (e_slS (e_var 1 (pv 1)) (o_some (e_add (e_var 2 (pv 2)) e_int)) o_none)))) ss_nil)
    (ss_one (s_ret (e_call (ok__law_pick T) (hr.mono (by decide)) hgd (by rfl) T.g__law_pick T.F__law_pick.kp T.b__law_pick pass0 (a_cons (e_var 0 (pv 0)) (a_cons (e_fz (e_lstL (a_cons (e_add e_str (e_var 1 (pv 1))) (a_cons (e_add (e_var 1 (pv 1)) e_str) (a_cons (e_add e_str (e_var 1 (pv 1))) (a_cons (e_add (e_var 1 (pv 1)) e_str) (a_cons (e_add (e_add (e_var 1 (pv 1)) e_str) (e_var 1 (pv 1))) (a_cons (e_upper (e_var 1 (pv 1))) (a_cons e_str a_nil))))))))) a_nil))))))))))
theorem ok__law_changed (T : Tx w K mg) : Fn P w K mg base CX0 3 T.f__law_changed T.fd__law_changed ["_law_source_here", "_law_line"] (lift K 2 fs__law_changed) := fn_data T.F__law_changed sc__law_changed b__law_changed (fun _ _ _ _ _ _ hr hgd => d__law_changed T hr hgd) p__law_changed
end
def b__law_told (L : Kd) (fA : FSp) : DS :=
  (dSeq (dAsg (dTup (dCons (dC .none) (dCons (dC .none) dNil))) (dT 2 (dTc (dN 1) (dTc (dN 2) dTn))))
  (dSeq (dTry ["InvalidChain", "InvalidNumber", "InvalidText"]
    (dAsgX 2 (dAct L fA))
    (("RoundingError", some 3, (dAsg (dVar 3) (dN 1))) :: []))
  (dSeq (dIfS (dTest (dIsNX (dVar 1)))
    (dRet (dCB cReprX (dCons (dTup (dCons (dC (.str "returned")) (dCons (dVar 2) dNil))) dNil)))
    dNext)
  (dSeq (dIfS (dAndT (dTest (dIsiX ["InvalidChain", "InvalidNumber", "InvalidText"] "InvalidText" (dVar 1))) (dNotT (dTest (dIsiXT ["InvalidChain", "InvalidNumber", "InvalidText"] ["InvalidNumber", "InvalidChain"] (dVar 1)))))
    (dRet (dCB cReprX (dCons (dTup (dCons (dC (.str "text")) (dCons (dXval ["InvalidChain", "InvalidNumber", "InvalidText"] (dVar 1)) dNil))) dNil)))
    dNext)
  (dSeq (dIfS (dAndT (dTest (dIsiX ["InvalidChain", "InvalidNumber", "InvalidText"] "InvalidNumber" (dVar 1))) (dNotT (dTest (dIsiX ["InvalidChain", "InvalidNumber", "InvalidText"] "InvalidChain" (dVar 1)))))
    (dRet (dCB cReprX (dCons (dTup (dCons (dC (.str "number")) (dCons (dXval ["InvalidChain", "InvalidNumber", "InvalidText"] (dVar 1)) dNil))) dNil)))
    dNext)
  (dRet (dIf (dTest (dIsiX ["InvalidChain", "InvalidNumber", "InvalidText"] "InvalidChain" (dVar 1))) (dCB cReprX (dCons (dTup (dCons (dC (.str "chain")) (dCons (dXval ["InvalidChain", "InvalidNumber", "InvalidText"] (dVar 1)) dNil))) dNil)) (dC (.str "other")))))))))
def fs__law_told (L : Kd) (fA : FSp) : FSp := fun rs fu post => rs = [.ob L] ∧ fu = none ∧ b__law_told L fA ⟨fun g => post (.val .none) g.fu, rtN post, fun _ => False, fun _ => False⟩ (ent N__law_told [.ob L] none)
section
variable {P : Program} {w : World} {K : Fg} {mg : Str → Option Value} {base : Heap}
theorem d__law_told (T : Tx w K mg) (L : Kd) (fA : FSp) {cdv : Value} {A : Around} {outer : List Env} {s : Shared} {H : Hp} (hr : Room 7 (A.deeper (envOfC "_law_told" (defScope st__law_told) s.heap.objs.size T.f__law_told cdv))) (hgd : A.guards = some [])
    (act : ∀ (W : WX) (pn : List (Addr × Obj)) (xe : Value → Shared → Prop) (p1 p2 : Pos), Takes ((cxOf CX0 P w K mg base N__law_told "_law_told" (defScope st__law_told) T.f__law_told cdv A outer s H C8.E0).tr pn xe) W → PE ((cxOf CX0 P w K mg base N__law_told "_law_told" (defScope st__law_told) T.f__law_told cdv A outer s H C8.E0).tr pn xe) (.Call (.Name "_law_ask" p1) [] [] p2) (upX K W (dAct L fA))) :
    PSs (cxOf CX0 P w K mg base N__law_told "_law_told" (defScope st__law_told) T.f__law_told cdv A outer s H C8.E0).nox (defBody st__law_told) (upS K WF (b__law_told L fA)) :=
  (ss_cons (s_asg (e_tup (a_cons e_non (a_cons e_non a_nil))) (g_tup rfl (gs_cons (g_name (pg_name (i := 1) sc__law_told.nd rfl (.inl rfl))) (gs_cons (g_name (pg_name (i := 2) sc__law_told.nd rfl (.inl rfl))) gs_nil))))
    (ss_cons (s_try (xs := ["InvalidChain", "InvalidNumber", "InvalidText"]) rfl rfl rfl sc__law_told.nd takes_none5 (fun W pn xe tk pw => (ss_one (s_setX (i := 2) sc__law_told.nd rfl (.inl rfl) (act W pn xe _ _ tk)))) (.as (i := 3) ⟨⟨by rfl, by decide, .inl T.g_RoundingError⟩, T.hx_RoundingError⟩ rfl rfl (fun a pn => (ss_one (s_set (i := 1) sc__law_told.nd rfl (.inl rfl) (e_var 3 (pv 3))))) .nil))
    (ss_cons (s_if (t_isNX (e_var 1 (pv 1))) (ss_one (s_ret (e_reprX hr hgd (by rfl) T.n_repr (a_cons (e_tup (a_cons e_str (a_cons (e_var 2 (pv 2)) a_nil))) a_nil)))) ss_nil)
    (ss_cons (s_if (PW.pt (w_and (t_val (e_isiX (cn := "InvalidText") (cV := .ref T.C_InvalidText) T.is_InvalidText (fun _ h => h) (by rfl) T.n_isinstance (e_var 1 (pv 1)) (pe_glob (v := .ref T.C_InvalidText) (by rfl) T.g_InvalidText rfl))) (w_and1 (t_not (t_val (e_isiXT (cs := ["InvalidNumber", "InvalidChain"]) (vcs := [.ref T.C_InvalidNumber, .ref T.C_InvalidChain]) T.it_InvalidNumber_InvalidChain (.cons (fun _ h => h) (.cons (fun _ h => h) .nil)) (Nat.le_of_ble_eq_true rfl) (by rfl) T.n_isinstance (e_var 1 (pv 1)) (as_cons (pe_glob (v := .ref T.C_InvalidNumber) (by rfl) T.g_InvalidNumber rfl) (as_cons (pe_glob (v := .ref T.C_InvalidChain) (by rfl) T.g_InvalidChain rfl) as_nil)))))))) (ss_one (s_ret (e_reprX hr hgd (by rfl) T.n_repr (a_cons (e_tup (a_cons e_str (a_cons (e_xval T.hv (e_var 1 (pv 1))) a_nil))) a_nil)))) ss_nil)
    (ss_cons (s_if (PW.pt (w_and (t_val (e_isiX (cn := "InvalidNumber") (cV := .ref T.C_InvalidNumber) T.is_InvalidNumber (fun _ h => h) (by rfl) T.n_isinstance (e_var 1 (pv 1)) (pe_glob (v := .ref T.C_InvalidNumber) (by rfl) T.g_InvalidNumber rfl))) (w_and1 (t_not (t_val (e_isiX (cn := "InvalidChain") (cV := .ref T.C_InvalidChain) T.is_InvalidChain (fun _ h => h) (by rfl) T.n_isinstance (e_var 1 (pv 1)) (pe_glob (v := .ref T.C_InvalidChain) (by rfl) T.g_InvalidChain rfl))))))) (ss_one (s_ret (e_reprX hr hgd (by rfl) T.n_repr (a_cons (e_tup (a_cons e_str (a_cons (e_xval T.hv (e_var 1 (pv 1))) a_nil))) a_nil)))) ss_nil)
    (ss_one (s_ret (e_if (t_val (e_isiX (cn := "InvalidChain") (cV := .ref T.C_InvalidChain) T.is_InvalidChain (fun _ h => h) (by rfl) T.n_isinstance (e_var 1 (pv 1)) (pe_glob (v := .ref T.C_InvalidChain) (by rfl) T.g_InvalidChain rfl))) (e_reprX hr hgd (by rfl) T.n_repr (a_cons (e_tup (a_cons e_str (a_cons (e_xval T.hv (e_var 1 (pv 1))) a_nil))) a_nil)) e_str))))))))
end
def b__law_right : DS :=
  (dSeq (dSetL 1 (dLc [2] (dRange1 (dC (.int 15))) (dN 2) dYes (dCall 1 fs__law_odd (dCons (dVar 0) dNil))))
  (dSeq (dSetL 1 (dCatL (dVar 1) (dFz (dLst (dCons (dC (.str "4/2")) (dCons (dC (.str "0")) (dCons (dC (.str "0/5")) (dCons (dC (.str "5/0")) (dCons (dC (.str "1/1")) (dCons (dC (.str "01")) (dCons (dC (.str "-1")) (dCons (dC (.str "1/3/5")) (dCons (dC (.str "4 up,3 up")) dNil)))))))))))))
  (dSeq (dFor (dRange1 (dC (.int 10))) (dN 2)
    (dSeq (dPar 3 4 (dCall 2 fs__law_number (dCons (dVar 0) (dCons (dBin oPow (dC (.int 10)) (dC (.int 6))) dNil))) (dCall 4 fs__law_chain (dCons (dVar 0) (dCons (dC (.int 2)) (dCons (dC (.int 12)) (dCons (dC (.int 98)) dNil))))))
  (dFor (dItems (dTup (dCons (dCall 1 fs_format_number (dCons (dVar 3) dNil)) (dCons (dCall 1 fs_format_chain (dCons (dVar 4) dNil)) dNil)))) (dN 5)
    (dExt 1 (dFz (dLst (dCons (dVar 5) (dCons (dCall 2 fs__law_changed (dCons (dVar 0) (dCons (dVar 5) dNil))) (dCons (dCall 2 fs__law_changed (dCons (dVar 0) (dCons (dCall 2 fs__law_changed (dCons (dVar 0) (dCons (dVar 5) dNil))) dNil))) dNil)))))))))
  (dSeq (dFor (dItems (dVar 1)) (dN 5)
    (dSeq (dAsg (dCall 1 fs__law_number_in (dCons (dVar 5) dNil)) (dN 6))
  (dSeq (dAsg (dIf (dTest (dIsN false (dVar 6))) (dCB cReprX (dCons (dTup (dCons (dC (.str "text")) (dCons (dVar 5) dNil))) dNil)) (dCB cReprX (dCons (dTup (dCons (dC (.str "returned")) (dCons (dVar 6) dNil))) dNil))) (dN 6))
  (dSeq (dIfS (dTest (dBin fNe (dLam fs__law_told (dCallX 1 (orF fs_parse_number fs_parse_numberX) (dCons (dVar 5) dNil))) (dVar 6)))
    (dRet (dC (.bool false)))
    dNext)
  (dSeq (dAsg (dCall 1 fs__law_chain_in (dCons (dVar 5) dNil)) (dN 6))
  (dSeq (dAsg (dIf (dTest (dIsN false (dVar 6))) (dCB cReprX (dCons (dTup (dCons (dC (.str "text")) (dCons (dVar 5) dNil))) dNil)) (dCB cReprX (dCons (dTup (dCons (dC (.str "returned")) (dCons (dVar 6) dNil))) dNil))) (dN 6))
  (dSeq (dIfS (dTest (dBin fNe (dLam fs__law_told (dCallX 1 (orF fs_parse_chain fs_parse_chainX) (dCons (dVar 5) dNil))) (dVar 6)))
    (dRet (dC (.bool false)))
    dNext)
  (dSeq (dIfS (dAndT (dNotT (dTest (dCall 1 fs__law_is_number (dCons (dVar 5) dNil)))) (dTest (dBin fNe (dLam fs__law_told (dCallX 1 (orF fs_format_number fs_format_numberX) (dCons (dVar 5) dNil))) (dCB cReprX (dCons (dTup (dCons (dC (.str "number")) (dCons (dVar 5) dNil))) dNil)))))
    (dRet (dC (.bool false)))
    dNext)
  (dIfS (dAndT (dNotT (dTest (dCall 1 fs__law_is_chain (dCons (dVar 5) dNil)))) (dTest (dBin fNe (dLam fs__law_told (dCallX 1 (orF fs_format_chain fs_format_chainX) (dCons (dVar 5) dNil))) (dCB cReprX (dCons (dTup (dCons (dC (.str "chain")) (dCons (dVar 5) dNil))) dNil)))))
    (dRet (dC (.bool false)))
    dNext)))))))))
  (dRet (dC (.bool true)))))))
theorem dig_len : ∀ (k m : Nat), m < 10 ^ (k + 1) → (Nat.toDigits 10 m).length ≤ k + 1 ∧ ∀ c ∈ Nat.toDigits 10 m, c.toNat < 128
  | k, m, h => by
    by_cases h1 : m < 10
    · rw [Nat.toDigits_of_lt_base h1]
      refine ⟨by rw [List.length_singleton]; omega, fun c hc => ?_⟩
      rw [List.mem_singleton.mp hc]
      have all : ∀ d < 10, (Nat.digitChar d).toNat < 128 := by decide
      exact all m h1
    · cases k with
      | zero => omega
      | succ k =>
        have hm : m % 10 < 10 := Nat.mod_lt m (by decide)
        have t : Nat.toDigits 10 (m / 10) ++ Nat.toDigits 10 (m % 10) = Nat.toDigits 10 (10 * (m / 10) + m % 10) := Nat.toDigits_append_toDigits (by decide) (by omega) hm
        rw [Nat.div_add_mod] at t
        have ih := dig_len k (m / 10) (by rw [Nat.pow_succ] at h; omega)
        have i0 := dig_len 0 (m % 10) (by omega)
        rw [← t]
        refine ⟨by rw [List.length_append]; omega, fun c hc => ?_⟩
        rcases List.mem_append.mp hc with hc | hc
        · exact ih.2 c hc
        · exact i0.2 c hc
theorem int_tl {n : Int} {k : Nat} (h0 : 0 ≤ n) (h1 : n.toNat < 10 ^ (k + 1)) (hk : k ≤ 1000) : TL2 (k + 1) (k + 1) (Str.ofString (toString n)) := by
  obtain ⟨m, rfl⟩ : ∃ m : Nat, n = m := ⟨n.toNat, by omega⟩
  obtain ⟨d1, d2⟩ := dig_len k m (by simpa using h1)
  have e : sg (Str.ofString (toString ((m : Nat) : Int))) = (Nat.toDigits 10 m).map Char.toNat := PySem.W.KIN.signs_num m
  have len : (Str.ofString (toString ((m : Nat) : Int))).length ≤ k + 1 := by rw [← sg_len, e, List.length_map]; exact d1
  refine ⟨⟨by omega, fun c hc => ?_, ?_⟩, len⟩
  · rw [e] at hc
    obtain ⟨x, hx, rfl⟩ := List.mem_map.mp hc
    exact d2 x hx
  · refine Nat.le_trans List.countP_le_length ?_
    rw [sg_len]
    exact len
theorem emp_tl : TL2 0 0 Str.empty := ⟨TX.lit (by decide +kernel), by decide +kernel⟩
theorem bn25 {n : Int} (h : Bn 80 n) (h0 : 0 < n) : n.toNat < 10 ^ (24 + 1) := by
  have := h.lt
  have e : n.natAbs = n.toNat := by omega
  rw [e] at this
  exact Nat.lt_of_lt_of_le this (by decide)
theorem numT_tl {n d : Int} (n0 : 0 < n) (bn : Bn 80 n) (d0 : 0 < d) (bd : Bn 80 d) : TL2 60 51 (numT n d) := by
  have a := int_tl (Int.le_of_lt n0) (bn25 bn n0) (by decide)
  have b := int_tl (Int.le_of_lt d0) (bn25 bd d0) (by decide)
  have s1 : TL2 1 0 "/" := ⟨TX.lit (by decide +kernel), by decide +kernel⟩
  unfold numT
  split
  · exact a.mono (by decide) (by decide)
  · exact (((emp_tl.app a (by decide)).app s1 (by decide)).app b (by decide)).mono (by decide) (by decide)
theorem stpT_tl {s : Int × Ru} (h : 1 ≤ s.1 ∧ s.1 ≤ 100) : TL2 14 3 (stpT s) := by
  have a := int_tl (n := s.1) (k := 2) (by omega) (by omega) (by decide)
  have s1 : TL2 1 0 " " := ⟨TX.lit (by decide +kernel), by decide +kernel⟩
  have r : TL2 10 0 s.2.s := by cases s.2 <;> exact ⟨TX.lit (by decide +kernel), by decide +kernel⟩
  exact (((emp_tl.app a (by decide)).app s1 (by decide)).app r (by decide)).mono (by decide) (by decide)
theorem join_tl : ∀ ps : List Str, ps.length ≤ 100 → (∀ p ∈ ps, TL2 14 3 p) → TL2 (16 * ps.length) (3 * ps.length) (Str.join ", " ps)
  | [], _, _ => emp_tl
  | [p], _, h => (h p (List.mem_cons_self ..)).mono (by simp) (by simp)
  | p :: q :: r, hl, h => by
    have s1 : TL2 2 0 ", " := ⟨TX.lit (by decide +kernel), by decide +kernel⟩
    have ih := join_tl (q :: r) (by simp only [List.length_cons] at hl ⊢; omega) fun x hx => h x (List.mem_cons_of_mem _ hx)
    have hp := h p (List.mem_cons_self ..)
    simp only [List.length_cons] at hl ih ⊢
    exact ((hp.app s1 (by decide)).app ih (by omega)).mono (by omega) (by omega)
theorem chnT_tl {c : List (Int × Ru)} (hc : Chn1 c) : TL2 192 36 (chnT c) := by
  have hl := hc.len
  have := join_tl (c.map stpT) (by rw [List.length_map]; omega) fun p hp => by
    obtain ⟨s, hs, rfl⟩ := List.mem_map.mp hp
    exact stpT_tl (hc.w s hs)
  rw [List.length_map] at this
  unfold chnT
  rw [TL.join_eq]
  exact this.mono (by omega) (by omega)
/-- what the law tells of a call -/
inductive Tk | tx | nu | ch
def Tk.w : Tk → Str
  | .tx => "text"
  | .nu => "number"
  | .ch => "chain"
def Tk.c : Tk → Str
  | .tx => "InvalidText"
  | .nu => "InvalidNumber"
  | .ch => "InvalidChain"
def toldS : Option Tk × Da → Str
  | (none, d) => (PyData.tuple [.str "returned", d]).shown
  | (some k, d) => (PyData.tuple [.str k.w, d]).shown
def toldX : Option Tk × Da → (Rr → Prop) → Prop
  | (none, d), post => post (.val d)
  | (some k, d), post => post (.exc k.c (some d))
def fs__law_right : FSp := fun rs fu post => ∃ m : Nat, rs = [.src] ∧ fu = some m ∧ 900000 ≤ m ∧ ∀ m', post (.val (.bool true)) (some m')
theorem p_told {g : Gs} {Q : Rv → Gs → Prop} {t : DX} {o : Option Tk × Da} (ho : ShX (.tuple [.str (match o.1 with | none => "returned" | some k => k.w), o.2]))
    (ht : ∀ post : Rr → Prop, toldX o post → t (gLam g) fun r _ => post r) (h : Q (.val (.str (toldS o))) g) :
    dLam fs__law_told t g Q := by
  simp_arith [fs__law_told, b__law_told]
  refine fun L => ht _ ?_
  obtain ⟨k, d⟩ := o
  cases k with
  | none => exact ⟨ho, h⟩
  | some k =>
    cases k with
    | tx =>
      have m : Str.ofString "InvalidText" ∈ [Str.ofString "InvalidChain", Str.ofString "InvalidNumber", Str.ofString "InvalidText"] := by simp
      simp only [toldX, Tk.c]
      exact ⟨m, fun _ => ⟨m, fun _ => ⟨m, fun _ => ⟨m, ho, h⟩, fun z => absurd z (by decide +kernel)⟩, fun z => absurd z (by decide +kernel)⟩, fun z => absurd z (by decide +kernel)⟩
    | nu =>
      have m : Str.ofString "InvalidNumber" ∈ [Str.ofString "InvalidChain", Str.ofString "InvalidNumber", Str.ofString "InvalidText"] := by simp
      simp only [toldX, Tk.c]
      exact ⟨m, fun _ => ⟨m, fun z => absurd z (by decide +kernel), fun _ => ⟨m, fun _ => ⟨m, fun _ => ⟨m, ho, h⟩, fun z => absurd z (by decide +kernel)⟩, fun z => absurd z (by decide +kernel)⟩⟩, fun z => absurd z (by decide +kernel)⟩
    | ch =>
      have m : Str.ofString "InvalidChain" ∈ [Str.ofString "InvalidChain", Str.ofString "InvalidNumber", Str.ofString "InvalidText"] := by simp
      simp only [toldX, Tk.c]
      exact ⟨m, fun _ => ⟨m, fun z => absurd z (by decide +kernel), fun _ => ⟨m, fun z => absurd z (by decide +kernel), fun _ => ⟨m, fun _ => ⟨m, ho, h⟩, fun z => absurd z (by decide +kernel)⟩⟩⟩, fun z => absurd z (by decide +kernel)⟩
/-- a line of the law -/
structure LV (v : Da) : Prop where
  lay : layX v = true
  sh : v.showable = true
  dp : v.depth ≤ 8
  sz : szX v ≤ 210000
  tx : ∀ t, v = .str t → TX 390 t
theorem OddX.line {v : Da} (h : OddX 5 v) : LV v := ⟨h.lay, h.sh, h.dp, by have := h.sz; omega, fun t e => by
  have b := h.bn
  rw [e] at b
  exact TX.lit b⟩
theorem TX.line {t : Str} (h : TX 390 t) : LV (.str t) := ⟨h.ok, rfl, by simp [PyData.depth], by have := h.len; simp only [szX]; omega, fun u e => by cases e; exact h⟩
theorem dv_lt : ∀ (cs : List Nat) (acc : Nat), (∀ c ∈ cs, c ≤ 57) → cs.foldl (fun a c => a * 10 + (c - 48)) acc < (acc + 1) * 10 ^ cs.length
  | [], acc, _ => by simp
  | c :: cs, acc, h => by
    have ih := dv_lt cs (acc * 10 + (c - 48)) fun x hx => h x (List.mem_cons_of_mem _ hx)
    have hc := h c (List.mem_cons_self ..)
    rw [List.foldl_cons]
    refine Nat.lt_of_lt_of_le ih ?_
    rw [List.length_cons, Nat.pow_succ, Nat.mul_comm (10 ^ _) 10, ← Nat.mul_assoc]
    exact Nat.mul_le_mul_right _ (by omega)
theorem intIn_bn {w : Str} {n : Int} (ht : TX 390 w) (h : intIn w = some n) : Bn 1300 n := by
  have d := intIn_dg h
  have hw := ht.word d.1
  unfold intIn at h
  split at h
  · cases h
  · cases h
    refine Bn.nat ?_
    have a := dv_lt (sg w) 0 fun c hc => by
      have q := List.all_eq_true.mp d.1 c hc
      simp only [isDg, Bool.and_eq_true, decide_eq_true_eq] at q
      exact q.2
    rw [sg_len] at a
    have b : (10 : Nat) ^ w.length ≤ 10 ^ 390 := Nat.pow_le_pow_right (by decide) hw
    have c : (10 : Nat) ^ 390 ≤ 2 ^ 1300 := by decide +kernel
    refine Nat.lt_of_lt_of_le (show PySem.NumText.digitsVal (sg w) < _ from a) ?_
    rw [Nat.zero_add, Nat.one_mul]
    exact Nat.le_trans b c
/-- data that may be shown with a word ahead -/
structure KV (v : Da) : Prop where
  lay : layX v = true
  sh : v.showable = true
  dp : v.depth ≤ 8
  sz : szX v ≤ 300000
theorem LV.kv {v : Da} (h : LV v) : KV v := ⟨h.lay, h.sh, h.dp, by have := h.sz; omega⟩
theorem KV.X {v : Da} (h : KV v) : ShX v := ⟨h.lay, h.sh, by have := h.dp; omega, by have := h.sz; omega⟩
theorem shxT {k : Str} {d : Da} (hk : PyData.strOk k = true ∧ k.length ≤ 10) (h : KV d) : ShX (.tuple [.str k, d]) := by
  have hk2 := hk.2
  have hd := h.dp
  have hz := h.sz
  refine ⟨by simp [layX, layXs, hk.1, h.lay], by simp [PyData.showable, PyData.showableAll, h.sh], ?_, ?_⟩
  · simp only [PyData.depth, PyData.depthAll]
    omega
  · simp only [szX, szXs]
    omega
theorem num_kv {n d : Int} (bn : Bn 1300 n) (bd : Bn 1300 d) : KV (num n d) := by
  refine ⟨rfl, ?_, by simp [num, PyData.depth, PyData.depthAll], by simp [num, szX, szXs]⟩
  have a := showI (bn.mono (m := 1900) (by decide))
  have b := showI (bd.mono (m := 1900) (by decide))
  simp [num, PyData.showable, PyData.showableAll]
  exact ⟨a, b⟩
theorem st_v {s : Int × Ru} (h0 : 1 ≤ s.1) (h1 : s.1 ≤ 100) : layX (stD s) = true ∧ (stD s).showable = true ∧ (stD s).depth ≤ 3 ∧ szX (stD s) ≤ 3000 := by
  have r : ∀ r : Ru, PyData.strOk r.s = true ∧ PyData.showable (.str r.s) = true ∧ r.s.length ≤ 10 := fun r => by cases r <;> decide +kernel
  obtain ⟨r1, r2, r3⟩ := r s.2
  have a : PyData.showable (.int s.1) = true := by
    have := showI (n := s.1) (Bn.small (m := 1900) (by omega) (by omega) (by decide))
    simp [PyData.showable]
    exact this
  refine ⟨by simp [stD, layX, layXs, r1], by simp [stD, PyData.showableAll, PyData.showable.eq_6, a, r2], by simp [stD, PyData.depth, PyData.depthAll], ?_⟩
  simp only [stD, szX, szXs]
  omega
theorem sts_v : ∀ {c : List (Int × Ru)}, (∀ s ∈ c, 1 ≤ s.1 ∧ s.1 ≤ 100) → layXs (c.map stD) = true ∧ PyData.showableAll (c.map stD) = true ∧ PyData.depthAll (c.map stD) ≤ 3 ∧ szXs (c.map stD) ≤ 3002 * c.length
  | [], _ => ⟨rfl, rfl, by simp [PyData.depthAll], by simp [szXs]⟩
  | s :: c, h => by
    obtain ⟨a1, a2, a3, a4⟩ := st_v (h s List.mem_cons_self).1 (h s List.mem_cons_self).2
    obtain ⟨b1, b2, b3, b4⟩ := sts_v (c := c) fun t ht => h t (List.mem_cons_of_mem _ ht)
    refine ⟨by simp [layXs, a1, b1], by simp [PyData.showableAll, a2, b2], by simp only [List.map_cons, PyData.depthAll]; omega, ?_⟩
    simp only [List.map_cons, szXs, List.length_cons]
    omega
theorem v_ch {c : List (Int × Ru)} (hc : Chn1 c) : KV (chD c) := by
  obtain ⟨b1, b2, b3, b4⟩ := sts_v fun s hs => hc.w s hs
  have := hc.len
  exact ⟨b1, b2, by unfold chD; simp only [PyData.depth]; omega, by unfold chD; simp only [szX]; omega⟩
theorem isStp_some {x : Da} (h : isStp x = true) : ∃ s : Int × Ru, x = stD s ∧ 1 ≤ s.1 ∧ s.1 ≤ 100 := by
  cases x with
  | tuple xs =>
    match xs, h with
    | [a, b], h =>
      simp only [isStp, Bool.and_eq_true] at h
      obtain ⟨r, rfl⟩ := isRul_ru h.2
      cases a with
      | int n =>
        have w := h.1
        simp [isWid, isInt] at w
        exact ⟨(n, r), rfl, w.1, w.2⟩
      | _ => cases h.1
  | _ => cases h
theorem stps_some : ∀ {xs : List Da}, xs.all isStp = true → ∃ c : List (Int × Ru), xs = c.map stD ∧ ∀ s ∈ c, 1 ≤ s.1 ∧ s.1 ≤ 100
  | [], _ => ⟨[], rfl, fun s hs => by simp at hs⟩
  | x :: xs, h => by
    rw [List.all_cons, Bool.and_eq_true] at h
    obtain ⟨s, rfl, h1, h2⟩ := isStp_some h.1
    obtain ⟨c, rfl, hc⟩ := stps_some h.2
    refine ⟨s :: c, rfl, fun t ht => ?_⟩
    rcases List.mem_cons.mp ht with rfl | ht
    · exact ⟨h1, h2⟩
    · exact hc t ht
theorem isChn_some {v : Da} (h : isChn v = true) : ∃ c : List (Int × Ru), v = chD c ∧ Chn1 c := by
  cases v with
  | tuple xs =>
    simp only [isChn, Bool.and_eq_true, decide_eq_true_eq] at h
    obtain ⟨c, rfl, hc⟩ := stps_some h.2
    rw [List.length_map] at h
    exact ⟨c, rfl, ⟨fun e => by rw [e] at h; simp at h, by omega, hc⟩⟩
  | _ => cases h
theorem told_x {o : Option Tk × Da} (h : KV o.2) : ShX (.tuple [.str (match o.1 with | none => "returned" | some k => k.w), o.2]) := by
  obtain ⟨k, d⟩ := o
  cases k with
  | none => exact shxT (k := "returned") (by decide +kernel) h
  | some k =>
    cases k with
    | tx => exact shxT (k := "text") (by decide +kernel) h
    | nu => exact shxT (k := "number") (by decide +kernel) h
    | ch => exact shxT (k := "chain") (by decide +kernel) h
theorem told_cps {o : Option Tk × Da} (h : KV o.2) : Cps (toldS o) := by
  have q := told_x h
  obtain ⟨k, d⟩ := o
  cases k <;> exact q.cps
/-- the state of a line's turn -/
abbrev gT (es : List Da) (x2 x3 x4 x5 x6 : Option Sv) (m : Nat) : Gs := ⟨[some .src, some (.val (.list es)), x2, x3, x4, x5, x6], some m, false⟩
def tT (F G : FSp) : DE := dLam fs__law_told (dCallX 1 (orF F G) (dCons (dVar 5) dNil))
theorem p_tT {Q : Rv → Gs → Prop} {F G : FSp} {o : Option Tk × Da} {v : Da} {es : List Da} {x2 x3 x4 x6 : Option Sv} {m : Nat} (ho : KV o.2)
    (hT : ∀ post : Rr → Option Nat → Prop, toldX o (fun r => post r none) → F [.val v] none post ∨ G [.val v] none post)
    (h : Q (.val (.str (toldS o))) (gT es x2 x3 x4 (some (.val v)) x6 m)) : tT F G (gT es x2 x3 x4 (some (.val v)) x6 m) Q := by
  refine p_told (told_x ho) (fun post hp => ?_) h
  simp_arith [Nat.zero_add]
  exact hT _ hp
/-- what is due -/
def dueD (v : Da) : Da → Option Tk × Da
  | .none => (some .tx, v)
  | r => (none, r)
theorem dueD_kv {v r : Da} (hv : KV v) (hr : KV r) : KV (dueD v r).2 := by cases r <;> first | exact hv | exact hr
def rD (K : DS) : DS := (dSeq (dAsg (dIf (dTest (dIsN false (dVar 6))) (dCB cReprX (dCons (dTup (dCons (dC (.str "text")) (dCons (dVar 5) dNil))) dNil)) (dCB cReprX (dCons (dTup (dCons (dC (.str "returned")) (dCons (dVar 6) dNil))) dNil))) (dN 6)) K)
theorem p_rD {K : DS} {D : DEnds} {v r : Da} {es : List Da} {x2 x3 x4 : Option Sv} {m : Nat} (hv : KV v) (hr : KV r)
    (h : K D (gT es x2 x3 x4 (some (.val v)) (some (.val (.str (toldS (dueD v r))))) m)) : rD K D (gT es x2 x3 x4 (some (.val v)) (some (.val r)) m) := by
  have a : ShX (.tuple [.str "text", v]) := shxT (by decide +kernel) hv
  have b : ShX (.tuple [.str "returned", r]) := shxT (by decide +kernel) hr
  cases r with
  | none => simp_arith [rD]; exact ⟨a, h⟩
  | _ => simp_arith [rD]; exact ⟨b, h⟩
def rE (T : DE) (K : DS) : DS := (dSeq (dIfS (dTest (dBin fNe T (dVar 6)))
    (dRet (dC (.bool false)))
    dNext) K)
theorem p_rE {T : DE} {K : DS} {D : DEnds} {o : Option Tk × Da} {g : Gs} (ho : KV o.2) (hg : ∃ es x2 x3 x4 x5 m, g = gT es x2 x3 x4 x5 (some (.val (.str (toldS o)))) m)
    (hT : ∀ Q : Rv → Gs → Prop, Q (.val (.str (toldS o))) g → T g Q) (h : K D g) : rE T K D g := by
  obtain ⟨es, x2, x3, x4, x5, m, rfl⟩ := hg
  have q := shaped_str (told_cps ho)
  simp_arith [rE]
  refine hT _ ?_
  simp_arith [Nat.zero_add]
  exact ⟨q, q, fun z => absurd trivial z, h⟩
def rA (F : FSp) (K : DS) : DS := (dSeq (dAsg (dCall 1 F (dCons (dVar 5) dNil)) (dN 6)) K)
def rC (P : FSp) (w : Str) (T : DE) : DS := (dIfS (dAndT (dNotT (dTest (dCall 1 P (dCons (dVar 5) dNil)))) (dTest (dBin fNe T (dCB cReprX (dCons (dTup (dCons (dC (.str w)) (dCons (dVar 5) dNil))) dNil)))))
    (dRet (dC (.bool false)))
    dNext)
theorem p_rC {P : FSp} {T : DE} {D : DEnds} {k : Tk} {v : Da} {b : Bool} {g : Gs} (hv : KV v) (hg : ∃ es x2 x3 x4 x6 m, g = gT es x2 x3 x4 (some (.val v)) x6 m)
    (hP : ∀ post : Rr → Option Nat → Prop, post (.val (.bool b)) none → P [.val v] none post)
    (hT : b = false → ∀ Q : Rv → Gs → Prop, Q (.val (.str (toldS (some k, v)))) g → T g Q) (h : D.nx g) : rC P k.w T D g := by
  obtain ⟨es, x2, x3, x4, x6, m, rfl⟩ := hg
  have a : ShX (.tuple [.str k.w, v]) := told_x (o := (some k, v)) hv
  have q := shaped_str (told_cps (o := (some k, v)) hv)
  simp_arith [rC]
  refine hP _ ?_
  cases b with
  | true => simp_arith [Nat.zero_add]; exact h
  | false =>
    simp_arith [Nat.zero_add]
    refine hT rfl _ ?_
    simp_arith [Nat.zero_add]
    exact ⟨a, q, q, fun z => absurd rfl z, fun _ => h⟩
def rB : DS := rA fs__law_number_in (rD (rE (tT fs_parse_number fs_parse_numberX) (rA fs__law_chain_in (rD (rE (tT fs_parse_chain fs_parse_chainX) (dSeq (rC fs__law_is_number "number" (tT fs_format_number fs_format_numberX)) (rC fs__law_is_chain "chain" (tT fs_format_chain fs_format_chainX))))))))
theorem p_rA {F : FSp} {K : DS} {D : DEnds} {v r : Da} {es : List Da} {x2 x3 x4 x6 : Option Sv} {m : Nat} (hF : ∀ post : Rr → Option Nat → Prop, post (.val r) none → F [.val v] none post)
    (h : K D (gT es x2 x3 x4 (some (.val v)) (some (.val r)) m)) : rA F K D (gT es x2 x3 x4 (some (.val v)) x6 m) := by
  simp_arith [rA]
  exact hF _ h
theorem numIn_bn {t : Str} {p : Int × Int} (ht : TX 390 t) (h : numIn t = some p) : Bn 1300 p.1 ∧ Bn 1300 p.2 := by
  have key : ∀ a, some a ∈ (Txt.split t "/").map intIn → Bn 1300 a := fun a ha => by
    obtain ⟨w, hw, e⟩ := List.mem_map.mp ha
    exact intIn_bn (ht.part hw) e
  unfold numIn at h
  generalize (Txt.split t "/").map intIn = P at h key
  match P, h, key with
  | [], h, _ => cases h
  | [none], h, _ => cases h
  | [some a], h, key =>
    simp only [numP] at h
    split at h
    · cases h
      exact ⟨key a (by simp), Bn.small (i := 1) (by decide) (by decide) (by decide)⟩
    · cases h
  | [none, _], h, _ => cases h
  | [some _, none], h, _ => cases h
  | [some a, some b], h, key =>
    simp only [numP] at h
    split at h
    · cases h
      exact ⟨key a (by simp), key b (by simp)⟩
    · cases h
  | a :: b :: c :: P, h, _ =>
    rw [numP_none (.inr (by simp only [List.length_cons]; omega))] at h
    cases h
theorem num_ways {v : Da} (L : LV v) : ∃ r : Da, KV r ∧ (∀ post : Rr → Option Nat → Prop, post (.val r) none → fs__law_number_in [.val v] none post) ∧
    (∀ post : Rr → Option Nat → Prop, toldX (dueD v r) (fun r => post r none) → fs_parse_number [.val v] none post ∨ fs_parse_numberX [.val v] none post) := by
  have kn : KV .none := ⟨rfl, by decide +kernel, by decide +kernel, by decide +kernel⟩
  cases hs : isTy "str" v with
  | false => exact ⟨.none, kn, fun post h => ⟨v, rfl, .inl ⟨hs, h⟩⟩, fun post h => .inr ⟨v, rfl, .inl hs, L.kv.X, h⟩⟩
  | true =>
    obtain ⟨t, rfl⟩ : ∃ t, v = .str t := by
      cases v with
      | str t => exact ⟨t, rfl⟩
      | _ => simp [isTy] at hs
    have ht := L.tx t rfl
    cases hn : numIn t with
    | none => exact ⟨.none, kn, fun post h => ⟨_, rfl, .inr ⟨t, rfl, ht, by rw [hn]; exact h⟩⟩, fun post h => .inr ⟨_, rfl, .inr ⟨t, rfl, ht, hn⟩, L.kv.X, h⟩⟩
    | some p =>
      have b := numIn_bn ht hn
      exact ⟨num p.1 p.2, num_kv b.1 b.2, fun post h => ⟨_, rfl, .inr ⟨t, rfl, ht, by rw [hn]; exact h⟩⟩, fun post h => .inl ⟨t, p, rfl, ht, hn, h⟩⟩
theorem chn_ways {v : Da} (L : LV v) : ∃ r : Da, KV r ∧ (∀ post : Rr → Option Nat → Prop, post (.val r) none → fs__law_chain_in [.val v] none post) ∧
    (∀ post : Rr → Option Nat → Prop, toldX (dueD v r) (fun r => post r none) → fs_parse_chain [.val v] none post ∨ fs_parse_chainX [.val v] none post) := by
  have kn : KV .none := ⟨rfl, by decide +kernel, by decide +kernel, by decide +kernel⟩
  cases hs : isTy "str" v with
  | false => exact ⟨.none, kn, fun post h => ⟨v, rfl, .inl ⟨hs, h⟩⟩, fun post h => .inr ⟨v, rfl, .inl hs, L.kv.X, h⟩⟩
  | true =>
    obtain ⟨t, rfl⟩ : ∃ t, v = .str t := by
      cases v with
      | str t => exact ⟨t, rfl⟩
      | _ => simp [isTy] at hs
    have ht := L.tx t rfl
    cases hn : isChn (chnIn t) with
    | false =>
      have e : chnD t = .none := if_neg (by rw [hn]; decide)
      exact ⟨.none, kn, fun post h => ⟨_, rfl, .inr ⟨t, rfl, ht, by rw [e]; exact h⟩⟩, fun post h => .inr ⟨_, rfl, .inr ⟨t, rfl, ht, hn⟩, L.kv.X, h⟩⟩
    | true =>
      have e : chnD t = chnIn t := if_pos hn
      obtain ⟨c, q, hc⟩ := isChn_some hn
      exact ⟨chnIn t, by rw [q]; exact v_ch hc, fun post h => ⟨_, rfl, .inr ⟨t, rfl, ht, by rw [e]; exact h⟩⟩, fun post h => .inl ⟨t, rfl, ht, hn, h⟩⟩
theorem p_rB {D : DEnds} {v : Da} {es : List Da} {x2 x3 x4 x6 : Option Sv} {m : Nat} (L : LV v) (h : ∀ x6, D.nx (gT es x2 x3 x4 (some (.val v)) x6 m)) : rB D (gT es x2 x3 x4 (some (.val v)) x6 m) := by
  have kv := L.kv
  obtain ⟨r1, k1, f1, t1⟩ := num_ways L
  obtain ⟨r2, k2, f2, t2⟩ := chn_ways L
  refine p_rA f1 (p_rD kv k1 (p_rE (dueD_kv kv k1) ⟨_, _, _, _, _, _, rfl⟩ (fun Q q => p_tT (dueD_kv kv k1) t1 q) (p_rA f2 (p_rD kv k2 (p_rE (dueD_kv kv k2) ⟨_, _, _, _, _, _, rfl⟩ (fun Q q => p_tT (dueD_kv kv k2) t2 q) ?_)))))
  show rC fs__law_is_number Tk.nu.w (tT fs_format_number fs_format_numberX) { D with nx := rC fs__law_is_chain Tk.ch.w (tT fs_format_chain fs_format_chainX) D } _
  refine p_rC (k := .nu) (b := isNum v) (v := v) kv ⟨_, _, _, _, _, _, rfl⟩ (fun post q => ⟨v, rfl, q⟩) (fun nb Q q => p_tT (o := (some .nu, v)) kv (fun post hp => .inr ⟨v, rfl, nb, kv.X, hp⟩) q) ?_
  show rC fs__law_is_chain Tk.ch.w (tT fs_format_chain fs_format_chainX) D (gT es x2 x3 x4 (some (.val v)) (some (.val (.str (toldS (dueD v r2))))) m)
  exact p_rC (k := .ch) (b := isChn v) (v := v) kv ⟨_, _, _, _, _, _, rfl⟩ (fun post q => ⟨v, rfl, L.lay, q⟩) (fun nb Q q => p_tT (o := (some .ch, v)) kv (fun post hp => .inr ⟨v, rfl, nb, kv.X, hp⟩) q) (h _)
theorem p__law_right (rs : List Rv) (fu : Option Nat) (post : Rr → Option Nat → Prop) (hl : rs.length = 1) (h : fs__law_right rs fu post) : b__law_right ⟨fun g => post (.val .none) g.fu, rtN post, fun _ => False, fun _ => False⟩ (ent N__law_right rs fu) := by
  obtain ⟨m, rfl, rfl, hm, h⟩ := h
  have lB := @p_rB
  show (dSeq (dSetL 1 (dLc [2] (dRange1 (dC (.int 15))) (dN 2) dYes (dCall 1 fs__law_odd (dCons (dVar 0) dNil))))
  (dSeq (dSetL 1 (dCatL (dVar 1) (dFz (dLst (dCons (dC (.str "4/2")) (dCons (dC (.str "0")) (dCons (dC (.str "0/5")) (dCons (dC (.str "5/0")) (dCons (dC (.str "1/1")) (dCons (dC (.str "01")) (dCons (dC (.str "-1")) (dCons (dC (.str "1/3/5")) (dCons (dC (.str "4 up,3 up")) dNil)))))))))))))
  (dSeq (dFor (dRange1 (dC (.int 10))) (dN 2)
    (dSeq (dPar 3 4 (dCall 2 fs__law_number (dCons (dVar 0) (dCons (dBin oPow (dC (.int 10)) (dC (.int 6))) dNil))) (dCall 4 fs__law_chain (dCons (dVar 0) (dCons (dC (.int 2)) (dCons (dC (.int 12)) (dCons (dC (.int 98)) dNil))))))
  (dFor (dItems (dTup (dCons (dCall 1 fs_format_number (dCons (dVar 3) dNil)) (dCons (dCall 1 fs_format_chain (dCons (dVar 4) dNil)) dNil)))) (dN 5)
    (dExt 1 (dFz (dLst (dCons (dVar 5) (dCons (dCall 2 fs__law_changed (dCons (dVar 0) (dCons (dVar 5) dNil))) (dCons (dCall 2 fs__law_changed (dCons (dVar 0) (dCons (dCall 2 fs__law_changed (dCons (dVar 0) (dCons (dVar 5) dNil))) dNil))) dNil)))))))))
  (dSeq (dFor (dItems (dVar 1)) (dN 5) rB)
  (dRet (dC (.bool true))))))) _ _
  generalize rb : rB = B at lB
  simp_arith [Nat.zero_add]
  refine ⟨by decide, by decide, lc_drawV LV 7 (by rw [rangeD_len]; show 7 * 15 ≤ m; omega) (fun x hx m R hR => ?_) (by rw [rangeD_len]; decide) (fun zs m2 zl zp hm2 => ⟨?_, by decide, by decide, ?_⟩)⟩
  · simp_arith [fs__law_odd]
    exact ⟨m, rfl, fun d m' hm hd => hR d ⟨[some Sv.src, none, some (Sv.val x), none, none, none, none], some m', false⟩ m' (OddX.line hd) rfl hm⟩
  · rw [List.nil_append, zl, rangeD_len, sizeLine_eq]
    decide
  · rw [List.nil_append]
    rw [rangeD_len] at zl hm2
    have zl : zs.length = 15 := zl
    have hm2 : m ≤ m2 + 7 * 15 := hm2
    refine forD_ix0 (fun k g => ∃ (m' : Nat) (es : List Da) (x2 x3 x4 x5 x6 : Option Sv), m2 ≤ m' + 200 * k ∧ es.length = 24 + 6 * k ∧ (∀ x ∈ es, LV x) ∧ g = ⟨[some .src, some (.own es), x2, x3, x4, x5, x6], some m', false⟩) (fun k x hx g hg N hN => ?_) (fun g hg => ?_) ⟨m2, _, _, _, _, _, _, by omega, ?_, ?_, rfl⟩
    · obtain ⟨m', es, x2, x3, x4, x5, x6, h1, h2, h3, rfl⟩ := hg
      simp_arith [fs__law_number, fs__law_chain]
      have hk : k < 10 := (rangeD_at hx).1
      obtain ⟨m3, rfl⟩ : ∃ m3, m' = m3 + 150 := ⟨m' - 150, by omega⟩
      refine ⟨⟨by decide, by decide +kernel⟩, _, m3 + 144, rfl, rfl, by decide, by decide, fun n d n0 bn d0 bd hg => ⟨2, 12, 98, m3 + 144, rfl, rfl, by decide, by decide, by decide, by decide, by decide, by omega, fun c m4 h4 hd _ => ?_⟩⟩
      have hc : Chn1 c := hd.chn (by decide) (by decide) (by decide)
      simp_arith [fs_format_number, fs_format_chain]
      have isn : isNum (num n d) = true := isNum_num (by omega) (by omega) hg
      have tn := numT_tl n0 bn d0 bd
      have tc := chnT_tl hc
      obtain ⟨m5, rfl⟩ : ∃ m5, m4 = m5 + 18 := ⟨m4 - 18, by omega⟩
      refine ⟨n, d, rfl, isn, bn.mono (by decide), bd.mono (by decide), c, rfl, hc, ?_⟩
      simp_arith [forD, fs__law_changed]
      refine ⟨⟨_, rfl⟩, _, 60, 51, m5 + 15, rfl, rfl, tn, by decide, fun t1 m6 h6 x1 => ?_⟩
      obtain ⟨a6, rfl⟩ : ∃ a, m6 = a + 3 := ⟨m6 - 3, by omega⟩
      refine ⟨_, 60, 51, a6, rfl, rfl, tn, by decide, fun t2 m7 h7 x2 => ?_⟩
      obtain ⟨a7, rfl⟩ : ∃ a, m7 = a + 3 := ⟨m7 - 3, by omega⟩
      refine ⟨t2, 122, 104, a7, rfl, rfl, x2, by decide, fun t3 m8 h8 x3 => ?_⟩
      obtain ⟨a8, rfl⟩ : ∃ a, m8 = a + 3 := ⟨m8 - 3, by omega⟩
      refine ⟨by omega, ⟨_, rfl⟩, _, 192, 36, a8, rfl, rfl, tc, by decide, fun u1 m9 h9 y1 => ?_⟩
      obtain ⟨a9, rfl⟩ : ∃ a, m9 = a + 3 := ⟨m9 - 3, by omega⟩
      refine ⟨_, 192, 36, a9, rfl, rfl, tc, by decide, fun u2 m10 h10 y2 => ?_⟩
      obtain ⟨a10, rfl⟩ : ∃ a, m10 = a + 3 := ⟨m10 - 3, by omega⟩
      refine ⟨u2, 386, 74, a10, rfl, rfl, y2, by decide, fun u3 m11 h11 y3 => ⟨?_, ?_⟩⟩
      · rw [List.length_append]
        show es.length + 3 ≤ 999997
        omega
      · refine hN _ ⟨m11, _, _, _, _, _, _, by omega, ?_, fun v hv => ?_, rfl⟩
        · simp only [List.length_append, List.length_cons, List.length_nil]
          omega
        · simp only [List.mem_append, List.mem_cons, List.not_mem_nil, or_false] at hv
          rcases hv with (hv | rfl | rfl | rfl) | rfl | rfl | rfl
          · exact h3 v hv
          · exact TX.line (tn.tx.mono (by decide))
          · exact TX.line (x1.tx.mono (by decide))
          · exact TX.line (x3.tx.mono (by decide))
          · exact TX.line (tc.tx.mono (by decide))
          · exact TX.line (y1.tx.mono (by decide))
          · exact TX.line (y3.tx.mono (by decide))
    · obtain ⟨m', es, x2, x3, x4, x5, x6, h1, h2, h3, rfl⟩ := hg
      have hl2 : (rangeD 0 (Int.toNat 10)).length = 10 := by rw [rangeD_len]; rfl
      rw [hl2] at h1 h2
      simp_arith [Nat.zero_add]
      refine forD_inv (fun g => ∃ x5 x6 m', g = ⟨[some .src, some (.val (.list es)), x2, x3, x4, x5, x6], some m', false⟩) (fun v hv g hg N hN => ?_) (fun g hg => ?_) ⟨_, _, _, rfl⟩
      · obtain ⟨x5, x6, m6, rfl⟩ := hg
        have L := h3 v hv
        simp_arith [Nat.zero_add]
        exact lB L fun x6 => hN _ ⟨_, _, _, rfl⟩
      · obtain ⟨x5, x6, m6, rfl⟩ := hg
        simp_arith [Nat.zero_add]
        exact h _
    · rw [List.length_append, zl]
      rfl
    · intro v hv
      rcases List.mem_append.mp hv with hv | hv
      · exact zp v hv
      · simp only [List.mem_cons, List.not_mem_nil, or_false] at hv
        rcases hv with rfl | rfl | rfl | rfl | rfl | rfl | rfl | rfl | rfl <;> exact TX.line (TX.lit (by decide +kernel))
section
variable {P : Program} {w : World} {K : Fg} {mg : Str → Option Value} {base : Heap}
theorem d__law_right (T : Tx w K mg) {cdv : Value} {A : Around} {outer : List Env} {s : Shared} {H : Hp} {E : XK} (hB : TbB K mg base) (hc : T.fd__law_right.code = cdv) (hr : Room 8 (A.deeper (envOfC "_law_right" (defScope st__law_right) s.heap.objs.size T.f__law_right cdv))) (hgd : (A.deeper (envOfC "_law_right" (defScope st__law_right) s.heap.objs.size T.f__law_right cdv)).guards = some []) :
    PSs (cxOf CX0 P w K mg base N__law_right "_law_right" (defScope st__law_right) T.f__law_right cdv A outer s H E).nox (defBody st__law_right) (upS K WF b__law_right) :=
  (ss_cons (s_setLc (i := 1) (own := [("_law_turn", 2)]) rfl sc__law_right.nd rfl rfl (sw_true rfl rfl rfl (by decide +kernel)) (i_range1 (by rfl) T.n_range e_int) (blkOk_by (own := [("_law_turn", 2)]) (N := N__law_right) (sc := defScope st__law_right) (by decide +kernel)) (fun _ _ _ _ _ => (gw_name rfl (pg_name (i := 2) sc__law_right.nd rfl (.inl rfl)) (by decide))) (fun _ _ _ _ _ => ts_yes) (fun _ _ _ _ _ => (e_call (ok__law_odd T) (hr.mono (by decide)) hgd (by rfl) T.g__law_odd T.F__law_odd.kp T.b__law_odd pass0 (a_cons (e_var 0 (pv 0)) a_nil))))
    (ss_cons (s_setL (i := 1) sc__law_right.nd rfl (.inl rfl) (e_catL (e_var 1 (pv 1)) (e_fz (e_lstL (a_cons e_str (a_cons e_str (a_cons e_str (a_cons e_str (a_cons e_str (a_cons e_str (a_cons e_str (a_cons e_str (a_cons e_str a_nil)))))))))))))
    (ss_cons (s_for PassesOwn.never rfl (i_range1 (by rfl) T.n_range e_int) (g_name (pg_name (i := 2) sc__law_right.nd rfl (.inl rfl))) (ss_cons (s_par (i := 3) (j := 4) rfl sc__law_right.nd rfl rfl (by decide) rfl rfl (e_call (ok__law_number T) (hr.mono (by decide)) hgd (by rfl) T.g__law_number T.F__law_number.kp T.b__law_number pass0 (a_cons (e_var 0 (pv 0)) (a_cons (e_pow e_int e_int) a_nil))) (e_call (ok__law_chain T) (hr.mono (by decide)) hgd (by rfl) T.g__law_chain T.F__law_chain.kp T.b__law_chain pass0 (a_cons (e_var 0 (pv 0)) (a_cons e_int (a_cons e_int (a_cons e_int a_nil))))))
    (ss_one (s_for PassesOwn.never rfl (i_items (e_tup (a_cons (e_call (ok_format_number T) (hr.mono (by decide)) hgd (by rfl) T.g_format_number T.F_format_number.kp T.b_format_number pass0 (a_cons (e_var 3 (pv 3)) a_nil)) (a_cons (e_call (ok_format_chain T) (hr.mono (by decide)) hgd (by rfl) T.g_format_chain T.F_format_chain.kp T.b_format_chain pass0 (a_cons (e_var 4 (pv 4)) a_nil)) a_nil)))) (g_name (pg_name (i := 5) sc__law_right.nd rfl (.inr rfl))) (ss_one (s_ext (name := "x") (pv 1) (e_fz (e_lstL (a_cons (e_var 5 (pv 5)) (a_cons (e_call (ok__law_changed T) (hr.mono (by decide)) hgd (by rfl) T.g__law_changed T.F__law_changed.kp T.b__law_changed pass0 (a_cons (e_var 0 (pv 0)) (a_cons (e_var 5 (pv 5)) a_nil))) (a_cons (e_call (ok__law_changed T) (hr.mono (by decide)) hgd (by rfl) T.g__law_changed T.F__law_changed.kp T.b__law_changed pass0 (a_cons (e_var 0 (pv 0)) (a_cons (e_call (ok__law_changed T) (hr.mono (by decide)) hgd (by rfl) T.g__law_changed T.F__law_changed.kp T.b__law_changed pass0 (a_cons (e_var 0 (pv 0)) (a_cons (e_var 5 (pv 5)) a_nil))) a_nil))) a_nil))))) (fun h => pe_bm PySem.F.plainAttrs_list PySem.F.slot_list_extend PySem.F.type_list_extend mt_extend (pv 1) h)))))))
    (ss_cons (s_for PassesOwn.never rfl (i_items (e_var 1 (pv 1))) (g_name (pg_name (i := 5) sc__law_right.nd rfl (.inr rfl))) (ss_cons (s_set (i := 6) sc__law_right.nd rfl (.inl rfl) (e_call (ok__law_number_in T) (hr.mono (by decide)) hgd (by rfl) T.g__law_number_in T.F__law_number_in.kp T.b__law_number_in pass0 (a_cons (e_var 5 (pv 5)) a_nil)))
    (ss_cons (s_set (i := 6) sc__law_right.nd rfl (.inl rfl) (e_if (t_isN (e_var 6 (pv 6))) (e_reprX hr hgd (by rfl) T.n_repr (a_cons (e_tup (a_cons e_str (a_cons (e_var 5 (pv 5)) a_nil))) a_nil)) (e_reprX hr hgd (by rfl) T.n_repr (a_cons (e_tup (a_cons e_str (a_cons (e_var 6 (pv 6)) a_nil))) a_nil))))
    (ss_cons (s_if (t_ne hr.units (e_lam (st := st__law_told) (k := 6) T.F__law_told sc__law_told rfl (.inl rfl) (by rfl) T.g__law_told T.b__law_told (fun L fA _ _ _ hr hgd act => d__law_told T L fA hr hgd act) (fun _ _ _ h => h.2.2) (.head _) (lamne__law_right T) T.tab__law_right hB (hc.symm.trans T.code__law_right) (by rfl) (hr.mono (by decide)) hgd (LamX.lamS_by (by rfl)) rfl (fun _ _ _ _ _ => rfl) (fun _ _ _ _ _ _ _ hr hgd => (x_call (takes_of rfl rfl rfl rfl) (ok_parse_numberO T) (hr.mono (by decide)) hgd (by rfl) T.g_parse_number T.F_parse_number.kp T.b_parse_number (a_cons (e_var 5 (pv 5)) a_nil)))) (e_var 6 (pv 6))) (ss_one (s_ret e_bl)) ss_nil)
    (ss_cons (s_set (i := 6) sc__law_right.nd rfl (.inl rfl) (e_call (ok__law_chain_in T) (hr.mono (by decide)) hgd (by rfl) T.g__law_chain_in T.F__law_chain_in.kp T.b__law_chain_in pass0 (a_cons (e_var 5 (pv 5)) a_nil)))
    (ss_cons (s_set (i := 6) sc__law_right.nd rfl (.inl rfl) (e_if (t_isN (e_var 6 (pv 6))) (e_reprX hr hgd (by rfl) T.n_repr (a_cons (e_tup (a_cons e_str (a_cons (e_var 5 (pv 5)) a_nil))) a_nil)) (e_reprX hr hgd (by rfl) T.n_repr (a_cons (e_tup (a_cons e_str (a_cons (e_var 6 (pv 6)) a_nil))) a_nil))))
    (ss_cons (s_if (t_ne hr.units (e_lam (st := st__law_told) (k := 6) T.F__law_told sc__law_told rfl (.inl rfl) (by rfl) T.g__law_told T.b__law_told (fun L fA _ _ _ hr hgd act => d__law_told T L fA hr hgd act) (fun _ _ _ h => h.2.2) (.head _) (lamne__law_right T) T.tab__law_right hB (hc.symm.trans T.code__law_right) (by rfl) (hr.mono (by decide)) hgd (LamX.lamS_by (by rfl)) rfl (fun _ _ _ _ _ => rfl) (fun _ _ _ _ _ _ _ hr hgd => (x_call (takes_of rfl rfl rfl rfl) (ok_parse_chainO T) (hr.mono (by decide)) hgd (by rfl) T.g_parse_chain T.F_parse_chain.kp T.b_parse_chain (a_cons (e_var 5 (pv 5)) a_nil)))) (e_var 6 (pv 6))) (ss_one (s_ret e_bl)) ss_nil)
    (ss_cons (s_if (PW.pt (w_and (t_not (t_val (e_call (ok__law_is_number T) (hr.mono (by decide)) hgd (by rfl) T.g__law_is_number T.F__law_is_number.kp T.b__law_is_number pass0 (a_cons (e_var 5 (pv 5)) a_nil)))) (w_and1 (t_ne hr.units (e_lam (st := st__law_told) (k := 6) T.F__law_told sc__law_told rfl (.inl rfl) (by rfl) T.g__law_told T.b__law_told (fun L fA _ _ _ hr hgd act => d__law_told T L fA hr hgd act) (fun _ _ _ h => h.2.2) (.head _) (lamne__law_right T) T.tab__law_right hB (hc.symm.trans T.code__law_right) (by rfl) (hr.mono (by decide)) hgd (LamX.lamS_by (by rfl)) rfl (fun _ _ _ _ _ => rfl) (fun _ _ _ _ _ _ _ hr hgd => (x_call (takes_of rfl rfl rfl rfl) (ok_format_numberO T) (hr.mono (by decide)) hgd (by rfl) T.g_format_number T.F_format_number.kp T.b_format_number (a_cons (e_var 5 (pv 5)) a_nil)))) (e_reprX hr hgd (by rfl) T.n_repr (a_cons (e_tup (a_cons e_str (a_cons (e_var 5 (pv 5)) a_nil))) a_nil)))))) (ss_one (s_ret e_bl)) ss_nil)
    (ss_one (s_if (PW.pt (w_and (t_not (t_val (e_call (ok__law_is_chain T) (hr.mono (by decide)) hgd (by rfl) T.g__law_is_chain T.F__law_is_chain.kp T.b__law_is_chain pass0 (a_cons (e_var 5 (pv 5)) a_nil)))) (w_and1 (t_ne hr.units (e_lam (st := st__law_told) (k := 6) T.F__law_told sc__law_told rfl (.inl rfl) (by rfl) T.g__law_told T.b__law_told (fun L fA _ _ _ hr hgd act => d__law_told T L fA hr hgd act) (fun _ _ _ h => h.2.2) (.head _) (lamne__law_right T) T.tab__law_right hB (hc.symm.trans T.code__law_right) (by rfl) (hr.mono (by decide)) hgd (LamX.lamS_by (by rfl)) rfl (fun _ _ _ _ _ => rfl) (fun _ _ _ _ _ _ _ hr hgd => (x_call (takes_of rfl rfl rfl rfl) (ok_format_chainO T) (hr.mono (by decide)) hgd (by rfl) T.g_format_chain T.F_format_chain.kp T.b_format_chain (a_cons (e_var 5 (pv 5)) a_nil)))) (e_reprX hr hgd (by rfl) T.n_repr (a_cons (e_tup (a_cons e_str (a_cons (e_var 5 (pv 5)) a_nil))) a_nil)))))) (ss_one (s_ret e_bl)) ss_nil))))))))))
    (ss_one (s_ret e_bl))))))
theorem ok__law_right (T : Tx w K mg) (hB : TbB K mg base) : Fn P w K mg base CX0 9 T.f__law_right T.fd__law_right ["_law_source_here"] (lift K 1 fs__law_right) := fn_dataM T.F__law_right sc__law_right b__law_right (fun _ _ _ _ _ _ hc hr hgd => d__law_right T hB hc hr hgd) p__law_right
end
def b_law : DS :=
  (dRet (dCB cAll (dCons (dFz (dLc [1] (dRange1 (dCB oMax (dCons (dC (.int 1)) (dCons (dCB oMin (dCons (dCB cLen (dCons (dVar 0) dNil)) (dCons (dC (.int 3)) dNil))) dNil)))) (dN 1) dYes (dCallS 1 1000000 fs__law_right (dCallL 2 fs__law_source (dCons (dVar 0) (dCons (dVar 1) dNil))) []))) dNil)))
def fs_law : FSp := fun rs fu post => ∃ ns : List Int, rs = [.scr ns] ∧ post (.val (.bool true)) fu
theorem p_law (rs : List Rv) (fu : Option Nat) (post : Rr → Option Nat → Prop) (hl : rs.length = 1) (h : fs_law rs fu post) : b_law ⟨fun g => post (.val .none) g.fu, fun r g => post r g.fu, fun _ => False, fun _ => False⟩ (ent N_law rs fu) := by
  obtain ⟨ns, rfl, h⟩ := h
  simp_arith [b_law]
  generalize hj : (if (if (3 : Int) < _ then _ else _) > (1 : Int) then _ else _) = j
  have j0 : j ≤ 3 ∧ 0 ≤ j := by subst hj; split <;> (try split) <;> omega
  refine ⟨by omega, by omega, lc_map (fun _ => .bool true) (fun x hx R hR => ?_) ?_ ?_⟩
  · obtain ⟨i, rfl, i0, i1⟩ := rangeD_mem hx
    simp_arith [fs__law_source, fs__law_right]
    exact ⟨ns, i, rfl, i0, by omega, fun x y hx0 hx hy0 hy => ⟨⟨x, y, 0, rfl, hx0, hx, hy0, hy, by decide, by decide⟩, 1000000, rfl, (by decide), hR _ rfl⟩⟩
  · simp [rangeD]; omega
  · rw [List.nil_append, boolsD_true]
    simp only [all_true]
    exact h
theorem law_true (ns : List Int) (hn : ns.length ≤ 63) : fs_law [.scr ns] none fun r _ => r = .val (.bool true) := ⟨ns, rfl, rfl⟩
section
variable {P : Program} {w : World} {K : Fg} {mg : Str → Option Value} {base : Heap}
theorem d_law (T : Tx w K mg) {cdv : Value} {A : Around} {outer : List Env} {s : Shared} {H : Hp} {E : XK} (hB : TbB K mg base) (hr : Room 9 (A.deeper (envOfC "law" (defScope st_law) s.heap.objs.size T.f_law cdv))) (hgd : (A.deeper (envOfC "law" (defScope st_law) s.heap.objs.size T.f_law cdv)).guards = some []) :
    PSs (cxOf CX0 P w K mg base N_law "law" (defScope st_law) T.f_law cdv A outer s H E).nox (defBody st_law) (upS K W0 b_law) :=
  (ss_one (s_ret (e_all rfl (by rfl) T.n_all (a_cons (e_fz (e_lc (own := [("_law_k", 1)]) rfl sc_law.nd (i_range1 (by rfl) T.n_range (e_max rfl (by rfl) T.n_max (a_cons e_int (a_cons (e_min rfl (by rfl) T.n_min (a_cons (e_len (by rfl) T.n_len (a_cons (e_var 0 (pv 0)) a_nil)) (a_cons e_int a_nil))) a_nil)))) (blkOk_by (own := [("_law_k", 1)]) (N := N_law) (sc := defScope st_law) (by decide +kernel)) (fun _ _ _ _ _ => (gw_name rfl (pg_name (i := 1) sc_law.nd rfl (.inl rfl)) (by decide))) (fun _ _ _ _ _ => ts_yes) (fun _ _ _ _ _ => (e_callS 1000000 (ok__law_right T hB) (hr.mono (by decide)) hgd (by rfl) T.g__law_right T.F__law_right.kp T.b__law_right pass0 (e_callL (ok__law_source T) (hr.mono (by decide)) hgd (by rfl) T.g__law_source T.F__law_source.kp T.b__law_source pass0 (a_cons (e_var 0 (pv 0)) (a_cons (e_var 1 (pv 1)) a_nil))) as_nil (fun _ _ _ => .nil))))) a_nil))))
theorem ok_law (T : Tx w K mg) (hB : TbB K mg base) : Fn P w K mg base CX0 10 T.f_law T.fd_law ["_law_script"] (lift K 1 fs_law) := fn_data T.F_law sc_law b_law (fun _ _ _ _ _ _ hr hgd => d_law T hB hr hgd) p_law
end
def mkTx {w : World} {K : Fg} {h : Heap} {mg : Str → Option Value} (X : K.In h) (G : h.Ns mainGlobals mg) {cT0 pT0 : Addr} {C_RoundingError : Addr} {C_InvalidChain : Addr} {nm_InvalidChain q_InvalidChain : Str} {N_InvalidChain : Addr} {bs_InvalidChain bm_InvalidChain : List Value} {sn_InvalidChain : List Str} {sub_InvalidChain : List Value} {ab_InvalidChain : Bool} {col_InvalidChain : Option Bool} {dd_InvalidChain : Option Addr} {k0_InvalidChain k1_InvalidChain k2_InvalidChain k3_InvalidChain k5_InvalidChain : Option Value} {C_InvalidNumber : Addr} {nm_InvalidNumber q_InvalidNumber : Str} {N_InvalidNumber : Addr} {bs_InvalidNumber bm_InvalidNumber : List Value} {sn_InvalidNumber : List Str} {sub_InvalidNumber : List Value} {ab_InvalidNumber : Bool} {col_InvalidNumber : Option Bool} {dd_InvalidNumber : Option Addr} {k0_InvalidNumber k1_InvalidNumber k2_InvalidNumber k3_InvalidNumber k5_InvalidNumber : Option Value} {C_InvalidText : Addr} {nm_InvalidText q_InvalidText : Str} {N_InvalidText : Addr} {bs_InvalidText bm_InvalidText : List Value} {sn_InvalidText : List Str} {sub_InvalidText : List Value} {ab_InvalidText : Bool} {col_InvalidText : Option Bool} {dd_InvalidText : Option Addr} {k0_InvalidText k1_InvalidText k2_InvalidText k3_InvalidText k5_InvalidText : Option Value} {f0 : Addr} {od0 an0 : Option Addr} {sl0 : Array (Option Value)} {oc0 kV0 dc0 pm0 cd0 ct0 : Value} {f1 : Addr} {od1 an1 : Option Addr} {sl1 : Array (Option Value)} {oc1 kV1 dc1 pm1 cd1 ct1 : Value} {f2 : Addr} {od2 an2 : Option Addr} {sl2 : Array (Option Value)} {oc2 kV2 dc2 pm2 cd2 ct2 : Value} {f3 : Addr} {od3 an3 : Option Addr} {sl3 : Array (Option Value)} {oc3 kV3 dc3 pm3 cd3 ct3 : Value} {f4 : Addr} {od4 an4 : Option Addr} {sl4 : Array (Option Value)} {oc4 kV4 dc4 pm4 cd4 ct4 : Value} {f5 : Addr} {od5 an5 : Option Addr} {sl5 : Array (Option Value)} {oc5 kV5 dc5 pm5 cd5 ct5 : Value} {f6 : Addr} {od6 an6 : Option Addr} {sl6 : Array (Option Value)} {oc6 kV6 dc6 pm6 cd6 ct6 : Value} {f7 : Addr} {od7 an7 : Option Addr} {sl7 : Array (Option Value)} {oc7 kV7 dc7 pm7 cd7 ct7 : Value} {f8 : Addr} {od8 an8 : Option Addr} {sl8 : Array (Option Value)} {oc8 kV8 dc8 pm8 cd8 ct8 : Value} {f9 : Addr} {od9 an9 : Option Addr} {sl9 : Array (Option Value)} {oc9 kV9 dc9 pm9 cd9 ct9 : Value} {f10 : Addr} {od10 an10 : Option Addr} {sl10 : Array (Option Value)} {oc10 kV10 dc10 pm10 cd10 ct10 : Value} {f11 : Addr} {od11 an11 : Option Addr} {sl11 : Array (Option Value)} {oc11 kV11 dc11 pm11 cd11 ct11 : Value} {f12 : Addr} {od12 an12 : Option Addr} {sl12 : Array (Option Value)} {oc12 kV12 dc12 pm12 cd12 ct12 : Value} {f13 : Addr} {od13 an13 : Option Addr} {sl13 : Array (Option Value)} {oc13 kV13 dc13 pm13 cd13 ct13 : Value} {f14 : Addr} {od14 an14 : Option Addr} {sl14 : Array (Option Value)} {oc14 kV14 dc14 pm14 cd14 ct14 : Value} {f15 : Addr} {od15 an15 : Option Addr} {sl15 : Array (Option Value)} {oc15 kV15 dc15 pm15 cd15 ct15 : Value} {f16 : Addr} {od16 an16 : Option Addr} {sl16 : Array (Option Value)} {oc16 kV16 dc16 pm16 cd16 ct16 : Value} {f17 : Addr} {od17 an17 : Option Addr} {sl17 : Array (Option Value)} {oc17 kV17 dc17 pm17 cd17 ct17 : Value} {f18 : Addr} {od18 an18 : Option Addr} {sl18 : Array (Option Value)} {oc18 kV18 dc18 pm18 cd18 ct18 : Value} {f19 : Addr} {od19 an19 : Option Addr} {sl19 : Array (Option Value)} {oc19 kV19 dc19 pm19 cd19 ct19 : Value} {f20 : Addr} {od20 an20 : Option Addr} {sl20 : Array (Option Value)} {oc20 kV20 dc20 pm20 cd20 ct20 : Value} {f21 : Addr} {od21 an21 : Option Addr} {sl21 : Array (Option Value)} {oc21 kV21 dc21 pm21 cd21 ct21 : Value} {f22 : Addr} {od22 an22 : Option Addr} {sl22 : Array (Option Value)} {oc22 kV22 dc22 pm22 cd22 ct22 : Value} {f23 : Addr} {od23 an23 : Option Addr} {sl23 : Array (Option Value)} {oc23 kV23 dc23 pm23 cd23 ct23 : Value} {f24 : Addr} {od24 an24 : Option Addr} {sl24 : Array (Option Value)} {oc24 kV24 dc24 pm24 cd24 ct24 : Value} {f25 : Addr} {od25 an25 : Option Addr} {sl25 : Array (Option Value)} {oc25 kV25 dc25 pm25 cd25 ct25 : Value} {f26 : Addr} {od26 an26 : Option Addr} {sl26 : Array (Option Value)} {oc26 kV26 dc26 pm26 cd26 ct26 : Value} {f27 : Addr} {od27 an27 : Option Addr} {sl27 : Array (Option Value)} {oc27 kV27 dc27 pm27 cd27 ct27 : Value} {f28 : Addr} {od28 an28 : Option Addr} {sl28 : Array (Option Value)} {oc28 kV28 dc28 pm28 cd28 ct28 : Value} {f29 : Addr} {od29 an29 : Option Addr} {sl29 : Array (Option Value)} {oc29 kV29 dc29 pm29 cd29 ct29 : Value} {f30 : Addr} {od30 an30 : Option Addr} {sl30 : Array (Option Value)} {oc30 kV30 dc30 pm30 cd30 ct30 : Value} {f31 : Addr} {od31 an31 : Option Addr} {sl31 : Array (Option Value)} {oc31 kV31 dc31 pm31 cd31 ct31 : Value} {f32 : Addr} {od32 an32 : Option Addr} {sl32 : Array (Option Value)} {oc32 kV32 dc32 pm32 cd32 ct32 : Value} {f33 : Addr} {od33 an33 : Option Addr} {sl33 : Array (Option Value)} {oc33 kV33 dc33 pm33 cd33 ct33 : Value} {f34 : Addr} {od34 an34 : Option Addr} {sl34 : Array (Option Value)} {oc34 kV34 dc34 pm34 cd34 ct34 : Value} {f35 : Addr} {od35 an35 : Option Addr} {sl35 : Array (Option Value)} {oc35 kV35 dc35 pm35 cd35 ct35 : Value} {f36 : Addr} {od36 an36 : Option Addr} {sl36 : Array (Option Value)} {oc36 kV36 dc36 pm36 cd36 ct36 : Value} {f37 : Addr} {od37 an37 : Option Addr} {sl37 : Array (Option Value)} {oc37 kV37 dc37 pm37 cd37 ct37 : Value} {f38 : Addr} {od38 an38 : Option Addr} {sl38 : Array (Option Value)} {oc38 kV38 dc38 pm38 cd38 ct38 : Value} {f39 : Addr} {od39 an39 : Option Addr} {sl39 : Array (Option Value)} {oc39 kV39 dc39 pm39 cd39 ct39 : Value} {tk_BETWEEN_STEPS : Tok} {tk_DIGITS : Tok} {tk_MOST_STEPS : Tok} {tk_MOST_WIDTH : Tok} {tk_PAIR_cells : Tok} {tk_PAIR_chains : Tok} {tk_RULES_0 : Tok} {tk_RULES_1 : Tok} {tk_RULES_2 : Tok} {tk_RULES_3 : Tok} {tk_RULES_4 : Tok} {tk_RULES_5 : Tok} {ra_RULES : Addr} {rd_RULES : Option Addr} {rn_RULES : Nat} {rs_RULES : Array (Option Value)} {tk_SLASH : Tok} {tk_SPACE : Tok}
    (a0 : PySem.W.findIn K (.ref C_InvalidText) "__init__" = some (some (.ref f0))) (i0 : PySem.W.isFn K (.ref f0) = true)
    (l0 : K.lookup f0 = some ⟨oc0, od0, .func (PySem.W.fnOf "__init__" "InvalidText.__init__" (defArgs st_InvalidText_init) (defBody st_InvalidText_init) (defScope st_InvalidText_init) .none kV0 dc0 pm0 an0 cd0 ct0), sl0⟩) (c0 : PySem.W.codeIn K cd0 "InvalidText.__init__" = true) (k0 : PySem.W.keepIn K (.ref f0) = true)
    (a1 : PySem.W.findIn K (.ref C_InvalidChain) "__init__" = some (some (.ref f1))) (i1 : PySem.W.isFn K (.ref f1) = true)
    (l1 : K.lookup f1 = some ⟨oc1, od1, .func (PySem.W.fnOf "__init__" "InvalidChain.__init__" (defArgs st_InvalidChain_init) (defBody st_InvalidChain_init) (defScope st_InvalidChain_init) .none kV1 dc1 pm1 an1 cd1 ct1), sl1⟩) (c1 : PySem.W.codeIn K cd1 "InvalidChain.__init__" = true) (k1 : PySem.W.keepIn K (.ref f1) = true)
    (a2 : PySem.W.findIn K (.ref C_InvalidNumber) "__init__" = some (some (.ref f2))) (i2 : PySem.W.isFn K (.ref f2) = true)
    (l2 : K.lookup f2 = some ⟨oc2, od2, .func (PySem.W.fnOf "__init__" "InvalidNumber.__init__" (defArgs st_InvalidNumber_init) (defBody st_InvalidNumber_init) (defScope st_InvalidNumber_init) .none kV2 dc2 pm2 an2 cd2 ct2), sl2⟩) (c2 : PySem.W.codeIn K cd2 "InvalidNumber.__init__" = true) (k2 : PySem.W.keepIn K (.ref f2) = true)
    (a3 : PySem.W.nsIn K mainGlobals "is_int" = some (some (.ref f3)))
    (l3 : K.lookup f3 = some ⟨oc3, od3, .func (PySem.W.fnOf "is_int" "is_int" (defArgs st_is_int) (defBody st_is_int) (defScope st_is_int) .none kV3 dc3 pm3 an3 cd3 ct3), sl3⟩) (c3 : PySem.W.codeIn K cd3 "is_int" = true) (k3 : PySem.W.keepIn K (.ref f3) = true)
    (a4 : PySem.W.nsIn K mainGlobals "common_divisor" = some (some (.ref f4)))
    (l4 : K.lookup f4 = some ⟨oc4, od4, .func (PySem.W.fnOf "common_divisor" "common_divisor" (defArgs st_common_divisor) (defBody st_common_divisor) (defScope st_common_divisor) .none kV4 dc4 pm4 an4 cd4 ct4), sl4⟩) (c4 : PySem.W.codeIn K cd4 "common_divisor" = true) (k4 : PySem.W.keepIn K (.ref f4) = true)
    (a5 : PySem.W.nsIn K mainGlobals "is_number" = some (some (.ref f5)))
    (l5 : K.lookup f5 = some ⟨oc5, od5, .func (PySem.W.fnOf "is_number" "is_number" (defArgs st_is_number) (defBody st_is_number) (defScope st_is_number) .none kV5 dc5 pm5 an5 cd5 ct5), sl5⟩) (c5 : PySem.W.codeIn K cd5 "is_number" = true) (k5 : PySem.W.keepIn K (.ref f5) = true)
    (a6 : PySem.W.nsIn K mainGlobals "is_width" = some (some (.ref f6)))
    (l6 : K.lookup f6 = some ⟨oc6, od6, .func (PySem.W.fnOf "is_width" "is_width" (defArgs st_is_width) (defBody st_is_width) (defScope st_is_width) .none kV6 dc6 pm6 an6 cd6 ct6), sl6⟩) (c6 : PySem.W.codeIn K cd6 "is_width" = true) (k6 : PySem.W.keepIn K (.ref f6) = true)
    (a7 : PySem.W.nsIn K mainGlobals "check_number" = some (some (.ref f7)))
    (l7 : K.lookup f7 = some ⟨oc7, od7, .func (PySem.W.fnOf "check_number" "check_number" (defArgs st_check_number) (defBody st_check_number) (defScope st_check_number) .none kV7 dc7 pm7 an7 cd7 ct7), sl7⟩) (c7 : PySem.W.codeIn K cd7 "check_number" = true) (k7 : PySem.W.keepIn K (.ref f7) = true)
    (a8 : PySem.W.nsIn K mainGlobals "is_rule" = some (some (.ref f8)))
    (l8 : K.lookup f8 = some ⟨oc8, od8, .func (PySem.W.fnOf "is_rule" "is_rule" (defArgs st_is_rule) (defBody st_is_rule) (defScope st_is_rule) .none kV8 dc8 pm8 an8 cd8 ct8), sl8⟩) (c8 : PySem.W.codeIn K cd8 "is_rule" = true) (k8 : PySem.W.keepIn K (.ref f8) = true)
    (a9 : PySem.W.nsIn K mainGlobals "is_step" = some (some (.ref f9)))
    (l9 : K.lookup f9 = some ⟨oc9, od9, .func (PySem.W.fnOf "is_step" "is_step" (defArgs st_is_step) (defBody st_is_step) (defScope st_is_step) .none kV9 dc9 pm9 an9 cd9 ct9), sl9⟩) (c9 : PySem.W.codeIn K cd9 "is_step" = true) (k9 : PySem.W.keepIn K (.ref f9) = true)
    (a10 : PySem.W.nsIn K mainGlobals "is_chain" = some (some (.ref f10)))
    (l10 : K.lookup f10 = some ⟨oc10, od10, .func (PySem.W.fnOf "is_chain" "is_chain" (defArgs st_is_chain) (defBody st_is_chain) (defScope st_is_chain) .none kV10 dc10 pm10 an10 cd10 ct10), sl10⟩) (c10 : PySem.W.codeIn K cd10 "is_chain" = true) (k10 : PySem.W.keepIn K (.ref f10) = true)
    (a11 : PySem.W.nsIn K mainGlobals "check_chain" = some (some (.ref f11)))
    (l11 : K.lookup f11 = some ⟨oc11, od11, .func (PySem.W.fnOf "check_chain" "check_chain" (defArgs st_check_chain) (defBody st_check_chain) (defScope st_check_chain) .none kV11 dc11 pm11 an11 cd11 ct11), sl11⟩) (c11 : PySem.W.codeIn K cd11 "check_chain" = true) (k11 : PySem.W.keepIn K (.ref f11) = true)
    (a12 : PySem.W.nsIn K mainGlobals "format_number" = some (some (.ref f12)))
    (l12 : K.lookup f12 = some ⟨oc12, od12, .func (PySem.W.fnOf "format_number" "format_number" (defArgs st_format_number) (defBody st_format_number) (defScope st_format_number) .none kV12 dc12 pm12 an12 cd12 ct12), sl12⟩) (c12 : PySem.W.codeIn K cd12 "format_number" = true) (k12 : PySem.W.keepIn K (.ref f12) = true)
    (a13 : PySem.W.nsIn K mainGlobals "format_chain" = some (some (.ref f13)))
    (l13 : K.lookup f13 = some ⟨oc13, od13, .func (PySem.W.fnOf "format_chain" "format_chain" (defArgs st_format_chain) (defBody st_format_chain) (defScope st_format_chain) .none kV13 dc13 pm13 an13 cd13 ct13), sl13⟩) (c13 : PySem.W.codeIn K cd13 "format_chain" = true) (k13 : PySem.W.keepIn K (.ref f13) = true)
    (a14 : PySem.W.nsIn K mainGlobals "int_in" = some (some (.ref f14)))
    (l14 : K.lookup f14 = some ⟨oc14, od14, .func (PySem.W.fnOf "int_in" "int_in" (defArgs st_int_in) (defBody st_int_in) (defScope st_int_in) .none kV14 dc14 pm14 an14 cd14 ct14), sl14⟩) (c14 : PySem.W.codeIn K cd14 "int_in" = true) (k14 : PySem.W.keepIn K (.ref f14) = true)
    (a15 : PySem.W.nsIn K mainGlobals "number_in" = some (some (.ref f15)))
    (l15 : K.lookup f15 = some ⟨oc15, od15, .func (PySem.W.fnOf "number_in" "number_in" (defArgs st_number_in) (defBody st_number_in) (defScope st_number_in) .none kV15 dc15 pm15 an15 cd15 ct15), sl15⟩) (c15 : PySem.W.codeIn K cd15 "number_in" = true) (k15 : PySem.W.keepIn K (.ref f15) = true)
    (a16 : PySem.W.nsIn K mainGlobals "step_in" = some (some (.ref f16)))
    (l16 : K.lookup f16 = some ⟨oc16, od16, .func (PySem.W.fnOf "step_in" "step_in" (defArgs st_step_in) (defBody st_step_in) (defScope st_step_in) .none kV16 dc16 pm16 an16 cd16 ct16), sl16⟩) (c16 : PySem.W.codeIn K cd16 "step_in" = true) (k16 : PySem.W.keepIn K (.ref f16) = true)
    (a17 : PySem.W.nsIn K mainGlobals "chain_in" = some (some (.ref f17)))
    (l17 : K.lookup f17 = some ⟨oc17, od17, .func (PySem.W.fnOf "chain_in" "chain_in" (defArgs st_chain_in) (defBody st_chain_in) (defScope st_chain_in) .none kV17 dc17 pm17 an17 cd17 ct17), sl17⟩) (c17 : PySem.W.codeIn K cd17 "chain_in" = true) (k17 : PySem.W.keepIn K (.ref f17) = true)
    (a18 : PySem.W.nsIn K mainGlobals "parse_number" = some (some (.ref f18)))
    (l18 : K.lookup f18 = some ⟨oc18, od18, .func (PySem.W.fnOf "parse_number" "parse_number" (defArgs st_parse_number) (defBody st_parse_number) (defScope st_parse_number) .none kV18 dc18 pm18 an18 cd18 ct18), sl18⟩) (c18 : PySem.W.codeIn K cd18 "parse_number" = true) (k18 : PySem.W.keepIn K (.ref f18) = true)
    (a19 : PySem.W.nsIn K mainGlobals "parse_chain" = some (some (.ref f19)))
    (l19 : K.lookup f19 = some ⟨oc19, od19, .func (PySem.W.fnOf "parse_chain" "parse_chain" (defArgs st_parse_chain) (defBody st_parse_chain) (defScope st_parse_chain) .none kV19 dc19 pm19 an19 cd19 ct19), sl19⟩) (c19 : PySem.W.codeIn K cd19 "parse_chain" = true) (k19 : PySem.W.keepIn K (.ref f19) = true)
    (a20 : PySem.W.nsIn K mainGlobals "_law_source" = some (some (.ref f20)))
    (l20 : K.lookup f20 = some ⟨oc20, od20, .func (PySem.W.fnOf "_law_source" "_law_source" (defArgs st__law_source) (defBody st__law_source) (defScope st__law_source) .none kV20 dc20 pm20 an20 cd20 ct20), sl20⟩) (c20 : PySem.W.codeIn K cd20 "_law_source" = true) (k20 : PySem.W.keepIn K (.ref f20) = true)
    (a21 : PySem.W.nsIn K mainGlobals "_law_draw" = some (some (.ref f21)))
    (l21 : K.lookup f21 = some ⟨oc21, od21, .func (PySem.W.fnOf "_law_draw" "_law_draw" (defArgs st__law_draw) (defBody st__law_draw) (defScope st__law_draw) .none kV21 dc21 pm21 an21 cd21 ct21), sl21⟩) (c21 : PySem.W.codeIn K cd21 "_law_draw" = true) (k21 : PySem.W.keepIn K (.ref f21) = true)
    (a22 : PySem.W.nsIn K mainGlobals "_law_pick" = some (some (.ref f22)))
    (l22 : K.lookup f22 = some ⟨oc22, od22, .func (PySem.W.fnOf "_law_pick" "_law_pick" (defArgs st__law_pick) (defBody st__law_pick) (defScope st__law_pick) .none kV22 dc22 pm22 an22 cd22 ct22), sl22⟩) (c22 : PySem.W.codeIn K cd22 "_law_pick" = true) (k22 : PySem.W.keepIn K (.ref f22) = true)
    (a23 : PySem.W.nsIn K mainGlobals "_law_divisor" = some (some (.ref f23)))
    (l23 : K.lookup f23 = some ⟨oc23, od23, .func (PySem.W.fnOf "_law_divisor" "_law_divisor" (defArgs st__law_divisor) (defBody st__law_divisor) (defScope st__law_divisor) .none kV23 dc23 pm23 an23 cd23 ct23), sl23⟩) (c23 : PySem.W.codeIn K cd23 "_law_divisor" = true) (k23 : PySem.W.keepIn K (.ref f23) = true)
    (a24 : PySem.W.nsIn K mainGlobals "_law_low" = some (some (.ref f24)))
    (l24 : K.lookup f24 = some ⟨oc24, od24, .func (PySem.W.fnOf "_law_low" "_law_low" (defArgs st__law_low) (defBody st__law_low) (defScope st__law_low) .none kV24 dc24 pm24 an24 cd24 ct24), sl24⟩) (c24 : PySem.W.codeIn K cd24 "_law_low" = true) (k24 : PySem.W.keepIn K (.ref f24) = true)
    (a25 : PySem.W.nsIn K mainGlobals "_law_scaled" = some (some (.ref f25)))
    (l25 : K.lookup f25 = some ⟨oc25, od25, .func (PySem.W.fnOf "_law_scaled" "_law_scaled" (defArgs st__law_scaled) (defBody st__law_scaled) (defScope st__law_scaled) .none kV25 dc25 pm25 an25 cd25 ct25), sl25⟩) (c25 : PySem.W.codeIn K cd25 "_law_scaled" = true) (k25 : PySem.W.keepIn K (.ref f25) = true)
    (a26 : PySem.W.nsIn K mainGlobals "_law_number" = some (some (.ref f26)))
    (l26 : K.lookup f26 = some ⟨oc26, od26, .func (PySem.W.fnOf "_law_number" "_law_number" (defArgs st__law_number) (defBody st__law_number) (defScope st__law_number) .none kV26 dc26 pm26 an26 cd26 ct26), sl26⟩) (c26 : PySem.W.codeIn K cd26 "_law_number" = true) (k26 : PySem.W.keepIn K (.ref f26) = true)
    (a27 : PySem.W.nsIn K mainGlobals "_law_rule" = some (some (.ref f27)))
    (l27 : K.lookup f27 = some ⟨oc27, od27, .func (PySem.W.fnOf "_law_rule" "_law_rule" (defArgs st__law_rule) (defBody st__law_rule) (defScope st__law_rule) .none kV27 dc27 pm27 an27 cd27 ct27), sl27⟩) (c27 : PySem.W.codeIn K cd27 "_law_rule" = true) (k27 : PySem.W.keepIn K (.ref f27) = true)
    (a28 : PySem.W.nsIn K mainGlobals "_law_chain" = some (some (.ref f28)))
    (l28 : K.lookup f28 = some ⟨oc28, od28, .func (PySem.W.fnOf "_law_chain" "_law_chain" (defArgs st__law_chain) (defBody st__law_chain) (defScope st__law_chain) .none kV28 dc28 pm28 an28 cd28 ct28), sl28⟩) (c28 : PySem.W.codeIn K cd28 "_law_chain" = true) (k28 : PySem.W.keepIn K (.ref f28) = true)
    (a29 : PySem.W.nsIn K mainGlobals "_law_is_int" = some (some (.ref f29)))
    (l29 : K.lookup f29 = some ⟨oc29, od29, .func (PySem.W.fnOf "_law_is_int" "_law_is_int" (defArgs st__law_is_int) (defBody st__law_is_int) (defScope st__law_is_int) .none kV29 dc29 pm29 an29 cd29 ct29), sl29⟩) (c29 : PySem.W.codeIn K cd29 "_law_is_int" = true) (k29 : PySem.W.keepIn K (.ref f29) = true)
    (a30 : PySem.W.nsIn K mainGlobals "_law_is_number" = some (some (.ref f30)))
    (l30 : K.lookup f30 = some ⟨oc30, od30, .func (PySem.W.fnOf "_law_is_number" "_law_is_number" (defArgs st__law_is_number) (defBody st__law_is_number) (defScope st__law_is_number) .none kV30 dc30 pm30 an30 cd30 ct30), sl30⟩) (c30 : PySem.W.codeIn K cd30 "_law_is_number" = true) (k30 : PySem.W.keepIn K (.ref f30) = true)
    (a31 : PySem.W.nsIn K mainGlobals "_law_is_chain" = some (some (.ref f31)))
    (l31 : K.lookup f31 = some ⟨oc31, od31, .func (PySem.W.fnOf "_law_is_chain" "_law_is_chain" (defArgs st__law_is_chain) (defBody st__law_is_chain) (defScope st__law_is_chain) .none kV31 dc31 pm31 an31 cd31 ct31), sl31⟩) (c31 : PySem.W.codeIn K cd31 "_law_is_chain" = true) (k31 : PySem.W.keepIn K (.ref f31) = true)
    (a32 : PySem.W.nsIn K mainGlobals "_law_odd" = some (some (.ref f32)))
    (l32 : K.lookup f32 = some ⟨oc32, od32, .func (PySem.W.fnOf "_law_odd" "_law_odd" (defArgs st__law_odd) (defBody st__law_odd) (defScope st__law_odd) .none kV32 dc32 pm32 an32 cd32 ct32), sl32⟩) (c32 : PySem.W.codeIn K cd32 "_law_odd" = true) (k32 : PySem.W.keepIn K (.ref f32) = true)
    (a33 : PySem.W.nsIn K mainGlobals "_law_count_in" = some (some (.ref f33)))
    (l33 : K.lookup f33 = some ⟨oc33, od33, .func (PySem.W.fnOf "_law_count_in" "_law_count_in" (defArgs st__law_count_in) (defBody st__law_count_in) (defScope st__law_count_in) .none kV33 dc33 pm33 an33 cd33 ct33), sl33⟩) (c33 : PySem.W.codeIn K cd33 "_law_count_in" = true) (k33 : PySem.W.keepIn K (.ref f33) = true)
    (a34 : PySem.W.nsIn K mainGlobals "_law_number_in" = some (some (.ref f34)))
    (l34 : K.lookup f34 = some ⟨oc34, od34, .func (PySem.W.fnOf "_law_number_in" "_law_number_in" (defArgs st__law_number_in) (defBody st__law_number_in) (defScope st__law_number_in) .none kV34 dc34 pm34 an34 cd34 ct34), sl34⟩) (c34 : PySem.W.codeIn K cd34 "_law_number_in" = true) (k34 : PySem.W.keepIn K (.ref f34) = true)
    (a35 : PySem.W.nsIn K mainGlobals "_law_chain_in" = some (some (.ref f35)))
    (l35 : K.lookup f35 = some ⟨oc35, od35, .func (PySem.W.fnOf "_law_chain_in" "_law_chain_in" (defArgs st__law_chain_in) (defBody st__law_chain_in) (defScope st__law_chain_in) .none kV35 dc35 pm35 an35 cd35 ct35), sl35⟩) (c35 : PySem.W.codeIn K cd35 "_law_chain_in" = true) (k35 : PySem.W.keepIn K (.ref f35) = true)
    (a36 : PySem.W.nsIn K mainGlobals "_law_changed" = some (some (.ref f36)))
    (l36 : K.lookup f36 = some ⟨oc36, od36, .func (PySem.W.fnOf "_law_changed" "_law_changed" (defArgs st__law_changed) (defBody st__law_changed) (defScope st__law_changed) .none kV36 dc36 pm36 an36 cd36 ct36), sl36⟩) (c36 : PySem.W.codeIn K cd36 "_law_changed" = true) (k36 : PySem.W.keepIn K (.ref f36) = true)
    (a37 : PySem.W.nsIn K mainGlobals "_law_told" = some (some (.ref f37)))
    (l37 : K.lookup f37 = some ⟨oc37, od37, .func (PySem.W.fnOf "_law_told" "_law_told" (defArgs st__law_told) (defBody st__law_told) (defScope st__law_told) .none kV37 dc37 pm37 an37 cd37 ct37), sl37⟩) (c37 : PySem.W.codeIn K cd37 "_law_told" = true) (k37 : PySem.W.keepIn K (.ref f37) = true)
    (a38 : PySem.W.nsIn K mainGlobals "_law_right" = some (some (.ref f38)))
    (l38 : K.lookup f38 = some ⟨oc38, od38, .func (PySem.W.fnOf "_law_right" "_law_right" (defArgs st__law_right) (defBody st__law_right) (defScope st__law_right) .none kV38 dc38 pm38 an38 cd38 ct38), sl38⟩) (c38 : PySem.W.codeIn K cd38 "_law_right" = true) (k38 : PySem.W.keepIn K (.ref f38) = true)
    (a39 : PySem.W.nsIn K mainGlobals "law" = some (some (.ref f39)))
    (l39 : K.lookup f39 = some ⟨oc39, od39, .func (PySem.W.fnOf "law" "law" (defArgs st_law) (defBody st_law) (defScope st_law) .none kV39 dc39 pm39 an39 cd39 ct39), sl39⟩) (c39 : PySem.W.codeIn K cd39 "law" = true) (k39 : PySem.W.keepIn K (.ref f39) = true)
    (z_abs : PySem.W.nsIn K mainGlobals "abs" = some none)
    (z_all : PySem.W.nsIn K mainGlobals "all" = some none)
    (z_bool : PySem.W.nsIn K mainGlobals "bool" = some none)
    (z_int : PySem.W.nsIn K mainGlobals "int" = some none)
    (z_isinstance : PySem.W.nsIn K mainGlobals "isinstance" = some none)
    (z_len : PySem.W.nsIn K mainGlobals "len" = some none)
    (z_list : PySem.W.nsIn K mainGlobals "list" = some none)
    (z_max : PySem.W.nsIn K mainGlobals "max" = some none)
    (z_min : PySem.W.nsIn K mainGlobals "min" = some none)
    (z_range : PySem.W.nsIn K mainGlobals "range" = some none)
    (z_repr : PySem.W.nsIn K mainGlobals "repr" = some none)
    (z_sorted : PySem.W.nsIn K mainGlobals "sorted" = some none)
    (z_str : PySem.W.nsIn K mainGlobals "str" = some none)
    (z_tuple : PySem.W.nsIn K mainGlobals "tuple" = some none)
    (y_BETWEEN_STEPS : PySem.W.nsIn K mainGlobals "BETWEEN_STEPS" = some (some (.str ", " tk_BETWEEN_STEPS)))
    (y_DIGITS : PySem.W.nsIn K mainGlobals "DIGITS" = some (some (.str "0123456789" tk_DIGITS)))
    (y_MOST_STEPS : PySem.W.nsIn K mainGlobals "MOST_STEPS" = some (some (.int 12 tk_MOST_STEPS)))
    (y_MOST_WIDTH : PySem.W.nsIn K mainGlobals "MOST_WIDTH" = some (some (.int 100 tk_MOST_WIDTH)))
    (y_PAIR_cells : PySem.W.nsIn K mainGlobals "PAIR_cells" = some (some (.int 2 tk_PAIR_cells)))
    (y_PAIR_chains : PySem.W.nsIn K mainGlobals "PAIR_chains" = some (some (.int 2 tk_PAIR_chains)))
    (y_RULES : PySem.W.nsIn K mainGlobals "RULES" = some (some (.ref ra_RULES)))
    (x_RULES : K.lookup ra_RULES = some ⟨.type "tuple", rd_RULES, .seq #[.str "down" tk_RULES_0, .str "half_down" tk_RULES_1, .str "half_even" tk_RULES_2, .str "half_up" tk_RULES_3, .str "odd" tk_RULES_4, .str "up" tk_RULES_5] rn_RULES, rs_RULES⟩)
    (y_SLASH : PySem.W.nsIn K mainGlobals "SLASH" = some (some (.str "/" tk_SLASH)))
    (y_SPACE : PySem.W.nsIn K mainGlobals "SPACE" = some (some (.str " " tk_SPACE)))
    (y_RE : PySem.W.nsIn K mainGlobals "RoundingError" = some (some (.ref C_RoundingError))) (eg_RE : PySem.W.specialIn K (.ref C_RoundingError) "__getattribute__" = some (some (.builtin "type.__getattribute__"))) (er_RE : PySem.W.readsIn K C_RoundingError (.type "type") = true) (ei_RE : PySem.W.findCls K (.ref C_RoundingError) (.type "type") "__init__" = some (.val (.builtin "ValueError.__init__")))
    (ex_RE : PySem.W.subIn K (.ref C_RoundingError) (.type "BaseException") = some true) (et_RE : PySem.W.typeIn K (.ref C_RoundingError) = some (.type "type")) (eu_RE : PySem.W.hasDictIn K C_RoundingError = true)
    (en_X : PySem.W.specialIn K (.builtin "object.__class__") "__get__" = some (some (.builtin "getset_descriptor.__get__"))) (eo_X : PySem.W.takesIn K (.builtin "object.__class__") = some true)
    (y_InvalidChain : PySem.W.nsIn K mainGlobals "InvalidChain" = some (some (.ref C_InvalidChain))) (ex_InvalidChain : PySem.W.subIn K (.ref C_InvalidChain) (.type "BaseException") = some true) (et_InvalidChain : PySem.W.typeIn K (.ref C_InvalidChain) = some (.type "type")) (ek_InvalidChain : PySem.W.keepIn K (.ref C_InvalidChain) = true) (eu_InvalidChain : PySem.W.hasDictIn K C_InvalidChain = true)
    (ec_InvalidChain : K.lookup C_InvalidChain = some (excClassObj nm_InvalidChain q_InvalidChain C_InvalidChain N_InvalidChain bs_InvalidChain bm_InvalidChain true sn_InvalidChain sub_InvalidChain ab_InvalidChain col_InvalidChain dd_InvalidChain k0_InvalidChain k1_InvalidChain k2_InvalidChain k3_InvalidChain k5_InvalidChain "ValueError.__new__")) (em_InvalidChain : PySem.HandSPX.refsVE bm_InvalidChain = true)
    (es_InvalidChain : PySem.W.findIn K (.ref C_InvalidChain) "__setattr__" = some (some (.builtin "object.__setattr__"))) (ev_InvalidChain : PySem.W.findIn K (.ref C_InvalidChain) "value" = some none) (eb_InvalidChain : PySem.W.findIn K (.ref C_InvalidChain) "__getattribute__" = some (some (.builtin "BaseException.__getattribute__"))) (ed_InvalidChain : PySem.W.findIn K (.ref C_InvalidChain) "__getattr__" = some none)
    (ei_InvalidChain : PySem.W.findIn K (.ref C_InvalidChain) "__class__" = some (some (.builtin "object.__class__"))) (ep_InvalidChain : PySem.W.mroIn K C_InvalidChain (.type "object") = some true)
    (kt_InvalidChain_InvalidChain : PySem.W.kitOne K (.ref C_InvalidChain) (.ref C_InvalidChain) = some true)
    (kt_InvalidChain_InvalidNumber : PySem.W.kitOne K (.ref C_InvalidChain) (.ref C_InvalidNumber) = some false)
    (kt_InvalidChain_InvalidText : PySem.W.kitOne K (.ref C_InvalidChain) (.ref C_InvalidText) = some false)
    (ka_InvalidChain_InvalidNumber_InvalidChain : PySem.W.kitAny K (.ref C_InvalidChain) [.ref C_InvalidNumber, .ref C_InvalidChain] = some true)
    (sb_InvalidChain_RoundingError : PySem.W.subIn K (.ref C_InvalidChain) (.ref C_RoundingError) = some true)
    (y_InvalidNumber : PySem.W.nsIn K mainGlobals "InvalidNumber" = some (some (.ref C_InvalidNumber))) (ex_InvalidNumber : PySem.W.subIn K (.ref C_InvalidNumber) (.type "BaseException") = some true) (et_InvalidNumber : PySem.W.typeIn K (.ref C_InvalidNumber) = some (.type "type")) (ek_InvalidNumber : PySem.W.keepIn K (.ref C_InvalidNumber) = true) (eu_InvalidNumber : PySem.W.hasDictIn K C_InvalidNumber = true)
    (ec_InvalidNumber : K.lookup C_InvalidNumber = some (excClassObj nm_InvalidNumber q_InvalidNumber C_InvalidNumber N_InvalidNumber bs_InvalidNumber bm_InvalidNumber true sn_InvalidNumber sub_InvalidNumber ab_InvalidNumber col_InvalidNumber dd_InvalidNumber k0_InvalidNumber k1_InvalidNumber k2_InvalidNumber k3_InvalidNumber k5_InvalidNumber "ValueError.__new__")) (em_InvalidNumber : PySem.HandSPX.refsVE bm_InvalidNumber = true)
    (es_InvalidNumber : PySem.W.findIn K (.ref C_InvalidNumber) "__setattr__" = some (some (.builtin "object.__setattr__"))) (ev_InvalidNumber : PySem.W.findIn K (.ref C_InvalidNumber) "value" = some none) (eb_InvalidNumber : PySem.W.findIn K (.ref C_InvalidNumber) "__getattribute__" = some (some (.builtin "BaseException.__getattribute__"))) (ed_InvalidNumber : PySem.W.findIn K (.ref C_InvalidNumber) "__getattr__" = some none)
    (ei_InvalidNumber : PySem.W.findIn K (.ref C_InvalidNumber) "__class__" = some (some (.builtin "object.__class__"))) (ep_InvalidNumber : PySem.W.mroIn K C_InvalidNumber (.type "object") = some true)
    (kt_InvalidNumber_InvalidChain : PySem.W.kitOne K (.ref C_InvalidNumber) (.ref C_InvalidChain) = some false)
    (kt_InvalidNumber_InvalidNumber : PySem.W.kitOne K (.ref C_InvalidNumber) (.ref C_InvalidNumber) = some true)
    (kt_InvalidNumber_InvalidText : PySem.W.kitOne K (.ref C_InvalidNumber) (.ref C_InvalidText) = some false)
    (ka_InvalidNumber_InvalidNumber_InvalidChain : PySem.W.kitAny K (.ref C_InvalidNumber) [.ref C_InvalidNumber, .ref C_InvalidChain] = some true)
    (sb_InvalidNumber_RoundingError : PySem.W.subIn K (.ref C_InvalidNumber) (.ref C_RoundingError) = some true)
    (y_InvalidText : PySem.W.nsIn K mainGlobals "InvalidText" = some (some (.ref C_InvalidText))) (ex_InvalidText : PySem.W.subIn K (.ref C_InvalidText) (.type "BaseException") = some true) (et_InvalidText : PySem.W.typeIn K (.ref C_InvalidText) = some (.type "type")) (ek_InvalidText : PySem.W.keepIn K (.ref C_InvalidText) = true) (eu_InvalidText : PySem.W.hasDictIn K C_InvalidText = true)
    (ec_InvalidText : K.lookup C_InvalidText = some (excClassObj nm_InvalidText q_InvalidText C_InvalidText N_InvalidText bs_InvalidText bm_InvalidText true sn_InvalidText sub_InvalidText ab_InvalidText col_InvalidText dd_InvalidText k0_InvalidText k1_InvalidText k2_InvalidText k3_InvalidText k5_InvalidText "ValueError.__new__")) (em_InvalidText : PySem.HandSPX.refsVE bm_InvalidText = true)
    (es_InvalidText : PySem.W.findIn K (.ref C_InvalidText) "__setattr__" = some (some (.builtin "object.__setattr__"))) (ev_InvalidText : PySem.W.findIn K (.ref C_InvalidText) "value" = some none) (eb_InvalidText : PySem.W.findIn K (.ref C_InvalidText) "__getattribute__" = some (some (.builtin "BaseException.__getattribute__"))) (ed_InvalidText : PySem.W.findIn K (.ref C_InvalidText) "__getattr__" = some none)
    (ei_InvalidText : PySem.W.findIn K (.ref C_InvalidText) "__class__" = some (some (.builtin "object.__class__"))) (ep_InvalidText : PySem.W.mroIn K C_InvalidText (.type "object") = some true)
    (kt_InvalidText_InvalidChain : PySem.W.kitOne K (.ref C_InvalidText) (.ref C_InvalidChain) = some false)
    (kt_InvalidText_InvalidNumber : PySem.W.kitOne K (.ref C_InvalidText) (.ref C_InvalidNumber) = some false)
    (kt_InvalidText_InvalidText : PySem.W.kitOne K (.ref C_InvalidText) (.ref C_InvalidText) = some true)
    (ka_InvalidText_InvalidNumber_InvalidChain : PySem.W.kitAny K (.ref C_InvalidText) [.ref C_InvalidNumber, .ref C_InvalidChain] = some false)
    (sb_InvalidText_RoundingError : PySem.W.subIn K (.ref C_InvalidText) (.ref C_RoundingError) = some true)
    (u_tab0 : cd38 = .ref cT0) (y_tab0 : h.get? pT0 = some (PySem.W.tabObj #[])) (t_tab0 : PySem.W.tabIn K "_law_right" = some (cT0, pT0)) (d_tab0 : PySem.W.codeHdIn K cT0 pT0 = true) (n_tab0 : K.lookup pT0 = none) : Tx w K mg :=
  { f_InvalidText_init := f0, fd_InvalidText_init := _, F_InvalidText_init := fun_mk (st := st_InvalidText_init) l0 c0 k0, b_InvalidText_init := (fun_mk (st := st_InvalidText_init) l0 c0 k0).binds (ps := ["self", "value"]) fun _ _ _ _ _ _ us hl => match us, hl with | [_, _], _ => rfl,
    f_InvalidChain_init := f1, fd_InvalidChain_init := _, F_InvalidChain_init := fun_mk (st := st_InvalidChain_init) l1 c1 k1, b_InvalidChain_init := (fun_mk (st := st_InvalidChain_init) l1 c1 k1).binds (ps := ["self", "value"]) fun _ _ _ _ _ _ us hl => match us, hl with | [_, _], _ => rfl,
    f_InvalidNumber_init := f2, fd_InvalidNumber_init := _, F_InvalidNumber_init := fun_mk (st := st_InvalidNumber_init) l2 c2 k2, b_InvalidNumber_init := (fun_mk (st := st_InvalidNumber_init) l2 c2 k2).binds (ps := ["self", "value"]) fun _ _ _ _ _ _ us hl => match us, hl with | [_, _], _ => rfl,
    f_is_int := f3, fd_is_int := _, F_is_int := fun_mk (st := st_is_int) l3 c3 k3, b_is_int := (fun_mk (st := st_is_int) l3 c3 k3).binds (ps := ["value", "least"]) fun _ _ _ _ _ _ us hl => match us, hl with | [_, _], _ => rfl,
    g_is_int := PySem.W.mg_of X G a3,
    f_common_divisor := f4, fd_common_divisor := _, F_common_divisor := fun_mk (st := st_common_divisor) l4 c4 k4, b_common_divisor := (fun_mk (st := st_common_divisor) l4 c4 k4).binds (ps := ["one", "other"]) fun _ _ _ _ _ _ us hl => match us, hl with | [_, _], _ => rfl,
    g_common_divisor := PySem.W.mg_of X G a4,
    f_is_number := f5, fd_is_number := _, F_is_number := fun_mk (st := st_is_number) l5 c5 k5, b_is_number := (fun_mk (st := st_is_number) l5 c5 k5).binds (ps := ["value"]) fun _ _ _ _ _ _ us hl => match us, hl with | [_], _ => rfl,
    g_is_number := PySem.W.mg_of X G a5,
    f_is_width := f6, fd_is_width := _, F_is_width := fun_mk (st := st_is_width) l6 c6 k6, b_is_width := (fun_mk (st := st_is_width) l6 c6 k6).binds (ps := ["value"]) fun _ _ _ _ _ _ us hl => match us, hl with | [_], _ => rfl,
    g_is_width := PySem.W.mg_of X G a6,
    f_check_number := f7, fd_check_number := _, F_check_number := fun_mk (st := st_check_number) l7 c7 k7, b_check_number := (fun_mk (st := st_check_number) l7 c7 k7).binds (ps := ["value"]) fun _ _ _ _ _ _ us hl => match us, hl with | [_], _ => rfl,
    g_check_number := PySem.W.mg_of X G a7,
    f_is_rule := f8, fd_is_rule := _, F_is_rule := fun_mk (st := st_is_rule) l8 c8 k8, b_is_rule := (fun_mk (st := st_is_rule) l8 c8 k8).binds (ps := ["value"]) fun _ _ _ _ _ _ us hl => match us, hl with | [_], _ => rfl,
    g_is_rule := PySem.W.mg_of X G a8,
    f_is_step := f9, fd_is_step := _, F_is_step := fun_mk (st := st_is_step) l9 c9 k9, b_is_step := (fun_mk (st := st_is_step) l9 c9 k9).binds (ps := ["value"]) fun _ _ _ _ _ _ us hl => match us, hl with | [_], _ => rfl,
    g_is_step := PySem.W.mg_of X G a9,
    f_is_chain := f10, fd_is_chain := _, F_is_chain := fun_mk (st := st_is_chain) l10 c10 k10, b_is_chain := (fun_mk (st := st_is_chain) l10 c10 k10).binds (ps := ["value"]) fun _ _ _ _ _ _ us hl => match us, hl with | [_], _ => rfl,
    g_is_chain := PySem.W.mg_of X G a10,
    f_check_chain := f11, fd_check_chain := _, F_check_chain := fun_mk (st := st_check_chain) l11 c11 k11, b_check_chain := (fun_mk (st := st_check_chain) l11 c11 k11).binds (ps := ["value"]) fun _ _ _ _ _ _ us hl => match us, hl with | [_], _ => rfl,
    g_check_chain := PySem.W.mg_of X G a11,
    f_format_number := f12, fd_format_number := _, F_format_number := fun_mk (st := st_format_number) l12 c12 k12, b_format_number := (fun_mk (st := st_format_number) l12 c12 k12).binds (ps := ["number"]) fun _ _ _ _ _ _ us hl => match us, hl with | [_], _ => rfl,
    g_format_number := PySem.W.mg_of X G a12,
    f_format_chain := f13, fd_format_chain := _, F_format_chain := fun_mk (st := st_format_chain) l13 c13 k13, b_format_chain := (fun_mk (st := st_format_chain) l13 c13 k13).binds (ps := ["chain"]) fun _ _ _ _ _ _ us hl => match us, hl with | [_], _ => rfl,
    g_format_chain := PySem.W.mg_of X G a13,
    f_int_in := f14, fd_int_in := _, F_int_in := fun_mk (st := st_int_in) l14 c14 k14, b_int_in := (fun_mk (st := st_int_in) l14 c14 k14).binds (ps := ["word"]) fun _ _ _ _ _ _ us hl => match us, hl with | [_], _ => rfl,
    g_int_in := PySem.W.mg_of X G a14,
    f_number_in := f15, fd_number_in := _, F_number_in := fun_mk (st := st_number_in) l15 c15 k15, b_number_in := (fun_mk (st := st_number_in) l15 c15 k15).binds (ps := ["text"]) fun _ _ _ _ _ _ us hl => match us, hl with | [_], _ => rfl,
    g_number_in := PySem.W.mg_of X G a15,
    f_step_in := f16, fd_step_in := _, F_step_in := fun_mk (st := st_step_in) l16 c16 k16, b_step_in := (fun_mk (st := st_step_in) l16 c16 k16).binds (ps := ["text"]) fun _ _ _ _ _ _ us hl => match us, hl with | [_], _ => rfl,
    g_step_in := PySem.W.mg_of X G a16,
    f_chain_in := f17, fd_chain_in := _, F_chain_in := fun_mk (st := st_chain_in) l17 c17 k17, b_chain_in := (fun_mk (st := st_chain_in) l17 c17 k17).binds (ps := ["text"]) fun _ _ _ _ _ _ us hl => match us, hl with | [_], _ => rfl,
    g_chain_in := PySem.W.mg_of X G a17,
    f_parse_number := f18, fd_parse_number := _, F_parse_number := fun_mk (st := st_parse_number) l18 c18 k18, b_parse_number := (fun_mk (st := st_parse_number) l18 c18 k18).binds (ps := ["text"]) fun _ _ _ _ _ _ us hl => match us, hl with | [_], _ => rfl,
    g_parse_number := PySem.W.mg_of X G a18,
    f_parse_chain := f19, fd_parse_chain := _, F_parse_chain := fun_mk (st := st_parse_chain) l19 c19 k19, b_parse_chain := (fun_mk (st := st_parse_chain) l19 c19 k19).binds (ps := ["text"]) fun _ _ _ _ _ _ us hl => match us, hl with | [_], _ => rfl,
    g_parse_chain := PySem.W.mg_of X G a19,
    f__law_source := f20, fd__law_source := _, F__law_source := fun_mk (st := st__law_source) l20 c20 k20, b__law_source := (fun_mk (st := st__law_source) l20 c20 k20).binds (ps := ["_law_script", "_law_k"]) fun _ _ _ _ _ _ us hl => match us, hl with | [_, _], _ => rfl,
    g__law_source := PySem.W.mg_of X G a20,
    f__law_draw := f21, fd__law_draw := _, F__law_draw := fun_mk (st := st__law_draw) l21 c21 k21, b__law_draw := (fun_mk (st := st__law_draw) l21 c21 k21).binds (ps := ["_law_source_here", "_law_size"]) fun _ _ _ _ _ _ us hl => match us, hl with | [_, _], _ => rfl,
    g__law_draw := PySem.W.mg_of X G a21,
    f__law_pick := f22, fd__law_pick := _, F__law_pick := fun_mk (st := st__law_pick) l22 c22 k22, b__law_pick := (fun_mk (st := st__law_pick) l22 c22 k22).binds (ps := ["_law_source_here", "_law_some"]) fun _ _ _ _ _ _ us hl => match us, hl with | [_, _], _ => rfl,
    g__law_pick := PySem.W.mg_of X G a22,
    f__law_divisor := f23, fd__law_divisor := _, F__law_divisor := fun_mk (st := st__law_divisor) l23 c23 k23, b__law_divisor := (fun_mk (st := st__law_divisor) l23 c23 k23).binds (ps := ["_law_one", "_law_other"]) fun _ _ _ _ _ _ us hl => match us, hl with | [_, _], _ => rfl,
    g__law_divisor := PySem.W.mg_of X G a23,
    f__law_low := f24, fd__law_low := _, F__law_low := fun_mk (st := st__law_low) l24 c24 k24, b__law_low := (fun_mk (st := st__law_low) l24 c24 k24).binds (ps := ["_law_n", "_law_d"]) fun _ _ _ _ _ _ us hl => match us, hl with | [_, _], _ => rfl,
    g__law_low := PySem.W.mg_of X G a24,
    f__law_scaled := f25, fd__law_scaled := _, F__law_scaled := fun_mk (st := st__law_scaled) l25 c25 k25, b__law_scaled := (fun_mk (st := st__law_scaled) l25 c25 k25).binds (ps := ["_law_number_here", "_law_e"]) fun _ _ _ _ _ _ us hl => match us, hl with | [_, _], _ => rfl,
    g__law_scaled := PySem.W.mg_of X G a25,
    f__law_number := f26, fd__law_number := _, F__law_number := fun_mk (st := st__law_number) l26 c26 k26, b__law_number := (fun_mk (st := st__law_number) l26 c26 k26).binds (ps := ["_law_source_here", "_law_most"]) fun _ _ _ _ _ _ us hl => match us, hl with | [_, _], _ => rfl,
    g__law_number := PySem.W.mg_of X G a26,
    f__law_rule := f27, fd__law_rule := _, F__law_rule := fun_mk (st := st__law_rule) l27 c27 k27, b__law_rule := (fun_mk (st := st__law_rule) l27 c27 k27).binds (ps := ["_law_source_here"]) fun _ _ _ _ _ _ us hl => match us, hl with | [_], _ => rfl,
    g__law_rule := PySem.W.mg_of X G a27,
    f__law_chain := f28, fd__law_chain := _, F__law_chain := fun_mk (st := st__law_chain) l28 c28 k28, b__law_chain := (fun_mk (st := st__law_chain) l28 c28 k28).binds (ps := ["_law_source_here", "_law_last", "_law_most", "_law_far"]) fun _ _ _ _ _ _ us hl => match us, hl with | [_, _, _, _], _ => rfl,
    g__law_chain := PySem.W.mg_of X G a28,
    f__law_is_int := f29, fd__law_is_int := _, F__law_is_int := fun_mk (st := st__law_is_int) l29 c29 k29, b__law_is_int := (fun_mk (st := st__law_is_int) l29 c29 k29).binds (ps := ["_law_value", "_law_least"]) fun _ _ _ _ _ _ us hl => match us, hl with | [_, _], _ => rfl,
    g__law_is_int := PySem.W.mg_of X G a29,
    f__law_is_number := f30, fd__law_is_number := _, F__law_is_number := fun_mk (st := st__law_is_number) l30 c30 k30, b__law_is_number := (fun_mk (st := st__law_is_number) l30 c30 k30).binds (ps := ["_law_value"]) fun _ _ _ _ _ _ us hl => match us, hl with | [_], _ => rfl,
    g__law_is_number := PySem.W.mg_of X G a30,
    f__law_is_chain := f31, fd__law_is_chain := _, F__law_is_chain := fun_mk (st := st__law_is_chain) l31 c31 k31, b__law_is_chain := (fun_mk (st := st__law_is_chain) l31 c31 k31).binds (ps := ["_law_value"]) fun _ _ _ _ _ _ us hl => match us, hl with | [_], _ => rfl,
    g__law_is_chain := PySem.W.mg_of X G a31,
    f__law_odd := f32, fd__law_odd := _, F__law_odd := fun_mk (st := st__law_odd) l32 c32 k32, b__law_odd := (fun_mk (st := st__law_odd) l32 c32 k32).binds (ps := ["_law_source_here"]) fun _ _ _ _ _ _ us hl => match us, hl with | [_], _ => rfl,
    g__law_odd := PySem.W.mg_of X G a32,
    f__law_count_in := f33, fd__law_count_in := _, F__law_count_in := fun_mk (st := st__law_count_in) l33 c33 k33, b__law_count_in := (fun_mk (st := st__law_count_in) l33 c33 k33).binds (ps := ["_law_word"]) fun _ _ _ _ _ _ us hl => match us, hl with | [_], _ => rfl,
    g__law_count_in := PySem.W.mg_of X G a33,
    f__law_number_in := f34, fd__law_number_in := _, F__law_number_in := fun_mk (st := st__law_number_in) l34 c34 k34, b__law_number_in := (fun_mk (st := st__law_number_in) l34 c34 k34).binds (ps := ["_law_line"]) fun _ _ _ _ _ _ us hl => match us, hl with | [_], _ => rfl,
    g__law_number_in := PySem.W.mg_of X G a34,
    f__law_chain_in := f35, fd__law_chain_in := _, F__law_chain_in := fun_mk (st := st__law_chain_in) l35 c35 k35, b__law_chain_in := (fun_mk (st := st__law_chain_in) l35 c35 k35).binds (ps := ["_law_line"]) fun _ _ _ _ _ _ us hl => match us, hl with | [_], _ => rfl,
    g__law_chain_in := PySem.W.mg_of X G a35,
    f__law_changed := f36, fd__law_changed := _, F__law_changed := fun_mk (st := st__law_changed) l36 c36 k36, b__law_changed := (fun_mk (st := st__law_changed) l36 c36 k36).binds (ps := ["_law_source_here", "_law_line"]) fun _ _ _ _ _ _ us hl => match us, hl with | [_, _], _ => rfl,
    g__law_changed := PySem.W.mg_of X G a36,
    f__law_told := f37, fd__law_told := _, F__law_told := fun_mk (st := st__law_told) l37 c37 k37, b__law_told := (fun_mk (st := st__law_told) l37 c37 k37).binds (ps := ["_law_ask"]) fun _ _ _ _ _ _ us hl => match us, hl with | [_], _ => rfl,
    g__law_told := PySem.W.mg_of X G a37,
    f__law_right := f38, fd__law_right := _, F__law_right := fun_mk (st := st__law_right) l38 c38 k38, b__law_right := (fun_mk (st := st__law_right) l38 c38 k38).binds (ps := ["_law_source_here"]) fun _ _ _ _ _ _ us hl => match us, hl with | [_], _ => rfl,
    g__law_right := PySem.W.mg_of X G a38,
    f_law := f39, fd_law := _, F_law := fun_mk (st := st_law) l39 c39 k39, b_law := (fun_mk (st := st_law) l39 c39 k39).binds (ps := ["_law_script"]) fun _ _ _ _ _ _ us hl => match us, hl with | [_], _ => rfl,
    g_law := PySem.W.mg_of X G a39,
    c_tab__law_right := cT0, P_tab__law_right := pT0, tab__law_right := t_tab0, code__law_right := u_tab0,
    C_RoundingError := C_RoundingError, g_RoundingError := PySem.W.mg_of X G y_RE, bc := ⟨eg_RE, er_RE, ei_RE⟩,
    C_InvalidChain := C_InvalidChain, g_InvalidChain := PySem.W.mg_of X G y_InvalidChain,
    xv_InvalidChain := ⟨⟨⟨_, _, _, _, _, _, _, _, _, _, _, _, _, _, _, ec_InvalidChain, em_InvalidChain⟩, es_InvalidChain, ex_InvalidChain, et_InvalidChain, ek_InvalidChain⟩, y_InvalidChain, a1, beq_iff_eq.mp i1, ev_InvalidChain⟩,
    C_InvalidNumber := C_InvalidNumber, g_InvalidNumber := PySem.W.mg_of X G y_InvalidNumber,
    xv_InvalidNumber := ⟨⟨⟨_, _, _, _, _, _, _, _, _, _, _, _, _, _, _, ec_InvalidNumber, em_InvalidNumber⟩, es_InvalidNumber, ex_InvalidNumber, et_InvalidNumber, ek_InvalidNumber⟩, y_InvalidNumber, a2, beq_iff_eq.mp i2, ev_InvalidNumber⟩,
    C_InvalidText := C_InvalidText, g_InvalidText := PySem.W.mg_of X G y_InvalidText,
    xv_InvalidText := ⟨⟨⟨_, _, _, _, _, _, _, _, _, _, _, _, _, _, _, ec_InvalidText, em_InvalidText⟩, es_InvalidText, ex_InvalidText, et_InvalidText, ek_InvalidText⟩, y_InvalidText, a0, beq_iff_eq.mp i0, ev_InvalidText⟩,
    hx_RoundingError := fun nm hm => by
      simp only [List.mem_cons, List.not_mem_nil, or_false] at hm
      rcases hm with rfl | rfl | rfl
      · exact ⟨_, y_InvalidChain, (show xsub "InvalidChain" "RoundingError" = true from by decide +kernel) ▸ PySem.W.exm_ref ex_RE eu_RE et_RE sb_InvalidChain_RoundingError⟩
      · exact ⟨_, y_InvalidNumber, (show xsub "InvalidNumber" "RoundingError" = true from by decide +kernel) ▸ PySem.W.exm_ref ex_RE eu_RE et_RE sb_InvalidNumber_RoundingError⟩
      · exact ⟨_, y_InvalidText, (show xsub "InvalidText" "RoundingError" = true from by decide +kernel) ▸ PySem.W.exm_ref ex_RE eu_RE et_RE sb_InvalidText_RoundingError⟩,
    hv := fun nm hm => by
      simp only [List.mem_cons, List.not_mem_nil, or_false] at hm
      rcases hm with rfl | rfl | rfl
      · exact ⟨_, y_InvalidChain, ⟨eb_InvalidChain, ed_InvalidChain, ex_InvalidChain, eu_InvalidChain⟩, ev_InvalidChain⟩
      · exact ⟨_, y_InvalidNumber, ⟨eb_InvalidNumber, ed_InvalidNumber, ex_InvalidNumber, eu_InvalidNumber⟩, ev_InvalidNumber⟩
      · exact ⟨_, y_InvalidText, ⟨eb_InvalidText, ed_InvalidText, ex_InvalidText, eu_InvalidText⟩, ev_InvalidText⟩,
    it_InvalidNumber_InvalidChain := fun nm hm => by
      simp only [List.mem_cons, List.not_mem_nil, or_false] at hm
      rcases hm with rfl | rfl | rfl
      · exact ⟨_, y_InvalidChain, ⟨by obtain ⟨cd, hc, _⟩ := PySem.W.any_some eu_InvalidChain; rw [hc]; rfl, eb_InvalidChain, ⟨_, ed_InvalidChain⟩, ex_InvalidChain, ei_InvalidChain, en_X, eo_X, ep_InvalidChain⟩, (show ((["InvalidNumber", "InvalidChain"] : List Str).any fun c => xsub "InvalidChain" c) = true from by decide +kernel) ▸ ka_InvalidChain_InvalidNumber_InvalidChain⟩
      · exact ⟨_, y_InvalidNumber, ⟨by obtain ⟨cd, hc, _⟩ := PySem.W.any_some eu_InvalidNumber; rw [hc]; rfl, eb_InvalidNumber, ⟨_, ed_InvalidNumber⟩, ex_InvalidNumber, ei_InvalidNumber, en_X, eo_X, ep_InvalidNumber⟩, (show ((["InvalidNumber", "InvalidChain"] : List Str).any fun c => xsub "InvalidNumber" c) = true from by decide +kernel) ▸ ka_InvalidNumber_InvalidNumber_InvalidChain⟩
      · exact ⟨_, y_InvalidText, ⟨by obtain ⟨cd, hc, _⟩ := PySem.W.any_some eu_InvalidText; rw [hc]; rfl, eb_InvalidText, ⟨_, ed_InvalidText⟩, ex_InvalidText, ei_InvalidText, en_X, eo_X, ep_InvalidText⟩, (show ((["InvalidNumber", "InvalidChain"] : List Str).any fun c => xsub "InvalidText" c) = false from by decide +kernel) ▸ ka_InvalidText_InvalidNumber_InvalidChain⟩,
    is_InvalidChain := fun nm hm => by
      simp only [List.mem_cons, List.not_mem_nil, or_false] at hm
      rcases hm with rfl | rfl | rfl
      · exact ⟨_, y_InvalidChain, ⟨by obtain ⟨cd, hc, _⟩ := PySem.W.any_some eu_InvalidChain; rw [hc]; rfl, eb_InvalidChain, ⟨_, ed_InvalidChain⟩, ex_InvalidChain, ei_InvalidChain, en_X, eo_X, ep_InvalidChain⟩, (show xsub "InvalidChain" "InvalidChain" = true from by decide +kernel) ▸ kt_InvalidChain_InvalidChain⟩
      · exact ⟨_, y_InvalidNumber, ⟨by obtain ⟨cd, hc, _⟩ := PySem.W.any_some eu_InvalidNumber; rw [hc]; rfl, eb_InvalidNumber, ⟨_, ed_InvalidNumber⟩, ex_InvalidNumber, ei_InvalidNumber, en_X, eo_X, ep_InvalidNumber⟩, (show xsub "InvalidNumber" "InvalidChain" = false from by decide +kernel) ▸ kt_InvalidNumber_InvalidChain⟩
      · exact ⟨_, y_InvalidText, ⟨by obtain ⟨cd, hc, _⟩ := PySem.W.any_some eu_InvalidText; rw [hc]; rfl, eb_InvalidText, ⟨_, ed_InvalidText⟩, ex_InvalidText, ei_InvalidText, en_X, eo_X, ep_InvalidText⟩, (show xsub "InvalidText" "InvalidChain" = false from by decide +kernel) ▸ kt_InvalidText_InvalidChain⟩,
    is_InvalidNumber := fun nm hm => by
      simp only [List.mem_cons, List.not_mem_nil, or_false] at hm
      rcases hm with rfl | rfl | rfl
      · exact ⟨_, y_InvalidChain, ⟨by obtain ⟨cd, hc, _⟩ := PySem.W.any_some eu_InvalidChain; rw [hc]; rfl, eb_InvalidChain, ⟨_, ed_InvalidChain⟩, ex_InvalidChain, ei_InvalidChain, en_X, eo_X, ep_InvalidChain⟩, (show xsub "InvalidChain" "InvalidNumber" = false from by decide +kernel) ▸ kt_InvalidChain_InvalidNumber⟩
      · exact ⟨_, y_InvalidNumber, ⟨by obtain ⟨cd, hc, _⟩ := PySem.W.any_some eu_InvalidNumber; rw [hc]; rfl, eb_InvalidNumber, ⟨_, ed_InvalidNumber⟩, ex_InvalidNumber, ei_InvalidNumber, en_X, eo_X, ep_InvalidNumber⟩, (show xsub "InvalidNumber" "InvalidNumber" = true from by decide +kernel) ▸ kt_InvalidNumber_InvalidNumber⟩
      · exact ⟨_, y_InvalidText, ⟨by obtain ⟨cd, hc, _⟩ := PySem.W.any_some eu_InvalidText; rw [hc]; rfl, eb_InvalidText, ⟨_, ed_InvalidText⟩, ex_InvalidText, ei_InvalidText, en_X, eo_X, ep_InvalidText⟩, (show xsub "InvalidText" "InvalidNumber" = false from by decide +kernel) ▸ kt_InvalidText_InvalidNumber⟩,
    is_InvalidText := fun nm hm => by
      simp only [List.mem_cons, List.not_mem_nil, or_false] at hm
      rcases hm with rfl | rfl | rfl
      · exact ⟨_, y_InvalidChain, ⟨by obtain ⟨cd, hc, _⟩ := PySem.W.any_some eu_InvalidChain; rw [hc]; rfl, eb_InvalidChain, ⟨_, ed_InvalidChain⟩, ex_InvalidChain, ei_InvalidChain, en_X, eo_X, ep_InvalidChain⟩, (show xsub "InvalidChain" "InvalidText" = false from by decide +kernel) ▸ kt_InvalidChain_InvalidText⟩
      · exact ⟨_, y_InvalidNumber, ⟨by obtain ⟨cd, hc, _⟩ := PySem.W.any_some eu_InvalidNumber; rw [hc]; rfl, eb_InvalidNumber, ⟨_, ed_InvalidNumber⟩, ex_InvalidNumber, ei_InvalidNumber, en_X, eo_X, ep_InvalidNumber⟩, (show xsub "InvalidNumber" "InvalidText" = false from by decide +kernel) ▸ kt_InvalidNumber_InvalidText⟩
      · exact ⟨_, y_InvalidText, ⟨by obtain ⟨cd, hc, _⟩ := PySem.W.any_some eu_InvalidText; rw [hc]; rfl, eb_InvalidText, ⟨_, ed_InvalidText⟩, ex_InvalidText, ei_InvalidText, en_X, eo_X, ep_InvalidText⟩, (show xsub "InvalidText" "InvalidText" = true from by decide +kernel) ▸ kt_InvalidText_InvalidText⟩,
    n_abs := PySem.W.mg_none_of X G z_abs,
    n_all := PySem.W.mg_none_of X G z_all,
    n_bool := PySem.W.mg_none_of X G z_bool,
    n_int := PySem.W.mg_none_of X G z_int,
    n_isinstance := PySem.W.mg_none_of X G z_isinstance,
    n_len := PySem.W.mg_none_of X G z_len,
    n_list := PySem.W.mg_none_of X G z_list,
    n_max := PySem.W.mg_none_of X G z_max,
    n_min := PySem.W.mg_none_of X G z_min,
    n_range := PySem.W.mg_none_of X G z_range,
    n_repr := PySem.W.mg_none_of X G z_repr,
    n_sorted := PySem.W.mg_none_of X G z_sorted,
    n_str := PySem.W.mg_none_of X G z_str,
    n_tuple := PySem.W.mg_none_of X G z_tuple,
    u_BETWEEN_STEPS := _, w_BETWEEN_STEPS := .str ", ", c_BETWEEN_STEPS := PySem.W.mg_of X G y_BETWEEN_STEPS, v_BETWEEN_STEPS := ⟨_, rfl⟩, r_BETWEEN_STEPS := fun _ => .str _,
    u_DIGITS := _, w_DIGITS := .str "0123456789", c_DIGITS := PySem.W.mg_of X G y_DIGITS, v_DIGITS := ⟨_, rfl⟩, r_DIGITS := fun _ => .str _,
    u_MOST_STEPS := _, w_MOST_STEPS := .int 12, c_MOST_STEPS := PySem.W.mg_of X G y_MOST_STEPS, v_MOST_STEPS := ⟨_, rfl⟩, r_MOST_STEPS := fun _ => .int _,
    u_MOST_WIDTH := _, w_MOST_WIDTH := .int 100, c_MOST_WIDTH := PySem.W.mg_of X G y_MOST_WIDTH, v_MOST_WIDTH := ⟨_, rfl⟩, r_MOST_WIDTH := fun _ => .int _,
    u_PAIR_cells := _, w_PAIR_cells := .int 2, c_PAIR_cells := PySem.W.mg_of X G y_PAIR_cells, v_PAIR_cells := ⟨_, rfl⟩, r_PAIR_cells := fun _ => .int _,
    u_PAIR_chains := _, w_PAIR_chains := .int 2, c_PAIR_chains := PySem.W.mg_of X G y_PAIR_chains, v_PAIR_chains := ⟨_, rfl⟩, r_PAIR_chains := fun _ => .int _,
    u_RULES := _, w_RULES := .ref ra_RULES, c_RULES := PySem.W.mg_of X G y_RULES, v_RULES := rfl, r_RULES := fun _ => .tup (.inr ⟨_, _, _, x_RULES, rfl, rfl, by (show 6 ≤ sizeLine; decide), (show Vals [.str "down", .str "half_down", .str "half_even", .str "half_up", .str "odd", .str "up"] _ from .cons ⟨_, rfl⟩ (.cons ⟨_, rfl⟩ (.cons ⟨_, rfl⟩ (.cons ⟨_, rfl⟩ (.cons ⟨_, rfl⟩ (.cons ⟨_, rfl⟩ (.nil)))))))⟩) (.cons (.str _) (.cons (.str _) (.cons (.str _) (.cons (.str _) (.cons (.str _) (.cons (.str _) (.nil))))))),
    u_SLASH := _, w_SLASH := .str "/", c_SLASH := PySem.W.mg_of X G y_SLASH, v_SLASH := ⟨_, rfl⟩, r_SLASH := fun _ => .str _,
    u_SPACE := _, w_SPACE := .str " ", c_SPACE := PySem.W.mg_of X G y_SPACE, v_SPACE := ⟨_, rfl⟩, r_SPACE := fun _ => .str _ }
theorem all_mk {l : PySem.W.OpenLaw} {w : World} {K : Fg} {h : Heap} {mg : Str → Option Value} {fa : Addr} (X : K.In h) (G : h.Ns mainGlobals mg) (hfa : mg "law" = some (.ref fa)) {cT0 pT0 : Addr} {C_RoundingError : Addr} {C_InvalidChain : Addr} {nm_InvalidChain q_InvalidChain : Str} {N_InvalidChain : Addr} {bs_InvalidChain bm_InvalidChain : List Value} {sn_InvalidChain : List Str} {sub_InvalidChain : List Value} {ab_InvalidChain : Bool} {col_InvalidChain : Option Bool} {dd_InvalidChain : Option Addr} {k0_InvalidChain k1_InvalidChain k2_InvalidChain k3_InvalidChain k5_InvalidChain : Option Value} {C_InvalidNumber : Addr} {nm_InvalidNumber q_InvalidNumber : Str} {N_InvalidNumber : Addr} {bs_InvalidNumber bm_InvalidNumber : List Value} {sn_InvalidNumber : List Str} {sub_InvalidNumber : List Value} {ab_InvalidNumber : Bool} {col_InvalidNumber : Option Bool} {dd_InvalidNumber : Option Addr} {k0_InvalidNumber k1_InvalidNumber k2_InvalidNumber k3_InvalidNumber k5_InvalidNumber : Option Value} {C_InvalidText : Addr} {nm_InvalidText q_InvalidText : Str} {N_InvalidText : Addr} {bs_InvalidText bm_InvalidText : List Value} {sn_InvalidText : List Str} {sub_InvalidText : List Value} {ab_InvalidText : Bool} {col_InvalidText : Option Bool} {dd_InvalidText : Option Addr} {k0_InvalidText k1_InvalidText k2_InvalidText k3_InvalidText k5_InvalidText : Option Value} {f0 : Addr} {od0 an0 : Option Addr} {sl0 : Array (Option Value)} {oc0 kV0 dc0 pm0 cd0 ct0 : Value} {f1 : Addr} {od1 an1 : Option Addr} {sl1 : Array (Option Value)} {oc1 kV1 dc1 pm1 cd1 ct1 : Value} {f2 : Addr} {od2 an2 : Option Addr} {sl2 : Array (Option Value)} {oc2 kV2 dc2 pm2 cd2 ct2 : Value} {f3 : Addr} {od3 an3 : Option Addr} {sl3 : Array (Option Value)} {oc3 kV3 dc3 pm3 cd3 ct3 : Value} {f4 : Addr} {od4 an4 : Option Addr} {sl4 : Array (Option Value)} {oc4 kV4 dc4 pm4 cd4 ct4 : Value} {f5 : Addr} {od5 an5 : Option Addr} {sl5 : Array (Option Value)} {oc5 kV5 dc5 pm5 cd5 ct5 : Value} {f6 : Addr} {od6 an6 : Option Addr} {sl6 : Array (Option Value)} {oc6 kV6 dc6 pm6 cd6 ct6 : Value} {f7 : Addr} {od7 an7 : Option Addr} {sl7 : Array (Option Value)} {oc7 kV7 dc7 pm7 cd7 ct7 : Value} {f8 : Addr} {od8 an8 : Option Addr} {sl8 : Array (Option Value)} {oc8 kV8 dc8 pm8 cd8 ct8 : Value} {f9 : Addr} {od9 an9 : Option Addr} {sl9 : Array (Option Value)} {oc9 kV9 dc9 pm9 cd9 ct9 : Value} {f10 : Addr} {od10 an10 : Option Addr} {sl10 : Array (Option Value)} {oc10 kV10 dc10 pm10 cd10 ct10 : Value} {f11 : Addr} {od11 an11 : Option Addr} {sl11 : Array (Option Value)} {oc11 kV11 dc11 pm11 cd11 ct11 : Value} {f12 : Addr} {od12 an12 : Option Addr} {sl12 : Array (Option Value)} {oc12 kV12 dc12 pm12 cd12 ct12 : Value} {f13 : Addr} {od13 an13 : Option Addr} {sl13 : Array (Option Value)} {oc13 kV13 dc13 pm13 cd13 ct13 : Value} {f14 : Addr} {od14 an14 : Option Addr} {sl14 : Array (Option Value)} {oc14 kV14 dc14 pm14 cd14 ct14 : Value} {f15 : Addr} {od15 an15 : Option Addr} {sl15 : Array (Option Value)} {oc15 kV15 dc15 pm15 cd15 ct15 : Value} {f16 : Addr} {od16 an16 : Option Addr} {sl16 : Array (Option Value)} {oc16 kV16 dc16 pm16 cd16 ct16 : Value} {f17 : Addr} {od17 an17 : Option Addr} {sl17 : Array (Option Value)} {oc17 kV17 dc17 pm17 cd17 ct17 : Value} {f18 : Addr} {od18 an18 : Option Addr} {sl18 : Array (Option Value)} {oc18 kV18 dc18 pm18 cd18 ct18 : Value} {f19 : Addr} {od19 an19 : Option Addr} {sl19 : Array (Option Value)} {oc19 kV19 dc19 pm19 cd19 ct19 : Value} {f20 : Addr} {od20 an20 : Option Addr} {sl20 : Array (Option Value)} {oc20 kV20 dc20 pm20 cd20 ct20 : Value} {f21 : Addr} {od21 an21 : Option Addr} {sl21 : Array (Option Value)} {oc21 kV21 dc21 pm21 cd21 ct21 : Value} {f22 : Addr} {od22 an22 : Option Addr} {sl22 : Array (Option Value)} {oc22 kV22 dc22 pm22 cd22 ct22 : Value} {f23 : Addr} {od23 an23 : Option Addr} {sl23 : Array (Option Value)} {oc23 kV23 dc23 pm23 cd23 ct23 : Value} {f24 : Addr} {od24 an24 : Option Addr} {sl24 : Array (Option Value)} {oc24 kV24 dc24 pm24 cd24 ct24 : Value} {f25 : Addr} {od25 an25 : Option Addr} {sl25 : Array (Option Value)} {oc25 kV25 dc25 pm25 cd25 ct25 : Value} {f26 : Addr} {od26 an26 : Option Addr} {sl26 : Array (Option Value)} {oc26 kV26 dc26 pm26 cd26 ct26 : Value} {f27 : Addr} {od27 an27 : Option Addr} {sl27 : Array (Option Value)} {oc27 kV27 dc27 pm27 cd27 ct27 : Value} {f28 : Addr} {od28 an28 : Option Addr} {sl28 : Array (Option Value)} {oc28 kV28 dc28 pm28 cd28 ct28 : Value} {f29 : Addr} {od29 an29 : Option Addr} {sl29 : Array (Option Value)} {oc29 kV29 dc29 pm29 cd29 ct29 : Value} {f30 : Addr} {od30 an30 : Option Addr} {sl30 : Array (Option Value)} {oc30 kV30 dc30 pm30 cd30 ct30 : Value} {f31 : Addr} {od31 an31 : Option Addr} {sl31 : Array (Option Value)} {oc31 kV31 dc31 pm31 cd31 ct31 : Value} {f32 : Addr} {od32 an32 : Option Addr} {sl32 : Array (Option Value)} {oc32 kV32 dc32 pm32 cd32 ct32 : Value} {f33 : Addr} {od33 an33 : Option Addr} {sl33 : Array (Option Value)} {oc33 kV33 dc33 pm33 cd33 ct33 : Value} {f34 : Addr} {od34 an34 : Option Addr} {sl34 : Array (Option Value)} {oc34 kV34 dc34 pm34 cd34 ct34 : Value} {f35 : Addr} {od35 an35 : Option Addr} {sl35 : Array (Option Value)} {oc35 kV35 dc35 pm35 cd35 ct35 : Value} {f36 : Addr} {od36 an36 : Option Addr} {sl36 : Array (Option Value)} {oc36 kV36 dc36 pm36 cd36 ct36 : Value} {f37 : Addr} {od37 an37 : Option Addr} {sl37 : Array (Option Value)} {oc37 kV37 dc37 pm37 cd37 ct37 : Value} {f38 : Addr} {od38 an38 : Option Addr} {sl38 : Array (Option Value)} {oc38 kV38 dc38 pm38 cd38 ct38 : Value} {f39 : Addr} {od39 an39 : Option Addr} {sl39 : Array (Option Value)} {oc39 kV39 dc39 pm39 cd39 ct39 : Value} {tk_BETWEEN_STEPS : Tok} {tk_DIGITS : Tok} {tk_MOST_STEPS : Tok} {tk_MOST_WIDTH : Tok} {tk_PAIR_cells : Tok} {tk_PAIR_chains : Tok} {tk_RULES_0 : Tok} {tk_RULES_1 : Tok} {tk_RULES_2 : Tok} {tk_RULES_3 : Tok} {tk_RULES_4 : Tok} {tk_RULES_5 : Tok} {ra_RULES : Addr} {rd_RULES : Option Addr} {rn_RULES : Nat} {rs_RULES : Array (Option Value)} {tk_SLASH : Tok} {tk_SPACE : Tok}
    (a0 : PySem.W.findIn K (.ref C_InvalidText) "__init__" = some (some (.ref f0))) (i0 : PySem.W.isFn K (.ref f0) = true)
    (l0 : K.lookup f0 = some ⟨oc0, od0, .func (PySem.W.fnOf "__init__" "InvalidText.__init__" (defArgs st_InvalidText_init) (defBody st_InvalidText_init) (defScope st_InvalidText_init) .none kV0 dc0 pm0 an0 cd0 ct0), sl0⟩) (c0 : PySem.W.codeIn K cd0 "InvalidText.__init__" = true) (k0 : PySem.W.keepIn K (.ref f0) = true)
    (a1 : PySem.W.findIn K (.ref C_InvalidChain) "__init__" = some (some (.ref f1))) (i1 : PySem.W.isFn K (.ref f1) = true)
    (l1 : K.lookup f1 = some ⟨oc1, od1, .func (PySem.W.fnOf "__init__" "InvalidChain.__init__" (defArgs st_InvalidChain_init) (defBody st_InvalidChain_init) (defScope st_InvalidChain_init) .none kV1 dc1 pm1 an1 cd1 ct1), sl1⟩) (c1 : PySem.W.codeIn K cd1 "InvalidChain.__init__" = true) (k1 : PySem.W.keepIn K (.ref f1) = true)
    (a2 : PySem.W.findIn K (.ref C_InvalidNumber) "__init__" = some (some (.ref f2))) (i2 : PySem.W.isFn K (.ref f2) = true)
    (l2 : K.lookup f2 = some ⟨oc2, od2, .func (PySem.W.fnOf "__init__" "InvalidNumber.__init__" (defArgs st_InvalidNumber_init) (defBody st_InvalidNumber_init) (defScope st_InvalidNumber_init) .none kV2 dc2 pm2 an2 cd2 ct2), sl2⟩) (c2 : PySem.W.codeIn K cd2 "InvalidNumber.__init__" = true) (k2 : PySem.W.keepIn K (.ref f2) = true)
    (a3 : PySem.W.nsIn K mainGlobals "is_int" = some (some (.ref f3)))
    (l3 : K.lookup f3 = some ⟨oc3, od3, .func (PySem.W.fnOf "is_int" "is_int" (defArgs st_is_int) (defBody st_is_int) (defScope st_is_int) .none kV3 dc3 pm3 an3 cd3 ct3), sl3⟩) (c3 : PySem.W.codeIn K cd3 "is_int" = true) (k3 : PySem.W.keepIn K (.ref f3) = true)
    (a4 : PySem.W.nsIn K mainGlobals "common_divisor" = some (some (.ref f4)))
    (l4 : K.lookup f4 = some ⟨oc4, od4, .func (PySem.W.fnOf "common_divisor" "common_divisor" (defArgs st_common_divisor) (defBody st_common_divisor) (defScope st_common_divisor) .none kV4 dc4 pm4 an4 cd4 ct4), sl4⟩) (c4 : PySem.W.codeIn K cd4 "common_divisor" = true) (k4 : PySem.W.keepIn K (.ref f4) = true)
    (a5 : PySem.W.nsIn K mainGlobals "is_number" = some (some (.ref f5)))
    (l5 : K.lookup f5 = some ⟨oc5, od5, .func (PySem.W.fnOf "is_number" "is_number" (defArgs st_is_number) (defBody st_is_number) (defScope st_is_number) .none kV5 dc5 pm5 an5 cd5 ct5), sl5⟩) (c5 : PySem.W.codeIn K cd5 "is_number" = true) (k5 : PySem.W.keepIn K (.ref f5) = true)
    (a6 : PySem.W.nsIn K mainGlobals "is_width" = some (some (.ref f6)))
    (l6 : K.lookup f6 = some ⟨oc6, od6, .func (PySem.W.fnOf "is_width" "is_width" (defArgs st_is_width) (defBody st_is_width) (defScope st_is_width) .none kV6 dc6 pm6 an6 cd6 ct6), sl6⟩) (c6 : PySem.W.codeIn K cd6 "is_width" = true) (k6 : PySem.W.keepIn K (.ref f6) = true)
    (a7 : PySem.W.nsIn K mainGlobals "check_number" = some (some (.ref f7)))
    (l7 : K.lookup f7 = some ⟨oc7, od7, .func (PySem.W.fnOf "check_number" "check_number" (defArgs st_check_number) (defBody st_check_number) (defScope st_check_number) .none kV7 dc7 pm7 an7 cd7 ct7), sl7⟩) (c7 : PySem.W.codeIn K cd7 "check_number" = true) (k7 : PySem.W.keepIn K (.ref f7) = true)
    (a8 : PySem.W.nsIn K mainGlobals "is_rule" = some (some (.ref f8)))
    (l8 : K.lookup f8 = some ⟨oc8, od8, .func (PySem.W.fnOf "is_rule" "is_rule" (defArgs st_is_rule) (defBody st_is_rule) (defScope st_is_rule) .none kV8 dc8 pm8 an8 cd8 ct8), sl8⟩) (c8 : PySem.W.codeIn K cd8 "is_rule" = true) (k8 : PySem.W.keepIn K (.ref f8) = true)
    (a9 : PySem.W.nsIn K mainGlobals "is_step" = some (some (.ref f9)))
    (l9 : K.lookup f9 = some ⟨oc9, od9, .func (PySem.W.fnOf "is_step" "is_step" (defArgs st_is_step) (defBody st_is_step) (defScope st_is_step) .none kV9 dc9 pm9 an9 cd9 ct9), sl9⟩) (c9 : PySem.W.codeIn K cd9 "is_step" = true) (k9 : PySem.W.keepIn K (.ref f9) = true)
    (a10 : PySem.W.nsIn K mainGlobals "is_chain" = some (some (.ref f10)))
    (l10 : K.lookup f10 = some ⟨oc10, od10, .func (PySem.W.fnOf "is_chain" "is_chain" (defArgs st_is_chain) (defBody st_is_chain) (defScope st_is_chain) .none kV10 dc10 pm10 an10 cd10 ct10), sl10⟩) (c10 : PySem.W.codeIn K cd10 "is_chain" = true) (k10 : PySem.W.keepIn K (.ref f10) = true)
    (a11 : PySem.W.nsIn K mainGlobals "check_chain" = some (some (.ref f11)))
    (l11 : K.lookup f11 = some ⟨oc11, od11, .func (PySem.W.fnOf "check_chain" "check_chain" (defArgs st_check_chain) (defBody st_check_chain) (defScope st_check_chain) .none kV11 dc11 pm11 an11 cd11 ct11), sl11⟩) (c11 : PySem.W.codeIn K cd11 "check_chain" = true) (k11 : PySem.W.keepIn K (.ref f11) = true)
    (a12 : PySem.W.nsIn K mainGlobals "format_number" = some (some (.ref f12)))
    (l12 : K.lookup f12 = some ⟨oc12, od12, .func (PySem.W.fnOf "format_number" "format_number" (defArgs st_format_number) (defBody st_format_number) (defScope st_format_number) .none kV12 dc12 pm12 an12 cd12 ct12), sl12⟩) (c12 : PySem.W.codeIn K cd12 "format_number" = true) (k12 : PySem.W.keepIn K (.ref f12) = true)
    (a13 : PySem.W.nsIn K mainGlobals "format_chain" = some (some (.ref f13)))
    (l13 : K.lookup f13 = some ⟨oc13, od13, .func (PySem.W.fnOf "format_chain" "format_chain" (defArgs st_format_chain) (defBody st_format_chain) (defScope st_format_chain) .none kV13 dc13 pm13 an13 cd13 ct13), sl13⟩) (c13 : PySem.W.codeIn K cd13 "format_chain" = true) (k13 : PySem.W.keepIn K (.ref f13) = true)
    (a14 : PySem.W.nsIn K mainGlobals "int_in" = some (some (.ref f14)))
    (l14 : K.lookup f14 = some ⟨oc14, od14, .func (PySem.W.fnOf "int_in" "int_in" (defArgs st_int_in) (defBody st_int_in) (defScope st_int_in) .none kV14 dc14 pm14 an14 cd14 ct14), sl14⟩) (c14 : PySem.W.codeIn K cd14 "int_in" = true) (k14 : PySem.W.keepIn K (.ref f14) = true)
    (a15 : PySem.W.nsIn K mainGlobals "number_in" = some (some (.ref f15)))
    (l15 : K.lookup f15 = some ⟨oc15, od15, .func (PySem.W.fnOf "number_in" "number_in" (defArgs st_number_in) (defBody st_number_in) (defScope st_number_in) .none kV15 dc15 pm15 an15 cd15 ct15), sl15⟩) (c15 : PySem.W.codeIn K cd15 "number_in" = true) (k15 : PySem.W.keepIn K (.ref f15) = true)
    (a16 : PySem.W.nsIn K mainGlobals "step_in" = some (some (.ref f16)))
    (l16 : K.lookup f16 = some ⟨oc16, od16, .func (PySem.W.fnOf "step_in" "step_in" (defArgs st_step_in) (defBody st_step_in) (defScope st_step_in) .none kV16 dc16 pm16 an16 cd16 ct16), sl16⟩) (c16 : PySem.W.codeIn K cd16 "step_in" = true) (k16 : PySem.W.keepIn K (.ref f16) = true)
    (a17 : PySem.W.nsIn K mainGlobals "chain_in" = some (some (.ref f17)))
    (l17 : K.lookup f17 = some ⟨oc17, od17, .func (PySem.W.fnOf "chain_in" "chain_in" (defArgs st_chain_in) (defBody st_chain_in) (defScope st_chain_in) .none kV17 dc17 pm17 an17 cd17 ct17), sl17⟩) (c17 : PySem.W.codeIn K cd17 "chain_in" = true) (k17 : PySem.W.keepIn K (.ref f17) = true)
    (a18 : PySem.W.nsIn K mainGlobals "parse_number" = some (some (.ref f18)))
    (l18 : K.lookup f18 = some ⟨oc18, od18, .func (PySem.W.fnOf "parse_number" "parse_number" (defArgs st_parse_number) (defBody st_parse_number) (defScope st_parse_number) .none kV18 dc18 pm18 an18 cd18 ct18), sl18⟩) (c18 : PySem.W.codeIn K cd18 "parse_number" = true) (k18 : PySem.W.keepIn K (.ref f18) = true)
    (a19 : PySem.W.nsIn K mainGlobals "parse_chain" = some (some (.ref f19)))
    (l19 : K.lookup f19 = some ⟨oc19, od19, .func (PySem.W.fnOf "parse_chain" "parse_chain" (defArgs st_parse_chain) (defBody st_parse_chain) (defScope st_parse_chain) .none kV19 dc19 pm19 an19 cd19 ct19), sl19⟩) (c19 : PySem.W.codeIn K cd19 "parse_chain" = true) (k19 : PySem.W.keepIn K (.ref f19) = true)
    (a20 : PySem.W.nsIn K mainGlobals "_law_source" = some (some (.ref f20)))
    (l20 : K.lookup f20 = some ⟨oc20, od20, .func (PySem.W.fnOf "_law_source" "_law_source" (defArgs st__law_source) (defBody st__law_source) (defScope st__law_source) .none kV20 dc20 pm20 an20 cd20 ct20), sl20⟩) (c20 : PySem.W.codeIn K cd20 "_law_source" = true) (k20 : PySem.W.keepIn K (.ref f20) = true)
    (a21 : PySem.W.nsIn K mainGlobals "_law_draw" = some (some (.ref f21)))
    (l21 : K.lookup f21 = some ⟨oc21, od21, .func (PySem.W.fnOf "_law_draw" "_law_draw" (defArgs st__law_draw) (defBody st__law_draw) (defScope st__law_draw) .none kV21 dc21 pm21 an21 cd21 ct21), sl21⟩) (c21 : PySem.W.codeIn K cd21 "_law_draw" = true) (k21 : PySem.W.keepIn K (.ref f21) = true)
    (a22 : PySem.W.nsIn K mainGlobals "_law_pick" = some (some (.ref f22)))
    (l22 : K.lookup f22 = some ⟨oc22, od22, .func (PySem.W.fnOf "_law_pick" "_law_pick" (defArgs st__law_pick) (defBody st__law_pick) (defScope st__law_pick) .none kV22 dc22 pm22 an22 cd22 ct22), sl22⟩) (c22 : PySem.W.codeIn K cd22 "_law_pick" = true) (k22 : PySem.W.keepIn K (.ref f22) = true)
    (a23 : PySem.W.nsIn K mainGlobals "_law_divisor" = some (some (.ref f23)))
    (l23 : K.lookup f23 = some ⟨oc23, od23, .func (PySem.W.fnOf "_law_divisor" "_law_divisor" (defArgs st__law_divisor) (defBody st__law_divisor) (defScope st__law_divisor) .none kV23 dc23 pm23 an23 cd23 ct23), sl23⟩) (c23 : PySem.W.codeIn K cd23 "_law_divisor" = true) (k23 : PySem.W.keepIn K (.ref f23) = true)
    (a24 : PySem.W.nsIn K mainGlobals "_law_low" = some (some (.ref f24)))
    (l24 : K.lookup f24 = some ⟨oc24, od24, .func (PySem.W.fnOf "_law_low" "_law_low" (defArgs st__law_low) (defBody st__law_low) (defScope st__law_low) .none kV24 dc24 pm24 an24 cd24 ct24), sl24⟩) (c24 : PySem.W.codeIn K cd24 "_law_low" = true) (k24 : PySem.W.keepIn K (.ref f24) = true)
    (a25 : PySem.W.nsIn K mainGlobals "_law_scaled" = some (some (.ref f25)))
    (l25 : K.lookup f25 = some ⟨oc25, od25, .func (PySem.W.fnOf "_law_scaled" "_law_scaled" (defArgs st__law_scaled) (defBody st__law_scaled) (defScope st__law_scaled) .none kV25 dc25 pm25 an25 cd25 ct25), sl25⟩) (c25 : PySem.W.codeIn K cd25 "_law_scaled" = true) (k25 : PySem.W.keepIn K (.ref f25) = true)
    (a26 : PySem.W.nsIn K mainGlobals "_law_number" = some (some (.ref f26)))
    (l26 : K.lookup f26 = some ⟨oc26, od26, .func (PySem.W.fnOf "_law_number" "_law_number" (defArgs st__law_number) (defBody st__law_number) (defScope st__law_number) .none kV26 dc26 pm26 an26 cd26 ct26), sl26⟩) (c26 : PySem.W.codeIn K cd26 "_law_number" = true) (k26 : PySem.W.keepIn K (.ref f26) = true)
    (a27 : PySem.W.nsIn K mainGlobals "_law_rule" = some (some (.ref f27)))
    (l27 : K.lookup f27 = some ⟨oc27, od27, .func (PySem.W.fnOf "_law_rule" "_law_rule" (defArgs st__law_rule) (defBody st__law_rule) (defScope st__law_rule) .none kV27 dc27 pm27 an27 cd27 ct27), sl27⟩) (c27 : PySem.W.codeIn K cd27 "_law_rule" = true) (k27 : PySem.W.keepIn K (.ref f27) = true)
    (a28 : PySem.W.nsIn K mainGlobals "_law_chain" = some (some (.ref f28)))
    (l28 : K.lookup f28 = some ⟨oc28, od28, .func (PySem.W.fnOf "_law_chain" "_law_chain" (defArgs st__law_chain) (defBody st__law_chain) (defScope st__law_chain) .none kV28 dc28 pm28 an28 cd28 ct28), sl28⟩) (c28 : PySem.W.codeIn K cd28 "_law_chain" = true) (k28 : PySem.W.keepIn K (.ref f28) = true)
    (a29 : PySem.W.nsIn K mainGlobals "_law_is_int" = some (some (.ref f29)))
    (l29 : K.lookup f29 = some ⟨oc29, od29, .func (PySem.W.fnOf "_law_is_int" "_law_is_int" (defArgs st__law_is_int) (defBody st__law_is_int) (defScope st__law_is_int) .none kV29 dc29 pm29 an29 cd29 ct29), sl29⟩) (c29 : PySem.W.codeIn K cd29 "_law_is_int" = true) (k29 : PySem.W.keepIn K (.ref f29) = true)
    (a30 : PySem.W.nsIn K mainGlobals "_law_is_number" = some (some (.ref f30)))
    (l30 : K.lookup f30 = some ⟨oc30, od30, .func (PySem.W.fnOf "_law_is_number" "_law_is_number" (defArgs st__law_is_number) (defBody st__law_is_number) (defScope st__law_is_number) .none kV30 dc30 pm30 an30 cd30 ct30), sl30⟩) (c30 : PySem.W.codeIn K cd30 "_law_is_number" = true) (k30 : PySem.W.keepIn K (.ref f30) = true)
    (a31 : PySem.W.nsIn K mainGlobals "_law_is_chain" = some (some (.ref f31)))
    (l31 : K.lookup f31 = some ⟨oc31, od31, .func (PySem.W.fnOf "_law_is_chain" "_law_is_chain" (defArgs st__law_is_chain) (defBody st__law_is_chain) (defScope st__law_is_chain) .none kV31 dc31 pm31 an31 cd31 ct31), sl31⟩) (c31 : PySem.W.codeIn K cd31 "_law_is_chain" = true) (k31 : PySem.W.keepIn K (.ref f31) = true)
    (a32 : PySem.W.nsIn K mainGlobals "_law_odd" = some (some (.ref f32)))
    (l32 : K.lookup f32 = some ⟨oc32, od32, .func (PySem.W.fnOf "_law_odd" "_law_odd" (defArgs st__law_odd) (defBody st__law_odd) (defScope st__law_odd) .none kV32 dc32 pm32 an32 cd32 ct32), sl32⟩) (c32 : PySem.W.codeIn K cd32 "_law_odd" = true) (k32 : PySem.W.keepIn K (.ref f32) = true)
    (a33 : PySem.W.nsIn K mainGlobals "_law_count_in" = some (some (.ref f33)))
    (l33 : K.lookup f33 = some ⟨oc33, od33, .func (PySem.W.fnOf "_law_count_in" "_law_count_in" (defArgs st__law_count_in) (defBody st__law_count_in) (defScope st__law_count_in) .none kV33 dc33 pm33 an33 cd33 ct33), sl33⟩) (c33 : PySem.W.codeIn K cd33 "_law_count_in" = true) (k33 : PySem.W.keepIn K (.ref f33) = true)
    (a34 : PySem.W.nsIn K mainGlobals "_law_number_in" = some (some (.ref f34)))
    (l34 : K.lookup f34 = some ⟨oc34, od34, .func (PySem.W.fnOf "_law_number_in" "_law_number_in" (defArgs st__law_number_in) (defBody st__law_number_in) (defScope st__law_number_in) .none kV34 dc34 pm34 an34 cd34 ct34), sl34⟩) (c34 : PySem.W.codeIn K cd34 "_law_number_in" = true) (k34 : PySem.W.keepIn K (.ref f34) = true)
    (a35 : PySem.W.nsIn K mainGlobals "_law_chain_in" = some (some (.ref f35)))
    (l35 : K.lookup f35 = some ⟨oc35, od35, .func (PySem.W.fnOf "_law_chain_in" "_law_chain_in" (defArgs st__law_chain_in) (defBody st__law_chain_in) (defScope st__law_chain_in) .none kV35 dc35 pm35 an35 cd35 ct35), sl35⟩) (c35 : PySem.W.codeIn K cd35 "_law_chain_in" = true) (k35 : PySem.W.keepIn K (.ref f35) = true)
    (a36 : PySem.W.nsIn K mainGlobals "_law_changed" = some (some (.ref f36)))
    (l36 : K.lookup f36 = some ⟨oc36, od36, .func (PySem.W.fnOf "_law_changed" "_law_changed" (defArgs st__law_changed) (defBody st__law_changed) (defScope st__law_changed) .none kV36 dc36 pm36 an36 cd36 ct36), sl36⟩) (c36 : PySem.W.codeIn K cd36 "_law_changed" = true) (k36 : PySem.W.keepIn K (.ref f36) = true)
    (a37 : PySem.W.nsIn K mainGlobals "_law_told" = some (some (.ref f37)))
    (l37 : K.lookup f37 = some ⟨oc37, od37, .func (PySem.W.fnOf "_law_told" "_law_told" (defArgs st__law_told) (defBody st__law_told) (defScope st__law_told) .none kV37 dc37 pm37 an37 cd37 ct37), sl37⟩) (c37 : PySem.W.codeIn K cd37 "_law_told" = true) (k37 : PySem.W.keepIn K (.ref f37) = true)
    (a38 : PySem.W.nsIn K mainGlobals "_law_right" = some (some (.ref f38)))
    (l38 : K.lookup f38 = some ⟨oc38, od38, .func (PySem.W.fnOf "_law_right" "_law_right" (defArgs st__law_right) (defBody st__law_right) (defScope st__law_right) .none kV38 dc38 pm38 an38 cd38 ct38), sl38⟩) (c38 : PySem.W.codeIn K cd38 "_law_right" = true) (k38 : PySem.W.keepIn K (.ref f38) = true)
    (a39 : PySem.W.nsIn K mainGlobals "law" = some (some (.ref f39)))
    (l39 : K.lookup f39 = some ⟨oc39, od39, .func (PySem.W.fnOf "law" "law" (defArgs st_law) (defBody st_law) (defScope st_law) .none kV39 dc39 pm39 an39 cd39 ct39), sl39⟩) (c39 : PySem.W.codeIn K cd39 "law" = true) (k39 : PySem.W.keepIn K (.ref f39) = true)
    (z_abs : PySem.W.nsIn K mainGlobals "abs" = some none)
    (z_all : PySem.W.nsIn K mainGlobals "all" = some none)
    (z_bool : PySem.W.nsIn K mainGlobals "bool" = some none)
    (z_int : PySem.W.nsIn K mainGlobals "int" = some none)
    (z_isinstance : PySem.W.nsIn K mainGlobals "isinstance" = some none)
    (z_len : PySem.W.nsIn K mainGlobals "len" = some none)
    (z_list : PySem.W.nsIn K mainGlobals "list" = some none)
    (z_max : PySem.W.nsIn K mainGlobals "max" = some none)
    (z_min : PySem.W.nsIn K mainGlobals "min" = some none)
    (z_range : PySem.W.nsIn K mainGlobals "range" = some none)
    (z_repr : PySem.W.nsIn K mainGlobals "repr" = some none)
    (z_sorted : PySem.W.nsIn K mainGlobals "sorted" = some none)
    (z_str : PySem.W.nsIn K mainGlobals "str" = some none)
    (z_tuple : PySem.W.nsIn K mainGlobals "tuple" = some none)
    (y_BETWEEN_STEPS : PySem.W.nsIn K mainGlobals "BETWEEN_STEPS" = some (some (.str ", " tk_BETWEEN_STEPS)))
    (y_DIGITS : PySem.W.nsIn K mainGlobals "DIGITS" = some (some (.str "0123456789" tk_DIGITS)))
    (y_MOST_STEPS : PySem.W.nsIn K mainGlobals "MOST_STEPS" = some (some (.int 12 tk_MOST_STEPS)))
    (y_MOST_WIDTH : PySem.W.nsIn K mainGlobals "MOST_WIDTH" = some (some (.int 100 tk_MOST_WIDTH)))
    (y_PAIR_cells : PySem.W.nsIn K mainGlobals "PAIR_cells" = some (some (.int 2 tk_PAIR_cells)))
    (y_PAIR_chains : PySem.W.nsIn K mainGlobals "PAIR_chains" = some (some (.int 2 tk_PAIR_chains)))
    (y_RULES : PySem.W.nsIn K mainGlobals "RULES" = some (some (.ref ra_RULES)))
    (x_RULES : K.lookup ra_RULES = some ⟨.type "tuple", rd_RULES, .seq #[.str "down" tk_RULES_0, .str "half_down" tk_RULES_1, .str "half_even" tk_RULES_2, .str "half_up" tk_RULES_3, .str "odd" tk_RULES_4, .str "up" tk_RULES_5] rn_RULES, rs_RULES⟩)
    (y_SLASH : PySem.W.nsIn K mainGlobals "SLASH" = some (some (.str "/" tk_SLASH)))
    (y_SPACE : PySem.W.nsIn K mainGlobals "SPACE" = some (some (.str " " tk_SPACE)))
    (y_RE : PySem.W.nsIn K mainGlobals "RoundingError" = some (some (.ref C_RoundingError))) (eg_RE : PySem.W.specialIn K (.ref C_RoundingError) "__getattribute__" = some (some (.builtin "type.__getattribute__"))) (er_RE : PySem.W.readsIn K C_RoundingError (.type "type") = true) (ei_RE : PySem.W.findCls K (.ref C_RoundingError) (.type "type") "__init__" = some (.val (.builtin "ValueError.__init__")))
    (ex_RE : PySem.W.subIn K (.ref C_RoundingError) (.type "BaseException") = some true) (et_RE : PySem.W.typeIn K (.ref C_RoundingError) = some (.type "type")) (eu_RE : PySem.W.hasDictIn K C_RoundingError = true)
    (en_X : PySem.W.specialIn K (.builtin "object.__class__") "__get__" = some (some (.builtin "getset_descriptor.__get__"))) (eo_X : PySem.W.takesIn K (.builtin "object.__class__") = some true)
    (y_InvalidChain : PySem.W.nsIn K mainGlobals "InvalidChain" = some (some (.ref C_InvalidChain))) (ex_InvalidChain : PySem.W.subIn K (.ref C_InvalidChain) (.type "BaseException") = some true) (et_InvalidChain : PySem.W.typeIn K (.ref C_InvalidChain) = some (.type "type")) (ek_InvalidChain : PySem.W.keepIn K (.ref C_InvalidChain) = true) (eu_InvalidChain : PySem.W.hasDictIn K C_InvalidChain = true)
    (ec_InvalidChain : K.lookup C_InvalidChain = some (excClassObj nm_InvalidChain q_InvalidChain C_InvalidChain N_InvalidChain bs_InvalidChain bm_InvalidChain true sn_InvalidChain sub_InvalidChain ab_InvalidChain col_InvalidChain dd_InvalidChain k0_InvalidChain k1_InvalidChain k2_InvalidChain k3_InvalidChain k5_InvalidChain "ValueError.__new__")) (em_InvalidChain : PySem.HandSPX.refsVE bm_InvalidChain = true)
    (es_InvalidChain : PySem.W.findIn K (.ref C_InvalidChain) "__setattr__" = some (some (.builtin "object.__setattr__"))) (ev_InvalidChain : PySem.W.findIn K (.ref C_InvalidChain) "value" = some none) (eb_InvalidChain : PySem.W.findIn K (.ref C_InvalidChain) "__getattribute__" = some (some (.builtin "BaseException.__getattribute__"))) (ed_InvalidChain : PySem.W.findIn K (.ref C_InvalidChain) "__getattr__" = some none)
    (ei_InvalidChain : PySem.W.findIn K (.ref C_InvalidChain) "__class__" = some (some (.builtin "object.__class__"))) (ep_InvalidChain : PySem.W.mroIn K C_InvalidChain (.type "object") = some true)
    (kt_InvalidChain_InvalidChain : PySem.W.kitOne K (.ref C_InvalidChain) (.ref C_InvalidChain) = some true)
    (kt_InvalidChain_InvalidNumber : PySem.W.kitOne K (.ref C_InvalidChain) (.ref C_InvalidNumber) = some false)
    (kt_InvalidChain_InvalidText : PySem.W.kitOne K (.ref C_InvalidChain) (.ref C_InvalidText) = some false)
    (ka_InvalidChain_InvalidNumber_InvalidChain : PySem.W.kitAny K (.ref C_InvalidChain) [.ref C_InvalidNumber, .ref C_InvalidChain] = some true)
    (sb_InvalidChain_RoundingError : PySem.W.subIn K (.ref C_InvalidChain) (.ref C_RoundingError) = some true)
    (y_InvalidNumber : PySem.W.nsIn K mainGlobals "InvalidNumber" = some (some (.ref C_InvalidNumber))) (ex_InvalidNumber : PySem.W.subIn K (.ref C_InvalidNumber) (.type "BaseException") = some true) (et_InvalidNumber : PySem.W.typeIn K (.ref C_InvalidNumber) = some (.type "type")) (ek_InvalidNumber : PySem.W.keepIn K (.ref C_InvalidNumber) = true) (eu_InvalidNumber : PySem.W.hasDictIn K C_InvalidNumber = true)
    (ec_InvalidNumber : K.lookup C_InvalidNumber = some (excClassObj nm_InvalidNumber q_InvalidNumber C_InvalidNumber N_InvalidNumber bs_InvalidNumber bm_InvalidNumber true sn_InvalidNumber sub_InvalidNumber ab_InvalidNumber col_InvalidNumber dd_InvalidNumber k0_InvalidNumber k1_InvalidNumber k2_InvalidNumber k3_InvalidNumber k5_InvalidNumber "ValueError.__new__")) (em_InvalidNumber : PySem.HandSPX.refsVE bm_InvalidNumber = true)
    (es_InvalidNumber : PySem.W.findIn K (.ref C_InvalidNumber) "__setattr__" = some (some (.builtin "object.__setattr__"))) (ev_InvalidNumber : PySem.W.findIn K (.ref C_InvalidNumber) "value" = some none) (eb_InvalidNumber : PySem.W.findIn K (.ref C_InvalidNumber) "__getattribute__" = some (some (.builtin "BaseException.__getattribute__"))) (ed_InvalidNumber : PySem.W.findIn K (.ref C_InvalidNumber) "__getattr__" = some none)
    (ei_InvalidNumber : PySem.W.findIn K (.ref C_InvalidNumber) "__class__" = some (some (.builtin "object.__class__"))) (ep_InvalidNumber : PySem.W.mroIn K C_InvalidNumber (.type "object") = some true)
    (kt_InvalidNumber_InvalidChain : PySem.W.kitOne K (.ref C_InvalidNumber) (.ref C_InvalidChain) = some false)
    (kt_InvalidNumber_InvalidNumber : PySem.W.kitOne K (.ref C_InvalidNumber) (.ref C_InvalidNumber) = some true)
    (kt_InvalidNumber_InvalidText : PySem.W.kitOne K (.ref C_InvalidNumber) (.ref C_InvalidText) = some false)
    (ka_InvalidNumber_InvalidNumber_InvalidChain : PySem.W.kitAny K (.ref C_InvalidNumber) [.ref C_InvalidNumber, .ref C_InvalidChain] = some true)
    (sb_InvalidNumber_RoundingError : PySem.W.subIn K (.ref C_InvalidNumber) (.ref C_RoundingError) = some true)
    (y_InvalidText : PySem.W.nsIn K mainGlobals "InvalidText" = some (some (.ref C_InvalidText))) (ex_InvalidText : PySem.W.subIn K (.ref C_InvalidText) (.type "BaseException") = some true) (et_InvalidText : PySem.W.typeIn K (.ref C_InvalidText) = some (.type "type")) (ek_InvalidText : PySem.W.keepIn K (.ref C_InvalidText) = true) (eu_InvalidText : PySem.W.hasDictIn K C_InvalidText = true)
    (ec_InvalidText : K.lookup C_InvalidText = some (excClassObj nm_InvalidText q_InvalidText C_InvalidText N_InvalidText bs_InvalidText bm_InvalidText true sn_InvalidText sub_InvalidText ab_InvalidText col_InvalidText dd_InvalidText k0_InvalidText k1_InvalidText k2_InvalidText k3_InvalidText k5_InvalidText "ValueError.__new__")) (em_InvalidText : PySem.HandSPX.refsVE bm_InvalidText = true)
    (es_InvalidText : PySem.W.findIn K (.ref C_InvalidText) "__setattr__" = some (some (.builtin "object.__setattr__"))) (ev_InvalidText : PySem.W.findIn K (.ref C_InvalidText) "value" = some none) (eb_InvalidText : PySem.W.findIn K (.ref C_InvalidText) "__getattribute__" = some (some (.builtin "BaseException.__getattribute__"))) (ed_InvalidText : PySem.W.findIn K (.ref C_InvalidText) "__getattr__" = some none)
    (ei_InvalidText : PySem.W.findIn K (.ref C_InvalidText) "__class__" = some (some (.builtin "object.__class__"))) (ep_InvalidText : PySem.W.mroIn K C_InvalidText (.type "object") = some true)
    (kt_InvalidText_InvalidChain : PySem.W.kitOne K (.ref C_InvalidText) (.ref C_InvalidChain) = some false)
    (kt_InvalidText_InvalidNumber : PySem.W.kitOne K (.ref C_InvalidText) (.ref C_InvalidNumber) = some false)
    (kt_InvalidText_InvalidText : PySem.W.kitOne K (.ref C_InvalidText) (.ref C_InvalidText) = some true)
    (ka_InvalidText_InvalidNumber_InvalidChain : PySem.W.kitAny K (.ref C_InvalidText) [.ref C_InvalidNumber, .ref C_InvalidChain] = some false)
    (sb_InvalidText_RoundingError : PySem.W.subIn K (.ref C_InvalidText) (.ref C_RoundingError) = some true)
    (u_tab0 : cd38 = .ref cT0) (y_tab0 : h.get? pT0 = some (PySem.W.tabObj #[])) (t_tab0 : PySem.W.tabIn K "_law_right" = some (cT0, pT0)) (d_tab0 : PySem.W.codeHdIn K cT0 pT0 = true) (n_tab0 : K.lookup pT0 = none) :
    ∃ fd : FuncData, (∀ (s : Shared) (v : Value), BindsTo s fd ⟨[v], []⟩ [("_law_script", v)]) ∧ TbH K h ∧ ∀ base : Heap, K.In base → base.Ns mainGlobals mg → TbB K mg base → Fn l.prog w K mg base CX0 10 fa fd ["_law_script"] (lift K 1 fs_law) := by
  have e := hfa.symm.trans (PySem.W.mg_of X G a39)
  cases e
  exact ⟨_, fun s v => .of_eq rfl, tbH_one rfl (tbH1_of X t_tab0 d_tab0 n_tab0 y_tab0), fun base _ _ hB => ok_law (mkTx X G a0 i0 l0 c0 k0 a1 i1 l1 c1 k1 a2 i2 l2 c2 k2 a3 l3 c3 k3 a4 l4 c4 k4 a5 l5 c5 k5 a6 l6 c6 k6 a7 l7 c7 k7 a8 l8 c8 k8 a9 l9 c9 k9 a10 l10 c10 k10 a11 l11 c11 k11 a12 l12 c12 k12 a13 l13 c13 k13 a14 l14 c14 k14 a15 l15 c15 k15 a16 l16 c16 k16 a17 l17 c17 k17 a18 l18 c18 k18 a19 l19 c19 k19 a20 l20 c20 k20 a21 l21 c21 k21 a22 l22 c22 k22 a23 l23 c23 k23 a24 l24 c24 k24 a25 l25 c25 k25 a26 l26 c26 k26 a27 l27 c27 k27 a28 l28 c28 k28 a29 l29 c29 k29 a30 l30 c30 k30 a31 l31 c31 k31 a32 l32 c32 k32 a33 l33 c33 k33 a34 l34 c34 k34 a35 l35 c35 k35 a36 l36 c36 k36 a37 l37 c37 k37 a38 l38 c38 k38 a39 l39 c39 k39 z_abs z_all z_bool z_int z_isinstance z_len z_list z_max z_min z_range z_repr z_sorted z_str z_tuple y_BETWEEN_STEPS y_DIGITS y_MOST_STEPS y_MOST_WIDTH y_PAIR_cells y_PAIR_chains y_RULES x_RULES y_SLASH y_SPACE y_RE eg_RE er_RE ei_RE ex_RE et_RE eu_RE en_X eo_X y_InvalidChain ex_InvalidChain et_InvalidChain ek_InvalidChain eu_InvalidChain ec_InvalidChain em_InvalidChain es_InvalidChain ev_InvalidChain eb_InvalidChain ed_InvalidChain ei_InvalidChain ep_InvalidChain kt_InvalidChain_InvalidChain kt_InvalidChain_InvalidNumber kt_InvalidChain_InvalidText ka_InvalidChain_InvalidNumber_InvalidChain sb_InvalidChain_RoundingError y_InvalidNumber ex_InvalidNumber et_InvalidNumber ek_InvalidNumber eu_InvalidNumber ec_InvalidNumber em_InvalidNumber es_InvalidNumber ev_InvalidNumber eb_InvalidNumber ed_InvalidNumber ei_InvalidNumber ep_InvalidNumber kt_InvalidNumber_InvalidChain kt_InvalidNumber_InvalidNumber kt_InvalidNumber_InvalidText ka_InvalidNumber_InvalidNumber_InvalidChain sb_InvalidNumber_RoundingError y_InvalidText ex_InvalidText et_InvalidText ek_InvalidText eu_InvalidText ec_InvalidText em_InvalidText es_InvalidText ev_InvalidText eb_InvalidText ed_InvalidText ei_InvalidText ep_InvalidText kt_InvalidText_InvalidChain kt_InvalidText_InvalidNumber kt_InvalidText_InvalidText ka_InvalidText_InvalidNumber_InvalidChain sb_InvalidText_RoundingError u_tab0 y_tab0 t_tab0 d_tab0 n_tab0) hB⟩
end LAW
namespace PySem.W.Fast
def tw4673527748152690128 : Nat := 0
def tw10247158606199878713 : Nat := 0
def tw12703837994450486101 : Nat := 0
def tw1347931280590672483 : Nat := 0
def tw4826354344509980040 : Nat := 0
def tw14274378560429480048 : Nat := 0
def tw342851949224224769 : Nat := 0
def tw12367528215153683230 : Nat := 0
def tw15982450022197520370 : Nat := 0
def tw4700563200520056468 : Nat := 0
def tw6203527620276612736 : Nat := 0
def tw18160195471626166047 : Nat := 0
def tw13434821553267595943 : Nat := 0
def tw1764084671010977618 : Nat := 0
def tw989903389812892567 : Nat := 0
def tw15345245694852671877 : Nat := 0
def tw15750069483642843312 : Nat := 0
def tw1578957029582340028 : Nat := 0
def tw9762035250712783517 : Nat := 0
def tw335253689126226821 : Nat := 0
def tw14959298608286430472 : Nat := 0
def tw2537315205773273225 : Nat := 0
def tw546556440756121454 : Nat := 0
def tw14828466343154610020 : Nat := 0
def tw15812154044628214173 : Nat := 0
def tw1854695802961901035 : Nat := 0
def tw5312577941605770976 : Nat := 0
def tw546086336362362324 : Nat := 0
def tw4715966567879871923 : Nat := 0
def tw1770365507923461477 : Nat := 0
def tw18431464126639799062 : Nat := 0
def tw15010120169291553782 : Nat := 0
def tw18044918521851748208 : Nat := 0
def tw7269671503241370203 : Nat := 0
def tw11884457435660811422 : Nat := 0
def tw13873581043332457498 : Nat := 0
def tw11255567387486981376 : Nat := 0
def tw13093498643415617374 : Nat := 0
def tw11412622631199682869 : Nat := 0
def tw15210965334112868743 : Nat := 0
def tw6858177494819263079 : Nat := 0
def tw827116138458745592 : Nat := 0
def tw11155134479229902997 : Nat := 0
def tw9519853912546176337 : Nat := 0
def tw4390824052212326208 : Nat := 0
def tw2782124847741049638 : Nat := 0
def tw17673431488204780870 : Nat := 0
def tw3127125217996467844 : Nat := 0
def tw11145778749874675286 : Nat := 0
def tw7349988715865449059 : Nat := 0
def tw9755896164819952596 : Nat := 0
def tw561030507907893577 : Nat := 0
def tw3377737698180867253 : Nat := 0
def tw7630522787263676801 : Nat := 0
def tw10677937297332920347 : Nat := 0
def tw12566051554002159456 : Nat := 0
def tw13439900592324990479 : Nat := 0
def tw11281326523774568263 : Nat := 0
def tw14737138990269233722 : Nat := 0
def tw13859751554130690996 : Nat := 0
def tw2215303464023843468 : Nat := 0
def tw8627577527381469387 : Nat := 0
def tw3273148934269320505 : Nat := 0
def tw10682522072649448408 : Nat := 0
def tw8136866547503729235 : Nat := 0
def tw5855648939604688595 : Nat := 0
def tw5549598516997146404 : Nat := 0
def tw9285714655796624515 : Nat := 0
def tw6338452124384238185 : Nat := 0
def tw5482186408594207696 : Nat := 0
def tw2766963853311031167 : Nat := 0
def tw254624439044499092 : Nat := 0
def tw2708101513629301228 : Nat := 0
def tw12698340856001317772 : Nat := 0
def tw1990869328818482776 : Nat := 0
def tw5732992423653642407 : Nat := 0
def tw8117031545080798193 : Nat := 0
def tw9775878580380365437 : Nat := 0
def tw5278192867358510544 : Nat := 0
def tw10310993226333853292 : Nat := 0
def tw10324049741939864760 : Nat := 0
def tw11535770232750532888 : Nat := 0
def tw13430117057146341665 : Nat := 0
def tw6453931212065878429 : Nat := 0
def tw3753961337286494609 : Nat := 0
def tw7891820265330993811 : Nat := 0
def tw12384532614134666997 : Nat := 0
def tw8402881158981177800 : Nat := 0
def tw12425667813652306207 : Nat := 0
def tw17613779194208444202 : Nat := 0
def tw8842506835547661727 : Nat := 0
def tw12028904659881967062 : Nat := 0
def tw13533864309693144241 : Nat := 0
def tw5502714993782481317 : Nat := 0
def tw16285869826063776395 : Nat := 0
def tw3813948143530633952 : Nat := 0
def tw9453933437382629461 : Nat := 0
def tw9762476731913510696 : Nat := 0
def tw12573409315128258259 : Nat := 0
def tw14721623956352227512 : Nat := 0
def tw13449761148319356009 : Nat := 0
def tw486991270008425624 : Nat := 0
def tw15473809497947019875 : Nat := 0
def tw8462112701911575458 : Nat := 0
def tw1059295377470178909 : Nat := 0
def tw5558627772869700848 : Nat := 0
def tw15349282784862032375 : Nat := 0
def tw7227831993345235361 : Nat := 0
def tw11721047670131304157 : Nat := 0
def tw13199611677868846609 : Nat := 0
def tw8763692291963746353 : Nat := 0
def tw3864890213747714856 : Nat := 0
def tw11267176963369228826 : Nat := 0
def tw18408988592309553527 : Nat := 0
def tw2538398077400205000 : Nat := 0
def tw4284064888816967907 : Nat := 0
def tw5352948696940349810 : Nat := 0
def tw10977623041959675839 : Nat := 0
def tw5615565874872499169 : Nat := 0
def tw8456532255793147145 : Nat := 0
def tw10657853653310475839 : Nat := 0
def tw800222762189431473 : Nat := 0
def tw14647815797096908640 : Nat := 0
def tw3366558906717008112 : Nat := 0
def tw553038088614470989 : Nat := 0
def tw13965452795814716402 : Nat := 0
def tw5731143140807187515 : Nat := 0
def tw5433867008450737944 : Nat := 0
def tw6070304097040935381 : Nat := 0
def tw15721573552441891415 : Nat := 0
def tw3601634586835485696 : Nat := 0
def tw12614294794813722354 : Nat := 0
def tw4985072725417086454 : Nat := 0
def tw11072907386740273166 : Nat := 0
def tw238137866515058395 : Nat := 0
def tw2899002977253863307 : Nat := 0
def tw16733814135547086404 : Nat := 0
def tw281025070682447698 : Nat := 0
def tw15391996450583577744 : Nat := 0
def tw4626804192181476778 : Nat := 0
def tw2896495827309256410 : Nat := 0
def tw6858649338170070515 : Nat := 0
def tw10528367050370786182 : Nat := 0
def tw14704727170078863305 : Nat := 0
def tw4252548628859401687 : Nat := 0
def tw10576390888774815246 : Nat := 0
def tw18077405206885912060 : Nat := 0
def tw10933720869641266685 : Nat := 0
def tw2045377447493719207 : Nat := 0
def tw8137931765279485808 : Nat := 0
def tw8438398564455975382 : Nat := 0
def tw17600682277593593341 : Nat := 0
def tw1633357952009360218 : Nat := 0
def tw11104457396319032145 : Nat := 0
def tw11567334854816114405 : Nat := 0
def tw9128973678955123387 : Nat := 0
def tw11930444245675155286 : Nat := 0
def tw9410325651989180001 : Nat := 0
def tw15808109899402968392 : Nat := 0
def tw1742550580635732856 : Nat := 0
def tw8355130389008185170 : Nat := 0
def tw1579826909588455720 : Nat := 0
def tw1124303856644113602 : Nat := 0
def tw13865426175224077650 : Nat := 0
def tw15731581003113628093 : Nat := 0
def tw16122327385256133264 : Nat := 0
def tw14485637770298507992 : Nat := 0
def tw15993799678623584862 : Nat := 0
def tw15531562076321304055 : Nat := 0
def tw10858695411588941643 : Nat := 0
def tw10290242112250244746 : Nat := 0
def tw14335797350923016107 : Nat := 0
def tw17995845353478572235 : Nat := 0
def tw8188751575901805521 : Nat := 0
def tw17776930832345087627 : Nat := 0
def tw13043396059460553925 : Nat := 0
def tw3135437273199067861 : Nat := 0
def tw11852401273702156452 : Nat := 0
def tw17846397193096241270 : Nat := 0
def tw7163785241321158185 : Nat := 0
def tw5553885271455321703 : Nat := 0
def tw13918026120136903458 : Nat := 0
def tw3735353806340611560 : Nat := 0
def tw11334859312115798430 : Nat := 0
def tw5416083098373384153 : Nat := 0
def tw15741549577073856586 : Nat := 0
def tw11850436735658506524 : Nat := 0
def tw13792281151312082365 : Nat := 0
def tw1408881255817644749 : Nat := 0
def tw6926977672995772529 : Nat := 0
def tw17620888672155894128 : Nat := 0
def tw16328693657426607321 : Nat := 0
def tw8547138911540835876 : Nat := 0
def tw8219139418955103204 : Nat := 0
def tw1611781877809041254 : Nat := 0
def tw8011738566360129573 : Nat := 0
def tw17917940534634866011 : Nat := 0
def tw5659687786396681451 : Nat := 0
def tw14770918074788392060 : Nat := 0
def tw14302635139714194914 : Nat := 0
def tw1680346148194819988 : Nat := 0
def tw1995443723367413691 : Nat := 0
def tw17954367306207710470 : Nat := 0
def tw2109065330068910279 : Nat := 0
def tw3538817190134585396 : Nat := 0
def tw15796643745179334656 : Nat := 0
def tw2716037243704029890 : Nat := 0
def tw14389765520753732429 : Nat := 0
def tw14502894611480611820 : Nat := 0
def tw18026320391841002162 : Nat := 0
def tw11096302503221435761 : Nat := 0
def tw9315467263602060728 : Nat := 0
def tw2735585137940787924 : Nat := 0
def tw2758469506034152096 : Nat := 0
def tw18371947336393244345 : Nat := 0
def tw15957299915889931569 : Nat := 0
def tw7979723776563095714 : Nat := 0
def tw16878177167820311271 : Nat := 0
def tw1072128663629575337 : Nat := 0
def tw12606427449857793720 : Nat := 0
def tw15813352166998949926 : Nat := 0
def tw2119326767218032016 : Nat := 0
def tw8967510489048782780 : Nat := 0
def tw4378579570607896253 : Nat := 0
def tw1846373685196332772 : Nat := 0
def tw8270673549169417637 : Nat := 0
def tw5699305346707655323 : Nat := 0
def tw2333055086692191866 : Nat := 0
def tw16436625905611978113 : Nat := 0
def tw2618030264509917192 : Nat := 0
def tw9413098638454891659 : Nat := 0
def tw2040191981204930466 : Nat := 0
def tw6846042857797248885 : Nat := 0
def tw7927837271278981458 : Nat := 0
def tw15966118280677338909 : Nat := 0
def tw14248534501966091397 : Nat := 0
def tw14358869462000503365 : Nat := 0
def tw7032435901106236679 : Nat := 0
def tw15067932911945938153 : Nat := 0
def tw3889883325794148018 : Nat := 0
def tw10781473574292265585 : Nat := 0
def tw17366125270427341298 : Nat := 0
def tw2646490141263600537 : Nat := 0
def tw5922912081268576463 : Nat := 0
def tw12652700773790430626 : Nat := 0
def tw10363551654525185328 : Nat := 0
def tw6680496727472652826 : Nat := 0
def tw12847350206456622152 : Nat := 0
def tw5240970907987564971 : Nat := 0
def tw14960829907761678272 : Nat := 0
def tw5083357024589277558 : Nat := 0
def tw130807830176991905 : Nat := 0
def tw1716208433612915023 : Nat := 0
def tw8897596631876990000 : Nat := 0
def tw14537806488484043791 : Nat := 0
def tw3426711053653020346 : Nat := 0
def tw8214437917465787657 : Nat := 0
def tw6914578589749228979 : Nat := 0
def tw8974617928662463506 : Nat := 0
def tw8436960054107771989 : Nat := 0
def tw14523718756266698547 : Nat := 0
def tw1452157090837426288 : Nat := 0
def tw16312191491692794608 : Nat := 0
def tw216605860473317774 : Nat := 0
def tw13618994242673433013 : Nat := 0
def tw599478852384113945 : Nat := 0
def tw12599665194748513145 : Nat := 0
def tw4779189177132798632 : Nat := 0
def tw2471300733719286673 : Nat := 0
def tw12200384339904857353 : Nat := 0
def tw12203013221960421784 : Nat := 0
def tw12448785629907758252 : Nat := 0
def tw4717885755954648063 : Nat := 0
def tw4236875260934279707 : Nat := 0
def tw8674890571525234474 : Nat := 0
def tw12529812390161713952 : Nat := 0
def tw11648217108014199579 : Nat := 0
def tw15321976556709083548 : Nat := 0
def tw3720487868896397919 : Nat := 0
def tw2653237151747856711 : Nat := 0
def tw10625561064557663425 : Nat := 0
def tw6073130536245186910 : Nat := 0
def tw13059728786044057352 : Nat := 0
def tw4819574872219324151 : Nat := 0
def tw14713287535173792955 : Nat := 0
def tw1760789698414922946 : Nat := 0
def tw10068471446752546132 : Nat := 0
def tw14103180054606250593 : Nat := 0
def tw9420800735246148183 : Nat := 0
def tw5696070335735798499 : Nat := 0
def tw10537119747059676594 : Nat := 0
def tw4186511349567371546 : Nat := 0
def tw5477457242771273619 : Nat := 0
def tw15812064457950225965 : Nat := 0
def tw7097997905564434618 : Nat := 0
def tw3089563761763780196 : Nat := 0
def tw16633751019832958015 : Nat := 0
def tw10617426904948788110 : Nat := 0
def tw8316411517508622943 : Nat := 0
def tw680044753044073154 : Nat := 0
def tw4442280416874762419 : Nat := 0
def tw9274424350841909147 : Nat := 0
def tw4506957456510153438 : Nat := 0
def tw5763184408639114119 : Nat := 0
def tw17638008511785615968 : Nat := 0
def tw6738652569009534147 : Nat := 0
def tw10782445589724964823 : Nat := 0
def tw13893180400515921662 : Nat := 0
def tw3274546028743281832 : Nat := 0
def tw6109670227565125112 : Nat := 0
def tw10411569562461404342 : Nat := 0
def tw10629592279055892947 : Nat := 0
def tw13258332962607535079 : Nat := 0
def tw167799609360370988 : Nat := 0
def tw6787209240123018520 : Nat := 0
def tw13871344041740506682 : Nat := 0
def tw16874068813935195233 : Nat := 0
def tw5458525818499689277 : Nat := 0
def tw11881297538427849749 : Nat := 0
def tw14507897560379655615 : Nat := 0
def tw2105845780576227230 : Nat := 0
def tw7643969205292138150 : Nat := 0
def tw12514424426405294792 : Nat := 0
def tw9066286516885326310 : Nat := 0
def tw11017108311163556130 : Nat := 0
def tw1907912346025733756 : Nat := 0
def tw6780274128161067789 : Nat := 0
def tw7915006231953649962 : Nat := 0
def tw13987406732331295840 : Nat := 0
def tw10961640049241484523 : Nat := 0
def tw16527571542660926712 : Nat := 0
def tw5445946161242641325 : Nat := 0
def tw11887210584313230783 : Nat := 0
def tw3280720808896457689 : Nat := 0
def tw16990541016058023541 : Nat := 0
def tw14175876645974950836 : Nat := 0
def tw9817454077498864349 : Nat := 0
def tw8557741539528724867 : Nat := 0
def tw11092904540256846702 : Nat := 0
def tw5795920801880596751 : Nat := 0
def tw7474412608950095779 : Nat := 0
def tw16301825634142280476 : Nat := 0
def tw10028495243155794002 : Nat := 0
def tw901304967184166257 : Nat := 0
def tw4252486783824520305 : Nat := 0
def tw17049200540515138239 : Nat := 0
def tw355435563689753382 : Nat := 0
def tw7165163092005938223 : Nat := 0
def tw2328581900239167043 : Nat := 0
def tw10273566731073458250 : Nat := 0
def tw4059402843802159552 : Nat := 0
def tw15650659712215001543 : Nat := 0
def tw10203470785339299247 : Nat := 0
def tw2605616029701526893 : Nat := 0
def tw4329329794334538605 : Nat := 0
def tw5997977539243088447 : Nat := 0
def tw15576567086541814013 : Nat := 0
def tw18219438086110736108 : Nat := 0
def tw8818299587840120731 : Nat := 0
def tw10488589582375106632 : Nat := 0
def tw9319732024972522660 : Nat := 0
def tw2214284142138489896 : Nat := 0
def tw13653388825435510155 : Nat := 0
def tw3858486471306775636 : Nat := 0
def tw7623349536533737383 : Nat := 0
def tw18336739732032140284 : Nat := 0
def tw12184759865343151154 : Nat := 0
def tw14515414605402931195 : Nat := 0
def tw8810367011271539889 : Nat := 0
def tw705401975267761762 : Nat := 0
def tw6816066353642461999 : Nat := 0
def tw12928389833247079659 : Nat := 0
def tw4194531681669935071 : Nat := 0
def tw211202782618895076 : Nat := 0
def tw13223990137437859774 : Nat := 0
def tw18044739795539319979 : Nat := 0
def tw7627698368792204730 : Nat := 0
def tw12951524210266183472 : Nat := 0
def tw15961104740843798390 : Nat := 0
def tw9058691185109120799 : Nat := 0
def tw3466335877783218903 : Nat := 0
def tw17843008941355033241 : Nat := 0
def tw1940229410265776578 : Nat := 0
def tw5339466245663308507 : Nat := 0
def tw2084551431640999788 : Nat := 0
def tw4903072442079374143 : Nat := 0
def tw9133573483054432716 : Nat := 0
def tw679727325668308435 : Nat := 0
def tw1938586855967991754 : Nat := 0
def tw5137976411256044316 : Nat := 0
def tw10920131222584382049 : Nat := 0
def tw10272540496700452580 : Nat := 0
def tw7449723170731541713 : Nat := 0
def tw49633187742347525 : Nat := 0
def tw6684425522271802681 : Nat := 0
def tw17876062213074851952 : Nat := 0
def tw13941010465887773831 : Nat := 0
def tw9696184339532650789 : Nat := 0
def tw1790945386359906812 : Nat := 0
def tw14250160233929135145 : Nat := 0
def tw15480311257016512983 : Nat := 0
def tw897950758159010572 : Nat := 0
def tw13669884940899071238 : Nat := 0
def tw494651428688743729 : Nat := 0
def tw3498773107600976084 : Nat := 0
def tw9343739481327035914 : Nat := 0
def tw3552070705180245843 : Nat := 0
def tw2725614209325044071 : Nat := 0
def tw12086661638794332270 : Nat := 0
def tw13336046498443471415 : Nat := 0
def tw10657201927669132005 : Nat := 0
def tw11935998889241782648 : Nat := 0
def tw6475275152558194883 : Nat := 0
def tw10493697274477596158 : Nat := 0
def tw10391043900464125784 : Nat := 0
def tw11383510554316311683 : Nat := 0
def tw4135061691892469321 : Nat := 0
def tw2457174030496649337 : Nat := 0
def tw3000217883699519055 : Nat := 0
def tw7643547707979251596 : Nat := 0
def tw1947909936936905712 : Nat := 0
def tw15339892436578709005 : Nat := 0
def tw10325527097905477276 : Nat := 0
def tw16542929303389212220 : Nat := 0
def tw12045354045920310536 : Nat := 0
def tw2363418647015041218 : Nat := 0
def tw10513204027550101896 : Nat := 0
def tw1233838859594663938 : Nat := 0
def tw7499540197702437272 : Nat := 0
def tw1841791719043810557 : Nat := 0
def tw6064214766571558136 : Nat := 0
def tw7667835950843094203 : Nat := 0
def tw3302249275874476832 : Nat := 0
def tw9671924546438122937 : Nat := 0
def tw1819823421278243822 : Nat := 0
def tw14870051730208363335 : Nat := 0
def tw15088764343291381088 : Nat := 0
def tw1271940586169207704 : Nat := 0
def tw8687706679147684645 : Nat := 0
def tw6077132728280425574 : Nat := 0
def tw10647226612440169247 : Nat := 0
def tw15187785993601930423 : Nat := 0
def tw17851854914124913512 : Nat := 0
def tw15472543117096373553 : Nat := 0
def tw17306050010197416103 : Nat := 0
def tw10494878084077613310 : Nat := 0
def tw16554585460057766892 : Nat := 0
def tw6120652627119745400 : Nat := 0
def tw5754198394564456242 : Nat := 0
def tw13612845527123829073 : Nat := 0
def tw6060207185485149750 : Nat := 0
def tw2320089793041227084 : Nat := 0
def tw15488097291405147395 : Nat := 0
def tw10036721973438631758 : Nat := 0
def tw2991712067796101084 : Nat := 0
def tw14216894249194598025 : Nat := 0
def tw16643488871102645959 : Nat := 0
def tw3414918353840389505 : Nat := 0
def tw4340719701888891532 : Nat := 0
def tw16584673871249339183 : Nat := 0
def tw17478923990704904731 : Nat := 0
def tw17000847808012549859 : Nat := 0
def tw13819875533541889871 : Nat := 0
def tw9750913332160823042 : Nat := 0
def tw3387746280437507142 : Nat := 0
def tw4358945466014341618 : Nat := 0
def tw11276933796069683986 : Nat := 0
def tw16936623553911755181 : Nat := 0
def tw4331434927677614044 : Nat := 0
def tw17458897745522089675 : Nat := 0
def tw16196377425537805239 : Nat := 0
def tw1417678672074133515 : Nat := 0
def tw3190852756464659313 : Nat := 0
def tw6339463363986183027 : Nat := 0
def tw15057075789134757970 : Nat := 0
def tw6328446140025090186 : Nat := 0
def tw8857734449304565165 : Nat := 0
def tw1160429261119620200 : Nat := 0
def tw7905838235660135278 : Nat := 0
def tw10990572547086426491 : Nat := 0
def tw15674449782567968274 : Nat := 0
def tw8877795198157789125 : Nat := 0
def tw7129260764142130376 : Nat := 0
def tw1615713589250937060 : Nat := 0
def tw968359259667296998 : Nat := 0
def tw11469176066159806494 : Nat := 0
def tw16400442929134819650 : Nat := 0
def tw12823942461620063900 : Nat := 0
def tw11634908811137106160 : Nat := 0
def tw15165761250959614882 : Nat := 0
def tw3516506651367774121 : Nat := 0
def tw11939479814554474969 : Nat := 0
def tw5143011793860980163 : Nat := 0
def tw2936787699412721645 : Nat := 0
def tw817466369658185140 : Nat := 0
def tw6989083084070533519 : Nat := 0
def tw7910913926914985710 : Nat := 0
def tw4991562073222855243 : Nat := 0
def tw18128451314847529212 : Nat := 0
def tw6890395227657224060 : Nat := 0
def tw914202312454013424 : Nat := 0
def tw16356672786692020817 : Nat := 0
def tw8554231275703502496 : Nat := 0
def tw16016475674130383051 : Nat := 0
def tw5785518596806790191 : Nat := 0
def tw6242114934673602605 : Nat := 0
def tw15576507251097011972 : Nat := 0
def tw6945786422721361732 : Nat := 0
def tw13188657729072410478 : Nat := 0
def tw229990878553759885 : Nat := 0
def tw17454218779021870375 : Nat := 0
def tw17587876656898631547 : Nat := 0
def tw14051949201040468393 : Nat := 0
def tw1556910321383618644 : Nat := 0
def tw7698431172166111988 : Nat := 0
def tw10039960232397624654 : Nat := 0
def tw17502257264582691733 : Nat := 0
def tw4346431613755080596 : Nat := 0
def tw1495675043836269634 : Nat := 0
def tw4052431550476991968 : Nat := 0
def tw14216021549100951641 : Nat := 0
def tw12100523795970851222 : Nat := 0
def tw3779155286342930776 : Nat := 0
def tw5603331888686820206 : Nat := 0
def tw12970551633842857072 : Nat := 0
def tw14103572006505364119 : Nat := 0
def tw13280325170110818101 : Nat := 0
def tw394938721513883863 : Nat := 0
def tw13046990324862481076 : Nat := 0
def tw3880981854520142570 : Nat := 0
def tw5165583278633858855 : Nat := 0
def tw9576563150954033077 : Nat := 0
def tw5404713196345337440 : Nat := 0
def tw9667020356097720968 : Nat := 0
def tw15715528554539158369 : Nat := 0
def tw3055510892525681127 : Nat := 0
def tw4247495778409661840 : Nat := 0
def tw2473384814703003872 : Nat := 0
def tw7451338396635600511 : Nat := 0
def tw7868697401788683021 : Nat := 0
def tw2542311184283063727 : Nat := 0
def tw4737990470999624903 : Nat := 0
def tw4650300162720232469 : Nat := 0
def tw11662329158673298252 : Nat := 0
def tw13376318461806154128 : Nat := 0
def tw13121866021622117607 : Nat := 0
def tw8444724674470268444 : Nat := 0
def tw2027373239732595636 : Nat := 0
def tw812576781417355219 : Nat := 0
def tw3554365769642365885 : Nat := 0
def tw15021950315063632141 : Nat := 0
def tw14701186037896523517 : Nat := 0
def tw15393664342617748975 : Nat := 0
def tw16403105697759325576 : Nat := 0
def tw12666045054406295005 : Nat := 0
def tw3732677519145474627 : Nat := 0
def tw15627128334352791439 : Nat := 0
def tw253879181085096980 : Nat := 0
def tw11845950031033157517 : Nat := 0
def tw14734059377217527499 : Nat := 0
def tw13572704180081188198 : Nat := 0
def tw8807381440699600948 : Nat := 0
def tw15890356362930932565 : Nat := 0
def tw10114878476952480124 : Nat := 0
def tw12684749400054697631 : Nat := 0
def tw11088416741114727500 : Nat := 0
def tw5643740882031584463 : Nat := 0
def tw11085981267570544856 : Nat := 0
def tw13296337027452038133 : Nat := 0
def tw16194901311092400518 : Nat := 0
def tw9005286221200963620 : Nat := 0
def tw7437320868871755100 : Nat := 0
def tw4528079960567656593 : Nat := 0
def tw2075506825859596973 : Nat := 0
def tw847550509723275971 : Nat := 0
def tw6978793470956717127 : Nat := 0
def tw5563975402348054199 : Nat := 0
def tw11637612850238665974 : Nat := 0
def tw13645353061059312168 : Nat := 0
def tw14490305308236471445 : Nat := 0
def tw4753667801457454127 : Nat := 0
def tw7987291690715600543 : Nat := 0
def tw10837511788255657680 : Nat := 0
def tw15512696344380254685 : Nat := 0
def tw1693442575046462983 : Nat := 0
def tw9691910083366977555 : Nat := 0
def tw10652013054845006663 : Nat := 0
def tw9855313375470802633 : Nat := 0
def tw12146021630709923374 : Nat := 0
def tw1720141338713648065 : Nat := 0
def tw17734314363775422731 : Nat := 0
def tw7950497492645311218 : Nat := 0
def tw10652192699763827353 : Nat := 0
def tw1116026830412732847 : Nat := 0
def tw490813223653698021 : Nat := 0
def tw17182312634750935359 : Nat := 0
def tw12838272925805349769 : Nat := 0
def tw1594025107840125958 : Nat := 0
def tw2661934928180011945 : Nat := 0
def tw15557773054173758630 : Nat := 0
def tw17133876655338430395 : Nat := 0
def tw13198920936671144598 : Nat := 0
def tw2103325718629378457 : Nat := 0
def tw7895633111455799042 : Nat := 0
def tw1806730065784700776 : Nat := 0
def tw129437010600122246 : Nat := 0
def tw2493291702025717902 : Nat := 0
def tw6237683310476476934 : Nat := 0
def tw195247749714983517 : Nat := 0
def tw11965836821932751871 : Nat := 0
def tw7567799338250079701 : Nat := 0
def tw10568845083024235740 : Nat := 0
def tw10450054054791183559 : Nat := 0
def tw945478057485302290 : Nat := 0
def tw2747674232242395050 : Nat := 0
def tw13964279149372589724 : Nat := 0
def tw585572466524356643 : Nat := 0
def tw3465309999531172784 : Nat := 0
def tw12413544627135328955 : Nat := 0
def tw7870643686709462184 : Nat := 0
def tw4336610289671421258 : Nat := 0
def tw1802105445351997983 : Nat := 0
def tw809069544457831151 : Nat := 0
def tw3017524816841751364 : Nat := 0
def tw6942590346200238225 : Nat := 0
def tw5348659499698088951 : Nat := 0
def tw12540100968062970787 : Nat := 0
def tw715268124042977696 : Nat := 0
def tw3609305340808435435 : Nat := 0
def tw3786946001471415906 : Nat := 0
def tw9819798647813645221 : Nat := 0
def tw8467934548597438190 : Nat := 0
def tw1422176312375838681 : Nat := 0
def tw264048896216722062 : Nat := 0
def tw2230752412639757782 : Nat := 0
def tw16196747677102054086 : Nat := 0
def tw13648826490993905861 : Nat := 0
def tw320541668910927999 : Nat := 0
def tw333516239171750665 : Nat := 0
def tw4479950917011148874 : Nat := 0
def tw3499430052238718652 : Nat := 0
def tw13912228234223900345 : Nat := 0
def tw3187996534487822868 : Nat := 0
def tw6506242339570871725 : Nat := 0
def tw5690467439141443038 : Nat := 0
def tw15865753383994478626 : Nat := 0
def tw90981896847685759 : Nat := 0
def tw4356077260209592987 : Nat := 0
def tw2018604548606529252 : Nat := 0
def tw5657408521560177361 : Nat := 0
def tw4857891847975954275 : Nat := 0
def tw10833527115582150202 : Nat := 0
def tw16451007112859996556 : Nat := 0
def tw16062522722440145681 : Nat := 0
def tw3404580923767725868 : Nat := 0
def tw9789809525643028625 : Nat := 0
def tw9493419059622727458 : Nat := 0
def tw1749839063939381633 : Nat := 0
def tw18480808534498586 : Nat := 0
def tw3486602602742643609 : Nat := 0
def tw11408688797647550167 : Nat := 0
def tw5373867010855437814 : Nat := 0
def tw7220344319901921511 : Nat := 0
def tw17996165251273183228 : Nat := 0
def tw4944645178762946411 : Nat := 0
def tw9436610471547379544 : Nat := 0
def tw14877353413655332421 : Nat := 0
def tw8435260579799726580 : Nat := 0
def tw5251452992575638262 : Nat := 0
def tw11780815082930809705 : Nat := 0
def tw4675857901226160957 : Nat := 0
def tw5601751330763061926 : Nat := 0
def tw7880480554025857777 : Nat := 0
def tw3208337096846190483 : Nat := 0
def tw12451817507288055001 : Nat := 0
def tw1181792354385536734 : Nat := 0
def tw1004851063601699010 : Nat := 0
def tw5739627308245984249 : Nat := 0
def tw4614054202205555402 : Nat := 0
def tw10802264542292193372 : Nat := 0
def tw13463102316798907710 : Nat := 0
def tw8858516005818829877 : Nat := 0
def tw4167293425014988931 : Nat := 0
def tw17438261877054806979 : Nat := 0
def tw11337827044418263893 : Nat := 0
def tw14754438841708717410 : Nat := 0
def tw13850542549461022259 : Nat := 0
def tw5973051598478739735 : Nat := 0
def tw1846448477891908040 : Nat := 0
def tw9792722004771529914 : Nat := 0
def tw5849547097407755384 : Nat := 0
def tw4704641647234466906 : Nat := 0
def tw16015741204251443529 : Nat := 0
def tw10743126671409617618 : Nat := 0
def tw14949064558693428749 : Nat := 0
def tw3262349157200192858 : Nat := 0
def tw2158733526965049174 : Nat := 0
def tw5210903785224836575 : Nat := 0
def tw13584484611494702078 : Nat := 0
def tw17798041758317348389 : Nat := 0
def tw15549242590345756581 : Nat := 0
def tw4476078187327282902 : Nat := 0
def tw1525483982943796689 : Nat := 0
def tw7383296855129808900 : Nat := 0
def tw17722623501193658302 : Nat := 0
def tw13865252137844552286 : Nat := 0
def tw6409426932659575789 : Nat := 0
def tw10838066392387059455 : Nat := 0
def tw5960251416621122182 : Nat := 0
def tw7289818694836325650 : Nat := 0
def tw2620567643311540835 : Nat := 0
def tw5836205935842951387 : Nat := 0
def tw18084302402287582004 : Nat := 0
def tw1280254820156729420 : Nat := 0
def tw13862356966376433579 : Nat := 0
def tw1269686164816845038 : Nat := 0
def tw5432921163155799741 : Nat := 0
def tw13174284996067073792 : Nat := 0
def tw18068237986792792663 : Nat := 0
def tw4695058214401256123 : Nat := 0
def tw6235208125575346763 : Nat := 0
def tw7369044803203058213 : Nat := 0
def tw4389627034293394101 : Nat := 0
def tw4935718061417035038 : Nat := 0
def tw3583109397539879737 : Nat := 0
def tw9507694725491085433 : Nat := 0
def tw1045273404539707365 : Nat := 0
def tw16966281673766301300 : Nat := 0
def tw12723385192745965160 : Nat := 0
def tw14983613471286690994 : Nat := 0
def tw4874474629218856319 : Nat := 0
def tw14429000179230902221 : Nat := 0
def tw16226659267738367807 : Nat := 0
def tw12043065881217628067 : Nat := 0
def tw5257595919351843410 : Nat := 0
def tw8393867046631321949 : Nat := 0
def tw4767793446917808644 : Nat := 0
def tw17628188298301893896 : Nat := 0
def tw10716369371844206273 : Nat := 0
def tw9797644826098516593 : Nat := 0
def tw6248191919408350435 : Nat := 0
def tw14220329340716993608 : Nat := 0
def tw13989856636514456468 : Nat := 0
def tw11143382414655024699 : Nat := 0
def tw2435596388027506968 : Nat := 0
def tw17886430671196548037 : Nat := 0
def tw17579945623926097570 : Nat := 0
def tw5893235508746946020 : Nat := 0
def tw16743123681676860298 : Nat := 0
def tw6052774148154478185 : Nat := 0
def tw16208868296867785665 : Nat := 0
def tw14228739754451942276 : Nat := 0
def tw5823957793783026503 : Nat := 0
def tw13224127787157720312 : Nat := 0
def tw17188185748147475347 : Nat := 0
def tw10435418460044009614 : Nat := 0
def tw11592649566663286082 : Nat := 0
def tw3491442723910404275 : Nat := 0
def tw7157113742855272512 : Nat := 0
def tw2876166495539527833 : Nat := 0
def tw1893874411302302248 : Nat := 0
def tw8262649602783945171 : Nat := 0
def tw1476978370967837875 : Nat := 0
def tw17801851553546747017 : Nat := 0
def tw2687197510808800215 : Nat := 0
def tw15550609188175712177 : Nat := 0
def tw18122124252937185672 : Nat := 0
def tw17679459689144671678 : Nat := 0
def tw4602277176051438435 : Nat := 0
def tw18311971793199834671 : Nat := 0
def tw4593114692110184419 : Nat := 0
def tw5314604632607368637 : Nat := 0
def tw6053063714410063323 : Nat := 0
def tw1997066397437479363 : Nat := 0
def tw5240363112211376103 : Nat := 0
def tw7933579401048214437 : Nat := 0
def tw14381836799043363349 : Nat := 0
def tw13909229631311230655 : Nat := 0
def tw4640214779897827175 : Nat := 0
def tw11383224299565284417 : Nat := 0
def tw15640776452014155140 : Nat := 0
def tw9006692338121397937 : Nat := 0
def tw4244127716574058222 : Nat := 0
def tw11641237078659537704 : Nat := 0
def tw3711704900668802377 : Nat := 0
def tw8416886870636898240 : Nat := 0
def tw15329567667248814812 : Nat := 0
def tw3122663373514668378 : Nat := 0
def tw15242145211216771118 : Nat := 0
def tw15936156827623742958 : Nat := 0
def tw181867394228979705 : Nat := 0
def tw7019821254397045409 : Nat := 0
def tw15706408954556719121 : Nat := 0
def tw5665049896159072510 : Nat := 0
def tw13161813441736335663 : Nat := 0
def tw8080010302271506808 : Nat := 0
def tw8630070169359752846 : Nat := 0
def tw15557571913616746686 : Nat := 0
def tw5468526683270206511 : Nat := 0
def tw11796338284720787439 : Nat := 0
def tw10713054383398159682 : Nat := 0
def tw2281812679356918168 : Nat := 0
def tw11426097171812440782 : Nat := 0
def tw5028860624349691162 : Nat := 0
def tw18329122429078362459 : Nat := 0
def tw3552099588243331503 : Nat := 0
def tw12612937636715317763 : Nat := 0
def tw17859014609973875448 : Nat := 0
def tw11373636193111052990 : Nat := 0
def tw15869697903523472016 : Nat := 0
def tw10206765300417432045 : Nat := 0
def tw7214126925599795722 : Nat := 0
def tw16709814330219335298 : Nat := 0
def tw10983444743471020774 : Nat := 0
def tw15366042167572982705 : Nat := 0
def tw3442475666662310294 : Nat := 0
def tw994302303920879449 : Nat := 0
def tw13515941548150833244 : Nat := 0
def tw9576288052790989468 : Nat := 0
def tw11708690887230360251 : Nat := 0
def tw4208414561003457116 : Nat := 0
def tw6554495211958333752 : Nat := 0
def tw7848325928788309806 : Nat := 0
def tw2601232425604475118 : Nat := 0
def tw13561280055809096761 : Nat := 0
def tw7037669381568454345 : Nat := 0
def tw18138532000654794097 : Nat := 0
def tw10931514649240666225 : Nat := 0
def tw6283428242102634270 : Nat := 0
def tw5640178899936483772 : Nat := 0
def tw15615641848292741094 : Nat := 0
def tw4030861254918133892 : Nat := 0
def tw10766501439777805873 : Nat := 0
def tw4268463386531602713 : Nat := 0
def tw7458027457246156862 : Nat := 0
def tw5161422250788424350 : Nat := 0
def tw11773015291468371620 : Nat := 0
def tw9436653784068891193 : Nat := 0
def tw11895017004031101115 : Nat := 0
def tw209344292586638255 : Nat := 0
def tw15004560827573234725 : Nat := 0
def tw10695059147216095851 : Nat := 0
def tw5482361908020065882 : Nat := 0
def tw13265750108632178774 : Nat := 0
def tw5723875075782521428 : Nat := 0
def tw5489691155386958071 : Nat := 0
def tw4016197129166442762 : Nat := 0
def tw9561760895854801395 : Nat := 0
def tw13070188827487604189 : Nat := 0
def tw4717704426645614841 : Nat := 0
def tw9065734134900587528 : Nat := 0
def tw15059849887692702657 : Nat := 0
def tw10305088029385067393 : Nat := 0
def tw8443131307532499426 : Nat := 0
def tw2397375704933994393 : Nat := 0
def tw306870759513153896 : Nat := 0
def tw12945176754771338755 : Nat := 0
def tw8124069105143088496 : Nat := 0
def tw8868019124724591731 : Nat := 0
def tw14893908498465632232 : Nat := 0
def tw5942114636295505687 : Nat := 0
def tw9398795845766468512 : Nat := 0
def tw1033067299684485330 : Nat := 0
def tw4444226115505769119 : Nat := 0
def tw12489093488629139676 : Nat := 0
def tw5570446933672748179 : Nat := 0
def tw14908423510396504906 : Nat := 0
def tw10173298399273746117 : Nat := 0
def tw6921668122233947029 : Nat := 0
def tw12148261468027738290 : Nat := 0
def tw9839785058503592449 : Nat := 0
def tw13691077715776824975 : Nat := 0
def tw12579043781503207093 : Nat := 0
def tw5543776617954117497 : Nat := 0
def tw16279615728176176257 : Nat := 0
def tw7649487921719320809 : Nat := 0
def tw7417712813593814075 : Nat := 0
def tw10016883053355865394 : Nat := 0
def tw1693066443067122541 : Nat := 0
def tw7185600920142491317 : Nat := 0
def tw9154949561602240504 : Nat := 0
def tw4227689523488742190 : Nat := 0
def tw5935922989831230017 : Nat := 0
def tw1479653210560086665 : Nat := 0
def tw15170610527757638452 : Nat := 0
def tw15260713420398434604 : Nat := 0
def tw18442499504885398158 : Nat := 0
def tw14719884636821552793 : Nat := 0
def tw3770137806589797183 : Nat := 0
def tw4764940062179611570 : Nat := 0
def tw12297521462498584449 : Nat := 0
def tw10640940460929194325 : Nat := 0
def tw2950616092997576384 : Nat := 0
def tw3425251434266826640 : Nat := 0
def tw16734146459992738284 : Nat := 0
def tw14423601322764712170 : Nat := 0
def tw1626055537821407060 : Nat := 0
def tw9391390899273250305 : Nat := 0
def tw2719794726028228390 : Nat := 0
def tw11908776080984111273 : Nat := 0
def tw8729720502372132568 : Nat := 0
def tw15562785939835318236 : Nat := 0
def tw15895474112176007997 : Nat := 0
def tw9063901353685751620 : Nat := 0
def tw13720307148990296249 : Nat := 0
def tw15909728339816751675 : Nat := 0
def tw11355653914077216891 : Nat := 0
def tw1040456147548802104 : Nat := 0
def tw9935592195604126837 : Nat := 0
def tw14872683720081566706 : Nat := 0
def tw2352914184464222042 : Nat := 0
def tw14354175056509329166 : Nat := 0
def tw4891376531215364500 : Nat := 0
def tw12323995961008663234 : Nat := 0
def tw15397278136391997649 : Nat := 0
def tw9141193530798828688 : Nat := 0
def tw2820475260455771023 : Nat := 0
def tw17895350459812028322 : Nat := 0
def tw10752169747221010591 : Nat := 0
def tw15141650422078059429 : Nat := 0
def tw8456430615931769503 : Nat := 0
def tw8361256095506273502 : Nat := 0
def tw1052849138752842094 : Nat := 0
def tw5702174834049135273 : Nat := 0
def tw15336855649103324262 : Nat := 0
def tw11841221467224241800 : Nat := 0
def tw18186217554224762169 : Nat := 0
def tw7224058382496937408 : Nat := 0
def tw16821184470290584708 : Nat := 0
def tw11951053724388762206 : Nat := 0
def tw13308117324777228100 : Nat := 0
def tw14999468657540250491 : Nat := 0
def tw10886600172064789897 : Nat := 0
def tw8358782226511416616 : Nat := 0
def tw2067328203949861197 : Nat := 0
def tw8164922160049050930 : Nat := 0
def tw12456902465786622579 : Nat := 0
def tw15703420060946660163 : Nat := 0
def tw14494720935879245113 : Nat := 0
def tw12195893935187815261 : Nat := 0
def tw6073504540121391905 : Nat := 0
def tw6068804130016977198 : Nat := 0
def tw8207341751663964936 : Nat := 0
def tw10257688425268637313 : Nat := 0
def tw7340822881065858455 : Nat := 0
def tw11575595425719553313 : Nat := 0
def tw10577396264563965688 : Nat := 0
def tw1009812102663636793 : Nat := 0
def tw8445874296606769565 : Nat := 0
def tw11632323096521829627 : Nat := 0
def tw3854203351931211755 : Nat := 0
def tw14572853105473242074 : Nat := 0
def tw17049036226050415688 : Nat := 0
def tw13630097349643179513 : Nat := 0
def tw9836559685053303559 : Nat := 0
def tw8639067716618026402 : Nat := 0
def tw2707499840527611914 : Nat := 0
def tw11446138784738645026 : Nat := 0
def tw11838524127023438460 : Nat := 0
def tw275430435882481827 : Nat := 0
def tw10388710235236715382 : Nat := 0
def tw8454135806973911004 : Nat := 0
def tw11864501188310135191 : Nat := 0
def tw3618989881794918805 : Nat := 0
def tw13071586822391990244 : Nat := 0
def tw6485702478368407579 : Nat := 0
def tw14592313836877623124 : Nat := 0
def tw10454166141986765610 : Nat := 0
def tw6381572862106496241 : Nat := 0
def tw10204182354287152084 : Nat := 0
def tw8153599875932758160 : Nat := 0
def tw12080200583213527805 : Nat := 0
def tw16828961715552523838 : Nat := 0
def tw18211969271657339978 : Nat := 0
def tw8493860716577532671 : Nat := 0
def tw7613192977856952559 : Nat := 0
def tw2581861268893350384 : Nat := 0
def tw5786666744702393562 : Nat := 0
def tw17631926374411670215 : Nat := 0
def tw6003936003299414412 : Nat := 0
def tw4312501909606569230 : Nat := 0
def tw6267412884441329126 : Nat := 0
def tw4661607912558856769 : Nat := 0
def tw11451615407638096194 : Nat := 0
def tw9975462708686665376 : Nat := 0
def tw6351325343198474294 : Nat := 0
def tw18050182440911044447 : Nat := 0
def tw8541885789209836688 : Nat := 0
def tw1274364977619347407 : Nat := 0
def tw5692301816021338227 : Nat := 0
def tw9651896141717818887 : Nat := 0
def tw8125404577306484060 : Nat := 0
def tw13996077211630769719 : Nat := 0
def tw8859396265875099510 : Nat := 0
def tw7974881836856788574 : Nat := 0
def tw16480608348699883037 : Nat := 0
def tw15493407632938232208 : Nat := 0
def tw3961513470798578876 : Nat := 0
def tw9796110144581909128 : Nat := 0
def tw4364208209660973174 : Nat := 0
def tw17639057495409491380 : Nat := 0
def tw10787728181121092948 : Nat := 0
def tw4761219060097275705 : Nat := 0
def tw10061615317616464989 : Nat := 0
def tw14370324041924982780 : Nat := 0
def tw10959559374877170530 : Nat := 0
def tw15971104300250013773 : Nat := 0
def tw12539753881423339556 : Nat := 0
def tw5720701685970853790 : Nat := 0
def tw16912211753062845095 : Nat := 0
def tw6086016686722874880 : Nat := 0
def tw8002661799011319990 : Nat := 0
def tw6653818266608376354 : Nat := 0
def tw8560766843346132151 : Nat := 0
def tw5780553842529706542 : Nat := 0
def tw1245645970849422441 : Nat := 0
def tw9558003647056807224 : Nat := 0
def tw12158977801676476773 : Nat := 0
def tw10518252265552130881 : Nat := 0
def tw1908800411171204226 : Nat := 0
def tw6425476844490446517 : Nat := 0
def tw813977985539090345 : Nat := 0
def tw16956186126868991749 : Nat := 0
def tw155794916539896204 : Nat := 0
def tw10654859771108436734 : Nat := 0
def tw17743424851153293915 : Nat := 0
def tw12405994932442107007 : Nat := 0
def tw6910026106589316588 : Nat := 0
def tw3868229323219465725 : Nat := 0
def tw14467433201912655455 : Nat := 0
def tw6219521139560828808 : Nat := 0
def tw14051467027900386615 : Nat := 0
def tw17837112943065887147 : Nat := 0
def tw13190733433843025029 : Nat := 0
def tw12118715924268085068 : Nat := 0
def tw14138783050369165219 : Nat := 0
def tw146971983809743279 : Nat := 0
def tw7504147396961592834 : Nat := 0
def tw13215204516162647065 : Nat := 0
def tw5262184134237131049 : Nat := 0
def tw12658673687196712432 : Nat := 0
def tw12030258321102084545 : Nat := 0
def tw9053717931918670547 : Nat := 0
def tw2190888972119069706 : Nat := 0
def tw9805559011237883836 : Nat := 0
def tw17032937928693726779 : Nat := 0
def tw2998433050015388404 : Nat := 0
def tw18119916172031663217 : Nat := 0
def tw4724593510101453880 : Nat := 0
def tw9529348850406174360 : Nat := 0
def tw13138107313707395634 : Nat := 0
def tw10900909446481349880 : Nat := 0
def tw8094579600457779660 : Nat := 0
def tw3015924173452666734 : Nat := 0
def tw15970884053027523228 : Nat := 0
def tw2598162669181255695 : Nat := 0
def tw8243086699071956029 : Nat := 0
def tw6338128176685138361 : Nat := 0
def tw14118887997314141975 : Nat := 0
def tw8103183554993260352 : Nat := 0
def tw16845801033050918771 : Nat := 0
def tw5569132625607962606 : Nat := 0
def tw10174848763644694561 : Nat := 0
def tw15784921034603923702 : Nat := 0
def tw8750532058405923785 : Nat := 0
def tw395527418316694869 : Nat := 0
def tw9660289783682608785 : Nat := 0
def tw8379895541130098632 : Nat := 0
def tw4681941974902972738 : Nat := 0
def tw17656785425196066364 : Nat := 0
def tw14165221179805495501 : Nat := 0
def tw18161800418421095023 : Nat := 0
def tw14898196139691156005 : Nat := 0
def tw2344660698952767687 : Nat := 0
def tw13122836873823244940 : Nat := 0
def tw3374165054964439122 : Nat := 0
def tw15281428038593294044 : Nat := 0
def tw12132728368617266556 : Nat := 0
def tw5947988196364884203 : Nat := 0
def tw763947159508849608 : Nat := 0
def tw1152625356620710811 : Nat := 0
def tw5566590534916651802 : Nat := 0
def tw16506471022579461705 : Nat := 0
def tw2432554789072295089 : Nat := 0
def tw1411438761900472421 : Nat := 0
def tw7976863545169801991 : Nat := 0
def tw5596794085409937371 : Nat := 0
def tw14928217603130236387 : Nat := 0
def tw8046739011141843128 : Nat := 0
def tw10677702096167804149 : Nat := 0
def tw7065860354006345733 : Nat := 0
def tw9411409315227687527 : Nat := 0
def tw7043862284060321015 : Nat := 0
def tw3904394331637626135 : Nat := 0
def tw12590609599647296578 : Nat := 0
def tw17344652540758170308 : Nat := 0
def tw15659581466900202199 : Nat := 0
def tw14657981258175833027 : Nat := 0
def tw2222638384966206492 : Nat := 0
def tw17455236126821966512 : Nat := 0
def tw2724287728306279565 : Nat := 0
def tw3972502220483750416 : Nat := 0
def tw9683706849266435018 : Nat := 0
def tw7122011790156411235 : Nat := 0
def tw658417583495442646 : Nat := 0
def tw17943352438586581973 : Nat := 0
def tw12127700814502202724 : Nat := 0
def tw5212275212262213415 : Nat := 0
def tw4741737498285149620 : Nat := 0
def tw10121965515800843052 : Nat := 0
def tw3610915535605995041 : Nat := 0
def tw1446604367329123323 : Nat := 0
def tw13990616862710750818 : Nat := 0
def tw14408187834398992753 : Nat := 0
def tw10640514745404125141 : Nat := 0
def tw4242102529577870226 : Nat := 0
def tw13365709152572814607 : Nat := 0
def tw998496018127934763 : Nat := 0
def tw2590920381251293571 : Nat := 0
def tw15846192406970844676 : Nat := 0
def tw8619120567525070050 : Nat := 0
def tw11838106308927076793 : Nat := 0
def tw17864876925894575376 : Nat := 0
def tw8924758705103338070 : Nat := 0
def tw5761669967407646821 : Nat := 0
def tw14899835554577545886 : Nat := 0
def tw13904497890490604630 : Nat := 0
def tw543761901504839606 : Nat := 0
def tw141173852812895919 : Nat := 0
def tw18037257586426595379 : Nat := 0
def tw10766606670768708765 : Nat := 0
def tw8663326888024086538 : Nat := 0
def tw16235723211130047309 : Nat := 0
def tw4384091920627814175 : Nat := 0
def tw10053152439382217112 : Nat := 0
def tw10324572580275533772 : Nat := 0
def tw4983052460214589607 : Nat := 0
def tw10408956876662738632 : Nat := 0
def tw13318027960797189567 : Nat := 0
def tw17686565792737036542 : Nat := 0
def tw18169070327736786128 : Nat := 0
def tw16102374645616751461 : Nat := 0
def tw7520380058505006359 : Nat := 0
def tw5486320773626694178 : Nat := 0
def tw13639336884545627318 : Nat := 0
def tw17569608640441893439 : Nat := 0
def tw7012696877524914388 : Nat := 0
def tw9030108993202130046 : Nat := 0
def tw947214656976456816 : Nat := 0
def tw13726121760528401280 : Nat := 0
def tw9372566900186749003 : Nat := 0
def tw12421216370431517506 : Nat := 0
def tw7976759604745437642 : Nat := 0
def tw10416376928401198147 : Nat := 0
def tw16388039360666597643 : Nat := 0
def tw4892144338105704030 : Nat := 0
def tw17898194502557690193 : Nat := 0
def tw14079618326914669547 : Nat := 0
def tw11956260444608665693 : Nat := 0
def tw11026684780301878137 : Nat := 0
def tw5659081697869963344 : Nat := 0
def tw10254680260547370236 : Nat := 0
def tw17142515137787035521 : Nat := 0
def tw4069447642886163561 : Nat := 0
def tw15000414339332626248 : Nat := 0
def tw3642903899424367646 : Nat := 0
def tw4575982888036701478 : Nat := 0
def tw15560832849213543683 : Nat := 0
def tw14016197540942556481 : Nat := 0
def tw51107986294594572 : Nat := 0
def tw593509712844679580 : Nat := 0
def tw2837787682754331855 : Nat := 0
def tw16928597557040102199 : Nat := 0
def tw9716630439423514397 : Nat := 0
def tw17387157145510895320 : Nat := 0
def tw11431061750978439762 : Nat := 0
def tw9253433543026529496 : Nat := 0
def tw10276113616649071854 : Nat := 0
def tw2736493491352376678 : Nat := 0
def tw5518369221749218902 : Nat := 0
def tw2655081886197784143 : Nat := 0
def tw17741566817481824338 : Nat := 0
def tw227548569442617284 : Nat := 0
def tw15570458420650376512 : Nat := 0
def tw5174417918835066912 : Nat := 0
def tw14729043968875764352 : Nat := 0
def tw480046496246825238 : Nat := 0
def tw7920670337668743115 : Nat := 0
def tw3914351370668748572 : Nat := 0
def tw794836844181278842 : Nat := 0
def tw3896585455452159144 : Nat := 0
def tw12429297242465776750 : Nat := 0
def tw16715209919687337887 : Nat := 0
def tw4835438731362125607 : Nat := 0
def tw12966856431352386245 : Nat := 0
def tw14045842919293234458 : Nat := 0
def tw2271990845398782749 : Nat := 0
def tw10832682311986651193 : Nat := 0
def tw8623330484613499959 : Nat := 0
def tw10677341018369138159 : Nat := 0
def tw12268864236506508979 : Nat := 0
def tw8886967297964901264 : Nat := 0
def tw13950735740702519384 : Nat := 0
def tw13679969302006855439 : Nat := 0
def tw41529846750205131 : Nat := 0
def tw11337440179368998064 : Nat := 0
def tw2424751442391777519 : Nat := 0
def tw2589041687903579786 : Nat := 0
def tw10130626194105973442 : Nat := 0
def tw12530471909634335922 : Nat := 0
def tw5762302882115749781 : Nat := 0
def tw592629547724669193 : Nat := 0
def tw13216856914631804461 : Nat := 0
def tw11443736059267766953 : Nat := 0
def tw5021882566208936369 : Nat := 0
def tw1021358773965735871 : Nat := 0
def tw8452796138145274977 : Nat := 0
def tw7532287866389112493 : Nat := 0
def tw12647316809240629167 : Nat := 0
def tw13976436391100088215 : Nat := 0
def tw7790589041107595825 : Nat := 0
def tw15786804785365275459 : Nat := 0
def tw11998473283696972696 : Nat := 0
def tw5295881826864250477 : Nat := 0
def tw10075439897342774713 : Nat := 0
def tw8383445342419917430 : Nat := 0
def tw14438592602460944319 : Nat := 0
def tw13119744359307322602 : Nat := 0
def tw2575917010005200801 : Nat := 0
def tw16174405177669896761 : Nat := 0
def tw5489153491232303107 : Nat := 0
def tw3363924079483699270 : Nat := 0
def tw15855313442408535281 : Nat := 0
def tw11290385845823768788 : Nat := 0
def tw15878586155584861854 : Nat := 0
def tw16455823109364729074 : Nat := 0
def tw2127221682741134737 : Nat := 0
def tw4214043280878421413 : Nat := 0
def tw6158882036577530969 : Nat := 0
def tw16493964398006689277 : Nat := 0
def tw5979266695560572044 : Nat := 0
def tw17794635550050743984 : Nat := 0
def tw15040244196431476460 : Nat := 0
def tw9048793633850167306 : Nat := 0
def tw16971464180272145887 : Nat := 0
def tw12773944846819535036 : Nat := 0
def tw1332932075860157073 : Nat := 0
def tw6298424366344359627 : Nat := 0
def tw1757859356783523177 : Nat := 0
def tw7040180934231825215 : Nat := 0
def tw7075503334341322941 : Nat := 0
def tw3448613775497138581 : Nat := 0
def tw14025569590723489570 : Nat := 0
def tw5499823842526989926 : Nat := 0
def tw3459485048705314900 : Nat := 0
def tw6591252831028643881 : Nat := 0
def tw14200595549154554411 : Nat := 0
def tw18172005629726465319 : Nat := 0
def tw1114525123209969737 : Nat := 0
def tw1931107586024827019 : Nat := 0
def tw5646236021697606798 : Nat := 0
def tw10862562550562091829 : Nat := 0
def tw15335741579124258204 : Nat := 0
def tw13032686791613401866 : Nat := 0
def tw4630186703614630671 : Nat := 0
def tw2010991923946167255 : Nat := 0
def tw3012897445060257515 : Nat := 0
def tw5276166279609763032 : Nat := 0
def tw15195989317079432349 : Nat := 0
def tw6639752626014489054 : Nat := 0
def tw17290684160471507578 : Nat := 0
def tw11655297049684072385 : Nat := 0
def tw8232239673699339246 : Nat := 0
def tw12326328298804922933 : Nat := 0
def tw2734991440822646780 : Nat := 0
def tw3368390008893500464 : Nat := 0
def tw17088684861470604626 : Nat := 0
def tw2487709421702025516 : Nat := 0
def tw6155538731508735504 : Nat := 0
def tw8262808110580949296 : Nat := 0
def tw16469030446907810823 : Nat := 0
def tw6764035586274889647 : Nat := 0
def tw9795107915926298103 : Nat := 0
def tw2178024654734348253 : Nat := 0
def tw3144268809274603827 : Nat := 0
def tw13274171053984537695 : Nat := 0
def tw2112702009896474720 : Nat := 0
def tw7877180319430239586 : Nat := 0
def tw4139764972033257250 : Nat := 0
def tw6102195274364331830 : Nat := 0
def tw11567265579619578468 : Nat := 0
def tw2017204311785943937 : Nat := 0
def tw10560120124428912728 : Nat := 0
def tw3202184810095647327 : Nat := 0
def tw7892414914200240449 : Nat := 0
def tw13303303634532599354 : Nat := 0
def tw4905134502844156655 : Nat := 0
def tw17875536302374750530 : Nat := 0
def tw17135451778121965215 : Nat := 0
def tw18156182690951467827 : Nat := 0
def tw18102435509730384385 : Nat := 0
def tw6483807988193841961 : Nat := 0
def tw2307152821257288478 : Nat := 0
def tw5274484357896473024 : Nat := 0
def tw7409797422882691795 : Nat := 0
def tw11645440313302490112 : Nat := 0
def tw16866373841248887515 : Nat := 0
def tw13421498457742729352 : Nat := 0
def tw16999888887279015 : Nat := 0
def tw4335528372988305382 : Nat := 0
def tw15560022402591911160 : Nat := 0
def tw14709058385399565822 : Nat := 0
def tw9618405798301697644 : Nat := 0
def tw10467355394434042838 : Nat := 0
def tw3934386890889952597 : Nat := 0
def tw1245415926163983762 : Nat := 0
def tw6652588939206097932 : Nat := 0
def tw13143035455871530357 : Nat := 0
def tw5422802202759487631 : Nat := 0
def tw6612238439176941651 : Nat := 0
def tw14287002491920955097 : Nat := 0
def tw9542629078016661813 : Nat := 0
def tw16142724969715787298 : Nat := 0
def tw5709100417345163236 : Nat := 0
def tw8219771469572229352 : Nat := 0
def tw7048184018218743566 : Nat := 0
def tw7643477814540433829 : Nat := 0
def tw14544168369809812077 : Nat := 0
def tw7989884770761758982 : Nat := 0
def tw9970824612065734357 : Nat := 0
def tw1070833295153880625 : Nat := 0
def tw975824754197382006 : Nat := 0
def tw17834596009861089422 : Nat := 0
def tw12004590880465177100 : Nat := 0
def tw18184249870099176683 : Nat := 0
def tw630551264441416211 : Nat := 0
def tw7790462448569516889 : Nat := 0
def tw13772926745992102957 : Nat := 0
def tw14972827732563899747 : Nat := 0
def tw11803890944932462745 : Nat := 0
def tw8583734143305965478 : Nat := 0
def tw3942408964613278086 : Nat := 0
def tw2262023919483873268 : Nat := 0
def tw11421666792196493948 : Nat := 0
def tw9280719582686842774 : Nat := 0
def tw16271200163619796253 : Nat := 0
def tw11644339853138966954 : Nat := 0
def tw7082278588318206901 : Nat := 0
def tw16325353235417671329 : Nat := 0
def tw6806638260092727477 : Nat := 0
def tw9064394446318642419 : Nat := 0
def tw14639845883536403687 : Nat := 0
def tw7085622069903361000 : Nat := 0
def tw252236157311099037 : Nat := 0
def tw16092284201409904287 : Nat := 0
def tw7277265526818907223 : Nat := 0
def tw10529267322240305122 : Nat := 0
def tw1217480578404324244 : Nat := 0
def tw10227301661290027298 : Nat := 0
def tw17207945769186526254 : Nat := 0
def tw7421878230489862287 : Nat := 0
def tw5571603238759066837 : Nat := 0
def tw11025088905504858291 : Nat := 0
def tw10367652385710354789 : Nat := 0
def tw1130495681539831350 : Nat := 0
def tw8561047277742927098 : Nat := 0
def tw2531558638206107837 : Nat := 0
def tw7321512903663384583 : Nat := 0
def tw7523393973182058130 : Nat := 0
def tw11907840446196159477 : Nat := 0
def tw4927557259921971434 : Nat := 0
def tw2728627339345227491 : Nat := 0
def tw9206919885963749351 : Nat := 0
def tw3063340749469562024 : Nat := 0
def tw705546963307988114 : Nat := 0
def tw3034232957501747734 : Nat := 0
def tw4678644615032963639 : Nat := 0
def tw10682202023979801412 : Nat := 0
def tw16799468380393356996 : Nat := 0
def tw13859033349786352882 : Nat := 0
def tw1454865766882415349 : Nat := 0
def tw16876031284112018897 : Nat := 0
def tw2372069990643558728 : Nat := 0
def tw9035077175819214184 : Nat := 0
def tw16916891671924242644 : Nat := 0
def tw8334946243017979607 : Nat := 0
def tw11632636859168774427 : Nat := 0
def tw15199683365917545568 : Nat := 0
def tw9844746758767135684 : Nat := 0
def tw4356019272117124012 : Nat := 0
def tw5997017396980111693 : Nat := 0
def tw13440437694922375820 : Nat := 0
def tw5954573990609016276 : Nat := 0
def tw7497613249798396397 : Nat := 0
def tw11219974077971901558 : Nat := 0
def tw9403601429232417467 : Nat := 0
def tw4806026697408791103 : Nat := 0
def tw6011065224564234786 : Nat := 0
def tw12463991187104972547 : Nat := 0
def tw5101964243216967762 : Nat := 0
def tw15264054019773817262 : Nat := 0
def tw15420315073416925639 : Nat := 0
def tw7042317955510217847 : Nat := 0
def tw16560862871422101722 : Nat := 0
def tw1383728421494639854 : Nat := 0
def tw6802710085317712982 : Nat := 0
def tw3784846883935287169 : Nat := 0
def tw16221935027724286446 : Nat := 0
def tw11415731608801262300 : Nat := 0
def tw8944551262196292040 : Nat := 0
def tw3878781157873604686 : Nat := 0
def tw11635286663050515074 : Nat := 0
def tw10768390089168549762 : Nat := 0
def tw9975365339179492335 : Nat := 0
def tw9032994041462850848 : Nat := 0
def tw2592903463069929784 : Nat := 0
def tw17155958391592407548 : Nat := 0
def tw11168011974379397617 : Nat := 0
def tw13894016635488302692 : Nat := 0
def tw985777208685873319 : Nat := 0
def tw12603397996882933392 : Nat := 0
def tw13875339538490150602 : Nat := 0
def tw15502650719437697949 : Nat := 0
def tw13800656284387180982 : Nat := 0
def tw1090435596475192901 : Nat := 0
def tw6825142949537426519 : Nat := 0
def tw1670029444249351613 : Nat := 0
def tw15998131345585562244 : Nat := 0
def tw7467104238914471930 : Nat := 0
def tw17552858519512428383 : Nat := 0
def tw1905839744584708650 : Nat := 0
def tw7321133156785004054 : Nat := 0
def tw7726686130976545892 : Nat := 0
def tw13156743600276077205 : Nat := 0
def tw5834029224665764136 : Nat := 0
def tw12536072699257057184 : Nat := 0
def tw14812198602461610901 : Nat := 0
def tw16217829662060809930 : Nat := 0
def tw8376274150479068193 : Nat := 0
def tw1341637505419771592 : Nat := 0
def tw13548220860421888880 : Nat := 0
def tw8846242370060562094 : Nat := 0
def tw8680803984461200805 : Nat := 0
def tw4981642940875583104 : Nat := 0
def tw8465834873275954987 : Nat := 0
def tw16206792740470794835 : Nat := 0
def tw15736845172404085977 : Nat := 0
def tw8914131371742560195 : Nat := 0
def tw1561595619143346346 : Nat := 0
def tw9789968827489150205 : Nat := 0
def tw17150668433622029438 : Nat := 0
def tw12776669212980219842 : Nat := 0
def tw8131457068496627331 : Nat := 0
def tw2744752917449330289 : Nat := 0
def tw700043697127903915 : Nat := 0
def tw17974115637775165467 : Nat := 0
def tw12197755814866568293 : Nat := 0
def tw9709353170802198215 : Nat := 0
def tw10836942664363091739 : Nat := 0
def tw17133795946077139340 : Nat := 0
def tw853471915447175787 : Nat := 0
def tw10253411374450933972 : Nat := 0
def tw3175238315943713021 : Nat := 0
def tw14436210642798027081 : Nat := 0
def tw6242792596352460188 : Nat := 0
def tw10944429090685339352 : Nat := 0
def tw9798894488736330918 : Nat := 0
def tw14773111724551181459 : Nat := 0
def tw1355238441255280988 : Nat := 0
def tw10783974320287757054 : Nat := 0
def tw10848217842377624050 : Nat := 0
def tw12447984005950003289 : Nat := 0
def tw3500897847151446516 : Nat := 0
def tw2701088733835031158 : Nat := 0
def tw12246006985963357760 : Nat := 0
def tw14929067796851800912 : Nat := 0
def tw15651746114332216349 : Nat := 0
def tw15519508798330651789 : Nat := 0
def tw15015562997049885617 : Nat := 0
def tw4490382426456733552 : Nat := 0
def tw8328779802888807830 : Nat := 0
def tw10503584697163667887 : Nat := 0
def tw8532332899616929215 : Nat := 0
def tw7361278213903876841 : Nat := 0
def tw3001928356866181731 : Nat := 0
def tw1088823011524579713 : Nat := 0
def tw6921494209567599519 : Nat := 0
def tw8553392598916468597 : Nat := 0
def tw8006686737237847377 : Nat := 0
def tw75876026844313163 : Nat := 0
def tw4593752877685683564 : Nat := 0
def tw3038877502840122704 : Nat := 0
def tw11672804541020620669 : Nat := 0
def tw16324685061949448429 : Nat := 0
def tw16571041832124869700 : Nat := 0
def tw11203229753083660603 : Nat := 0
def tw11319643592159359242 : Nat := 0
def tw5347734126645867471 : Nat := 0
def tw7808227498155101524 : Nat := 0
def tw9391076822437444112 : Nat := 0
def tw12251965522580489220 : Nat := 0
def tw12515634318696789652 : Nat := 0
def tw808022534025994291 : Nat := 0
def tw8513368596027674845 : Nat := 0
def tw918615335958643927 : Nat := 0
def tw3521098743852144434 : Nat := 0
def tw13076200600061246396 : Nat := 0
def tw13341106095261859785 : Nat := 0
def tw7598966081532308028 : Nat := 0
def tw17637477772176591962 : Nat := 0
def tw9207076639148649433 : Nat := 0
def tw10180641257407533819 : Nat := 0
def tw2079499183499177943 : Nat := 0
def tw3900416401648313915 : Nat := 0
def tw15975908452165430524 : Nat := 0
def tw18441315495172121861 : Nat := 0
def tw4314818669779269464 : Nat := 0
def tw5492377983335635530 : Nat := 0
def tw2939734566165624154 : Nat := 0
def tw6367740973161109258 : Nat := 0
def tw773624496183362101 : Nat := 0
def tw10463695996850319331 : Nat := 0
def tw16656039905439432018 : Nat := 0
def tw9644312792178654119 : Nat := 0
def tw6687358378542693617 : Nat := 0
def tw12639226084201921040 : Nat := 0
def tw16780384400834006506 : Nat := 0
def tw3257607834786336524 : Nat := 0
def tw6385032466195947659 : Nat := 0
def tw14683795942627404089 : Nat := 0
def tw17023989470206528835 : Nat := 0
def tw8660066033884188291 : Nat := 0
def tw12396242152760128587 : Nat := 0
def tw3286199131442141665 : Nat := 0
def tw2456538663469946126 : Nat := 0
def tw5789467712716923040 : Nat := 0
def tw12757003154489990702 : Nat := 0
def tw8655341286272768940 : Nat := 0
def tw2227778530770910102 : Nat := 0
def tw10989837654867450585 : Nat := 0
def tw2913041000713679063 : Nat := 0
def tw928867771047530510 : Nat := 0
def tw10050644633837375941 : Nat := 0
def tw11401342163101775105 : Nat := 0
def tw6575397819599784686 : Nat := 0
def tw14183994264525051855 : Nat := 0
def tw18234977759863703561 : Nat := 0
def tw16632863616219597079 : Nat := 0
def tw6619561542670188956 : Nat := 0
def tw14617781532125455037 : Nat := 0
def tw15283303766977636043 : Nat := 0
def tw11863024398384975338 : Nat := 0
def tw10133977227970477965 : Nat := 0
def tw3463090186585695027 : Nat := 0
def tw16350422613310385856 : Nat := 0
def tw15235703749272761616 : Nat := 0
def tw12135724790690191582 : Nat := 0
def tw8965499715560887738 : Nat := 0
def tw9601806913049665700 : Nat := 0
def tw2706648397919659831 : Nat := 0
def tw11053486679594885226 : Nat := 0
def tw7056525526516792642 : Nat := 0
def tw5898049683527692263 : Nat := 0
def tw11630272702554596952 : Nat := 0
def tw2023488841295297326 : Nat := 0
def tw8530989967793944253 : Nat := 0
def tw6323048483421382576 : Nat := 0
def tw922780173721272873 : Nat := 0
def tw12455802250741825504 : Nat := 0
def tw13151000904432471276 : Nat := 0
def tw776109399946390850 : Nat := 0
def tw12123392799999604550 : Nat := 0
def tw11676755910086537376 : Nat := 0
def tw3982215725157830427 : Nat := 0
def tw9038610965131953467 : Nat := 0
def tw3467590923088391765 : Nat := 0
def tw730084607840179088 : Nat := 0
def tw11282116923085337604 : Nat := 0
def tw15729782697870256289 : Nat := 0
def tw10784672192169261972 : Nat := 0
def tw2398907109848124454 : Nat := 0
def tw256401538987026012 : Nat := 0
def tw15495710289405588616 : Nat := 0
def tw8327034460536358432 : Nat := 0
def tw6600103358476564625 : Nat := 0
def tw6054540564437374030 : Nat := 0
def tw1810865797190754461 : Nat := 0
def tw4025682635793185172 : Nat := 0
def tw17494238091739519662 : Nat := 0
def tw4072174641322134816 : Nat := 0
def tw4821979304889085892 : Nat := 0
def tw9725057794612066023 : Nat := 0
def tw6803502223721867962 : Nat := 0
def tw14037377724457477815 : Nat := 0
def tw17239892396062551095 : Nat := 0
def tw2576773857357212062 : Nat := 0
def tw11436806107830931042 : Nat := 0
def tw5684953730949079856 : Nat := 0
def tw17832647994895617805 : Nat := 0
def tw2503243081332967896 : Nat := 0
def tw3958285667401220058 : Nat := 0
def tw11308458519116672742 : Nat := 0
def tw13143014033709342189 : Nat := 0
def tw17012506230445519607 : Nat := 0
def tw9761747999647765942 : Nat := 0
def tw329730961645545016 : Nat := 0
def tw10749301729343734006 : Nat := 0
def tw8805978514019766901 : Nat := 0
def tw17067424144695111438 : Nat := 0
def tw825086953899504445 : Nat := 0
def tw11330348601756998232 : Nat := 0
def tw11879760108792665261 : Nat := 0
def tw12664810998011562941 : Nat := 0
def tw7961569330083555433 : Nat := 0
def tw2556286419098841573 : Nat := 0
def tw15583965468894296605 : Nat := 0
def tw7425359375501299082 : Nat := 0
def tw15636056139056519101 : Nat := 0
def tw4331262350196006585 : Nat := 0
def tw4140947496651595945 : Nat := 0
def tw8304563813608003049 : Nat := 0
def tw7197695591983207485 : Nat := 0
def tw534727389936872218 : Nat := 0
def tw2028616127144192609 : Nat := 0
def tw12743213397182423764 : Nat := 0
def tw13780264313473725438 : Nat := 0
def tw18276962990773723761 : Nat := 0
def tw5453366994244524770 : Nat := 0
def tw12596092981966745697 : Nat := 0
def tw884729549535182995 : Nat := 0
def tw11192760242636172156 : Nat := 0
def tw13049578104151747986 : Nat := 0
def tw1583027381132937819 : Nat := 0
def tw3728891119222465186 : Nat := 0
def tw1451188622528593890 : Nat := 0
def tw6500348748475077251 : Nat := 0
def tw12885417183495857686 : Nat := 0
def tw2612706359481852163 : Nat := 0
def tw6833584641324302010 : Nat := 0
def tw2111268353404755832 : Nat := 0
def tw1917921629451657199 : Nat := 0
def tw1174042087973485231 : Nat := 0
def tw8912749897043539616 : Nat := 0
def tw606401230310187746 : Nat := 0
def tw14064293784267714777 : Nat := 0
def tw12793231389916235 : Nat := 0
def tw1713061860892136306 : Nat := 0
def tw1346253028556952762 : Nat := 0
def tw9597723262707573596 : Nat := 0
def tw17354968794799284157 : Nat := 0
def tw16390305959420062050 : Nat := 0
def tw3597436019504733118 : Nat := 0
def tw4379507189764632390 : Nat := 0
def tw2765712547223807810 : Nat := 0
def tw15644230243258040160 : Nat := 0
def tw1638243110551427177 : Nat := 0
def tw17135717569489331297 : Nat := 0
def tw17296363478688224844 : Nat := 0
def tw3416572837047413059 : Nat := 0
def tw6582757725074229477 : Nat := 0
def tw3128827106963148852 : Nat := 0
def tw5621994474880657700 : Nat := 0
def tw11267483286432544790 : Nat := 0
def tw4537503821213678761 : Nat := 0
def tw2107047327154745310 : Nat := 0
def tw11539829230788456540 : Nat := 0
def tw7741293633827052170 : Nat := 0
def tw4055375992176720578 : Nat := 0
def tw11187267288653513944 : Nat := 0
def tw1259250233397960577 : Nat := 0
def tw10629565232842279256 : Nat := 0
def tw14471094735057341165 : Nat := 0
def tw6868921533602483665 : Nat := 0
def tw15371871350318324193 : Nat := 0
def tw3504822161179933940 : Nat := 0
def tw1628130312117212742 : Nat := 0
def tw6659785448605190044 : Nat := 0
def tw16758398537454536563 : Nat := 0
def tw15157751375965144773 : Nat := 0
def tw18040852412534196177 : Nat := 0
def tw4275558123676943651 : Nat := 0
def tw3456195649222940259 : Nat := 0
def tw14907731954802981415 : Nat := 0
def tw16859765669714867 : Nat := 0
def tw6252820181923796511 : Nat := 0
def tw14143469766980894381 : Nat := 0
def tw13032001776723110710 : Nat := 0
def tw7900121874627563822 : Nat := 0
def tw10591052778329634677 : Nat := 0
def tw2458288987338495029 : Nat := 0
def tw17050805455383721601 : Nat := 0
def tw2401542378070179321 : Nat := 0
def tw8150032617231970949 : Nat := 0
def tw11006533352556639946 : Nat := 0
def tw10643194875145999669 : Nat := 0
def tw16393684184014726952 : Nat := 0
def tw3646847887146469144 : Nat := 0
def tw675984588979463962 : Nat := 0
def tw9233140414390903483 : Nat := 0
def tw17515276748496189466 : Nat := 0
def tw8936145087664541667 : Nat := 0
def tw6718184263086125088 : Nat := 0
def tw2629169124019569019 : Nat := 0
def tw14514958238572190098 : Nat := 0
def tw9989959199971541177 : Nat := 0
def tw17013393239653867192 : Nat := 0
def tw7729866965676662424 : Nat := 0
def tw16780775394654587162 : Nat := 0
def tw3150863474965413420 : Nat := 0
def tw4495294486286312129 : Nat := 0
def tw7285589103401769136 : Nat := 0
def tw4184556606987400151 : Nat := 0
def tw13850267212521555202 : Nat := 0
def tw6846607535018024759 : Nat := 0
def tw15582110086919982272 : Nat := 0
def tw10904198977532075788 : Nat := 0
def tw957903822545715672 : Nat := 0
def tw12399582035825667602 : Nat := 0
def tw16898688143214569735 : Nat := 0
def tw353350884552698921 : Nat := 0
def tw18377955127479247708 : Nat := 0
def tw12131025992432967524 : Nat := 0
def tw6580951594176217095 : Nat := 0
def tw12851668626055692501 : Nat := 0
def tw16290529025475054608 : Nat := 0
def tw7571622742051901114 : Nat := 0
def tw17483678683814604663 : Nat := 0
def tw9357793573314657404 : Nat := 0
def tw6029612164597283014 : Nat := 0
def tw4951113425115595723 : Nat := 0
def tw6792073933271864482 : Nat := 0
def tw12361615437021480786 : Nat := 0
def tw4852285626944641917 : Nat := 0
def tw2217140590369826202 : Nat := 0
def tw12149768361547828881 : Nat := 0
def tw7745427580824197235 : Nat := 0
def tw2733871043765516346 : Nat := 0
def tw2368194696860579723 : Nat := 0
def tw8965361147959095849 : Nat := 0
def tw10088501455614064600 : Nat := 0
def tw15801249652681196694 : Nat := 0
def tw17249578759845562589 : Nat := 0
def tw6116680992888724686 : Nat := 0
def tw3887190995885224283 : Nat := 0
def tw8335610346811754092 : Nat := 0
def tw2732010506283601389 : Nat := 0
def tw8854091303629777269 : Nat := 0
def tw3418421685927536516 : Nat := 0
def tw770048406669931883 : Nat := 0
def tw8162272004596956567 : Nat := 0
def tw3462242349448835041 : Nat := 0
def tw7227396859948584124 : Nat := 0
def tw13654674065067040085 : Nat := 0
def tw16865958343797672311 : Nat := 0
def tw15524458860924771508 : Nat := 0
def tw9597330871667431223 : Nat := 0
def tw2992806685282571241 : Nat := 0
def tw10949470627941322045 : Nat := 0
def tw11014243965686673770 : Nat := 0
def tw2030865017192918254 : Nat := 0
def tw17410653977381907608 : Nat := 0
def tw3077396227103065931 : Nat := 0
def tw3058099686323503989 : Nat := 0
def tw7461639986286981639 : Nat := 0
def tw11463280705154646580 : Nat := 0
def tw13952921967777215112 : Nat := 0
def tw9759554604894560952 : Nat := 0
def tw17663445185007709463 : Nat := 0
def tw8778477122325062261 : Nat := 0
def tw15065413964757610148 : Nat := 0
def tw3294584552889776759 : Nat := 0
def tw15545699470301222438 : Nat := 0
def tw9739465543645105527 : Nat := 0
def tw8554121859211226309 : Nat := 0
def tw15426831336081950009 : Nat := 0
def tw12343635545169510321 : Nat := 0
def tw2582250086243488851 : Nat := 0
def tw6518812396799022799 : Nat := 0
def tw15057993770613070972 : Nat := 0
def tw3712281284316991080 : Nat := 0
def tw3275738010700265906 : Nat := 0
def tw7857347178652281454 : Nat := 0
def tw12758959228486788353 : Nat := 0
def tw3265074315425717522 : Nat := 0
def tw12464672702566492871 : Nat := 0
def tw12254260141571245774 : Nat := 0
def tw3757060544052031493 : Nat := 0
def tw18402470756905195628 : Nat := 0
def tw7421331574213024528 : Nat := 0
def tw10020366077408986761 : Nat := 0
def tw11604044053455331254 : Nat := 0
def tw14116983378521445033 : Nat := 0
def tw1926136373895266245 : Nat := 0
def tw7951633018699766832 : Nat := 0
def tw6326629617061690878 : Nat := 0
def tw17896141789427168943 : Nat := 0
def tw11461010848927001121 : Nat := 0
def tw2048431533599288864 : Nat := 0
def tw1764936130198439525 : Nat := 0
def tw15937335097045456720 : Nat := 0
def tw17597901427553886888 : Nat := 0
def tw6181024417567098172 : Nat := 0
def tw3845905606912149347 : Nat := 0
def tw6303134668591517220 : Nat := 0
def tw7817725326720950334 : Nat := 0
def tw8924313678279984672 : Nat := 0
def tw9007623167305914132 : Nat := 0
def tw14667450793748195651 : Nat := 0
def tw15914508013344447276 : Nat := 0
def tw16231604529460322874 : Nat := 0
def tw10499618604704178922 : Nat := 0
def tw118012646636299288 : Nat := 0
def tw2177547817299929462 : Nat := 0
def tw9846087496163674380 : Nat := 0
def tw9046884119544877828 : Nat := 0
def tw8973119412106811344 : Nat := 0
def tw3340868765685491471 : Nat := 0
def tw5419183965909006676 : Nat := 0
def tw74809061455164910 : Nat := 0
def tw2361463948096654885 : Nat := 0
def tw619718474649538874 : Nat := 0
def tw5197291237269573416 : Nat := 0
def tw742612197686329054 : Nat := 0
def tw269693431404972187 : Nat := 0
def tw5548748429368309762 : Nat := 0
def tw15450828907739687655 : Nat := 0
def tw3292232681741268977 : Nat := 0
def tw1476373464369038334 : Nat := 0
def tw8878940715639412975 : Nat := 0
def tw6788702910689465093 : Nat := 0
def tw13325518415998010460 : Nat := 0
def tw9196360918228619155 : Nat := 0
def tw4215940368669646997 : Nat := 0
def tw13936752168504924099 : Nat := 0
def tw12032098540732298278 : Nat := 0
def tw10778650435491412225 : Nat := 0
def tw18077974965900431386 : Nat := 0
def tw3599795318214029096 : Nat := 0
def tw7605442654537180020 : Nat := 0
def tw4282175402940991537 : Nat := 0
def tw9788118473911353100 : Nat := 0
def tw17930827724732360110 : Nat := 0
def tw10411082456374738814 : Nat := 0
def tw13893297390764591300 : Nat := 0
def tw5939854245702446920 : Nat := 0
def tw7794219021888144307 : Nat := 0
def tw13615894850013688771 : Nat := 0
def tw13216850257256582813 : Nat := 0
def tw2390391703403901678 : Nat := 0
def tw7013920709093518533 : Nat := 0
def tw12377452576480920735 : Nat := 0
def tw8734356644940562444 : Nat := 0
def tw1990978349423999751 : Nat := 0
def tw17044785230801100104 : Nat := 0
def tw17215804505126195196 : Nat := 0
def tw11980411494951805229 : Nat := 0
def tw18070763253882361164 : Nat := 0
def tw1273738104384555488 : Nat := 0
def tw256049153707193018 : Nat := 0
def tw16679241147644889280 : Nat := 0
def tw8258509892032875017 : Nat := 0
def tw16913814183767840936 : Nat := 0
def tw15461894947415157521 : Nat := 0
def tw16698102190044990003 : Nat := 0
def tw13285977745974374082 : Nat := 0
def tw7120277962926316716 : Nat := 0
def tw6698150797058201292 : Nat := 0
def tw14778779317500261430 : Nat := 0
def tw14992550073582578288 : Nat := 0
def tw10147835050037430526 : Nat := 0
def tw16983866041098310405 : Nat := 0
def tw15544347189281771815 : Nat := 0
def tw12284684727798961542 : Nat := 0
def tw16915797310653346697 : Nat := 0
def tw18338268707274318083 : Nat := 0
def tw3503622198454851251 : Nat := 0
def tw9156531552420321168 : Nat := 0
def tw16199516666160519077 : Nat := 0
def tw9374212536629409493 : Nat := 0
def tw7569615942290335252 : Nat := 0
def tw8146034117997975506 : Nat := 0
def tw3212748489924738655 : Nat := 0
def tw114558951209153924 : Nat := 0
def tw10490469375526642224 : Nat := 0
def tw5332173932199823725 : Nat := 0
def tw4452932513374301533 : Nat := 0
def tw5931581864840825388 : Nat := 0
def tw745234522222012652 : Nat := 0
def tw4241547834968311307 : Nat := 0
def tw8759294497851941035 : Nat := 0
def tw11855665949045895776 : Nat := 0
def tw12784435229496771020 : Nat := 0
def tw10588263352696961949 : Nat := 0
def tw1352201869998177904 : Nat := 0
def tw12003189427638030852 : Nat := 0
def tw12745590287479785745 : Nat := 0
def tw65384488609768398 : Nat := 0
def tw6312724159819897315 : Nat := 0
def tw4873398209632434029 : Nat := 0
def tw13074671741395828573 : Nat := 0
def tw15454917549242213049 : Nat := 0
def tw12328726408635158880 : Nat := 0
def tw3250812463288832768 : Nat := 0
def tw4695959902002580004 : Nat := 0
def tw4884978032568461588 : Nat := 0
def tw16469948328813148867 : Nat := 0
def tw12259256961751279211 : Nat := 0
def tw12449438855042787583 : Nat := 0
def tw17940599715318885443 : Nat := 0
def tw3944659980051859389 : Nat := 0
def tw1338779633746636453 : Nat := 0
def tw14408157267366078249 : Nat := 0
def tw14583677896668692368 : Nat := 0
def tw17912815873880050007 : Nat := 0
def tw2149096028803538784 : Nat := 0
def tw13490151807632350623 : Nat := 0
def tw15938130492691689658 : Nat := 0
def tw10488998097319938875 : Nat := 0
def tw10535712659723270527 : Nat := 0
def tw3416230846382727702 : Nat := 0
def tw14189921864310060754 : Nat := 0
def tw6230213937413379975 : Nat := 0
def tw7020734880108266413 : Nat := 0
def tw5606011287274410114 : Nat := 0
def tw3198643709577318715 : Nat := 0
def tw6204534420810802548 : Nat := 0
def tw11799650565204164631 : Nat := 0
def tw2923860492711074231 : Nat := 0
def tw11063894427648639703 : Nat := 0
def tw14196063628225757601 : Nat := 0
def tw115445145909994988 : Nat := 0
def tw16787404155301441575 : Nat := 0
def tw3298169470541203519 : Nat := 0
def tw17444459096338202936 : Nat := 0
def tw2855579889553162158 : Nat := 0
def tw16746179980338647608 : Nat := 0
def tw4734813842652298582 : Nat := 0
def tw4921833087250680346 : Nat := 0
def tw14140534824664834427 : Nat := 0
def tw2534840891886656424 : Nat := 0
def tw13800440905158646030 : Nat := 0
def tw82674880249275084 : Nat := 0
def tw7264319991707708268 : Nat := 0
def tw8100861831049336579 : Nat := 0
def tw9016870233674630938 : Nat := 0
def tw13494051375902611988 : Nat := 0
def tw3011927455376924293 : Nat := 0
def tw4295521305415164189 : Nat := 0
def tw2934385068592514736 : Nat := 0
def tw12307233015896678131 : Nat := 0
def tw9551654268171397543 : Nat := 0
def tw9614455592996245684 : Nat := 0
def tw15391485101843832884 : Nat := 0
def tw11618762743593460007 : Nat := 0
def tw10784529918652721340 : Nat := 0
def tw11992054061421642437 : Nat := 0
def tw1997826418020714993 : Nat := 0
def tw16439767978206069361 : Nat := 0
def tw12576868945283495641 : Nat := 0
def tw2844483635505793863 : Nat := 0
def tw6849687668597122496 : Nat := 0
def tw2708312349146770596 : Nat := 0
def tw3016559269664447276 : Nat := 0
def tw14074290267882323427 : Nat := 0
def tw18183835243338611446 : Nat := 0
def tw11343798628071853041 : Nat := 0
def tw14537751776792017000 : Nat := 0
def tw1898431635128532962 : Nat := 0
def tw13880204585882380114 : Nat := 0
def tw1092478908867994655 : Nat := 0
def tw5549382440328607349 : Nat := 0
def tw15257615207700146505 : Nat := 0
def tw11608947770365719336 : Nat := 0
def tw9913130426402584974 : Nat := 0
def tw13786541598840716830 : Nat := 0
def tw7384385262708602691 : Nat := 0
def tw15183654881923397982 : Nat := 0
def tw5252912196260636463 : Nat := 0
def tw12336538116222860638 : Nat := 0
def tw7611291824413356545 : Nat := 0
def tw168069760661858206 : Nat := 0
def tw16057821043870621692 : Nat := 0
def tw10548788894882043394 : Nat := 0
def tw2376666881563891938 : Nat := 0
def tw302993723246681458 : Nat := 0
def tw10597111070790870990 : Nat := 0
def tw10340335774023010831 : Nat := 0
def tw6246868563839611050 : Nat := 0
def tw13637793021488383008 : Nat := 0
def tw4968293379112012002 : Nat := 0
def tw3552595983283629003 : Nat := 0
def tw3888838726209543265 : Nat := 0
def tw8553123057992098165 : Nat := 0
def tw4086363927443168726 : Nat := 0
def tw14510706401367990732 : Nat := 0
def tw16284597408063613621 : Nat := 0
def tw17164380903485102290 : Nat := 0
def tw8864744083911774301 : Nat := 0
def tw183234078808041298 : Nat := 0
def tw10240743454213143992 : Nat := 0
def tw8075711846525035928 : Nat := 0
def tw4979552825271757541 : Nat := 0
def tw8704880677479053895 : Nat := 0
def tw910665440701512283 : Nat := 0
def tw14898297582901256937 : Nat := 0
def tw3795785436636518151 : Nat := 0
def tw5501881819660475115 : Nat := 0
def tw4279737340622142170 : Nat := 0
def tw10301246519141944267 : Nat := 0
def tw17964219441385763657 : Nat := 0
def tw4639181045395166319 : Nat := 0
def tw1448143900233064136 : Nat := 0
def tw11142892149419790184 : Nat := 0
def tw10778075343472034167 : Nat := 0
def tw12453935557716722779 : Nat := 0
def tw9871770409908624018 : Nat := 0
def tw17252192590853786372 : Nat := 0
def tw12377626871781701392 : Nat := 0
def tw1039345227654894339 : Nat := 0
def tw1944484247692159738 : Nat := 0
def tw13278540998451082304 : Nat := 0
def tw1173169488453226954 : Nat := 0
def tw1893643968034619514 : Nat := 0
def tw9046871709468776631 : Nat := 0
def tw12186776261365421754 : Nat := 0
def tw3964771538799432361 : Nat := 0
def tw17367028927579189965 : Nat := 0
def tw6710590019121225534 : Nat := 0
def tw12030875350891377177 : Nat := 0
def tw5935974584626447738 : Nat := 0
def tw18074263707902459248 : Nat := 0
def tw6834339294556800009 : Nat := 0
def tw15722552446895615148 : Nat := 0
def tw12357694701976746439 : Nat := 0
def tw13063176654180224081 : Nat := 0
def tw418517287871870578 : Nat := 0
def tw7385521494964751073 : Nat := 0
def tw5774349242931415398 : Nat := 0
def tw1778332271174825819 : Nat := 0
def tw15589422757855065057 : Nat := 0
def tw14101019369493791013 : Nat := 0
def tw18131960952334341142 : Nat := 0
def tw5306113048107034884 : Nat := 0
def tw18289612454100284082 : Nat := 0
def tw3925571776095965751 : Nat := 0
def tw10520195428296354628 : Nat := 0
def tw9132421292628920614 : Nat := 0
def tw18425610563138534400 : Nat := 0
def tw9537653498158810448 : Nat := 0
def tw16840304393725636896 : Nat := 0
def tw347958032015544074 : Nat := 0
def tw9775891105042754141 : Nat := 0
def tw5954391778083353531 : Nat := 0
def tw3043780679327342508 : Nat := 0
def tw13334140175306588505 : Nat := 0
def tw2303710576884042150 : Nat := 0
def tw12203722413599668190 : Nat := 0
def tw18376924141027421515 : Nat := 0
def tw2975323752571196723 : Nat := 0
def tw673345989794674780 : Nat := 0
def tw6793174819129569833 : Nat := 0
def tw17868884722457123502 : Nat := 0
def tw13818775501916879310 : Nat := 0
def tw13788986180513971747 : Nat := 0
def tw13224029668809339118 : Nat := 0
def tw3007178669843761757 : Nat := 0
def tw12893961328347066699 : Nat := 0
def tw8857256536939437553 : Nat := 0
def tw6725549673538994534 : Nat := 0
def tw15082578812855800253 : Nat := 0
def tw9957652991759095366 : Nat := 0
def tw11216194243236946582 : Nat := 0
def tw12514920864295858426 : Nat := 0
def tw1791648085106745747 : Nat := 0
def tw13090872071218468349 : Nat := 0
def tw7958998515381019973 : Nat := 0
def tw680797497167617178 : Nat := 0
def tw4033382243967110775 : Nat := 0
def tw10874131917565410892 : Nat := 0
def tw5868933689657064954 : Nat := 0
def tw12495711596075255212 : Nat := 0
def tw16480242765790332214 : Nat := 0
def tw3485150899713025818 : Nat := 0
def tw8865753904482561894 : Nat := 0
def tw360009039861453367 : Nat := 0
def tw8541380740477616657 : Nat := 0
def tw13252671565248027867 : Nat := 0
def tw11847652111555703830 : Nat := 0
def tw13577577048560355534 : Nat := 0
def tw5351707912340923295 : Nat := 0
def tw17247807783219998490 : Nat := 0
def tw16946558583927524126 : Nat := 0
def tw5124455118060243131 : Nat := 0
def tw13238869949548768643 : Nat := 0
def tw8657567783317413202 : Nat := 0
def tw14987798530368367960 : Nat := 0
def tw2825741540929892058 : Nat := 0
def tw9959038741405819365 : Nat := 0
def tw5162311138718318415 : Nat := 0
def tw8836707470263359212 : Nat := 0
def tw466662950302755510 : Nat := 0
def tw15565439776639677471 : Nat := 0
def tw13997786907951325791 : Nat := 0
def tw5283034007694158137 : Nat := 0
def tw4846148234260625775 : Nat := 0
def tw10017905052132418740 : Nat := 0
def tw16281466421854719559 : Nat := 0
def tw16706725145638833924 : Nat := 0
def tw10188841038224201875 : Nat := 0
def tw12622924877600177252 : Nat := 0
def tw4867468759971524667 : Nat := 0
def tw8873857084043456741 : Nat := 0
def tw5565050014127200426 : Nat := 0
def tw14442798434246488179 : Nat := 0
def tw9918969137609790198 : Nat := 0
def tw417437831687969171 : Nat := 0
def tw333567702661138007 : Nat := 0
def tw1746285827554711265 : Nat := 0
def tw14929893724448293680 : Nat := 0
def tw5403989026287383495 : Nat := 0
def tw14779301316707365342 : Nat := 0
def tw12951002597260510254 : Nat := 0
def tw4779564386277621045 : Nat := 0
def tw12753038840005759245 : Nat := 0
def tw2945566703880722224 : Nat := 0
def tw2475258545352055483 : Nat := 0
def tw17473559750775640178 : Nat := 0
def tw15597263118209995261 : Nat := 0
def tw3704771165100367304 : Nat := 0
def tw12644606069664566041 : Nat := 0
def tw3040937009337181263 : Nat := 0
def tw11699542199814874196 : Nat := 0
def tw5421015298065267588 : Nat := 0
def tw5882749544743340096 : Nat := 0
def tw1776662382908676155 : Nat := 0
def tw13183680035688670523 : Nat := 0
def tw1693985377564283428 : Nat := 0
def tw14106052771859856253 : Nat := 0
def tw3070721911216418940 : Nat := 0
def tw15316659843186048192 : Nat := 0
def tw11699015805428946406 : Nat := 0
def tw10847631031184951246 : Nat := 0
def tw7050540340808141905 : Nat := 0
def tw5205904202113659958 : Nat := 0
def tw8005270112357870366 : Nat := 0
def tw8170467632939818148 : Nat := 0
def tw16191393968692046640 : Nat := 0
def tw10348018028739848901 : Nat := 0
def tw7640871287936689952 : Nat := 0
def tw17370767658926056860 : Nat := 0
def tw13799867048713414273 : Nat := 0
def tw9225944271072024172 : Nat := 0
def tw12600016264929811797 : Nat := 0
def tw11736614254709694969 : Nat := 0
def tw11104374963724411175 : Nat := 0
def tw581451799804046417 : Nat := 0
def tw4344559694729323139 : Nat := 0
def tw7602446854950774020 : Nat := 0
def tw3177957972327651422 : Nat := 0
def tw10046344681648597491 : Nat := 0
def tw12616793426343632282 : Nat := 0
def tw7861541642008439528 : Nat := 0
def tw10011580568882973648 : Nat := 0
def tw9833713000260769644 : Nat := 0
def tw7130423264782470049 : Nat := 0
def tw4229085382203709897 : Nat := 0
def tw5795584910730684370 : Nat := 0
def tw14842280464727431854 : Nat := 0
def tw4104627012676502407 : Nat := 0
def tw11559841015755374035 : Nat := 0
def tw10488999062023855670 : Nat := 0
def tw11915991465418538011 : Nat := 0
def tw3893972413090675167 : Nat := 0
def tw4039062199427951629 : Nat := 0
def tw6074139442863028498 : Nat := 0
def tw11852889582467966833 : Nat := 0
def tw11539872178754246564 : Nat := 0
def tw4700227039757409728 : Nat := 0
def tw17949954239242684476 : Nat := 0
def tw1591057316558216915 : Nat := 0
def tw15051627294714434228 : Nat := 0
def tw18413551161254793593 : Nat := 0
def tw109365420835369286 : Nat := 0
def tw8123361861717418151 : Nat := 0
def tw1408492149765451318 : Nat := 0
def tw3791740039932789660 : Nat := 0
def tw13082319346226189390 : Nat := 0
def tw4668090093688946183 : Nat := 0
def tw9088927155889088329 : Nat := 0
def tw11578681139778522644 : Nat := 0
def tw1814527703327599925 : Nat := 0
def tw11774513261105311568 : Nat := 0
def tw1675398434727656452 : Nat := 0
def tw11199121498459251203 : Nat := 0
def tw12920930918924060165 : Nat := 0
def tw9313406337293331520 : Nat := 0
def tw9037604038276761794 : Nat := 0
def tw10667273073266312055 : Nat := 0
def tw9565933640728213100 : Nat := 0
def tw15457452884794178481 : Nat := 0
def tw16156846985248955645 : Nat := 0
def tw4331988106586554105 : Nat := 0
def tw3472174796441570824 : Nat := 0
def tw960302858644750179 : Nat := 0
def tw1043708077057355866 : Nat := 0
def tw5624007661310696713 : Nat := 0
def tw10729841056385397686 : Nat := 0
def tw2738855966672202712 : Nat := 0
def tw3237048857278796149 : Nat := 0
def tw9510193264098527185 : Nat := 0
def tw7061548456828108309 : Nat := 0
def tw8942702125034919310 : Nat := 0
def tw2861357554204488756 : Nat := 0
def tw5522668953715855137 : Nat := 0
def tw2283888044102335875 : Nat := 0
def tw3923935919725132843 : Nat := 0
def tw6199922841371842967 : Nat := 0
def tw18437804673149074299 : Nat := 0
def tw7338429170324045028 : Nat := 0
def tw7135175589381291031 : Nat := 0
def tw4591161172195654595 : Nat := 0
def tw8927625145858870976 : Nat := 0
def tw1036657720692644804 : Nat := 0
def tw688242897044858030 : Nat := 0
def tw1240376074990237270 : Nat := 0
def tw4357577660258389366 : Nat := 0
def tw6488197536506828556 : Nat := 0
def tw1201710072115423570 : Nat := 0
def tw13481475511300840590 : Nat := 0
def tw10133544815545447585 : Nat := 0
def tw805580290873059389 : Nat := 0
def tw17570596352067948882 : Nat := 0
def tw137180527178752874 : Nat := 0
def tw11007459781654434681 : Nat := 0
def tw5049562470782444396 : Nat := 0
def tw17809461138006905434 : Nat := 0
def tw1986637655877293748 : Nat := 0
def tw7030401521483107536 : Nat := 0
def tw11577648091488502663 : Nat := 0
def tw12913147598872028762 : Nat := 0
def tw1916245206529516436 : Nat := 0
def tw4167164655939874446 : Nat := 0
def tw1919849887301623494 : Nat := 0
def tw8997800116701379874 : Nat := 0
def tw11959661125901947168 : Nat := 0
def tw9580517688323606059 : Nat := 0
def tw1331072475912839332 : Nat := 0
def tw130513944774148731 : Nat := 0
def tw15322274113416276227 : Nat := 0
def tw14519636922251513720 : Nat := 0
def tw11221591985825594063 : Nat := 0
def tw8452923211299928789 : Nat := 0
def tw15868716211833888581 : Nat := 0
def tw9093143421957000121 : Nat := 0
def tw16816973878609048579 : Nat := 0
def tw1264063036227548424 : Nat := 0
def tw12757664776491020991 : Nat := 0
def tw4694149674885932438 : Nat := 0
def tw1991614897796128355 : Nat := 0
def tw13208983538363274896 : Nat := 0
def tw17158948494806855418 : Nat := 0
def tw17827611482708057500 : Nat := 0
def tw307029162108153876 : Nat := 0
def tw17237362039028809473 : Nat := 0
def tw6288747963293452078 : Nat := 0
def tw16210024641080900855 : Nat := 0
def tw528877422266866640 : Nat := 0
def tw7715321575101551887 : Nat := 0
def tw5499423625611383057 : Nat := 0
def tw13110527244569412309 : Nat := 0
def tw7622512919796157338 : Nat := 0
def tw4493647451956947718 : Nat := 0
def tw4419730540156152953 : Nat := 0
def tw4972290007716131646 : Nat := 0
def tw14832043733628424565 : Nat := 0
def tw2407320737919560331 : Nat := 0
def tw17856750577152901801 : Nat := 0
def tw9768103406197743578 : Nat := 0
def tw7753452092693308845 : Nat := 0
def tw393613547682218704 : Nat := 0
def tw14143772888636199942 : Nat := 0
def tw7342624139213304540 : Nat := 0
def tw2507139755256274876 : Nat := 0
def tw10636753807687073680 : Nat := 0
def tw8990308717622231922 : Nat := 0
def tw14890022958974981124 : Nat := 0
def tw6196324192806151899 : Nat := 0
def tw9384919594027203763 : Nat := 0
def tw13514080325714087123 : Nat := 0
def tw2300835840109321185 : Nat := 0
def tw6651902956733992823 : Nat := 0
def tw4300742692500231924 : Nat := 0
def tw8639331395390990432 : Nat := 0
def tw7957015371439348014 : Nat := 0
def tw13816010330479853440 : Nat := 0
def tw9412404020905690745 : Nat := 0
def tw11282771471907044103 : Nat := 0
def tw17565785657714701800 : Nat := 0
def tw10533555647754538814 : Nat := 0
def tw9111454976256441242 : Nat := 0
def tw5051941281509259342 : Nat := 0
def tw7567390202901184067 : Nat := 0
def tw2724657131105509172 : Nat := 0
def tw17473219007796295202 : Nat := 0
def tw5049923494814940694 : Nat := 0
def tw7344614567743667634 : Nat := 0
def tw1129828665547412179 : Nat := 0
def tw5249282290431386151 : Nat := 0
def tw3498103882814313046 : Nat := 0
def tw2546213589163980006 : Nat := 0
def tw15851232886488087103 : Nat := 0
def tw2824941020721980606 : Nat := 0
def tw845987482512065721 : Nat := 0
def tw8330403500893090166 : Nat := 0
def tw17527418936859818534 : Nat := 0
def tw16800950216287027127 : Nat := 0
def tw1544836031574273333 : Nat := 0
def tw9724740005824973014 : Nat := 0
def tw10172003629444254980 : Nat := 0
def tw8015518629149284105 : Nat := 0
def tw5679079185431460887 : Nat := 0
def tw19312072855460229 : Nat := 0
def tw16261751995577969259 : Nat := 0
def tw6811745093317508407 : Nat := 0
def tw5784129753555382837 : Nat := 0
def tw864912599628558028 : Nat := 0
def tw5823351453428446196 : Nat := 0
def tw5308789090597774051 : Nat := 0
def tw14478889446077696244 : Nat := 0
def tw7875210694257814079 : Nat := 0
def tw10193661219110082246 : Nat := 0
def tw16705024880580476833 : Nat := 0
def tw17298649837239843062 : Nat := 0
def tw7006780183248926521 : Nat := 0
def tw10074680045668274979 : Nat := 0
def tw16069802435935812562 : Nat := 0
def tw1774771471166339028 : Nat := 0
def tw4157509494379982895 : Nat := 0
def tw5856064662317472837 : Nat := 0
def tw17422176061113323730 : Nat := 0
def tw14734393583993839880 : Nat := 0
def tw9563260709168469745 : Nat := 0
def tw14544107229626172778 : Nat := 0
def tw14432460441022794868 : Nat := 0
def tw6885913010723735206 : Nat := 0
def tw3684522248400843777 : Nat := 0
def tw260715309629179091 : Nat := 0
def tw6091581567917476893 : Nat := 0
def tw7750121922580691459 : Nat := 0
def tw17765555869710086488 : Nat := 0
def tw9834532335783505927 : Nat := 0
def tw3105420382940534002 : Nat := 0
def tw12484023973236214017 : Nat := 0
def tw8363269903688426778 : Nat := 0
def tw9630219922437038114 : Nat := 0
def tw1148608766016985377 : Nat := 0
def tw12680506523874699073 : Nat := 0
def tw9277521751603406345 : Nat := 0
def tw5113076860887221966 : Nat := 0
def tw7176830197594438683 : Nat := 0
def tw5466532251771078337 : Nat := 0
def tw13847210220540761909 : Nat := 0
def tw12383417276600118010 : Nat := 0
def tw12785847576472484623 : Nat := 0
def tw3792182780196487683 : Nat := 0
def tw10017465058697289102 : Nat := 0
def tw11879929512673896989 : Nat := 0
def tw17077362802601420666 : Nat := 0
def tw10291958800403181480 : Nat := 0
def tw11168898047327874685 : Nat := 0
def tw12621645470668189282 : Nat := 0
def tw6937135414350846405 : Nat := 0
def tw1346736598837572646 : Nat := 0
def tw14285183956555894528 : Nat := 0
def tw792308049626053482 : Nat := 0
def tw3960500845857133711 : Nat := 0
def tw7992199407540381914 : Nat := 0
def tw3259118399285069233 : Nat := 0
def tw9846692547298023418 : Nat := 0
def tw11423295111131818809 : Nat := 0
def tw7631614675330475216 : Nat := 0
def tw985331882472267628 : Nat := 0
def tw10995594645471249960 : Nat := 0
def tw684596686696244105 : Nat := 0
def tw3467038861063925895 : Nat := 0
def tw4474410700540246273 : Nat := 0
def tw10228084455874274210 : Nat := 0
def tw12138355063216031754 : Nat := 0
def tw1173890951203220 : Nat := 0
def tw14458045151638785082 : Nat := 0
def tw8964415730891649990 : Nat := 0
def tw18417433415746151708 : Nat := 0
def tw10472611404708744404 : Nat := 0
def tw18350915087661265303 : Nat := 0
def tw7356717762309004805 : Nat := 0
def tw8636732459350949081 : Nat := 0
def tw4766474416379502513 : Nat := 0
def tw663310963670391405 : Nat := 0
def tw4851242869827914234 : Nat := 0
def tw3672974854764657735 : Nat := 0
def tw2646700905601607140 : Nat := 0
def tw3335152345219919527 : Nat := 0
def tw17380084329284799768 : Nat := 0
def tw13845298435244905524 : Nat := 0
def tw17471229822450748525 : Nat := 0
def tw17764840071935590883 : Nat := 0
def tw15500204499944363009 : Nat := 0
def tw16748547553389808139 : Nat := 0
def tw8645080189474497030 : Nat := 0
def tw13184414499134839977 : Nat := 0
def tw5694381559024638629 : Nat := 0
def tw9586028913564653595 : Nat := 0
def tw5720944079094628143 : Nat := 0
def tw15264959342733692609 : Nat := 0
def tw8776896679320131525 : Nat := 0
def tw11535967520320987508 : Nat := 0
def tw16324710645995156796 : Nat := 0
def tw6564036156441779996 : Nat := 0
def tw8764600998726504500 : Nat := 0
def tw7604286237118896501 : Nat := 0
def tw17428458034782109938 : Nat := 0
def tw3032176383767936944 : Nat := 0
def tw1444511284622086158 : Nat := 0
def tw15579235071607032171 : Nat := 0
def tw8800788765225702130 : Nat := 0
def tw16705630250236366827 : Nat := 0
def tw10034908561056153500 : Nat := 0
def tw6427336571770628102 : Nat := 0
def tw8923330957588381959 : Nat := 0
def tw17886993699590469578 : Nat := 0
def tw13893839116494824221 : Nat := 0
def tw13777696306125224539 : Nat := 0
def tw4524705479156765673 : Nat := 0
def tw11346373311795852770 : Nat := 0
def tw9720666627024281861 : Nat := 0
def tw15081478379940034846 : Nat := 0
def tw813897896366150897 : Nat := 0
def tw12986223840223032842 : Nat := 0
def tw17592483182877458177 : Nat := 0
def tw16295155104292935819 : Nat := 0
def tw17165190793449309552 : Nat := 0
def tw10611779443838391822 : Nat := 0
def tw17956399166604552037 : Nat := 0
def tw6387275488355918219 : Nat := 0
def tw13574143265832195278 : Nat := 0
def tw18120269214112086942 : Nat := 0
def tw11646526442647403705 : Nat := 0
def tw16729078134453892019 : Nat := 0
def tw17667298388020382169 : Nat := 0
def tw3774492650460296176 : Nat := 0
def tw9662617371478383544 : Nat := 0
def tw6295707135553783988 : Nat := 0
def tw2447784946691428063 : Nat := 0
def tw547779680840172165 : Nat := 0
def tw16220308179121998727 : Nat := 0
def tw5812868913057300388 : Nat := 0
def tw8918873209684576525 : Nat := 0
def tw16009205141812229183 : Nat := 0
def tw8269446444469617499 : Nat := 0
def tw3300241488418155475 : Nat := 0
def tw15084718144449298845 : Nat := 0
def tw10028235876902146129 : Nat := 0
def tw11983268302723927366 : Nat := 0
def tw17629381328034467258 : Nat := 0
def tw1615210039563264506 : Nat := 0
def tw11075147554663758984 : Nat := 0
def tw8684583361289022486 : Nat := 0
def tw7800488703154828735 : Nat := 0
def tw7714883717005370610 : Nat := 0
def tw10598353623193879348 : Nat := 0
def tw12210421258438712591 : Nat := 0
def tw16053765249857966304 : Nat := 0
def tw6822321826599152224 : Nat := 0
def tw9519522128502321490 : Nat := 0
def tw7043080002768601685 : Nat := 0
def tw17450202921424586401 : Nat := 0
def tw4556138781025179129 : Nat := 0
def tw2716327679742046758 : Nat := 0
def tw18092335770244486836 : Nat := 0
def tw12009487706861815252 : Nat := 0
def tw2667761768653815577 : Nat := 0
def tw4186321816642730938 : Nat := 0
def tw1053637493353043231 : Nat := 0
def tw8879884202763985668 : Nat := 0
def tw11233379334946148216 : Nat := 0
def tw13616410304936271959 : Nat := 0
def tw13707885419278831801 : Nat := 0
def tw15339863788052998207 : Nat := 0
def tw10480709010649443186 : Nat := 0
def tw4088247833299916862 : Nat := 0
def tw17707839032610322818 : Nat := 0
def tw939153713758715488 : Nat := 0
def tw15208122869040229077 : Nat := 0
def tw10731391593715293282 : Nat := 0
def tw5651537900409676876 : Nat := 0
def tw10744570215723422070 : Nat := 0
def tw745113179985137667 : Nat := 0
def tw15514141826810790519 : Nat := 0
def tw15296000295927966232 : Nat := 0
def tw1579039497708515656 : Nat := 0
def tw923146356917545441 : Nat := 0
def tw2760317044720160795 : Nat := 0
def tw8859431232228282139 : Nat := 0
def tw5613965452419855179 : Nat := 0
def tw4934867973419697023 : Nat := 0
def tw11966610744045639073 : Nat := 0
def tw5957264746751947183 : Nat := 0
def tw15796493699795927888 : Nat := 0
def tw2426392355598221714 : Nat := 0
def tw16631383259396267364 : Nat := 0
def tw7200879918099315083 : Nat := 0
def tw14618123194824804219 : Nat := 0
def tw7838371769918213289 : Nat := 0
def tw1795199317803458651 : Nat := 0
def tw12282565073485434585 : Nat := 0
def tw2563871140948288184 : Nat := 0
def tw7946223301060036303 : Nat := 0
def tw10848932377845740599 : Nat := 0
def tw14992522855609180345 : Nat := 0
def tw18336215095399763127 : Nat := 0
def tw15788553115650799743 : Nat := 0
def tw12090776429960709832 : Nat := 0
def tw15823908810812884106 : Nat := 0
def tw7065113676241246638 : Nat := 0
def tw17416784090793590970 : Nat := 0
def tw17940926968529816636 : Nat := 0
def tw16640975568260513954 : Nat := 0
def tw12099023313454639529 : Nat := 0
def tw15951890602101737118 : Nat := 0
def tw12630196776159389472 : Nat := 0
def tw15312862000137292674 : Nat := 0
def tw9860738572524692109 : Nat := 0
def tw12677499197804367367 : Nat := 0
def tw16391938353166582094 : Nat := 0
def tw7242558512754810273 : Nat := 0
def tw641771786910674654 : Nat := 0
def tw12388844343734284920 : Nat := 0
def tw6710248650010053270 : Nat := 0
def tw4723440394772762493 : Nat := 0
def tw4532552188374036683 : Nat := 0
def tw14837740280742721888 : Nat := 0
def tw4187397870421804797 : Nat := 0
def tw1435939106119966725 : Nat := 0
def tw5013754692211667734 : Nat := 0
def tw5124006997364853107 : Nat := 0
def tw9803397328455086216 : Nat := 0
def tw9678702602169634383 : Nat := 0
def tw11524667220882391706 : Nat := 0
def tw12694365750177263190 : Nat := 0
def tw7181257807944437878 : Nat := 0
def tw5691105763242344801 : Nat := 0
def tw3188466374487481543 : Nat := 0
def tw13674232921679489914 : Nat := 0
def tw1285571505559513106 : Nat := 0
def tw12535177993456998051 : Nat := 0
def tw3686364816916900843 : Nat := 0
def tw9291346975678925892 : Nat := 0
def tw7083297033837646508 : Nat := 0
def tw9413191584578864834 : Nat := 0
def tw2900632703627995769 : Nat := 0
def tw8633922125240274828 : Nat := 0
def tw16270719811154886352 : Nat := 0
def tw17562572085459200926 : Nat := 0
def tw3920956463299933719 : Nat := 0
def tw12643098318647323781 : Nat := 0
def tw14748550452282968641 : Nat := 0
def tw7751798786441774638 : Nat := 0
def tw14395632741305915138 : Nat := 0
def tw16583136702721067171 : Nat := 0
def tw11069822944777691953 : Nat := 0
def tw10662097199329246601 : Nat := 0
def tw12786527868156593153 : Nat := 0
def tw1619354061240452263 : Nat := 0
def tw6235989679382695237 : Nat := 0
def tw13466125598804779176 : Nat := 0
def tw14311556459144976996 : Nat := 0
def tw9142417865133619445 : Nat := 0
def tw588867126133434215 : Nat := 0
def tw11708080303387057710 : Nat := 0
def tw932895611512292422 : Nat := 0
def tw33501982101514890 : Nat := 0
def tw4151627534482850114 : Nat := 0
def tw16354880454791164696 : Nat := 0
def tw12779713538257745706 : Nat := 0
def tw2665624270131267629 : Nat := 0
def tw9933579537263761162 : Nat := 0
def tw1792862740559654473 : Nat := 0
def tw11061140463886915790 : Nat := 0
def tw16191815981947994930 : Nat := 0
def tw8423278399894721304 : Nat := 0
def tw1837745680313476855 : Nat := 0
def tw17164660630296822203 : Nat := 0
def tw15358811273245449497 : Nat := 0
def tw6657856394447523466 : Nat := 0
def tw8012962303562853129 : Nat := 0
def tw13288750879560504818 : Nat := 0
def tw711035670829927837 : Nat := 0
def tw6317667076292471915 : Nat := 0
def tw13254430747415728442 : Nat := 0
def tw625946742439708736 : Nat := 0
def tw16358320704359068755 : Nat := 0
def tw10198827616426285124 : Nat := 0
def tw17497308327037106619 : Nat := 0
def tw17836646595961448025 : Nat := 0
def tw5299706204643125056 : Nat := 0
def tw14253659142517205647 : Nat := 0
def tw11150528276819376851 : Nat := 0
def tw17308054377433764329 : Nat := 0
def tw2382218963475111681 : Nat := 0
def tw15027648280317177245 : Nat := 0
def tw12736641554318840980 : Nat := 0
def tw5381565951114749753 : Nat := 0
def tw2787516709898647518 : Nat := 0
def tw1133791192292422382 : Nat := 0
def tw4354115858003677481 : Nat := 0
def tw1574164590186159139 : Nat := 0
def tw7530297087079868122 : Nat := 0
def tw9585780623145083910 : Nat := 0
def tw9138509437635624554 : Nat := 0
def tw774574371528408410 : Nat := 0
def tw8339499383172236576 : Nat := 0
def tw4801547548660975949 : Nat := 0
def tw7467925177957088929 : Nat := 0
def tw6789167823322365498 : Nat := 0
def tw6588346674005074755 : Nat := 0
def tw12386721576081841533 : Nat := 0
def tw1219182737757283160 : Nat := 0
def tw10480088403863335495 : Nat := 0
def tw12802258521848221049 : Nat := 0
def tw239129775701394022 : Nat := 0
def tw9112886975054833725 : Nat := 0
def tw15791530857637993897 : Nat := 0
def tw11941260834843613857 : Nat := 0
def tw17420874236992682975 : Nat := 0
def tw8755875972316118743 : Nat := 0
def tw2276925137750924632 : Nat := 0
def tw13882568104556264453 : Nat := 0
def tw162667063467872944 : Nat := 0
def tw17589508340897273698 : Nat := 0
def tw3036255368434918892 : Nat := 0
def tw5424911669156583441 : Nat := 0
def tw7575567513833160262 : Nat := 0
def tw4254863975041387067 : Nat := 0
def tw8168766054664073010 : Nat := 0
def tw7075879313582186159 : Nat := 0
def tw11312322981965582659 : Nat := 0
def tw9894193933632646375 : Nat := 0
def tw16838314848564227643 : Nat := 0
def tw12185040335480721946 : Nat := 0
def tw15554033126573063237 : Nat := 0
def tw11581458370752286119 : Nat := 0
def tw11002366788595620793 : Nat := 0
def tw17117917907485506202 : Nat := 0
def tw5141280459786123304 : Nat := 0
def tw1565539351091519295 : Nat := 0
def tw2384311606748908266 : Nat := 0
def tw12783427276898873093 : Nat := 0
def tw14634176493799304665 : Nat := 0
def tw13920814673563816189 : Nat := 0
def tw13933188248880955746 : Nat := 0
def tw4439429401307993764 : Nat := 0
def tw17885007617859843557 : Nat := 0
def tw9233081927866739377 : Nat := 0
def tw4490019613832679370 : Nat := 0
def tw10686535348104404720 : Nat := 0
def tw14052982451502423045 : Nat := 0
def tw16714459925127880279 : Nat := 0
def tw3656972635694556574 : Nat := 0
def tw14207202544143146442 : Nat := 0
def tw15976780013735629209 : Nat := 0
def tw2466235137608936576 : Nat := 0
def tw10545882022889241048 : Nat := 0
def tw12079288885104673213 : Nat := 0
def tw10277007149171082361 : Nat := 0
def tw3750179826560329043 : Nat := 0
def tw150699706414749630 : Nat := 0
def tw2335435659520799252 : Nat := 0
def tw7616269067132278601 : Nat := 0
def tw5280762311226071091 : Nat := 0
def tw11994642702735180364 : Nat := 0
def tw4972790115995891248 : Nat := 0
def tw10166931902733145069 : Nat := 0
def tw10564038626322590341 : Nat := 0
def tw7136505189873618381 : Nat := 0
def tw11095434632270770080 : Nat := 0
def tw17679432475896671916 : Nat := 0
def tw10436912527316022523 : Nat := 0
def tw6498683428885629762 : Nat := 0
def tw2093858319712100315 : Nat := 0
def tw2172204704360466313 : Nat := 0
def tw7952276569026106172 : Nat := 0
def tw13440006571376723766 : Nat := 0
def tw9155999959118495635 : Nat := 0
def tw391611991599707549 : Nat := 0
def tw14749573621329965633 : Nat := 0
def tw16296962556706007234 : Nat := 0
def tw8915385033287001998 : Nat := 0
def tw5263570119291919257 : Nat := 0
def tw4700253659107514808 : Nat := 0
def tw2507751273279743429 : Nat := 0
def tw5050017221117851071 : Nat := 0
def tw3071249407849901853 : Nat := 0
def tw14870495771183442523 : Nat := 0
def tw2151347259285153559 : Nat := 0
def tw17111648831149778044 : Nat := 0
def tw6240683450459632546 : Nat := 0
def tw4398196923732830754 : Nat := 0
def tw17318605393811619022 : Nat := 0
def tw14231071231680249868 : Nat := 0
def tw10014403687205312034 : Nat := 0
def tw16221684238167179301 : Nat := 0
def tw14347364355043124875 : Nat := 0
def tw17958168290276545288 : Nat := 0
def tw14126713989440038219 : Nat := 0
def tw6811293866551512197 : Nat := 0
def tw14681470415737911908 : Nat := 0
def tw1924866653138485816 : Nat := 0
def tw5066019678953097430 : Nat := 0
def tw17110462266952529447 : Nat := 0
def tw4327589996386438446 : Nat := 0
def tw6334070010214291055 : Nat := 0
def tw16866113072980418064 : Nat := 0
def tw12089651784169030548 : Nat := 0
def tw12452592547364446750 : Nat := 0
def tw7060649098494032811 : Nat := 0
def tw6168543283808896353 : Nat := 0
def tw15862220908250355372 : Nat := 0
def tw12910798580305993502 : Nat := 0
def tw4039204597531325141 : Nat := 0
def tw12518695097697873661 : Nat := 0
def tw11522358045139342805 : Nat := 0
def tw7763601273697256296 : Nat := 0
def tw14475316163848039161 : Nat := 0
def tw8960666797490569289 : Nat := 0
def tw11176872501354917441 : Nat := 0
def tw12421896862843923863 : Nat := 0
def tw13998031429361414431 : Nat := 0
def tw1873729425617277774 : Nat := 0
def tw9337457192816335555 : Nat := 0
def tw14192828255030451902 : Nat := 0
def tw6924146616993206977 : Nat := 0
def tw7887994190371826408 : Nat := 0
def tw16971446878351255142 : Nat := 0
def tw17641845354735205352 : Nat := 0
def tw7017135364013961495 : Nat := 0
def tw3601680292636902887 : Nat := 0
def tw11558337369442757500 : Nat := 0
def tw1420342868074792745 : Nat := 0
def tw3477155333517900196 : Nat := 0
def tw5131337728174244358 : Nat := 0
def tw16915214179068381051 : Nat := 0
def tw5992921013112919851 : Nat := 0
def tw10592418596302779371 : Nat := 0
def tw16081326901075622407 : Nat := 0
def tw13714858100102360837 : Nat := 0
def tw655191506440883447 : Nat := 0
def tw3909882624384186136 : Nat := 0
def tw3789121416131259502 : Nat := 0
def tw8455507651741551734 : Nat := 0
def tw17806869699628110734 : Nat := 0
def tw1350846518488457975 : Nat := 0
def tw12635805961394520780 : Nat := 0
def tw7876220349296574701 : Nat := 0
def tw13531222530443074147 : Nat := 0
def tw12869573740847262944 : Nat := 0
def tw9270201718056434393 : Nat := 0
def tw15440967936601251387 : Nat := 0
def tw739519297097811598 : Nat := 0
def tw9693040372661766257 : Nat := 0
def tw773953001212500614 : Nat := 0
def tw10314348560948774173 : Nat := 0
def tw9330827443673388303 : Nat := 0
def tw10472173630596620992 : Nat := 0
def tw15107595427036119682 : Nat := 0
def tw1023435659418778702 : Nat := 0
def tw6996498993969613375 : Nat := 0
def tw12658835516206992929 : Nat := 0
def tw7882087825931425672 : Nat := 0
def tw3864298301602317756 : Nat := 0
def tw6035960693018721032 : Nat := 0
def tw10928571989000436443 : Nat := 0
def tw7181469204706411417 : Nat := 0
def tw11802424940297585902 : Nat := 0
def tw2183919218901236776 : Nat := 0
def tw7124181234331982440 : Nat := 0
def tw17032883012147481622 : Nat := 0
def tw7472164927323699739 : Nat := 0
def tw9560658695881299970 : Nat := 0
def tw711686386297574757 : Nat := 0
def tw8716868344931737420 : Nat := 0
def tw4975078885239973845 : Nat := 0
def tw12988642231677679721 : Nat := 0
def tw5042666729389867426 : Nat := 0
def tw1425778931175707067 : Nat := 0
def tw13101412537402814811 : Nat := 0
def tw15034231573141469006 : Nat := 0
def tw9353585892937495655 : Nat := 0
def tw9326763156709765555 : Nat := 0
def tw8220320322922626759 : Nat := 0
def tw15324126928882015743 : Nat := 0
def tw1556634402751384994 : Nat := 0
def tw13390132135843823599 : Nat := 0
def tw3772442635736957783 : Nat := 0
def tw13362707308497734401 : Nat := 0
def tw15968058232125333741 : Nat := 0
def tw11798081846214962305 : Nat := 0
def tw14720877595131075040 : Nat := 0
def tw9112133792397749244 : Nat := 0
def tw15706344690177515061 : Nat := 0
def tw2479355885851644402 : Nat := 0
def tw5312756872596118282 : Nat := 0
def tw8810985195655260683 : Nat := 0
def tw6445451423383993909 : Nat := 0
def tw7179685895953673171 : Nat := 0
def tw12612448683644846021 : Nat := 0
def tw13676778193212459588 : Nat := 0
def tw18004187673270762177 : Nat := 0
def tw1692642482489645289 : Nat := 0
def tw9066913719476978642 : Nat := 0
def tw17788107915715723983 : Nat := 0
def tw14894110282784969286 : Nat := 0
def tw2844089954403416078 : Nat := 0
def tw5593743410341803629 : Nat := 0
def tw7346037118141594212 : Nat := 0
def tw1775902070541791360 : Nat := 0
def tw18046224229556046401 : Nat := 0
def tw11447843803389817237 : Nat := 0
def tw12654220317642892834 : Nat := 0
def tw13449058004324278551 : Nat := 0
def tw18444788560568360985 : Nat := 0
def tw16102554524139620793 : Nat := 0
def tw6946563692258681943 : Nat := 0
def tw8139284752499627734 : Nat := 0
def tw10190355256310238890 : Nat := 0
def tw8772485228540470016 : Nat := 0
def tw8216461819386678152 : Nat := 0
def tw12970651982640453053 : Nat := 0
def tw16825072569435847160 : Nat := 0
def tw13276240385948624297 : Nat := 0
def tw15677821135525470691 : Nat := 0
def tw5297593024947495936 : Nat := 0
def tw11213591162281189728 : Nat := 0
def tw13906112507111549594 : Nat := 0
def tw60234287547338482 : Nat := 0
def tw10266525297979225025 : Nat := 0
def tw11763233262061514437 : Nat := 0
def tw4341671541692127428 : Nat := 0
def tw12663086442231940212 : Nat := 0
def tw6767119675274466839 : Nat := 0
def tw4612713889875838808 : Nat := 0
def tw3818206367729122038 : Nat := 0
def tw8899231784629374504 : Nat := 0
def tw499207876242613090 : Nat := 0
def tw10586233195456552221 : Nat := 0
def tw11160328939651260071 : Nat := 0
def tw6219832455808835759 : Nat := 0
def tw15030717897801290979 : Nat := 0
def tw6175979307208649254 : Nat := 0
def tw421218303433332067 : Nat := 0
def tw12557511053487000040 : Nat := 0
def tw12408094715621348486 : Nat := 0
def tw13636213811167741072 : Nat := 0
def tw6203474812344890043 : Nat := 0
def tw15630375719228854041 : Nat := 0
def tw4000235817828916014 : Nat := 0
def tw17142181433918615905 : Nat := 0
def tw14143306896098962156 : Nat := 0
def tw4036364742297355493 : Nat := 0
def tw337391775630398616 : Nat := 0
def tw15517939351055253109 : Nat := 0
def tw4201824716394472544 : Nat := 0
def tw10707671552838268424 : Nat := 0
def tw1393509926454628045 : Nat := 0
def tw8263276512741472056 : Nat := 0
def tw13130902409142103047 : Nat := 0
def tw17482431780172490349 : Nat := 0
def tw3288266602493726073 : Nat := 0
def tw1407574351445155485 : Nat := 0
def tw15335316045249364946 : Nat := 0
def tw1554787537803442542 : Nat := 0
def tw4256513005004725879 : Nat := 0
def tw4457521458928393926 : Nat := 0
def tw16759845752873211619 : Nat := 0
def tw11541720445929794625 : Nat := 0
def tw12216052525908005472 : Nat := 0
def tw9155924151265046793 : Nat := 0
def tw3161906869208462295 : Nat := 0
def tw4454559027732336224 : Nat := 0
def tw2306687959295045622 : Nat := 0
def tw14714404528173086521 : Nat := 0
def tw7187277705842979440 : Nat := 0
def tw11076019552731416536 : Nat := 0
def tw15798225931735973759 : Nat := 0
def tw2433856079347764846 : Nat := 0
def tw10468153702231277904 : Nat := 0
def tw6359399826059479218 : Nat := 0
def tw3687242999095012749 : Nat := 0
def tw1504343469209433313 : Nat := 0
def tw12410240076573114902 : Nat := 0
def tw9388567112248434180 : Nat := 0
def tw17324289589470564817 : Nat := 0
def tw1138555687568756679 : Nat := 0
def tw17380673961110734634 : Nat := 0
def tw6879467783969730059 : Nat := 0
def tw12837406274165272185 : Nat := 0
def tw15966627778607389641 : Nat := 0
def tw11558696110033259367 : Nat := 0
def tw5695844939236738929 : Nat := 0
def tw9461746555250131489 : Nat := 0
def tw16594227581097253833 : Nat := 0
def tw10334718524538085937 : Nat := 0
def tw6764381332009324213 : Nat := 0
def tw11612679052036411433 : Nat := 0
def tw16962597870126277044 : Nat := 0
def tw190556490782122515 : Nat := 0
def tw9704914332774243214 : Nat := 0
def tw14484033540391480463 : Nat := 0
def tw12340067406743492512 : Nat := 0
def tw9636930947537405162 : Nat := 0
def tw18158113678509227959 : Nat := 0
def tw5126316807956743011 : Nat := 0
def tw17858186634867436354 : Nat := 0
def tw14471486645413510140 : Nat := 0
def tw15305450659602270916 : Nat := 0
def tw260179194460310147 : Nat := 0
def tw13263026025933581467 : Nat := 0
def tw2123371601007342651 : Nat := 0
def tw14846344947328329847 : Nat := 0
def tw6673858851643168359 : Nat := 0
def tw11089616037165431232 : Nat := 0
def tw8771542960052309371 : Nat := 0
def tw222572886356923001 : Nat := 0
def tw8253523485669444245 : Nat := 0
def tw15985622640493231741 : Nat := 0
def tw12455271066846480325 : Nat := 0
def tw16512869987163564747 : Nat := 0
def tw10797665874330217114 : Nat := 0
def tw14596773668171821909 : Nat := 0
def tw10766927274096066506 : Nat := 0
def tw13095784394333039083 : Nat := 0
def tw774186607883811633 : Nat := 0
def tw17743427797104067074 : Nat := 0
def tw5211391818095579457 : Nat := 0
def tw4622358579248984512 : Nat := 0
def tw14227167010634423354 : Nat := 0
def tw3546816456902389718 : Nat := 0
def tw7964577669060879442 : Nat := 0
def tw2780620161295391013 : Nat := 0
def tw6790916126090948356 : Nat := 0
def tw11766072257555321873 : Nat := 0
def tw7897383638993944179 : Nat := 0
def tw8276793317148533832 : Nat := 0
def tw5375782978922705404 : Nat := 0
def tw2764089001981568494 : Nat := 0
def tw16826412025203977834 : Nat := 0
def tw1256316864304195194 : Nat := 0
def tw17852824555310679274 : Nat := 0
def tw9583021613049478419 : Nat := 0
def tw14581934999178543932 : Nat := 0
def tw13338418495672464867 : Nat := 0
def tw6034378349128121225 : Nat := 0
def tw7640445409328001374 : Nat := 0
def tw928942058732034845 : Nat := 0
def tw16927284341405006546 : Nat := 0
def tw5854825007568003554 : Nat := 0
def tw7240090602441818685 : Nat := 0
def tw5881081940305902828 : Nat := 0
def tw8234891394047116072 : Nat := 0
def tw18271120513953542777 : Nat := 0
def tw1725446409249725359 : Nat := 0
def tw17856755680222168662 : Nat := 0
def tw5701085284656508677 : Nat := 0
def tw3886426528901176323 : Nat := 0
def tw8169145332673290773 : Nat := 0
def tw13136615657423474080 : Nat := 0
def tw7920226800958931071 : Nat := 0
def tw17720660207114378232 : Nat := 0
def tw3667691191145382177 : Nat := 0
def tw800598822185557629 : Nat := 0
def tw12677468230439955834 : Nat := 0
def tw11793852154074497245 : Nat := 0
def tw13525953952241490420 : Nat := 0
def tw3370496758256234451 : Nat := 0
def tw14107369976806605 : Nat := 0
def tw10435922262666491843 : Nat := 0
def tw14863322691300853244 : Nat := 0
def tw12514043572376227791 : Nat := 0
def tw14708048570070451839 : Nat := 0
def tw8641019264469527157 : Nat := 0
def tw8443160302482020620 : Nat := 0
def tw15008636660276838320 : Nat := 0
def tw13462949310733933221 : Nat := 0
def tw4902155597119052714 : Nat := 0
def tw2053125079002178833 : Nat := 0
def tw9648956962305365462 : Nat := 0
def tw11777083464680903994 : Nat := 0
def tw6484619436766048203 : Nat := 0
def tw7577372636556420391 : Nat := 0
def tw2735391492568602195 : Nat := 0
def tw17877607433889777946 : Nat := 0
def tw6405371866031734729 : Nat := 0
def tw3687202111965894675 : Nat := 0
def tw10835905655001523878 : Nat := 0
def tw16402804663578331214 : Nat := 0
def tw2450573890277485985 : Nat := 0
def tw16882419739714969335 : Nat := 0
def tw3967842480286185683 : Nat := 0
def tw8371935218721247406 : Nat := 0
def tw7756100596169237152 : Nat := 0
def tw2960092905682188880 : Nat := 0
def tw14230804612367998582 : Nat := 0
def tw9280899115147931783 : Nat := 0
def tw16232909370142371431 : Nat := 0
def tw4933047578703778380 : Nat := 0
def tw221846645115574490 : Nat := 0
def tw9250417469799796851 : Nat := 0
def tw830401577842056963 : Nat := 0
def tw7752611912176851753 : Nat := 0
def tw12730035141666006249 : Nat := 0
def tw17115887933640412368 : Nat := 0
def tw13977969061116069057 : Nat := 0
def tw1506064309886057664 : Nat := 0
def tw10813234771628101053 : Nat := 0
def tw759193113537402684 : Nat := 0
def tw13192120913282549349 : Nat := 0
def tw15678393847245417659 : Nat := 0
def tw17459408983171364828 : Nat := 0
def tw12877060629522166373 : Nat := 0
def tw13951831044558341741 : Nat := 0
def tw5860797264649029634 : Nat := 0
def tw6512742669110050678 : Nat := 0
def tw16543511018372212454 : Nat := 0
def tw260983607297346606 : Nat := 0
def tw12846498399065167107 : Nat := 0
def tw12623042995150058936 : Nat := 0
def tw14053477589894485926 : Nat := 0
def tw8514531696997463266 : Nat := 0
def tw12555957133675912378 : Nat := 0
def tw13997752182953174971 : Nat := 0
def tw18092296080516876920 : Nat := 0
def tw1255251712855348745 : Nat := 0
def tw17007087622397920732 : Nat := 0
def tw9022390474558980259 : Nat := 0
def tw2518221298383422991 : Nat := 0
def tw3287739517943499900 : Nat := 0
def tw8591246742814536254 : Nat := 0
def tw13200648955510601779 : Nat := 0
def tw921962388042644885 : Nat := 0
def tw15471351824992815448 : Nat := 0
def tw912887687371740960 : Nat := 0
def tw256959446901631374 : Nat := 0
def tw10213657877176206884 : Nat := 0
def tw9798166642358957273 : Nat := 0
def tw4063663412688603446 : Nat := 0
def tw15884118247172163946 : Nat := 0
def tw11850882667986544589 : Nat := 0
def tw3406033275350508471 : Nat := 0
def tw4307685239650202722 : Nat := 0
def tw72626836073374195 : Nat := 0
def tw9534043452028168784 : Nat := 0
def tw9299891683540803150 : Nat := 0
def tw15809287358483424787 : Nat := 0
def tw17465437287995386319 : Nat := 0
def tw17619764795554933335 : Nat := 0
def tw14871443245122642717 : Nat := 0
def tw13792714447562438766 : Nat := 0
def tw17787172151147108473 : Nat := 0
def tw4173609258227514424 : Nat := 0
def tw6588953034564001083 : Nat := 0
def tw1683854512959446468 : Nat := 0
def tw11495464196061593568 : Nat := 0
def tw12433364409477263323 : Nat := 0
def tw2818008241587885106 : Nat := 0
def tw6473420359680200495 : Nat := 0
def tw3416218918014004594 : Nat := 0
def tw2551515896625184983 : Nat := 0
def tw14085238248822131191 : Nat := 0
def tw9989009532529355451 : Nat := 0
def tw16035304202870601284 : Nat := 0
def tw17678338470983160409 : Nat := 0
def tw15612856503128657114 : Nat := 0
def tw2440962679076640086 : Nat := 0
def tw15695615395418145610 : Nat := 0
def tw11317347831015309306 : Nat := 0
def tw171320469763796399 : Nat := 0
def tw15309184103198123073 : Nat := 0
def tw450174454267624313 : Nat := 0
def tw11859291511666604086 : Nat := 0
def tw1659424695480585153 : Nat := 0
def tw11358472876092813693 : Nat := 0
def tw16970433745377503379 : Nat := 0
def tw17314003723157279059 : Nat := 0
def tw12474620183873243283 : Nat := 0
def tw7653387475429005160 : Nat := 0
def tw4718851734837135655 : Nat := 0
def tw3351731543214949005 : Nat := 0
def tw8684859935262011778 : Nat := 0
def tw9543108359827689947 : Nat := 0
def tw13425833097446591901 : Nat := 0
def tw17067925934897399376 : Nat := 0
def tw6042073234225610605 : Nat := 0
def tw14737171791230944613 : Nat := 0
def tw6516252455973282121 : Nat := 0
def tw8038951376477266870 : Nat := 0
def tw9390949019195729957 : Nat := 0
def tw14377732746387884027 : Nat := 0
def tw13256809365481152141 : Nat := 0
def tw1783715743342652073 : Nat := 0
def tw7824567137113574838 : Nat := 0
def tw3937362476875434246 : Nat := 0
def tw12841551472670181155 : Nat := 0
def tw4260129111151053271 : Nat := 0
def tw16690442526545037284 : Nat := 0
def tw1139563015069682569 : Nat := 0
def tw15331130358909618845 : Nat := 0
def tw547970428387069393 : Nat := 0
def tw7716282981565283318 : Nat := 0
def tw4391433906747673540 : Nat := 0
def tw15647585650333202710 : Nat := 0
def tw7571389684603794654 : Nat := 0
def tw14471729476064845425 : Nat := 0
def tw9183988887350381838 : Nat := 0
def tw10276633690110528009 : Nat := 0
def tw16168552834313996874 : Nat := 0
def tw3631909859371155304 : Nat := 0
def tw2416896195320337690 : Nat := 0
def tw3687723411088225563 : Nat := 0
def tw5112875745764974220 : Nat := 0
def tw13122152931092253325 : Nat := 0
def tw7224423726835981823 : Nat := 0
def tw754412734243931411 : Nat := 0
def tw7464946175428889967 : Nat := 0
def tw11842545834957330605 : Nat := 0
def tw16555455653994141323 : Nat := 0
def tw11026671587912341165 : Nat := 0
def tw4919294321028544905 : Nat := 0
def tw12102931379753669068 : Nat := 0
def tw7493211565802877625 : Nat := 0
def tw8211286512769284104 : Nat := 0
def tw15540422374434930434 : Nat := 0
def tw6294330634407103323 : Nat := 0
def tw677268534951409121 : Nat := 0
def tw7273172292679073564 : Nat := 0
def tw7443854168397367265 : Nat := 0
def tw6075471625849457824 : Nat := 0
def tw11477936102611060436 : Nat := 0
def tw1909322392768204238 : Nat := 0
def tw6865169387727506412 : Nat := 0
def tw15100180992961954963 : Nat := 0
def tw9179118561643765625 : Nat := 0
def tw8667987144309961737 : Nat := 0
def tw8505602128890712507 : Nat := 0
def tw13897396458727533419 : Nat := 0
def tw13678782086305500507 : Nat := 0
def tw8086845806105635275 : Nat := 0
def tw5470382208553934670 : Nat := 0
def tw11110447099825957248 : Nat := 0
def tw12380645878434306940 : Nat := 0
def tw1448469782413847823 : Nat := 0
def tw11037789474632240242 : Nat := 0
def tw6212644998774468972 : Nat := 0
def tw3807556444914079827 : Nat := 0
def tw1304239139956750437 : Nat := 0
def tw16043955600225776079 : Nat := 0
def tw13472089522420901963 : Nat := 0
def tw1415149390571346833 : Nat := 0
def tw7690439579029026446 : Nat := 0
def tw7241305864622995383 : Nat := 0
def tw6925512099228260336 : Nat := 0
def tw17732179589058010740 : Nat := 0
def tw16342158136792624551 : Nat := 0
def tw11680814567908727511 : Nat := 0
def tw12890709480719851392 : Nat := 0
def tw6337076984163132334 : Nat := 0
def tw13937670733539262910 : Nat := 0
def tw4893810856023965842 : Nat := 0
def tw17908870570875336162 : Nat := 0
def tw15199536642449178671 : Nat := 0
def tw3071369797414396658 : Nat := 0
def tw11978474373679988975 : Nat := 0
def tw11116644759608048979 : Nat := 0
def tw3366052145988903456 : Nat := 0
def tw16735490044986035409 : Nat := 0
def tw14939878417380562041 : Nat := 0
def tw3193319098072486200 : Nat := 0
def tw11922964498761548993 : Nat := 0
def tw17801310629597768478 : Nat := 0
def tw12396470023735487231 : Nat := 0
def tw9744584103771867851 : Nat := 0
def tw13287159193167131325 : Nat := 0
def tw15804327480968209109 : Nat := 0
def tw16795836143553206830 : Nat := 0
def tw6095874050132309170 : Nat := 0
def tw11362105259239915144 : Nat := 0
def tw13205831058874516809 : Nat := 0
def tw6070211653801795581 : Nat := 0
def tw16764929752767569219 : Nat := 0
def tw17190907572452772209 : Nat := 0
def tw12741306265148783126 : Nat := 0
def tw4595063704555077098 : Nat := 0
def tw3169509541322129601 : Nat := 0
def tw875654069820547855 : Nat := 0
def tw12540849857339585708 : Nat := 0
def tw14554116629874513590 : Nat := 0
def tw2774330645563342797 : Nat := 0
def tw17920439645034732272 : Nat := 0
def tw15741020584934463396 : Nat := 0
def tw14509416841196197813 : Nat := 0
def tw11559918665735945905 : Nat := 0
def tw8087845034484031293 : Nat := 0
def tw6516808326982214768 : Nat := 0
def tw4119469628939972231 : Nat := 0
def tw5648322623518091225 : Nat := 0
def tw6687630142435926286 : Nat := 0
def tw16150628813552906436 : Nat := 0
def tw297797176700965849 : Nat := 0
def tw14164007496167573522 : Nat := 0
def tw6154113120648943739 : Nat := 0
def tw965757360759434915 : Nat := 0
def tw3677692127096319975 : Nat := 0
def tw13203171725322783292 : Nat := 0
def tw10928312916535500110 : Nat := 0
def tw7313478552681887987 : Nat := 0
def tw742960317239007151 : Nat := 0
def tw11915906656585408717 : Nat := 0
def tw4661310620871798545 : Nat := 0
def tw2029177913882689001 : Nat := 0
def tw9753376049600986163 : Nat := 0
def tw17389673233150596715 : Nat := 0
def tw10521626308844632687 : Nat := 0
def tw12158066959688202421 : Nat := 0
def tw11992633166748035829 : Nat := 0
def tw11193959182131020070 : Nat := 0
def tw17186923437646319440 : Nat := 0
def tw13576197921806848554 : Nat := 0
def tw6307012000148648331 : Nat := 0
def tw10966841155296432518 : Nat := 0
def tw10259892115583006241 : Nat := 0
def tw6823947649770592107 : Nat := 0
def tw15436693280298424929 : Nat := 0
def tw6635501846435276647 : Nat := 0
def tw6716008054844130535 : Nat := 0
def tw7594146506629738343 : Nat := 0
def tw4512650937201507738 : Nat := 0
def tw5493578482426278859 : Nat := 0
def tw13497142413880963446 : Nat := 0
def tw8960999096353121940 : Nat := 0
def tw12386552877631355446 : Nat := 0
def tw14806277316663047740 : Nat := 0
def tw4823314825149040716 : Nat := 0
def tw12679007105398850176 : Nat := 0
def tw13706635724496634501 : Nat := 0
def tw17337552942450655728 : Nat := 0
def tw7618713884398483309 : Nat := 0
def tw7291940667039570924 : Nat := 0
def tw3195435249890609704 : Nat := 0
def tw13709468036407373201 : Nat := 0
def tw3909425474999874271 : Nat := 0
def tw12463938296911027508 : Nat := 0
def tw13473286454532624400 : Nat := 0
def tw6471803146343111806 : Nat := 0
def tw17642760403452198727 : Nat := 0
def tw6571515061234719342 : Nat := 0
def tw6962340720504535791 : Nat := 0
def tw12264870511502577706 : Nat := 0
def tw8994022050517530330 : Nat := 0
def tw9636504326448364088 : Nat := 0
def tw15392160440372748464 : Nat := 0
def tw16832794768931076637 : Nat := 0
def tw6329167237561908450 : Nat := 0
def tw2853912299058845175 : Nat := 0
def tw12761656341389371747 : Nat := 0
def tw18368776275609539947 : Nat := 0
def tw8890112948341520336 : Nat := 0
def tw12687072959478098097 : Nat := 0
def tw5654076660566053522 : Nat := 0
def tw6806978548219912917 : Nat := 0
def tw15207083542242863120 : Nat := 0
def tw2485514371438677539 : Nat := 0
def tw14385618076359565366 : Nat := 0
def tw15791117793481196701 : Nat := 0
def tw5793873531730571762 : Nat := 0
def tw3995157802882080237 : Nat := 0
def tw13506137976290841276 : Nat := 0
def tw12531540752668868425 : Nat := 0
def tw17984007061258569489 : Nat := 0
def tw5845516093893238099 : Nat := 0
def tw18077226498935385835 : Nat := 0
def tw1630070660175096839 : Nat := 0
def tw11765208460113405263 : Nat := 0
def tw7571344367307191812 : Nat := 0
def tw2588014058800764151 : Nat := 0
def tw6649905199417135998 : Nat := 0
def tw12582410948043197679 : Nat := 0
def tw10695503355043599668 : Nat := 0
def tw10111195658982246242 : Nat := 0
def tw7799844204696427967 : Nat := 0
def tw9224664942393055778 : Nat := 0
def tw239101822341186097 : Nat := 0
def tw6080777135771302148 : Nat := 0
def tw16080686660619735229 : Nat := 0
def tw3598717560150745301 : Nat := 0
def tw1962388893556189296 : Nat := 0
def tw16407553606287376120 : Nat := 0
def tw8765199630659584299 : Nat := 0
def tw4211186869857609739 : Nat := 0
def tw4928086865823725536 : Nat := 0
def tw1639191299873244297 : Nat := 0
def tw15682116903211459991 : Nat := 0
def tw7275019402108927675 : Nat := 0
def tw15996820034989158849 : Nat := 0
def tw2400232020554600225 : Nat := 0
def tw8961228292125725145 : Nat := 0
def tw8215115598311005077 : Nat := 0
def tw16755104072438744820 : Nat := 0
def tw9418240120787140939 : Nat := 0
def tw8230518557853268371 : Nat := 0
def tw18327912949769053522 : Nat := 0
def tw16975781397984331953 : Nat := 0
def tw10822526463602827090 : Nat := 0
def tw14033473598059914816 : Nat := 0
def tw12856815139432440465 : Nat := 0
def tw16637522062598847808 : Nat := 0
def tw13645962713605373478 : Nat := 0
def tw9929873170366187962 : Nat := 0
def tw14067102336967220069 : Nat := 0
def tw15189979330219849605 : Nat := 0
def tw6780465875086259083 : Nat := 0
def tw16060180754732921791 : Nat := 0
def tw12689813299123213530 : Nat := 0
def tw10839420251409591482 : Nat := 0
def tw15246475545856113564 : Nat := 0
def tw3613294007350467850 : Nat := 0
def tw16416682150847438298 : Nat := 0
def tw18145282177302970469 : Nat := 0
def tw2584335606915682267 : Nat := 0
def tw14536599161325220706 : Nat := 0
def tw12185648451536024324 : Nat := 0
def tw6085806353008240352 : Nat := 0
def tw11385989718996606527 : Nat := 0
def tw12869365829157451270 : Nat := 0
def tw13777098947710590116 : Nat := 0
def tw18166098889517652686 : Nat := 0
def tw7617828045776855781 : Nat := 0
def tw7568395929270695674 : Nat := 0
def tw15569006619995683239 : Nat := 0
def tw14580737947129432326 : Nat := 0
def tw9887993877209984496 : Nat := 0
def tw2546732088401330760 : Nat := 0
def tw11290403705567472239 : Nat := 0
def tw10766554563822561962 : Nat := 0
def tw6465088275774384933 : Nat := 0
def tw17673067750124132673 : Nat := 0
def tw1383185925417005130 : Nat := 0
def tw505647211537115777 : Nat := 0
def tw11832358868212373540 : Nat := 0
def tw1905572210918789549 : Nat := 0
def tw9281812292855939779 : Nat := 0
def tw4432273135386000602 : Nat := 0
def tw7256273326968038587 : Nat := 0
def tw11663932161475072076 : Nat := 0
def tw12344665516561517193 : Nat := 0
def tw15476871123215553131 : Nat := 0
def tw2699183632575286548 : Nat := 0
def tw11942183559521982852 : Nat := 0
def tw4355649631147802603 : Nat := 0
def tw5958990779760220789 : Nat := 0
def tw6097698609312814803 : Nat := 0
def tw5864573356773612920 : Nat := 0
def tw9977255776289512992 : Nat := 0
def tw4667145260223577935 : Nat := 0
def tw874105059565912797 : Nat := 0
def tw5659088729517677271 : Nat := 0
def tw13113403500730080705 : Nat := 0
def tw6854421829878834141 : Nat := 0
def tw12655602114527954015 : Nat := 0
def tw385709042353055574 : Nat := 0
def tw13683741596985981955 : Nat := 0
def tw17134242795947865496 : Nat := 0
def tw13221133486817886089 : Nat := 0
def tw12037438507831448991 : Nat := 0
def tw1000673406969141761 : Nat := 0
def tw14031652147004879382 : Nat := 0
def tw4851132018588462994 : Nat := 0
def tw5537893827598186210 : Nat := 0
def tw13228350630294773 : Nat := 0
def tw9003253332396143537 : Nat := 0
def tw169451307027527144 : Nat := 0
def tw5217511687804537638 : Nat := 0
def tw13678609388458784595 : Nat := 0
def tw7010111513892386196 : Nat := 0
def tw8679792299457460968 : Nat := 0
def tw10645106236090777185 : Nat := 0
def tw16742862278221723461 : Nat := 0
def tw11762743680968657233 : Nat := 0
def tw1577570016893077107 : Nat := 0
def tw99132702831182630 : Nat := 0
def tw8630950427520864042 : Nat := 0
def tw16333598450155675583 : Nat := 0
def tw6637053415632014164 : Nat := 0
def tw8956417312348506094 : Nat := 0
def tw13379971576901096246 : Nat := 0
def tw1601107269591166478 : Nat := 0
def tw7780194460927059200 : Nat := 0
def tw8196076485537855735 : Nat := 0
def tw8315678850826572259 : Nat := 0
def tw8695827106216284482 : Nat := 0
def tw3921368006038360714 : Nat := 0
def tw11325070692893893137 : Nat := 0
def tw13921928070058325080 : Nat := 0
def tw13883930976278851380 : Nat := 0
def tw12018960163165551784 : Nat := 0
def tw11851049643504229091 : Nat := 0
def tw15504305148510227799 : Nat := 0
def tw13133778149119944446 : Nat := 0
def tw1530526502027793101 : Nat := 0
def tw6393404603830249036 : Nat := 0
def tw11818413742288592019 : Nat := 0
def tw14225398444253814916 : Nat := 0
def tw5818711571115274369 : Nat := 0
def tw4650987317537975697 : Nat := 0
def tw1363404468838523297 : Nat := 0
def tw5484371263542102198 : Nat := 0
def tw3796164730871079015 : Nat := 0
def tw15961072935538111604 : Nat := 0
def tw11918315975776966982 : Nat := 0
def tw9431389526524784103 : Nat := 0
def tw11699463750779981592 : Nat := 0
def tw10038665038204784917 : Nat := 0
def tw14678275133275296598 : Nat := 0
def tw7758713812525078732 : Nat := 0
def tw4499481798526997908 : Nat := 0
def tw10388767896530183708 : Nat := 0
def tw10185026814549891366 : Nat := 0
def tw16304684709221674967 : Nat := 0
def tw11347059877826709421 : Nat := 0
def tw17337479910743349251 : Nat := 0
def tw14459952636540556009 : Nat := 0
def tw6073650513853445012 : Nat := 0
def tw8143754859321463417 : Nat := 0
def tw13388915932933535508 : Nat := 0
def tw18117692268592107384 : Nat := 0
def tw4377678262048805522 : Nat := 0
def tw12006296150274671077 : Nat := 0
def tw9782308861632034638 : Nat := 0
def tw14433206811432396233 : Nat := 0
def tw12748763543332440050 : Nat := 0
def tw17677389501882415061 : Nat := 0
def tw9245520958747931988 : Nat := 0
def tw15503331622813407519 : Nat := 0
def tw1355479743423505718 : Nat := 0
def tw8146253512195348954 : Nat := 0
def tw13248024603019748535 : Nat := 0
def tw7479077829226582516 : Nat := 0
def tw17463995054038210045 : Nat := 0
def tw3945002708281746774 : Nat := 0
def tw5360999088171433269 : Nat := 0
def tw7022492490587487413 : Nat := 0
def tw6858412992517627714 : Nat := 0
def tw1392508718143040990 : Nat := 0
def tw12707190364773131483 : Nat := 0
def tw5861959280097649761 : Nat := 0
def tw11563139872755140191 : Nat := 0
def tw7626279091663983230 : Nat := 0
def tw6149178822513611738 : Nat := 0
def tw17716643700391449858 : Nat := 0
def tw7165859920520109122 : Nat := 0
def tw2310927227226647447 : Nat := 0
def tw16475014443681523306 : Nat := 0
def tw15651125100369744748 : Nat := 0
def tw2949669153442558437 : Nat := 0
def tw12232634622482149044 : Nat := 0
def tw12595592613287332912 : Nat := 0
def tw13641572295483513930 : Nat := 0
def tw12702027241913852275 : Nat := 0
def tw5672632838059187611 : Nat := 0
def tw10043686427445157001 : Nat := 0
def tw16851149428485547845 : Nat := 0
def tw7398520048782367558 : Nat := 0
def tw754547008432358770 : Nat := 0
def tw17019874968968168771 : Nat := 0
def tw7350022661625586439 : Nat := 0
def tw9280421868543404856 : Nat := 0
def tw2332521500250257105 : Nat := 0
def tw11733900162251741504 : Nat := 0
def tw15784785285200092466 : Nat := 0
def tw11562700598282444967 : Nat := 0
def tw6170875960533911902 : Nat := 0
def tw3874291881958178132 : Nat := 0
def tw1020886954167410219 : Nat := 0
def tw16557917336047026655 : Nat := 0
def tw15186039195924270656 : Nat := 0
def tw16408003792304084413 : Nat := 0
def tw5685764432826787591 : Nat := 0
def tw7935156830515489562 : Nat := 0
def tw17750344961849586225 : Nat := 0
def tw4400845319636163575 : Nat := 0
def tw6153418879475529394 : Nat := 0
def tw11061339534311027080 : Nat := 0
def tw6418741147615310622 : Nat := 0
def tw14996642969502231249 : Nat := 0
def tw11991104412713509402 : Nat := 0
def tw13631476105986801923 : Nat := 0
def tw15424964417041646698 : Nat := 0
def tw6698872115943325367 : Nat := 0
def tw7822531576246636112 : Nat := 0
def tw11524139272005398354 : Nat := 0
def tw16810688174243855763 : Nat := 0
def tw17935378149218021061 : Nat := 0
def tw14637347792372663887 : Nat := 0
def tw11621187152314793179 : Nat := 0
def tw8276394150563616693 : Nat := 0
def tw13707252462747056063 : Nat := 0
def tw1518498587407271788 : Nat := 0
def tw13481183535811928478 : Nat := 0
def tw7477206818614511477 : Nat := 0
def tw4018343840838035 : Nat := 0
def tw14239356349478638447 : Nat := 0
def tw15424649975083488908 : Nat := 0
def tw3770893048244180735 : Nat := 0
def tw17902876662229774199 : Nat := 0
def tw5328745431022204880 : Nat := 0
def tw11754484067139741141 : Nat := 0
def tw1956529129304990361 : Nat := 0
def tw1446939060428578350 : Nat := 0
def tw14362723335112242820 : Nat := 0
def tw3853145341277200816 : Nat := 0
def tw3874305548919111238 : Nat := 0
def tw4860632019793248575 : Nat := 0
def tw11528165390976440574 : Nat := 0
def tw5169185392041473200 : Nat := 0
def tw9371991380288095506 : Nat := 0
def tw8220143783016280323 : Nat := 0
def tw11804099458713073524 : Nat := 0
def tw5179196685345306007 : Nat := 0
def tw14871953278411627432 : Nat := 0
def tw15355046463355909968 : Nat := 0
def tw5807865038426824330 : Nat := 0
def tw12124664410467281566 : Nat := 0
def tw13025823535846450563 : Nat := 0
def tw6574392936504669344 : Nat := 0
def tw11619798550296041519 : Nat := 0
def tw14938012077870440568 : Nat := 0
def tw8618412684697196456 : Nat := 0
def tw14885428836776316577 : Nat := 0
def tw873961571595398503 : Nat := 0
def tw4023271536663537425 : Nat := 0
def tw10449732020329375728 : Nat := 0
def tw7543662489379420575 : Nat := 0
def tw6239765175121538270 : Nat := 0
def tw12995043605673948149 : Nat := 0
def tw18134334676764718349 : Nat := 0
def tw12685336488177569694 : Nat := 0
def tw14348287449023591653 : Nat := 0
def tw16926258352128481657 : Nat := 0
def tw13994077368543190815 : Nat := 0
def tw218934400505134751 : Nat := 0
def tw17586937332204898327 : Nat := 0
def tw15697148667056507225 : Nat := 0
def tw7835361709087879683 : Nat := 0
def tw3696739803272245741 : Nat := 0
def tw17961922695096112835 : Nat := 0
def tw11191936612937199016 : Nat := 0
def tw16394189561101491897 : Nat := 0
def tw16093354531065053499 : Nat := 0
def tw4823640411287106434 : Nat := 0
def tw9035578729299447336 : Nat := 0
def tw298676724208171364 : Nat := 0
def tw7928727735803637537 : Nat := 0
def tw4345397803636708688 : Nat := 0
def tw6839567148724311042 : Nat := 0
def tw14189436456801135783 : Nat := 0
def tw17141940801421641109 : Nat := 0
def tw16381528525895811956 : Nat := 0
def tw5387096277918186735 : Nat := 0
def tw6540186179028510404 : Nat := 0
def tw1803540380810776592 : Nat := 0
def tw1912225851615070799 : Nat := 0
def tw8361087322714474885 : Nat := 0
def tw1523038812896659960 : Nat := 0
def tw445672530289693540 : Nat := 0
def tw537876602351771984 : Nat := 0
def tw586512687491632931 : Nat := 0
def tw11728178551657509959 : Nat := 0
def tw10788070182408200246 : Nat := 0
def tw11706935187104451240 : Nat := 0
def tw14611317732435454114 : Nat := 0
def tw406886274710202782 : Nat := 0
def tw8419730386236586447 : Nat := 0
def tw10923706855964640966 : Nat := 0
def tw12781421637261482494 : Nat := 0
def tw14053538461973349501 : Nat := 0
def tw2468406225358949356 : Nat := 0
def tw8123577623914433311 : Nat := 0
def tw4715390089203377747 : Nat := 0
def tw9674376100587016200 : Nat := 0
def tw2494910128288812203 : Nat := 0
def tw1527712778595883333 : Nat := 0
def tw16369867146637239606 : Nat := 0
def tw3123474595852902823 : Nat := 0
def tw176419780257185744 : Nat := 0
def tw11844525856555108442 : Nat := 0
def tw638945293467998956 : Nat := 0
def tw18176959966719969234 : Nat := 0
def tw3214643506358854829 : Nat := 0
def tw1286906977809088789 : Nat := 0
def tw13443897439829152494 : Nat := 0
def tw13578266932989359921 : Nat := 0
def tw8972318633109652156 : Nat := 0
def tw11801684938651991337 : Nat := 0
def tw15239084878740244955 : Nat := 0
def tw7363189535775768602 : Nat := 0
def tw4750557438012721164 : Nat := 0
def tw2508499496449148983 : Nat := 0
def tw9309726477546902586 : Nat := 0
def tw4382415102826667695 : Nat := 0
def tw4412000388082924550 : Nat := 0
def tw6333236569260074255 : Nat := 0
def tw8728473987045096768 : Nat := 0
def tw12195100133679691965 : Nat := 0
def tw6709028192219311706 : Nat := 0
def tw5623903964493918751 : Nat := 0
def tw2586961109671963064 : Nat := 0
def tw497036724612508537 : Nat := 0
def tw1661140138252107745 : Nat := 0
def tw3528865725650211863 : Nat := 0
def tw5126040980309478152 : Nat := 0
def tw12947623206341331352 : Nat := 0
def tw15597857603078910590 : Nat := 0
def tw15355760499825260243 : Nat := 0
def tw2174461501761953939 : Nat := 0
def tw3297341753341969276 : Nat := 0
def tw10434404110732641713 : Nat := 0
def tw1634275057654796265 : Nat := 0
def tw3369244875592183544 : Nat := 0
def tw6084240708576170523 : Nat := 0
def tw14474737659763297558 : Nat := 0
def tw13973894929085989849 : Nat := 0
def tw10876091854055099832 : Nat := 0
def tw4002785408797123523 : Nat := 0
def tw6242206785034994304 : Nat := 0
def tw13531318532602777897 : Nat := 0
def tw15711689182016055579 : Nat := 0
def tw1065463807721105315 : Nat := 0
def tw4486766621499058104 : Nat := 0
def tw15805280177533024970 : Nat := 0
def tw8636505402654758277 : Nat := 0
def tw5953520293748223828 : Nat := 0
def tw4118015116282307239 : Nat := 0
def tw1084440148464910741 : Nat := 0
def tw7875601372308766201 : Nat := 0
def tw8714724159513038792 : Nat := 0
def tw12890891349067724761 : Nat := 0
def tw12791673613402194094 : Nat := 0
def tw10183241681381505759 : Nat := 0
def tw5650515362554739628 : Nat := 0
def tw13118647225904304556 : Nat := 0
def tw2878202732926377421 : Nat := 0
def tw1960384322858183750 : Nat := 0
def tw17669283690950508980 : Nat := 0
def tw10299931473907340795 : Nat := 0
def tw14776249345078396920 : Nat := 0
def tw16947758847563082727 : Nat := 0
def tw18356985852170003726 : Nat := 0
def tw17794116787952139857 : Nat := 0
def tw5821899270290105642 : Nat := 0
def tw3901978132693271010 : Nat := 0
def tw15498642445520759539 : Nat := 0
def tw7661178185997036993 : Nat := 0
def tw1459596591245294650 : Nat := 0
def tw14872012220435685626 : Nat := 0
def tw4585759205683474632 : Nat := 0
def tw13485299329639230947 : Nat := 0
def tw16906337981525193773 : Nat := 0
def tw2091442061378191522 : Nat := 0
def tw8348932636707410779 : Nat := 0
def tw8237936094443300953 : Nat := 0
def tw3863310109191652303 : Nat := 0
def tw2933245139536318683 : Nat := 0
def tw3726763887751407112 : Nat := 0
def tw11109157315259969262 : Nat := 0
def tw6786493097547244328 : Nat := 0
def tw11463013042553625227 : Nat := 0
def tw12208727826274334829 : Nat := 0
def tw17730342728735042608 : Nat := 0
def tw6267829676199142215 : Nat := 0
def tw9859488319480301465 : Nat := 0
def tw15911361648314102548 : Nat := 0
def tw13130968764896709379 : Nat := 0
def tw6945941301929244562 : Nat := 0
def tw1447502590395034598 : Nat := 0
def tw8165932191527862788 : Nat := 0
def tw8366485701925052100 : Nat := 0
def tw14064493332641675223 : Nat := 0
def tw14559250964528965917 : Nat := 0
def tw4997168676679757608 : Nat := 0
def tw7980680684343386261 : Nat := 0
def tw5834878663684949952 : Nat := 0
def tw9093207435926991616 : Nat := 0
def tw6337848219530395131 : Nat := 0
def tw2819436826847019011 : Nat := 0
def tw1035852441322219426 : Nat := 0
def tw11770673275455106823 : Nat := 0
def tw10814290827586212719 : Nat := 0
def tw2886188919120256579 : Nat := 0
def tw13827587814218408041 : Nat := 0
def tw17068063579031194524 : Nat := 0
def tw7102247992298991107 : Nat := 0
def tw12321012969381635017 : Nat := 0
def tw9203547253013752079 : Nat := 0
def tw2797580035759296165 : Nat := 0
def tw4133368710436223617 : Nat := 0
def tw13475396366277015816 : Nat := 0
def tw3776842400375520434 : Nat := 0
def tw7300842917944053489 : Nat := 0
def tw11501960301613779838 : Nat := 0
def tw16507317695306949807 : Nat := 0
def tw11665953782650684455 : Nat := 0
def tw4894883816640664723 : Nat := 0
def tw11385257696293852270 : Nat := 0
def tw4427046218135343169 : Nat := 0
def tw10195191294385173257 : Nat := 0
def tw8354782339135032865 : Nat := 0
def tw17577860310545326306 : Nat := 0
def tw7952838596809195290 : Nat := 0
def tw5326505890820346936 : Nat := 0
def tw10167131038315423719 : Nat := 0
def tw12000511456627694465 : Nat := 0
def tw17656106510648271613 : Nat := 0
def tw1494092740128235603 : Nat := 0
def tw839448109229569099 : Nat := 0
def tw13224506168003747044 : Nat := 0
def tw16041126907228983993 : Nat := 0
def tw4004744589117360034 : Nat := 0
def tw11503991273545656528 : Nat := 0
def tw6514674900945340685 : Nat := 0
def tw14440111570913648370 : Nat := 0
def tw615689711492863147 : Nat := 0
def tw13181749902823878314 : Nat := 0
def tw4012117969275710756 : Nat := 0
def tw18325081788667294921 : Nat := 0
def tw9266559403103533173 : Nat := 0
def tw9375243386142962304 : Nat := 0
def tw4183993049769233633 : Nat := 0
def tw11211054609817271646 : Nat := 0
def tw16037765657253930471 : Nat := 0
def tw7132082159881112838 : Nat := 0
def tw7926788120816458268 : Nat := 0
def tw7734687513164603359 : Nat := 0
def tw9772885228596925488 : Nat := 0
def tw15437928540852101432 : Nat := 0
def tw2974921310036479650 : Nat := 0
def tw17418741253816108991 : Nat := 0
def tw10500894929154691234 : Nat := 0
def tw32171896415731642 : Nat := 0
def tw8410013967948312605 : Nat := 0
def tw18062139303514638336 : Nat := 0
def tw13797038615660898587 : Nat := 0
def tw6805726195140293539 : Nat := 0
def tw8579744934327708686 : Nat := 0
def tw11830959739877847700 : Nat := 0
def tw15290161116168276281 : Nat := 0
def tw15396538026897019652 : Nat := 0
def tw11993232563278091298 : Nat := 0
def tw15544976556475798425 : Nat := 0
def tw1870347504565493504 : Nat := 0
def tw18078896114634018951 : Nat := 0
def tw14157872990291537899 : Nat := 0
def tw3214699886745783070 : Nat := 0
def tw1267358116863932155 : Nat := 0
def tw8355741694229226345 : Nat := 0
def tw15691814616081542181 : Nat := 0
def tw4176377454641924719 : Nat := 0
def tw14760351219138308710 : Nat := 0
def tw8417980643139603239 : Nat := 0
def tw14069935339640000824 : Nat := 0
def tw7228156707357749447 : Nat := 0
def tw3436579650349907089 : Nat := 0
def tw13856236183574533474 : Nat := 0
def tw6576161356410807820 : Nat := 0
def tw16161818265592584173 : Nat := 0
def tw9599844833015806718 : Nat := 0
def tw6494029290933297413 : Nat := 0
def tw17464599095662043834 : Nat := 0
def tw4015520222353155134 : Nat := 0
def tw10093864038994581648 : Nat := 0
def tw13422610557439164822 : Nat := 0
def tw897969143574567741 : Nat := 0
def tw13894186040781309900 : Nat := 0
def tw5880139413636217314 : Nat := 0
def tw1226591759589333745 : Nat := 0
def tw1032126479432512360 : Nat := 0
def tw4563286197249411185 : Nat := 0
def tw2954060195206968242 : Nat := 0
def tw10188665690456701679 : Nat := 0
def tw10642272295835632050 : Nat := 0
def tw16209803840466709205 : Nat := 0
def tw14730057361642470398 : Nat := 0
def tw16094477513725851645 : Nat := 0
def tw10644638049943410498 : Nat := 0
def tw5268311811441072032 : Nat := 0
def tw10213012883478734676 : Nat := 0
def tw14552906906767806211 : Nat := 0
def tw16935910041442448622 : Nat := 0
def tw6994999318744276641 : Nat := 0
def tw4455551402959627557 : Nat := 0
def tw4901762402370184337 : Nat := 0
def tw6462785915451745027 : Nat := 0
def tw8223068362908258950 : Nat := 0
def tw6800329026061001475 : Nat := 0
def tw15543512142979774976 : Nat := 0
def tw76697703148078791 : Nat := 0
def tw1951216811341131042 : Nat := 0
def tw15012406735809272965 : Nat := 0
def tw1666023423623135665 : Nat := 0
def tw14772556250403611509 : Nat := 0
def tw10860308694651571228 : Nat := 0
def tw558716587655509234 : Nat := 0
def tw4739292124732943999 : Nat := 0
def tw11662325675522183567 : Nat := 0
def tw12055019630849282589 : Nat := 0
def tw506962033095597246 : Nat := 0
def tw14187494081080999244 : Nat := 0
def tw9423499652701876348 : Nat := 0
def tw15525721953518590706 : Nat := 0
def tw13006692297821543279 : Nat := 0
def tw1864001551697035935 : Nat := 0
def tw17908998927276683599 : Nat := 0
def tw6864690477553764236 : Nat := 0
def tw13713077672435007831 : Nat := 0
def tw3105344245364394603 : Nat := 0
def tw15029877531545421352 : Nat := 0
def tw71445384786317194 : Nat := 0
def tw7277991656845213532 : Nat := 0
def tw2774339322688720801 : Nat := 0
def tw4171772709658429394 : Nat := 0
def tw162933769409336679 : Nat := 0
def tw7155436064122588346 : Nat := 0
def tw12161595098246950920 : Nat := 0
def tw12951400070262172207 : Nat := 0
def tw14795408072704807167 : Nat := 0
def tw2063703555888677410 : Nat := 0
def tw10050517030159561929 : Nat := 0
def tw7687741202703508828 : Nat := 0
def tw10776173064222652906 : Nat := 0
def tw14107431523852432126 : Nat := 0
def tw16454840754820641207 : Nat := 0
def tw5470863561839172215 : Nat := 0
def tw5965321836240230970 : Nat := 0
def tw18425590824825726412 : Nat := 0
def tw6094785751160769045 : Nat := 0
def tw7018554100730716629 : Nat := 0
def tw4412614026915946495 : Nat := 0
def tw9353630843001871640 : Nat := 0
def tw5785831179648911665 : Nat := 0
def tw10775686638381125707 : Nat := 0
def tw4206077237730736353 : Nat := 0
def tw399824540341485992 : Nat := 0
def tw12730547110850305165 : Nat := 0
def tw15064034949058504586 : Nat := 0
def tw3490085721224123556 : Nat := 0
def tw6426123119216245005 : Nat := 0
def tw10199208696760616262 : Nat := 0
def tw5197473002940047712 : Nat := 0
def tw17599452595214924064 : Nat := 0
def tw2613598586546671732 : Nat := 0
def tw1409904634875285855 : Nat := 0
def tw10220762409390435959 : Nat := 0
def tw15212816724056252952 : Nat := 0
def tw2520881911807390816 : Nat := 0
def tw14327094013935433753 : Nat := 0
def tw1033182955022101185 : Nat := 0
def tw8385445387713176179 : Nat := 0
def tw6548389695759190973 : Nat := 0
def tw3323452848732852681 : Nat := 0
def tw4666943912610170053 : Nat := 0
def tw808496615992757253 : Nat := 0
def tw11684369607630175865 : Nat := 0
def tw3358803121346950376 : Nat := 0
def tw11261924225683601590 : Nat := 0
def tw10019653321779058559 : Nat := 0
def tw17183773837495060588 : Nat := 0
def tw16536308912637389495 : Nat := 0
def tw8165069251824474941 : Nat := 0
def tw3576318288757412516 : Nat := 0
def tw7099502812205206560 : Nat := 0
def tw11090442294117377939 : Nat := 0
def tw451125016451799371 : Nat := 0
def tw16701699141601678275 : Nat := 0
def tw3909953436266892813 : Nat := 0
def tw7638680646652986696 : Nat := 0
def tw10331480740410373699 : Nat := 0
def tw2178814951896952253 : Nat := 0
def tw415626448419664713 : Nat := 0
def tw9447767993698709585 : Nat := 0
def tw13286058742048485893 : Nat := 0
def tw11181960440128484908 : Nat := 0
def tw14296700643720914439 : Nat := 0
def tw16223280778922994789 : Nat := 0
def tw4239805376105778161 : Nat := 0
def tw647213607007269972 : Nat := 0
def tw8906132420531420661 : Nat := 0
def tw6021526935699569107 : Nat := 0
def tw17736130213052588462 : Nat := 0
def tw1657794740706915085 : Nat := 0
def tw2882317853138031811 : Nat := 0
def tw16219670970465096270 : Nat := 0
def tw6239163173616041033 : Nat := 0
def tw10231858756915271326 : Nat := 0
def tw2935608261857983593 : Nat := 0
def tw7774633160571582426 : Nat := 0
def tw1379515669064865949 : Nat := 0
def tw3787659255378778424 : Nat := 0
def tw8056794060234657953 : Nat := 0
def tw15542303613454715194 : Nat := 0
def tw4917822945151093333 : Nat := 0
def tw2602718387034461444 : Nat := 0
def tw10607120490219817410 : Nat := 0
def tw1325119007029223780 : Nat := 0
def tw10361043473620484315 : Nat := 0
def tw14353585115512864119 : Nat := 0
def tw501854923813730240 : Nat := 0
def tw10868840507385464320 : Nat := 0
def tw11604060539046083983 : Nat := 0
def tw16433876262245755502 : Nat := 0
def tw1553656611280827216 : Nat := 0
def tw5251930809699280969 : Nat := 0
def tw12626783030400387682 : Nat := 0
def tw1444922802490307863 : Nat := 0
def tw7367791204775785388 : Nat := 0
def tw6535722417791333001 : Nat := 0
def tw14856811581956548811 : Nat := 0
def tw15266085044835570723 : Nat := 0
def tw2216702453553063104 : Nat := 0
def tw13494197905937957070 : Nat := 0
def tw8757869699498168511 : Nat := 0
def tw1221076016368801525 : Nat := 0
def tw14864445111047561336 : Nat := 0
def tw4457786939112508170 : Nat := 0
def tw4747234102566142809 : Nat := 0
def tw14929730794363270685 : Nat := 0
def tw6853417849742804808 : Nat := 0
def tw1743029164532811309 : Nat := 0
def tw1275703536134931588 : Nat := 0
def tw9480658067681407934 : Nat := 0
def tw16816201790285993015 : Nat := 0
def tw12559529878621536859 : Nat := 0
def tw714432290306059633 : Nat := 0
def tw1963754755652474725 : Nat := 0
def tw9509341894833096653 : Nat := 0
def tw16276394578063576590 : Nat := 0
def tw2231739629046024447 : Nat := 0
def tw8520011564176686878 : Nat := 0
def tw7738872681504526319 : Nat := 0
def tw11263207124893145473 : Nat := 0
def tw13082970648066939207 : Nat := 0
def tw8315151270899385440 : Nat := 0
def tw2680467252393397809 : Nat := 0
def tw17624656913824413755 : Nat := 0
def tw14212801919963798653 : Nat := 0
def tw12862863580941092360 : Nat := 0
def tw17352491220115615034 : Nat := 0
def tw5905243871455850077 : Nat := 0
def tw4833559477377188818 : Nat := 0
def tw9424620792321196996 : Nat := 0
def tw5355405039331236064 : Nat := 0
def tw5394304101009169367 : Nat := 0
def tw3732712542711577407 : Nat := 0
def tw6376394720591544376 : Nat := 0
def tw7558091714185424771 : Nat := 0
def tw405558527403517047 : Nat := 0
def tw4250914313486262434 : Nat := 0
def tw4067297583929843424 : Nat := 0
def tw10020016656496277084 : Nat := 0
def tw4662934250382430048 : Nat := 0
def tw8660509717417490524 : Nat := 0
def tw5402109675738424728 : Nat := 0
def tw15864861348459409231 : Nat := 0
def tw17337111041627222587 : Nat := 0
def tw5216450676988756691 : Nat := 0
def tw8541008957829414856 : Nat := 0
def tw17126237874040742040 : Nat := 0
def tw1204319243977999384 : Nat := 0
def tw18118321078803117599 : Nat := 0
def tw9786005677212895082 : Nat := 0
def tw7484513380716873835 : Nat := 0
def tw17639617238908096210 : Nat := 0
def tw5678442963468192231 : Nat := 0
def tw1254802638525288341 : Nat := 0
def tw840641166669569851 : Nat := 0
def tw17617958452435194219 : Nat := 0
def tw1722889684995438332 : Nat := 0
def tw7992689104462411163 : Nat := 0
def tw260719695854790568 : Nat := 0
def tw9645146001567184723 : Nat := 0
def tw18379885673932322526 : Nat := 0
def tw4340612106717435190 : Nat := 0
def tw3180718378759196409 : Nat := 0
def tw12043665866290946543 : Nat := 0
def tw18131848261685332279 : Nat := 0
def tw14867110132251846683 : Nat := 0
def tw4196021537225443992 : Nat := 0
def tw8803709695432512737 : Nat := 0
def tw7864415397362349303 : Nat := 0
def tw12564688518360969269 : Nat := 0
def tw11657888803239156870 : Nat := 0
def tw13333357776294778148 : Nat := 0
def tw6635627965576519590 : Nat := 0
def tw7495702711055753798 : Nat := 0
def tw18427873486365073871 : Nat := 0
def tw8615248805729345269 : Nat := 0
def tw2465461554168515258 : Nat := 0
def tw9677499068958805020 : Nat := 0
def tw6023053547352896982 : Nat := 0
def tw7578730424682843271 : Nat := 0
def tw11361034147564064425 : Nat := 0
def tw10491899784493235712 : Nat := 0
def tw3773858879356563122 : Nat := 0
def tw5325176215696680332 : Nat := 0
def tw3199884747548470530 : Nat := 0
def tw9423937791321746299 : Nat := 0
def tw12579052946603660742 : Nat := 0
def tw15505458212558148810 : Nat := 0
def tw15910826206225804222 : Nat := 0
def tw15522542351713524557 : Nat := 0
def tw1119322179478068805 : Nat := 0
def tw16552835194497826199 : Nat := 0
def tw13401813004450307663 : Nat := 0
def tw15488590666409580166 : Nat := 0
def tw845750835868148386 : Nat := 0
def tw4273423622436849861 : Nat := 0
def tw883385942438022216 : Nat := 0
def tw2456002671083221428 : Nat := 0
def tw11602114450580770236 : Nat := 0
def tw5057792027506459302 : Nat := 0
def tw1922853419177768046 : Nat := 0
def tw8307054150530601127 : Nat := 0
def tw17890418083066447157 : Nat := 0
def tw1667396781342464233 : Nat := 0
def tw2366651012650363630 : Nat := 0
def tw1248212312837218761 : Nat := 0
def tw5525223729672479171 : Nat := 0
def tw15324314836490371881 : Nat := 0
def tw15948250781356693009 : Nat := 0
def tw16871707372391084839 : Nat := 0
def tw7545068039937368579 : Nat := 0
def tw13704223631867726394 : Nat := 0
def tw17658120159561302832 : Nat := 0
def tw14929915041753524037 : Nat := 0
def tw3650803478398290754 : Nat := 0
def tw3310207605824030265 : Nat := 0
def tw4159634281527462385 : Nat := 0
def tw15028954668963386942 : Nat := 0
def tw13092162152476403533 : Nat := 0
def tw9262724551366819059 : Nat := 0
def tw15976451031282596154 : Nat := 0
def tw8157704237785678563 : Nat := 0
def tw9427548987297898003 : Nat := 0
def tw13451271606276368279 : Nat := 0
def tw11597285517689452457 : Nat := 0
def tw15373374934182799128 : Nat := 0
def tw8777628717638757535 : Nat := 0
def tw9790722815537041376 : Nat := 0
def tw8259341506071019839 : Nat := 0
def tw2893415396489354670 : Nat := 0
def tw9295620851489886357 : Nat := 0
def tw4346120246718227102 : Nat := 0
def tw15454158765452288658 : Nat := 0
def tw12514321411279202736 : Nat := 0
def tw1593853388864959369 : Nat := 0
def tw3948616121040003823 : Nat := 0
def tw16444879751550256079 : Nat := 0
def tw882581117502814198 : Nat := 0
def tw17315920375816461300 : Nat := 0
def tw15019204934666763952 : Nat := 0
def tw14538019868459094993 : Nat := 0
def tw7621491433470584910 : Nat := 0
def tw13443908158020760436 : Nat := 0
def tw14977411192482429977 : Nat := 0
def tw3217143558926692651 : Nat := 0
def tw11392004403354312630 : Nat := 0
def tw10491550337352760122 : Nat := 0
def tw4965743198693233766 : Nat := 0
def tw8129610667327490404 : Nat := 0
def tw13256296383053591016 : Nat := 0
def tw17345357132429005020 : Nat := 0
def tw1618465044716251015 : Nat := 0
def tw12104366831029761044 : Nat := 0
def tw14311294528251462377 : Nat := 0
def tw8357124437070670204 : Nat := 0
def tw5734283644387279744 : Nat := 0
def tw5283833276960904657 : Nat := 0
def tw8209457327972156686 : Nat := 0
def tw15791191647074732983 : Nat := 0
def tw4038509312451307496 : Nat := 0
def tw18017414093110918934 : Nat := 0
def tw9334214859537545098 : Nat := 0
def tw9590569331984270829 : Nat := 0
def tw14295906221181248538 : Nat := 0
def tw1910945980049336675 : Nat := 0
def tw803636217754840096 : Nat := 0
def tw15005616287905013509 : Nat := 0
def tw17474441966883284861 : Nat := 0
def tw10555281454342453207 : Nat := 0
def tw932723303526244619 : Nat := 0
def tw1003094537806218528 : Nat := 0
def tw12380547570108248970 : Nat := 0
def tw10489843284780702143 : Nat := 0
def tw10128619097577014824 : Nat := 0
def tw15052854892824351323 : Nat := 0
def tw12605633463048730415 : Nat := 0
def tw12350570240315872744 : Nat := 0
def tw309813401138949237 : Nat := 0
def tw18060300312108265122 : Nat := 0
def tw16310716413158108686 : Nat := 0
def tw8691081687833030564 : Nat := 0
def tw15250889049254885761 : Nat := 0
def tw10561911047540863904 : Nat := 0
def tw3012745688737793855 : Nat := 0
def tw12731398772182126415 : Nat := 0
def tw6444937440803411432 : Nat := 0
def tw671636481021287034 : Nat := 0
def tw12550555379654349950 : Nat := 0
def tw5914580206105440467 : Nat := 0
def tw11463384834329750570 : Nat := 0
def tw9013335093806910614 : Nat := 0
def tw17864008595817748049 : Nat := 0
def tw13241668248661131464 : Nat := 0
def tw6590270333922083482 : Nat := 0
def tw831505034821811586 : Nat := 0
def tw3740055493383550458 : Nat := 0
def tw2968178371009328561 : Nat := 0
def tw4201617676794025821 : Nat := 0
def tw8565691686939240087 : Nat := 0
def tw7362533828515370453 : Nat := 0
def tw2345505380313670483 : Nat := 0
def tw3253315027190897566 : Nat := 0
def tw3283616149812725618 : Nat := 0
def tw3759507702095402941 : Nat := 0
def tw12142934406502316826 : Nat := 0
def tw7085604827546629627 : Nat := 0
def tw10992512879716642890 : Nat := 0
def tw15563069756774409980 : Nat := 0
def tw17055184414371828034 : Nat := 0
def tw6199691028654612914 : Nat := 0
def tw3359178685942696025 : Nat := 0
def tw10286436765605836023 : Nat := 0
def tw15268588611553478729 : Nat := 0
def tw2389079189966120160 : Nat := 0
def tw14498156697931775590 : Nat := 0
def tw5691292051558241967 : Nat := 0
def tw7384176410904865811 : Nat := 0
def tw3498221775073378622 : Nat := 0
def tw10288809414669285576 : Nat := 0
def tw320175254256210125 : Nat := 0
def tw16719631634167037796 : Nat := 0
def tw7123036697150291118 : Nat := 0
def tw938249286602061945 : Nat := 0
def tw7581376156905111804 : Nat := 0
def tw3044459668337389632 : Nat := 0
def tw3044239138127144366 : Nat := 0
def tw9522722938863904273 : Nat := 0
def tw18438794240165002709 : Nat := 0
def tw11099602223917561699 : Nat := 0
def tw8475390962985294514 : Nat := 0
def tw14957433282260357553 : Nat := 0
def tw9412414762116695264 : Nat := 0
def tw10709341586716721967 : Nat := 0
def tw5676215259327259931 : Nat := 0
def tw4524422861618810288 : Nat := 0
def tw14579585187396517516 : Nat := 0
def tw16585079493814598001 : Nat := 0
def tw11437980556692047672 : Nat := 0
def tw12207658046309053077 : Nat := 0
def tw8195115190539044869 : Nat := 0
def tw10877160004136035086 : Nat := 0
def tw11102979250802683996 : Nat := 0
def tw12946035356488621364 : Nat := 0
def tw5749397270108794653 : Nat := 0
def tw6400852424947261951 : Nat := 0
def tw2086198203443962286 : Nat := 0
def tw11734034955410164756 : Nat := 0
def tw13256868987272874201 : Nat := 0
def tw1541163052712055132 : Nat := 0
def tw10613433880755140242 : Nat := 0
def tw2197959370653903114 : Nat := 0
def tw8072705661293380548 : Nat := 0
def tw17352137595558882639 : Nat := 0
def tw16710034318469723005 : Nat := 0
def tw11995096499129777110 : Nat := 0
def tw3730593195474558469 : Nat := 0
def tw5240497844471468250 : Nat := 0
def tw15675628153362490592 : Nat := 0
def tw17512488823446126666 : Nat := 0
def tw18278818095848604443 : Nat := 0
def tw10506201177355086603 : Nat := 0
def tw18244326959744032116 : Nat := 0
def tw290668441158625444 : Nat := 0
def tw8680218731231736216 : Nat := 0
def tw9252149536078478512 : Nat := 0
def tw7237359604766920479 : Nat := 0
def tw13624776455657709469 : Nat := 0
def tw3864412854048598819 : Nat := 0
def tw10708519653526611167 : Nat := 0
def tw18136376968005750426 : Nat := 0
def tw558234190825793006 : Nat := 0
def tw14675028932906624175 : Nat := 0
def tw13779459278315185597 : Nat := 0
def tw15176734522827006121 : Nat := 0
def tw6184816929622343519 : Nat := 0
def tw4062350229822862033 : Nat := 0
def tw14575062237617161613 : Nat := 0
def tw1084306353292181231 : Nat := 0
def tw7087647841604343350 : Nat := 0
def tw11770343636679721668 : Nat := 0
def tw15261874256703408752 : Nat := 0
def tw10762905189987733281 : Nat := 0
def tw11239320006869471180 : Nat := 0
def tw16115339985016405289 : Nat := 0
def tw17133148535171487493 : Nat := 0
def tw4409133788309945376 : Nat := 0
def tw16586191429149984094 : Nat := 0
def tw3206201027911367975 : Nat := 0
def tw3257874895072787359 : Nat := 0
def tw11385493671529051317 : Nat := 0
def tw8545540651400678517 : Nat := 0
def tw7609699369047024025 : Nat := 0
def tw9058611948298738665 : Nat := 0
def tw16175195288001074299 : Nat := 0
def tw10448889426070380203 : Nat := 0
def tw2405415859328857490 : Nat := 0
def tw11471149752299210661 : Nat := 0
def tw6520667613213114734 : Nat := 0
def tw103036250029330321 : Nat := 0
def tw4144492626907233087 : Nat := 0
def tw13824827184947866131 : Nat := 0
def tw7869872958285582489 : Nat := 0
def tw3760176210204546834 : Nat := 0
def tw18228000418191788367 : Nat := 0
def tw10171179244437256703 : Nat := 0
def tw3057100579136431269 : Nat := 0
def tw16190373196413723317 : Nat := 0
def tw5128727765280167940 : Nat := 0
def tw10205524777182744780 : Nat := 0
def tw17732210046991543765 : Nat := 0
def tw17501163811748288001 : Nat := 0
def tw11329430703087048293 : Nat := 0
def tw797480014240054867 : Nat := 0
def tw1490078185550554752 : Nat := 0
def tw4806360807098392230 : Nat := 0
def tw9668095081379005623 : Nat := 0
def tw17862844366386670833 : Nat := 0
def tw9102282266368652689 : Nat := 0
def tw13522916087844149159 : Nat := 0
def tw1689211607876659369 : Nat := 0
def tw6294556256832897095 : Nat := 0
def tw8423064772861043034 : Nat := 0
def tw6449704669391842306 : Nat := 0
def tw16614480489561178354 : Nat := 0
def tw6736115615403626709 : Nat := 0
def tw5354354573949749136 : Nat := 0
def tw16169319424119260619 : Nat := 0
def tw2776572146239768450 : Nat := 0
def tw5644880510625776122 : Nat := 0
def tw9449352245536580002 : Nat := 0
def tw6591907373723005993 : Nat := 0
def tw8364870941745589275 : Nat := 0
def tw6740410388082011530 : Nat := 0
def tw13630437709761113602 : Nat := 0
def tw14093058179597010080 : Nat := 0
def tw9836666222018448016 : Nat := 0
def tw15879969132231067738 : Nat := 0
def tw10619549483048522299 : Nat := 0
def tw202519446896480882 : Nat := 0
def tw13559329086140942259 : Nat := 0
def tw18224771270527718480 : Nat := 0
def tw7828431928523998349 : Nat := 0
def tw18407443880292642462 : Nat := 0
def tw14627405831721472149 : Nat := 0
def tw14066505711694064175 : Nat := 0
def tw10448096649721551497 : Nat := 0
def tw11091706824670243267 : Nat := 0
def tw6733855576339342580 : Nat := 0
def tw5640421814299381864 : Nat := 0
def tw3822700390738893196 : Nat := 0
def tw5196333079628260204 : Nat := 0
def tw12681145437496939908 : Nat := 0
def tw8792212403350400135 : Nat := 0
def tw2294513653281219549 : Nat := 0
def tw17069776807461145760 : Nat := 0
def tw5899512611584353148 : Nat := 0
def tw897869521514033482 : Nat := 0
def tw15634757972156688321 : Nat := 0
def tw15047603697210709865 : Nat := 0
def tw9576578636213989780 : Nat := 0
def tw8953828350241229990 : Nat := 0
def tw1432411681376612169 : Nat := 0
def tw10871022328617636053 : Nat := 0
def tw12300074906826989845 : Nat := 0
def tw1388285836368575706 : Nat := 0
def tw9370840357574897736 : Nat := 0
def tw6173731683518902707 : Nat := 0
def tw4093566248073157012 : Nat := 0
def tw4212455115680276490 : Nat := 0
def tw6283022124933151185 : Nat := 0
def tw8798486747274754456 : Nat := 0
def tw3962637948573551294 : Nat := 0
def tw834820436472459271 : Nat := 0
def tw3434374574914287458 : Nat := 0
def tw10906149595880150243 : Nat := 0
def tw10472230996236203971 : Nat := 0
def tw18401240823078504330 : Nat := 0
def tw7221732653286984698 : Nat := 0
def tw6377766134601412088 : Nat := 0
def tw16908720513269796923 : Nat := 0
def tw14448797371896914228 : Nat := 0
def tw7640944740472498402 : Nat := 0
def tw525225092967615803 : Nat := 0
def tw11932990627240347275 : Nat := 0
def tw3531172288869627079 : Nat := 0
def tw12961022939639945318 : Nat := 0
def tw16628931169608788860 : Nat := 0
def tw9515688810129357188 : Nat := 0
def tw1731943320798592112 : Nat := 0
def tw9717033408398742814 : Nat := 0
def tw6067983838065135477 : Nat := 0
def tw5062290713535147019 : Nat := 0
def tw7863585932897905088 : Nat := 0
def tw13027406028807456237 : Nat := 0
def tw14508806643151751081 : Nat := 0
def tw8377941146863378404 : Nat := 0
def tw2684619058440278966 : Nat := 0
def tw9524361649197981773 : Nat := 0
def tw7223599070808236058 : Nat := 0
def tw4310563016888779536 : Nat := 0
def tw48068073792996452 : Nat := 0
def tw14849385709500981721 : Nat := 0
def tw18254518556702055373 : Nat := 0
def tw11545442392179526786 : Nat := 0
def tw16567816486911858552 : Nat := 0
def tw11668361263034844638 : Nat := 0
def tw2933783609183701691 : Nat := 0
def tw18134901954974225777 : Nat := 0
def tw6494943900015665892 : Nat := 0
def tw10119689770220406640 : Nat := 0
def tw13046535441479292656 : Nat := 0
def tw2745687054413171749 : Nat := 0
def tw4028797432644968772 : Nat := 0
def tw13672734460757128750 : Nat := 0
def tw15355011739645264242 : Nat := 0
def tw16486311820426446132 : Nat := 0
def tw12803166685100427391 : Nat := 0
def tw1753933849900253533 : Nat := 0
def tw13658342691918701885 : Nat := 0
def tw8388505645348888379 : Nat := 0
def tw5493512610665574139 : Nat := 0
def tw13359606210496920072 : Nat := 0
def tw9547843408845404126 : Nat := 0
def tw16223720849359477772 : Nat := 0
def tw17155776176663573023 : Nat := 0
def tw2332583422476839061 : Nat := 0
def tw8035657182007762052 : Nat := 0
def tw1175999143734841298 : Nat := 0
def tw17249262959577325365 : Nat := 0
def tw4363040808522774978 : Nat := 0
def tw18130165792026842797 : Nat := 0
def tw13355712171702804499 : Nat := 0
def tw1625057443747809049 : Nat := 0
def tw1215007440448054824 : Nat := 0
def tw18075766085275862009 : Nat := 0
def tw2629361369782381799 : Nat := 0
def tw8927859576276220166 : Nat := 0
def tw5515735772446519918 : Nat := 0
def tw7436877851582764993 : Nat := 0
def tw17630726381643025568 : Nat := 0
def tw13937417428263938026 : Nat := 0
def tw11822355304827226170 : Nat := 0
def tw15288498874446113044 : Nat := 0
def tw17318466232071314676 : Nat := 0
def tw4671132276996904092 : Nat := 0
def tw1556970688275541058 : Nat := 0
def tw8981503212165814745 : Nat := 0
def tw2926648032211988059 : Nat := 0
def tw11302363233668411985 : Nat := 0
def tw5544689946677721120 : Nat := 0
def tw16425558793704412845 : Nat := 0
def tw631207347540722068 : Nat := 0
def tw12127733561733220787 : Nat := 0
def tw14881510395938814925 : Nat := 0
def tw4338392593385953666 : Nat := 0
def tw13241558340481896067 : Nat := 0
def tw3450378309918086287 : Nat := 0
def tw14714266763360801511 : Nat := 0
def tw2795106119671112458 : Nat := 0
def tw284766693873469323 : Nat := 0
def tw1248361756214065683 : Nat := 0
def tw10030962889228577761 : Nat := 0
def tw9666225091314874528 : Nat := 0
def tw11244490278159388133 : Nat := 0
def tw341188384847514846 : Nat := 0
def tw7958545708394890050 : Nat := 0
def tw4031283552970814572 : Nat := 0
def tw8687530329258762959 : Nat := 0
def tw3225316225788254567 : Nat := 0
def tw2761083559725845885 : Nat := 0
def tw15020933996689684812 : Nat := 0
def tw9635020552234943562 : Nat := 0
def tw4356916802157587211 : Nat := 0
def tw16234352885703566326 : Nat := 0
def tw15418752909577964724 : Nat := 0
def tw15286764381146221601 : Nat := 0
def tw4767592350200986745 : Nat := 0
def tw7305252676534115226 : Nat := 0
def tw3591445573555537214 : Nat := 0
def tw8240202624418901160 : Nat := 0
def tw12651190134753809563 : Nat := 0
def tw3829361495707878570 : Nat := 0
def tw17808632693528215654 : Nat := 0
def tw13877324182429744040 : Nat := 0
def tw17912681284578190102 : Nat := 0
def tw1182649781066953230 : Nat := 0
def tw10503924955160574451 : Nat := 0
def tw17446392457177894181 : Nat := 0
def tw1214851572339019501 : Nat := 0
def tw17859757966027394555 : Nat := 0
def tw5346880453718613851 : Nat := 0
def tw3214519775670033298 : Nat := 0
def tw7680800982882448695 : Nat := 0
def tw11887809149969474538 : Nat := 0
def tw2980412082381953919 : Nat := 0
def tw1370792027895418936 : Nat := 0
def tw16646418338362495221 : Nat := 0
def tw997607251084280631 : Nat := 0
def tw9815757953026848573 : Nat := 0
def tw11708870304320667189 : Nat := 0
def tw3685024125035446717 : Nat := 0
def tw17723414667624130080 : Nat := 0
def tw10928454593567093128 : Nat := 0
def tw3784682183254476220 : Nat := 0
def tw14665818403294443825 : Nat := 0
def tw17753038730641207003 : Nat := 0
def tw4541905161667251302 : Nat := 0
def tw5590047495097286214 : Nat := 0
def tw17790358143572262636 : Nat := 0
def tw17722804810815347369 : Nat := 0
def tw12453925403364935195 : Nat := 0
def tw15186361363148522668 : Nat := 0
def tw2823285468647411951 : Nat := 0
def tw2949196890894468173 : Nat := 0
def tw13058510791274210032 : Nat := 0
def tw10576773253959134715 : Nat := 0
def tw6353372666713153850 : Nat := 0
def tw12069574994754446909 : Nat := 0
def tw6540428367244528829 : Nat := 0
def tw4457664655082376847 : Nat := 0
def tw18315823704561384988 : Nat := 0
def tw2311321055309859915 : Nat := 0
def tw14615951342748145698 : Nat := 0
def tw12040190991034417339 : Nat := 0
def tw10400529662050369994 : Nat := 0
def tw9711617131784741644 : Nat := 0
def tw5500514809918660210 : Nat := 0
def tw16980728182940387531 : Nat := 0
def tw3668166642310732586 : Nat := 0
def tw15827522183120018403 : Nat := 0
def tw15830650156397766830 : Nat := 0
def tw8968429586812175023 : Nat := 0
def tw5351308862590480337 : Nat := 0
def tw3434930561117144147 : Nat := 0
def tw15374099370991835261 : Nat := 0
def tw5373060087741215134 : Nat := 0
def tw2072478885407098569 : Nat := 0
def tw2222754414229930578 : Nat := 0
def tw9652171054934678578 : Nat := 0
def tw8842279356211808743 : Nat := 0
def tw7950787750203022955 : Nat := 0
def tw9837146922638005032 : Nat := 0
def tw4357468662673792362 : Nat := 0
def tw2564881155243623589 : Nat := 0
def tw7591085657830446266 : Nat := 0
def tw10828607253126984658 : Nat := 0
def tw7194817041098602726 : Nat := 0
def tw8582051457201458797 : Nat := 0
def tw15605802233982883444 : Nat := 0
def tw1778225490274980626 : Nat := 0
def tw13455098864185789743 : Nat := 0
def tw3784710032375930101 : Nat := 0
def tw17847813316957516870 : Nat := 0
def tw9513287311877170950 : Nat := 0
def tw17995988679117428502 : Nat := 0
def tw7663484222243734032 : Nat := 0
def tw1943303941519170323 : Nat := 0
def tw5476977401667809310 : Nat := 0
def tw6328051657246096197 : Nat := 0
def tw483865632494936813 : Nat := 0
def tw6999131198850239363 : Nat := 0
def tw11261032361030505507 : Nat := 0
def tw15084049909442925024 : Nat := 0
def tw16395571403003889100 : Nat := 0
def tw11287389096274610425 : Nat := 0
def tw17705923373946394145 : Nat := 0
def tw3145827967121015115 : Nat := 0
def tw18004805979831811607 : Nat := 0
def tw14202110584010877877 : Nat := 0
def tw12393294542861485050 : Nat := 0
def tw8583918946916262331 : Nat := 0
def tw7923721654470081623 : Nat := 0
def tw4614185748761638011 : Nat := 0
def tw8142571410065273341 : Nat := 0
def tw5766280519607798746 : Nat := 0
def tw14087026651993020495 : Nat := 0
def tw15175345284766496893 : Nat := 0
def tw4593169622227760154 : Nat := 0
def tw17172105081556433889 : Nat := 0
def tw5780524495818418598 : Nat := 0
def tw14488457343474692113 : Nat := 0
def tw17212135274525740011 : Nat := 0
def tw5603027194182612974 : Nat := 0
def tw677030087765905477 : Nat := 0
def tw17591449748531040728 : Nat := 0
def tw6126710219678485955 : Nat := 0
def tw9832704794254709987 : Nat := 0
def tw6292597869266860414 : Nat := 0
def tw9065246052306770458 : Nat := 0
def tw1822859575220236053 : Nat := 0
def tw16564602660614368482 : Nat := 0
def tw15453473606600716277 : Nat := 0
def tw16112326991809722669 : Nat := 0
def tw6259202459955828825 : Nat := 0
def tw17934504629654500172 : Nat := 0
def tw4366759597670154521 : Nat := 0
def tw14562016918316214926 : Nat := 0
def tw1369548646862275200 : Nat := 0
def tw11758057532416398457 : Nat := 0
def tw8404876138269709996 : Nat := 0
def tw3116792354325307132 : Nat := 0
def tw15527272055226642976 : Nat := 0
def tw2532681713552139040 : Nat := 0
def tw21614446042751763 : Nat := 0
def tw496512427944946715 : Nat := 0
def tw18237311509626279039 : Nat := 0
def tw16371636172091184791 : Nat := 0
def tw10354552185873608855 : Nat := 0
def tw9251252782124234129 : Nat := 0
def tw10235561150808226591 : Nat := 0
def tw12353356999947589578 : Nat := 0
def tw2604453801877460743 : Nat := 0
def tw685602138556464386 : Nat := 0
def tw17989602302696315219 : Nat := 0
def tw4432194433537562801 : Nat := 0
def tw821088590557482447 : Nat := 0
def tw4196103763556952053 : Nat := 0
def tw16531479762938328309 : Nat := 0
def tw12467949561794791652 : Nat := 0
def tw14375459318272454750 : Nat := 0
def tw10265013210141248747 : Nat := 0
def tw3686437077190812697 : Nat := 0
def tw10442125102765064160 : Nat := 0
def tw5309078838727058589 : Nat := 0
def tw5538432883756956778 : Nat := 0
def tw6188879777933488371 : Nat := 0
def tw11050517883053097431 : Nat := 0
def tw6467307935792024820 : Nat := 0
def tw2459582091240395983 : Nat := 0
def tw2157305300659335076 : Nat := 0
def tw13074194369376627505 : Nat := 0
def tw16814881038119907013 : Nat := 0
def tw465845593530358359 : Nat := 0
def tw12670757357545131072 : Nat := 0
def tw6143579072867268868 : Nat := 0
def tw12331869252580451619 : Nat := 0
def tw18253752919813806951 : Nat := 0
def tw13738419558167961964 : Nat := 0
def tw575964817991925835 : Nat := 0
def tw16131012655793199809 : Nat := 0
def tw13898703487798699072 : Nat := 0
def tw5030329502343170107 : Nat := 0
def tw1322678325063058216 : Nat := 0
def tw10171369702909903955 : Nat := 0
def tw1564408721408703741 : Nat := 0
def tw15745778539221076776 : Nat := 0
def tw3034880189635880787 : Nat := 0
def tw13794300986599541434 : Nat := 0
def tw14154438338446919184 : Nat := 0
def tw10660586538785602097 : Nat := 0
def tw15865029365853707625 : Nat := 0
def tw15573590197544189668 : Nat := 0
def tw5004668258846530744 : Nat := 0
def tw6926146933145731923 : Nat := 0
def tw1479177199221343978 : Nat := 0
def tw10673775635072242264 : Nat := 0
def tw16661690361374562527 : Nat := 0
def tw3027866482454443611 : Nat := 0
def tw11934767479340078604 : Nat := 0
def tw3096313003364062614 : Nat := 0
def tw7888570917477483415 : Nat := 0
def tw16989838901665652528 : Nat := 0
def tw9090610911690587764 : Nat := 0
def tw16598922017252869583 : Nat := 0
def tw14509249589543129934 : Nat := 0
def tw5716961866825847677 : Nat := 0
def tw15731122666171802632 : Nat := 0
def tw6974423208359920788 : Nat := 0
def tw14185223962183228985 : Nat := 0
def tw6622592141065822210 : Nat := 0
def tw17237396725733763421 : Nat := 0
def tw2281050855796970875 : Nat := 0
def tw6789411526545481607 : Nat := 0
def tw13917540997619413811 : Nat := 0
def tw18318429333446101689 : Nat := 0
def tw18359017255419930455 : Nat := 0
def tw7100579269804249003 : Nat := 0
def tw2002771213749282947 : Nat := 0
def tw1630366607622895347 : Nat := 0
def tw10321041211485229044 : Nat := 0
def tw1087267977771808633 : Nat := 0
def tw13862891556818993560 : Nat := 0
def tw3674965307198077399 : Nat := 0
def tw9422408837349414336 : Nat := 0
def tw2167152658292252798 : Nat := 0
def tw8466196776279699943 : Nat := 0
def tw13637314270775341162 : Nat := 0
def tw15463212073136947072 : Nat := 0
def tw2218753730685590722 : Nat := 0
def tw3139103120765742263 : Nat := 0
def tw12627769321475612817 : Nat := 0
def tw6649606087999595559 : Nat := 0
def tw1416478449611558982 : Nat := 0
def tw16786579118838988428 : Nat := 0
def tw14428207200436205092 : Nat := 0
def tw3935680874474489429 : Nat := 0
def tw5112386392967189723 : Nat := 0
def tw6192342801924670570 : Nat := 0
def tw14191490426774756591 : Nat := 0
def tw2355159053930334282 : Nat := 0
def tw6947130911979291452 : Nat := 0
def tw12100381304201264447 : Nat := 0
def tw10223063017516170931 : Nat := 0
def tw5019873222023600127 : Nat := 0
def tw16401392288960943093 : Nat := 0
def tw7088660318886017438 : Nat := 0
def tw5856973370906594767 : Nat := 0
def tw4243800829854775249 : Nat := 0
def tw13437620670060001724 : Nat := 0
def tw1999303399602114084 : Nat := 0
def tw4406183121640690751 : Nat := 0
def tw10924299997341541419 : Nat := 0
def tw11026245413672417755 : Nat := 0
def tw11616644453430685881 : Nat := 0
def tw14932167015847522289 : Nat := 0
def tw3384218318750673817 : Nat := 0
def tw6899865764438162367 : Nat := 0
def tw12388970307591195135 : Nat := 0
def tw7493759128926655226 : Nat := 0
def tw13305645293421586595 : Nat := 0
def tw8257451880337219538 : Nat := 0
def tw8943842603543152446 : Nat := 0
def tw9664275507389990568 : Nat := 0
def tw395524260952203335 : Nat := 0
def tw9965873728914059843 : Nat := 0
def tw13624108425597903484 : Nat := 0
def tw10582916488041732255 : Nat := 0
def tw6258587983172140869 : Nat := 0
def tw9082711397336305254 : Nat := 0
def tw6167743778904879527 : Nat := 0
def tw5165438071756452526 : Nat := 0
def tw13087529948441121599 : Nat := 0
def tw17559970431228666112 : Nat := 0
def tw2116202556783231894 : Nat := 0
def tw16870555613143975768 : Nat := 0
def tw10323142628450955570 : Nat := 0
def tw8266285806769578714 : Nat := 0
def tw11368697879614598803 : Nat := 0
def tw7019731509223057992 : Nat := 0
def tw15454119551682933754 : Nat := 0
def tw9321524085937310778 : Nat := 0
def tw15952965727903962004 : Nat := 0
def tw9257109997459759126 : Nat := 0
def tw2533912330701903528 : Nat := 0
def tw5441736626895494252 : Nat := 0
def tw13570743539553958662 : Nat := 0
def tw12356098487423167783 : Nat := 0
def tw5934062377353462263 : Nat := 0
def tw11556543786133068772 : Nat := 0
def tw3711170283087512948 : Nat := 0
def tw12438301764649208512 : Nat := 0
def tw10710974365845708190 : Nat := 0
def tw3929765870492322969 : Nat := 0
def tw8481534038536755 : Nat := 0
def tw4882122634204573930 : Nat := 0
def tw898997563651226757 : Nat := 0
def tw10978510017550936275 : Nat := 0
def tw12244657981430735434 : Nat := 0
def tw16010142376132122987 : Nat := 0
def tw11139541168353187853 : Nat := 0
def tw10537245287084197066 : Nat := 0
def tw18443346444012910974 : Nat := 0
def tw18402945178765112309 : Nat := 0
def tw5465706769883818579 : Nat := 0
def tw7680518443330729331 : Nat := 0
def tw11710057593200277950 : Nat := 0
def tw12670422162909458591 : Nat := 0
def tw18234000449132995192 : Nat := 0
def tw15188783857757411712 : Nat := 0
def tw16962106692078479173 : Nat := 0
def tw4095412288800278997 : Nat := 0
def tw17672351997071741304 : Nat := 0
def tw4949706148174539388 : Nat := 0
def tw8762806160112948604 : Nat := 0
def tw8153711832767504397 : Nat := 0
def tw3073170563349898941 : Nat := 0
def tw17741577222101713288 : Nat := 0
def tw4873000428484984658 : Nat := 0
def tw5713294279450556241 : Nat := 0
def tw12876266829088532531 : Nat := 0
def tw10127458563950420898 : Nat := 0
def tw10417018963372858435 : Nat := 0
def tw2511675611225048671 : Nat := 0
def tw2387876016431768678 : Nat := 0
def tw15769078540342136444 : Nat := 0
def tw2020217022169040469 : Nat := 0
def tw8318118191374823700 : Nat := 0
def tw12810119339744953759 : Nat := 0
def tw11647605484657131866 : Nat := 0
def tw7430186510435347657 : Nat := 0
def tw10971927033249614879 : Nat := 0
def tw3705950064491345756 : Nat := 0
def tw12046432550313340986 : Nat := 0
def tw15179067536108896186 : Nat := 0
def tw504588767750905713 : Nat := 0
def tw455119368370732506 : Nat := 0
def tw1308975202451091822 : Nat := 0
def tw14413708282404556818 : Nat := 0
def tw3521200191055831811 : Nat := 0
def tw15754265390739414464 : Nat := 0
def tw7780092738175704163 : Nat := 0
def tw5644822796283150385 : Nat := 0
def tw14125787040881693637 : Nat := 0
def tw10747603240753599628 : Nat := 0
def tw13435758793921156266 : Nat := 0
def tw16119985691250848237 : Nat := 0
def tw6702467527732440066 : Nat := 0
def tw8433073939120068432 : Nat := 0
def tw8054576944336085325 : Nat := 0
def tw3989053634029265766 : Nat := 0
def tw15764115987733241383 : Nat := 0
def tw12864994335827878346 : Nat := 0
def tw1298175657141167285 : Nat := 0
def tw1454700011445575581 : Nat := 0
def tw12561541590816473867 : Nat := 0
def tw9471111493565252253 : Nat := 0
def tw10417466197487942764 : Nat := 0
def tw14211977144892456596 : Nat := 0
def tw12318958283762830619 : Nat := 0
def tw14420166851499998184 : Nat := 0
def tw5863254365424174000 : Nat := 0
def tw123325435414567932 : Nat := 0
def tw2941404784269848973 : Nat := 0
def tw17494169942777836089 : Nat := 0
def tw12859082925745318871 : Nat := 0
def tw712849512873835511 : Nat := 0
def tw2096580247576218513 : Nat := 0
def tw3831573279487503754 : Nat := 0
def tw900351494179476233 : Nat := 0
def tw10963920514886158344 : Nat := 0
def tw18018545873130410509 : Nat := 0
def tw15171231101100926341 : Nat := 0
def tw11527547966884905505 : Nat := 0
def tw11755967137090451489 : Nat := 0
def tw14416502525527226712 : Nat := 0
def tw17041934266074618829 : Nat := 0
def tw8250327730323077156 : Nat := 0
def tw16328538500308329214 : Nat := 0
def tw16823697822850773136 : Nat := 0
def tw17834833429539229296 : Nat := 0
def tw8291616488081085434 : Nat := 0
def tw7706621004598949551 : Nat := 0
def tw17745119472967240085 : Nat := 0
def tw9679012337095551342 : Nat := 0
def tw3908663097832920441 : Nat := 0
def tw11977495862642850759 : Nat := 0
def tw8713213503065577766 : Nat := 0
def tw6965453257251497414 : Nat := 0
def tw15294715893322044332 : Nat := 0
def tw1739444159114265756 : Nat := 0
def tw16709157378841001719 : Nat := 0
def tw11844042897291437296 : Nat := 0
def tw1143812640860304136 : Nat := 0
def tw654081390829013655 : Nat := 0
def tw12304865101275481302 : Nat := 0
def tw9366032720894331936 : Nat := 0
def tw5159757073897811999 : Nat := 0
def tw2013420873454145514 : Nat := 0
def tw3122696055617650067 : Nat := 0
def tw3639137619633254483 : Nat := 0
def tw8302024508696116194 : Nat := 0
def tw5736181962694470309 : Nat := 0
def tw11528171061468216567 : Nat := 0
def tw14389963491993882751 : Nat := 0
def tw9902918788530298007 : Nat := 0
def tw17675860680104704738 : Nat := 0
def tw903904059224772510 : Nat := 0
def tw14878291830345858503 : Nat := 0
def tw2081142464415983987 : Nat := 0
def tw10781107561355648233 : Nat := 0
def tw9553349662774878189 : Nat := 0
def tw2720363302110416222 : Nat := 0
def tw11736260954175215823 : Nat := 0
def tw17424112679343639149 : Nat := 0
def tw17465773305345154262 : Nat := 0
def tw2196546823234150753 : Nat := 0
def tw722649086412187409 : Nat := 0
def tw17652833003663575581 : Nat := 0
def tw914551144735955365 : Nat := 0
def tw5625277088500895505 : Nat := 0
def tw7392370938036659284 : Nat := 0
def tw3353962912286588129 : Nat := 0
def tw4153914922077733838 : Nat := 0
def tw1476913313493384475 : Nat := 0
def tw11111288538652948202 : Nat := 0
def tw15332461091348043292 : Nat := 0
def tw6693290984010741241 : Nat := 0
def tw10739509181417326875 : Nat := 0
def tw17732634211980498982 : Nat := 0
def tw18314734670408989277 : Nat := 0
def tw12205584718452872185 : Nat := 0
def tw16325375210874397412 : Nat := 0
def tw2040664466598632945 : Nat := 0
def tw6268587655806747436 : Nat := 0
def tw16415954813503464678 : Nat := 0
def tw9921156067111662214 : Nat := 0
def tw6241136675997733143 : Nat := 0
def tw8905736649986481134 : Nat := 0
def tw11152775256598980046 : Nat := 0
def tw15342569008105233823 : Nat := 0
def tw3760353058621266983 : Nat := 0
def tw15959866800843065403 : Nat := 0
def tw17194809492351160860 : Nat := 0
def tw16810337209208062617 : Nat := 0
def tw2226721224151456506 : Nat := 0
def tw10952386151168229202 : Nat := 0
def tw15764894984392224673 : Nat := 0
def tw6652655820912884479 : Nat := 0
def tw7690098376359085417 : Nat := 0
def tw10602158281722127868 : Nat := 0
def tw15118026529074906663 : Nat := 0
def tw9506952970510430737 : Nat := 0
def tw10502692922173347504 : Nat := 0
def tw10274368746250670528 : Nat := 0
def tw11447058207586235945 : Nat := 0
def tw14054394913845650834 : Nat := 0
def tw18041522505514353027 : Nat := 0
def tw17476334541271453999 : Nat := 0
def tw14224867609264623817 : Nat := 0
def tw14463693329123704264 : Nat := 0
def tw16810353551460112836 : Nat := 0
def tw7475033095498024755 : Nat := 0
def tw17758312143999506521 : Nat := 0
def tw11153253606846491668 : Nat := 0
def tw11374251126380966336 : Nat := 0
def tw311640871558871742 : Nat := 0
def tw16962345921981493393 : Nat := 0
def tw3965153042004969158 : Nat := 0
def tw15430764852142973307 : Nat := 0
def tw14456604860757531458 : Nat := 0
def tw12834435304086684957 : Nat := 0
def tw12491107085506634154 : Nat := 0
def tw16776445329146743174 : Nat := 0
def tw11641072728922053125 : Nat := 0
def tw1501356738595956567 : Nat := 0
def tw1246865895605519450 : Nat := 0
def tw11520103564820144408 : Nat := 0
def tw16005981619751793751 : Nat := 0
def tw7220079696801929858 : Nat := 0
def tw4105093470634459282 : Nat := 0
def tw17340669499830375852 : Nat := 0
def tw16160884365074673372 : Nat := 0
def tw10917447327010628914 : Nat := 0
def tw3327310826942272755 : Nat := 0
def tw5460501634120162504 : Nat := 0
def tw8403462581110330587 : Nat := 0
def tw6906477898859226608 : Nat := 0
def tw8922527745121374953 : Nat := 0
def tw13535061559761552524 : Nat := 0
def tw11966196106030979300 : Nat := 0
def tw11960304405261296563 : Nat := 0
def tw1577785691595006395 : Nat := 0
def tw9053186910632703104 : Nat := 0
def tw14478084955677431920 : Nat := 0
def tw8534505418319792374 : Nat := 0
def tw11656977848488672172 : Nat := 0
def tw2760073760572499707 : Nat := 0
def tw2216473546012200916 : Nat := 0
def tw158975547465870527 : Nat := 0
def tw8468708889662647849 : Nat := 0
def tw7123002338195777811 : Nat := 0
def tw9114753984160652072 : Nat := 0
def tw13133113755113256950 : Nat := 0
def tw14588934057947924438 : Nat := 0
def tw15228697126313490581 : Nat := 0
def tw14405632570744470162 : Nat := 0
def tw10608050061179841759 : Nat := 0
def tw15874307398199823775 : Nat := 0
def tw16759351903410284317 : Nat := 0
def tw4862296736697902208 : Nat := 0
def tw12864083186482743921 : Nat := 0
def tw7052525109619652103 : Nat := 0
def tw12468890663541333153 : Nat := 0
def tw2545453660048284435 : Nat := 0
def tw14653178177772294046 : Nat := 0
def tw13953770120692238910 : Nat := 0
def tw11547434546434494736 : Nat := 0
def tw16303468105224264359 : Nat := 0
def tw15872465181985188470 : Nat := 0
def tw7109115642134955906 : Nat := 0
def tw8756813914717850038 : Nat := 0
def tw15127115473034972146 : Nat := 0
def tw4391486836658851925 : Nat := 0
def tw862429503373129330 : Nat := 0
def tw6463798338608278568 : Nat := 0
def tw14703568031412873030 : Nat := 0
def tw2223997969742222793 : Nat := 0
def tw16480643495459002468 : Nat := 0
def tw16870668460207837076 : Nat := 0
def tw1083906812426281726 : Nat := 0
def tw13805061717740544544 : Nat := 0
def tw912393666031276381 : Nat := 0
def tw12126660679483301392 : Nat := 0
def tw13463517568893795094 : Nat := 0
def tw10827129299484711170 : Nat := 0
def tw6097943554291386249 : Nat := 0
def tw10003781611090590366 : Nat := 0
def tw7507713081337791266 : Nat := 0
def tw12383440168874299720 : Nat := 0
def tw4389912356799882208 : Nat := 0
def tw10326491515691347300 : Nat := 0
def tw6765801816376705738 : Nat := 0
def tw1424965186553535968 : Nat := 0
def tw4849933754616970273 : Nat := 0
def tw12165675215355682386 : Nat := 0
def tw2786949131553295916 : Nat := 0
def tw8168783849961141071 : Nat := 0
def tw12319411088736512539 : Nat := 0
def tw12544638178069305633 : Nat := 0
def tw10183469618234934000 : Nat := 0
def tw5995253633905156738 : Nat := 0
def tw7161456942564615313 : Nat := 0
def tw18007865194599968764 : Nat := 0
def tw17456323428004382957 : Nat := 0
def tw10933301504849589694 : Nat := 0
def tw17652217514149075306 : Nat := 0
def tw16130752441059321454 : Nat := 0
def tw16566994704406378904 : Nat := 0
def tw6200886738163300787 : Nat := 0
def tw12202932088114911622 : Nat := 0
def tw1434409602471184207 : Nat := 0
def tw17060076503927384554 : Nat := 0
def tw4464444929320679073 : Nat := 0
def tw17358539291487038045 : Nat := 0
def tw5890069387772399194 : Nat := 0
def tw2990368514745235719 : Nat := 0
def tw5693698124768069412 : Nat := 0
def tw10501245608560196036 : Nat := 0
def tw12715903699776718932 : Nat := 0
def tw14244115678415284132 : Nat := 0
def tw7184031599310738262 : Nat := 0
def tw3363690914518477029 : Nat := 0
def tw14013775605245420010 : Nat := 0
def tw790313953937898436 : Nat := 0
def tw6568460888924029416 : Nat := 0
def tw18200077392260464499 : Nat := 0
def tw18425460878732836832 : Nat := 0
def tw7774500449742129578 : Nat := 0
def tw10063403654703340470 : Nat := 0
def tw15443997753345336570 : Nat := 0
def tw2981875517775280448 : Nat := 0
def tw3792243116625876096 : Nat := 0
def tw8734457240145591157 : Nat := 0
def tw17159949725289457337 : Nat := 0
def tw1614309055653654770 : Nat := 0
def tw6757873824083225145 : Nat := 0
def tw11035511184880457426 : Nat := 0
def tw13707273512996687829 : Nat := 0
def tw4495057608092399040 : Nat := 0
def tw138861628047733421 : Nat := 0
def tw17990764224655033567 : Nat := 0
def tw13170230906632298374 : Nat := 0
def tw149211616492711646 : Nat := 0
def tw7015336495933300865 : Nat := 0
def tw3155351597421706145 : Nat := 0
def tw5391534043479038728 : Nat := 0
def tw8945049458663150272 : Nat := 0
def tw6082096997249057803 : Nat := 0
def tw9900431292440401256 : Nat := 0
def tw16088280546916195497 : Nat := 0
def tw5743573748829306842 : Nat := 0
def tw9030280081763079502 : Nat := 0
def tw5085854840181653283 : Nat := 0
def tw3761923512262162576 : Nat := 0
def tw12937597349160826758 : Nat := 0
def tw5032777218921888842 : Nat := 0
def tw1874071810885727597 : Nat := 0
def tw11652370382027145645 : Nat := 0
def tw1041353575427646474 : Nat := 0
def tw6495517854964940006 : Nat := 0
def tw9635167470166031902 : Nat := 0
def tw834944972938997050 : Nat := 0
def tw5598503888163275150 : Nat := 0
def tw2509949668669614558 : Nat := 0
def tw14348593943953683693 : Nat := 0
def tw10699881465943696929 : Nat := 0
def tw4652755145640100279 : Nat := 0
def tw12760876615949428949 : Nat := 0
def tw9785130304794752801 : Nat := 0
def tw9503229128045607750 : Nat := 0
def tw8734382895006306708 : Nat := 0
def tw14705409544095991364 : Nat := 0
def tw4814661883543436305 : Nat := 0
def tw14948086432469990380 : Nat := 0
def tw10857917264357937757 : Nat := 0
def tw15790256476026249177 : Nat := 0
def tw10874255645060036696 : Nat := 0
def tw6086652399499489144 : Nat := 0
def tw7651669882647538993 : Nat := 0
def tw14198553667149537280 : Nat := 0
def tw13335353127915436960 : Nat := 0
def tw4228616940272686753 : Nat := 0
def tw7042114316189058679 : Nat := 0
def tw2035893978421347714 : Nat := 0
def tw8095653866393913909 : Nat := 0
def tw6420007669624554357 : Nat := 0
def tw8370942304742545143 : Nat := 0
def tw8852691709170548321 : Nat := 0
def tw15031602248465363423 : Nat := 0
def tw13572095437529742208 : Nat := 0
def tw9124301489240704763 : Nat := 0
def tw6926141427701035965 : Nat := 0
def tw6419278020861096465 : Nat := 0
def tw7611119393163966638 : Nat := 0
def tw6676454960391162821 : Nat := 0
def tw1848589402799986671 : Nat := 0
def tw14323926746371395491 : Nat := 0
def tw18128402684998774113 : Nat := 0
def tw6588878660738302703 : Nat := 0
def tw6306725443520595823 : Nat := 0
def tw13769220204864695092 : Nat := 0
def tw7773662230484532179 : Nat := 0
def tw14247413731294913180 : Nat := 0
def tw9776466891847154511 : Nat := 0
def tw11698640926942241894 : Nat := 0
def tw9125009321348264237 : Nat := 0
def tw13898749952726664215 : Nat := 0
def tw14990093932570029515 : Nat := 0
def tw17276685622666186239 : Nat := 0
def tw9976466399392554013 : Nat := 0
def tw5960253547071160195 : Nat := 0
def tw17392191253513601436 : Nat := 0
def tw17603199841405327178 : Nat := 0
def tw16896436545476349175 : Nat := 0
def tw15674962469296205306 : Nat := 0
def tw18355303825705338729 : Nat := 0
def tw10752054907096344069 : Nat := 0
def tw15534214470052858004 : Nat := 0
def tw2999255391135564689 : Nat := 0
def tw16367197514223993887 : Nat := 0
def tw10284227762709152058 : Nat := 0
def tw8564460147817033839 : Nat := 0
def tw2911607562162239916 : Nat := 0
def tw4079532107367149034 : Nat := 0
def tw13149181151303653813 : Nat := 0
def tw6125156415817618591 : Nat := 0
def tw15268716321565490309 : Nat := 0
def tw6213357444943470424 : Nat := 0
def tw8209782688442132034 : Nat := 0
def tw12535918544850610668 : Nat := 0
def tw3464381788722579061 : Nat := 0
def tw16867064944903176042 : Nat := 0
def tw11359316186334536929 : Nat := 0
def tw10045030391751406209 : Nat := 0
def tw3861639816276595230 : Nat := 0
def tw17281416849323961886 : Nat := 0
def tw6252286598111441020 : Nat := 0
def tw1958305822309368848 : Nat := 0
def tw1609654483721667937 : Nat := 0
def tw4529544325388592008 : Nat := 0
def tw16928134099525799828 : Nat := 0
def tw7406978232358473908 : Nat := 0
def tw4840940314473119612 : Nat := 0
def tw8729583795994818254 : Nat := 0
def tw5915040424431401655 : Nat := 0
def tw7220430634679821507 : Nat := 0
def tw1716253099671498926 : Nat := 0
def tw14625540730541381188 : Nat := 0
def tw11193064716126733729 : Nat := 0
def tw5923775460399266285 : Nat := 0
def tw17358420760156944414 : Nat := 0
def tw9466638769345750765 : Nat := 0
def tw10980388703653964550 : Nat := 0
def tw9245628324480363217 : Nat := 0
def tw16595024404892217600 : Nat := 0
def tw44958444775409 : Nat := 0
def tw8507643243771479352 : Nat := 0
def tw6835943792356632613 : Nat := 0
def tw1844142374305836968 : Nat := 0
def tw12090088582037143298 : Nat := 0
def tw7280973937343193008 : Nat := 0
def tw14080828255186657402 : Nat := 0
def tw7979413336429507176 : Nat := 0
def tw1228038954076576977 : Nat := 0
def tw252257697966000421 : Nat := 0
def tw13015909171973082481 : Nat := 0
def tw3606707673387950079 : Nat := 0
def tw5002428583035882599 : Nat := 0
def tw11063977497121903884 : Nat := 0
def tw3172715451805155514 : Nat := 0
def tw17063783106544812833 : Nat := 0
def tw8250572357868418167 : Nat := 0
def tw4526472908064588323 : Nat := 0
def tw7887796611489850334 : Nat := 0
def tw11230432772531649056 : Nat := 0
def tw15240426996822888060 : Nat := 0
def tw10583193460204741432 : Nat := 0
def tw7989810112442511770 : Nat := 0
def tw12179000373182990622 : Nat := 0
def tw8217463043410460493 : Nat := 0
def tw2215283318729902876 : Nat := 0
def tw3915636813225482579 : Nat := 0
def tw4974042484253400850 : Nat := 0
def tw9714278711829105329 : Nat := 0
def tw18357167105887884646 : Nat := 0
def tw5021370160224175223 : Nat := 0
def tw14429809029725262851 : Nat := 0
def tw13067778166087327032 : Nat := 0
def tw9036877137395928405 : Nat := 0
def tw5299594620715687200 : Nat := 0
def tw5132271389234197381 : Nat := 0
def tw18178123675248871515 : Nat := 0
def tw5178980705841133993 : Nat := 0
def tw9657511587159389382 : Nat := 0
def tw17207264274771876243 : Nat := 0
def tw15057010857871085145 : Nat := 0
def tw303516470410198821 : Nat := 0
def tw11669746532258485780 : Nat := 0
def tw15507918222598549485 : Nat := 0
def tw4666767332002818814 : Nat := 0
def tw6245201036821279063 : Nat := 0
def tw5597145737224600870 : Nat := 0
def tw13247089809178259242 : Nat := 0
def tw12292733918164382272 : Nat := 0
def tw15130663518282013164 : Nat := 0
def tw4579521208387824463 : Nat := 0
def tw11316353209481895258 : Nat := 0
def tw466106401051749390 : Nat := 0
def tw8171976319590767676 : Nat := 0
def tw3538848560163854972 : Nat := 0
def tw14821340755746312614 : Nat := 0
def tw16310852087169324480 : Nat := 0
def tw7524843425783271709 : Nat := 0
def tw14547496127278570112 : Nat := 0
def tw5435234112018497507 : Nat := 0
def tw5020774845606782261 : Nat := 0
def tw10500284873045311855 : Nat := 0
def tw5555298400502157961 : Nat := 0
def tw6361308025497050763 : Nat := 0
def tw8785271337643655851 : Nat := 0
def tw6359295509901872994 : Nat := 0
def tw4128169157249911580 : Nat := 0
def tw2418842810136598213 : Nat := 0
def tw15203469871251803729 : Nat := 0
def tw5532699869683995304 : Nat := 0
def tw15588908742799680991 : Nat := 0
def tw10424994303081857033 : Nat := 0
def tw3028422138495940928 : Nat := 0
def tw15982972902768048302 : Nat := 0
def tw438441590620191001 : Nat := 0
def tw15765764609606262243 : Nat := 0
def tw4269267939052799689 : Nat := 0
def tw994526523222063927 : Nat := 0
def tw15839638503368888046 : Nat := 0
def tw6205488349264996197 : Nat := 0
def tw7852177390190416087 : Nat := 0
def tw15376504935728909785 : Nat := 0
def tw2736752979941192391 : Nat := 0
def tw15957188095363385435 : Nat := 0
def tw14221731749864598510 : Nat := 0
def tw3123062819776692640 : Nat := 0
def tw17491626686948798489 : Nat := 0
def tw408297708731322259 : Nat := 0
def tw13643487106214374021 : Nat := 0
def tw10624373108431975038 : Nat := 0
def tw3609160706486747966 : Nat := 0
def tw11671651317848076710 : Nat := 0
def tw9246598665973081024 : Nat := 0
def tw5850692209593243546 : Nat := 0
def tw2828361475736566369 : Nat := 0
def tw14748097801963585596 : Nat := 0
def tw6164853230338974352 : Nat := 0
def tw12830238093817502919 : Nat := 0
def tw7648340212361675988 : Nat := 0
def tw13525336141513371998 : Nat := 0
def tw9199639306686783361 : Nat := 0
def tw17585667282931743217 : Nat := 0
def tw3355130699403003967 : Nat := 0
def tw10400851497185073376 : Nat := 0
def tw17586162018984145648 : Nat := 0
def tw6344158402101665457 : Nat := 0
def tw7425606975335202330 : Nat := 0
def tw2785889163494514006 : Nat := 0
def tw8222029164264040200 : Nat := 0
def tw1107041074294597987 : Nat := 0
def tw2327318582388404513 : Nat := 0
def tw10962143125512221486 : Nat := 0
def tw3760036774955051387 : Nat := 0
def tw17652937081205202487 : Nat := 0
def tw10813764283477788644 : Nat := 0
def tw4892748566378591654 : Nat := 0
def tw4549446860124864472 : Nat := 0
def tw3296249357919173518 : Nat := 0
def tw399254954043515590 : Nat := 0
def tw5546888702903720374 : Nat := 0
def tw16048560962114215962 : Nat := 0
def tw594001810153434184 : Nat := 0
def tw15855271474651126383 : Nat := 0
def tw14629747284511412969 : Nat := 0
def tw7696452620559176181 : Nat := 0
def tw10847966931475382039 : Nat := 0
def tw16499304502550686814 : Nat := 0
def tw3765096626787899808 : Nat := 0
def tw6844517303898397721 : Nat := 0
def tw14865289754041437088 : Nat := 0
def tw15264625230158396000 : Nat := 0
def tw926874653006211328 : Nat := 0
def tw18369511484243230167 : Nat := 0
def tw14067874790135591822 : Nat := 0
def tw16477624800409912820 : Nat := 0
def tw862689765443038026 : Nat := 0
def tw3977480676399798318 : Nat := 0
def tw8599627382672751266 : Nat := 0
def tw14960357566251644138 : Nat := 0
def tw900159464046375529 : Nat := 0
def tw6040535146133271631 : Nat := 0
def tw5914528242050342595 : Nat := 0
def tw2593984731474442853 : Nat := 0
def tw2621362524793404096 : Nat := 0
def tw10948270364913357524 : Nat := 0
def tw4346276774975318543 : Nat := 0
def tw17347899762900288453 : Nat := 0
def tw13368189640293904165 : Nat := 0
def tw4798061734141537596 : Nat := 0
def tw1777629073834506076 : Nat := 0
def tw4940732897895164308 : Nat := 0
def tw12828559153832107198 : Nat := 0
def tw3219266022969804006 : Nat := 0
def tw16948284860594535490 : Nat := 0
def tw6410265556553029828 : Nat := 0
def tw14698320388168298997 : Nat := 0
def tw1134957678378882079 : Nat := 0
def tw10204558470196398202 : Nat := 0
def tw5704009018463065020 : Nat := 0
def tw11215631415947323969 : Nat := 0
def tw12611586303326505670 : Nat := 0
def tw17117023461263289754 : Nat := 0
def tw1425432635029291077 : Nat := 0
def tw7637870494981037155 : Nat := 0
def tw9457204380497949167 : Nat := 0
def tw17713740934917309128 : Nat := 0
def tw2509375020293388745 : Nat := 0
def tw4158288026258151615 : Nat := 0
def tw11236058881994931195 : Nat := 0
def tw16593200686669529739 : Nat := 0
def tw2487583069004891140 : Nat := 0
def tw15494828841961100013 : Nat := 0
def tw4002483992215316772 : Nat := 0
def tw4596864003944259705 : Nat := 0
def tw3448907996042196015 : Nat := 0
def tw12540575990654616594 : Nat := 0
def tw9311348164963593380 : Nat := 0
def tw4749116173883880661 : Nat := 0
def tw1951374385834758850 : Nat := 0
def tw8133363303063455248 : Nat := 0
def tw4904004264537494321 : Nat := 0
def tw12780296492899433595 : Nat := 0
def tw10280097572847040251 : Nat := 0
def tw5323374019607357729 : Nat := 0
def tw2821205428063776633 : Nat := 0
def tw16898116031899847040 : Nat := 0
def tw17827929286703022471 : Nat := 0
def tw15040441746369398490 : Nat := 0
def tw8291982574193665499 : Nat := 0
def tw16332808452159481428 : Nat := 0
def tw17380882019034323787 : Nat := 0
def tw6516641128967492474 : Nat := 0
def tw8206288472391917390 : Nat := 0
def tw16424278779116008658 : Nat := 0
def tw12896611304274128202 : Nat := 0
def tw8949646866349603083 : Nat := 0
def tw14854381724912849789 : Nat := 0
def tw15386842832178311769 : Nat := 0
def tw6415451984053529415 : Nat := 0
def tw15464008947102643632 : Nat := 0
def tw6531771398084081851 : Nat := 0
def tw8942015852071867029 : Nat := 0
def tw9164647031326773979 : Nat := 0
def tw11965566971579079011 : Nat := 0
def tw8002283910924465980 : Nat := 0
def tw9826562360957248954 : Nat := 0
def tw10691005365000441175 : Nat := 0
def tw10733176605318640256 : Nat := 0
def tw15684632190935332313 : Nat := 0
def tw16098348837115382165 : Nat := 0
def tw15355779398367141143 : Nat := 0
def tw11982574819390345256 : Nat := 0
def tw12270400819116114405 : Nat := 0
def tw4741398960684487306 : Nat := 0
def tw8341709932924892182 : Nat := 0
def tw2141896987046812932 : Nat := 0
def tw6810779923694145212 : Nat := 0
def tw11078598580366693394 : Nat := 0
def tw1247476586472379629 : Nat := 0
def tw6468252300457656193 : Nat := 0
def tw15041964314863023525 : Nat := 0
def tw228148184024689220 : Nat := 0
def tw7099854686071775399 : Nat := 0
def tw7530968120925269819 : Nat := 0
def tw12787316609478562919 : Nat := 0
def tw15985021754806325347 : Nat := 0
def tw15299591704504851981 : Nat := 0
def tw9719340571773690596 : Nat := 0
def tw14987904545408792024 : Nat := 0
def tw2159116949171464274 : Nat := 0
def tw5950511135337245716 : Nat := 0
def tw16600542997089379971 : Nat := 0
def tw17177214571260132920 : Nat := 0
def tw7088709264318608607 : Nat := 0
def tw13318307153414234085 : Nat := 0
def tw977707212351743960 : Nat := 0
def tw13070156783486946591 : Nat := 0
def tw13310305270422859375 : Nat := 0
def tw3159111851167028539 : Nat := 0
def tw5497061302931148799 : Nat := 0
end PySem.W.Fast
open PySem PySem.W PyProof.Rows
set_option maxHeartbeats 0 in
theorem PySem.Challenge.cw_stagedrounding_k57_texts_of_no_number_or_holds : PySem.Challenge.rw_stagedrounding_k57_texts_of_no_number_or.Holds := by
  w_on; o_law; k_head; (case hw => w_witness2)
  k_fill
  refine Z.end_of (l := PySem.Challenge.rw_stagedrounding_k57_texts_of_no_number_or) (n := 63) (k := 10) (x := "_law_script") (fs := LAW.fs_law) rfl (by decide) rfl ⟨rfl, by decide, by decide⟩ (fun w h Y => PySem.W.km_in_of Y) ?Fu LAW.law_true
  case Fu =>
    intro w mg fa h Y KX G hmg
    refine' LAW.all_mk KX G hmg ?a0 ?i0 ?l0 ?c0 ?k0 ?a1 ?i1 ?l1 ?c1 ?k1 ?a2 ?i2 ?l2 ?c2 ?k2 ?a3 ?l3 ?c3 ?k3 ?a4 ?l4 ?c4 ?k4 ?a5 ?l5 ?c5 ?k5 ?a6 ?l6 ?c6 ?k6 ?a7 ?l7 ?c7 ?k7 ?a8 ?l8 ?c8 ?k8 ?a9 ?l9 ?c9 ?k9 ?a10 ?l10 ?c10 ?k10 ?a11 ?l11 ?c11 ?k11 ?a12 ?l12 ?c12 ?k12 ?a13 ?l13 ?c13 ?k13 ?a14 ?l14 ?c14 ?k14 ?a15 ?l15 ?c15 ?k15 ?a16 ?l16 ?c16 ?k16 ?a17 ?l17 ?c17 ?k17 ?a18 ?l18 ?c18 ?k18 ?a19 ?l19 ?c19 ?k19 ?a20 ?l20 ?c20 ?k20 ?a21 ?l21 ?c21 ?k21 ?a22 ?l22 ?c22 ?k22 ?a23 ?l23 ?c23 ?k23 ?a24 ?l24 ?c24 ?k24 ?a25 ?l25 ?c25 ?k25 ?a26 ?l26 ?c26 ?k26 ?a27 ?l27 ?c27 ?k27 ?a28 ?l28 ?c28 ?k28 ?a29 ?l29 ?c29 ?k29 ?a30 ?l30 ?c30 ?k30 ?a31 ?l31 ?c31 ?k31 ?a32 ?l32 ?c32 ?k32 ?a33 ?l33 ?c33 ?k33 ?a34 ?l34 ?c34 ?k34 ?a35 ?l35 ?c35 ?k35 ?a36 ?l36 ?c36 ?k36 ?a37 ?l37 ?c37 ?k37 ?a38 ?l38 ?c38 ?k38 ?a39 ?l39 ?c39 ?k39 ?z_abs ?z_all ?z_bool ?z_int ?z_isinstance ?z_len ?z_list ?z_max ?z_min ?z_range ?z_repr ?z_sorted ?z_str ?z_tuple ?y_BETWEEN_STEPS ?y_DIGITS ?y_MOST_STEPS ?y_MOST_WIDTH ?y_PAIR_cells ?y_PAIR_chains ?y_RULES ?x_RULES ?y_SLASH ?y_SPACE ?y_RE ?eg_RE ?er_RE ?ei_RE ?ex_RE ?et_RE ?eu_RE ?en_X ?eo_X ?y_InvalidChain ?ex_InvalidChain ?et_InvalidChain ?ek_InvalidChain ?eu_InvalidChain ?ec_InvalidChain ?em_InvalidChain ?es_InvalidChain ?ev_InvalidChain ?eb_InvalidChain ?ed_InvalidChain ?ei_InvalidChain ?ep_InvalidChain ?kt_InvalidChain_InvalidChain ?kt_InvalidChain_InvalidNumber ?kt_InvalidChain_InvalidText ?ka_InvalidChain_InvalidNumber_InvalidChain ?sb_InvalidChain_RoundingError ?y_InvalidNumber ?ex_InvalidNumber ?et_InvalidNumber ?ek_InvalidNumber ?eu_InvalidNumber ?ec_InvalidNumber ?em_InvalidNumber ?es_InvalidNumber ?ev_InvalidNumber ?eb_InvalidNumber ?ed_InvalidNumber ?ei_InvalidNumber ?ep_InvalidNumber ?kt_InvalidNumber_InvalidChain ?kt_InvalidNumber_InvalidNumber ?kt_InvalidNumber_InvalidText ?ka_InvalidNumber_InvalidNumber_InvalidChain ?sb_InvalidNumber_RoundingError ?y_InvalidText ?ex_InvalidText ?et_InvalidText ?ek_InvalidText ?eu_InvalidText ?ec_InvalidText ?em_InvalidText ?es_InvalidText ?ev_InvalidText ?eb_InvalidText ?ed_InvalidText ?ei_InvalidText ?ep_InvalidText ?kt_InvalidText_InvalidChain ?kt_InvalidText_InvalidNumber ?kt_InvalidText_InvalidText ?ka_InvalidText_InvalidNumber_InvalidChain ?sb_InvalidText_RoundingError ?u_tab0 ?y_tab0 ?t_tab0 ?d_tab0 ?n_tab0
    (case y_RE => k_is); (case y_InvalidChain => k_is); (case y_InvalidNumber => k_is); (case y_InvalidText => k_is); (case a0 => k_is); (case i0 => k_is); (case l0 => k_is); (case c0 => k_is); (case k0 => k_is); (case a1 => k_is); (case i1 => k_is); (case l1 => k_is); (case c1 => k_is); (case k1 => k_is); (case a2 => k_is); (case i2 => k_is); (case l2 => k_is); (case c2 => k_is); (case k2 => k_is); (case a3 => k_is); (case l3 => k_is); (case c3 => k_is); (case k3 => k_is); (case a4 => k_is); (case l4 => k_is); (case c4 => k_is); (case k4 => k_is); (case a5 => k_is); (case l5 => k_is); (case c5 => k_is); (case k5 => k_is); (case a6 => k_is); (case l6 => k_is); (case c6 => k_is); (case k6 => k_is); (case a7 => k_is); (case l7 => k_is); (case c7 => k_is); (case k7 => k_is); (case a8 => k_is); (case l8 => k_is); (case c8 => k_is); (case k8 => k_is); (case a9 => k_is); (case l9 => k_is); (case c9 => k_is); (case k9 => k_is); (case a10 => k_is); (case l10 => k_is); (case c10 => k_is); (case k10 => k_is); (case a11 => k_is); (case l11 => k_is); (case c11 => k_is); (case k11 => k_is); (case a12 => k_is); (case l12 => k_is); (case c12 => k_is); (case k12 => k_is); (case a13 => k_is); (case l13 => k_is); (case c13 => k_is); (case k13 => k_is); (case a14 => k_is); (case l14 => k_is); (case c14 => k_is); (case k14 => k_is); (case a15 => k_is); (case l15 => k_is); (case c15 => k_is); (case k15 => k_is); (case a16 => k_is); (case l16 => k_is); (case c16 => k_is); (case k16 => k_is); (case a17 => k_is); (case l17 => k_is); (case c17 => k_is); (case k17 => k_is); (case a18 => k_is); (case l18 => k_is); (case c18 => k_is); (case k18 => k_is); (case a19 => k_is); (case l19 => k_is); (case c19 => k_is); (case k19 => k_is); (case a20 => k_is); (case l20 => k_is); (case c20 => k_is); (case k20 => k_is); (case a21 => k_is); (case l21 => k_is); (case c21 => k_is); (case k21 => k_is); (case a22 => k_is); (case l22 => k_is); (case c22 => k_is); (case k22 => k_is); (case a23 => k_is); (case l23 => k_is); (case c23 => k_is); (case k23 => k_is); (case a24 => k_is); (case l24 => k_is); (case c24 => k_is); (case k24 => k_is); (case a25 => k_is); (case l25 => k_is); (case c25 => k_is); (case k25 => k_is); (case a26 => k_is); (case l26 => k_is); (case c26 => k_is); (case k26 => k_is); (case a27 => k_is); (case l27 => k_is); (case c27 => k_is); (case k27 => k_is); (case a28 => k_is); (case l28 => k_is); (case c28 => k_is); (case k28 => k_is); (case a29 => k_is); (case l29 => k_is); (case c29 => k_is); (case k29 => k_is); (case a30 => k_is); (case l30 => k_is); (case c30 => k_is); (case k30 => k_is); (case a31 => k_is); (case l31 => k_is); (case c31 => k_is); (case k31 => k_is); (case a32 => k_is); (case l32 => k_is); (case c32 => k_is); (case k32 => k_is); (case a33 => k_is); (case l33 => k_is); (case c33 => k_is); (case k33 => k_is); (case a34 => k_is); (case l34 => k_is); (case c34 => k_is); (case k34 => k_is); (case a35 => k_is); (case l35 => k_is); (case c35 => k_is); (case k35 => k_is); (case a36 => k_is); (case l36 => k_is); (case c36 => k_is); (case k36 => k_is); (case a37 => k_is); (case l37 => k_is); (case c37 => k_is); (case k37 => k_is); (case a38 => k_is); (case l38 => k_is); (case c38 => k_is); (case k38 => k_is); (case a39 => k_is); (case l39 => k_is); (case c39 => k_is); (case k39 => k_is); (case z_abs => k_is); (case z_all => k_is); (case z_bool => k_is); (case z_int => k_is); (case z_isinstance => k_is); (case z_len => k_is); (case z_list => k_is); (case z_max => k_is); (case z_min => k_is); (case z_range => k_is); (case z_repr => k_is); (case z_sorted => k_is); (case z_str => k_is); (case z_tuple => k_is); (case y_BETWEEN_STEPS => k_is); (case y_DIGITS => k_is); (case y_MOST_STEPS => k_is); (case y_MOST_WIDTH => k_is); (case y_PAIR_cells => k_is); (case y_PAIR_chains => k_is); (case y_RULES => k_is); (case x_RULES => k_is); (case y_SLASH => k_is); (case y_SPACE => k_is); (case eg_RE => k_is); (case er_RE => k_is); (case ei_RE => k_is); (case ex_RE => k_is); (case et_RE => k_is); (case eu_RE => k_is); (case en_X => k_is); (case eo_X => k_is); (case ex_InvalidChain => k_is); (case et_InvalidChain => k_is); (case ek_InvalidChain => k_is); (case eu_InvalidChain => k_is); (case ec_InvalidChain => k_is); (case es_InvalidChain => k_is); (case ev_InvalidChain => k_is); (case eb_InvalidChain => k_is); (case ed_InvalidChain => k_is); (case ei_InvalidChain => k_is); (case ep_InvalidChain => k_is); (case sb_InvalidChain_RoundingError => k_is); (case ex_InvalidNumber => k_is); (case et_InvalidNumber => k_is); (case ek_InvalidNumber => k_is); (case eu_InvalidNumber => k_is); (case ec_InvalidNumber => k_is); (case es_InvalidNumber => k_is); (case ev_InvalidNumber => k_is); (case eb_InvalidNumber => k_is); (case ed_InvalidNumber => k_is); (case ei_InvalidNumber => k_is); (case ep_InvalidNumber => k_is); (case sb_InvalidNumber_RoundingError => k_is); (case ex_InvalidText => k_is); (case et_InvalidText => k_is); (case ek_InvalidText => k_is); (case eu_InvalidText => k_is); (case ec_InvalidText => k_is); (case es_InvalidText => k_is); (case ev_InvalidText => k_is); (case eb_InvalidText => k_is); (case ed_InvalidText => k_is); (case ei_InvalidText => k_is); (case ep_InvalidText => k_is); (case sb_InvalidText_RoundingError => k_is); (case em_InvalidChain => rfl); (case em_InvalidNumber => rfl); (case em_InvalidText => rfl); (case u_tab0 => rfl); (case y_tab0 => exact PySem.W.km_tabs_of Y _ (List.Mem.head _)); (case kt_InvalidChain_InvalidChain => kernel_rfl); (case kt_InvalidChain_InvalidNumber => kernel_rfl); (case kt_InvalidChain_InvalidText => kernel_rfl); (case ka_InvalidChain_InvalidNumber_InvalidChain => kernel_rfl); (case kt_InvalidNumber_InvalidChain => kernel_rfl); (case kt_InvalidNumber_InvalidNumber => kernel_rfl); (case kt_InvalidNumber_InvalidText => kernel_rfl); (case ka_InvalidNumber_InvalidNumber_InvalidChain => kernel_rfl); (case kt_InvalidText_InvalidChain => kernel_rfl); (case kt_InvalidText_InvalidNumber => kernel_rfl); (case kt_InvalidText_InvalidText => kernel_rfl); (case ka_InvalidText_InvalidNumber_InvalidChain => kernel_rfl); (case t_tab0 => kernel_rfl); (case d_tab0 => kernel_rfl); (case n_tab0 => kernel_rfl)
