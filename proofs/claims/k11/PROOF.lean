import PyProof.Rows.All
import HandS.ForMost
import HandS.Evl
import HandS.IsInst
import HandS.Wide
import HandS.WideBits
import HandS.Zip
import HandS.Flow
import HandS.TupAny
import HandS.Exc
import HandS.Lambda
import HandS.Style
import HandS.Walk
import HandS.Rev
import HandS.RaiseMore
import KE.KNestM
import HandS.WideMore
import PyProof.ReprLen
import PyProof.ReprRoads
import HandS.Conv
import HandS.More
import HandS.HeadHook3
import KE.SortData
import PyProof.ListMulAny
import HandS.Deep
import KE.KDictZip
import PyProof.ListNew
import KE.GoesEnum
import HandS.Iter
import HandS.Text
import KE.DataCmp
import PyProof.LongRange
import HandS.NoneIn
import HandS.SetFor
import HandS.Strs
import HandS.TupMul
import HandS.ExcInit
import HandS.ExcOwn
import HandS.FStr
import HandS.TryMany
import HandS.ExcField
import HandS.ExcIs
import KE.KExcIs
import HandS.WrittenGet
import KE.GoesZip
import KE.GoesMore
import PySem.Challenge.RW_stagedrounding_k11_exceptions_made_by_ha
set_option Elab.async false
set_option linter.all false
set_option maxRecDepth 100000
set_option maxHeartbeats 4000000
set_option autoImplicit false
namespace Z
open L2 PySem PySem.Spec PyProof.Rows
open Evl (Ex ex_l ex_t ex_rd fresh_back)
abbrev Da := PyData
abbrev Fg := PySem.W.Frag
def keyD : Key → Da
  | .inl i => .int i
  | .inr x => .str x
/-- an exception that was caught, at a -/
def exT (a : Addr) (cls : Value) (d : Option Addr) : HO := .ext fun h => ∃ (oe : Obj) (vs : Array Value), h.get? a = some oe ∧ Zc cls d oe ∧ oe.data = .fields vs
/-- a mark that no datum of a program bears: it may not be shown -/
def bigX : Int := 2 ^ 1930
/-- an exception, written as a datum -/
def xcD (nm : Str) : Option Da → Da
  | some z => .dict [(.none, .tuple [.int bigX, .str nm, z])]
  | none => .dict [(.none, .tuple [.int bigX, .str nm])]
mutual
inductive Rp (K : Fg) (F : Hp) : V → Da → Prop
  | non : Rp K F .non .none
  | bl (b : Bool) : Rp K F (.bl b) (.bool b)
  | int (i : Int) : Rp K F (.int i) (.int i)
  | str (x : Str) : Rp K F (.str x) (.str x)
  | lst {a : Addr} {xs : List V} {ds : List Da} : F a = some (.lst xs) → Rps K F xs ds → Rp K F (.ref a) (.list ds)
  | tup {a : Addr} {xs : List V} {ds : List Da} : SqT K F a xs → Rps K F xs ds → Rp K F (.ref a) (.tuple ds)
  | dct {a : Addr} {kvs : List (Key × V)} {es : List (Da × Da)} : Rd F a (.dK kvs) → RpK K F kvs es → Rp K F (.ref a) (.dict es)
  | xc {a C x : Addr} {u : V} {nm : Str} {z : Da} : F a = some (exT a (.ref C) (some x)) → PySem.W.nsIn K mainGlobals nm = some (some (.ref C)) → F x = some (.xd [("value", u)]) → Rp K F u z → Rp K F (.ref a) (.dict [(.none, .tuple [.int bigX, .str nm, z])])
  | x0 {a C : Addr} {nm : Str} : F a = some (exT a (.ref C) none) → PySem.W.nsIn K mainGlobals nm = some (some (.ref C)) → Rp K F (.ref a) (.dict [(.none, .tuple [.int bigX, .str nm])])
inductive Rps (K : Fg) (F : Hp) : List V → List Da → Prop
  | nil : Rps K F [] []
  | cons {v : V} {vs : List V} {d : Da} {ds : List Da} : Rp K F v d → Rps K F vs ds → Rps K F (v :: vs) (d :: ds)
inductive RpK (K : Fg) (F : Hp) : List (Key × V) → List (Da × Da) → Prop
  | nil : RpK K F [] []
  | cons {k : Key} {v : V} {vs : List (Key × V)} {d : Da} {ds : List (Da × Da)} : Rp K F v d → RpK K F vs ds → RpK K F ((k, v) :: vs) ((keyD k, d) :: ds)
end
section
variable {K : Fg} {F F' : Hp}
mutual
theorem Rp.mono (e : Ex F F') : ∀ (d : Da) (v : V), Rp K F v d → Rp K F' v d
  | .none, _, h => by cases h; exact .non
  | .bool b, _, h => by cases h; exact .bl b
  | .int i, _, h => by cases h; exact .int i
  | .str x, _, h => by cases h; exact .str x
  | .list ds, _, h => by cases h with | lst hs ha => exact .lst (e _ _ hs) (Rps.mono e ds _ ha)
  | .tuple ds, _, h => by cases h with | tup hs ha => exact .tup (ex_t e hs) (Rps.mono e ds _ ha)
  | .dict _, _, .dct hs ha => .dct (ex_rd e hs) (RpK.mono e _ _ ha)
  | .dict _, _, .xc h1 h2 h3 h4 => .xc (e _ _ h1) h2 (e _ _ h3) (Rp.mono e _ _ h4)
  | .dict _, _, .x0 h1 h2 => .x0 (e _ _ h1) h2
termination_by d => sizeOf d
decreasing_by all_goals (simp_wf; try omega)
theorem Rps.mono (e : Ex F F') : ∀ (ds : List Da) (vs : List V), Rps K F vs ds → Rps K F' vs ds
  | [], _, h => by cases h; exact .nil
  | d :: ds, _, h => by cases h with | cons h1 h2 => exact .cons (Rp.mono e d _ h1) (Rps.mono e ds _ h2)
termination_by d => sizeOf d
decreasing_by all_goals (simp_wf; try omega)
theorem RpK.mono (e : Ex F F') : ∀ (ds : List (Da × Da)) (vs : List (Key × V)), RpK K F vs ds → RpK K F' vs ds
  | [], _, h => by cases h; exact .nil
  | (_, d) :: ds, _, h => by cases h with | cons h1 h2 => exact .cons (Rp.mono e d _ h1) (RpK.mono e ds _ h2)
termination_by d => sizeOf d
decreasing_by all_goals (simp_wf; try omega)
end
theorem Rp.up {v : V} {d : Da} (h : Rp K F v d) (e : Ex F F') : Rp K F' v d := Rp.mono e d v h
theorem Rps.up {v : List V} {d : List Da} (h : Rps K F v d) (e : Ex F F') : Rps K F' v d := Rps.mono e d v h
theorem Rps.len : ∀ {vs : List V} {ds : List Da}, Rps K F vs ds → vs.length = ds.length
  | _, _, .nil => rfl
  | _, _, .cons _ t => congrArg (· + 1) t.len
theorem Rps.get : ∀ {vs : List V} {ds : List Da} {i : Nat} {d : Da}, Rps K F vs ds → ds[i]? = some d → ∃ v, vs[i]? = some v ∧ Rp K F v d
  | _, _, _, _, .nil, e => by simp at e
  | _, _, 0, _, .cons r _, e => by simp at e; subst e; exact ⟨_, rfl, r⟩
  | _, _, i + 1, d, .cons _ t, e => by
    obtain ⟨u, h1, h2⟩ := Rps.get (i := i) (d := d) t (by simpa using e)
    exact ⟨u, by simpa using h1, h2⟩
theorem Rps.app : ∀ {vs us : List V} {ds es : List Da}, Rps K F vs ds → Rps K F us es → Rps K F (vs ++ us) (ds ++ es)
  | _, _, _, _, .nil, s => s
  | _, _, _, _, .cons r t, s => .cons r (t.app s)
end
/-- a still thing that is no datum: an instance by its class's name and its fields; an exception of the program's own by its class's name and its value -/
inductive Kd where | ins (nm : Str) (fs : List (Str × Da)) | exc (nm : Str) (z : Option Da) | at (p : Addr) | insAt (p : Addr) (nm : Str) (fs : List (Str × Da)) | lam (F0 : Hp) (f c : Addr) (q : Str)
/-- what an exception in the air says -/
def XvOk (K : Fg) (F : Hp) (cls : Value) (dd : Option Addr) (nm : Str) : Option Da → Prop
  | some z => ∃ (C x : Addr) (u : V), cls = .ref C ∧ PySem.W.nsIn K mainGlobals nm = some (some (.ref C)) ∧ dd = some x ∧ F x = some (.xd [("value", u)]) ∧ Rp K F u z
  | none => ∃ C : Addr, cls = .ref C ∧ PySem.W.nsIn K mainGlobals nm = some (some (.ref C)) ∧ dd = none
theorem XvOk.up {K : Fg} {F F' : Hp} {cls : Value} {dd : Option Addr} {nm : Str} (e : Ex F F') : ∀ {z : Option Da}, XvOk K F cls dd nm z → XvOk K F' cls dd nm z
  | some _, ⟨C, x, u, h1, h2, h3, h4, h5⟩ => ⟨C, x, u, h1, h2, h3, e _ _ h4, h5.up e⟩
  | none, h => h
def ObOk (K : Fg) (F : Hp) (v : V) : Kd → Prop
  | .ins nm fs => ∃ (p C dx : Addr) (us : List (Str × V)), v = .ref p ∧ PySem.W.nsIn K mainGlobals nm = some (some (.ref C)) ∧ F p = some (.ins C dx us) ∧ us.map Prod.fst = fs.map Prod.fst ∧ Rps K F (us.map Prod.snd) (fs.map Prod.snd)
  | .exc nm z => ∃ (a : Addr) (cls : Value) (dd : Option Addr), v = .ref a ∧ F a = some (exT a cls dd) ∧ XvOk K F cls dd nm z
  | .at p => v = .ref p
  | .lam F0 f c q => v = .ref f ∧ F c = some (LamX.CodeO c q) ∧ Ex F0 F
  | .insAt p nm fs => ∃ (C dx : Addr) (us : List (Str × V)), v = .ref p ∧ PySem.W.nsIn K mainGlobals nm = some (some (.ref C)) ∧ F p = some (.ins C dx us) ∧ us.map Prod.fst = fs.map Prod.fst ∧ Rps K F (us.map Prod.snd) (fs.map Prod.snd)
theorem ObOk.up {K : Fg} {F F' : Hp} {v : V} (e : Ex F F') : ∀ {k : Kd}, ObOk K F v k → ObOk K F' v k
  | .ins _ _, ⟨p, C, dx, us, h1, h2, h3, h4, h5⟩ => ⟨p, C, dx, us, h1, h2, e _ _ h3, h4, h5.up e⟩
  | .exc _ _, ⟨a, cls, dd, h1, h2, h3⟩ => ⟨a, cls, dd, h1, e _ _ h2, h3.up e⟩
  | .at _, h => h
  | .lam _ _ _ _, ⟨h1, h2, h3⟩ => ⟨h1, e _ _ h2, h3.trans e⟩
  | .insAt _ _ _, ⟨C, dx, us, h1, h2, h3, h4, h5⟩ => ⟨C, dx, us, h1, h2, e _ _ h3, h4, h5.up e⟩
/-- a local's content: a datum; an own list, not yet given away; the source of draws -/
inductive Sv where | val (d : Da) | own (ds : List Da) | src | scr (ns : List Int) | ob (k : Kd)
/-- an expression's value -/
inductive Rv where | val (d : Da) | src | scr (ns : List Int) | ob (k : Kd)
/-- a def's result; or what it raised: the class's name, the field value -/
inductive Rr where | val (d : Da) | own (ds : List Da) | exc (nm : Str) (d : Option Da)
structure Gs where
  sl : List (Option Sv)
  fu : Option Nat
  ow : Bool
/-- the entry: the still part, the heap, the source that was handed in -/
structure Con where
  F : Hp
  H : Hp
  ext : Option Addr
def modS : Int := 2305843009213693921
/-- a source of draws that may be asked n times more -/
def SrcAt (H : Hp) (a : Addr) (n : Nat) : Prop := ∃ x y z : Int, H a = some (.lst [.int x, .int y, .int z]) ∧ 0 ≤ x ∧ x < 2 ^ 1000 ∧ 0 ≤ y ∧ y < modS ∧ 0 ≤ z ∧ z + n ≤ 2 ^ 40
def SlOk (K : Fg) (F H : Hp) (c : Con) (a : Addr) (fu : Option Nat) (v : V) : Sv → Prop
  | .val d => Rp K F v d
  | .own ds => ∃ o xs, v = .ref o ∧ F o = none ∧ c.H o = none ∧ H o = some (.lst xs) ∧ Rps K F xs ds ∧ (fu ≠ none → o ≠ a)
  | .src => v = .ref a ∧ fu ≠ none
  | .scr ns => ∃ b, v = .ref b ∧ SqL K F b (ns.map V.int)
  | .ob k => ObOk K F v k
def RvOk (K : Fg) (F : Hp) (a : Addr) (fu : Option Nat) (v : V) : Rv → Prop
  | .val d => Rp K F v d
  | .src => v = .ref a ∧ fu ≠ none
  | .scr ns => ∃ b, v = .ref b ∧ SqL K F b (ns.map V.int)
  | .ob k => ObOk K F v k
theorem RvOk.up {K : Fg} {F F' : Hp} {a : Addr} {fu : Option Nat} {v : V} (e : Ex F F') : ∀ {r : Rv}, RvOk K F a fu v r → RvOk K F' a fu v r
  | .val _, h => Rp.up h e
  | .src, h => h
  | .scr _, ⟨b, h1, h2⟩ => ⟨b, h1, ex_l e h2⟩
  | .ob _, h => ObOk.up e h
inductive Tm (K : Fg) (F : Hp) (a : Addr) (fu : Option Nat) : List V → List Rv → Prop
  | nil : Tm K F a fu [] []
  | cons {v : V} {vs : List V} {r : Rv} {rs : List Rv} : RvOk K F a fu v r → Tm K F a fu vs rs → Tm K F a fu (v :: vs) (r :: rs)
def LAM : List Str := []
def lamQ (x : Str) : Str := x ++ ".<locals>.<lambda>"
/-- no table -/
def NT (o : HO) : Prop := ∀ ps, o ≠ .tbl ps
/-- the table at P: known to the heap, not to the still part; its code objects are known to the still part -/
structure TabAt (F H : Hp) (P : Addr) (q : Str) : Prop where
  ex : ∃ ps : Array Value, H P = some (.tbl ps) ∧ PySem.TriplesOk ps.toList ∧ ∀ (pos : Pos) (cv : Value), PySem.codeAmong pos ps.toList = some cv → ∃ c, cv = .ref c ∧ F c = some (LamX.CodeO c q)
  no : F P = none
def TabK (K : Fg) (F H : Hp) : Prop := ∀ x c P, x ∈ LAM → PySem.W.tabIn K x = some (c, P) → TabAt F H P (lamQ x)
theorem TabK.up {K : Fg} {F H F' H' : Hp} (t : TabK K F H) (ef : Ex F F') (eh : ∀ b ps, H b = some (.tbl ps) → H' b = some (.tbl ps)) (rn : ∀ b, F' b ≠ none → F b ≠ none ∨ ∀ ps, H b ≠ some (.tbl ps)) : TabK K F' H' := fun x c P h1 h2 => by
  obtain ⟨⟨ps, a1, a2, a3⟩, a4⟩ := t x c P h1 h2
  refine ⟨⟨ps, eh P ps a1, a2, fun pos cv hc => ?_⟩, ?_⟩
  · obtain ⟨c, e1, e2⟩ := a3 pos cv hc
    exact ⟨c, e1, ef _ _ e2⟩
  · cases q : F' P with
    | none => rfl
    | some o =>
      rcases rn P (by rw [q]; exact fun z => nomatch z) with w | w
      · exact absurd a4 w
      · exact absurd a1 (w ps)
/-- the still part grows by a list of the heap -/
theorem TabK.lst {K : Fg} {F H : Hp} {o : Addr} {xs : List V} (t : TabK K F H) (ho : H o = some (.lst xs)) (fo : F o = none) : TabK K (upd F o (.lst xs)) H :=
  t.up (Ex.new fo) (fun _ _ h => h) fun b h => by
    by_cases z : b = o
    · subst z
      exact .inr fun ps e => by rw [ho] at e; cases e
    · rw [upd_ne z] at h
      exact .inl h
/-- another thing at o, where there was no table -/
theorem TabK.but {K : Fg} {F H H' : Hp} {o : Addr} {w : HO} (t : TabK K F H) (ho : H o = some w) (n : NT w) (e : ∀ b u, b ≠ o → H b = some u → H' b = some u) : TabK K F H' :=
  t.up (Ex.refl F) (fun b ps h => e b _ (fun z => by rw [z, ho] at h; cases h; exact n _ rfl) h) fun _ h => .inl h
/-- tables stay tables -/
def TbS (H H' : Hp) : Prop := ∀ b ps, H b = some (.tbl ps) → ∃ ps', H' b = some (.tbl ps')
theorem TbS.refl {H : Hp} : TbS H H := fun _ ps h => ⟨ps, h⟩
theorem TbS.ex {H H' : Hp} (e : Ex H H') : TbS H H' := fun b ps h => ⟨ps, e b _ h⟩
theorem TbS.trans {H H1 H2 : Hp} (a : TbS H H1) (b : TbS H1 H2) : TbS H H2 := fun x ps h => let ⟨ps', h'⟩ := a x ps h; b x ps' h'
theorem TbS.but {H H' : Hp} {o : Addr} {w : HO} (ho : H o = some w) (n : NT w) (e : ∀ b u, b ≠ o → H b = some u → H' b = some u) : TbS H H' :=
  fun b ps h => ⟨ps, e b _ (fun z => by rw [z, ho] at h; cases h; exact n _ rfl) h⟩
structure Sta (K : Fg) (c : Con) (g : Gs) (σ : L2.St) (H : Hp) (tv : List V) (tr : List Rv) (F : Hp) (a : Addr) : Prop where
  e0 : Ex c.F F
  eh : Ex F H
  keep : ∀ b o, c.ext ≠ some b → NT o → c.H b = some o → H b = some o
  new : ∀ b, F b ≠ none → c.F b ≠ none ∨ c.H b = none
  ex : ∀ b, c.ext = some b → a = b ∧ g.fu ≠ none
  ow : g.ow = true → c.ext = none
  src : ∀ n, g.fu = some n → F a = none ∧ (c.ext = some a ∨ (c.ext = none ∧ c.H a = none)) ∧ SrcAt H a n
  tmp : Tm K F a g.fu tv tr
  len : σ.length = g.sl.length
  slot : ∀ (i : Nat) s, g.sl[i]? = some (some s) → ∃ v, σ[i]? = some (some v) ∧ SlOk K F H c a g.fu v s
  dis : ∀ (i j : Nat) ds es, i ≠ j → g.sl[i]? = some (some (.own ds)) → g.sl[j]? = some (some (.own es)) → σ[i]? ≠ σ[j]?
  t0 : TabK K F H
  tab : TbS c.H H
/-- still part and heap have grown -/
structure Gr (F H F' H' : Hp) : Prop where
  f : Ex F F'
  h : Ex H H'
  s : Ex F' H'
  n : ∀ b, F' b ≠ none → F b ≠ none ∨ H b = none
theorem Gr.refl {F H : Hp} (e : Ex F H) : Gr F H F H := ⟨Ex.refl _, Ex.refl _, e, fun _ h => .inl h⟩
theorem ne_none {α : Type} {x : Option α} {o : α} (h : x = some o) : x ≠ none := by rw [h]; exact fun z => nomatch z
theorem Gr.new {F H : Hp} {p : Addr} {o : HO} (e : Ex F H) (hp : H p = none) : Gr F H (upd F p o) (upd H p o) := by
  have fp : F p = none := fresh_back e hp
  refine ⟨Ex.new fp, Ex.new hp, fun b u q => ?_, fun b q => ?_⟩
  · by_cases hb : b = p
    · subst hb; rw [upd_same] at q ⊢; exact q
    · rw [upd_ne hb] at q ⊢; exact e b u q
  · by_cases hb : b = p
    · subst hb; exact .inr hp
    · rw [upd_ne hb] at q; exact .inl q
theorem Gr.trans {F H F1 H1 F2 H2 : Hp} (a : Gr F H F1 H1) (b : Gr F1 H1 F2 H2) : Gr F H F2 H2 :=
  ⟨a.f.trans b.f, a.h.trans b.h, b.s, fun x q => by
    rcases b.n x q with z | z
    · exact a.n x z
    · exact .inr (fresh_back a.h z)⟩
theorem Tm.up {K : Fg} {F F' : Hp} {a : Addr} {fu : Option Nat} (e : Ex F F') : ∀ {tv : List V} {tr : List Rv}, Tm K F a fu tv tr → Tm K F' a fu tv tr
  | _, _, .nil => .nil
  | _, _, .cons (r := r) h t => .cons (h.up e) (t.up e)
section
variable {K : Fg} {c : Con} {g : Gs} {σ : L2.St} {H H' F F' : Hp} {tv : List V} {tr : List Rv} {a : Addr}
/-- an old address is not new -/
theorem Sta.fresh (s : Sta K c g σ H tv tr F a) {b : Addr} (h : H b = none) : c.H b = none := by
  cases q : c.H b with
  | none => rfl
  | some o =>
    by_cases hx : c.ext = some b
    · obtain ⟨e1, e2⟩ := s.ex b hx
      subst e1
      cases hf : g.fu with
      | none => exact absurd hf e2
      | some n =>
        obtain ⟨_, _, x, y, z, e, _⟩ := s.src n hf
        rw [h] at e; cases e
    · cases o with
      | tbl ps =>
        obtain ⟨ps', z⟩ := s.tab b ps q
        rw [h] at z; cases z
      | _ => rw [s.keep b _ hx (fun _ z => by cases z) q] at h; cases h
theorem Sta.tabk (s : Sta K c g σ H tv tr F a) : TabK K F H := s.t0
theorem Sta.growN (s : Sta K c g σ H tv tr F a) (rf : Ex F F') (rh : ∀ b o, NT o → H b = some o → H' b = some o) (rs : Ex F' H') (rn : ∀ b, F' b ≠ none → F b ≠ none ∨ H b = none) (rt : TbS H H') (rk : TabK K F' H') : Sta K c g σ H' tv tr F' a where
  e0 := s.e0.trans rf
  eh := rs
  keep := fun b o h1 hn h2 => rh b o hn (s.keep b o h1 hn h2)
  new := fun b q => by
    rcases rn b q with z | z
    · exact s.new b z
    · exact .inr (s.fresh z)
  ex := s.ex
  ow := s.ow
  src := fun n h => by
    obtain ⟨h1, h2, x, y, z, e, h3⟩ := s.src n h
    refine ⟨?_, h2, x, y, z, rh _ _ (fun _ z => by cases z) e, h3⟩
    cases q : F' a with
    | none => rfl
    | some o =>
      rcases rn a (ne_none q) with z | z
      · exact absurd h1 z
      · rw [e] at z; cases z
  tmp := s.tmp.up rf
  len := s.len
  slot := fun i sv h => by
    obtain ⟨v, h1, h2⟩ := s.slot i sv h
    refine ⟨v, h1, ?_⟩
    cases sv with
    | val d => exact Rp.up h2 rf
    | src => exact h2
    | scr ns => obtain ⟨b, z1, z2⟩ := h2; exact ⟨b, z1, ex_l rf z2⟩
    | ob k => exact ObOk.up rf h2
    | own ds =>
      obtain ⟨o, xs, q1, q2, q3, q4, q5, q6⟩ := h2
      refine ⟨o, xs, q1, ?_, q3, rh _ _ (fun _ z => by cases z) q4, q5.up rf, q6⟩
      cases q : F' o with
      | none => rfl
      | some u =>
        rcases rn o (ne_none q) with z | z
        · exact absurd q2 z
        · rw [q4] at z; cases z
  dis := s.dis
  t0 := rk
  tab := s.tab.trans rt
theorem Sta.grow (s : Sta K c g σ H tv tr F a) (r : Gr F H F' H') : Sta K c g σ H' tv tr F' a := s.growN r.f (fun b o _ h => r.h b o h) r.s r.n (.ex r.h) (s.t0.up r.f (fun b ps h => r.h b _ h) fun b h => (r.n b h).imp id fun z ps e => by rw [z] at e; cases e)
theorem Sta.push (s : Sta K c g σ H tv tr F a) {v : V} {r : Rv} (h : RvOk K F a g.fu v r) : Sta K c g σ H (v :: tv) (r :: tr) F a :=
  ⟨s.e0, s.eh, s.keep, s.new, s.ex, s.ow, s.src, .cons h s.tmp, s.len, s.slot, s.dis, s.t0, s.tab⟩
theorem Sta.pop (s : Sta K c g σ H tv tr F a) {tv' : List V} {tr' : List Rv} (h : Tm K F a g.fu tv' tr') : Sta K c g σ H tv' tr' F a :=
  ⟨s.e0, s.eh, s.keep, s.new, s.ex, s.ow, s.src, h, s.len, s.slot, s.dis, s.t0, s.tab⟩
theorem Sta.pop1 {v : V} {r : Rv} (s : Sta K c g σ H (v :: tv) (r :: tr) F a) : Sta K c g σ H tv tr F a :=
  s.pop (by cases s.tmp with | cons _ t => exact t)
theorem Sta.top {v : V} {r : Rv} (s : Sta K c g σ H (v :: tv) (r :: tr) F a) : RvOk K F a g.fu v r := by
  cases s.tmp with | cons h _ => exact h
end
abbrev DE := Gs → (Rv → Gs → Prop) → Prop
abbrev DL := Gs → (List Da → Gs → Prop) → Prop
abbrev DT := Gs → (Bool → Gs → Prop) → Prop
abbrev DA := Gs → (List Rv → Gs → Prop) → Prop
structure DEnds where
  nx : Gs → Prop
  rt : Rr → Gs → Prop
  bk : Gs → Prop := fun _ => False
  ct : Gs → Prop := fun _ => False
abbrev DS := DEnds → Gs → Prop
def up (K : Fg) (t : DE) : TE := fun σ H Q => ∃ c g tv tr F a post, Sta K c g σ H tv tr F a ∧ t g post ∧
  ∀ r g' v H' F' a', post r g' → Sta K c g' σ H' (v :: tv) (r :: tr) F' a' → Q v H'
def upT (K : Fg) (t : DT) : TT := fun σ H Q => ∃ c g tv tr F a post, Sta K c g σ H tv tr F a ∧ t g post ∧
  ∀ b g' H' F' a', post b g' → Sta K c g' σ H' tv tr F' a' → Q b H'
/-- a new list, at an address of its own -/
structure NewL (K : Fg) (c : Con) (g : Gs) (σ : L2.St) (H F : Hp) (a : Addr) (v : V) (ds : List Da) : Prop where
  ex : ∃ o xs, v = .ref o ∧ F o = none ∧ c.H o = none ∧ H o = some (.lst xs) ∧ Rps K F xs ds ∧ (g.fu ≠ none → o ≠ a) ∧
    ∀ (i : Nat) (es : List Da), g.sl[i]? = some (some (Sv.own es)) → σ[i]? ≠ some (some (V.ref o))
def upL (K : Fg) (t : DL) : TE := fun σ H Q => ∃ c g tv tr F a post, Sta K c g σ H tv tr F a ∧ t g post ∧
  ∀ ds g' v H' F' a', post ds g' → Sta K c g' σ H' tv tr F' a' → NewL K c g' σ H' F' a' v ds → Q v H'
def upA (K : Fg) (t : DA) : TA := fun σ H Q => ∃ c g tv tr F a post, Sta K c g σ H tv tr F a ∧ t g post ∧
  ∀ rs g' vs H' F' a', post rs g' → Sta K c g' σ H' (vs.reverse ++ tv) (rs.reverse ++ tr) F' a' → vs.length = rs.length → Q vs H'
structure DD (K : Fg) (Wx : WX) (c : Con) (tv : List V) (tr : List Rv) (d : DEnds) (D : Ends) : Prop where
  nx : ∀ g σ H F a, d.nx g → Sta K c g σ H tv tr F a → D.nx σ H
  bk : ∀ g σ H F a, d.bk g → Sta K c g σ H tv tr F a → D.bk σ H
  ct : ∀ g σ H F a, d.ct g → Sta K c g σ H tv tr F a → D.ct σ H
  rv : ∀ x g σ v H F a, d.rt (.val x) g → Sta K c g σ H (v :: tv) (.val x :: tr) F a → D.rt v H
  ro : ∀ ds g σ v H F a, d.rt (.own ds) g → Sta K c g σ H tv tr F a → NewL K c { g with sl := [] } [] H F a v ds → D.rt v H
  rx : ∀ nm z g σ H F a cls dd, d.rt (.exc nm z) g → Sta K c g σ H tv tr F a → XvOk K F cls dd nm z → Wx cls dd σ H
def hasSrc : List Rv → Bool
  | [] => false
  | .src :: _ => true
  | _ :: r => hasSrc r
theorem hasSrc_app : ∀ {rs ts : List Rv}, hasSrc rs = false → hasSrc ts = false → hasSrc (rs ++ ts) = false
  | [], _, _, h => h
  | .val _ :: rs, _, h, h' => hasSrc_app (rs := rs) h h'
  | .scr _ :: rs, _, h, h' => hasSrc_app (rs := rs) h h'
  | .ob _ :: rs, _, h, h' => hasSrc_app (rs := rs) h h'
  | .src :: _, _, h, _ => by cases h
def upS (K : Fg) (Wx : WX) (t : DS) : TS := fun D σ H => ∃ c g tv tr F a d, Sta K c g σ H tv tr F a ∧ hasSrc tr = false ∧ t d g ∧ DD K Wx c tv tr d D
section
variable {X : Cx} {e : Expr}
theorem pe_to {t t' : TE} (h : PE X e t) (i : ∀ σ H Q, t' σ H Q → t σ H Q) : PE X e t' := ⟨fun pins s σ H Q I q => h.run pins s σ H Q I (i σ H Q q)⟩
theorem pt_to {t t' : TT} (h : PT X e t) (i : ∀ σ H Q, t' σ H Q → t σ H Q) : PT X e t' := ⟨fun pins s σ H Q I q => h.run pins s σ H Q I (i σ H Q q)⟩
theorem pw_to {t t' : TT} (h : PW X e t) (i : ∀ σ H Q, t' σ H Q → t σ H Q) : PW X e t' := ⟨fun w pins s σ H Q I q => h.run w pins s σ H Q I (i σ H Q q)⟩
theorem pa_to {es : List Expr} {t t' : TA} (h : PA X es t) (i : ∀ σ H Q, t' σ H Q → t σ H Q) : PA X es t' := ⟨fun p pins s σ H Q I q => h.run p pins s σ H Q I (i σ H Q q)⟩
theorem ps_to {st : Stmt} {t t' : TS} (h : PS X st t) (i : ∀ D σ H, t' D σ H → t D σ H) : PS X st t' := ⟨fun pins s σ H D I q => h.run pins s σ H D I (i D σ H q)⟩
theorem pss_to {st : List Stmt} {t t' : TS} (h : PSs X st t) (i : ∀ D σ H, t' D σ H → t D σ H) : PSs X st t' := ⟨fun pins s σ H D I q => h.run pins s σ H D I (i D σ H q)⟩
end
def Gs.set (g : Gs) (i : Nat) (s : Sv) : Gs := { g with sl := g.sl.set i (some s) }
def dVar (i : Nat) : DE := fun g Q => match g.sl[i]? with
  | some (some (.val d)) => Q (.val d) g
  | some (some .src) => Q .src g
  | some (some (.scr ns)) => Q (.scr ns) g
  | some (some (.ob k)) => Q (.ob k) g
  | some (some (.own ds)) => Q (.val (.list ds)) (g.set i (.val (.list ds)))
  | _ => False
def dC (d : Da) : DE := fun g Q => Q (.val d) g
section
variable {K : Fg} {c : Con} {g : Gs} {σ : L2.St} {H H' F F' : Hp} {tv : List V} {tr : List Rv} {a : Addr}
/-- an own list is given away: it stands still from now on -/
theorem Sta.freeze (s : Sta K c g σ H tv tr F a) {i : Nat} {ds : List Da} (h : g.sl[i]? = some (some (.own ds))) :
    ∃ o F', σ[i]? = some (some (.ref o)) ∧ Rp K F' (.ref o) (.list ds) ∧ Sta K c (g.set i (.val (.list ds))) σ H tv tr F' a := by
  obtain ⟨v, h1, o, xs, rfl, q2, q3, q4, q5, q6⟩ := s.slot i _ h
  have ef : Ex F (upd F o (.lst xs)) := Ex.new q2
  have ro : Rp K (upd F o (.lst xs)) (.ref o) (.list ds) := .lst upd_same (q5.up ef)
  have hi : i < g.sl.length := (List.getElem?_eq_some_iff.mp h).1
  refine ⟨o, upd F o (.lst xs), h1, ro, s.e0.trans ef, fun b u q => ?_, s.keep, fun b q => ?_, s.ex, s.ow, fun n hn => ?_, s.tmp.up ef, ?_, fun j sv hj => ?_, fun j k es fs hjk hj hk => ?_, s.t0.lst q4 q2, s.tab⟩
  · by_cases hb : b = o
    · subst hb; rw [upd_same] at q; cases q; exact q4
    · rw [upd_ne hb] at q; exact s.eh b u q
  · by_cases hb : b = o
    · subst hb; exact .inr q3
    · rw [upd_ne hb] at q; exact s.new b q
  · obtain ⟨z1, z2⟩ := s.src n hn
    refine ⟨?_, z2⟩
    rw [upd_ne (fun z => q6 (ne_none hn) z.symm)]; exact z1
  · show σ.length = (g.sl.set i _).length
    rw [List.length_set]; exact s.len
  · by_cases hji : j = i
    · subst hji
      have : (g.sl.set j (some (Sv.val (.list ds))))[j]? = some (some sv) := hj
      rw [List.getElem?_set_self hi] at this
      cases this
      exact ⟨_, h1, ro⟩
    · have : (g.sl.set i (some (Sv.val (.list ds))))[j]? = some (some sv) := hj
      rw [List.getElem?_set_ne (Ne.symm hji)] at this
      obtain ⟨v, w1, w2⟩ := s.slot j sv this
      refine ⟨v, w1, ?_⟩
      cases sv with
      | val d => exact Rp.up w2 ef
      | src => exact w2
      | scr ns => obtain ⟨b, z1, z2⟩ := w2; exact ⟨b, z1, ex_l ef z2⟩
      | ob k => exact ObOk.up ef w2
      | own es =>
        obtain ⟨o', ys, r1, r2, r3, r4, r5, r6⟩ := w2
        have ne : o' ≠ o := fun z => s.dis j i es ds hji this h (by rw [w1, h1, r1, z])
        exact ⟨o', ys, r1, by rw [upd_ne ne]; exact r2, r3, r4, r5.up ef, r6⟩
  · have n1 : j ≠ i := fun z => by
      subst z
      have : (g.sl.set j (some (Sv.val (.list ds))))[j]? = some (some (.own es)) := hj
      rw [List.getElem?_set_self hi] at this; cases this
    have n2 : k ≠ i := fun z => by
      subst z
      have : (g.sl.set k (some (Sv.val (.list ds))))[k]? = some (some (.own fs)) := hk
      rw [List.getElem?_set_self hi] at this; cases this
    have e1 : (g.sl.set i (some (Sv.val (.list ds))))[j]? = some (some (.own es)) := hj
    have e2 : (g.sl.set i (some (Sv.val (.list ds))))[k]? = some (some (.own fs)) := hk
    rw [List.getElem?_set_ne (Ne.symm n1)] at e1
    rw [List.getElem?_set_ne (Ne.symm n2)] at e2
    exact s.dis j k es fs hjk e1 e2
end
section
variable {X : Cx} {e : Expr}
theorem e_var (i : Nat) (h : PE X e (tVar i)) : PE X e (up X.K (dVar i)) := pe_to h fun σ H Q q => by
  obtain ⟨c, g, tv, tr, F, a, post, s, t, k⟩ := q
  unfold dVar at t
  split at t
  · rename_i d hd
    obtain ⟨v, h1, h2⟩ := s.slot i _ hd
    exact ⟨v, h1, k _ g v H F a t (s.push (r := .val d) h2)⟩
  · rename_i hd
    obtain ⟨v, h1, h2⟩ := s.slot i _ hd
    exact ⟨v, h1, k _ g v H F a t (s.push (r := .src) h2)⟩
  · rename_i ns hd
    obtain ⟨v, h1, h2⟩ := s.slot i _ hd
    exact ⟨v, h1, k _ g v H F a t (s.push (r := .scr ns) h2)⟩
  · rename_i kd hd
    obtain ⟨v, h1, h2⟩ := s.slot i _ hd
    exact ⟨v, h1, k _ g v H F a t (s.push (r := .ob kd) h2)⟩
  · rename_i ds hd
    obtain ⟨o, F', h1, h2, s'⟩ := s.freeze hd
    exact ⟨_, h1, k _ _ _ H F' a t (s'.push (r := .val (.list ds)) h2)⟩
  · exact t.elim
/-- anything whose value is plain and the same always -/
theorem e_c {v : V} {d : Da} (h : PE X e (tC v)) (r : ∀ F, Rp X.K F v d) : PE X e (up X.K (dC d)) := pe_to h fun σ H Q q => by
  obtain ⟨c, g, tv, tr, F, a, post, s, t, k⟩ := q
  exact k _ g v H F a t (s.push (r := .val d) (r F))
theorem e_int {i j pos} : PE X (.Constant (.int i) j pos) (up X.K (dC (.int i))) := e_c pe_int fun _ => .int i
theorem e_bl {b j pos} : PE X (.Constant (.bool b) j pos) (up X.K (dC (.bool b))) := e_c pe_bl fun _ => .bl b
theorem e_non {j pos} : PE X (.Constant .none j pos) (up X.K (dC .none)) := e_c pe_non fun _ => .non
theorem e_str {x j pos} : PE X (.Constant (.str x) j pos) (up X.K (dC (.str x))) := e_c pe_str fun _ => .str x
end
end Z
namespace Z
open L2 PySem PySem.Spec PyProof.Rows
open Evl (Ex ex_l ex_t ex_rd fresh_back)
abbrev BinF := Da → Da → (Da → Prop) → Prop
def dBin (f : BinF) (ta tb : DE) : DE := fun g Q => ta g fun x g1 => tb g1 fun y g2 => match x, y with
  | .val d, .val e => f d e fun z => Q (.val z) g2
  | _, _ => False
/-- on values: what r asks follows from f -/
def BinOk (K : Fg) (r : R2) (f : BinF) : Prop := ∀ (F H : Hp) (x y : V) (d e : Da) (post : Da → Prop) (Q : VK), Ex F H → Rp K F x d → Rp K F y e → f d e post →
  (∀ z v H' F', post z → Gr F H F' H' → Rp K F' v z → Q v H') → r x y H Q
section
variable {X : Cx} {a b : Expr} {ta tb : DE} {pos : Pos} {f : BinF} {r : R2}
theorem bin_core (hf : BinOk X.K r f) : ∀ σ H Q, up X.K (dBin f ta tb) σ H Q → tOp r (up X.K ta) (up X.K tb) σ H Q := fun σ H Q q => by
  obtain ⟨c, g, tv, tr, F, ad, post, s, t, k⟩ := q
  refine ⟨c, g, tv, tr, F, ad, _, s, t, fun x g1 v1 H1 F1 a1 t1 s1 => ?_⟩
  refine ⟨c, g1, _, _, F1, a1, _, s1, t1, fun y g2 v2 H2 F2 a2 t2 s2 => ?_⟩
  cases x with
  | val d =>
    cases y with
    | val e =>
      have r1 : Rp X.K F2 v1 d := s2.pop1.top
      have r2 : Rp X.K F2 v2 e := s2.top
      refine hf F2 H2 v1 v2 d e _ Q s2.eh r1 r2 t2 fun z v H' F' hz gr rz => ?_
      exact k _ g2 v H' F' a2 hz ((s2.pop1.pop1.grow gr).push (r := .val z) rz)
    | src => exact t2.elim
    | scr _ => exact t2.elim
    | ob _ => exact t2.elim
  | src => exact t2.elim
  | scr _ => exact t2.elim
  | ob _ => exact t2.elim
theorem e_bin {op : Operator} (ho : OpR X (binaryOp op) r) (hf : BinOk X.K r f) (ha : PE X a (up X.K ta)) (hb : PE X b (up X.K tb)) : PE X (.BinOp a op b pos) (up X.K (dBin f ta tb)) :=
  pe_to (pe_op ho ha hb) (bin_core hf)
theorem e_cmp {op : CmpOp} (ho : OpR X (compareOp op) r) (hf : BinOk X.K r f) (ha : PE X a (up X.K ta)) (hb : PE X b (up X.K tb)) (hm : behindInMarks op b = false) : PE X (.Compare a [op] [b] pos) (up X.K (dBin f ta tb)) :=
  pe_to (pe_cmpR ho ha hb hm) (bin_core hf)
theorem or_op {ff : Value → Value → Sem Value} {r1 r2 : R2} (h1 : OpR X ff r1) (h2 : OpR X ff r2) : OpR X ff (fun x y H Q => r1 x y H Q ∨ r2 x y H Q) := by
  intro pins s σ H x y v u Q I rx ry h
  rcases h with h | h
  · exact h1 pins s σ H x y v u Q I rx ry h
  · exact h2 pins s σ H x y v u Q I rx ry h
end
def fI (C : Int → Int → Prop) (o : Int → Int → Da) : BinF := fun d e post => match d, e with
  | .int i, .int j => C i j ∧ post (o i j)
  | _, _ => False
section
variable {K : Fg}
theorem ok_I {C : Int → Int → Prop} {o : Int → Int → Int} : BinOk K (rI C fun i j => .int (o i j)) (fI C fun i j => .int (o i j)) := fun F H x y d e post Q hx r1 r2 hf k => by
  cases d with
  | int i =>
    cases e with
    | int j =>
      cases r1; cases r2
      exact ⟨i, j, rfl, rfl, hf.1, k _ _ H F hf.2 (Gr.refl hx) (.int _)⟩
    | _ => exact hf.elim
  | _ => exact hf.elim
end
def fI0 (o : Int → Int → Da) : BinF := fun d e post => match d, e with
  | .int i, .int j => post (o i j)
  | _, _ => False
section
variable {K : Fg}
theorem ok_I0b {o : Int → Int → Bool} : BinOk K (rI0 fun i j => .bl (o i j)) (fI0 fun i j => .bool (o i j)) := fun F H x y d e post Q hx r1 r2 hf k => by
  cases d with
  | int i =>
    cases e with
    | int j =>
      cases r1; cases r2
      exact ⟨i, j, rfl, rfl, k _ _ H F hf (Gr.refl hx) (.bl _)⟩
    | _ => exact hf.elim
  | _ => exact hf.elim
end
def CPowX (i j : Int) : Prop := 0 ≤ j ∧ (Builtin.Int.intBits i : Int) * j ≤ 2 ^ 27
/-- +: ints, texts, tuples, lists -/
def fAdd : BinF := fun d e post => match d, e with
  | .int i, .int j => post (.int (i + j))
  | .str x, .str y => x.length + y.length ≤ sizeLine ∧ post (.str (x ++ y))
  | .tuple xs, .tuple ys => xs ≠ [] ∧ xs.length + ys.length ≤ sizeLine ∧ post (.tuple (xs ++ ys))
  | .list xs, .list ys => xs.length + ys.length ≤ sizeLine ∧ post (.list (xs ++ ys))
  | _, _ => False
section
variable {X : Cx} {a b : Expr} {ta tb : DE} {pos : Pos}
theorem Rps.nil_iff {K : Fg} {F : Hp} {xs : List V} {ds : List Da} (h : Rps K F xs ds) : xs = [] ↔ ds = [] := by
  cases h <;> simp
theorem e_add (ha : PE X a (up X.K ta)) (hb : PE X b (up X.K tb)) : PE X (.BinOp a .Add b pos) (up X.K (dBin fAdd ta tb)) := by
  refine e_bin (or_op op_add (or_op op_add_str (or_op op_catT op_cat))) ?_ ha hb
  intro F H x y d e post Q hx r1 r2 hf k
  cases d with
  | int i =>
    cases e with
    | int j =>
      cases r1; cases r2
      exact .inl ⟨i, j, rfl, rfl, k _ _ H F hf (Gr.refl hx) (.int _)⟩
    | _ => exact hf.elim
  | str u =>
    cases e with
    | str w =>
      cases r1; cases r2
      exact .inr (.inl ⟨u, w, rfl, rfl, hf.1, k _ _ H F hf.2 (Gr.refl hx) (.str _)⟩)
    | _ => exact hf.elim
  | tuple ds =>
    cases e with
    | tuple es =>
      cases r1 with
      | tup s1 m1 =>
        cases r2 with
        | tup s2 m2 =>
          rename_i p1 xs p2 ys
          obtain ⟨h1, h2, h3⟩ := hf
          refine .inr (.inr (.inl ⟨p1, p2, xs, ys, rfl, rfl, ex_t hx s1, ex_t hx s2, fun z => h1 (m1.nil_iff.mp z), by rw [m1.len, m2.len]; exact h2, fun z => ?_, fun z p hp => ?_⟩))
          · have : es = [] := m2.nil_iff.mp z
            subst this
            rw [List.append_nil] at h3
            exact k _ _ H F h3 (Gr.refl hx) (.tup s1 m1)
          · have gr := Gr.new (o := .tup (xs ++ ys)) hx hp
            exact k _ _ _ _ h3 gr (.tup (.inl (.inl upd_same)) ((m1.up gr.f).app (m2.up gr.f)))
    | _ => exact hf.elim
  | list ds =>
    cases e with
    | list es =>
      cases r1 with
      | lst s1 m1 =>
        cases r2 with
        | lst s2 m2 =>
          rename_i p1 xs p2 ys
          obtain ⟨h2, h3⟩ := hf
          refine .inr (.inr (.inr ⟨p1, p2, xs, ys, rfl, rfl, hx _ _ s1, hx _ _ s2, by rw [m1.len, m2.len]; exact h2, fun p hp => ?_⟩))
          have gr := Gr.new (o := .lst (xs ++ ys)) hx hp
          exact k _ _ _ _ h3 gr (.lst upd_same ((m1.up gr.f).app (m2.up gr.f)))
    | _ => exact hf.elim
  | _ => exact hf.elim
theorem e_mul (ha : PE X a (up X.K ta)) (hb : PE X b (up X.K tb)) : PE X (.BinOp a .Mult b pos) (up X.K (dBin (fI CMulX fun i j => .int (i * j)) ta tb)) := e_bin op_mulX ok_I ha hb
theorem e_mod (ha : PE X a (up X.K ta)) (hb : PE X b (up X.K tb)) : PE X (.BinOp a .Mod b pos) (up X.K (dBin (fI (fun _ j => 0 < j) fun i j => .int (i % j)) ta tb)) := e_bin op_mod ok_I ha hb
theorem op_powX : OpR X (binaryOp .Pow) (rI CPowX fun i j => .int (i ^ j.toNat)) := opI fun _ _ _ _ _ _ _ hc q => pow_int hc.1 hc.2 q
theorem e_pow (ha : PE X a (up X.K ta)) (hb : PE X b (up X.K tb)) : PE X (.BinOp a .Pow b pos) (up X.K (dBin (fI CPowX fun i j => .int (i ^ j.toNat)) ta tb)) := e_bin op_powX ok_I ha hb
end
section
variable {K : Fg} {F H : Hp}
mutual
theorem Rp.dp (e : Ex F H) : ∀ (d : Da) (v : V), Rp K F v d → d.canLay0 = true → Dp K H v d
  | .none, _, h, _ => by cases h; exact .non
  | .bool b, _, h, _ => by cases h; exact .bl b
  | .int i, _, h, _ => by cases h; exact .int i
  | .str x, _, h, _ => by cases h; exact .str x
  | .list ds, _, h, q => by cases h with | lst hs ha => exact .lst (.inl (.inl (e _ _ hs))) (Rps.dp e ds _ ha (by simpa [PyData.canLay0] using q))
  | .tuple ds, _, h, q => by cases h with | tup hs ha => exact .tup (ex_t e hs) (Rps.dp e ds _ ha (by simpa [PyData.canLay0] using q))
  | .dict es, _, h, q => by simp [PyData.canLay0] at q
theorem Rps.dp (e : Ex F H) : ∀ (ds : List Da) (vs : List V), Rps K F vs ds → PyData.canLayAll0 ds = true → DpAll K H vs ds
  | [], _, h, _ => by cases h; exact .nil
  | d :: ds, _, h, q => by
    cases h with
    | cons h1 h2 =>
      have q' : d.canLay0 = true ∧ PyData.canLayAll0 ds = true := by simpa [PyData.canLayAll0] using q
      exact .cons (Rp.dp e d _ h1 q'.1) (Rps.dp e ds _ h2 q'.2)
end
end
def fEq : BinF := fun d e post => SeqAt.shaped d = true ∧ SeqAt.shaped e = true ∧ post (.bool (d.eqv e))
def fNe : BinF := fun d e post => SeqAt.shaped d = true ∧ SeqAt.shaped e = true ∧ post (.bool (!d.eqv e))
theorem shaped_lay {d : Da} (h : SeqAt.shaped d = true) : d.canLay0 = true := by
  unfold SeqAt.shaped at h
  rw [Bool.and_eq_true] at h
  exact h.1
section
variable {X : Cx} {a b : Expr} {ta tb : DE} {pos : Pos}
theorem e_eq (hu : X.A.units + 64 < cLine) (ha : PE X a (up X.K ta)) (hb : PE X b (up X.K tb)) : PE X (.Compare a [.Eq] [b] pos) (up X.K (dBin fEq ta tb)) :=
  e_cmp (op_eqD hu) (fun F H x y d e post Q hx r1 r2 hf k => ⟨d, e, r1.dp hx d x (shaped_lay hf.1), r2.dp hx e y (shaped_lay hf.2.1), hf.1, hf.2.1, k _ _ H F hf.2.2 (Gr.refl hx) (.bl _)⟩) ha hb (nomark _)
end
def flatD : Da → Bool
  | .none => true
  | .bool _ => true
  | .int _ => true
  | .str _ => true
  | _ => false
end Z
namespace Z
open L2 PySem PySem.Spec PyProof.Rows
open Evl (Ex ex_l ex_t ex_rd fresh_back)
def dTest (t : DE) : DT := fun g Q => t g fun r g1 => match r with
  | .val (.bool b) => Q b g1
  | _ => False
def dOrT (ta tb : DT) : DT := fun g Q => ta g fun b g1 => (b = true → Q true g1) ∧ (b = false → tb g1 Q)
def dNotT (ta : DT) : DT := fun g Q => ta g fun b g1 => Q (!b) g1
def dIf (t : DT) (ta tb : DE) : DE := fun g Q => t g fun b g1 => (b = true → ta g1 Q) ∧ (b = false → tb g1 Q)
section
variable {K : Fg} {F : Hp} {a : Addr} {fu : Option Nat} {v : V}
theorem RvOk.bl {r : Rv} (h : RvOk K F a fu v r) {b : Bool} (e : r = .val (.bool b)) : v = .bl b := by
  subst e
  have h' : Rp K F v (.bool b) := h
  cases h'; rfl
end
section
variable {X : Cx} {a b c e : Expr} {ta tb t : DE} {sa sb : DT} {pos : Pos} {rest : List Expr}
theorem t_val (h : PE X e (up X.K t)) (hw : ∀ whole : Sem Value, isTrue e X.env whole = (do
    let v ← whole
    standAt e.pos
    holding [v] (truthy v)) := by intro _; rfl) : PT X e (upT X.K (dTest t)) := pt_to (pt_val h hw) fun σ H Q q => by
  obtain ⟨c, g, tv, tr, F, ad, post, s, t1, k⟩ := q
  refine ⟨c, g, tv, tr, F, ad, _, s, t1, fun r g1 v1 H1 F1 a1 h1 s1 => ?_⟩
  cases r with
  | val d =>
    cases d with
    | bool b => exact ⟨b, s1.top.bl rfl, k b g1 H1 F1 a1 h1 s1.pop1⟩
    | _ => exact h1.elim
  | _ => exact h1.elim
theorem w_or (h1 : PT X a (upT X.K sa)) (h2 : PW X (.BoolOp .Or (b :: rest) pos) (upT X.K sb)) : PW X (.BoolOp .Or (a :: b :: rest) pos) (upT X.K (dOrT sa sb)) := pw_to (pw_or h1 h2) fun σ H Q q => by
  obtain ⟨c, g, tv, tr, F, ad, post, s, t1, k⟩ := q
  refine ⟨c, g, tv, tr, F, ad, _, s, t1, fun b g1 H1 F1 a1 h1 s1 => ?_⟩
  cases b with
  | true => rw [if_pos rfl]; exact k true g1 H1 F1 a1 (h1.1 rfl) s1
  | false => rw [if_neg Bool.false_ne_true]; exact ⟨c, g1, tv, tr, F1, a1, _, s1, h1.2 rfl, k⟩
theorem w_or1 (h1 : PT X a (upT X.K sa)) : PW X (.BoolOp .Or [a] pos) (upT X.K sa) := pw_or1 h1
theorem t_not (h1 : PT X a (upT X.K sa)) : PT X (.UnaryOp .Not a pos) (upT X.K (dNotT sa)) := pt_to (pt_not h1) fun σ H Q q => by
  obtain ⟨c, g, tv, tr, F, ad, post, s, t1, k⟩ := q
  exact ⟨c, g, tv, tr, F, ad, _, s, t1, fun b g1 H1 F1 a1 h1 s1 => k _ g1 H1 F1 a1 h1 s1⟩
theorem e_if (h : PT X c (upT X.K sa)) (h1 : PE X a (up X.K ta)) (h2 : PE X b (up X.K tb)) : PE X (.IfExp c a b pos) (up X.K (dIf sa ta tb)) := pe_to (pe_ifExp h h1 h2) fun σ H Q q => by
  obtain ⟨c, g, tv, tr, F, ad, post, s, t1, k⟩ := q
  refine ⟨c, g, tv, tr, F, ad, _, s, t1, fun b g1 H1 F1 a1 h1 s1 => ?_⟩
  cases b with
  | true => rw [if_pos rfl]; exact ⟨c, g1, tv, tr, F1, a1, _, s1, h1.1 rfl, k⟩
  | false => rw [if_neg Bool.false_ne_true]; exact ⟨c, g1, tv, tr, F1, a1, _, s1, h1.2 rfl, k⟩
/-- -a -/
def dNeg (ta : DE) : DE := fun g Q => ta g fun r g1 => match r with
  | .val (.int i) => Q (.val (.int (-i))) g1
  | _ => False
theorem e_neg (h1 : PE X a (up X.K ta)) : PE X (.UnaryOp .USub a pos) (up X.K (dNeg ta)) := pe_to (pe_un un_neg h1) fun σ H Q q => by
  obtain ⟨c, g, tv, tr, F, ad, post, s, t1, k⟩ := q
  refine ⟨c, g, tv, tr, F, ad, _, s, t1, fun r g1 v1 H1 F1 a1 h1 s1 => ?_⟩
  cases r with
  | val d =>
    cases d with
    | int i =>
      have hr : Rp X.K F1 v1 (.int i) := s1.top
      cases hr
      exact ⟨i, rfl, k _ g1 _ H1 F1 a1 h1 (s1.pop1.push (r := .val (.int (-i))) (Rp.int (-i)))⟩
    | _ => exact h1.elim
  | _ => exact h1.elim
/-- x is None, x is not None -/
def isNon : Da → Bool
  | .none => true
  | _ => false
end
end Z
namespace Z
open L2 PySem PySem.Spec PyProof.Rows
open Evl (Ex ex_l ex_t ex_rd fresh_back)
def dNil : DA := fun g Q => Q [] g
def dCons (te : DE) (tr : DA) : DA := fun g Q => te g fun x g1 => tr g1 fun xs g2 => Q (x :: xs) g2
section
variable {K : Fg} {F : Hp} {a : Addr} {fu : Option Nat}
theorem Tm.app : ∀ {xs ys : List V} {rs ts : List Rv}, Tm K F a fu xs rs → Tm K F a fu ys ts → Tm K F a fu (xs ++ ys) (rs ++ ts)
  | _, _, _, _, .nil, s => s
  | _, _, _, _, .cons r t, s => .cons r (t.app s)
theorem Tm.rev : ∀ {xs : List V} {rs : List Rv}, Tm K F a fu xs rs → Tm K F a fu xs.reverse rs.reverse
  | _, _, .nil => .nil
  | _, _, .cons r t => by
    rw [List.reverse_cons, List.reverse_cons]
    exact t.rev.app (.cons r .nil)
theorem Tm.split : ∀ {xs ys : List V} {rs ts : List Rv}, xs.length = rs.length → Tm K F a fu (xs ++ ys) (rs ++ ts) → Tm K F a fu xs rs ∧ Tm K F a fu ys ts
  | [], _, [], _, _, h => ⟨.nil, h⟩
  | [], _, _ :: _, _, e, _ => by simp at e
  | _ :: _, _, [], _, e, _ => by simp at e
  | x :: xs, ys, r :: rs, ts, e, h => by
    have h' : Tm K F a fu (x :: (xs ++ ys)) (r :: (rs ++ ts)) := h
    cases h' with
    | cons h1 h2 =>
      obtain ⟨q1, q2⟩ := Tm.split (by simpa using e) h2
      exact ⟨.cons h1 q1, q2⟩
theorem Tm.args {vs tv : List V} {rs tr : List Rv} (h : Tm K F a fu (vs.reverse ++ tv) (rs.reverse ++ tr)) (e : vs.length = rs.length) : Tm K F a fu vs rs ∧ Tm K F a fu tv tr := by
  obtain ⟨h1, h2⟩ := Tm.split (by simpa using e) h
  have := h1.rev
  rw [List.reverse_reverse, List.reverse_reverse] at this
  exact ⟨this, h2⟩
end
def valsD : List Rv → Option (List Da)
  | [] => some []
  | .val d :: rs => (valsD rs).map (d :: ·)
  | _ :: _ => none
theorem Tm.vals {K : Fg} {F : Hp} {a : Addr} {fu : Option Nat} : ∀ {vs : List V} {rs : List Rv} {ds : List Da}, Tm K F a fu vs rs → valsD rs = some ds → Rps K F vs ds
  | _, _, _, .nil, e => by cases e; exact .nil
  | _, .val d :: rs, ds, .cons h t, e => by
    unfold valsD at e
    cases q : valsD rs with
    | none => rw [q] at e; cases e
    | some es =>
      rw [q] at e
      cases e
      exact .cons h (t.vals q)
  | _, .src :: rs, ds, .cons h t, e => by cases e
  | _, .scr _ :: rs, ds, .cons h t, e => by cases e
  | _, .ob _ :: rs, ds, .cons h t, e => by cases e
def dTup (ta : DA) : DE := fun g Q => ta g fun rs g1 => match valsD rs with
  | some ds => ds.length ≤ 1000000 ∧ Q (.val (.tuple ds)) g1
  | none => False
def dLst (ta : DA) : DL := fun g Q => ta g fun rs g1 => match valsD rs with
  | some ds => ds.length ≤ 1000000 ∧ Q ds g1
  | none => False
def dFz (t : DL) : DE := fun g Q => t g fun ds g1 => Q (.val (.list ds)) g1
theorem mil {n : Nat} (h : n ≤ 1000000) : n ≤ sizeLine := Nat.le_trans h (by decide)
section
variable {K : Fg} {c : Con} {g : Gs} {σ : L2.St} {H F : Hp} {tv : List V} {tr : List Rv} {a : Addr}
/-- the new list stands still from now on -/
theorem Sta.still (s : Sta K c g σ H tv tr F a) {v : V} {ds : List Da} (h : NewL K c g σ H F a v ds) : ∃ F', Sta K c g σ H (v :: tv) (.val (.list ds) :: tr) F' a := by
  obtain ⟨o, xs, rfl, q2, q3, q4, q5, q6, q7⟩ := h.ex
  have ef : Ex F (upd F o (.lst xs)) := Ex.new q2
  have ro : Rp K (upd F o (.lst xs)) (.ref o) (.list ds) := .lst upd_same (q5.up ef)
  refine ⟨upd F o (.lst xs), s.e0.trans ef, fun b u q => ?_, s.keep, fun b q => ?_, s.ex, s.ow, fun n hn => ?_, .cons ro (s.tmp.up ef), s.len, fun j sv hj => ?_, s.dis, s.t0.lst q4 q2, s.tab⟩
  · by_cases hb : b = o
    · subst hb; rw [upd_same] at q; cases q; exact q4
    · rw [upd_ne hb] at q; exact s.eh b u q
  · by_cases hb : b = o
    · subst hb; exact .inr q3
    · rw [upd_ne hb] at q; exact s.new b q
  · obtain ⟨z1, z2⟩ := s.src n hn
    refine ⟨?_, z2⟩
    rw [upd_ne (fun z => q6 (ne_none hn) z.symm)]; exact z1
  · obtain ⟨v, w1, w2⟩ := s.slot j sv hj
    refine ⟨v, w1, ?_⟩
    cases sv with
    | val d => exact Rp.up w2 ef
    | src => exact w2
    | scr ns => obtain ⟨b, z1, z2⟩ := w2; exact ⟨b, z1, ex_l ef z2⟩
    | ob k => exact ObOk.up ef w2
    | own es =>
      obtain ⟨o', ys, r1, r2, r3, r4, r5, r6⟩ := w2
      have ne : o' ≠ o := fun z => q7 j es hj (by rw [w1, r1, z])
      exact ⟨o', ys, r1, by rw [upd_ne ne]; exact r2, r3, r4, r5.up ef, r6⟩
/-- a list laid at a free address -/
theorem Sta.laid (s : Sta K c g σ H tv tr F a) {p : Addr} (hp : H p = none) {xs : List V} {ds : List Da} (m : Rps K F xs ds) : Sta K c g σ (upd H p (.lst xs)) tv tr F a ∧ NewL K c g σ (upd H p (.lst xs)) F a (.ref p) ds := by
  have fp : F p = none := fresh_back s.eh hp
  have eH : Ex H (upd H p (.lst xs)) := Ex.new hp
  refine ⟨s.grow ⟨Ex.refl _, eH, s.eh.trans eH, fun b h => .inl h⟩, ⟨p, xs, rfl, fp, s.fresh hp, upd_same, m, fun hf z => ?_, fun i es hi z => ?_⟩⟩
  · cases q : g.fu with
    | none => exact hf q
    | some n =>
      obtain ⟨_, _, x, y, w, e, _⟩ := s.src n q
      rw [← z, hp] at e; cases e
  · obtain ⟨v, w1, o, ys, r1, r2, r3, r4, _⟩ := s.slot i _ hi
    rw [z] at w1
    cases w1
    cases r1
    rw [hp] at r4; cases r4
end
section
variable {X : Cx} {e : Expr} {es : List Expr} {te : DE} {tr : DA} {tl : DL} {pos : Pos}
theorem a_nil : PA X [] (upA X.K dNil) := pa_to pa_nil fun σ H Q q => by
  obtain ⟨c, g, tv, tr, F, ad, post, s, t, k⟩ := q
  exact k [] g [] H F ad t s rfl
theorem a_cons (h : PE X e (up X.K te)) (hr : PA X es (upA X.K tr)) (hs : starEach (e :: es) X.env = (false, eval e X.env) :: starEach es X.env := by rfl) : PA X (e :: es) (upA X.K (dCons te tr)) := pa_to (pa_cons h hr hs) fun σ H Q q => by
  obtain ⟨c, g, tv, tr, F, ad, post, s, t, k⟩ := q
  refine ⟨c, g, tv, tr, F, ad, _, s, t, fun x g1 v1 H1 F1 a1 t1 s1 => ?_⟩
  refine ⟨c, g1, _, _, F1, a1, _, s1, t1, fun xs g2 vs H2 F2 a2 t2 s2 hl => ?_⟩
  refine k (x :: xs) g2 (v1 :: vs) H2 F2 a2 t2 ?_ (by simp [hl])
  rw [List.reverse_cons, List.reverse_cons, List.append_assoc, List.append_assoc]
  exact s2
theorem e_tup {x1 : Nat} (h : PA X es (upA X.K tr)) : PE X (.Tuple es x1 pos) (up X.K (dTup tr)) := pe_to (pe_tup h) fun σ H Q q => by
  obtain ⟨c, g, tv, tr, F, ad, post, s, t, k⟩ := q
  refine ⟨c, g, tv, tr, F, ad, _, s, t, fun rs g1 vs H1 F1 a1 t1 s1 hl => ?_⟩
  cases q : valsD rs with
  | none => rw [q] at t1; exact t1.elim
  | some ds =>
    rw [q] at t1
    obtain ⟨m1, m2⟩ := s1.tmp.args hl
    have hv := m1.vals q
    refine ⟨by rw [hv.len]; exact mil t1.1, fun p hp => ?_⟩
    have gr := Gr.new (o := .tup vs) s1.eh hp
    exact k _ g1 _ _ _ a1 t1.2 (((s1.pop m2).grow gr).push (r := .val (.tuple ds)) (.tup (.inl (.inl upd_same)) (hv.up gr.f)))
theorem e_lstL (h : PA X es (upA X.K tr)) : PE X (.List es pos) (upL X.K (dLst tr)) := pe_to (pe_lst h) fun σ H Q q => by
  obtain ⟨c, g, tv, tr, F, ad, post, s, t, k⟩ := q
  refine ⟨c, g, tv, tr, F, ad, _, s, t, fun rs g1 vs H1 F1 a1 t1 s1 hl => ?_⟩
  cases q : valsD rs with
  | none => rw [q] at t1; exact t1.elim
  | some ds =>
    rw [q] at t1
    obtain ⟨m1, m2⟩ := s1.tmp.args hl
    have hv := m1.vals q
    refine ⟨by rw [hv.len]; exact mil t1.1, fun p hp => ?_⟩
    obtain ⟨s2, n2⟩ := (s1.pop m2).laid hp hv
    exact k ds g1 _ _ F1 a1 t1.2 s2 n2
theorem e_fz (h : PE X e (upL X.K tl)) : PE X e (up X.K (dFz tl)) := pe_to h fun σ H Q q => by
  obtain ⟨c, g, tv, tr, F, ad, post, s, t, k⟩ := q
  refine ⟨c, g, tv, tr, F, ad, _, s, t, fun ds g1 v H1 F1 a1 t1 s1 n1 => ?_⟩
  obtain ⟨F2, s2⟩ := s1.still n1
  exact k _ g1 v H1 F2 a1 t1 s2
end
def dIx (ta tb : DE) : DE := fun g Q => ta g fun x g1 => tb g1 fun y g2 => match x, y with
  | .val (.tuple ds), .val (.int i) => (match atI ds i with | some z => Q (.val z) g2 | none => False)
  | .val (.list ds), .val (.int i) => (match atI ds i with | some z => Q (.val z) g2 | none => False)
  | .scr ns, .val (.int i) => (match atI ns i with | some z => Q (.val (.int z)) g2 | none => False)
  | _, _ => False
theorem atI_get {K : Fg} {F : Hp} {vs : List V} {ds : List Da} {i : Int} {d : Da} (h : Rps K F vs ds) (e : atI ds i = some d) : ∃ v, atI vs i = some v ∧ Rp K F v d := by
  unfold atI at e ⊢
  rw [h.len]
  cases q : ixN ds.length i with
  | none => rw [q] at e; cases e
  | some j =>
    rw [q] at e
    exact h.get e
section
variable {X : Cx} {a b : Expr} {ta tb : DE} {pos : Pos}
theorem e_ix (ha : PE X a (up X.K ta)) (hb : PE X b (up X.K tb)) (hs : PlainIx b := by exact fun _ _ => rfl) : PE X (.Subscript a b pos) (up X.K (dIx ta tb)) := pe_to (pe_ix ix_seq ha hb hs) fun σ H Q q => by
  obtain ⟨c, g, tv, tr, F, ad, post, s, t, k⟩ := q
  refine ⟨c, g, tv, tr, F, ad, _, s, t, fun x g1 v1 H1 F1 a1 t1 s1 => ?_⟩
  refine ⟨c, g1, _, _, F1, a1, _, s1, t1, fun y g2 v2 H2 F2 a2 t2 s2 => ?_⟩
  have hx := s2.pop1.top
  have hy := s2.top
  have s3 := s2.pop1.pop1
  split at t2
  · rename_i ds i
    split at t2
    · rename_i z e
      have hy' : Rp X.K F2 v2 (.int i) := hy
      have hx' : Rp X.K F2 v1 (.tuple ds) := hx
      cases hy'
      cases hx' with
      | tup sq m =>
        obtain ⟨w, e1, e2⟩ := atI_get m e
        exact .inr (.inl ⟨_, _, i, w, rfl, rfl, ex_t s2.eh sq, e1, k _ g2 w H2 F2 a2 t2 (s3.push (r := .val z) e2)⟩)
    · exact t2.elim
  · rename_i ds i
    split at t2
    · rename_i z e
      have hy' : Rp X.K F2 v2 (.int i) := hy
      have hx' : Rp X.K F2 v1 (.list ds) := hx
      cases hy'
      cases hx' with
      | lst sq m =>
        obtain ⟨w, e1, e2⟩ := atI_get m e
        exact .inl ⟨_, _, i, w, rfl, rfl, .inl (.inl (s2.eh _ _ sq)), e1, k _ g2 w H2 F2 a2 t2 (s3.push (r := .val z) e2)⟩
    · exact t2.elim
  · rename_i ns i
    split at t2
    · rename_i z e
      have hy' : Rp X.K F2 v2 (.int i) := hy
      cases hy'
      obtain ⟨p, rfl, sq⟩ := hx
      have e' : atI (ns.map V.int) i = some (.int z) := by
        unfold atI at e ⊢
        rw [List.length_map]
        cases q : ixN ns.length i with
        | none => rw [q] at e; cases e
        | some j =>
          rw [q] at e
          show (ns.map V.int)[j]? = _
          rw [List.getElem?_map, show ns[j]? = some z from e]
          rfl
      exact .inl ⟨p, _, i, _, rfl, rfl, ex_l s2.eh sq, e', k _ g2 _ H2 F2 a2 t2 (s3.push (r := .val (.int z)) (Rp.int z))⟩
    · exact t2.elim
  · exact t2.elim
end
end Z
namespace Z
open L2 PySem PySem.Spec PyProof.Rows
open Evl (Ex ex_l ex_t ex_rd fresh_back)
structure Fn (P : Program) (w : World) (K : Fg) (mg : Str → Option Value) (base : Heap) (CX : CXT) (k : Nat) (f : Addr) (fd : FuncData) (ps : List Str) (sp : Sp) : Prop where
  len : ∀ vs H Q E, sp vs H Q E → vs.length = ps.length
  run : ∀ (A : Around) (outer : List Env) (s : Shared) (H : Hp) (args : Args) (us : List Value) (vs : List V) (Q : VK) (E : XK), Room k A → A.guards = some [] →
    Env0 P w K mg base A outer s H → BindsTo s fd args (ps.zip us) → Vals vs us → sp vs H Q E → codeAny (model P w) A (.call (.ref f) args) (CR CX outer P w H s Q E) s
theorem Fn.mono {P : Program} {w : World} {K : Fg} {mg : Str → Option Value} {base : Heap} {CX : CXT} {j k : Nat} {f : Addr} {fd : FuncData} {ps : List Str} {sp : Sp} (F : Fn P w K mg base CX j f fd ps sp) (h : j ≤ k) : Fn P w K mg base CX k f fd ps sp :=
  ⟨F.len, fun A outer s H args us vs Q E hr hg => F.run A outer s H args us vs Q E (hr.mono h) hg⟩
section
variable {P : Program} {w : World} {K : Fg} {mg : Str → Option Value} {base : Heap} {CX : CXT}
theorem fn_by {x qual : Str} {st : Stmt} {f : Addr} {fd : FuncData} {N ps : List Str} {k : Nat} {sp : Sp} (Fu : Fun K x qual st f fd) (S : FnScope N ps (defScope st)) (len : ∀ vs H Q E, sp vs H Q E → vs.length = ps.length)
    (hbody : ∀ (cdv : Value) (A : Around) (outer : List Env) (s : Shared) (H : Hp) (vs : List V) (Q : VK) (E : XK), Room k (A.deeper (envOfC qual (defScope st) s.heap.objs.size f cdv)) →
      (A.deeper (envOfC qual (defScope st) s.heap.objs.size f cdv)).guards = some [] → sp vs H Q E →
      ∃ t, PSs (cxOf CX P w K mg base N qual (defScope st) f cdv A outer s H E) (defBody st) t ∧ t { nx := fun _ H' => Q .non H', rt := Q } (start N vs) H) : Fn P w K mg base CX (k + 1) f fd ps sp := by
  obtain ⟨oc, od, kV, doc, pm, an, cdv, ct, osl, rfl, lk, hcd⟩ := Fu.ex
  refine ⟨len, fun A outer s H args us vs Q E hr hg e0 hb r hsp => ?_⟩
  have KX : K.In s.heap := e0.mod.kin.keeps fun b o e => (e0.bs b o e).1
  have kinds : ∀ y ∈ ps.zip us, (defScope st).names.lookup y.1 = some .local ∨ ((defScope st).names.lookup y.1 = some .cell ∧ ((cellsFrom (s.heap.objs.size + 1) (defScope st).names []).lookup y.1).isSome = true) := by
    rintro ⟨n, v⟩ hy
    exact (S.par n (List.of_mem_zip hy).1).imp id fun q => ⟨q, PySem.W.cellsFrom_some _ _ _ (.inl q)⟩
  refine codeAny_call_function hr.depth (KX _ _ lk) rfl S.co S.gen rfl (PySem.W.codeRec_of KX hcd) (hb _ _ _ _ (wpAny_newFunctionEnv_cells S.kind kinds fun env he s1 x => ?_))
  subst he
  refine ⟨(e0.mod.nolimit.keeps fun b o e => (e0.bs b o e).1).keeps x.toInCall.keep, codeAny_func ?_⟩
  obtain ⟨t, ht, hq⟩ := hbody cdv A outer s H vs Q E (hr.deeper _) hg hsp
  refine wpAny_mono (ht.run [] s1 (start N vs) H _ (inv_start S hr.hd e0 (len _ _ _ _ hsp) r x) hq) (fun fl s' hs => ?_) fun e s' hs => hs
  match fl, hs with
  | .ret u, ⟨v, σ', H', J, rv, q⟩ => exact ⟨v, H', J.os, J.bare, J.base, J.hok, rv, q⟩
  | .next, ⟨σ', H', J, q⟩ => exact ⟨.non, H', J.os, J.bare, J.base, J.hok, rfl, q⟩
  | .brk, ⟨_, _, _, q⟩ => exact q.elim
  | .cont, ⟨_, _, _, q⟩ => exact q.elim
end
section
variable {X : Cx} {CX : CXT} {k : Nat} {f : Addr} {fd : FuncData} {ps : List Str} {sp : Sp} {dvs : List V} {ds : List Value} {E : XK} {x : Str} {p pos : Pos} {e : Expr} {es : List Expr} {t : TA}
theorem fn_run {pins : List (Addr × Obj)} {σ : L2.St} {H : Hp} {s : Shared} {Q : VK} {args : Args} {us : List Value} {vs : List V} (F : Fn X.prog X.w X.K X.mg X.base CX k f fd ps sp) (hr : Room k X.A) (hg : X.A.guards = some []) (hx : Passes CX X E)
    (I : Inv X pins σ H s) (hb : BindsTo s fd args (ps.zip us)) (r : Vals vs us) (h : sp vs H Q E) : codeAny (model X.prog X.w) X.A (.call (.ref f) args) (fun r s' => match r with
      | .ok (.ret u) => EP X pins σ Q u s'
      | .ok _ => False
      | .error e => X.xe e s') s := by
  refine codeAny_mono (F.run X.A X.stack s H args us vs Q E hr hg I.env0 hb r h) fun r s' hq => ?_
  match r, hq with
  | .error e, hq => exact hx pins σ H s e s' I hq
  | .ok (.ret u), hq => exact I.after hq
  | .ok .next, hq => exact False.elim hq
  | .ok .brk, hq => exact False.elim hq
  | .ok .cont, hq => exact False.elim hq
theorem call_fin {pins : List (Addr × Obj)} {σ : L2.St} {H : Hp} {s : Shared} {Q : VK} {us : List Value} {vs : List V} (F : Fn X.prog X.w X.K X.mg X.base CX k f fd ps sp) (hr : Room k X.A) (hg : X.A.guards = some []) (hx : Passes CX X E)
    (I : Inv X pins σ H s) (hb : Binds X.K fd ps []) (r : Vals vs us) (h : sp vs H Q E) : wpAny (model X.prog X.w) X.A (call (.ref f) us) (EP X pins σ Q) X.xe s := by
  have hl : us.length = ps.length := by rw [← r.length]; exact F.len _ _ _ _ h
  have hb' := hb s us I.kIn (by rw [List.append_nil]; exact hl)
  rw [List.append_nil] at hb'
  refine wpAny_call (codeAny_mono (fn_run F hr hg hx I hb' r h) fun r s' hq => ?_)
  match r, hq with
  | .error e, hq => exact hq
  | .ok (.ret u), hq => exact hq
  | .ok .next, hq => exact hq.elim
  | .ok .brk, hq => exact hq.elim
  | .ok .cont, hq => exact hq.elim
theorem pe_fn (F : Fn X.prog X.w X.K X.mg X.base CX k f fd ps sp) (hr : Room k X.A) (hgd : X.A.guards = some []) (hg : Gl X x) (hm : X.mg x = some (.ref f)) (hk : PySem.W.keepIn X.K (.ref f) = true) (hb : Binds X.K fd ps []) (hx : Passes CX X E)
    (ha : PA X (e :: es) t) (hdb : (x == ("__debug__" : Str)) = false := by decide) (he : starEach (e :: es) X.env = (false, eval e X.env) :: starEach es X.env := by rfl) (hpl : (backTo pos (starEach es X.env)).any (·.1) = false := by rfl) :
    PE X (.Call (.Name x p) (e :: es) [] pos) (fun σ H Q => t σ H fun vs H1 => sp vs H1 Q E) :=
  ⟨fun pins s σ H Q I h => wpAny_Call_Name_kw (ld_glob I hg hm (PySem.W.callWith_K (h₀ := X.base) I.ok.mod.kin hk (thn (ha.run pos pins s σ H _ I h) fun us s1 ⟨vs, H1, I1, r, q⟩ => ⟨I1.kIn, call_fin F hr hgd hx I1 hb r q⟩) he hpl) hdb)⟩
end
abbrev FSp := List Rv → Option Nat → (Rr → Option Nat → Prop) → Prop
def RrOk (K : Fg) (F' H H' : Hp) (v : V) : Rr → Prop
  | .val d => Rp K F' v d
  | .own ds => ∃ o xs, v = .ref o ∧ H o = none ∧ F' o = none ∧ H' o = some (.lst xs) ∧ Rps K F' xs ds
  | .exc _ _ => False
/-- how a call lies behind: still part, heap, source -/
structure Out (K : Fg) (F H : Hp) (a : Addr) (fu : Option Nat) (fu' : Option Nat) (F' H' : Hp) (v : V) (r : Rr) : Prop where
  f : Ex F F'
  s : Ex F' H'
  keep : ∀ b o, (fu ≠ none → b ≠ a) → NT o → H b = some o → H' b = some o
  new : ∀ b, F' b ≠ none → F b ≠ none ∨ H b = none
  src : fu ≠ none → ∃ n, fu' = some n ∧ F' a = none ∧ SrcAt H' a n
  rep : RrOk K F' H H' v r
  tab : TbS H H'
  tk : TabK K F' H'
def lift (K : Fg) (np : Nat) (fs : FSp) : Sp := fun vs H Q _ => ∃ F a rs fu post, Ex F H ∧ Tm K F a fu vs rs ∧ vs.length = np ∧ (∀ n, fu = some n → F a = none ∧ SrcAt H a n) ∧ TabK K F H ∧ fs rs fu post ∧
  ∀ r fu' v H' F', post r fu' → Out K F H a fu fu' F' H' v r → Q v H'
theorem lift_len {K : Fg} {np : Nat} {fs : FSp} (vs : List V) (H : Hp) (Q : VK) (E : XK) (h : lift K np fs vs H Q E) : vs.length = np := by
  obtain ⟨_, _, _, _, _, _, _, h, _⟩ := h
  exact h
def rrv : Rr → Rv
  | .val d => .val d
  | .own ds => .val (.list ds)
  | .exc _ _ => .val .none
def dCall (np : Nat) (fs : FSp) (ta : DA) : DE := fun g Q => ta g fun rs g1 => rs.length = np ∧ match hasSrc rs with
  | true => fs rs g1.fu fun r fu' => Q (rrv r) { g1 with fu := fu' }
  | false => fs rs none fun r _ => Q (rrv r) g1
def dCallL (np : Nat) (fs : FSp) (ta : DA) : DL := fun g Q => ta g fun rs g1 => rs.length = np ∧ match hasSrc rs with
  | true => fs rs g1.fu fun r fu' => match r with | .own ds => Q ds { g1 with fu := fu' } | _ => False
  | false => fs rs none fun r _ => match r with | .own ds => Q ds g1 | _ => False
section
variable {K : Fg} {c : Con} {g : Gs} {σ : L2.St} {H F H' F' : Hp} {tv : List V} {tr : List Rv} {a : Addr}
theorem Tm.noSrc : ∀ {vs : List V} {rs : List Rv} {fu : Option Nat}, hasSrc rs = false → Tm K F a fu vs rs → Tm K F a none vs rs
  | _, _, _, _, .nil => .nil
  | _, .val d :: rs, _, h, .cons r t => .cons (show Rp K F _ d from r) (t.noSrc h)
  | _, .scr d :: rs, _, h, .cons r t => .cons r (t.noSrc h)
  | _, .ob d :: rs, _, h, .cons r t => .cons r (t.noSrc h)
  | _, .src :: rs, _, h, .cons r t => by cases h
theorem Tm.fu_ne : ∀ {vs : List V} {rs : List Rv} {fu : Option Nat}, hasSrc rs = true → Tm K F a fu vs rs → fu ≠ none
  | _, _, _, h, .nil => by cases h
  | _, .val d :: rs, _, h, .cons r t => Tm.fu_ne (rs := rs) h t
  | _, .scr d :: rs, _, h, .cons r t => Tm.fu_ne (rs := rs) h t
  | _, .ob d :: rs, _, h, .cons r t => Tm.fu_ne (rs := rs) h t
  | _, .src :: rs, _, h, .cons r t => r.2
theorem Tm.refu {fu fu' : Option Nat} (hf : fu' ≠ none) : ∀ {vs : List V} {rs : List Rv}, Tm K F a fu vs rs → Tm K F a fu' vs rs
  | _, _, .nil => .nil
  | _, .val d :: rs, .cons r t => .cons (show Rp K F _ d from r) (t.refu hf)
  | _, .scr d :: rs, .cons r t => .cons r (t.refu hf)
  | _, .ob d :: rs, .cons r t => .cons r (t.refu hf)
  | _, .src :: rs, .cons r t => .cons ⟨r.1, hf⟩ (t.refu hf)
/-- behind a call that had the source -/
theorem Sta.after1 (s : Sta K c g σ H tv tr F a) {v : V} {r : Rr} {fu' : Option Nat} (hf : g.fu ≠ none) (o : Out K F H a g.fu fu' F' H' v r) : Sta K c { g with fu := fu' } σ H' tv tr F' a := by
  obtain ⟨n', e', na, sa⟩ := o.src hf
  have ne' : fu' ≠ none := ne_none e'
  have oldF : ∀ b, H b ≠ none → F b = none → F' b = none := fun b h1 h2 => by
    cases q : F' b with
    | none => rfl
    | some u =>
      rcases o.new b (ne_none q) with z | z
      · exact absurd h2 z
      · exact absurd z h1
  obtain ⟨n0, e0⟩ : ∃ n, g.fu = some n := by cases q : g.fu with
    | none => exact absurd q hf
    | some n => exact ⟨n, rfl⟩
  obtain ⟨_, sx, _⟩ := s.src n0 e0
  refine ⟨s.e0.trans o.f, o.s, fun b u h1 hn h2 => ?_, fun b q => ?_, fun b h => ⟨(s.ex b h).1, ne'⟩, s.ow, fun n h => ?_, (s.tmp.up o.f).refu ne', s.len, fun i sv h => ?_, s.dis, o.tk, s.tab.trans o.tab⟩
  · refine o.keep b u (fun _ z => ?_) hn (s.keep b u h1 hn h2)
    subst z
    rcases sx with z | ⟨_, z⟩
    · exact h1 z
    · rw [h2] at z; cases z
  · rcases o.new b q with z | z
    · exact s.new b z
    · exact .inr (s.fresh z)
  · have h' : fu' = some n := h
    rw [e'] at h'; cases h'
    exact ⟨na, sx, sa⟩
  · obtain ⟨v, w1, w2⟩ := s.slot i sv h
    refine ⟨v, w1, ?_⟩
    cases sv with
    | val d => exact Rp.up w2 o.f
    | src => exact ⟨w2.1, ne'⟩
    | scr ns => obtain ⟨b, z1, z2⟩ := w2; exact ⟨b, z1, ex_l o.f z2⟩
    | ob k => exact ObOk.up o.f w2
    | own ds =>
      obtain ⟨p, xs, q1, q2, q3, q4, q5, q6⟩ := w2
      exact ⟨p, xs, q1, oldF p (ne_none q4) q2, q3, o.keep p _ (fun _ => q6 hf) (fun _ z => by cases z) q4, q5.up o.f, fun _ => q6 hf⟩
/-- behind a call that had it not -/
theorem Sta.after0 (s : Sta K c g σ H tv tr F a) {v : V} {r : Rr} {fu' : Option Nat} {b : Addr} (o : Out K F H b none fu' F' H' v r) : Sta K c g σ H' tv tr F' a :=
  s.growN o.f (fun x u hn h => o.keep x u (fun z => absurd rfl z) hn h) o.s o.new o.tab o.tk
theorem NewL.of (s : Sta K c g σ H tv tr F a) {g' : Gs} (hs : g'.sl = g.sl) (hfu : g'.fu ≠ none → g.fu ≠ none) {v : V} {ds : List Da} (h : RrOk K F' H H' v (.own ds)) : NewL K c g' σ H' F' a v ds := by
  obtain ⟨o, xs, rfl, q1, q2, q3, q4⟩ := h
  refine ⟨o, xs, rfl, q2, s.fresh q1, q3, q4, fun hf z => ?_, fun i es hi z => ?_⟩
  · cases q : g.fu with
    | none => exact hfu hf q
    | some n =>
      obtain ⟨_, _, x, y, w, e, _⟩ := s.src n q
      rw [← z, q1] at e; cases e
  · rw [hs] at hi
    obtain ⟨v, w1, o', ys, r1, r2, r3, r4, _⟩ := s.slot i _ hi
    rw [z] at w1
    cases w1
    cases r1
    rw [q1] at r4; cases r4
end
section
variable {X : Cx} {k : Nat} {f : Addr} {fd : FuncData} {ps : List Str} {fs : FSp} {x : Str} {p pos : Pos} {e : Expr} {es : List Expr} {tr : DA} {np : Nat} {E : XK} {CX : CXT}
theorem lift_core : ∀ σ H Q, up X.K (dCall np fs tr) σ H Q → upA X.K tr σ H fun vs H1 => lift X.K np fs vs H1 Q E := fun σ H Q q => by
  obtain ⟨c, g, tv, tr, F, ad, post, s, t, k⟩ := q
  refine ⟨c, g, tv, tr, F, ad, _, s, t, fun rs g1 vs H1 F1 a1 t1 s1 hl => ?_⟩
  obtain ⟨hn, t1⟩ := t1
  rw [← hl] at hn
  obtain ⟨m1, m2⟩ := s1.tmp.args hl
  have s2 := s1.pop m2
  cases q : hasSrc rs with
  | true =>
    rw [q] at t1
    have hf := m1.fu_ne q
    refine ⟨F1, a1, rs, g1.fu, _, s1.eh, m1, hn, fun n h => ⟨(s1.src n h).1, (s1.src n h).2.2⟩, s1.tabk, t1, fun r fu' v H' F' hp o => ?_⟩
    have s3 := s2.after1 hf o
    cases r with
    | exc _ _ => exact o.rep.elim
    | val d => exact k _ _ v H' F' a1 hp (s3.push (r := .val d) o.rep)
    | own ds =>
      obtain ⟨F'', s4⟩ := s3.still (NewL.of (g' := { g1 with fu := fu' }) s2 rfl (fun _ => hf) o.rep)
      exact k _ _ v H' F'' a1 hp s4
  | false =>
    rw [q] at t1
    refine ⟨F1, a1, rs, none, _, s1.eh, m1.noSrc q, hn, fun n h => by (cases h), s1.tabk, t1, fun r fu' v H' F' hp o => ?_⟩
    have s3 := s2.after0 o
    cases r with
    | exc _ _ => exact o.rep.elim
    | val d => exact k _ _ v H' F' a1 hp (s3.push (r := .val d) o.rep)
    | own ds =>
      obtain ⟨F'', s4⟩ := s3.still (NewL.of s2 rfl id o.rep)
      exact k _ _ v H' F'' a1 hp s4
theorem liftL_core : ∀ σ H Q, upL X.K (dCallL np fs tr) σ H Q → upA X.K tr σ H fun vs H1 => lift X.K np fs vs H1 Q E := fun σ H Q q => by
  obtain ⟨c, g, tv, tr, F, ad, post, s, t, k⟩ := q
  refine ⟨c, g, tv, tr, F, ad, _, s, t, fun rs g1 vs H1 F1 a1 t1 s1 hl => ?_⟩
  obtain ⟨hn, t1⟩ := t1
  rw [← hl] at hn
  obtain ⟨m1, m2⟩ := s1.tmp.args hl
  have s2 := s1.pop m2
  cases q : hasSrc rs with
  | true =>
    rw [q] at t1
    have hf := m1.fu_ne q
    refine ⟨F1, a1, rs, g1.fu, _, s1.eh, m1, hn, fun n h => ⟨(s1.src n h).1, (s1.src n h).2.2⟩, s1.tabk, t1, fun r fu' v H' F' hp o => ?_⟩
    have s3 := s2.after1 hf o
    cases r with
    | exc _ _ => exact hp.elim
    | val d => exact hp.elim
    | own ds => exact k _ _ v H' F' a1 hp s3 (NewL.of (g' := { g1 with fu := fu' }) s2 rfl (fun _ => hf) o.rep)
  | false =>
    rw [q] at t1
    refine ⟨F1, a1, rs, none, _, s1.eh, m1.noSrc q, hn, fun n h => by (cases h), s1.tabk, t1, fun r fu' v H' F' hp o => ?_⟩
    have s3 := s2.after0 o
    cases r with
    | exc _ _ => exact hp.elim
    | val d => exact hp.elim
    | own ds => exact k _ _ v H' F' a1 hp s3 (NewL.of s2 rfl id o.rep)
theorem e_call (G : Fn X.prog X.w X.K X.mg X.base CX k f fd ps (lift X.K np fs)) (hr : Room k X.A) (hgd : X.A.guards = some []) (hg : Gl X x) (hm : X.mg x = some (.ref f)) (hk : PySem.W.keepIn X.K (.ref f) = true) (hb : Binds X.K fd ps []) (hx : Passes CX X E)
    (ha : PA X (e :: es) (upA X.K tr)) (hdb : (x == ("__debug__" : Str)) = false := by decide) (he : starEach (e :: es) X.env = (false, eval e X.env) :: starEach es X.env := by rfl) (hpl : (backTo pos (starEach es X.env)).any (·.1) = false := by rfl) :
    PE X (.Call (.Name x p) (e :: es) [] pos) (up X.K (dCall np fs tr)) := pe_to (pe_fn G hr hgd hg hm hk hb hx ha hdb he hpl) lift_core
theorem e_callL (G : Fn X.prog X.w X.K X.mg X.base CX k f fd ps (lift X.K np fs)) (hr : Room k X.A) (hgd : X.A.guards = some []) (hg : Gl X x) (hm : X.mg x = some (.ref f)) (hk : PySem.W.keepIn X.K (.ref f) = true) (hb : Binds X.K fd ps []) (hx : Passes CX X E)
    (ha : PA X (e :: es) (upA X.K tr)) (hdb : (x == ("__debug__" : Str)) = false := by decide) (he : starEach (e :: es) X.env = (false, eval e X.env) :: starEach es X.env := by rfl) (hpl : (backTo pos (starEach es X.env)).any (·.1) = false := by rfl) :
    PE X (.Call (.Name x p) (e :: es) [] pos) (upL X.K (dCallL np fs tr)) := pe_to (pe_fn G hr hgd hg hm hk hb hx ha hdb he hpl) liftL_core
end
end Z
namespace Z
open L2 PySem PySem.Spec PyProof.Rows
open Evl (Ex ex_l ex_t ex_rd fresh_back)
variable {Wx : WX}
def rsv : Rv → Sv
  | .val d => .val d
  | .src => .src
  | .scr ns => .scr ns
  | .ob k => .ob k
section
variable {K : Fg} {c : Con} {g : Gs} {σ : L2.St} {H F : Hp} {tv : List V} {tr : List Rv} {a : Addr}
theorem set_some {α : Type} {l : List α} {i j : Nat} {x y : α} (h : (l.set i x)[j]? = some y) : (j = i ∧ j < l.length ∧ y = x) ∨ (j ≠ i ∧ l[j]? = some y) := by
  by_cases e : j = i
  · subst e
    have hl : j < (l.set j x).length := (List.getElem?_eq_some_iff.mp h).1
    rw [List.length_set] at hl
    rw [List.getElem?_set_self hl] at h
    cases h
    exact .inl ⟨rfl, hl, rfl⟩
  · rw [List.getElem?_set_ne (Ne.symm e)] at h
    exact .inr ⟨e, h⟩
theorem Sta.set {v : V} {r : Rv} (s : Sta K c g σ H (v :: tv) (r :: tr) F a) (i : Nat) : Sta K c (g.set i (rsv r)) (σ.set i (some v)) H tv tr F a := by
  have hr := s.top
  have s0 := s.pop1
  refine ⟨s0.e0, s0.eh, s0.keep, s0.new, s0.ex, s0.ow, s0.src, s0.tmp, ?_, fun j sv hj => ?_, fun j k ds es hjk hj hk => ?_, s0.t0, s0.tab⟩
  · show (σ.set i _).length = (g.sl.set i _).length
    rw [List.length_set, List.length_set]; exact s0.len
  · rcases set_some (show (g.sl.set i (some (rsv r)))[j]? = some (some sv) from hj) with ⟨rfl, hl, e⟩ | ⟨ne, e⟩
    · cases e
      refine ⟨v, List.getElem?_set_self (by rw [s0.len]; exact hl), ?_⟩
      cases r with
      | val d => exact hr
      | src => exact hr
      | scr ns => exact hr
      | ob k => exact hr
    · obtain ⟨w, h1, h2⟩ := s0.slot j sv e
      exact ⟨w, by rw [List.getElem?_set_ne (Ne.symm ne)]; exact h1, h2⟩
  · have no : ∀ k fs, (g.sl.set i (some (rsv r)))[k]? = some (some (Sv.own fs)) → k ≠ i ∧ g.sl[k]? = some (some (Sv.own fs)) := fun k fs h => by
      rcases set_some h with ⟨_, _, e⟩ | z
      · cases r <;> cases e
      · exact z
    obtain ⟨n1, e1⟩ := no j ds hj
    obtain ⟨n2, e2⟩ := no k es hk
    rw [List.getElem?_set_ne (Ne.symm n1), List.getElem?_set_ne (Ne.symm n2)]
    exact s0.dis j k ds es hjk e1 e2
end
abbrev DG := Rv → Gs → (Gs → Prop) → Prop
abbrev DGs := List Da → Gs → (Gs → Prop) → Prop
def upG (K : Fg) (t : DG) : TG := fun v σ H Q => ∃ c g tv tr F a r post, Sta K c g σ H (v :: tv) (r :: tr) F a ∧ t r g post ∧ ∀ g' σ' H' F' a', post g' → Sta K c g' σ' H' tv tr F' a' → Q σ' H'
def upGs (K : Fg) (t : DGs) : TGs := fun vs σ H Q => ∃ c g tv tr F a ds post, Sta K c g σ H (vs ++ tv) (ds.map Rv.val ++ tr) F a ∧ vs.length = ds.length ∧ t ds g post ∧ ∀ g' σ' H' F' a', post g' → Sta K c g' σ' H' tv tr F' a' → Q σ' H'
def dN (i : Nat) : DG := fun r g Q => Q (g.set i (rsv r))
def dT (n : Nat) (t : DGs) : DG := fun r g Q => match r with
  | .val (.tuple ds) => ds.length = n ∧ t ds g Q
  | _ => False
def dTn : DGs := fun ds g Q => match ds with
  | [] => Q g
  | _ => False
def dTc (t : DG) (u : DGs) : DGs := fun ds g Q => match ds with
  | d :: r => t (.val d) g fun g1 => u r g1 Q
  | [] => False
section
variable {X : Cx} {pos : Pos} {e : Expr} {es : List Expr}
theorem pg_to {t t' : TG} (h : PG X e t) (i : ∀ v σ H Q, t' v σ H Q → t v σ H Q) : PG X e t' := ⟨fun pins s v u σ H Q I r q => h.run pins s v u σ H Q I r (i _ _ _ _ q)⟩
theorem pgs_to {t t' : TGs} (h : PGs X es t) (i : ∀ v σ H Q, t' v σ H Q → t v σ H Q) : PGs X es t' := ⟨fun pins s v u σ H Q I r q => h.run pins s v u σ H Q I r (i _ _ _ _ q)⟩
theorem Tm.ofRps {K : Fg} {F : Hp} {a : Addr} {fu : Option Nat} : ∀ {vs : List V} {ds : List Da}, Rps K F vs ds → Tm K F a fu vs (ds.map Rv.val)
  | _, _, .nil => .nil
  | _, _, .cons h t => .cons h (Tm.ofRps t)
theorem g_name {i : Nat} (h : PG X e (gName i)) : PG X e (upG X.K (dN i)) := pg_to h fun v σ H Q q => by
  obtain ⟨c, g, tv, tr, F, a, r, post, s, t, k⟩ := q
  exact k _ _ H F a t (s.set i)
theorem gs_nil : PGs X [] (upGs X.K dTn) := pgs_to pgs_nil fun vs σ H Q q => by
  obtain ⟨c, g, tv, tr, F, a, ds, post, s, hl, t, k⟩ := q
  cases ds with
  | nil =>
    have : vs = [] := List.length_eq_zero_iff.mp hl
    subst this
    exact ⟨rfl, k _ _ H F a t s⟩
  | cons d r => exact t.elim
theorem gs_cons {t : DG} {u : DGs} (h : PG X e (upG X.K t)) (hr : PGs X es (upGs X.K u)) (hs : (assignEach (e :: es) X.env).map (·.2) = assign e X.env :: (assignEach es X.env).map (·.2) := by rfl) : PGs X (e :: es) (upGs X.K (dTc t u)) := pgs_to (pgs_cons h hr hs) fun vs σ H Q q => by
  obtain ⟨c, g, tv, tr, F, a, ds, post, s, hl, t, k⟩ := q
  cases ds with
  | nil => exact t.elim
  | cons d r =>
    cases vs with
    | nil => simp at hl
    | cons v vs =>
      refine ⟨v, vs, rfl, c, g, _, _, F, a, _, _, s, t, fun g1 σ1 H1 F1 a1 t1 s1 => ?_⟩
      exact ⟨c, g1, tv, tr, F1, a1, r, _, s1, by simpa using hl, t1, k⟩
theorem g_tup {n k : Nat} {t : DGs} (hc : X.calm = true) (h : PGs X es (upGs X.K t)) (hn : (assignEach es X.env).length = n := by rfl) (hf : List.findIdx? (fun x => x.1) (assignEach es X.env) = none := by rfl) : PG X (.Tuple es k pos) (upG X.K (dT n t)) :=
  pg_to (pg_tup hc h hn hf) fun v σ H Q q => by
  obtain ⟨c, g, tv, tr, F, a, r, post, s, t, k⟩ := q
  cases r with
  | val d =>
    cases d with
    | tuple ds =>
      have hr : Rp X.K F v (.tuple ds) := s.top
      cases hr with
      | tup sq m =>
        refine ⟨_, _, rfl, ex_t s.eh sq, by rw [m.len]; exact t.1, c, g, tv, tr, F, a, ds, post, s.pop ((Tm.ofRps m).app s.pop1.tmp), m.len, t.2, k⟩
    | _ => exact t.elim
  | _ => exact t.elim
end
def dAsg (te : DE) (t : DG) : DS := fun d g => te g fun r g1 => t r g1 d.nx
def dSeq (t u : DS) : DS := fun d g => t { d with nx := u d } g
def dNext : DS := fun d g => d.nx g
def dIfS (c : DT) (t u : DS) : DS := fun d g => c g fun b g1 => (b = true → t d g1) ∧ (b = false → u d g1)
def dRet (te : DE) : DS := fun d g => te g fun r g1 => match r with
  | .val x => d.rt (.val x) g1
  | _ => False
def dRetL (tl : DL) : DS := fun d g => tl g fun ds g1 => d.rt (.own ds) g1
section
variable {X : Cx} {pos : Pos} {e tg : Expr} {te : DE} {tl : DL}
theorem s_set {i : Nat} {x : Str} {pos' : Pos} (hN : X.N.Nodup) (hi : X.N[i]? = some x) (hx : L2.Loc X.env.scope x) (he : PE X e (up X.K te)) (h1 : swapsWith e (some (.Name x pos')) pos.line X.env = pure false := by rfl)
    (hf : X.fn x = true ∨ X.env.scope.names.lookup x = some .local := by first | exact .inl rfl | exact .inr rfl) : PS X (.Assign [.Name x pos'] e pos) (upS X.K Wx (dAsg te (dN i))) := ps_to (ps_set hN hi hx he h1 hf) fun D σ H q => by
  obtain ⟨c, g, tv, tr, F, a, d, s, hn, t, k⟩ := q
  exact ⟨c, g, tv, tr, F, a, _, s, t, fun r g1 v H1 F1 a1 t1 s1 => k.nx _ _ H1 F1 a1 t1 (s1.set i)⟩
variable {st : Stmt} {rest body : List Stmt} {t u : DS} {ct : DT}
theorem ss_nil : PSs X [] (upS X.K Wx dNext) := pss_to pss_nil fun D σ H q => by
  obtain ⟨c, g, tv, tr, F, a, d, s, hn, t, k⟩ := q
  exact k.nx g σ H F a t s
theorem DD.seq {K : Fg} {Wx : WX} {c : Con} {tv : List V} {tr : List Rv} {d : DEnds} {D : Ends} (k : DD K Wx c tv tr d D) {N : Gs → Prop} {M : L2.St → Hp → Prop} (h : ∀ g σ H F a, N g → Sta K c g σ H tv tr F a → M σ H) : DD K Wx c tv tr { d with nx := N } { D with nx := M } :=
  ⟨h, k.bk, k.ct, k.rv, k.ro, k.rx⟩
theorem ss_cons (h1 : PS X st (upS X.K Wx t)) (h2 : PSs X rest (upS X.K Wx u)) : PSs X (st :: rest) (upS X.K Wx (dSeq t u)) := pss_to (pss_cons h1 h2) fun D σ H q => by
  obtain ⟨c, g, tv, tr, F, a, d, s, hn, t, k⟩ := q
  exact ⟨c, g, tv, tr, F, a, _, s, hn, t, k.seq fun g1 σ1 H1 F1 a1 t1 s1 => ⟨c, g1, tv, tr, F1, a1, d, s1, hn, t1, k⟩⟩
theorem ss_one (h1 : PS X st (upS X.K Wx t)) : PSs X [st] (upS X.K Wx t) := pss_one h1
theorem s_if {c : Expr} {a b : List Stmt} (hc : PT X c (upT X.K ct)) (h1 : PSs X a (upS X.K Wx t)) (h2 : PSs X b (upS X.K Wx u)) : PS X (.If c a b pos) (upS X.K Wx (dIfS ct t u)) := ps_to (ps_if hc h1 h2) fun D σ H q => by
  obtain ⟨c, g, tv, tr, F, a, d, s, hn, t, k⟩ := q
  refine ⟨c, g, tv, tr, F, a, _, s, t, fun b g1 H1 F1 a1 t1 s1 => ?_⟩
  cases b with
  | true => rw [if_pos rfl]; exact ⟨c, g1, tv, tr, F1, a1, d, s1, hn, t1.1 rfl, k⟩
  | false => rw [if_neg Bool.false_ne_true]; exact ⟨c, g1, tv, tr, F1, a1, d, s1, hn, t1.2 rfl, k⟩
theorem s_ret (he : PE X e (up X.K te)) : PS X (.Return (some e) pos) (upS X.K Wx (dRet te)) := ps_to (ps_ret he) fun D σ H q => by
  obtain ⟨c, g, tv, tr, F, a, d, s, hn, t, k⟩ := q
  refine ⟨c, g, tv, tr, F, a, _, s, t, fun r g1 v H1 F1 a1 t1 s1 => ?_⟩
  cases r with
  | val x => exact k.rv x g1 σ v H1 F1 a1 t1 s1
  | _ => exact t1.elim
theorem s_retL (he : PE X e (upL X.K tl)) : PS X (.Return (some e) pos) (upS X.K Wx (dRetL tl)) := ps_to (ps_ret he) fun D σ H q => by
  obtain ⟨c, g, tv, tr, F, a, d, s, hn, t, k⟩ := q
  refine ⟨c, g, tv, tr, F, a, _, s, t, fun ds g1 v H1 F1 a1 t1 s1 n1 => ?_⟩
  obtain ⟨o, xs, q1, q2, q3, q4, q5, q6, _⟩ := n1.ex
  exact k.ro ds g1 σ v H1 F1 a1 t1 s1 ⟨o, xs, q1, q2, q3, q4, q5, q6, fun i es h => by simp at h⟩
end
end Z
namespace Z
open L2 PySem PySem.Spec PyProof.Rows
open Evl (Ex ex_l ex_t ex_rd fresh_back)
variable {Wx : WX}
structure WalkD (K : Fg) (J : It) (ds : List Da) (wv : List V) (wr : List Rv) : Prop where
  goes : ∀ (i : Nat) (F H : Hp) (a : Addr) (fu : Option Nat), Ex F H → Tm K F a fu wv wr → i < ds.length → J.go i H
  stops : ∀ (F H : Hp) (a : Addr) (fu : Option Nat), Ex F H → Tm K F a fu wv wr → J.stop ds.length H
  yields : ∀ (i : Nat) (F H : Hp) (a : Addr) (fu : Option Nat) (x : V) (H' : Hp), Ex F H → Tm K F a fu wv wr → i < ds.length → J.yld i H x H' → ∃ F' d, ds[i]? = some d ∧ Gr F H F' H' ∧ Rp K F' x d
theorem WalkD.walk {K : Fg} {J : It} {ds : List Da} {wv : List V} {wr : List Rv} (w : WalkD K J ds wv wr) : Walk J ds.length (fun H => ∃ F a fu, Ex F H ∧ Tm K F a fu wv wr) J.yld :=
  ⟨fun i H hi ⟨F, a, fu, e, t⟩ => w.goes i F H a fu e t hi, fun H ⟨F, a, fu, e, t⟩ => w.stops F H a fu e t, fun i H x H' hi _ y => y⟩
abbrev DW := Gs → (List Da → Gs → Prop) → Prop
def upI (K : Fg) (tw : DW) : TI := fun σ H R => ∃ c g tv tr F a post, Sta K c g σ H tv tr F a ∧ tw g post ∧
  ∀ ds g' H' F' a' J wv wr, post ds g' → Sta K c g' σ H' (wv ++ tv) (wr ++ tr) F' a' → wv.length = wr.length → hasSrc wr = false → WalkD K J ds wv wr → R J H'
def forD (t : DG) (tb : DS) : List Da → DS
  | [], d, g => d.nx g
  | x :: xs, d, g => t (.val x) g fun g1 => tb { d with nx := forD t tb xs d, ct := forD t tb xs d, bk := d.nx } g1
def dFor (tw : DW) (t : DG) (tb : DS) : DS := fun d g => tw g fun ds g1 => forD t tb ds d g1
theorem drop_at {α : Type} {l : List α} {i : Nat} {x : α} (h : l[i]? = some x) : l.drop i = x :: l.drop (i + 1) := by
  obtain ⟨hi, e⟩ := List.getElem?_eq_some_iff.mp h
  rw [List.drop_eq_getElem_cons hi, e]
section
variable {X : Cx} {tg iter : Expr} {body : List Stmt} {tw : DW} {t : DG} {tb : DS} {pos : Pos}
theorem s_for (hp : PassesOwn (model X.prog X.w) X.A X.env X.xe) (hc : X.calm = true) (hi : PI X tg iter (upI X.K tw)) (hg : PG X tg (upG X.K t)) (hb : PSs X body (upS X.K Wx tb)) (hfs : ∀ x, foldedSetIterable iter X.env x = pure x := by intro _; rfl) :
    PS X (.For tg iter body [] pos) (upS X.K Wx (dFor tw t tb)) := ps_to (ps_for hp hc hi hg hb hfs) fun D σ H q => by
  obtain ⟨c, g, tv, tr, F, a, d, s, hn, q, k⟩ := q
  refine ⟨c, g, tv, tr, F, a, _, s, q, fun ds g' H' F' a' J wv wr hf s' hl hw wd => ?_⟩
  have w := wd.walk
  have sp : ∀ {g : Gs} {σ : L2.St} {H F : Hp} {a : Addr}, Sta X.K c g σ H (wv ++ tv) (wr ++ tr) F a → Tm X.K F a g.fu wv wr ∧ Tm X.K F a g.fu tv tr := fun s => Tm.split hl s.tmp
  refine for_it w (fun i σ H => ∃ g F a, Sta X.K c g σ H (wv ++ tv) (wr ++ tr) F a ∧ forD t tb (ds.drop i) d g) ⟨g', F', a', s', hf⟩ (fun i σ H hi p => ?_) (fun i x σ H H' hi p y => ?_) (fun σ H p => ?_)
  · obtain ⟨g, F, a, s, _⟩ := p
    exact ⟨F, a, g.fu, s.eh, (sp s).1⟩
  · obtain ⟨g, F, a, s, f⟩ := p
    obtain ⟨F2, dx, e1, gr, rx⟩ := wd.yields i F H a g.fu x H' s.eh (sp s).1 hi y
    rw [drop_at e1] at f
    refine ⟨c, g, wv ++ tv, wr ++ tr, F2, a, .val dx, _, (s.grow gr).push (r := .val dx) rx, f, fun g1 σ1 H1 F1 a1 t1 s1 => ?_⟩
    refine ⟨c, g1, wv ++ tv, wr ++ tr, F1, a1, _, s1, hasSrc_app hw hn, t1, ⟨fun g2 σ2 H2 F2 a2 h s2 => ⟨g2, F2, a2, s2, h⟩, fun g2 σ2 H2 F2 a2 h s2 => k.nx g2 σ2 H2 F2 a2 h (s2.pop (sp s2).2), fun g2 σ2 H2 F2 a2 h s2 => ⟨g2, F2, a2, s2, h⟩, fun x g2 σ2 v H2 F2 a2 h s2 => ?_, fun es g2 σ2 v H2 F2 a2 h s2 n2 => ?_, fun nm z g2 σ2 H2 F2 a2 cls dd h s2 ox => k.rx nm z g2 σ2 H2 F2 a2 cls dd h (s2.pop (sp s2).2) ox⟩⟩
    · exact k.rv x g2 σ2 v H2 F2 a2 h ((s2.pop1.pop (sp s2.pop1).2).push (r := .val x) s2.top)
    · exact k.ro es g2 σ2 v H2 F2 a2 h (s2.pop (sp s2).2) n2
  · obtain ⟨g, F, a, s, f⟩ := p
    rw [List.drop_length] at f
    exact k.nx g σ H F a f (s.pop (sp s).2)
end
theorem walkD_list {K : Fg} {p : Addr} {ds : List Da} : WalkD K (Itl K p) ds [.ref p] [.val (.list ds)] := by
  have get : ∀ {F H : Hp} {a : Addr} {fu : Option Nat}, Ex F H → Tm K F a fu [.ref p] [.val (.list ds)] → ∃ xs, SqL K H p xs ∧ Rps K F xs ds := fun {F H a fu} e t => by
    cases t with
    | cons h _ =>
      have h' : Rp K F (.ref p) (.list ds) := h
      cases h' with
      | lst sq m => exact ⟨_, .inl (.inl (e _ _ sq)), m⟩
  refine ⟨fun i F H a fu e t hi => ?_, fun F H a fu e t => ?_, fun i F H a fu x H' e t hi y => ?_⟩
  · obtain ⟨xs, sq, m⟩ := get e t
    obtain ⟨v, h1, _⟩ := m.get (List.getElem?_eq_getElem hi)
    exact ⟨xs, v, sq, h1⟩
  · obtain ⟨xs, sq, m⟩ := get e t
    exact ⟨xs, sq, Nat.le_of_eq m.len⟩
  · obtain ⟨xs, sq, m⟩ := get e t
    obtain ⟨v, h1, h2⟩ := m.get (List.getElem?_eq_getElem hi)
    obtain ⟨rfl, hx⟩ := y
    rw [hx xs sq] at h1
    cases h1
    exact ⟨F, _, List.getElem?_eq_getElem hi, Gr.refl e, h2⟩
theorem walkD_tup {K : Fg} {p : Addr} {ds : List Da} : WalkD K (Itt K p) ds [.ref p] [.val (.tuple ds)] := by
  have get : ∀ {F H : Hp} {a : Addr} {fu : Option Nat}, Ex F H → Tm K F a fu [.ref p] [.val (.tuple ds)] → ∃ xs, SqT K H p xs ∧ Rps K F xs ds := fun {F H a fu} e t => by
    cases t with
    | cons h _ =>
      have h' : Rp K F (.ref p) (.tuple ds) := h
      cases h' with
      | tup sq m => exact ⟨_, ex_t e sq, m⟩
  refine ⟨fun i F H a fu e t hi => ?_, fun F H a fu e t => ?_, fun i F H a fu x H' e t hi y => ?_⟩
  · obtain ⟨xs, sq, m⟩ := get e t
    obtain ⟨v, h1, _⟩ := m.get (List.getElem?_eq_getElem hi)
    exact ⟨xs, v, sq, h1⟩
  · obtain ⟨xs, sq, m⟩ := get e t
    exact ⟨xs, sq, Nat.le_of_eq m.len⟩
  · obtain ⟨xs, sq, m⟩ := get e t
    obtain ⟨v, h1, h2⟩ := m.get (List.getElem?_eq_getElem hi)
    obtain ⟨rfl, hx⟩ := y
    rw [hx xs sq] at h1
    cases h1
    exact ⟨F, _, List.getElem?_eq_getElem hi, Gr.refl e, h2⟩
theorem walkD_scr {K : Fg} {p : Addr} {ns : List Int} : WalkD K (Itl K p) (ns.map PyData.int) [.ref p] [.scr ns] := by
  have get : ∀ {F H : Hp} {a : Addr} {fu : Option Nat}, Ex F H → Tm K F a fu [.ref p] [.scr ns] → SqL K H p (ns.map V.int) := fun {F H a fu} e t => by
    cases t with
    | cons h _ =>
      obtain ⟨b, e1, sq⟩ := h
      cases e1
      exact ex_l e sq
  refine ⟨fun i F H a fu e t hi => ?_, fun F H a fu e t => ?_, fun i F H a fu x H' e t hi y => ?_⟩
  · rw [List.length_map] at hi
    exact ⟨_, _, get e t, by rw [List.getElem?_map, List.getElem?_eq_getElem hi]; rfl⟩
  · exact ⟨_, get e t, by rw [List.length_map, List.length_map]; exact Nat.le_refl _⟩
  · obtain ⟨rfl, hx⟩ := y
    rw [List.length_map] at hi
    have h1 := hx _ (get e t)
    rw [List.getElem?_map, List.getElem?_eq_getElem hi] at h1
    cases h1
    exact ⟨F, .int ns[i], by rw [List.getElem?_map, List.getElem?_eq_getElem hi]; rfl, Gr.refl e, .int _⟩
def dItems (te : DE) : DW := fun g Q => te g fun r g1 => match r with
  | .val (.list ds) => Q ds g1
  | .val (.tuple ds) => Q ds g1
  | .scr ns => Q (ns.map PyData.int) g1
  | _ => False
def rangeD (lo : Int) (n : Nat) : List Da := (List.range n).map fun i => .int (lo + (i : Nat))
def dRange1 (te : DE) : DW := fun g Q => te g fun r g1 => match r with
  | .val (.int j) => j < 2 ^ 62 ∧ -(2 ^ 62) ≤ j ∧ Q (rangeD 0 j.toNat) g1
  | _ => False
section
variable {X : Cx} {tg l b : Expr} {te ta tb : DE} {p pos : Pos}
/-- a list, a tuple, the script -/
theorem i_items (hl : PE X l (up X.K te)) : PI X tg l (upI X.K (dItems te)) := by
  refine ⟨fun pins st σ H R I q => ?_⟩
  obtain ⟨c, g, tv, tr, F, a, post, s, t, k⟩ := q
  refine thn (hl.run pins st σ H (fun v H1 => (∃ p xs, v = .ref p ∧ SqL X.K H1 p xs ∧ R (Itl X.K p) H1) ∨ ∃ p xs, v = .ref p ∧ SqT X.K H1 p xs ∧ R (Itt X.K p) H1) I ?_) fun u s1 ⟨x, H1, I1, r1, q1⟩ => ?_
  · refine ⟨c, g, tv, tr, F, a, _, s, t, fun r g1 v H1 F1 a1 t1 s1 => ?_⟩
    cases r with
    | val d =>
      cases d with
      | list ds =>
        have hr : Rp X.K F1 v (.list ds) := s1.top
        cases hr with
        | lst sq m => exact .inl ⟨_, _, rfl, .inl (.inl (s1.eh _ _ sq)), k ds g1 H1 F1 a1 _ [_] [.val (.list ds)] t1 s1 rfl rfl walkD_list⟩
      | tuple ds =>
        have hr : Rp X.K F1 v (.tuple ds) := s1.top
        cases hr with
        | tup sq m => exact .inr ⟨_, _, rfl, ex_t s1.eh sq, k ds g1 H1 F1 a1 _ [_] [.val (.tuple ds)] t1 s1 rfl rfl walkD_tup⟩
      | _ => exact t1.elim
    | scr ns =>
      obtain ⟨b, rfl, sq⟩ := s1.top
      exact .inl ⟨_, _, rfl, ex_l s1.eh sq, k _ g1 H1 F1 a1 _ [_] [.scr ns] t1 s1 rfl rfl walkD_scr⟩
    | src => exact t1.elim
    | ob _ => exact t1.elim
  · have fr := I1.hok.fresh (Nat.le_refl s1.heap.objs.size)
    have fp : ∀ b ∈ [s1.heap.objs.size], FpOk X pins H1 b := fun b hb => by
      cases List.mem_singleton.mp hb
      exact I1.fpOk (Nat.le_refl _) fr
    rcases q1 with ⟨p, xs, rfl, sq, q⟩ | ⟨p, xs, rfl, sq, q⟩
    · cases r1
      obtain ⟨its, rv, pl, hz⟩ := I1.list sq
      exact wpAny_pyIter_list pl.isList ⟨_, _, _, _, H1, rfl, I1.kept (t' := s1.toks) fun b o e => Heap.get?_push_of_some _ e, turn_list p _, ⟨_, Heap.get?_push_size _ rfl, rfl, rfl⟩, fp, q⟩
    · cases r1
      obtain ⟨its, rv, pl, hz⟩ := I1.tuple sq
      exact wpAny_pyIter_tuple (show s1.heap.IsTuple p its.toArray from pl) ⟨_, _, _, _, H1, rfl, I1.kept (t' := s1.toks) fun b o e => Heap.get?_push_of_some _ e, turn_tuple p _, ⟨_, Heap.get?_push_size _ rfl, rfl, rfl⟩, fp, q⟩
theorem pi_to {w w' : TI} (h : PI X tg l w) (i : ∀ σ H R, w' σ H R → w σ H R) : PI X tg l w' := ⟨fun pins s σ H R I q => h.run pins s σ H R I (i _ _ _ q)⟩
theorem rangeD_get {lo : Int} {n i : Nat} (h : i < n) : (rangeD lo n)[i]? = some (.int (lo + (i : Nat))) := by
  unfold rangeD
  rw [List.getElem?_map, List.getElem?_range h]
  rfl
theorem rangeD_len (lo : Int) (n : Nat) : (rangeD lo n).length = n := by
  unfold rangeD
  rw [List.length_map, List.length_range]
theorem walkD_range {K : Fg} {lo : Int} {n : Nat} : WalkD K (Itr lo n) (rangeD lo n) [] [] := by
  refine ⟨fun i F H a fu e t hi => ?_, fun F H a fu e t => ?_, fun i F H a fu x H' e t hi y => ?_⟩
  · rw [rangeD_len] at hi; exact hi
  · rw [rangeD_len]; exact Nat.le_refl n
  · rw [rangeD_len] at hi
    obtain ⟨rfl, rfl⟩ := y
    exact ⟨F, _, rangeD_get hi, Gr.refl e, .int _⟩
theorem i_range1 (hg : Gl X "range") (hm : X.mg "range" = none) (ha : PE X l (up X.K te)) (hs : starEach [l] X.env = [(false, eval l X.env)] := by rfl) : PI X tg (.Call (.Name "range" p) [l] [] pos) (upI X.K (dRange1 te)) :=
  pi_to (pi_range1 hg hm (pa_cons ha pa_nil hs) hs) fun σ H R q => by
  obtain ⟨c, g, tv, tr, F, a, post, s, t, k⟩ := q
  refine ⟨c, g, tv, tr, F, a, _, s, t, fun r g1 v H1 F1 a1 t1 s1 => ?_⟩
  cases r with
  | val d =>
    cases d with
    | int j =>
      have hr : Rp X.K F1 v (.int j) := s1.top
      cases hr
      exact ⟨j, rfl, t1.2.1, t1.1, k _ g1 H1 F1 a1 _ [] [] t1.2.2 s1.pop1 rfl rfl walkD_range⟩
    | _ => exact t1.elim
  | _ => exact t1.elim
end
end Z
namespace Z
open L2 PySem PySem.Spec PyProof.Rows
open Evl (Ex ex_l ex_t ex_rd fresh_back)
variable {Wx : WX}
def upGw (K : Fg) (vs : List Nat) (t : DG) : TG := fun v σ H Q => ∃ c g tv tr F a r post, Sta K c g σ H (v :: tv) (r :: tr) F a ∧ t r g post ∧
  ∀ g' σ' H' F' a', post g' → Sta K c g' σ' H' tv tr F' a' → wipe σ' vs = wipe σ vs → Q σ' H'
theorem wipe_get {σ : L2.St} : ∀ {vs : List Nat} {i : Nat}, i ∉ vs → (wipe σ vs)[i]? = σ[i]?
  | [], _, _ => rfl
  | v :: vs, i, h => by
    show ((wipe σ vs).set v none)[i]? = _
    rw [List.getElem?_set_ne (fun e => h (by rw [e]; exact List.mem_cons_self)), wipe_get fun z => h (List.mem_cons_of_mem _ z)]
theorem wipe_in {σ : L2.St} : ∀ {vs : List Nat} {i : Nat}, i ∈ vs → i < σ.length → (wipe σ vs)[i]? = some none
  | v :: vs, i, h, hl => by
    show ((wipe σ vs).set v none)[i]? = _
    by_cases e : v = i
    · subst e
      exact List.getElem?_set_self (by rw [wipe_length]; exact hl)
    · rw [List.getElem?_set_ne e]
      rcases List.mem_cons.mp h with z | z
      · exact absurd z.symm e
      · exact wipe_in z hl
theorem wipe_set {σ : L2.St} {vs : List Nat} {i : Nat} {x : Option V} (h : i ∈ vs) : wipe (σ.set i x) vs = wipe σ vs := by
  apply List.ext_getElem?
  intro j
  by_cases hj : j ∈ vs
  · by_cases hl : j < σ.length
    · rw [wipe_in hj (by rw [List.length_set]; exact hl), wipe_in hj hl]
    · rw [List.getElem?_eq_none (by rw [wipe_length, List.length_set]; omega), List.getElem?_eq_none (by rw [wipe_length]; omega)]
  · rw [wipe_get hj, wipe_get hj, List.getElem?_set_ne (fun e => hj (by rw [← e]; exact h))]
section
variable {X : Cx} {pos : Pos} {e : Expr} {es : List Expr} {vs : List Nat} {K : Fg}
theorem gw_name {i : Nat} (hk : K = X.K) (h : PG X e (gName i)) (hi : i ∈ vs) : PG X e (upGw K vs (dN i)) := pg_to h fun v σ H Q q => by
  subst hk
  obtain ⟨c, g, tv, tr, F, a, r, post, s, t, k⟩ := q
  exact k _ _ H F a t (s.set i) (wipe_set hi)
end
def noOwn : Option Sv → Option Sv
  | some (.own _) => none
  | x => x
def wipeS (sl : List (Option Sv)) : List Nat → List (Option Sv)
  | [] => sl
  | v :: vs => (wipeS sl vs).set v none
def hide (vs : List Nat) (sl : List (Option Sv)) : List (Option Sv) := wipeS (sl.map noOwn) vs
theorem wipeS_len (sl : List (Option Sv)) : ∀ vs, (wipeS sl vs).length = sl.length
  | [] => rfl
  | v :: vs => by
    show ((wipeS sl vs).set v none).length = _
    rw [List.length_set, wipeS_len sl vs]
theorem wipeS_some {sl : List (Option Sv)} : ∀ {vs : List Nat} {i : Nat} {s : Sv}, (wipeS sl vs)[i]? = some (some s) → i ∉ vs ∧ sl[i]? = some (some s)
  | [], _, _, h => ⟨by simp, h⟩
  | v :: vs, i, s, h => by
    rcases set_some (show ((wipeS sl vs).set v none)[i]? = some (some s) from h) with ⟨_, _, e⟩ | ⟨ne, e⟩
    · cases e
    · obtain ⟨h1, h2⟩ := wipeS_some e
      exact ⟨by simp only [List.mem_cons, not_or]; exact ⟨ne, h1⟩, h2⟩
theorem hide_some {sl : List (Option Sv)} {vs : List Nat} {i : Nat} {s : Sv} (h : (hide vs sl)[i]? = some (some s)) : i ∉ vs ∧ sl[i]? = some (some s) ∧ ∀ ds, s ≠ .own ds := by
  obtain ⟨h1, h2⟩ := wipeS_some h
  rw [List.getElem?_map] at h2
  cases q : sl[i]? with
  | none => rw [q] at h2; cases h2
  | some x =>
    rw [q] at h2
    have h3 : noOwn x = some s := Option.some.inj h2
    refine ⟨h1, ?_, fun ds e => ?_⟩
    · cases x with
      | none => cases h3
      | some y => cases y <;> first | (cases h3; rfl) | cases h3
    · subst e
      cases x with
      | none => cases h3
      | some y => cases y <;> cases h3
def fuN (fu fu' : Option Nat) : Option Nat := match fu with
  | some _ => fu'
  | none => none
def lcD (sl : List (Option Sv)) (t : DG) (tt : DT) (te : DE) : List Da → List Da → Option Nat → (List Da → Option Nat → Prop) → Prop
  | [], acc, fu, Q => Q acc fu
  | x :: xs, acc, fu, Q => t (.val x) ⟨sl, fu, false⟩ fun g1 => tt g1 fun b g2 =>
    (b = true → te g2 fun r g3 => match r with
      | .val d => acc.length < 1000000 ∧ lcD sl t tt te xs (acc ++ [d]) (fuN fu g3.fu) Q
      | _ => False) ∧ (b = false → lcD sl t tt te xs acc (fuN fu g2.fu) Q)
def dYes : DT := fun g Q => Q true g
def dLc (vs : List Nat) (tw : DW) (t : DG) (tt : DT) (te : DE) : DL := fun g Q => tw g fun ds g1 => lcD (hide vs g1.sl) t tt te ds [] g1.fu fun acc fu' => Q acc { g1 with fu := fu' }
section
variable {K : Fg} {F1 H1 F H : Hp} {a D : Addr} {fu0 fu : Option Nat} {acc : List Da}
/-- behind a turn: from the nested entry back to the one ahead of the comprehension -/
theorem Out.turn (o : Out K F1 H1 a fu0 fu F H (.ref D) (.own acc)) {g : Gs} {σ : L2.St} {H4 F4 : Hp} {tv : List V} {tr : List Rv} {a4 : Addr} (hfu : fu0 = none → fu = none) (hD : fu0 ≠ none → D ≠ a) (s : Sta K ⟨F, H, if fu = none then none else some a⟩ g σ H4 tv tr F4 a4) :
    (fu0 ≠ none → a4 = a) ∧ F4 D = none ∧ (fu0 = none → fuN fu g.fu = none) ∧ (∃ xs, H4 D = some (.lst xs) ∧ Rps K F4 xs acc) ∧ Out K F1 H1 a fu0 (fuN fu g.fu) F4 H4 (.ref D) (.own acc) := by
  obtain ⟨o', xs, eD, d1, d2, d3, d4⟩ := o.rep
  cases eD
  have fne : fu0 ≠ none → fu ≠ none := fun hf => by
    obtain ⟨n, e, _⟩ := o.src hf
    exact ne_none e
  have ext1 : fu0 ≠ none → (if fu = none then none else some a : Option Addr) = some a := fun hf => if_neg (fne hf)
  have ext0 : ∀ b, (fu0 ≠ none → b ≠ a) → (if fu = none then none else some a : Option Addr) ≠ some b := fun b hb => by
    by_cases hf : fu = none
    · rw [if_pos hf]; exact fun z => nomatch z
    · rw [if_neg hf]
      intro z
      cases z
      exact hb (fun z => hf (hfu z)) rfl
  have a4e : fu0 ≠ none → a4 = a ∧ g.fu ≠ none := fun hf => s.ex a (ext1 hf)
  have hD4 : H4 D = some (.lst xs) := s.keep D _ (ext0 D hD) (fun _ z => by cases z) d3
  have hF4 : F4 D = none := by
    cases q : F4 D with
    | none => rfl
    | some u =>
      rcases s.new D (ne_none q) with z | z
      · exact absurd d2 z
      · have z' : H D = none := z
        rw [d3] at z'; cases z'
  have hn : fu0 = none → fuN fu g.fu = none := fun z => by
    rw [hfu z]; rfl
  refine ⟨fun hf => (a4e hf).1, hF4, hn, ⟨xs, hD4, d4.up s.e0⟩, ⟨o.f.trans s.e0, s.eh, fun b u hb hn e => s.keep b u (ext0 b hb) hn (o.keep b u hb hn e), fun b q => ?_, fun hf => ?_, ⟨D, xs, rfl, d1, hF4, hD4, d4.up s.e0⟩, o.tab.trans s.tab, s.t0⟩⟩
  · rcases s.new b q with z | z
    · exact o.new b z
    · have z' : H b = none := z
      refine .inr ?_
      cases e : H1 b with
      | none => rfl
      | some u =>
        by_cases hb : fu0 ≠ none → b ≠ a
        · cases u with
          | tbl ps =>
            obtain ⟨ps', w⟩ := o.tab b ps e
            rw [w] at z'; cases z'
          | _ => rw [o.keep b _ hb (fun _ z => by cases z) e] at z'; cases z'
        · have hb1 : fu0 ≠ none := fun w => hb fun w' => absurd w w'
          have hb2 : b = a := Classical.byContradiction fun w => hb fun _ => w
          obtain ⟨n, _, _, x, y, w, q', _⟩ := o.src hb1
          rw [hb2, q'] at z'; cases z'
  · obtain ⟨e1, e2⟩ := a4e hf
    subst e1
    cases q : g.fu with
    | none => exact absurd q e2
    | some n =>
      obtain ⟨h1, _, h3⟩ := s.src n q
      cases q2 : fu with
      | none => exact absurd q2 (fne hf)
      | some m => exact ⟨n, rfl, h1, h3⟩
/-- the list at D grows -/
theorem Out.grow (o : Out K F1 H1 a fu0 fu F H (.ref D) (.own acc)) (hD : fu0 ≠ none → D ≠ a) {xs : List V} {v : V} {d : Da} (hx : H D = some (.lst xs)) (m : Rps K F xs acc) (r : Rp K F v d) : Out K F1 H1 a fu0 fu F (upd H D (.lst (xs ++ [v]))) (.ref D) (.own (acc ++ [d])) := by
  obtain ⟨o', ys, eD, d1, d2, d3, d4⟩ := o.rep
  cases eD
  refine ⟨o.f, fun b u q => ?_, fun b u hb hn e => ?_, o.new, fun hf => ?_, ⟨D, _, rfl, d1, d2, upd_same, m.app (.cons r .nil)⟩, o.tab.trans (.but hx (fun _ z => by cases z) fun b u ne h => by rw [upd_ne ne]; exact h), o.tk.but hx (fun _ z => by cases z) fun b u ne h => by rw [upd_ne ne]; exact h⟩
  · have nb : b ≠ D := fun z => by rw [z, d2] at q; cases q
    rw [upd_ne nb]; exact o.s b u q
  · have nb : b ≠ D := fun z => by rw [z, d1] at e; cases e
    rw [upd_ne nb]; exact o.keep b u hb hn e
  · obtain ⟨n, h1, h2, x, y, w, q', h3⟩ := o.src hf
    exact ⟨n, h1, h2, x, y, w, by rw [upd_ne (fun z => hD hf z.symm)]; exact q', h3⟩
end
theorem lc_sta {K : Fg} {c : Con} {g1 : Gs} {σ : L2.St} {H1 F1 : Hp} {tv : List V} {tr : List Rv} {a : Addr} (s : Sta K c g1 σ H1 tv tr F1 a) (vs : List Nat) {fu : Option Nat} {F H : Hp} {D : Addr} {acc : List Da} (o : Out K F1 H1 a g1.fu fu F H (.ref D) (.own acc)) (hfu : g1.fu = none → fu = none) :
    Sta K ⟨F, H, if fu = none then none else some a⟩ ⟨hide vs g1.sl, fu, false⟩ (wipe σ vs) H tv tr F a := by
  have fne : g1.fu ≠ none → fu ≠ none := fun hf => by
    obtain ⟨n, e, _⟩ := o.src hf
    exact ne_none e
  have bne : fu ≠ none → g1.fu ≠ none := fun hf z => hf (hfu z)
  have tm : Tm K F a fu tv tr := by
    cases q : g1.fu with
    | none =>
      have t := s.tmp.up o.f
      rw [q] at t
      rw [hfu q]
      exact t
    | some n => exact (s.tmp.up o.f).refu (fne (ne_none q))
  refine ⟨Ex.refl F, o.s, fun b u _ _ e => e, fun b q => .inl q, fun b e => ?_, fun z => (by cases z), fun n e => ?_, tm, ?_, fun i sv h => ?_, fun i j ds es _ h => ?_, o.tk, .refl⟩
  · by_cases hf : fu = none
    · simp [hf] at e
    · simp [hf] at e
      exact ⟨e, hf⟩
  · have e' : fu = some n := e
    obtain ⟨n', h1, h2, h3⟩ := o.src (bne (ne_none e'))
    rw [e'] at h1
    cases h1
    exact ⟨h2, .inl (if_neg (ne_none e')), h3⟩
  · show (wipe σ vs).length = (hide vs g1.sl).length
    rw [wipe_length]
    unfold hide
    rw [wipeS_len, List.length_map]
    exact s.len
  · obtain ⟨h1, h2, h3⟩ := hide_some (show (hide vs g1.sl)[i]? = some (some sv) from h)
    obtain ⟨v, w1, w2⟩ := s.slot i sv h2
    refine ⟨v, by rw [wipe_get h1]; exact w1, ?_⟩
    cases sv with
    | val d => exact Rp.up w2 o.f
    | src => exact ⟨w2.1, fne w2.2⟩
    | scr ns => obtain ⟨b, z1, z2⟩ := w2; exact ⟨b, z1, ex_l o.f z2⟩
    | ob k => exact ObOk.up o.f w2
    | own ds => exact absurd rfl (h3 ds)
  · obtain ⟨_, _, h3⟩ := hide_some (show (hide vs g1.sl)[i]? = some (some (Sv.own ds)) from h)
    exact absurd rfl (h3 ds)
section
variable {K : Fg} {vs : List Nat} {tw : DW} {t : DG} {tt : DT} {te : DE}
theorem lc_main : ∀ σ H Q, upL K (dLc vs tw t tt te) σ H Q → tLc (upI K tw) (upGw K vs t) (upT K tt) (up K te) vs σ H Q := fun σ H Q q => by
  obtain ⟨c, g, tv, tr, F, a, post, s, q, k⟩ := q
  refine ⟨c, g, tv, tr, F, a, _, s, q, fun ds g1 H1 F1 a1 J wv wr hf s1 hl hw wd D hD => ?_⟩
  have sp : ∀ {g : Gs} {c : Con} {σ : L2.St} {H F : Hp} {a : Addr}, Sta K c g σ H (wv ++ tv) (wr ++ tr) F a → Tm K F a g.fu wv wr ∧ Tm K F a g.fu tv tr := fun s => Tm.split hl s.tmp
  have srcH : g1.fu ≠ none → ∃ n, g1.fu = some n ∧ F1 a1 = none ∧ SrcAt H1 a1 n := fun hf => by
    cases q : g1.fu with
    | none => exact absurd q hf
    | some n => exact ⟨n, rfl, (s1.src n q).1, (s1.src n q).2.2⟩
  have Da1 : g1.fu ≠ none → D ≠ a1 := fun hf e => by
    obtain ⟨n, _, _, x, y, z, q, _⟩ := srcH hf
    rw [← e, hD] at q; cases q
  have o0 : Out K F1 H1 a1 g1.fu g1.fu F1 (upd H1 D (.lst [])) (.ref D) (.own []) := by
    have eH : Ex H1 (upd H1 D (.lst [])) := Ex.new hD
    refine ⟨Ex.refl F1, s1.eh.trans eH, fun b u _ _ e => eH b u e, fun b q => .inl q, fun hf => ?_, ⟨D, [], rfl, hD, fresh_back s1.eh hD, upd_same, .nil⟩, .ex eH, s1.t0.up (Ex.refl _) (fun b ps h => eH b _ h) fun _ h => .inl h⟩
    obtain ⟨n, h1, h2, x, y, z, q, h3⟩ := srcH hf
    exact ⟨n, h1, h2, x, y, z, eH _ _ q, h3⟩
  refine lc_it wd.walk (fun i H => ∃ F fu acc, Out K F1 H1 a1 g1.fu fu F H (.ref D) (.own acc) ∧ (g1.fu = none → fu = none) ∧ lcD (hide vs g1.sl) t tt te (ds.drop i) acc fu fun acc fu' => post acc { g1 with fu := fu' }) ⟨F1, g1.fu, [], o0, id, hf⟩ (fun i H hi p => ?_) (fun i x H H' hi p y => ?_) (fun H p => ?_)
  · obtain ⟨F, fu, acc, o, hfu, _⟩ := p
    have s2 := lc_sta s1 vs o hfu
    exact ⟨F, a1, fu, s2.eh, (sp s2).1⟩
  · obtain ⟨F, fu, acc, o, hfu, f⟩ := p
    have s2 := lc_sta s1 vs o hfu
    obtain ⟨F2, dx, e1, gr, rx⟩ := wd.yields i F H a1 fu x H' s2.eh (sp s2).1 hi y
    rw [drop_at e1] at f
    refine ⟨_, _, wv ++ tv, wr ++ tr, F2, a1, .val dx, _, (s2.grow gr).push (r := .val dx) rx, f, fun g3 σ3 H3 F3 a3 t3 s3 w3 => ⟨?_, ?_⟩⟩
    · rw [w3]
      apply List.ext_getElem?
      intro j
      by_cases hj : j ∈ vs
      · by_cases hl : j < σ.length
        · rw [wipe_in hj (by rw [wipe_length]; exact hl), wipe_in hj hl]
        · rw [List.getElem?_eq_none (by rw [wipe_length, wipe_length]; omega), List.getElem?_eq_none (by rw [wipe_length]; omega)]
      · rw [wipe_get hj, wipe_get hj]
    · refine ⟨_, g3, _, _, F3, a3, _, s3, t3, fun b g4 H4 F4 a4 t4 s4 => ?_⟩
      cases b with
      | true =>
        rw [if_pos rfl]
        refine ⟨_, g4, _, _, F4, a4, _, s4, t4.1 rfl, fun r g5 v H5 F5 a5 t5 s5 => ?_⟩
        cases r with
        | val d =>
          obtain ⟨ae, fD, fn, ⟨xs, hx, m⟩, o5⟩ := o.turn hfu Da1 s5.pop1
          exact ⟨xs, hx, by rw [m.len]; exact Nat.lt_of_lt_of_le t5.1 (by decide), F5, _, _, o5.grow Da1 hx m s5.top, fn, t5.2⟩
        | _ => exact t5.elim
      | false =>
        rw [if_neg Bool.false_ne_true]
        obtain ⟨ae, fD, fn, ⟨xs, hx, m⟩, o5⟩ := o.turn hfu Da1 s4
        exact ⟨F4, _, _, o5, fn, t4.2 rfl⟩
  · obtain ⟨F, fu, acc, o, hfu, f⟩ := p
    rw [List.drop_length] at f
    have s1' := s1.pop (sp s1).2
    by_cases hf : g1.fu = none
    · have o' := o
      rw [hf] at o'
      have s3 := s1'.after0 o'
      have e : ({ g1 with fu := fu } : Gs) = g1 := by
        rw [hfu hf, ← hf]
      refine k acc _ _ H F a1 f ?_ ?_
      · rw [e]; exact s3
      · rw [e]; exact NewL.of s1' rfl id o.rep
    · exact k acc _ _ H F a1 f (s1'.after1 hf o) (NewL.of (g' := { g1 with fu := fu }) s1' rfl (fun _ => hf) o.rep)
end
section
variable {X : Cx} {elt tg iter : Expr} {ifs : List Expr} {scope : Scope} {own : List (Str × Nat)} {pos spos : Pos} {tw : DW} {t : DG} {tt : DT} {te : DE}
theorem ts_yes : PTs X [] (upT X.K dYes) := ⟨fun pins s σ H Q I q => by
  obtain ⟨c, g, tv, tr, F, a, post, st, t, k⟩ := q
  exact pts_nil.run pins s σ H Q I (k true g H F a t st)⟩
theorem e_lc (hc : X.calm = true) (hN : X.N.Nodup) (hi : PI X tg iter (upI X.K tw)) (hb : BlkOk X.N X.env.scope scope own)
    (hg : ∀ s H C cl fp, PG (X.blk s H scope (compEnvC scope cl C X.env) fp) tg (upGw X.K (own.map (·.2)) t)) (ht : ∀ s H C cl fp, PTs (X.blk s H scope (compEnvC scope cl C X.env) fp) ifs (upT X.K tt))
    (he : ∀ s H C cl fp, PE (X.blk s H scope (compEnvC scope cl C X.env) fp) elt (up X.K te)) (hfs : ∀ x, foldedSetIterable iter X.env x = pure x := by intro _; rfl) :
    PE X (.ListComp elt [{ target := tg, iter := iter, ifs := ifs, is_async := 0 }] scope pos) (upL X.K (dLc (own.map (·.2)) tw t tt te)) := pe_to (pe_lc hc hN hi hb hg ht he hfs) lc_main
end
end Z
namespace Z
open L2 PySem PySem.Spec PyProof.Rows
open Evl (Ex ex_l ex_t ex_rd fresh_back)
abbrev CF := List Rv → (Da → Prop) → Prop
def dCB (f : CF) (ta : DA) : DE := fun g Q => ta g fun rs g1 => f rs fun z => Q (.val z) g1
def CallOk (K : Fg) (r : List V → Hp → VK → Prop) (f : CF) : Prop := ∀ (F H : Hp) (a : Addr) (fu : Option Nat) (vs : List V) (rs : List Rv) (post : Da → Prop) (Q : VK), Ex F H → Tm K F a fu vs rs → f rs post →
  (∀ z v H' F', post z → Gr F H F' H' → Rp K F' v z → Q v H') → r vs H Q
section
variable {X : Cx} {x : Str} {p pos : Pos} {e : Expr} {es : List Expr} {tr : DA} {id T : String} {r : List V → Hp → VK → Prop} {f : CF}
theorem cb_core (hf : CallOk X.K r f) : ∀ σ H Q, up X.K (dCB f tr) σ H Q → tCB r (upA X.K tr) σ H Q := fun σ H Q q => by
  obtain ⟨c, g, tv, tr, F, ad, post, s, t, k⟩ := q
  refine ⟨c, g, tv, tr, F, ad, _, s, t, fun rs g1 vs H1 F1 a1 t1 s1 hl => ?_⟩
  obtain ⟨m1, m2⟩ := s1.tmp.args hl
  exact hf F1 H1 a1 g1.fu vs rs _ _ s1.eh m1 t1 fun z v H' F' hz gr rz => k _ g1 v H' F' a1 hz (((s1.pop m2).grow gr).push (r := .val z) rz)
theorem e_callB (hc : CallR X (.builtin id) r) (hf : CallOk X.K r f) (hg : Gl X x) (hm : X.mg x = none) (hv : bootBuiltins x = some (.builtin id)) (ha : PA X (e :: es) (upA X.K tr)) (hn : x ≠ "__name__" := by decide) (hdb : (x == ("__debug__" : Str)) = false := by decide)
    (he : starEach (e :: es) X.env = (false, eval e X.env) :: starEach es X.env := by rfl) (hpl : (backTo pos (starEach es X.env)).any (·.1) = false := by rfl) : PE X (.Call (.Name x p) (e :: es) [] pos) (up X.K (dCB f tr)) :=
  pe_to (pe_callB hc hg hm hv ha hn hdb he hpl) (cb_core hf)
end
section
variable {K : Fg}
theorem Tm.i1 {F : Hp} {a : Addr} {fu : Option Nat} {vs : List V} {i : Int} (h : Tm K F a fu vs [.val (.int i)]) : vs = [.int i] := by
  cases h with
  | cons h t =>
    cases t
    have h' : Rp K F _ (.int i) := h
    cases h'
    rfl
theorem Tm.i2 {F : Hp} {a : Addr} {fu : Option Nat} {vs : List V} {i j : Int} (h : Tm K F a fu vs [.val (.int i), .val (.int j)]) : vs = [.int i, .int j] := by
  cases h with
  | cons h t =>
    cases t.i1
    have h' : Rp K F _ (.int i) := h
    cases h'
    rfl
theorem Tm.v1 {F : Hp} {a : Addr} {fu : Option Nat} {vs : List V} {d : Da} (h : Tm K F a fu vs [.val d]) : ∃ v, vs = [v] ∧ Rp K F v d := by
  cases h with
  | cons h t =>
    cases t
    exact ⟨_, rfl, h⟩
def cInt1 (o : Int → Int) : CF := fun rs post => match rs with
  | [.val (.int i)] => post (.int (o i))
  | _ => False
def cInt2 (o : Int → Int → Int) : CF := fun rs post => match rs with
  | [.val (.int i), .val (.int j)] => post (.int (o i j))
  | _ => False
theorem ok_int1 {o : Int → Int} : CallOk K (fun xs H Q => ∃ i, xs = [V.int i] ∧ Q (.int (o i)) H) (cInt1 o) := fun F H a fu vs rs post Q e t hf k => by
  unfold cInt1 at hf
  split at hf
  · exact ⟨_, t.i1, k _ _ H F hf (Gr.refl e) (.int _)⟩
  · exact hf.elim
theorem ok_int2 {o : Int → Int → Int} : CallOk K (fun xs H Q => ∃ i j, xs = [V.int i, V.int j] ∧ Q (.int (o i j)) H) (cInt2 o) := fun F H a fu vs rs post Q e t hf k => by
  unfold cInt2 at hf
  split at hf
  · exact ⟨_, _, t.i2, k _ _ H F hf (Gr.refl e) (.int _)⟩
  · exact hf.elim
/-- len -/
def cLen : CF := fun rs post => match rs with
  | [.val (.list ds)] => post (.int ds.length)
  | [.val (.tuple ds)] => post (.int ds.length)
  | [.val (.str x)] => x.length ≤ sizeLine ∧ post (.int x.length)
  | [.scr ns] => post (.int ns.length)
  | _ => False
theorem ok_len : CallOk K (fun xs H Q => ∃ x n, xs = [x] ∧ LenV K x H n ∧ Q (.int n) H) cLen := fun F H a fu vs rs post Q e t hf k => by
  unfold cLen at hf
  split at hf
  · rename_i ds
    obtain ⟨v, rfl, r⟩ := t.v1
    cases r with
    | lst sq m => exact ⟨_, _, rfl, .inl ⟨_, .inl (.inl (e _ _ sq)), m.len.symm⟩, k _ _ H F hf (Gr.refl e) (.int _)⟩
  · rename_i ds
    obtain ⟨v, rfl, r⟩ := t.v1
    cases r with
    | tup sq m => exact ⟨_, _, rfl, .inr ⟨_, ex_t e sq, m.len.symm⟩, k _ _ H F hf (Gr.refl e) (.int _)⟩
  · rename_i x
    obtain ⟨v, rfl, r⟩ := t.v1
    cases r
    exact ⟨_, _, rfl, ⟨hf.1, rfl⟩, k _ _ H F hf.2 (Gr.refl e) (.int _)⟩
  · rename_i ns
    cases t with
    | cons h t =>
      cases t
      obtain ⟨b, rfl, sq⟩ := h
      exact ⟨_, _, rfl, .inl ⟨_, ex_l e sq, (List.length_map ..).symm⟩, k _ _ H F hf (Gr.refl e) (.int _)⟩
  · exact hf.elim
/-- all of a list of bools -/
def boolsD : List Da → Option (List Bool)
  | [] => some []
  | .bool b :: r => (boolsD r).map (b :: ·)
  | _ :: _ => none
theorem bools_v {F : Hp} : ∀ {vs : List V} {ds : List Da} {bs : List Bool}, Rps K F vs ds → boolsD ds = some bs → vs = bs.map V.bl
  | _, _, _, .nil, h => by cases h; rfl
  | _, d :: ds, bs, .cons r t, h => by
    cases d with
    | bool b =>
      unfold boolsD at h
      cases q : boolsD ds with
      | none => rw [q] at h; cases h
      | some cs =>
        rw [q] at h
        cases h
        cases r
        rw [bools_v t q]
        rfl
    | _ => cases h
def cAll : CF := fun rs post => match rs with
  | [.val (.list ds)] => (match boolsD ds with | some bs => post (.bool (bs.all id)) | none => False)
  | _ => False
theorem ok_all : CallOk K (rAll K) cAll := fun F H a fu vs rs post Q e t hf k => by
  unfold cAll at hf
  split at hf
  · rename_i ds
    split at hf
    · rename_i bs q
      obtain ⟨v, rfl, r⟩ := t.v1
      cases r with
      | lst sq m =>
        rw [bools_v m q] at sq
        exact ⟨_, bs, rfl, .inl (.inl (e _ _ sq)), k _ _ H F hf (Gr.refl e) (.bl _)⟩
    · exact hf.elim
  · exact hf.elim
end
def svOf : Rv → Option Sv := fun r => some (rsv r)
section
variable {P : Program} {w : World} {K : Fg} {mg : Str → Option Value} {base : Heap} {CX : CXT}
def ent (N : List Str) (rs : List Rv) (fu : Option Nat) : Gs := ⟨rs.map svOf ++ List.replicate (N.length - rs.length) none, fu, fu.isNone⟩
theorem Tm.len : ∀ {F : Hp} {a : Addr} {fu : Option Nat} {vs : List V} {rs : List Rv}, Tm K F a fu vs rs → vs.length = rs.length
  | _, _, _, _, _, .nil => rfl
  | _, _, _, _, _, .cons _ t => congrArg (· + 1) t.len
theorem Tm.get : ∀ {F : Hp} {a : Addr} {fu : Option Nat} {vs : List V} {rs : List Rv} {i : Nat} {r : Rv}, Tm K F a fu vs rs → rs[i]? = some r → ∃ v, vs[i]? = some v ∧ RvOk K F a fu v r
  | _, _, _, _, _, _, _, .nil, e => by simp at e
  | _, _, _, _, _, 0, _, .cons r _, e => by simp at e; subst e; exact ⟨_, rfl, r⟩
  | _, _, _, _, _, i + 1, r, .cons _ t, e => by
    obtain ⟨u, h1, h2⟩ := Tm.get (i := i) (r := r) t (by simpa using e)
    exact ⟨u, by simpa using h1, h2⟩
theorem sta_ent {N : List Str} {F H : Hp} {a : Addr} {fu : Option Nat} {vs : List V} {rs : List Rv} (e : Ex F H) (t : Tm K F a fu vs rs) (hs : ∀ n, fu = some n → F a = none ∧ SrcAt H a n) (tk : TabK K F H) :
    Sta K ⟨F, H, if fu = none then none else some a⟩ (ent N rs fu) (L2.start N vs) H [] [] F a := by
  have atS : ∀ (i : Nat) s, (ent N rs fu).sl[i]? = some (some s) → ∃ r, rs[i]? = some r ∧ s = rsv r := fun i s h => by
    have h' : (rs.map svOf ++ List.replicate (N.length - rs.length) none)[i]? = some (some s) := h
    by_cases hi : i < rs.length
    · rw [List.getElem?_append_left (by simpa using hi), List.getElem?_map, List.getElem?_eq_getElem hi] at h'
      cases h'
      exact ⟨_, List.getElem?_eq_getElem hi, rfl⟩
    · rw [List.getElem?_append_right (by simpa using hi), List.getElem?_replicate] at h'
      split at h' <;> cases h'
  have noO : ∀ (i : Nat) ds, (ent N rs fu).sl[i]? = some (some (.own ds)) → False := fun i ds h => by
    obtain ⟨r, _, e⟩ := atS i _ h
    cases r <;> cases e
  refine ⟨Ex.refl F, e, fun b o _ _ h => h, fun b h => .inl h, fun b h => ?_, fun h => ?_, fun n h => ?_, .nil, ?_, fun i s h => ?_, fun i j ds es _ h => (noO i ds h).elim, tk, .refl⟩
  · by_cases hf : fu = none
    · simp [hf] at h
    · simp [hf] at h
      exact ⟨h, hf⟩
  · have h' : fu = none := Option.isNone_iff_eq_none.mp h
    exact if_pos h'
  · have h' : fu = some n := h
    exact ⟨(hs n h').1, .inl (if_neg (ne_none h')), (hs n h').2⟩
  · unfold L2.start ent
    rw [List.length_append, List.length_append, List.length_map, List.length_map, t.len, List.length_replicate, List.length_replicate]
  · obtain ⟨r, h1, rfl⟩ := atS i s h
    obtain ⟨v, h2, h3⟩ := t.get h1
    have hi : i < vs.length := (List.getElem?_eq_some_iff.mp h2).1
    refine ⟨v, ?_, ?_⟩
    · unfold L2.start
      rw [List.getElem?_append_left (by simpa using hi), List.getElem?_map, h2]
      rfl
    · cases r <;> exact h3
/-- any wish: no rule of the body asks for one -/
def W0 : WX := fun _ _ _ _ => True
theorem fn_data {x qual : Str} {st : Stmt} {f : Addr} {fd : FuncData} {N ps : List Str} {k : Nat} {fs : FSp} (Fu : Fun K x qual st f fd) (S : FnScope N ps (defScope st)) (tb : DS)
    (hd : ∀ (cdv : Value) (A : Around) (outer : List Env) (s : Shared) (H : Hp) (E : XK), Room k (A.deeper (envOfC qual (defScope st) s.heap.objs.size f cdv)) → (A.deeper (envOfC qual (defScope st) s.heap.objs.size f cdv)).guards = some [] →
      PSs (cxOf CX P w K mg base N qual (defScope st) f cdv A outer s H E).nox (defBody st) (upS K W0 tb))
    (hb : ∀ rs fu post, rs.length = ps.length → fs rs fu post → tb ⟨fun g => post (.val .none) g.fu, fun r g => post r g.fu, fun _ => False, fun _ => False⟩ (ent N rs fu)) : Fn P w K mg base CX (k + 1) f fd ps (lift K ps.length fs) := by
  refine fn_by Fu S lift_len fun cdv A outer s H vs Q E hr hg h => ⟨_, (hd cdv A outer s H E hr hg).nox, ?_⟩
  obtain ⟨F, a, rs, fu, post, e, t, hl, hs, tk, hf, hq⟩ := h
  have st0 := sta_ent (N := N) e t hs tk
  have fin : ∀ {g : Gs} {σ : L2.St} {H' F' : Hp} {tv : List V} {tr : List Rv} {a' : Addr} {v : V} {r : Rr}, Sta K ⟨F, H, if fu = none then none else some a⟩ g σ H' tv tr F' a' → RrOk K F' H H' v r → Out K F H a fu g.fu F' H' v r := fun {g σ H' F' tv tr a' v r} s hr => by
    refine ⟨s.e0, s.eh, fun b o hb hn h => s.keep b o (fun z => ?_) hn h, s.new, fun hf => ?_, hr, s.tab, s.t0⟩
    · by_cases hf : fu = none
      · simp [hf] at z
      · simp [hf] at z
        exact hb hf z.symm
    · obtain ⟨e1, e2⟩ := s.ex a (if_neg hf)
      subst e1
      cases q : g.fu with
      | none => exact absurd q e2
      | some n => exact ⟨n, rfl, (s.src n q).1, (s.src n q).2.2⟩
  refine ⟨_, _, [], [], F, a, _, st0, rfl, hb rs fu post (by rw [← t.len]; exact hl) hf, ⟨fun g σ H' F' a' h s => ?_, fun g σ H' F' a' h s => h, fun g σ H' F' a' h s => h, fun x g σ v H' F' a' h s => ?_, fun ds g σ v H' F' a' h s n => ?_, fun nm z g σ H' F' a' cls dd h s ox => ?_⟩⟩
  · exact hq _ _ _ H' F' h (fin s (r := .val .none) Rp.non)
  · exact hq _ _ _ H' F' h (fin s (r := .val x) s.top)
  · obtain ⟨o, xs, q1, q2, q3, q4, q5, _⟩ := n.ex
    exact hq _ _ _ H' F' h (fin s (r := .own ds) ⟨o, xs, q1, q3, q2, q4, q5⟩)
  · exact True.intro
end
end Z
namespace Z
open L2 PySem PySem.Spec PyProof.Rows
open Evl (Ex ex_l ex_t ex_rd fresh_back)
/-- the table of the def that makes lambdas -/
def tabA (K : Fg) : List Addr := LAM.filterMap fun x => (PySem.W.tabIn K x).map Prod.snd
theorem tabA_of {K : Fg} {x : Str} {c P : Addr} (h1 : x ∈ LAM) (h2 : PySem.W.tabIn K x = some (c, P)) : P ∈ tabA K :=
  List.mem_filterMap.mpr ⟨x, h1, by rw [h2]; rfl⟩
theorem of_tabA {K : Fg} {P : Addr} (h : P ∈ tabA K) : ∃ x c, x ∈ LAM ∧ PySem.W.tabIn K x = some (c, P) := by
  obtain ⟨x, h1, h2⟩ := List.mem_filterMap.mp h
  cases r : PySem.W.tabIn K x with
  | none => rw [r] at h2; cases h2
  | some cp =>
    rw [r] at h2
    obtain ⟨c, P'⟩ := cp
    cases h2
    exact ⟨x, c, h1, r⟩
/-- what the making of lambdas asks of the base -/
def TbB (K : Fg) (mg : Str → Option Value) (base : Heap) : Prop := ∀ x c P, x ∈ LAM → PySem.W.tabIn K x = some (c, P) → LamX.TabB base mg c P
/-- what the end asks of the table -/
structure TbE (K : Fg) (mg : Str → Option Value) (h : Heap) : Prop where
  at' : ∀ x c P, x ∈ LAM → PySem.W.tabIn K x = some (c, P) → PySem.W.CodeHd h c P ∧ h.get? P = some (PySem.W.tabObj #[])
  no : ∀ x c P, x ∈ LAM → PySem.W.tabIn K x = some (c, P) → K.lookup P = none
  bm : ∃ (bm : Addr) (ob : Obj), mg "__builtins__" = some (.ref bm) ∧ bm ≠ builtinsNs ∧ h.get? bm = some ob ∧ ob.cls = .type "module" ∧ ob.dict = some builtinsNs ∧ ob.data = .plain
section
variable {P : Program} {w : World} {K : Fg} {mg mb : Str → Option Value} {k : Nat} {fa a : Addr} {fd : FuncData} {x : Str} {s₁ : Shared} {vs : List Value} {ns : List Int} {fs : FSp}
theorem end_at {F H : Hp} (KX : K.In s₁.heap) (hns : s₁.heap.Ns mainGlobals mg) (hb : s₁.heap.Ns builtinsNs mb) (hbb : ∀ x : Str, x ≠ "__name__" → mb x = bootBuiltins x) (hlim : s₁.heap.NoLimit) (hg : s₁.gens = #[])
    (ha : s₁.heap.get? a = some { cls := .type "list", data := .seq vs.toArray }) (hr : Room k callerA) (T : TbE K mg s₁.heap)
    (Fu : ∀ base : Heap, K.In base → base.Ns mainGlobals mg → TbB K mg base → Fn P w K mg base CX0 k fa fd [x] (lift K 1 fs)) (hbind : ∀ (s : Shared) (u : Value), BindsTo s fd ⟨[u], []⟩ [(x, u)])
    (hsp : fs [.scr ns] none fun r _ => r = .val (.bool true)) (hO : ∀ b, H b = none ∨ (b ∈ tabA K ∧ H b = some (.tbl #[])) ∨ ∃ ob xs, H b = some (.frz ob (.lst xs))) (hFH : Ex F H) (hFn : ∀ b, b ∈ tabA K → F b = none) (hH : ∀ b, b ∈ tabA K → H b = some (.tbl #[]))
    (hS : SqL K F a (ns.map V.int)) (hok : HOk P w H s₁.heap) (hA : ∀ b, H b ≠ none → b = a ∨ b ∈ tabA K) (hK : a ∉ tabA K → H a ≠ none → K.lookup a = none) :
    codeAny (model P w) callerA (.call (.ref fa) ⟨[.ref a], []⟩) (fun r s' => r = .ok (.ret (.bool true)) ∧ OldK s₁.heap s'.heap ∧ s'.os = s₁.os ∧ AllBare s'.gens) s₁ := by
  have tabAt : ∀ b, b ∈ tabA K → ∃ c, PySem.W.CodeHd s₁.heap c b ∧ s₁.heap.get? b = some (PySem.W.tabObj #[]) := fun b h => by
    obtain ⟨x, c, h1, h2⟩ := of_tabA h
    exact ⟨c, T.at' x c b h1 h2⟩
  have hide : ∀ {b : Addr} {o : Obj}, s₁.heap.get? b = some o → o.cls ≠ .none → (∀ vs n, o.data ≠ .seq vs n) → H b = none := fun {b o} e n1 n2 => by
    cases q : H b with
    | none => rfl
    | some u =>
      rcases hA b (ne_none q) with rfl | z
      · rw [ha] at e
        cases e
        exact absurd rfl (n2 _ _)
      · obtain ⟨_, _, z2⟩ := tabAt b z
        rw [e] at z2
        cases z2
        exact absurd rfl n1
  have hideD : ∀ {b : Addr} {o : Obj} {es : Array DictEntry} {ep : Nat}, s₁.heap.get? b = some o → o.data = .dict es ep → H b = none := fun {b o es ep} e d => by
    cases q : H b with
    | none => rfl
    | some u =>
      rcases hA b (ne_none q) with rfl | z
      · rw [ha] at e
        cases e
        cases d
      · obtain ⟨_, _, z2⟩ := tabAt b z
        rw [e] at z2
        cases z2
        cases d
  have nsK : ∀ {b : Addr} {m : Str → Option Value}, s₁.heap.Ns b m → (hidT s₁.heap H).Ns b m := fun {b m} z => by
    obtain ⟨o, es, ep, e, d, r⟩ := z
    exact ⟨o, es, ep, hidT_get e (hideD e d), d, r⟩
  have hKb : K.In (hidT s₁.heap H) := fun b o e => hidT_get (KX b o e) (by
    cases q : H b with
    | none => rfl
    | some u =>
      rcases hA b (ne_none q) with rfl | z
      · by_cases hz : b ∈ tabA K
        · obtain ⟨x, c, h1, h2⟩ := of_tabA hz
          rw [T.no x c b h1 h2] at e
          cases e
        · rw [hK hz (ne_none q)] at e
          cases e
      · obtain ⟨x, c, h1, h2⟩ := of_tabA z
        rw [T.no x c b h1 h2] at e
        cases e)
  have TB : TbB K mg (hidT s₁.heap H) := fun x c P' h1 h2 => by
    obtain ⟨hc, hP⟩ := T.at' x c P' h1 h2
    have dG : ∀ {b : Addr} {m : Str → Option Value}, s₁.heap.Ns b m → b ≠ P' := fun {b m} z e => by
      obtain ⟨o, es, ep, e1, d, _⟩ := z
      rw [e, hP] at e1
      cases e1
      cases d
    refine ⟨?_, ?_, dG hns⟩
    · obtain ⟨o, us, file, tf, flags, tg, inF, text, tt, e1, r1, r2, r3⟩ := hc
      exact ⟨o, us, file, tf, flags, tg, inF, text, tt, hidT_get e1 (hide e1 (by rw [r1]; exact fun z => nomatch z) fun vs n z => by rw [r2] at z; cases z), r1, r2, r3⟩
    · obtain ⟨bm, ob, b1, b2, b3, b4, b5, b6⟩ := T.bm
      refine ⟨bm, ob, b1, b2, fun e => ?_, fun e => ?_, hidT_get b3 (hide b3 (by rw [b4]; exact fun z => nomatch z) fun vs n z => by rw [b6] at z; cases z), b4, b5, b6⟩
      · obtain ⟨o, es, ep, e1, d, _⟩ := hns
        rw [e, e1] at b3
        cases b3
        rw [b6] at d
        cases d
      · rw [e, hP] at b3
        cases b3
        cases b4
  obtain ⟨mc, h1, h2⟩ := hlim
  have e0 : Env0 P w K mg (hidT s₁.heap H) callerA [] s₁ H :=
    { frames := rfl, mod := ⟨hKb, nsK hns, ⟨mb, nsK hb, hbb⟩, ⟨mc, nsK h1, h2⟩⟩, bs := fun b o e => of_hidT e, bsz := Nat.le_of_eq (hidT_size _ _), funs := trivial
      frf := fun b hb => absurd (show b ∈ ([] : List Addr) from hb) (by simp), hok := hok, bare := .of_eq hg }
  have pr : lift K 1 fs [.ref a] H (fun v _ => v = .bl true) fun _ _ _ => False :=
    ⟨F, a, [.scr ns], none, _, hFH, .cons ⟨a, rfl, hS⟩ .nil, rfl, fun n z => (by cases z), fun x c P' h1 h2 => ⟨⟨#[], hH P' (tabA_of h1 h2), trivial, fun pos cv hc => by have z : PySem.codeAmong pos [] = some cv := hc; simp [PySem.codeAmong] at z⟩, hFn P' (tabA_of h1 h2)⟩, hsp, fun r fu' v H' F' e o => by
      subst e
      have q : Rp K F' v (.bool true) := o.rep
      cases q
      rfl⟩
  refine codeAny_mono ((Fu _ hKb (nsK hns) TB).run callerA [] s₁ H ⟨[.ref a], []⟩ [.ref a] [.ref a] _ _ hr rfl e0 (hbind s₁ (.ref a)) (.cons rfl .nil) pr) fun r s' h => ?_
  match r, h with
  | .error e, h => exact False.elim h
  | .ok .next, h => exact False.elim h
  | .ok .brk, h => exact False.elim h
  | .ok .cont, h => exact False.elim h
  | .ok (.ret u), ⟨v, H', os, bare, un, hok', rv, q⟩ =>
    have q' : v = .bl true := q
    subst q'
    have ru : u = Value.bool true := rv
    subst ru
    have stay : ∀ b o, b ∉ tabA K → s₁.heap.get? b = some o → s'.heap.get? b = some o := fun b o nb e => by
      rcases hO b with z | ⟨z, _⟩ | ⟨ob, xs, z⟩
      · exact un.keep b o e z (fun z => absurd (show b ∈ ([] : List Addr) from z) (by simp)) (by simp)
      · exact absurd z nb
      · obtain ⟨e1, _⟩ := hok b _ z
        obtain ⟨e2, _⟩ := hok' b _ (un.frzs b ob _ z)
        rw [e] at e1
        cases e1
        exact e2
    have grew : ∀ b, b ∈ tabA K → ∃ more : Array Value, s'.heap.get? b = some { cls := .none, data := .fields more } := fun b hb => by
      obtain ⟨more, z⟩ := un.tbls b #[] (hH b hb)
      exact ⟨_, hok' b _ z⟩
    refine ⟨rfl, ⟨fun b o e => ?_, fun b o e => ?_⟩, os, bare⟩
    · by_cases hb : b ∈ tabA K
      · obtain ⟨c, z1, z2⟩ := tabAt b hb
        obtain ⟨more, z3⟩ := grew b hb
        rw [e] at z2
        cases z2
        exact .inr (.inl ⟨(z1.tab e).isCodeTable, rfl, #[], more, rfl, by rw [Array.empty_append]; exact z3⟩)
      · exact .inl (stay b o hb e)
    · by_cases hb : b ∈ tabA K
      · obtain ⟨more, z3⟩ := grew b hb
        exact ⟨_, z3⟩
      · exact ⟨o, stay b o hb e⟩
theorem end_call (KX : K.In s₁.heap) (hns : s₁.heap.Ns mainGlobals mg) (hb : s₁.heap.Ns builtinsNs mb) (hbb : ∀ x : Str, x ≠ "__name__" → mb x = bootBuiltins x) (hlim : s₁.heap.NoLimit) (hg : s₁.gens = #[])
    (ha : s₁.heap.get? a = some { cls := .type "list", data := .seq vs.toArray }) (hi : IntsAre vs ns) (hl : ns.length ≤ sizeLine) (hr : Room k callerA) (T : TbE K mg s₁.heap)
    (Fu : ∀ base : Heap, K.In base → base.Ns mainGlobals mg → TbB K mg base → Fn P w K mg base CX0 k fa fd [x] (lift K 1 fs)) (hbind : ∀ (s : Shared) (u : Value), BindsTo s fd ⟨[u], []⟩ [(x, u)])
    (hsp : fs [.scr ns] none fun r _ => r = .val (.bool true)) :
    codeAny (model P w) callerA (.call (.ref fa) ⟨[.ref a], []⟩) (fun r s' => r = .ok (.ret (.bool true)) ∧ OldK s₁.heap s'.heap ∧ s'.os = s₁.os ∧ AllBare s'.gens) s₁ := by
  have rv := vals_ints hi
  have aT : a ∉ tabA K := fun z => by
    obtain ⟨x, c, h1, h2⟩ := of_tabA z
    have := (T.at' x c a h1 h2).2
    rw [ha] at this
    cases this
  have tO : ∀ b, b ∈ tabA K → s₁.heap.get? b = some (PySem.W.tabObj #[]) := fun b z => by
    obtain ⟨x, c, h1, h2⟩ := of_tabA z
    exact (T.at' x c b h1 h2).2
  let tb : Hp := fun b => if b ∈ tabA K then some (.tbl #[]) else none
  have tbY : ∀ {b}, b ∈ tabA K → tb b = some (.tbl #[]) := fun h => if_pos h
  have tbN : ∀ {b}, b ∉ tabA K → tb b = none := fun h => if_neg h
  have tb_of : ∀ {b u}, tb b = some u → b ∈ tabA K ∧ u = .tbl #[] := fun {b u} h => by
    by_cases z : b ∈ tabA K
    · rw [tbY z] at h
      exact ⟨z, (Option.some.inj h).symm⟩
    · rw [tbN z] at h
      cases h
  cases hk : K.lookup a with
  | some o =>
    have e := KX a o hk
    rw [ha] at e
    cases e
    have sz : vs.toArray.size ≤ sizeLine := by rw [List.size_toArray, hi.length]; exact hl
    refine end_at (F := fun _ => none) (H := tb) KX hns hb hbb hlim hg ha hr T Fu hbind hsp (fun b => ?_) (fun b u z => by cases (show (none : Option HO) = some u from z)) (fun _ _ => rfl) (fun b z => tbY z) (.inr ⟨_, vs.toArray, _, hk, rfl, rfl, rfl, sz, by simpa using rv⟩) (fun b u z => ?_) (fun b z => ?_) fun _ z => absurd (tbN aT) z
    · by_cases z : b ∈ tabA K
      · exact .inr (.inl ⟨z, tbY z⟩)
      · exact .inl (tbN z)
    · obtain ⟨z1, rfl⟩ := tb_of z
      exact tO b z1
    · cases q : tb b with
      | none => exact absurd q z
      | some u => exact .inr (tb_of q).1
  | none =>
    let ob : Obj := { cls := .type "list", data := .seq vs.toArray }
    let sc : Hp := fun b => if b = a then some (HO.frz ob (.lst (ns.map V.int))) else none
    have scY : sc a = some (HO.frz ob (.lst (ns.map V.int))) := if_pos rfl
    have scN : ∀ {b}, b ≠ a → sc b = none := fun h => if_neg h
    have at_a : ∀ {b : Addr} {u : HO}, sc b = some u → b = a ∧ u = .frz ob (.lst (ns.map V.int)) := fun {b u} z => by
      by_cases h : b = a
      · rw [h, scY] at z
        exact ⟨h, (Option.some.inj z).symm⟩
      · rw [scN h] at z
        cases z
    have ne : ∀ {b}, b ∈ tabA K → b ≠ a := fun {b} z e => aT (by rw [← e]; exact z)
    let H : Hp := fun b => if b ∈ tabA K then some (.tbl #[]) else sc b
    have HY : ∀ {b}, b ∈ tabA K → H b = some (.tbl #[]) := fun h => if_pos h
    have HN : ∀ {b}, b ∉ tabA K → H b = sc b := fun h => if_neg h
    refine end_at (F := sc) (H := H) KX hns hb hbb hlim hg ha hr T Fu hbind hsp (fun b => ?_) (fun b u z => ?_) (fun b z => scN (ne z)) (fun b z => HY z) (.inl (.inr ⟨ob, scY⟩)) (fun b u z => ?_) (fun b z => ?_) fun _ _ => hk
    · by_cases z : b ∈ tabA K
      · exact .inr (.inl ⟨z, HY z⟩)
      · rw [HN z]
        by_cases h : b = a
        · exact .inr (.inr ⟨ob, _, by rw [h]; exact scY⟩)
        · exact .inl (scN h)
    · obtain ⟨rfl, rfl⟩ := at_a z
      rw [HN aT]
      exact z
    · by_cases z1 : b ∈ tabA K
      · rw [HY z1] at z
        cases z
        exact tO b z1
      · rw [HN z1] at z
        obtain ⟨rfl, rfl⟩ := at_a z
        exact ⟨ha, by rw [List.length_map]; exact hl, vs, _, rv, ha⟩
    · by_cases z1 : b ∈ tabA K
      · exact .inr z1
      · rw [HN z1] at z
        exact .inl (Classical.byContradiction fun h => z (scN h))
end
/-- the maker's table as the head leaves it -/
def TbH (K : Fg) (h : Heap) : Prop := ∀ x c P, x ∈ LAM → PySem.W.tabIn K x = some (c, P) → (PySem.W.CodeHd h c P ∧ h.get? P = some (PySem.W.tabObj #[])) ∧ K.lookup P = none
theorem tbH_no {K : Fg} {h : Heap} (e : LAM = []) : TbH K h := fun x c P e1 => by rw [e] at e1; cases e1
theorem end_of {l : PySem.W.OpenLaw} {n k : Nat} {q : Program} {loose : List Str} {XP : (Str → Option Value) → Heap → Prop} {YP : World → Heap → Prop} {d : DefRec} {K : Params → PySem.W.Frag} {fs : FSp} {x : Str}
    (hn : l.most = some n) (hn2 : n ≤ sizeLine) (hdf : d.params.defaults = []) (hr : Room k callerA) (hY : ∀ (w : World) (h : Heap), YP w h → (K w.params).In h)
    (Fu : ∀ (w : World) (mg : Str → Option Value) (fa : Addr) (h : Heap), YP w h → (K w.params).In h → h.Ns mainGlobals mg → mg d.name = some (.ref fa) →
      ∃ fd : FuncData, (∀ (s : Shared) (u : Value), BindsTo s fd ⟨[u], []⟩ [(x, u)]) ∧ TbH (K w.params) h ∧ ∀ base : Heap, (K w.params).In base → base.Ns mainGlobals mg → TbB (K w.params) mg base → Fn l.prog w (K w.params) mg base CX0 k fa fd [x] (lift (K w.params) 1 fs))
    (hsp : ∀ ns : List Int, ns.length ≤ n → fs [.scr ns] none fun r _ => r = .val (.bool true)) : PySem.W.WalkO q loose XP YP l.row.toRowW d [] (fun f vs => PySem.call f vs) := by
  refine Att.attach_call hn hdf fun w s₀ s₁ mg mb fa o pm cd doc a vs ns G Y ho hd hcd hmg hobj hints hlen hg => ?_
  obtain ⟨fd, hb, hT, hF⟩ := Fu w mg fa _ Y (hY w _ Y) G.T.g hmg
  exact end_call (hY w _ Y) G.T.g G.T.b G.T.builtins G.T.nolimit hg hobj hints (Nat.le_trans hlen hn2) hr ⟨fun x c P e1 e2 => (hT x c P e1 e2).1, fun x c P e1 e2 => (hT x c P e1 e2).2, G.T.bmain⟩ hF hb (hsp ns hlen)
end Z
namespace Z
open L2 PySem PySem.Spec PyProof.Rows
open Evl (Ex ex_l ex_t ex_rd fresh_back)
variable {Wx : WX}
def SrcD (ds : List Da) (n : Nat) : Prop := ∃ x y z : Int, ds = [.int x, .int y, .int z] ∧ 0 ≤ x ∧ x < 2 ^ 1000 ∧ 0 ≤ y ∧ y < modS ∧ 0 ≤ z ∧ z + n ≤ 2 ^ 40
def noSrc : Option Sv → Option Sv
  | some .src => none
  | x => x
/-- f(a new source, constants ..) -/
def dCallS (np n : Nat) (fs : FSp) (tl : DL) (rs : List Rv) : DE := fun g Q => tl g fun ds g1 => SrcD ds n ∧ rs.length + 1 = np ∧ fs (.src :: rs) (some n) fun r _ => Q (rrv r) g1
section
variable {K : Fg} {c : Con} {g : Gs} {σ : L2.St} {H F H' F' : Hp} {tv : List V} {tr : List Rv} {a : Addr}
theorem Rps.three {xs : List V} {x y z : Int} (h : Rps K F xs [.int x, .int y, .int z]) : xs = [.int x, .int y, .int z] := by
  cases h with
  | cons h1 h =>
    cases h with
    | cons h2 h =>
      cases h with
      | cons h3 h =>
        cases h
        cases h1
        cases h2
        cases h3
        rfl
theorem SrcD.at {ds : List Da} {n : Nat} (h : SrcD ds n) {o : Addr} {xs : List V} (hH : H o = some (.lst xs)) (m : Rps K F xs ds) : SrcAt H o n := by
  obtain ⟨x, y, z, rfl, h⟩ := h
  rw [m.three] at hH
  exact ⟨x, y, z, hH, h⟩
/-- behind a call that had a source of its own -/
theorem Sta.after2 (s : Sta K c g σ H tv tr F a) {v u : V} {r : Rr} {ds : List Da} {n : Nat} {fu' : Option Nat} {o : Addr} (h : NewL K c g σ H F a (.ref o) ds) (ou : Out K F H o (some n) fu' F' H' u r) : Sta K c g σ H' tv tr F' a := by
  obtain ⟨o', xs, eo, q2, q3, q4, q5, q6, q7⟩ := h.ex
  cases eo
  have keepN : ∀ b x, b ≠ o → NT x → H b = some x → H' b = some x := fun b x hb hn e => ou.keep b x (fun _ => hb) hn e
  have oldF : ∀ b, H b ≠ none → F b = none → F' b = none := fun b h1 h2 => by
    cases q : F' b with
    | none => rfl
    | some u =>
      rcases ou.new b (ne_none q) with z | z
      · exact absurd h2 z
      · exact absurd z h1
  refine ⟨s.e0.trans ou.f, ou.s, fun b x z1 hn z2 => keepN b x (fun z => by rw [z, q3] at z2; cases z2) hn (s.keep b x z1 hn z2), fun b q => ?_, s.ex, s.ow, fun m hm => ?_, s.tmp.up ou.f, s.len, fun j sv hj => ?_, s.dis, ou.tk, s.tab.trans ou.tab⟩
  · rcases ou.new b q with z | z
    · exact s.new b z
    · exact .inr (s.fresh z)
  · obtain ⟨z1, z2, x, y, z, e, z3⟩ := s.src m hm
    exact ⟨oldF a (ne_none e) z1, z2, x, y, z, keepN a _ (fun w => q6 (ne_none hm) w.symm) (fun _ z => by cases z) e, z3⟩
  · obtain ⟨w, h1, h2⟩ := s.slot j sv hj
    refine ⟨w, h1, ?_⟩
    cases sv with
    | val d => exact Rp.up h2 ou.f
    | src => exact h2
    | scr ns => obtain ⟨b, z1, z2⟩ := h2; exact ⟨b, z1, ex_l ou.f z2⟩
    | ob k => exact ObOk.up ou.f h2
    | own es =>
      obtain ⟨p, ys, r1, r2, r3, r4, r5, r6⟩ := h2
      exact ⟨p, ys, r1, oldF p (ne_none r4) r2, r3, keepN p _ (fun z => q7 j es hj (by rw [h1, r1, z])) (fun _ z => by cases z) r4, r5.up ou.f, r6⟩
end
section
variable {X : Cx} {e : Expr} {tl : DL} {pos : Pos}
variable {CX : CXT} {k : Nat} {f : Addr} {fd : FuncData} {ps : List Str} {fs : FSp} {x : Str} {p : Pos} {es : List Expr} {np : Nat} {E : XK} {vs : List V} {rs : List Rv}
theorem e_callS (n : Nat) (G : Fn X.prog X.w X.K X.mg X.base CX k f fd ps (lift X.K np fs)) (hr : Room k X.A) (hgd : X.A.guards = some []) (hg : Gl X x) (hm : X.mg x = some (.ref f)) (hk : PySem.W.keepIn X.K (.ref f) = true) (hb : Binds X.K fd ps []) (hx : Passes CX X E)
    (he : PE X e (upL X.K tl)) (hes : PA X es fun _ H Q => Q vs H) (hvs : ∀ F a fu, Tm X.K F a fu vs rs) (hdb : (x == ("__debug__" : Str)) = false := by decide) (hs : starEach (e :: es) X.env = (false, eval e X.env) :: starEach es X.env := by rfl)
    (hpl : (backTo pos (starEach es X.env)).any (·.1) = false := by rfl) : PE X (.Call (.Name x p) (e :: es) [] pos) (up X.K (dCallS np n fs tl rs)) := pe_to (pe_fn G hr hgd hg hm hk hb hx (pa_cons he hes hs) hdb hs hpl) fun σ H Q q => by
  obtain ⟨c, g, tv, tr, F, a, post, s, t, k⟩ := q
  refine ⟨c, g, tv, tr, F, a, _, s, t, fun ds g1 v H1 F1 a1 t1 s1 n1 => ?_⟩
  obtain ⟨o, xs, rfl, q2, q3, q4, q5, q6, q7⟩ := n1.ex
  refine ⟨F1, o, .src :: rs, some n, _, s1.eh, .cons ⟨rfl, fun z => nomatch z⟩ (hvs F1 o _), ?_, fun m hm => ?_, s1.tabk, t1.2.2, fun r fu' v H' F' hp ou => ?_⟩
  · have := (hvs F1 o none).len
    rw [List.length_cons, this]; exact t1.2.1
  · cases hm
    exact ⟨q2, t1.1.at q4 q5⟩
  · have s2 := s1.after2 (v := v) n1 ou
    cases r with
    | val d => exact k _ _ v H' F' a1 hp (s2.push (r := .val d) ou.rep)
    | exc _ _ => exact ou.rep.elim
    | own es =>
      obtain ⟨F'', s4⟩ := s2.still (NewL.of s1 rfl id ou.rep)
      exact k _ _ v H' F'' a1 hp s4
theorem as_nil : PA X [] fun _ H Q => Q [] H := pa_nil
end
section
variable {X : Cx} {x : Str} {p pos : Pos} {e e2 : Expr} {tr : DA}
theorem e_len (hg : Gl X "len") (hm : X.mg "len" = none) (ha : PA X [e] (upA X.K tr)) (he : starEach [e] X.env = (false, eval e X.env) :: starEach [] X.env := by rfl) : PE X (.Call (.Name "len" p) [e] [] pos) (up X.K (dCB cLen tr)) := e_callB call_len ok_len hg hm PySem.boot_len ha (by decide) (by decide) he rfl
theorem e_abs (hg : Gl X "abs") (hm : X.mg "abs" = none) (ha : PA X [e] (upA X.K tr)) (he : starEach [e] X.env = (false, eval e X.env) :: starEach [] X.env := by rfl) : PE X (.Call (.Name "abs" p) [e] [] pos) (up X.K (dCB (cInt1 fun i => if i < 0 then -i else i) tr)) := e_callB call_abs ok_int1 hg hm (by decide +kernel) ha (by decide) (by decide) he rfl
theorem e_max (hc : X.calm = true) (hg : Gl X "max") (hm : X.mg "max" = none) (ha : PA X [e, e2] (upA X.K tr)) (he : starEach [e, e2] X.env = (false, eval e X.env) :: starEach [e2] X.env := by rfl) (hpl : (backTo pos (starEach [e2] X.env)).any (·.1) = false := by rfl) :
    PE X (.Call (.Name "max" p) [e, e2] [] pos) (up X.K (dCB (cInt2 fun i j => if j > i then j else i) tr)) := e_callB (call_max2 hc) ok_int2 hg hm (by decide +kernel) ha (by decide) (by decide) he hpl
theorem e_min (hc : X.calm = true) (hg : Gl X "min") (hm : X.mg "min" = none) (ha : PA X [e, e2] (upA X.K tr)) (he : starEach [e, e2] X.env = (false, eval e X.env) :: starEach [e2] X.env := by rfl) (hpl : (backTo pos (starEach [e2] X.env)).any (·.1) = false := by rfl) :
    PE X (.Call (.Name "min" p) [e, e2] [] pos) (up X.K (dCB (cInt2 fun i j => if j < i then j else i) tr)) := e_callB (call_min2 hc) ok_int2 hg hm (by decide +kernel) ha (by decide) (by decide) he hpl
theorem e_all (hc : X.calm = true) (hg : Gl X "all") (hm : X.mg "all" = none) (ha : PA X [e] (upA X.K tr)) (he : starEach [e] X.env = (false, eval e X.env) :: starEach [] X.env := by rfl) : PE X (.Call (.Name "all" p) [e] [] pos) (up X.K (dCB cAll tr)) := e_callB (cr_all hc) ok_all hg hm (by decide +kernel) ha (by decide) (by decide) he rfl
theorem c_ty {T : String} (hg : Gl X x) (hm : X.mg x = none) (hv : bootBuiltins x = some (.type T)) (hn : x ≠ "__name__" := by decide) (hd : (x == ("__debug__" : Str)) = false := by decide) : PE X (.Name x pos) (tC (.ty T)) := pe_bltn hg hm hv rfl hn hd
end
end Z
namespace Z
open L2 PySem PySem.Spec PyProof.Rows
open Evl (Ex ex_l ex_t ex_rd fresh_back)
abbrev oMul : BinF := fI CMulX fun i j => .int (i * j)
abbrev oMod : BinF := fI (fun _ j => 0 < j) fun i j => .int (i % j)
abbrev oPow : BinF := fI CPowX fun i j => .int (i ^ j.toNat)
abbrev oLt : BinF := fI0 fun i j => .bool (decide (i < j))
abbrev oGe : BinF := fI0 fun i j => .bool (decide (j ≤ i))
abbrev oAbs : CF := cInt1 fun i => if i < 0 then -i else i
abbrev oMax : CF := cInt2 fun i j => if j > i then j else i
abbrev oMin : CF := cInt2 fun i j => if j < i then j else i
theorem test_core {K : Fg} {t : DE} {σ : L2.St} {H : Hp} {Q : Bool → Hp → Prop} (q : upT K (dTest t) σ H Q) : up K t σ H fun x H1 => ∃ k, x = .bl k ∧ Q k H1 := by
  obtain ⟨c, g, tv, tr, F, ad, post, s, t1, k⟩ := q
  refine ⟨c, g, tv, tr, F, ad, _, s, t1, fun r g1 v1 H1 F1 a1 h1 s1 => ?_⟩
  cases r with
  | val d =>
    cases d with
    | bool b => exact ⟨b, s1.top.bl rfl, k b g1 H1 F1 a1 h1 s1.pop1⟩
    | _ => exact h1.elim
  | _ => exact h1.elim
section
variable {X : Cx} {a b c : Expr} {ta tb tc : DE} {pos : Pos}
theorem t_cmp {op : CmpOp} {r : R2} {f : BinF} (ho : OpR X (compareOp op) r) (hf : BinOk X.K r f) (ha : PE X a (up X.K ta)) (hb : PE X b (up X.K tb)) (hm : behindInMarks op b = false) : PT X (.Compare a [op] [b] pos) (upT X.K (dTest (dBin f ta tb))) :=
  pt_to (pt_cmpR ho ha hb hm) fun σ H Q q => bin_core hf σ H _ (test_core q)
theorem t_lt (ha : PE X a (up X.K ta)) (hb : PE X b (up X.K tb)) : PT X (.Compare a [.Lt] [b] pos) (upT X.K (dTest (dBin oLt ta tb))) := t_cmp op_lt ok_I0b ha hb (nomark _)
theorem t_ge (ha : PE X a (up X.K ta)) (hb : PE X b (up X.K tb)) : PT X (.Compare a [.GtE] [b] pos) (upT X.K (dTest (dBin oGe ta tb))) := t_cmp op_ge ok_I0b ha hb (nomark _)
theorem t_ne (hu : X.A.units + 64 < cLine) (ha : PE X a (up X.K ta)) (hb : PE X b (up X.K tb)) : PT X (.Compare a [.NotEq] [b] pos) (upT X.K (dTest (dBin fNe ta tb))) :=
  t_cmp (op_neD hu) (fun F H x y d e post Q hx r1 r2 hf k => ⟨d, e, r1.dp hx d x (shaped_lay hf.1), r2.dp hx e y (shaped_lay hf.2.1), hf.1, hf.2.1, k _ _ H F hf.2.2 (Gr.refl hx) (.bl _)⟩) ha hb (nomark _)
end
/-- a pair of ints -/
abbrev num (n d : Int) : Da := .tuple [.int n, .int d]
theorem atI_0 {α : Type} {x0 : α} {xs : List α} : atI (x0 :: xs) 0 = some x0 := by
  unfold atI ixN
  rw [if_pos (by decide), if_pos (by simp only [List.length_cons]; omega)]
  rfl
theorem atI_1 {α : Type} {x0 x1 : α} {xs : List α} : atI (x0 :: x1 :: xs) 1 = some x1 := by
  unfold atI ixN
  rw [if_pos (by decide), if_pos (by simp only [List.length_cons]; omega)]
  rfl
theorem atI_2 {α : Type} {x0 x1 x2 : α} {xs : List α} : atI (x0 :: x1 :: x2 :: xs) 2 = some x2 := by
  unfold atI ixN
  rw [if_pos (by decide), if_pos (by simp only [List.length_cons]; omega)]
  rfl
theorem atI_3 {α : Type} {x0 x1 x2 x3 : α} {xs : List α} : atI (x0 :: x1 :: x2 :: x3 :: xs) 3 = some x3 := by
  unfold atI ixN
  rw [if_pos (by decide), if_pos (by simp only [List.length_cons]; omega)]
  rfl
theorem atI_4 {α : Type} {x0 x1 x2 x3 x4 : α} {xs : List α} : atI (x0 :: x1 :: x2 :: x3 :: x4 :: xs) 4 = some x4 := by
  unfold atI ixN
  rw [if_pos (by decide), if_pos (by simp only [List.length_cons]; omega)]
  rfl
theorem atI_5 {α : Type} {x0 x1 x2 x3 x4 x5 : α} {xs : List α} : atI (x0 :: x1 :: x2 :: x3 :: x4 :: x5 :: xs) 5 = some x5 := by
  unfold atI ixN
  rw [if_pos (by decide), if_pos (by simp only [List.length_cons]; omega)]
  rfl
theorem eqv_ii (i j : Int) : (PyData.int i).eqv (.int j) = decide (i = j) := by
  simp only [PyData.eqv]
  rw [Bool.eq_iff_iff]
  simp
theorem eqv_ss (x y : Str) : (PyData.str x).eqv (.str y) = decide (x = y) := by
  simp only [PyData.eqv]
  rw [Bool.eq_iff_iff]
  simp
theorem eqv_num (a b c d : Int) : (PyData.tuple [.int a, .int b]).eqv (.tuple [.int c, .int d]) = (decide (a = c) && decide (b = d)) := by
  simp only [PyData.eqv, PyData.eqvAll]
  rw [Bool.eq_iff_iff]
  simp
theorem shaped_int (i : Int) : SeqAt.shaped (.int i) = true := rfl
theorem shaped_num (i j : Int) : SeqAt.shaped (.tuple [.int i, .int j]) = true := rfl
theorem shaped_none : SeqAt.shaped .none = true := rfl
theorem flat_str (x : Str) : flatD (.str x) = true := rfl
theorem flat_int (x : Int) : flatD (.int x) = true := rfl
theorem flat_none : flatD .none = true := rfl
/-- less than n bits -/
structure Bn (n : Nat) (i : Int) : Prop where
  lt : i.natAbs < 2 ^ n
theorem bits_lt {i : Int} {n : Nat} (h : Bn n i) : Builtin.Int.intBits i ≤ n := by
  unfold Builtin.Int.intBits
  split
  · exact Nat.zero_le _
  · rename_i h0
    have h1 : i ≠ 0 := fun z => h0 (by rw [z]; rfl)
    have : i.natAbs.log2 < n := (Nat.log2_lt (by omega)).mpr h.lt
    omega
theorem Bn.mono {n m : Nat} {i : Int} (h : Bn n i) (hm : n ≤ m) : Bn m i := ⟨Nat.lt_of_lt_of_le h.lt (Nat.pow_le_pow_right (by decide) hm)⟩
theorem Bn.le {n : Nat} {i j : Int} (h : Bn n j) (h0 : 0 ≤ i) (h1 : i ≤ j) : Bn n i := ⟨by have := h.lt; omega⟩
theorem Bn.mul {a b : Nat} {i j : Int} (ha : Bn a i) (hb : Bn b j) : Bn (a + b) (i * j) := ⟨by
  rw [Int.natAbs_mul, Nat.pow_add]
  exact Nat.mul_lt_mul'' ha.lt hb.lt⟩
theorem Bn.add {a : Nat} {i j : Int} (ha : Bn a i) (hb : Bn a j) : Bn (a + 1) (i + j) := ⟨by
  have h1 := ha.lt
  have h2 := hb.lt
  have h3 := Int.natAbs_add_le i j
  rw [Nat.pow_succ]
  omega⟩
theorem Bn.pow2 {n m : Nat} (h : n < m) : Bn m ((2 : Int) ^ n) := ⟨by
  rw [Int.natAbs_pow]
  exact Nat.pow_lt_pow_right (by decide) h⟩
theorem Bn.small {m : Nat} {i : Int} (h1 : -18446744073709551616 < i) (h2 : i < 18446744073709551616) (hm : 64 ≤ m) : Bn m i := by
  have e : (2 : Nat) ^ 64 = 18446744073709551616 := by decide
  exact Bn.mono (n := 64) ⟨by rw [e]; omega⟩ hm
theorem mulX {i j : Int} (a b : Nat) (ha : Bn a i) (hb : Bn b j) (h : a + b ≤ 134217728) : CMulX i j := by
  have h1 := bits_lt ha
  have h2 := bits_lt hb
  unfold CMulX
  omega
theorem divX {i j : Int} (b : Nat) (h0 : 0 < j) (hb : Bn b j) (h9 : b ≤ 9000) : CDivW i j := wide_div h0 (Bn.mono hb h9).lt (by decide) (Nat.le_refl _)
theorem pow2_pos (n : Nat) : (0 : Int) < 2 ^ n := Int.pow_pos (by decide)
end Z
namespace Z
open L2 PySem PySem.Spec PyProof.Rows
/-- by the number of turns gone -/
theorem forD_ix {t : DG} {tb : DS} {d : DEnds} (I : Nat → Gs → Prop) : ∀ {ds : List Da} {g : Gs} {k : Nat}, (∀ (i : Nat) x, ds[i]? = some x → ∀ g, I (k + i) g → ∀ N : Gs → Prop, (∀ g', I (k + i + 1) g' → N g') → t (.val x) g fun g1 => tb { d with nx := N, ct := N, bk := d.nx } g1) →
    (∀ g, I (k + ds.length) g → d.nx g) → I k g → forD t tb ds d g
  | [], g, k, _, hd, h => hd g h
  | x :: xs, g, k, hs, hd, h => hs 0 x rfl g h (forD t tb xs d) fun g' h' => forD_ix I (k := k + 1) (fun i y hy g2 h2 N hN => hs (i + 1) y (by simpa using hy) g2 (by rw [show k + (i + 1) = k + 1 + i by omega]; exact h2) N (fun g3 h3 => hN g3 (by rw [show k + 1 + i + 1 = k + (i + 1) + 1 by omega]; exact h3)))
      (fun g2 h2 => hd g2 (by rw [List.length_cons, show k + (xs.length + 1) = k + 1 + xs.length by omega]; exact h2)) h'
theorem fuN_self (fu : Option Nat) : fuN fu fu = fu := by cases fu <;> rfl
/-- a comprehension whose element is a plain function of the item -/
theorem lc_map {sl : List (Option Sv)} {i : Nat} {te : DE} (f : Da → Da) {Q : List Da → Option Nat → Prop} {fu : Option Nat} : ∀ {ds acc : List Da},
    (∀ x ∈ ds, ∀ R : Rv → Gs → Prop, (∀ g3 : Gs, g3.fu = fu → R (.val (f x)) g3) → te (Gs.set ⟨sl, fu, false⟩ i (.val x)) R) → acc.length + ds.length ≤ 1000000 → Q (acc ++ ds.map f) fu → lcD sl (dN i) dYes te ds acc fu Q
  | [], acc, _, _, h => by rw [List.map_nil, List.append_nil] at h; exact h
  | x :: xs, acc, hs, hl, h => by
    refine ⟨fun _ => hs x List.mem_cons_self _ fun g3 e => ⟨?_, ?_⟩, fun z => nomatch z⟩
    · rw [List.length_cons] at hl; omega
    · rw [e, fuN_self]
      refine lc_map f (fun y hy => hs y (List.mem_cons_of_mem _ hy)) ?_ ?_
      · rw [List.length_cons] at hl
        rw [List.length_append, List.length_cons, List.length_nil]
        omega
      · rw [List.append_assoc]
        exact h
theorem gcd_pos {a b : Int} (hb : 0 < b) : 0 < (Int.gcd a b : Int) := by
  have := Int.gcd_pos_of_ne_zero_right a (show b ≠ 0 by omega)
  omega
def low (n d : Int) : Int × Int := (n / Int.gcd n d, d / Int.gcd n d)
def bl (i : Int) : Int := (Builtin.Int.intBits i : Nat)
/-- times 2 ** f, as two ints -/
def scI (n d f : Int) : Int × Int := (n * 2 ^ f.toNat, d * 2 ^ (-f).toNat)
def powI (k e : Int) : Int × Int := low (scI k 1 e).1 (scI k 1 e).2
def cellI (n d w : Int) : Int × Int :=
  if 2 ^ w.toNat ≤ (scI n d (0 - (bl n - bl d - w))).1 / (scI n d (0 - (bl n - bl d - w))).2 then ((scI n d (0 - (bl n - bl d - w + 1))).1 / (scI n d (0 - (bl n - bl d - w + 1))).2, bl n - bl d - w + 1)
  else ((scI n d (0 - (bl n - bl d - w))).1 / (scI n d (0 - (bl n - bl d - w))).2, bl n - bl d - w)
def posI (n d w : Int) : Int × Int :=
  low ((scI n d (0 - (cellI n d w).2)).1 - (cellI n d w).1 * (scI n d (0 - (cellI n d w).2)).2) (scI n d (0 - (cellI n d w).2)).2
/-- the six rules -/
inductive Ru where | dn | hd | he | hu | od | up
  deriving DecidableEq
def Ru.s : Ru → Str
  | .dn => "down"
  | .hd => "half_down"
  | .he => "half_even"
  | .hu => "half_up"
  | .od => "odd"
  | .up => "up"
theorem shaped_ru (r : Ru) : SeqAt.shaped (.str r.s) = true := by cases r <;> decide +kernel
abbrev nm (p : Int × Int) : Da := num p.1 p.2
end Z
namespace Z
open L2 PySem PySem.Spec PyProof.Rows
theorem scI_pos {n d f : Int} (hn : 0 < n) (hd : 0 < d) : 0 < (scI n d f).1 ∧ 0 < (scI n d f).2 := ⟨Int.mul_pos hn (pow2_pos _), Int.mul_pos hd (pow2_pos _)⟩
end Z
namespace Z
open L2 PySem PySem.Spec PyProof.Rows
open Evl (Ex ex_l ex_t ex_rd fresh_back)
mutual
/-- at most so long is its text -/
def szD : Da → Nat
  | .none => 4
  | .bool _ => 5
  | .int _ => 1921
  | .str x => 10 * x.length + 2
  | .list xs => szAll xs + 3
  | .tuple xs => szAll xs + 3
  | .dict _ => 0
def szAll : List Da → Nat
  | [] => 0
  | x :: xs => szD x + 2 + szAll xs
end
theorem strOk_small {x : Str} (h : PyData.strOk x = true) : ∀ c ∈ x.cps.toList, c < 16 ^ 8 := fun c hc => by
  unfold PyData.strOk at h
  rw [Array.all_eq_true_iff_forall_mem] at h
  have h1 := h c (by simpa using hc)
  have h2 : c < 0x110000 := of_decide_eq_true h1
  exact Nat.lt_trans h2 (by decide)
mutual
theorem szD_ok : ∀ d : Da, d.canLay0 = true → d.showable = true → d.shown.length ≤ szD d
  | .none, _, _ => by decide +kernel
  | .bool true, _, _ => by decide +kernel
  | .bool false, _, _ => by decide +kernel
  | .int i, _, h => int_text_len_1921 (of_decide_eq_true (show decide (i.natAbs.log2 < 1920) = true from h))
  | .str x, h, _ => StrLaws.reprText_len x (strOk_small h)
  | .list xs, h, h' => by
    have h1 := szAll_ok xs (by simpa [PyData.canLay0] using h) (by simpa [PyData.showable] using h')
    have h2 := listText_len_le (PyData.shownAll xs)
    show (listText (PyData.shownAll xs)).length ≤ szAll xs + 3
    omega
  | .tuple xs, h, h' => by
    have h1 := szAll_ok xs (by simpa [PyData.canLay0] using h) (by simpa [PyData.showable] using h')
    have h2 := tupleText_len_le (PyData.shownAll xs)
    show (tupleText (PyData.shownAll xs)).length ≤ szAll xs + 3
    omega
  | .dict _, h, _ => by simp [PyData.canLay0] at h
theorem szAll_ok : ∀ xs : List Da, PyData.canLayAll0 xs = true → PyData.showableAll xs = true → ((PyData.shownAll xs).map (·.length)).sum + 2 * (PyData.shownAll xs).length ≤ szAll xs
  | [], _, _ => by simp [PyData.shownAll, szAll]
  | x :: xs, h, h' => by
    have q : x.canLay0 = true ∧ PyData.canLayAll0 xs = true := by simpa [PyData.canLayAll0] using h
    have q' : x.showable = true ∧ PyData.showableAll xs = true := by simpa [PyData.showableAll] using h'
    have h1 := szD_ok x q.1 q'.1
    have h2 := szAll_ok xs q.2 q'.2
    simp only [PyData.shownAll, szAll, List.map_cons, List.sum_cons, List.length_cons]
    omega
end
/-- may be shown -/
def Sh (d : Da) : Prop := d.canLay0 = true ∧ d.showable = true ∧ d.depth ≤ 60 ∧ szD d ≤ 16000000
theorem Sh.len {d : Da} (h : Sh d) : d.shown.length ≤ sizeLine := Nat.le_trans (szD_ok d h.1 h.2.1) (Nat.le_trans h.2.2.2 (by decide))
def pick {α : Type} (perm : List Nat) (ws : List α) : List α := perm.filterMap fun i => ws[i]?
end Z
namespace Z
open L2 PySem PySem.Spec PyProof.Rows
open Evl (Ex ex_l ex_t ex_rd fresh_back)
def Cps (x : Str) : Prop := ∀ c ∈ x.cps.toList, c < 0x110000
theorem cps_ok {x : Str} : PyData.strOk x = true ↔ Cps x := by
  unfold PyData.strOk Cps
  rw [Array.all_eq_true_iff_forall_mem]
  simp
theorem cps_of (s : String) : Cps (Str.ofString s) := by
  rw [Str.ofString_eq_toList]
  intro c hc
  simp only [List.mem_map] at hc
  obtain ⟨ch, _, rfl⟩ := hc
  have := ch.valid
  show ch.val.toNat < _
  rcases this with h | h
  · exact Nat.lt_trans h (by decide)
  · exact h.2
theorem cps_app {x y : Str} (hx : Cps x) (hy : Cps y) : Cps (x ++ y) := by
  intro c hc
  have : c ∈ (x.cps ++ y.cps).toList := hc
  rw [Array.toList_append, List.mem_append] at this
  exact this.elim (hx c) (hy c)
theorem cps_char {q c : Nat} (hq : q < 0x110000) (hc : c < 0x110000) : ∀ k ∈ Builtin.Str.reprChar q c, k < 0x110000 := by
  have hh : ∀ (w : Nat), ∀ k ∈ List.replicate (w - ((Nat.toDigits 16 c).map Char.toNat).length) 48 ++ (Nat.toDigits 16 c).map Char.toNat, k < 0x110000 := fun w k hk => by
    rw [List.mem_append] at hk
    rcases hk with h | h
    · have := (List.mem_replicate.mp h).2; omega
    · obtain ⟨ch, _, rfl⟩ := List.mem_map.mp h
      have := ch.valid
      show ch.val.toNat < _
      rcases this with h | h
      · exact Nat.lt_trans h (by decide)
      · exact h.2
  intro k hk
  unfold Builtin.Str.reprChar at hk
  dsimp only at hk
  repeat' split at hk
  all_goals first
    | (simp only [List.mem_append, List.mem_cons, List.not_mem_nil, or_false] at hk; omega)
    | (rw [List.mem_append] at hk
       rcases hk with h | h
       · (simp only [List.mem_cons, List.not_mem_nil, or_false] at h; omega)
       · exact hh _ k h)
theorem cps_fold {q : Nat} (hq : q < 0x110000) : ∀ (l : List Nat) (acc : Array Nat), (∀ c ∈ l, c < 0x110000) → (∀ c ∈ acc.toList, c < 0x110000) → ∀ c ∈ (l.foldl (fun out c => out ++ (Builtin.Str.reprChar q c).toArray) acc).toList, c < 0x110000
  | [], _, _, ha => ha
  | x :: l, acc, hl, ha => by
    rw [List.foldl_cons]
    refine cps_fold hq l _ (fun c hc => hl c (List.mem_cons_of_mem _ hc)) fun c hc => ?_
    rw [Array.toList_append, List.mem_append] at hc
    rcases hc with h | h
    · exact ha c h
    · exact cps_char hq (hl x List.mem_cons_self) c (by simpa using h)
theorem cps_repr {x : Str} (h : Cps x) : Cps (reprText x) := by
  have hq : reprQuote x < 0x110000 := by unfold reprQuote; split <;> decide
  intro c hc
  unfold reprText at hc
  rw [Array.toList_push, List.mem_append, ← Array.foldl_toList] at hc
  rcases hc with hc | hc
  · refine cps_fold hq _ _ h (fun d hd => ?_) c hc
    have : d = reprQuote x := by simpa using hd
    omega
  · have : c = reprQuote x := by simpa using hc
    omega
theorem cps_text : ∀ (ts : List Str) (k : Nat) (acc : Str), Cps acc → (∀ t ∈ ts, Cps t) → Cps (textFrom k acc ts)
  | [], _, _, ha, _ => ha
  | t :: ts, k, acc, ha, h => cps_text ts (k + 1) _ (cps_app (cps_app ha (cps_of _)) (h t List.mem_cons_self)) fun u hu => h u (List.mem_cons_of_mem _ hu)
theorem cps_join {sep : Str} (hs : Cps sep) : ∀ ts : List Str, (∀ t ∈ ts, Cps t) → Cps (Str.join sep ts)
  | [], _ => fun c hc => by simp [Str.join, Str.empty] at hc
  | [x], h => h x List.mem_cons_self
  | x :: y :: r, h => cps_app (cps_app (h x List.mem_cons_self) hs) (cps_join hs (y :: r) fun t ht => h t (List.mem_cons_of_mem _ ht))
mutual
theorem cps_shown : ∀ d : Da, d.canLay0 = true → Cps d.shown
  | .none, _ => cps_of _
  | .bool b, _ => by cases b <;> exact cps_of _
  | .int i, _ => cps_of _
  | .str x, h => cps_repr (cps_ok.mp (by simpa [PyData.canLay0] using h))
  | .list xs, h => cps_app (cps_text _ _ _ (cps_of _) (cps_all xs (by simpa [PyData.canLay0] using h))) (cps_of _)
  | .tuple xs, h => cps_app (cps_app (cps_of _) (cps_join (cps_of _) _ (cps_all xs (by simpa [PyData.canLay0] using h)))) (cps_of _)
  | .dict _, h => by simp [PyData.canLay0] at h
theorem cps_all : ∀ xs : List Da, PyData.canLayAll0 xs = true → ∀ t ∈ PyData.shownAll xs, Cps t
  | [], _, t, ht => by simp [PyData.shownAll] at ht
  | x :: xs, h, t, ht => by
    have q : x.canLay0 = true ∧ PyData.canLayAll0 xs = true := by simpa [PyData.canLayAll0] using h
    rcases List.mem_cons.mp (show t ∈ x.shown :: PyData.shownAll xs from ht) with rfl | ht
    · exact cps_shown x q.1
    · exact cps_all xs q.2 t ht
end
theorem shaped_str {x : Str} (h : Cps x) : SeqAt.shaped (.str x) = true := by
  have h1 : PyData.canLay0 (.str x) = true := cps_ok.mpr h
  unfold SeqAt.shaped
  rw [h1]
  rfl
theorem eqv_strs (a b c d : Str) : (PyData.list [.str a, .str b]).eqv (.list [.str c, .str d]) = (decide (a = c) && decide (b = d)) := by
  simp [PyData.eqv, PyData.eqvAll]
  by_cases h1 : a = c <;> by_cases h2 : b = d <;> simp [h1, h2]
theorem showI {n : Int} (h : Bn 1900 n) : n.natAbs.log2 < 1920 := by
  by_cases h0 : n.natAbs = 0
  · rw [h0]; decide
  · exact (Nat.log2_lt h0).mpr (Nat.lt_trans h.lt (Nat.pow_lt_pow_right (by decide) (by decide)))
theorem Sh.int {n : Int} (hn : Bn 1900 n) : Sh (.int n) := by
  refine ⟨rfl, ?_, by show 0 ≤ 60; decide, by show 1921 ≤ 16000000; decide⟩
  have := showI hn
  simp [PyData.showable, *]
theorem Sh.none : Sh .none := ⟨rfl, rfl, by decide, by decide⟩
theorem Sh.bool (b : Bool) : Sh (.bool b) := ⟨rfl, rfl, by show 0 ≤ 60; decide, by show 5 ≤ 16000000; decide⟩
theorem pick_0 {α : Type} (a : α) : pick [0] [a] = [a] := rfl
theorem pick_01 {α : Type} (a b : α) : pick [0, 1] [a, b] = [a, b] := rfl
theorem pick_10 {α : Type} (a b : α) : pick [1, 0] [a, b] = [b, a] := rfl
theorem pick_012 {α : Type} (a b c : α) : pick [0, 1, 2] [a, b, c] = [a, b, c] := rfl
theorem pick_021 {α : Type} (a b c : α) : pick [0, 2, 1] [a, b, c] = [a, c, b] := rfl
theorem pick_102 {α : Type} (a b c : α) : pick [1, 0, 2] [a, b, c] = [b, a, c] := rfl
theorem pick_120 {α : Type} (a b c : α) : pick [1, 2, 0] [a, b, c] = [b, c, a] := rfl
theorem pick_201 {α : Type} (a b c : α) : pick [2, 0, 1] [a, b, c] = [c, a, b] := rfl
theorem pick_210 {α : Type} (a b c : α) : pick [2, 1, 0] [a, b, c] = [c, b, a] := rfl
theorem boolsD_true : ∀ ds : List Da, boolsD (ds.map fun _ => .bool true) = some (ds.map fun _ => true)
  | [] => rfl
  | d :: ds => by
    have := boolsD_true ds
    simp [boolsD, this]
theorem rangeD_mem {lo : Int} {n : Nat} {x : Da} (h : x ∈ rangeD lo n) : ∃ i : Int, x = .int i ∧ lo ≤ i ∧ i < lo + n := by
  unfold rangeD at h
  obtain ⟨i, hi, rfl⟩ := List.mem_map.mp h
  have := List.mem_range.mp hi
  exact ⟨_, rfl, by omega, by omega⟩
theorem all_true (ds : List Da) : (ds.map fun _ => true).all id = true := by
  induction ds with
  | nil => rfl
  | cons d ds ih => simpa using ih
theorem low_pos {n d : Int} (hn : 0 < n) (hd : 0 < d) : 0 < (low n d).1 ∧ 0 < (low n d).2 ∧ Int.gcd (low n d).1 (low n d).2 = 1 ∧ (low n d).1 ≤ n ∧ (low n d).2 ≤ d := by
  have g0 := gcd_pos (a := n) hd
  have d1 : (Int.gcd n d : Int) ∣ n := Int.gcd_dvd_left n d
  have d2 : (Int.gcd n d : Int) ∣ d := Int.gcd_dvd_right n d
  refine ⟨Int.ediv_pos_of_pos_of_dvd hn (Int.le_of_lt g0) d1, Int.ediv_pos_of_pos_of_dvd hd (Int.le_of_lt g0) d2, ?_, Int.ediv_le_self _ (Int.le_of_lt hn), Int.ediv_le_self _ (Int.le_of_lt hd)⟩
  show Int.gcd (n / Int.gcd n d) (d / Int.gcd n d) = 1
  exact Int.gcd_ediv_gcd_ediv_gcd (by omega)
end Z
namespace Z
open L2 PySem PySem.Spec PyProof.Rows
end Z
namespace Z
open L2 PySem PySem.Spec PyProof.Rows
open Evl (Ex ex_l ex_t ex_rd fresh_back)
/-- the remainder of a * x lies between l and h -/
def Hit (a m l h x : Int) : Prop := l ≤ a * x % m ∧ a * x % m ≤ h
/-- the least int from 0 on that hits -/
def LM (a m l h : Int) : Option Int → Prop
  | some x => 0 ≤ x ∧ Hit a m l h x ∧ ∀ y, 0 ≤ y → Hit a m l h y → x ≤ y
  | none => ∀ y, 0 ≤ y → ¬Hit a m l h y
/-- rounded up -/
def upI' (n d : Int) : Int := -(-n / d)
theorem up_iff {n d x : Int} (hd : 0 < d) : upI' n d ≤ x ↔ n ≤ d * x := by
  unfold upI'
  have h1 := Int.ediv_mul_le (-n) (show d ≠ 0 by omega)
  have h2 := Int.lt_ediv_add_one_mul_self (-n) hd
  generalize -n / d = q at h1 h2 ⊢
  have e1 : (q + 1) * d = q * d + d := by grind
  rw [e1] at h2
  constructor
  · intro h
    have : (-q) * d ≤ x * d := Int.mul_le_mul_of_nonneg_right h (by omega)
    have e2 : (-q) * d = -(q * d) := by grind
    have e3 : x * d = d * x := by grind
    omega
  · intro h
    apply Int.not_lt.mp
    intro hc
    have : (x + 1) * d ≤ (-q) * d := Int.mul_le_mul_of_nonneg_right (by omega) (by omega)
    have e2 : (-q) * d = -(q * d) := by grind
    have e3 : (x + 1) * d = d * x + d := by grind
    omega
theorem up_lt {n d : Int} (hd : 0 < d) : d * (upI' n d - 1) < n ∧ n ≤ d * upI' n d := by
  refine ⟨?_, (up_iff hd).mp (Int.le_refl _)⟩
  apply Int.not_le.mp
  intro h
  have := (up_iff (x := upI' n d - 1) hd).mpr h
  omega
theorem up_eq {n d x : Int} (hd : 0 < d) (h1 : d * (x - 1) < n) (h2 : n ≤ d * x) : upI' n d = x := by
  have a := (up_iff hd).mpr h2
  have b : ¬upI' n d ≤ x - 1 := fun h => absurd ((up_iff hd).mp h) (by omega)
  omega
theorem mod_of {t q r m : Int} (h : t = m * q + r) (h0 : 0 ≤ r) (h1 : r < m) : t % m = r ∧ t / m = q := by
  have hm : 0 < m := by omega
  have e : t % m = r := by
    rw [h, Int.add_comm, Int.add_mul_emod_self_left, Int.emod_eq_of_lt h0 h1]
  refine ⟨e, ?_⟩
  have := Int.mul_ediv_add_emod t m
  rw [e] at this
  have h3 : m * (t / m) = m * q := by omega
  exact Int.eq_of_mul_eq_mul_left (by omega) h3
theorem hit_of {a m l h x y : Int} (h0 : 0 < l) (hm : h < m) (h1 : l ≤ a * x - m * y) (h2 : a * x - m * y ≤ h) : Hit a m l h x := by
  have := (mod_of (t := a * x) (q := y) (r := a * x - m * y) (m := m) (by omega) (by omega) (by omega)).1
  unfold Hit
  rw [this]
  exact ⟨h1, h2⟩
theorem hit_to {a m l h x : Int} (H : Hit a m l h x) : l ≤ a * x - m * (a * x / m) ∧ a * x - m * (a * x / m) ≤ h := by
  have := Int.mul_ediv_add_emod (a * x) m
  unfold Hit at H
  omega
/-- no multiple lies in it: what is left for the smaller problem -/
theorem lm_step {a m l h : Int} (ha : 0 < a) (h0 : 0 < l) (hl : l ≤ h) (hm : h < m) (hf : h < a * upI' l a) :
    (0 < -h % a ∧ -h % a ≤ -l % a ∧ -l % a < a) ∧ (∀ r, LM (m % a) a (-h % a) (-l % a) r → LM a m l h (r.map fun y => upI' (l + m * y) a)) := by
  obtain ⟨u1, u2⟩ := up_lt (n := l) ha
  generalize hc : upI' l a = c at u1 u2 hf
  have e1 : a * (c - 1) = a * c - a := by grind
  rw [e1] at u1
  -- the interval, from the multiple above it
  have m1 : -l % a = a * c - l := (mod_of (q := -c) (by grind) (by omega) (by omega)).1
  have m2 : -h % a = a * c - h := (mod_of (q := -c) (by grind) (by omega) (by omega)).1
  rw [m1, m2]
  have b1 : 0 < a * c - h := by omega
  have b2 : a * c - h ≤ a * c - l := by omega
  have b3 : a * c - l < a := by omega
  refine ⟨⟨b1, b2, b3⟩, ?_⟩
  have hm' := Int.mul_ediv_add_emod m a
  generalize hq : m / a = q at hm'
  generalize hk : m % a = k at hm'
  have k0 : 0 ≤ k := by rw [← hk]; exact Int.emod_nonneg _ (by omega)
  -- from a hit of the smaller problem
  have up1 : ∀ y, 0 ≤ y → Hit k a (a * c - h) (a * c - l) y → ∃ x, 0 ≤ x ∧ l ≤ a * x - m * y ∧ a * x - m * y ≤ h := fun y y0 hy => by
    obtain ⟨t1, t2⟩ := hit_to hy
    generalize hu : k * y / a = u at t1 t2
    have u0 : 0 ≤ u := by rw [← hu]; exact Int.ediv_nonneg (Int.mul_nonneg k0 y0) (by omega)
    have q0 : 0 ≤ q := by rw [← hq]; exact Int.ediv_nonneg (by omega) (by omega)
    have c0 : 0 ≤ c := by
      apply Int.not_lt.mp
      intro hc
      have : a * c ≤ a * 0 := Int.mul_le_mul_of_nonneg_left (by omega) (by omega)
      omega
    have x0 : 0 ≤ q * y := Int.mul_nonneg q0 y0
    have ex : a * (u + q * y + c) - m * y = a * u + a * c - k * y := by rw [← hm']; grind
    exact ⟨u + q * y + c, by omega, by omega, by omega⟩
  have down : ∀ x y, l ≤ a * x - m * y → a * x - m * y ≤ h → Hit k a (a * c - h) (a * c - l) y := fun x y t1 t2 => by
    have ex : a * x - m * y = a * (x - q * y) - k * y := by rw [← hm']; grind
    have ez : k * y - a * (x - q * y - c) = k * y - a * (x - q * y) + a * c := by grind
    exact hit_of (y := x - q * y - c) b1 (by omega) (by omega) (by omega)
  intro r hr
  cases r with
  | none =>
    intro x x0 hx
    obtain ⟨t1, t2⟩ := hit_to hx
    by_cases hy : 0 ≤ a * x / m
    · exact hr _ hy (down _ _ t1 t2)
    · exact absurd (Int.ediv_nonneg (Int.mul_nonneg (Int.le_of_lt ha) x0) (by omega)) hy
  | some y =>
    obtain ⟨y0, hy, hmin⟩ := hr
    obtain ⟨x, x0, t1, t2⟩ := up1 y y0 hy
    have ee : upI' (l + m * y) a = x := by
      have e3 : a * (x - 1) = a * x - a := by grind
      exact up_eq ha (by omega) (by omega)
    show LM a m l h (some (upI' (l + m * y) a))
    rw [ee]
    refine ⟨x0, hit_of h0 hm t1 t2, fun x' x0' hx' => ?_⟩
    obtain ⟨s1, s2⟩ := hit_to hx'
    have y0' : 0 ≤ a * x' / m := Int.ediv_nonneg (Int.mul_nonneg (Int.le_of_lt ha) x0') (by omega)
    have hle := hmin _ y0' (down _ _ s1 s2)
    rw [← ee]
    rw [up_iff ha]
    have : m * y ≤ m * (a * x' / m) := Int.mul_le_mul_of_nonneg_left hle (by omega)
    omega
/-- the steps put aside -/
inductive Chn (A M L H : Int) : List (Int × Int × Int) → Int → Int → Int → Int → Prop
  | nil : Chn A M L H [] A M L H
  | snoc {os : List (Int × Int × Int)} {a m l h : Int} (c : Chn A M L H os a m l h) (ha : 0 < a) (hf : h < a * upI' l a) : Chn A M L H (os ++ [(a, m, l)]) (m % a) a (-h % a) (-l % a)
theorem Chn.ok {A M L H : Int} (hA : 0 ≤ A) (hAM : A < M) (hL : 0 < L) (hLH : L ≤ H) (hM : H < M) {os : List (Int × Int × Int)} {a m l h : Int} (c : Chn A M L H os a m l h) : 0 ≤ a ∧ a < m ∧ 0 < l ∧ l ≤ h ∧ h < m ∧ m ≤ M ∧ a * m * 2 ^ os.length ≤ A * M := by
  induction c with
  | nil => exact ⟨hA, hAM, hL, hLH, hM, Int.le_refl _, by simp⟩
  | snoc c ha hf ih =>
    rename_i os a m l h
    obtain ⟨i1, i2, i3, i4, i5, i6, i7⟩ := ih
    obtain ⟨⟨s1, s2, s3⟩, _⟩ := lm_step (m := m) ha i3 i4 i5 hf
    have r0 := Int.emod_nonneg m (show a ≠ 0 by omega)
    have r1 := Int.emod_lt_of_pos m ha
    refine ⟨r0, r1, s1, s2, s3, by omega, ?_⟩
    refine Int.le_trans ?_ i7
    rw [List.length_append, List.length_cons, List.length_nil, Int.pow_succ]
    have q1 := Int.mul_ediv_add_emod m a
    have q2 : 1 ≤ m / a := by
      have := (Int.le_ediv_iff_mul_le ha (a := 1) (b := m)).mpr (by omega)
      exact this
    have q3 : a * 1 ≤ a * (m / a) := Int.mul_le_mul_of_nonneg_left q2 (by omega)
    have q4 : 2 * (m % a) ≤ m := by omega
    have p := pow2_pos os.length
    have e : m % a * a * (2 ^ os.length * 2) = 2 * (m % a) * (a * 2 ^ os.length) := by grind
    have e2 : a * m * 2 ^ os.length = m * (a * 2 ^ os.length) := by grind
    rw [e, e2]
    exact Int.mul_le_mul_of_nonneg_right q4 (Int.mul_nonneg (by omega) (Int.le_of_lt p))
end Z
namespace Z
open L2 PySem PySem.Spec PyProof.Rows
end Z
namespace Z
open L2 PySem PySem.Spec PyProof.Rows
end Z
namespace Z
open L2 PySem PySem.Spec PyProof.Rows
open Evl (Ex ex_l ex_t ex_rd fresh_back)
end Z
namespace Z
open L2 PySem PySem.Spec PyProof.Rows
open Evl (Ex ex_l ex_t ex_rd fresh_back)
end Z
namespace Z
open L2 PySem PySem.Spec PyProof.Rows
open Evl (Ex ex_l ex_t ex_rd fresh_back)
theorem Rps.drop {K : Fg} {F : Hp} : ∀ {vs : List V} {ds : List Da} (n : Nat), Rps K F vs ds → Rps K F (vs.drop n) (ds.drop n)
  | _, _, 0, h => h
  | _, _, n + 1, .nil => .nil
  | _, _, n + 1, .cons _ t => Rps.drop n t
end Z
namespace Z
open L2 PySem PySem.Spec PyProof.Rows
open Evl (Ex ex_l ex_t ex_rd fresh_back)
end Z
namespace Z
open L2 PySem PySem.Spec PyProof.Rows
end Z
namespace Z
open L2 PySem PySem.Spec PyProof.Rows
open Evl (Ex ex_l ex_t ex_rd fresh_back)
end Z
namespace Z
open L2 PySem PySem.Spec PyProof.Rows
open Evl (Ex ex_l ex_t ex_rd fresh_back)
theorem low_val {x y : Int} (hy : 0 < y) : (low x y).1 * y = x * (low x y).2 := by
  unfold low
  obtain ⟨u, hu⟩ : (Int.gcd x y : Int) ∣ x := Int.gcd_dvd_left x y
  obtain ⟨v, hv⟩ : (Int.gcd x y : Int) ∣ y := Int.gcd_dvd_right x y
  have g0 := gcd_pos (a := x) hy
  generalize (Int.gcd x y : Int) = g at *
  subst hu hv
  rw [Int.mul_ediv_cancel_left _ (by omega), Int.mul_ediv_cancel_left _ (by omega)]
  grind
theorem pow_le2 {a b : Nat} (h : a ≤ b) : (2 : Int) ^ a ≤ 2 ^ b := by
  obtain ⟨c, rfl⟩ : ∃ c, b = a + c := ⟨b - a, by omega⟩
  rw [Int.pow_add]
  have h1 := pow2_pos a
  have h2 := pow2_pos c
  have := Int.mul_le_mul_of_nonneg_left (show (1 : Int) ≤ 2 ^ c by omega) (Int.le_of_lt h1)
  omega
theorem pow_pos {k e : Int} (hk : 0 < k) : 0 < (powI k e).1 ∧ 0 < (powI k e).2 ∧ Int.gcd (powI k e).1 (powI k e).2 = 1 := by
  unfold powI
  obtain ⟨a, b⟩ := scI_pos (n := k) (d := 1) (f := e) hk (by decide)
  obtain ⟨h1, h2, h3, _⟩ := low_pos a b
  exact ⟨h1, h2, h3⟩
/-- a threshold: a fraction, and to which side it goes there -/
structure Th where
  n : Int
  d : Int
  up : Bool
structure Th.Ok (t : Th) : Prop where
  n0 : 0 ≤ t.n
  nd : t.n ≤ t.d
  d0 : 0 < t.d
  z : t.n = 0 → t.up = false
  o : t.n = t.d → t.up = true
def Abv (x y : Int) (t : Th) : Prop := t.n * y < x * t.d ∨ (t.n * y = x * t.d ∧ t.up = true)
instance (x y : Int) (t : Th) : Decidable (Abv x y t) := by unfold Abv; infer_instance
def nev : Th := ⟨1, 1, true⟩
def alw : Th := ⟨0, 1, false⟩
def tieD : Th := ⟨1, 2, false⟩
def tieU : Th := ⟨1, 2, true⟩
def byR : Ru → Bool → Th
  | .dn, _ => nev
  | .hd, _ => tieD
  | .he, false => tieD
  | .he, true => tieU
  | .hu, _ => tieU
  | .od, false => alw
  | .od, true => nev
  | .up, _ => alw
theorem byR_ok (r : Ru) (b : Bool) : (byR r b).Ok := by
  cases r <;> cases b <;> exact ⟨by decide, by decide, by decide, by decide, by decide⟩
theorem lowZ' {x y : Int} (hy : 0 < y) : (low x y).1 = 0 ↔ x = 0 := by
  have h := low_val (x := x) hy
  constructor
  · intro z
    rw [z, Int.zero_mul] at h
    rcases Int.mul_eq_zero.mp h.symm with q | q
    · exact q
    · exfalso
      have g0 := gcd_pos (a := x) hy
      have : (low x y).2 = y / (Int.gcd x y : Int) := rfl
      obtain ⟨v, hv⟩ : (Int.gcd x y : Int) ∣ y := Int.gcd_dvd_right x y
      rw [this] at q
      generalize (Int.gcd x y : Int) = g at *
      rw [hv, Int.mul_ediv_cancel_left _ (by omega)] at q
      subst q
      omega
  · rintro rfl
    show 0 / _ = _
    exact Int.zero_ediv _
/-- the last index that stays down -/
def lastI (r : Ru) (far : Nat) (b : Bool) : Int :=
  if (byR r b).up = false then (byR r b).n * 2 ^ far / (byR r b).d else (byR r b).n * 2 ^ far / (byR r b).d - 1
def combI (T : Bool → Th) (r : Ru) (far : Nat) (b : Bool) : Th :=
  ⟨(low (lastI r far b * (T (decide (lastI r far b % 2 = 1))).d + (T (decide (lastI r far b % 2 = 1))).n) ((T (decide (lastI r far b % 2 = 1))).d * 2 ^ far)).1,
   (low (lastI r far b * (T (decide (lastI r far b % 2 = 1))).d + (T (decide (lastI r far b % 2 = 1))).n) ((T (decide (lastI r far b % 2 = 1))).d * 2 ^ far)).2,
   (T (decide (lastI r far b % 2 = 1))).up⟩
theorem last_rng {r : Ru} {far : Nat} {b : Bool} (hf : 1 ≤ far) : 0 ≤ lastI r far b ∧ lastI r far b < 2 ^ far := by
  obtain ⟨f, rfl⟩ : ∃ f, far = f + 1 := ⟨far - 1, by omega⟩
  have e : (2 : Int) ^ (f + 1) = 2 * 2 ^ f := by rw [Int.pow_succ, Int.mul_comm]
  have p := pow2_pos f
  unfold lastI
  rw [e]
  generalize (2 : Int) ^ f = F at *
  cases r <;> cases b <;> simp only [byR, nev, alw, tieD, tieU] <;> simp <;> omega
theorem th_ok_low {n d : Int} {up : Bool} (hd : 0 < d) (h0 : 0 ≤ n) (h1 : n ≤ d) (z : n = 0 → up = false) (o : n = d → up = true) : Th.Ok ⟨(low n d).1, (low n d).2, up⟩ := by
  have h := low_val (x := n) hd
  obtain ⟨v, hv⟩ : (Int.gcd n d : Int) ∣ d := Int.gcd_dvd_right n d
  have g0 := gcd_pos (a := n) hd
  have l2 : 0 < (low n d).2 := by
    show 0 < d / (Int.gcd n d : Int)
    generalize (Int.gcd n d : Int) = g at *
    rw [hv, Int.mul_ediv_cancel_left _ (by omega)]
    rw [hv] at hd
    exact Int.pos_of_mul_pos_right hd g0
  have l1 : 0 ≤ (low n d).1 := Int.ediv_nonneg h0 (Int.le_of_lt g0)
  refine ⟨l1, ?_, l2, ?_, ?_⟩
  · show (low n d).1 ≤ (low n d).2
    refine Int.le_of_mul_le_mul_right (a := d) ?_ hd
    rw [h, Int.mul_comm (low n d).2]
    exact Int.mul_le_mul_of_nonneg_right h1 (Int.le_of_lt l2)
  · intro q
    replace q : (low n d).1 = 0 := q
    exact z ((lowZ' hd).mp q)
  · intro q
    replace q : (low n d).1 = (low n d).2 := q
    refine o ?_
    rw [q, Int.mul_comm] at h
    exact (Int.eq_of_mul_eq_mul_right (by omega) h).symm
theorem comb_ok {T : Bool → Th} (hT : ∀ b, (T b).Ok) {r : Ru} {far : Nat} (hf : 1 ≤ far) (bo : Bool) : (combI T r far bo).Ok := by
  have F0 := pow2_pos far
  obtain ⟨i0, i1⟩ := last_rng (r := r) (b := bo) hf
  unfold combI
  generalize hi : lastI r far bo = i at *
  have ht := hT (decide (i % 2 = 1))
  generalize hTi : T (decide (i % 2 = 1)) = t at ht
  have hd := ht.d0
  have hn := ht.n0
  have x := Int.mul_nonneg i0 (Int.le_of_lt hd)
  have y : i * t.d + t.d ≤ t.d * 2 ^ far := by
    have := Int.mul_le_mul_of_nonneg_right (show i + 1 ≤ 2 ^ far by omega) (Int.le_of_lt hd)
    rw [Int.add_mul, Int.mul_comm (2 ^ far)] at this
    omega
  have hnd := ht.nd
  refine th_ok_low (Int.mul_pos hd F0) (by omega) (by omega) (fun z => ht.z (by omega)) (fun z => ht.o (by omega))
structure Nu (n d : Int) : Prop where
  n0 : 0 < n
  d0 : 0 < d
  g : Int.gcd n d = 1
def trimI : Option Int → List (Int × Ru) → List (Int × Ru)
  | _, [] => []
  | none, s :: c => s :: trimI (some s.1) c
  | some l, s :: c => if s.1 < l then s :: trimI (some s.1) c else trimI (some l) c
/-- a chain's widths -/
def Wds (c : List (Int × Ru)) : Prop := ∀ s ∈ c, 1 ≤ s.1 ∧ s.1 ≤ 100
theorem Wds.hd {s : Int × Ru} {c : List (Int × Ru)} (h : Wds (s :: c)) : 1 ≤ s.1 ∧ s.1 ≤ 100 := h s (List.mem_cons_self ..)
theorem Wds.tl {s : Int × Ru} {c : List (Int × Ru)} (h : Wds (s :: c)) : Wds c := fun t ht => h t (List.mem_cons_of_mem _ ht)
def Fall (w : Int) : List (Int × Ru) → Prop
  | [] => True
  | s :: c => 1 ≤ s.1 ∧ s.1 < w ∧ Fall s.1 c
theorem trim_fall : ∀ {c : List (Int × Ru)} {l : Int}, Wds c → Fall l (trimI (some l) c)
  | [], _, _ => trivial
  | s :: c, l, hw => by
    unfold trimI
    by_cases q : s.1 < l
    · rw [if_pos q]
      exact ⟨hw.hd.1, q, trim_fall hw.tl⟩
    · rw [if_neg q]
      exact trim_fall hw.tl
def thF (w : Int) (T : Bool → Th) : List (Int × Ru) → Int × (Bool → Th)
  | [] => (w, T)
  | s :: c => thF s.1 (combI T s.2 (w - s.1).toNat) c
/-- the whole chain by thresholds -/
def chT : List (Int × Ru) → Int × (Bool → Th)
  | [] => (1, byR .dn)
  | s :: c => thF s.1 (byR s.2) (trimI (some s.1) c)
/-- how great a threshold's denominator is; in lowest terms -/
theorem low_gcd {n d : Int} (hd : 0 < d) : Int.gcd (low n d).1 (low n d).2 = 1 ∧ 0 < (low n d).2 ∧ (low n d).2 ≤ d := by
  obtain ⟨u, hu⟩ : (Int.gcd n d : Int) ∣ n := Int.gcd_dvd_left n d
  obtain ⟨v, hv⟩ : (Int.gcd n d : Int) ∣ d := Int.gcd_dvd_right n d
  have g0 := gcd_pos (a := n) hd
  have e : low n d = (u, v) := by
    unfold low
    refine Prod.ext ?_ ?_
    · show n / (Int.gcd n d : Int) = u
      generalize (Int.gcd n d : Int) = g at *
      rw [hu, Int.mul_ediv_cancel_left _ (by omega)]
    · show d / (Int.gcd n d : Int) = v
      generalize (Int.gcd n d : Int) = g at *
      rw [hv, Int.mul_ediv_cancel_left _ (by omega)]
  have g1 : (Int.gcd n d) = (Int.gcd n d) * Int.gcd u v := by
    have h := Int.gcd_mul_left (Int.gcd n d : Int) u v
    rw [← hu, ← hv] at h
    simpa using h
  rw [e]
  refine ⟨?_, ?_, ?_⟩
  · have : 0 < Int.gcd n d := by omega
    show Int.gcd u v = 1
    have h2 : Int.gcd n d * 1 = Int.gcd n d * Int.gcd u v := by rw [Nat.mul_one]; exact g1
    exact (Nat.eq_of_mul_eq_mul_left this h2).symm
  · show 0 < v
    generalize (Int.gcd n d : Int) = g at *
    rw [hv] at hd
    exact Int.pos_of_mul_pos_right hd g0
  · show v ≤ d
    have v0 : 0 < v := by
      generalize (Int.gcd n d : Int) = g at *
      rw [hv] at hd
      exact Int.pos_of_mul_pos_right hd g0
    have : 1 * v ≤ (Int.gcd n d : Int) * v := Int.mul_le_mul_of_nonneg_right (by omega) (Int.le_of_lt v0)
    rw [← hv] at this
    omega
structure ThB (m : Nat) (T : Bool → Th) : Prop where
  ok : ∀ b, (T b).Ok
  g : ∀ b, Int.gcd (T b).n (T b).d = 1
  l : ∀ b, (T b).d ≤ 2 ^ m
theorem byR_B (r : Ru) : ThB 1 (byR r) := ⟨byR_ok r, fun b => by cases r <;> cases b <;> decide, fun b => by cases r <;> cases b <;> decide⟩
theorem comb_B {m far : Nat} {T : Bool → Th} {r : Ru} (h : ThB m T) (hf : 1 ≤ far) : ThB (m + far) (combI T r far) := by
  refine ⟨comb_ok h.ok hf, fun b => ?_, fun b => ?_⟩
  · exact (low_gcd (Int.mul_pos (h.ok _).d0 (pow2_pos far))).1
  · refine Int.le_trans (low_gcd (Int.mul_pos (h.ok _).d0 (pow2_pos far))).2.2 ?_
    rw [Int.pow_add]
    exact Int.mul_le_mul_of_nonneg_right (h.l _) (Int.le_of_lt (pow2_pos far))
theorem thF_B : ∀ {c : List (Int × Ru)} {w : Int} {m : Nat} {T : Bool → Th}, ThB m T → Fall w c → 1 ≤ w → ∃ m' : Nat, ThB m' (thF w T c).2 ∧ (m' : Int) ≤ m + w ∧ 1 ≤ (thF w T c).1 ∧ (thF w T c).1 ≤ w
  | [], w, m, T, h, _, hw => ⟨m, h, by omega, hw, Int.le_refl _⟩
  | s :: c, w, m, T, h, hf, hw => by
    obtain ⟨f1, f2, f3⟩ := hf
    obtain ⟨m', h1, h2, h3, h4⟩ := thF_B (c := c) (comb_B (r := s.2) (far := (w - s.1).toNat) h (by omega)) f3 f1
    exact ⟨m', h1, by omega, h3, by show (thF s.1 _ c).1 ≤ w; omega⟩
theorem ThB.mono {m m' : Nat} {T : Bool → Th} (h : ThB m T) (hm : m ≤ m') : ThB m' T := ⟨h.ok, h.g, fun b => Int.le_trans (h.l b) (pow_le2 hm)⟩
theorem chT_B {c : List (Int × Ru)} (hc : c ≠ []) (hw : Wds c) : ThB 101 (chT c).2 ∧ 1 ≤ (chT c).1 ∧ (chT c).1 ≤ 100 := by
  cases c with
  | nil => exact absurd rfl hc
  | cons s c =>
    obtain ⟨h1, h2⟩ := hw.hd
    obtain ⟨m, k1, k2, k3, k4⟩ := thF_B (byR_B s.2) (trim_fall (l := s.1) hw.tl) h1
    exact ⟨k1.mono (by omega), k3, by show (thF s.1 _ _).1 ≤ 100; omega⟩
structure Vb (a : Nat) (n d : Int) : Prop where
  hi : n ≤ d * 2 ^ a
  lo : d ≤ n * 2 ^ a
end Z
namespace Z
open L2 PySem PySem.Spec PyProof.Rows
open Evl (Ex ex_l ex_t ex_rd fresh_back)
section
variable {X : Cx} {a b : Expr} {ta tb : DE} {pos : Pos}
def repD (ds : List Da) (n : Nat) : List Da := (List.replicate n ds).flatten
def fMulL : BinF := fun d e post => match d, e with
  | .list ds, .int i => 0 ≤ i ∧ i ≤ 1000000 ∧ ds.length * i.toNat ≤ 1000000 ∧ post (.list (repD ds i.toNat))
  | _, _ => False
theorem vals_app : ∀ {xs ys : List V} {us vs : List Value}, Vals xs us → Vals ys vs → Vals (xs ++ ys) (us ++ vs)
  | _, _, _, _, .nil, h => h
  | _, _, _, _, .cons h t, k => .cons h (vals_app t k)
theorem vals_rep {xs : List V} {us : List Value} (h : Vals xs us) : ∀ n : Nat, Vals ((List.replicate n xs).flatten) ((List.replicate n us).flatten)
  | 0 => .nil
  | n + 1 => by
    rw [List.replicate_succ, List.replicate_succ, List.flatten_cons, List.flatten_cons]
    exact vals_app h (vals_rep h n)
theorem rps_app {K : Fg} {F : Hp} : ∀ {xs ys : List V} {us vs : List Da}, Rps K F xs us → Rps K F ys vs → Rps K F (xs ++ ys) (us ++ vs)
  | _, _, _, _, .nil, h => h
  | _, _, _, _, .cons h t, k => .cons h (rps_app t k)
theorem rps_rep {K : Fg} {F : Hp} {xs : List V} {us : List Da} (h : Rps K F xs us) : ∀ n : Nat, Rps K F ((List.replicate n xs).flatten) ((List.replicate n us).flatten)
  | 0 => .nil
  | n + 1 => by
    rw [List.replicate_succ, List.replicate_succ, List.flatten_cons, List.flatten_cons]
    exact rps_app h (rps_rep h n)
theorem len_rep {α : Type} (xs : List α) : ∀ n : Nat, ((List.replicate n xs).flatten).length = xs.length * n
  | 0 => rfl
  | n + 1 => by
    rw [List.replicate_succ, List.flatten_cons, List.length_append, len_rep xs n, Nat.mul_succ]
    omega
theorem foldl_rep (items : Array Value) : ∀ (k : Nat) (acc : Array Value), List.foldl (fun x1 x2 => x1 ++ x2) acc (List.replicate k items) = (acc.toList ++ (List.replicate k items.toList).flatten).toArray
  | 0, acc => by simp
  | k + 1, acc => by simp [List.replicate_succ, foldl_rep items k, List.append_assoc]
theorem op_mulL : OpR X (binaryOp .Mult) (fun x y H Q => ∃ a xs i, x = V.ref a ∧ y = V.int i ∧ SqL X.K H a xs ∧ 0 ≤ i ∧ i ≤ 1000000 ∧ xs.length * i.toNat ≤ 1000000 ∧ ∀ p, H p = none → Q (.ref p) (upd H p (.lst ((List.replicate i.toNat xs).flatten)))) := by
  intro pins s σ H x y v u Q I rx ry h
  obtain ⟨a, xs, k, rfl, rfl, hs, k0, k1, kl, q⟩ := h
  obtain rfl : v = Value.ref a := rx
  obtain ⟨t, rfl⟩ := ry
  obtain ⟨its, rv, ⟨⟨cls, dd, data, sl⟩, n, ho, hc, hdn, hd⟩, hlen⟩ := I.list hs
  have hc1 : cls = Value.type "list" := hc
  have hd1 : data = Data.seq its.toArray n := hd
  subst hc1 hd1
  have hl := rv.length
  have hsl := sizeLine_eq
  have hm : its.toArray.size * k.toNat ≤ 1000000 := by rw [List.size_toArray, ← hl]; exact kl
  refine wpAny_binaryOp_repeat_ref (T := "list") (U := "int") (by decide) ⟨_, ho, rfl⟩ (fun s' => rfl) noFill_list_mul F.fills_int_mul F.slot_int_rmul repeat_list F.slot_int_index.lookup
    (call_meets F.slot_int_rmul rfl F.entry_int_rmul (F.args_int_rmul_2 _ _) (lm_int_rmul_list_any k t a its.toArray n dd sl)
      ⟨ho, rfl, ⟨_, ho, rfl⟩, call_meets F.slot_list_mul ⟨_, ho, rfl⟩ F.entry_list_mul (F.args_list_mul_2 _ _)
        (lm_list_mul_any a its.toArray n dd sl k t ?_ (by omega) (by simp only [Builtin.List.listTooLong, decide_eq_true_eq]; omega))
        ⟨ho, ?_⟩⟩)
  · have : Builtin.List.listFitsIndex k = true := by
      unfold Builtin.List.listFitsIndex
      simp
      constructor <;> omega
    rw [this]
    decide
  · have e : List.foldl (fun x1 x2 => x1 ++ x2) #[] (List.replicate (if its.toArray.isEmpty = true then 0 else k.toNat) its.toArray) = ((List.replicate k.toNat its).flatten).toArray := by
      rw [foldl_rep]
      cases its with
      | nil =>
        have : ∀ n : Nat, (List.replicate n ([] : List Value)).flatten = [] := fun n => by induction n <;> simp_all [List.replicate_succ]
        simp [this]
      | cons x xs => simp
    rw [e]
    refine ⟨.ref s.heap.objs.size, upd H s.heap.objs.size (.lst ((List.replicate k.toNat xs).flatten)), I.laid (t' := s.toks) (fun b o e => Heap.get?_push_of_some _ e) (Nat.le_refl _) ⟨?_, _, 0, ?_, Heap.get?_push_size _ rfl⟩, rfl, q _ (I.hok.fresh (Nat.le_refl _))⟩
    · rw [len_rep]
      omega
    · exact vals_rep rv _
theorem ok_mulL {K : Fg} : BinOk K (fun x y H Q => ∃ a xs i, x = V.ref a ∧ y = V.int i ∧ SqL K H a xs ∧ 0 ≤ i ∧ i ≤ 1000000 ∧ xs.length * i.toNat ≤ 1000000 ∧ ∀ p, H p = none → Q (.ref p) (upd H p (.lst ((List.replicate i.toNat xs).flatten)))) fMulL := fun F H x y d e post Q hx r1 r2 hf k => by
  cases d with
  | list ds =>
    cases e with
    | int i =>
      obtain ⟨h0, h1, h2, h3⟩ := hf
      cases r1 with
      | lst sq m =>
        rename_i aa xs
        cases r2
        refine ⟨_, xs, i, rfl, rfl, .inl (.inl (hx _ _ sq)), h0, h1, by rw [m.len]; exact h2, fun p hp => ?_⟩
        have gr := Gr.new (o := .lst ((List.replicate i.toNat xs).flatten)) hx hp
        exact k _ _ _ _ h3 gr (.lst upd_same ((rps_rep m _).up gr.f))
    | _ => exact hf.elim
  | _ => exact hf.elim
theorem e_mulL (ha : PE X a (up X.K ta)) (hb : PE X b (up X.K tb)) : PE X (.BinOp a .Mult b pos) (up X.K (dBin fMulL ta tb)) := e_bin op_mulL ok_mulL ha hb
end
end Z
namespace Z
open L2 PySem PySem.Spec PyProof.Rows
open Evl (Ex ex_l ex_t ex_rd fresh_back)
/-- a number of values from 2^-a to 2^a -/
structure NuB (a : Nat) (n d : Int) : Prop where
  nu : Nu n d
  v : Vb a n d
  bn : Bn (a + 300) n
  bd : Bn (a + 300) d
theorem NuB.mono {a b : Nat} {n d : Int} (h : NuB a n d) (hab : a ≤ b) : NuB b n d := by
  have p := pow_le2 hab
  have x := Int.mul_le_mul_of_nonneg_left p (Int.le_of_lt h.nu.d0)
  have y := Int.mul_le_mul_of_nonneg_left p (Int.le_of_lt h.nu.n0)
  have := h.v.hi
  have := h.v.lo
  exact ⟨h.nu, ⟨by omega, by omega⟩, h.bn.mono (by omega), h.bd.mono (by omega)⟩
structure Chn1 (c : List (Int × Ru)) : Prop where
  ne : c ≠ []
  len : c.length ≤ 12
  w : Wds c
end Z
namespace Z
open L2 PySem PySem.Spec PyProof.Rows
open Evl (Ex ex_l ex_t ex_rd fresh_back)
theorem Bn.leP {m : Nat} {i : Int} (h0 : 0 ≤ i) (h : i ≤ 2 ^ m) : Bn (m + 1) i := (Bn.pow2 (n := m) (m := m + 1) (by omega)).le h0 h
theorem ThB.bn {m : Nat} {T : Bool → Th} (h : ThB m T) (b : Bool) : Bn (m + 1) (T b).n ∧ Bn (m + 1) (T b).d :=
  ⟨Bn.leP (h.ok b).n0 (Int.le_trans (h.ok b).nd (h.l b)), Bn.leP (Int.le_of_lt (h.ok b).d0) (h.l b)⟩
end Z
namespace Z
open L2 PySem PySem.Spec PyProof.Rows
open Evl (Ex ex_l ex_t ex_rd fresh_back)
def dD0 : DE := fun g Q => Q (.val (.dict [])) g
def dD1 (x : Str) (i : Nat) : DE := fun g Q => match g.sl[i]? with
  | some (some (.val d)) => Q (.val (.dict [(.str x, d)])) g
  | _ => False
section
variable {X : Cx} {pos : Pos} {k e : Expr}
theorem e_d0 : PE X (.Dict [] [] pos) (up X.K dD0) := pe_to pe_dnewK fun σ H Q q => by
  obtain ⟨c, g, tv, tr, F, a, post, s, t, k⟩ := q
  intro p hp
  have gr := Gr.new (o := .dK []) s.eh hp
  exact k _ g _ _ _ a t ((s.grow gr).push (r := .val (.dict [])) (.dct (.inl upd_same) .nil))
theorem upd_twice {H : Hp} {p : Addr} {a b : HO} : upd (upd H p a) p b = upd H p b := by
  funext q
  by_cases h : q = p
  · subst h; rw [upd_same, upd_same]
  · rw [upd_ne h, upd_ne h, upd_ne h]
theorem e_d1 {x : Str} (i : Nat) (hk : PE X k (tC (.str x))) (hv : PE X e (tVar i)) : PE X (.Dict [some k] [e] pos) (up X.K (dD1 x i)) := pe_to (pe_disp (pps_cons hk hv pps_nil) rfl rfl (by simp) (by simp)) fun σ H Q q => by
  obtain ⟨c, g, tv, tr, F, a, post, s, t, k⟩ := q
  unfold dD1 at t
  split at t
  · rename_i d hd
    obtain ⟨v, h1, h2⟩ := s.slot i _ hd
    intro p hp
    refine ⟨v, h1, upd_same, [(.inr x, v)], rfl, by simp, ?_⟩
    rw [upd_twice]
    have gr := Gr.new (o := .dK [(.inr x, v)]) s.eh hp
    exact k _ g _ _ _ a t ((s.grow gr).push (r := .val (.dict [(.str x, d)])) (.dct (.inl upd_same) (.cons (h2.mono gr.f _ _) .nil)))
  · exact t.elim
end
end Z
namespace Z
open L2 PySem PySem.Spec PyProof.Rows
open Evl (Ex ex_l ex_t ex_rd fresh_back)
end Z
namespace Z
open L2 PySem PySem.Spec PyProof.Rows
open Evl (Ex ex_l ex_t ex_rd fresh_back)
end Z
namespace Z
open L2 PySem PySem.Spec PyProof.Rows
open Evl (Ex ex_l ex_t ex_rd fresh_back)
end Z
namespace Z
open L2 PySem PySem.Spec PyProof.Rows
open Evl (Ex ex_l ex_t ex_rd fresh_back)
end Z
namespace Z
open L2 PySem PySem.Spec PyProof.Rows
open Evl (Ex ex_l ex_t ex_rd fresh_back)
end Z
namespace LZ
open PySem
open PySem.Sem (wp)
section
variable {prog : Program} {w : World} {A : Around} {s : Shared} {R : Result → Shared → Prop} {q TI TO u1 u2 t1 t2 S : Addr} {x0 x1 y0 y1 a b : Value}
/-- what the zip stands for, ahead of the first pair -/
structure Fresh (h : Heap) (q TI TO u1 u2 t1 t2 : Addr) (x0 x1 y0 y1 a b : Value) : Prop where
  D : ZipApart q TI TO u1 u2 t1 t2
  z : IsZip h q TI TO .none
  i : IsPair h TI (.ref u1) (.ref u2)
  o : IsPair h TO a b
  g1 : h.IsTupleIter u1 t1 0
  g2 : h.IsTupleIter u2 t2 0
  m1 : h.IsTuple t1 #[x0, x1]
  m2 : h.IsTuple t2 #[y0, y1]
theorem Fresh.keep {h h' : Heap} (F : Fresh h q TI TO u1 u2 t1 t2 x0 x1 y0 y1 a b) (hS : S ≠ q ∧ S ≠ TI ∧ S ≠ TO ∧ S ≠ u1 ∧ S ≠ u2 ∧ S ≠ t1 ∧ S ≠ t2) (hk : ∀ c o, c ≠ S → h.get? c = some o → h'.get? c = some o) : Fresh h' q TI TO u1 u2 t1 t2 x0 x1 y0 y1 a b := by
  obtain ⟨s1, s2, s3, s4, s5, s6, s7⟩ := hS
  exact ⟨F.D, hk _ _ s1.symm F.z, hk _ _ s2.symm F.i, hk _ _ s3.symm F.o, F.g1.at fun o e => hk _ o s4.symm e, F.g2.at fun o e => hk _ o s5.symm e, F.m1.at fun o e => hk _ o s6.symm e, F.m2.at fun o e => hk _ o s7.symm e⟩
end
end LZ
namespace Z
open L2 PySem PySem.Spec PyProof.Rows
open Evl (Ex ex_l ex_t ex_rd fresh_back)
end Z
namespace Z
open L2 PySem PySem.Spec PyProof.Rows
open Evl (Ex ex_l ex_t ex_rd fresh_back)
instance : DecidableEq Th := fun a b => decidable_of_iff (a.n = b.n ∧ a.d = b.d ∧ a.up = b.up) ⟨fun h => by cases a; cases b; simp_all, fun h => by subst h; exact ⟨rfl, rfl, rfl⟩⟩
def Bef (t u : Th) : Prop := t.n * u.d < u.n * t.d ∨ (t.n * u.d = u.n * t.d ∧ t.up = true ∧ u.up = false)
instance (t u : Th) : Decidable (Bef t u) := by unfold Bef; infer_instance
end Z
namespace LZ
open L2 PySem PySem.Spec PyProof.Rows
theorem enum_new1 {v : Value} {ob : Obj} {Hv : Heap → Prop} (B : Begins v ob Hv) :
    Meets (Builtin.«enumerate.__new__» ⟨[.type "enumerate", v], []⟩) (fun _ R s => Hv s.heap ∧
      R (.ok (.ret (.ref (s.heap.push ob).objs.size))) { s with heap := (s.heap.push ob).push { cls := .type "enumerate", data := .fields #[.none, .bool false, .ref s.heap.objs.size, rawInt 0, .none, .none] } }) := by
  refine .of_wp fun prog w A R s ⟨hv, h⟩ => ?_
  obtain ⟨hp, g, d, tk, os⟩ := s
  have hsub := sub_enumerate
  have go : ∀ {A' : Around} {E' : Value → Shared → Prop} {Q' : Value → Shared → Prop}, Q' (.ref hp.objs.size) ⟨hp.push ob, g, d, tk, os⟩ → wpAny (model prog w) A' (pyIter v) Q' E' ⟨hp, g, d, tk, os⟩ :=
    fun q => B.iter prog w _ _ ⟨hp, g, d, tk, os⟩ _ hv q
  wp_walk using go
  refine wpAny_stack_any fun st => wpAny_pure ?_
  split
  · rename_i c _ _ _ _ _
    cases (c == Value.type "enumerate") <;> (wp_walk using go; exact ⟨_, rfl, h⟩)
  · wp_walk using go
    exact ⟨_, rfl, h⟩
section
variable {prog : Program} {w : World} {A : Around} {E : Value → Shared → Prop} {s : Shared}
theorem call_enumB {v : Value} {ob : Obj} {Hv : Heap → Prop} {Q : Value → Shared → Prop} (B : Begins v ob Hv) (hv : Hv s.heap)
    (h : ∀ h', IsEnum h' (s.heap.objs.size + 1) s.heap.objs.size 0 .none → h'.get? s.heap.objs.size = some ob → (∀ b o, s.heap.get? b = some o → h'.get? b = some o) → Q (.ref (s.heap.objs.size + 1)) { s with heap := h' }) :
    wpAny (model prog w) A (call (.type "enumerate") [v]) Q E s := by
  refine callType_new F.called_enumerate (by decide) (F.typeCall_enumerate_1 _) (F.newCall_enumerate_1 _) (fun obj => F.args_object_init_2 obj _) F.entry_enumerate_new (enum_new1 B) ⟨hv, ?_⟩
  have z1 : (s.heap.push ob).objs.size = s.heap.objs.size + 1 := Heap.size_push ..
  show _ ∧ _
  rw [z1]
  have en := Heap.get?_push_size (s.heap.push ob) (o := { cls := .type "enumerate", data := .fields #[.none, .bool false, .ref s.heap.objs.size, rawInt 0, .none, .none] }) rfl
  rw [z1] at en
  exact ⟨⟨_, en, rfl⟩, h _ en (Heap.get?_push_of_some _ (Heap.get?_push_size _ B.free)) fun b o x => Heap.get?_push_of_some _ (Heap.get?_push_of_some _ x)⟩
end
def ItEn (K : PySem.W.Frag) (a : Addr) : It :=
  ⟨fun i H => ∃ (xs : List V) (x : V), SqT K H a xs ∧ xs[i]? = some x, fun i H v H' => ∃ T x, v = .ref T ∧ H T = none ∧ H' = upd H T (.tup [.int (i : Nat), x]) ∧ ∀ xs, SqT K H a xs → xs[i]? = some x, fun i H => ∃ xs : List V, SqT K H a xs ∧ xs.length = i⟩
theorem turn_en {P : Program} {w : World} {K : PySem.W.Frag} {elts : List Expr} {kk : Nat} {tpos : Pos} (a e it : Addr) (hae : a ≠ e) (hai : a ≠ it) :
    Turn P w K (.Tuple elts kk tpos) (ItEn K a) [e, it] e (fun i h => (∃ old, IsEnum h e it ((i : Nat) : Int) old) ∧ h.IsTupleIter it a i ∧ e ≠ it) where
  mem := List.mem_cons_self ..
  obj := fun i h st b hb => by
    obtain ⟨⟨old, he⟩, ⟨o, ho, hc, hd⟩, _⟩ := st
    rcases List.mem_cons.mp hb with rfl | hb
    · exact ⟨_, he, fun v q => nomatch q⟩
    · rw [List.mem_singleton.mp hb]
      exact ⟨o, ho, fun v q => by rw [hd] at q; cases q⟩
  keep := fun i h h' st k => ⟨st.1.imp fun old he => k e (List.mem_cons_self ..) _ he, st.2.1.at fun o q => k it (List.mem_cons_of_mem _ (List.mem_singleton.mpr rfl)) o q, st.2.2⟩
  item := by
    intro X hP hw hK hc i pins s σ H E I hf st hg
    subst hP hw hK
    obtain ⟨⟨old, he⟩, hit, hne⟩ := st
    obtain ⟨xs, x, hq, hx⟩ := hg
    obtain ⟨its, rv, p, hz⟩ := I.tuple hq
    obtain ⟨u, hu, ru⟩ := rv.get hx
    have hel : e < s.heap.objs.size := Heap.lt_size he
    have hil : it < s.heap.objs.size := by obtain ⟨_, q, _⟩ := hit; exact Heap.lt_size q
    have D := Draws.tuple (prog := X.prog) (w := X.w) (A := X.A.in1) (I.ok.hd hc) it a hai its.toArray
    have hlt : i < its.toArray.size := by
      have := (List.getElem?_eq_some_iff.mp hu).1
      simpa using this
    refine wpAny_pyNext_enum_itemD D he ⟨hit, p⟩ hlt hne (by simp [hne, Ne.symm hae]) fun y h' tk hy ho hst hT hsz hk => ?_
    obtain rfl : u = y := by
      have e1 : its.toArray[i]? = some u := by simpa using hu
      rw [e1] at hy
      exact Option.some.inj hy
    refine ⟨_, rfl, wpAny_letOwnedTupleGo_enum (s := { s with heap := h', toks := tk + 1 }) ho fun h'' he' sb => ?_⟩
    have hT2 := (sb.2 _ (Nat.ne_of_gt hel)).trans hT
    have new : ObjOk X.prog X.w (upd H s.heap.objs.size (.tup [.int (i : Nat), x])) h'' s.heap.objs.size (.tup [.int (i : Nat), x]) :=
      ⟨by show 2 ≤ sizeLine; decide, [.int i tk, u], .cons ⟨_, rfl⟩ (.cons ru .nil), ⟨_, hT2, rfl, _, rfl⟩⟩
    have I1 : Inv X pins σ (upd H s.heap.objs.size (.tup [.int (i : Nat), x])) { s with heap := h'', toks := tk + 1 } :=
      I.turnedNew (ch := [e, it]) (fun b ob hb q => (sb.2 b (fun z => hb (by simp [z]))).trans (hk b ob (fun z => hb (by simp [z])) (fun z => hb (by simp [z])) q)) hf (Nat.le_refl _) new
    refine ⟨.ref s.heap.objs.size, _, I1, rfl, ⟨_, x, rfl, I.hok.fresh (Nat.le_refl _), rfl, fun ys hy => by rw [I.tuple_inj hy hq]; exact hx⟩, ⟨⟨u, ?_⟩, hst.1.at fun o q => (sb.2 it (Ne.symm hne)).trans q, hne⟩, fun b hb => ?_⟩
    · rw [show ((i + 1 : Nat) : Int) = (i : Int) + 1 by omega]
      exact he'
    · have hb' : b < s.heap.objs.size := by
        rcases List.mem_cons.mp hb with rfl | hb
        · exact hel
        · rw [List.mem_singleton.mp hb]
          exact hil
      rw [upd_ne (Nat.ne_of_lt hb')]
      exact (hf b hb).1
  done := by
    intro X hP hw hK hc i pins s σ H E I hf st hg
    subst hP hw hK
    obtain ⟨⟨old, he⟩, hit, hne⟩ := st
    obtain ⟨xs, hq, hx⟩ := hg
    obtain ⟨its, rv, p, hz⟩ := I.tuple hq
    obtain ⟨f0, f1, f2, f3, f4, f5⟩ := hf it (by simp)
    have hl := rv.length
    have D := Draws.tuple (prog := X.prog) (w := X.w) (A := X.A.in1) (I.ok.hd hc) it a hai its.toArray
    have hn : i = its.toArray.size := by simp; omega
    subst hn
    exact wpAny_pyNext_enum_endD D he ⟨hit, p⟩ fun h' eb => ⟨rfl, I.turned (t' := s.toks) (fun b o hb q => eb b o hb q) f0 f1 f3 f4 f5⟩
  self := fun A i s Q E st h => by
    obtain ⟨⟨_, he⟩, _⟩ := st
    exact wpAny_pyIter_enum he h
def iEn (K : PySem.W.Frag) (ta : TA) : TI := fun σ H R => ta σ H fun vs H1 => ∃ a xs, vs = [.ref a] ∧ ((SqL K H1 a xs ∧ R (Ite K a) H1) ∨ (SqT K H1 a xs ∧ R (ItEn K a) H1))
theorem pi_en {X : Cx} {e : Expr} {ta : TA} {p pos tpos : Pos} {elts : List Expr} {kk : Nat} (hg : Gl X "enumerate") (hm : X.mg "enumerate" = none) (ha : PA X [e] ta) (hs : starEach [e] X.env = (false, eval e X.env) :: starEach [] X.env := by rfl) :
    PI X (.Tuple elts kk tpos) (.Call (.Name "enumerate" p) [e] [] pos) (iEn X.K ta) := by
  refine ⟨fun pins s σ H R I h => ?_⟩
  refine Call_ (ld_blt I hg hm boot_enumerate (PyProof.Rows.callWith_type1 (thn (ha.run pos pins s σ H _ I h) fun us s1 ⟨vs, H1, I1, r1, q1⟩ => ?_) hs rfl))
  obtain ⟨a, xs, rfl, q1⟩ := q1
  cases r1 with
  | cons r rr =>
    cases rr
    cases r
    have fp : ∀ b ∈ [s1.heap.objs.size + 1, s1.heap.objs.size], FpOk X pins H1 b := fun b hb => by
      have hle : s1.heap.objs.size ≤ b := by
        rcases List.mem_cons.mp hb with rfl | hb
        · exact Nat.le_add_right _ _
        · rw [List.mem_singleton.mp hb]
          exact Nat.le_refl _
      exact I1.fpOk hle (I1.hok.fresh hle)
    rcases q1 with ⟨hq, q⟩ | ⟨hq, q⟩
    · obtain ⟨its, rv, p', hz⟩ := I1.list hq
      refine call_enumB (begins_list a its.toArray) p'.isList fun h' he hit hk => wpAny_pyIter_enum he ?_
      have I2 : Inv X pins σ H1 { s1 with heap := h' } := I1.kept (t' := s1.toks) hk
      exact ⟨s1.heap.objs.size + 1, [s1.heap.objs.size + 1, s1.heap.objs.size], _, _, H1, rfl, I2, turn_enum a (s1.heap.objs.size + 1) s1.heap.objs.size, ⟨⟨.none, he⟩, ⟨_, hit, rfl, rfl⟩, Nat.succ_ne_self _⟩, fp, q⟩
    · obtain ⟨its, rv, p', hz⟩ := I1.tuple hq
      have pl : a < s1.heap.objs.size := by obtain ⟨_, q, _⟩ := id p'; exact Heap.lt_size q
      refine call_enumB (begins_tuple a its.toArray) p' fun h' he hit hk => wpAny_pyIter_enum he ?_
      have I2 : Inv X pins σ H1 { s1 with heap := h' } := I1.kept (t' := s1.toks) hk
      exact ⟨s1.heap.objs.size + 1, [s1.heap.objs.size + 1, s1.heap.objs.size], _, _, H1, rfl, I2, turn_en a (s1.heap.objs.size + 1) s1.heap.objs.size (Nat.ne_of_lt (Nat.lt_succ_of_lt pl)) (Nat.ne_of_lt pl), ⟨⟨.none, he⟩, ⟨_, hit, rfl, rfl⟩, Nat.succ_ne_self _⟩, fp, q⟩
end LZ
namespace Z
open L2 PySem PySem.Spec PyProof.Rows
open Evl (Ex ex_l ex_t ex_rd fresh_back)
def enD : Int → List Da → List Da
  | _, [] => []
  | i, x :: xs => .tuple [.int i, x] :: enD (i + 1) xs
theorem enD_len : ∀ {xs : List Da} {k : Int}, (enD k xs).length = xs.length
  | [], _ => rfl
  | x :: xs, k => by
    show (enD (k + 1) xs).length + 1 = xs.length + 1
    rw [enD_len]
theorem enD_get : ∀ {xs : List Da} {k : Int} {i : Nat} {x : Da}, xs[i]? = some x → (enD k xs)[i]? = some (.tuple [.int (k + (i : Nat)), x])
  | [], _, _, _, h => by simp at h
  | y :: xs, k, 0, x, h => by
    simp at h
    subst h
    show some (PyData.tuple [.int k, y]) = _
    rw [show k + ((0 : Nat) : Int) = k by omega]
  | y :: xs, k, i + 1, x, h => by
    have e := enD_get (k := k + 1) (show xs[i]? = some x by simpa using h)
    show (enD (k + 1) xs)[i]? = _
    rw [e, show k + 1 + (i : Int) = k + ((i + 1 : Nat) : Int) by omega]
def dEnum (te : DE) : DW := fun g Q => te g fun r g1 => match r with
  | .val (.list ds) => Q (enD 0 ds) g1
  | .val (.tuple ds) => Q (enD 0 ds) g1
  | _ => False
section
variable {K : Fg}
theorem walkD_enT {p : Addr} {ds : List Da} : WalkD K (LZ.ItEn K p) (enD 0 ds) [.ref p] [.val (.tuple ds)] := by
  have get : ∀ {F H : Hp} {a : Addr} {fu : Option Nat}, Ex F H → Tm K F a fu [.ref p] [.val (.tuple ds)] → ∃ xs, SqT K H p xs ∧ Rps K F xs ds := fun {F H a fu} e t => by
    obtain ⟨v, e1, h2⟩ := t.v1
    cases e1
    cases h2 with
    | tup sq m => exact ⟨_, ex_t e sq, m⟩
  refine ⟨fun i F H a fu e t hi => ?_, fun F H a fu e t => ?_, fun i F H a fu x H' e t hi y => ?_⟩
  · obtain ⟨xs, s1, m1⟩ := get e t
    rw [enD_len] at hi
    obtain ⟨v, h1, _⟩ := m1.get (List.getElem?_eq_getElem (show i < ds.length by omega))
    exact ⟨xs, v, s1, h1⟩
  · obtain ⟨xs, s1, m1⟩ := get e t
    refine ⟨xs, s1, ?_⟩
    rw [enD_len, m1.len]
  · obtain ⟨xs, s1, m1⟩ := get e t
    obtain ⟨T, u, rfl, nT, rfl, h1⟩ := y
    rw [enD_len] at hi
    have g1 : ds[i]? = some ds[i] := List.getElem?_eq_getElem (by omega)
    obtain ⟨u', e1, r1⟩ := m1.get g1
    rw [h1 xs s1] at e1
    cases e1
    have gr := Gr.new (o := .tup [.int (i : Nat), u]) e nT
    refine ⟨_, _, enD_get g1, gr, ?_⟩
    rw [Int.zero_add]
    exact .tup (.inl (.inl upd_same)) (.cons (.int _) (.cons (r1.up gr.f) .nil))
theorem walkD_enL {p : Addr} {ds : List Da} : WalkD K (Ite K p) (enD 0 ds) [.ref p] [.val (.list ds)] := by
  have get : ∀ {F H : Hp} {a : Addr} {fu : Option Nat}, Ex F H → Tm K F a fu [.ref p] [.val (.list ds)] → ∃ xs, SqL K H p xs ∧ Rps K F xs ds := fun {F H a fu} e t => by
    obtain ⟨v, e1, h2⟩ := t.v1
    cases e1
    cases h2 with
    | lst sq m => exact ⟨_, .inl (.inl (e _ _ sq)), m⟩
  refine ⟨fun i F H a fu e t hi => ?_, fun F H a fu e t => ?_, fun i F H a fu x H' e t hi y => ?_⟩
  · obtain ⟨xs, s1, m1⟩ := get e t
    rw [enD_len] at hi
    obtain ⟨v, h1, _⟩ := m1.get (List.getElem?_eq_getElem (show i < ds.length by omega))
    exact ⟨xs, v, s1, h1⟩
  · obtain ⟨xs, s1, m1⟩ := get e t
    refine ⟨xs, s1, ?_⟩
    rw [enD_len, m1.len]
    exact Nat.le_refl _
  · obtain ⟨xs, s1, m1⟩ := get e t
    obtain ⟨T, u, rfl, nT, rfl, h1⟩ := y
    rw [enD_len] at hi
    have g1 : ds[i]? = some ds[i] := List.getElem?_eq_getElem (by omega)
    obtain ⟨u', e1, r1⟩ := m1.get g1
    rw [h1 xs s1] at e1
    cases e1
    have gr := Gr.new (o := .tup [.int (i : Nat), u]) e nT
    refine ⟨_, _, enD_get g1, gr, ?_⟩
    rw [Int.zero_add]
    exact .tup (.inl (.inl upd_same)) (.cons (.int _) (.cons (r1.up gr.f) .nil))
end
theorem i_enum {X : Cx} {a : Expr} {ta : DE} {p pos tpos : Pos} {elts : List Expr} {kk : Nat} (hg : Gl X "enumerate") (hm : X.mg "enumerate" = none) (ha : PE X a (up X.K ta)) (hs : starEach [a] X.env = (false, eval a X.env) :: starEach [] X.env := by rfl) :
    PI X (.Tuple elts kk tpos) (.Call (.Name "enumerate" p) [a] [] pos) (upI X.K (dEnum ta)) := pi_to (LZ.pi_en hg hm (pa_cons ha pa_nil hs) hs) fun σ H R q => by
  obtain ⟨c, g, tv, tr, F, a, post, s, t, k⟩ := q
  refine ⟨c, g, tv, tr, F, a, _, s, t, fun r g1 v H1 F1 a1 t1 s1 => ?_⟩
  split at t1
  · rename_i xs
    have hr : Rp X.K F1 v (.list xs) := s1.top
    cases hr with
    | lst q1 m1 => exact ⟨_, _, rfl, .inl ⟨.inl (.inl (s1.eh _ _ q1)), k _ g1 H1 F1 a1 _ [_] [_] t1 s1 rfl rfl walkD_enL⟩⟩
  · rename_i xs
    have hr : Rp X.K F1 v (.tuple xs) := s1.top
    cases hr with
    | tup q1 m1 => exact ⟨_, _, rfl, .inr ⟨ex_t s1.eh q1, k _ g1 H1 F1 a1 _ [_] [_] t1 s1 rfl rfl walkD_enT⟩⟩
  · exact t1.elim
end Z
namespace Z
open L2 PySem PySem.Spec PyProof.Rows
structure ShB (k z : Nat) (d : Da) : Prop where
  lay : d.canLay0 = true
  sh : d.showable = true
  dp : d.depth ≤ k
  sz : szD d ≤ z
theorem ShB.cps {k z : Nat} {d : Da} (h : ShB k z d) : Cps d.shown := cps_shown d h.lay
theorem ShB.shaped {k z : Nat} {d : Da} (h : ShB k z d) (hk : k ≤ 64) : SeqAt.shaped d = true := by
  unfold SeqAt.shaped
  rw [h.lay, Bool.true_and]
  exact decide_eq_true (Nat.le_trans h.dp hk)
theorem ShB.refl {k z : Nat} {d : Da} (h : ShB k z d) : d.eqv d = true := SeqAt.eqv_refl d h.lay
theorem ShB.mono {k z k' z' : Nat} {d : Da} (h : ShB k z d) (hk : k ≤ k') (hz : z ≤ z') : ShB k' z' d := ⟨h.lay, h.sh, Nat.le_trans h.dp hk, Nat.le_trans h.sz hz⟩
theorem ShB.int {i : Int} (h : Bn 1900 i) : ShB 0 1921 (.int i) := ⟨rfl, decide_eq_true (showI h), Nat.le_refl _, Nat.le_refl _⟩
theorem ShB.none : ShB 0 1921 .none := ⟨rfl, rfl, Nat.le_refl _, by show 4 ≤ 1921; decide⟩
theorem ShB.bool (b : Bool) : ShB 0 1921 (.bool b) := ⟨rfl, rfl, Nat.le_refl _, by show 5 ≤ 1921; decide⟩
theorem ShB.str {x : Str} (h : PyData.strOk x = true) (hl : x.length ≤ 100) : ShB 0 1921 (.str x) := ⟨h, rfl, Nat.le_refl _, by show 10 * x.length + 2 ≤ 1921; omega⟩
theorem ShB.all {k z : Nat} : ∀ {ds : List Da}, (∀ d ∈ ds, ShB k z d) → PyData.canLayAll0 ds = true ∧ PyData.showableAll ds = true ∧ PyData.depthAll ds ≤ k ∧ szAll ds ≤ ds.length * (z + 2)
  | [], _ => ⟨rfl, rfl, Nat.zero_le _, Nat.zero_le _⟩
  | d :: ds, h => by
    obtain ⟨i1, i2, i3, i4⟩ := ShB.all (ds := ds) fun e he => h e (List.mem_cons_of_mem _ he)
    have h0 := h d (List.mem_cons_self ..)
    have h1 := h0.dp
    have h2 := h0.sz
    refine ⟨by simp [PyData.canLayAll0, h0.lay, i1], by simp [PyData.showableAll, h0.sh, i2], ?_, ?_⟩
    · simp only [PyData.depthAll]
      omega
    · rw [List.length_cons, Nat.succ_mul]
      simp only [szAll]
      omega
theorem ShB.tup {k z n : Nat} {ds : List Da} (h : ∀ d ∈ ds, ShB k z d) (hn : ds.length ≤ n) : ShB (k + 1) (n * (z + 2) + 3) (.tuple ds) := by
  obtain ⟨i1, i2, i3, i4⟩ := ShB.all h
  have := Nat.mul_le_mul_right (z + 2) hn
  refine ⟨by simpa [PyData.canLay0] using i1, by simpa [PyData.showable] using i2, ?_, ?_⟩
  · simp only [PyData.depth]
    omega
  · simp only [szD]
    omega
theorem ShB.lst {k z n : Nat} {ds : List Da} (h : ∀ d ∈ ds, ShB k z d) (hn : ds.length ≤ n) : ShB (k + 1) (n * (z + 2) + 3) (.list ds) := by
  obtain ⟨i1, i2, i3, i4⟩ := ShB.all h
  have := Nat.mul_le_mul_right (z + 2) hn
  refine ⟨by simpa [PyData.canLay0] using i1, by simpa [PyData.showable] using i2, ?_, ?_⟩
  · simp only [PyData.depth]
    omega
  · simp only [szD]
    omega
end Z
namespace Z
open L2 PySem PySem.Spec PyProof.Rows
def Dif (T U : Bool → Th) (b : Bool) (i p : Int) : Prop := ¬(Abv i p (T b) ↔ Abv i p (U b))
/-- the first place where two chains part: a grid of 2 ^ t, the parity of the cell, the index -/
structure SdAt (w : Int) (T U : Bool → Th) (t : Nat) (b : Bool) (j : Int) : Prop where
  b1 : w = 1 → b = true
  dif : Dif T U b j (2 ^ t)
  lo : 0 < j
  hi : j < 2 ^ t
  min : ∀ i, Dif T U b i (2 ^ t) → j ≤ i
  par : b = true → w ≠ 1 → ∀ i, ¬Dif T U false i (2 ^ t)
  pre : ∀ t', t' < t → ∀ b', (w = 1 → b' = true) → ∀ i, ¬Dif T U b' i (2 ^ t')
  tb : t ≤ 101
theorem SdAt.ne {w : Int} {T U : Bool → Th} {t : Nat} {b : Bool} {j : Int} (h : SdAt w T U t b j) : T b ≠ U b := fun e => h.dif (by rw [e])
end Z
namespace Z
open L2 PySem PySem.Spec PyProof.Rows
open Evl (Ex ex_l ex_t ex_rd fresh_back)
end Z
namespace Z
open L2 PySem PySem.Spec PyProof.Rows
instance (T U : Bool → Th) (b : Bool) (x y : Int) : Decidable (Dif T U b x y) := by unfold Dif; infer_instance
/-- x * f / d is a place where the two part -/
def DfX (w : Int) (T U : Bool → Th) (f d x : Int) : Prop := Dif T U (decide ((cellI (x * f) d w).1 % 2 = 1)) (posI (x * f) d w).1 (posI (x * f) d w).2
instance (w : Int) (T U : Bool → Th) (f d x : Int) : Decidable (DfX w T U f d x) := by unfold DfX; infer_instance
end Z
namespace Z
open L2 PySem PySem.Spec PyProof.Rows
/-- arguments of a search among operands -/
structure LoOk (w : Int) (T U : Bool → Th) (f d p : Int) : Prop where
  w1 : 1 ≤ w
  w2 : w ≤ 100
  T : ThB 101 T
  U : ThB 101 U
  f0 : 0 < f
  bf : Bn 300 f
  d0 : 0 < d
  bd : Bn 300 d
  p1 : 1 ≤ p
  p2 : p ≤ 100
/-- two chains that may be compared -/
structure Two (c c' : List (Int × Ru)) : Prop where
  a : Chn1 c
  b : Chn1 c'
  w : (chT c).1 = (chT c').1
theorem Two.lo {c c' : List (Int × Ru)} {f d p : Int} (h : Two c c') (f0 : 0 < f) (bf : Bn 300 f) (d0 : 0 < d) (bd : Bn 300 d) (p1 : 1 ≤ p) (p2 : p ≤ 100) : LoOk (chT c).1 (chT c).2 (chT c').2 f d p := by
  obtain ⟨hT, w1, w2⟩ := chT_B h.a.ne h.a.w
  obtain ⟨hU, _, _⟩ := chT_B h.b.ne h.b.w
  exact ⟨w1, w2, hT, hU, f0, bf, d0, bd, p1, p2⟩
end Z
namespace Z
open L2 PySem PySem.Spec PyProof.Rows
open Evl (Ex ex_l ex_t ex_rd fresh_back)
/-- chains differ at a product, at a quotient -/
def prP (c c' : List (Int × Ru)) (a b : Int) : Prop := DfX (chT c).1 (chT c).2 (chT c').2 a 1 b
def quP (c c' : List (Int × Ru)) (a b : Int) : Prop := DfX (chT c).1 (chT c).2 (chT c').2 1 b a
instance (c c' : List (Int × Ru)) (a b : Int) : Decidable (prP c c' a b) := by unfold prP; infer_instance
instance (c c' : List (Int × Ru)) (a b : Int) : Decidable (quP c c' a b) := by unfold quP; infer_instance
end Z
namespace Z
open L2 PySem PySem.Spec PyProof.Rows
open Evl (Ex ex_l ex_t ex_rd fresh_back)
end Z
namespace Z
open L2 PySem PySem.Spec PyProof.Rows
end Z
namespace L2
open PySem PySem.Spec PyProof.Rows
end L2
namespace Z
open L2 PySem PySem.Spec PyProof.Rows
open Evl (Ex ex_l ex_t ex_rd fresh_back)
end Z
namespace Z
open L2 PySem PySem.Spec PyProof.Rows
open Evl (Ex ex_l ex_t ex_rd fresh_back)
end Z
namespace Z
open L2 PySem PySem.Spec PyProof.Rows
end Z
namespace Z
open L2 PySem PySem.Spec PyProof.Rows
open Evl (Ex ex_l ex_t ex_rd fresh_back)
end Z
namespace Z
open L2 PySem PySem.Spec PyProof.Rows
end Z
namespace Z
open L2 PySem PySem.Spec PyProof.Rows
open Evl (Ex ex_l ex_t ex_rd fresh_back)
theorem Rps.at {K : Fg} {F : Hp} : ∀ {vs : List V} {ds : List Da}, Rps K F vs ds → ∀ (i : Nat) v d, vs[i]? = some v → ds[i]? = some d → Rp K F v d
  | _, _, .nil, i, v, d, h, _ => by simp at h
  | _, _, .cons r t, 0, v, d, h1, h2 => by simp at h1 h2; subst h1; subst h2; exact r
  | _, _, .cons r t, i + 1, v, d, h1, h2 => Rps.at t i v d (by simpa using h1) (by simpa using h2)
end Z
namespace Z
open L2 PySem PySem.Spec PyProof.Rows
open Evl (Ex ex_l ex_t ex_rd fresh_back)
variable {Wx : WX}
def isOwn : Option Sv → Bool
  | some (.own _) => true
  | _ => false
structure StI (K : Fg) (p C dx : Addr) (F0 H0 : Hp) (g : Gs) (σ : L2.St) (H F : Hp) (a : Addr) (us : List (Str × V)) (fs : List (Str × Da)) : Prop where
  st : Sta K ⟨F, H, none⟩ g σ H [] [] F a
  fu : g.fu = none
  sl0 : g.sl[0]? = some (some (.ob (.at p)))
  ins : H p = some (.ins C dx us)
  fp : F p = none
  nm : us.map Prod.fst = fs.map Prod.fst
  rp : Rps K F (us.map Prod.snd) (fs.map Prod.snd)
  e0 : Ex F0 F
  kp : ∀ b o, b ≠ p → NT o → H0 b = some o → H b = some o
  nw : ∀ b, F b ≠ none → F0 b ≠ none ∨ H0 b = none
  tb : TbS H0 H
section
variable {K : Fg} {p C dx : Addr} {F0 H0 : Hp} {g g' : Gs} {σ σ' : L2.St} {H F H' F' : Hp} {a a' : Addr} {us : List (Str × V)} {fs : List (Str × Da)}
theorem no_own (h : g'.sl.any isOwn = false) {i : Nat} {ds : List Da} : g'.sl[i]? ≠ some (some (.own ds)) := fun z => by
  have h1 := List.mem_of_getElem? z
  rw [List.any_eq_false] at h
  exact h _ h1 rfl
/-- the state from now on -/
theorem Sta.rebase {c : Con} (s : Sta K c g' σ' H' [] [] F' a') (fu : g'.fu = none) (no : g'.sl.any isOwn = false) : Sta K ⟨F', H', none⟩ g' σ' H' [] [] F' a' :=
  ⟨Ex.refl _, s.eh, fun b o _ _ h => h, fun b h => .inl h, fun b h => (by cases h), fun _ => rfl, fun n h => (by rw [fu] at h; cases h), s.tmp, s.len, fun i sv h => by
    obtain ⟨v, h1, h2⟩ := s.slot i sv h
    refine ⟨v, h1, ?_⟩
    cases sv with
    | own ds => exact absurd h (no_own no)
    | _ => exact h2, s.dis, s.tabk, .refl⟩
theorem StI.next (t : StI K p C dx F0 H0 g σ H F a us fs) (s : Sta K ⟨F, H, none⟩ g' σ' H' [] [] F' a') (fu : g'.fu = none) (no : g'.sl.any isOwn = false) (sl0 : g'.sl[0]? = some (some (.ob (.at p)))) : StI K p C dx F0 H0 g' σ' H' F' a' us fs := by
  have kp : ∀ b o, NT o → H b = some o → H' b = some o := fun b o hn h => s.keep b o (fun z => by cases z) hn h
  have fp : F' p = none := by
    cases q : F' p with
    | none => rfl
    | some u =>
      rcases s.new p (ne_none q) with z | z
      · exact absurd t.fp z
      · have : H p = none := z
        rw [t.ins] at this
        cases this
  refine ⟨s.rebase fu no, fu, sl0, kp _ _ (fun _ z => by cases z) t.ins, fp, t.nm, t.rp.up s.e0, t.e0.trans s.e0, fun b o n hn h => kp b o hn (t.kp b o n hn h), fun b h => ?_, t.tb.trans s.tab⟩
  rcases s.new b h with z | z
  · exact t.nw b z
  · by_cases q : b = p
    · subst q; exact absurd fp h
    · refine .inr ?_
      cases w : H0 b with
      | none => rfl
      | some o =>
        have z : H b = none := z
        cases o with
        | tbl ps =>
          obtain ⟨ps', w'⟩ := t.tb b ps w
          rw [w'] at z; cases z
        | _ => rw [t.kp b _ q (fun _ z => by cases z) w] at z; cases z
end
end Z
namespace Z
open L2 PySem PySem.Spec PyProof.Rows
open Evl (Ex ex_l ex_t ex_rd fresh_back)
end Z
namespace Z
open L2 PySem PySem.Spec PyProof.Rows
end Z
namespace Z
open L2 PySem PySem.Spec PyProof.Rows
open Evl (Ex ex_l ex_t ex_rd fresh_back)
variable {Wx : WX}
def plainS : Option Sv → Bool
  | none => true
  | some (.val _) => true
  | _ => false
structure StJ (K : Fg) (nm : Str) (p C dx : Addr) (F0 H0 : Hp) (g : Gs) (σ : L2.St) (H F : Hp) (a : Addr) (us : List (Str × V)) (fs : List (Str × Da)) : Prop where
  st : Sta K ⟨F, H, none⟩ g σ H [] [] F a
  fu : g.fu = none
  sl0 : g.sl[0]? = some (some (.ob (.insAt p nm fs)))
  pl : g.sl.tail.all plainS = true
  nsC : PySem.W.nsIn K mainGlobals nm = some (some (.ref C))
  ins : F p = some (.ins C dx us)
  fp : F0 p = none
  nm : us.map Prod.fst = fs.map Prod.fst
  rp : Rps K F (us.map Prod.snd) (fs.map Prod.snd)
  e0 : Ex F0 F
  kp : ∀ b o, b ≠ p → NT o → H0 b = some o → H b = some o
  nw : ∀ b, b ≠ p → F b ≠ none → F0 b ≠ none ∨ H0 b = none
  tb : TbS H0 H
/-- the new instance is as it was, nothing is own -/
def okJ (g g' : Gs) : Prop := g'.fu = none ∧ g'.sl[0]? = g.sl[0]? ∧ g'.sl.tail.all plainS = true
section
variable {K : Fg} {nm : Str} {p C dx : Addr} {F0 H0 : Hp} {g g' : Gs} {σ σ' : L2.St} {H F H' F' : Hp} {a a' : Addr} {us : List (Str × V)} {fs : List (Str × Da)}
theorem no_ownJ {k : Kd} (h0 : g.sl[0]? = some (some (.ob k))) (ht : g.sl.tail.all plainS = true) {i : Nat} {ds : List Da} : g.sl[i]? ≠ some (some (.own ds)) := fun z => by
  cases i with
  | zero => rw [h0] at z; cases z
  | succ i =>
    have h1 : g.sl.tail[i]? = some (some (.own ds)) := by rw [List.getElem?_tail]; exact z
    have := List.all_eq_true.mp ht _ (List.mem_of_getElem? h1)
    cases this
theorem StJ.next (t : StJ K nm p C dx F0 H0 g σ H F a us fs) (s : Sta K ⟨F, H, none⟩ g' σ' H' [] [] F' a') (ok : okJ g g') : StJ K nm p C dx F0 H0 g' σ' H' F' a' us fs := by
  obtain ⟨fu, o0, pl⟩ := ok
  have sl0 : g'.sl[0]? = some (some (.ob (.insAt p nm fs))) := o0.trans t.sl0
  have kp : ∀ b o, NT o → H b = some o → H' b = some o := fun b o hn h => s.keep b o (fun z => by cases z) hn h
  refine ⟨⟨Ex.refl _, s.eh, fun b o _ _ h => h, fun b h => .inl h, fun b h => (by cases h), fun _ => rfl, fun n h => (by rw [fu] at h; cases h), s.tmp, s.len, fun i sv h => ?_, s.dis, s.tabk, .refl⟩, fu, sl0, pl, t.nsC, s.e0 _ _ t.ins, t.fp, t.nm, t.rp.up s.e0, t.e0.trans s.e0, fun b o n hn h => kp b o hn (t.kp b o n hn h), fun b n h => ?_, t.tb.trans s.tab⟩
  · obtain ⟨v, h1, h2⟩ := s.slot i sv h
    refine ⟨v, h1, ?_⟩
    cases sv with
    | own ds => exact absurd h (no_ownJ sl0 pl)
    | _ => exact h2
  · rcases s.new b h with z | z
    · exact t.nw b n z
    · refine .inr ?_
      cases w : H0 b with
      | none => rfl
      | some o =>
        have z : H b = none := z
        cases o with
        | tbl ps =>
          obtain ⟨ps', w'⟩ := t.tb b ps w
          rw [w'] at z; cases z
        | _ => rw [t.kp b _ n (fun _ z => by cases z) w] at z; cases z
end
end Z
namespace Z
open L2 PySem PySem.Spec PyProof.Rows
/-- the sign of the root of n / d minus t / b * 2 ^ e -/
def cmR (n d e t b : Int) : Int :=
  (if d * t * t * 2 ^ (2 * e).toNat < n * b * b * 2 ^ (0 - 2 * e).toNat then 1 else 0) - (if n * b * b * 2 ^ (0 - 2 * e).toNat < d * t * t * 2 ^ (2 * e).toNat then 1 else 0)
theorem cmR_pos {n d e t b : Int} : 0 < cmR n d e t b ↔ d * t * t * 2 ^ (2 * e).toNat < n * b * b * 2 ^ (0 - 2 * e).toNat := by
  unfold cmR
  split <;> split <;> omega
theorem sq_le {x y : Int} (h0 : 0 ≤ x) (h : x ≤ y) : x * x ≤ y * y := Int.mul_le_mul h h h0 (Int.le_trans h0 h)
theorem p4 (m : Nat) : (2 : Int) ^ m * 2 ^ m = 4 ^ m := by rw [← Int.mul_pow]; rfl
/-- whether the root's position is above the threshold -/
def UpR (n d e k : Int) (T : Bool → Th) : Prop :=
  cmR n d e k 1 ≠ 0 ∧ (0 < cmR n d e (k * (T (decide (k % 2 = 1))).d + (T (decide (k % 2 = 1))).n) (T (decide (k % 2 = 1))).d ∨ (cmR n d e (k * (T (decide (k % 2 = 1))).d + (T (decide (k % 2 = 1))).n) (T (decide (k % 2 = 1))).d = 0 ∧ (T (decide (k % 2 = 1))).up = true))
instance (n d e k : Int) (T : Bool → Th) : Decidable (UpR n d e k T) := by unfold UpR; infer_instance
end Z
namespace Z
open L2 PySem PySem.Spec PyProof.Rows
open Evl (Ex ex_l ex_t ex_rd fresh_back)
end Z
namespace Z
open L2 PySem PySem.Spec PyProof.Rows
open Evl (Ex ex_l ex_t ex_rd fresh_back)
mutual
def layX : Da → Bool
  | .none => true
  | .bool _ => true
  | .int _ => true
  | .str x => PyData.strOk x
  | .list xs => layXs xs
  | .tuple xs => layXs xs
  | .dict kvs => layKv kvs
def layXs : List Da → Bool
  | [] => true
  | x :: xs => layX x && layXs xs
def layKv : List (Da × Da) → Bool
  | [] => true
  | (k, v) :: r => layX k && layX v && layKv r
end
mutual
def szX : Da → Nat
  | .none => 4
  | .bool _ => 5
  | .int _ => 1921
  | .str x => 10 * x.length + 2
  | .list xs => szXs xs + 3
  | .tuple xs => szXs xs + 3
  | .dict kvs => szKv kvs + 3
def szXs : List Da → Nat
  | [] => 0
  | x :: xs => szX x + 2 + szXs xs
def szKv : List (Da × Da) → Nat
  | [] => 0
  | (k, v) :: r => szX k + szX v + 4 + szKv r
end
theorem dictText_len_le (ps : List Str) : (dictText ps).length ≤ (ps.map (·.length)).sum + 2 * ps.length + 2 := by
  have h : (Str.join ", " ps).length ≤ (ps.map (·.length)).sum + ps.length * 2 := StrLaws.join_length_le ", " ps
  unfold dictText
  rw [strLen_append, strLen_append]
  show 1 + (Str.join ", " ps).length + 1 ≤ _
  omega
mutual
theorem szX_ok : ∀ d : Da, layX d = true → d.showable = true → d.shown.length ≤ szX d
  | .none, _, _ => by decide +kernel
  | .bool true, _, _ => by decide +kernel
  | .bool false, _, _ => by decide +kernel
  | .int i, _, h => int_text_len_1921 (of_decide_eq_true (show decide (i.natAbs.log2 < 1920) = true from h))
  | .str x, h, _ => StrLaws.reprText_len x (strOk_small h)
  | .list xs, h, h' => by
    have h1 := szXs_ok xs h (by simpa [PyData.showable] using h')
    have h2 := listText_len_le (PyData.shownAll xs)
    show (listText (PyData.shownAll xs)).length ≤ szXs xs + 3
    omega
  | .tuple xs, h, h' => by
    have h1 := szXs_ok xs h (by simpa [PyData.showable] using h')
    have h2 := tupleText_len_le (PyData.shownAll xs)
    show (tupleText (PyData.shownAll xs)).length ≤ szXs xs + 3
    omega
  | .dict kvs, h, h' => by
    have h1 := szKv_ok kvs h (by simpa [PyData.showable] using h')
    have h2 := dictText_len_le (PyData.shownKv kvs)
    show (dictText (PyData.shownKv kvs)).length ≤ szKv kvs + 3
    omega
theorem szXs_ok : ∀ xs : List Da, layXs xs = true → PyData.showableAll xs = true → ((PyData.shownAll xs).map (·.length)).sum + 2 * (PyData.shownAll xs).length ≤ szXs xs
  | [], _, _ => by simp [PyData.shownAll, szXs]
  | x :: xs, h, h' => by
    have q : layX x = true ∧ layXs xs = true := by simpa [layXs] using h
    have q' : x.showable = true ∧ PyData.showableAll xs = true := by simpa [PyData.showableAll] using h'
    have h1 := szX_ok x q.1 q'.1
    have h2 := szXs_ok xs q.2 q'.2
    simp only [PyData.shownAll, szXs, List.map_cons, List.sum_cons, List.length_cons]
    omega
theorem szKv_ok : ∀ kvs : List (Da × Da), layKv kvs = true → PyData.showableKv kvs = true → ((PyData.shownKv kvs).map (·.length)).sum + 2 * (PyData.shownKv kvs).length ≤ szKv kvs
  | [], _, _ => by simp [PyData.shownKv, szKv]
  | (k, v) :: r, h, h' => by
    have q : (layX k = true ∧ layX v = true) ∧ layKv r = true := by simpa [layKv] using h
    have q' : (k.showable = true ∧ v.showable = true) ∧ PyData.showableKv r = true := by simpa [PyData.showableKv] using h'
    have h1 := szX_ok k q.1.1 q'.1.1
    have h2 := szX_ok v q.1.2 q'.1.2
    have h3 := szKv_ok r q.2 q'.2
    have e : (k.shown ++ ": " ++ v.shown).length = k.shown.length + 2 + v.shown.length := by
      rw [strLen_append, strLen_append]; rfl
    simp only [PyData.shownKv, szKv, List.map_cons, List.sum_cons, List.length_cons, e]
    omega
end
mutual
theorem cps_shownX : ∀ d : Da, layX d = true → Cps d.shown
  | .none, _ => cps_of _
  | .bool b, _ => by cases b <;> exact cps_of _
  | .int i, _ => cps_of _
  | .str x, h => cps_repr (cps_ok.mp h)
  | .list xs, h => cps_app (cps_text _ _ _ (cps_of _) (cps_allX xs h)) (cps_of _)
  | .tuple xs, h => cps_app (cps_app (cps_of _) (cps_join (cps_of _) _ (cps_allX xs h))) (cps_of _)
  | .dict kvs, h => cps_app (cps_app (cps_of _) (cps_join (cps_of _) _ (cps_allKv kvs h))) (cps_of _)
theorem cps_allX : ∀ xs : List Da, layXs xs = true → ∀ t ∈ PyData.shownAll xs, Cps t
  | [], _, t, ht => by simp [PyData.shownAll] at ht
  | x :: xs, h, t, ht => by
    have q : layX x = true ∧ layXs xs = true := by simpa [layXs] using h
    rcases List.mem_cons.mp (show t ∈ x.shown :: PyData.shownAll xs from ht) with rfl | ht
    · exact cps_shownX x q.1
    · exact cps_allX xs q.2 t ht
theorem cps_allKv : ∀ kvs : List (Da × Da), layKv kvs = true → ∀ t ∈ PyData.shownKv kvs, Cps t
  | [], _, t, ht => by simp [PyData.shownKv] at ht
  | (k, v) :: r, h, t, ht => by
    have q : (layX k = true ∧ layX v = true) ∧ layKv r = true := by simpa [layKv] using h
    rcases List.mem_cons.mp (show t ∈ (k.shown ++ ": " ++ v.shown) :: PyData.shownKv r from ht) with rfl | ht
    · exact cps_app (cps_app (cps_shownX k q.1.1) (cps_of _)) (cps_shownX v q.1.2)
    · exact cps_allKv r q.2 t ht
end
/-- may be shown, dicts among them -/
theorem big_no : ¬ bigX.natAbs.log2 < 1920 := by decide +kernel
theorem xc_no {nm : Str} {z : Da} (h : PyData.showable (.dict [(.none, .tuple [.int bigX, .str nm, z])]) = true) : False := by
  simp only [PyData.showable, PyData.showableAll, PyData.showableKv, Bool.and_eq_true, decide_eq_true_eq] at h
  exact absurd h (by have := big_no; simp_all)
theorem x0_no {nm : Str} (h : PyData.showable (.dict [(.none, .tuple [.int bigX, .str nm])]) = true) : False := by
  simp only [PyData.showable, PyData.showableAll, PyData.showableKv, Bool.and_eq_true, decide_eq_true_eq] at h
  exact absurd h (by have := big_no; simp_all)
structure ShX (d : Da) : Prop where
  lay : layX d = true
  sh : d.showable = true
  dp : d.depth ≤ 60
  sz : szX d ≤ 16000000
theorem ShX.len {d : Da} (h : ShX d) : d.shown.length ≤ sizeLine := Nat.le_trans (szX_ok d h.lay h.sh) (Nat.le_trans h.sz (by decide))
theorem ShX.cps {d : Da} (h : ShX d) : Cps d.shown := cps_shownX d h.lay
section
variable {X : Cx} {pins : List (Addr × Obj)} {σ : L2.St} {H F : Hp} {s : Shared}
theorem rek_more {P : Program} {w : World} {as as' : List Addr} {h : Heap} {d d' : Nat} (hsub : ∀ b ∈ as, b ∈ as') (hd : d ≤ d') : ∀ {es : List DictEntry} {ps : List Str}, ReprEntriesK P w as h d es ps → ReprEntriesK P w as' h d' es ps
  | _, _, .nil => .nil
  | _, _, .cons h1 h2 h3 => .cons ((h1.more hsub).level_le hd) ((h2.more hsub).level_le hd) (rek_more hsub hd h3)
theorem key_reads {h : Heap} {k : Key} {v : Value} (e : keyIs k v = true) : Reads h v (keyD k) [] := by
  rcases keyIs_shape e with ⟨i, t, rfl, rfl⟩ | ⟨x, t, rfl, rfl⟩
  · exact .int i t
  · exact .str x t
mutual
theorem rp_repr (I : Inv X pins σ H s) (e : Ex F H) : ∀ (d : Da) (v : V) (u : Value), Rp X.K F v d → RelV v u → d.showable = true → d.shown.length ≤ sizeLine →
    ∃ as bs, Reads s.heap u d as ∧ ReadAtMost s.heap d.depth bs ∧ ReprK X.prog X.w bs s.heap d.depth u d.shown
  | .none, _, _, h, r, _, _ => by cases h; cases r; exact ⟨[], [], .none, (fun _ h => nomatch h), by simp only [PyData.shown]; exact .of_is ReprIs.none _ _ _⟩
  | .bool b, _, _, h, r, _, _ => by cases h; cases r; exact ⟨[], [], .bool b, (fun _ h => nomatch h), by simp only [PyData.shown]; exact .of_is (ReprIs.bool b) _ _ _⟩
  | .int i, _, _, h, r, hs, _ => by cases h; obtain ⟨t, rfl⟩ := r; exact ⟨[], [], .int i t, (fun _ h => nomatch h), by simp only [PyData.shown]; exact .of_is (ReprIs.int t (by simpa [PyData.showable] using hs)) _ _ _⟩
  | .str x, _, _, h, r, _, hz => by cases h; obtain ⟨t, rfl⟩ := r; exact ⟨[], [], .str x t, (fun _ h => nomatch h), by simp only [PyData.shown]; exact .of_is (ReprIs.str x t (by simpa only [PyData.shown] using hz)) _ _ _⟩
  | .list ds, _, _, h, r, hs, hz => by
    cases h with
    | lst hf ha =>
      rename_i a xs
      cases r
      obtain ⟨its, rv, ⟨⟨cls, dd, data, sls⟩, n, ho, hc, hdn, hdt⟩, hlen⟩ := I.list (.inl (.inl (e _ _ hf)))
      simp only at hc hdt
      subst hc hdt
      have hz' : (listText (PyData.shownAll ds)).length ≤ sizeLine := by simpa only [PyData.shown] using hz
      obtain ⟨as, bs, h4, hb, hk⟩ := rps_repr I e ds xs its ha rv (by simpa [PyData.showable] using hs) (fun t ht => Nat.le_trans (listText_mem_le ht) hz')
      have r : Reads s.heap (.ref a) (.list ds) _ := .list ho rfl rfl h4
      have hna : a ∉ bs := not_mem_of_deeper r (by simp only [PyData.depth]; omega) hb
      refine ⟨_, a :: bs, r, ReadAtMost.cons r (by simp only [PyData.depth]; omega) hb, ?_⟩
      simp only [PyData.depth, PyData.shown]
      cases its with
      | nil =>
        cases h4
        simp only [PyData.shownAll, listText_nil]
        exact ReprK.listEmpty ho rfl rfl
      | cons y l => exact ReprK.list ho rfl rfl hna (by simpa using hk.length_eq) (fun i y e => hk.item i y (by simpa using e))
  | .tuple ds, _, _, h, r, hs, hz => by
    cases h with
    | tup hf ha =>
      rename_i a xs
      cases r
      obtain ⟨its, rv, ⟨o, ho, hc, n, hd⟩, hlen⟩ := I.tuple (ex_t e hf)
      have hz' : (tupleText (PyData.shownAll ds)).length ≤ sizeLine := by simpa only [PyData.shown] using hz
      obtain ⟨as, bs, h4, hb, hk⟩ := rps_repr I e ds xs its ha rv (by simpa [PyData.showable] using hs) (fun t ht => Nat.le_trans (tupleText_mem_le ht) hz')
      have r : Reads s.heap (.ref a) (.tuple ds) _ := .tuple ho hc hd h4
      have hna : a ∉ bs := not_mem_of_deeper r (by simp only [PyData.depth]; omega) hb
      refine ⟨_, a :: bs, r, ReadAtMost.cons r (by simp only [PyData.depth]; omega) hb, ?_⟩
      simp only [PyData.depth, PyData.shown]
      exact ReprK.tuple ho hc hd hna hk
  | .dict es, _, _, h, r, hs, hz => by
    cases h with
    | xc h1 h2 h3 h4 => exact (xc_no hs).elim
    | x0 h1 h2 => exact (x0_no hs).elim
    | dct hf ha =>
      rename_i a kvs
      cases r
      obtain ⟨hl, hsys, vs, hkv, o, en, ep, ho, hx, hd, _, hp, _⟩ := dk_rd I.hok (ex_rd e hf)
      have hz' : (dictText (PyData.shownKv es)).length ≤ sizeLine := by simpa only [PyData.shown] using hz
      obtain ⟨as, bs, b, h4, h5, hb, hk⟩ := rpk_repr I e es kvs vs en.toList ha hkv hp (by simpa [PyData.showable] using hs) (fun t ht => Nat.le_trans (dictText_mem_le ht) hz')
      have r : Reads s.heap (.ref a) (.dict es) _ := .dict ho hx.1 hd h4 h5
      have hna : a ∉ b := not_mem_of_deeper r (by simp only [PyData.depth]; omega) hb
      refine ⟨_, a :: b, r, ReadAtMost.cons r (by simp only [PyData.depth]; omega) hb, ?_⟩
      simp only [PyData.depth, PyData.shown]
      exact ReprK.dict ho hx.1 hd hsys hna hk
theorem rps_repr (I : Inv X pins σ H s) (e : Ex F H) : ∀ (ds : List Da) (vs : List V) (us : List Value), Rps X.K F vs ds → Vals vs us → PyData.showableAll ds = true → (∀ t ∈ PyData.shownAll ds, t.length ≤ sizeLine) →
    ∃ as bs, ReadsAll s.heap us ds as ∧ ReadAtMost s.heap (PyData.depthAll ds) bs ∧ ReprAllK X.prog X.w bs s.heap (PyData.depthAll ds) us (PyData.shownAll ds)
  | [], _, _, h, r, _, _ => by cases h; cases r; exact ⟨[], [], .nil, (fun _ h => nomatch h), by simp only [PyData.shownAll]; exact .nil⟩
  | d :: ds, _, _, h, r, hs, hz => by
    cases h with
    | cons h1 h2 =>
      cases r with
      | cons r1 r2 =>
        have hs' : d.showable = true ∧ PyData.showableAll ds = true := by simpa [PyData.showableAll] using hs
        obtain ⟨a1, b1, q1, hb1, k1⟩ := rp_repr I e d _ _ h1 r1 hs'.1 (hz _ (by simp only [PyData.shownAll]; exact List.mem_cons_self ..))
        obtain ⟨a2, b2, q2, hb2, k2⟩ := rps_repr I e ds _ _ h2 r2 hs'.2 (fun t ht => hz t (by simp only [PyData.shownAll]; exact List.mem_cons_of_mem _ ht))
        refine ⟨a1 ++ a2, b1 ++ b2, .cons q1 q2, ?_, ?_⟩
        · intro b hm
          simp only [PyData.depthAll]
          rcases List.mem_append.mp hm with hm | hm
          · obtain ⟨d', as', r', hd'⟩ := hb1 b hm
            exact ⟨d', as', r', Nat.le_trans hd' (Nat.le_max_left _ _)⟩
          · obtain ⟨d', as', r', hd'⟩ := hb2 b hm
            exact ⟨d', as', r', Nat.le_trans hd' (Nat.le_max_right _ _)⟩
        · simp only [PyData.depthAll, PyData.shownAll]
          exact .cons ((k1.more fun b hb => List.mem_append_left _ hb).level_le (Nat.le_max_left _ _)) (k2.more_le (fun b hb => List.mem_append_right _ hb) (Nat.le_max_right _ _))
theorem rpk_repr (I : Inv X pins σ H s) (e : Ex F H) : ∀ (es : List (Da × Da)) (kvs : List (Key × V)) (vs : List (Key × Value)) (en : List DictEntry), RpK X.K F kvs es → KV kvs vs → Pairs (mixKind X.prog X.w) en vs → PyData.showableKv es = true → (∀ t ∈ PyData.shownKv es, t.length ≤ sizeLine) →
    ∃ as bs b, ReadsAll s.heap (en.map (·.key)) (es.map (·.1)) as ∧ ReadsAll s.heap (en.map (·.val)) (es.map (·.2)) bs ∧ ReadAtMost s.heap (PyData.depthKv es) b ∧ ReprEntriesK X.prog X.w b s.heap (PyData.depthKv es) en (PyData.shownKv es)
  | [], _, _, _, h, r, p, _, _ => by
    cases h; cases r; cases p
    exact ⟨[], [], [], .nil, .nil, (fun _ h => nomatch h), by simp only [PyData.shownKv]; exact .nil⟩
  | (_, d) :: es, _, _, _, h, r, p, hs, hz => by
    cases h with
    | cons h1 h2 =>
      cases r with
      | cons r1 r2 =>
        cases p with
        | cons p1 p2 p3 =>
          rename_i k v kvs' q vs' en' es'
          obtain ⟨rk, rv⟩ := r1
          have rk : k = q.1 := rk
          have rv : RelV v q.2 := rv
          have hs' : ((keyD k).showable = true ∧ d.showable = true) ∧ PyData.showableKv es = true := by simpa [PyData.showableKv] using hs
          have hz1 : ((keyD k).shown ++ ": " ++ d.shown).length ≤ sizeLine := hz _ (by simp only [PyData.shownKv]; exact List.mem_cons_self ..)
          rw [strLen_append, strLen_append] at hz1
          have p1' : keyIs k en'.key = true := by rw [rk]; exact p1
          obtain ⟨a1, b1, q1, hb1, k1⟩ := rp_repr I e d _ _ h1 (show RelV v en'.val by rw [p2]; exact rv) hs'.1.2 (by omega)
          obtain ⟨a2, a3, b2, q2, q3, hb2, k2⟩ := rpk_repr I e es _ _ _ h2 r2 p3 hs'.2 (fun t ht => hz t (by simp only [PyData.shownKv]; exact List.mem_cons_of_mem _ ht))
          have kk : ReprK X.prog X.w (b1 ++ b2) s.heap (max (max (keyD k).depth d.depth) (PyData.depthKv es)) en'.key (keyD k).shown := by
            have g := hs'.1.1
            rcases keyIs_shape p1' with ⟨i, t, e1, e2⟩ | ⟨x, t, e1, e2⟩
            · rw [e2]
              rw [e1] at g ⊢
              simp only [keyD, PyData.shown]
              exact .of_is (ReprIs.int t (by simpa [keyD, PyData.showable] using g)) _ _ _
            · rw [e2]
              rw [e1] at hz1 ⊢
              simp only [keyD, PyData.shown] at hz1 ⊢
              exact .of_is (ReprIs.str x t (by omega)) _ _ _
          refine ⟨[] ++ a2, a1 ++ a3, b1 ++ b2, .cons (key_reads p1') q2, .cons q1 q3, ?_, ?_⟩
          · intro b hm
            simp only [PyData.depthKv]
            rcases List.mem_append.mp hm with hm | hm
            · obtain ⟨d', as', r', hd'⟩ := hb1 b hm
              exact ⟨d', as', r', by omega⟩
            · obtain ⟨d', as', r', hd'⟩ := hb2 b hm
              exact ⟨d', as', r', by omega⟩
          · simp only [PyData.depthKv, PyData.shownKv]
            have kv : ReprK X.prog X.w (b1 ++ b2) s.heap (max (max (keyD k).depth d.depth) (PyData.depthKv es)) en'.val d.shown := (k1.more fun b hb => List.mem_append_left _ hb).level_le (by omega)
            have kr : ReprEntriesK X.prog X.w (b1 ++ b2) s.heap (max (max (keyD k).depth d.depth) (PyData.depthKv es)) es' (PyData.shownKv es) := rek_more (fun b hb => List.mem_append_right _ hb) (by omega) k2
            first
              | exact .cons kk kv kr
              | (rw [Nat.max_assoc] at kk kv kr; exact .cons kk kv kr)
end
theorem shows_x (I : Inv X pins σ H s) (e : Ex F H) {a : Addr} {d : Da} {v : V} (hr : Rp X.K F v d) (r : RelV v (.ref a)) (hs : d.showable = true) (hz : d.shown.length ≤ sizeLine) : ∃ T idr, ShowsBy X.prog X.w s.heap a d T idr := by
  cases hr with
  | non => cases r
  | bl b => cases r
  | int i => obtain ⟨t, r⟩ := r; cases r
  | str x => obtain ⟨t, r⟩ := r; cases r
  | lst hf ha =>
    rename_i xs ds
    cases r
    obtain ⟨its, rv, ⟨⟨cls, dd, data, sls⟩, n, ho, hc, hdn, hdt⟩, hlen⟩ := I.list (.inl (.inl (e _ _ hf)))
    simp only at hc hdt
    subst hc hdt
    have hz' : (listText (PyData.shownAll ds)).length ≤ sizeLine := by simpa only [PyData.shown] using hz
    obtain ⟨as, bs, h4, hb, hk⟩ := rps_repr I e ds xs its ha rv (by simpa [PyData.showable] using hs) (fun t ht => Nat.le_trans (listText_mem_le ht) hz')
    have r : Reads s.heap (.ref a) (.list ds) _ := .list ho rfl rfl h4
    have hna : a ∉ bs := not_mem_of_deeper r (by simp only [PyData.depth]; omega) hb
    refine ⟨"list", "list.__repr__", PySem.F.slot_list_repr.toG, PySem.F.slot_list_str, PySem.F.slot_list_format, fun s hk0 => ⟨_, hk0 _ _ ho, rfl⟩, fun A E s Q hg hu hk0 hQ => ?_⟩
    simp only [PyData.depth] at hu
    simp only [PyData.shown] at hQ
    cases its with
    | nil =>
      cases h4
      simp only [PyData.shownAll, listText_nil] at hQ
      exact call_list_repr_empty ⟨_, hk0 _ _ ho, rfl⟩ (hk0 _ _ ho) rfl (hQ s.heap _ _ fun _ _ e => e)
    | cons y l => exact call_list_reprK ho rfl rfl hna (by simpa using hk.length_eq) (fun i y e => hk.item i y (by simpa using e)) hg (fun b _ => Clear.nil b) hu hk0 hQ hz'
  | tup hf ha =>
    rename_i xs ds
    cases r
    obtain ⟨its, rv, ⟨o, ho, hc, n, hd⟩, hlen⟩ := I.tuple (ex_t e hf)
    have hz' : (tupleText (PyData.shownAll ds)).length ≤ sizeLine := by simpa only [PyData.shown] using hz
    obtain ⟨as, bs, h4, hb, hk⟩ := rps_repr I e ds xs its ha rv (by simpa [PyData.showable] using hs) (fun t ht => Nat.le_trans (tupleText_mem_le ht) hz')
    have r : Reads s.heap (.ref a) (.tuple ds) _ := .tuple ho hc hd h4
    have hna : a ∉ bs := not_mem_of_deeper r (by simp only [PyData.depth]; omega) hb
    refine ⟨"tuple", "tuple.__repr__", PySem.F.slot_tuple_repr, PySem.F.slot_tuple_str, PySem.F.slot_tuple_format, fun s hk0 => ⟨o, hk0 _ _ ho, hc⟩, fun A E s Q hg hu hk0 hQ => ?_⟩
    simp only [PyData.depth] at hu
    simp only [PyData.shown] at hQ
    exact call_tuple_reprK ho hc hd hna hk hg (fun b _ => Clear.nil b) hu hk0 hQ hz'
  | xc h1 h2 h3 h4 => exact (xc_no hs).elim
  | x0 h1 h2 => exact (x0_no hs).elim
  | dct hf ha =>
    rename_i kvs es
    cases r
    obtain ⟨hl, hsys, vs, hkv, o, en, ep, ho, hx, hd, _, hp, _⟩ := dk_rd I.hok (ex_rd e hf)
    have hz' : (dictText (PyData.shownKv es)).length ≤ sizeLine := by simpa only [PyData.shown] using hz
    obtain ⟨as, bs, b, h4, h5, hb, hk⟩ := rpk_repr I e es kvs vs en.toList ha hkv hp (by simpa [PyData.showable] using hs) (fun t ht => Nat.le_trans (dictText_mem_le ht) hz')
    have r : Reads s.heap (.ref a) (.dict es) _ := .dict ho hx.1 hd h4 h5
    have hna : a ∉ b := not_mem_of_deeper r (by simp only [PyData.depth]; omega) hb
    refine ⟨"dict", "dict.__repr__", PySem.F.slot_dict_repr, PySem.F.slot_dict_str, PySem.F.slot_dict_format, fun s hk0 => ⟨o, hk0 _ _ ho, hx.1⟩, fun A E s Q hg hu hk0 hQ => ?_⟩
    simp only [PyData.depth] at hu
    simp only [PyData.shown] at hQ
    exact call_dict_reprK ho hx.1 hd hsys hna hk hg (fun b _ => Clear.nil b) hu hk0 hQ hz'
end
def cReprX : CF := fun rs post => match rs with
  | [.val d] => ShX d ∧ post (.str d.shown)
  | _ => False
section
variable {X : Cx}
theorem call_reprX (hu : X.A.units + 64 < cLine) (hg : X.A.guards = some []) : CallR X (.builtin "repr") (fun xs H Q => ∃ x d F, xs = [x] ∧ Ex F H ∧ Rp X.K F x d ∧ ShX d ∧ Q (.str d.shown) H) := by
  intro pins s σ H xs us Q I r h
  obtain ⟨x, d, F, rfl, ef, hd, hs, q⟩ := h
  obtain ⟨u, rfl, ru⟩ := r.one
  have hz := hs.len
  have key : ∀ a, u = .ref a → wpAny (model X.prog X.w) X.A (call (.builtin "repr") [u]) (EP X pins σ Q) X.xe s := fun a e => by
    subst e
    obtain ⟨T, idr, S⟩ := shows_x I ef hd ru hs.sh hz
    exact call_repr_slot (by omega) (S.typeIs s fun _ _ e => e) S.slotRepr (S.call X.A.in1 X.xe s _ hg (by show X.A.units + 1 + d.depth < cLine; have := hs.dp; omega) (fun _ _ e => e) fun h' u tk hk => ⟨_, _, rfl, ⟨.str _, H, I.kept hk, ⟨_, rfl⟩, q⟩⟩)
  cases hd with
  | non => cases ru; exact P.repr_of_none ⟨.str _, H, I.tok _, ⟨_, rfl⟩, q⟩
  | bl b => cases ru; exact P.repr_of_bool ⟨.str _, H, I.tok _, ⟨_, rfl⟩, q⟩
  | int i =>
    obtain ⟨t, rfl⟩ := ru
    exact P.repr_of_int (of_decide_eq_true (show decide (i.natAbs.log2 < 1920) = true from hs.sh)) ⟨.str _, H, I.tok _, ⟨_, rfl⟩, q⟩
  | str z =>
    obtain ⟨t, rfl⟩ := ru
    exact P.repr_of_str ⟨.str _, H, I.tok _, ⟨_, rfl⟩, q⟩ hz
  | lst sq ha => exact key _ (by cases ru; rfl)
  | tup sq ha => exact key _ (by cases ru; rfl)
  | dct sq ha => exact key _ (by cases ru; rfl)
  | xc h1 h2 h3 h4 => exact (xc_no hs.sh).elim
  | x0 h1 h2 => exact (x0_no hs.sh).elim
theorem ok_reprX {K : Fg} : CallOk K (fun xs H Q => ∃ x d F, xs = [x] ∧ Ex F H ∧ Rp K F x d ∧ ShX d ∧ Q (.str d.shown) H) cReprX := fun F H a fu vs rs post Q e t hf k => by
  unfold cReprX at hf
  split at hf
  · rename_i d
    obtain ⟨v, rfl, r⟩ := t.v1
    exact ⟨v, d, F, rfl, e, r, hf.1, k _ _ H F hf.2 (Gr.refl e) (.str _)⟩
  · exact hf.elim
variable {p pos : Pos} {e : Expr} {tr : DA} {k : Nat}
theorem e_reprX (hr : Room k X.A) (hgd : X.A.guards = some []) (hg : Gl X "repr") (hm : X.mg "repr" = none) (ha : PA X [e] (upA X.K tr)) (he : starEach [e] X.env = (false, eval e X.env) :: starEach [] X.env := by rfl) : PE X (.Call (.Name "repr" p) [e] [] pos) (up X.K (dCB cReprX tr)) :=
  e_callB (call_reprX hr.units hgd) ok_reprX hg hm (by decide +kernel) ha (by decide) (by decide) he rfl
end
end Z
namespace Z
open L2 PySem PySem.Spec PyProof.Rows
theorem sq_lt' {x y : Int} (hx : 0 ≤ x) (hy : 0 ≤ y) (h : x * x < y * y) : x < y := by
  rcases Int.lt_or_le x y with z | z
  · exact z
  · have := sq_le hy z
    omega
theorem sq_le' {x y : Int} (hx : 0 ≤ x) (hy : 0 ≤ y) (h : x * x ≤ y * y) : x ≤ y := by
  rcases Int.lt_or_le y x with z | z
  · have := Int.mul_le_mul z z (by omega) hx
    have e : (y + 1) * (y + 1) = y * y + 2 * y + 1 := by grind
    omega
  · exact z
theorem p4n (e : Int) : (2 : Int) ^ (2 * e).toNat = 2 ^ e.toNat * 2 ^ e.toNat ∧ (2 : Int) ^ (0 - 2 * e).toNat = 2 ^ (-e).toNat * 2 ^ (-e).toNat := by
  rw [← Int.pow_add, ← Int.pow_add]
  constructor <;> congr 1 <;> omega
/-- t / u at the root's side, told by a fraction a / b: A = a * 2 ^ -e, B = b * 2 ^ e -/
structure Side (n d a b A B e : Int) : Prop where
  hA : A = a * 2 ^ (-e).toNat
  hB : B = b * 2 ^ e.toNat
  n0 : 0 < n
  d0 : 0 < d
  a0 : 0 ≤ a
  b0 : 0 < b
section
variable {n d a b A B e t u : Int}
theorem Side.A0 (s : Side n d a b A B e) : 0 ≤ A := by rw [s.hA]; exact Int.mul_nonneg s.a0 (Int.le_of_lt (pow2_pos _))
theorem Side.B0 (s : Side n d a b A B e) : 0 < B := by rw [s.hB]; exact Int.mul_pos s.b0 (pow2_pos _)
/-- the two squares, told by cmR's two sides -/
theorem Side.sq (s : Side n d a b A B e) : (t * B) * (t * B) * d = (d * t * t * 2 ^ (2 * e).toNat) * (b * b) ∧ (u * A) * (u * A) * d = (u * u * 2 ^ (0 - 2 * e).toNat) * (a * a * d) := by
  rw [s.hA, s.hB, (p4n e).1, (p4n e).2]
  constructor <;> grind
/-- the fraction is not above the root -/
theorem Side.le (s : Side n d a b A B e) (h : a * a * d ≤ n * (b * b)) (u0 : 0 < u) (t0 : 0 ≤ t) (c : cmR n d e t u ≤ 0) : u * A ≤ t * B := by
  have c : n * u * u * 2 ^ (0 - 2 * e).toNat ≤ d * t * t * 2 ^ (2 * e).toNat := by
    have := cmR_pos (n := n) (d := d) (e := e) (t := t) (b := u)
    omega
  have hd := s.d0
  have bb := Int.mul_pos s.b0 s.b0
  refine sq_le' (Int.mul_nonneg (Int.le_of_lt u0) s.A0) (Int.mul_nonneg t0 (Int.le_of_lt s.B0)) (Int.le_of_mul_le_mul_right (a := d) ?_ hd)
  rw [(s.sq (t := t) (u := u)).1, (s.sq (t := t) (u := u)).2]
  have p := Int.mul_pos (Int.mul_pos u0 u0) (pow2_pos (0 - 2 * e).toNat)
  have q1 := Int.mul_le_mul_of_nonneg_right c (Int.le_of_lt bb)
  have q2 := Int.mul_le_mul_of_nonneg_left h (Int.le_of_lt p)
  have e1 : n * u * u * 2 ^ (0 - 2 * e).toNat * (b * b) = u * u * 2 ^ (0 - 2 * e).toNat * (n * (b * b)) := by grind
  omega
/-- the fraction is below the root -/
theorem Side.lt (s : Side n d a b A B e) (h : a * a * d < n * (b * b)) (u0 : 0 < u) (t0 : 0 ≤ t) (c : cmR n d e t u ≤ 0) : u * A < t * B := by
  have c : n * u * u * 2 ^ (0 - 2 * e).toNat ≤ d * t * t * 2 ^ (2 * e).toNat := by
    have := cmR_pos (n := n) (d := d) (e := e) (t := t) (b := u)
    omega
  have hd := s.d0
  have bb := Int.mul_pos s.b0 s.b0
  refine sq_lt' (Int.mul_nonneg (Int.le_of_lt u0) s.A0) (Int.mul_nonneg t0 (Int.le_of_lt s.B0)) (Int.lt_of_mul_lt_mul_right (a := d) ?_ (Int.le_of_lt hd))
  rw [(s.sq (t := t) (u := u)).1, (s.sq (t := t) (u := u)).2]
  have p := Int.mul_pos (Int.mul_pos u0 u0) (pow2_pos (0 - 2 * e).toNat)
  have q1 := Int.mul_le_mul_of_nonneg_right c (Int.le_of_lt bb)
  have q2 := Int.mul_lt_mul_of_pos_left h p
  have e1 : n * u * u * 2 ^ (0 - 2 * e).toNat * (b * b) = u * u * 2 ^ (0 - 2 * e).toNat * (n * (b * b)) := by grind
  omega
end
end Z
namespace Z
open L2 PySem PySem.Spec PyProof.Rows
open Evl (Ex ex_l ex_t ex_rd fresh_back)
variable {Wx : WX}
theorem Rps.app2 {K : Fg} {F : Hp} : ∀ {vs : List V} {ds : List Da} {v : V} {d : Da}, Rps K F vs ds → Rp K F v d → Rps K F (vs ++ [v]) (ds ++ [d])
  | _, _, _, _, .nil, r => .cons r .nil
  | _, _, _, _, .cons a t, r => .cons a (Rps.app2 t r)
theorem Rps.rev {K : Fg} {F : Hp} : ∀ {vs : List V} {ds : List Da}, Rps K F vs ds → Rps K F vs.reverse ds.reverse
  | _, _, .nil => .nil
  | _, _, .cons a t => by
    rw [List.reverse_cons, List.reverse_cons]
    exact Rps.app2 (Rps.rev t) a
structure Tri (x y z : Int) : Prop where
  x0 : 0 ≤ x
  y0 : 0 ≤ y
  z0 : 0 ≤ z
  ev : (x + y + z) % 2 = 0
  a : x ≤ y + z
  b : y ≤ x + z
  c : z ≤ x + y
theorem Tri.add {x y z x' y' z' : Int} (h : Tri x y z) (h' : Tri x' y' z') : Tri (x + x') (y + y') (z + z') := by
  obtain ⟨a1, a2, a3, a4, a5, a6, a7⟩ := h
  obtain ⟨b1, b2, b3, b4, b5, b6, b7⟩ := h'
  exact ⟨by omega, by omega, by omega, by omega, by omega, by omega, by omega⟩
theorem Tri.one {p q r : Bool} (h : r = (p != q)) : Tri (if p = true then 1 else 0) (if q = true then 1 else 0) (if r = true then 1 else 0) := by
  subst h
  cases p <;> cases q <;> exact ⟨by decide, by decide, by decide, by decide, by decide, by decide, by decide⟩
end Z
namespace Z
open L2 PySem PySem.Spec PyProof.Rows
open Evl (Ex ex_l ex_t ex_rd fresh_back)
variable {Wx : WX}
theorem NewL.grow {K : Fg} {c : Con} {g : Gs} {σ : L2.St} {H F : Hp} {a p : Addr} {v : V} {ds : List Da} {ot : HO} (h : NewL K c g σ H F a v ds) (e : Ex F H) (hp : H p = none) : NewL K c g σ (upd H p ot) (upd F p ot) a v ds := by
  obtain ⟨o, xs, rfl, q2, q3, q4, q5, q6, q7⟩ := h.ex
  have ne : o ≠ p := fun z => by rw [z, hp] at q4; cases q4
  exact ⟨o, xs, rfl, by rw [upd_ne ne]; exact q2, q3, by rw [upd_ne ne]; exact q4, q5.up (Gr.new e hp).f, q6, q7⟩
end Z
namespace LZN
open PySem
open PySem.Sem (wp)
/-- a zip ahead of an item: fresh, or its first tuple still held -/
def ZSt (h : Heap) (q TI TO u1 u2 S : Addr) : Prop := IsZip h q TI TO .none ∨ ∃ (T : Addr) (f : Bool) (oT : Obj), IsZipHeld h q TI TO T f ∧ h.get? T = some oT ∧ T ≠ q ∧ T ≠ u1 ∧ T ≠ u2 ∧ T ≠ S
structure Run (h : Heap) (q TI TO u1 u2 l1 l2 S : Addr) (xs ys : Array Value) (k : Nat) : Prop where
  D : ZipApart q TI TO u1 u2 l1 l2
  z : ZSt h q TI TO u1 u2 S
  o : ∃ a b, IsPair h TO a b
  i : IsPair h TI (.ref u1) (.ref u2)
  g1 : h.IsListIter u1 l1 k
  g2 : h.IsListIter u2 l2 k
  m1 : h.IsList l1 xs
  m2 : h.IsList l2 ys
structure Off (S q TI TO u1 u2 l1 l2 : Addr) : Prop where
  q : S ≠ q
  TI : S ≠ TI
  TO : S ≠ TO
  u1 : S ≠ u1
  u2 : S ≠ u2
  l1 : S ≠ l1
  l2 : S ≠ l2
section
variable {h h' : Heap} {q TI TO u1 u2 l1 l2 S : Addr} {xs ys : Array Value} {k : Nat}
theorem Run.keep (R : Run h q TI TO u1 u2 l1 l2 S xs ys k) (o : Off S q TI TO u1 u2 l1 l2) (hk : ∀ c ob, c ≠ S → h.get? c = some ob → h'.get? c = some ob) : Run h' q TI TO u1 u2 l1 l2 S xs ys k := by
  obtain ⟨a, b, z2⟩ := R.o
  refine ⟨R.D, ?_, ⟨a, b, hk _ _ o.TO.symm z2⟩, hk _ _ o.TI.symm R.i, R.g1.at fun ob e => hk _ ob o.u1.symm e, R.g2.at fun ob e => hk _ ob o.u2.symm e, R.m1.at fun ob e => hk _ ob o.l1.symm e, R.m2.at fun ob e => hk _ ob o.l2.symm e⟩
  rcases R.z with z1 | ⟨T, f, oT, z1, z2, n1, n2, n3, n4⟩
  · exact .inl (hk _ _ o.q.symm z1)
  · exact .inr ⟨T, f, oT, hk _ _ o.q.symm z1, hk _ _ n4 z2, n1, n2, n3, n4⟩
end
end LZN
namespace Z
open L2 PySem PySem.Spec PyProof.Rows
open Evl (Ex ex_l ex_t ex_rd fresh_back)
end Z
namespace L2
open PySem PySem.Spec PyProof.Rows
end L2
namespace Z
open L2 PySem PySem.Spec PyProof.Rows
open Evl (Ex ex_l ex_t ex_rd fresh_back)
end Z
namespace Z
open L2 PySem PySem.Spec PyProof.Rows
end Z
namespace Z
open L2 PySem PySem.Spec PyProof.Rows
end Z
namespace Z
open L2 PySem PySem.Spec PyProof.Rows
open Evl (Ex ex_l ex_t ex_rd fresh_back)
end Z
namespace Z
open L2 PySem PySem.Spec PyProof.Rows
open Evl (Ex ex_l ex_t ex_rd fresh_back)
end Z
namespace Z
open L2 PySem PySem.Spec PyProof.Rows
open Evl (Ex ex_l ex_t ex_rd fresh_back)
variable {Wx : WX}
def tFmtX (K : Fg) (te : TE) : TE := fun σ H Q => te σ H fun x H1 => ∃ d F, Ex F H1 ∧ Rp K F x d ∧ ShX d ∧ Q (.str d.shown) H1
section
variable {X : Cx} {e : Expr} {te : TE} {pos : Pos}
theorem pe_fmtX (hu : X.A.units + 64 < cLine) (hg : X.A.guards = some []) (he : PE X e te) : PE X (.FormattedValue e 114 none pos) (tFmtX X.K te) := by
  refine ⟨fun pins s σ H Q I h => ?_⟩
  refine wpAny_FormattedValue_repr (thn (he.run pins s σ H _ I h) fun v s1 hv => ?_)
  obtain ⟨x, H1, I1, r1, d, F, ef, hd, hs, q⟩ := hv
  have hz := hs.len
  have fin : ∀ {s2 : Shared} {tk : Tok}, Inv X pins σ H1 s2 → wpAny (model X.prog X.w) X.A (formatField (.str d.shown tk) Str.empty) (EP X pins σ Q) X.xe s2 := fun {s2 tk} I2 =>
    wpAny_formatField_str ⟨.str d.shown, H1, I2, ⟨_, rfl⟩, q⟩ ⟨.str d.shown, H1, I2.tok _, ⟨_, rfl⟩, q⟩ hz
  have key : ∀ a, v = .ref a → wpAny (model X.prog X.w) X.A (pyReprObj v) (fun r s₂ => wpAny (model X.prog X.w) X.A (formatField r Str.empty) (EP X pins σ Q) X.xe s₂) X.xe s1 := fun a e => by
    subst e
    obtain ⟨T, idr, S⟩ := shows_x I1 ef hd r1 hs.sh hz
    exact wpAny_pyReprObj_slot (by omega) (S.typeIs s1 fun _ _ e => e) S.slotRepr (S.call X.A X.xe s1 _ hg (by have := hs.dp; omega) (fun _ _ e => e) fun h' u tk hk => ⟨_, _, rfl, fin (I1.kept hk)⟩)
  cases hd with
  | non => cases r1; exact pyReprObj_none (fin (I1.tok _))
  | bl b => cases r1; cases b <;> exact pyReprObj_bool (fin (I1.tok _))
  | int i =>
    obtain ⟨t, rfl⟩ := r1
    exact pyReprObj_int (of_decide_eq_true (show decide (i.natAbs.log2 < 1920) = true from hs.sh)) (fin (I1.tok _))
  | str z =>
    obtain ⟨t, rfl⟩ := r1
    exact pyReprObj_str (fin (I1.tok _)) hz
  | lst sq ha => exact key _ (by cases r1; rfl)
  | tup sq ha => exact key _ (by cases r1; rfl)
  | dct sq ha => exact key _ (by cases r1; rfl)
  | xc h1 h2 h3 h4 => exact (xc_no hs.sh).elim
  | x0 h1 h2 => exact (x0_no hs.sh).elim
end
/-- what is read off the base's class -/
structure BaseC (K : Fg) (R : Addr) : Prop where
  ga : PySem.W.specialIn K (.ref R) "__getattribute__" = some (some (.builtin "type.__getattribute__"))
  rd : PySem.W.readsIn K R (.type "type") = true
  at_ : PySem.W.findCls K (.ref R) (.type "type") "__init__" = some (.val (.builtin "ValueError.__init__"))
section
variable {X : Cx} {e : Expr} {es : List Expr} {ta : TA} {x : Str} {R : Addr} {p1 p2 pos : Pos}
theorem pe_baseinit {pl : Sem Bool} (B : BaseC X.K R) (hg : Gl X x) (hm : X.mg x = some (.ref R)) (ha : PA X (e :: es) ta) (hdb : (x == ("__debug__" : Str)) = false := by decide)
    (hc : eval (.Call (.Attribute (.Name x p1) "__init__" p2) (e :: es) [] pos) X.env = (do
      let ov ← eval (.Name x p1) X.env
      standAt p2.atName
      let (f, first) ← holding [ov] (getMethod ov "__init__" pl)
      callWith pos f first (backTo pos (starEach (e :: es) X.env)) (backToKw pos (keywordEach [] X.env))) := by rfl)
    (he : starEach (e :: es) X.env = (false, eval e X.env) :: starEach es X.env := by rfl) (hpl : (backTo pos (starEach es X.env)).any (·.1) = false := by rfl) :
    PE X (.Call (.Attribute (.Name x p1) "__init__" p2) (e :: es) [] pos) (tVeI X.K ta) := by
  refine ⟨fun pins s σ H Q I h => ?_⟩
  refine PySem.W.methodCall_KW (ld_glob I hg hm ?_ hdb) hc
  refine PySem.W.method_cls I.kIn B.ga ?_
  refine PySem.W.cls_value I.kIn B.rd B.at_ (by decide +kernel) ?_
  show wpAny _ _ (callWith pos (Value.builtin "ValueError.__init__") [] (backTo pos (starEach (e :: es) X.env)) []) _ _ _
  refine PyProof.Rows.callWith_method1 (thn (ha.run pos pins _ σ H _ (I.tok _) h) fun us s1 ⟨vs, H1, I1, r1, a, C, ws, ev, hl, T, ea, q⟩ => ?_) he hpl
  subst ev
  cases r1 with
  | @cons _ u0 _ ur ra rw' =>
    obtain rfl : u0 = Value.ref a := ra
    have hlen : ur.length ≤ sizeLine := by
      rw [← Paired.length rw', sizeLine_eq]
      omega
    exact oinit_ok T I1 ea hlen fun s' J => ⟨.non, H1, J, rfl, q⟩
end
def spXi (K : Fg) : Sp := fun vs H Q _ => ∃ (a C : Addr) (v : V) (F : Hp) (d : Da), vs = [.ref a, v] ∧ OexC K C ∧ PySem.W.findIn K (.ref C) "value" = some none ∧ H a = some (exo a C none) ∧ Ex F H ∧ Rp K F v d ∧ ShX d ∧
  ∀ dx, H dx = none → dx ≠ a → Q .non (upd (upd H dx (exd dx [("value", v)])) a (exo a C (some dx)))
theorem spXi_len {K : Fg} (vs : List V) (H : Hp) (Q : VK) (E : XK) (h : spXi K vs H Q E) : vs.length = 2 := by
  obtain ⟨a, C, v, F, d, rfl, _⟩ := h
  rfl
def tXi (K : Fg) : TS := fun D σ H => ∃ (a C : Addr) (v : V) (F : Hp) (d : Da), σ[0]? = some (some (.ref a)) ∧ σ[1]? = some (some v) ∧ OexC K C ∧ PySem.W.findIn K (.ref C) "value" = some none ∧ H a = some (exo a C none) ∧ Ex F H ∧ Rp K F v d ∧ ShX d ∧
  ∀ dx, H dx = none → dx ≠ a → D.nx σ (upd (upd H dx (exd dx [("value", v)])) a (exo a C (some dx)))
section
variable {X : Cx} {x sfx : Str} {R : Addr} {j : Option Str} {p1 p2 p3 p4 p5 p6 p7 p8 p9 p10 p11 p12 p13 : Pos}
theorem pss_xinit (B : BaseC X.K R) (hg : Gl X x) (hm : X.mg x = some (.ref R)) (hu : X.A.units + 64 < cLine) (hgd : X.A.guards = some []) (hz : sfx.length ≤ 500) (pv0 : PE X (.Name "self" p3) (tVar 0)) (pv1 : PE X (.Name "value" p4) (tVar 1)) (pv0' : PE X (.Name "self" p9) (tVar 0)) (pv1' : PE X (.Name "value" p10) (tVar 1))
    {jj : _} (hdb : (x == ("__debug__" : Str)) = false := by decide)
    {pl : Sem Bool}
    (hc : eval (.Call (.Attribute (.Name x p1) "__init__" p2) [.Name "self" p3, .JoinedStr [.FormattedValue (.Name "value" p4) 114 none p5, .Constant (.str sfx) jj p6] p7] [] p8) X.env = (do
      let ov ← eval (.Name x p1) X.env
      standAt p2.atName
      let (f, first) ← holding [ov] (getMethod ov "__init__" pl)
      callWith p8 f first (backTo p8 (starEach [.Name "self" p3, .JoinedStr [.FormattedValue (.Name "value" p4) 114 none p5, .Constant (.str sfx) jj p6] p7] X.env)) (backToKw p8 (keywordEach [] X.env))) := by rfl) :
    PSs X [.Expr (.Call (.Attribute (.Name x p1) "__init__" p2) [.Name "self" p3, .JoinedStr [.FormattedValue (.Name "value" p4) 114 none p5, .Constant (.str sfx) jj p6] p7] [] p8) p11, .Assign [.Attribute (.Name "self" p9) "value" p12] (.Name "value" p10) p13]
      (tXi X.K) := by
  have e1 : PE X (.JoinedStr [.FormattedValue (.Name "value" p4) 114 none p5, .Constant (.str sfx) jj p6] p7) _ := pe_joined (.cons (pe_fmtX hu hgd pv1) (.cons pe_str .nil))
  refine pss_to (pss_cons (ps_expr (pe_baseinit B hg hm (pa_cons pv0 (pa_cons e1 pa_nil)) hdb hc)) (pss_one (ps_ost pv0' pv1'))) fun D σ H q => ?_
  obtain ⟨a, C, v, F, d, h0, h1, T, hno, ha, ef, rd, hs, hq⟩ := q
  have hl := szX_ok d hs.lay hs.sh
  have hl2 := hs.sz
  have sl := sizeLine_eq
  have l1 : (Str.empty ++ d.shown).length ≤ sizeLine := by
    rw [strLen_append]
    show 0 + _ ≤ _
    omega
  have l2 : (Str.empty ++ d.shown ++ sfx).length ≤ sizeLine := by
    rw [strLen_append, strLen_append]
    show 0 + _ + _ ≤ _
    omega
  exact ⟨_, h0, v, h1, d, F, ef, rd, hs, d.shown, rfl, l1, sfx, rfl, l2, a, C, [.str (Str.empty ++ d.shown ++ sfx)], rfl, (by show 1 ≤ 1000; omega), T, ha, v, h1, _, h0, a, C, rfl, T, hno, .inl ⟨ha, hq⟩⟩
end
section
variable {P : Program} {w : World} {K : Fg} {mg : Str → Option Value} {base : Heap} {CX : CXT}
theorem fn_xinit {x qual sfx : Str} {st : Stmt} {f R : Addr} {fd : FuncData} {p1 p2 p3 p4 p5 p6 p7 p8 p9 p10 p11 p12 p13 : Pos} {jj : _} (Fu : Fun K x qual st f fd) (S : FnScope ["self", "value"] ["self", "value"] (defScope st)) (B : BaseC K R) (gR : mg "RoundingError" = some (.ref R)) (hz : sfx.length ≤ 500)
    (hb : defBody st = [.Expr (.Call (.Attribute (.Name "RoundingError" p1) "__init__" p2) [.Name "self" p3, .JoinedStr [.FormattedValue (.Name "value" p4) 114 none p5, .Constant (.str sfx) jj p6] p7] [] p8) p11, .Assign [.Attribute (.Name "self" p9) "value" p12] (.Name "value" p10) p13])
    (h0 : (defScope st).names.lookup ("self" : Str) = some .local) (h1 : (defScope st).names.lookup ("value" : Str) = some .local) (hl : (defScope st).names.lookup ("RoundingError" : Str) = some .globalImplicit)
    (hc : ∀ env : Env, ∃ pl : Sem Bool, eval (.Call (.Attribute (.Name "RoundingError" p1) "__init__" p2) [.Name "self" p3, .JoinedStr [.FormattedValue (.Name "value" p4) 114 none p5, .Constant (.str sfx) jj p6] p7] [] p8) env = (do
      let ov ← eval (.Name "RoundingError" p1) env
      standAt p2.atName
      let (f, first) ← holding [ov] (getMethod ov "__init__" pl)
      callWith p8 f first (backTo p8 (starEach [.Name "self" p3, .JoinedStr [.FormattedValue (.Name "value" p4) 114 none p5, .Constant (.str sfx) jj p6] p7] env)) (backToKw p8 (keywordEach [] env)))) : Fn P w K mg base CX0 2 f fd ["self", "value"] (spXi K) := by
  refine fn_by Fu S spXi_len fun cdv A outer s H vs Q E hr hg h => ⟨tXi K, ?_, ?_⟩
  · obtain ⟨pl, hc⟩ := hc (envOfC qual (defScope st) s.heap.objs.size f cdv)
    rw [hb]
    exact pss_xinit (X := cxOf CX0 P w K mg base ["self", "value"] qual (defScope st) f cdv A outer s H E) B hl gR hr.units hg hz (pe_var rfl (.inl h0)) (pe_var rfl (.inl h1)) (pe_var rfl (.inl h0)) (pe_var rfl (.inl h1)) (by decide) hc
  · obtain ⟨a, C, v, F, d, rfl, T, hno, ha, ef, rd, hs, q⟩ := h
    exact ⟨a, C, v, F, d, rfl, rfl, T, hno, ha, ef, rd, hs, q⟩
end
section
variable {X : Cx} {e : Expr} {es : List Expr} {ta : TA} {p pos : Pos}
theorem pmk_oexF {CX : CXT} {x : Str} {C fI : Addr} {k : Nat} {fd : FuncData} {ps : List Str} {sp : Sp} (T : OexC X.K C) (iC : PySem.W.findIn X.K (.ref C) "__init__" = some (some (.ref fI))) (tI : PySem.W.typeIn X.K (.ref fI) = some (.type "function"))
    (F1 : Fn X.prog X.w X.K X.mg X.base CX k fI fd ps sp) (hr : Room (k + 1) X.A) (hgd : X.A.guards = some []) (hb : Binds X.K fd ps []) (hx : Passes CX X (fun _ _ _ => False)) (hg : Gl X x) (hm : X.mg x = some (.ref C)) (ha : PA X (e :: es) ta)
    (hdb : (x == ("__debug__" : Str)) = false := by decide) (he : starEach (e :: es) X.env = (false, eval e X.env) :: starEach es X.env := by rfl) (hpl : (backTo pos (starEach es X.env)).any (·.1) = false := by rfl) :
    PMk X (.Call (.Name x p) (e :: es) [] pos) (tMkO C sp [] ta) := by
  intro pins s σ H Q I h
  obtain ⟨nm, q, N, bs, bm, sn, sub, ab, col, dd, k0, k1, k2, k3, k5, hC, hbm⟩ := T.cls
  refine wpAny_Call_Name_kw (ld_glob I hg hm ?_ hdb)
  refine PySem.W.callWith_K (h₀ := X.base) I.ok.mod.kin T.kC (thn (ha.run pos pins s σ H _ I h) fun us s1 ⟨vs, H1, I1, r1, hz, q1⟩ => ⟨I1.kIn, ?_⟩) he hpl
  show wpAny _ _ (call (.ref C) us) _ _ _
  obtain ⟨hp, g, dr, tk, os⟩ := s1
  have hsz : hp.objs.size ≤ hp.objs.size + 1 := Nat.le_succ _
  have hn : H1 (hp.objs.size + 1) = none := I1.hok.fresh hsz
  have hq := q1 (hp.objs.size + 1) hn
  rw [List.append_nil] at hq
  have kk : ∀ b o, hp.get? b = some o → ((hp.push (PySem.W.kdv_tup us)).push (PySem.HandSPX.excO C hp.objs.size)).get? b = some o := fun b o e => Heap.get?_push_of_some _ (Heap.get?_push_of_some _ e)
  have hget : ((hp.push (PySem.W.kdv_tup us)).push (PySem.HandSPX.excO C hp.objs.size)).get? (hp.objs.size + 1) = some (PySem.HandSPX.excO C hp.objs.size) := by heap_get
  have I2 : Inv X pins σ (upd H1 (hp.objs.size + 1) (exo (hp.objs.size + 1) C none)) ⟨(hp.push (PySem.W.kdv_tup us)).push (PySem.HandSPX.excO C hp.objs.size), g, dr, tk, os⟩ :=
    I1.laid (t' := tk) (a := hp.objs.size + 1) (o := exo (hp.objs.size + 1) C none) (h' := (hp.push (PySem.W.kdv_tup us)).push (PySem.HandSPX.excO C hp.objs.size)) kk hsz (exo_ok hget)
  have r2 : Vals (V.ref (hp.objs.size + 1) :: vs) (Value.ref (hp.objs.size + 1) :: us) := .cons rfl r1
  have hl : (Value.ref (hp.objs.size + 1) :: us).length = ps.length := by
    have e := r2.length
    rw [F1.len _ _ _ _ hq] at e
    exact e.symm
  have hus : us.length ≤ sizeLine := by
    rw [← Paired.length r1, sizeLine_eq]
    omega
  have hb' := hb _ (Value.ref (hp.objs.size + 1) :: us) I2.kIn (by rw [List.append_nil]; exact hl)
  rw [List.append_nil] at hb'
  refine wpAny_call (PySem.HandSPX.call_own F.excBase_ValueError (fun Y => PySem.HandSPX.refsVE_contains Y bm hbm) (I1.kIn _ _ hC) (PySem.W.looks_findIn I1.kIn iC) (fun self => PySem.W.bind_fn I1.kIn self tI) hus
    (codeAny_mono (F1.run _ X.stack _ _ ⟨Value.ref (hp.objs.size + 1) :: us, []⟩ (Value.ref (hp.objs.size + 1) :: us) _ _ (fun _ _ _ => False) (hr.make C us []) hgd (I2.env0.make C us []) hb' r2 hq) fun r s' hq' => ?_))
  cases r with
  | error er => exact hx pins σ _ _ er s' I2 hq'
  | ok fl =>
    cases fl with
    | ret u =>
      obtain ⟨v, H2, os2, bare2, un2, hok2, rv, ev, d, fs, ea, ed, hd1, q2⟩ := hq'
      subst ev
      obtain ⟨h2, g2, d2, t2, os'⟩ := s'
      exact ⟨rv, mk_end (raises_own T.exC T.tyC) I1 hsz kk un2 hok2 os2 bare2 ea ed hd1 q2⟩
    | next => exact False.elim hq'
    | brk => exact False.elim hq'
    | cont => exact False.elim hq'
end
/-- what the text must have for an own exception with a field value -/
structure XcV (K : Fg) (nm : Str) (C fI : Addr) : Prop where
  oex : OexC K C
  ns : PySem.W.nsIn K mainGlobals nm = some (some (.ref C))
  ini : PySem.W.findIn K (.ref C) "__init__" = some (some (.ref fI))
  fn : PySem.W.typeIn K (.ref fI) = some (.type "function")
  nov : PySem.W.findIn K (.ref C) "value" = some none
end Z
namespace Z
open L2 PySem PySem.Spec PyProof.Rows
open Evl (Ex ex_l ex_t ex_rd fresh_back)
theorem exT_ok {P : Program} {w : World} {H : Hp} {h : Heap} {a : Addr} {cls : Value} {d : Option Addr} {oe : Obj} {vs : Array Value} (he : h.get? a = some oe) (hz : Zc cls d oe) (hd : oe.data = .fields vs) : ObjOk P w H h a (exT a cls d) :=
  ⟨⟨oe, vs, he, hz, hd⟩, ⟨_, he⟩, fun h1 h2 z k => by
    obtain ⟨o, vs, q, r⟩ := z
    exact ⟨o, vs, k _ q, r⟩⟩
theorem exT_at {P : Program} {w : World} {H : Hp} {h : Heap} {a : Addr} {cls : Value} {d : Option Addr} (hok : HOk P w H h) (he : H a = some (exT a cls d)) : ∃ (oe : Obj) (vs : Array Value), h.get? a = some oe ∧ Zc cls d oe ∧ oe.data = .fields vs := by
  have x : ObjOk P w H h a (.ext fun h => ∃ (oe : Obj) (vs : Array Value), h.get? a = some oe ∧ Zc cls d oe ∧ oe.data = .fields vs) := hok a _ he
  exact x.1
section
variable {X : Cx} {pins : List (Addr × Obj)} {σ : L2.St} {H : Hp} {s : Shared} {a : Addr} {cls : Value} {d : Option Addr} {oe : Obj} {vs : Array Value}
theorem inv_track (I : Inv X pins σ H s) (ha : s.heap.get? a = some oe) (hz : Zc cls d oe) (hd : oe.data = .fields vs) (na : H a = none) (nL : a ≠ X.env.locals) (n0 : ∀ o, X.s_0.heap.get? a = some o → X.H_0 a ≠ none) (np : ∀ p ∈ X.pn ++ pins, p.1 ≠ a) :
    Inv X pins σ (upd H a (exT a cls d)) s := by
  refine ⟨I.ok, I.os, I.bare, ⟨I.base.keep, I.base.slot, fun b o e n hx => ?_, I.base.there, fun b xs q => ?_, fun b o xs q => ?_, fun b ps q => ?_⟩, I.loc, I.cell, ?_, fun y c e => ?_, fun p hp => ?_, fun b o q => ?_, I.len⟩
  · by_cases hb : b = a
    · subst hb
      exact absurd n (n0 o e)
    · rw [upd_ne hb]; exact I.base.free b o e n hx
  · have z := I.base.tups b xs q
    rw [upd_ne (fun e => by rw [e, na] at z; cases z)]; exact z
  · have z := I.base.frzs b o xs q
    rw [upd_ne (fun e => by rw [e, na] at z; cases z)]; exact z
  · obtain ⟨more, z⟩ := I.base.tbls b ps q
    exact ⟨more, by rw [upd_ne (fun e => by rw [e, na] at z; cases z)]; exact z⟩
  · rw [upd_ne (Ne.symm nL)]; exact I.free
  · rw [upd_ne ?_]
    · exact I.freeC y c e
    · intro hc
      obtain ⟨w', z⟩ := I.cell y c e
      obtain ⟨o, h1, h2⟩ := z
      subst hc
      rw [ha] at h1
      cases h1
      rw [hd] at h2
      cases h2
  · obtain ⟨q1, q2, q3⟩ := I.pin p hp
    exact ⟨q1, by rw [upd_ne (np p hp)]; exact q2, q3⟩
  · by_cases hb : b = a
    · subst hb
      rw [upd_same] at q
      cases q
      exact exT_ok ha hz hd
    · rw [upd_ne hb] at q
      exact (I.hok b o q).stay (fun c v hc z => z) (fun c hc => by rw [upd_ne (fun e => by rw [e, na] at hc; cases hc)]; exact hc) (fun c xs hc => by rw [upd_ne (fun e => by rw [e, na] at hc; cases hc)]; exact hc)
end
end Z
namespace Z
open L2 PySem PySem.Spec PyProof.Rows
open Evl (Ex ex_l ex_t ex_rd fresh_back)
variable {Wx : WX}
/-- an expression that may raise: it gives what a def gives -/
abbrev DX := Gs → (Rr → Gs → Prop) → Prop
def dXval (xs : List Str) (te : DE) : DE := fun g Q => te g fun r g1 => match r with
  | .ob (.exc nm (some z)) => nm ∈ xs ∧ Q (.val z) g1
  | _ => False
/-- what the text must have for the field of a caught exception -/
def XvC (K : Fg) (nm : Str) : Prop := ∃ C : Addr, PySem.W.nsIn K mainGlobals nm = some (some (.ref C)) ∧ XfC K C ∧ PySem.W.findIn K (.ref C) "value" = some none
section
variable {X : Cx} {e : Expr} {te : TE} {pos : Pos} {n : Str}
def tXfT (K : Fg) (f : Str) (te : TE) : TE := fun σ H Q => te σ H fun x H1 => ∃ (a C dd : Addr) (fs : List (Str × V)) (v : V), x = .ref a ∧ H1 a = some (exT a (.ref C) (some dd)) ∧ XfC K C ∧ PySem.W.findIn K (.ref C) f = some none ∧ H1 dd = some (.xd fs) ∧ fs.lookup f = some v ∧ Q v H1
theorem pe_xfT (he : PE X e te) (hb : attributeBase e n X.env (eval e X.env) = eval e X.env := by rfl) : PE X (.Attribute e n pos) (tXfT X.K n te) := by
  refine ⟨fun pins s σ H Q I h => ?_⟩
  refine attr_of hb (thn (he.run pins s σ H _ I h) fun u s1 hh => ?_)
  obtain ⟨x, H1, I1, rx, a, C, dd, fs, v, ex, ha, T, hno, ed, l, q⟩ := hh
  subst ex
  obtain rfl : u = Value.ref a := rx
  obtain ⟨oe, vs, he, hz, hd⟩ := exT_at I1.hok ha
  have hx : ObjOk X.prog X.w H1 s1.heap dd (.xd fs) := I1.hok dd _ ed
  obtain ⟨mA, hns, hr⟩ := hx
  obtain ⟨od, ho, hl⟩ := lookIn_ns hns
  obtain ⟨u, hu, ru⟩ := RelO.some_of (v := v) (o := mA n) (by rw [← l]; exact hr n)
  have J : PySem.W.InstAt s1.heap a oe C (some od) := ⟨he, hz.1, by unfold PySem.W.notCls; rw [hd] <;> rfl, by rw [hz.2]; exact ho⟩
  exact HandSPX.exc_get I1.kIn J T.ga T.gg T.exC (PySem.W.findObj_own T.hdC hno rfl (by rw [hl, hu])) (handed_of ru) ⟨v, H1, I1.tok _, ru, q⟩
theorem e_xval {ta : DE} {xs : List Str} (hxs : ∀ nm ∈ xs, XvC X.K nm) (he : PE X e (up X.K ta)) (hb : attributeBase e "value" X.env (eval e X.env) = eval e X.env := by rfl) : PE X (.Attribute e "value" pos) (up X.K (dXval xs ta)) := pe_to (pe_xfT he hb) fun σ H Q q => by
  obtain ⟨c, g, tv, tr, F, a, post, s, t, k⟩ := q
  refine ⟨c, g, tv, tr, F, a, _, s, t, fun r g1 v H1 F1 a1 t1 s1 => ?_⟩
  split at t1
  · rename_i nm z
    obtain ⟨ax, cls, dd, rfl, hF, C, x, u, rfl, hns, rfl, hx, rz⟩ := id s1.top
    obtain ⟨C', hns', T, hno⟩ := hxs nm t1.1
    rw [hns] at hns'
    cases hns'
    exact ⟨ax, C, x, _, u, rfl, s1.eh _ _ hF, T, hno, s1.eh _ _ hx, by simp [List.lookup], k _ g1 u H1 F1 a1 t1.2 (s1.pop1.push (r := .val z) rz)⟩
  · exact t1.elim
end
/-- the program's own exceptions: all straight below the base -/
def xsub (nm c : Str) : Bool := decide (nm = c) || decide (c = "RoundingError") || decide (c = "ValueError")
def Gs.unset (g : Gs) (i : Nat) : Gs := { g with sl := g.sl.set i none }
def gAs (g : Gs) (nm : Str) (z : Option Da) : Option Nat → Gs
  | none => g
  | some i => g.set i (.ob (.exc nm z))
def rtN (post : Rr → Option Nat → Prop) : Rr → Gs → Prop := fun r g => match r with
  | .exc _ _ => False
  | .val x => post (.val x) g.fu
  | .own ds => post (.own ds) g.fu
end Z
namespace Z
open L2 PySem PySem.Spec PyProof.Rows
open Evl (Ex ex_l ex_t ex_rd fresh_back)
open LamX (LamS lamEnv lamCx lam_start2 inv_table CodeO)
variable {Wx : WX}
/-- what a lambda's body may see: no own list, no source -/
def plainO : Option Sv → Option Sv
  | some (.own _) => none
  | some .src => none
  | x => x
def gLam (g : Gs) : Gs := ⟨g.sl.map plainO, none, true⟩
/-- the lambda as a def's promise -/
def lamF (t : DX) (g : Gs) : FSp := fun rs fu post => rs = [] ∧ fu = none ∧ t (gLam g) fun r _ => post r none
section
variable {K : Fg} {c : Con} {g : Gs} {σ : L2.St} {H H' F F' : Hp} {tv : List V} {tr : List Rv} {a a' : Addr}
theorem Sta.lam (s : Sta K c g σ H tv tr F a) (ef : Ex F F') (eh : Ex F' H') (tk : TabK K F' H') : Sta K ⟨F', H', none⟩ (gLam g) σ H' [] [] F' a' := by
  have back : ∀ {i : Nat} {sv : Sv}, (gLam g).sl[i]? = some (some sv) → g.sl[i]? = some (some sv) ∧ (∀ ds, sv ≠ .own ds) ∧ sv ≠ .src := fun {i sv} h => by
    have h' : (g.sl.map plainO)[i]? = some (some sv) := h
    rw [List.getElem?_map] at h'
    cases q : g.sl[i]? with
    | none => rw [q] at h'; cases h'
    | some x =>
      rw [q] at h'
      have h2 : plainO x = some sv := Option.some.inj h'
      cases x with
      | none => cases h2
      | some y =>
        cases y with
        | own ds => cases h2
        | src => cases h2
        | val d => cases h2; exact ⟨rfl, fun _ z => (by cases z), fun z => (by cases z)⟩
        | scr d => cases h2; exact ⟨rfl, fun _ z => (by cases z), fun z => (by cases z)⟩
        | ob d => cases h2; exact ⟨rfl, fun _ z => (by cases z), fun z => (by cases z)⟩
  refine ⟨Ex.refl _, eh, fun b o _ _ h => h, fun b h => .inl h, fun b h => (by cases h), fun _ => rfl, fun n h => (by cases h), .nil, ?_, fun i sv h => ?_, fun i j ds es _ h => absurd rfl ((back h).2.1 ds), tk, .refl⟩
  · show σ.length = (g.sl.map plainO).length
    rw [List.length_map]; exact s.len
  · obtain ⟨h1, h2, h3⟩ := back h
    obtain ⟨v, w1, w2⟩ := s.slot i sv h1
    refine ⟨v, w1, ?_⟩
    cases sv with
    | val d => exact Rp.up w2 ef
    | src => exact absurd rfl h3
    | scr ns => obtain ⟨b, z1, z2⟩ := w2; exact ⟨b, z1, ex_l ef z2⟩
    | ob k => exact ObOk.up ef w2
    | own ds => exact absurd rfl (h2 ds)
end
end Z
namespace Z
open L2 PySem PySem.Spec PyProof.Rows
open Evl (Ex ex_l ex_t ex_rd fresh_back)
variable {Wx : WX}
/-- what the class of nm must say for isinstance -/
structure IsC (K : Fg) (C : Addr) : Prop where
  cl : (PySem.W.clsIn K C).isSome = true
  hg : PySem.W.findIn K (.ref C) "__getattribute__" = some (some (.builtin "BaseException.__getattribute__"))
  hk : ∃ gt, PySem.W.findIn K (.ref C) "__getattr__" = some gt
  hs : PySem.W.subIn K (.ref C) (.type "BaseException") = some true
  ha : PySem.W.findIn K (.ref C) "__class__" = some (some (.builtin "object.__class__"))
  hn : PySem.W.specialIn K (.builtin "object.__class__") "__get__" = some (some (.builtin "getset_descriptor.__get__"))
  ht : PySem.W.takesIn K (.builtin "object.__class__") = some true
  hm : PySem.W.mroIn K C (.type "object") = some true
def dIsiX (xs : List Str) (c : Str) (te : DE) : DE := fun g Q => te g fun r g1 => match r with
  | .ob (.exc nm _) => nm ∈ xs ∧ Q (.val (.bool (xsub nm c))) g1
  | _ => False
/-- one answer of isinstance for all exceptions that may come -/
def IsK (K : Fg) (xs : List Str) (c : Str) (cv : Value) : Prop := ∀ nm ∈ xs, ∃ C : Addr, PySem.W.nsIn K mainGlobals nm = some (some (.ref C)) ∧ IsC K C ∧ PySem.W.kitOne K (.ref C) cv = some (xsub nm c)
theorem inst_at {P : Program} {w : World} {K : Fg} {F H : Hp} {h : Heap} {a : Addr} {cls : Value} {dd : Option Addr} {nm : Str} {z : Option Da} {C : Addr} (hok : HOk P w H h) (eh : Ex F H) (hF : F a = some (exT a cls dd)) (hx : XvOk K F cls dd nm z) (hC : PySem.W.nsIn K mainGlobals nm = some (some (.ref C))) :
    ∃ (oe : Obj) (od : Option Obj), cls = .ref C ∧ PySem.W.InstAt h a oe C od := by
  obtain ⟨oe, vs, he, hz, hd⟩ := exT_at hok (eh _ _ hF)
  cases z with
  | none =>
    obtain ⟨C', rfl, h1, rfl⟩ := hx
    rw [hC] at h1
    cases h1
    exact ⟨oe, none, rfl, he, hz.1, by unfold PySem.W.notCls; rw [hd] <;> rfl, by rw [hz.2]; trivial⟩
  | some z =>
    obtain ⟨C', x, u, rfl, h1, rfl, h2, _⟩ := hx
    rw [hC] at h1
    cases h1
    have hx : ObjOk P w H h x (.xd [("value", u)]) := hok x _ (eh _ _ h2)
    obtain ⟨mA, hns, hr⟩ := hx
    obtain ⟨od, ho, hl⟩ := lookIn_ns hns
    exact ⟨oe, some od, rfl, he, hz.1, by unfold PySem.W.notCls; rw [hd] <;> rfl, by rw [hz.2]; exact ho⟩
section
variable {X : Cx} {p pos : Pos} {e c : Expr} {te : DE}
def rIsX (K : Fg) (xs : List Str) (cn : Str) (cv : Value) : List V → Hp → VK → Prop := fun vs H Q => ∃ (v cV : V) (F : Hp) (nm : Str) (z : Option Da), vs = [v, cV] ∧ (∀ u, RelV cV u → u = cv) ∧ Ex F H ∧ ObOk K F v (.exc nm z) ∧ nm ∈ xs ∧ Q (.bl (xsub nm cn)) H
theorem call_isX {xs : List Str} {cn : Str} {cv : Value} (hK : IsK X.K xs cn cv) : CallR X (.builtin "isinstance") (rIsX X.K xs cn cv) := by
  intro pins s σ H vs us Q I r h
  obtain ⟨v, cV, F, nm, z, rfl, hcv, eh, ⟨a, cls, dd, rfl, hF, hx⟩, hm, q⟩ := h
  obtain ⟨u1, u2, rfl, r1, r2⟩ := vals2 r
  obtain rfl := hcv _ r2
  obtain rfl : u1 = Value.ref a := r1
  obtain ⟨C, hC, T, hk⟩ := hK nm hm
  obtain ⟨oe, od, rfl, J⟩ := inst_at I.hok eh hF hx hC
  obtain ⟨gt, hgt⟩ := T.hk
  exact PySem.W.kia_one (PySem.W.kitx_exc T.cl T.hg hgt T.hs T.ha T.hn T.ht T.hm) I.kIn J hk (fun z => nomatch z) fun tk => ⟨.bl _, H, I.tok tk, rfl, q⟩
theorem e_isiX {xs : List Str} {cn : Str} {cV : V} {cv : Value} (hK : IsK X.K xs cn cv) (hcv : ∀ u, RelV cV u → u = cv) (hg : Gl X "isinstance") (hm : X.mg "isinstance" = none) (he : PE X e (up X.K te)) (hc : PE X c (tC cV))
    (h1 : starEach [e, c] X.env = (false, eval e X.env) :: starEach [c] X.env := by rfl) (h2 : starEach [c] X.env = (false, eval c X.env) :: starEach [] X.env := by rfl) (hpl : (backTo pos (starEach [c] X.env)).any (·.1) = false := by rfl) :
    PE X (.Call (.Name "isinstance" p) [e, c] [] pos) (up X.K (dIsiX xs cn te)) := pe_to (pe_callB (call_isX hK) hg hm (by decide +kernel) (pa_cons he (pa_cons hc pa_nil h2) h1) (by decide) (by decide) h1 hpl) fun σ H Q q => by
  obtain ⟨c, g, tv, tr, F, ad, post, s, t, k⟩ := q
  refine ⟨c, g, tv, tr, F, ad, _, s, t, fun r g1 v H1 F1 a1 t1 s1 => ?_⟩
  split at t1
  · rename_i nm z
    exact ⟨v, _, F1, nm, z, rfl, hcv, s1.eh, s1.top, t1.1, k _ g1 _ H1 F1 a1 t1.2 (s1.pop1.push (r := .val (.bool _)) (Rp.bl _))⟩
  · exact t1.elim
end
/-- the classes, as values -/
inductive Cvs : List V → List Value → Prop
  | nil : Cvs [] []
  | cons {v : V} {u : Value} {vs : List V} {us : List Value} : (∀ w, RelV v w → w = u) → Cvs vs us → Cvs (v :: vs) (u :: us)
theorem Cvs.all {vs : List V} {us ws : List Value} (h : Cvs vs us) (r : Vals vs ws) : ws = us := by
  induction h generalizing ws with
  | nil => cases r; rfl
  | cons h1 _ ih =>
    cases r with
    | cons r1 r2 => rw [h1 _ r1, ih r2]
end Z
namespace Z
open L2 PySem PySem.Spec PyProof.Rows
open Evl (Ex ex_l ex_t ex_rd fresh_back)
variable {Wx : WX}
section
variable {X : Cx}
/-- the end of C(): the exception is let go, no dict stands -/
theorem mk_end0N {pins : List (Addr × Obj)} {σ : L2.St} {H1 H2 : Hp} {hp hp2 h2 : Heap} {g1 g2 : Array GenState} {d1 d2 : Drawn} {t1 t2 : Nat} {os1 os2 : OsState} {a C : Addr} (I1 : Inv X pins σ H1 ⟨hp, g1, d1, t1, os1⟩)
    (ha : hp.objs.size ≤ a) (k : ∀ b o, hp.get? b = some o → hp2.get? b = some o) (un : Un (frs X.stack) [] (upd H1 a (exo a C none)) H2 hp2 h2) (hok : HOk X.prog X.w H2 h2) (ho : os2 = os1) (hb : AllBare g2)
    (ea : H2 a = some (exo a C none)) :
    ∃ (t0 : Addr) (G : Heap), Inv X pins σ (del H2 a) ⟨G, g2, d2, t2, os2⟩ ∧ (∀ b o, G.get? b = some o → h2.get? b = some o) ∧ G.get? a = none ∧
      h2.get? a = some ({ cls := .ref C, dict := none, data := .fields #[.ref t0, .none, .none, .none, .bool false, .none] } : Obj) := by
  obtain ⟨t0, hoe⟩ := exo_at hok ea
  have hn : H1 a = none := I1.hok.fresh ha
  obtain ⟨G, g1', g2'⟩ := restrict h2 fun b => decide (b ≠ a)
  have gk : ∀ b, b ≠ a → G.get? b = h2.get? b := fun b hb => g1' b (decide_eq_true hb)
  have ge : G.get? a = none := g2' a (by simp)
  have nha : ∀ {b : Addr} {o : Obj}, hp.get? b = some o → b ≠ a := fun {b o} z => Nat.ne_of_lt (Nat.lt_of_lt_of_le (Heap.lt_size z) ha)
  have up : ∀ {b : Addr}, b ≠ a → H1 b = none → upd H1 a (exo a C none) b = none := fun {b} hb n => by rw [upd_ne hb]; exact n
  have U : Un (frs X.stack) [] H1 (del H2 a) hp G := {
    keep := fun b o z n hf hx => by
      rw [gk b (nha z)]
      exact un.keep b o (k b o z) (up (nha z) n) hf hx
    slot := fun b o z n hf hx => by
      rw [gk b (nha z)]
      exact un.slot b o (k b o z) (up (nha z) n) hf hx
    free := fun b o z n hx => by
      rw [del_ne (nha z)]
      exact un.free b o (k b o z) (up (nha z) n) hx
    there := fun b o z hx => by
      rw [gk b (nha z)]
      exact un.there b o (k b o z) hx
    tups := fun b xs z => by
      rw [del_ne (ne_of_none z hn)]
      exact un.tups b xs (by rw [upd_ne (ne_of_none z hn)]; exact z)
    frzs := fun b o v z => by
      rw [del_ne (ne_of_none z hn)]
      exact un.frzs b o v (by rw [upd_ne (ne_of_none z hn)]; exact z)
    tbls := fun b ps z => by
      rw [del_ne (ne_of_none z hn)]
      exact un.tbls b ps (by rw [upd_ne (ne_of_none z hn)]; exact z) }
  have hok3 : HOk X.prog X.w (del H2 a) G := fun b o z => by
    have hba : b ≠ a := fun e => by
      rw [e, del_same] at z
      cases z
    rw [del_ne hba] at z
    have noa : ∀ {c : Addr}, H2 c = some (.own b) → c ≠ a := fun {c} hc => at_ne ea hc exo_own
    exact (hok b o z).stay (fun c v hc y => by
        have hca : c ≠ a := by
          rcases hc with hc | hc
          · rw [hc]
            exact hba
          · exact noa hc
        rw [gk c hca]
        exact y)
      (fun c hc => by rw [del_ne (noa hc)]; exact hc) (fun c xs hc => by rw [del_ne (at_ne ea hc exo_tup)]; exact hc)
  have J : Inv X pins σ (del H2 a) ⟨G, g2, d2, t2, os2⟩ := I1.call' (ch := []) ho U hok3 hb (fun b z => absurd z (by simp))
  refine ⟨t0, G, J, fun b o z => ?_, ge, hoe⟩
  by_cases hba : b = a
  · rw [hba, ge] at z
    cases z
  · exact (gk b hba).symm.trans z
theorem mk_endN {pins : List (Addr × Obj)} {σ : L2.St} {H1 H2 : Hp} {Q : XK} {hp hp2 h2 : Heap} {g1 g2 : Array GenState} {d1 d2 : Drawn} {t1 t2 : Nat} {os1 os2 : OsState} {a C : Addr} (T : Raises X (.ref C)) (I1 : Inv X pins σ H1 ⟨hp, g1, d1, t1, os1⟩)
    (ha : hp.objs.size ≤ a) (k : ∀ b o, hp.get? b = some o → hp2.get? b = some o) (un : Un (frs X.stack) [] (upd H1 a (exo a C none)) H2 hp2 h2) (hok : HOk X.prog X.w H2 h2) (ho : os2 = os1) (hb : AllBare g2)
    (ea : H2 a = some (exo a C none)) (q : Q (.ref C) none (del H2 a)) : MkP X pins σ Q (.ref a) ⟨h2, g2, d2, t2, os2⟩ := by
  obtain ⟨t0, G, J, kG, ge, hoe⟩ := mk_end0N (d2 := d2) (t2 := t2) I1 ha k un hok ho hb ea
  exact ⟨a, _, _, ⟨G, g2, d2, t2, os2⟩, _, .ref C, none, rfl, J, kG, ge, hoe, ⟨rfl, rfl⟩, rfl, rfl, del_same, rfl, hb, T, q⟩
/-- C() -/
def tMkN (C : Addr) (sp : Sp) : L2.St → Hp → XK → Prop := fun σ H Q => ∀ a, H a = none → sp [.ref a] (upd H a (exo a C none))
  (fun v H2 => v = .non ∧ H2 a = some (exo a C none) ∧ Q (.ref C) none (del H2 a)) (fun _ _ _ => False)
theorem pmk_oexN {CX : CXT} {x : Str} {C fI : Addr} {k : Nat} {fd : FuncData} {ps : List Str} {sp : Sp} {p pos : Pos} (T : OexC X.K C) (iC : PySem.W.findIn X.K (.ref C) "__init__" = some (some (.ref fI))) (tI : PySem.W.typeIn X.K (.ref fI) = some (.type "function"))
    (F1 : Fn X.prog X.w X.K X.mg X.base CX k fI fd ps sp) (hr : Room (k + 1) X.A) (hgd : X.A.guards = some []) (hb : Binds X.K fd ps []) (hx : Passes CX X (fun _ _ _ => False)) (hg : Gl X x) (hm : X.mg x = some (.ref C))
    (hdb : (x == ("__debug__" : Str)) = false := by decide) :
    PMk X (.Call (.Name x p) [] [] pos) (tMkN C sp) := by
  intro pins s σ H Q I h
  obtain ⟨nm, q, N, bs, bm, sn, sub, ab, col, dd, k0, k1, k2, k3, k5, hC, hbm⟩ := T.cls
  refine wpAny_Call_Name_kw (ld_glob I hg hm ?_ hdb)
  refine PySem.W.callWith_K0 I.kIn T.kC ?_
  show wpAny _ _ (call (.ref C) []) _ _ _
  have hn0 := h
  obtain ⟨hp, g, dr, tk, os⟩ := s
  have hsz : hp.objs.size ≤ hp.objs.size + 1 := Nat.le_succ _
  have hn : H (hp.objs.size + 1) = none := I.hok.fresh hsz
  have hq := h (hp.objs.size + 1) hn
  have kk : ∀ b o, hp.get? b = some o → ((hp.push (PySem.W.kdv_tup [])).push (PySem.HandSPX.excO C hp.objs.size)).get? b = some o := fun b o e => Heap.get?_push_of_some _ (Heap.get?_push_of_some _ e)
  have hget : ((hp.push (PySem.W.kdv_tup [])).push (PySem.HandSPX.excO C hp.objs.size)).get? (hp.objs.size + 1) = some (PySem.HandSPX.excO C hp.objs.size) := by heap_get
  have I2 : Inv X pins σ (upd H (hp.objs.size + 1) (exo (hp.objs.size + 1) C none)) ⟨(hp.push (PySem.W.kdv_tup [])).push (PySem.HandSPX.excO C hp.objs.size), g, dr, tk, os⟩ :=
    I.laid (t' := tk) (a := hp.objs.size + 1) (o := exo (hp.objs.size + 1) C none) (h' := (hp.push (PySem.W.kdv_tup [])).push (PySem.HandSPX.excO C hp.objs.size)) kk hsz (exo_ok hget)
  have r2 : Vals [V.ref (hp.objs.size + 1)] [Value.ref (hp.objs.size + 1)] := .cons rfl .nil
  have hl : [Value.ref (hp.objs.size + 1)].length = ps.length := by
    have e := r2.length
    rw [F1.len _ _ _ _ hq] at e
    exact e.symm
  have hb' := hb _ [Value.ref (hp.objs.size + 1)] I2.kIn (by rw [List.append_nil]; exact hl)
  rw [List.append_nil] at hb'
  refine wpAny_call (PySem.HandSPX.call_own F.excBase_ValueError (fun Y => PySem.HandSPX.refsVE_contains Y bm hbm) (I.kIn _ _ hC) (PySem.W.looks_findIn I.kIn iC) (fun self => PySem.W.bind_fn I.kIn self tI) (by show 0 ≤ sizeLine; omega)
    (codeAny_mono (F1.run _ X.stack _ _ ⟨[Value.ref (hp.objs.size + 1)], []⟩ [Value.ref (hp.objs.size + 1)] _ _ (fun _ _ _ => False) (hr.make C [] []) hgd (I2.env0.make C [] []) hb' r2 hq) fun r s' hq' => ?_))
  cases r with
  | error er => exact hx pins σ _ _ er s' I2 hq'
  | ok fl =>
    cases fl with
    | ret u =>
      obtain ⟨v, H2, os2, bare2, un2, hok2, rv, ev, ea, q2⟩ := hq'
      subst ev
      obtain ⟨h2, g2, d2, t2, os'⟩ := s'
      exact ⟨rv, mk_endN (raises_own T.exC T.tyC) I hsz kk un2 hok2 os2 bare2 ea q2⟩
    | next => exact False.elim hq'
    | brk => exact False.elim hq'
    | cont => exact False.elim hq'
end
def spX0 (K : Fg) : Sp := fun vs H Q _ => ∃ (a C : Addr), vs = [.ref a] ∧ OexC K C ∧ H a = some (exo a C none) ∧ Q .non H
theorem spX0_len {K : Fg} (vs : List V) (H : Hp) (Q : VK) (E : XK) (h : spX0 K vs H Q E) : vs.length = 1 := by
  obtain ⟨a, C, rfl, _⟩ := h
  rfl
def tX0 (K : Fg) : TS := fun D σ H => ∃ (a C : Addr), σ[0]? = some (some (.ref a)) ∧ OexC K C ∧ H a = some (exo a C none) ∧ D.nx σ H
section
variable {P : Program} {w : World} {K : Fg} {mg : Str → Option Value} {base : Heap} {CX : CXT}
theorem fn_xinit0 {x qual sfx : Str} {st : Stmt} {f R : Addr} {fd : FuncData} {p1 p2 p3 p6 p8 p11 : Pos} {jj : _} (Fu : Fun K x qual st f fd) (S : FnScope ["self"] ["self"] (defScope st)) (B : BaseC K R) (gR : mg "RoundingError" = some (.ref R))
    (hb : defBody st = [.Expr (.Call (.Attribute (.Name "RoundingError" p1) "__init__" p2) [.Name "self" p3, .Constant (.str sfx) jj p6] [] p8) p11])
    (h0 : (defScope st).names.lookup ("self" : Str) = some .local) (hl : (defScope st).names.lookup ("RoundingError" : Str) = some .globalImplicit)
    (hc : ∀ env : Env, ∃ pl : Sem Bool, eval (.Call (.Attribute (.Name "RoundingError" p1) "__init__" p2) [.Name "self" p3, .Constant (.str sfx) jj p6] [] p8) env = (do
      let ov ← eval (.Name "RoundingError" p1) env
      standAt p2.atName
      let (f, first) ← holding [ov] (getMethod ov "__init__" pl)
      callWith p8 f first (backTo p8 (starEach [.Name "self" p3, .Constant (.str sfx) jj p6] env)) (backToKw p8 (keywordEach [] env)))) : Fn P w K mg base CX0 2 f fd ["self"] (spX0 K) := by
  refine fn_by Fu S spX0_len fun cdv A outer s H vs Q E hr hg h => ⟨tX0 K, ?_, ?_⟩
  · obtain ⟨pl, hc⟩ := hc (envOfC qual (defScope st) s.heap.objs.size f cdv)
    rw [hb]
    refine pss_to (pss_one (ps_expr (pe_baseinit (X := cxOf CX0 P w K mg base ["self"] qual (defScope st) f cdv A outer s H E) B hl gR (pa_cons (pe_var (i := 0) rfl (.inl h0)) (pa_cons pe_str pa_nil)) (by decide) hc))) fun D σ H q => ?_
    obtain ⟨a, C, h0, T, ha, hq⟩ := q
    exact ⟨_, h0, a, C, [.str sfx], rfl, (by show 1 ≤ 1000; omega), T, ha, hq⟩
  · obtain ⟨a, C, rfl, T, ha, q⟩ := h
    exact ⟨a, C, rfl, T, ha, q⟩
end
/-- what the text must have for such a class -/
structure Xc0I (K : Fg) (nm : Str) (C fI : Addr) : Prop where
  oex : OexC K C
  ns : PySem.W.nsIn K mainGlobals nm = some (some (.ref C))
  ini : PySem.W.findIn K (.ref C) "__init__" = some (some (.ref fI))
  fn : PySem.W.typeIn K (.ref fI) = some (.type "function")
end Z
namespace L2
open PySem PySem.Spec PyProof.Rows
end L2
namespace Z
open L2 PySem PySem.Spec PyProof.Rows
open Evl (Ex ex_l ex_t ex_rd fresh_back)
end Z
namespace Z
open L2 PySem PySem.Spec PyProof.Rows
open Evl (Ex ex_l ex_t ex_rd fresh_back)
end Z
namespace Z
open L2 PySem PySem.Spec PyProof.Rows
open Evl (Ex ex_l ex_t ex_rd fresh_back)
end Z
namespace Z
open L2 PySem PySem.Spec PyProof.Rows
open Evl (Ex ex_l ex_t ex_rd fresh_back)
end Z
namespace Z
open L2 PySem PySem.Spec PyProof.Rows
open Evl (Ex ex_l ex_t ex_rd fresh_back)
end Z
namespace Z
open L2 PySem PySem.Spec PyProof.Rows
end Z
namespace PySem
namespace HandSPX
open Builtin Builtin.ObjectAttr
section
variable {M : Model} {A : Around} {E : Value → Shared → Prop} {h : Heap} {g : Array GenState} {d : Drawn} {t : Nat} {os : OsState}
variable {nm q : Str} {C N : Addr} {bs bm bmB : List Value} {hdct : Bool} {sn : List Str} {sub : List Value} {ab : Bool} {col : Option Bool} {dd : Option Addr} {k0 k1 k2 k3 k5 : Option Value} {B newId initId : String}
theorem check_new_ownK (F : ExcBaseFacts B newId initId bmB) (hT : ∀ X : String, bm.contains (.type X) = bmB.contains (.type X)) {kw : List (Str × Value)} {Q : Unit → Shared → Prop}
    (hC : h.get? C = some (excClassObj nm q C N bs bm hdct sn sub ab col dd k0 k1 k2 k3 k5 newId)) (hq : Q () ⟨h, g, d, t, os⟩) : wpAny M A (checkBuiltinCall newId ⟨[.ref C], kw⟩) Q E ⟨h, g, d, t, os⟩ := by
  have hcont : (Value.ref C :: bm).contains (.type B) = true := by rw [List.contains_cons, hT, F.hasB, Bool.or_true]
  have hstar := F.noStar
  simp only [checkBuiltinCall, F.newKind, F.newSplit, F.newRow]
  repeat (first | refine wpAny_loadPart_at hC ?_ | (refine wpAny_isSubtype_exc hC ?_; rw [hcont]) | refine wpAny_staticBase_exc hC ?_ | refine wpAny_madeBy_exc hC ?_ | simp only [bne_self_eq_false, Bool.false_eq_true, if_false] | wp_step)
  exact hq
theorem check_type_callK {kw : List (Str × Value)} {Q : Unit → Shared → Prop} (hC : h.get? C = some (excClassObj nm q C N bs bm hdct sn sub ab col dd k0 k1 k2 k3 k5 newId))
    (hq : Q () ⟨h, g, d, t, os⟩) : wpAny M A (checkBuiltinCall "type.__call__" ⟨[.ref C], kw⟩) Q E ⟨h, g, d, t, os⟩ := by
  have f3 := tc_sub
  have hT : (⟨h, g, d, t, os⟩ : Shared).TypeIs (.ref C) "type" := ⟨_, hC, rfl⟩
  simp only [checkBuiltinCall, tc_kind, tc_split]
  repeat (any_goals (first | assumption | with_reducible refine wpAny_loadPart_at hC ?_ | with_reducible refine wpAny_onRaise ?_ | with_reducible refine wpAny_map ?_ | wp_step))
end
section
variable {prog : Program} {w : World} {A : Around} {E : Value → Shared → Prop} {R : Result → Shared → Prop} {h : Heap} {g : Array GenState} {d : Drawn} {t : Nat} {os : OsState}
variable {nm q : Str} {C N : Addr} {bs bm bmB : List Value} {hdct : Bool} {sn : List Str} {sub : List Value} {ab : Bool} {col : Option Bool} {dd : Option Addr} {k0 k1 k2 k3 k5 : Option Value} {B newId initId : String}
theorem new_ownK (F : ExcBaseFacts B newId initId bmB) (hT : ∀ X : String, bm.contains (.type X) = bmB.contains (.type X)) {kw : List (Str × Value)}
    (hC : h.get? C = some (excClassObj nm q C N bs bm hdct sn sub ab col dd k0 k1 k2 k3 k5 newId))
    (hq : R (.ok (.ret (.ref (h.objs.size + 1)))) ⟨(h.push (W.kdv_tup [])).push (excO C h.objs.size), g, d, t, os⟩) :
    codeAny (model prog w) A (.builtin newId ⟨[.ref C], kw⟩) R ⟨h, g, d, t, os⟩ := by
  have hends := F.ends
  have hcB : (Value.ref C :: bm).contains (.type B) = true := by rw [List.contains_cons, hT, F.hasB, Bool.or_true]
  have hcA : (Value.ref C :: bm).contains (.type "AttributeError") = false := by rw [List.contains_cons, hT, F.noAttr]; rfl
  have hcN : (Value.ref C :: bm).contains (.type "NameError") = false := by rw [List.contains_cons, hT, F.noName]; rfl
  refine codeAny_builtinAt F.entry ?_
  unfold Builtin.«BaseException.__new__»
  refine wpAt_bind ?_
  show wpAt _ _ _ (stack >>= _) _ _ _
  refine wpAt_bind (wpAt_stack fun p below => wpAt_of_wpAny ?_)
  wp_walk
  refine wpAt_of_wpAny ?_
  rw [F.owner]
  repeat (first | with_reducible refine wpAny_madeHere_exc F.canon hC ?_ | with_reducible refine wpAny_loadPart_at hC ?_ | (with_reducible refine wpAny_isSubtype_exc hC ?_; first | rw [hcB] | rw [hcA] | rw [hcN]) | wp_step)
  show R _ _
  rw [Heap.size_push]
  exact hq
theorem type_call_ownK (F : ExcBaseFacts B newId initId bmB) (hT : ∀ X : String, bm.contains (.type X) = bmB.contains (.type X)) {kw : List (Str × Value)} {fI : Addr} {Q : Fin → Shared → Prop}
    (hC : h.get? C = some (excClassObj nm q C N bs bm hdct sn sub ab col dd k0 k1 k2 k3 k5 newId))
    (hi : W.Looks (model prog w) h (typeLookup (.ref C) "__init__") (some (.ref fI))) (hb : ∀ self, W.Looks (model prog w) h (bindSpecial (.ref fI) self) (.ref fI, [self]))
    (hq : codeAny (model prog w) A (.call (.ref fI) ⟨[.ref (h.objs.size + 1)], kw⟩)
      (fun r s' => match r with | .ok (.ret v) => v = .none ∧ Q (.done (.ret (.ref (h.objs.size + 1)))) s' | .ok _ => False | .error e => E e s')
      ⟨(h.push (W.kdv_tup [])).push (excO C h.objs.size), g, d, t, os⟩) :
    wpAny (model prog w) A (Builtin.«type.__call__» ⟨[.ref C], kw⟩) Q E ⟨h, g, d, t, os⟩ := by
  repeat (first | with_reducible refine wpAny_loadPart_at hC ?_ | with_reducible refine wpAny_madeBy_exc hC ?_ | wp_step)
  refine codeAny_call_builtin_code (Code.quiet_builtin _ F.quiet) (check_new_ownK F hT hC ?_)
  refine new_ownK F hT hC ?_
  show wpAny _ _ _ _ _ _
  have k : ∀ b o, h.get? b = some o → ((h.push (W.kdv_tup [])).push (excO C h.objs.size)).get? b = some o := fun b o e => Heap.get?_push_of_some _ (Heap.get?_push_of_some _ e)
  have hC₁ := k _ _ hC
  have hget : ((h.push (W.kdv_tup [])).push (excO C h.objs.size)).get? (h.objs.size + 1) = some (excO C h.objs.size) := by heap_get
  have hcC : (Value.ref C :: bm).contains (.ref C) = true := by simp
  have i1 := hi.keeps k
  have b1 := (hb (.ref (h.objs.size + 1))).keeps k
  unfold isInstance
  repeat (first | with_reducible refine wpAny_loadPart_at hget ?_ | (with_reducible refine wpAny_isSubtype_exc hC₁ ?_; rw [hcC]) | wp_step)
  show wpAny _ _ (typeLookup (.ref C) _) _ _ _
  refine i1.at ?_
  refine wpAny_holding (wpAny_bind (b1.at ?_))
  refine wpAny_bind (wpAny_call (codeAny_mono hq fun r s' z => ?_))
  rcases r with e | (v | _ | _ | _) <;> first | exact z | exact z.elim | skip
  obtain ⟨rfl, z⟩ := z
  first
    | exact wpAny_pure (wpAny_pure z)
    | (wp_walk; exact z)
theorem call_ownK (F : ExcBaseFacts B newId initId bmB) (hT : ∀ X : String, bm.contains (.type X) = bmB.contains (.type X)) {kw : List (Str × Value)} {fI : Addr}
    (hC : h.get? C = some (excClassObj nm q C N bs bm hdct sn sub ab col dd k0 k1 k2 k3 k5 newId))
    (hi : W.Looks (model prog w) h (typeLookup (.ref C) "__init__") (some (.ref fI))) (hb : ∀ self, W.Looks (model prog w) h (bindSpecial (.ref fI) self) (.ref fI, [self]))
    (hq : codeAny (model prog w) (A.under (.builtin "type.__call__" ⟨[.ref C], kw⟩)) (.call (.ref fI) ⟨[.ref (h.objs.size + 1)], kw⟩) (W.InitBack (h.objs.size + 1) R)
      ⟨(h.push (W.kdv_tup [])).push (excO C h.objs.size), g, d, t, os⟩) :
    codeAny (model prog w) A (.call (.ref C) ⟨[], kw⟩) R ⟨h, g, d, t, os⟩ := by
  have f1 := tc_lookup
  have f2 := tc_bind (.ref C)
  have hTy : (⟨h, g, d, t, os⟩ : Shared).TypeIs (.ref C) "type" := ⟨_, hC, rfl⟩
  refine codeAny_of_tree ?_
  show wpAny _ _ (callAny (.ref C) _) _ _ _
  repeat (any_goals (first | assumption | with_reducible refine wpAny_loadPart_at hC ?_ | wp_step))
  refine ⟨rfl, ?_⟩
  refine codeAny_call_builtin_at (Code.quiet_builtin _ (by decide +kernel)) entry_typeCall (check_type_callK hC (type_call_ownK F hT hC hi hb ?_))
  refine codeAny_mono hq fun r s' z => ?_
  rcases r with e | (v | _ | _ | _) <;> exact z
end
end HandSPX
end PySem
namespace Z
open L2 PySem PySem.Spec PyProof.Rows
open Evl (Ex ex_l ex_t ex_rd fresh_back)
/-- __init__(self, value) takes its value by name -/
def KB1 (fd : FuncData) : Prop := ∀ (s : Shared) (v u : Value), BindsTo s fd ⟨[v], [("value", u)]⟩ [("self", v), ("value", u)]
theorem kb1_of {K : Fg} {x qual : Str} {st : Stmt} {f : Addr} {fd : FuncData} (Fu : Fun K x qual st f fd)
    (h : ∀ (kV doc pm : Value) (an : Option Addr) (cdv ct : Value) (v u : Value), bindArgs (PySem.W.fnOf x qual (defArgs st) (defBody st) (defScope st) .none kV doc pm an cdv ct) ⟨[v], [("value", u)]⟩ = (pure [(("self" : Str), v), (("value" : Str), u)] : Sem (List (Str × Value)))) : KB1 fd := by
  obtain ⟨oc, od, kV, doc, pm, an, cdv, ct, osl, rfl, lk, hcd⟩ := Fu.ex
  exact fun s v u => .of_eq (h kV doc pm an cdv ct v u)
section
variable {X : Cx} {e : Expr} {ta : TA} {p pos kpos : Pos}
theorem pmk_oexK {CX : CXT} {x : Str} {C fI : Addr} {k : Nat} {fd : FuncData} {sp : Sp} (T : OexC X.K C) (iC : PySem.W.findIn X.K (.ref C) "__init__" = some (some (.ref fI))) (tI : PySem.W.typeIn X.K (.ref fI) = some (.type "function"))
    (F1 : Fn X.prog X.w X.K X.mg X.base CX k fI fd ["self", "value"] sp) (hr : Room (k + 1) X.A) (hgd : X.A.guards = some []) (hb : KB1 fd) (hx : Passes CX X (fun _ _ _ => False)) (hg : Gl X x) (hm : X.mg x = some (.ref C)) (ha : PK X [⟨some "value", e, kpos⟩] ta)
    (hdb : (x == ("__debug__" : Str)) = false := by decide) (hall : (backToKw pos (keywordEach [⟨some "value", e, kpos⟩] X.env)).all (·.1.isSome) = true := by rfl) (hks : (backToKw pos (keywordEach [⟨some "value", e, kpos⟩] X.env)).filterMap (·.1) = [("value" : Str)] := by rfl)
    (hpl : ((backTo pos (starEach [] X.env)).any (·.1) || (backToKw pos (keywordEach [⟨some "value", e, kpos⟩] X.env)).any (·.1.isNone)) = false := by rfl) :
    PMk X (.Call (.Name x p) [] [⟨some "value", e, kpos⟩] pos) (tMkO C sp [] fun σ H Q => ta σ H fun vs H1 => (∃ v, vs = [v]) ∧ Q vs H1) := by
  intro pins s σ H Q I h
  obtain ⟨nm, q, N, bs, bm, sn, sub, ab, col, dd, k0, k1, k2, k3, k5, hC, hbm⟩ := T.cls
  refine wpAny_Call_Name_kw (ld_glob I hg hm ?_ hdb)
  refine PySem.W.callWith_KW0 (h₀ := X.base) I.ok.mod.kin T.kC hall (thn (ha.run pos pins s σ H _ I h) fun us s1 ⟨vs, H1, I1, r1, ⟨v, ev⟩, hz, q1⟩ => ⟨I1.kIn, ?_⟩) hpl
  subst ev
  rw [hks]
  cases r1 with
  | @cons _ u _ _ ru rr =>
  cases rr
  show wpAny _ _ (call (.ref C) [] [("value", u)]) _ _ _
  obtain ⟨hp, g, dr, tk, os⟩ := s1
  have hsz : hp.objs.size ≤ hp.objs.size + 1 := Nat.le_succ _
  have hn : H1 (hp.objs.size + 1) = none := I1.hok.fresh hsz
  have hq := q1 (hp.objs.size + 1) hn
  rw [List.append_nil] at hq
  have kk : ∀ b o, hp.get? b = some o → ((hp.push (PySem.W.kdv_tup [])).push (PySem.HandSPX.excO C hp.objs.size)).get? b = some o := fun b o e => Heap.get?_push_of_some _ (Heap.get?_push_of_some _ e)
  have hget : ((hp.push (PySem.W.kdv_tup [])).push (PySem.HandSPX.excO C hp.objs.size)).get? (hp.objs.size + 1) = some (PySem.HandSPX.excO C hp.objs.size) := by heap_get
  have I2 : Inv X pins σ (upd H1 (hp.objs.size + 1) (exo (hp.objs.size + 1) C none)) ⟨(hp.push (PySem.W.kdv_tup [])).push (PySem.HandSPX.excO C hp.objs.size), g, dr, tk, os⟩ :=
    I1.laid (t' := tk) (a := hp.objs.size + 1) (o := exo (hp.objs.size + 1) C none) (h' := (hp.push (PySem.W.kdv_tup [])).push (PySem.HandSPX.excO C hp.objs.size)) kk hsz (exo_ok hget)
  have r2 : Vals [V.ref (hp.objs.size + 1), v] [Value.ref (hp.objs.size + 1), u] := .cons rfl (.cons ru .nil)
  have hb' := hb ⟨(hp.push (PySem.W.kdv_tup [])).push (PySem.HandSPX.excO C hp.objs.size), g, dr, tk, os⟩ (Value.ref (hp.objs.size + 1)) u
  refine wpAny_call (PySem.HandSPX.call_ownK F.excBase_ValueError (fun Y => PySem.HandSPX.refsVE_contains Y bm hbm) (I1.kIn _ _ hC) (PySem.W.looks_findIn I1.kIn iC) (fun self => PySem.W.bind_fn I1.kIn self tI)
    (codeAny_mono (F1.run _ X.stack _ _ ⟨[Value.ref (hp.objs.size + 1)], [("value", u)]⟩ [Value.ref (hp.objs.size + 1), u] _ _ (fun _ _ _ => False) (hr.make C [] [("value", u)]) hgd (I2.env0.make C [] [("value", u)]) hb' r2 hq) fun r s' hq' => ?_))
  cases r with
  | error er => exact hx pins σ _ _ er s' I2 hq'
  | ok fl =>
    cases fl with
    | ret u' =>
      obtain ⟨v', H2, os2, bare2, un2, hok2, rv, ev, d, fs, ea, ed, hd1, q2⟩ := hq'
      subst ev
      obtain ⟨h2, g2, d2, t2, os'⟩ := s'
      exact ⟨rv, mk_end (raises_own T.exC T.tyC) I1 hsz kk un2 hok2 os2 bare2 ea ed hd1 q2⟩
    | next => exact False.elim hq'
    | brk => exact False.elim hq'
    | cont => exact False.elim hq'
/-- a made exception as a value -/
theorem pe_made {t : L2.St → Hp → XK → Prop} (hex : X.ex = []) (he : PMk X e t) : PE X e (fun σ H Q => t σ H fun cls d H1 => ∀ a, H1 a = none → Q (.ref a) (upd H1 a (exT a cls d))) := by
  refine ⟨fun pins s σ H Q I h => ?_⟩
  refine wpAny_mono (he pins s σ H _ I h) (fun u s' hu => ?_) fun _ _ x => x
  obtain ⟨a, oe, vs, sI, H', cls, d, rfl, J, k, hne, ha, hz, hd, h1, na, os, ag, r, q⟩ := hu
  have J' : Inv X pins σ H' s' := J.landed (B := PySem.W.hideAll sI.heap (frs X.stack)) (fun b o e hb => PySem.W.hideAll_get _ e hb) (fun b o e => k b o (PySem.W.of_hideAll _ e)) (Heap.UpToSlots.of_keeps k) os ag
  refine ⟨.ref a, _, inv_track J' ha hz hd na (fun z => ?_) (fun o e _ => ?_) (fun p hp z => ?_), rfl, q a na⟩
  · obtain ⟨m, ⟨o, es, ep, ho, _⟩, _⟩ := J.loc
    rw [← z, hne] at ho
    cases ho
  · obtain ⟨o', e'⟩ := J.base.there a o e (by rw [hex]; exact fun z => nomatch z)
    rw [hne] at e'
    cases e'
  · have q1 := (J.pin p hp).1
    rw [z, hne] at q1
    cases q1
end
end Z
namespace Z
open L2 PySem PySem.Spec PyProof.Rows
open Evl (Ex ex_l ex_t ex_rd fresh_back)
def exOf (d : Da) : Option (Str × Option Da) := match d with
  | .dict [(.none, .tuple [.int _, .str nm, z])] => some (nm, some z)
  | .dict [(.none, .tuple [.int _, .str nm])] => some (nm, none)
  | _ => none
theorem exOf_xc (nm : Str) : ∀ z : Option Da, exOf (xcD nm z) = some (nm, z)
  | some _ => rfl
  | none => rfl
def dAsX (te : DE) : DE := fun g Q => te g fun r g1 => match r with
  | .val d => match exOf d with
    | some (nm, z) => Q (.ob (.exc nm z)) g1
    | none => False
  | _ => False
def dMkX (nm : Str) (te : DE) : DE := fun g Q => te g fun r g1 => match r with
  | .val z => ShX z ∧ Q (.val (xcD nm (some z))) g1
  | _ => False
def dMk0 (nm : Str) : DE := fun g Q => Q (.val (xcD nm none)) g
theorem rpk_key {K : Fg} {F : Hp} {kvs : List (Key × V)} {a b : Da} {es : List (Da × Da)} (h : RpK K F kvs ((a, b) :: es)) : ∃ k, keyD k = a := by
  cases h with
  | @cons k _ _ _ _ _ _ => exact ⟨k, rfl⟩
theorem key_no (k : Key) : keyD k ≠ .none := by cases k <;> exact fun z => by cases z
theorem ob_of {K : Fg} {F : Hp} {v : V} {d : Da} {nm : Str} {z : Option Da} (h : exOf d = some (nm, z)) (r : Rp K F v d) : ObOk K F v (.exc nm z) := by
  unfold exOf at h
  split at h
  · cases h
    cases r with
    | dct rd m =>
      obtain ⟨k, hk⟩ := rpk_key m
      exact (key_no k hk).elim
    | xc h1 h2 h3 h4 => exact ⟨_, _, _, rfl, h1, _, _, _, rfl, h2, rfl, h3, h4⟩
  · cases h
    cases r with
    | dct rd m =>
      obtain ⟨k, hk⟩ := rpk_key m
      exact (key_no k hk).elim
    | x0 h1 h2 => exact ⟨_, _, _, rfl, h1, _, rfl, h2, rfl⟩
  · cases h
theorem up_mono {K : Fg} {t : DE} {σ : L2.St} {H : Hp} {Q R : VK} (q : up K t σ H Q) (f : ∀ v H1, Q v H1 → R v H1) : up K t σ H R := by
  obtain ⟨c, g, tv, tr, F, a, post, s, t, k⟩ := q
  exact ⟨c, g, tv, tr, F, a, post, s, t, fun r g' v H' F' a' h1 h2 => f _ _ (k r g' v H' F' a' h1 h2)⟩
section
variable {X : Cx} {e : Expr} {te : DE} {nm : Str} {C fI : Addr} {k : Nat} {fd : FuncData} {p pos kpos : Pos}
theorem e_asX (he : PE X e (up X.K te)) : PE X e (up X.K (dAsX te)) := pe_to he fun σ H Q q => by
  obtain ⟨c, g, tv, tr, F, a, post, s, t, kk⟩ := q
  refine ⟨c, g, tv, tr, F, a, _, s, t, fun r g1 v H1 F1 a1 t1 s1 => ?_⟩
  cases r with
  | val d =>
    dsimp only at t1
    split at t1
    · rename_i nm z hd
      have rd : Rp X.K F1 v d := s1.top
      exact kk _ g1 _ H1 F1 a1 t1 (s1.pop1.push (r := .ob (.exc nm z)) (ob_of hd rd))
    · exact t1.elim
  | _ => exact t1.elim
/-- the value's end: the exception's field dict stands, the exception is laid -/
theorem mkx_core {σ : L2.St} {H : Hp} {Q : VK} (T : XcV X.K nm C fI) (q : up X.K (dMkX nm te) σ H Q) :
    up X.K te σ H fun v H1 => ∀ x, H1 x = none → spXi X.K [.ref x, v] (upd H1 x (exo x C none))
      (fun u H2 => u = .non ∧ ∃ (d : Addr) (fs : List (Str × V)), H2 x = some (exo x C (some d)) ∧ H2 d = some (exd d fs) ∧ H1 d = none ∧ ∀ a, (upd (del H2 x) d (.xd fs)) a = none → Q (.ref a) (upd (upd (del H2 x) d (.xd fs)) a (exT a (.ref C) (some d)))) (fun _ _ _ => False) := by
  obtain ⟨c, g, tv, tr, F, a, post, s, t, kk⟩ := q
  refine ⟨c, g, tv, tr, F, a, _, s, t, fun r g1 v H1 F1 a1 t1 s1 => ?_⟩
  cases r with
  | val z =>
    refine fun x hx => ?_
    have rz : Rp X.K F1 v z := s1.top
    have ef : Ex F1 (upd H1 x (exo x C none)) := s1.eh.trans (Ex.new hx)
    refine ⟨x, C, v, F1, z, rfl, T.oex, T.nov, upd_same, ef, rz, t1.1, fun dx hdx ne => ⟨rfl, dx, [("value", v)], upd_same, ?_, ?_, ?_⟩⟩
    · rw [upd_ne ne, upd_same]
    · rw [upd_ne ne] at hdx; exact hdx
    · rw [upd_ne ne] at hdx
      have eq : upd (del (upd (upd (upd H1 x (exo x C none)) dx (exd dx [("value", v)])) x (exo x C (some dx))) x) dx (.xd [("value", v)]) = upd H1 dx (.xd [("value", v)]) := by
        funext b
        by_cases hb : b = dx
        · rw [hb, upd_same, upd_same]
        · rw [upd_ne hb, upd_ne hb]
          by_cases hbx : b = x
          · rw [hbx, del_same, hx]
          · rw [del_ne hbx, upd_ne hbx, upd_ne hb, upd_ne hbx]
      rw [eq]
      intro y hy
      have gr := Gr.new (o := .xd [("value", v)]) s1.eh hdx
      have gr2 := Gr.new (o := exT y (.ref C) (some dx)) gr.s hy
      have yd : dx ≠ y := fun z => by rw [← z, upd_same] at hy; cases hy
      refine kk _ g1 _ _ _ a1 t1.2 (((s1.pop1.grow gr).grow gr2).push (v := .ref y) (r := .val (xcD nm (some z))) ?_)
      exact Rp.xc (upd_same) T.ns (by rw [upd_ne yd, upd_same]) ((rz.up gr.f).up gr2.f)
  | _ => exact t1.elim
theorem e_mkx (hex : X.ex = []) (T : XcV X.K nm C fI) (F1 : Fn X.prog X.w X.K X.mg X.base CX0 k fI fd ["self", "value"] (spXi X.K)) (hr : Room (k + 1) X.A) (hgd : X.A.guards = some []) (hb : Binds X.K fd ["self", "value"] []) (hg : Gl X nm) (hm : X.mg nm = some (.ref C)) (ha : PE X e (up X.K te))
    (hdb : (nm == ("__debug__" : Str)) = false := by decide) (he : starEach [e] X.env = (false, eval e X.env) :: starEach [] X.env := by rfl) : PE X (.Call (.Name nm p) [e] [] pos) (up X.K (dMkX nm te)) :=
  pe_to (pe_made hex (pmk_oexF T.oex T.ini T.fn F1 hr hgd hb pass0 hg hm (pa_cons ha pa_nil he) hdb he rfl)) fun σ H Q q => by
  refine up_mono (mkx_core T q) fun v H1 z => ?_
  exact ⟨by show 1 ≤ 1000; omega, z⟩
theorem e_mkxK (hex : X.ex = []) (T : XcV X.K nm C fI) (F1 : Fn X.prog X.w X.K X.mg X.base CX0 k fI fd ["self", "value"] (spXi X.K)) (hr : Room (k + 1) X.A) (hgd : X.A.guards = some []) (hb : KB1 fd) (hg : Gl X nm) (hm : X.mg nm = some (.ref C)) (ha : PE X e (up X.K te))
    (hdb : (nm == ("__debug__" : Str)) = false := by decide) (hall : (backToKw pos (keywordEach [⟨some "value", e, kpos⟩] X.env)).all (·.1.isSome) = true := by rfl) (hks : (backToKw pos (keywordEach [⟨some "value", e, kpos⟩] X.env)).filterMap (·.1) = [("value" : Str)] := by rfl)
    (hpl : ((backTo pos (starEach [] X.env)).any (·.1) || (backToKw pos (keywordEach [⟨some "value", e, kpos⟩] X.env)).any (·.1.isNone)) = false := by rfl) : PE X (.Call (.Name nm p) [] [⟨some "value", e, kpos⟩] pos) (up X.K (dMkX nm te)) :=
  pe_to (pe_made hex (pmk_oexK T.oex T.ini T.fn F1 hr hgd hb pass0 hg hm (pk_cons ha pk_nil) hdb hall hks hpl)) fun σ H Q q => by
  refine up_mono (mkx_core T q) fun v H1 z => ?_
  exact ⟨⟨v, rfl⟩, by show 1 ≤ 1000; omega, z⟩
theorem e_mk0 (hex : X.ex = []) (T : Xc0I X.K nm C fI) (F1 : Fn X.prog X.w X.K X.mg X.base CX0 k fI fd ["self"] (spX0 X.K)) (hr : Room (k + 1) X.A) (hgd : X.A.guards = some []) (hb : Binds X.K fd ["self"] []) (hg : Gl X nm) (hm : X.mg nm = some (.ref C))
    (hdb : (nm == ("__debug__" : Str)) = false := by decide) : PE X (.Call (.Name nm p) [] [] pos) (up X.K (dMk0 nm)) :=
  pe_to (pe_made hex (pmk_oexN T.oex T.ini T.fn F1 hr hgd hb pass0 hg hm hdb)) fun σ H Q q => by
  obtain ⟨c, g, tv, tr, F, a, post, s, t, kk⟩ := q
  refine fun x hx => ⟨x, C, rfl, T.oex, upd_same, rfl, upd_same, ?_⟩
  have eq : del (upd H x (exo x C none)) x = H := by
    funext b
    by_cases hb : b = x
    · rw [hb, del_same, hx]
    · rw [del_ne hb, upd_ne hb]
  rw [eq]
  intro y hy
  have gr := Gr.new (o := exT y (.ref C) none) s.eh hy
  exact kk _ g _ _ _ a t ((s.grow gr).push (v := .ref y) (r := .val (xcD nm none)) (Rp.x0 upd_same T.ns))
end
end Z
namespace LAW
open Z L2 PySem PySem.Spec PyProof.Rows
open Evl (Ex ex_l ex_t ex_rd fresh_back)
def topS (i : Nat) : Stmt := PySem.Challenge.pw_stagedrounding_k11_exceptions_made_by_ha.main.body.getD i (.Pass ⟨0, 0, 0, 0⟩)
abbrev st_NoBench_init : Stmt := inClass (topS 20) 0
abbrev N_NoBench_init : List Str := ["self"]
theorem sc_NoBench_init : FnScope N_NoBench_init ["self"] (defScope st_NoBench_init) := ⟨rfl, rfl, rfl, by decide +kernel, rfl, by decide +kernel, by decide +kernel⟩
abbrev st_NothingToUndo_init : Stmt := inClass (topS 19) 0
abbrev N_NothingToUndo_init : List Str := ["self"]
theorem sc_NothingToUndo_init : FnScope N_NothingToUndo_init ["self"] (defScope st_NothingToUndo_init) := ⟨rfl, rfl, rfl, by decide +kernel, rfl, by decide +kernel, by decide +kernel⟩
abbrev st_OutOfRange_init : Stmt := inClass (topS 18) 0
abbrev N_OutOfRange_init : List Str := ["self"]
theorem sc_OutOfRange_init : FnScope N_OutOfRange_init ["self"] (defScope st_OutOfRange_init) := ⟨rfl, rfl, rfl, by decide +kernel, rfl, by decide +kernel, by decide +kernel⟩
abbrev st_ZeroResult_init : Stmt := inClass (topS 17) 0
abbrev N_ZeroResult_init : List Str := ["self"]
theorem sc_ZeroResult_init : FnScope N_ZeroResult_init ["self"] (defScope st_ZeroResult_init) := ⟨rfl, rfl, rfl, by decide +kernel, rfl, by decide +kernel, by decide +kernel⟩
abbrev st_DifferentWidths_init : Stmt := inClass (topS 16) 0
abbrev N_DifferentWidths_init : List Str := ["self"]
theorem sc_DifferentWidths_init : FnScope N_DifferentWidths_init ["self"] (defScope st_DifferentWidths_init) := ⟨rfl, rfl, rfl, by decide +kernel, rfl, by decide +kernel, by decide +kernel⟩
abbrev st_InvalidLine_init : Stmt := inClass (topS 15) 0
abbrev N_InvalidLine_init : List Str := ["self", "value"]
theorem sc_InvalidLine_init : FnScope N_InvalidLine_init ["self", "value"] (defScope st_InvalidLine_init) := ⟨rfl, rfl, rfl, by decide +kernel, rfl, by decide +kernel, by decide +kernel⟩
abbrev st_InvalidText_init : Stmt := inClass (topS 14) 0
abbrev N_InvalidText_init : List Str := ["self", "value"]
theorem sc_InvalidText_init : FnScope N_InvalidText_init ["self", "value"] (defScope st_InvalidText_init) := ⟨rfl, rfl, rfl, by decide +kernel, rfl, by decide +kernel, by decide +kernel⟩
abbrev st_NotExact_init : Stmt := inClass (topS 13) 0
abbrev N_NotExact_init : List Str := ["self", "value"]
theorem sc_NotExact_init : FnScope N_NotExact_init ["self", "value"] (defScope st_NotExact_init) := ⟨rfl, rfl, rfl, by decide +kernel, rfl, by decide +kernel, by decide +kernel⟩
abbrev st_UnknownName_init : Stmt := inClass (topS 12) 0
abbrev N_UnknownName_init : List Str := ["self", "value"]
theorem sc_UnknownName_init : FnScope N_UnknownName_init ["self", "value"] (defScope st_UnknownName_init) := ⟨rfl, rfl, rfl, by decide +kernel, rfl, by decide +kernel, by decide +kernel⟩
abbrev st_InvalidName_init : Stmt := inClass (topS 11) 0
abbrev N_InvalidName_init : List Str := ["self", "value"]
theorem sc_InvalidName_init : FnScope N_InvalidName_init ["self", "value"] (defScope st_InvalidName_init) := ⟨rfl, rfl, rfl, by decide +kernel, rfl, by decide +kernel, by decide +kernel⟩
abbrev st_InvalidKind_init : Stmt := inClass (topS 10) 0
abbrev N_InvalidKind_init : List Str := ["self", "value"]
theorem sc_InvalidKind_init : FnScope N_InvalidKind_init ["self", "value"] (defScope st_InvalidKind_init) := ⟨rfl, rfl, rfl, by decide +kernel, rfl, by decide +kernel, by decide +kernel⟩
abbrev st_InvalidShift_init : Stmt := inClass (topS 9) 0
abbrev N_InvalidShift_init : List Str := ["self", "value"]
theorem sc_InvalidShift_init : FnScope N_InvalidShift_init ["self", "value"] (defScope st_InvalidShift_init) := ⟨rfl, rfl, rfl, by decide +kernel, rfl, by decide +kernel, by decide +kernel⟩
abbrev st_InvalidExponent_init : Stmt := inClass (topS 8) 0
abbrev N_InvalidExponent_init : List Str := ["self", "value"]
theorem sc_InvalidExponent_init : FnScope N_InvalidExponent_init ["self", "value"] (defScope st_InvalidExponent_init) := ⟨rfl, rfl, rfl, by decide +kernel, rfl, by decide +kernel, by decide +kernel⟩
abbrev st_InvalidRange_init : Stmt := inClass (topS 7) 0
abbrev N_InvalidRange_init : List Str := ["self", "value"]
theorem sc_InvalidRange_init : FnScope N_InvalidRange_init ["self", "value"] (defScope st_InvalidRange_init) := ⟨rfl, rfl, rfl, by decide +kernel, rfl, by decide +kernel, by decide +kernel⟩
abbrev st_InvalidThresholds_init : Stmt := inClass (topS 6) 0
abbrev N_InvalidThresholds_init : List Str := ["self", "value"]
theorem sc_InvalidThresholds_init : FnScope N_InvalidThresholds_init ["self", "value"] (defScope st_InvalidThresholds_init) := ⟨rfl, rfl, rfl, by decide +kernel, rfl, by decide +kernel, by decide +kernel⟩
abbrev st_InvalidChain_init : Stmt := inClass (topS 5) 0
abbrev N_InvalidChain_init : List Str := ["self", "value"]
theorem sc_InvalidChain_init : FnScope N_InvalidChain_init ["self", "value"] (defScope st_InvalidChain_init) := ⟨rfl, rfl, rfl, by decide +kernel, rfl, by decide +kernel, by decide +kernel⟩
abbrev st_InvalidRule_init : Stmt := inClass (topS 4) 0
abbrev N_InvalidRule_init : List Str := ["self", "value"]
theorem sc_InvalidRule_init : FnScope N_InvalidRule_init ["self", "value"] (defScope st_InvalidRule_init) := ⟨rfl, rfl, rfl, by decide +kernel, rfl, by decide +kernel, by decide +kernel⟩
abbrev st_InvalidWidth_init : Stmt := inClass (topS 3) 0
abbrev N_InvalidWidth_init : List Str := ["self", "value"]
theorem sc_InvalidWidth_init : FnScope N_InvalidWidth_init ["self", "value"] (defScope st_InvalidWidth_init) := ⟨rfl, rfl, rfl, by decide +kernel, rfl, by decide +kernel, by decide +kernel⟩
abbrev st_InvalidNumber_init : Stmt := inClass (topS 2) 0
abbrev N_InvalidNumber_init : List Str := ["self", "value"]
theorem sc_InvalidNumber_init : FnScope N_InvalidNumber_init ["self", "value"] (defScope st_InvalidNumber_init) := ⟨rfl, rfl, rfl, by decide +kernel, rfl, by decide +kernel, by decide +kernel⟩
abbrev st__law_source : Stmt := topS 22
abbrev N__law_source : List Str := ["_law_script", "_law_k", "_law_given", "_law_digits"]
theorem sc__law_source : FnScope N__law_source ["_law_script", "_law_k"] (defScope st__law_source) := ⟨rfl, rfl, rfl, by decide +kernel, rfl, by decide +kernel, by decide +kernel⟩
abbrev st__law_draw : Stmt := topS 23
abbrev N__law_draw : List Str := ["_law_source_here", "_law_size", "_law_digit", "_law_turn", "_law_mixed"]
theorem sc__law_draw : FnScope N__law_draw ["_law_source_here", "_law_size"] (defScope st__law_draw) := ⟨rfl, rfl, rfl, by decide +kernel, rfl, by decide +kernel, by decide +kernel⟩
abbrev st__law_pick : Stmt := topS 24
abbrev N__law_pick : List Str := ["_law_source_here", "_law_some"]
theorem sc__law_pick : FnScope N__law_pick ["_law_source_here", "_law_some"] (defScope st__law_pick) := ⟨rfl, rfl, rfl, by decide +kernel, rfl, by decide +kernel, by decide +kernel⟩
abbrev st__law_odd : Stmt := topS 25
abbrev N__law_odd : List Str := ["_law_source_here", "_law_some", "_law_given", "_law_turn"]
theorem sc__law_odd : FnScope N__law_odd ["_law_source_here"] (defScope st__law_odd) := ⟨rfl, rfl, rfl, by decide +kernel, rfl, by decide +kernel, by decide +kernel⟩
abbrev st__law_with_value : Stmt := topS 26
abbrev N__law_with_value : List Str := ["_law_given", "_law_found"]
theorem sc__law_with_value : FnScope N__law_with_value ["_law_given"] (defScope st__law_with_value) := ⟨rfl, rfl, rfl, by decide +kernel, rfl, by decide +kernel, by decide +kernel⟩
abbrev st__law_by_name : Stmt := topS 27
abbrev N__law_by_name : List Str := ["_law_given", "_law_found"]
theorem sc__law_by_name : FnScope N__law_by_name ["_law_given"] (defScope st__law_by_name) := ⟨rfl, rfl, rfl, by decide +kernel, rfl, by decide +kernel, by decide +kernel⟩
abbrev st__law_marks : Stmt := topS 28
abbrev N__law_marks : List Str := ["_law_error", "_law_found"]
theorem sc__law_marks : FnScope N__law_marks ["_law_error"] (defScope st__law_marks) := ⟨rfl, rfl, rfl, by decide +kernel, rfl, by decide +kernel, by decide +kernel⟩
abbrev st__law_right : Stmt := topS 29
abbrev N__law_right : List Str := ["_law_source_here", "_law_given", "_law_bare", "_law_made", "_law_at", "_law_error", "_law_spot"]
theorem sc__law_right : FnScope N__law_right ["_law_source_here"] (defScope st__law_right) := ⟨rfl, rfl, rfl, by decide +kernel, rfl, by decide +kernel, by decide +kernel⟩
abbrev st_law : Stmt := topS 30
abbrev N_law : List Str := ["_law_script", "_law_k"]
theorem sc_law : FnScope N_law ["_law_script"] (defScope st_law) := ⟨rfl, rfl, rfl, by decide +kernel, rfl, by decide +kernel, by decide +kernel⟩
structure Tx (w : World) (K : Fg) (mg : Str → Option Value) where
  f_NoBench_init : Addr
  fd_NoBench_init : FuncData
  F_NoBench_init : Fun K "__init__" "NoBench.__init__" st_NoBench_init f_NoBench_init fd_NoBench_init
  b_NoBench_init : Binds K fd_NoBench_init ["self"] []
  f_NothingToUndo_init : Addr
  fd_NothingToUndo_init : FuncData
  F_NothingToUndo_init : Fun K "__init__" "NothingToUndo.__init__" st_NothingToUndo_init f_NothingToUndo_init fd_NothingToUndo_init
  b_NothingToUndo_init : Binds K fd_NothingToUndo_init ["self"] []
  f_OutOfRange_init : Addr
  fd_OutOfRange_init : FuncData
  F_OutOfRange_init : Fun K "__init__" "OutOfRange.__init__" st_OutOfRange_init f_OutOfRange_init fd_OutOfRange_init
  b_OutOfRange_init : Binds K fd_OutOfRange_init ["self"] []
  f_ZeroResult_init : Addr
  fd_ZeroResult_init : FuncData
  F_ZeroResult_init : Fun K "__init__" "ZeroResult.__init__" st_ZeroResult_init f_ZeroResult_init fd_ZeroResult_init
  b_ZeroResult_init : Binds K fd_ZeroResult_init ["self"] []
  f_DifferentWidths_init : Addr
  fd_DifferentWidths_init : FuncData
  F_DifferentWidths_init : Fun K "__init__" "DifferentWidths.__init__" st_DifferentWidths_init f_DifferentWidths_init fd_DifferentWidths_init
  b_DifferentWidths_init : Binds K fd_DifferentWidths_init ["self"] []
  f_InvalidLine_init : Addr
  fd_InvalidLine_init : FuncData
  F_InvalidLine_init : Fun K "__init__" "InvalidLine.__init__" st_InvalidLine_init f_InvalidLine_init fd_InvalidLine_init
  b_InvalidLine_init : Binds K fd_InvalidLine_init ["self", "value"] []
  f_InvalidText_init : Addr
  fd_InvalidText_init : FuncData
  F_InvalidText_init : Fun K "__init__" "InvalidText.__init__" st_InvalidText_init f_InvalidText_init fd_InvalidText_init
  b_InvalidText_init : Binds K fd_InvalidText_init ["self", "value"] []
  f_NotExact_init : Addr
  fd_NotExact_init : FuncData
  F_NotExact_init : Fun K "__init__" "NotExact.__init__" st_NotExact_init f_NotExact_init fd_NotExact_init
  b_NotExact_init : Binds K fd_NotExact_init ["self", "value"] []
  f_UnknownName_init : Addr
  fd_UnknownName_init : FuncData
  F_UnknownName_init : Fun K "__init__" "UnknownName.__init__" st_UnknownName_init f_UnknownName_init fd_UnknownName_init
  b_UnknownName_init : Binds K fd_UnknownName_init ["self", "value"] []
  f_InvalidName_init : Addr
  fd_InvalidName_init : FuncData
  F_InvalidName_init : Fun K "__init__" "InvalidName.__init__" st_InvalidName_init f_InvalidName_init fd_InvalidName_init
  b_InvalidName_init : Binds K fd_InvalidName_init ["self", "value"] []
  f_InvalidKind_init : Addr
  fd_InvalidKind_init : FuncData
  F_InvalidKind_init : Fun K "__init__" "InvalidKind.__init__" st_InvalidKind_init f_InvalidKind_init fd_InvalidKind_init
  b_InvalidKind_init : Binds K fd_InvalidKind_init ["self", "value"] []
  f_InvalidShift_init : Addr
  fd_InvalidShift_init : FuncData
  F_InvalidShift_init : Fun K "__init__" "InvalidShift.__init__" st_InvalidShift_init f_InvalidShift_init fd_InvalidShift_init
  b_InvalidShift_init : Binds K fd_InvalidShift_init ["self", "value"] []
  f_InvalidExponent_init : Addr
  fd_InvalidExponent_init : FuncData
  F_InvalidExponent_init : Fun K "__init__" "InvalidExponent.__init__" st_InvalidExponent_init f_InvalidExponent_init fd_InvalidExponent_init
  b_InvalidExponent_init : Binds K fd_InvalidExponent_init ["self", "value"] []
  f_InvalidRange_init : Addr
  fd_InvalidRange_init : FuncData
  F_InvalidRange_init : Fun K "__init__" "InvalidRange.__init__" st_InvalidRange_init f_InvalidRange_init fd_InvalidRange_init
  b_InvalidRange_init : Binds K fd_InvalidRange_init ["self", "value"] []
  f_InvalidThresholds_init : Addr
  fd_InvalidThresholds_init : FuncData
  F_InvalidThresholds_init : Fun K "__init__" "InvalidThresholds.__init__" st_InvalidThresholds_init f_InvalidThresholds_init fd_InvalidThresholds_init
  b_InvalidThresholds_init : Binds K fd_InvalidThresholds_init ["self", "value"] []
  f_InvalidChain_init : Addr
  fd_InvalidChain_init : FuncData
  F_InvalidChain_init : Fun K "__init__" "InvalidChain.__init__" st_InvalidChain_init f_InvalidChain_init fd_InvalidChain_init
  b_InvalidChain_init : Binds K fd_InvalidChain_init ["self", "value"] []
  f_InvalidRule_init : Addr
  fd_InvalidRule_init : FuncData
  F_InvalidRule_init : Fun K "__init__" "InvalidRule.__init__" st_InvalidRule_init f_InvalidRule_init fd_InvalidRule_init
  b_InvalidRule_init : Binds K fd_InvalidRule_init ["self", "value"] []
  f_InvalidWidth_init : Addr
  fd_InvalidWidth_init : FuncData
  F_InvalidWidth_init : Fun K "__init__" "InvalidWidth.__init__" st_InvalidWidth_init f_InvalidWidth_init fd_InvalidWidth_init
  b_InvalidWidth_init : Binds K fd_InvalidWidth_init ["self", "value"] []
  f_InvalidNumber_init : Addr
  fd_InvalidNumber_init : FuncData
  F_InvalidNumber_init : Fun K "__init__" "InvalidNumber.__init__" st_InvalidNumber_init f_InvalidNumber_init fd_InvalidNumber_init
  b_InvalidNumber_init : Binds K fd_InvalidNumber_init ["self", "value"] []
  f__law_source : Addr
  fd__law_source : FuncData
  F__law_source : Fun K "_law_source" "_law_source" st__law_source f__law_source fd__law_source
  b__law_source : Binds K fd__law_source ["_law_script", "_law_k"] []
  g__law_source : mg "_law_source" = some (.ref f__law_source)
  f__law_draw : Addr
  fd__law_draw : FuncData
  F__law_draw : Fun K "_law_draw" "_law_draw" st__law_draw f__law_draw fd__law_draw
  b__law_draw : Binds K fd__law_draw ["_law_source_here", "_law_size"] []
  g__law_draw : mg "_law_draw" = some (.ref f__law_draw)
  f__law_pick : Addr
  fd__law_pick : FuncData
  F__law_pick : Fun K "_law_pick" "_law_pick" st__law_pick f__law_pick fd__law_pick
  b__law_pick : Binds K fd__law_pick ["_law_source_here", "_law_some"] []
  g__law_pick : mg "_law_pick" = some (.ref f__law_pick)
  f__law_odd : Addr
  fd__law_odd : FuncData
  F__law_odd : Fun K "_law_odd" "_law_odd" st__law_odd f__law_odd fd__law_odd
  b__law_odd : Binds K fd__law_odd ["_law_source_here"] []
  g__law_odd : mg "_law_odd" = some (.ref f__law_odd)
  f__law_with_value : Addr
  fd__law_with_value : FuncData
  F__law_with_value : Fun K "_law_with_value" "_law_with_value" st__law_with_value f__law_with_value fd__law_with_value
  b__law_with_value : Binds K fd__law_with_value ["_law_given"] []
  g__law_with_value : mg "_law_with_value" = some (.ref f__law_with_value)
  f__law_by_name : Addr
  fd__law_by_name : FuncData
  F__law_by_name : Fun K "_law_by_name" "_law_by_name" st__law_by_name f__law_by_name fd__law_by_name
  b__law_by_name : Binds K fd__law_by_name ["_law_given"] []
  g__law_by_name : mg "_law_by_name" = some (.ref f__law_by_name)
  f__law_marks : Addr
  fd__law_marks : FuncData
  F__law_marks : Fun K "_law_marks" "_law_marks" st__law_marks f__law_marks fd__law_marks
  b__law_marks : Binds K fd__law_marks ["_law_error"] []
  g__law_marks : mg "_law_marks" = some (.ref f__law_marks)
  f__law_right : Addr
  fd__law_right : FuncData
  F__law_right : Fun K "_law_right" "_law_right" st__law_right f__law_right fd__law_right
  b__law_right : Binds K fd__law_right ["_law_source_here"] []
  g__law_right : mg "_law_right" = some (.ref f__law_right)
  f_law : Addr
  fd_law : FuncData
  F_law : Fun K "law" "law" st_law f_law fd_law
  b_law : Binds K fd_law ["_law_script"] []
  g_law : mg "law" = some (.ref f_law)
  C_RoundingError : Addr
  g_RoundingError : mg "RoundingError" = some (.ref C_RoundingError)
  bc : BaseC K C_RoundingError
  C_DifferentWidths : Addr
  g_DifferentWidths : mg "DifferentWidths" = some (.ref C_DifferentWidths)
  xi_DifferentWidths : Xc0I K "DifferentWidths" C_DifferentWidths f_DifferentWidths_init
  C_InvalidChain : Addr
  g_InvalidChain : mg "InvalidChain" = some (.ref C_InvalidChain)
  xv_InvalidChain : XcV K "InvalidChain" C_InvalidChain f_InvalidChain_init
  C_InvalidExponent : Addr
  g_InvalidExponent : mg "InvalidExponent" = some (.ref C_InvalidExponent)
  xv_InvalidExponent : XcV K "InvalidExponent" C_InvalidExponent f_InvalidExponent_init
  C_InvalidKind : Addr
  g_InvalidKind : mg "InvalidKind" = some (.ref C_InvalidKind)
  xv_InvalidKind : XcV K "InvalidKind" C_InvalidKind f_InvalidKind_init
  C_InvalidLine : Addr
  g_InvalidLine : mg "InvalidLine" = some (.ref C_InvalidLine)
  xv_InvalidLine : XcV K "InvalidLine" C_InvalidLine f_InvalidLine_init
  C_InvalidName : Addr
  g_InvalidName : mg "InvalidName" = some (.ref C_InvalidName)
  xv_InvalidName : XcV K "InvalidName" C_InvalidName f_InvalidName_init
  C_InvalidNumber : Addr
  g_InvalidNumber : mg "InvalidNumber" = some (.ref C_InvalidNumber)
  xv_InvalidNumber : XcV K "InvalidNumber" C_InvalidNumber f_InvalidNumber_init
  C_InvalidRange : Addr
  g_InvalidRange : mg "InvalidRange" = some (.ref C_InvalidRange)
  xv_InvalidRange : XcV K "InvalidRange" C_InvalidRange f_InvalidRange_init
  C_InvalidRule : Addr
  g_InvalidRule : mg "InvalidRule" = some (.ref C_InvalidRule)
  xv_InvalidRule : XcV K "InvalidRule" C_InvalidRule f_InvalidRule_init
  C_InvalidShift : Addr
  g_InvalidShift : mg "InvalidShift" = some (.ref C_InvalidShift)
  xv_InvalidShift : XcV K "InvalidShift" C_InvalidShift f_InvalidShift_init
  C_InvalidText : Addr
  g_InvalidText : mg "InvalidText" = some (.ref C_InvalidText)
  xv_InvalidText : XcV K "InvalidText" C_InvalidText f_InvalidText_init
  C_InvalidThresholds : Addr
  g_InvalidThresholds : mg "InvalidThresholds" = some (.ref C_InvalidThresholds)
  xv_InvalidThresholds : XcV K "InvalidThresholds" C_InvalidThresholds f_InvalidThresholds_init
  C_InvalidWidth : Addr
  g_InvalidWidth : mg "InvalidWidth" = some (.ref C_InvalidWidth)
  xv_InvalidWidth : XcV K "InvalidWidth" C_InvalidWidth f_InvalidWidth_init
  C_NoBench : Addr
  g_NoBench : mg "NoBench" = some (.ref C_NoBench)
  xi_NoBench : Xc0I K "NoBench" C_NoBench f_NoBench_init
  C_NotExact : Addr
  g_NotExact : mg "NotExact" = some (.ref C_NotExact)
  xv_NotExact : XcV K "NotExact" C_NotExact f_NotExact_init
  C_NothingToUndo : Addr
  g_NothingToUndo : mg "NothingToUndo" = some (.ref C_NothingToUndo)
  xi_NothingToUndo : Xc0I K "NothingToUndo" C_NothingToUndo f_NothingToUndo_init
  C_OutOfRange : Addr
  g_OutOfRange : mg "OutOfRange" = some (.ref C_OutOfRange)
  xi_OutOfRange : Xc0I K "OutOfRange" C_OutOfRange f_OutOfRange_init
  C_UnknownName : Addr
  g_UnknownName : mg "UnknownName" = some (.ref C_UnknownName)
  xv_UnknownName : XcV K "UnknownName" C_UnknownName f_UnknownName_init
  C_ZeroResult : Addr
  g_ZeroResult : mg "ZeroResult" = some (.ref C_ZeroResult)
  xi_ZeroResult : Xc0I K "ZeroResult" C_ZeroResult f_ZeroResult_init
  is_DifferentWidths : IsK K ["DifferentWidths", "InvalidChain", "InvalidExponent", "InvalidKind", "InvalidLine", "InvalidName", "InvalidNumber", "InvalidRange", "InvalidRule", "InvalidShift", "InvalidText", "InvalidThresholds", "InvalidWidth", "NoBench", "NotExact", "NothingToUndo", "OutOfRange", "UnknownName", "ZeroResult"] "DifferentWidths" (.ref C_DifferentWidths)
  is_InvalidChain : IsK K ["DifferentWidths", "InvalidChain", "InvalidExponent", "InvalidKind", "InvalidLine", "InvalidName", "InvalidNumber", "InvalidRange", "InvalidRule", "InvalidShift", "InvalidText", "InvalidThresholds", "InvalidWidth", "NoBench", "NotExact", "NothingToUndo", "OutOfRange", "UnknownName", "ZeroResult"] "InvalidChain" (.ref C_InvalidChain)
  is_InvalidExponent : IsK K ["DifferentWidths", "InvalidChain", "InvalidExponent", "InvalidKind", "InvalidLine", "InvalidName", "InvalidNumber", "InvalidRange", "InvalidRule", "InvalidShift", "InvalidText", "InvalidThresholds", "InvalidWidth", "NoBench", "NotExact", "NothingToUndo", "OutOfRange", "UnknownName", "ZeroResult"] "InvalidExponent" (.ref C_InvalidExponent)
  is_InvalidKind : IsK K ["DifferentWidths", "InvalidChain", "InvalidExponent", "InvalidKind", "InvalidLine", "InvalidName", "InvalidNumber", "InvalidRange", "InvalidRule", "InvalidShift", "InvalidText", "InvalidThresholds", "InvalidWidth", "NoBench", "NotExact", "NothingToUndo", "OutOfRange", "UnknownName", "ZeroResult"] "InvalidKind" (.ref C_InvalidKind)
  is_InvalidLine : IsK K ["DifferentWidths", "InvalidChain", "InvalidExponent", "InvalidKind", "InvalidLine", "InvalidName", "InvalidNumber", "InvalidRange", "InvalidRule", "InvalidShift", "InvalidText", "InvalidThresholds", "InvalidWidth", "NoBench", "NotExact", "NothingToUndo", "OutOfRange", "UnknownName", "ZeroResult"] "InvalidLine" (.ref C_InvalidLine)
  is_InvalidName : IsK K ["DifferentWidths", "InvalidChain", "InvalidExponent", "InvalidKind", "InvalidLine", "InvalidName", "InvalidNumber", "InvalidRange", "InvalidRule", "InvalidShift", "InvalidText", "InvalidThresholds", "InvalidWidth", "NoBench", "NotExact", "NothingToUndo", "OutOfRange", "UnknownName", "ZeroResult"] "InvalidName" (.ref C_InvalidName)
  is_InvalidNumber : IsK K ["DifferentWidths", "InvalidChain", "InvalidExponent", "InvalidKind", "InvalidLine", "InvalidName", "InvalidNumber", "InvalidRange", "InvalidRule", "InvalidShift", "InvalidText", "InvalidThresholds", "InvalidWidth", "NoBench", "NotExact", "NothingToUndo", "OutOfRange", "UnknownName", "ZeroResult"] "InvalidNumber" (.ref C_InvalidNumber)
  is_InvalidRange : IsK K ["DifferentWidths", "InvalidChain", "InvalidExponent", "InvalidKind", "InvalidLine", "InvalidName", "InvalidNumber", "InvalidRange", "InvalidRule", "InvalidShift", "InvalidText", "InvalidThresholds", "InvalidWidth", "NoBench", "NotExact", "NothingToUndo", "OutOfRange", "UnknownName", "ZeroResult"] "InvalidRange" (.ref C_InvalidRange)
  is_InvalidRule : IsK K ["DifferentWidths", "InvalidChain", "InvalidExponent", "InvalidKind", "InvalidLine", "InvalidName", "InvalidNumber", "InvalidRange", "InvalidRule", "InvalidShift", "InvalidText", "InvalidThresholds", "InvalidWidth", "NoBench", "NotExact", "NothingToUndo", "OutOfRange", "UnknownName", "ZeroResult"] "InvalidRule" (.ref C_InvalidRule)
  is_InvalidShift : IsK K ["DifferentWidths", "InvalidChain", "InvalidExponent", "InvalidKind", "InvalidLine", "InvalidName", "InvalidNumber", "InvalidRange", "InvalidRule", "InvalidShift", "InvalidText", "InvalidThresholds", "InvalidWidth", "NoBench", "NotExact", "NothingToUndo", "OutOfRange", "UnknownName", "ZeroResult"] "InvalidShift" (.ref C_InvalidShift)
  is_InvalidText : IsK K ["DifferentWidths", "InvalidChain", "InvalidExponent", "InvalidKind", "InvalidLine", "InvalidName", "InvalidNumber", "InvalidRange", "InvalidRule", "InvalidShift", "InvalidText", "InvalidThresholds", "InvalidWidth", "NoBench", "NotExact", "NothingToUndo", "OutOfRange", "UnknownName", "ZeroResult"] "InvalidText" (.ref C_InvalidText)
  is_InvalidThresholds : IsK K ["DifferentWidths", "InvalidChain", "InvalidExponent", "InvalidKind", "InvalidLine", "InvalidName", "InvalidNumber", "InvalidRange", "InvalidRule", "InvalidShift", "InvalidText", "InvalidThresholds", "InvalidWidth", "NoBench", "NotExact", "NothingToUndo", "OutOfRange", "UnknownName", "ZeroResult"] "InvalidThresholds" (.ref C_InvalidThresholds)
  is_InvalidWidth : IsK K ["DifferentWidths", "InvalidChain", "InvalidExponent", "InvalidKind", "InvalidLine", "InvalidName", "InvalidNumber", "InvalidRange", "InvalidRule", "InvalidShift", "InvalidText", "InvalidThresholds", "InvalidWidth", "NoBench", "NotExact", "NothingToUndo", "OutOfRange", "UnknownName", "ZeroResult"] "InvalidWidth" (.ref C_InvalidWidth)
  is_NoBench : IsK K ["DifferentWidths", "InvalidChain", "InvalidExponent", "InvalidKind", "InvalidLine", "InvalidName", "InvalidNumber", "InvalidRange", "InvalidRule", "InvalidShift", "InvalidText", "InvalidThresholds", "InvalidWidth", "NoBench", "NotExact", "NothingToUndo", "OutOfRange", "UnknownName", "ZeroResult"] "NoBench" (.ref C_NoBench)
  is_NotExact : IsK K ["DifferentWidths", "InvalidChain", "InvalidExponent", "InvalidKind", "InvalidLine", "InvalidName", "InvalidNumber", "InvalidRange", "InvalidRule", "InvalidShift", "InvalidText", "InvalidThresholds", "InvalidWidth", "NoBench", "NotExact", "NothingToUndo", "OutOfRange", "UnknownName", "ZeroResult"] "NotExact" (.ref C_NotExact)
  is_NothingToUndo : IsK K ["DifferentWidths", "InvalidChain", "InvalidExponent", "InvalidKind", "InvalidLine", "InvalidName", "InvalidNumber", "InvalidRange", "InvalidRule", "InvalidShift", "InvalidText", "InvalidThresholds", "InvalidWidth", "NoBench", "NotExact", "NothingToUndo", "OutOfRange", "UnknownName", "ZeroResult"] "NothingToUndo" (.ref C_NothingToUndo)
  is_OutOfRange : IsK K ["DifferentWidths", "InvalidChain", "InvalidExponent", "InvalidKind", "InvalidLine", "InvalidName", "InvalidNumber", "InvalidRange", "InvalidRule", "InvalidShift", "InvalidText", "InvalidThresholds", "InvalidWidth", "NoBench", "NotExact", "NothingToUndo", "OutOfRange", "UnknownName", "ZeroResult"] "OutOfRange" (.ref C_OutOfRange)
  is_RoundingError : IsK K ["DifferentWidths", "InvalidChain", "InvalidExponent", "InvalidKind", "InvalidLine", "InvalidName", "InvalidNumber", "InvalidRange", "InvalidRule", "InvalidShift", "InvalidText", "InvalidThresholds", "InvalidWidth", "NoBench", "NotExact", "NothingToUndo", "OutOfRange", "UnknownName", "ZeroResult"] "RoundingError" (.ref C_RoundingError)
  is_UnknownName : IsK K ["DifferentWidths", "InvalidChain", "InvalidExponent", "InvalidKind", "InvalidLine", "InvalidName", "InvalidNumber", "InvalidRange", "InvalidRule", "InvalidShift", "InvalidText", "InvalidThresholds", "InvalidWidth", "NoBench", "NotExact", "NothingToUndo", "OutOfRange", "UnknownName", "ZeroResult"] "UnknownName" (.ref C_UnknownName)
  is_ValueError : IsK K ["DifferentWidths", "InvalidChain", "InvalidExponent", "InvalidKind", "InvalidLine", "InvalidName", "InvalidNumber", "InvalidRange", "InvalidRule", "InvalidShift", "InvalidText", "InvalidThresholds", "InvalidWidth", "NoBench", "NotExact", "NothingToUndo", "OutOfRange", "UnknownName", "ZeroResult"] "ValueError" (.type "ValueError")
  is_ZeroResult : IsK K ["DifferentWidths", "InvalidChain", "InvalidExponent", "InvalidKind", "InvalidLine", "InvalidName", "InvalidNumber", "InvalidRange", "InvalidRule", "InvalidShift", "InvalidText", "InvalidThresholds", "InvalidWidth", "NoBench", "NotExact", "NothingToUndo", "OutOfRange", "UnknownName", "ZeroResult"] "ZeroResult" (.ref C_ZeroResult)
  hv : ∀ nm ∈ (["InvalidChain", "InvalidExponent", "InvalidKind", "InvalidLine", "InvalidName", "InvalidNumber", "InvalidRange", "InvalidRule", "InvalidShift", "InvalidText", "InvalidThresholds", "InvalidWidth", "NotExact", "UnknownName"] : List Str), XvC K nm
  n_ValueError : mg "ValueError" = none
  n_abs : mg "abs" = none
  n_all : mg "all" = none
  n_enumerate : mg "enumerate" = none
  n_isinstance : mg "isinstance" = none
  n_len : mg "len" = none
  n_max : mg "max" = none
  n_min : mg "min" = none
  n_range : mg "range" = none
  n_repr : mg "repr" = none
section
variable {P : Program} {w : World} {K : Fg} {mg : Str → Option Value} {base : Heap}
theorem ok_NoBench_init (T : Tx w K mg) : Fn P w K mg base CX0 2 T.f_NoBench_init T.fd_NoBench_init ["self"] (spX0 K) := fn_xinit0 T.F_NoBench_init sc_NoBench_init T.bc T.g_RoundingError rfl rfl rfl (fun env => ⟨_, rfl⟩)
end
section
variable {P : Program} {w : World} {K : Fg} {mg : Str → Option Value} {base : Heap}
theorem ok_NothingToUndo_init (T : Tx w K mg) : Fn P w K mg base CX0 2 T.f_NothingToUndo_init T.fd_NothingToUndo_init ["self"] (spX0 K) := fn_xinit0 T.F_NothingToUndo_init sc_NothingToUndo_init T.bc T.g_RoundingError rfl rfl rfl (fun env => ⟨_, rfl⟩)
end
section
variable {P : Program} {w : World} {K : Fg} {mg : Str → Option Value} {base : Heap}
theorem ok_OutOfRange_init (T : Tx w K mg) : Fn P w K mg base CX0 2 T.f_OutOfRange_init T.fd_OutOfRange_init ["self"] (spX0 K) := fn_xinit0 T.F_OutOfRange_init sc_OutOfRange_init T.bc T.g_RoundingError rfl rfl rfl (fun env => ⟨_, rfl⟩)
end
section
variable {P : Program} {w : World} {K : Fg} {mg : Str → Option Value} {base : Heap}
theorem ok_ZeroResult_init (T : Tx w K mg) : Fn P w K mg base CX0 2 T.f_ZeroResult_init T.fd_ZeroResult_init ["self"] (spX0 K) := fn_xinit0 T.F_ZeroResult_init sc_ZeroResult_init T.bc T.g_RoundingError rfl rfl rfl (fun env => ⟨_, rfl⟩)
end
section
variable {P : Program} {w : World} {K : Fg} {mg : Str → Option Value} {base : Heap}
theorem ok_DifferentWidths_init (T : Tx w K mg) : Fn P w K mg base CX0 2 T.f_DifferentWidths_init T.fd_DifferentWidths_init ["self"] (spX0 K) := fn_xinit0 T.F_DifferentWidths_init sc_DifferentWidths_init T.bc T.g_RoundingError rfl rfl rfl (fun env => ⟨_, rfl⟩)
end
section
variable {P : Program} {w : World} {K : Fg} {mg : Str → Option Value} {base : Heap}
theorem ok_InvalidLine_init (T : Tx w K mg) : Fn P w K mg base CX0 2 T.f_InvalidLine_init T.fd_InvalidLine_init ["self", "value"] (spXi K) := fn_xinit T.F_InvalidLine_init sc_InvalidLine_init T.bc T.g_RoundingError (by decide) rfl rfl rfl rfl (fun env => ⟨_, rfl⟩)
end
section
variable {P : Program} {w : World} {K : Fg} {mg : Str → Option Value} {base : Heap}
theorem ok_InvalidText_init (T : Tx w K mg) : Fn P w K mg base CX0 2 T.f_InvalidText_init T.fd_InvalidText_init ["self", "value"] (spXi K) := fn_xinit T.F_InvalidText_init sc_InvalidText_init T.bc T.g_RoundingError (by decide) rfl rfl rfl rfl (fun env => ⟨_, rfl⟩)
end
section
variable {P : Program} {w : World} {K : Fg} {mg : Str → Option Value} {base : Heap}
theorem ok_NotExact_init (T : Tx w K mg) : Fn P w K mg base CX0 2 T.f_NotExact_init T.fd_NotExact_init ["self", "value"] (spXi K) := fn_xinit T.F_NotExact_init sc_NotExact_init T.bc T.g_RoundingError (by decide) rfl rfl rfl rfl (fun env => ⟨_, rfl⟩)
end
section
variable {P : Program} {w : World} {K : Fg} {mg : Str → Option Value} {base : Heap}
theorem ok_UnknownName_init (T : Tx w K mg) : Fn P w K mg base CX0 2 T.f_UnknownName_init T.fd_UnknownName_init ["self", "value"] (spXi K) := fn_xinit T.F_UnknownName_init sc_UnknownName_init T.bc T.g_RoundingError (by decide) rfl rfl rfl rfl (fun env => ⟨_, rfl⟩)
end
section
variable {P : Program} {w : World} {K : Fg} {mg : Str → Option Value} {base : Heap}
theorem ok_InvalidName_init (T : Tx w K mg) : Fn P w K mg base CX0 2 T.f_InvalidName_init T.fd_InvalidName_init ["self", "value"] (spXi K) := fn_xinit T.F_InvalidName_init sc_InvalidName_init T.bc T.g_RoundingError (by decide) rfl rfl rfl rfl (fun env => ⟨_, rfl⟩)
end
section
variable {P : Program} {w : World} {K : Fg} {mg : Str → Option Value} {base : Heap}
theorem ok_InvalidKind_init (T : Tx w K mg) : Fn P w K mg base CX0 2 T.f_InvalidKind_init T.fd_InvalidKind_init ["self", "value"] (spXi K) := fn_xinit T.F_InvalidKind_init sc_InvalidKind_init T.bc T.g_RoundingError (by decide) rfl rfl rfl rfl (fun env => ⟨_, rfl⟩)
end
section
variable {P : Program} {w : World} {K : Fg} {mg : Str → Option Value} {base : Heap}
theorem ok_InvalidShift_init (T : Tx w K mg) : Fn P w K mg base CX0 2 T.f_InvalidShift_init T.fd_InvalidShift_init ["self", "value"] (spXi K) := fn_xinit T.F_InvalidShift_init sc_InvalidShift_init T.bc T.g_RoundingError (by decide) rfl rfl rfl rfl (fun env => ⟨_, rfl⟩)
end
section
variable {P : Program} {w : World} {K : Fg} {mg : Str → Option Value} {base : Heap}
theorem ok_InvalidExponent_init (T : Tx w K mg) : Fn P w K mg base CX0 2 T.f_InvalidExponent_init T.fd_InvalidExponent_init ["self", "value"] (spXi K) := fn_xinit T.F_InvalidExponent_init sc_InvalidExponent_init T.bc T.g_RoundingError (by decide) rfl rfl rfl rfl (fun env => ⟨_, rfl⟩)
end
section
variable {P : Program} {w : World} {K : Fg} {mg : Str → Option Value} {base : Heap}
theorem ok_InvalidRange_init (T : Tx w K mg) : Fn P w K mg base CX0 2 T.f_InvalidRange_init T.fd_InvalidRange_init ["self", "value"] (spXi K) := fn_xinit T.F_InvalidRange_init sc_InvalidRange_init T.bc T.g_RoundingError (by decide) rfl rfl rfl rfl (fun env => ⟨_, rfl⟩)
end
section
variable {P : Program} {w : World} {K : Fg} {mg : Str → Option Value} {base : Heap}
theorem ok_InvalidThresholds_init (T : Tx w K mg) : Fn P w K mg base CX0 2 T.f_InvalidThresholds_init T.fd_InvalidThresholds_init ["self", "value"] (spXi K) := fn_xinit T.F_InvalidThresholds_init sc_InvalidThresholds_init T.bc T.g_RoundingError (by decide) rfl rfl rfl rfl (fun env => ⟨_, rfl⟩)
end
section
variable {P : Program} {w : World} {K : Fg} {mg : Str → Option Value} {base : Heap}
theorem ok_InvalidChain_init (T : Tx w K mg) : Fn P w K mg base CX0 2 T.f_InvalidChain_init T.fd_InvalidChain_init ["self", "value"] (spXi K) := fn_xinit T.F_InvalidChain_init sc_InvalidChain_init T.bc T.g_RoundingError (by decide) rfl rfl rfl rfl (fun env => ⟨_, rfl⟩)
end
section
variable {P : Program} {w : World} {K : Fg} {mg : Str → Option Value} {base : Heap}
theorem ok_InvalidRule_init (T : Tx w K mg) : Fn P w K mg base CX0 2 T.f_InvalidRule_init T.fd_InvalidRule_init ["self", "value"] (spXi K) := fn_xinit T.F_InvalidRule_init sc_InvalidRule_init T.bc T.g_RoundingError (by decide) rfl rfl rfl rfl (fun env => ⟨_, rfl⟩)
end
section
variable {P : Program} {w : World} {K : Fg} {mg : Str → Option Value} {base : Heap}
theorem ok_InvalidWidth_init (T : Tx w K mg) : Fn P w K mg base CX0 2 T.f_InvalidWidth_init T.fd_InvalidWidth_init ["self", "value"] (spXi K) := fn_xinit T.F_InvalidWidth_init sc_InvalidWidth_init T.bc T.g_RoundingError (by decide) rfl rfl rfl rfl (fun env => ⟨_, rfl⟩)
end
section
variable {P : Program} {w : World} {K : Fg} {mg : Str → Option Value} {base : Heap}
theorem ok_InvalidNumber_init (T : Tx w K mg) : Fn P w K mg base CX0 2 T.f_InvalidNumber_init T.fd_InvalidNumber_init ["self", "value"] (spXi K) := fn_xinit T.F_InvalidNumber_init sc_InvalidNumber_init T.bc T.g_RoundingError (by decide) rfl rfl rfl rfl (fun env => ⟨_, rfl⟩)
end
def b__law_source : DS :=
  (dSeq (dAsg (dIf (dTest (dBin oLt (dVar 1) (dCB cLen (dCons (dVar 0) dNil)))) (dIx (dVar 0) (dVar 1)) (dC (.int 0))) (dN 2))
  (dSeq (dAsg (dIf (dTest (dBin oGe (dCB oAbs (dCons (dVar 2) dNil)) (dBin oPow (dC (.int 10)) (dC (.int 18))))) (dBin oMod (dCB oAbs (dCons (dVar 2) dNil)) (dBin oPow (dBin oPow (dC (.int 10)) (dC (.int 60))) (dC (.int 4)))) (dC (.int 0))) (dN 3))
  (dRetL (dLst (dCons (dVar 3) (dCons (dBin oMod (dBin fAdd (dBin fAdd (dBin oMul (dBin oMod (dVar 2) (dC (.int 2305843009213693951))) (dC (.int 1000003))) (dBin oMul (dBin oMul (dC (.int 7919)) (dVar 1)) (dVar 1))) (dC (.int 97))) (dC (.int 2305843009213693921))) (dCons (dC (.int 0)) dNil)))))))
def fs__law_source : FSp := fun rs fu post => ∃ (ns : List Int) (k : Int), rs = [.scr ns, .val (.int k)] ∧ 0 ≤ k ∧ k < 1000000 ∧ ∀ x y : Int, 0 ≤ x → x < 2 ^ 1000 → 0 ≤ y → y < modS → post (.own [.int x, .int y, .int 0]) fu
theorem atI_nn {ns : List Int} {k : Int} (h0 : 0 ≤ k) (h : k < ns.length) : ∃ z, atI ns k = some z := by
  unfold atI ixN
  rw [if_pos h0, if_pos h]
  exact ⟨_, List.getElem?_eq_getElem (show k.toNat < ns.length by omega)⟩
theorem pw1 : CPowX 10 18 := ⟨by decide, by decide +kernel⟩
theorem pw2 : CPowX 10 60 := ⟨by decide, by decide +kernel⟩
theorem pw3 : CPowX (10 ^ Int.toNat 60) 4 := ⟨by decide, by decide +kernel⟩
theorem pw4 : (0 : Int) < (10 ^ Int.toNat 60) ^ Int.toNat 4 := by decide +kernel
theorem pw5 : ((10 : Int) ^ Int.toNat 60) ^ Int.toNat 4 ≤ 2 ^ 1000 := by decide +kernel
theorem src_fin {fu : Option Nat} {post : Rr → Option Nat → Prop} {z k : Int} (h1 : 0 ≤ k) (h2 : k < 1000000) (h : ∀ x y : Int, 0 ≤ x → x < 2 ^ 1000 → 0 ≤ y → y < modS → post (.own [.int x, .int y, .int 0]) fu) :
    CMulX (z % 2305843009213693951) 1000003 ∧ CMulX 7919 k ∧ CMulX (7919 * k) k ∧ ∀ x : Int, 0 ≤ x → x < 2 ^ 1000 → post (.own [.int x, .int ((z % 2305843009213693951 * 1000003 + 7919 * k * k + 97) % 2305843009213693921), .int 0]) fu := by
  have a1 := Int.emod_nonneg z (show (2305843009213693951 : Int) ≠ 0 by decide)
  have a2 := Int.emod_lt_of_pos z (show (0 : Int) < 2305843009213693951 by decide)
  refine ⟨mulX 64 64 (Bn.small (by omega) (by omega) (by decide)) (Bn.small (by decide) (by decide) (by decide)) (by decide), mulX 64 64 (Bn.small (by decide) (by decide) (by decide)) (Bn.small (by omega) (by omega) (by decide)) (by decide),
    mulX 64 64 (Bn.small (by omega) (by omega) (by decide)) (Bn.small (by omega) (by omega) (by decide)) (by decide), fun x x0 x1 => h x _ x0 x1 (Int.emod_nonneg _ (by decide)) (Int.emod_lt_of_pos _ (by decide))⟩
/-- the body behind its first statement -/
def srcT : DS := (dSeq (dAsg (dIf (dTest (dBin oGe (dCB oAbs (dCons (dVar 2) dNil)) (dBin oPow (dC (.int 10)) (dC (.int 18))))) (dBin oMod (dCB oAbs (dCons (dVar 2) dNil)) (dBin oPow (dBin oPow (dC (.int 10)) (dC (.int 60))) (dC (.int 4)))) (dC (.int 0))) (dN 3))
  (dRetL (dLst (dCons (dVar 3) (dCons (dBin oMod (dBin fAdd (dBin fAdd (dBin oMul (dBin oMod (dVar 2) (dC (.int 2305843009213693951))) (dC (.int 1000003))) (dBin oMul (dBin oMul (dC (.int 7919)) (dVar 1)) (dVar 1))) (dC (.int 97))) (dC (.int 2305843009213693921))) (dCons (dC (.int 0)) dNil))))))
def srcB : DS := (dSeq (dAsg (dIf (dTest (dBin oLt (dVar 1) (dCB cLen (dCons (dVar 0) dNil)))) (dIx (dVar 0) (dVar 1)) (dC (.int 0))) (dN 2)) srcT)
theorem p_srcT (z : Int) (fu : Option Nat) (post : Rr → Option Nat → Prop) {ns : List Int} {k : Int} (h1 : 0 ≤ k) (h2 : k < 1000000) (h : ∀ x y : Int, 0 ≤ x → x < 2 ^ 1000 → 0 ≤ y → y < modS → post (.own [.int x, .int y, .int 0]) fu) : srcT ⟨fun g => post (.val .none) g.fu, fun r g => post r g.fu, fun _ => False, fun _ => False⟩ ⟨[some (.scr ns), some (.val (.int k)), some (.val (.int z)), none], fu, fu.isNone⟩ := by
  have m0 : ∀ a : Int, 0 ≤ a % (10 ^ Int.toNat 60) ^ Int.toNat 4 ∧ a % (10 ^ Int.toNat 60) ^ Int.toNat 4 < 2 ^ 1000 := fun a => ⟨Int.emod_nonneg _ (Int.ne_of_gt pw4), Int.lt_of_lt_of_le (Int.emod_lt_of_pos _ pw4) pw5⟩
  have p0 : (0 : Int) < 2 ^ 1000 := pow2_pos _
  simp only [↓dSeq,↓dAsg,↓dNext,↓dIfS,↓dRet,↓dRetL,↓dVar,↓dC,↓dBin,↓fI,↓fI0,↓fAdd,↓fEq,↓fNe,↓dTest,↓dOrT,↓dNotT,↓dIf,↓dNeg,↓dNil,↓dCons,↓dTup,↓dLst,↓dFz,↓valsD,↓dIx,↓dCall,↓dCallL,↓hasSrc,↓rrv,↓dN,↓dT,↓dTn,↓dTc,↓rsv,↓Gs.set,↓dFor,↓dItems,↓dRange1,↓dLc,↓dCB,↓cLen,↓cAll,↓cInt1,↓cInt2,↓dCallS,↓oMul,↓oMod,↓oPow,↓oLt,↓oGe,↓oAbs,↓oMax,↓oMin,↓fMulL,↓dD0,↓dD1,↓dEnum,↓cReprX,↓dXval,↓gAs,↓Gs.unset,↓rtN,↓lamF,↓gLam,↓plainO,↓dIsiX,↓Z.isNon,↓dAsX,↓dMkX,↓dMk0,srcT,ent,svOf,List.map_cons,List.map_nil,List.cons_append,List.nil_append,List.append_nil,List.replicate,List.length_cons,List.length_nil,List.getElem?_cons_zero,List.getElem?_cons_succ,List.getElem?_nil,List.set_cons_zero,List.set_cons_succ,Option.map_some,Option.map_none,Option.isNone_some,Option.isNone_none,forall_const,true_implies,false_implies,and_true,true_and,Bool.true_eq_false,Bool.false_eq_true,reduceCtorEq,noOwn,wipeS,hide,fuN_self,lcD,dYes,Nat.zero_add,Nat.reduceAdd,Nat.reduceLeDiff,Nat.reduceSub,atI_0,atI_1,atI_2,atI_3,atI_4,atI_5,Int.one_mul,eqv_ii,eqv_ss,eqv_num,shaped_int,shaped_num,shaped_none,shaped_ru,flat_str,flat_int,flat_none,List.all_cons,List.all_nil,Bool.and_true,decide_eq_true_eq,decide_eq_false_iff_not,Bool.not_eq_true',Bool.not_eq_false',Decidable.not_not,↓reduceIte,Bool.false_eq_true,Int.reduceLT,eqv_strs,pick_0,pick_01,pick_10,pick_012,pick_021,pick_102,pick_120,pick_201,pick_210]
  obtain ⟨f1, f2, f3, f4⟩ := src_fin (z := z) h1 h2 h
  exact ⟨pw1, fun _ => ⟨pw2, pw3, pw4, f1, f2, f3, f4 _ (m0 _).1 (m0 _).2⟩, fun _ => ⟨f1, f2, f3, f4 0 (Int.le_refl 0) p0⟩⟩
theorem p_srcB (fu : Option Nat) (post : Rr → Option Nat → Prop) {ns : List Int} {k : Int} (h1 : 0 ≤ k) (h2 : k < 1000000) (h : ∀ x y : Int, 0 ≤ x → x < 2 ^ 1000 → 0 ≤ y → y < modS → post (.own [.int x, .int y, .int 0]) fu) : srcB ⟨fun g => post (.val .none) g.fu, fun r g => post r g.fu, fun _ => False, fun _ => False⟩ (ent N__law_source [.scr ns, .val (.int k)] fu) := by
  simp only [↓dSeq,↓dAsg,↓dNext,↓dIfS,↓dRet,↓dRetL,↓dVar,↓dC,↓dBin,↓fI,↓fI0,↓fAdd,↓fEq,↓fNe,↓dTest,↓dOrT,↓dNotT,↓dIf,↓dNeg,↓dNil,↓dCons,↓dTup,↓dLst,↓dFz,↓valsD,↓dIx,↓dCall,↓dCallL,↓hasSrc,↓rrv,↓dN,↓dT,↓dTn,↓dTc,↓rsv,↓Gs.set,↓dFor,↓dItems,↓dRange1,↓dLc,↓dCB,↓cLen,↓cAll,↓cInt1,↓cInt2,↓dCallS,↓oMul,↓oMod,↓oPow,↓oLt,↓oGe,↓oAbs,↓oMax,↓oMin,↓fMulL,↓dD0,↓dD1,↓dEnum,↓cReprX,↓dXval,↓gAs,↓Gs.unset,↓rtN,↓lamF,↓gLam,↓plainO,↓dIsiX,↓Z.isNon,↓dAsX,↓dMkX,↓dMk0,srcB,ent,svOf,List.map_cons,List.map_nil,List.cons_append,List.nil_append,List.append_nil,List.replicate,List.length_cons,List.length_nil,List.getElem?_cons_zero,List.getElem?_cons_succ,List.getElem?_nil,List.set_cons_zero,List.set_cons_succ,Option.map_some,Option.map_none,Option.isNone_some,Option.isNone_none,forall_const,true_implies,false_implies,and_true,true_and,Bool.true_eq_false,Bool.false_eq_true,reduceCtorEq,noOwn,wipeS,hide,fuN_self,lcD,dYes,Nat.zero_add,Nat.reduceAdd,Nat.reduceLeDiff,Nat.reduceSub,atI_0,atI_1,atI_2,atI_3,atI_4,atI_5,Int.one_mul,eqv_ii,eqv_ss,eqv_num,shaped_int,shaped_num,shaped_none,shaped_ru,flat_str,flat_int,flat_none,List.all_cons,List.all_nil,Bool.and_true,decide_eq_true_eq,decide_eq_false_iff_not,Bool.not_eq_true',Bool.not_eq_false',Decidable.not_not,↓reduceIte,Bool.false_eq_true,Int.reduceLT,eqv_strs,pick_0,pick_01,pick_10,pick_012,pick_021,pick_102,pick_120,pick_201,pick_210]
  refine ⟨fun hk => ?_, fun hk => p_srcT 0 fu post h1 h2 h⟩
  obtain ⟨z, ez⟩ := atI_nn h1 hk
  rw [ez]
  exact p_srcT z fu post h1 h2 h
theorem p__law_source (rs : List Rv) (fu : Option Nat) (post : Rr → Option Nat → Prop) (hl : rs.length = 2) (h : fs__law_source rs fu post) : b__law_source ⟨fun g => post (.val .none) g.fu, fun r g => post r g.fu, fun _ => False, fun _ => False⟩ (ent N__law_source rs fu) := by
  obtain ⟨ns, k, rfl, h1, h2, h⟩ := h
  exact p_srcB fu post h1 h2 h
section
variable {P : Program} {w : World} {K : Fg} {mg : Str → Option Value} {base : Heap}
theorem d__law_source (T : Tx w K mg) {cdv : Value} {A : Around} {outer : List Env} {s : Shared} {H : Hp} {E : XK} (hr : Room 0 (A.deeper (envOfC "_law_source" (defScope st__law_source) s.heap.objs.size T.f__law_source cdv))) (hgd : (A.deeper (envOfC "_law_source" (defScope st__law_source) s.heap.objs.size T.f__law_source cdv)).guards = some []) :
    PSs (cxOf CX0 P w K mg base N__law_source "_law_source" (defScope st__law_source) T.f__law_source cdv A outer s H E).nox (defBody st__law_source) (upS K W0 b__law_source) :=
  (ss_cons (s_set (i := 2) sc__law_source.nd rfl (.inl rfl) (e_if (t_lt (e_var 1 (pv 1)) (e_len (by rfl) T.n_len (a_cons (e_var 0 (pv 0)) a_nil))) (e_ix (e_var 0 (pv 0)) (e_var 1 (pv 1))) e_int))
    (ss_cons (s_set (i := 3) sc__law_source.nd rfl (.inl rfl) (e_if (t_ge (e_abs (by rfl) T.n_abs (a_cons (e_var 2 (pv 2)) a_nil)) (e_pow e_int e_int)) (e_mod (e_abs (by rfl) T.n_abs (a_cons (e_var 2 (pv 2)) a_nil)) (e_pow (e_pow e_int e_int) e_int)) e_int))
    (ss_one (s_retL (e_lstL (a_cons (e_var 3 (pv 3)) (a_cons (e_mod (e_add (e_add (e_mul (e_mod (e_var 2 (pv 2)) e_int) e_int) (e_mul (e_mul e_int (e_var 1 (pv 1))) (e_var 1 (pv 1)))) e_int) e_int) (a_cons e_int a_nil))))))))
theorem ok__law_source (T : Tx w K mg) : Fn P w K mg base CX0 1 T.f__law_source T.fd__law_source ["_law_script", "_law_k"] (lift K 2 fs__law_source) := fn_data T.F__law_source sc__law_source b__law_source (fun _ _ _ _ _ _ hr hgd => d__law_source T hr hgd) p__law_source
end
/-- a draw: some int below the size, one draw less left -/
def fs__law_draw : FSp := fun rs fu post => ∃ (n : Int) (m : Nat), rs = [.src, .val (.int n)] ∧ fu = some (m + 1) ∧ 0 < n ∧ Bn 9000 n ∧ ∀ i : Int, 0 ≤ i → i < n → post (.val (.int i)) (some m)
theorem at3_0 {x y z : V} : atI [x, y, z] 0 = some x := atI_0
theorem at3_1 {x y z : V} : atI [x, y, z] 1 = some y := atI_1
theorem at3_2 {x y z : V} : atI [x, y, z] 2 = some z := atI_2
section
variable {P : Program} {w : World} {K : Fg} {mg : Str → Option Value} {base : Heap}
/-- behind the draw: all but the source is as it was -/
theorem draw_out {F H : Hp} {a : Addr} {m : Nat} {x y z i : Int} {o : List V} (tk : TabK K F H) (e : Ex F H) (hF : F a = none) (hH : H a = some (.lst o)) (hx : 0 ≤ x ∧ x < 2 ^ 1000 ∧ 0 ≤ y ∧ y < modS ∧ 0 ≤ z ∧ z + m ≤ 2 ^ 40) :
    Out K F H a (some (m + 1)) (some m) F (upd H a (.lst [.int x, .int y, .int z])) (.int i) (.val (.int i)) := by
  refine ⟨Ex.refl F, fun b u q => ?_, fun b u hb _ q => ?_, fun b q => .inl q, fun _ => ⟨m, rfl, hF, x, y, z, upd_same, hx⟩, Rp.int i, .but hH (fun _ z => by cases z) fun b u nb q => by rw [upd_ne nb]; exact q, tk.but hH (fun _ z => by cases z) fun b u nb q => by rw [upd_ne nb]; exact q⟩
  · rw [upd_ne (fun h => by rw [h, hF] at q; cases q)]; exact e b u q
  · rw [upd_ne (hb (fun h => nomatch h))]; exact q
theorem ok__law_draw (T : Tx w K mg) : Fn P w K mg base CX0 1 T.f__law_draw T.fd__law_draw ["_law_source_here", "_law_size"] (lift K 2 fs__law_draw) := by
  refine fn_by T.F__law_draw sc__law_draw lift_len fun cdv A outer s H vs Q E hr hg h => ?_
  obtain ⟨F, a, rs, fu, post, e, tm, hlen, hsrc, tk, ⟨n, m, rfl, rfl, n0, nB, hp⟩, hq⟩ := h
  obtain ⟨hF, x, y, z, hH, x0, x1, y0, y1, z0, z1⟩ := hsrc (m + 1) rfl
  have hv : vs = [.ref a, .int n] := by
    cases tm with
    | cons h1 t =>
      cases t.i1
      rw [h1.1]
  subst hv
  have zB : z < 2 ^ 40 := by omega
  have e40 : (2 : Int) ^ 40 = 1099511627776 := by decide
  rw [e40] at zB z1
  refine ⟨_, PSs.nox (pss_cons (ps_if (pt_cmpR op_gt (pe_ix ix_list (pv 0) pe_int (fun _ _ => rfl)) pe_int (nomark _))
      (pss_cons (ps_set (i := 2) sc__law_draw.nd rfl (.inl rfl) (pe_op op_mod (pe_ix ix_list (pv 0) pe_int (fun _ _ => rfl)) (pv 1)))
      (pss_cons (ps_asg (pe_op op_fdivW (pe_ix ix_list (pv 0) pe_int (fun _ _ => rfl)) (pv 1)) (pg_sub (pv 0) pe_int set_list))
      (pss_one (ps_ret (pv 2))))) pss_nil)
    (pss_cons (ps_asg (pe_op op_add (pe_ix ix_list (pv 0) pe_int (fun _ _ => rfl)) pe_int) (pg_sub (pv 0) pe_int set_list))
    (pss_cons (ps_set (i := 3) sc__law_draw.nd rfl (.inl rfl) (pe_ix ix_list (pv 0) pe_int (fun _ _ => rfl)))
    (pss_cons (ps_set (i := 4) sc__law_draw.nd rfl (.inl rfl) (pe_op op_mod (pe_op op_mulX (pe_op op_add (pe_op op_add (pe_ix ix_list (pv 0) pe_int (fun _ _ => rfl)) (pe_op op_mulX (pe_op op_mulX pe_int (pv 3)) (pv 3))) pe_int) pe_int) pe_int))
    (pss_cons (ps_set (i := 4) sc__law_draw.nd rfl (.inl rfl) (pe_op op_mod (pe_op op_mulX (pv 4) (pe_op op_add (pe_op op_mod (pv 4) pe_int) (pe_op op_mulX pe_int (pv 3)))) pe_int))
    (pss_one (ps_ret (pe_op op_mod (pe_op op_add (pe_op op_fdivW (pv 4) pe_int) (pe_op op_fdivW (pv 4) pe_int)) (pv 1))))))))), ?_⟩
  have sq : SqL K H a [.int x, .int y, .int z] := .inl (.inl hH)
  refine ⟨.ref a, rfl, a, _, 0, _, rfl, rfl, sq, at3_0, x, 0, rfl, rfl, _, rfl, ite2 (fun c => ?_) (fun c => ?_)⟩
  · have c' : 0 < x := of_decide_eq_true c
    refine ⟨.ref a, rfl, a, _, 0, _, rfl, rfl, sq, at3_0, .int n, rfl, x, n, rfl, rfl, n0, ?_⟩
    refine ⟨.ref a, rfl, a, _, 0, _, rfl, rfl, sq, at3_0, .int n, rfl, x, n, rfl, rfl, divX 9000 n0 nB (Nat.le_refl _), ?_⟩
    refine ⟨.ref a, rfl, a, _, 0, 0, rfl, rfl, hH, rfl, .int (x % n), rfl, ?_⟩
    refine hq _ _ _ _ F (hp (x % n) (Int.emod_nonneg _ (by omega)) (Int.emod_lt_of_pos _ n0)) (draw_out (x := x / n) (y := y) (z := z) tk e hF hH ⟨Int.ediv_nonneg x0 (by omega), ?_, y0, y1, z0, by omega⟩)
    exact Int.lt_of_le_of_lt (Int.ediv_le_self _ x0) x1
  · have hH2 : (upd H a (.lst [.int x, .int y, .int (z + 1)])) a = some (.lst [.int x, .int y, .int (z + 1)]) := upd_same
    have sq2 : SqL K (upd H a (.lst [.int x, .int y, .int (z + 1)])) a [.int x, .int y, .int (z + 1)] := .inl (.inl hH2)
    refine ⟨.ref a, rfl, a, _, 2, _, rfl, rfl, sq, at3_2, z, 1, rfl, rfl, .ref a, rfl, a, _, 2, 2, rfl, rfl, hH, rfl, ?_⟩
    refine ⟨.ref a, rfl, a, _, 2, _, rfl, rfl, sq2, at3_2, ?_⟩
    have y2 : y < 2305843009213693921 := y1
    have zz1 : Bn 64 (z + 1) := Bn.small (by omega) (by omega) (by decide)
    have m1 : Bn 128 (65537 * (z + 1)) := (Bn.small (m := 64) (i := 65537) (by decide) (by decide) (by decide)).mul zz1
    have m2 : Bn 192 (65537 * (z + 1) * (z + 1)) := m1.mul zz1
    have m3 : Bn 194 (y + 65537 * (z + 1) * (z + 1) + 11) := ((Bn.small (m := 192) (i := y) (by omega) (by omega) (by decide)).add m2).add (Bn.small (by decide) (by decide) (by decide))
    refine ⟨.ref a, rfl, a, _, 1, _, rfl, rfl, sq2, at3_1, .int (z + 1), rfl, 65537, z + 1, rfl, rfl, mulX 64 64 (Bn.small (by decide) (by decide) (by decide)) zz1 (by decide), .int (z + 1), rfl, _, _, rfl, rfl, mulX 128 64 m1 zz1 (by decide), _, _, rfl, rfl, _, _, rfl, rfl, _, _, rfl, rfl, mulX 194 64 m3 (Bn.small (by decide) (by decide) (by decide)) (by decide), _, _, rfl, rfl, (show (0 : Int) < 2305843009213693921 by decide), ?_⟩
    dsimp only
    generalize hmx : (y + 65537 * (z + 1) * (z + 1) + 11) * 48271 % 2305843009213693921 = mx
    have mx0 : 0 ≤ mx := by rw [← hmx]; exact Int.emod_nonneg _ (by decide)
    have mx1 : mx < 2305843009213693921 := by rw [← hmx]; exact Int.emod_lt_of_pos _ (by decide)
    have r0 := Int.emod_nonneg mx (show (1000003 : Int) ≠ 0 by decide)
    have r1 := Int.emod_lt_of_pos mx (show (0 : Int) < 1000003 by decide)
    have m4 : Bn 128 (99991 * (z + 1)) := (Bn.small (m := 64) (i := 99991) (by decide) (by decide) (by decide)).mul zz1
    have m5 : Bn 129 (mx % 1000003 + 99991 * (z + 1)) := (Bn.small (m := 128) (by omega) (by omega) (by decide)).add m4
    refine ⟨.int mx, rfl, .int mx, rfl, mx, 1000003, rfl, rfl, (show (0 : Int) < 1000003 by decide), .int (z + 1), rfl, 99991, z + 1, rfl, rfl, mulX 64 64 (Bn.small (by decide) (by decide) (by decide)) zz1 (by decide), _, _, rfl, rfl, _, _, rfl, rfl, mulX 64 129 (Bn.small (by omega) (by omega) (by decide)) m5 (by decide), _, _, rfl, rfl, (show (0 : Int) < 2305843009213693907 by decide), ?_⟩
    dsimp only
    generalize mx * (mx % 1000003 + 99991 * (z + 1)) % 2305843009213693907 = my
    refine ⟨.int my, rfl, my, 97, rfl, rfl, divX 64 (by decide) (Bn.small (by decide) (by decide) (by decide)) (by decide), .int my, rfl, my, 1000033, rfl, rfl, divX 64 (by decide) (Bn.small (by decide) (by decide) (by decide)) (by decide), _, _, rfl, rfl, .int n, rfl, _, n, rfl, rfl, n0, ?_⟩
    exact hq _ _ _ _ F (hp _ (Int.emod_nonneg _ (by omega)) (Int.emod_lt_of_pos _ n0)) (draw_out (x := x) (y := y) (z := z + 1) tk e hF hH ⟨x0, x1, y0, y1, by omega, by omega⟩)
end
def b__law_pick : DS :=
  (dRet (dIx (dVar 1) (dCall 2 fs__law_draw (dCons (dVar 0) (dCons (dCB cLen (dCons (dVar 1) dNil)) dNil)))))
theorem atI_mem {α : Type} {xs : List α} {k : Int} (h0 : 0 ≤ k) (h : k < xs.length) : ∃ z ∈ xs, atI xs k = some z := by
  unfold atI ixN
  rw [if_pos h0, if_pos h]
  have hk : k.toNat < xs.length := by omega
  exact ⟨xs[k.toNat], List.getElem_mem hk, List.getElem?_eq_getElem hk⟩
def fs__law_pick : FSp := fun rs fu post => ∃ (xs : List Da) (m : Nat), rs = [.src, .val (.list xs)] ∧ fu = some (m + 1) ∧ 0 < xs.length ∧ xs.length < 1000000 ∧ ∀ v ∈ xs, post (.val v) (some m)
theorem p__law_pick (rs : List Rv) (fu : Option Nat) (post : Rr → Option Nat → Prop) (hl : rs.length = 2) (h : fs__law_pick rs fu post) : b__law_pick ⟨fun g => post (.val .none) g.fu, fun r g => post r g.fu, fun _ => False, fun _ => False⟩ (ent N__law_pick rs fu) := by
  obtain ⟨xs, m, rfl, rfl, h0, h1, h⟩ := h
  simp only [↓dSeq,↓dAsg,↓dNext,↓dIfS,↓dRet,↓dRetL,↓dVar,↓dC,↓dBin,↓fI,↓fI0,↓fAdd,↓fEq,↓fNe,↓dTest,↓dOrT,↓dNotT,↓dIf,↓dNeg,↓dNil,↓dCons,↓dTup,↓dLst,↓dFz,↓valsD,↓dIx,↓dCall,↓dCallL,↓hasSrc,↓rrv,↓dN,↓dT,↓dTn,↓dTc,↓rsv,↓Gs.set,↓dFor,↓dItems,↓dRange1,↓dLc,↓dCB,↓cLen,↓cAll,↓cInt1,↓cInt2,↓dCallS,↓oMul,↓oMod,↓oPow,↓oLt,↓oGe,↓oAbs,↓oMax,↓oMin,↓fMulL,↓dD0,↓dD1,↓dEnum,↓cReprX,↓dXval,↓gAs,↓Gs.unset,↓rtN,↓lamF,↓gLam,↓plainO,↓dIsiX,↓Z.isNon,↓dAsX,↓dMkX,↓dMk0,b__law_pick,fs__law_draw,ent,svOf,List.map_cons,List.map_nil,List.cons_append,List.nil_append,List.append_nil,List.replicate,List.length_cons,List.length_nil,List.getElem?_cons_zero,List.getElem?_cons_succ,List.getElem?_nil,List.set_cons_zero,List.set_cons_succ,Option.map_some,Option.map_none,Option.isNone_some,Option.isNone_none,forall_const,true_implies,false_implies,and_true,true_and,Bool.true_eq_false,Bool.false_eq_true,reduceCtorEq,noOwn,wipeS,hide,fuN_self,lcD,dYes,Nat.zero_add,Nat.reduceAdd,Nat.reduceLeDiff,Nat.reduceSub,atI_0,atI_1,atI_2,atI_3,atI_4,atI_5,Int.one_mul,eqv_ii,eqv_ss,eqv_num,shaped_int,shaped_num,shaped_none,shaped_ru,flat_str,flat_int,flat_none,List.all_cons,List.all_nil,Bool.and_true,decide_eq_true_eq,decide_eq_false_iff_not,Bool.not_eq_true',Bool.not_eq_false',Decidable.not_not,↓reduceIte,Bool.false_eq_true,Int.reduceLT,eqv_strs,pick_0,pick_01,pick_10,pick_012,pick_021,pick_102,pick_120,pick_201,pick_210]
  refine ⟨_, m, rfl, rfl, by omega, Bn.small (by omega) (by omega) (by decide), fun i i0 i1 => ?_⟩
  obtain ⟨z, hz, ez⟩ := atI_mem (xs := xs) i0 i1
  rw [ez]
  exact h z hz
section
variable {P : Program} {w : World} {K : Fg} {mg : Str → Option Value} {base : Heap}
theorem d__law_pick (T : Tx w K mg) {cdv : Value} {A : Around} {outer : List Env} {s : Shared} {H : Hp} {E : XK} (hr : Room 1 (A.deeper (envOfC "_law_pick" (defScope st__law_pick) s.heap.objs.size T.f__law_pick cdv))) (hgd : (A.deeper (envOfC "_law_pick" (defScope st__law_pick) s.heap.objs.size T.f__law_pick cdv)).guards = some []) :
    PSs (cxOf CX0 P w K mg base N__law_pick "_law_pick" (defScope st__law_pick) T.f__law_pick cdv A outer s H E).nox (defBody st__law_pick) (upS K W0 b__law_pick) :=
  (ss_one (s_ret (e_ix (e_var 1 (pv 1)) (e_call (ok__law_draw T) (hr.mono (by decide)) hgd (by rfl) T.g__law_draw T.F__law_draw.kp T.b__law_draw pass0 (a_cons (e_var 0 (pv 0)) (a_cons (e_len (by rfl) T.n_len (a_cons (e_var 1 (pv 1)) a_nil)) a_nil))))))
theorem ok__law_pick (T : Tx w K mg) : Fn P w K mg base CX0 2 T.f__law_pick T.fd__law_pick ["_law_source_here", "_law_some"] (lift K 2 fs__law_pick) := fn_data T.F__law_pick sc__law_pick b__law_pick (fun _ _ _ _ _ _ hr hgd => d__law_pick T hr hgd) p__law_pick
end
def b__law_odd : DS :=
  (dSeq (dAsg (dFz (dLst (dCons (dC .none) (dCons (dC (.bool true)) (dCons (dC (.bool false)) (dCons (dC (.int 0)) (dCons (dNeg (dC (.int 1))) (dCons (dC (.int 1)) (dCons (dC (.int 7)) (dCons (dC (.int 101)) (dCons (dBin oPow (dC (.int 10)) (dC (.int 30))) (dCons (dC (.str "")) (dCons (dC (.str "a")) (dCons (dC (.str "up")) (dCons (dC (.str "4 up")) (dCons (dTup dNil) (dCons (dFz (dLst dNil)) (dCons dD0 (dCons (dTup (dCons (dC (.int 1)) dNil)) (dCons (dTup (dCons (dC (.int 1)) (dCons (dC (.int 1)) dNil))) (dCons (dFz (dLst (dCons (dC (.int 1)) (dCons (dC (.int 2)) dNil)))) dNil))))))))))))))))))))) (dN 1))
  (dSeq (dAsg (dCall 2 fs__law_pick (dCons (dVar 0) (dCons (dBin fAdd (dVar 1) (dFz (dLst (dCons (dTup (dCons (dC (.int 2)) (dCons (dC (.int 4)) dNil))) (dCons (dTup (dCons (dC (.int 0)) (dCons (dC (.int 1)) dNil))) (dCons (dTup (dCons (dC (.int 1)) (dCons (dC (.int 0)) dNil))) (dCons (dTup (dCons (dNeg (dC (.int 1))) (dCons (dC (.int 2)) dNil))) (dCons (dTup (dCons (dC (.bool true)) (dCons (dC (.int 2)) dNil))) (dCons (dTup (dCons (dC (.int 4)) (dCons (dC (.str "up")) dNil))) (dCons (dTup (dCons (dTup (dCons (dC (.int 4)) (dCons (dC (.str "up")) dNil))) dNil)) (dCons (dTup (dCons (dC (.int 3)) (dCons (dC (.int 5)) (dCons (dC (.int 7)) dNil)))) dNil))))))))))) dNil))) (dN 2))
  (dSeq (dFor (dRange1 (dCall 2 fs__law_pick (dCons (dVar 0) (dCons (dFz (dLst (dCons (dC (.int 0)) (dCons (dC (.int 0)) (dCons (dC (.int 0)) (dCons (dC (.int 1)) (dCons (dC (.int 2)) (dCons (dC (.int 5)) dNil)))))))) dNil)))) (dN 3)
    (dAsg (dCall 2 fs__law_pick (dCons (dVar 0) (dCons (dFz (dLst (dCons (dTup (dCons (dVar 2) dNil)) (dCons (dFz (dLst (dCons (dVar 2) dNil))) (dCons (dD1 "a" 2) (dCons (dTup (dCons (dVar 2) (dCons (dC (.int 1)) dNil))) (dCons (dTup (dCons (dC (.int 1)) (dCons (dVar 2) dNil))) dNil))))))) dNil))) (dN 2)))
  (dRet (dVar 2)))))
/-- a value of any kind, k deep at most -/
structure OddX (k : Nat) (d : Da) : Prop where
  lay : layX d = true
  sh : d.showable = true
  dp : d.depth ≤ 3 + k
  sz : szX d ≤ 10000 + 2000 * k
theorem OddX.X {k : Nat} {d : Da} (h : OddX k d) (hk : k ≤ 40) : ShX d := ⟨h.lay, h.sh, by have := h.dp; omega, by have := h.sz; omega⟩
theorem OddX.mono {k j : Nat} {d : Da} (h : OddX k d) (hk : k ≤ j) : OddX j d := ⟨h.lay, h.sh, by have := h.dp; omega, by have := h.sz; omega⟩
theorem OddX.base {d : Da} (h1 : layX d = true) (h2 : d.showable = true) (h3 : d.depth ≤ 3) (h4 : szX d ≤ 10000) : OddX 0 d := ⟨h1, h2, h3, h4⟩
theorem OddX.wrap {k : Nat} {d v : Da} (h : OddX k d) (hv : v ∈ ([.tuple [d], .list [d], .dict [(.str "a", d)], .tuple [d, .int 1], .tuple [.int 1, d]] : List Da)) : OddX (k + 1) v := by
  obtain ⟨h1, h2, h3, h4⟩ := h
  have a : PyData.strOk (Str.ofString "a") = true := by decide +kernel
  have b : PyData.showable (.str (Str.ofString "a")) = true := by decide +kernel
  have c : (Str.ofString "a").length = 1 := by decide +kernel
  have e : PyData.showable (.int 1) = true := by decide +kernel
  simp only [List.mem_cons, List.not_mem_nil, or_false] at hv
  rcases hv with rfl | rfl | rfl | rfl | rfl
  all_goals
    refine ⟨?_, ?_, ?_, ?_⟩
    · simp [layX, layXs, layKv, h1, a]
    · simp [PyData.showable, PyData.showableAll, PyData.showableKv, h2] <;> first | exact b | exact e | decide +kernel | skip
    · simp [PyData.depth, PyData.depthAll, PyData.depthKv]; omega
    · simp [szX, szXs, szKv, c]; omega
theorem pw1030 : CPowX 10 30 := ⟨by decide, by decide +kernel⟩
theorem odd_base : ∀ d ∈ ([.none, .bool true, .bool false, .int 0, .int (-1), .int 1, .int 7, .int 101, .int (10 ^ Int.toNat 30), .str (Str.ofString ""), .str (Str.ofString "a"), .str (Str.ofString "up"), .str (Str.ofString "4 up"), .tuple [], .list [], .dict [], .tuple [.int 1], .tuple [.int 1, .int 1], .list [.int 1, .int 2], .tuple [.int 2, .int 4], .tuple [.int 0, .int 1], .tuple [.int 1, .int 0], .tuple [.int (-1), .int 2], .tuple [.bool true, .int 2], .tuple [.int 4, .str (Str.ofString "up")], .tuple [.tuple [.int 4, .str (Str.ofString "up")]], .tuple [.int 3, .int 5, .int 7]] : List Da), OddX 0 d := by
  intro d hd
  have a : layX d = true ∧ PyData.showable d = true ∧ PyData.depth d ≤ 3 ∧ szX d ≤ 10000 := by
    simp only [List.mem_cons, List.not_mem_nil, or_false] at hd
    rcases hd with rfl | rfl | rfl | rfl | rfl | rfl | rfl | rfl | rfl | rfl | rfl | rfl | rfl | rfl | rfl | rfl | rfl | rfl | rfl | rfl | rfl | rfl | rfl | rfl | rfl | rfl | rfl
    all_goals exact ⟨by decide +kernel, by decide +kernel, by decide +kernel, by decide +kernel⟩
  exact ⟨a.1, a.2.1, a.2.2.1, a.2.2.2⟩
def fs__law_odd : FSp := fun rs fu post => ∃ m : Nat, rs = [.src] ∧ fu = some (m + 7) ∧ ∀ (d : Da) (m' : Nat), m ≤ m' → OddX 5 d → post (.val d) (some m')
theorem p__law_odd (rs : List Rv) (fu : Option Nat) (post : Rr → Option Nat → Prop) (hl : rs.length = 1) (h : fs__law_odd rs fu post) : b__law_odd ⟨fun g => post (.val .none) g.fu, fun r g => post r g.fu, fun _ => False, fun _ => False⟩ (ent N__law_odd rs fu) := by
  obtain ⟨m, rfl, rfl, h⟩ := h
  have ob := odd_base
  simp only [↓dSeq,↓dAsg,↓dNext,↓dIfS,↓dRet,↓dRetL,↓dVar,↓dC,↓dBin,↓fI,↓fI0,↓fAdd,↓fEq,↓fNe,↓dTest,↓dOrT,↓dNotT,↓dIf,↓dNeg,↓dNil,↓dCons,↓dTup,↓dLst,↓dFz,↓valsD,↓dIx,↓dCall,↓dCallL,↓hasSrc,↓rrv,↓dN,↓dT,↓dTn,↓dTc,↓rsv,↓Gs.set,↓dFor,↓dItems,↓dRange1,↓dLc,↓dCB,↓cLen,↓cAll,↓cInt1,↓cInt2,↓dCallS,↓oMul,↓oMod,↓oPow,↓oLt,↓oGe,↓oAbs,↓oMax,↓oMin,↓fMulL,↓dD0,↓dD1,↓dEnum,↓cReprX,↓dXval,↓gAs,↓Gs.unset,↓rtN,↓lamF,↓gLam,↓plainO,↓dIsiX,↓Z.isNon,↓dAsX,↓dMkX,↓dMk0,b__law_odd,ent,svOf,List.map_cons,List.map_nil,List.cons_append,List.nil_append,List.append_nil,List.replicate,List.length_cons,List.length_nil,List.getElem?_cons_zero,List.getElem?_cons_succ,List.getElem?_nil,List.set_cons_zero,List.set_cons_succ,Option.map_some,Option.map_none,Option.isNone_some,Option.isNone_none,forall_const,true_implies,false_implies,and_true,true_and,Bool.true_eq_false,Bool.false_eq_true,reduceCtorEq,noOwn,wipeS,hide,fuN_self,lcD,dYes,Nat.zero_add,Nat.reduceAdd,Nat.reduceLeDiff,Nat.reduceSub,atI_0,atI_1,atI_2,atI_3,atI_4,atI_5,Int.one_mul,eqv_ii,eqv_ss,eqv_num,shaped_int,shaped_num,shaped_none,shaped_ru,flat_str,flat_int,flat_none,List.all_cons,List.all_nil,Bool.and_true,decide_eq_true_eq,decide_eq_false_iff_not,Bool.not_eq_true',Bool.not_eq_false',Decidable.not_not,↓reduceIte,Bool.false_eq_true,Int.reduceLT,eqv_strs,pick_0,pick_01,pick_10,pick_012,pick_021,pick_102,pick_120,pick_201,pick_210]
  refine ⟨pw1030, by decide, _, m + 6, rfl, rfl, by show 0 < 27; decide, by show 27 < 1000000; decide, fun d hd => ?_⟩
  have hd := ob d hd
  refine ⟨_, m + 5, rfl, rfl, by show 0 < 6; decide, by show 6 < 1000000; decide, fun v hv => ?_⟩
  obtain ⟨v, rfl, v0, v1⟩ : ∃ s : Int, v = .int s ∧ 0 ≤ s ∧ s ≤ 5 := by
    simp only [List.mem_cons, List.not_mem_nil, or_false] at hv
    rcases hv with rfl | rfl | rfl | rfl | rfl | rfl <;> exact ⟨_, rfl, by decide, by decide⟩
  clear ob
  simp only [↓dSeq,↓dAsg,↓dNext,↓dIfS,↓dRet,↓dRetL,↓dVar,↓dC,↓dBin,↓fI,↓fI0,↓fAdd,↓fEq,↓fNe,↓dTest,↓dOrT,↓dNotT,↓dIf,↓dNeg,↓dNil,↓dCons,↓dTup,↓dLst,↓dFz,↓valsD,↓dIx,↓dCall,↓dCallL,↓hasSrc,↓rrv,↓dN,↓dT,↓dTn,↓dTc,↓rsv,↓Gs.set,↓dFor,↓dItems,↓dRange1,↓dLc,↓dCB,↓cLen,↓cAll,↓cInt1,↓cInt2,↓dCallS,↓oMul,↓oMod,↓oPow,↓oLt,↓oGe,↓oAbs,↓oMax,↓oMin,↓fMulL,↓dD0,↓dD1,↓dEnum,↓cReprX,↓dXval,↓gAs,↓Gs.unset,↓rtN,↓lamF,↓gLam,↓plainO,↓dIsiX,↓Z.isNon,↓dAsX,↓dMkX,↓dMk0,ent,svOf,List.map_cons,List.map_nil,List.cons_append,List.nil_append,List.append_nil,List.replicate,List.length_cons,List.length_nil,List.getElem?_cons_zero,List.getElem?_cons_succ,List.getElem?_nil,List.set_cons_zero,List.set_cons_succ,Option.map_some,Option.map_none,Option.isNone_some,Option.isNone_none,forall_const,true_implies,false_implies,and_true,true_and,Bool.true_eq_false,Bool.false_eq_true,reduceCtorEq,noOwn,wipeS,hide,fuN_self,lcD,dYes,Nat.zero_add,Nat.reduceAdd,Nat.reduceLeDiff,Nat.reduceSub,atI_0,atI_1,atI_2,atI_3,atI_4,atI_5,Int.one_mul,eqv_ii,eqv_ss,eqv_num,shaped_int,shaped_num,shaped_none,shaped_ru,flat_str,flat_int,flat_none,List.all_cons,List.all_nil,Bool.and_true,decide_eq_true_eq,decide_eq_false_iff_not,Bool.not_eq_true',Bool.not_eq_false',Decidable.not_not,↓reduceIte,Bool.false_eq_true,Int.reduceLT,eqv_strs,pick_0,pick_01,pick_10,pick_012,pick_021,pick_102,pick_120,pick_201,pick_210]
  refine ⟨by omega, by omega, forD_ix (k := 0) (fun k g => ∃ (m' : Nat) (L : Option Sv) (d : Da) (t : Option Sv), m + 5 ≤ m' + k ∧ OddX k d ∧ g = ⟨[some .src, L, some (.val d), t], some m', false⟩) (fun k x hx g hg N hN => ?_) (fun g hg => ?_) ⟨m + 5, _, d, _, by omega, hd, rfl⟩⟩
  · obtain ⟨m', L, d, t, hm, ho, rfl⟩ := hg
    have hk : k < 5 := by
      have := (List.getElem?_eq_some_iff.mp hx).1
      rw [rangeD_len] at this
      omega
    obtain ⟨m1, rfl⟩ : ∃ m1, m' = m1 + 1 := ⟨m' - 1, by omega⟩
    have ho : OddX k d := by simpa using ho
    simp only [↓dSeq,↓dAsg,↓dNext,↓dIfS,↓dRet,↓dRetL,↓dVar,↓dC,↓dBin,↓fI,↓fI0,↓fAdd,↓fEq,↓fNe,↓dTest,↓dOrT,↓dNotT,↓dIf,↓dNeg,↓dNil,↓dCons,↓dTup,↓dLst,↓dFz,↓valsD,↓dIx,↓dCall,↓dCallL,↓hasSrc,↓rrv,↓dN,↓dT,↓dTn,↓dTc,↓rsv,↓Gs.set,↓dFor,↓dItems,↓dRange1,↓dLc,↓dCB,↓cLen,↓cAll,↓cInt1,↓cInt2,↓dCallS,↓oMul,↓oMod,↓oPow,↓oLt,↓oGe,↓oAbs,↓oMax,↓oMin,↓fMulL,↓dD0,↓dD1,↓dEnum,↓cReprX,↓dXval,↓gAs,↓Gs.unset,↓rtN,↓lamF,↓gLam,↓plainO,↓dIsiX,↓Z.isNon,↓dAsX,↓dMkX,↓dMk0,fs__law_pick,ent,svOf,List.map_cons,List.map_nil,List.cons_append,List.nil_append,List.append_nil,List.replicate,List.length_cons,List.length_nil,List.getElem?_cons_zero,List.getElem?_cons_succ,List.getElem?_nil,List.set_cons_zero,List.set_cons_succ,Option.map_some,Option.map_none,Option.isNone_some,Option.isNone_none,forall_const,true_implies,false_implies,and_true,true_and,Bool.true_eq_false,Bool.false_eq_true,reduceCtorEq,noOwn,wipeS,hide,fuN_self,lcD,dYes,Nat.zero_add,Nat.reduceAdd,Nat.reduceLeDiff,Nat.reduceSub,atI_0,atI_1,atI_2,atI_3,atI_4,atI_5,Int.one_mul,eqv_ii,eqv_ss,eqv_num,shaped_int,shaped_num,shaped_none,shaped_ru,flat_str,flat_int,flat_none,List.all_cons,List.all_nil,Bool.and_true,decide_eq_true_eq,decide_eq_false_iff_not,Bool.not_eq_true',Bool.not_eq_false',Decidable.not_not,↓reduceIte,Bool.false_eq_true,Int.reduceLT,eqv_strs,pick_0,pick_01,pick_10,pick_012,pick_021,pick_102,pick_120,pick_201,pick_210]
    refine ⟨_, m1, rfl, rfl, by show 0 < 5; decide, by show 5 < 1000000; decide, fun v hv => ?_⟩
    exact hN _ ⟨m1, _, v, _, by omega, by simpa using ho.wrap hv, rfl⟩
  · obtain ⟨m', L, d, t, hm, ho, rfl⟩ := hg
    rw [rangeD_len] at hm ho
    simp only [↓dSeq,↓dAsg,↓dNext,↓dIfS,↓dRet,↓dRetL,↓dVar,↓dC,↓dBin,↓fI,↓fI0,↓fAdd,↓fEq,↓fNe,↓dTest,↓dOrT,↓dNotT,↓dIf,↓dNeg,↓dNil,↓dCons,↓dTup,↓dLst,↓dFz,↓valsD,↓dIx,↓dCall,↓dCallL,↓hasSrc,↓rrv,↓dN,↓dT,↓dTn,↓dTc,↓rsv,↓Gs.set,↓dFor,↓dItems,↓dRange1,↓dLc,↓dCB,↓cLen,↓cAll,↓cInt1,↓cInt2,↓dCallS,↓oMul,↓oMod,↓oPow,↓oLt,↓oGe,↓oAbs,↓oMax,↓oMin,↓fMulL,↓dD0,↓dD1,↓dEnum,↓cReprX,↓dXval,↓gAs,↓Gs.unset,↓rtN,↓lamF,↓gLam,↓plainO,↓dIsiX,↓Z.isNon,↓dAsX,↓dMkX,↓dMk0,ent,svOf,List.map_cons,List.map_nil,List.cons_append,List.nil_append,List.append_nil,List.replicate,List.length_cons,List.length_nil,List.getElem?_cons_zero,List.getElem?_cons_succ,List.getElem?_nil,List.set_cons_zero,List.set_cons_succ,Option.map_some,Option.map_none,Option.isNone_some,Option.isNone_none,forall_const,true_implies,false_implies,and_true,true_and,Bool.true_eq_false,Bool.false_eq_true,reduceCtorEq,noOwn,wipeS,hide,fuN_self,lcD,dYes,Nat.zero_add,Nat.reduceAdd,Nat.reduceLeDiff,Nat.reduceSub,atI_0,atI_1,atI_2,atI_3,atI_4,atI_5,Int.one_mul,eqv_ii,eqv_ss,eqv_num,shaped_int,shaped_num,shaped_none,shaped_ru,flat_str,flat_int,flat_none,List.all_cons,List.all_nil,Bool.and_true,decide_eq_true_eq,decide_eq_false_iff_not,Bool.not_eq_true',Bool.not_eq_false',Decidable.not_not,↓reduceIte,Bool.false_eq_true,Int.reduceLT,eqv_strs,pick_0,pick_01,pick_10,pick_012,pick_021,pick_102,pick_120,pick_201,pick_210]
    exact h d m' (by omega) (ho.mono (by omega))
section
variable {P : Program} {w : World} {K : Fg} {mg : Str → Option Value} {base : Heap}
theorem d__law_odd (T : Tx w K mg) {cdv : Value} {A : Around} {outer : List Env} {s : Shared} {H : Hp} {E : XK} (hr : Room 2 (A.deeper (envOfC "_law_odd" (defScope st__law_odd) s.heap.objs.size T.f__law_odd cdv))) (hgd : (A.deeper (envOfC "_law_odd" (defScope st__law_odd) s.heap.objs.size T.f__law_odd cdv)).guards = some []) :
    PSs (cxOf CX0 P w K mg base N__law_odd "_law_odd" (defScope st__law_odd) T.f__law_odd cdv A outer s H E).nox (defBody st__law_odd) (upS K W0 b__law_odd) :=
  (ss_cons (s_set (i := 1) sc__law_odd.nd rfl (.inl rfl) (e_fz (e_lstL (a_cons e_non (a_cons e_bl (a_cons e_bl (a_cons e_int (a_cons (e_neg e_int) (a_cons e_int (a_cons e_int (a_cons e_int (a_cons (e_pow e_int e_int) (a_cons e_str (a_cons e_str (a_cons e_str (a_cons e_str (a_cons (e_tup a_nil) (a_cons (e_fz (e_lstL a_nil)) (a_cons e_d0 (a_cons (e_tup (a_cons e_int a_nil)) (a_cons (e_tup (a_cons e_int (a_cons e_int a_nil))) (a_cons (e_fz (e_lstL (a_cons e_int (a_cons e_int a_nil)))) a_nil))))))))))))))))))))))
    (ss_cons (s_set (i := 2) sc__law_odd.nd rfl (.inl rfl) (e_call (ok__law_pick T) (hr.mono (by decide)) hgd (by rfl) T.g__law_pick T.F__law_pick.kp T.b__law_pick pass0 (a_cons (e_var 0 (pv 0)) (a_cons (e_add (e_var 1 (pv 1)) (e_fz (e_lstL (a_cons (e_tup (a_cons e_int (a_cons e_int a_nil))) (a_cons (e_tup (a_cons e_int (a_cons e_int a_nil))) (a_cons (e_tup (a_cons e_int (a_cons e_int a_nil))) (a_cons (e_tup (a_cons (e_neg e_int) (a_cons e_int a_nil))) (a_cons (e_tup (a_cons e_bl (a_cons e_int a_nil))) (a_cons (e_tup (a_cons e_int (a_cons e_str a_nil))) (a_cons (e_tup (a_cons (e_tup (a_cons e_int (a_cons e_str a_nil))) a_nil)) (a_cons (e_tup (a_cons e_int (a_cons e_int (a_cons e_int a_nil)))) a_nil))))))))))) a_nil))))
    (ss_cons (s_for PassesOwn.never rfl (i_range1 (by rfl) T.n_range (e_call (ok__law_pick T) (hr.mono (by decide)) hgd (by rfl) T.g__law_pick T.F__law_pick.kp T.b__law_pick pass0 (a_cons (e_var 0 (pv 0)) (a_cons (e_fz (e_lstL (a_cons e_int (a_cons e_int (a_cons e_int (a_cons e_int (a_cons e_int (a_cons e_int a_nil)))))))) a_nil)))) (g_name (pg_name (i := 3) sc__law_odd.nd rfl (.inl rfl))) (ss_one (s_set (i := 2) sc__law_odd.nd rfl (.inl rfl) (e_call (ok__law_pick T) (hr.mono (by decide)) hgd (by rfl) T.g__law_pick T.F__law_pick.kp T.b__law_pick pass0 (a_cons (e_var 0 (pv 0)) (a_cons (e_fz (e_lstL (a_cons (e_tup (a_cons (e_var 2 (pv 2)) a_nil)) (a_cons (e_fz (e_lstL (a_cons (e_var 2 (pv 2)) a_nil))) (a_cons (e_d1 2 pe_str (pv 2)) (a_cons (e_tup (a_cons (e_var 2 (pv 2)) (a_cons e_int a_nil))) (a_cons (e_tup (a_cons e_int (a_cons (e_var 2 (pv 2)) a_nil))) a_nil))))))) a_nil))))))
    (ss_one (s_ret (e_var 2 (pv 2)))))))
theorem ok__law_odd (T : Tx w K mg) : Fn P w K mg base CX0 3 T.f__law_odd T.fd__law_odd ["_law_source_here"] (lift K 1 fs__law_odd) := fn_data T.F__law_odd sc__law_odd b__law_odd (fun _ _ _ _ _ _ hr hgd => d__law_odd T hr hgd) p__law_odd
end
def b__law_with_value : DS :=
  (dSeq (dAsg (dFz (dLst (dCons (dMkX "InvalidNumber" (dVar 0)) (dCons (dMkX "InvalidWidth" (dVar 0)) (dCons (dMkX "InvalidRule" (dVar 0)) (dCons (dMkX "InvalidChain" (dVar 0)) dNil)))))) (dN 1))
  (dSeq (dAsg (dBin fAdd (dVar 1) (dFz (dLst (dCons (dMkX "InvalidThresholds" (dVar 0)) (dCons (dMkX "InvalidRange" (dVar 0)) (dCons (dMkX "InvalidExponent" (dVar 0)) (dCons (dMkX "InvalidShift" (dVar 0)) dNil))))))) (dN 1))
  (dSeq (dAsg (dBin fAdd (dVar 1) (dFz (dLst (dCons (dMkX "InvalidKind" (dVar 0)) (dCons (dMkX "InvalidName" (dVar 0)) (dCons (dMkX "UnknownName" (dVar 0)) (dCons (dMkX "NotExact" (dVar 0)) dNil))))))) (dN 1))
  (dRet (dBin fAdd (dVar 1) (dFz (dLst (dCons (dMkX "InvalidText" (dVar 0)) (dCons (dMkX "InvalidLine" (dVar 0)) dNil)))))))))
/-- the classes with a value, in the law's order -/
def VAL : List Str := ["InvalidNumber", "InvalidWidth", "InvalidRule", "InvalidChain", "InvalidThresholds", "InvalidRange", "InvalidExponent", "InvalidShift", "InvalidKind", "InvalidName", "UnknownName", "NotExact", "InvalidText", "InvalidLine"]
def BAR : List Str := ["DifferentWidths", "ZeroResult", "OutOfRange", "NothingToUndo", "NoBench"]
def ORD : List Str := VAL ++ BAR
def fs__law_with_value : FSp := fun rs fu post => ∃ d : Da, rs = [.val d] ∧ ShX d ∧ post (.val (.list (VAL.map fun nm => xcD nm (some d)))) fu
theorem p__law_with_value (rs : List Rv) (fu : Option Nat) (post : Rr → Option Nat → Prop) (hl : rs.length = 1) (h : fs__law_with_value rs fu post) : b__law_with_value ⟨fun g => post (.val .none) g.fu, fun r g => post r g.fu, fun _ => False, fun _ => False⟩ (ent N__law_with_value rs fu) := by
  obtain ⟨d, rfl, hd, h⟩ := h
  have sl := sizeLine_eq
  simp only [↓dSeq,↓dAsg,↓dNext,↓dIfS,↓dRet,↓dRetL,↓dVar,↓dC,↓dBin,↓fI,↓fI0,↓fAdd,↓fEq,↓fNe,↓dTest,↓dOrT,↓dNotT,↓dIf,↓dNeg,↓dNil,↓dCons,↓dTup,↓dLst,↓dFz,↓valsD,↓dIx,↓dCall,↓dCallL,↓hasSrc,↓rrv,↓dN,↓dT,↓dTn,↓dTc,↓rsv,↓Gs.set,↓dFor,↓dItems,↓dRange1,↓dLc,↓dCB,↓cLen,↓cAll,↓cInt1,↓cInt2,↓dCallS,↓oMul,↓oMod,↓oPow,↓oLt,↓oGe,↓oAbs,↓oMax,↓oMin,↓fMulL,↓dD0,↓dD1,↓dEnum,↓cReprX,↓dXval,↓gAs,↓Gs.unset,↓rtN,↓lamF,↓gLam,↓plainO,↓dIsiX,↓Z.isNon,↓dAsX,↓dMkX,↓dMk0,b__law_with_value,ent,svOf,List.map_cons,List.map_nil,List.cons_append,List.nil_append,List.append_nil,List.replicate,List.length_cons,List.length_nil,List.getElem?_cons_zero,List.getElem?_cons_succ,List.getElem?_nil,List.set_cons_zero,List.set_cons_succ,Option.map_some,Option.map_none,Option.isNone_some,Option.isNone_none,forall_const,true_implies,false_implies,and_true,true_and,Bool.true_eq_false,Bool.false_eq_true,reduceCtorEq,noOwn,wipeS,hide,fuN_self,lcD,dYes,Nat.zero_add,Nat.reduceAdd,Nat.reduceLeDiff,Nat.reduceSub,atI_0,atI_1,atI_2,atI_3,atI_4,atI_5,Int.one_mul,eqv_ii,eqv_ss,eqv_num,shaped_int,shaped_num,shaped_none,shaped_ru,flat_str,flat_int,flat_none,List.all_cons,List.all_nil,Bool.and_true,decide_eq_true_eq,decide_eq_false_iff_not,Bool.not_eq_true',Bool.not_eq_false',Decidable.not_not,↓reduceIte,Bool.false_eq_true,Int.reduceLT,eqv_strs,pick_0,pick_01,pick_10,pick_012,pick_021,pick_102,pick_120,pick_201,pick_210]
  refine ⟨hd, hd, hd, hd, hd, hd, hd, hd, by omega, hd, hd, hd, hd, by omega, hd, hd, by omega, h⟩
section
variable {P : Program} {w : World} {K : Fg} {mg : Str → Option Value} {base : Heap}
theorem d__law_with_value (T : Tx w K mg) {cdv : Value} {A : Around} {outer : List Env} {s : Shared} {H : Hp} {E : XK} (hr : Room 3 (A.deeper (envOfC "_law_with_value" (defScope st__law_with_value) s.heap.objs.size T.f__law_with_value cdv))) (hgd : (A.deeper (envOfC "_law_with_value" (defScope st__law_with_value) s.heap.objs.size T.f__law_with_value cdv)).guards = some []) :
    PSs (cxOf CX0 P w K mg base N__law_with_value "_law_with_value" (defScope st__law_with_value) T.f__law_with_value cdv A outer s H E).nox (defBody st__law_with_value) (upS K W0 b__law_with_value) :=
  (ss_cons (s_set (i := 1) sc__law_with_value.nd rfl (.inl rfl) (e_fz (e_lstL (a_cons (e_mkx rfl T.xv_InvalidNumber (ok_InvalidNumber_init T) (hr.mono (by decide)) hgd T.b_InvalidNumber_init (by rfl) T.g_InvalidNumber (e_var 0 (pv 0))) (a_cons (e_mkx rfl T.xv_InvalidWidth (ok_InvalidWidth_init T) (hr.mono (by decide)) hgd T.b_InvalidWidth_init (by rfl) T.g_InvalidWidth (e_var 0 (pv 0))) (a_cons (e_mkx rfl T.xv_InvalidRule (ok_InvalidRule_init T) (hr.mono (by decide)) hgd T.b_InvalidRule_init (by rfl) T.g_InvalidRule (e_var 0 (pv 0))) (a_cons (e_mkx rfl T.xv_InvalidChain (ok_InvalidChain_init T) (hr.mono (by decide)) hgd T.b_InvalidChain_init (by rfl) T.g_InvalidChain (e_var 0 (pv 0))) a_nil)))))))
    (ss_cons (s_set (i := 1) sc__law_with_value.nd rfl (.inl rfl) (e_add (e_var 1 (pv 1)) (e_fz (e_lstL (a_cons (e_mkx rfl T.xv_InvalidThresholds (ok_InvalidThresholds_init T) (hr.mono (by decide)) hgd T.b_InvalidThresholds_init (by rfl) T.g_InvalidThresholds (e_var 0 (pv 0))) (a_cons (e_mkx rfl T.xv_InvalidRange (ok_InvalidRange_init T) (hr.mono (by decide)) hgd T.b_InvalidRange_init (by rfl) T.g_InvalidRange (e_var 0 (pv 0))) (a_cons (e_mkx rfl T.xv_InvalidExponent (ok_InvalidExponent_init T) (hr.mono (by decide)) hgd T.b_InvalidExponent_init (by rfl) T.g_InvalidExponent (e_var 0 (pv 0))) (a_cons (e_mkx rfl T.xv_InvalidShift (ok_InvalidShift_init T) (hr.mono (by decide)) hgd T.b_InvalidShift_init (by rfl) T.g_InvalidShift (e_var 0 (pv 0))) a_nil))))))))
    (ss_cons (s_set (i := 1) sc__law_with_value.nd rfl (.inl rfl) (e_add (e_var 1 (pv 1)) (e_fz (e_lstL (a_cons (e_mkx rfl T.xv_InvalidKind (ok_InvalidKind_init T) (hr.mono (by decide)) hgd T.b_InvalidKind_init (by rfl) T.g_InvalidKind (e_var 0 (pv 0))) (a_cons (e_mkx rfl T.xv_InvalidName (ok_InvalidName_init T) (hr.mono (by decide)) hgd T.b_InvalidName_init (by rfl) T.g_InvalidName (e_var 0 (pv 0))) (a_cons (e_mkx rfl T.xv_UnknownName (ok_UnknownName_init T) (hr.mono (by decide)) hgd T.b_UnknownName_init (by rfl) T.g_UnknownName (e_var 0 (pv 0))) (a_cons (e_mkx rfl T.xv_NotExact (ok_NotExact_init T) (hr.mono (by decide)) hgd T.b_NotExact_init (by rfl) T.g_NotExact (e_var 0 (pv 0))) a_nil))))))))
    (ss_one (s_ret (e_add (e_var 1 (pv 1)) (e_fz (e_lstL (a_cons (e_mkx rfl T.xv_InvalidText (ok_InvalidText_init T) (hr.mono (by decide)) hgd T.b_InvalidText_init (by rfl) T.g_InvalidText (e_var 0 (pv 0))) (a_cons (e_mkx rfl T.xv_InvalidLine (ok_InvalidLine_init T) (hr.mono (by decide)) hgd T.b_InvalidLine_init (by rfl) T.g_InvalidLine (e_var 0 (pv 0))) a_nil))))))))))
theorem ok__law_with_value (T : Tx w K mg) : Fn P w K mg base CX0 4 T.f__law_with_value T.fd__law_with_value ["_law_given"] (lift K 1 fs__law_with_value) := fn_data T.F__law_with_value sc__law_with_value b__law_with_value (fun _ _ _ _ _ _ hr hgd => d__law_with_value T hr hgd) p__law_with_value
end
def b__law_by_name : DS :=
  (dSeq (dAsg (dFz (dLst (dCons (dMkX "InvalidNumber" (dVar 0)) (dCons (dMkX "InvalidWidth" (dVar 0)) (dCons (dMkX "InvalidRule" (dVar 0)) (dCons (dMkX "InvalidChain" (dVar 0)) dNil)))))) (dN 1))
  (dSeq (dAsg (dBin fAdd (dVar 1) (dFz (dLst (dCons (dMkX "InvalidThresholds" (dVar 0)) (dCons (dMkX "InvalidRange" (dVar 0)) (dCons (dMkX "InvalidExponent" (dVar 0)) dNil)))))) (dN 1))
  (dSeq (dAsg (dBin fAdd (dVar 1) (dFz (dLst (dCons (dMkX "InvalidShift" (dVar 0)) (dCons (dMkX "InvalidKind" (dVar 0)) (dCons (dMkX "InvalidName" (dVar 0)) dNil)))))) (dN 1))
  (dSeq (dAsg (dBin fAdd (dVar 1) (dFz (dLst (dCons (dMkX "UnknownName" (dVar 0)) (dCons (dMkX "NotExact" (dVar 0)) (dCons (dMkX "InvalidText" (dVar 0)) dNil)))))) (dN 1))
  (dRet (dBin fAdd (dVar 1) (dFz (dLst (dCons (dMkX "InvalidLine" (dVar 0)) dNil)))))))))
def fs__law_by_name : FSp := fun rs fu post => ∃ d : Da, rs = [.val d] ∧ ShX d ∧ post (.val (.list (VAL.map fun nm => xcD nm (some d)))) fu
theorem p__law_by_name (rs : List Rv) (fu : Option Nat) (post : Rr → Option Nat → Prop) (hl : rs.length = 1) (h : fs__law_by_name rs fu post) : b__law_by_name ⟨fun g => post (.val .none) g.fu, fun r g => post r g.fu, fun _ => False, fun _ => False⟩ (ent N__law_by_name rs fu) := by
  obtain ⟨d, rfl, hd, h⟩ := h
  have sl := sizeLine_eq
  simp only [↓dSeq,↓dAsg,↓dNext,↓dIfS,↓dRet,↓dRetL,↓dVar,↓dC,↓dBin,↓fI,↓fI0,↓fAdd,↓fEq,↓fNe,↓dTest,↓dOrT,↓dNotT,↓dIf,↓dNeg,↓dNil,↓dCons,↓dTup,↓dLst,↓dFz,↓valsD,↓dIx,↓dCall,↓dCallL,↓hasSrc,↓rrv,↓dN,↓dT,↓dTn,↓dTc,↓rsv,↓Gs.set,↓dFor,↓dItems,↓dRange1,↓dLc,↓dCB,↓cLen,↓cAll,↓cInt1,↓cInt2,↓dCallS,↓oMul,↓oMod,↓oPow,↓oLt,↓oGe,↓oAbs,↓oMax,↓oMin,↓fMulL,↓dD0,↓dD1,↓dEnum,↓cReprX,↓dXval,↓gAs,↓Gs.unset,↓rtN,↓lamF,↓gLam,↓plainO,↓dIsiX,↓Z.isNon,↓dAsX,↓dMkX,↓dMk0,b__law_by_name,ent,svOf,List.map_cons,List.map_nil,List.cons_append,List.nil_append,List.append_nil,List.replicate,List.length_cons,List.length_nil,List.getElem?_cons_zero,List.getElem?_cons_succ,List.getElem?_nil,List.set_cons_zero,List.set_cons_succ,Option.map_some,Option.map_none,Option.isNone_some,Option.isNone_none,forall_const,true_implies,false_implies,and_true,true_and,Bool.true_eq_false,Bool.false_eq_true,reduceCtorEq,noOwn,wipeS,hide,fuN_self,lcD,dYes,Nat.zero_add,Nat.reduceAdd,Nat.reduceLeDiff,Nat.reduceSub,atI_0,atI_1,atI_2,atI_3,atI_4,atI_5,Int.one_mul,eqv_ii,eqv_ss,eqv_num,shaped_int,shaped_num,shaped_none,shaped_ru,flat_str,flat_int,flat_none,List.all_cons,List.all_nil,Bool.and_true,decide_eq_true_eq,decide_eq_false_iff_not,Bool.not_eq_true',Bool.not_eq_false',Decidable.not_not,↓reduceIte,Bool.false_eq_true,Int.reduceLT,eqv_strs,pick_0,pick_01,pick_10,pick_012,pick_021,pick_102,pick_120,pick_201,pick_210]
  refine ⟨hd, hd, hd, hd, hd, hd, hd, by omega, hd, hd, hd, by omega, hd, hd, hd, by omega, hd, by omega, h⟩
section
variable {P : Program} {w : World} {K : Fg} {mg : Str → Option Value} {base : Heap}
theorem d__law_by_name (T : Tx w K mg) {cdv : Value} {A : Around} {outer : List Env} {s : Shared} {H : Hp} {E : XK} (hr : Room 3 (A.deeper (envOfC "_law_by_name" (defScope st__law_by_name) s.heap.objs.size T.f__law_by_name cdv))) (hgd : (A.deeper (envOfC "_law_by_name" (defScope st__law_by_name) s.heap.objs.size T.f__law_by_name cdv)).guards = some []) :
    PSs (cxOf CX0 P w K mg base N__law_by_name "_law_by_name" (defScope st__law_by_name) T.f__law_by_name cdv A outer s H E).nox (defBody st__law_by_name) (upS K W0 b__law_by_name) :=
  (ss_cons (s_set (i := 1) sc__law_by_name.nd rfl (.inl rfl) (e_fz (e_lstL (a_cons (e_mkxK rfl T.xv_InvalidNumber (ok_InvalidNumber_init T) (hr.mono (by decide)) hgd (kb1_of T.F_InvalidNumber_init (fun _ _ _ _ _ _ _ _ => rfl)) (by rfl) T.g_InvalidNumber (e_var 0 (pv 0))) (a_cons (e_mkxK rfl T.xv_InvalidWidth (ok_InvalidWidth_init T) (hr.mono (by decide)) hgd (kb1_of T.F_InvalidWidth_init (fun _ _ _ _ _ _ _ _ => rfl)) (by rfl) T.g_InvalidWidth (e_var 0 (pv 0))) (a_cons (e_mkxK rfl T.xv_InvalidRule (ok_InvalidRule_init T) (hr.mono (by decide)) hgd (kb1_of T.F_InvalidRule_init (fun _ _ _ _ _ _ _ _ => rfl)) (by rfl) T.g_InvalidRule (e_var 0 (pv 0))) (a_cons (e_mkxK rfl T.xv_InvalidChain (ok_InvalidChain_init T) (hr.mono (by decide)) hgd (kb1_of T.F_InvalidChain_init (fun _ _ _ _ _ _ _ _ => rfl)) (by rfl) T.g_InvalidChain (e_var 0 (pv 0))) a_nil)))))))
    (ss_cons (s_set (i := 1) sc__law_by_name.nd rfl (.inl rfl) (e_add (e_var 1 (pv 1)) (e_fz (e_lstL (a_cons (e_mkxK rfl T.xv_InvalidThresholds (ok_InvalidThresholds_init T) (hr.mono (by decide)) hgd (kb1_of T.F_InvalidThresholds_init (fun _ _ _ _ _ _ _ _ => rfl)) (by rfl) T.g_InvalidThresholds (e_var 0 (pv 0))) (a_cons (e_mkxK rfl T.xv_InvalidRange (ok_InvalidRange_init T) (hr.mono (by decide)) hgd (kb1_of T.F_InvalidRange_init (fun _ _ _ _ _ _ _ _ => rfl)) (by rfl) T.g_InvalidRange (e_var 0 (pv 0))) (a_cons (e_mkxK rfl T.xv_InvalidExponent (ok_InvalidExponent_init T) (hr.mono (by decide)) hgd (kb1_of T.F_InvalidExponent_init (fun _ _ _ _ _ _ _ _ => rfl)) (by rfl) T.g_InvalidExponent (e_var 0 (pv 0))) a_nil)))))))
    (ss_cons (s_set (i := 1) sc__law_by_name.nd rfl (.inl rfl) (e_add (e_var 1 (pv 1)) (e_fz (e_lstL (a_cons (e_mkxK rfl T.xv_InvalidShift (ok_InvalidShift_init T) (hr.mono (by decide)) hgd (kb1_of T.F_InvalidShift_init (fun _ _ _ _ _ _ _ _ => rfl)) (by rfl) T.g_InvalidShift (e_var 0 (pv 0))) (a_cons (e_mkxK rfl T.xv_InvalidKind (ok_InvalidKind_init T) (hr.mono (by decide)) hgd (kb1_of T.F_InvalidKind_init (fun _ _ _ _ _ _ _ _ => rfl)) (by rfl) T.g_InvalidKind (e_var 0 (pv 0))) (a_cons (e_mkxK rfl T.xv_InvalidName (ok_InvalidName_init T) (hr.mono (by decide)) hgd (kb1_of T.F_InvalidName_init (fun _ _ _ _ _ _ _ _ => rfl)) (by rfl) T.g_InvalidName (e_var 0 (pv 0))) a_nil)))))))
    (ss_cons (s_set (i := 1) sc__law_by_name.nd rfl (.inl rfl) (e_add (e_var 1 (pv 1)) (e_fz (e_lstL (a_cons (e_mkxK rfl T.xv_UnknownName (ok_UnknownName_init T) (hr.mono (by decide)) hgd (kb1_of T.F_UnknownName_init (fun _ _ _ _ _ _ _ _ => rfl)) (by rfl) T.g_UnknownName (e_var 0 (pv 0))) (a_cons (e_mkxK rfl T.xv_NotExact (ok_NotExact_init T) (hr.mono (by decide)) hgd (kb1_of T.F_NotExact_init (fun _ _ _ _ _ _ _ _ => rfl)) (by rfl) T.g_NotExact (e_var 0 (pv 0))) (a_cons (e_mkxK rfl T.xv_InvalidText (ok_InvalidText_init T) (hr.mono (by decide)) hgd (kb1_of T.F_InvalidText_init (fun _ _ _ _ _ _ _ _ => rfl)) (by rfl) T.g_InvalidText (e_var 0 (pv 0))) a_nil)))))))
    (ss_one (s_ret (e_add (e_var 1 (pv 1)) (e_fz (e_lstL (a_cons (e_mkxK rfl T.xv_InvalidLine (ok_InvalidLine_init T) (hr.mono (by decide)) hgd (kb1_of T.F_InvalidLine_init (fun _ _ _ _ _ _ _ _ => rfl)) (by rfl) T.g_InvalidLine (e_var 0 (pv 0))) a_nil))))))))))
theorem ok__law_by_name (T : Tx w K mg) : Fn P w K mg base CX0 4 T.f__law_by_name T.fd__law_by_name ["_law_given"] (lift K 1 fs__law_by_name) := fn_data T.F__law_by_name sc__law_by_name b__law_by_name (fun _ _ _ _ _ _ hr hgd => d__law_by_name T hr hgd) p__law_by_name
end
def b__law_marks : DS :=
  (dSeq (dAsg (dFz (dLst (dCons (dIsiX ["DifferentWidths", "InvalidChain", "InvalidExponent", "InvalidKind", "InvalidLine", "InvalidName", "InvalidNumber", "InvalidRange", "InvalidRule", "InvalidShift", "InvalidText", "InvalidThresholds", "InvalidWidth", "NoBench", "NotExact", "NothingToUndo", "OutOfRange", "UnknownName", "ZeroResult"] "InvalidNumber" (dAsX (dVar 0))) (dCons (dIsiX ["DifferentWidths", "InvalidChain", "InvalidExponent", "InvalidKind", "InvalidLine", "InvalidName", "InvalidNumber", "InvalidRange", "InvalidRule", "InvalidShift", "InvalidText", "InvalidThresholds", "InvalidWidth", "NoBench", "NotExact", "NothingToUndo", "OutOfRange", "UnknownName", "ZeroResult"] "InvalidWidth" (dAsX (dVar 0))) (dCons (dIsiX ["DifferentWidths", "InvalidChain", "InvalidExponent", "InvalidKind", "InvalidLine", "InvalidName", "InvalidNumber", "InvalidRange", "InvalidRule", "InvalidShift", "InvalidText", "InvalidThresholds", "InvalidWidth", "NoBench", "NotExact", "NothingToUndo", "OutOfRange", "UnknownName", "ZeroResult"] "InvalidRule" (dAsX (dVar 0))) dNil))))) (dN 1))
  (dSeq (dAsg (dBin fAdd (dVar 1) (dFz (dLst (dCons (dIsiX ["DifferentWidths", "InvalidChain", "InvalidExponent", "InvalidKind", "InvalidLine", "InvalidName", "InvalidNumber", "InvalidRange", "InvalidRule", "InvalidShift", "InvalidText", "InvalidThresholds", "InvalidWidth", "NoBench", "NotExact", "NothingToUndo", "OutOfRange", "UnknownName", "ZeroResult"] "InvalidChain" (dAsX (dVar 0))) (dCons (dIsiX ["DifferentWidths", "InvalidChain", "InvalidExponent", "InvalidKind", "InvalidLine", "InvalidName", "InvalidNumber", "InvalidRange", "InvalidRule", "InvalidShift", "InvalidText", "InvalidThresholds", "InvalidWidth", "NoBench", "NotExact", "NothingToUndo", "OutOfRange", "UnknownName", "ZeroResult"] "InvalidThresholds" (dAsX (dVar 0))) dNil))))) (dN 1))
  (dSeq (dAsg (dBin fAdd (dVar 1) (dFz (dLst (dCons (dIsiX ["DifferentWidths", "InvalidChain", "InvalidExponent", "InvalidKind", "InvalidLine", "InvalidName", "InvalidNumber", "InvalidRange", "InvalidRule", "InvalidShift", "InvalidText", "InvalidThresholds", "InvalidWidth", "NoBench", "NotExact", "NothingToUndo", "OutOfRange", "UnknownName", "ZeroResult"] "InvalidRange" (dAsX (dVar 0))) (dCons (dIsiX ["DifferentWidths", "InvalidChain", "InvalidExponent", "InvalidKind", "InvalidLine", "InvalidName", "InvalidNumber", "InvalidRange", "InvalidRule", "InvalidShift", "InvalidText", "InvalidThresholds", "InvalidWidth", "NoBench", "NotExact", "NothingToUndo", "OutOfRange", "UnknownName", "ZeroResult"] "InvalidExponent" (dAsX (dVar 0))) dNil))))) (dN 1))
  (dSeq (dAsg (dBin fAdd (dVar 1) (dFz (dLst (dCons (dIsiX ["DifferentWidths", "InvalidChain", "InvalidExponent", "InvalidKind", "InvalidLine", "InvalidName", "InvalidNumber", "InvalidRange", "InvalidRule", "InvalidShift", "InvalidText", "InvalidThresholds", "InvalidWidth", "NoBench", "NotExact", "NothingToUndo", "OutOfRange", "UnknownName", "ZeroResult"] "InvalidShift" (dAsX (dVar 0))) (dCons (dIsiX ["DifferentWidths", "InvalidChain", "InvalidExponent", "InvalidKind", "InvalidLine", "InvalidName", "InvalidNumber", "InvalidRange", "InvalidRule", "InvalidShift", "InvalidText", "InvalidThresholds", "InvalidWidth", "NoBench", "NotExact", "NothingToUndo", "OutOfRange", "UnknownName", "ZeroResult"] "InvalidKind" (dAsX (dVar 0))) (dCons (dIsiX ["DifferentWidths", "InvalidChain", "InvalidExponent", "InvalidKind", "InvalidLine", "InvalidName", "InvalidNumber", "InvalidRange", "InvalidRule", "InvalidShift", "InvalidText", "InvalidThresholds", "InvalidWidth", "NoBench", "NotExact", "NothingToUndo", "OutOfRange", "UnknownName", "ZeroResult"] "InvalidName" (dAsX (dVar 0))) dNil)))))) (dN 1))
  (dSeq (dAsg (dBin fAdd (dVar 1) (dFz (dLst (dCons (dIsiX ["DifferentWidths", "InvalidChain", "InvalidExponent", "InvalidKind", "InvalidLine", "InvalidName", "InvalidNumber", "InvalidRange", "InvalidRule", "InvalidShift", "InvalidText", "InvalidThresholds", "InvalidWidth", "NoBench", "NotExact", "NothingToUndo", "OutOfRange", "UnknownName", "ZeroResult"] "UnknownName" (dAsX (dVar 0))) (dCons (dIsiX ["DifferentWidths", "InvalidChain", "InvalidExponent", "InvalidKind", "InvalidLine", "InvalidName", "InvalidNumber", "InvalidRange", "InvalidRule", "InvalidShift", "InvalidText", "InvalidThresholds", "InvalidWidth", "NoBench", "NotExact", "NothingToUndo", "OutOfRange", "UnknownName", "ZeroResult"] "NotExact" (dAsX (dVar 0))) (dCons (dIsiX ["DifferentWidths", "InvalidChain", "InvalidExponent", "InvalidKind", "InvalidLine", "InvalidName", "InvalidNumber", "InvalidRange", "InvalidRule", "InvalidShift", "InvalidText", "InvalidThresholds", "InvalidWidth", "NoBench", "NotExact", "NothingToUndo", "OutOfRange", "UnknownName", "ZeroResult"] "InvalidText" (dAsX (dVar 0))) dNil)))))) (dN 1))
  (dSeq (dAsg (dBin fAdd (dVar 1) (dFz (dLst (dCons (dIsiX ["DifferentWidths", "InvalidChain", "InvalidExponent", "InvalidKind", "InvalidLine", "InvalidName", "InvalidNumber", "InvalidRange", "InvalidRule", "InvalidShift", "InvalidText", "InvalidThresholds", "InvalidWidth", "NoBench", "NotExact", "NothingToUndo", "OutOfRange", "UnknownName", "ZeroResult"] "InvalidLine" (dAsX (dVar 0))) (dCons (dIsiX ["DifferentWidths", "InvalidChain", "InvalidExponent", "InvalidKind", "InvalidLine", "InvalidName", "InvalidNumber", "InvalidRange", "InvalidRule", "InvalidShift", "InvalidText", "InvalidThresholds", "InvalidWidth", "NoBench", "NotExact", "NothingToUndo", "OutOfRange", "UnknownName", "ZeroResult"] "DifferentWidths" (dAsX (dVar 0))) dNil))))) (dN 1))
  (dSeq (dAsg (dBin fAdd (dVar 1) (dFz (dLst (dCons (dIsiX ["DifferentWidths", "InvalidChain", "InvalidExponent", "InvalidKind", "InvalidLine", "InvalidName", "InvalidNumber", "InvalidRange", "InvalidRule", "InvalidShift", "InvalidText", "InvalidThresholds", "InvalidWidth", "NoBench", "NotExact", "NothingToUndo", "OutOfRange", "UnknownName", "ZeroResult"] "ZeroResult" (dAsX (dVar 0))) (dCons (dIsiX ["DifferentWidths", "InvalidChain", "InvalidExponent", "InvalidKind", "InvalidLine", "InvalidName", "InvalidNumber", "InvalidRange", "InvalidRule", "InvalidShift", "InvalidText", "InvalidThresholds", "InvalidWidth", "NoBench", "NotExact", "NothingToUndo", "OutOfRange", "UnknownName", "ZeroResult"] "OutOfRange" (dAsX (dVar 0))) (dCons (dIsiX ["DifferentWidths", "InvalidChain", "InvalidExponent", "InvalidKind", "InvalidLine", "InvalidName", "InvalidNumber", "InvalidRange", "InvalidRule", "InvalidShift", "InvalidText", "InvalidThresholds", "InvalidWidth", "NoBench", "NotExact", "NothingToUndo", "OutOfRange", "UnknownName", "ZeroResult"] "NothingToUndo" (dAsX (dVar 0))) dNil)))))) (dN 1))
  (dRet (dBin fAdd (dVar 1) (dFz (dLst (dCons (dIsiX ["DifferentWidths", "InvalidChain", "InvalidExponent", "InvalidKind", "InvalidLine", "InvalidName", "InvalidNumber", "InvalidRange", "InvalidRule", "InvalidShift", "InvalidText", "InvalidThresholds", "InvalidWidth", "NoBench", "NotExact", "NothingToUndo", "OutOfRange", "UnknownName", "ZeroResult"] "NoBench" (dAsX (dVar 0))) dNil))))))))))))
def marks (nm : Str) : List Bool := ORD.map fun c => xsub nm c
def fs__law_marks : FSp := fun rs fu post => ∃ (nm : Str) (z : Option Da), rs = [.val (xcD nm z)] ∧ nm ∈ ORD ∧ post (.val (.list ((marks nm).map PyData.bool))) fu
theorem p__law_marks (rs : List Rv) (fu : Option Nat) (post : Rr → Option Nat → Prop) (hl : rs.length = 1) (h : fs__law_marks rs fu post) : b__law_marks ⟨fun g => post (.val .none) g.fu, fun r g => post r g.fu, fun _ => False, fun _ => False⟩ (ent N__law_marks rs fu) := by
  obtain ⟨nm, z, rfl, hm, h⟩ := h
  have sl := sizeLine_eq
  generalize hd : xcD nm z = d
  have he : exOf d = some (nm, z) := by rw [← hd]; exact exOf_xc nm z
  have m : (nm ∈ [Str.ofString "DifferentWidths", Str.ofString "InvalidChain", Str.ofString "InvalidExponent", Str.ofString "InvalidKind", Str.ofString "InvalidLine", Str.ofString "InvalidName", Str.ofString "InvalidNumber", Str.ofString "InvalidRange", Str.ofString "InvalidRule", Str.ofString "InvalidShift", Str.ofString "InvalidText", Str.ofString "InvalidThresholds", Str.ofString "InvalidWidth", Str.ofString "NoBench", Str.ofString "NotExact", Str.ofString "NothingToUndo", Str.ofString "OutOfRange", Str.ofString "UnknownName", Str.ofString "ZeroResult"]) = True := by
    simp only [ORD, VAL, BAR, List.cons_append, List.nil_append, List.mem_cons, List.not_mem_nil, or_false] at hm ⊢
    simp only [eq_iff_iff, iff_true]
    rcases hm with h | h | h | h | h | h | h | h | h | h | h | h | h | h | h | h | h | h | h <;> simp [h]
  simp only [↓dSeq,↓dAsg,↓dNext,↓dIfS,↓dRet,↓dRetL,↓dVar,↓dC,↓dBin,↓fI,↓fI0,↓fAdd,↓fEq,↓fNe,↓dTest,↓dOrT,↓dNotT,↓dIf,↓dNeg,↓dNil,↓dCons,↓dTup,↓dLst,↓dFz,↓valsD,↓dIx,↓dCall,↓dCallL,↓hasSrc,↓rrv,↓dN,↓dT,↓dTn,↓dTc,↓rsv,↓Gs.set,↓dFor,↓dItems,↓dRange1,↓dLc,↓dCB,↓cLen,↓cAll,↓cInt1,↓cInt2,↓dCallS,↓oMul,↓oMod,↓oPow,↓oLt,↓oGe,↓oAbs,↓oMax,↓oMin,↓fMulL,↓dD0,↓dD1,↓dEnum,↓cReprX,↓dXval,↓gAs,↓Gs.unset,↓rtN,↓lamF,↓gLam,↓plainO,↓dIsiX,↓Z.isNon,↓dAsX,↓dMkX,↓dMk0,b__law_marks,he,m,ent,svOf,List.map_cons,List.map_nil,List.cons_append,List.nil_append,List.append_nil,List.replicate,List.length_cons,List.length_nil,List.getElem?_cons_zero,List.getElem?_cons_succ,List.getElem?_nil,List.set_cons_zero,List.set_cons_succ,Option.map_some,Option.map_none,Option.isNone_some,Option.isNone_none,forall_const,true_implies,false_implies,and_true,true_and,Bool.true_eq_false,Bool.false_eq_true,reduceCtorEq,noOwn,wipeS,hide,fuN_self,lcD,dYes,Nat.zero_add,Nat.reduceAdd,Nat.reduceLeDiff,Nat.reduceSub,atI_0,atI_1,atI_2,atI_3,atI_4,atI_5,Int.one_mul,eqv_ii,eqv_ss,eqv_num,shaped_int,shaped_num,shaped_none,shaped_ru,flat_str,flat_int,flat_none,List.all_cons,List.all_nil,Bool.and_true,decide_eq_true_eq,decide_eq_false_iff_not,Bool.not_eq_true',Bool.not_eq_false',Decidable.not_not,↓reduceIte,Bool.false_eq_true,Int.reduceLT,eqv_strs,pick_0,pick_01,pick_10,pick_012,pick_021,pick_102,pick_120,pick_201,pick_210]
  refine ⟨by omega, by omega, by omega, by omega, by omega, by omega, by omega, h⟩
section
variable {P : Program} {w : World} {K : Fg} {mg : Str → Option Value} {base : Heap}
theorem d__law_marks (T : Tx w K mg) {cdv : Value} {A : Around} {outer : List Env} {s : Shared} {H : Hp} {E : XK} (hr : Room 0 (A.deeper (envOfC "_law_marks" (defScope st__law_marks) s.heap.objs.size T.f__law_marks cdv))) (hgd : (A.deeper (envOfC "_law_marks" (defScope st__law_marks) s.heap.objs.size T.f__law_marks cdv)).guards = some []) :
    PSs (cxOf CX0 P w K mg base N__law_marks "_law_marks" (defScope st__law_marks) T.f__law_marks cdv A outer s H E).nox (defBody st__law_marks) (upS K W0 b__law_marks) :=
  (ss_cons (s_set (i := 1) sc__law_marks.nd rfl (.inl rfl) (e_fz (e_lstL (a_cons (e_isiX (cn := "InvalidNumber") (cV := .ref T.C_InvalidNumber) T.is_InvalidNumber (fun _ h => h) (by rfl) T.n_isinstance (e_asX (e_var 0 (pv 0))) (pe_glob (v := .ref T.C_InvalidNumber) (by rfl) T.g_InvalidNumber rfl)) (a_cons (e_isiX (cn := "InvalidWidth") (cV := .ref T.C_InvalidWidth) T.is_InvalidWidth (fun _ h => h) (by rfl) T.n_isinstance (e_asX (e_var 0 (pv 0))) (pe_glob (v := .ref T.C_InvalidWidth) (by rfl) T.g_InvalidWidth rfl)) (a_cons (e_isiX (cn := "InvalidRule") (cV := .ref T.C_InvalidRule) T.is_InvalidRule (fun _ h => h) (by rfl) T.n_isinstance (e_asX (e_var 0 (pv 0))) (pe_glob (v := .ref T.C_InvalidRule) (by rfl) T.g_InvalidRule rfl)) a_nil))))))
    (ss_cons (s_set (i := 1) sc__law_marks.nd rfl (.inl rfl) (e_add (e_var 1 (pv 1)) (e_fz (e_lstL (a_cons (e_isiX (cn := "InvalidChain") (cV := .ref T.C_InvalidChain) T.is_InvalidChain (fun _ h => h) (by rfl) T.n_isinstance (e_asX (e_var 0 (pv 0))) (pe_glob (v := .ref T.C_InvalidChain) (by rfl) T.g_InvalidChain rfl)) (a_cons (e_isiX (cn := "InvalidThresholds") (cV := .ref T.C_InvalidThresholds) T.is_InvalidThresholds (fun _ h => h) (by rfl) T.n_isinstance (e_asX (e_var 0 (pv 0))) (pe_glob (v := .ref T.C_InvalidThresholds) (by rfl) T.g_InvalidThresholds rfl)) a_nil))))))
    (ss_cons (s_set (i := 1) sc__law_marks.nd rfl (.inl rfl) (e_add (e_var 1 (pv 1)) (e_fz (e_lstL (a_cons (e_isiX (cn := "InvalidRange") (cV := .ref T.C_InvalidRange) T.is_InvalidRange (fun _ h => h) (by rfl) T.n_isinstance (e_asX (e_var 0 (pv 0))) (pe_glob (v := .ref T.C_InvalidRange) (by rfl) T.g_InvalidRange rfl)) (a_cons (e_isiX (cn := "InvalidExponent") (cV := .ref T.C_InvalidExponent) T.is_InvalidExponent (fun _ h => h) (by rfl) T.n_isinstance (e_asX (e_var 0 (pv 0))) (pe_glob (v := .ref T.C_InvalidExponent) (by rfl) T.g_InvalidExponent rfl)) a_nil))))))
    (ss_cons (s_set (i := 1) sc__law_marks.nd rfl (.inl rfl) (e_add (e_var 1 (pv 1)) (e_fz (e_lstL (a_cons (e_isiX (cn := "InvalidShift") (cV := .ref T.C_InvalidShift) T.is_InvalidShift (fun _ h => h) (by rfl) T.n_isinstance (e_asX (e_var 0 (pv 0))) (pe_glob (v := .ref T.C_InvalidShift) (by rfl) T.g_InvalidShift rfl)) (a_cons (e_isiX (cn := "InvalidKind") (cV := .ref T.C_InvalidKind) T.is_InvalidKind (fun _ h => h) (by rfl) T.n_isinstance (e_asX (e_var 0 (pv 0))) (pe_glob (v := .ref T.C_InvalidKind) (by rfl) T.g_InvalidKind rfl)) (a_cons (e_isiX (cn := "InvalidName") (cV := .ref T.C_InvalidName) T.is_InvalidName (fun _ h => h) (by rfl) T.n_isinstance (e_asX (e_var 0 (pv 0))) (pe_glob (v := .ref T.C_InvalidName) (by rfl) T.g_InvalidName rfl)) a_nil)))))))
    (ss_cons (s_set (i := 1) sc__law_marks.nd rfl (.inl rfl) (e_add (e_var 1 (pv 1)) (e_fz (e_lstL (a_cons (e_isiX (cn := "UnknownName") (cV := .ref T.C_UnknownName) T.is_UnknownName (fun _ h => h) (by rfl) T.n_isinstance (e_asX (e_var 0 (pv 0))) (pe_glob (v := .ref T.C_UnknownName) (by rfl) T.g_UnknownName rfl)) (a_cons (e_isiX (cn := "NotExact") (cV := .ref T.C_NotExact) T.is_NotExact (fun _ h => h) (by rfl) T.n_isinstance (e_asX (e_var 0 (pv 0))) (pe_glob (v := .ref T.C_NotExact) (by rfl) T.g_NotExact rfl)) (a_cons (e_isiX (cn := "InvalidText") (cV := .ref T.C_InvalidText) T.is_InvalidText (fun _ h => h) (by rfl) T.n_isinstance (e_asX (e_var 0 (pv 0))) (pe_glob (v := .ref T.C_InvalidText) (by rfl) T.g_InvalidText rfl)) a_nil)))))))
    (ss_cons (s_set (i := 1) sc__law_marks.nd rfl (.inl rfl) (e_add (e_var 1 (pv 1)) (e_fz (e_lstL (a_cons (e_isiX (cn := "InvalidLine") (cV := .ref T.C_InvalidLine) T.is_InvalidLine (fun _ h => h) (by rfl) T.n_isinstance (e_asX (e_var 0 (pv 0))) (pe_glob (v := .ref T.C_InvalidLine) (by rfl) T.g_InvalidLine rfl)) (a_cons (e_isiX (cn := "DifferentWidths") (cV := .ref T.C_DifferentWidths) T.is_DifferentWidths (fun _ h => h) (by rfl) T.n_isinstance (e_asX (e_var 0 (pv 0))) (pe_glob (v := .ref T.C_DifferentWidths) (by rfl) T.g_DifferentWidths rfl)) a_nil))))))
    (ss_cons (s_set (i := 1) sc__law_marks.nd rfl (.inl rfl) (e_add (e_var 1 (pv 1)) (e_fz (e_lstL (a_cons (e_isiX (cn := "ZeroResult") (cV := .ref T.C_ZeroResult) T.is_ZeroResult (fun _ h => h) (by rfl) T.n_isinstance (e_asX (e_var 0 (pv 0))) (pe_glob (v := .ref T.C_ZeroResult) (by rfl) T.g_ZeroResult rfl)) (a_cons (e_isiX (cn := "OutOfRange") (cV := .ref T.C_OutOfRange) T.is_OutOfRange (fun _ h => h) (by rfl) T.n_isinstance (e_asX (e_var 0 (pv 0))) (pe_glob (v := .ref T.C_OutOfRange) (by rfl) T.g_OutOfRange rfl)) (a_cons (e_isiX (cn := "NothingToUndo") (cV := .ref T.C_NothingToUndo) T.is_NothingToUndo (fun _ h => h) (by rfl) T.n_isinstance (e_asX (e_var 0 (pv 0))) (pe_glob (v := .ref T.C_NothingToUndo) (by rfl) T.g_NothingToUndo rfl)) a_nil)))))))
    (ss_one (s_ret (e_add (e_var 1 (pv 1)) (e_fz (e_lstL (a_cons (e_isiX (cn := "NoBench") (cV := .ref T.C_NoBench) T.is_NoBench (fun _ h => h) (by rfl) T.n_isinstance (e_asX (e_var 0 (pv 0))) (pe_glob (v := .ref T.C_NoBench) (by rfl) T.g_NoBench rfl)) a_nil)))))))))))))
theorem ok__law_marks (T : Tx w K mg) : Fn P w K mg base CX0 1 T.f__law_marks T.fd__law_marks ["_law_error"] (lift K 1 fs__law_marks) := fn_data T.F__law_marks sc__law_marks b__law_marks (fun _ _ _ _ _ _ hr hgd => d__law_marks T hr hgd) p__law_marks
end
def b__law_right : DS :=
  (dSeq (dAsg (dCall 1 fs__law_odd (dCons (dVar 0) dNil)) (dN 1))
  (dSeq (dAsg (dFz (dLst (dCons (dMk0 "DifferentWidths") (dCons (dMk0 "ZeroResult") (dCons (dMk0 "OutOfRange") (dCons (dMk0 "NothingToUndo") (dCons (dMk0 "NoBench") dNil))))))) (dN 2))
  (dSeq (dFor (dItems (dTup (dCons (dCall 1 fs__law_with_value (dCons (dVar 1) dNil)) (dCons (dCall 1 fs__law_by_name (dCons (dVar 1) dNil)) dNil)))) (dN 3)
    (dSeq (dFor (dEnum (dBin fAdd (dVar 3) (dVar 2))) (dT 2 (dTc (dN 4) (dTc (dN 5) dTn)))
    (dSeq (dIfS (dOrT (dTest (dBin fNe (dCall 1 fs__law_marks (dCons (dVar 5) dNil)) (dFz (dLc [6] (dRange1 (dC (.int 19))) (dN 6) dYes (dBin fEq (dVar 6) (dVar 4)))))) (dNotT (dTest (dIsiX ["DifferentWidths", "InvalidChain", "InvalidExponent", "InvalidKind", "InvalidLine", "InvalidName", "InvalidNumber", "InvalidRange", "InvalidRule", "InvalidShift", "InvalidText", "InvalidThresholds", "InvalidWidth", "NoBench", "NotExact", "NothingToUndo", "OutOfRange", "UnknownName", "ZeroResult"] "RoundingError" (dAsX (dVar 5))))))
    (dRet (dC (.bool false)))
    dNext)
  (dIfS (dNotT (dTest (dIsiX ["DifferentWidths", "InvalidChain", "InvalidExponent", "InvalidKind", "InvalidLine", "InvalidName", "InvalidNumber", "InvalidRange", "InvalidRule", "InvalidShift", "InvalidText", "InvalidThresholds", "InvalidWidth", "NoBench", "NotExact", "NothingToUndo", "OutOfRange", "UnknownName", "ZeroResult"] "ValueError" (dAsX (dVar 5)))))
    (dRet (dC (.bool false)))
    dNext)))
  (dIfS (dTest (dBin fNe (dCB cReprX (dCons (dFz (dLc [5] (dItems (dVar 3)) (dN 5) dYes (dXval ["InvalidChain", "InvalidExponent", "InvalidKind", "InvalidLine", "InvalidName", "InvalidNumber", "InvalidRange", "InvalidRule", "InvalidShift", "InvalidText", "InvalidThresholds", "InvalidWidth", "NotExact", "UnknownName"] (dAsX (dVar 5))))) dNil)) (dCB cReprX (dCons (dBin fMulL (dFz (dLst (dCons (dVar 1) dNil))) (dC (.int 14))) dNil))))
    (dRet (dC (.bool false)))
    dNext)))
  (dRet (dC (.bool true))))))
abbrev XS : List Str := ["DifferentWidths", "InvalidChain", "InvalidExponent", "InvalidKind", "InvalidLine", "InvalidName", "InvalidNumber", "InvalidRange", "InvalidRule", "InvalidShift", "InvalidText", "InvalidThresholds", "InvalidWidth", "NoBench", "NotExact", "NothingToUndo", "OutOfRange", "UnknownName", "ZeroResult"]
abbrev XV : List Str := ["InvalidChain", "InvalidExponent", "InvalidKind", "InvalidLine", "InvalidName", "InvalidNumber", "InvalidRange", "InvalidRule", "InvalidShift", "InvalidText", "InvalidThresholds", "InvalidWidth", "NotExact", "UnknownName"]
theorem mem_XS {nm : Str} (hm : nm ∈ ORD) : nm ∈ XS := by
  simp only [ORD, VAL, BAR, XS, List.cons_append, List.nil_append, List.mem_cons, List.not_mem_nil, or_false] at hm ⊢
  rcases hm with h | h | h | h | h | h | h | h | h | h | h | h | h | h | h | h | h | h | h <;> simp [h]
theorem mem_XV {nm : Str} (hm : nm ∈ VAL) : nm ∈ XV := by
  simp only [VAL, XV, List.mem_cons, List.not_mem_nil, or_false] at hm ⊢
  rcases hm with h | h | h | h | h | h | h | h | h | h | h | h | h | h <;> simp [h]
theorem marks_at : ∀ i : Nat, i < 19 → ∀ nm, ORD[i]? = some nm → marks nm = (List.range 19).map fun k => decide (k = i) := by
  have h : ∀ i : Nat, i < 19 → marks (ORD.getD i "") = (List.range 19).map fun k => decide (k = i) := by decide +kernel
  intro i hi nm e
  have := h i hi
  rw [List.getD_eq_getElem?_getD, e] at this
  exact this
theorem shaped_bls {l : List Bool} : SeqAt.shaped (.list (l.map PyData.bool)) = true := by
  have a : ∀ l : List Bool, PyData.canLayAll0 (l.map PyData.bool) = true ∧ PyData.depthAll (l.map PyData.bool) = 0 := fun l => by
    induction l with
    | nil => exact ⟨rfl, rfl⟩
    | cons b l ih => exact ⟨by simp [PyData.canLayAll0, PyData.canLay0, ih.1], by simp [PyData.depthAll, PyData.depth, ih.2]⟩
  obtain ⟨a1, a2⟩ := a l
  simp [SeqAt.shaped, PyData.canLay0, PyData.depth, a1, a2]
def spots (i : Nat) : Da → Da
  | .int j => .bool (decide (j = (i : Int)))
  | _ => .none
theorem spots_at {nm : Str} {i : Nat} (hi : i < 19) (hn : ORD[i]? = some nm) : (rangeD 0 (Int.toNat 19)).map (spots i) = (marks nm).map PyData.bool := by
  rw [marks_at i hi nm hn]
  unfold rangeD
  rw [List.map_map, List.map_map]
  refine List.map_congr_left fun k _ => ?_
  show PyData.bool (decide ((0 + (k : Int)) = (i : Int))) = .bool (decide (k = i))
  congr 1
  rw [decide_eq_decide]
  omega
def lrE : DS := (dSeq (dIfS (dOrT (dTest (dBin fNe (dCall 1 fs__law_marks (dCons (dVar 5) dNil)) (dFz (dLc [6] (dRange1 (dC (.int 19))) (dN 6) dYes (dBin fEq (dVar 6) (dVar 4)))))) (dNotT (dTest (dIsiX XS "RoundingError" (dAsX (dVar 5))))))
    (dRet (dC (.bool false)))
    dNext)
  (dIfS (dNotT (dTest (dIsiX XS "ValueError" (dAsX (dVar 5)))))
    (dRet (dC (.bool false)))
    dNext))
theorem p_lrE {D : DEnds} {s0 s1 s2 s3 s6 : Option Sv} {i : Nat} {nm : Str} {z : Option Da} {fu : Option Nat} {ow : Bool} (hi : i < 19) (hn : ORD[i]? = some nm)
    (h : ∀ s6, D.nx ⟨[s0, s1, s2, s3, some (.val (.int i)), some (.val (xcD nm z)), s6], fu, ow⟩) :
    lrE D ⟨[s0, s1, s2, s3, some (.val (.int i)), some (.val (xcD nm z)), s6], fu, ow⟩ := by
  have hm : nm ∈ ORD := List.mem_of_getElem? hn
  have mk := marks_at i hi nm hn
  have mx := mem_XS hm
  have he := exOf_xc nm z
  have x1 : xsub nm (Str.ofString "RoundingError") = true := by simp [xsub]
  have x2 : xsub nm (Str.ofString "ValueError") = true := by simp [xsub]
  generalize hd : xcD nm z = d at he h
  simp only [↓dSeq,↓dAsg,↓dNext,↓dIfS,↓dRet,↓dRetL,↓dVar,↓dC,↓dBin,↓fI,↓fI0,↓fAdd,↓fEq,↓fNe,↓dTest,↓dOrT,↓dNotT,↓dIf,↓dNeg,↓dNil,↓dCons,↓dTup,↓dLst,↓dFz,↓valsD,↓dIx,↓dCall,↓dCallL,↓hasSrc,↓rrv,↓dN,↓dT,↓dTn,↓dTc,↓rsv,↓Gs.set,↓dFor,↓dItems,↓dRange1,↓dLc,↓dCB,↓cLen,↓cAll,↓cInt1,↓cInt2,↓dCallS,↓oMul,↓oMod,↓oPow,↓oLt,↓oGe,↓oAbs,↓oMax,↓oMin,↓fMulL,↓dD0,↓dD1,↓dEnum,↓cReprX,↓dXval,↓gAs,↓Gs.unset,↓rtN,↓lamF,↓gLam,↓plainO,↓dIsiX,↓Z.isNon,↓dAsX,↓dMkX,↓dMk0,lrE,fs__law_marks,he,x1,x2,ent,svOf,List.map_cons,List.map_nil,List.cons_append,List.nil_append,List.append_nil,List.replicate,List.length_cons,List.length_nil,List.getElem?_cons_zero,List.getElem?_cons_succ,List.getElem?_nil,List.set_cons_zero,List.set_cons_succ,Option.map_some,Option.map_none,Option.isNone_some,Option.isNone_none,forall_const,true_implies,false_implies,and_true,true_and,Bool.true_eq_false,Bool.false_eq_true,reduceCtorEq,noOwn,wipeS,hide,fuN_self,lcD,dYes,Nat.zero_add,Nat.reduceAdd,Nat.reduceLeDiff,Nat.reduceSub,atI_0,atI_1,atI_2,atI_3,atI_4,atI_5,Int.one_mul,eqv_ii,eqv_ss,eqv_num,shaped_int,shaped_num,shaped_none,shaped_ru,flat_str,flat_int,flat_none,List.all_cons,List.all_nil,Bool.and_true,decide_eq_true_eq,decide_eq_false_iff_not,Bool.not_eq_true',Bool.not_eq_false',Decidable.not_not,↓reduceIte,Bool.false_eq_true,Int.reduceLT,eqv_strs,pick_0,pick_01,pick_10,pick_012,pick_021,pick_102,pick_120,pick_201,pick_210]
  refine ⟨nm, z, by rw [hd], hm, by decide, by decide, lc_map (spots i) (fun x hx R hR => ?_) (by simp [rangeD]) ?_⟩
  · obtain ⟨j, rfl, _, _⟩ := rangeD_mem hx
    simp only [↓dSeq,↓dAsg,↓dNext,↓dIfS,↓dRet,↓dRetL,↓dVar,↓dC,↓dBin,↓fI,↓fI0,↓fAdd,↓fEq,↓fNe,↓dTest,↓dOrT,↓dNotT,↓dIf,↓dNeg,↓dNil,↓dCons,↓dTup,↓dLst,↓dFz,↓valsD,↓dIx,↓dCall,↓dCallL,↓hasSrc,↓rrv,↓dN,↓dT,↓dTn,↓dTc,↓rsv,↓Gs.set,↓dFor,↓dItems,↓dRange1,↓dLc,↓dCB,↓cLen,↓cAll,↓cInt1,↓cInt2,↓dCallS,↓oMul,↓oMod,↓oPow,↓oLt,↓oGe,↓oAbs,↓oMax,↓oMin,↓fMulL,↓dD0,↓dD1,↓dEnum,↓cReprX,↓dXval,↓gAs,↓Gs.unset,↓rtN,↓lamF,↓gLam,↓plainO,↓dIsiX,↓Z.isNon,↓dAsX,↓dMkX,↓dMk0,ent,svOf,List.map_cons,List.map_nil,List.cons_append,List.nil_append,List.append_nil,List.replicate,List.length_cons,List.length_nil,List.getElem?_cons_zero,List.getElem?_cons_succ,List.getElem?_nil,List.set_cons_zero,List.set_cons_succ,Option.map_some,Option.map_none,Option.isNone_some,Option.isNone_none,forall_const,true_implies,false_implies,and_true,true_and,Bool.true_eq_false,Bool.false_eq_true,reduceCtorEq,noOwn,wipeS,hide,fuN_self,lcD,dYes,Nat.zero_add,Nat.reduceAdd,Nat.reduceLeDiff,Nat.reduceSub,atI_0,atI_1,atI_2,atI_3,atI_4,atI_5,Int.one_mul,eqv_ii,eqv_ss,eqv_num,shaped_int,shaped_num,shaped_none,shaped_ru,flat_str,flat_int,flat_none,List.all_cons,List.all_nil,Bool.and_true,decide_eq_true_eq,decide_eq_false_iff_not,Bool.not_eq_true',Bool.not_eq_false',Decidable.not_not,↓reduceIte,Bool.false_eq_true,Int.reduceLT,eqv_strs,pick_0,pick_01,pick_10,pick_012,pick_021,pick_102,pick_120,pick_201,pick_210]
    exact hR _ rfl
  · rw [List.nil_append, spots_at hi hn]
    exact ⟨shaped_bls, shaped_bls, fun q => absurd (SeqAt.eqv_refl _ (shaped_lay shaped_bls)) (by rw [q]; decide), fun _ => ⟨mx, mx, h _⟩⟩
def lrW : DS := (dIfS (dTest (dBin fNe (dCB cReprX (dCons (dFz (dLc [5] (dItems (dVar 3)) (dN 5) dYes (dXval XV (dAsX (dVar 5))))) dNil)) (dCB cReprX (dCons (dBin fMulL (dFz (dLst (dCons (dVar 1) dNil))) (dC (.int 14))) dNil))))
    (dRet (dC (.bool false)))
    dNext)
def lrL : DS := (dSeq (dFor (dEnum (dBin fAdd (dVar 3) (dVar 2))) (dT 2 (dTc (dN 4) (dTc (dN 5) dTn))) lrE) lrW)
def valD (d : Da) : List Da := VAL.map fun nm => xcD nm (some d)
def barD : List Da := BAR.map fun nm => xcD nm none
theorem all_at {d x : Da} {i : Nat} (h : (enD 0 (valD d ++ barD))[i]? = some x) : ∃ (nm : Str) (z : Option Da), i < 19 ∧ ORD[i]? = some nm ∧ x = .tuple [.int (i : Nat), xcD nm z] := by
  have hl : i < 19 := by
    have := (List.getElem?_eq_some_iff.mp h).1
    rw [enD_len] at this
    simpa [valD, barD, VAL, BAR] using this
  have e : ∃ nm z, (valD d ++ barD)[i]? = some (xcD nm z) ∧ ORD[i]? = some nm := by
    unfold ORD
    by_cases q : i < 14
    · obtain ⟨nm, hn⟩ : ∃ nm, VAL[i]? = some nm := ⟨_, List.getElem?_eq_getElem (show i < VAL.length from q)⟩
      refine ⟨nm, some d, ?_, ?_⟩
      · rw [List.getElem?_append_left (by simpa [valD, VAL] using q)]
        simp [valD, hn]
      · rw [List.getElem?_append_left (by simpa [VAL] using q)]
        exact hn
    · obtain ⟨nm, hn⟩ : ∃ nm, BAR[i - 14]? = some nm := ⟨_, List.getElem?_eq_getElem (show i - 14 < BAR.length by show i - 14 < 5; omega)⟩
      refine ⟨nm, none, ?_, ?_⟩
      · rw [List.getElem?_append_right (by simpa [valD, VAL] using q)]
        simp [valD, barD, VAL, hn]
      · rw [List.getElem?_append_right (by simpa [VAL] using q)]
        exact hn
  obtain ⟨nm, z, h1, h2⟩ := e
  have := enD_get (k := 0) h1
  rw [h] at this
  cases this
  refine ⟨nm, z, hl, h2, ?_⟩
  rw [Int.zero_add]
theorem p_lrW {D : DEnds} {s0 s2 s4 s5 s6 : Option Sv} {d : Da} {fu : Option Nat} {ow : Bool} (hd : OddX 5 d)
    (h : ∀ s5, D.nx ⟨[s0, some (.val d), s2, some (.val (.list (valD d))), s4, s5, s6], fu, ow⟩) :
    lrW D ⟨[s0, some (.val d), s2, some (.val (.list (valD d))), s4, s5, s6], fu, ow⟩ := by
  have e1 : (valD d).map (fun _ => d) = [d, d, d, d, d, d, d, d, d, d, d, d, d, d] := rfl
  have e2 : repD [d] (Int.toNat 14) = [d, d, d, d, d, d, d, d, d, d, d, d, d, d] := rfl
  have sh : ShX (.list [d, d, d, d, d, d, d, d, d, d, d, d, d, d]) := by
    obtain ⟨a, b, c, e⟩ := hd
    refine ⟨by simp [layX, layXs, a], by simp [PyData.showable, PyData.showableAll, b], ?_, ?_⟩
    · simp only [PyData.depth, PyData.depthAll]
      omega
    · simp only [szX, szXs]
      omega
  have q := shaped_str sh.cps
  simp only [↓dSeq,↓dAsg,↓dNext,↓dIfS,↓dRet,↓dRetL,↓dVar,↓dC,↓dBin,↓fI,↓fI0,↓fAdd,↓fEq,↓fNe,↓dTest,↓dOrT,↓dNotT,↓dIf,↓dNeg,↓dNil,↓dCons,↓dTup,↓dLst,↓dFz,↓valsD,↓dIx,↓dCall,↓dCallL,↓hasSrc,↓rrv,↓dN,↓dT,↓dTn,↓dTc,↓rsv,↓Gs.set,↓dFor,↓dItems,↓dRange1,↓dLc,↓dCB,↓cLen,↓cAll,↓cInt1,↓cInt2,↓dCallS,↓oMul,↓oMod,↓oPow,↓oLt,↓oGe,↓oAbs,↓oMax,↓oMin,↓fMulL,↓dD0,↓dD1,↓dEnum,↓cReprX,↓dXval,↓gAs,↓Gs.unset,↓rtN,↓lamF,↓gLam,↓plainO,↓dIsiX,↓Z.isNon,↓dAsX,↓dMkX,↓dMk0,lrW,ent,svOf,List.map_cons,List.map_nil,List.cons_append,List.nil_append,List.append_nil,List.replicate,List.length_cons,List.length_nil,List.getElem?_cons_zero,List.getElem?_cons_succ,List.getElem?_nil,List.set_cons_zero,List.set_cons_succ,Option.map_some,Option.map_none,Option.isNone_some,Option.isNone_none,forall_const,true_implies,false_implies,and_true,true_and,Bool.true_eq_false,Bool.false_eq_true,reduceCtorEq,noOwn,wipeS,hide,fuN_self,lcD,dYes,Nat.zero_add,Nat.reduceAdd,Nat.reduceLeDiff,Nat.reduceSub,atI_0,atI_1,atI_2,atI_3,atI_4,atI_5,Int.one_mul,eqv_ii,eqv_ss,eqv_num,shaped_int,shaped_num,shaped_none,shaped_ru,flat_str,flat_int,flat_none,List.all_cons,List.all_nil,Bool.and_true,decide_eq_true_eq,decide_eq_false_iff_not,Bool.not_eq_true',Bool.not_eq_false',Decidable.not_not,↓reduceIte,Bool.false_eq_true,Int.reduceLT,eqv_strs,pick_0,pick_01,pick_10,pick_012,pick_021,pick_102,pick_120,pick_201,pick_210]
  refine lc_map (fun _ => d) (fun x hx R hR => ?_) (by simp [valD, VAL]) ?_
  · obtain ⟨nm, hn, rfl⟩ := List.mem_map.mp hx
    have he := exOf_xc nm (some d)
    have mv := mem_XV hn
    generalize xcD nm (some d) = e at he
    simp only [↓dSeq,↓dAsg,↓dNext,↓dIfS,↓dRet,↓dRetL,↓dVar,↓dC,↓dBin,↓fI,↓fI0,↓fAdd,↓fEq,↓fNe,↓dTest,↓dOrT,↓dNotT,↓dIf,↓dNeg,↓dNil,↓dCons,↓dTup,↓dLst,↓dFz,↓valsD,↓dIx,↓dCall,↓dCallL,↓hasSrc,↓rrv,↓dN,↓dT,↓dTn,↓dTc,↓rsv,↓Gs.set,↓dFor,↓dItems,↓dRange1,↓dLc,↓dCB,↓cLen,↓cAll,↓cInt1,↓cInt2,↓dCallS,↓oMul,↓oMod,↓oPow,↓oLt,↓oGe,↓oAbs,↓oMax,↓oMin,↓fMulL,↓dD0,↓dD1,↓dEnum,↓cReprX,↓dXval,↓gAs,↓Gs.unset,↓rtN,↓lamF,↓gLam,↓plainO,↓dIsiX,↓Z.isNon,↓dAsX,↓dMkX,↓dMk0,he,ent,svOf,List.map_cons,List.map_nil,List.cons_append,List.nil_append,List.append_nil,List.replicate,List.length_cons,List.length_nil,List.getElem?_cons_zero,List.getElem?_cons_succ,List.getElem?_nil,List.set_cons_zero,List.set_cons_succ,Option.map_some,Option.map_none,Option.isNone_some,Option.isNone_none,forall_const,true_implies,false_implies,and_true,true_and,Bool.true_eq_false,Bool.false_eq_true,reduceCtorEq,noOwn,wipeS,hide,fuN_self,lcD,dYes,Nat.zero_add,Nat.reduceAdd,Nat.reduceLeDiff,Nat.reduceSub,atI_0,atI_1,atI_2,atI_3,atI_4,atI_5,Int.one_mul,eqv_ii,eqv_ss,eqv_num,shaped_int,shaped_num,shaped_none,shaped_ru,flat_str,flat_int,flat_none,List.all_cons,List.all_nil,Bool.and_true,decide_eq_true_eq,decide_eq_false_iff_not,Bool.not_eq_true',Bool.not_eq_false',Decidable.not_not,↓reduceIte,Bool.false_eq_true,Int.reduceLT,eqv_strs,pick_0,pick_01,pick_10,pick_012,pick_021,pick_102,pick_120,pick_201,pick_210]
    exact ⟨mv, hR _ rfl⟩
  · rw [List.nil_append, e1, e2]
    exact ⟨sh, by decide, by decide, by decide, sh, q, q, fun z => absurd rfl z, fun _ => h _⟩
theorem p_lrL {D : DEnds} {s0 s4 s5 s6 : Option Sv} {d : Da} {fu : Option Nat} {ow : Bool} (hd : OddX 5 d)
    (h : ∀ s4 s5 s6, D.nx ⟨[s0, some (.val d), some (.val (.list barD)), some (.val (.list (valD d))), s4, s5, s6], fu, ow⟩) :
    lrL D ⟨[s0, some (.val d), some (.val (.list barD)), some (.val (.list (valD d))), s4, s5, s6], fu, ow⟩ := by
  have le := @p_lrE
  have lw := @p_lrW
  have sl := sizeLine_eq
  unfold lrL
  generalize lrE = E at le
  generalize lrW = W at lw
  have al : ((valD d).length + barD.length : Nat) ≤ sizeLine := by
    show 14 + 5 ≤ _
    omega
  simp only [↓dSeq,↓dAsg,↓dNext,↓dIfS,↓dRet,↓dRetL,↓dVar,↓dC,↓dBin,↓fI,↓fI0,↓fAdd,↓fEq,↓fNe,↓dTest,↓dOrT,↓dNotT,↓dIf,↓dNeg,↓dNil,↓dCons,↓dTup,↓dLst,↓dFz,↓valsD,↓dIx,↓dCall,↓dCallL,↓hasSrc,↓rrv,↓dN,↓dT,↓dTn,↓dTc,↓rsv,↓Gs.set,↓dFor,↓dItems,↓dRange1,↓dLc,↓dCB,↓cLen,↓cAll,↓cInt1,↓cInt2,↓dCallS,↓oMul,↓oMod,↓oPow,↓oLt,↓oGe,↓oAbs,↓oMax,↓oMin,↓fMulL,↓dD0,↓dD1,↓dEnum,↓cReprX,↓dXval,↓gAs,↓Gs.unset,↓rtN,↓lamF,↓gLam,↓plainO,↓dIsiX,↓Z.isNon,↓dAsX,↓dMkX,↓dMk0,ent,svOf,List.map_cons,List.map_nil,List.cons_append,List.nil_append,List.append_nil,List.replicate,List.length_cons,List.length_nil,List.getElem?_cons_zero,List.getElem?_cons_succ,List.getElem?_nil,List.set_cons_zero,List.set_cons_succ,Option.map_some,Option.map_none,Option.isNone_some,Option.isNone_none,forall_const,true_implies,false_implies,and_true,true_and,Bool.true_eq_false,Bool.false_eq_true,reduceCtorEq,noOwn,wipeS,hide,fuN_self,lcD,dYes,Nat.zero_add,Nat.reduceAdd,Nat.reduceLeDiff,Nat.reduceSub,atI_0,atI_1,atI_2,atI_3,atI_4,atI_5,Int.one_mul,eqv_ii,eqv_ss,eqv_num,shaped_int,shaped_num,shaped_none,shaped_ru,flat_str,flat_int,flat_none,List.all_cons,List.all_nil,Bool.and_true,decide_eq_true_eq,decide_eq_false_iff_not,Bool.not_eq_true',Bool.not_eq_false',Decidable.not_not,↓reduceIte,Bool.false_eq_true,Int.reduceLT,eqv_strs,pick_0,pick_01,pick_10,pick_012,pick_021,pick_102,pick_120,pick_201,pick_210]
  refine ⟨by simpa using al, forD_ix (k := 0) (fun k g => ∃ s4 s5 s6 : Option Sv, g = ⟨[s0, some (.val d), some (.val (.list barD)), some (.val (.list (valD d))), s4, s5, s6], fu, ow⟩) (fun k x hx g hg N hN => ?_) (fun g hg => ?_) ⟨_, _, _, rfl⟩⟩
  · obtain ⟨s4, s5, s6, rfl⟩ := hg
    obtain ⟨nm, z, hk, hn, rfl⟩ := all_at hx
    simp only [↓dSeq,↓dAsg,↓dNext,↓dIfS,↓dRet,↓dRetL,↓dVar,↓dC,↓dBin,↓fI,↓fI0,↓fAdd,↓fEq,↓fNe,↓dTest,↓dOrT,↓dNotT,↓dIf,↓dNeg,↓dNil,↓dCons,↓dTup,↓dLst,↓dFz,↓valsD,↓dIx,↓dCall,↓dCallL,↓hasSrc,↓rrv,↓dN,↓dT,↓dTn,↓dTc,↓rsv,↓Gs.set,↓dFor,↓dItems,↓dRange1,↓dLc,↓dCB,↓cLen,↓cAll,↓cInt1,↓cInt2,↓dCallS,↓oMul,↓oMod,↓oPow,↓oLt,↓oGe,↓oAbs,↓oMax,↓oMin,↓fMulL,↓dD0,↓dD1,↓dEnum,↓cReprX,↓dXval,↓gAs,↓Gs.unset,↓rtN,↓lamF,↓gLam,↓plainO,↓dIsiX,↓Z.isNon,↓dAsX,↓dMkX,↓dMk0,ent,svOf,List.map_cons,List.map_nil,List.cons_append,List.nil_append,List.append_nil,List.replicate,List.length_cons,List.length_nil,List.getElem?_cons_zero,List.getElem?_cons_succ,List.getElem?_nil,List.set_cons_zero,List.set_cons_succ,Option.map_some,Option.map_none,Option.isNone_some,Option.isNone_none,forall_const,true_implies,false_implies,and_true,true_and,Bool.true_eq_false,Bool.false_eq_true,reduceCtorEq,noOwn,wipeS,hide,fuN_self,lcD,dYes,Nat.zero_add,Nat.reduceAdd,Nat.reduceLeDiff,Nat.reduceSub,atI_0,atI_1,atI_2,atI_3,atI_4,atI_5,Int.one_mul,eqv_ii,eqv_ss,eqv_num,shaped_int,shaped_num,shaped_none,shaped_ru,flat_str,flat_int,flat_none,List.all_cons,List.all_nil,Bool.and_true,decide_eq_true_eq,decide_eq_false_iff_not,Bool.not_eq_true',Bool.not_eq_false',Decidable.not_not,↓reduceIte,Bool.false_eq_true,Int.reduceLT,eqv_strs,pick_0,pick_01,pick_10,pick_012,pick_021,pick_102,pick_120,pick_201,pick_210]
    exact le hk hn fun s6 => hN _ ⟨_, _, _, rfl⟩
  · obtain ⟨s4, s5, s6, rfl⟩ := hg
    exact lw hd fun s5 => h _ _ _
def fs__law_right : FSp := fun rs fu post => ∃ m : Nat, rs = [.src] ∧ fu = some (m + 7) ∧ ∀ m', post (.val (.bool true)) m'
theorem p__law_right (rs : List Rv) (fu : Option Nat) (post : Rr → Option Nat → Prop) (hl : rs.length = 1) (h : fs__law_right rs fu post) : b__law_right ⟨fun g => post (.val .none) g.fu, fun r g => post r g.fu, fun _ => False, fun _ => False⟩ (ent N__law_right rs fu) := by
  obtain ⟨m, rfl, rfl, h⟩ := h
  have ll := @p_lrL
  show (dSeq (dAsg (dCall 1 fs__law_odd (dCons (dVar 0) dNil)) (dN 1))
  (dSeq (dAsg (dFz (dLst (dCons (dMk0 "DifferentWidths") (dCons (dMk0 "ZeroResult") (dCons (dMk0 "OutOfRange") (dCons (dMk0 "NothingToUndo") (dCons (dMk0 "NoBench") dNil))))))) (dN 2))
  (dSeq (dFor (dItems (dTup (dCons (dCall 1 fs__law_with_value (dCons (dVar 1) dNil)) (dCons (dCall 1 fs__law_by_name (dCons (dVar 1) dNil)) dNil)))) (dN 3) lrL)
  (dRet (dC (.bool true)))))) _ _
  generalize lrL = L at ll
  simp only [↓dSeq,↓dAsg,↓dNext,↓dIfS,↓dRet,↓dRetL,↓dVar,↓dC,↓dBin,↓fI,↓fI0,↓fAdd,↓fEq,↓fNe,↓dTest,↓dOrT,↓dNotT,↓dIf,↓dNeg,↓dNil,↓dCons,↓dTup,↓dLst,↓dFz,↓valsD,↓dIx,↓dCall,↓dCallL,↓hasSrc,↓rrv,↓dN,↓dT,↓dTn,↓dTc,↓rsv,↓Gs.set,↓dFor,↓dItems,↓dRange1,↓dLc,↓dCB,↓cLen,↓cAll,↓cInt1,↓cInt2,↓dCallS,↓oMul,↓oMod,↓oPow,↓oLt,↓oGe,↓oAbs,↓oMax,↓oMin,↓fMulL,↓dD0,↓dD1,↓dEnum,↓cReprX,↓dXval,↓gAs,↓Gs.unset,↓rtN,↓lamF,↓gLam,↓plainO,↓dIsiX,↓Z.isNon,↓dAsX,↓dMkX,↓dMk0,fs__law_odd,ent,svOf,List.map_cons,List.map_nil,List.cons_append,List.nil_append,List.append_nil,List.replicate,List.length_cons,List.length_nil,List.getElem?_cons_zero,List.getElem?_cons_succ,List.getElem?_nil,List.set_cons_zero,List.set_cons_succ,Option.map_some,Option.map_none,Option.isNone_some,Option.isNone_none,forall_const,true_implies,false_implies,and_true,true_and,Bool.true_eq_false,Bool.false_eq_true,reduceCtorEq,noOwn,wipeS,hide,fuN_self,lcD,dYes,Nat.zero_add,Nat.reduceAdd,Nat.reduceLeDiff,Nat.reduceSub,atI_0,atI_1,atI_2,atI_3,atI_4,atI_5,Int.one_mul,eqv_ii,eqv_ss,eqv_num,shaped_int,shaped_num,shaped_none,shaped_ru,flat_str,flat_int,flat_none,List.all_cons,List.all_nil,Bool.and_true,decide_eq_true_eq,decide_eq_false_iff_not,Bool.not_eq_true',Bool.not_eq_false',Decidable.not_not,↓reduceIte,Bool.false_eq_true,Int.reduceLT,eqv_strs,pick_0,pick_01,pick_10,pick_012,pick_021,pick_102,pick_120,pick_201,pick_210]
  refine ⟨m, rfl, fun d m' hm hd => ?_⟩
  have sx : ShX d := hd.X (by decide)
  simp only [↓dSeq,↓dAsg,↓dNext,↓dIfS,↓dRet,↓dRetL,↓dVar,↓dC,↓dBin,↓fI,↓fI0,↓fAdd,↓fEq,↓fNe,↓dTest,↓dOrT,↓dNotT,↓dIf,↓dNeg,↓dNil,↓dCons,↓dTup,↓dLst,↓dFz,↓valsD,↓dIx,↓dCall,↓dCallL,↓hasSrc,↓rrv,↓dN,↓dT,↓dTn,↓dTc,↓rsv,↓Gs.set,↓dFor,↓dItems,↓dRange1,↓dLc,↓dCB,↓cLen,↓cAll,↓cInt1,↓cInt2,↓dCallS,↓oMul,↓oMod,↓oPow,↓oLt,↓oGe,↓oAbs,↓oMax,↓oMin,↓fMulL,↓dD0,↓dD1,↓dEnum,↓cReprX,↓dXval,↓gAs,↓Gs.unset,↓rtN,↓lamF,↓gLam,↓plainO,↓dIsiX,↓Z.isNon,↓dAsX,↓dMkX,↓dMk0,fs__law_with_value,fs__law_by_name,ent,svOf,List.map_cons,List.map_nil,List.cons_append,List.nil_append,List.append_nil,List.replicate,List.length_cons,List.length_nil,List.getElem?_cons_zero,List.getElem?_cons_succ,List.getElem?_nil,List.set_cons_zero,List.set_cons_succ,Option.map_some,Option.map_none,Option.isNone_some,Option.isNone_none,forall_const,true_implies,false_implies,and_true,true_and,Bool.true_eq_false,Bool.false_eq_true,reduceCtorEq,noOwn,wipeS,hide,fuN_self,lcD,dYes,Nat.zero_add,Nat.reduceAdd,Nat.reduceLeDiff,Nat.reduceSub,atI_0,atI_1,atI_2,atI_3,atI_4,atI_5,Int.one_mul,eqv_ii,eqv_ss,eqv_num,shaped_int,shaped_num,shaped_none,shaped_ru,flat_str,flat_int,flat_none,List.all_cons,List.all_nil,Bool.and_true,decide_eq_true_eq,decide_eq_false_iff_not,Bool.not_eq_true',Bool.not_eq_false',Decidable.not_not,↓reduceIte,Bool.false_eq_true,Int.reduceLT,eqv_strs,pick_0,pick_01,pick_10,pick_012,pick_021,pick_102,pick_120,pick_201,pick_210]
  refine ⟨d, rfl, sx, d, rfl, sx, ?_⟩
  refine ll hd fun s4 s5 s6 => ?_
  show dN 3 (.val (.list (valD d))) _ _
  simp only [↓dSeq,↓dAsg,↓dNext,↓dIfS,↓dRet,↓dRetL,↓dVar,↓dC,↓dBin,↓fI,↓fI0,↓fAdd,↓fEq,↓fNe,↓dTest,↓dOrT,↓dNotT,↓dIf,↓dNeg,↓dNil,↓dCons,↓dTup,↓dLst,↓dFz,↓valsD,↓dIx,↓dCall,↓dCallL,↓hasSrc,↓rrv,↓dN,↓dT,↓dTn,↓dTc,↓rsv,↓Gs.set,↓dFor,↓dItems,↓dRange1,↓dLc,↓dCB,↓cLen,↓cAll,↓cInt1,↓cInt2,↓dCallS,↓oMul,↓oMod,↓oPow,↓oLt,↓oGe,↓oAbs,↓oMax,↓oMin,↓fMulL,↓dD0,↓dD1,↓dEnum,↓cReprX,↓dXval,↓gAs,↓Gs.unset,↓rtN,↓lamF,↓gLam,↓plainO,↓dIsiX,↓Z.isNon,↓dAsX,↓dMkX,↓dMk0,ent,svOf,List.map_cons,List.map_nil,List.cons_append,List.nil_append,List.append_nil,List.replicate,List.length_cons,List.length_nil,List.getElem?_cons_zero,List.getElem?_cons_succ,List.getElem?_nil,List.set_cons_zero,List.set_cons_succ,Option.map_some,Option.map_none,Option.isNone_some,Option.isNone_none,forall_const,true_implies,false_implies,and_true,true_and,Bool.true_eq_false,Bool.false_eq_true,reduceCtorEq,noOwn,wipeS,hide,fuN_self,lcD,dYes,Nat.zero_add,Nat.reduceAdd,Nat.reduceLeDiff,Nat.reduceSub,atI_0,atI_1,atI_2,atI_3,atI_4,atI_5,Int.one_mul,eqv_ii,eqv_ss,eqv_num,shaped_int,shaped_num,shaped_none,shaped_ru,flat_str,flat_int,flat_none,List.all_cons,List.all_nil,Bool.and_true,decide_eq_true_eq,decide_eq_false_iff_not,Bool.not_eq_true',Bool.not_eq_false',Decidable.not_not,↓reduceIte,Bool.false_eq_true,Int.reduceLT,eqv_strs,pick_0,pick_01,pick_10,pick_012,pick_021,pick_102,pick_120,pick_201,pick_210]
  refine ll hd fun s4 s5 s6 => ?_
  dsimp only [forD]
  simp only [↓dSeq,↓dAsg,↓dNext,↓dIfS,↓dRet,↓dRetL,↓dVar,↓dC,↓dBin,↓fI,↓fI0,↓fAdd,↓fEq,↓fNe,↓dTest,↓dOrT,↓dNotT,↓dIf,↓dNeg,↓dNil,↓dCons,↓dTup,↓dLst,↓dFz,↓valsD,↓dIx,↓dCall,↓dCallL,↓hasSrc,↓rrv,↓dN,↓dT,↓dTn,↓dTc,↓rsv,↓Gs.set,↓dFor,↓dItems,↓dRange1,↓dLc,↓dCB,↓cLen,↓cAll,↓cInt1,↓cInt2,↓dCallS,↓oMul,↓oMod,↓oPow,↓oLt,↓oGe,↓oAbs,↓oMax,↓oMin,↓fMulL,↓dD0,↓dD1,↓dEnum,↓cReprX,↓dXval,↓gAs,↓Gs.unset,↓rtN,↓lamF,↓gLam,↓plainO,↓dIsiX,↓Z.isNon,↓dAsX,↓dMkX,↓dMk0,ent,svOf,List.map_cons,List.map_nil,List.cons_append,List.nil_append,List.append_nil,List.replicate,List.length_cons,List.length_nil,List.getElem?_cons_zero,List.getElem?_cons_succ,List.getElem?_nil,List.set_cons_zero,List.set_cons_succ,Option.map_some,Option.map_none,Option.isNone_some,Option.isNone_none,forall_const,true_implies,false_implies,and_true,true_and,Bool.true_eq_false,Bool.false_eq_true,reduceCtorEq,noOwn,wipeS,hide,fuN_self,lcD,dYes,Nat.zero_add,Nat.reduceAdd,Nat.reduceLeDiff,Nat.reduceSub,atI_0,atI_1,atI_2,atI_3,atI_4,atI_5,Int.one_mul,eqv_ii,eqv_ss,eqv_num,shaped_int,shaped_num,shaped_none,shaped_ru,flat_str,flat_int,flat_none,List.all_cons,List.all_nil,Bool.and_true,decide_eq_true_eq,decide_eq_false_iff_not,Bool.not_eq_true',Bool.not_eq_false',Decidable.not_not,↓reduceIte,Bool.false_eq_true,Int.reduceLT,eqv_strs,pick_0,pick_01,pick_10,pick_012,pick_021,pick_102,pick_120,pick_201,pick_210]
  exact h _
section
variable {P : Program} {w : World} {K : Fg} {mg : Str → Option Value} {base : Heap}
theorem d__law_right (T : Tx w K mg) {cdv : Value} {A : Around} {outer : List Env} {s : Shared} {H : Hp} {E : XK} (hr : Room 4 (A.deeper (envOfC "_law_right" (defScope st__law_right) s.heap.objs.size T.f__law_right cdv))) (hgd : (A.deeper (envOfC "_law_right" (defScope st__law_right) s.heap.objs.size T.f__law_right cdv)).guards = some []) :
    PSs (cxOf CX0 P w K mg base N__law_right "_law_right" (defScope st__law_right) T.f__law_right cdv A outer s H E).nox (defBody st__law_right) (upS K W0 b__law_right) :=
  (ss_cons (s_set (i := 1) sc__law_right.nd rfl (.inl rfl) (e_call (ok__law_odd T) (hr.mono (by decide)) hgd (by rfl) T.g__law_odd T.F__law_odd.kp T.b__law_odd pass0 (a_cons (e_var 0 (pv 0)) a_nil)))
    (ss_cons (s_set (i := 2) sc__law_right.nd rfl (.inl rfl) (e_fz (e_lstL (a_cons (e_mk0 rfl T.xi_DifferentWidths (ok_DifferentWidths_init T) (hr.mono (by decide)) hgd T.b_DifferentWidths_init (by rfl) T.g_DifferentWidths) (a_cons (e_mk0 rfl T.xi_ZeroResult (ok_ZeroResult_init T) (hr.mono (by decide)) hgd T.b_ZeroResult_init (by rfl) T.g_ZeroResult) (a_cons (e_mk0 rfl T.xi_OutOfRange (ok_OutOfRange_init T) (hr.mono (by decide)) hgd T.b_OutOfRange_init (by rfl) T.g_OutOfRange) (a_cons (e_mk0 rfl T.xi_NothingToUndo (ok_NothingToUndo_init T) (hr.mono (by decide)) hgd T.b_NothingToUndo_init (by rfl) T.g_NothingToUndo) (a_cons (e_mk0 rfl T.xi_NoBench (ok_NoBench_init T) (hr.mono (by decide)) hgd T.b_NoBench_init (by rfl) T.g_NoBench) a_nil))))))))
    (ss_cons (s_for PassesOwn.never rfl (i_items (e_tup (a_cons (e_call (ok__law_with_value T) (hr.mono (by decide)) hgd (by rfl) T.g__law_with_value T.F__law_with_value.kp T.b__law_with_value pass0 (a_cons (e_var 1 (pv 1)) a_nil)) (a_cons (e_call (ok__law_by_name T) (hr.mono (by decide)) hgd (by rfl) T.g__law_by_name T.F__law_by_name.kp T.b__law_by_name pass0 (a_cons (e_var 1 (pv 1)) a_nil)) a_nil)))) (g_name (pg_name (i := 3) sc__law_right.nd rfl (.inl rfl))) (ss_cons (s_for PassesOwn.never rfl (i_enum (by rfl) T.n_enumerate (e_add (e_var 3 (pv 3)) (e_var 2 (pv 2)))) (g_tup rfl (gs_cons (g_name (pg_name (i := 4) sc__law_right.nd rfl (.inr rfl))) (gs_cons (g_name (pg_name (i := 5) sc__law_right.nd rfl (.inl rfl))) gs_nil))) (ss_cons (s_if (PW.pt (w_or (t_ne hr.units (e_call (ok__law_marks T) (hr.mono (by decide)) hgd (by rfl) T.g__law_marks T.F__law_marks.kp T.b__law_marks pass0 (a_cons (e_var 5 (pv 5)) a_nil)) (e_fz (e_lc (own := [("_law_spot", 6)]) rfl sc__law_right.nd (i_range1 (by rfl) T.n_range e_int) (blkOk_by (own := [("_law_spot", 6)]) (N := N__law_right) (sc := defScope st__law_right) (by decide +kernel)) (fun _ _ _ _ _ => (gw_name rfl (pg_name (i := 6) sc__law_right.nd rfl (.inl rfl)) (by decide))) (fun _ _ _ _ _ => ts_yes) (fun _ _ _ _ _ => (e_eq hr.units (e_var 6 (pv 6)) (e_var 4 (pv 4))))))) (w_or1 (t_not (t_val (e_isiX (cn := "RoundingError") (cV := .ref T.C_RoundingError) T.is_RoundingError (fun _ h => h) (by rfl) T.n_isinstance (e_asX (e_var 5 (pv 5))) (pe_glob (v := .ref T.C_RoundingError) (by rfl) T.g_RoundingError rfl))))))) (ss_one (s_ret e_bl)) ss_nil)
    (ss_one (s_if (t_not (t_val (e_isiX (cn := "ValueError") (cV := .ty "ValueError") T.is_ValueError (fun _ h => h) (by rfl) T.n_isinstance (e_asX (e_var 5 (pv 5))) (c_ty (by rfl) T.n_ValueError (by decide +kernel))))) (ss_one (s_ret e_bl)) ss_nil))))
    (ss_one (s_if (t_ne hr.units (e_reprX hr hgd (by rfl) T.n_repr (a_cons (e_fz (e_lc (own := [("_law_error", 5)]) rfl sc__law_right.nd (i_items (e_var 3 (pv 3))) (blkOk_by (own := [("_law_error", 5)]) (N := N__law_right) (sc := defScope st__law_right) (by decide +kernel)) (fun _ _ _ _ _ => (gw_name rfl (pg_name (i := 5) sc__law_right.nd rfl (.inl rfl)) (by decide))) (fun _ _ _ _ _ => ts_yes) (fun _ _ _ _ _ => (e_xval T.hv (e_asX (e_var 5 (pv 5))))))) a_nil)) (e_reprX hr hgd (by rfl) T.n_repr (a_cons (e_mulL (e_fz (e_lstL (a_cons (e_var 1 (pv 1)) a_nil))) e_int) a_nil))) (ss_one (s_ret e_bl)) ss_nil))))
    (ss_one (s_ret e_bl)))))
theorem ok__law_right (T : Tx w K mg) : Fn P w K mg base CX0 5 T.f__law_right T.fd__law_right ["_law_source_here"] (lift K 1 fs__law_right) := fn_data T.F__law_right sc__law_right b__law_right (fun _ _ _ _ _ _ hr hgd => d__law_right T hr hgd) p__law_right
end
def b_law : DS :=
  (dRet (dCB cAll (dCons (dFz (dLc [1] (dRange1 (dCB oMax (dCons (dC (.int 1)) (dCons (dCB oMin (dCons (dCB cLen (dCons (dVar 0) dNil)) (dCons (dC (.int 2)) dNil))) dNil)))) (dN 1) dYes (dCallS 1 1000000 fs__law_right (dCallL 2 fs__law_source (dCons (dVar 0) (dCons (dVar 1) dNil))) []))) dNil)))
def fs_law : FSp := fun rs fu post => ∃ ns : List Int, rs = [.scr ns] ∧ post (.val (.bool true)) fu
theorem p_law (rs : List Rv) (fu : Option Nat) (post : Rr → Option Nat → Prop) (hl : rs.length = 1) (h : fs_law rs fu post) : b_law ⟨fun g => post (.val .none) g.fu, fun r g => post r g.fu, fun _ => False, fun _ => False⟩ (ent N_law rs fu) := by
  obtain ⟨ns, rfl, h⟩ := h
  simp only [↓dSeq,↓dAsg,↓dNext,↓dIfS,↓dRet,↓dRetL,↓dVar,↓dC,↓dBin,↓fI,↓fI0,↓fAdd,↓fEq,↓fNe,↓dTest,↓dOrT,↓dNotT,↓dIf,↓dNeg,↓dNil,↓dCons,↓dTup,↓dLst,↓dFz,↓valsD,↓dIx,↓dCall,↓dCallL,↓hasSrc,↓rrv,↓dN,↓dT,↓dTn,↓dTc,↓rsv,↓Gs.set,↓dFor,↓dItems,↓dRange1,↓dLc,↓dCB,↓cLen,↓cAll,↓cInt1,↓cInt2,↓dCallS,↓oMul,↓oMod,↓oPow,↓oLt,↓oGe,↓oAbs,↓oMax,↓oMin,↓fMulL,↓dD0,↓dD1,↓dEnum,↓cReprX,↓dXval,↓gAs,↓Gs.unset,↓rtN,↓lamF,↓gLam,↓plainO,↓dIsiX,↓Z.isNon,↓dAsX,↓dMkX,↓dMk0,b_law,ent,svOf,List.map_cons,List.map_nil,List.cons_append,List.nil_append,List.append_nil,List.replicate,List.length_cons,List.length_nil,List.getElem?_cons_zero,List.getElem?_cons_succ,List.getElem?_nil,List.set_cons_zero,List.set_cons_succ,Option.map_some,Option.map_none,Option.isNone_some,Option.isNone_none,forall_const,true_implies,false_implies,and_true,true_and,Bool.true_eq_false,Bool.false_eq_true,reduceCtorEq,noOwn,wipeS,hide,fuN_self,lcD,dYes,Nat.zero_add,Nat.reduceAdd,Nat.reduceLeDiff,Nat.reduceSub,atI_0,atI_1,atI_2,atI_3,atI_4,atI_5,Int.one_mul,eqv_ii,eqv_ss,eqv_num,shaped_int,shaped_num,shaped_none,shaped_ru,flat_str,flat_int,flat_none,List.all_cons,List.all_nil,Bool.and_true,decide_eq_true_eq,decide_eq_false_iff_not,Bool.not_eq_true',Bool.not_eq_false',Decidable.not_not,↓reduceIte,Bool.false_eq_true,Int.reduceLT,eqv_strs,pick_0,pick_01,pick_10,pick_012,pick_021,pick_102,pick_120,pick_201,pick_210]
  generalize hj : (if (1 : Int) < _ then _ else _ : Int) = j
  have j0 : j ≤ 2 ∧ 0 ≤ j := by subst hj; split <;> (try split) <;> omega
  refine ⟨by omega, by omega, lc_map (fun _ => .bool true) (fun x hx R hR => ?_) ?_ ?_⟩
  · obtain ⟨i, rfl, i0, i1⟩ := rangeD_mem hx
    simp only [↓dSeq,↓dAsg,↓dNext,↓dIfS,↓dRet,↓dRetL,↓dVar,↓dC,↓dBin,↓fI,↓fI0,↓fAdd,↓fEq,↓fNe,↓dTest,↓dOrT,↓dNotT,↓dIf,↓dNeg,↓dNil,↓dCons,↓dTup,↓dLst,↓dFz,↓valsD,↓dIx,↓dCall,↓dCallL,↓hasSrc,↓rrv,↓dN,↓dT,↓dTn,↓dTc,↓rsv,↓Gs.set,↓dFor,↓dItems,↓dRange1,↓dLc,↓dCB,↓cLen,↓cAll,↓cInt1,↓cInt2,↓dCallS,↓oMul,↓oMod,↓oPow,↓oLt,↓oGe,↓oAbs,↓oMax,↓oMin,↓fMulL,↓dD0,↓dD1,↓dEnum,↓cReprX,↓dXval,↓gAs,↓Gs.unset,↓rtN,↓lamF,↓gLam,↓plainO,↓dIsiX,↓Z.isNon,↓dAsX,↓dMkX,↓dMk0,fs__law_source,fs__law_right,ent,svOf,List.map_cons,List.map_nil,List.cons_append,List.nil_append,List.append_nil,List.replicate,List.length_cons,List.length_nil,List.getElem?_cons_zero,List.getElem?_cons_succ,List.getElem?_nil,List.set_cons_zero,List.set_cons_succ,Option.map_some,Option.map_none,Option.isNone_some,Option.isNone_none,forall_const,true_implies,false_implies,and_true,true_and,Bool.true_eq_false,Bool.false_eq_true,reduceCtorEq,noOwn,wipeS,hide,fuN_self,lcD,dYes,Nat.zero_add,Nat.reduceAdd,Nat.reduceLeDiff,Nat.reduceSub,atI_0,atI_1,atI_2,atI_3,atI_4,atI_5,Int.one_mul,eqv_ii,eqv_ss,eqv_num,shaped_int,shaped_num,shaped_none,shaped_ru,flat_str,flat_int,flat_none,List.all_cons,List.all_nil,Bool.and_true,decide_eq_true_eq,decide_eq_false_iff_not,Bool.not_eq_true',Bool.not_eq_false',Decidable.not_not,↓reduceIte,Bool.false_eq_true,Int.reduceLT,eqv_strs,pick_0,pick_01,pick_10,pick_012,pick_021,pick_102,pick_120,pick_201,pick_210]
    exact ⟨ns, i, rfl, i0, by omega, fun x y hx0 hx hy0 hy => ⟨⟨x, y, 0, rfl, hx0, hx, hy0, hy, by decide, by decide⟩, 999993, rfl, hR _ rfl⟩⟩
  · simp [rangeD]; omega
  · rw [List.nil_append, boolsD_true]
    simp only [all_true]
    exact h
theorem law_true (ns : List Int) (hn : ns.length ≤ 63) : fs_law [.scr ns] none fun r _ => r = .val (.bool true) := ⟨ns, rfl, rfl⟩
section
variable {P : Program} {w : World} {K : Fg} {mg : Str → Option Value} {base : Heap}
theorem d_law (T : Tx w K mg) {cdv : Value} {A : Around} {outer : List Env} {s : Shared} {H : Hp} {E : XK} (hr : Room 5 (A.deeper (envOfC "law" (defScope st_law) s.heap.objs.size T.f_law cdv))) (hgd : (A.deeper (envOfC "law" (defScope st_law) s.heap.objs.size T.f_law cdv)).guards = some []) :
    PSs (cxOf CX0 P w K mg base N_law "law" (defScope st_law) T.f_law cdv A outer s H E).nox (defBody st_law) (upS K W0 b_law) :=
  (ss_one (s_ret (e_all rfl (by rfl) T.n_all (a_cons (e_fz (e_lc (own := [("_law_k", 1)]) rfl sc_law.nd (i_range1 (by rfl) T.n_range (e_max rfl (by rfl) T.n_max (a_cons e_int (a_cons (e_min rfl (by rfl) T.n_min (a_cons (e_len (by rfl) T.n_len (a_cons (e_var 0 (pv 0)) a_nil)) (a_cons e_int a_nil))) a_nil)))) (blkOk_by (own := [("_law_k", 1)]) (N := N_law) (sc := defScope st_law) (by decide +kernel)) (fun _ _ _ _ _ => (gw_name rfl (pg_name (i := 1) sc_law.nd rfl (.inl rfl)) (by decide))) (fun _ _ _ _ _ => ts_yes) (fun _ _ _ _ _ => (e_callS 1000000 (ok__law_right T) (hr.mono (by decide)) hgd (by rfl) T.g__law_right T.F__law_right.kp T.b__law_right pass0 (e_callL (ok__law_source T) (hr.mono (by decide)) hgd (by rfl) T.g__law_source T.F__law_source.kp T.b__law_source pass0 (a_cons (e_var 0 (pv 0)) (a_cons (e_var 1 (pv 1)) a_nil))) as_nil (fun _ _ _ => .nil))))) a_nil))))
theorem ok_law (T : Tx w K mg) : Fn P w K mg base CX0 6 T.f_law T.fd_law ["_law_script"] (lift K 1 fs_law) := fn_data T.F_law sc_law b_law (fun _ _ _ _ _ _ hr hgd => d_law T hr hgd) p_law
end
def mkTx {w : World} {K : Fg} {h : Heap} {mg : Str → Option Value} (X : K.In h) (G : h.Ns mainGlobals mg) {C_RoundingError : Addr} {C_DifferentWidths : Addr} {nm_DifferentWidths q_DifferentWidths : Str} {N_DifferentWidths : Addr} {bs_DifferentWidths bm_DifferentWidths : List Value} {sn_DifferentWidths : List Str} {sub_DifferentWidths : List Value} {ab_DifferentWidths : Bool} {col_DifferentWidths : Option Bool} {dd_DifferentWidths : Option Addr} {k0_DifferentWidths k1_DifferentWidths k2_DifferentWidths k3_DifferentWidths k5_DifferentWidths : Option Value} {C_InvalidChain : Addr} {nm_InvalidChain q_InvalidChain : Str} {N_InvalidChain : Addr} {bs_InvalidChain bm_InvalidChain : List Value} {sn_InvalidChain : List Str} {sub_InvalidChain : List Value} {ab_InvalidChain : Bool} {col_InvalidChain : Option Bool} {dd_InvalidChain : Option Addr} {k0_InvalidChain k1_InvalidChain k2_InvalidChain k3_InvalidChain k5_InvalidChain : Option Value} {C_InvalidExponent : Addr} {nm_InvalidExponent q_InvalidExponent : Str} {N_InvalidExponent : Addr} {bs_InvalidExponent bm_InvalidExponent : List Value} {sn_InvalidExponent : List Str} {sub_InvalidExponent : List Value} {ab_InvalidExponent : Bool} {col_InvalidExponent : Option Bool} {dd_InvalidExponent : Option Addr} {k0_InvalidExponent k1_InvalidExponent k2_InvalidExponent k3_InvalidExponent k5_InvalidExponent : Option Value} {C_InvalidKind : Addr} {nm_InvalidKind q_InvalidKind : Str} {N_InvalidKind : Addr} {bs_InvalidKind bm_InvalidKind : List Value} {sn_InvalidKind : List Str} {sub_InvalidKind : List Value} {ab_InvalidKind : Bool} {col_InvalidKind : Option Bool} {dd_InvalidKind : Option Addr} {k0_InvalidKind k1_InvalidKind k2_InvalidKind k3_InvalidKind k5_InvalidKind : Option Value} {C_InvalidLine : Addr} {nm_InvalidLine q_InvalidLine : Str} {N_InvalidLine : Addr} {bs_InvalidLine bm_InvalidLine : List Value} {sn_InvalidLine : List Str} {sub_InvalidLine : List Value} {ab_InvalidLine : Bool} {col_InvalidLine : Option Bool} {dd_InvalidLine : Option Addr} {k0_InvalidLine k1_InvalidLine k2_InvalidLine k3_InvalidLine k5_InvalidLine : Option Value} {C_InvalidName : Addr} {nm_InvalidName q_InvalidName : Str} {N_InvalidName : Addr} {bs_InvalidName bm_InvalidName : List Value} {sn_InvalidName : List Str} {sub_InvalidName : List Value} {ab_InvalidName : Bool} {col_InvalidName : Option Bool} {dd_InvalidName : Option Addr} {k0_InvalidName k1_InvalidName k2_InvalidName k3_InvalidName k5_InvalidName : Option Value} {C_InvalidNumber : Addr} {nm_InvalidNumber q_InvalidNumber : Str} {N_InvalidNumber : Addr} {bs_InvalidNumber bm_InvalidNumber : List Value} {sn_InvalidNumber : List Str} {sub_InvalidNumber : List Value} {ab_InvalidNumber : Bool} {col_InvalidNumber : Option Bool} {dd_InvalidNumber : Option Addr} {k0_InvalidNumber k1_InvalidNumber k2_InvalidNumber k3_InvalidNumber k5_InvalidNumber : Option Value} {C_InvalidRange : Addr} {nm_InvalidRange q_InvalidRange : Str} {N_InvalidRange : Addr} {bs_InvalidRange bm_InvalidRange : List Value} {sn_InvalidRange : List Str} {sub_InvalidRange : List Value} {ab_InvalidRange : Bool} {col_InvalidRange : Option Bool} {dd_InvalidRange : Option Addr} {k0_InvalidRange k1_InvalidRange k2_InvalidRange k3_InvalidRange k5_InvalidRange : Option Value} {C_InvalidRule : Addr} {nm_InvalidRule q_InvalidRule : Str} {N_InvalidRule : Addr} {bs_InvalidRule bm_InvalidRule : List Value} {sn_InvalidRule : List Str} {sub_InvalidRule : List Value} {ab_InvalidRule : Bool} {col_InvalidRule : Option Bool} {dd_InvalidRule : Option Addr} {k0_InvalidRule k1_InvalidRule k2_InvalidRule k3_InvalidRule k5_InvalidRule : Option Value} {C_InvalidShift : Addr} {nm_InvalidShift q_InvalidShift : Str} {N_InvalidShift : Addr} {bs_InvalidShift bm_InvalidShift : List Value} {sn_InvalidShift : List Str} {sub_InvalidShift : List Value} {ab_InvalidShift : Bool} {col_InvalidShift : Option Bool} {dd_InvalidShift : Option Addr} {k0_InvalidShift k1_InvalidShift k2_InvalidShift k3_InvalidShift k5_InvalidShift : Option Value} {C_InvalidText : Addr} {nm_InvalidText q_InvalidText : Str} {N_InvalidText : Addr} {bs_InvalidText bm_InvalidText : List Value} {sn_InvalidText : List Str} {sub_InvalidText : List Value} {ab_InvalidText : Bool} {col_InvalidText : Option Bool} {dd_InvalidText : Option Addr} {k0_InvalidText k1_InvalidText k2_InvalidText k3_InvalidText k5_InvalidText : Option Value} {C_InvalidThresholds : Addr} {nm_InvalidThresholds q_InvalidThresholds : Str} {N_InvalidThresholds : Addr} {bs_InvalidThresholds bm_InvalidThresholds : List Value} {sn_InvalidThresholds : List Str} {sub_InvalidThresholds : List Value} {ab_InvalidThresholds : Bool} {col_InvalidThresholds : Option Bool} {dd_InvalidThresholds : Option Addr} {k0_InvalidThresholds k1_InvalidThresholds k2_InvalidThresholds k3_InvalidThresholds k5_InvalidThresholds : Option Value} {C_InvalidWidth : Addr} {nm_InvalidWidth q_InvalidWidth : Str} {N_InvalidWidth : Addr} {bs_InvalidWidth bm_InvalidWidth : List Value} {sn_InvalidWidth : List Str} {sub_InvalidWidth : List Value} {ab_InvalidWidth : Bool} {col_InvalidWidth : Option Bool} {dd_InvalidWidth : Option Addr} {k0_InvalidWidth k1_InvalidWidth k2_InvalidWidth k3_InvalidWidth k5_InvalidWidth : Option Value} {C_NoBench : Addr} {nm_NoBench q_NoBench : Str} {N_NoBench : Addr} {bs_NoBench bm_NoBench : List Value} {sn_NoBench : List Str} {sub_NoBench : List Value} {ab_NoBench : Bool} {col_NoBench : Option Bool} {dd_NoBench : Option Addr} {k0_NoBench k1_NoBench k2_NoBench k3_NoBench k5_NoBench : Option Value} {C_NotExact : Addr} {nm_NotExact q_NotExact : Str} {N_NotExact : Addr} {bs_NotExact bm_NotExact : List Value} {sn_NotExact : List Str} {sub_NotExact : List Value} {ab_NotExact : Bool} {col_NotExact : Option Bool} {dd_NotExact : Option Addr} {k0_NotExact k1_NotExact k2_NotExact k3_NotExact k5_NotExact : Option Value} {C_NothingToUndo : Addr} {nm_NothingToUndo q_NothingToUndo : Str} {N_NothingToUndo : Addr} {bs_NothingToUndo bm_NothingToUndo : List Value} {sn_NothingToUndo : List Str} {sub_NothingToUndo : List Value} {ab_NothingToUndo : Bool} {col_NothingToUndo : Option Bool} {dd_NothingToUndo : Option Addr} {k0_NothingToUndo k1_NothingToUndo k2_NothingToUndo k3_NothingToUndo k5_NothingToUndo : Option Value} {C_OutOfRange : Addr} {nm_OutOfRange q_OutOfRange : Str} {N_OutOfRange : Addr} {bs_OutOfRange bm_OutOfRange : List Value} {sn_OutOfRange : List Str} {sub_OutOfRange : List Value} {ab_OutOfRange : Bool} {col_OutOfRange : Option Bool} {dd_OutOfRange : Option Addr} {k0_OutOfRange k1_OutOfRange k2_OutOfRange k3_OutOfRange k5_OutOfRange : Option Value} {C_UnknownName : Addr} {nm_UnknownName q_UnknownName : Str} {N_UnknownName : Addr} {bs_UnknownName bm_UnknownName : List Value} {sn_UnknownName : List Str} {sub_UnknownName : List Value} {ab_UnknownName : Bool} {col_UnknownName : Option Bool} {dd_UnknownName : Option Addr} {k0_UnknownName k1_UnknownName k2_UnknownName k3_UnknownName k5_UnknownName : Option Value} {C_ZeroResult : Addr} {nm_ZeroResult q_ZeroResult : Str} {N_ZeroResult : Addr} {bs_ZeroResult bm_ZeroResult : List Value} {sn_ZeroResult : List Str} {sub_ZeroResult : List Value} {ab_ZeroResult : Bool} {col_ZeroResult : Option Bool} {dd_ZeroResult : Option Addr} {k0_ZeroResult k1_ZeroResult k2_ZeroResult k3_ZeroResult k5_ZeroResult : Option Value} {f0 : Addr} {od0 an0 : Option Addr} {sl0 : Array (Option Value)} {oc0 kV0 dc0 pm0 cd0 ct0 : Value} {f1 : Addr} {od1 an1 : Option Addr} {sl1 : Array (Option Value)} {oc1 kV1 dc1 pm1 cd1 ct1 : Value} {f2 : Addr} {od2 an2 : Option Addr} {sl2 : Array (Option Value)} {oc2 kV2 dc2 pm2 cd2 ct2 : Value} {f3 : Addr} {od3 an3 : Option Addr} {sl3 : Array (Option Value)} {oc3 kV3 dc3 pm3 cd3 ct3 : Value} {f4 : Addr} {od4 an4 : Option Addr} {sl4 : Array (Option Value)} {oc4 kV4 dc4 pm4 cd4 ct4 : Value} {f5 : Addr} {od5 an5 : Option Addr} {sl5 : Array (Option Value)} {oc5 kV5 dc5 pm5 cd5 ct5 : Value} {f6 : Addr} {od6 an6 : Option Addr} {sl6 : Array (Option Value)} {oc6 kV6 dc6 pm6 cd6 ct6 : Value} {f7 : Addr} {od7 an7 : Option Addr} {sl7 : Array (Option Value)} {oc7 kV7 dc7 pm7 cd7 ct7 : Value} {f8 : Addr} {od8 an8 : Option Addr} {sl8 : Array (Option Value)} {oc8 kV8 dc8 pm8 cd8 ct8 : Value} {f9 : Addr} {od9 an9 : Option Addr} {sl9 : Array (Option Value)} {oc9 kV9 dc9 pm9 cd9 ct9 : Value} {f10 : Addr} {od10 an10 : Option Addr} {sl10 : Array (Option Value)} {oc10 kV10 dc10 pm10 cd10 ct10 : Value} {f11 : Addr} {od11 an11 : Option Addr} {sl11 : Array (Option Value)} {oc11 kV11 dc11 pm11 cd11 ct11 : Value} {f12 : Addr} {od12 an12 : Option Addr} {sl12 : Array (Option Value)} {oc12 kV12 dc12 pm12 cd12 ct12 : Value} {f13 : Addr} {od13 an13 : Option Addr} {sl13 : Array (Option Value)} {oc13 kV13 dc13 pm13 cd13 ct13 : Value} {f14 : Addr} {od14 an14 : Option Addr} {sl14 : Array (Option Value)} {oc14 kV14 dc14 pm14 cd14 ct14 : Value} {f15 : Addr} {od15 an15 : Option Addr} {sl15 : Array (Option Value)} {oc15 kV15 dc15 pm15 cd15 ct15 : Value} {f16 : Addr} {od16 an16 : Option Addr} {sl16 : Array (Option Value)} {oc16 kV16 dc16 pm16 cd16 ct16 : Value} {f17 : Addr} {od17 an17 : Option Addr} {sl17 : Array (Option Value)} {oc17 kV17 dc17 pm17 cd17 ct17 : Value} {f18 : Addr} {od18 an18 : Option Addr} {sl18 : Array (Option Value)} {oc18 kV18 dc18 pm18 cd18 ct18 : Value} {f19 : Addr} {od19 an19 : Option Addr} {sl19 : Array (Option Value)} {oc19 kV19 dc19 pm19 cd19 ct19 : Value} {f20 : Addr} {od20 an20 : Option Addr} {sl20 : Array (Option Value)} {oc20 kV20 dc20 pm20 cd20 ct20 : Value} {f21 : Addr} {od21 an21 : Option Addr} {sl21 : Array (Option Value)} {oc21 kV21 dc21 pm21 cd21 ct21 : Value} {f22 : Addr} {od22 an22 : Option Addr} {sl22 : Array (Option Value)} {oc22 kV22 dc22 pm22 cd22 ct22 : Value} {f23 : Addr} {od23 an23 : Option Addr} {sl23 : Array (Option Value)} {oc23 kV23 dc23 pm23 cd23 ct23 : Value} {f24 : Addr} {od24 an24 : Option Addr} {sl24 : Array (Option Value)} {oc24 kV24 dc24 pm24 cd24 ct24 : Value} {f25 : Addr} {od25 an25 : Option Addr} {sl25 : Array (Option Value)} {oc25 kV25 dc25 pm25 cd25 ct25 : Value} {f26 : Addr} {od26 an26 : Option Addr} {sl26 : Array (Option Value)} {oc26 kV26 dc26 pm26 cd26 ct26 : Value} {f27 : Addr} {od27 an27 : Option Addr} {sl27 : Array (Option Value)} {oc27 kV27 dc27 pm27 cd27 ct27 : Value} 
    (a0 : PySem.W.findIn K (.ref C_NoBench) "__init__" = some (some (.ref f0))) (i0 : PySem.W.isFn K (.ref f0) = true)
    (l0 : K.lookup f0 = some ⟨oc0, od0, .func (PySem.W.fnOf "__init__" "NoBench.__init__" (defArgs st_NoBench_init) (defBody st_NoBench_init) (defScope st_NoBench_init) .none kV0 dc0 pm0 an0 cd0 ct0), sl0⟩) (c0 : PySem.W.codeIn K cd0 "NoBench.__init__" = true) (k0 : PySem.W.keepIn K (.ref f0) = true)
    (a1 : PySem.W.findIn K (.ref C_NothingToUndo) "__init__" = some (some (.ref f1))) (i1 : PySem.W.isFn K (.ref f1) = true)
    (l1 : K.lookup f1 = some ⟨oc1, od1, .func (PySem.W.fnOf "__init__" "NothingToUndo.__init__" (defArgs st_NothingToUndo_init) (defBody st_NothingToUndo_init) (defScope st_NothingToUndo_init) .none kV1 dc1 pm1 an1 cd1 ct1), sl1⟩) (c1 : PySem.W.codeIn K cd1 "NothingToUndo.__init__" = true) (k1 : PySem.W.keepIn K (.ref f1) = true)
    (a2 : PySem.W.findIn K (.ref C_OutOfRange) "__init__" = some (some (.ref f2))) (i2 : PySem.W.isFn K (.ref f2) = true)
    (l2 : K.lookup f2 = some ⟨oc2, od2, .func (PySem.W.fnOf "__init__" "OutOfRange.__init__" (defArgs st_OutOfRange_init) (defBody st_OutOfRange_init) (defScope st_OutOfRange_init) .none kV2 dc2 pm2 an2 cd2 ct2), sl2⟩) (c2 : PySem.W.codeIn K cd2 "OutOfRange.__init__" = true) (k2 : PySem.W.keepIn K (.ref f2) = true)
    (a3 : PySem.W.findIn K (.ref C_ZeroResult) "__init__" = some (some (.ref f3))) (i3 : PySem.W.isFn K (.ref f3) = true)
    (l3 : K.lookup f3 = some ⟨oc3, od3, .func (PySem.W.fnOf "__init__" "ZeroResult.__init__" (defArgs st_ZeroResult_init) (defBody st_ZeroResult_init) (defScope st_ZeroResult_init) .none kV3 dc3 pm3 an3 cd3 ct3), sl3⟩) (c3 : PySem.W.codeIn K cd3 "ZeroResult.__init__" = true) (k3 : PySem.W.keepIn K (.ref f3) = true)
    (a4 : PySem.W.findIn K (.ref C_DifferentWidths) "__init__" = some (some (.ref f4))) (i4 : PySem.W.isFn K (.ref f4) = true)
    (l4 : K.lookup f4 = some ⟨oc4, od4, .func (PySem.W.fnOf "__init__" "DifferentWidths.__init__" (defArgs st_DifferentWidths_init) (defBody st_DifferentWidths_init) (defScope st_DifferentWidths_init) .none kV4 dc4 pm4 an4 cd4 ct4), sl4⟩) (c4 : PySem.W.codeIn K cd4 "DifferentWidths.__init__" = true) (k4 : PySem.W.keepIn K (.ref f4) = true)
    (a5 : PySem.W.findIn K (.ref C_InvalidLine) "__init__" = some (some (.ref f5))) (i5 : PySem.W.isFn K (.ref f5) = true)
    (l5 : K.lookup f5 = some ⟨oc5, od5, .func (PySem.W.fnOf "__init__" "InvalidLine.__init__" (defArgs st_InvalidLine_init) (defBody st_InvalidLine_init) (defScope st_InvalidLine_init) .none kV5 dc5 pm5 an5 cd5 ct5), sl5⟩) (c5 : PySem.W.codeIn K cd5 "InvalidLine.__init__" = true) (k5 : PySem.W.keepIn K (.ref f5) = true)
    (a6 : PySem.W.findIn K (.ref C_InvalidText) "__init__" = some (some (.ref f6))) (i6 : PySem.W.isFn K (.ref f6) = true)
    (l6 : K.lookup f6 = some ⟨oc6, od6, .func (PySem.W.fnOf "__init__" "InvalidText.__init__" (defArgs st_InvalidText_init) (defBody st_InvalidText_init) (defScope st_InvalidText_init) .none kV6 dc6 pm6 an6 cd6 ct6), sl6⟩) (c6 : PySem.W.codeIn K cd6 "InvalidText.__init__" = true) (k6 : PySem.W.keepIn K (.ref f6) = true)
    (a7 : PySem.W.findIn K (.ref C_NotExact) "__init__" = some (some (.ref f7))) (i7 : PySem.W.isFn K (.ref f7) = true)
    (l7 : K.lookup f7 = some ⟨oc7, od7, .func (PySem.W.fnOf "__init__" "NotExact.__init__" (defArgs st_NotExact_init) (defBody st_NotExact_init) (defScope st_NotExact_init) .none kV7 dc7 pm7 an7 cd7 ct7), sl7⟩) (c7 : PySem.W.codeIn K cd7 "NotExact.__init__" = true) (k7 : PySem.W.keepIn K (.ref f7) = true)
    (a8 : PySem.W.findIn K (.ref C_UnknownName) "__init__" = some (some (.ref f8))) (i8 : PySem.W.isFn K (.ref f8) = true)
    (l8 : K.lookup f8 = some ⟨oc8, od8, .func (PySem.W.fnOf "__init__" "UnknownName.__init__" (defArgs st_UnknownName_init) (defBody st_UnknownName_init) (defScope st_UnknownName_init) .none kV8 dc8 pm8 an8 cd8 ct8), sl8⟩) (c8 : PySem.W.codeIn K cd8 "UnknownName.__init__" = true) (k8 : PySem.W.keepIn K (.ref f8) = true)
    (a9 : PySem.W.findIn K (.ref C_InvalidName) "__init__" = some (some (.ref f9))) (i9 : PySem.W.isFn K (.ref f9) = true)
    (l9 : K.lookup f9 = some ⟨oc9, od9, .func (PySem.W.fnOf "__init__" "InvalidName.__init__" (defArgs st_InvalidName_init) (defBody st_InvalidName_init) (defScope st_InvalidName_init) .none kV9 dc9 pm9 an9 cd9 ct9), sl9⟩) (c9 : PySem.W.codeIn K cd9 "InvalidName.__init__" = true) (k9 : PySem.W.keepIn K (.ref f9) = true)
    (a10 : PySem.W.findIn K (.ref C_InvalidKind) "__init__" = some (some (.ref f10))) (i10 : PySem.W.isFn K (.ref f10) = true)
    (l10 : K.lookup f10 = some ⟨oc10, od10, .func (PySem.W.fnOf "__init__" "InvalidKind.__init__" (defArgs st_InvalidKind_init) (defBody st_InvalidKind_init) (defScope st_InvalidKind_init) .none kV10 dc10 pm10 an10 cd10 ct10), sl10⟩) (c10 : PySem.W.codeIn K cd10 "InvalidKind.__init__" = true) (k10 : PySem.W.keepIn K (.ref f10) = true)
    (a11 : PySem.W.findIn K (.ref C_InvalidShift) "__init__" = some (some (.ref f11))) (i11 : PySem.W.isFn K (.ref f11) = true)
    (l11 : K.lookup f11 = some ⟨oc11, od11, .func (PySem.W.fnOf "__init__" "InvalidShift.__init__" (defArgs st_InvalidShift_init) (defBody st_InvalidShift_init) (defScope st_InvalidShift_init) .none kV11 dc11 pm11 an11 cd11 ct11), sl11⟩) (c11 : PySem.W.codeIn K cd11 "InvalidShift.__init__" = true) (k11 : PySem.W.keepIn K (.ref f11) = true)
    (a12 : PySem.W.findIn K (.ref C_InvalidExponent) "__init__" = some (some (.ref f12))) (i12 : PySem.W.isFn K (.ref f12) = true)
    (l12 : K.lookup f12 = some ⟨oc12, od12, .func (PySem.W.fnOf "__init__" "InvalidExponent.__init__" (defArgs st_InvalidExponent_init) (defBody st_InvalidExponent_init) (defScope st_InvalidExponent_init) .none kV12 dc12 pm12 an12 cd12 ct12), sl12⟩) (c12 : PySem.W.codeIn K cd12 "InvalidExponent.__init__" = true) (k12 : PySem.W.keepIn K (.ref f12) = true)
    (a13 : PySem.W.findIn K (.ref C_InvalidRange) "__init__" = some (some (.ref f13))) (i13 : PySem.W.isFn K (.ref f13) = true)
    (l13 : K.lookup f13 = some ⟨oc13, od13, .func (PySem.W.fnOf "__init__" "InvalidRange.__init__" (defArgs st_InvalidRange_init) (defBody st_InvalidRange_init) (defScope st_InvalidRange_init) .none kV13 dc13 pm13 an13 cd13 ct13), sl13⟩) (c13 : PySem.W.codeIn K cd13 "InvalidRange.__init__" = true) (k13 : PySem.W.keepIn K (.ref f13) = true)
    (a14 : PySem.W.findIn K (.ref C_InvalidThresholds) "__init__" = some (some (.ref f14))) (i14 : PySem.W.isFn K (.ref f14) = true)
    (l14 : K.lookup f14 = some ⟨oc14, od14, .func (PySem.W.fnOf "__init__" "InvalidThresholds.__init__" (defArgs st_InvalidThresholds_init) (defBody st_InvalidThresholds_init) (defScope st_InvalidThresholds_init) .none kV14 dc14 pm14 an14 cd14 ct14), sl14⟩) (c14 : PySem.W.codeIn K cd14 "InvalidThresholds.__init__" = true) (k14 : PySem.W.keepIn K (.ref f14) = true)
    (a15 : PySem.W.findIn K (.ref C_InvalidChain) "__init__" = some (some (.ref f15))) (i15 : PySem.W.isFn K (.ref f15) = true)
    (l15 : K.lookup f15 = some ⟨oc15, od15, .func (PySem.W.fnOf "__init__" "InvalidChain.__init__" (defArgs st_InvalidChain_init) (defBody st_InvalidChain_init) (defScope st_InvalidChain_init) .none kV15 dc15 pm15 an15 cd15 ct15), sl15⟩) (c15 : PySem.W.codeIn K cd15 "InvalidChain.__init__" = true) (k15 : PySem.W.keepIn K (.ref f15) = true)
    (a16 : PySem.W.findIn K (.ref C_InvalidRule) "__init__" = some (some (.ref f16))) (i16 : PySem.W.isFn K (.ref f16) = true)
    (l16 : K.lookup f16 = some ⟨oc16, od16, .func (PySem.W.fnOf "__init__" "InvalidRule.__init__" (defArgs st_InvalidRule_init) (defBody st_InvalidRule_init) (defScope st_InvalidRule_init) .none kV16 dc16 pm16 an16 cd16 ct16), sl16⟩) (c16 : PySem.W.codeIn K cd16 "InvalidRule.__init__" = true) (k16 : PySem.W.keepIn K (.ref f16) = true)
    (a17 : PySem.W.findIn K (.ref C_InvalidWidth) "__init__" = some (some (.ref f17))) (i17 : PySem.W.isFn K (.ref f17) = true)
    (l17 : K.lookup f17 = some ⟨oc17, od17, .func (PySem.W.fnOf "__init__" "InvalidWidth.__init__" (defArgs st_InvalidWidth_init) (defBody st_InvalidWidth_init) (defScope st_InvalidWidth_init) .none kV17 dc17 pm17 an17 cd17 ct17), sl17⟩) (c17 : PySem.W.codeIn K cd17 "InvalidWidth.__init__" = true) (k17 : PySem.W.keepIn K (.ref f17) = true)
    (a18 : PySem.W.findIn K (.ref C_InvalidNumber) "__init__" = some (some (.ref f18))) (i18 : PySem.W.isFn K (.ref f18) = true)
    (l18 : K.lookup f18 = some ⟨oc18, od18, .func (PySem.W.fnOf "__init__" "InvalidNumber.__init__" (defArgs st_InvalidNumber_init) (defBody st_InvalidNumber_init) (defScope st_InvalidNumber_init) .none kV18 dc18 pm18 an18 cd18 ct18), sl18⟩) (c18 : PySem.W.codeIn K cd18 "InvalidNumber.__init__" = true) (k18 : PySem.W.keepIn K (.ref f18) = true)
    (a19 : PySem.W.nsIn K mainGlobals "_law_source" = some (some (.ref f19)))
    (l19 : K.lookup f19 = some ⟨oc19, od19, .func (PySem.W.fnOf "_law_source" "_law_source" (defArgs st__law_source) (defBody st__law_source) (defScope st__law_source) .none kV19 dc19 pm19 an19 cd19 ct19), sl19⟩) (c19 : PySem.W.codeIn K cd19 "_law_source" = true) (k19 : PySem.W.keepIn K (.ref f19) = true)
    (a20 : PySem.W.nsIn K mainGlobals "_law_draw" = some (some (.ref f20)))
    (l20 : K.lookup f20 = some ⟨oc20, od20, .func (PySem.W.fnOf "_law_draw" "_law_draw" (defArgs st__law_draw) (defBody st__law_draw) (defScope st__law_draw) .none kV20 dc20 pm20 an20 cd20 ct20), sl20⟩) (c20 : PySem.W.codeIn K cd20 "_law_draw" = true) (k20 : PySem.W.keepIn K (.ref f20) = true)
    (a21 : PySem.W.nsIn K mainGlobals "_law_pick" = some (some (.ref f21)))
    (l21 : K.lookup f21 = some ⟨oc21, od21, .func (PySem.W.fnOf "_law_pick" "_law_pick" (defArgs st__law_pick) (defBody st__law_pick) (defScope st__law_pick) .none kV21 dc21 pm21 an21 cd21 ct21), sl21⟩) (c21 : PySem.W.codeIn K cd21 "_law_pick" = true) (k21 : PySem.W.keepIn K (.ref f21) = true)
    (a22 : PySem.W.nsIn K mainGlobals "_law_odd" = some (some (.ref f22)))
    (l22 : K.lookup f22 = some ⟨oc22, od22, .func (PySem.W.fnOf "_law_odd" "_law_odd" (defArgs st__law_odd) (defBody st__law_odd) (defScope st__law_odd) .none kV22 dc22 pm22 an22 cd22 ct22), sl22⟩) (c22 : PySem.W.codeIn K cd22 "_law_odd" = true) (k22 : PySem.W.keepIn K (.ref f22) = true)
    (a23 : PySem.W.nsIn K mainGlobals "_law_with_value" = some (some (.ref f23)))
    (l23 : K.lookup f23 = some ⟨oc23, od23, .func (PySem.W.fnOf "_law_with_value" "_law_with_value" (defArgs st__law_with_value) (defBody st__law_with_value) (defScope st__law_with_value) .none kV23 dc23 pm23 an23 cd23 ct23), sl23⟩) (c23 : PySem.W.codeIn K cd23 "_law_with_value" = true) (k23 : PySem.W.keepIn K (.ref f23) = true)
    (a24 : PySem.W.nsIn K mainGlobals "_law_by_name" = some (some (.ref f24)))
    (l24 : K.lookup f24 = some ⟨oc24, od24, .func (PySem.W.fnOf "_law_by_name" "_law_by_name" (defArgs st__law_by_name) (defBody st__law_by_name) (defScope st__law_by_name) .none kV24 dc24 pm24 an24 cd24 ct24), sl24⟩) (c24 : PySem.W.codeIn K cd24 "_law_by_name" = true) (k24 : PySem.W.keepIn K (.ref f24) = true)
    (a25 : PySem.W.nsIn K mainGlobals "_law_marks" = some (some (.ref f25)))
    (l25 : K.lookup f25 = some ⟨oc25, od25, .func (PySem.W.fnOf "_law_marks" "_law_marks" (defArgs st__law_marks) (defBody st__law_marks) (defScope st__law_marks) .none kV25 dc25 pm25 an25 cd25 ct25), sl25⟩) (c25 : PySem.W.codeIn K cd25 "_law_marks" = true) (k25 : PySem.W.keepIn K (.ref f25) = true)
    (a26 : PySem.W.nsIn K mainGlobals "_law_right" = some (some (.ref f26)))
    (l26 : K.lookup f26 = some ⟨oc26, od26, .func (PySem.W.fnOf "_law_right" "_law_right" (defArgs st__law_right) (defBody st__law_right) (defScope st__law_right) .none kV26 dc26 pm26 an26 cd26 ct26), sl26⟩) (c26 : PySem.W.codeIn K cd26 "_law_right" = true) (k26 : PySem.W.keepIn K (.ref f26) = true)
    (a27 : PySem.W.nsIn K mainGlobals "law" = some (some (.ref f27)))
    (l27 : K.lookup f27 = some ⟨oc27, od27, .func (PySem.W.fnOf "law" "law" (defArgs st_law) (defBody st_law) (defScope st_law) .none kV27 dc27 pm27 an27 cd27 ct27), sl27⟩) (c27 : PySem.W.codeIn K cd27 "law" = true) (k27 : PySem.W.keepIn K (.ref f27) = true)
    (z_ValueError : PySem.W.nsIn K mainGlobals "ValueError" = some none)
    (z_abs : PySem.W.nsIn K mainGlobals "abs" = some none)
    (z_all : PySem.W.nsIn K mainGlobals "all" = some none)
    (z_enumerate : PySem.W.nsIn K mainGlobals "enumerate" = some none)
    (z_isinstance : PySem.W.nsIn K mainGlobals "isinstance" = some none)
    (z_len : PySem.W.nsIn K mainGlobals "len" = some none)
    (z_max : PySem.W.nsIn K mainGlobals "max" = some none)
    (z_min : PySem.W.nsIn K mainGlobals "min" = some none)
    (z_range : PySem.W.nsIn K mainGlobals "range" = some none)
    (z_repr : PySem.W.nsIn K mainGlobals "repr" = some none)
    (y_RE : PySem.W.nsIn K mainGlobals "RoundingError" = some (some (.ref C_RoundingError))) (eg_RE : PySem.W.specialIn K (.ref C_RoundingError) "__getattribute__" = some (some (.builtin "type.__getattribute__"))) (er_RE : PySem.W.readsIn K C_RoundingError (.type "type") = true) (ei_RE : PySem.W.findCls K (.ref C_RoundingError) (.type "type") "__init__" = some (.val (.builtin "ValueError.__init__")))
    (en_X : PySem.W.specialIn K (.builtin "object.__class__") "__get__" = some (some (.builtin "getset_descriptor.__get__"))) (eo_X : PySem.W.takesIn K (.builtin "object.__class__") = some true)
    (y_DifferentWidths : PySem.W.nsIn K mainGlobals "DifferentWidths" = some (some (.ref C_DifferentWidths))) (ex_DifferentWidths : PySem.W.subIn K (.ref C_DifferentWidths) (.type "BaseException") = some true) (et_DifferentWidths : PySem.W.typeIn K (.ref C_DifferentWidths) = some (.type "type")) (ek_DifferentWidths : PySem.W.keepIn K (.ref C_DifferentWidths) = true) (eu_DifferentWidths : PySem.W.hasDictIn K C_DifferentWidths = true)
    (ec_DifferentWidths : K.lookup C_DifferentWidths = some (excClassObj nm_DifferentWidths q_DifferentWidths C_DifferentWidths N_DifferentWidths bs_DifferentWidths bm_DifferentWidths true sn_DifferentWidths sub_DifferentWidths ab_DifferentWidths col_DifferentWidths dd_DifferentWidths k0_DifferentWidths k1_DifferentWidths k2_DifferentWidths k3_DifferentWidths k5_DifferentWidths "ValueError.__new__")) (em_DifferentWidths : PySem.HandSPX.refsVE bm_DifferentWidths = true) (es_DifferentWidths : PySem.W.findIn K (.ref C_DifferentWidths) "__setattr__" = some (some (.builtin "object.__setattr__")))
    (eb_DifferentWidths : PySem.W.findIn K (.ref C_DifferentWidths) "__getattribute__" = some (some (.builtin "BaseException.__getattribute__"))) (ed_DifferentWidths : PySem.W.findIn K (.ref C_DifferentWidths) "__getattr__" = some none)
    (ei_DifferentWidths : PySem.W.findIn K (.ref C_DifferentWidths) "__class__" = some (some (.builtin "object.__class__"))) (ep_DifferentWidths : PySem.W.mroIn K C_DifferentWidths (.type "object") = some true)
    (kt_DifferentWidths_DifferentWidths : PySem.W.kitOne K (.ref C_DifferentWidths) (.ref C_DifferentWidths) = some true)
    (kt_DifferentWidths_InvalidChain : PySem.W.kitOne K (.ref C_DifferentWidths) (.ref C_InvalidChain) = some false)
    (kt_DifferentWidths_InvalidExponent : PySem.W.kitOne K (.ref C_DifferentWidths) (.ref C_InvalidExponent) = some false)
    (kt_DifferentWidths_InvalidKind : PySem.W.kitOne K (.ref C_DifferentWidths) (.ref C_InvalidKind) = some false)
    (kt_DifferentWidths_InvalidLine : PySem.W.kitOne K (.ref C_DifferentWidths) (.ref C_InvalidLine) = some false)
    (kt_DifferentWidths_InvalidName : PySem.W.kitOne K (.ref C_DifferentWidths) (.ref C_InvalidName) = some false)
    (kt_DifferentWidths_InvalidNumber : PySem.W.kitOne K (.ref C_DifferentWidths) (.ref C_InvalidNumber) = some false)
    (kt_DifferentWidths_InvalidRange : PySem.W.kitOne K (.ref C_DifferentWidths) (.ref C_InvalidRange) = some false)
    (kt_DifferentWidths_InvalidRule : PySem.W.kitOne K (.ref C_DifferentWidths) (.ref C_InvalidRule) = some false)
    (kt_DifferentWidths_InvalidShift : PySem.W.kitOne K (.ref C_DifferentWidths) (.ref C_InvalidShift) = some false)
    (kt_DifferentWidths_InvalidText : PySem.W.kitOne K (.ref C_DifferentWidths) (.ref C_InvalidText) = some false)
    (kt_DifferentWidths_InvalidThresholds : PySem.W.kitOne K (.ref C_DifferentWidths) (.ref C_InvalidThresholds) = some false)
    (kt_DifferentWidths_InvalidWidth : PySem.W.kitOne K (.ref C_DifferentWidths) (.ref C_InvalidWidth) = some false)
    (kt_DifferentWidths_NoBench : PySem.W.kitOne K (.ref C_DifferentWidths) (.ref C_NoBench) = some false)
    (kt_DifferentWidths_NotExact : PySem.W.kitOne K (.ref C_DifferentWidths) (.ref C_NotExact) = some false)
    (kt_DifferentWidths_NothingToUndo : PySem.W.kitOne K (.ref C_DifferentWidths) (.ref C_NothingToUndo) = some false)
    (kt_DifferentWidths_OutOfRange : PySem.W.kitOne K (.ref C_DifferentWidths) (.ref C_OutOfRange) = some false)
    (kt_DifferentWidths_RoundingError : PySem.W.kitOne K (.ref C_DifferentWidths) (.ref C_RoundingError) = some true)
    (kt_DifferentWidths_UnknownName : PySem.W.kitOne K (.ref C_DifferentWidths) (.ref C_UnknownName) = some false)
    (kt_DifferentWidths_ValueError : PySem.W.kitOne K (.ref C_DifferentWidths) (.type "ValueError") = some true)
    (kt_DifferentWidths_ZeroResult : PySem.W.kitOne K (.ref C_DifferentWidths) (.ref C_ZeroResult) = some false)
    (y_InvalidChain : PySem.W.nsIn K mainGlobals "InvalidChain" = some (some (.ref C_InvalidChain))) (ex_InvalidChain : PySem.W.subIn K (.ref C_InvalidChain) (.type "BaseException") = some true) (et_InvalidChain : PySem.W.typeIn K (.ref C_InvalidChain) = some (.type "type")) (ek_InvalidChain : PySem.W.keepIn K (.ref C_InvalidChain) = true) (eu_InvalidChain : PySem.W.hasDictIn K C_InvalidChain = true)
    (ec_InvalidChain : K.lookup C_InvalidChain = some (excClassObj nm_InvalidChain q_InvalidChain C_InvalidChain N_InvalidChain bs_InvalidChain bm_InvalidChain true sn_InvalidChain sub_InvalidChain ab_InvalidChain col_InvalidChain dd_InvalidChain k0_InvalidChain k1_InvalidChain k2_InvalidChain k3_InvalidChain k5_InvalidChain "ValueError.__new__")) (em_InvalidChain : PySem.HandSPX.refsVE bm_InvalidChain = true)
    (es_InvalidChain : PySem.W.findIn K (.ref C_InvalidChain) "__setattr__" = some (some (.builtin "object.__setattr__"))) (ev_InvalidChain : PySem.W.findIn K (.ref C_InvalidChain) "value" = some none) (eb_InvalidChain : PySem.W.findIn K (.ref C_InvalidChain) "__getattribute__" = some (some (.builtin "BaseException.__getattribute__"))) (ed_InvalidChain : PySem.W.findIn K (.ref C_InvalidChain) "__getattr__" = some none)
    (ei_InvalidChain : PySem.W.findIn K (.ref C_InvalidChain) "__class__" = some (some (.builtin "object.__class__"))) (ep_InvalidChain : PySem.W.mroIn K C_InvalidChain (.type "object") = some true)
    (kt_InvalidChain_DifferentWidths : PySem.W.kitOne K (.ref C_InvalidChain) (.ref C_DifferentWidths) = some false)
    (kt_InvalidChain_InvalidChain : PySem.W.kitOne K (.ref C_InvalidChain) (.ref C_InvalidChain) = some true)
    (kt_InvalidChain_InvalidExponent : PySem.W.kitOne K (.ref C_InvalidChain) (.ref C_InvalidExponent) = some false)
    (kt_InvalidChain_InvalidKind : PySem.W.kitOne K (.ref C_InvalidChain) (.ref C_InvalidKind) = some false)
    (kt_InvalidChain_InvalidLine : PySem.W.kitOne K (.ref C_InvalidChain) (.ref C_InvalidLine) = some false)
    (kt_InvalidChain_InvalidName : PySem.W.kitOne K (.ref C_InvalidChain) (.ref C_InvalidName) = some false)
    (kt_InvalidChain_InvalidNumber : PySem.W.kitOne K (.ref C_InvalidChain) (.ref C_InvalidNumber) = some false)
    (kt_InvalidChain_InvalidRange : PySem.W.kitOne K (.ref C_InvalidChain) (.ref C_InvalidRange) = some false)
    (kt_InvalidChain_InvalidRule : PySem.W.kitOne K (.ref C_InvalidChain) (.ref C_InvalidRule) = some false)
    (kt_InvalidChain_InvalidShift : PySem.W.kitOne K (.ref C_InvalidChain) (.ref C_InvalidShift) = some false)
    (kt_InvalidChain_InvalidText : PySem.W.kitOne K (.ref C_InvalidChain) (.ref C_InvalidText) = some false)
    (kt_InvalidChain_InvalidThresholds : PySem.W.kitOne K (.ref C_InvalidChain) (.ref C_InvalidThresholds) = some false)
    (kt_InvalidChain_InvalidWidth : PySem.W.kitOne K (.ref C_InvalidChain) (.ref C_InvalidWidth) = some false)
    (kt_InvalidChain_NoBench : PySem.W.kitOne K (.ref C_InvalidChain) (.ref C_NoBench) = some false)
    (kt_InvalidChain_NotExact : PySem.W.kitOne K (.ref C_InvalidChain) (.ref C_NotExact) = some false)
    (kt_InvalidChain_NothingToUndo : PySem.W.kitOne K (.ref C_InvalidChain) (.ref C_NothingToUndo) = some false)
    (kt_InvalidChain_OutOfRange : PySem.W.kitOne K (.ref C_InvalidChain) (.ref C_OutOfRange) = some false)
    (kt_InvalidChain_RoundingError : PySem.W.kitOne K (.ref C_InvalidChain) (.ref C_RoundingError) = some true)
    (kt_InvalidChain_UnknownName : PySem.W.kitOne K (.ref C_InvalidChain) (.ref C_UnknownName) = some false)
    (kt_InvalidChain_ValueError : PySem.W.kitOne K (.ref C_InvalidChain) (.type "ValueError") = some true)
    (kt_InvalidChain_ZeroResult : PySem.W.kitOne K (.ref C_InvalidChain) (.ref C_ZeroResult) = some false)
    (y_InvalidExponent : PySem.W.nsIn K mainGlobals "InvalidExponent" = some (some (.ref C_InvalidExponent))) (ex_InvalidExponent : PySem.W.subIn K (.ref C_InvalidExponent) (.type "BaseException") = some true) (et_InvalidExponent : PySem.W.typeIn K (.ref C_InvalidExponent) = some (.type "type")) (ek_InvalidExponent : PySem.W.keepIn K (.ref C_InvalidExponent) = true) (eu_InvalidExponent : PySem.W.hasDictIn K C_InvalidExponent = true)
    (ec_InvalidExponent : K.lookup C_InvalidExponent = some (excClassObj nm_InvalidExponent q_InvalidExponent C_InvalidExponent N_InvalidExponent bs_InvalidExponent bm_InvalidExponent true sn_InvalidExponent sub_InvalidExponent ab_InvalidExponent col_InvalidExponent dd_InvalidExponent k0_InvalidExponent k1_InvalidExponent k2_InvalidExponent k3_InvalidExponent k5_InvalidExponent "ValueError.__new__")) (em_InvalidExponent : PySem.HandSPX.refsVE bm_InvalidExponent = true)
    (es_InvalidExponent : PySem.W.findIn K (.ref C_InvalidExponent) "__setattr__" = some (some (.builtin "object.__setattr__"))) (ev_InvalidExponent : PySem.W.findIn K (.ref C_InvalidExponent) "value" = some none) (eb_InvalidExponent : PySem.W.findIn K (.ref C_InvalidExponent) "__getattribute__" = some (some (.builtin "BaseException.__getattribute__"))) (ed_InvalidExponent : PySem.W.findIn K (.ref C_InvalidExponent) "__getattr__" = some none)
    (ei_InvalidExponent : PySem.W.findIn K (.ref C_InvalidExponent) "__class__" = some (some (.builtin "object.__class__"))) (ep_InvalidExponent : PySem.W.mroIn K C_InvalidExponent (.type "object") = some true)
    (kt_InvalidExponent_DifferentWidths : PySem.W.kitOne K (.ref C_InvalidExponent) (.ref C_DifferentWidths) = some false)
    (kt_InvalidExponent_InvalidChain : PySem.W.kitOne K (.ref C_InvalidExponent) (.ref C_InvalidChain) = some false)
    (kt_InvalidExponent_InvalidExponent : PySem.W.kitOne K (.ref C_InvalidExponent) (.ref C_InvalidExponent) = some true)
    (kt_InvalidExponent_InvalidKind : PySem.W.kitOne K (.ref C_InvalidExponent) (.ref C_InvalidKind) = some false)
    (kt_InvalidExponent_InvalidLine : PySem.W.kitOne K (.ref C_InvalidExponent) (.ref C_InvalidLine) = some false)
    (kt_InvalidExponent_InvalidName : PySem.W.kitOne K (.ref C_InvalidExponent) (.ref C_InvalidName) = some false)
    (kt_InvalidExponent_InvalidNumber : PySem.W.kitOne K (.ref C_InvalidExponent) (.ref C_InvalidNumber) = some false)
    (kt_InvalidExponent_InvalidRange : PySem.W.kitOne K (.ref C_InvalidExponent) (.ref C_InvalidRange) = some false)
    (kt_InvalidExponent_InvalidRule : PySem.W.kitOne K (.ref C_InvalidExponent) (.ref C_InvalidRule) = some false)
    (kt_InvalidExponent_InvalidShift : PySem.W.kitOne K (.ref C_InvalidExponent) (.ref C_InvalidShift) = some false)
    (kt_InvalidExponent_InvalidText : PySem.W.kitOne K (.ref C_InvalidExponent) (.ref C_InvalidText) = some false)
    (kt_InvalidExponent_InvalidThresholds : PySem.W.kitOne K (.ref C_InvalidExponent) (.ref C_InvalidThresholds) = some false)
    (kt_InvalidExponent_InvalidWidth : PySem.W.kitOne K (.ref C_InvalidExponent) (.ref C_InvalidWidth) = some false)
    (kt_InvalidExponent_NoBench : PySem.W.kitOne K (.ref C_InvalidExponent) (.ref C_NoBench) = some false)
    (kt_InvalidExponent_NotExact : PySem.W.kitOne K (.ref C_InvalidExponent) (.ref C_NotExact) = some false)
    (kt_InvalidExponent_NothingToUndo : PySem.W.kitOne K (.ref C_InvalidExponent) (.ref C_NothingToUndo) = some false)
    (kt_InvalidExponent_OutOfRange : PySem.W.kitOne K (.ref C_InvalidExponent) (.ref C_OutOfRange) = some false)
    (kt_InvalidExponent_RoundingError : PySem.W.kitOne K (.ref C_InvalidExponent) (.ref C_RoundingError) = some true)
    (kt_InvalidExponent_UnknownName : PySem.W.kitOne K (.ref C_InvalidExponent) (.ref C_UnknownName) = some false)
    (kt_InvalidExponent_ValueError : PySem.W.kitOne K (.ref C_InvalidExponent) (.type "ValueError") = some true)
    (kt_InvalidExponent_ZeroResult : PySem.W.kitOne K (.ref C_InvalidExponent) (.ref C_ZeroResult) = some false)
    (y_InvalidKind : PySem.W.nsIn K mainGlobals "InvalidKind" = some (some (.ref C_InvalidKind))) (ex_InvalidKind : PySem.W.subIn K (.ref C_InvalidKind) (.type "BaseException") = some true) (et_InvalidKind : PySem.W.typeIn K (.ref C_InvalidKind) = some (.type "type")) (ek_InvalidKind : PySem.W.keepIn K (.ref C_InvalidKind) = true) (eu_InvalidKind : PySem.W.hasDictIn K C_InvalidKind = true)
    (ec_InvalidKind : K.lookup C_InvalidKind = some (excClassObj nm_InvalidKind q_InvalidKind C_InvalidKind N_InvalidKind bs_InvalidKind bm_InvalidKind true sn_InvalidKind sub_InvalidKind ab_InvalidKind col_InvalidKind dd_InvalidKind k0_InvalidKind k1_InvalidKind k2_InvalidKind k3_InvalidKind k5_InvalidKind "ValueError.__new__")) (em_InvalidKind : PySem.HandSPX.refsVE bm_InvalidKind = true)
    (es_InvalidKind : PySem.W.findIn K (.ref C_InvalidKind) "__setattr__" = some (some (.builtin "object.__setattr__"))) (ev_InvalidKind : PySem.W.findIn K (.ref C_InvalidKind) "value" = some none) (eb_InvalidKind : PySem.W.findIn K (.ref C_InvalidKind) "__getattribute__" = some (some (.builtin "BaseException.__getattribute__"))) (ed_InvalidKind : PySem.W.findIn K (.ref C_InvalidKind) "__getattr__" = some none)
    (ei_InvalidKind : PySem.W.findIn K (.ref C_InvalidKind) "__class__" = some (some (.builtin "object.__class__"))) (ep_InvalidKind : PySem.W.mroIn K C_InvalidKind (.type "object") = some true)
    (kt_InvalidKind_DifferentWidths : PySem.W.kitOne K (.ref C_InvalidKind) (.ref C_DifferentWidths) = some false)
    (kt_InvalidKind_InvalidChain : PySem.W.kitOne K (.ref C_InvalidKind) (.ref C_InvalidChain) = some false)
    (kt_InvalidKind_InvalidExponent : PySem.W.kitOne K (.ref C_InvalidKind) (.ref C_InvalidExponent) = some false)
    (kt_InvalidKind_InvalidKind : PySem.W.kitOne K (.ref C_InvalidKind) (.ref C_InvalidKind) = some true)
    (kt_InvalidKind_InvalidLine : PySem.W.kitOne K (.ref C_InvalidKind) (.ref C_InvalidLine) = some false)
    (kt_InvalidKind_InvalidName : PySem.W.kitOne K (.ref C_InvalidKind) (.ref C_InvalidName) = some false)
    (kt_InvalidKind_InvalidNumber : PySem.W.kitOne K (.ref C_InvalidKind) (.ref C_InvalidNumber) = some false)
    (kt_InvalidKind_InvalidRange : PySem.W.kitOne K (.ref C_InvalidKind) (.ref C_InvalidRange) = some false)
    (kt_InvalidKind_InvalidRule : PySem.W.kitOne K (.ref C_InvalidKind) (.ref C_InvalidRule) = some false)
    (kt_InvalidKind_InvalidShift : PySem.W.kitOne K (.ref C_InvalidKind) (.ref C_InvalidShift) = some false)
    (kt_InvalidKind_InvalidText : PySem.W.kitOne K (.ref C_InvalidKind) (.ref C_InvalidText) = some false)
    (kt_InvalidKind_InvalidThresholds : PySem.W.kitOne K (.ref C_InvalidKind) (.ref C_InvalidThresholds) = some false)
    (kt_InvalidKind_InvalidWidth : PySem.W.kitOne K (.ref C_InvalidKind) (.ref C_InvalidWidth) = some false)
    (kt_InvalidKind_NoBench : PySem.W.kitOne K (.ref C_InvalidKind) (.ref C_NoBench) = some false)
    (kt_InvalidKind_NotExact : PySem.W.kitOne K (.ref C_InvalidKind) (.ref C_NotExact) = some false)
    (kt_InvalidKind_NothingToUndo : PySem.W.kitOne K (.ref C_InvalidKind) (.ref C_NothingToUndo) = some false)
    (kt_InvalidKind_OutOfRange : PySem.W.kitOne K (.ref C_InvalidKind) (.ref C_OutOfRange) = some false)
    (kt_InvalidKind_RoundingError : PySem.W.kitOne K (.ref C_InvalidKind) (.ref C_RoundingError) = some true)
    (kt_InvalidKind_UnknownName : PySem.W.kitOne K (.ref C_InvalidKind) (.ref C_UnknownName) = some false)
    (kt_InvalidKind_ValueError : PySem.W.kitOne K (.ref C_InvalidKind) (.type "ValueError") = some true)
    (kt_InvalidKind_ZeroResult : PySem.W.kitOne K (.ref C_InvalidKind) (.ref C_ZeroResult) = some false)
    (y_InvalidLine : PySem.W.nsIn K mainGlobals "InvalidLine" = some (some (.ref C_InvalidLine))) (ex_InvalidLine : PySem.W.subIn K (.ref C_InvalidLine) (.type "BaseException") = some true) (et_InvalidLine : PySem.W.typeIn K (.ref C_InvalidLine) = some (.type "type")) (ek_InvalidLine : PySem.W.keepIn K (.ref C_InvalidLine) = true) (eu_InvalidLine : PySem.W.hasDictIn K C_InvalidLine = true)
    (ec_InvalidLine : K.lookup C_InvalidLine = some (excClassObj nm_InvalidLine q_InvalidLine C_InvalidLine N_InvalidLine bs_InvalidLine bm_InvalidLine true sn_InvalidLine sub_InvalidLine ab_InvalidLine col_InvalidLine dd_InvalidLine k0_InvalidLine k1_InvalidLine k2_InvalidLine k3_InvalidLine k5_InvalidLine "ValueError.__new__")) (em_InvalidLine : PySem.HandSPX.refsVE bm_InvalidLine = true)
    (es_InvalidLine : PySem.W.findIn K (.ref C_InvalidLine) "__setattr__" = some (some (.builtin "object.__setattr__"))) (ev_InvalidLine : PySem.W.findIn K (.ref C_InvalidLine) "value" = some none) (eb_InvalidLine : PySem.W.findIn K (.ref C_InvalidLine) "__getattribute__" = some (some (.builtin "BaseException.__getattribute__"))) (ed_InvalidLine : PySem.W.findIn K (.ref C_InvalidLine) "__getattr__" = some none)
    (ei_InvalidLine : PySem.W.findIn K (.ref C_InvalidLine) "__class__" = some (some (.builtin "object.__class__"))) (ep_InvalidLine : PySem.W.mroIn K C_InvalidLine (.type "object") = some true)
    (kt_InvalidLine_DifferentWidths : PySem.W.kitOne K (.ref C_InvalidLine) (.ref C_DifferentWidths) = some false)
    (kt_InvalidLine_InvalidChain : PySem.W.kitOne K (.ref C_InvalidLine) (.ref C_InvalidChain) = some false)
    (kt_InvalidLine_InvalidExponent : PySem.W.kitOne K (.ref C_InvalidLine) (.ref C_InvalidExponent) = some false)
    (kt_InvalidLine_InvalidKind : PySem.W.kitOne K (.ref C_InvalidLine) (.ref C_InvalidKind) = some false)
    (kt_InvalidLine_InvalidLine : PySem.W.kitOne K (.ref C_InvalidLine) (.ref C_InvalidLine) = some true)
    (kt_InvalidLine_InvalidName : PySem.W.kitOne K (.ref C_InvalidLine) (.ref C_InvalidName) = some false)
    (kt_InvalidLine_InvalidNumber : PySem.W.kitOne K (.ref C_InvalidLine) (.ref C_InvalidNumber) = some false)
    (kt_InvalidLine_InvalidRange : PySem.W.kitOne K (.ref C_InvalidLine) (.ref C_InvalidRange) = some false)
    (kt_InvalidLine_InvalidRule : PySem.W.kitOne K (.ref C_InvalidLine) (.ref C_InvalidRule) = some false)
    (kt_InvalidLine_InvalidShift : PySem.W.kitOne K (.ref C_InvalidLine) (.ref C_InvalidShift) = some false)
    (kt_InvalidLine_InvalidText : PySem.W.kitOne K (.ref C_InvalidLine) (.ref C_InvalidText) = some false)
    (kt_InvalidLine_InvalidThresholds : PySem.W.kitOne K (.ref C_InvalidLine) (.ref C_InvalidThresholds) = some false)
    (kt_InvalidLine_InvalidWidth : PySem.W.kitOne K (.ref C_InvalidLine) (.ref C_InvalidWidth) = some false)
    (kt_InvalidLine_NoBench : PySem.W.kitOne K (.ref C_InvalidLine) (.ref C_NoBench) = some false)
    (kt_InvalidLine_NotExact : PySem.W.kitOne K (.ref C_InvalidLine) (.ref C_NotExact) = some false)
    (kt_InvalidLine_NothingToUndo : PySem.W.kitOne K (.ref C_InvalidLine) (.ref C_NothingToUndo) = some false)
    (kt_InvalidLine_OutOfRange : PySem.W.kitOne K (.ref C_InvalidLine) (.ref C_OutOfRange) = some false)
    (kt_InvalidLine_RoundingError : PySem.W.kitOne K (.ref C_InvalidLine) (.ref C_RoundingError) = some true)
    (kt_InvalidLine_UnknownName : PySem.W.kitOne K (.ref C_InvalidLine) (.ref C_UnknownName) = some false)
    (kt_InvalidLine_ValueError : PySem.W.kitOne K (.ref C_InvalidLine) (.type "ValueError") = some true)
    (kt_InvalidLine_ZeroResult : PySem.W.kitOne K (.ref C_InvalidLine) (.ref C_ZeroResult) = some false)
    (y_InvalidName : PySem.W.nsIn K mainGlobals "InvalidName" = some (some (.ref C_InvalidName))) (ex_InvalidName : PySem.W.subIn K (.ref C_InvalidName) (.type "BaseException") = some true) (et_InvalidName : PySem.W.typeIn K (.ref C_InvalidName) = some (.type "type")) (ek_InvalidName : PySem.W.keepIn K (.ref C_InvalidName) = true) (eu_InvalidName : PySem.W.hasDictIn K C_InvalidName = true)
    (ec_InvalidName : K.lookup C_InvalidName = some (excClassObj nm_InvalidName q_InvalidName C_InvalidName N_InvalidName bs_InvalidName bm_InvalidName true sn_InvalidName sub_InvalidName ab_InvalidName col_InvalidName dd_InvalidName k0_InvalidName k1_InvalidName k2_InvalidName k3_InvalidName k5_InvalidName "ValueError.__new__")) (em_InvalidName : PySem.HandSPX.refsVE bm_InvalidName = true)
    (es_InvalidName : PySem.W.findIn K (.ref C_InvalidName) "__setattr__" = some (some (.builtin "object.__setattr__"))) (ev_InvalidName : PySem.W.findIn K (.ref C_InvalidName) "value" = some none) (eb_InvalidName : PySem.W.findIn K (.ref C_InvalidName) "__getattribute__" = some (some (.builtin "BaseException.__getattribute__"))) (ed_InvalidName : PySem.W.findIn K (.ref C_InvalidName) "__getattr__" = some none)
    (ei_InvalidName : PySem.W.findIn K (.ref C_InvalidName) "__class__" = some (some (.builtin "object.__class__"))) (ep_InvalidName : PySem.W.mroIn K C_InvalidName (.type "object") = some true)
    (kt_InvalidName_DifferentWidths : PySem.W.kitOne K (.ref C_InvalidName) (.ref C_DifferentWidths) = some false)
    (kt_InvalidName_InvalidChain : PySem.W.kitOne K (.ref C_InvalidName) (.ref C_InvalidChain) = some false)
    (kt_InvalidName_InvalidExponent : PySem.W.kitOne K (.ref C_InvalidName) (.ref C_InvalidExponent) = some false)
    (kt_InvalidName_InvalidKind : PySem.W.kitOne K (.ref C_InvalidName) (.ref C_InvalidKind) = some false)
    (kt_InvalidName_InvalidLine : PySem.W.kitOne K (.ref C_InvalidName) (.ref C_InvalidLine) = some false)
    (kt_InvalidName_InvalidName : PySem.W.kitOne K (.ref C_InvalidName) (.ref C_InvalidName) = some true)
    (kt_InvalidName_InvalidNumber : PySem.W.kitOne K (.ref C_InvalidName) (.ref C_InvalidNumber) = some false)
    (kt_InvalidName_InvalidRange : PySem.W.kitOne K (.ref C_InvalidName) (.ref C_InvalidRange) = some false)
    (kt_InvalidName_InvalidRule : PySem.W.kitOne K (.ref C_InvalidName) (.ref C_InvalidRule) = some false)
    (kt_InvalidName_InvalidShift : PySem.W.kitOne K (.ref C_InvalidName) (.ref C_InvalidShift) = some false)
    (kt_InvalidName_InvalidText : PySem.W.kitOne K (.ref C_InvalidName) (.ref C_InvalidText) = some false)
    (kt_InvalidName_InvalidThresholds : PySem.W.kitOne K (.ref C_InvalidName) (.ref C_InvalidThresholds) = some false)
    (kt_InvalidName_InvalidWidth : PySem.W.kitOne K (.ref C_InvalidName) (.ref C_InvalidWidth) = some false)
    (kt_InvalidName_NoBench : PySem.W.kitOne K (.ref C_InvalidName) (.ref C_NoBench) = some false)
    (kt_InvalidName_NotExact : PySem.W.kitOne K (.ref C_InvalidName) (.ref C_NotExact) = some false)
    (kt_InvalidName_NothingToUndo : PySem.W.kitOne K (.ref C_InvalidName) (.ref C_NothingToUndo) = some false)
    (kt_InvalidName_OutOfRange : PySem.W.kitOne K (.ref C_InvalidName) (.ref C_OutOfRange) = some false)
    (kt_InvalidName_RoundingError : PySem.W.kitOne K (.ref C_InvalidName) (.ref C_RoundingError) = some true)
    (kt_InvalidName_UnknownName : PySem.W.kitOne K (.ref C_InvalidName) (.ref C_UnknownName) = some false)
    (kt_InvalidName_ValueError : PySem.W.kitOne K (.ref C_InvalidName) (.type "ValueError") = some true)
    (kt_InvalidName_ZeroResult : PySem.W.kitOne K (.ref C_InvalidName) (.ref C_ZeroResult) = some false)
    (y_InvalidNumber : PySem.W.nsIn K mainGlobals "InvalidNumber" = some (some (.ref C_InvalidNumber))) (ex_InvalidNumber : PySem.W.subIn K (.ref C_InvalidNumber) (.type "BaseException") = some true) (et_InvalidNumber : PySem.W.typeIn K (.ref C_InvalidNumber) = some (.type "type")) (ek_InvalidNumber : PySem.W.keepIn K (.ref C_InvalidNumber) = true) (eu_InvalidNumber : PySem.W.hasDictIn K C_InvalidNumber = true)
    (ec_InvalidNumber : K.lookup C_InvalidNumber = some (excClassObj nm_InvalidNumber q_InvalidNumber C_InvalidNumber N_InvalidNumber bs_InvalidNumber bm_InvalidNumber true sn_InvalidNumber sub_InvalidNumber ab_InvalidNumber col_InvalidNumber dd_InvalidNumber k0_InvalidNumber k1_InvalidNumber k2_InvalidNumber k3_InvalidNumber k5_InvalidNumber "ValueError.__new__")) (em_InvalidNumber : PySem.HandSPX.refsVE bm_InvalidNumber = true)
    (es_InvalidNumber : PySem.W.findIn K (.ref C_InvalidNumber) "__setattr__" = some (some (.builtin "object.__setattr__"))) (ev_InvalidNumber : PySem.W.findIn K (.ref C_InvalidNumber) "value" = some none) (eb_InvalidNumber : PySem.W.findIn K (.ref C_InvalidNumber) "__getattribute__" = some (some (.builtin "BaseException.__getattribute__"))) (ed_InvalidNumber : PySem.W.findIn K (.ref C_InvalidNumber) "__getattr__" = some none)
    (ei_InvalidNumber : PySem.W.findIn K (.ref C_InvalidNumber) "__class__" = some (some (.builtin "object.__class__"))) (ep_InvalidNumber : PySem.W.mroIn K C_InvalidNumber (.type "object") = some true)
    (kt_InvalidNumber_DifferentWidths : PySem.W.kitOne K (.ref C_InvalidNumber) (.ref C_DifferentWidths) = some false)
    (kt_InvalidNumber_InvalidChain : PySem.W.kitOne K (.ref C_InvalidNumber) (.ref C_InvalidChain) = some false)
    (kt_InvalidNumber_InvalidExponent : PySem.W.kitOne K (.ref C_InvalidNumber) (.ref C_InvalidExponent) = some false)
    (kt_InvalidNumber_InvalidKind : PySem.W.kitOne K (.ref C_InvalidNumber) (.ref C_InvalidKind) = some false)
    (kt_InvalidNumber_InvalidLine : PySem.W.kitOne K (.ref C_InvalidNumber) (.ref C_InvalidLine) = some false)
    (kt_InvalidNumber_InvalidName : PySem.W.kitOne K (.ref C_InvalidNumber) (.ref C_InvalidName) = some false)
    (kt_InvalidNumber_InvalidNumber : PySem.W.kitOne K (.ref C_InvalidNumber) (.ref C_InvalidNumber) = some true)
    (kt_InvalidNumber_InvalidRange : PySem.W.kitOne K (.ref C_InvalidNumber) (.ref C_InvalidRange) = some false)
    (kt_InvalidNumber_InvalidRule : PySem.W.kitOne K (.ref C_InvalidNumber) (.ref C_InvalidRule) = some false)
    (kt_InvalidNumber_InvalidShift : PySem.W.kitOne K (.ref C_InvalidNumber) (.ref C_InvalidShift) = some false)
    (kt_InvalidNumber_InvalidText : PySem.W.kitOne K (.ref C_InvalidNumber) (.ref C_InvalidText) = some false)
    (kt_InvalidNumber_InvalidThresholds : PySem.W.kitOne K (.ref C_InvalidNumber) (.ref C_InvalidThresholds) = some false)
    (kt_InvalidNumber_InvalidWidth : PySem.W.kitOne K (.ref C_InvalidNumber) (.ref C_InvalidWidth) = some false)
    (kt_InvalidNumber_NoBench : PySem.W.kitOne K (.ref C_InvalidNumber) (.ref C_NoBench) = some false)
    (kt_InvalidNumber_NotExact : PySem.W.kitOne K (.ref C_InvalidNumber) (.ref C_NotExact) = some false)
    (kt_InvalidNumber_NothingToUndo : PySem.W.kitOne K (.ref C_InvalidNumber) (.ref C_NothingToUndo) = some false)
    (kt_InvalidNumber_OutOfRange : PySem.W.kitOne K (.ref C_InvalidNumber) (.ref C_OutOfRange) = some false)
    (kt_InvalidNumber_RoundingError : PySem.W.kitOne K (.ref C_InvalidNumber) (.ref C_RoundingError) = some true)
    (kt_InvalidNumber_UnknownName : PySem.W.kitOne K (.ref C_InvalidNumber) (.ref C_UnknownName) = some false)
    (kt_InvalidNumber_ValueError : PySem.W.kitOne K (.ref C_InvalidNumber) (.type "ValueError") = some true)
    (kt_InvalidNumber_ZeroResult : PySem.W.kitOne K (.ref C_InvalidNumber) (.ref C_ZeroResult) = some false)
    (y_InvalidRange : PySem.W.nsIn K mainGlobals "InvalidRange" = some (some (.ref C_InvalidRange))) (ex_InvalidRange : PySem.W.subIn K (.ref C_InvalidRange) (.type "BaseException") = some true) (et_InvalidRange : PySem.W.typeIn K (.ref C_InvalidRange) = some (.type "type")) (ek_InvalidRange : PySem.W.keepIn K (.ref C_InvalidRange) = true) (eu_InvalidRange : PySem.W.hasDictIn K C_InvalidRange = true)
    (ec_InvalidRange : K.lookup C_InvalidRange = some (excClassObj nm_InvalidRange q_InvalidRange C_InvalidRange N_InvalidRange bs_InvalidRange bm_InvalidRange true sn_InvalidRange sub_InvalidRange ab_InvalidRange col_InvalidRange dd_InvalidRange k0_InvalidRange k1_InvalidRange k2_InvalidRange k3_InvalidRange k5_InvalidRange "ValueError.__new__")) (em_InvalidRange : PySem.HandSPX.refsVE bm_InvalidRange = true)
    (es_InvalidRange : PySem.W.findIn K (.ref C_InvalidRange) "__setattr__" = some (some (.builtin "object.__setattr__"))) (ev_InvalidRange : PySem.W.findIn K (.ref C_InvalidRange) "value" = some none) (eb_InvalidRange : PySem.W.findIn K (.ref C_InvalidRange) "__getattribute__" = some (some (.builtin "BaseException.__getattribute__"))) (ed_InvalidRange : PySem.W.findIn K (.ref C_InvalidRange) "__getattr__" = some none)
    (ei_InvalidRange : PySem.W.findIn K (.ref C_InvalidRange) "__class__" = some (some (.builtin "object.__class__"))) (ep_InvalidRange : PySem.W.mroIn K C_InvalidRange (.type "object") = some true)
    (kt_InvalidRange_DifferentWidths : PySem.W.kitOne K (.ref C_InvalidRange) (.ref C_DifferentWidths) = some false)
    (kt_InvalidRange_InvalidChain : PySem.W.kitOne K (.ref C_InvalidRange) (.ref C_InvalidChain) = some false)
    (kt_InvalidRange_InvalidExponent : PySem.W.kitOne K (.ref C_InvalidRange) (.ref C_InvalidExponent) = some false)
    (kt_InvalidRange_InvalidKind : PySem.W.kitOne K (.ref C_InvalidRange) (.ref C_InvalidKind) = some false)
    (kt_InvalidRange_InvalidLine : PySem.W.kitOne K (.ref C_InvalidRange) (.ref C_InvalidLine) = some false)
    (kt_InvalidRange_InvalidName : PySem.W.kitOne K (.ref C_InvalidRange) (.ref C_InvalidName) = some false)
    (kt_InvalidRange_InvalidNumber : PySem.W.kitOne K (.ref C_InvalidRange) (.ref C_InvalidNumber) = some false)
    (kt_InvalidRange_InvalidRange : PySem.W.kitOne K (.ref C_InvalidRange) (.ref C_InvalidRange) = some true)
    (kt_InvalidRange_InvalidRule : PySem.W.kitOne K (.ref C_InvalidRange) (.ref C_InvalidRule) = some false)
    (kt_InvalidRange_InvalidShift : PySem.W.kitOne K (.ref C_InvalidRange) (.ref C_InvalidShift) = some false)
    (kt_InvalidRange_InvalidText : PySem.W.kitOne K (.ref C_InvalidRange) (.ref C_InvalidText) = some false)
    (kt_InvalidRange_InvalidThresholds : PySem.W.kitOne K (.ref C_InvalidRange) (.ref C_InvalidThresholds) = some false)
    (kt_InvalidRange_InvalidWidth : PySem.W.kitOne K (.ref C_InvalidRange) (.ref C_InvalidWidth) = some false)
    (kt_InvalidRange_NoBench : PySem.W.kitOne K (.ref C_InvalidRange) (.ref C_NoBench) = some false)
    (kt_InvalidRange_NotExact : PySem.W.kitOne K (.ref C_InvalidRange) (.ref C_NotExact) = some false)
    (kt_InvalidRange_NothingToUndo : PySem.W.kitOne K (.ref C_InvalidRange) (.ref C_NothingToUndo) = some false)
    (kt_InvalidRange_OutOfRange : PySem.W.kitOne K (.ref C_InvalidRange) (.ref C_OutOfRange) = some false)
    (kt_InvalidRange_RoundingError : PySem.W.kitOne K (.ref C_InvalidRange) (.ref C_RoundingError) = some true)
    (kt_InvalidRange_UnknownName : PySem.W.kitOne K (.ref C_InvalidRange) (.ref C_UnknownName) = some false)
    (kt_InvalidRange_ValueError : PySem.W.kitOne K (.ref C_InvalidRange) (.type "ValueError") = some true)
    (kt_InvalidRange_ZeroResult : PySem.W.kitOne K (.ref C_InvalidRange) (.ref C_ZeroResult) = some false)
    (y_InvalidRule : PySem.W.nsIn K mainGlobals "InvalidRule" = some (some (.ref C_InvalidRule))) (ex_InvalidRule : PySem.W.subIn K (.ref C_InvalidRule) (.type "BaseException") = some true) (et_InvalidRule : PySem.W.typeIn K (.ref C_InvalidRule) = some (.type "type")) (ek_InvalidRule : PySem.W.keepIn K (.ref C_InvalidRule) = true) (eu_InvalidRule : PySem.W.hasDictIn K C_InvalidRule = true)
    (ec_InvalidRule : K.lookup C_InvalidRule = some (excClassObj nm_InvalidRule q_InvalidRule C_InvalidRule N_InvalidRule bs_InvalidRule bm_InvalidRule true sn_InvalidRule sub_InvalidRule ab_InvalidRule col_InvalidRule dd_InvalidRule k0_InvalidRule k1_InvalidRule k2_InvalidRule k3_InvalidRule k5_InvalidRule "ValueError.__new__")) (em_InvalidRule : PySem.HandSPX.refsVE bm_InvalidRule = true)
    (es_InvalidRule : PySem.W.findIn K (.ref C_InvalidRule) "__setattr__" = some (some (.builtin "object.__setattr__"))) (ev_InvalidRule : PySem.W.findIn K (.ref C_InvalidRule) "value" = some none) (eb_InvalidRule : PySem.W.findIn K (.ref C_InvalidRule) "__getattribute__" = some (some (.builtin "BaseException.__getattribute__"))) (ed_InvalidRule : PySem.W.findIn K (.ref C_InvalidRule) "__getattr__" = some none)
    (ei_InvalidRule : PySem.W.findIn K (.ref C_InvalidRule) "__class__" = some (some (.builtin "object.__class__"))) (ep_InvalidRule : PySem.W.mroIn K C_InvalidRule (.type "object") = some true)
    (kt_InvalidRule_DifferentWidths : PySem.W.kitOne K (.ref C_InvalidRule) (.ref C_DifferentWidths) = some false)
    (kt_InvalidRule_InvalidChain : PySem.W.kitOne K (.ref C_InvalidRule) (.ref C_InvalidChain) = some false)
    (kt_InvalidRule_InvalidExponent : PySem.W.kitOne K (.ref C_InvalidRule) (.ref C_InvalidExponent) = some false)
    (kt_InvalidRule_InvalidKind : PySem.W.kitOne K (.ref C_InvalidRule) (.ref C_InvalidKind) = some false)
    (kt_InvalidRule_InvalidLine : PySem.W.kitOne K (.ref C_InvalidRule) (.ref C_InvalidLine) = some false)
    (kt_InvalidRule_InvalidName : PySem.W.kitOne K (.ref C_InvalidRule) (.ref C_InvalidName) = some false)
    (kt_InvalidRule_InvalidNumber : PySem.W.kitOne K (.ref C_InvalidRule) (.ref C_InvalidNumber) = some false)
    (kt_InvalidRule_InvalidRange : PySem.W.kitOne K (.ref C_InvalidRule) (.ref C_InvalidRange) = some false)
    (kt_InvalidRule_InvalidRule : PySem.W.kitOne K (.ref C_InvalidRule) (.ref C_InvalidRule) = some true)
    (kt_InvalidRule_InvalidShift : PySem.W.kitOne K (.ref C_InvalidRule) (.ref C_InvalidShift) = some false)
    (kt_InvalidRule_InvalidText : PySem.W.kitOne K (.ref C_InvalidRule) (.ref C_InvalidText) = some false)
    (kt_InvalidRule_InvalidThresholds : PySem.W.kitOne K (.ref C_InvalidRule) (.ref C_InvalidThresholds) = some false)
    (kt_InvalidRule_InvalidWidth : PySem.W.kitOne K (.ref C_InvalidRule) (.ref C_InvalidWidth) = some false)
    (kt_InvalidRule_NoBench : PySem.W.kitOne K (.ref C_InvalidRule) (.ref C_NoBench) = some false)
    (kt_InvalidRule_NotExact : PySem.W.kitOne K (.ref C_InvalidRule) (.ref C_NotExact) = some false)
    (kt_InvalidRule_NothingToUndo : PySem.W.kitOne K (.ref C_InvalidRule) (.ref C_NothingToUndo) = some false)
    (kt_InvalidRule_OutOfRange : PySem.W.kitOne K (.ref C_InvalidRule) (.ref C_OutOfRange) = some false)
    (kt_InvalidRule_RoundingError : PySem.W.kitOne K (.ref C_InvalidRule) (.ref C_RoundingError) = some true)
    (kt_InvalidRule_UnknownName : PySem.W.kitOne K (.ref C_InvalidRule) (.ref C_UnknownName) = some false)
    (kt_InvalidRule_ValueError : PySem.W.kitOne K (.ref C_InvalidRule) (.type "ValueError") = some true)
    (kt_InvalidRule_ZeroResult : PySem.W.kitOne K (.ref C_InvalidRule) (.ref C_ZeroResult) = some false)
    (y_InvalidShift : PySem.W.nsIn K mainGlobals "InvalidShift" = some (some (.ref C_InvalidShift))) (ex_InvalidShift : PySem.W.subIn K (.ref C_InvalidShift) (.type "BaseException") = some true) (et_InvalidShift : PySem.W.typeIn K (.ref C_InvalidShift) = some (.type "type")) (ek_InvalidShift : PySem.W.keepIn K (.ref C_InvalidShift) = true) (eu_InvalidShift : PySem.W.hasDictIn K C_InvalidShift = true)
    (ec_InvalidShift : K.lookup C_InvalidShift = some (excClassObj nm_InvalidShift q_InvalidShift C_InvalidShift N_InvalidShift bs_InvalidShift bm_InvalidShift true sn_InvalidShift sub_InvalidShift ab_InvalidShift col_InvalidShift dd_InvalidShift k0_InvalidShift k1_InvalidShift k2_InvalidShift k3_InvalidShift k5_InvalidShift "ValueError.__new__")) (em_InvalidShift : PySem.HandSPX.refsVE bm_InvalidShift = true)
    (es_InvalidShift : PySem.W.findIn K (.ref C_InvalidShift) "__setattr__" = some (some (.builtin "object.__setattr__"))) (ev_InvalidShift : PySem.W.findIn K (.ref C_InvalidShift) "value" = some none) (eb_InvalidShift : PySem.W.findIn K (.ref C_InvalidShift) "__getattribute__" = some (some (.builtin "BaseException.__getattribute__"))) (ed_InvalidShift : PySem.W.findIn K (.ref C_InvalidShift) "__getattr__" = some none)
    (ei_InvalidShift : PySem.W.findIn K (.ref C_InvalidShift) "__class__" = some (some (.builtin "object.__class__"))) (ep_InvalidShift : PySem.W.mroIn K C_InvalidShift (.type "object") = some true)
    (kt_InvalidShift_DifferentWidths : PySem.W.kitOne K (.ref C_InvalidShift) (.ref C_DifferentWidths) = some false)
    (kt_InvalidShift_InvalidChain : PySem.W.kitOne K (.ref C_InvalidShift) (.ref C_InvalidChain) = some false)
    (kt_InvalidShift_InvalidExponent : PySem.W.kitOne K (.ref C_InvalidShift) (.ref C_InvalidExponent) = some false)
    (kt_InvalidShift_InvalidKind : PySem.W.kitOne K (.ref C_InvalidShift) (.ref C_InvalidKind) = some false)
    (kt_InvalidShift_InvalidLine : PySem.W.kitOne K (.ref C_InvalidShift) (.ref C_InvalidLine) = some false)
    (kt_InvalidShift_InvalidName : PySem.W.kitOne K (.ref C_InvalidShift) (.ref C_InvalidName) = some false)
    (kt_InvalidShift_InvalidNumber : PySem.W.kitOne K (.ref C_InvalidShift) (.ref C_InvalidNumber) = some false)
    (kt_InvalidShift_InvalidRange : PySem.W.kitOne K (.ref C_InvalidShift) (.ref C_InvalidRange) = some false)
    (kt_InvalidShift_InvalidRule : PySem.W.kitOne K (.ref C_InvalidShift) (.ref C_InvalidRule) = some false)
    (kt_InvalidShift_InvalidShift : PySem.W.kitOne K (.ref C_InvalidShift) (.ref C_InvalidShift) = some true)
    (kt_InvalidShift_InvalidText : PySem.W.kitOne K (.ref C_InvalidShift) (.ref C_InvalidText) = some false)
    (kt_InvalidShift_InvalidThresholds : PySem.W.kitOne K (.ref C_InvalidShift) (.ref C_InvalidThresholds) = some false)
    (kt_InvalidShift_InvalidWidth : PySem.W.kitOne K (.ref C_InvalidShift) (.ref C_InvalidWidth) = some false)
    (kt_InvalidShift_NoBench : PySem.W.kitOne K (.ref C_InvalidShift) (.ref C_NoBench) = some false)
    (kt_InvalidShift_NotExact : PySem.W.kitOne K (.ref C_InvalidShift) (.ref C_NotExact) = some false)
    (kt_InvalidShift_NothingToUndo : PySem.W.kitOne K (.ref C_InvalidShift) (.ref C_NothingToUndo) = some false)
    (kt_InvalidShift_OutOfRange : PySem.W.kitOne K (.ref C_InvalidShift) (.ref C_OutOfRange) = some false)
    (kt_InvalidShift_RoundingError : PySem.W.kitOne K (.ref C_InvalidShift) (.ref C_RoundingError) = some true)
    (kt_InvalidShift_UnknownName : PySem.W.kitOne K (.ref C_InvalidShift) (.ref C_UnknownName) = some false)
    (kt_InvalidShift_ValueError : PySem.W.kitOne K (.ref C_InvalidShift) (.type "ValueError") = some true)
    (kt_InvalidShift_ZeroResult : PySem.W.kitOne K (.ref C_InvalidShift) (.ref C_ZeroResult) = some false)
    (y_InvalidText : PySem.W.nsIn K mainGlobals "InvalidText" = some (some (.ref C_InvalidText))) (ex_InvalidText : PySem.W.subIn K (.ref C_InvalidText) (.type "BaseException") = some true) (et_InvalidText : PySem.W.typeIn K (.ref C_InvalidText) = some (.type "type")) (ek_InvalidText : PySem.W.keepIn K (.ref C_InvalidText) = true) (eu_InvalidText : PySem.W.hasDictIn K C_InvalidText = true)
    (ec_InvalidText : K.lookup C_InvalidText = some (excClassObj nm_InvalidText q_InvalidText C_InvalidText N_InvalidText bs_InvalidText bm_InvalidText true sn_InvalidText sub_InvalidText ab_InvalidText col_InvalidText dd_InvalidText k0_InvalidText k1_InvalidText k2_InvalidText k3_InvalidText k5_InvalidText "ValueError.__new__")) (em_InvalidText : PySem.HandSPX.refsVE bm_InvalidText = true)
    (es_InvalidText : PySem.W.findIn K (.ref C_InvalidText) "__setattr__" = some (some (.builtin "object.__setattr__"))) (ev_InvalidText : PySem.W.findIn K (.ref C_InvalidText) "value" = some none) (eb_InvalidText : PySem.W.findIn K (.ref C_InvalidText) "__getattribute__" = some (some (.builtin "BaseException.__getattribute__"))) (ed_InvalidText : PySem.W.findIn K (.ref C_InvalidText) "__getattr__" = some none)
    (ei_InvalidText : PySem.W.findIn K (.ref C_InvalidText) "__class__" = some (some (.builtin "object.__class__"))) (ep_InvalidText : PySem.W.mroIn K C_InvalidText (.type "object") = some true)
    (kt_InvalidText_DifferentWidths : PySem.W.kitOne K (.ref C_InvalidText) (.ref C_DifferentWidths) = some false)
    (kt_InvalidText_InvalidChain : PySem.W.kitOne K (.ref C_InvalidText) (.ref C_InvalidChain) = some false)
    (kt_InvalidText_InvalidExponent : PySem.W.kitOne K (.ref C_InvalidText) (.ref C_InvalidExponent) = some false)
    (kt_InvalidText_InvalidKind : PySem.W.kitOne K (.ref C_InvalidText) (.ref C_InvalidKind) = some false)
    (kt_InvalidText_InvalidLine : PySem.W.kitOne K (.ref C_InvalidText) (.ref C_InvalidLine) = some false)
    (kt_InvalidText_InvalidName : PySem.W.kitOne K (.ref C_InvalidText) (.ref C_InvalidName) = some false)
    (kt_InvalidText_InvalidNumber : PySem.W.kitOne K (.ref C_InvalidText) (.ref C_InvalidNumber) = some false)
    (kt_InvalidText_InvalidRange : PySem.W.kitOne K (.ref C_InvalidText) (.ref C_InvalidRange) = some false)
    (kt_InvalidText_InvalidRule : PySem.W.kitOne K (.ref C_InvalidText) (.ref C_InvalidRule) = some false)
    (kt_InvalidText_InvalidShift : PySem.W.kitOne K (.ref C_InvalidText) (.ref C_InvalidShift) = some false)
    (kt_InvalidText_InvalidText : PySem.W.kitOne K (.ref C_InvalidText) (.ref C_InvalidText) = some true)
    (kt_InvalidText_InvalidThresholds : PySem.W.kitOne K (.ref C_InvalidText) (.ref C_InvalidThresholds) = some false)
    (kt_InvalidText_InvalidWidth : PySem.W.kitOne K (.ref C_InvalidText) (.ref C_InvalidWidth) = some false)
    (kt_InvalidText_NoBench : PySem.W.kitOne K (.ref C_InvalidText) (.ref C_NoBench) = some false)
    (kt_InvalidText_NotExact : PySem.W.kitOne K (.ref C_InvalidText) (.ref C_NotExact) = some false)
    (kt_InvalidText_NothingToUndo : PySem.W.kitOne K (.ref C_InvalidText) (.ref C_NothingToUndo) = some false)
    (kt_InvalidText_OutOfRange : PySem.W.kitOne K (.ref C_InvalidText) (.ref C_OutOfRange) = some false)
    (kt_InvalidText_RoundingError : PySem.W.kitOne K (.ref C_InvalidText) (.ref C_RoundingError) = some true)
    (kt_InvalidText_UnknownName : PySem.W.kitOne K (.ref C_InvalidText) (.ref C_UnknownName) = some false)
    (kt_InvalidText_ValueError : PySem.W.kitOne K (.ref C_InvalidText) (.type "ValueError") = some true)
    (kt_InvalidText_ZeroResult : PySem.W.kitOne K (.ref C_InvalidText) (.ref C_ZeroResult) = some false)
    (y_InvalidThresholds : PySem.W.nsIn K mainGlobals "InvalidThresholds" = some (some (.ref C_InvalidThresholds))) (ex_InvalidThresholds : PySem.W.subIn K (.ref C_InvalidThresholds) (.type "BaseException") = some true) (et_InvalidThresholds : PySem.W.typeIn K (.ref C_InvalidThresholds) = some (.type "type")) (ek_InvalidThresholds : PySem.W.keepIn K (.ref C_InvalidThresholds) = true) (eu_InvalidThresholds : PySem.W.hasDictIn K C_InvalidThresholds = true)
    (ec_InvalidThresholds : K.lookup C_InvalidThresholds = some (excClassObj nm_InvalidThresholds q_InvalidThresholds C_InvalidThresholds N_InvalidThresholds bs_InvalidThresholds bm_InvalidThresholds true sn_InvalidThresholds sub_InvalidThresholds ab_InvalidThresholds col_InvalidThresholds dd_InvalidThresholds k0_InvalidThresholds k1_InvalidThresholds k2_InvalidThresholds k3_InvalidThresholds k5_InvalidThresholds "ValueError.__new__")) (em_InvalidThresholds : PySem.HandSPX.refsVE bm_InvalidThresholds = true)
    (es_InvalidThresholds : PySem.W.findIn K (.ref C_InvalidThresholds) "__setattr__" = some (some (.builtin "object.__setattr__"))) (ev_InvalidThresholds : PySem.W.findIn K (.ref C_InvalidThresholds) "value" = some none) (eb_InvalidThresholds : PySem.W.findIn K (.ref C_InvalidThresholds) "__getattribute__" = some (some (.builtin "BaseException.__getattribute__"))) (ed_InvalidThresholds : PySem.W.findIn K (.ref C_InvalidThresholds) "__getattr__" = some none)
    (ei_InvalidThresholds : PySem.W.findIn K (.ref C_InvalidThresholds) "__class__" = some (some (.builtin "object.__class__"))) (ep_InvalidThresholds : PySem.W.mroIn K C_InvalidThresholds (.type "object") = some true)
    (kt_InvalidThresholds_DifferentWidths : PySem.W.kitOne K (.ref C_InvalidThresholds) (.ref C_DifferentWidths) = some false)
    (kt_InvalidThresholds_InvalidChain : PySem.W.kitOne K (.ref C_InvalidThresholds) (.ref C_InvalidChain) = some false)
    (kt_InvalidThresholds_InvalidExponent : PySem.W.kitOne K (.ref C_InvalidThresholds) (.ref C_InvalidExponent) = some false)
    (kt_InvalidThresholds_InvalidKind : PySem.W.kitOne K (.ref C_InvalidThresholds) (.ref C_InvalidKind) = some false)
    (kt_InvalidThresholds_InvalidLine : PySem.W.kitOne K (.ref C_InvalidThresholds) (.ref C_InvalidLine) = some false)
    (kt_InvalidThresholds_InvalidName : PySem.W.kitOne K (.ref C_InvalidThresholds) (.ref C_InvalidName) = some false)
    (kt_InvalidThresholds_InvalidNumber : PySem.W.kitOne K (.ref C_InvalidThresholds) (.ref C_InvalidNumber) = some false)
    (kt_InvalidThresholds_InvalidRange : PySem.W.kitOne K (.ref C_InvalidThresholds) (.ref C_InvalidRange) = some false)
    (kt_InvalidThresholds_InvalidRule : PySem.W.kitOne K (.ref C_InvalidThresholds) (.ref C_InvalidRule) = some false)
    (kt_InvalidThresholds_InvalidShift : PySem.W.kitOne K (.ref C_InvalidThresholds) (.ref C_InvalidShift) = some false)
    (kt_InvalidThresholds_InvalidText : PySem.W.kitOne K (.ref C_InvalidThresholds) (.ref C_InvalidText) = some false)
    (kt_InvalidThresholds_InvalidThresholds : PySem.W.kitOne K (.ref C_InvalidThresholds) (.ref C_InvalidThresholds) = some true)
    (kt_InvalidThresholds_InvalidWidth : PySem.W.kitOne K (.ref C_InvalidThresholds) (.ref C_InvalidWidth) = some false)
    (kt_InvalidThresholds_NoBench : PySem.W.kitOne K (.ref C_InvalidThresholds) (.ref C_NoBench) = some false)
    (kt_InvalidThresholds_NotExact : PySem.W.kitOne K (.ref C_InvalidThresholds) (.ref C_NotExact) = some false)
    (kt_InvalidThresholds_NothingToUndo : PySem.W.kitOne K (.ref C_InvalidThresholds) (.ref C_NothingToUndo) = some false)
    (kt_InvalidThresholds_OutOfRange : PySem.W.kitOne K (.ref C_InvalidThresholds) (.ref C_OutOfRange) = some false)
    (kt_InvalidThresholds_RoundingError : PySem.W.kitOne K (.ref C_InvalidThresholds) (.ref C_RoundingError) = some true)
    (kt_InvalidThresholds_UnknownName : PySem.W.kitOne K (.ref C_InvalidThresholds) (.ref C_UnknownName) = some false)
    (kt_InvalidThresholds_ValueError : PySem.W.kitOne K (.ref C_InvalidThresholds) (.type "ValueError") = some true)
    (kt_InvalidThresholds_ZeroResult : PySem.W.kitOne K (.ref C_InvalidThresholds) (.ref C_ZeroResult) = some false)
    (y_InvalidWidth : PySem.W.nsIn K mainGlobals "InvalidWidth" = some (some (.ref C_InvalidWidth))) (ex_InvalidWidth : PySem.W.subIn K (.ref C_InvalidWidth) (.type "BaseException") = some true) (et_InvalidWidth : PySem.W.typeIn K (.ref C_InvalidWidth) = some (.type "type")) (ek_InvalidWidth : PySem.W.keepIn K (.ref C_InvalidWidth) = true) (eu_InvalidWidth : PySem.W.hasDictIn K C_InvalidWidth = true)
    (ec_InvalidWidth : K.lookup C_InvalidWidth = some (excClassObj nm_InvalidWidth q_InvalidWidth C_InvalidWidth N_InvalidWidth bs_InvalidWidth bm_InvalidWidth true sn_InvalidWidth sub_InvalidWidth ab_InvalidWidth col_InvalidWidth dd_InvalidWidth k0_InvalidWidth k1_InvalidWidth k2_InvalidWidth k3_InvalidWidth k5_InvalidWidth "ValueError.__new__")) (em_InvalidWidth : PySem.HandSPX.refsVE bm_InvalidWidth = true)
    (es_InvalidWidth : PySem.W.findIn K (.ref C_InvalidWidth) "__setattr__" = some (some (.builtin "object.__setattr__"))) (ev_InvalidWidth : PySem.W.findIn K (.ref C_InvalidWidth) "value" = some none) (eb_InvalidWidth : PySem.W.findIn K (.ref C_InvalidWidth) "__getattribute__" = some (some (.builtin "BaseException.__getattribute__"))) (ed_InvalidWidth : PySem.W.findIn K (.ref C_InvalidWidth) "__getattr__" = some none)
    (ei_InvalidWidth : PySem.W.findIn K (.ref C_InvalidWidth) "__class__" = some (some (.builtin "object.__class__"))) (ep_InvalidWidth : PySem.W.mroIn K C_InvalidWidth (.type "object") = some true)
    (kt_InvalidWidth_DifferentWidths : PySem.W.kitOne K (.ref C_InvalidWidth) (.ref C_DifferentWidths) = some false)
    (kt_InvalidWidth_InvalidChain : PySem.W.kitOne K (.ref C_InvalidWidth) (.ref C_InvalidChain) = some false)
    (kt_InvalidWidth_InvalidExponent : PySem.W.kitOne K (.ref C_InvalidWidth) (.ref C_InvalidExponent) = some false)
    (kt_InvalidWidth_InvalidKind : PySem.W.kitOne K (.ref C_InvalidWidth) (.ref C_InvalidKind) = some false)
    (kt_InvalidWidth_InvalidLine : PySem.W.kitOne K (.ref C_InvalidWidth) (.ref C_InvalidLine) = some false)
    (kt_InvalidWidth_InvalidName : PySem.W.kitOne K (.ref C_InvalidWidth) (.ref C_InvalidName) = some false)
    (kt_InvalidWidth_InvalidNumber : PySem.W.kitOne K (.ref C_InvalidWidth) (.ref C_InvalidNumber) = some false)
    (kt_InvalidWidth_InvalidRange : PySem.W.kitOne K (.ref C_InvalidWidth) (.ref C_InvalidRange) = some false)
    (kt_InvalidWidth_InvalidRule : PySem.W.kitOne K (.ref C_InvalidWidth) (.ref C_InvalidRule) = some false)
    (kt_InvalidWidth_InvalidShift : PySem.W.kitOne K (.ref C_InvalidWidth) (.ref C_InvalidShift) = some false)
    (kt_InvalidWidth_InvalidText : PySem.W.kitOne K (.ref C_InvalidWidth) (.ref C_InvalidText) = some false)
    (kt_InvalidWidth_InvalidThresholds : PySem.W.kitOne K (.ref C_InvalidWidth) (.ref C_InvalidThresholds) = some false)
    (kt_InvalidWidth_InvalidWidth : PySem.W.kitOne K (.ref C_InvalidWidth) (.ref C_InvalidWidth) = some true)
    (kt_InvalidWidth_NoBench : PySem.W.kitOne K (.ref C_InvalidWidth) (.ref C_NoBench) = some false)
    (kt_InvalidWidth_NotExact : PySem.W.kitOne K (.ref C_InvalidWidth) (.ref C_NotExact) = some false)
    (kt_InvalidWidth_NothingToUndo : PySem.W.kitOne K (.ref C_InvalidWidth) (.ref C_NothingToUndo) = some false)
    (kt_InvalidWidth_OutOfRange : PySem.W.kitOne K (.ref C_InvalidWidth) (.ref C_OutOfRange) = some false)
    (kt_InvalidWidth_RoundingError : PySem.W.kitOne K (.ref C_InvalidWidth) (.ref C_RoundingError) = some true)
    (kt_InvalidWidth_UnknownName : PySem.W.kitOne K (.ref C_InvalidWidth) (.ref C_UnknownName) = some false)
    (kt_InvalidWidth_ValueError : PySem.W.kitOne K (.ref C_InvalidWidth) (.type "ValueError") = some true)
    (kt_InvalidWidth_ZeroResult : PySem.W.kitOne K (.ref C_InvalidWidth) (.ref C_ZeroResult) = some false)
    (y_NoBench : PySem.W.nsIn K mainGlobals "NoBench" = some (some (.ref C_NoBench))) (ex_NoBench : PySem.W.subIn K (.ref C_NoBench) (.type "BaseException") = some true) (et_NoBench : PySem.W.typeIn K (.ref C_NoBench) = some (.type "type")) (ek_NoBench : PySem.W.keepIn K (.ref C_NoBench) = true) (eu_NoBench : PySem.W.hasDictIn K C_NoBench = true)
    (ec_NoBench : K.lookup C_NoBench = some (excClassObj nm_NoBench q_NoBench C_NoBench N_NoBench bs_NoBench bm_NoBench true sn_NoBench sub_NoBench ab_NoBench col_NoBench dd_NoBench k0_NoBench k1_NoBench k2_NoBench k3_NoBench k5_NoBench "ValueError.__new__")) (em_NoBench : PySem.HandSPX.refsVE bm_NoBench = true) (es_NoBench : PySem.W.findIn K (.ref C_NoBench) "__setattr__" = some (some (.builtin "object.__setattr__")))
    (eb_NoBench : PySem.W.findIn K (.ref C_NoBench) "__getattribute__" = some (some (.builtin "BaseException.__getattribute__"))) (ed_NoBench : PySem.W.findIn K (.ref C_NoBench) "__getattr__" = some none)
    (ei_NoBench : PySem.W.findIn K (.ref C_NoBench) "__class__" = some (some (.builtin "object.__class__"))) (ep_NoBench : PySem.W.mroIn K C_NoBench (.type "object") = some true)
    (kt_NoBench_DifferentWidths : PySem.W.kitOne K (.ref C_NoBench) (.ref C_DifferentWidths) = some false)
    (kt_NoBench_InvalidChain : PySem.W.kitOne K (.ref C_NoBench) (.ref C_InvalidChain) = some false)
    (kt_NoBench_InvalidExponent : PySem.W.kitOne K (.ref C_NoBench) (.ref C_InvalidExponent) = some false)
    (kt_NoBench_InvalidKind : PySem.W.kitOne K (.ref C_NoBench) (.ref C_InvalidKind) = some false)
    (kt_NoBench_InvalidLine : PySem.W.kitOne K (.ref C_NoBench) (.ref C_InvalidLine) = some false)
    (kt_NoBench_InvalidName : PySem.W.kitOne K (.ref C_NoBench) (.ref C_InvalidName) = some false)
    (kt_NoBench_InvalidNumber : PySem.W.kitOne K (.ref C_NoBench) (.ref C_InvalidNumber) = some false)
    (kt_NoBench_InvalidRange : PySem.W.kitOne K (.ref C_NoBench) (.ref C_InvalidRange) = some false)
    (kt_NoBench_InvalidRule : PySem.W.kitOne K (.ref C_NoBench) (.ref C_InvalidRule) = some false)
    (kt_NoBench_InvalidShift : PySem.W.kitOne K (.ref C_NoBench) (.ref C_InvalidShift) = some false)
    (kt_NoBench_InvalidText : PySem.W.kitOne K (.ref C_NoBench) (.ref C_InvalidText) = some false)
    (kt_NoBench_InvalidThresholds : PySem.W.kitOne K (.ref C_NoBench) (.ref C_InvalidThresholds) = some false)
    (kt_NoBench_InvalidWidth : PySem.W.kitOne K (.ref C_NoBench) (.ref C_InvalidWidth) = some false)
    (kt_NoBench_NoBench : PySem.W.kitOne K (.ref C_NoBench) (.ref C_NoBench) = some true)
    (kt_NoBench_NotExact : PySem.W.kitOne K (.ref C_NoBench) (.ref C_NotExact) = some false)
    (kt_NoBench_NothingToUndo : PySem.W.kitOne K (.ref C_NoBench) (.ref C_NothingToUndo) = some false)
    (kt_NoBench_OutOfRange : PySem.W.kitOne K (.ref C_NoBench) (.ref C_OutOfRange) = some false)
    (kt_NoBench_RoundingError : PySem.W.kitOne K (.ref C_NoBench) (.ref C_RoundingError) = some true)
    (kt_NoBench_UnknownName : PySem.W.kitOne K (.ref C_NoBench) (.ref C_UnknownName) = some false)
    (kt_NoBench_ValueError : PySem.W.kitOne K (.ref C_NoBench) (.type "ValueError") = some true)
    (kt_NoBench_ZeroResult : PySem.W.kitOne K (.ref C_NoBench) (.ref C_ZeroResult) = some false)
    (y_NotExact : PySem.W.nsIn K mainGlobals "NotExact" = some (some (.ref C_NotExact))) (ex_NotExact : PySem.W.subIn K (.ref C_NotExact) (.type "BaseException") = some true) (et_NotExact : PySem.W.typeIn K (.ref C_NotExact) = some (.type "type")) (ek_NotExact : PySem.W.keepIn K (.ref C_NotExact) = true) (eu_NotExact : PySem.W.hasDictIn K C_NotExact = true)
    (ec_NotExact : K.lookup C_NotExact = some (excClassObj nm_NotExact q_NotExact C_NotExact N_NotExact bs_NotExact bm_NotExact true sn_NotExact sub_NotExact ab_NotExact col_NotExact dd_NotExact k0_NotExact k1_NotExact k2_NotExact k3_NotExact k5_NotExact "ValueError.__new__")) (em_NotExact : PySem.HandSPX.refsVE bm_NotExact = true)
    (es_NotExact : PySem.W.findIn K (.ref C_NotExact) "__setattr__" = some (some (.builtin "object.__setattr__"))) (ev_NotExact : PySem.W.findIn K (.ref C_NotExact) "value" = some none) (eb_NotExact : PySem.W.findIn K (.ref C_NotExact) "__getattribute__" = some (some (.builtin "BaseException.__getattribute__"))) (ed_NotExact : PySem.W.findIn K (.ref C_NotExact) "__getattr__" = some none)
    (ei_NotExact : PySem.W.findIn K (.ref C_NotExact) "__class__" = some (some (.builtin "object.__class__"))) (ep_NotExact : PySem.W.mroIn K C_NotExact (.type "object") = some true)
    (kt_NotExact_DifferentWidths : PySem.W.kitOne K (.ref C_NotExact) (.ref C_DifferentWidths) = some false)
    (kt_NotExact_InvalidChain : PySem.W.kitOne K (.ref C_NotExact) (.ref C_InvalidChain) = some false)
    (kt_NotExact_InvalidExponent : PySem.W.kitOne K (.ref C_NotExact) (.ref C_InvalidExponent) = some false)
    (kt_NotExact_InvalidKind : PySem.W.kitOne K (.ref C_NotExact) (.ref C_InvalidKind) = some false)
    (kt_NotExact_InvalidLine : PySem.W.kitOne K (.ref C_NotExact) (.ref C_InvalidLine) = some false)
    (kt_NotExact_InvalidName : PySem.W.kitOne K (.ref C_NotExact) (.ref C_InvalidName) = some false)
    (kt_NotExact_InvalidNumber : PySem.W.kitOne K (.ref C_NotExact) (.ref C_InvalidNumber) = some false)
    (kt_NotExact_InvalidRange : PySem.W.kitOne K (.ref C_NotExact) (.ref C_InvalidRange) = some false)
    (kt_NotExact_InvalidRule : PySem.W.kitOne K (.ref C_NotExact) (.ref C_InvalidRule) = some false)
    (kt_NotExact_InvalidShift : PySem.W.kitOne K (.ref C_NotExact) (.ref C_InvalidShift) = some false)
    (kt_NotExact_InvalidText : PySem.W.kitOne K (.ref C_NotExact) (.ref C_InvalidText) = some false)
    (kt_NotExact_InvalidThresholds : PySem.W.kitOne K (.ref C_NotExact) (.ref C_InvalidThresholds) = some false)
    (kt_NotExact_InvalidWidth : PySem.W.kitOne K (.ref C_NotExact) (.ref C_InvalidWidth) = some false)
    (kt_NotExact_NoBench : PySem.W.kitOne K (.ref C_NotExact) (.ref C_NoBench) = some false)
    (kt_NotExact_NotExact : PySem.W.kitOne K (.ref C_NotExact) (.ref C_NotExact) = some true)
    (kt_NotExact_NothingToUndo : PySem.W.kitOne K (.ref C_NotExact) (.ref C_NothingToUndo) = some false)
    (kt_NotExact_OutOfRange : PySem.W.kitOne K (.ref C_NotExact) (.ref C_OutOfRange) = some false)
    (kt_NotExact_RoundingError : PySem.W.kitOne K (.ref C_NotExact) (.ref C_RoundingError) = some true)
    (kt_NotExact_UnknownName : PySem.W.kitOne K (.ref C_NotExact) (.ref C_UnknownName) = some false)
    (kt_NotExact_ValueError : PySem.W.kitOne K (.ref C_NotExact) (.type "ValueError") = some true)
    (kt_NotExact_ZeroResult : PySem.W.kitOne K (.ref C_NotExact) (.ref C_ZeroResult) = some false)
    (y_NothingToUndo : PySem.W.nsIn K mainGlobals "NothingToUndo" = some (some (.ref C_NothingToUndo))) (ex_NothingToUndo : PySem.W.subIn K (.ref C_NothingToUndo) (.type "BaseException") = some true) (et_NothingToUndo : PySem.W.typeIn K (.ref C_NothingToUndo) = some (.type "type")) (ek_NothingToUndo : PySem.W.keepIn K (.ref C_NothingToUndo) = true) (eu_NothingToUndo : PySem.W.hasDictIn K C_NothingToUndo = true)
    (ec_NothingToUndo : K.lookup C_NothingToUndo = some (excClassObj nm_NothingToUndo q_NothingToUndo C_NothingToUndo N_NothingToUndo bs_NothingToUndo bm_NothingToUndo true sn_NothingToUndo sub_NothingToUndo ab_NothingToUndo col_NothingToUndo dd_NothingToUndo k0_NothingToUndo k1_NothingToUndo k2_NothingToUndo k3_NothingToUndo k5_NothingToUndo "ValueError.__new__")) (em_NothingToUndo : PySem.HandSPX.refsVE bm_NothingToUndo = true) (es_NothingToUndo : PySem.W.findIn K (.ref C_NothingToUndo) "__setattr__" = some (some (.builtin "object.__setattr__")))
    (eb_NothingToUndo : PySem.W.findIn K (.ref C_NothingToUndo) "__getattribute__" = some (some (.builtin "BaseException.__getattribute__"))) (ed_NothingToUndo : PySem.W.findIn K (.ref C_NothingToUndo) "__getattr__" = some none)
    (ei_NothingToUndo : PySem.W.findIn K (.ref C_NothingToUndo) "__class__" = some (some (.builtin "object.__class__"))) (ep_NothingToUndo : PySem.W.mroIn K C_NothingToUndo (.type "object") = some true)
    (kt_NothingToUndo_DifferentWidths : PySem.W.kitOne K (.ref C_NothingToUndo) (.ref C_DifferentWidths) = some false)
    (kt_NothingToUndo_InvalidChain : PySem.W.kitOne K (.ref C_NothingToUndo) (.ref C_InvalidChain) = some false)
    (kt_NothingToUndo_InvalidExponent : PySem.W.kitOne K (.ref C_NothingToUndo) (.ref C_InvalidExponent) = some false)
    (kt_NothingToUndo_InvalidKind : PySem.W.kitOne K (.ref C_NothingToUndo) (.ref C_InvalidKind) = some false)
    (kt_NothingToUndo_InvalidLine : PySem.W.kitOne K (.ref C_NothingToUndo) (.ref C_InvalidLine) = some false)
    (kt_NothingToUndo_InvalidName : PySem.W.kitOne K (.ref C_NothingToUndo) (.ref C_InvalidName) = some false)
    (kt_NothingToUndo_InvalidNumber : PySem.W.kitOne K (.ref C_NothingToUndo) (.ref C_InvalidNumber) = some false)
    (kt_NothingToUndo_InvalidRange : PySem.W.kitOne K (.ref C_NothingToUndo) (.ref C_InvalidRange) = some false)
    (kt_NothingToUndo_InvalidRule : PySem.W.kitOne K (.ref C_NothingToUndo) (.ref C_InvalidRule) = some false)
    (kt_NothingToUndo_InvalidShift : PySem.W.kitOne K (.ref C_NothingToUndo) (.ref C_InvalidShift) = some false)
    (kt_NothingToUndo_InvalidText : PySem.W.kitOne K (.ref C_NothingToUndo) (.ref C_InvalidText) = some false)
    (kt_NothingToUndo_InvalidThresholds : PySem.W.kitOne K (.ref C_NothingToUndo) (.ref C_InvalidThresholds) = some false)
    (kt_NothingToUndo_InvalidWidth : PySem.W.kitOne K (.ref C_NothingToUndo) (.ref C_InvalidWidth) = some false)
    (kt_NothingToUndo_NoBench : PySem.W.kitOne K (.ref C_NothingToUndo) (.ref C_NoBench) = some false)
    (kt_NothingToUndo_NotExact : PySem.W.kitOne K (.ref C_NothingToUndo) (.ref C_NotExact) = some false)
    (kt_NothingToUndo_NothingToUndo : PySem.W.kitOne K (.ref C_NothingToUndo) (.ref C_NothingToUndo) = some true)
    (kt_NothingToUndo_OutOfRange : PySem.W.kitOne K (.ref C_NothingToUndo) (.ref C_OutOfRange) = some false)
    (kt_NothingToUndo_RoundingError : PySem.W.kitOne K (.ref C_NothingToUndo) (.ref C_RoundingError) = some true)
    (kt_NothingToUndo_UnknownName : PySem.W.kitOne K (.ref C_NothingToUndo) (.ref C_UnknownName) = some false)
    (kt_NothingToUndo_ValueError : PySem.W.kitOne K (.ref C_NothingToUndo) (.type "ValueError") = some true)
    (kt_NothingToUndo_ZeroResult : PySem.W.kitOne K (.ref C_NothingToUndo) (.ref C_ZeroResult) = some false)
    (y_OutOfRange : PySem.W.nsIn K mainGlobals "OutOfRange" = some (some (.ref C_OutOfRange))) (ex_OutOfRange : PySem.W.subIn K (.ref C_OutOfRange) (.type "BaseException") = some true) (et_OutOfRange : PySem.W.typeIn K (.ref C_OutOfRange) = some (.type "type")) (ek_OutOfRange : PySem.W.keepIn K (.ref C_OutOfRange) = true) (eu_OutOfRange : PySem.W.hasDictIn K C_OutOfRange = true)
    (ec_OutOfRange : K.lookup C_OutOfRange = some (excClassObj nm_OutOfRange q_OutOfRange C_OutOfRange N_OutOfRange bs_OutOfRange bm_OutOfRange true sn_OutOfRange sub_OutOfRange ab_OutOfRange col_OutOfRange dd_OutOfRange k0_OutOfRange k1_OutOfRange k2_OutOfRange k3_OutOfRange k5_OutOfRange "ValueError.__new__")) (em_OutOfRange : PySem.HandSPX.refsVE bm_OutOfRange = true) (es_OutOfRange : PySem.W.findIn K (.ref C_OutOfRange) "__setattr__" = some (some (.builtin "object.__setattr__")))
    (eb_OutOfRange : PySem.W.findIn K (.ref C_OutOfRange) "__getattribute__" = some (some (.builtin "BaseException.__getattribute__"))) (ed_OutOfRange : PySem.W.findIn K (.ref C_OutOfRange) "__getattr__" = some none)
    (ei_OutOfRange : PySem.W.findIn K (.ref C_OutOfRange) "__class__" = some (some (.builtin "object.__class__"))) (ep_OutOfRange : PySem.W.mroIn K C_OutOfRange (.type "object") = some true)
    (kt_OutOfRange_DifferentWidths : PySem.W.kitOne K (.ref C_OutOfRange) (.ref C_DifferentWidths) = some false)
    (kt_OutOfRange_InvalidChain : PySem.W.kitOne K (.ref C_OutOfRange) (.ref C_InvalidChain) = some false)
    (kt_OutOfRange_InvalidExponent : PySem.W.kitOne K (.ref C_OutOfRange) (.ref C_InvalidExponent) = some false)
    (kt_OutOfRange_InvalidKind : PySem.W.kitOne K (.ref C_OutOfRange) (.ref C_InvalidKind) = some false)
    (kt_OutOfRange_InvalidLine : PySem.W.kitOne K (.ref C_OutOfRange) (.ref C_InvalidLine) = some false)
    (kt_OutOfRange_InvalidName : PySem.W.kitOne K (.ref C_OutOfRange) (.ref C_InvalidName) = some false)
    (kt_OutOfRange_InvalidNumber : PySem.W.kitOne K (.ref C_OutOfRange) (.ref C_InvalidNumber) = some false)
    (kt_OutOfRange_InvalidRange : PySem.W.kitOne K (.ref C_OutOfRange) (.ref C_InvalidRange) = some false)
    (kt_OutOfRange_InvalidRule : PySem.W.kitOne K (.ref C_OutOfRange) (.ref C_InvalidRule) = some false)
    (kt_OutOfRange_InvalidShift : PySem.W.kitOne K (.ref C_OutOfRange) (.ref C_InvalidShift) = some false)
    (kt_OutOfRange_InvalidText : PySem.W.kitOne K (.ref C_OutOfRange) (.ref C_InvalidText) = some false)
    (kt_OutOfRange_InvalidThresholds : PySem.W.kitOne K (.ref C_OutOfRange) (.ref C_InvalidThresholds) = some false)
    (kt_OutOfRange_InvalidWidth : PySem.W.kitOne K (.ref C_OutOfRange) (.ref C_InvalidWidth) = some false)
    (kt_OutOfRange_NoBench : PySem.W.kitOne K (.ref C_OutOfRange) (.ref C_NoBench) = some false)
    (kt_OutOfRange_NotExact : PySem.W.kitOne K (.ref C_OutOfRange) (.ref C_NotExact) = some false)
    (kt_OutOfRange_NothingToUndo : PySem.W.kitOne K (.ref C_OutOfRange) (.ref C_NothingToUndo) = some false)
    (kt_OutOfRange_OutOfRange : PySem.W.kitOne K (.ref C_OutOfRange) (.ref C_OutOfRange) = some true)
    (kt_OutOfRange_RoundingError : PySem.W.kitOne K (.ref C_OutOfRange) (.ref C_RoundingError) = some true)
    (kt_OutOfRange_UnknownName : PySem.W.kitOne K (.ref C_OutOfRange) (.ref C_UnknownName) = some false)
    (kt_OutOfRange_ValueError : PySem.W.kitOne K (.ref C_OutOfRange) (.type "ValueError") = some true)
    (kt_OutOfRange_ZeroResult : PySem.W.kitOne K (.ref C_OutOfRange) (.ref C_ZeroResult) = some false)
    (y_UnknownName : PySem.W.nsIn K mainGlobals "UnknownName" = some (some (.ref C_UnknownName))) (ex_UnknownName : PySem.W.subIn K (.ref C_UnknownName) (.type "BaseException") = some true) (et_UnknownName : PySem.W.typeIn K (.ref C_UnknownName) = some (.type "type")) (ek_UnknownName : PySem.W.keepIn K (.ref C_UnknownName) = true) (eu_UnknownName : PySem.W.hasDictIn K C_UnknownName = true)
    (ec_UnknownName : K.lookup C_UnknownName = some (excClassObj nm_UnknownName q_UnknownName C_UnknownName N_UnknownName bs_UnknownName bm_UnknownName true sn_UnknownName sub_UnknownName ab_UnknownName col_UnknownName dd_UnknownName k0_UnknownName k1_UnknownName k2_UnknownName k3_UnknownName k5_UnknownName "ValueError.__new__")) (em_UnknownName : PySem.HandSPX.refsVE bm_UnknownName = true)
    (es_UnknownName : PySem.W.findIn K (.ref C_UnknownName) "__setattr__" = some (some (.builtin "object.__setattr__"))) (ev_UnknownName : PySem.W.findIn K (.ref C_UnknownName) "value" = some none) (eb_UnknownName : PySem.W.findIn K (.ref C_UnknownName) "__getattribute__" = some (some (.builtin "BaseException.__getattribute__"))) (ed_UnknownName : PySem.W.findIn K (.ref C_UnknownName) "__getattr__" = some none)
    (ei_UnknownName : PySem.W.findIn K (.ref C_UnknownName) "__class__" = some (some (.builtin "object.__class__"))) (ep_UnknownName : PySem.W.mroIn K C_UnknownName (.type "object") = some true)
    (kt_UnknownName_DifferentWidths : PySem.W.kitOne K (.ref C_UnknownName) (.ref C_DifferentWidths) = some false)
    (kt_UnknownName_InvalidChain : PySem.W.kitOne K (.ref C_UnknownName) (.ref C_InvalidChain) = some false)
    (kt_UnknownName_InvalidExponent : PySem.W.kitOne K (.ref C_UnknownName) (.ref C_InvalidExponent) = some false)
    (kt_UnknownName_InvalidKind : PySem.W.kitOne K (.ref C_UnknownName) (.ref C_InvalidKind) = some false)
    (kt_UnknownName_InvalidLine : PySem.W.kitOne K (.ref C_UnknownName) (.ref C_InvalidLine) = some false)
    (kt_UnknownName_InvalidName : PySem.W.kitOne K (.ref C_UnknownName) (.ref C_InvalidName) = some false)
    (kt_UnknownName_InvalidNumber : PySem.W.kitOne K (.ref C_UnknownName) (.ref C_InvalidNumber) = some false)
    (kt_UnknownName_InvalidRange : PySem.W.kitOne K (.ref C_UnknownName) (.ref C_InvalidRange) = some false)
    (kt_UnknownName_InvalidRule : PySem.W.kitOne K (.ref C_UnknownName) (.ref C_InvalidRule) = some false)
    (kt_UnknownName_InvalidShift : PySem.W.kitOne K (.ref C_UnknownName) (.ref C_InvalidShift) = some false)
    (kt_UnknownName_InvalidText : PySem.W.kitOne K (.ref C_UnknownName) (.ref C_InvalidText) = some false)
    (kt_UnknownName_InvalidThresholds : PySem.W.kitOne K (.ref C_UnknownName) (.ref C_InvalidThresholds) = some false)
    (kt_UnknownName_InvalidWidth : PySem.W.kitOne K (.ref C_UnknownName) (.ref C_InvalidWidth) = some false)
    (kt_UnknownName_NoBench : PySem.W.kitOne K (.ref C_UnknownName) (.ref C_NoBench) = some false)
    (kt_UnknownName_NotExact : PySem.W.kitOne K (.ref C_UnknownName) (.ref C_NotExact) = some false)
    (kt_UnknownName_NothingToUndo : PySem.W.kitOne K (.ref C_UnknownName) (.ref C_NothingToUndo) = some false)
    (kt_UnknownName_OutOfRange : PySem.W.kitOne K (.ref C_UnknownName) (.ref C_OutOfRange) = some false)
    (kt_UnknownName_RoundingError : PySem.W.kitOne K (.ref C_UnknownName) (.ref C_RoundingError) = some true)
    (kt_UnknownName_UnknownName : PySem.W.kitOne K (.ref C_UnknownName) (.ref C_UnknownName) = some true)
    (kt_UnknownName_ValueError : PySem.W.kitOne K (.ref C_UnknownName) (.type "ValueError") = some true)
    (kt_UnknownName_ZeroResult : PySem.W.kitOne K (.ref C_UnknownName) (.ref C_ZeroResult) = some false)
    (y_ZeroResult : PySem.W.nsIn K mainGlobals "ZeroResult" = some (some (.ref C_ZeroResult))) (ex_ZeroResult : PySem.W.subIn K (.ref C_ZeroResult) (.type "BaseException") = some true) (et_ZeroResult : PySem.W.typeIn K (.ref C_ZeroResult) = some (.type "type")) (ek_ZeroResult : PySem.W.keepIn K (.ref C_ZeroResult) = true) (eu_ZeroResult : PySem.W.hasDictIn K C_ZeroResult = true)
    (ec_ZeroResult : K.lookup C_ZeroResult = some (excClassObj nm_ZeroResult q_ZeroResult C_ZeroResult N_ZeroResult bs_ZeroResult bm_ZeroResult true sn_ZeroResult sub_ZeroResult ab_ZeroResult col_ZeroResult dd_ZeroResult k0_ZeroResult k1_ZeroResult k2_ZeroResult k3_ZeroResult k5_ZeroResult "ValueError.__new__")) (em_ZeroResult : PySem.HandSPX.refsVE bm_ZeroResult = true) (es_ZeroResult : PySem.W.findIn K (.ref C_ZeroResult) "__setattr__" = some (some (.builtin "object.__setattr__")))
    (eb_ZeroResult : PySem.W.findIn K (.ref C_ZeroResult) "__getattribute__" = some (some (.builtin "BaseException.__getattribute__"))) (ed_ZeroResult : PySem.W.findIn K (.ref C_ZeroResult) "__getattr__" = some none)
    (ei_ZeroResult : PySem.W.findIn K (.ref C_ZeroResult) "__class__" = some (some (.builtin "object.__class__"))) (ep_ZeroResult : PySem.W.mroIn K C_ZeroResult (.type "object") = some true)
    (kt_ZeroResult_DifferentWidths : PySem.W.kitOne K (.ref C_ZeroResult) (.ref C_DifferentWidths) = some false)
    (kt_ZeroResult_InvalidChain : PySem.W.kitOne K (.ref C_ZeroResult) (.ref C_InvalidChain) = some false)
    (kt_ZeroResult_InvalidExponent : PySem.W.kitOne K (.ref C_ZeroResult) (.ref C_InvalidExponent) = some false)
    (kt_ZeroResult_InvalidKind : PySem.W.kitOne K (.ref C_ZeroResult) (.ref C_InvalidKind) = some false)
    (kt_ZeroResult_InvalidLine : PySem.W.kitOne K (.ref C_ZeroResult) (.ref C_InvalidLine) = some false)
    (kt_ZeroResult_InvalidName : PySem.W.kitOne K (.ref C_ZeroResult) (.ref C_InvalidName) = some false)
    (kt_ZeroResult_InvalidNumber : PySem.W.kitOne K (.ref C_ZeroResult) (.ref C_InvalidNumber) = some false)
    (kt_ZeroResult_InvalidRange : PySem.W.kitOne K (.ref C_ZeroResult) (.ref C_InvalidRange) = some false)
    (kt_ZeroResult_InvalidRule : PySem.W.kitOne K (.ref C_ZeroResult) (.ref C_InvalidRule) = some false)
    (kt_ZeroResult_InvalidShift : PySem.W.kitOne K (.ref C_ZeroResult) (.ref C_InvalidShift) = some false)
    (kt_ZeroResult_InvalidText : PySem.W.kitOne K (.ref C_ZeroResult) (.ref C_InvalidText) = some false)
    (kt_ZeroResult_InvalidThresholds : PySem.W.kitOne K (.ref C_ZeroResult) (.ref C_InvalidThresholds) = some false)
    (kt_ZeroResult_InvalidWidth : PySem.W.kitOne K (.ref C_ZeroResult) (.ref C_InvalidWidth) = some false)
    (kt_ZeroResult_NoBench : PySem.W.kitOne K (.ref C_ZeroResult) (.ref C_NoBench) = some false)
    (kt_ZeroResult_NotExact : PySem.W.kitOne K (.ref C_ZeroResult) (.ref C_NotExact) = some false)
    (kt_ZeroResult_NothingToUndo : PySem.W.kitOne K (.ref C_ZeroResult) (.ref C_NothingToUndo) = some false)
    (kt_ZeroResult_OutOfRange : PySem.W.kitOne K (.ref C_ZeroResult) (.ref C_OutOfRange) = some false)
    (kt_ZeroResult_RoundingError : PySem.W.kitOne K (.ref C_ZeroResult) (.ref C_RoundingError) = some true)
    (kt_ZeroResult_UnknownName : PySem.W.kitOne K (.ref C_ZeroResult) (.ref C_UnknownName) = some false)
    (kt_ZeroResult_ValueError : PySem.W.kitOne K (.ref C_ZeroResult) (.type "ValueError") = some true)
    (kt_ZeroResult_ZeroResult : PySem.W.kitOne K (.ref C_ZeroResult) (.ref C_ZeroResult) = some true) : Tx w K mg :=
  { f_NoBench_init := f0, fd_NoBench_init := _, F_NoBench_init := fun_mk (st := st_NoBench_init) l0 c0 k0, b_NoBench_init := (fun_mk (st := st_NoBench_init) l0 c0 k0).binds (ps := ["self"]) fun _ _ _ _ _ _ us hl => match us, hl with | [_], _ => rfl,
    f_NothingToUndo_init := f1, fd_NothingToUndo_init := _, F_NothingToUndo_init := fun_mk (st := st_NothingToUndo_init) l1 c1 k1, b_NothingToUndo_init := (fun_mk (st := st_NothingToUndo_init) l1 c1 k1).binds (ps := ["self"]) fun _ _ _ _ _ _ us hl => match us, hl with | [_], _ => rfl,
    f_OutOfRange_init := f2, fd_OutOfRange_init := _, F_OutOfRange_init := fun_mk (st := st_OutOfRange_init) l2 c2 k2, b_OutOfRange_init := (fun_mk (st := st_OutOfRange_init) l2 c2 k2).binds (ps := ["self"]) fun _ _ _ _ _ _ us hl => match us, hl with | [_], _ => rfl,
    f_ZeroResult_init := f3, fd_ZeroResult_init := _, F_ZeroResult_init := fun_mk (st := st_ZeroResult_init) l3 c3 k3, b_ZeroResult_init := (fun_mk (st := st_ZeroResult_init) l3 c3 k3).binds (ps := ["self"]) fun _ _ _ _ _ _ us hl => match us, hl with | [_], _ => rfl,
    f_DifferentWidths_init := f4, fd_DifferentWidths_init := _, F_DifferentWidths_init := fun_mk (st := st_DifferentWidths_init) l4 c4 k4, b_DifferentWidths_init := (fun_mk (st := st_DifferentWidths_init) l4 c4 k4).binds (ps := ["self"]) fun _ _ _ _ _ _ us hl => match us, hl with | [_], _ => rfl,
    f_InvalidLine_init := f5, fd_InvalidLine_init := _, F_InvalidLine_init := fun_mk (st := st_InvalidLine_init) l5 c5 k5, b_InvalidLine_init := (fun_mk (st := st_InvalidLine_init) l5 c5 k5).binds (ps := ["self", "value"]) fun _ _ _ _ _ _ us hl => match us, hl with | [_, _], _ => rfl,
    f_InvalidText_init := f6, fd_InvalidText_init := _, F_InvalidText_init := fun_mk (st := st_InvalidText_init) l6 c6 k6, b_InvalidText_init := (fun_mk (st := st_InvalidText_init) l6 c6 k6).binds (ps := ["self", "value"]) fun _ _ _ _ _ _ us hl => match us, hl with | [_, _], _ => rfl,
    f_NotExact_init := f7, fd_NotExact_init := _, F_NotExact_init := fun_mk (st := st_NotExact_init) l7 c7 k7, b_NotExact_init := (fun_mk (st := st_NotExact_init) l7 c7 k7).binds (ps := ["self", "value"]) fun _ _ _ _ _ _ us hl => match us, hl with | [_, _], _ => rfl,
    f_UnknownName_init := f8, fd_UnknownName_init := _, F_UnknownName_init := fun_mk (st := st_UnknownName_init) l8 c8 k8, b_UnknownName_init := (fun_mk (st := st_UnknownName_init) l8 c8 k8).binds (ps := ["self", "value"]) fun _ _ _ _ _ _ us hl => match us, hl with | [_, _], _ => rfl,
    f_InvalidName_init := f9, fd_InvalidName_init := _, F_InvalidName_init := fun_mk (st := st_InvalidName_init) l9 c9 k9, b_InvalidName_init := (fun_mk (st := st_InvalidName_init) l9 c9 k9).binds (ps := ["self", "value"]) fun _ _ _ _ _ _ us hl => match us, hl with | [_, _], _ => rfl,
    f_InvalidKind_init := f10, fd_InvalidKind_init := _, F_InvalidKind_init := fun_mk (st := st_InvalidKind_init) l10 c10 k10, b_InvalidKind_init := (fun_mk (st := st_InvalidKind_init) l10 c10 k10).binds (ps := ["self", "value"]) fun _ _ _ _ _ _ us hl => match us, hl with | [_, _], _ => rfl,
    f_InvalidShift_init := f11, fd_InvalidShift_init := _, F_InvalidShift_init := fun_mk (st := st_InvalidShift_init) l11 c11 k11, b_InvalidShift_init := (fun_mk (st := st_InvalidShift_init) l11 c11 k11).binds (ps := ["self", "value"]) fun _ _ _ _ _ _ us hl => match us, hl with | [_, _], _ => rfl,
    f_InvalidExponent_init := f12, fd_InvalidExponent_init := _, F_InvalidExponent_init := fun_mk (st := st_InvalidExponent_init) l12 c12 k12, b_InvalidExponent_init := (fun_mk (st := st_InvalidExponent_init) l12 c12 k12).binds (ps := ["self", "value"]) fun _ _ _ _ _ _ us hl => match us, hl with | [_, _], _ => rfl,
    f_InvalidRange_init := f13, fd_InvalidRange_init := _, F_InvalidRange_init := fun_mk (st := st_InvalidRange_init) l13 c13 k13, b_InvalidRange_init := (fun_mk (st := st_InvalidRange_init) l13 c13 k13).binds (ps := ["self", "value"]) fun _ _ _ _ _ _ us hl => match us, hl with | [_, _], _ => rfl,
    f_InvalidThresholds_init := f14, fd_InvalidThresholds_init := _, F_InvalidThresholds_init := fun_mk (st := st_InvalidThresholds_init) l14 c14 k14, b_InvalidThresholds_init := (fun_mk (st := st_InvalidThresholds_init) l14 c14 k14).binds (ps := ["self", "value"]) fun _ _ _ _ _ _ us hl => match us, hl with | [_, _], _ => rfl,
    f_InvalidChain_init := f15, fd_InvalidChain_init := _, F_InvalidChain_init := fun_mk (st := st_InvalidChain_init) l15 c15 k15, b_InvalidChain_init := (fun_mk (st := st_InvalidChain_init) l15 c15 k15).binds (ps := ["self", "value"]) fun _ _ _ _ _ _ us hl => match us, hl with | [_, _], _ => rfl,
    f_InvalidRule_init := f16, fd_InvalidRule_init := _, F_InvalidRule_init := fun_mk (st := st_InvalidRule_init) l16 c16 k16, b_InvalidRule_init := (fun_mk (st := st_InvalidRule_init) l16 c16 k16).binds (ps := ["self", "value"]) fun _ _ _ _ _ _ us hl => match us, hl with | [_, _], _ => rfl,
    f_InvalidWidth_init := f17, fd_InvalidWidth_init := _, F_InvalidWidth_init := fun_mk (st := st_InvalidWidth_init) l17 c17 k17, b_InvalidWidth_init := (fun_mk (st := st_InvalidWidth_init) l17 c17 k17).binds (ps := ["self", "value"]) fun _ _ _ _ _ _ us hl => match us, hl with | [_, _], _ => rfl,
    f_InvalidNumber_init := f18, fd_InvalidNumber_init := _, F_InvalidNumber_init := fun_mk (st := st_InvalidNumber_init) l18 c18 k18, b_InvalidNumber_init := (fun_mk (st := st_InvalidNumber_init) l18 c18 k18).binds (ps := ["self", "value"]) fun _ _ _ _ _ _ us hl => match us, hl with | [_, _], _ => rfl,
    f__law_source := f19, fd__law_source := _, F__law_source := fun_mk (st := st__law_source) l19 c19 k19, b__law_source := (fun_mk (st := st__law_source) l19 c19 k19).binds (ps := ["_law_script", "_law_k"]) fun _ _ _ _ _ _ us hl => match us, hl with | [_, _], _ => rfl,
    g__law_source := PySem.W.mg_of X G a19,
    f__law_draw := f20, fd__law_draw := _, F__law_draw := fun_mk (st := st__law_draw) l20 c20 k20, b__law_draw := (fun_mk (st := st__law_draw) l20 c20 k20).binds (ps := ["_law_source_here", "_law_size"]) fun _ _ _ _ _ _ us hl => match us, hl with | [_, _], _ => rfl,
    g__law_draw := PySem.W.mg_of X G a20,
    f__law_pick := f21, fd__law_pick := _, F__law_pick := fun_mk (st := st__law_pick) l21 c21 k21, b__law_pick := (fun_mk (st := st__law_pick) l21 c21 k21).binds (ps := ["_law_source_here", "_law_some"]) fun _ _ _ _ _ _ us hl => match us, hl with | [_, _], _ => rfl,
    g__law_pick := PySem.W.mg_of X G a21,
    f__law_odd := f22, fd__law_odd := _, F__law_odd := fun_mk (st := st__law_odd) l22 c22 k22, b__law_odd := (fun_mk (st := st__law_odd) l22 c22 k22).binds (ps := ["_law_source_here"]) fun _ _ _ _ _ _ us hl => match us, hl with | [_], _ => rfl,
    g__law_odd := PySem.W.mg_of X G a22,
    f__law_with_value := f23, fd__law_with_value := _, F__law_with_value := fun_mk (st := st__law_with_value) l23 c23 k23, b__law_with_value := (fun_mk (st := st__law_with_value) l23 c23 k23).binds (ps := ["_law_given"]) fun _ _ _ _ _ _ us hl => match us, hl with | [_], _ => rfl,
    g__law_with_value := PySem.W.mg_of X G a23,
    f__law_by_name := f24, fd__law_by_name := _, F__law_by_name := fun_mk (st := st__law_by_name) l24 c24 k24, b__law_by_name := (fun_mk (st := st__law_by_name) l24 c24 k24).binds (ps := ["_law_given"]) fun _ _ _ _ _ _ us hl => match us, hl with | [_], _ => rfl,
    g__law_by_name := PySem.W.mg_of X G a24,
    f__law_marks := f25, fd__law_marks := _, F__law_marks := fun_mk (st := st__law_marks) l25 c25 k25, b__law_marks := (fun_mk (st := st__law_marks) l25 c25 k25).binds (ps := ["_law_error"]) fun _ _ _ _ _ _ us hl => match us, hl with | [_], _ => rfl,
    g__law_marks := PySem.W.mg_of X G a25,
    f__law_right := f26, fd__law_right := _, F__law_right := fun_mk (st := st__law_right) l26 c26 k26, b__law_right := (fun_mk (st := st__law_right) l26 c26 k26).binds (ps := ["_law_source_here"]) fun _ _ _ _ _ _ us hl => match us, hl with | [_], _ => rfl,
    g__law_right := PySem.W.mg_of X G a26,
    f_law := f27, fd_law := _, F_law := fun_mk (st := st_law) l27 c27 k27, b_law := (fun_mk (st := st_law) l27 c27 k27).binds (ps := ["_law_script"]) fun _ _ _ _ _ _ us hl => match us, hl with | [_], _ => rfl,
    g_law := PySem.W.mg_of X G a27,
    C_RoundingError := C_RoundingError, g_RoundingError := PySem.W.mg_of X G y_RE, bc := ⟨eg_RE, er_RE, ei_RE⟩,
    C_DifferentWidths := C_DifferentWidths, g_DifferentWidths := PySem.W.mg_of X G y_DifferentWidths,
    xi_DifferentWidths := ⟨⟨⟨_, _, _, _, _, _, _, _, _, _, _, _, _, _, _, ec_DifferentWidths, em_DifferentWidths⟩, es_DifferentWidths, ex_DifferentWidths, et_DifferentWidths, ek_DifferentWidths⟩, y_DifferentWidths, a4, beq_iff_eq.mp i4⟩,
    C_InvalidChain := C_InvalidChain, g_InvalidChain := PySem.W.mg_of X G y_InvalidChain,
    xv_InvalidChain := ⟨⟨⟨_, _, _, _, _, _, _, _, _, _, _, _, _, _, _, ec_InvalidChain, em_InvalidChain⟩, es_InvalidChain, ex_InvalidChain, et_InvalidChain, ek_InvalidChain⟩, y_InvalidChain, a15, beq_iff_eq.mp i15, ev_InvalidChain⟩,
    C_InvalidExponent := C_InvalidExponent, g_InvalidExponent := PySem.W.mg_of X G y_InvalidExponent,
    xv_InvalidExponent := ⟨⟨⟨_, _, _, _, _, _, _, _, _, _, _, _, _, _, _, ec_InvalidExponent, em_InvalidExponent⟩, es_InvalidExponent, ex_InvalidExponent, et_InvalidExponent, ek_InvalidExponent⟩, y_InvalidExponent, a12, beq_iff_eq.mp i12, ev_InvalidExponent⟩,
    C_InvalidKind := C_InvalidKind, g_InvalidKind := PySem.W.mg_of X G y_InvalidKind,
    xv_InvalidKind := ⟨⟨⟨_, _, _, _, _, _, _, _, _, _, _, _, _, _, _, ec_InvalidKind, em_InvalidKind⟩, es_InvalidKind, ex_InvalidKind, et_InvalidKind, ek_InvalidKind⟩, y_InvalidKind, a10, beq_iff_eq.mp i10, ev_InvalidKind⟩,
    C_InvalidLine := C_InvalidLine, g_InvalidLine := PySem.W.mg_of X G y_InvalidLine,
    xv_InvalidLine := ⟨⟨⟨_, _, _, _, _, _, _, _, _, _, _, _, _, _, _, ec_InvalidLine, em_InvalidLine⟩, es_InvalidLine, ex_InvalidLine, et_InvalidLine, ek_InvalidLine⟩, y_InvalidLine, a5, beq_iff_eq.mp i5, ev_InvalidLine⟩,
    C_InvalidName := C_InvalidName, g_InvalidName := PySem.W.mg_of X G y_InvalidName,
    xv_InvalidName := ⟨⟨⟨_, _, _, _, _, _, _, _, _, _, _, _, _, _, _, ec_InvalidName, em_InvalidName⟩, es_InvalidName, ex_InvalidName, et_InvalidName, ek_InvalidName⟩, y_InvalidName, a9, beq_iff_eq.mp i9, ev_InvalidName⟩,
    C_InvalidNumber := C_InvalidNumber, g_InvalidNumber := PySem.W.mg_of X G y_InvalidNumber,
    xv_InvalidNumber := ⟨⟨⟨_, _, _, _, _, _, _, _, _, _, _, _, _, _, _, ec_InvalidNumber, em_InvalidNumber⟩, es_InvalidNumber, ex_InvalidNumber, et_InvalidNumber, ek_InvalidNumber⟩, y_InvalidNumber, a18, beq_iff_eq.mp i18, ev_InvalidNumber⟩,
    C_InvalidRange := C_InvalidRange, g_InvalidRange := PySem.W.mg_of X G y_InvalidRange,
    xv_InvalidRange := ⟨⟨⟨_, _, _, _, _, _, _, _, _, _, _, _, _, _, _, ec_InvalidRange, em_InvalidRange⟩, es_InvalidRange, ex_InvalidRange, et_InvalidRange, ek_InvalidRange⟩, y_InvalidRange, a13, beq_iff_eq.mp i13, ev_InvalidRange⟩,
    C_InvalidRule := C_InvalidRule, g_InvalidRule := PySem.W.mg_of X G y_InvalidRule,
    xv_InvalidRule := ⟨⟨⟨_, _, _, _, _, _, _, _, _, _, _, _, _, _, _, ec_InvalidRule, em_InvalidRule⟩, es_InvalidRule, ex_InvalidRule, et_InvalidRule, ek_InvalidRule⟩, y_InvalidRule, a16, beq_iff_eq.mp i16, ev_InvalidRule⟩,
    C_InvalidShift := C_InvalidShift, g_InvalidShift := PySem.W.mg_of X G y_InvalidShift,
    xv_InvalidShift := ⟨⟨⟨_, _, _, _, _, _, _, _, _, _, _, _, _, _, _, ec_InvalidShift, em_InvalidShift⟩, es_InvalidShift, ex_InvalidShift, et_InvalidShift, ek_InvalidShift⟩, y_InvalidShift, a11, beq_iff_eq.mp i11, ev_InvalidShift⟩,
    C_InvalidText := C_InvalidText, g_InvalidText := PySem.W.mg_of X G y_InvalidText,
    xv_InvalidText := ⟨⟨⟨_, _, _, _, _, _, _, _, _, _, _, _, _, _, _, ec_InvalidText, em_InvalidText⟩, es_InvalidText, ex_InvalidText, et_InvalidText, ek_InvalidText⟩, y_InvalidText, a6, beq_iff_eq.mp i6, ev_InvalidText⟩,
    C_InvalidThresholds := C_InvalidThresholds, g_InvalidThresholds := PySem.W.mg_of X G y_InvalidThresholds,
    xv_InvalidThresholds := ⟨⟨⟨_, _, _, _, _, _, _, _, _, _, _, _, _, _, _, ec_InvalidThresholds, em_InvalidThresholds⟩, es_InvalidThresholds, ex_InvalidThresholds, et_InvalidThresholds, ek_InvalidThresholds⟩, y_InvalidThresholds, a14, beq_iff_eq.mp i14, ev_InvalidThresholds⟩,
    C_InvalidWidth := C_InvalidWidth, g_InvalidWidth := PySem.W.mg_of X G y_InvalidWidth,
    xv_InvalidWidth := ⟨⟨⟨_, _, _, _, _, _, _, _, _, _, _, _, _, _, _, ec_InvalidWidth, em_InvalidWidth⟩, es_InvalidWidth, ex_InvalidWidth, et_InvalidWidth, ek_InvalidWidth⟩, y_InvalidWidth, a17, beq_iff_eq.mp i17, ev_InvalidWidth⟩,
    C_NoBench := C_NoBench, g_NoBench := PySem.W.mg_of X G y_NoBench,
    xi_NoBench := ⟨⟨⟨_, _, _, _, _, _, _, _, _, _, _, _, _, _, _, ec_NoBench, em_NoBench⟩, es_NoBench, ex_NoBench, et_NoBench, ek_NoBench⟩, y_NoBench, a0, beq_iff_eq.mp i0⟩,
    C_NotExact := C_NotExact, g_NotExact := PySem.W.mg_of X G y_NotExact,
    xv_NotExact := ⟨⟨⟨_, _, _, _, _, _, _, _, _, _, _, _, _, _, _, ec_NotExact, em_NotExact⟩, es_NotExact, ex_NotExact, et_NotExact, ek_NotExact⟩, y_NotExact, a7, beq_iff_eq.mp i7, ev_NotExact⟩,
    C_NothingToUndo := C_NothingToUndo, g_NothingToUndo := PySem.W.mg_of X G y_NothingToUndo,
    xi_NothingToUndo := ⟨⟨⟨_, _, _, _, _, _, _, _, _, _, _, _, _, _, _, ec_NothingToUndo, em_NothingToUndo⟩, es_NothingToUndo, ex_NothingToUndo, et_NothingToUndo, ek_NothingToUndo⟩, y_NothingToUndo, a1, beq_iff_eq.mp i1⟩,
    C_OutOfRange := C_OutOfRange, g_OutOfRange := PySem.W.mg_of X G y_OutOfRange,
    xi_OutOfRange := ⟨⟨⟨_, _, _, _, _, _, _, _, _, _, _, _, _, _, _, ec_OutOfRange, em_OutOfRange⟩, es_OutOfRange, ex_OutOfRange, et_OutOfRange, ek_OutOfRange⟩, y_OutOfRange, a2, beq_iff_eq.mp i2⟩,
    C_UnknownName := C_UnknownName, g_UnknownName := PySem.W.mg_of X G y_UnknownName,
    xv_UnknownName := ⟨⟨⟨_, _, _, _, _, _, _, _, _, _, _, _, _, _, _, ec_UnknownName, em_UnknownName⟩, es_UnknownName, ex_UnknownName, et_UnknownName, ek_UnknownName⟩, y_UnknownName, a8, beq_iff_eq.mp i8, ev_UnknownName⟩,
    C_ZeroResult := C_ZeroResult, g_ZeroResult := PySem.W.mg_of X G y_ZeroResult,
    xi_ZeroResult := ⟨⟨⟨_, _, _, _, _, _, _, _, _, _, _, _, _, _, _, ec_ZeroResult, em_ZeroResult⟩, es_ZeroResult, ex_ZeroResult, et_ZeroResult, ek_ZeroResult⟩, y_ZeroResult, a3, beq_iff_eq.mp i3⟩,
    hv := fun nm hm => by
      simp only [List.mem_cons, List.not_mem_nil, or_false] at hm
      rcases hm with rfl | rfl | rfl | rfl | rfl | rfl | rfl | rfl | rfl | rfl | rfl | rfl | rfl | rfl
      · exact ⟨_, y_InvalidChain, ⟨eb_InvalidChain, ed_InvalidChain, ex_InvalidChain, eu_InvalidChain⟩, ev_InvalidChain⟩
      · exact ⟨_, y_InvalidExponent, ⟨eb_InvalidExponent, ed_InvalidExponent, ex_InvalidExponent, eu_InvalidExponent⟩, ev_InvalidExponent⟩
      · exact ⟨_, y_InvalidKind, ⟨eb_InvalidKind, ed_InvalidKind, ex_InvalidKind, eu_InvalidKind⟩, ev_InvalidKind⟩
      · exact ⟨_, y_InvalidLine, ⟨eb_InvalidLine, ed_InvalidLine, ex_InvalidLine, eu_InvalidLine⟩, ev_InvalidLine⟩
      · exact ⟨_, y_InvalidName, ⟨eb_InvalidName, ed_InvalidName, ex_InvalidName, eu_InvalidName⟩, ev_InvalidName⟩
      · exact ⟨_, y_InvalidNumber, ⟨eb_InvalidNumber, ed_InvalidNumber, ex_InvalidNumber, eu_InvalidNumber⟩, ev_InvalidNumber⟩
      · exact ⟨_, y_InvalidRange, ⟨eb_InvalidRange, ed_InvalidRange, ex_InvalidRange, eu_InvalidRange⟩, ev_InvalidRange⟩
      · exact ⟨_, y_InvalidRule, ⟨eb_InvalidRule, ed_InvalidRule, ex_InvalidRule, eu_InvalidRule⟩, ev_InvalidRule⟩
      · exact ⟨_, y_InvalidShift, ⟨eb_InvalidShift, ed_InvalidShift, ex_InvalidShift, eu_InvalidShift⟩, ev_InvalidShift⟩
      · exact ⟨_, y_InvalidText, ⟨eb_InvalidText, ed_InvalidText, ex_InvalidText, eu_InvalidText⟩, ev_InvalidText⟩
      · exact ⟨_, y_InvalidThresholds, ⟨eb_InvalidThresholds, ed_InvalidThresholds, ex_InvalidThresholds, eu_InvalidThresholds⟩, ev_InvalidThresholds⟩
      · exact ⟨_, y_InvalidWidth, ⟨eb_InvalidWidth, ed_InvalidWidth, ex_InvalidWidth, eu_InvalidWidth⟩, ev_InvalidWidth⟩
      · exact ⟨_, y_NotExact, ⟨eb_NotExact, ed_NotExact, ex_NotExact, eu_NotExact⟩, ev_NotExact⟩
      · exact ⟨_, y_UnknownName, ⟨eb_UnknownName, ed_UnknownName, ex_UnknownName, eu_UnknownName⟩, ev_UnknownName⟩,
    is_DifferentWidths := fun nm hm => by
      simp only [List.mem_cons, List.not_mem_nil, or_false] at hm
      rcases hm with rfl | rfl | rfl | rfl | rfl | rfl | rfl | rfl | rfl | rfl | rfl | rfl | rfl | rfl | rfl | rfl | rfl | rfl | rfl
      · exact ⟨_, y_DifferentWidths, ⟨by obtain ⟨cd, hc, _⟩ := PySem.W.any_some eu_DifferentWidths; rw [hc]; rfl, eb_DifferentWidths, ⟨_, ed_DifferentWidths⟩, ex_DifferentWidths, ei_DifferentWidths, en_X, eo_X, ep_DifferentWidths⟩, (show xsub "DifferentWidths" "DifferentWidths" = true from by decide +kernel) ▸ kt_DifferentWidths_DifferentWidths⟩
      · exact ⟨_, y_InvalidChain, ⟨by obtain ⟨cd, hc, _⟩ := PySem.W.any_some eu_InvalidChain; rw [hc]; rfl, eb_InvalidChain, ⟨_, ed_InvalidChain⟩, ex_InvalidChain, ei_InvalidChain, en_X, eo_X, ep_InvalidChain⟩, (show xsub "InvalidChain" "DifferentWidths" = false from by decide +kernel) ▸ kt_InvalidChain_DifferentWidths⟩
      · exact ⟨_, y_InvalidExponent, ⟨by obtain ⟨cd, hc, _⟩ := PySem.W.any_some eu_InvalidExponent; rw [hc]; rfl, eb_InvalidExponent, ⟨_, ed_InvalidExponent⟩, ex_InvalidExponent, ei_InvalidExponent, en_X, eo_X, ep_InvalidExponent⟩, (show xsub "InvalidExponent" "DifferentWidths" = false from by decide +kernel) ▸ kt_InvalidExponent_DifferentWidths⟩
      · exact ⟨_, y_InvalidKind, ⟨by obtain ⟨cd, hc, _⟩ := PySem.W.any_some eu_InvalidKind; rw [hc]; rfl, eb_InvalidKind, ⟨_, ed_InvalidKind⟩, ex_InvalidKind, ei_InvalidKind, en_X, eo_X, ep_InvalidKind⟩, (show xsub "InvalidKind" "DifferentWidths" = false from by decide +kernel) ▸ kt_InvalidKind_DifferentWidths⟩
      · exact ⟨_, y_InvalidLine, ⟨by obtain ⟨cd, hc, _⟩ := PySem.W.any_some eu_InvalidLine; rw [hc]; rfl, eb_InvalidLine, ⟨_, ed_InvalidLine⟩, ex_InvalidLine, ei_InvalidLine, en_X, eo_X, ep_InvalidLine⟩, (show xsub "InvalidLine" "DifferentWidths" = false from by decide +kernel) ▸ kt_InvalidLine_DifferentWidths⟩
      · exact ⟨_, y_InvalidName, ⟨by obtain ⟨cd, hc, _⟩ := PySem.W.any_some eu_InvalidName; rw [hc]; rfl, eb_InvalidName, ⟨_, ed_InvalidName⟩, ex_InvalidName, ei_InvalidName, en_X, eo_X, ep_InvalidName⟩, (show xsub "InvalidName" "DifferentWidths" = false from by decide +kernel) ▸ kt_InvalidName_DifferentWidths⟩
      · exact ⟨_, y_InvalidNumber, ⟨by obtain ⟨cd, hc, _⟩ := PySem.W.any_some eu_InvalidNumber; rw [hc]; rfl, eb_InvalidNumber, ⟨_, ed_InvalidNumber⟩, ex_InvalidNumber, ei_InvalidNumber, en_X, eo_X, ep_InvalidNumber⟩, (show xsub "InvalidNumber" "DifferentWidths" = false from by decide +kernel) ▸ kt_InvalidNumber_DifferentWidths⟩
      · exact ⟨_, y_InvalidRange, ⟨by obtain ⟨cd, hc, _⟩ := PySem.W.any_some eu_InvalidRange; rw [hc]; rfl, eb_InvalidRange, ⟨_, ed_InvalidRange⟩, ex_InvalidRange, ei_InvalidRange, en_X, eo_X, ep_InvalidRange⟩, (show xsub "InvalidRange" "DifferentWidths" = false from by decide +kernel) ▸ kt_InvalidRange_DifferentWidths⟩
      · exact ⟨_, y_InvalidRule, ⟨by obtain ⟨cd, hc, _⟩ := PySem.W.any_some eu_InvalidRule; rw [hc]; rfl, eb_InvalidRule, ⟨_, ed_InvalidRule⟩, ex_InvalidRule, ei_InvalidRule, en_X, eo_X, ep_InvalidRule⟩, (show xsub "InvalidRule" "DifferentWidths" = false from by decide +kernel) ▸ kt_InvalidRule_DifferentWidths⟩
      · exact ⟨_, y_InvalidShift, ⟨by obtain ⟨cd, hc, _⟩ := PySem.W.any_some eu_InvalidShift; rw [hc]; rfl, eb_InvalidShift, ⟨_, ed_InvalidShift⟩, ex_InvalidShift, ei_InvalidShift, en_X, eo_X, ep_InvalidShift⟩, (show xsub "InvalidShift" "DifferentWidths" = false from by decide +kernel) ▸ kt_InvalidShift_DifferentWidths⟩
      · exact ⟨_, y_InvalidText, ⟨by obtain ⟨cd, hc, _⟩ := PySem.W.any_some eu_InvalidText; rw [hc]; rfl, eb_InvalidText, ⟨_, ed_InvalidText⟩, ex_InvalidText, ei_InvalidText, en_X, eo_X, ep_InvalidText⟩, (show xsub "InvalidText" "DifferentWidths" = false from by decide +kernel) ▸ kt_InvalidText_DifferentWidths⟩
      · exact ⟨_, y_InvalidThresholds, ⟨by obtain ⟨cd, hc, _⟩ := PySem.W.any_some eu_InvalidThresholds; rw [hc]; rfl, eb_InvalidThresholds, ⟨_, ed_InvalidThresholds⟩, ex_InvalidThresholds, ei_InvalidThresholds, en_X, eo_X, ep_InvalidThresholds⟩, (show xsub "InvalidThresholds" "DifferentWidths" = false from by decide +kernel) ▸ kt_InvalidThresholds_DifferentWidths⟩
      · exact ⟨_, y_InvalidWidth, ⟨by obtain ⟨cd, hc, _⟩ := PySem.W.any_some eu_InvalidWidth; rw [hc]; rfl, eb_InvalidWidth, ⟨_, ed_InvalidWidth⟩, ex_InvalidWidth, ei_InvalidWidth, en_X, eo_X, ep_InvalidWidth⟩, (show xsub "InvalidWidth" "DifferentWidths" = false from by decide +kernel) ▸ kt_InvalidWidth_DifferentWidths⟩
      · exact ⟨_, y_NoBench, ⟨by obtain ⟨cd, hc, _⟩ := PySem.W.any_some eu_NoBench; rw [hc]; rfl, eb_NoBench, ⟨_, ed_NoBench⟩, ex_NoBench, ei_NoBench, en_X, eo_X, ep_NoBench⟩, (show xsub "NoBench" "DifferentWidths" = false from by decide +kernel) ▸ kt_NoBench_DifferentWidths⟩
      · exact ⟨_, y_NotExact, ⟨by obtain ⟨cd, hc, _⟩ := PySem.W.any_some eu_NotExact; rw [hc]; rfl, eb_NotExact, ⟨_, ed_NotExact⟩, ex_NotExact, ei_NotExact, en_X, eo_X, ep_NotExact⟩, (show xsub "NotExact" "DifferentWidths" = false from by decide +kernel) ▸ kt_NotExact_DifferentWidths⟩
      · exact ⟨_, y_NothingToUndo, ⟨by obtain ⟨cd, hc, _⟩ := PySem.W.any_some eu_NothingToUndo; rw [hc]; rfl, eb_NothingToUndo, ⟨_, ed_NothingToUndo⟩, ex_NothingToUndo, ei_NothingToUndo, en_X, eo_X, ep_NothingToUndo⟩, (show xsub "NothingToUndo" "DifferentWidths" = false from by decide +kernel) ▸ kt_NothingToUndo_DifferentWidths⟩
      · exact ⟨_, y_OutOfRange, ⟨by obtain ⟨cd, hc, _⟩ := PySem.W.any_some eu_OutOfRange; rw [hc]; rfl, eb_OutOfRange, ⟨_, ed_OutOfRange⟩, ex_OutOfRange, ei_OutOfRange, en_X, eo_X, ep_OutOfRange⟩, (show xsub "OutOfRange" "DifferentWidths" = false from by decide +kernel) ▸ kt_OutOfRange_DifferentWidths⟩
      · exact ⟨_, y_UnknownName, ⟨by obtain ⟨cd, hc, _⟩ := PySem.W.any_some eu_UnknownName; rw [hc]; rfl, eb_UnknownName, ⟨_, ed_UnknownName⟩, ex_UnknownName, ei_UnknownName, en_X, eo_X, ep_UnknownName⟩, (show xsub "UnknownName" "DifferentWidths" = false from by decide +kernel) ▸ kt_UnknownName_DifferentWidths⟩
      · exact ⟨_, y_ZeroResult, ⟨by obtain ⟨cd, hc, _⟩ := PySem.W.any_some eu_ZeroResult; rw [hc]; rfl, eb_ZeroResult, ⟨_, ed_ZeroResult⟩, ex_ZeroResult, ei_ZeroResult, en_X, eo_X, ep_ZeroResult⟩, (show xsub "ZeroResult" "DifferentWidths" = false from by decide +kernel) ▸ kt_ZeroResult_DifferentWidths⟩,
    is_InvalidChain := fun nm hm => by
      simp only [List.mem_cons, List.not_mem_nil, or_false] at hm
      rcases hm with rfl | rfl | rfl | rfl | rfl | rfl | rfl | rfl | rfl | rfl | rfl | rfl | rfl | rfl | rfl | rfl | rfl | rfl | rfl
      · exact ⟨_, y_DifferentWidths, ⟨by obtain ⟨cd, hc, _⟩ := PySem.W.any_some eu_DifferentWidths; rw [hc]; rfl, eb_DifferentWidths, ⟨_, ed_DifferentWidths⟩, ex_DifferentWidths, ei_DifferentWidths, en_X, eo_X, ep_DifferentWidths⟩, (show xsub "DifferentWidths" "InvalidChain" = false from by decide +kernel) ▸ kt_DifferentWidths_InvalidChain⟩
      · exact ⟨_, y_InvalidChain, ⟨by obtain ⟨cd, hc, _⟩ := PySem.W.any_some eu_InvalidChain; rw [hc]; rfl, eb_InvalidChain, ⟨_, ed_InvalidChain⟩, ex_InvalidChain, ei_InvalidChain, en_X, eo_X, ep_InvalidChain⟩, (show xsub "InvalidChain" "InvalidChain" = true from by decide +kernel) ▸ kt_InvalidChain_InvalidChain⟩
      · exact ⟨_, y_InvalidExponent, ⟨by obtain ⟨cd, hc, _⟩ := PySem.W.any_some eu_InvalidExponent; rw [hc]; rfl, eb_InvalidExponent, ⟨_, ed_InvalidExponent⟩, ex_InvalidExponent, ei_InvalidExponent, en_X, eo_X, ep_InvalidExponent⟩, (show xsub "InvalidExponent" "InvalidChain" = false from by decide +kernel) ▸ kt_InvalidExponent_InvalidChain⟩
      · exact ⟨_, y_InvalidKind, ⟨by obtain ⟨cd, hc, _⟩ := PySem.W.any_some eu_InvalidKind; rw [hc]; rfl, eb_InvalidKind, ⟨_, ed_InvalidKind⟩, ex_InvalidKind, ei_InvalidKind, en_X, eo_X, ep_InvalidKind⟩, (show xsub "InvalidKind" "InvalidChain" = false from by decide +kernel) ▸ kt_InvalidKind_InvalidChain⟩
      · exact ⟨_, y_InvalidLine, ⟨by obtain ⟨cd, hc, _⟩ := PySem.W.any_some eu_InvalidLine; rw [hc]; rfl, eb_InvalidLine, ⟨_, ed_InvalidLine⟩, ex_InvalidLine, ei_InvalidLine, en_X, eo_X, ep_InvalidLine⟩, (show xsub "InvalidLine" "InvalidChain" = false from by decide +kernel) ▸ kt_InvalidLine_InvalidChain⟩
      · exact ⟨_, y_InvalidName, ⟨by obtain ⟨cd, hc, _⟩ := PySem.W.any_some eu_InvalidName; rw [hc]; rfl, eb_InvalidName, ⟨_, ed_InvalidName⟩, ex_InvalidName, ei_InvalidName, en_X, eo_X, ep_InvalidName⟩, (show xsub "InvalidName" "InvalidChain" = false from by decide +kernel) ▸ kt_InvalidName_InvalidChain⟩
      · exact ⟨_, y_InvalidNumber, ⟨by obtain ⟨cd, hc, _⟩ := PySem.W.any_some eu_InvalidNumber; rw [hc]; rfl, eb_InvalidNumber, ⟨_, ed_InvalidNumber⟩, ex_InvalidNumber, ei_InvalidNumber, en_X, eo_X, ep_InvalidNumber⟩, (show xsub "InvalidNumber" "InvalidChain" = false from by decide +kernel) ▸ kt_InvalidNumber_InvalidChain⟩
      · exact ⟨_, y_InvalidRange, ⟨by obtain ⟨cd, hc, _⟩ := PySem.W.any_some eu_InvalidRange; rw [hc]; rfl, eb_InvalidRange, ⟨_, ed_InvalidRange⟩, ex_InvalidRange, ei_InvalidRange, en_X, eo_X, ep_InvalidRange⟩, (show xsub "InvalidRange" "InvalidChain" = false from by decide +kernel) ▸ kt_InvalidRange_InvalidChain⟩
      · exact ⟨_, y_InvalidRule, ⟨by obtain ⟨cd, hc, _⟩ := PySem.W.any_some eu_InvalidRule; rw [hc]; rfl, eb_InvalidRule, ⟨_, ed_InvalidRule⟩, ex_InvalidRule, ei_InvalidRule, en_X, eo_X, ep_InvalidRule⟩, (show xsub "InvalidRule" "InvalidChain" = false from by decide +kernel) ▸ kt_InvalidRule_InvalidChain⟩
      · exact ⟨_, y_InvalidShift, ⟨by obtain ⟨cd, hc, _⟩ := PySem.W.any_some eu_InvalidShift; rw [hc]; rfl, eb_InvalidShift, ⟨_, ed_InvalidShift⟩, ex_InvalidShift, ei_InvalidShift, en_X, eo_X, ep_InvalidShift⟩, (show xsub "InvalidShift" "InvalidChain" = false from by decide +kernel) ▸ kt_InvalidShift_InvalidChain⟩
      · exact ⟨_, y_InvalidText, ⟨by obtain ⟨cd, hc, _⟩ := PySem.W.any_some eu_InvalidText; rw [hc]; rfl, eb_InvalidText, ⟨_, ed_InvalidText⟩, ex_InvalidText, ei_InvalidText, en_X, eo_X, ep_InvalidText⟩, (show xsub "InvalidText" "InvalidChain" = false from by decide +kernel) ▸ kt_InvalidText_InvalidChain⟩
      · exact ⟨_, y_InvalidThresholds, ⟨by obtain ⟨cd, hc, _⟩ := PySem.W.any_some eu_InvalidThresholds; rw [hc]; rfl, eb_InvalidThresholds, ⟨_, ed_InvalidThresholds⟩, ex_InvalidThresholds, ei_InvalidThresholds, en_X, eo_X, ep_InvalidThresholds⟩, (show xsub "InvalidThresholds" "InvalidChain" = false from by decide +kernel) ▸ kt_InvalidThresholds_InvalidChain⟩
      · exact ⟨_, y_InvalidWidth, ⟨by obtain ⟨cd, hc, _⟩ := PySem.W.any_some eu_InvalidWidth; rw [hc]; rfl, eb_InvalidWidth, ⟨_, ed_InvalidWidth⟩, ex_InvalidWidth, ei_InvalidWidth, en_X, eo_X, ep_InvalidWidth⟩, (show xsub "InvalidWidth" "InvalidChain" = false from by decide +kernel) ▸ kt_InvalidWidth_InvalidChain⟩
      · exact ⟨_, y_NoBench, ⟨by obtain ⟨cd, hc, _⟩ := PySem.W.any_some eu_NoBench; rw [hc]; rfl, eb_NoBench, ⟨_, ed_NoBench⟩, ex_NoBench, ei_NoBench, en_X, eo_X, ep_NoBench⟩, (show xsub "NoBench" "InvalidChain" = false from by decide +kernel) ▸ kt_NoBench_InvalidChain⟩
      · exact ⟨_, y_NotExact, ⟨by obtain ⟨cd, hc, _⟩ := PySem.W.any_some eu_NotExact; rw [hc]; rfl, eb_NotExact, ⟨_, ed_NotExact⟩, ex_NotExact, ei_NotExact, en_X, eo_X, ep_NotExact⟩, (show xsub "NotExact" "InvalidChain" = false from by decide +kernel) ▸ kt_NotExact_InvalidChain⟩
      · exact ⟨_, y_NothingToUndo, ⟨by obtain ⟨cd, hc, _⟩ := PySem.W.any_some eu_NothingToUndo; rw [hc]; rfl, eb_NothingToUndo, ⟨_, ed_NothingToUndo⟩, ex_NothingToUndo, ei_NothingToUndo, en_X, eo_X, ep_NothingToUndo⟩, (show xsub "NothingToUndo" "InvalidChain" = false from by decide +kernel) ▸ kt_NothingToUndo_InvalidChain⟩
      · exact ⟨_, y_OutOfRange, ⟨by obtain ⟨cd, hc, _⟩ := PySem.W.any_some eu_OutOfRange; rw [hc]; rfl, eb_OutOfRange, ⟨_, ed_OutOfRange⟩, ex_OutOfRange, ei_OutOfRange, en_X, eo_X, ep_OutOfRange⟩, (show xsub "OutOfRange" "InvalidChain" = false from by decide +kernel) ▸ kt_OutOfRange_InvalidChain⟩
      · exact ⟨_, y_UnknownName, ⟨by obtain ⟨cd, hc, _⟩ := PySem.W.any_some eu_UnknownName; rw [hc]; rfl, eb_UnknownName, ⟨_, ed_UnknownName⟩, ex_UnknownName, ei_UnknownName, en_X, eo_X, ep_UnknownName⟩, (show xsub "UnknownName" "InvalidChain" = false from by decide +kernel) ▸ kt_UnknownName_InvalidChain⟩
      · exact ⟨_, y_ZeroResult, ⟨by obtain ⟨cd, hc, _⟩ := PySem.W.any_some eu_ZeroResult; rw [hc]; rfl, eb_ZeroResult, ⟨_, ed_ZeroResult⟩, ex_ZeroResult, ei_ZeroResult, en_X, eo_X, ep_ZeroResult⟩, (show xsub "ZeroResult" "InvalidChain" = false from by decide +kernel) ▸ kt_ZeroResult_InvalidChain⟩,
    is_InvalidExponent := fun nm hm => by
      simp only [List.mem_cons, List.not_mem_nil, or_false] at hm
      rcases hm with rfl | rfl | rfl | rfl | rfl | rfl | rfl | rfl | rfl | rfl | rfl | rfl | rfl | rfl | rfl | rfl | rfl | rfl | rfl
      · exact ⟨_, y_DifferentWidths, ⟨by obtain ⟨cd, hc, _⟩ := PySem.W.any_some eu_DifferentWidths; rw [hc]; rfl, eb_DifferentWidths, ⟨_, ed_DifferentWidths⟩, ex_DifferentWidths, ei_DifferentWidths, en_X, eo_X, ep_DifferentWidths⟩, (show xsub "DifferentWidths" "InvalidExponent" = false from by decide +kernel) ▸ kt_DifferentWidths_InvalidExponent⟩
      · exact ⟨_, y_InvalidChain, ⟨by obtain ⟨cd, hc, _⟩ := PySem.W.any_some eu_InvalidChain; rw [hc]; rfl, eb_InvalidChain, ⟨_, ed_InvalidChain⟩, ex_InvalidChain, ei_InvalidChain, en_X, eo_X, ep_InvalidChain⟩, (show xsub "InvalidChain" "InvalidExponent" = false from by decide +kernel) ▸ kt_InvalidChain_InvalidExponent⟩
      · exact ⟨_, y_InvalidExponent, ⟨by obtain ⟨cd, hc, _⟩ := PySem.W.any_some eu_InvalidExponent; rw [hc]; rfl, eb_InvalidExponent, ⟨_, ed_InvalidExponent⟩, ex_InvalidExponent, ei_InvalidExponent, en_X, eo_X, ep_InvalidExponent⟩, (show xsub "InvalidExponent" "InvalidExponent" = true from by decide +kernel) ▸ kt_InvalidExponent_InvalidExponent⟩
      · exact ⟨_, y_InvalidKind, ⟨by obtain ⟨cd, hc, _⟩ := PySem.W.any_some eu_InvalidKind; rw [hc]; rfl, eb_InvalidKind, ⟨_, ed_InvalidKind⟩, ex_InvalidKind, ei_InvalidKind, en_X, eo_X, ep_InvalidKind⟩, (show xsub "InvalidKind" "InvalidExponent" = false from by decide +kernel) ▸ kt_InvalidKind_InvalidExponent⟩
      · exact ⟨_, y_InvalidLine, ⟨by obtain ⟨cd, hc, _⟩ := PySem.W.any_some eu_InvalidLine; rw [hc]; rfl, eb_InvalidLine, ⟨_, ed_InvalidLine⟩, ex_InvalidLine, ei_InvalidLine, en_X, eo_X, ep_InvalidLine⟩, (show xsub "InvalidLine" "InvalidExponent" = false from by decide +kernel) ▸ kt_InvalidLine_InvalidExponent⟩
      · exact ⟨_, y_InvalidName, ⟨by obtain ⟨cd, hc, _⟩ := PySem.W.any_some eu_InvalidName; rw [hc]; rfl, eb_InvalidName, ⟨_, ed_InvalidName⟩, ex_InvalidName, ei_InvalidName, en_X, eo_X, ep_InvalidName⟩, (show xsub "InvalidName" "InvalidExponent" = false from by decide +kernel) ▸ kt_InvalidName_InvalidExponent⟩
      · exact ⟨_, y_InvalidNumber, ⟨by obtain ⟨cd, hc, _⟩ := PySem.W.any_some eu_InvalidNumber; rw [hc]; rfl, eb_InvalidNumber, ⟨_, ed_InvalidNumber⟩, ex_InvalidNumber, ei_InvalidNumber, en_X, eo_X, ep_InvalidNumber⟩, (show xsub "InvalidNumber" "InvalidExponent" = false from by decide +kernel) ▸ kt_InvalidNumber_InvalidExponent⟩
      · exact ⟨_, y_InvalidRange, ⟨by obtain ⟨cd, hc, _⟩ := PySem.W.any_some eu_InvalidRange; rw [hc]; rfl, eb_InvalidRange, ⟨_, ed_InvalidRange⟩, ex_InvalidRange, ei_InvalidRange, en_X, eo_X, ep_InvalidRange⟩, (show xsub "InvalidRange" "InvalidExponent" = false from by decide +kernel) ▸ kt_InvalidRange_InvalidExponent⟩
      · exact ⟨_, y_InvalidRule, ⟨by obtain ⟨cd, hc, _⟩ := PySem.W.any_some eu_InvalidRule; rw [hc]; rfl, eb_InvalidRule, ⟨_, ed_InvalidRule⟩, ex_InvalidRule, ei_InvalidRule, en_X, eo_X, ep_InvalidRule⟩, (show xsub "InvalidRule" "InvalidExponent" = false from by decide +kernel) ▸ kt_InvalidRule_InvalidExponent⟩
      · exact ⟨_, y_InvalidShift, ⟨by obtain ⟨cd, hc, _⟩ := PySem.W.any_some eu_InvalidShift; rw [hc]; rfl, eb_InvalidShift, ⟨_, ed_InvalidShift⟩, ex_InvalidShift, ei_InvalidShift, en_X, eo_X, ep_InvalidShift⟩, (show xsub "InvalidShift" "InvalidExponent" = false from by decide +kernel) ▸ kt_InvalidShift_InvalidExponent⟩
      · exact ⟨_, y_InvalidText, ⟨by obtain ⟨cd, hc, _⟩ := PySem.W.any_some eu_InvalidText; rw [hc]; rfl, eb_InvalidText, ⟨_, ed_InvalidText⟩, ex_InvalidText, ei_InvalidText, en_X, eo_X, ep_InvalidText⟩, (show xsub "InvalidText" "InvalidExponent" = false from by decide +kernel) ▸ kt_InvalidText_InvalidExponent⟩
      · exact ⟨_, y_InvalidThresholds, ⟨by obtain ⟨cd, hc, _⟩ := PySem.W.any_some eu_InvalidThresholds; rw [hc]; rfl, eb_InvalidThresholds, ⟨_, ed_InvalidThresholds⟩, ex_InvalidThresholds, ei_InvalidThresholds, en_X, eo_X, ep_InvalidThresholds⟩, (show xsub "InvalidThresholds" "InvalidExponent" = false from by decide +kernel) ▸ kt_InvalidThresholds_InvalidExponent⟩
      · exact ⟨_, y_InvalidWidth, ⟨by obtain ⟨cd, hc, _⟩ := PySem.W.any_some eu_InvalidWidth; rw [hc]; rfl, eb_InvalidWidth, ⟨_, ed_InvalidWidth⟩, ex_InvalidWidth, ei_InvalidWidth, en_X, eo_X, ep_InvalidWidth⟩, (show xsub "InvalidWidth" "InvalidExponent" = false from by decide +kernel) ▸ kt_InvalidWidth_InvalidExponent⟩
      · exact ⟨_, y_NoBench, ⟨by obtain ⟨cd, hc, _⟩ := PySem.W.any_some eu_NoBench; rw [hc]; rfl, eb_NoBench, ⟨_, ed_NoBench⟩, ex_NoBench, ei_NoBench, en_X, eo_X, ep_NoBench⟩, (show xsub "NoBench" "InvalidExponent" = false from by decide +kernel) ▸ kt_NoBench_InvalidExponent⟩
      · exact ⟨_, y_NotExact, ⟨by obtain ⟨cd, hc, _⟩ := PySem.W.any_some eu_NotExact; rw [hc]; rfl, eb_NotExact, ⟨_, ed_NotExact⟩, ex_NotExact, ei_NotExact, en_X, eo_X, ep_NotExact⟩, (show xsub "NotExact" "InvalidExponent" = false from by decide +kernel) ▸ kt_NotExact_InvalidExponent⟩
      · exact ⟨_, y_NothingToUndo, ⟨by obtain ⟨cd, hc, _⟩ := PySem.W.any_some eu_NothingToUndo; rw [hc]; rfl, eb_NothingToUndo, ⟨_, ed_NothingToUndo⟩, ex_NothingToUndo, ei_NothingToUndo, en_X, eo_X, ep_NothingToUndo⟩, (show xsub "NothingToUndo" "InvalidExponent" = false from by decide +kernel) ▸ kt_NothingToUndo_InvalidExponent⟩
      · exact ⟨_, y_OutOfRange, ⟨by obtain ⟨cd, hc, _⟩ := PySem.W.any_some eu_OutOfRange; rw [hc]; rfl, eb_OutOfRange, ⟨_, ed_OutOfRange⟩, ex_OutOfRange, ei_OutOfRange, en_X, eo_X, ep_OutOfRange⟩, (show xsub "OutOfRange" "InvalidExponent" = false from by decide +kernel) ▸ kt_OutOfRange_InvalidExponent⟩
      · exact ⟨_, y_UnknownName, ⟨by obtain ⟨cd, hc, _⟩ := PySem.W.any_some eu_UnknownName; rw [hc]; rfl, eb_UnknownName, ⟨_, ed_UnknownName⟩, ex_UnknownName, ei_UnknownName, en_X, eo_X, ep_UnknownName⟩, (show xsub "UnknownName" "InvalidExponent" = false from by decide +kernel) ▸ kt_UnknownName_InvalidExponent⟩
      · exact ⟨_, y_ZeroResult, ⟨by obtain ⟨cd, hc, _⟩ := PySem.W.any_some eu_ZeroResult; rw [hc]; rfl, eb_ZeroResult, ⟨_, ed_ZeroResult⟩, ex_ZeroResult, ei_ZeroResult, en_X, eo_X, ep_ZeroResult⟩, (show xsub "ZeroResult" "InvalidExponent" = false from by decide +kernel) ▸ kt_ZeroResult_InvalidExponent⟩,
    is_InvalidKind := fun nm hm => by
      simp only [List.mem_cons, List.not_mem_nil, or_false] at hm
      rcases hm with rfl | rfl | rfl | rfl | rfl | rfl | rfl | rfl | rfl | rfl | rfl | rfl | rfl | rfl | rfl | rfl | rfl | rfl | rfl
      · exact ⟨_, y_DifferentWidths, ⟨by obtain ⟨cd, hc, _⟩ := PySem.W.any_some eu_DifferentWidths; rw [hc]; rfl, eb_DifferentWidths, ⟨_, ed_DifferentWidths⟩, ex_DifferentWidths, ei_DifferentWidths, en_X, eo_X, ep_DifferentWidths⟩, (show xsub "DifferentWidths" "InvalidKind" = false from by decide +kernel) ▸ kt_DifferentWidths_InvalidKind⟩
      · exact ⟨_, y_InvalidChain, ⟨by obtain ⟨cd, hc, _⟩ := PySem.W.any_some eu_InvalidChain; rw [hc]; rfl, eb_InvalidChain, ⟨_, ed_InvalidChain⟩, ex_InvalidChain, ei_InvalidChain, en_X, eo_X, ep_InvalidChain⟩, (show xsub "InvalidChain" "InvalidKind" = false from by decide +kernel) ▸ kt_InvalidChain_InvalidKind⟩
      · exact ⟨_, y_InvalidExponent, ⟨by obtain ⟨cd, hc, _⟩ := PySem.W.any_some eu_InvalidExponent; rw [hc]; rfl, eb_InvalidExponent, ⟨_, ed_InvalidExponent⟩, ex_InvalidExponent, ei_InvalidExponent, en_X, eo_X, ep_InvalidExponent⟩, (show xsub "InvalidExponent" "InvalidKind" = false from by decide +kernel) ▸ kt_InvalidExponent_InvalidKind⟩
      · exact ⟨_, y_InvalidKind, ⟨by obtain ⟨cd, hc, _⟩ := PySem.W.any_some eu_InvalidKind; rw [hc]; rfl, eb_InvalidKind, ⟨_, ed_InvalidKind⟩, ex_InvalidKind, ei_InvalidKind, en_X, eo_X, ep_InvalidKind⟩, (show xsub "InvalidKind" "InvalidKind" = true from by decide +kernel) ▸ kt_InvalidKind_InvalidKind⟩
      · exact ⟨_, y_InvalidLine, ⟨by obtain ⟨cd, hc, _⟩ := PySem.W.any_some eu_InvalidLine; rw [hc]; rfl, eb_InvalidLine, ⟨_, ed_InvalidLine⟩, ex_InvalidLine, ei_InvalidLine, en_X, eo_X, ep_InvalidLine⟩, (show xsub "InvalidLine" "InvalidKind" = false from by decide +kernel) ▸ kt_InvalidLine_InvalidKind⟩
      · exact ⟨_, y_InvalidName, ⟨by obtain ⟨cd, hc, _⟩ := PySem.W.any_some eu_InvalidName; rw [hc]; rfl, eb_InvalidName, ⟨_, ed_InvalidName⟩, ex_InvalidName, ei_InvalidName, en_X, eo_X, ep_InvalidName⟩, (show xsub "InvalidName" "InvalidKind" = false from by decide +kernel) ▸ kt_InvalidName_InvalidKind⟩
      · exact ⟨_, y_InvalidNumber, ⟨by obtain ⟨cd, hc, _⟩ := PySem.W.any_some eu_InvalidNumber; rw [hc]; rfl, eb_InvalidNumber, ⟨_, ed_InvalidNumber⟩, ex_InvalidNumber, ei_InvalidNumber, en_X, eo_X, ep_InvalidNumber⟩, (show xsub "InvalidNumber" "InvalidKind" = false from by decide +kernel) ▸ kt_InvalidNumber_InvalidKind⟩
      · exact ⟨_, y_InvalidRange, ⟨by obtain ⟨cd, hc, _⟩ := PySem.W.any_some eu_InvalidRange; rw [hc]; rfl, eb_InvalidRange, ⟨_, ed_InvalidRange⟩, ex_InvalidRange, ei_InvalidRange, en_X, eo_X, ep_InvalidRange⟩, (show xsub "InvalidRange" "InvalidKind" = false from by decide +kernel) ▸ kt_InvalidRange_InvalidKind⟩
      · exact ⟨_, y_InvalidRule, ⟨by obtain ⟨cd, hc, _⟩ := PySem.W.any_some eu_InvalidRule; rw [hc]; rfl, eb_InvalidRule, ⟨_, ed_InvalidRule⟩, ex_InvalidRule, ei_InvalidRule, en_X, eo_X, ep_InvalidRule⟩, (show xsub "InvalidRule" "InvalidKind" = false from by decide +kernel) ▸ kt_InvalidRule_InvalidKind⟩
      · exact ⟨_, y_InvalidShift, ⟨by obtain ⟨cd, hc, _⟩ := PySem.W.any_some eu_InvalidShift; rw [hc]; rfl, eb_InvalidShift, ⟨_, ed_InvalidShift⟩, ex_InvalidShift, ei_InvalidShift, en_X, eo_X, ep_InvalidShift⟩, (show xsub "InvalidShift" "InvalidKind" = false from by decide +kernel) ▸ kt_InvalidShift_InvalidKind⟩
      · exact ⟨_, y_InvalidText, ⟨by obtain ⟨cd, hc, _⟩ := PySem.W.any_some eu_InvalidText; rw [hc]; rfl, eb_InvalidText, ⟨_, ed_InvalidText⟩, ex_InvalidText, ei_InvalidText, en_X, eo_X, ep_InvalidText⟩, (show xsub "InvalidText" "InvalidKind" = false from by decide +kernel) ▸ kt_InvalidText_InvalidKind⟩
      · exact ⟨_, y_InvalidThresholds, ⟨by obtain ⟨cd, hc, _⟩ := PySem.W.any_some eu_InvalidThresholds; rw [hc]; rfl, eb_InvalidThresholds, ⟨_, ed_InvalidThresholds⟩, ex_InvalidThresholds, ei_InvalidThresholds, en_X, eo_X, ep_InvalidThresholds⟩, (show xsub "InvalidThresholds" "InvalidKind" = false from by decide +kernel) ▸ kt_InvalidThresholds_InvalidKind⟩
      · exact ⟨_, y_InvalidWidth, ⟨by obtain ⟨cd, hc, _⟩ := PySem.W.any_some eu_InvalidWidth; rw [hc]; rfl, eb_InvalidWidth, ⟨_, ed_InvalidWidth⟩, ex_InvalidWidth, ei_InvalidWidth, en_X, eo_X, ep_InvalidWidth⟩, (show xsub "InvalidWidth" "InvalidKind" = false from by decide +kernel) ▸ kt_InvalidWidth_InvalidKind⟩
      · exact ⟨_, y_NoBench, ⟨by obtain ⟨cd, hc, _⟩ := PySem.W.any_some eu_NoBench; rw [hc]; rfl, eb_NoBench, ⟨_, ed_NoBench⟩, ex_NoBench, ei_NoBench, en_X, eo_X, ep_NoBench⟩, (show xsub "NoBench" "InvalidKind" = false from by decide +kernel) ▸ kt_NoBench_InvalidKind⟩
      · exact ⟨_, y_NotExact, ⟨by obtain ⟨cd, hc, _⟩ := PySem.W.any_some eu_NotExact; rw [hc]; rfl, eb_NotExact, ⟨_, ed_NotExact⟩, ex_NotExact, ei_NotExact, en_X, eo_X, ep_NotExact⟩, (show xsub "NotExact" "InvalidKind" = false from by decide +kernel) ▸ kt_NotExact_InvalidKind⟩
      · exact ⟨_, y_NothingToUndo, ⟨by obtain ⟨cd, hc, _⟩ := PySem.W.any_some eu_NothingToUndo; rw [hc]; rfl, eb_NothingToUndo, ⟨_, ed_NothingToUndo⟩, ex_NothingToUndo, ei_NothingToUndo, en_X, eo_X, ep_NothingToUndo⟩, (show xsub "NothingToUndo" "InvalidKind" = false from by decide +kernel) ▸ kt_NothingToUndo_InvalidKind⟩
      · exact ⟨_, y_OutOfRange, ⟨by obtain ⟨cd, hc, _⟩ := PySem.W.any_some eu_OutOfRange; rw [hc]; rfl, eb_OutOfRange, ⟨_, ed_OutOfRange⟩, ex_OutOfRange, ei_OutOfRange, en_X, eo_X, ep_OutOfRange⟩, (show xsub "OutOfRange" "InvalidKind" = false from by decide +kernel) ▸ kt_OutOfRange_InvalidKind⟩
      · exact ⟨_, y_UnknownName, ⟨by obtain ⟨cd, hc, _⟩ := PySem.W.any_some eu_UnknownName; rw [hc]; rfl, eb_UnknownName, ⟨_, ed_UnknownName⟩, ex_UnknownName, ei_UnknownName, en_X, eo_X, ep_UnknownName⟩, (show xsub "UnknownName" "InvalidKind" = false from by decide +kernel) ▸ kt_UnknownName_InvalidKind⟩
      · exact ⟨_, y_ZeroResult, ⟨by obtain ⟨cd, hc, _⟩ := PySem.W.any_some eu_ZeroResult; rw [hc]; rfl, eb_ZeroResult, ⟨_, ed_ZeroResult⟩, ex_ZeroResult, ei_ZeroResult, en_X, eo_X, ep_ZeroResult⟩, (show xsub "ZeroResult" "InvalidKind" = false from by decide +kernel) ▸ kt_ZeroResult_InvalidKind⟩,
    is_InvalidLine := fun nm hm => by
      simp only [List.mem_cons, List.not_mem_nil, or_false] at hm
      rcases hm with rfl | rfl | rfl | rfl | rfl | rfl | rfl | rfl | rfl | rfl | rfl | rfl | rfl | rfl | rfl | rfl | rfl | rfl | rfl
      · exact ⟨_, y_DifferentWidths, ⟨by obtain ⟨cd, hc, _⟩ := PySem.W.any_some eu_DifferentWidths; rw [hc]; rfl, eb_DifferentWidths, ⟨_, ed_DifferentWidths⟩, ex_DifferentWidths, ei_DifferentWidths, en_X, eo_X, ep_DifferentWidths⟩, (show xsub "DifferentWidths" "InvalidLine" = false from by decide +kernel) ▸ kt_DifferentWidths_InvalidLine⟩
      · exact ⟨_, y_InvalidChain, ⟨by obtain ⟨cd, hc, _⟩ := PySem.W.any_some eu_InvalidChain; rw [hc]; rfl, eb_InvalidChain, ⟨_, ed_InvalidChain⟩, ex_InvalidChain, ei_InvalidChain, en_X, eo_X, ep_InvalidChain⟩, (show xsub "InvalidChain" "InvalidLine" = false from by decide +kernel) ▸ kt_InvalidChain_InvalidLine⟩
      · exact ⟨_, y_InvalidExponent, ⟨by obtain ⟨cd, hc, _⟩ := PySem.W.any_some eu_InvalidExponent; rw [hc]; rfl, eb_InvalidExponent, ⟨_, ed_InvalidExponent⟩, ex_InvalidExponent, ei_InvalidExponent, en_X, eo_X, ep_InvalidExponent⟩, (show xsub "InvalidExponent" "InvalidLine" = false from by decide +kernel) ▸ kt_InvalidExponent_InvalidLine⟩
      · exact ⟨_, y_InvalidKind, ⟨by obtain ⟨cd, hc, _⟩ := PySem.W.any_some eu_InvalidKind; rw [hc]; rfl, eb_InvalidKind, ⟨_, ed_InvalidKind⟩, ex_InvalidKind, ei_InvalidKind, en_X, eo_X, ep_InvalidKind⟩, (show xsub "InvalidKind" "InvalidLine" = false from by decide +kernel) ▸ kt_InvalidKind_InvalidLine⟩
      · exact ⟨_, y_InvalidLine, ⟨by obtain ⟨cd, hc, _⟩ := PySem.W.any_some eu_InvalidLine; rw [hc]; rfl, eb_InvalidLine, ⟨_, ed_InvalidLine⟩, ex_InvalidLine, ei_InvalidLine, en_X, eo_X, ep_InvalidLine⟩, (show xsub "InvalidLine" "InvalidLine" = true from by decide +kernel) ▸ kt_InvalidLine_InvalidLine⟩
      · exact ⟨_, y_InvalidName, ⟨by obtain ⟨cd, hc, _⟩ := PySem.W.any_some eu_InvalidName; rw [hc]; rfl, eb_InvalidName, ⟨_, ed_InvalidName⟩, ex_InvalidName, ei_InvalidName, en_X, eo_X, ep_InvalidName⟩, (show xsub "InvalidName" "InvalidLine" = false from by decide +kernel) ▸ kt_InvalidName_InvalidLine⟩
      · exact ⟨_, y_InvalidNumber, ⟨by obtain ⟨cd, hc, _⟩ := PySem.W.any_some eu_InvalidNumber; rw [hc]; rfl, eb_InvalidNumber, ⟨_, ed_InvalidNumber⟩, ex_InvalidNumber, ei_InvalidNumber, en_X, eo_X, ep_InvalidNumber⟩, (show xsub "InvalidNumber" "InvalidLine" = false from by decide +kernel) ▸ kt_InvalidNumber_InvalidLine⟩
      · exact ⟨_, y_InvalidRange, ⟨by obtain ⟨cd, hc, _⟩ := PySem.W.any_some eu_InvalidRange; rw [hc]; rfl, eb_InvalidRange, ⟨_, ed_InvalidRange⟩, ex_InvalidRange, ei_InvalidRange, en_X, eo_X, ep_InvalidRange⟩, (show xsub "InvalidRange" "InvalidLine" = false from by decide +kernel) ▸ kt_InvalidRange_InvalidLine⟩
      · exact ⟨_, y_InvalidRule, ⟨by obtain ⟨cd, hc, _⟩ := PySem.W.any_some eu_InvalidRule; rw [hc]; rfl, eb_InvalidRule, ⟨_, ed_InvalidRule⟩, ex_InvalidRule, ei_InvalidRule, en_X, eo_X, ep_InvalidRule⟩, (show xsub "InvalidRule" "InvalidLine" = false from by decide +kernel) ▸ kt_InvalidRule_InvalidLine⟩
      · exact ⟨_, y_InvalidShift, ⟨by obtain ⟨cd, hc, _⟩ := PySem.W.any_some eu_InvalidShift; rw [hc]; rfl, eb_InvalidShift, ⟨_, ed_InvalidShift⟩, ex_InvalidShift, ei_InvalidShift, en_X, eo_X, ep_InvalidShift⟩, (show xsub "InvalidShift" "InvalidLine" = false from by decide +kernel) ▸ kt_InvalidShift_InvalidLine⟩
      · exact ⟨_, y_InvalidText, ⟨by obtain ⟨cd, hc, _⟩ := PySem.W.any_some eu_InvalidText; rw [hc]; rfl, eb_InvalidText, ⟨_, ed_InvalidText⟩, ex_InvalidText, ei_InvalidText, en_X, eo_X, ep_InvalidText⟩, (show xsub "InvalidText" "InvalidLine" = false from by decide +kernel) ▸ kt_InvalidText_InvalidLine⟩
      · exact ⟨_, y_InvalidThresholds, ⟨by obtain ⟨cd, hc, _⟩ := PySem.W.any_some eu_InvalidThresholds; rw [hc]; rfl, eb_InvalidThresholds, ⟨_, ed_InvalidThresholds⟩, ex_InvalidThresholds, ei_InvalidThresholds, en_X, eo_X, ep_InvalidThresholds⟩, (show xsub "InvalidThresholds" "InvalidLine" = false from by decide +kernel) ▸ kt_InvalidThresholds_InvalidLine⟩
      · exact ⟨_, y_InvalidWidth, ⟨by obtain ⟨cd, hc, _⟩ := PySem.W.any_some eu_InvalidWidth; rw [hc]; rfl, eb_InvalidWidth, ⟨_, ed_InvalidWidth⟩, ex_InvalidWidth, ei_InvalidWidth, en_X, eo_X, ep_InvalidWidth⟩, (show xsub "InvalidWidth" "InvalidLine" = false from by decide +kernel) ▸ kt_InvalidWidth_InvalidLine⟩
      · exact ⟨_, y_NoBench, ⟨by obtain ⟨cd, hc, _⟩ := PySem.W.any_some eu_NoBench; rw [hc]; rfl, eb_NoBench, ⟨_, ed_NoBench⟩, ex_NoBench, ei_NoBench, en_X, eo_X, ep_NoBench⟩, (show xsub "NoBench" "InvalidLine" = false from by decide +kernel) ▸ kt_NoBench_InvalidLine⟩
      · exact ⟨_, y_NotExact, ⟨by obtain ⟨cd, hc, _⟩ := PySem.W.any_some eu_NotExact; rw [hc]; rfl, eb_NotExact, ⟨_, ed_NotExact⟩, ex_NotExact, ei_NotExact, en_X, eo_X, ep_NotExact⟩, (show xsub "NotExact" "InvalidLine" = false from by decide +kernel) ▸ kt_NotExact_InvalidLine⟩
      · exact ⟨_, y_NothingToUndo, ⟨by obtain ⟨cd, hc, _⟩ := PySem.W.any_some eu_NothingToUndo; rw [hc]; rfl, eb_NothingToUndo, ⟨_, ed_NothingToUndo⟩, ex_NothingToUndo, ei_NothingToUndo, en_X, eo_X, ep_NothingToUndo⟩, (show xsub "NothingToUndo" "InvalidLine" = false from by decide +kernel) ▸ kt_NothingToUndo_InvalidLine⟩
      · exact ⟨_, y_OutOfRange, ⟨by obtain ⟨cd, hc, _⟩ := PySem.W.any_some eu_OutOfRange; rw [hc]; rfl, eb_OutOfRange, ⟨_, ed_OutOfRange⟩, ex_OutOfRange, ei_OutOfRange, en_X, eo_X, ep_OutOfRange⟩, (show xsub "OutOfRange" "InvalidLine" = false from by decide +kernel) ▸ kt_OutOfRange_InvalidLine⟩
      · exact ⟨_, y_UnknownName, ⟨by obtain ⟨cd, hc, _⟩ := PySem.W.any_some eu_UnknownName; rw [hc]; rfl, eb_UnknownName, ⟨_, ed_UnknownName⟩, ex_UnknownName, ei_UnknownName, en_X, eo_X, ep_UnknownName⟩, (show xsub "UnknownName" "InvalidLine" = false from by decide +kernel) ▸ kt_UnknownName_InvalidLine⟩
      · exact ⟨_, y_ZeroResult, ⟨by obtain ⟨cd, hc, _⟩ := PySem.W.any_some eu_ZeroResult; rw [hc]; rfl, eb_ZeroResult, ⟨_, ed_ZeroResult⟩, ex_ZeroResult, ei_ZeroResult, en_X, eo_X, ep_ZeroResult⟩, (show xsub "ZeroResult" "InvalidLine" = false from by decide +kernel) ▸ kt_ZeroResult_InvalidLine⟩,
    is_InvalidName := fun nm hm => by
      simp only [List.mem_cons, List.not_mem_nil, or_false] at hm
      rcases hm with rfl | rfl | rfl | rfl | rfl | rfl | rfl | rfl | rfl | rfl | rfl | rfl | rfl | rfl | rfl | rfl | rfl | rfl | rfl
      · exact ⟨_, y_DifferentWidths, ⟨by obtain ⟨cd, hc, _⟩ := PySem.W.any_some eu_DifferentWidths; rw [hc]; rfl, eb_DifferentWidths, ⟨_, ed_DifferentWidths⟩, ex_DifferentWidths, ei_DifferentWidths, en_X, eo_X, ep_DifferentWidths⟩, (show xsub "DifferentWidths" "InvalidName" = false from by decide +kernel) ▸ kt_DifferentWidths_InvalidName⟩
      · exact ⟨_, y_InvalidChain, ⟨by obtain ⟨cd, hc, _⟩ := PySem.W.any_some eu_InvalidChain; rw [hc]; rfl, eb_InvalidChain, ⟨_, ed_InvalidChain⟩, ex_InvalidChain, ei_InvalidChain, en_X, eo_X, ep_InvalidChain⟩, (show xsub "InvalidChain" "InvalidName" = false from by decide +kernel) ▸ kt_InvalidChain_InvalidName⟩
      · exact ⟨_, y_InvalidExponent, ⟨by obtain ⟨cd, hc, _⟩ := PySem.W.any_some eu_InvalidExponent; rw [hc]; rfl, eb_InvalidExponent, ⟨_, ed_InvalidExponent⟩, ex_InvalidExponent, ei_InvalidExponent, en_X, eo_X, ep_InvalidExponent⟩, (show xsub "InvalidExponent" "InvalidName" = false from by decide +kernel) ▸ kt_InvalidExponent_InvalidName⟩
      · exact ⟨_, y_InvalidKind, ⟨by obtain ⟨cd, hc, _⟩ := PySem.W.any_some eu_InvalidKind; rw [hc]; rfl, eb_InvalidKind, ⟨_, ed_InvalidKind⟩, ex_InvalidKind, ei_InvalidKind, en_X, eo_X, ep_InvalidKind⟩, (show xsub "InvalidKind" "InvalidName" = false from by decide +kernel) ▸ kt_InvalidKind_InvalidName⟩
      · exact ⟨_, y_InvalidLine, ⟨by obtain ⟨cd, hc, _⟩ := PySem.W.any_some eu_InvalidLine; rw [hc]; rfl, eb_InvalidLine, ⟨_, ed_InvalidLine⟩, ex_InvalidLine, ei_InvalidLine, en_X, eo_X, ep_InvalidLine⟩, (show xsub "InvalidLine" "InvalidName" = false from by decide +kernel) ▸ kt_InvalidLine_InvalidName⟩
      · exact ⟨_, y_InvalidName, ⟨by obtain ⟨cd, hc, _⟩ := PySem.W.any_some eu_InvalidName; rw [hc]; rfl, eb_InvalidName, ⟨_, ed_InvalidName⟩, ex_InvalidName, ei_InvalidName, en_X, eo_X, ep_InvalidName⟩, (show xsub "InvalidName" "InvalidName" = true from by decide +kernel) ▸ kt_InvalidName_InvalidName⟩
      · exact ⟨_, y_InvalidNumber, ⟨by obtain ⟨cd, hc, _⟩ := PySem.W.any_some eu_InvalidNumber; rw [hc]; rfl, eb_InvalidNumber, ⟨_, ed_InvalidNumber⟩, ex_InvalidNumber, ei_InvalidNumber, en_X, eo_X, ep_InvalidNumber⟩, (show xsub "InvalidNumber" "InvalidName" = false from by decide +kernel) ▸ kt_InvalidNumber_InvalidName⟩
      · exact ⟨_, y_InvalidRange, ⟨by obtain ⟨cd, hc, _⟩ := PySem.W.any_some eu_InvalidRange; rw [hc]; rfl, eb_InvalidRange, ⟨_, ed_InvalidRange⟩, ex_InvalidRange, ei_InvalidRange, en_X, eo_X, ep_InvalidRange⟩, (show xsub "InvalidRange" "InvalidName" = false from by decide +kernel) ▸ kt_InvalidRange_InvalidName⟩
      · exact ⟨_, y_InvalidRule, ⟨by obtain ⟨cd, hc, _⟩ := PySem.W.any_some eu_InvalidRule; rw [hc]; rfl, eb_InvalidRule, ⟨_, ed_InvalidRule⟩, ex_InvalidRule, ei_InvalidRule, en_X, eo_X, ep_InvalidRule⟩, (show xsub "InvalidRule" "InvalidName" = false from by decide +kernel) ▸ kt_InvalidRule_InvalidName⟩
      · exact ⟨_, y_InvalidShift, ⟨by obtain ⟨cd, hc, _⟩ := PySem.W.any_some eu_InvalidShift; rw [hc]; rfl, eb_InvalidShift, ⟨_, ed_InvalidShift⟩, ex_InvalidShift, ei_InvalidShift, en_X, eo_X, ep_InvalidShift⟩, (show xsub "InvalidShift" "InvalidName" = false from by decide +kernel) ▸ kt_InvalidShift_InvalidName⟩
      · exact ⟨_, y_InvalidText, ⟨by obtain ⟨cd, hc, _⟩ := PySem.W.any_some eu_InvalidText; rw [hc]; rfl, eb_InvalidText, ⟨_, ed_InvalidText⟩, ex_InvalidText, ei_InvalidText, en_X, eo_X, ep_InvalidText⟩, (show xsub "InvalidText" "InvalidName" = false from by decide +kernel) ▸ kt_InvalidText_InvalidName⟩
      · exact ⟨_, y_InvalidThresholds, ⟨by obtain ⟨cd, hc, _⟩ := PySem.W.any_some eu_InvalidThresholds; rw [hc]; rfl, eb_InvalidThresholds, ⟨_, ed_InvalidThresholds⟩, ex_InvalidThresholds, ei_InvalidThresholds, en_X, eo_X, ep_InvalidThresholds⟩, (show xsub "InvalidThresholds" "InvalidName" = false from by decide +kernel) ▸ kt_InvalidThresholds_InvalidName⟩
      · exact ⟨_, y_InvalidWidth, ⟨by obtain ⟨cd, hc, _⟩ := PySem.W.any_some eu_InvalidWidth; rw [hc]; rfl, eb_InvalidWidth, ⟨_, ed_InvalidWidth⟩, ex_InvalidWidth, ei_InvalidWidth, en_X, eo_X, ep_InvalidWidth⟩, (show xsub "InvalidWidth" "InvalidName" = false from by decide +kernel) ▸ kt_InvalidWidth_InvalidName⟩
      · exact ⟨_, y_NoBench, ⟨by obtain ⟨cd, hc, _⟩ := PySem.W.any_some eu_NoBench; rw [hc]; rfl, eb_NoBench, ⟨_, ed_NoBench⟩, ex_NoBench, ei_NoBench, en_X, eo_X, ep_NoBench⟩, (show xsub "NoBench" "InvalidName" = false from by decide +kernel) ▸ kt_NoBench_InvalidName⟩
      · exact ⟨_, y_NotExact, ⟨by obtain ⟨cd, hc, _⟩ := PySem.W.any_some eu_NotExact; rw [hc]; rfl, eb_NotExact, ⟨_, ed_NotExact⟩, ex_NotExact, ei_NotExact, en_X, eo_X, ep_NotExact⟩, (show xsub "NotExact" "InvalidName" = false from by decide +kernel) ▸ kt_NotExact_InvalidName⟩
      · exact ⟨_, y_NothingToUndo, ⟨by obtain ⟨cd, hc, _⟩ := PySem.W.any_some eu_NothingToUndo; rw [hc]; rfl, eb_NothingToUndo, ⟨_, ed_NothingToUndo⟩, ex_NothingToUndo, ei_NothingToUndo, en_X, eo_X, ep_NothingToUndo⟩, (show xsub "NothingToUndo" "InvalidName" = false from by decide +kernel) ▸ kt_NothingToUndo_InvalidName⟩
      · exact ⟨_, y_OutOfRange, ⟨by obtain ⟨cd, hc, _⟩ := PySem.W.any_some eu_OutOfRange; rw [hc]; rfl, eb_OutOfRange, ⟨_, ed_OutOfRange⟩, ex_OutOfRange, ei_OutOfRange, en_X, eo_X, ep_OutOfRange⟩, (show xsub "OutOfRange" "InvalidName" = false from by decide +kernel) ▸ kt_OutOfRange_InvalidName⟩
      · exact ⟨_, y_UnknownName, ⟨by obtain ⟨cd, hc, _⟩ := PySem.W.any_some eu_UnknownName; rw [hc]; rfl, eb_UnknownName, ⟨_, ed_UnknownName⟩, ex_UnknownName, ei_UnknownName, en_X, eo_X, ep_UnknownName⟩, (show xsub "UnknownName" "InvalidName" = false from by decide +kernel) ▸ kt_UnknownName_InvalidName⟩
      · exact ⟨_, y_ZeroResult, ⟨by obtain ⟨cd, hc, _⟩ := PySem.W.any_some eu_ZeroResult; rw [hc]; rfl, eb_ZeroResult, ⟨_, ed_ZeroResult⟩, ex_ZeroResult, ei_ZeroResult, en_X, eo_X, ep_ZeroResult⟩, (show xsub "ZeroResult" "InvalidName" = false from by decide +kernel) ▸ kt_ZeroResult_InvalidName⟩,
    is_InvalidNumber := fun nm hm => by
      simp only [List.mem_cons, List.not_mem_nil, or_false] at hm
      rcases hm with rfl | rfl | rfl | rfl | rfl | rfl | rfl | rfl | rfl | rfl | rfl | rfl | rfl | rfl | rfl | rfl | rfl | rfl | rfl
      · exact ⟨_, y_DifferentWidths, ⟨by obtain ⟨cd, hc, _⟩ := PySem.W.any_some eu_DifferentWidths; rw [hc]; rfl, eb_DifferentWidths, ⟨_, ed_DifferentWidths⟩, ex_DifferentWidths, ei_DifferentWidths, en_X, eo_X, ep_DifferentWidths⟩, (show xsub "DifferentWidths" "InvalidNumber" = false from by decide +kernel) ▸ kt_DifferentWidths_InvalidNumber⟩
      · exact ⟨_, y_InvalidChain, ⟨by obtain ⟨cd, hc, _⟩ := PySem.W.any_some eu_InvalidChain; rw [hc]; rfl, eb_InvalidChain, ⟨_, ed_InvalidChain⟩, ex_InvalidChain, ei_InvalidChain, en_X, eo_X, ep_InvalidChain⟩, (show xsub "InvalidChain" "InvalidNumber" = false from by decide +kernel) ▸ kt_InvalidChain_InvalidNumber⟩
      · exact ⟨_, y_InvalidExponent, ⟨by obtain ⟨cd, hc, _⟩ := PySem.W.any_some eu_InvalidExponent; rw [hc]; rfl, eb_InvalidExponent, ⟨_, ed_InvalidExponent⟩, ex_InvalidExponent, ei_InvalidExponent, en_X, eo_X, ep_InvalidExponent⟩, (show xsub "InvalidExponent" "InvalidNumber" = false from by decide +kernel) ▸ kt_InvalidExponent_InvalidNumber⟩
      · exact ⟨_, y_InvalidKind, ⟨by obtain ⟨cd, hc, _⟩ := PySem.W.any_some eu_InvalidKind; rw [hc]; rfl, eb_InvalidKind, ⟨_, ed_InvalidKind⟩, ex_InvalidKind, ei_InvalidKind, en_X, eo_X, ep_InvalidKind⟩, (show xsub "InvalidKind" "InvalidNumber" = false from by decide +kernel) ▸ kt_InvalidKind_InvalidNumber⟩
      · exact ⟨_, y_InvalidLine, ⟨by obtain ⟨cd, hc, _⟩ := PySem.W.any_some eu_InvalidLine; rw [hc]; rfl, eb_InvalidLine, ⟨_, ed_InvalidLine⟩, ex_InvalidLine, ei_InvalidLine, en_X, eo_X, ep_InvalidLine⟩, (show xsub "InvalidLine" "InvalidNumber" = false from by decide +kernel) ▸ kt_InvalidLine_InvalidNumber⟩
      · exact ⟨_, y_InvalidName, ⟨by obtain ⟨cd, hc, _⟩ := PySem.W.any_some eu_InvalidName; rw [hc]; rfl, eb_InvalidName, ⟨_, ed_InvalidName⟩, ex_InvalidName, ei_InvalidName, en_X, eo_X, ep_InvalidName⟩, (show xsub "InvalidName" "InvalidNumber" = false from by decide +kernel) ▸ kt_InvalidName_InvalidNumber⟩
      · exact ⟨_, y_InvalidNumber, ⟨by obtain ⟨cd, hc, _⟩ := PySem.W.any_some eu_InvalidNumber; rw [hc]; rfl, eb_InvalidNumber, ⟨_, ed_InvalidNumber⟩, ex_InvalidNumber, ei_InvalidNumber, en_X, eo_X, ep_InvalidNumber⟩, (show xsub "InvalidNumber" "InvalidNumber" = true from by decide +kernel) ▸ kt_InvalidNumber_InvalidNumber⟩
      · exact ⟨_, y_InvalidRange, ⟨by obtain ⟨cd, hc, _⟩ := PySem.W.any_some eu_InvalidRange; rw [hc]; rfl, eb_InvalidRange, ⟨_, ed_InvalidRange⟩, ex_InvalidRange, ei_InvalidRange, en_X, eo_X, ep_InvalidRange⟩, (show xsub "InvalidRange" "InvalidNumber" = false from by decide +kernel) ▸ kt_InvalidRange_InvalidNumber⟩
      · exact ⟨_, y_InvalidRule, ⟨by obtain ⟨cd, hc, _⟩ := PySem.W.any_some eu_InvalidRule; rw [hc]; rfl, eb_InvalidRule, ⟨_, ed_InvalidRule⟩, ex_InvalidRule, ei_InvalidRule, en_X, eo_X, ep_InvalidRule⟩, (show xsub "InvalidRule" "InvalidNumber" = false from by decide +kernel) ▸ kt_InvalidRule_InvalidNumber⟩
      · exact ⟨_, y_InvalidShift, ⟨by obtain ⟨cd, hc, _⟩ := PySem.W.any_some eu_InvalidShift; rw [hc]; rfl, eb_InvalidShift, ⟨_, ed_InvalidShift⟩, ex_InvalidShift, ei_InvalidShift, en_X, eo_X, ep_InvalidShift⟩, (show xsub "InvalidShift" "InvalidNumber" = false from by decide +kernel) ▸ kt_InvalidShift_InvalidNumber⟩
      · exact ⟨_, y_InvalidText, ⟨by obtain ⟨cd, hc, _⟩ := PySem.W.any_some eu_InvalidText; rw [hc]; rfl, eb_InvalidText, ⟨_, ed_InvalidText⟩, ex_InvalidText, ei_InvalidText, en_X, eo_X, ep_InvalidText⟩, (show xsub "InvalidText" "InvalidNumber" = false from by decide +kernel) ▸ kt_InvalidText_InvalidNumber⟩
      · exact ⟨_, y_InvalidThresholds, ⟨by obtain ⟨cd, hc, _⟩ := PySem.W.any_some eu_InvalidThresholds; rw [hc]; rfl, eb_InvalidThresholds, ⟨_, ed_InvalidThresholds⟩, ex_InvalidThresholds, ei_InvalidThresholds, en_X, eo_X, ep_InvalidThresholds⟩, (show xsub "InvalidThresholds" "InvalidNumber" = false from by decide +kernel) ▸ kt_InvalidThresholds_InvalidNumber⟩
      · exact ⟨_, y_InvalidWidth, ⟨by obtain ⟨cd, hc, _⟩ := PySem.W.any_some eu_InvalidWidth; rw [hc]; rfl, eb_InvalidWidth, ⟨_, ed_InvalidWidth⟩, ex_InvalidWidth, ei_InvalidWidth, en_X, eo_X, ep_InvalidWidth⟩, (show xsub "InvalidWidth" "InvalidNumber" = false from by decide +kernel) ▸ kt_InvalidWidth_InvalidNumber⟩
      · exact ⟨_, y_NoBench, ⟨by obtain ⟨cd, hc, _⟩ := PySem.W.any_some eu_NoBench; rw [hc]; rfl, eb_NoBench, ⟨_, ed_NoBench⟩, ex_NoBench, ei_NoBench, en_X, eo_X, ep_NoBench⟩, (show xsub "NoBench" "InvalidNumber" = false from by decide +kernel) ▸ kt_NoBench_InvalidNumber⟩
      · exact ⟨_, y_NotExact, ⟨by obtain ⟨cd, hc, _⟩ := PySem.W.any_some eu_NotExact; rw [hc]; rfl, eb_NotExact, ⟨_, ed_NotExact⟩, ex_NotExact, ei_NotExact, en_X, eo_X, ep_NotExact⟩, (show xsub "NotExact" "InvalidNumber" = false from by decide +kernel) ▸ kt_NotExact_InvalidNumber⟩
      · exact ⟨_, y_NothingToUndo, ⟨by obtain ⟨cd, hc, _⟩ := PySem.W.any_some eu_NothingToUndo; rw [hc]; rfl, eb_NothingToUndo, ⟨_, ed_NothingToUndo⟩, ex_NothingToUndo, ei_NothingToUndo, en_X, eo_X, ep_NothingToUndo⟩, (show xsub "NothingToUndo" "InvalidNumber" = false from by decide +kernel) ▸ kt_NothingToUndo_InvalidNumber⟩
      · exact ⟨_, y_OutOfRange, ⟨by obtain ⟨cd, hc, _⟩ := PySem.W.any_some eu_OutOfRange; rw [hc]; rfl, eb_OutOfRange, ⟨_, ed_OutOfRange⟩, ex_OutOfRange, ei_OutOfRange, en_X, eo_X, ep_OutOfRange⟩, (show xsub "OutOfRange" "InvalidNumber" = false from by decide +kernel) ▸ kt_OutOfRange_InvalidNumber⟩
      · exact ⟨_, y_UnknownName, ⟨by obtain ⟨cd, hc, _⟩ := PySem.W.any_some eu_UnknownName; rw [hc]; rfl, eb_UnknownName, ⟨_, ed_UnknownName⟩, ex_UnknownName, ei_UnknownName, en_X, eo_X, ep_UnknownName⟩, (show xsub "UnknownName" "InvalidNumber" = false from by decide +kernel) ▸ kt_UnknownName_InvalidNumber⟩
      · exact ⟨_, y_ZeroResult, ⟨by obtain ⟨cd, hc, _⟩ := PySem.W.any_some eu_ZeroResult; rw [hc]; rfl, eb_ZeroResult, ⟨_, ed_ZeroResult⟩, ex_ZeroResult, ei_ZeroResult, en_X, eo_X, ep_ZeroResult⟩, (show xsub "ZeroResult" "InvalidNumber" = false from by decide +kernel) ▸ kt_ZeroResult_InvalidNumber⟩,
    is_InvalidRange := fun nm hm => by
      simp only [List.mem_cons, List.not_mem_nil, or_false] at hm
      rcases hm with rfl | rfl | rfl | rfl | rfl | rfl | rfl | rfl | rfl | rfl | rfl | rfl | rfl | rfl | rfl | rfl | rfl | rfl | rfl
      · exact ⟨_, y_DifferentWidths, ⟨by obtain ⟨cd, hc, _⟩ := PySem.W.any_some eu_DifferentWidths; rw [hc]; rfl, eb_DifferentWidths, ⟨_, ed_DifferentWidths⟩, ex_DifferentWidths, ei_DifferentWidths, en_X, eo_X, ep_DifferentWidths⟩, (show xsub "DifferentWidths" "InvalidRange" = false from by decide +kernel) ▸ kt_DifferentWidths_InvalidRange⟩
      · exact ⟨_, y_InvalidChain, ⟨by obtain ⟨cd, hc, _⟩ := PySem.W.any_some eu_InvalidChain; rw [hc]; rfl, eb_InvalidChain, ⟨_, ed_InvalidChain⟩, ex_InvalidChain, ei_InvalidChain, en_X, eo_X, ep_InvalidChain⟩, (show xsub "InvalidChain" "InvalidRange" = false from by decide +kernel) ▸ kt_InvalidChain_InvalidRange⟩
      · exact ⟨_, y_InvalidExponent, ⟨by obtain ⟨cd, hc, _⟩ := PySem.W.any_some eu_InvalidExponent; rw [hc]; rfl, eb_InvalidExponent, ⟨_, ed_InvalidExponent⟩, ex_InvalidExponent, ei_InvalidExponent, en_X, eo_X, ep_InvalidExponent⟩, (show xsub "InvalidExponent" "InvalidRange" = false from by decide +kernel) ▸ kt_InvalidExponent_InvalidRange⟩
      · exact ⟨_, y_InvalidKind, ⟨by obtain ⟨cd, hc, _⟩ := PySem.W.any_some eu_InvalidKind; rw [hc]; rfl, eb_InvalidKind, ⟨_, ed_InvalidKind⟩, ex_InvalidKind, ei_InvalidKind, en_X, eo_X, ep_InvalidKind⟩, (show xsub "InvalidKind" "InvalidRange" = false from by decide +kernel) ▸ kt_InvalidKind_InvalidRange⟩
      · exact ⟨_, y_InvalidLine, ⟨by obtain ⟨cd, hc, _⟩ := PySem.W.any_some eu_InvalidLine; rw [hc]; rfl, eb_InvalidLine, ⟨_, ed_InvalidLine⟩, ex_InvalidLine, ei_InvalidLine, en_X, eo_X, ep_InvalidLine⟩, (show xsub "InvalidLine" "InvalidRange" = false from by decide +kernel) ▸ kt_InvalidLine_InvalidRange⟩
      · exact ⟨_, y_InvalidName, ⟨by obtain ⟨cd, hc, _⟩ := PySem.W.any_some eu_InvalidName; rw [hc]; rfl, eb_InvalidName, ⟨_, ed_InvalidName⟩, ex_InvalidName, ei_InvalidName, en_X, eo_X, ep_InvalidName⟩, (show xsub "InvalidName" "InvalidRange" = false from by decide +kernel) ▸ kt_InvalidName_InvalidRange⟩
      · exact ⟨_, y_InvalidNumber, ⟨by obtain ⟨cd, hc, _⟩ := PySem.W.any_some eu_InvalidNumber; rw [hc]; rfl, eb_InvalidNumber, ⟨_, ed_InvalidNumber⟩, ex_InvalidNumber, ei_InvalidNumber, en_X, eo_X, ep_InvalidNumber⟩, (show xsub "InvalidNumber" "InvalidRange" = false from by decide +kernel) ▸ kt_InvalidNumber_InvalidRange⟩
      · exact ⟨_, y_InvalidRange, ⟨by obtain ⟨cd, hc, _⟩ := PySem.W.any_some eu_InvalidRange; rw [hc]; rfl, eb_InvalidRange, ⟨_, ed_InvalidRange⟩, ex_InvalidRange, ei_InvalidRange, en_X, eo_X, ep_InvalidRange⟩, (show xsub "InvalidRange" "InvalidRange" = true from by decide +kernel) ▸ kt_InvalidRange_InvalidRange⟩
      · exact ⟨_, y_InvalidRule, ⟨by obtain ⟨cd, hc, _⟩ := PySem.W.any_some eu_InvalidRule; rw [hc]; rfl, eb_InvalidRule, ⟨_, ed_InvalidRule⟩, ex_InvalidRule, ei_InvalidRule, en_X, eo_X, ep_InvalidRule⟩, (show xsub "InvalidRule" "InvalidRange" = false from by decide +kernel) ▸ kt_InvalidRule_InvalidRange⟩
      · exact ⟨_, y_InvalidShift, ⟨by obtain ⟨cd, hc, _⟩ := PySem.W.any_some eu_InvalidShift; rw [hc]; rfl, eb_InvalidShift, ⟨_, ed_InvalidShift⟩, ex_InvalidShift, ei_InvalidShift, en_X, eo_X, ep_InvalidShift⟩, (show xsub "InvalidShift" "InvalidRange" = false from by decide +kernel) ▸ kt_InvalidShift_InvalidRange⟩
      · exact ⟨_, y_InvalidText, ⟨by obtain ⟨cd, hc, _⟩ := PySem.W.any_some eu_InvalidText; rw [hc]; rfl, eb_InvalidText, ⟨_, ed_InvalidText⟩, ex_InvalidText, ei_InvalidText, en_X, eo_X, ep_InvalidText⟩, (show xsub "InvalidText" "InvalidRange" = false from by decide +kernel) ▸ kt_InvalidText_InvalidRange⟩
      · exact ⟨_, y_InvalidThresholds, ⟨by obtain ⟨cd, hc, _⟩ := PySem.W.any_some eu_InvalidThresholds; rw [hc]; rfl, eb_InvalidThresholds, ⟨_, ed_InvalidThresholds⟩, ex_InvalidThresholds, ei_InvalidThresholds, en_X, eo_X, ep_InvalidThresholds⟩, (show xsub "InvalidThresholds" "InvalidRange" = false from by decide +kernel) ▸ kt_InvalidThresholds_InvalidRange⟩
      · exact ⟨_, y_InvalidWidth, ⟨by obtain ⟨cd, hc, _⟩ := PySem.W.any_some eu_InvalidWidth; rw [hc]; rfl, eb_InvalidWidth, ⟨_, ed_InvalidWidth⟩, ex_InvalidWidth, ei_InvalidWidth, en_X, eo_X, ep_InvalidWidth⟩, (show xsub "InvalidWidth" "InvalidRange" = false from by decide +kernel) ▸ kt_InvalidWidth_InvalidRange⟩
      · exact ⟨_, y_NoBench, ⟨by obtain ⟨cd, hc, _⟩ := PySem.W.any_some eu_NoBench; rw [hc]; rfl, eb_NoBench, ⟨_, ed_NoBench⟩, ex_NoBench, ei_NoBench, en_X, eo_X, ep_NoBench⟩, (show xsub "NoBench" "InvalidRange" = false from by decide +kernel) ▸ kt_NoBench_InvalidRange⟩
      · exact ⟨_, y_NotExact, ⟨by obtain ⟨cd, hc, _⟩ := PySem.W.any_some eu_NotExact; rw [hc]; rfl, eb_NotExact, ⟨_, ed_NotExact⟩, ex_NotExact, ei_NotExact, en_X, eo_X, ep_NotExact⟩, (show xsub "NotExact" "InvalidRange" = false from by decide +kernel) ▸ kt_NotExact_InvalidRange⟩
      · exact ⟨_, y_NothingToUndo, ⟨by obtain ⟨cd, hc, _⟩ := PySem.W.any_some eu_NothingToUndo; rw [hc]; rfl, eb_NothingToUndo, ⟨_, ed_NothingToUndo⟩, ex_NothingToUndo, ei_NothingToUndo, en_X, eo_X, ep_NothingToUndo⟩, (show xsub "NothingToUndo" "InvalidRange" = false from by decide +kernel) ▸ kt_NothingToUndo_InvalidRange⟩
      · exact ⟨_, y_OutOfRange, ⟨by obtain ⟨cd, hc, _⟩ := PySem.W.any_some eu_OutOfRange; rw [hc]; rfl, eb_OutOfRange, ⟨_, ed_OutOfRange⟩, ex_OutOfRange, ei_OutOfRange, en_X, eo_X, ep_OutOfRange⟩, (show xsub "OutOfRange" "InvalidRange" = false from by decide +kernel) ▸ kt_OutOfRange_InvalidRange⟩
      · exact ⟨_, y_UnknownName, ⟨by obtain ⟨cd, hc, _⟩ := PySem.W.any_some eu_UnknownName; rw [hc]; rfl, eb_UnknownName, ⟨_, ed_UnknownName⟩, ex_UnknownName, ei_UnknownName, en_X, eo_X, ep_UnknownName⟩, (show xsub "UnknownName" "InvalidRange" = false from by decide +kernel) ▸ kt_UnknownName_InvalidRange⟩
      · exact ⟨_, y_ZeroResult, ⟨by obtain ⟨cd, hc, _⟩ := PySem.W.any_some eu_ZeroResult; rw [hc]; rfl, eb_ZeroResult, ⟨_, ed_ZeroResult⟩, ex_ZeroResult, ei_ZeroResult, en_X, eo_X, ep_ZeroResult⟩, (show xsub "ZeroResult" "InvalidRange" = false from by decide +kernel) ▸ kt_ZeroResult_InvalidRange⟩,
    is_InvalidRule := fun nm hm => by
      simp only [List.mem_cons, List.not_mem_nil, or_false] at hm
      rcases hm with rfl | rfl | rfl | rfl | rfl | rfl | rfl | rfl | rfl | rfl | rfl | rfl | rfl | rfl | rfl | rfl | rfl | rfl | rfl
      · exact ⟨_, y_DifferentWidths, ⟨by obtain ⟨cd, hc, _⟩ := PySem.W.any_some eu_DifferentWidths; rw [hc]; rfl, eb_DifferentWidths, ⟨_, ed_DifferentWidths⟩, ex_DifferentWidths, ei_DifferentWidths, en_X, eo_X, ep_DifferentWidths⟩, (show xsub "DifferentWidths" "InvalidRule" = false from by decide +kernel) ▸ kt_DifferentWidths_InvalidRule⟩
      · exact ⟨_, y_InvalidChain, ⟨by obtain ⟨cd, hc, _⟩ := PySem.W.any_some eu_InvalidChain; rw [hc]; rfl, eb_InvalidChain, ⟨_, ed_InvalidChain⟩, ex_InvalidChain, ei_InvalidChain, en_X, eo_X, ep_InvalidChain⟩, (show xsub "InvalidChain" "InvalidRule" = false from by decide +kernel) ▸ kt_InvalidChain_InvalidRule⟩
      · exact ⟨_, y_InvalidExponent, ⟨by obtain ⟨cd, hc, _⟩ := PySem.W.any_some eu_InvalidExponent; rw [hc]; rfl, eb_InvalidExponent, ⟨_, ed_InvalidExponent⟩, ex_InvalidExponent, ei_InvalidExponent, en_X, eo_X, ep_InvalidExponent⟩, (show xsub "InvalidExponent" "InvalidRule" = false from by decide +kernel) ▸ kt_InvalidExponent_InvalidRule⟩
      · exact ⟨_, y_InvalidKind, ⟨by obtain ⟨cd, hc, _⟩ := PySem.W.any_some eu_InvalidKind; rw [hc]; rfl, eb_InvalidKind, ⟨_, ed_InvalidKind⟩, ex_InvalidKind, ei_InvalidKind, en_X, eo_X, ep_InvalidKind⟩, (show xsub "InvalidKind" "InvalidRule" = false from by decide +kernel) ▸ kt_InvalidKind_InvalidRule⟩
      · exact ⟨_, y_InvalidLine, ⟨by obtain ⟨cd, hc, _⟩ := PySem.W.any_some eu_InvalidLine; rw [hc]; rfl, eb_InvalidLine, ⟨_, ed_InvalidLine⟩, ex_InvalidLine, ei_InvalidLine, en_X, eo_X, ep_InvalidLine⟩, (show xsub "InvalidLine" "InvalidRule" = false from by decide +kernel) ▸ kt_InvalidLine_InvalidRule⟩
      · exact ⟨_, y_InvalidName, ⟨by obtain ⟨cd, hc, _⟩ := PySem.W.any_some eu_InvalidName; rw [hc]; rfl, eb_InvalidName, ⟨_, ed_InvalidName⟩, ex_InvalidName, ei_InvalidName, en_X, eo_X, ep_InvalidName⟩, (show xsub "InvalidName" "InvalidRule" = false from by decide +kernel) ▸ kt_InvalidName_InvalidRule⟩
      · exact ⟨_, y_InvalidNumber, ⟨by obtain ⟨cd, hc, _⟩ := PySem.W.any_some eu_InvalidNumber; rw [hc]; rfl, eb_InvalidNumber, ⟨_, ed_InvalidNumber⟩, ex_InvalidNumber, ei_InvalidNumber, en_X, eo_X, ep_InvalidNumber⟩, (show xsub "InvalidNumber" "InvalidRule" = false from by decide +kernel) ▸ kt_InvalidNumber_InvalidRule⟩
      · exact ⟨_, y_InvalidRange, ⟨by obtain ⟨cd, hc, _⟩ := PySem.W.any_some eu_InvalidRange; rw [hc]; rfl, eb_InvalidRange, ⟨_, ed_InvalidRange⟩, ex_InvalidRange, ei_InvalidRange, en_X, eo_X, ep_InvalidRange⟩, (show xsub "InvalidRange" "InvalidRule" = false from by decide +kernel) ▸ kt_InvalidRange_InvalidRule⟩
      · exact ⟨_, y_InvalidRule, ⟨by obtain ⟨cd, hc, _⟩ := PySem.W.any_some eu_InvalidRule; rw [hc]; rfl, eb_InvalidRule, ⟨_, ed_InvalidRule⟩, ex_InvalidRule, ei_InvalidRule, en_X, eo_X, ep_InvalidRule⟩, (show xsub "InvalidRule" "InvalidRule" = true from by decide +kernel) ▸ kt_InvalidRule_InvalidRule⟩
      · exact ⟨_, y_InvalidShift, ⟨by obtain ⟨cd, hc, _⟩ := PySem.W.any_some eu_InvalidShift; rw [hc]; rfl, eb_InvalidShift, ⟨_, ed_InvalidShift⟩, ex_InvalidShift, ei_InvalidShift, en_X, eo_X, ep_InvalidShift⟩, (show xsub "InvalidShift" "InvalidRule" = false from by decide +kernel) ▸ kt_InvalidShift_InvalidRule⟩
      · exact ⟨_, y_InvalidText, ⟨by obtain ⟨cd, hc, _⟩ := PySem.W.any_some eu_InvalidText; rw [hc]; rfl, eb_InvalidText, ⟨_, ed_InvalidText⟩, ex_InvalidText, ei_InvalidText, en_X, eo_X, ep_InvalidText⟩, (show xsub "InvalidText" "InvalidRule" = false from by decide +kernel) ▸ kt_InvalidText_InvalidRule⟩
      · exact ⟨_, y_InvalidThresholds, ⟨by obtain ⟨cd, hc, _⟩ := PySem.W.any_some eu_InvalidThresholds; rw [hc]; rfl, eb_InvalidThresholds, ⟨_, ed_InvalidThresholds⟩, ex_InvalidThresholds, ei_InvalidThresholds, en_X, eo_X, ep_InvalidThresholds⟩, (show xsub "InvalidThresholds" "InvalidRule" = false from by decide +kernel) ▸ kt_InvalidThresholds_InvalidRule⟩
      · exact ⟨_, y_InvalidWidth, ⟨by obtain ⟨cd, hc, _⟩ := PySem.W.any_some eu_InvalidWidth; rw [hc]; rfl, eb_InvalidWidth, ⟨_, ed_InvalidWidth⟩, ex_InvalidWidth, ei_InvalidWidth, en_X, eo_X, ep_InvalidWidth⟩, (show xsub "InvalidWidth" "InvalidRule" = false from by decide +kernel) ▸ kt_InvalidWidth_InvalidRule⟩
      · exact ⟨_, y_NoBench, ⟨by obtain ⟨cd, hc, _⟩ := PySem.W.any_some eu_NoBench; rw [hc]; rfl, eb_NoBench, ⟨_, ed_NoBench⟩, ex_NoBench, ei_NoBench, en_X, eo_X, ep_NoBench⟩, (show xsub "NoBench" "InvalidRule" = false from by decide +kernel) ▸ kt_NoBench_InvalidRule⟩
      · exact ⟨_, y_NotExact, ⟨by obtain ⟨cd, hc, _⟩ := PySem.W.any_some eu_NotExact; rw [hc]; rfl, eb_NotExact, ⟨_, ed_NotExact⟩, ex_NotExact, ei_NotExact, en_X, eo_X, ep_NotExact⟩, (show xsub "NotExact" "InvalidRule" = false from by decide +kernel) ▸ kt_NotExact_InvalidRule⟩
      · exact ⟨_, y_NothingToUndo, ⟨by obtain ⟨cd, hc, _⟩ := PySem.W.any_some eu_NothingToUndo; rw [hc]; rfl, eb_NothingToUndo, ⟨_, ed_NothingToUndo⟩, ex_NothingToUndo, ei_NothingToUndo, en_X, eo_X, ep_NothingToUndo⟩, (show xsub "NothingToUndo" "InvalidRule" = false from by decide +kernel) ▸ kt_NothingToUndo_InvalidRule⟩
      · exact ⟨_, y_OutOfRange, ⟨by obtain ⟨cd, hc, _⟩ := PySem.W.any_some eu_OutOfRange; rw [hc]; rfl, eb_OutOfRange, ⟨_, ed_OutOfRange⟩, ex_OutOfRange, ei_OutOfRange, en_X, eo_X, ep_OutOfRange⟩, (show xsub "OutOfRange" "InvalidRule" = false from by decide +kernel) ▸ kt_OutOfRange_InvalidRule⟩
      · exact ⟨_, y_UnknownName, ⟨by obtain ⟨cd, hc, _⟩ := PySem.W.any_some eu_UnknownName; rw [hc]; rfl, eb_UnknownName, ⟨_, ed_UnknownName⟩, ex_UnknownName, ei_UnknownName, en_X, eo_X, ep_UnknownName⟩, (show xsub "UnknownName" "InvalidRule" = false from by decide +kernel) ▸ kt_UnknownName_InvalidRule⟩
      · exact ⟨_, y_ZeroResult, ⟨by obtain ⟨cd, hc, _⟩ := PySem.W.any_some eu_ZeroResult; rw [hc]; rfl, eb_ZeroResult, ⟨_, ed_ZeroResult⟩, ex_ZeroResult, ei_ZeroResult, en_X, eo_X, ep_ZeroResult⟩, (show xsub "ZeroResult" "InvalidRule" = false from by decide +kernel) ▸ kt_ZeroResult_InvalidRule⟩,
    is_InvalidShift := fun nm hm => by
      simp only [List.mem_cons, List.not_mem_nil, or_false] at hm
      rcases hm with rfl | rfl | rfl | rfl | rfl | rfl | rfl | rfl | rfl | rfl | rfl | rfl | rfl | rfl | rfl | rfl | rfl | rfl | rfl
      · exact ⟨_, y_DifferentWidths, ⟨by obtain ⟨cd, hc, _⟩ := PySem.W.any_some eu_DifferentWidths; rw [hc]; rfl, eb_DifferentWidths, ⟨_, ed_DifferentWidths⟩, ex_DifferentWidths, ei_DifferentWidths, en_X, eo_X, ep_DifferentWidths⟩, (show xsub "DifferentWidths" "InvalidShift" = false from by decide +kernel) ▸ kt_DifferentWidths_InvalidShift⟩
      · exact ⟨_, y_InvalidChain, ⟨by obtain ⟨cd, hc, _⟩ := PySem.W.any_some eu_InvalidChain; rw [hc]; rfl, eb_InvalidChain, ⟨_, ed_InvalidChain⟩, ex_InvalidChain, ei_InvalidChain, en_X, eo_X, ep_InvalidChain⟩, (show xsub "InvalidChain" "InvalidShift" = false from by decide +kernel) ▸ kt_InvalidChain_InvalidShift⟩
      · exact ⟨_, y_InvalidExponent, ⟨by obtain ⟨cd, hc, _⟩ := PySem.W.any_some eu_InvalidExponent; rw [hc]; rfl, eb_InvalidExponent, ⟨_, ed_InvalidExponent⟩, ex_InvalidExponent, ei_InvalidExponent, en_X, eo_X, ep_InvalidExponent⟩, (show xsub "InvalidExponent" "InvalidShift" = false from by decide +kernel) ▸ kt_InvalidExponent_InvalidShift⟩
      · exact ⟨_, y_InvalidKind, ⟨by obtain ⟨cd, hc, _⟩ := PySem.W.any_some eu_InvalidKind; rw [hc]; rfl, eb_InvalidKind, ⟨_, ed_InvalidKind⟩, ex_InvalidKind, ei_InvalidKind, en_X, eo_X, ep_InvalidKind⟩, (show xsub "InvalidKind" "InvalidShift" = false from by decide +kernel) ▸ kt_InvalidKind_InvalidShift⟩
      · exact ⟨_, y_InvalidLine, ⟨by obtain ⟨cd, hc, _⟩ := PySem.W.any_some eu_InvalidLine; rw [hc]; rfl, eb_InvalidLine, ⟨_, ed_InvalidLine⟩, ex_InvalidLine, ei_InvalidLine, en_X, eo_X, ep_InvalidLine⟩, (show xsub "InvalidLine" "InvalidShift" = false from by decide +kernel) ▸ kt_InvalidLine_InvalidShift⟩
      · exact ⟨_, y_InvalidName, ⟨by obtain ⟨cd, hc, _⟩ := PySem.W.any_some eu_InvalidName; rw [hc]; rfl, eb_InvalidName, ⟨_, ed_InvalidName⟩, ex_InvalidName, ei_InvalidName, en_X, eo_X, ep_InvalidName⟩, (show xsub "InvalidName" "InvalidShift" = false from by decide +kernel) ▸ kt_InvalidName_InvalidShift⟩
      · exact ⟨_, y_InvalidNumber, ⟨by obtain ⟨cd, hc, _⟩ := PySem.W.any_some eu_InvalidNumber; rw [hc]; rfl, eb_InvalidNumber, ⟨_, ed_InvalidNumber⟩, ex_InvalidNumber, ei_InvalidNumber, en_X, eo_X, ep_InvalidNumber⟩, (show xsub "InvalidNumber" "InvalidShift" = false from by decide +kernel) ▸ kt_InvalidNumber_InvalidShift⟩
      · exact ⟨_, y_InvalidRange, ⟨by obtain ⟨cd, hc, _⟩ := PySem.W.any_some eu_InvalidRange; rw [hc]; rfl, eb_InvalidRange, ⟨_, ed_InvalidRange⟩, ex_InvalidRange, ei_InvalidRange, en_X, eo_X, ep_InvalidRange⟩, (show xsub "InvalidRange" "InvalidShift" = false from by decide +kernel) ▸ kt_InvalidRange_InvalidShift⟩
      · exact ⟨_, y_InvalidRule, ⟨by obtain ⟨cd, hc, _⟩ := PySem.W.any_some eu_InvalidRule; rw [hc]; rfl, eb_InvalidRule, ⟨_, ed_InvalidRule⟩, ex_InvalidRule, ei_InvalidRule, en_X, eo_X, ep_InvalidRule⟩, (show xsub "InvalidRule" "InvalidShift" = false from by decide +kernel) ▸ kt_InvalidRule_InvalidShift⟩
      · exact ⟨_, y_InvalidShift, ⟨by obtain ⟨cd, hc, _⟩ := PySem.W.any_some eu_InvalidShift; rw [hc]; rfl, eb_InvalidShift, ⟨_, ed_InvalidShift⟩, ex_InvalidShift, ei_InvalidShift, en_X, eo_X, ep_InvalidShift⟩, (show xsub "InvalidShift" "InvalidShift" = true from by decide +kernel) ▸ kt_InvalidShift_InvalidShift⟩
      · exact ⟨_, y_InvalidText, ⟨by obtain ⟨cd, hc, _⟩ := PySem.W.any_some eu_InvalidText; rw [hc]; rfl, eb_InvalidText, ⟨_, ed_InvalidText⟩, ex_InvalidText, ei_InvalidText, en_X, eo_X, ep_InvalidText⟩, (show xsub "InvalidText" "InvalidShift" = false from by decide +kernel) ▸ kt_InvalidText_InvalidShift⟩
      · exact ⟨_, y_InvalidThresholds, ⟨by obtain ⟨cd, hc, _⟩ := PySem.W.any_some eu_InvalidThresholds; rw [hc]; rfl, eb_InvalidThresholds, ⟨_, ed_InvalidThresholds⟩, ex_InvalidThresholds, ei_InvalidThresholds, en_X, eo_X, ep_InvalidThresholds⟩, (show xsub "InvalidThresholds" "InvalidShift" = false from by decide +kernel) ▸ kt_InvalidThresholds_InvalidShift⟩
      · exact ⟨_, y_InvalidWidth, ⟨by obtain ⟨cd, hc, _⟩ := PySem.W.any_some eu_InvalidWidth; rw [hc]; rfl, eb_InvalidWidth, ⟨_, ed_InvalidWidth⟩, ex_InvalidWidth, ei_InvalidWidth, en_X, eo_X, ep_InvalidWidth⟩, (show xsub "InvalidWidth" "InvalidShift" = false from by decide +kernel) ▸ kt_InvalidWidth_InvalidShift⟩
      · exact ⟨_, y_NoBench, ⟨by obtain ⟨cd, hc, _⟩ := PySem.W.any_some eu_NoBench; rw [hc]; rfl, eb_NoBench, ⟨_, ed_NoBench⟩, ex_NoBench, ei_NoBench, en_X, eo_X, ep_NoBench⟩, (show xsub "NoBench" "InvalidShift" = false from by decide +kernel) ▸ kt_NoBench_InvalidShift⟩
      · exact ⟨_, y_NotExact, ⟨by obtain ⟨cd, hc, _⟩ := PySem.W.any_some eu_NotExact; rw [hc]; rfl, eb_NotExact, ⟨_, ed_NotExact⟩, ex_NotExact, ei_NotExact, en_X, eo_X, ep_NotExact⟩, (show xsub "NotExact" "InvalidShift" = false from by decide +kernel) ▸ kt_NotExact_InvalidShift⟩
      · exact ⟨_, y_NothingToUndo, ⟨by obtain ⟨cd, hc, _⟩ := PySem.W.any_some eu_NothingToUndo; rw [hc]; rfl, eb_NothingToUndo, ⟨_, ed_NothingToUndo⟩, ex_NothingToUndo, ei_NothingToUndo, en_X, eo_X, ep_NothingToUndo⟩, (show xsub "NothingToUndo" "InvalidShift" = false from by decide +kernel) ▸ kt_NothingToUndo_InvalidShift⟩
      · exact ⟨_, y_OutOfRange, ⟨by obtain ⟨cd, hc, _⟩ := PySem.W.any_some eu_OutOfRange; rw [hc]; rfl, eb_OutOfRange, ⟨_, ed_OutOfRange⟩, ex_OutOfRange, ei_OutOfRange, en_X, eo_X, ep_OutOfRange⟩, (show xsub "OutOfRange" "InvalidShift" = false from by decide +kernel) ▸ kt_OutOfRange_InvalidShift⟩
      · exact ⟨_, y_UnknownName, ⟨by obtain ⟨cd, hc, _⟩ := PySem.W.any_some eu_UnknownName; rw [hc]; rfl, eb_UnknownName, ⟨_, ed_UnknownName⟩, ex_UnknownName, ei_UnknownName, en_X, eo_X, ep_UnknownName⟩, (show xsub "UnknownName" "InvalidShift" = false from by decide +kernel) ▸ kt_UnknownName_InvalidShift⟩
      · exact ⟨_, y_ZeroResult, ⟨by obtain ⟨cd, hc, _⟩ := PySem.W.any_some eu_ZeroResult; rw [hc]; rfl, eb_ZeroResult, ⟨_, ed_ZeroResult⟩, ex_ZeroResult, ei_ZeroResult, en_X, eo_X, ep_ZeroResult⟩, (show xsub "ZeroResult" "InvalidShift" = false from by decide +kernel) ▸ kt_ZeroResult_InvalidShift⟩,
    is_InvalidText := fun nm hm => by
      simp only [List.mem_cons, List.not_mem_nil, or_false] at hm
      rcases hm with rfl | rfl | rfl | rfl | rfl | rfl | rfl | rfl | rfl | rfl | rfl | rfl | rfl | rfl | rfl | rfl | rfl | rfl | rfl
      · exact ⟨_, y_DifferentWidths, ⟨by obtain ⟨cd, hc, _⟩ := PySem.W.any_some eu_DifferentWidths; rw [hc]; rfl, eb_DifferentWidths, ⟨_, ed_DifferentWidths⟩, ex_DifferentWidths, ei_DifferentWidths, en_X, eo_X, ep_DifferentWidths⟩, (show xsub "DifferentWidths" "InvalidText" = false from by decide +kernel) ▸ kt_DifferentWidths_InvalidText⟩
      · exact ⟨_, y_InvalidChain, ⟨by obtain ⟨cd, hc, _⟩ := PySem.W.any_some eu_InvalidChain; rw [hc]; rfl, eb_InvalidChain, ⟨_, ed_InvalidChain⟩, ex_InvalidChain, ei_InvalidChain, en_X, eo_X, ep_InvalidChain⟩, (show xsub "InvalidChain" "InvalidText" = false from by decide +kernel) ▸ kt_InvalidChain_InvalidText⟩
      · exact ⟨_, y_InvalidExponent, ⟨by obtain ⟨cd, hc, _⟩ := PySem.W.any_some eu_InvalidExponent; rw [hc]; rfl, eb_InvalidExponent, ⟨_, ed_InvalidExponent⟩, ex_InvalidExponent, ei_InvalidExponent, en_X, eo_X, ep_InvalidExponent⟩, (show xsub "InvalidExponent" "InvalidText" = false from by decide +kernel) ▸ kt_InvalidExponent_InvalidText⟩
      · exact ⟨_, y_InvalidKind, ⟨by obtain ⟨cd, hc, _⟩ := PySem.W.any_some eu_InvalidKind; rw [hc]; rfl, eb_InvalidKind, ⟨_, ed_InvalidKind⟩, ex_InvalidKind, ei_InvalidKind, en_X, eo_X, ep_InvalidKind⟩, (show xsub "InvalidKind" "InvalidText" = false from by decide +kernel) ▸ kt_InvalidKind_InvalidText⟩
      · exact ⟨_, y_InvalidLine, ⟨by obtain ⟨cd, hc, _⟩ := PySem.W.any_some eu_InvalidLine; rw [hc]; rfl, eb_InvalidLine, ⟨_, ed_InvalidLine⟩, ex_InvalidLine, ei_InvalidLine, en_X, eo_X, ep_InvalidLine⟩, (show xsub "InvalidLine" "InvalidText" = false from by decide +kernel) ▸ kt_InvalidLine_InvalidText⟩
      · exact ⟨_, y_InvalidName, ⟨by obtain ⟨cd, hc, _⟩ := PySem.W.any_some eu_InvalidName; rw [hc]; rfl, eb_InvalidName, ⟨_, ed_InvalidName⟩, ex_InvalidName, ei_InvalidName, en_X, eo_X, ep_InvalidName⟩, (show xsub "InvalidName" "InvalidText" = false from by decide +kernel) ▸ kt_InvalidName_InvalidText⟩
      · exact ⟨_, y_InvalidNumber, ⟨by obtain ⟨cd, hc, _⟩ := PySem.W.any_some eu_InvalidNumber; rw [hc]; rfl, eb_InvalidNumber, ⟨_, ed_InvalidNumber⟩, ex_InvalidNumber, ei_InvalidNumber, en_X, eo_X, ep_InvalidNumber⟩, (show xsub "InvalidNumber" "InvalidText" = false from by decide +kernel) ▸ kt_InvalidNumber_InvalidText⟩
      · exact ⟨_, y_InvalidRange, ⟨by obtain ⟨cd, hc, _⟩ := PySem.W.any_some eu_InvalidRange; rw [hc]; rfl, eb_InvalidRange, ⟨_, ed_InvalidRange⟩, ex_InvalidRange, ei_InvalidRange, en_X, eo_X, ep_InvalidRange⟩, (show xsub "InvalidRange" "InvalidText" = false from by decide +kernel) ▸ kt_InvalidRange_InvalidText⟩
      · exact ⟨_, y_InvalidRule, ⟨by obtain ⟨cd, hc, _⟩ := PySem.W.any_some eu_InvalidRule; rw [hc]; rfl, eb_InvalidRule, ⟨_, ed_InvalidRule⟩, ex_InvalidRule, ei_InvalidRule, en_X, eo_X, ep_InvalidRule⟩, (show xsub "InvalidRule" "InvalidText" = false from by decide +kernel) ▸ kt_InvalidRule_InvalidText⟩
      · exact ⟨_, y_InvalidShift, ⟨by obtain ⟨cd, hc, _⟩ := PySem.W.any_some eu_InvalidShift; rw [hc]; rfl, eb_InvalidShift, ⟨_, ed_InvalidShift⟩, ex_InvalidShift, ei_InvalidShift, en_X, eo_X, ep_InvalidShift⟩, (show xsub "InvalidShift" "InvalidText" = false from by decide +kernel) ▸ kt_InvalidShift_InvalidText⟩
      · exact ⟨_, y_InvalidText, ⟨by obtain ⟨cd, hc, _⟩ := PySem.W.any_some eu_InvalidText; rw [hc]; rfl, eb_InvalidText, ⟨_, ed_InvalidText⟩, ex_InvalidText, ei_InvalidText, en_X, eo_X, ep_InvalidText⟩, (show xsub "InvalidText" "InvalidText" = true from by decide +kernel) ▸ kt_InvalidText_InvalidText⟩
      · exact ⟨_, y_InvalidThresholds, ⟨by obtain ⟨cd, hc, _⟩ := PySem.W.any_some eu_InvalidThresholds; rw [hc]; rfl, eb_InvalidThresholds, ⟨_, ed_InvalidThresholds⟩, ex_InvalidThresholds, ei_InvalidThresholds, en_X, eo_X, ep_InvalidThresholds⟩, (show xsub "InvalidThresholds" "InvalidText" = false from by decide +kernel) ▸ kt_InvalidThresholds_InvalidText⟩
      · exact ⟨_, y_InvalidWidth, ⟨by obtain ⟨cd, hc, _⟩ := PySem.W.any_some eu_InvalidWidth; rw [hc]; rfl, eb_InvalidWidth, ⟨_, ed_InvalidWidth⟩, ex_InvalidWidth, ei_InvalidWidth, en_X, eo_X, ep_InvalidWidth⟩, (show xsub "InvalidWidth" "InvalidText" = false from by decide +kernel) ▸ kt_InvalidWidth_InvalidText⟩
      · exact ⟨_, y_NoBench, ⟨by obtain ⟨cd, hc, _⟩ := PySem.W.any_some eu_NoBench; rw [hc]; rfl, eb_NoBench, ⟨_, ed_NoBench⟩, ex_NoBench, ei_NoBench, en_X, eo_X, ep_NoBench⟩, (show xsub "NoBench" "InvalidText" = false from by decide +kernel) ▸ kt_NoBench_InvalidText⟩
      · exact ⟨_, y_NotExact, ⟨by obtain ⟨cd, hc, _⟩ := PySem.W.any_some eu_NotExact; rw [hc]; rfl, eb_NotExact, ⟨_, ed_NotExact⟩, ex_NotExact, ei_NotExact, en_X, eo_X, ep_NotExact⟩, (show xsub "NotExact" "InvalidText" = false from by decide +kernel) ▸ kt_NotExact_InvalidText⟩
      · exact ⟨_, y_NothingToUndo, ⟨by obtain ⟨cd, hc, _⟩ := PySem.W.any_some eu_NothingToUndo; rw [hc]; rfl, eb_NothingToUndo, ⟨_, ed_NothingToUndo⟩, ex_NothingToUndo, ei_NothingToUndo, en_X, eo_X, ep_NothingToUndo⟩, (show xsub "NothingToUndo" "InvalidText" = false from by decide +kernel) ▸ kt_NothingToUndo_InvalidText⟩
      · exact ⟨_, y_OutOfRange, ⟨by obtain ⟨cd, hc, _⟩ := PySem.W.any_some eu_OutOfRange; rw [hc]; rfl, eb_OutOfRange, ⟨_, ed_OutOfRange⟩, ex_OutOfRange, ei_OutOfRange, en_X, eo_X, ep_OutOfRange⟩, (show xsub "OutOfRange" "InvalidText" = false from by decide +kernel) ▸ kt_OutOfRange_InvalidText⟩
      · exact ⟨_, y_UnknownName, ⟨by obtain ⟨cd, hc, _⟩ := PySem.W.any_some eu_UnknownName; rw [hc]; rfl, eb_UnknownName, ⟨_, ed_UnknownName⟩, ex_UnknownName, ei_UnknownName, en_X, eo_X, ep_UnknownName⟩, (show xsub "UnknownName" "InvalidText" = false from by decide +kernel) ▸ kt_UnknownName_InvalidText⟩
      · exact ⟨_, y_ZeroResult, ⟨by obtain ⟨cd, hc, _⟩ := PySem.W.any_some eu_ZeroResult; rw [hc]; rfl, eb_ZeroResult, ⟨_, ed_ZeroResult⟩, ex_ZeroResult, ei_ZeroResult, en_X, eo_X, ep_ZeroResult⟩, (show xsub "ZeroResult" "InvalidText" = false from by decide +kernel) ▸ kt_ZeroResult_InvalidText⟩,
    is_InvalidThresholds := fun nm hm => by
      simp only [List.mem_cons, List.not_mem_nil, or_false] at hm
      rcases hm with rfl | rfl | rfl | rfl | rfl | rfl | rfl | rfl | rfl | rfl | rfl | rfl | rfl | rfl | rfl | rfl | rfl | rfl | rfl
      · exact ⟨_, y_DifferentWidths, ⟨by obtain ⟨cd, hc, _⟩ := PySem.W.any_some eu_DifferentWidths; rw [hc]; rfl, eb_DifferentWidths, ⟨_, ed_DifferentWidths⟩, ex_DifferentWidths, ei_DifferentWidths, en_X, eo_X, ep_DifferentWidths⟩, (show xsub "DifferentWidths" "InvalidThresholds" = false from by decide +kernel) ▸ kt_DifferentWidths_InvalidThresholds⟩
      · exact ⟨_, y_InvalidChain, ⟨by obtain ⟨cd, hc, _⟩ := PySem.W.any_some eu_InvalidChain; rw [hc]; rfl, eb_InvalidChain, ⟨_, ed_InvalidChain⟩, ex_InvalidChain, ei_InvalidChain, en_X, eo_X, ep_InvalidChain⟩, (show xsub "InvalidChain" "InvalidThresholds" = false from by decide +kernel) ▸ kt_InvalidChain_InvalidThresholds⟩
      · exact ⟨_, y_InvalidExponent, ⟨by obtain ⟨cd, hc, _⟩ := PySem.W.any_some eu_InvalidExponent; rw [hc]; rfl, eb_InvalidExponent, ⟨_, ed_InvalidExponent⟩, ex_InvalidExponent, ei_InvalidExponent, en_X, eo_X, ep_InvalidExponent⟩, (show xsub "InvalidExponent" "InvalidThresholds" = false from by decide +kernel) ▸ kt_InvalidExponent_InvalidThresholds⟩
      · exact ⟨_, y_InvalidKind, ⟨by obtain ⟨cd, hc, _⟩ := PySem.W.any_some eu_InvalidKind; rw [hc]; rfl, eb_InvalidKind, ⟨_, ed_InvalidKind⟩, ex_InvalidKind, ei_InvalidKind, en_X, eo_X, ep_InvalidKind⟩, (show xsub "InvalidKind" "InvalidThresholds" = false from by decide +kernel) ▸ kt_InvalidKind_InvalidThresholds⟩
      · exact ⟨_, y_InvalidLine, ⟨by obtain ⟨cd, hc, _⟩ := PySem.W.any_some eu_InvalidLine; rw [hc]; rfl, eb_InvalidLine, ⟨_, ed_InvalidLine⟩, ex_InvalidLine, ei_InvalidLine, en_X, eo_X, ep_InvalidLine⟩, (show xsub "InvalidLine" "InvalidThresholds" = false from by decide +kernel) ▸ kt_InvalidLine_InvalidThresholds⟩
      · exact ⟨_, y_InvalidName, ⟨by obtain ⟨cd, hc, _⟩ := PySem.W.any_some eu_InvalidName; rw [hc]; rfl, eb_InvalidName, ⟨_, ed_InvalidName⟩, ex_InvalidName, ei_InvalidName, en_X, eo_X, ep_InvalidName⟩, (show xsub "InvalidName" "InvalidThresholds" = false from by decide +kernel) ▸ kt_InvalidName_InvalidThresholds⟩
      · exact ⟨_, y_InvalidNumber, ⟨by obtain ⟨cd, hc, _⟩ := PySem.W.any_some eu_InvalidNumber; rw [hc]; rfl, eb_InvalidNumber, ⟨_, ed_InvalidNumber⟩, ex_InvalidNumber, ei_InvalidNumber, en_X, eo_X, ep_InvalidNumber⟩, (show xsub "InvalidNumber" "InvalidThresholds" = false from by decide +kernel) ▸ kt_InvalidNumber_InvalidThresholds⟩
      · exact ⟨_, y_InvalidRange, ⟨by obtain ⟨cd, hc, _⟩ := PySem.W.any_some eu_InvalidRange; rw [hc]; rfl, eb_InvalidRange, ⟨_, ed_InvalidRange⟩, ex_InvalidRange, ei_InvalidRange, en_X, eo_X, ep_InvalidRange⟩, (show xsub "InvalidRange" "InvalidThresholds" = false from by decide +kernel) ▸ kt_InvalidRange_InvalidThresholds⟩
      · exact ⟨_, y_InvalidRule, ⟨by obtain ⟨cd, hc, _⟩ := PySem.W.any_some eu_InvalidRule; rw [hc]; rfl, eb_InvalidRule, ⟨_, ed_InvalidRule⟩, ex_InvalidRule, ei_InvalidRule, en_X, eo_X, ep_InvalidRule⟩, (show xsub "InvalidRule" "InvalidThresholds" = false from by decide +kernel) ▸ kt_InvalidRule_InvalidThresholds⟩
      · exact ⟨_, y_InvalidShift, ⟨by obtain ⟨cd, hc, _⟩ := PySem.W.any_some eu_InvalidShift; rw [hc]; rfl, eb_InvalidShift, ⟨_, ed_InvalidShift⟩, ex_InvalidShift, ei_InvalidShift, en_X, eo_X, ep_InvalidShift⟩, (show xsub "InvalidShift" "InvalidThresholds" = false from by decide +kernel) ▸ kt_InvalidShift_InvalidThresholds⟩
      · exact ⟨_, y_InvalidText, ⟨by obtain ⟨cd, hc, _⟩ := PySem.W.any_some eu_InvalidText; rw [hc]; rfl, eb_InvalidText, ⟨_, ed_InvalidText⟩, ex_InvalidText, ei_InvalidText, en_X, eo_X, ep_InvalidText⟩, (show xsub "InvalidText" "InvalidThresholds" = false from by decide +kernel) ▸ kt_InvalidText_InvalidThresholds⟩
      · exact ⟨_, y_InvalidThresholds, ⟨by obtain ⟨cd, hc, _⟩ := PySem.W.any_some eu_InvalidThresholds; rw [hc]; rfl, eb_InvalidThresholds, ⟨_, ed_InvalidThresholds⟩, ex_InvalidThresholds, ei_InvalidThresholds, en_X, eo_X, ep_InvalidThresholds⟩, (show xsub "InvalidThresholds" "InvalidThresholds" = true from by decide +kernel) ▸ kt_InvalidThresholds_InvalidThresholds⟩
      · exact ⟨_, y_InvalidWidth, ⟨by obtain ⟨cd, hc, _⟩ := PySem.W.any_some eu_InvalidWidth; rw [hc]; rfl, eb_InvalidWidth, ⟨_, ed_InvalidWidth⟩, ex_InvalidWidth, ei_InvalidWidth, en_X, eo_X, ep_InvalidWidth⟩, (show xsub "InvalidWidth" "InvalidThresholds" = false from by decide +kernel) ▸ kt_InvalidWidth_InvalidThresholds⟩
      · exact ⟨_, y_NoBench, ⟨by obtain ⟨cd, hc, _⟩ := PySem.W.any_some eu_NoBench; rw [hc]; rfl, eb_NoBench, ⟨_, ed_NoBench⟩, ex_NoBench, ei_NoBench, en_X, eo_X, ep_NoBench⟩, (show xsub "NoBench" "InvalidThresholds" = false from by decide +kernel) ▸ kt_NoBench_InvalidThresholds⟩
      · exact ⟨_, y_NotExact, ⟨by obtain ⟨cd, hc, _⟩ := PySem.W.any_some eu_NotExact; rw [hc]; rfl, eb_NotExact, ⟨_, ed_NotExact⟩, ex_NotExact, ei_NotExact, en_X, eo_X, ep_NotExact⟩, (show xsub "NotExact" "InvalidThresholds" = false from by decide +kernel) ▸ kt_NotExact_InvalidThresholds⟩
      · exact ⟨_, y_NothingToUndo, ⟨by obtain ⟨cd, hc, _⟩ := PySem.W.any_some eu_NothingToUndo; rw [hc]; rfl, eb_NothingToUndo, ⟨_, ed_NothingToUndo⟩, ex_NothingToUndo, ei_NothingToUndo, en_X, eo_X, ep_NothingToUndo⟩, (show xsub "NothingToUndo" "InvalidThresholds" = false from by decide +kernel) ▸ kt_NothingToUndo_InvalidThresholds⟩
      · exact ⟨_, y_OutOfRange, ⟨by obtain ⟨cd, hc, _⟩ := PySem.W.any_some eu_OutOfRange; rw [hc]; rfl, eb_OutOfRange, ⟨_, ed_OutOfRange⟩, ex_OutOfRange, ei_OutOfRange, en_X, eo_X, ep_OutOfRange⟩, (show xsub "OutOfRange" "InvalidThresholds" = false from by decide +kernel) ▸ kt_OutOfRange_InvalidThresholds⟩
      · exact ⟨_, y_UnknownName, ⟨by obtain ⟨cd, hc, _⟩ := PySem.W.any_some eu_UnknownName; rw [hc]; rfl, eb_UnknownName, ⟨_, ed_UnknownName⟩, ex_UnknownName, ei_UnknownName, en_X, eo_X, ep_UnknownName⟩, (show xsub "UnknownName" "InvalidThresholds" = false from by decide +kernel) ▸ kt_UnknownName_InvalidThresholds⟩
      · exact ⟨_, y_ZeroResult, ⟨by obtain ⟨cd, hc, _⟩ := PySem.W.any_some eu_ZeroResult; rw [hc]; rfl, eb_ZeroResult, ⟨_, ed_ZeroResult⟩, ex_ZeroResult, ei_ZeroResult, en_X, eo_X, ep_ZeroResult⟩, (show xsub "ZeroResult" "InvalidThresholds" = false from by decide +kernel) ▸ kt_ZeroResult_InvalidThresholds⟩,
    is_InvalidWidth := fun nm hm => by
      simp only [List.mem_cons, List.not_mem_nil, or_false] at hm
      rcases hm with rfl | rfl | rfl | rfl | rfl | rfl | rfl | rfl | rfl | rfl | rfl | rfl | rfl | rfl | rfl | rfl | rfl | rfl | rfl
      · exact ⟨_, y_DifferentWidths, ⟨by obtain ⟨cd, hc, _⟩ := PySem.W.any_some eu_DifferentWidths; rw [hc]; rfl, eb_DifferentWidths, ⟨_, ed_DifferentWidths⟩, ex_DifferentWidths, ei_DifferentWidths, en_X, eo_X, ep_DifferentWidths⟩, (show xsub "DifferentWidths" "InvalidWidth" = false from by decide +kernel) ▸ kt_DifferentWidths_InvalidWidth⟩
      · exact ⟨_, y_InvalidChain, ⟨by obtain ⟨cd, hc, _⟩ := PySem.W.any_some eu_InvalidChain; rw [hc]; rfl, eb_InvalidChain, ⟨_, ed_InvalidChain⟩, ex_InvalidChain, ei_InvalidChain, en_X, eo_X, ep_InvalidChain⟩, (show xsub "InvalidChain" "InvalidWidth" = false from by decide +kernel) ▸ kt_InvalidChain_InvalidWidth⟩
      · exact ⟨_, y_InvalidExponent, ⟨by obtain ⟨cd, hc, _⟩ := PySem.W.any_some eu_InvalidExponent; rw [hc]; rfl, eb_InvalidExponent, ⟨_, ed_InvalidExponent⟩, ex_InvalidExponent, ei_InvalidExponent, en_X, eo_X, ep_InvalidExponent⟩, (show xsub "InvalidExponent" "InvalidWidth" = false from by decide +kernel) ▸ kt_InvalidExponent_InvalidWidth⟩
      · exact ⟨_, y_InvalidKind, ⟨by obtain ⟨cd, hc, _⟩ := PySem.W.any_some eu_InvalidKind; rw [hc]; rfl, eb_InvalidKind, ⟨_, ed_InvalidKind⟩, ex_InvalidKind, ei_InvalidKind, en_X, eo_X, ep_InvalidKind⟩, (show xsub "InvalidKind" "InvalidWidth" = false from by decide +kernel) ▸ kt_InvalidKind_InvalidWidth⟩
      · exact ⟨_, y_InvalidLine, ⟨by obtain ⟨cd, hc, _⟩ := PySem.W.any_some eu_InvalidLine; rw [hc]; rfl, eb_InvalidLine, ⟨_, ed_InvalidLine⟩, ex_InvalidLine, ei_InvalidLine, en_X, eo_X, ep_InvalidLine⟩, (show xsub "InvalidLine" "InvalidWidth" = false from by decide +kernel) ▸ kt_InvalidLine_InvalidWidth⟩
      · exact ⟨_, y_InvalidName, ⟨by obtain ⟨cd, hc, _⟩ := PySem.W.any_some eu_InvalidName; rw [hc]; rfl, eb_InvalidName, ⟨_, ed_InvalidName⟩, ex_InvalidName, ei_InvalidName, en_X, eo_X, ep_InvalidName⟩, (show xsub "InvalidName" "InvalidWidth" = false from by decide +kernel) ▸ kt_InvalidName_InvalidWidth⟩
      · exact ⟨_, y_InvalidNumber, ⟨by obtain ⟨cd, hc, _⟩ := PySem.W.any_some eu_InvalidNumber; rw [hc]; rfl, eb_InvalidNumber, ⟨_, ed_InvalidNumber⟩, ex_InvalidNumber, ei_InvalidNumber, en_X, eo_X, ep_InvalidNumber⟩, (show xsub "InvalidNumber" "InvalidWidth" = false from by decide +kernel) ▸ kt_InvalidNumber_InvalidWidth⟩
      · exact ⟨_, y_InvalidRange, ⟨by obtain ⟨cd, hc, _⟩ := PySem.W.any_some eu_InvalidRange; rw [hc]; rfl, eb_InvalidRange, ⟨_, ed_InvalidRange⟩, ex_InvalidRange, ei_InvalidRange, en_X, eo_X, ep_InvalidRange⟩, (show xsub "InvalidRange" "InvalidWidth" = false from by decide +kernel) ▸ kt_InvalidRange_InvalidWidth⟩
      · exact ⟨_, y_InvalidRule, ⟨by obtain ⟨cd, hc, _⟩ := PySem.W.any_some eu_InvalidRule; rw [hc]; rfl, eb_InvalidRule, ⟨_, ed_InvalidRule⟩, ex_InvalidRule, ei_InvalidRule, en_X, eo_X, ep_InvalidRule⟩, (show xsub "InvalidRule" "InvalidWidth" = false from by decide +kernel) ▸ kt_InvalidRule_InvalidWidth⟩
      · exact ⟨_, y_InvalidShift, ⟨by obtain ⟨cd, hc, _⟩ := PySem.W.any_some eu_InvalidShift; rw [hc]; rfl, eb_InvalidShift, ⟨_, ed_InvalidShift⟩, ex_InvalidShift, ei_InvalidShift, en_X, eo_X, ep_InvalidShift⟩, (show xsub "InvalidShift" "InvalidWidth" = false from by decide +kernel) ▸ kt_InvalidShift_InvalidWidth⟩
      · exact ⟨_, y_InvalidText, ⟨by obtain ⟨cd, hc, _⟩ := PySem.W.any_some eu_InvalidText; rw [hc]; rfl, eb_InvalidText, ⟨_, ed_InvalidText⟩, ex_InvalidText, ei_InvalidText, en_X, eo_X, ep_InvalidText⟩, (show xsub "InvalidText" "InvalidWidth" = false from by decide +kernel) ▸ kt_InvalidText_InvalidWidth⟩
      · exact ⟨_, y_InvalidThresholds, ⟨by obtain ⟨cd, hc, _⟩ := PySem.W.any_some eu_InvalidThresholds; rw [hc]; rfl, eb_InvalidThresholds, ⟨_, ed_InvalidThresholds⟩, ex_InvalidThresholds, ei_InvalidThresholds, en_X, eo_X, ep_InvalidThresholds⟩, (show xsub "InvalidThresholds" "InvalidWidth" = false from by decide +kernel) ▸ kt_InvalidThresholds_InvalidWidth⟩
      · exact ⟨_, y_InvalidWidth, ⟨by obtain ⟨cd, hc, _⟩ := PySem.W.any_some eu_InvalidWidth; rw [hc]; rfl, eb_InvalidWidth, ⟨_, ed_InvalidWidth⟩, ex_InvalidWidth, ei_InvalidWidth, en_X, eo_X, ep_InvalidWidth⟩, (show xsub "InvalidWidth" "InvalidWidth" = true from by decide +kernel) ▸ kt_InvalidWidth_InvalidWidth⟩
      · exact ⟨_, y_NoBench, ⟨by obtain ⟨cd, hc, _⟩ := PySem.W.any_some eu_NoBench; rw [hc]; rfl, eb_NoBench, ⟨_, ed_NoBench⟩, ex_NoBench, ei_NoBench, en_X, eo_X, ep_NoBench⟩, (show xsub "NoBench" "InvalidWidth" = false from by decide +kernel) ▸ kt_NoBench_InvalidWidth⟩
      · exact ⟨_, y_NotExact, ⟨by obtain ⟨cd, hc, _⟩ := PySem.W.any_some eu_NotExact; rw [hc]; rfl, eb_NotExact, ⟨_, ed_NotExact⟩, ex_NotExact, ei_NotExact, en_X, eo_X, ep_NotExact⟩, (show xsub "NotExact" "InvalidWidth" = false from by decide +kernel) ▸ kt_NotExact_InvalidWidth⟩
      · exact ⟨_, y_NothingToUndo, ⟨by obtain ⟨cd, hc, _⟩ := PySem.W.any_some eu_NothingToUndo; rw [hc]; rfl, eb_NothingToUndo, ⟨_, ed_NothingToUndo⟩, ex_NothingToUndo, ei_NothingToUndo, en_X, eo_X, ep_NothingToUndo⟩, (show xsub "NothingToUndo" "InvalidWidth" = false from by decide +kernel) ▸ kt_NothingToUndo_InvalidWidth⟩
      · exact ⟨_, y_OutOfRange, ⟨by obtain ⟨cd, hc, _⟩ := PySem.W.any_some eu_OutOfRange; rw [hc]; rfl, eb_OutOfRange, ⟨_, ed_OutOfRange⟩, ex_OutOfRange, ei_OutOfRange, en_X, eo_X, ep_OutOfRange⟩, (show xsub "OutOfRange" "InvalidWidth" = false from by decide +kernel) ▸ kt_OutOfRange_InvalidWidth⟩
      · exact ⟨_, y_UnknownName, ⟨by obtain ⟨cd, hc, _⟩ := PySem.W.any_some eu_UnknownName; rw [hc]; rfl, eb_UnknownName, ⟨_, ed_UnknownName⟩, ex_UnknownName, ei_UnknownName, en_X, eo_X, ep_UnknownName⟩, (show xsub "UnknownName" "InvalidWidth" = false from by decide +kernel) ▸ kt_UnknownName_InvalidWidth⟩
      · exact ⟨_, y_ZeroResult, ⟨by obtain ⟨cd, hc, _⟩ := PySem.W.any_some eu_ZeroResult; rw [hc]; rfl, eb_ZeroResult, ⟨_, ed_ZeroResult⟩, ex_ZeroResult, ei_ZeroResult, en_X, eo_X, ep_ZeroResult⟩, (show xsub "ZeroResult" "InvalidWidth" = false from by decide +kernel) ▸ kt_ZeroResult_InvalidWidth⟩,
    is_NoBench := fun nm hm => by
      simp only [List.mem_cons, List.not_mem_nil, or_false] at hm
      rcases hm with rfl | rfl | rfl | rfl | rfl | rfl | rfl | rfl | rfl | rfl | rfl | rfl | rfl | rfl | rfl | rfl | rfl | rfl | rfl
      · exact ⟨_, y_DifferentWidths, ⟨by obtain ⟨cd, hc, _⟩ := PySem.W.any_some eu_DifferentWidths; rw [hc]; rfl, eb_DifferentWidths, ⟨_, ed_DifferentWidths⟩, ex_DifferentWidths, ei_DifferentWidths, en_X, eo_X, ep_DifferentWidths⟩, (show xsub "DifferentWidths" "NoBench" = false from by decide +kernel) ▸ kt_DifferentWidths_NoBench⟩
      · exact ⟨_, y_InvalidChain, ⟨by obtain ⟨cd, hc, _⟩ := PySem.W.any_some eu_InvalidChain; rw [hc]; rfl, eb_InvalidChain, ⟨_, ed_InvalidChain⟩, ex_InvalidChain, ei_InvalidChain, en_X, eo_X, ep_InvalidChain⟩, (show xsub "InvalidChain" "NoBench" = false from by decide +kernel) ▸ kt_InvalidChain_NoBench⟩
      · exact ⟨_, y_InvalidExponent, ⟨by obtain ⟨cd, hc, _⟩ := PySem.W.any_some eu_InvalidExponent; rw [hc]; rfl, eb_InvalidExponent, ⟨_, ed_InvalidExponent⟩, ex_InvalidExponent, ei_InvalidExponent, en_X, eo_X, ep_InvalidExponent⟩, (show xsub "InvalidExponent" "NoBench" = false from by decide +kernel) ▸ kt_InvalidExponent_NoBench⟩
      · exact ⟨_, y_InvalidKind, ⟨by obtain ⟨cd, hc, _⟩ := PySem.W.any_some eu_InvalidKind; rw [hc]; rfl, eb_InvalidKind, ⟨_, ed_InvalidKind⟩, ex_InvalidKind, ei_InvalidKind, en_X, eo_X, ep_InvalidKind⟩, (show xsub "InvalidKind" "NoBench" = false from by decide +kernel) ▸ kt_InvalidKind_NoBench⟩
      · exact ⟨_, y_InvalidLine, ⟨by obtain ⟨cd, hc, _⟩ := PySem.W.any_some eu_InvalidLine; rw [hc]; rfl, eb_InvalidLine, ⟨_, ed_InvalidLine⟩, ex_InvalidLine, ei_InvalidLine, en_X, eo_X, ep_InvalidLine⟩, (show xsub "InvalidLine" "NoBench" = false from by decide +kernel) ▸ kt_InvalidLine_NoBench⟩
      · exact ⟨_, y_InvalidName, ⟨by obtain ⟨cd, hc, _⟩ := PySem.W.any_some eu_InvalidName; rw [hc]; rfl, eb_InvalidName, ⟨_, ed_InvalidName⟩, ex_InvalidName, ei_InvalidName, en_X, eo_X, ep_InvalidName⟩, (show xsub "InvalidName" "NoBench" = false from by decide +kernel) ▸ kt_InvalidName_NoBench⟩
      · exact ⟨_, y_InvalidNumber, ⟨by obtain ⟨cd, hc, _⟩ := PySem.W.any_some eu_InvalidNumber; rw [hc]; rfl, eb_InvalidNumber, ⟨_, ed_InvalidNumber⟩, ex_InvalidNumber, ei_InvalidNumber, en_X, eo_X, ep_InvalidNumber⟩, (show xsub "InvalidNumber" "NoBench" = false from by decide +kernel) ▸ kt_InvalidNumber_NoBench⟩
      · exact ⟨_, y_InvalidRange, ⟨by obtain ⟨cd, hc, _⟩ := PySem.W.any_some eu_InvalidRange; rw [hc]; rfl, eb_InvalidRange, ⟨_, ed_InvalidRange⟩, ex_InvalidRange, ei_InvalidRange, en_X, eo_X, ep_InvalidRange⟩, (show xsub "InvalidRange" "NoBench" = false from by decide +kernel) ▸ kt_InvalidRange_NoBench⟩
      · exact ⟨_, y_InvalidRule, ⟨by obtain ⟨cd, hc, _⟩ := PySem.W.any_some eu_InvalidRule; rw [hc]; rfl, eb_InvalidRule, ⟨_, ed_InvalidRule⟩, ex_InvalidRule, ei_InvalidRule, en_X, eo_X, ep_InvalidRule⟩, (show xsub "InvalidRule" "NoBench" = false from by decide +kernel) ▸ kt_InvalidRule_NoBench⟩
      · exact ⟨_, y_InvalidShift, ⟨by obtain ⟨cd, hc, _⟩ := PySem.W.any_some eu_InvalidShift; rw [hc]; rfl, eb_InvalidShift, ⟨_, ed_InvalidShift⟩, ex_InvalidShift, ei_InvalidShift, en_X, eo_X, ep_InvalidShift⟩, (show xsub "InvalidShift" "NoBench" = false from by decide +kernel) ▸ kt_InvalidShift_NoBench⟩
      · exact ⟨_, y_InvalidText, ⟨by obtain ⟨cd, hc, _⟩ := PySem.W.any_some eu_InvalidText; rw [hc]; rfl, eb_InvalidText, ⟨_, ed_InvalidText⟩, ex_InvalidText, ei_InvalidText, en_X, eo_X, ep_InvalidText⟩, (show xsub "InvalidText" "NoBench" = false from by decide +kernel) ▸ kt_InvalidText_NoBench⟩
      · exact ⟨_, y_InvalidThresholds, ⟨by obtain ⟨cd, hc, _⟩ := PySem.W.any_some eu_InvalidThresholds; rw [hc]; rfl, eb_InvalidThresholds, ⟨_, ed_InvalidThresholds⟩, ex_InvalidThresholds, ei_InvalidThresholds, en_X, eo_X, ep_InvalidThresholds⟩, (show xsub "InvalidThresholds" "NoBench" = false from by decide +kernel) ▸ kt_InvalidThresholds_NoBench⟩
      · exact ⟨_, y_InvalidWidth, ⟨by obtain ⟨cd, hc, _⟩ := PySem.W.any_some eu_InvalidWidth; rw [hc]; rfl, eb_InvalidWidth, ⟨_, ed_InvalidWidth⟩, ex_InvalidWidth, ei_InvalidWidth, en_X, eo_X, ep_InvalidWidth⟩, (show xsub "InvalidWidth" "NoBench" = false from by decide +kernel) ▸ kt_InvalidWidth_NoBench⟩
      · exact ⟨_, y_NoBench, ⟨by obtain ⟨cd, hc, _⟩ := PySem.W.any_some eu_NoBench; rw [hc]; rfl, eb_NoBench, ⟨_, ed_NoBench⟩, ex_NoBench, ei_NoBench, en_X, eo_X, ep_NoBench⟩, (show xsub "NoBench" "NoBench" = true from by decide +kernel) ▸ kt_NoBench_NoBench⟩
      · exact ⟨_, y_NotExact, ⟨by obtain ⟨cd, hc, _⟩ := PySem.W.any_some eu_NotExact; rw [hc]; rfl, eb_NotExact, ⟨_, ed_NotExact⟩, ex_NotExact, ei_NotExact, en_X, eo_X, ep_NotExact⟩, (show xsub "NotExact" "NoBench" = false from by decide +kernel) ▸ kt_NotExact_NoBench⟩
      · exact ⟨_, y_NothingToUndo, ⟨by obtain ⟨cd, hc, _⟩ := PySem.W.any_some eu_NothingToUndo; rw [hc]; rfl, eb_NothingToUndo, ⟨_, ed_NothingToUndo⟩, ex_NothingToUndo, ei_NothingToUndo, en_X, eo_X, ep_NothingToUndo⟩, (show xsub "NothingToUndo" "NoBench" = false from by decide +kernel) ▸ kt_NothingToUndo_NoBench⟩
      · exact ⟨_, y_OutOfRange, ⟨by obtain ⟨cd, hc, _⟩ := PySem.W.any_some eu_OutOfRange; rw [hc]; rfl, eb_OutOfRange, ⟨_, ed_OutOfRange⟩, ex_OutOfRange, ei_OutOfRange, en_X, eo_X, ep_OutOfRange⟩, (show xsub "OutOfRange" "NoBench" = false from by decide +kernel) ▸ kt_OutOfRange_NoBench⟩
      · exact ⟨_, y_UnknownName, ⟨by obtain ⟨cd, hc, _⟩ := PySem.W.any_some eu_UnknownName; rw [hc]; rfl, eb_UnknownName, ⟨_, ed_UnknownName⟩, ex_UnknownName, ei_UnknownName, en_X, eo_X, ep_UnknownName⟩, (show xsub "UnknownName" "NoBench" = false from by decide +kernel) ▸ kt_UnknownName_NoBench⟩
      · exact ⟨_, y_ZeroResult, ⟨by obtain ⟨cd, hc, _⟩ := PySem.W.any_some eu_ZeroResult; rw [hc]; rfl, eb_ZeroResult, ⟨_, ed_ZeroResult⟩, ex_ZeroResult, ei_ZeroResult, en_X, eo_X, ep_ZeroResult⟩, (show xsub "ZeroResult" "NoBench" = false from by decide +kernel) ▸ kt_ZeroResult_NoBench⟩,
    is_NotExact := fun nm hm => by
      simp only [List.mem_cons, List.not_mem_nil, or_false] at hm
      rcases hm with rfl | rfl | rfl | rfl | rfl | rfl | rfl | rfl | rfl | rfl | rfl | rfl | rfl | rfl | rfl | rfl | rfl | rfl | rfl
      · exact ⟨_, y_DifferentWidths, ⟨by obtain ⟨cd, hc, _⟩ := PySem.W.any_some eu_DifferentWidths; rw [hc]; rfl, eb_DifferentWidths, ⟨_, ed_DifferentWidths⟩, ex_DifferentWidths, ei_DifferentWidths, en_X, eo_X, ep_DifferentWidths⟩, (show xsub "DifferentWidths" "NotExact" = false from by decide +kernel) ▸ kt_DifferentWidths_NotExact⟩
      · exact ⟨_, y_InvalidChain, ⟨by obtain ⟨cd, hc, _⟩ := PySem.W.any_some eu_InvalidChain; rw [hc]; rfl, eb_InvalidChain, ⟨_, ed_InvalidChain⟩, ex_InvalidChain, ei_InvalidChain, en_X, eo_X, ep_InvalidChain⟩, (show xsub "InvalidChain" "NotExact" = false from by decide +kernel) ▸ kt_InvalidChain_NotExact⟩
      · exact ⟨_, y_InvalidExponent, ⟨by obtain ⟨cd, hc, _⟩ := PySem.W.any_some eu_InvalidExponent; rw [hc]; rfl, eb_InvalidExponent, ⟨_, ed_InvalidExponent⟩, ex_InvalidExponent, ei_InvalidExponent, en_X, eo_X, ep_InvalidExponent⟩, (show xsub "InvalidExponent" "NotExact" = false from by decide +kernel) ▸ kt_InvalidExponent_NotExact⟩
      · exact ⟨_, y_InvalidKind, ⟨by obtain ⟨cd, hc, _⟩ := PySem.W.any_some eu_InvalidKind; rw [hc]; rfl, eb_InvalidKind, ⟨_, ed_InvalidKind⟩, ex_InvalidKind, ei_InvalidKind, en_X, eo_X, ep_InvalidKind⟩, (show xsub "InvalidKind" "NotExact" = false from by decide +kernel) ▸ kt_InvalidKind_NotExact⟩
      · exact ⟨_, y_InvalidLine, ⟨by obtain ⟨cd, hc, _⟩ := PySem.W.any_some eu_InvalidLine; rw [hc]; rfl, eb_InvalidLine, ⟨_, ed_InvalidLine⟩, ex_InvalidLine, ei_InvalidLine, en_X, eo_X, ep_InvalidLine⟩, (show xsub "InvalidLine" "NotExact" = false from by decide +kernel) ▸ kt_InvalidLine_NotExact⟩
      · exact ⟨_, y_InvalidName, ⟨by obtain ⟨cd, hc, _⟩ := PySem.W.any_some eu_InvalidName; rw [hc]; rfl, eb_InvalidName, ⟨_, ed_InvalidName⟩, ex_InvalidName, ei_InvalidName, en_X, eo_X, ep_InvalidName⟩, (show xsub "InvalidName" "NotExact" = false from by decide +kernel) ▸ kt_InvalidName_NotExact⟩
      · exact ⟨_, y_InvalidNumber, ⟨by obtain ⟨cd, hc, _⟩ := PySem.W.any_some eu_InvalidNumber; rw [hc]; rfl, eb_InvalidNumber, ⟨_, ed_InvalidNumber⟩, ex_InvalidNumber, ei_InvalidNumber, en_X, eo_X, ep_InvalidNumber⟩, (show xsub "InvalidNumber" "NotExact" = false from by decide +kernel) ▸ kt_InvalidNumber_NotExact⟩
      · exact ⟨_, y_InvalidRange, ⟨by obtain ⟨cd, hc, _⟩ := PySem.W.any_some eu_InvalidRange; rw [hc]; rfl, eb_InvalidRange, ⟨_, ed_InvalidRange⟩, ex_InvalidRange, ei_InvalidRange, en_X, eo_X, ep_InvalidRange⟩, (show xsub "InvalidRange" "NotExact" = false from by decide +kernel) ▸ kt_InvalidRange_NotExact⟩
      · exact ⟨_, y_InvalidRule, ⟨by obtain ⟨cd, hc, _⟩ := PySem.W.any_some eu_InvalidRule; rw [hc]; rfl, eb_InvalidRule, ⟨_, ed_InvalidRule⟩, ex_InvalidRule, ei_InvalidRule, en_X, eo_X, ep_InvalidRule⟩, (show xsub "InvalidRule" "NotExact" = false from by decide +kernel) ▸ kt_InvalidRule_NotExact⟩
      · exact ⟨_, y_InvalidShift, ⟨by obtain ⟨cd, hc, _⟩ := PySem.W.any_some eu_InvalidShift; rw [hc]; rfl, eb_InvalidShift, ⟨_, ed_InvalidShift⟩, ex_InvalidShift, ei_InvalidShift, en_X, eo_X, ep_InvalidShift⟩, (show xsub "InvalidShift" "NotExact" = false from by decide +kernel) ▸ kt_InvalidShift_NotExact⟩
      · exact ⟨_, y_InvalidText, ⟨by obtain ⟨cd, hc, _⟩ := PySem.W.any_some eu_InvalidText; rw [hc]; rfl, eb_InvalidText, ⟨_, ed_InvalidText⟩, ex_InvalidText, ei_InvalidText, en_X, eo_X, ep_InvalidText⟩, (show xsub "InvalidText" "NotExact" = false from by decide +kernel) ▸ kt_InvalidText_NotExact⟩
      · exact ⟨_, y_InvalidThresholds, ⟨by obtain ⟨cd, hc, _⟩ := PySem.W.any_some eu_InvalidThresholds; rw [hc]; rfl, eb_InvalidThresholds, ⟨_, ed_InvalidThresholds⟩, ex_InvalidThresholds, ei_InvalidThresholds, en_X, eo_X, ep_InvalidThresholds⟩, (show xsub "InvalidThresholds" "NotExact" = false from by decide +kernel) ▸ kt_InvalidThresholds_NotExact⟩
      · exact ⟨_, y_InvalidWidth, ⟨by obtain ⟨cd, hc, _⟩ := PySem.W.any_some eu_InvalidWidth; rw [hc]; rfl, eb_InvalidWidth, ⟨_, ed_InvalidWidth⟩, ex_InvalidWidth, ei_InvalidWidth, en_X, eo_X, ep_InvalidWidth⟩, (show xsub "InvalidWidth" "NotExact" = false from by decide +kernel) ▸ kt_InvalidWidth_NotExact⟩
      · exact ⟨_, y_NoBench, ⟨by obtain ⟨cd, hc, _⟩ := PySem.W.any_some eu_NoBench; rw [hc]; rfl, eb_NoBench, ⟨_, ed_NoBench⟩, ex_NoBench, ei_NoBench, en_X, eo_X, ep_NoBench⟩, (show xsub "NoBench" "NotExact" = false from by decide +kernel) ▸ kt_NoBench_NotExact⟩
      · exact ⟨_, y_NotExact, ⟨by obtain ⟨cd, hc, _⟩ := PySem.W.any_some eu_NotExact; rw [hc]; rfl, eb_NotExact, ⟨_, ed_NotExact⟩, ex_NotExact, ei_NotExact, en_X, eo_X, ep_NotExact⟩, (show xsub "NotExact" "NotExact" = true from by decide +kernel) ▸ kt_NotExact_NotExact⟩
      · exact ⟨_, y_NothingToUndo, ⟨by obtain ⟨cd, hc, _⟩ := PySem.W.any_some eu_NothingToUndo; rw [hc]; rfl, eb_NothingToUndo, ⟨_, ed_NothingToUndo⟩, ex_NothingToUndo, ei_NothingToUndo, en_X, eo_X, ep_NothingToUndo⟩, (show xsub "NothingToUndo" "NotExact" = false from by decide +kernel) ▸ kt_NothingToUndo_NotExact⟩
      · exact ⟨_, y_OutOfRange, ⟨by obtain ⟨cd, hc, _⟩ := PySem.W.any_some eu_OutOfRange; rw [hc]; rfl, eb_OutOfRange, ⟨_, ed_OutOfRange⟩, ex_OutOfRange, ei_OutOfRange, en_X, eo_X, ep_OutOfRange⟩, (show xsub "OutOfRange" "NotExact" = false from by decide +kernel) ▸ kt_OutOfRange_NotExact⟩
      · exact ⟨_, y_UnknownName, ⟨by obtain ⟨cd, hc, _⟩ := PySem.W.any_some eu_UnknownName; rw [hc]; rfl, eb_UnknownName, ⟨_, ed_UnknownName⟩, ex_UnknownName, ei_UnknownName, en_X, eo_X, ep_UnknownName⟩, (show xsub "UnknownName" "NotExact" = false from by decide +kernel) ▸ kt_UnknownName_NotExact⟩
      · exact ⟨_, y_ZeroResult, ⟨by obtain ⟨cd, hc, _⟩ := PySem.W.any_some eu_ZeroResult; rw [hc]; rfl, eb_ZeroResult, ⟨_, ed_ZeroResult⟩, ex_ZeroResult, ei_ZeroResult, en_X, eo_X, ep_ZeroResult⟩, (show xsub "ZeroResult" "NotExact" = false from by decide +kernel) ▸ kt_ZeroResult_NotExact⟩,
    is_NothingToUndo := fun nm hm => by
      simp only [List.mem_cons, List.not_mem_nil, or_false] at hm
      rcases hm with rfl | rfl | rfl | rfl | rfl | rfl | rfl | rfl | rfl | rfl | rfl | rfl | rfl | rfl | rfl | rfl | rfl | rfl | rfl
      · exact ⟨_, y_DifferentWidths, ⟨by obtain ⟨cd, hc, _⟩ := PySem.W.any_some eu_DifferentWidths; rw [hc]; rfl, eb_DifferentWidths, ⟨_, ed_DifferentWidths⟩, ex_DifferentWidths, ei_DifferentWidths, en_X, eo_X, ep_DifferentWidths⟩, (show xsub "DifferentWidths" "NothingToUndo" = false from by decide +kernel) ▸ kt_DifferentWidths_NothingToUndo⟩
      · exact ⟨_, y_InvalidChain, ⟨by obtain ⟨cd, hc, _⟩ := PySem.W.any_some eu_InvalidChain; rw [hc]; rfl, eb_InvalidChain, ⟨_, ed_InvalidChain⟩, ex_InvalidChain, ei_InvalidChain, en_X, eo_X, ep_InvalidChain⟩, (show xsub "InvalidChain" "NothingToUndo" = false from by decide +kernel) ▸ kt_InvalidChain_NothingToUndo⟩
      · exact ⟨_, y_InvalidExponent, ⟨by obtain ⟨cd, hc, _⟩ := PySem.W.any_some eu_InvalidExponent; rw [hc]; rfl, eb_InvalidExponent, ⟨_, ed_InvalidExponent⟩, ex_InvalidExponent, ei_InvalidExponent, en_X, eo_X, ep_InvalidExponent⟩, (show xsub "InvalidExponent" "NothingToUndo" = false from by decide +kernel) ▸ kt_InvalidExponent_NothingToUndo⟩
      · exact ⟨_, y_InvalidKind, ⟨by obtain ⟨cd, hc, _⟩ := PySem.W.any_some eu_InvalidKind; rw [hc]; rfl, eb_InvalidKind, ⟨_, ed_InvalidKind⟩, ex_InvalidKind, ei_InvalidKind, en_X, eo_X, ep_InvalidKind⟩, (show xsub "InvalidKind" "NothingToUndo" = false from by decide +kernel) ▸ kt_InvalidKind_NothingToUndo⟩
      · exact ⟨_, y_InvalidLine, ⟨by obtain ⟨cd, hc, _⟩ := PySem.W.any_some eu_InvalidLine; rw [hc]; rfl, eb_InvalidLine, ⟨_, ed_InvalidLine⟩, ex_InvalidLine, ei_InvalidLine, en_X, eo_X, ep_InvalidLine⟩, (show xsub "InvalidLine" "NothingToUndo" = false from by decide +kernel) ▸ kt_InvalidLine_NothingToUndo⟩
      · exact ⟨_, y_InvalidName, ⟨by obtain ⟨cd, hc, _⟩ := PySem.W.any_some eu_InvalidName; rw [hc]; rfl, eb_InvalidName, ⟨_, ed_InvalidName⟩, ex_InvalidName, ei_InvalidName, en_X, eo_X, ep_InvalidName⟩, (show xsub "InvalidName" "NothingToUndo" = false from by decide +kernel) ▸ kt_InvalidName_NothingToUndo⟩
      · exact ⟨_, y_InvalidNumber, ⟨by obtain ⟨cd, hc, _⟩ := PySem.W.any_some eu_InvalidNumber; rw [hc]; rfl, eb_InvalidNumber, ⟨_, ed_InvalidNumber⟩, ex_InvalidNumber, ei_InvalidNumber, en_X, eo_X, ep_InvalidNumber⟩, (show xsub "InvalidNumber" "NothingToUndo" = false from by decide +kernel) ▸ kt_InvalidNumber_NothingToUndo⟩
      · exact ⟨_, y_InvalidRange, ⟨by obtain ⟨cd, hc, _⟩ := PySem.W.any_some eu_InvalidRange; rw [hc]; rfl, eb_InvalidRange, ⟨_, ed_InvalidRange⟩, ex_InvalidRange, ei_InvalidRange, en_X, eo_X, ep_InvalidRange⟩, (show xsub "InvalidRange" "NothingToUndo" = false from by decide +kernel) ▸ kt_InvalidRange_NothingToUndo⟩
      · exact ⟨_, y_InvalidRule, ⟨by obtain ⟨cd, hc, _⟩ := PySem.W.any_some eu_InvalidRule; rw [hc]; rfl, eb_InvalidRule, ⟨_, ed_InvalidRule⟩, ex_InvalidRule, ei_InvalidRule, en_X, eo_X, ep_InvalidRule⟩, (show xsub "InvalidRule" "NothingToUndo" = false from by decide +kernel) ▸ kt_InvalidRule_NothingToUndo⟩
      · exact ⟨_, y_InvalidShift, ⟨by obtain ⟨cd, hc, _⟩ := PySem.W.any_some eu_InvalidShift; rw [hc]; rfl, eb_InvalidShift, ⟨_, ed_InvalidShift⟩, ex_InvalidShift, ei_InvalidShift, en_X, eo_X, ep_InvalidShift⟩, (show xsub "InvalidShift" "NothingToUndo" = false from by decide +kernel) ▸ kt_InvalidShift_NothingToUndo⟩
      · exact ⟨_, y_InvalidText, ⟨by obtain ⟨cd, hc, _⟩ := PySem.W.any_some eu_InvalidText; rw [hc]; rfl, eb_InvalidText, ⟨_, ed_InvalidText⟩, ex_InvalidText, ei_InvalidText, en_X, eo_X, ep_InvalidText⟩, (show xsub "InvalidText" "NothingToUndo" = false from by decide +kernel) ▸ kt_InvalidText_NothingToUndo⟩
      · exact ⟨_, y_InvalidThresholds, ⟨by obtain ⟨cd, hc, _⟩ := PySem.W.any_some eu_InvalidThresholds; rw [hc]; rfl, eb_InvalidThresholds, ⟨_, ed_InvalidThresholds⟩, ex_InvalidThresholds, ei_InvalidThresholds, en_X, eo_X, ep_InvalidThresholds⟩, (show xsub "InvalidThresholds" "NothingToUndo" = false from by decide +kernel) ▸ kt_InvalidThresholds_NothingToUndo⟩
      · exact ⟨_, y_InvalidWidth, ⟨by obtain ⟨cd, hc, _⟩ := PySem.W.any_some eu_InvalidWidth; rw [hc]; rfl, eb_InvalidWidth, ⟨_, ed_InvalidWidth⟩, ex_InvalidWidth, ei_InvalidWidth, en_X, eo_X, ep_InvalidWidth⟩, (show xsub "InvalidWidth" "NothingToUndo" = false from by decide +kernel) ▸ kt_InvalidWidth_NothingToUndo⟩
      · exact ⟨_, y_NoBench, ⟨by obtain ⟨cd, hc, _⟩ := PySem.W.any_some eu_NoBench; rw [hc]; rfl, eb_NoBench, ⟨_, ed_NoBench⟩, ex_NoBench, ei_NoBench, en_X, eo_X, ep_NoBench⟩, (show xsub "NoBench" "NothingToUndo" = false from by decide +kernel) ▸ kt_NoBench_NothingToUndo⟩
      · exact ⟨_, y_NotExact, ⟨by obtain ⟨cd, hc, _⟩ := PySem.W.any_some eu_NotExact; rw [hc]; rfl, eb_NotExact, ⟨_, ed_NotExact⟩, ex_NotExact, ei_NotExact, en_X, eo_X, ep_NotExact⟩, (show xsub "NotExact" "NothingToUndo" = false from by decide +kernel) ▸ kt_NotExact_NothingToUndo⟩
      · exact ⟨_, y_NothingToUndo, ⟨by obtain ⟨cd, hc, _⟩ := PySem.W.any_some eu_NothingToUndo; rw [hc]; rfl, eb_NothingToUndo, ⟨_, ed_NothingToUndo⟩, ex_NothingToUndo, ei_NothingToUndo, en_X, eo_X, ep_NothingToUndo⟩, (show xsub "NothingToUndo" "NothingToUndo" = true from by decide +kernel) ▸ kt_NothingToUndo_NothingToUndo⟩
      · exact ⟨_, y_OutOfRange, ⟨by obtain ⟨cd, hc, _⟩ := PySem.W.any_some eu_OutOfRange; rw [hc]; rfl, eb_OutOfRange, ⟨_, ed_OutOfRange⟩, ex_OutOfRange, ei_OutOfRange, en_X, eo_X, ep_OutOfRange⟩, (show xsub "OutOfRange" "NothingToUndo" = false from by decide +kernel) ▸ kt_OutOfRange_NothingToUndo⟩
      · exact ⟨_, y_UnknownName, ⟨by obtain ⟨cd, hc, _⟩ := PySem.W.any_some eu_UnknownName; rw [hc]; rfl, eb_UnknownName, ⟨_, ed_UnknownName⟩, ex_UnknownName, ei_UnknownName, en_X, eo_X, ep_UnknownName⟩, (show xsub "UnknownName" "NothingToUndo" = false from by decide +kernel) ▸ kt_UnknownName_NothingToUndo⟩
      · exact ⟨_, y_ZeroResult, ⟨by obtain ⟨cd, hc, _⟩ := PySem.W.any_some eu_ZeroResult; rw [hc]; rfl, eb_ZeroResult, ⟨_, ed_ZeroResult⟩, ex_ZeroResult, ei_ZeroResult, en_X, eo_X, ep_ZeroResult⟩, (show xsub "ZeroResult" "NothingToUndo" = false from by decide +kernel) ▸ kt_ZeroResult_NothingToUndo⟩,
    is_OutOfRange := fun nm hm => by
      simp only [List.mem_cons, List.not_mem_nil, or_false] at hm
      rcases hm with rfl | rfl | rfl | rfl | rfl | rfl | rfl | rfl | rfl | rfl | rfl | rfl | rfl | rfl | rfl | rfl | rfl | rfl | rfl
      · exact ⟨_, y_DifferentWidths, ⟨by obtain ⟨cd, hc, _⟩ := PySem.W.any_some eu_DifferentWidths; rw [hc]; rfl, eb_DifferentWidths, ⟨_, ed_DifferentWidths⟩, ex_DifferentWidths, ei_DifferentWidths, en_X, eo_X, ep_DifferentWidths⟩, (show xsub "DifferentWidths" "OutOfRange" = false from by decide +kernel) ▸ kt_DifferentWidths_OutOfRange⟩
      · exact ⟨_, y_InvalidChain, ⟨by obtain ⟨cd, hc, _⟩ := PySem.W.any_some eu_InvalidChain; rw [hc]; rfl, eb_InvalidChain, ⟨_, ed_InvalidChain⟩, ex_InvalidChain, ei_InvalidChain, en_X, eo_X, ep_InvalidChain⟩, (show xsub "InvalidChain" "OutOfRange" = false from by decide +kernel) ▸ kt_InvalidChain_OutOfRange⟩
      · exact ⟨_, y_InvalidExponent, ⟨by obtain ⟨cd, hc, _⟩ := PySem.W.any_some eu_InvalidExponent; rw [hc]; rfl, eb_InvalidExponent, ⟨_, ed_InvalidExponent⟩, ex_InvalidExponent, ei_InvalidExponent, en_X, eo_X, ep_InvalidExponent⟩, (show xsub "InvalidExponent" "OutOfRange" = false from by decide +kernel) ▸ kt_InvalidExponent_OutOfRange⟩
      · exact ⟨_, y_InvalidKind, ⟨by obtain ⟨cd, hc, _⟩ := PySem.W.any_some eu_InvalidKind; rw [hc]; rfl, eb_InvalidKind, ⟨_, ed_InvalidKind⟩, ex_InvalidKind, ei_InvalidKind, en_X, eo_X, ep_InvalidKind⟩, (show xsub "InvalidKind" "OutOfRange" = false from by decide +kernel) ▸ kt_InvalidKind_OutOfRange⟩
      · exact ⟨_, y_InvalidLine, ⟨by obtain ⟨cd, hc, _⟩ := PySem.W.any_some eu_InvalidLine; rw [hc]; rfl, eb_InvalidLine, ⟨_, ed_InvalidLine⟩, ex_InvalidLine, ei_InvalidLine, en_X, eo_X, ep_InvalidLine⟩, (show xsub "InvalidLine" "OutOfRange" = false from by decide +kernel) ▸ kt_InvalidLine_OutOfRange⟩
      · exact ⟨_, y_InvalidName, ⟨by obtain ⟨cd, hc, _⟩ := PySem.W.any_some eu_InvalidName; rw [hc]; rfl, eb_InvalidName, ⟨_, ed_InvalidName⟩, ex_InvalidName, ei_InvalidName, en_X, eo_X, ep_InvalidName⟩, (show xsub "InvalidName" "OutOfRange" = false from by decide +kernel) ▸ kt_InvalidName_OutOfRange⟩
      · exact ⟨_, y_InvalidNumber, ⟨by obtain ⟨cd, hc, _⟩ := PySem.W.any_some eu_InvalidNumber; rw [hc]; rfl, eb_InvalidNumber, ⟨_, ed_InvalidNumber⟩, ex_InvalidNumber, ei_InvalidNumber, en_X, eo_X, ep_InvalidNumber⟩, (show xsub "InvalidNumber" "OutOfRange" = false from by decide +kernel) ▸ kt_InvalidNumber_OutOfRange⟩
      · exact ⟨_, y_InvalidRange, ⟨by obtain ⟨cd, hc, _⟩ := PySem.W.any_some eu_InvalidRange; rw [hc]; rfl, eb_InvalidRange, ⟨_, ed_InvalidRange⟩, ex_InvalidRange, ei_InvalidRange, en_X, eo_X, ep_InvalidRange⟩, (show xsub "InvalidRange" "OutOfRange" = false from by decide +kernel) ▸ kt_InvalidRange_OutOfRange⟩
      · exact ⟨_, y_InvalidRule, ⟨by obtain ⟨cd, hc, _⟩ := PySem.W.any_some eu_InvalidRule; rw [hc]; rfl, eb_InvalidRule, ⟨_, ed_InvalidRule⟩, ex_InvalidRule, ei_InvalidRule, en_X, eo_X, ep_InvalidRule⟩, (show xsub "InvalidRule" "OutOfRange" = false from by decide +kernel) ▸ kt_InvalidRule_OutOfRange⟩
      · exact ⟨_, y_InvalidShift, ⟨by obtain ⟨cd, hc, _⟩ := PySem.W.any_some eu_InvalidShift; rw [hc]; rfl, eb_InvalidShift, ⟨_, ed_InvalidShift⟩, ex_InvalidShift, ei_InvalidShift, en_X, eo_X, ep_InvalidShift⟩, (show xsub "InvalidShift" "OutOfRange" = false from by decide +kernel) ▸ kt_InvalidShift_OutOfRange⟩
      · exact ⟨_, y_InvalidText, ⟨by obtain ⟨cd, hc, _⟩ := PySem.W.any_some eu_InvalidText; rw [hc]; rfl, eb_InvalidText, ⟨_, ed_InvalidText⟩, ex_InvalidText, ei_InvalidText, en_X, eo_X, ep_InvalidText⟩, (show xsub "InvalidText" "OutOfRange" = false from by decide +kernel) ▸ kt_InvalidText_OutOfRange⟩
      · exact ⟨_, y_InvalidThresholds, ⟨by obtain ⟨cd, hc, _⟩ := PySem.W.any_some eu_InvalidThresholds; rw [hc]; rfl, eb_InvalidThresholds, ⟨_, ed_InvalidThresholds⟩, ex_InvalidThresholds, ei_InvalidThresholds, en_X, eo_X, ep_InvalidThresholds⟩, (show xsub "InvalidThresholds" "OutOfRange" = false from by decide +kernel) ▸ kt_InvalidThresholds_OutOfRange⟩
      · exact ⟨_, y_InvalidWidth, ⟨by obtain ⟨cd, hc, _⟩ := PySem.W.any_some eu_InvalidWidth; rw [hc]; rfl, eb_InvalidWidth, ⟨_, ed_InvalidWidth⟩, ex_InvalidWidth, ei_InvalidWidth, en_X, eo_X, ep_InvalidWidth⟩, (show xsub "InvalidWidth" "OutOfRange" = false from by decide +kernel) ▸ kt_InvalidWidth_OutOfRange⟩
      · exact ⟨_, y_NoBench, ⟨by obtain ⟨cd, hc, _⟩ := PySem.W.any_some eu_NoBench; rw [hc]; rfl, eb_NoBench, ⟨_, ed_NoBench⟩, ex_NoBench, ei_NoBench, en_X, eo_X, ep_NoBench⟩, (show xsub "NoBench" "OutOfRange" = false from by decide +kernel) ▸ kt_NoBench_OutOfRange⟩
      · exact ⟨_, y_NotExact, ⟨by obtain ⟨cd, hc, _⟩ := PySem.W.any_some eu_NotExact; rw [hc]; rfl, eb_NotExact, ⟨_, ed_NotExact⟩, ex_NotExact, ei_NotExact, en_X, eo_X, ep_NotExact⟩, (show xsub "NotExact" "OutOfRange" = false from by decide +kernel) ▸ kt_NotExact_OutOfRange⟩
      · exact ⟨_, y_NothingToUndo, ⟨by obtain ⟨cd, hc, _⟩ := PySem.W.any_some eu_NothingToUndo; rw [hc]; rfl, eb_NothingToUndo, ⟨_, ed_NothingToUndo⟩, ex_NothingToUndo, ei_NothingToUndo, en_X, eo_X, ep_NothingToUndo⟩, (show xsub "NothingToUndo" "OutOfRange" = false from by decide +kernel) ▸ kt_NothingToUndo_OutOfRange⟩
      · exact ⟨_, y_OutOfRange, ⟨by obtain ⟨cd, hc, _⟩ := PySem.W.any_some eu_OutOfRange; rw [hc]; rfl, eb_OutOfRange, ⟨_, ed_OutOfRange⟩, ex_OutOfRange, ei_OutOfRange, en_X, eo_X, ep_OutOfRange⟩, (show xsub "OutOfRange" "OutOfRange" = true from by decide +kernel) ▸ kt_OutOfRange_OutOfRange⟩
      · exact ⟨_, y_UnknownName, ⟨by obtain ⟨cd, hc, _⟩ := PySem.W.any_some eu_UnknownName; rw [hc]; rfl, eb_UnknownName, ⟨_, ed_UnknownName⟩, ex_UnknownName, ei_UnknownName, en_X, eo_X, ep_UnknownName⟩, (show xsub "UnknownName" "OutOfRange" = false from by decide +kernel) ▸ kt_UnknownName_OutOfRange⟩
      · exact ⟨_, y_ZeroResult, ⟨by obtain ⟨cd, hc, _⟩ := PySem.W.any_some eu_ZeroResult; rw [hc]; rfl, eb_ZeroResult, ⟨_, ed_ZeroResult⟩, ex_ZeroResult, ei_ZeroResult, en_X, eo_X, ep_ZeroResult⟩, (show xsub "ZeroResult" "OutOfRange" = false from by decide +kernel) ▸ kt_ZeroResult_OutOfRange⟩,
    is_RoundingError := fun nm hm => by
      simp only [List.mem_cons, List.not_mem_nil, or_false] at hm
      rcases hm with rfl | rfl | rfl | rfl | rfl | rfl | rfl | rfl | rfl | rfl | rfl | rfl | rfl | rfl | rfl | rfl | rfl | rfl | rfl
      · exact ⟨_, y_DifferentWidths, ⟨by obtain ⟨cd, hc, _⟩ := PySem.W.any_some eu_DifferentWidths; rw [hc]; rfl, eb_DifferentWidths, ⟨_, ed_DifferentWidths⟩, ex_DifferentWidths, ei_DifferentWidths, en_X, eo_X, ep_DifferentWidths⟩, (show xsub "DifferentWidths" "RoundingError" = true from by decide +kernel) ▸ kt_DifferentWidths_RoundingError⟩
      · exact ⟨_, y_InvalidChain, ⟨by obtain ⟨cd, hc, _⟩ := PySem.W.any_some eu_InvalidChain; rw [hc]; rfl, eb_InvalidChain, ⟨_, ed_InvalidChain⟩, ex_InvalidChain, ei_InvalidChain, en_X, eo_X, ep_InvalidChain⟩, (show xsub "InvalidChain" "RoundingError" = true from by decide +kernel) ▸ kt_InvalidChain_RoundingError⟩
      · exact ⟨_, y_InvalidExponent, ⟨by obtain ⟨cd, hc, _⟩ := PySem.W.any_some eu_InvalidExponent; rw [hc]; rfl, eb_InvalidExponent, ⟨_, ed_InvalidExponent⟩, ex_InvalidExponent, ei_InvalidExponent, en_X, eo_X, ep_InvalidExponent⟩, (show xsub "InvalidExponent" "RoundingError" = true from by decide +kernel) ▸ kt_InvalidExponent_RoundingError⟩
      · exact ⟨_, y_InvalidKind, ⟨by obtain ⟨cd, hc, _⟩ := PySem.W.any_some eu_InvalidKind; rw [hc]; rfl, eb_InvalidKind, ⟨_, ed_InvalidKind⟩, ex_InvalidKind, ei_InvalidKind, en_X, eo_X, ep_InvalidKind⟩, (show xsub "InvalidKind" "RoundingError" = true from by decide +kernel) ▸ kt_InvalidKind_RoundingError⟩
      · exact ⟨_, y_InvalidLine, ⟨by obtain ⟨cd, hc, _⟩ := PySem.W.any_some eu_InvalidLine; rw [hc]; rfl, eb_InvalidLine, ⟨_, ed_InvalidLine⟩, ex_InvalidLine, ei_InvalidLine, en_X, eo_X, ep_InvalidLine⟩, (show xsub "InvalidLine" "RoundingError" = true from by decide +kernel) ▸ kt_InvalidLine_RoundingError⟩
      · exact ⟨_, y_InvalidName, ⟨by obtain ⟨cd, hc, _⟩ := PySem.W.any_some eu_InvalidName; rw [hc]; rfl, eb_InvalidName, ⟨_, ed_InvalidName⟩, ex_InvalidName, ei_InvalidName, en_X, eo_X, ep_InvalidName⟩, (show xsub "InvalidName" "RoundingError" = true from by decide +kernel) ▸ kt_InvalidName_RoundingError⟩
      · exact ⟨_, y_InvalidNumber, ⟨by obtain ⟨cd, hc, _⟩ := PySem.W.any_some eu_InvalidNumber; rw [hc]; rfl, eb_InvalidNumber, ⟨_, ed_InvalidNumber⟩, ex_InvalidNumber, ei_InvalidNumber, en_X, eo_X, ep_InvalidNumber⟩, (show xsub "InvalidNumber" "RoundingError" = true from by decide +kernel) ▸ kt_InvalidNumber_RoundingError⟩
      · exact ⟨_, y_InvalidRange, ⟨by obtain ⟨cd, hc, _⟩ := PySem.W.any_some eu_InvalidRange; rw [hc]; rfl, eb_InvalidRange, ⟨_, ed_InvalidRange⟩, ex_InvalidRange, ei_InvalidRange, en_X, eo_X, ep_InvalidRange⟩, (show xsub "InvalidRange" "RoundingError" = true from by decide +kernel) ▸ kt_InvalidRange_RoundingError⟩
      · exact ⟨_, y_InvalidRule, ⟨by obtain ⟨cd, hc, _⟩ := PySem.W.any_some eu_InvalidRule; rw [hc]; rfl, eb_InvalidRule, ⟨_, ed_InvalidRule⟩, ex_InvalidRule, ei_InvalidRule, en_X, eo_X, ep_InvalidRule⟩, (show xsub "InvalidRule" "RoundingError" = true from by decide +kernel) ▸ kt_InvalidRule_RoundingError⟩
      · exact ⟨_, y_InvalidShift, ⟨by obtain ⟨cd, hc, _⟩ := PySem.W.any_some eu_InvalidShift; rw [hc]; rfl, eb_InvalidShift, ⟨_, ed_InvalidShift⟩, ex_InvalidShift, ei_InvalidShift, en_X, eo_X, ep_InvalidShift⟩, (show xsub "InvalidShift" "RoundingError" = true from by decide +kernel) ▸ kt_InvalidShift_RoundingError⟩
      · exact ⟨_, y_InvalidText, ⟨by obtain ⟨cd, hc, _⟩ := PySem.W.any_some eu_InvalidText; rw [hc]; rfl, eb_InvalidText, ⟨_, ed_InvalidText⟩, ex_InvalidText, ei_InvalidText, en_X, eo_X, ep_InvalidText⟩, (show xsub "InvalidText" "RoundingError" = true from by decide +kernel) ▸ kt_InvalidText_RoundingError⟩
      · exact ⟨_, y_InvalidThresholds, ⟨by obtain ⟨cd, hc, _⟩ := PySem.W.any_some eu_InvalidThresholds; rw [hc]; rfl, eb_InvalidThresholds, ⟨_, ed_InvalidThresholds⟩, ex_InvalidThresholds, ei_InvalidThresholds, en_X, eo_X, ep_InvalidThresholds⟩, (show xsub "InvalidThresholds" "RoundingError" = true from by decide +kernel) ▸ kt_InvalidThresholds_RoundingError⟩
      · exact ⟨_, y_InvalidWidth, ⟨by obtain ⟨cd, hc, _⟩ := PySem.W.any_some eu_InvalidWidth; rw [hc]; rfl, eb_InvalidWidth, ⟨_, ed_InvalidWidth⟩, ex_InvalidWidth, ei_InvalidWidth, en_X, eo_X, ep_InvalidWidth⟩, (show xsub "InvalidWidth" "RoundingError" = true from by decide +kernel) ▸ kt_InvalidWidth_RoundingError⟩
      · exact ⟨_, y_NoBench, ⟨by obtain ⟨cd, hc, _⟩ := PySem.W.any_some eu_NoBench; rw [hc]; rfl, eb_NoBench, ⟨_, ed_NoBench⟩, ex_NoBench, ei_NoBench, en_X, eo_X, ep_NoBench⟩, (show xsub "NoBench" "RoundingError" = true from by decide +kernel) ▸ kt_NoBench_RoundingError⟩
      · exact ⟨_, y_NotExact, ⟨by obtain ⟨cd, hc, _⟩ := PySem.W.any_some eu_NotExact; rw [hc]; rfl, eb_NotExact, ⟨_, ed_NotExact⟩, ex_NotExact, ei_NotExact, en_X, eo_X, ep_NotExact⟩, (show xsub "NotExact" "RoundingError" = true from by decide +kernel) ▸ kt_NotExact_RoundingError⟩
      · exact ⟨_, y_NothingToUndo, ⟨by obtain ⟨cd, hc, _⟩ := PySem.W.any_some eu_NothingToUndo; rw [hc]; rfl, eb_NothingToUndo, ⟨_, ed_NothingToUndo⟩, ex_NothingToUndo, ei_NothingToUndo, en_X, eo_X, ep_NothingToUndo⟩, (show xsub "NothingToUndo" "RoundingError" = true from by decide +kernel) ▸ kt_NothingToUndo_RoundingError⟩
      · exact ⟨_, y_OutOfRange, ⟨by obtain ⟨cd, hc, _⟩ := PySem.W.any_some eu_OutOfRange; rw [hc]; rfl, eb_OutOfRange, ⟨_, ed_OutOfRange⟩, ex_OutOfRange, ei_OutOfRange, en_X, eo_X, ep_OutOfRange⟩, (show xsub "OutOfRange" "RoundingError" = true from by decide +kernel) ▸ kt_OutOfRange_RoundingError⟩
      · exact ⟨_, y_UnknownName, ⟨by obtain ⟨cd, hc, _⟩ := PySem.W.any_some eu_UnknownName; rw [hc]; rfl, eb_UnknownName, ⟨_, ed_UnknownName⟩, ex_UnknownName, ei_UnknownName, en_X, eo_X, ep_UnknownName⟩, (show xsub "UnknownName" "RoundingError" = true from by decide +kernel) ▸ kt_UnknownName_RoundingError⟩
      · exact ⟨_, y_ZeroResult, ⟨by obtain ⟨cd, hc, _⟩ := PySem.W.any_some eu_ZeroResult; rw [hc]; rfl, eb_ZeroResult, ⟨_, ed_ZeroResult⟩, ex_ZeroResult, ei_ZeroResult, en_X, eo_X, ep_ZeroResult⟩, (show xsub "ZeroResult" "RoundingError" = true from by decide +kernel) ▸ kt_ZeroResult_RoundingError⟩,
    is_UnknownName := fun nm hm => by
      simp only [List.mem_cons, List.not_mem_nil, or_false] at hm
      rcases hm with rfl | rfl | rfl | rfl | rfl | rfl | rfl | rfl | rfl | rfl | rfl | rfl | rfl | rfl | rfl | rfl | rfl | rfl | rfl
      · exact ⟨_, y_DifferentWidths, ⟨by obtain ⟨cd, hc, _⟩ := PySem.W.any_some eu_DifferentWidths; rw [hc]; rfl, eb_DifferentWidths, ⟨_, ed_DifferentWidths⟩, ex_DifferentWidths, ei_DifferentWidths, en_X, eo_X, ep_DifferentWidths⟩, (show xsub "DifferentWidths" "UnknownName" = false from by decide +kernel) ▸ kt_DifferentWidths_UnknownName⟩
      · exact ⟨_, y_InvalidChain, ⟨by obtain ⟨cd, hc, _⟩ := PySem.W.any_some eu_InvalidChain; rw [hc]; rfl, eb_InvalidChain, ⟨_, ed_InvalidChain⟩, ex_InvalidChain, ei_InvalidChain, en_X, eo_X, ep_InvalidChain⟩, (show xsub "InvalidChain" "UnknownName" = false from by decide +kernel) ▸ kt_InvalidChain_UnknownName⟩
      · exact ⟨_, y_InvalidExponent, ⟨by obtain ⟨cd, hc, _⟩ := PySem.W.any_some eu_InvalidExponent; rw [hc]; rfl, eb_InvalidExponent, ⟨_, ed_InvalidExponent⟩, ex_InvalidExponent, ei_InvalidExponent, en_X, eo_X, ep_InvalidExponent⟩, (show xsub "InvalidExponent" "UnknownName" = false from by decide +kernel) ▸ kt_InvalidExponent_UnknownName⟩
      · exact ⟨_, y_InvalidKind, ⟨by obtain ⟨cd, hc, _⟩ := PySem.W.any_some eu_InvalidKind; rw [hc]; rfl, eb_InvalidKind, ⟨_, ed_InvalidKind⟩, ex_InvalidKind, ei_InvalidKind, en_X, eo_X, ep_InvalidKind⟩, (show xsub "InvalidKind" "UnknownName" = false from by decide +kernel) ▸ kt_InvalidKind_UnknownName⟩
      · exact ⟨_, y_InvalidLine, ⟨by obtain ⟨cd, hc, _⟩ := PySem.W.any_some eu_InvalidLine; rw [hc]; rfl, eb_InvalidLine, ⟨_, ed_InvalidLine⟩, ex_InvalidLine, ei_InvalidLine, en_X, eo_X, ep_InvalidLine⟩, (show xsub "InvalidLine" "UnknownName" = false from by decide +kernel) ▸ kt_InvalidLine_UnknownName⟩
      · exact ⟨_, y_InvalidName, ⟨by obtain ⟨cd, hc, _⟩ := PySem.W.any_some eu_InvalidName; rw [hc]; rfl, eb_InvalidName, ⟨_, ed_InvalidName⟩, ex_InvalidName, ei_InvalidName, en_X, eo_X, ep_InvalidName⟩, (show xsub "InvalidName" "UnknownName" = false from by decide +kernel) ▸ kt_InvalidName_UnknownName⟩
      · exact ⟨_, y_InvalidNumber, ⟨by obtain ⟨cd, hc, _⟩ := PySem.W.any_some eu_InvalidNumber; rw [hc]; rfl, eb_InvalidNumber, ⟨_, ed_InvalidNumber⟩, ex_InvalidNumber, ei_InvalidNumber, en_X, eo_X, ep_InvalidNumber⟩, (show xsub "InvalidNumber" "UnknownName" = false from by decide +kernel) ▸ kt_InvalidNumber_UnknownName⟩
      · exact ⟨_, y_InvalidRange, ⟨by obtain ⟨cd, hc, _⟩ := PySem.W.any_some eu_InvalidRange; rw [hc]; rfl, eb_InvalidRange, ⟨_, ed_InvalidRange⟩, ex_InvalidRange, ei_InvalidRange, en_X, eo_X, ep_InvalidRange⟩, (show xsub "InvalidRange" "UnknownName" = false from by decide +kernel) ▸ kt_InvalidRange_UnknownName⟩
      · exact ⟨_, y_InvalidRule, ⟨by obtain ⟨cd, hc, _⟩ := PySem.W.any_some eu_InvalidRule; rw [hc]; rfl, eb_InvalidRule, ⟨_, ed_InvalidRule⟩, ex_InvalidRule, ei_InvalidRule, en_X, eo_X, ep_InvalidRule⟩, (show xsub "InvalidRule" "UnknownName" = false from by decide +kernel) ▸ kt_InvalidRule_UnknownName⟩
      · exact ⟨_, y_InvalidShift, ⟨by obtain ⟨cd, hc, _⟩ := PySem.W.any_some eu_InvalidShift; rw [hc]; rfl, eb_InvalidShift, ⟨_, ed_InvalidShift⟩, ex_InvalidShift, ei_InvalidShift, en_X, eo_X, ep_InvalidShift⟩, (show xsub "InvalidShift" "UnknownName" = false from by decide +kernel) ▸ kt_InvalidShift_UnknownName⟩
      · exact ⟨_, y_InvalidText, ⟨by obtain ⟨cd, hc, _⟩ := PySem.W.any_some eu_InvalidText; rw [hc]; rfl, eb_InvalidText, ⟨_, ed_InvalidText⟩, ex_InvalidText, ei_InvalidText, en_X, eo_X, ep_InvalidText⟩, (show xsub "InvalidText" "UnknownName" = false from by decide +kernel) ▸ kt_InvalidText_UnknownName⟩
      · exact ⟨_, y_InvalidThresholds, ⟨by obtain ⟨cd, hc, _⟩ := PySem.W.any_some eu_InvalidThresholds; rw [hc]; rfl, eb_InvalidThresholds, ⟨_, ed_InvalidThresholds⟩, ex_InvalidThresholds, ei_InvalidThresholds, en_X, eo_X, ep_InvalidThresholds⟩, (show xsub "InvalidThresholds" "UnknownName" = false from by decide +kernel) ▸ kt_InvalidThresholds_UnknownName⟩
      · exact ⟨_, y_InvalidWidth, ⟨by obtain ⟨cd, hc, _⟩ := PySem.W.any_some eu_InvalidWidth; rw [hc]; rfl, eb_InvalidWidth, ⟨_, ed_InvalidWidth⟩, ex_InvalidWidth, ei_InvalidWidth, en_X, eo_X, ep_InvalidWidth⟩, (show xsub "InvalidWidth" "UnknownName" = false from by decide +kernel) ▸ kt_InvalidWidth_UnknownName⟩
      · exact ⟨_, y_NoBench, ⟨by obtain ⟨cd, hc, _⟩ := PySem.W.any_some eu_NoBench; rw [hc]; rfl, eb_NoBench, ⟨_, ed_NoBench⟩, ex_NoBench, ei_NoBench, en_X, eo_X, ep_NoBench⟩, (show xsub "NoBench" "UnknownName" = false from by decide +kernel) ▸ kt_NoBench_UnknownName⟩
      · exact ⟨_, y_NotExact, ⟨by obtain ⟨cd, hc, _⟩ := PySem.W.any_some eu_NotExact; rw [hc]; rfl, eb_NotExact, ⟨_, ed_NotExact⟩, ex_NotExact, ei_NotExact, en_X, eo_X, ep_NotExact⟩, (show xsub "NotExact" "UnknownName" = false from by decide +kernel) ▸ kt_NotExact_UnknownName⟩
      · exact ⟨_, y_NothingToUndo, ⟨by obtain ⟨cd, hc, _⟩ := PySem.W.any_some eu_NothingToUndo; rw [hc]; rfl, eb_NothingToUndo, ⟨_, ed_NothingToUndo⟩, ex_NothingToUndo, ei_NothingToUndo, en_X, eo_X, ep_NothingToUndo⟩, (show xsub "NothingToUndo" "UnknownName" = false from by decide +kernel) ▸ kt_NothingToUndo_UnknownName⟩
      · exact ⟨_, y_OutOfRange, ⟨by obtain ⟨cd, hc, _⟩ := PySem.W.any_some eu_OutOfRange; rw [hc]; rfl, eb_OutOfRange, ⟨_, ed_OutOfRange⟩, ex_OutOfRange, ei_OutOfRange, en_X, eo_X, ep_OutOfRange⟩, (show xsub "OutOfRange" "UnknownName" = false from by decide +kernel) ▸ kt_OutOfRange_UnknownName⟩
      · exact ⟨_, y_UnknownName, ⟨by obtain ⟨cd, hc, _⟩ := PySem.W.any_some eu_UnknownName; rw [hc]; rfl, eb_UnknownName, ⟨_, ed_UnknownName⟩, ex_UnknownName, ei_UnknownName, en_X, eo_X, ep_UnknownName⟩, (show xsub "UnknownName" "UnknownName" = true from by decide +kernel) ▸ kt_UnknownName_UnknownName⟩
      · exact ⟨_, y_ZeroResult, ⟨by obtain ⟨cd, hc, _⟩ := PySem.W.any_some eu_ZeroResult; rw [hc]; rfl, eb_ZeroResult, ⟨_, ed_ZeroResult⟩, ex_ZeroResult, ei_ZeroResult, en_X, eo_X, ep_ZeroResult⟩, (show xsub "ZeroResult" "UnknownName" = false from by decide +kernel) ▸ kt_ZeroResult_UnknownName⟩,
    is_ValueError := fun nm hm => by
      simp only [List.mem_cons, List.not_mem_nil, or_false] at hm
      rcases hm with rfl | rfl | rfl | rfl | rfl | rfl | rfl | rfl | rfl | rfl | rfl | rfl | rfl | rfl | rfl | rfl | rfl | rfl | rfl
      · exact ⟨_, y_DifferentWidths, ⟨by obtain ⟨cd, hc, _⟩ := PySem.W.any_some eu_DifferentWidths; rw [hc]; rfl, eb_DifferentWidths, ⟨_, ed_DifferentWidths⟩, ex_DifferentWidths, ei_DifferentWidths, en_X, eo_X, ep_DifferentWidths⟩, (show xsub "DifferentWidths" "ValueError" = true from by decide +kernel) ▸ kt_DifferentWidths_ValueError⟩
      · exact ⟨_, y_InvalidChain, ⟨by obtain ⟨cd, hc, _⟩ := PySem.W.any_some eu_InvalidChain; rw [hc]; rfl, eb_InvalidChain, ⟨_, ed_InvalidChain⟩, ex_InvalidChain, ei_InvalidChain, en_X, eo_X, ep_InvalidChain⟩, (show xsub "InvalidChain" "ValueError" = true from by decide +kernel) ▸ kt_InvalidChain_ValueError⟩
      · exact ⟨_, y_InvalidExponent, ⟨by obtain ⟨cd, hc, _⟩ := PySem.W.any_some eu_InvalidExponent; rw [hc]; rfl, eb_InvalidExponent, ⟨_, ed_InvalidExponent⟩, ex_InvalidExponent, ei_InvalidExponent, en_X, eo_X, ep_InvalidExponent⟩, (show xsub "InvalidExponent" "ValueError" = true from by decide +kernel) ▸ kt_InvalidExponent_ValueError⟩
      · exact ⟨_, y_InvalidKind, ⟨by obtain ⟨cd, hc, _⟩ := PySem.W.any_some eu_InvalidKind; rw [hc]; rfl, eb_InvalidKind, ⟨_, ed_InvalidKind⟩, ex_InvalidKind, ei_InvalidKind, en_X, eo_X, ep_InvalidKind⟩, (show xsub "InvalidKind" "ValueError" = true from by decide +kernel) ▸ kt_InvalidKind_ValueError⟩
      · exact ⟨_, y_InvalidLine, ⟨by obtain ⟨cd, hc, _⟩ := PySem.W.any_some eu_InvalidLine; rw [hc]; rfl, eb_InvalidLine, ⟨_, ed_InvalidLine⟩, ex_InvalidLine, ei_InvalidLine, en_X, eo_X, ep_InvalidLine⟩, (show xsub "InvalidLine" "ValueError" = true from by decide +kernel) ▸ kt_InvalidLine_ValueError⟩
      · exact ⟨_, y_InvalidName, ⟨by obtain ⟨cd, hc, _⟩ := PySem.W.any_some eu_InvalidName; rw [hc]; rfl, eb_InvalidName, ⟨_, ed_InvalidName⟩, ex_InvalidName, ei_InvalidName, en_X, eo_X, ep_InvalidName⟩, (show xsub "InvalidName" "ValueError" = true from by decide +kernel) ▸ kt_InvalidName_ValueError⟩
      · exact ⟨_, y_InvalidNumber, ⟨by obtain ⟨cd, hc, _⟩ := PySem.W.any_some eu_InvalidNumber; rw [hc]; rfl, eb_InvalidNumber, ⟨_, ed_InvalidNumber⟩, ex_InvalidNumber, ei_InvalidNumber, en_X, eo_X, ep_InvalidNumber⟩, (show xsub "InvalidNumber" "ValueError" = true from by decide +kernel) ▸ kt_InvalidNumber_ValueError⟩
      · exact ⟨_, y_InvalidRange, ⟨by obtain ⟨cd, hc, _⟩ := PySem.W.any_some eu_InvalidRange; rw [hc]; rfl, eb_InvalidRange, ⟨_, ed_InvalidRange⟩, ex_InvalidRange, ei_InvalidRange, en_X, eo_X, ep_InvalidRange⟩, (show xsub "InvalidRange" "ValueError" = true from by decide +kernel) ▸ kt_InvalidRange_ValueError⟩
      · exact ⟨_, y_InvalidRule, ⟨by obtain ⟨cd, hc, _⟩ := PySem.W.any_some eu_InvalidRule; rw [hc]; rfl, eb_InvalidRule, ⟨_, ed_InvalidRule⟩, ex_InvalidRule, ei_InvalidRule, en_X, eo_X, ep_InvalidRule⟩, (show xsub "InvalidRule" "ValueError" = true from by decide +kernel) ▸ kt_InvalidRule_ValueError⟩
      · exact ⟨_, y_InvalidShift, ⟨by obtain ⟨cd, hc, _⟩ := PySem.W.any_some eu_InvalidShift; rw [hc]; rfl, eb_InvalidShift, ⟨_, ed_InvalidShift⟩, ex_InvalidShift, ei_InvalidShift, en_X, eo_X, ep_InvalidShift⟩, (show xsub "InvalidShift" "ValueError" = true from by decide +kernel) ▸ kt_InvalidShift_ValueError⟩
      · exact ⟨_, y_InvalidText, ⟨by obtain ⟨cd, hc, _⟩ := PySem.W.any_some eu_InvalidText; rw [hc]; rfl, eb_InvalidText, ⟨_, ed_InvalidText⟩, ex_InvalidText, ei_InvalidText, en_X, eo_X, ep_InvalidText⟩, (show xsub "InvalidText" "ValueError" = true from by decide +kernel) ▸ kt_InvalidText_ValueError⟩
      · exact ⟨_, y_InvalidThresholds, ⟨by obtain ⟨cd, hc, _⟩ := PySem.W.any_some eu_InvalidThresholds; rw [hc]; rfl, eb_InvalidThresholds, ⟨_, ed_InvalidThresholds⟩, ex_InvalidThresholds, ei_InvalidThresholds, en_X, eo_X, ep_InvalidThresholds⟩, (show xsub "InvalidThresholds" "ValueError" = true from by decide +kernel) ▸ kt_InvalidThresholds_ValueError⟩
      · exact ⟨_, y_InvalidWidth, ⟨by obtain ⟨cd, hc, _⟩ := PySem.W.any_some eu_InvalidWidth; rw [hc]; rfl, eb_InvalidWidth, ⟨_, ed_InvalidWidth⟩, ex_InvalidWidth, ei_InvalidWidth, en_X, eo_X, ep_InvalidWidth⟩, (show xsub "InvalidWidth" "ValueError" = true from by decide +kernel) ▸ kt_InvalidWidth_ValueError⟩
      · exact ⟨_, y_NoBench, ⟨by obtain ⟨cd, hc, _⟩ := PySem.W.any_some eu_NoBench; rw [hc]; rfl, eb_NoBench, ⟨_, ed_NoBench⟩, ex_NoBench, ei_NoBench, en_X, eo_X, ep_NoBench⟩, (show xsub "NoBench" "ValueError" = true from by decide +kernel) ▸ kt_NoBench_ValueError⟩
      · exact ⟨_, y_NotExact, ⟨by obtain ⟨cd, hc, _⟩ := PySem.W.any_some eu_NotExact; rw [hc]; rfl, eb_NotExact, ⟨_, ed_NotExact⟩, ex_NotExact, ei_NotExact, en_X, eo_X, ep_NotExact⟩, (show xsub "NotExact" "ValueError" = true from by decide +kernel) ▸ kt_NotExact_ValueError⟩
      · exact ⟨_, y_NothingToUndo, ⟨by obtain ⟨cd, hc, _⟩ := PySem.W.any_some eu_NothingToUndo; rw [hc]; rfl, eb_NothingToUndo, ⟨_, ed_NothingToUndo⟩, ex_NothingToUndo, ei_NothingToUndo, en_X, eo_X, ep_NothingToUndo⟩, (show xsub "NothingToUndo" "ValueError" = true from by decide +kernel) ▸ kt_NothingToUndo_ValueError⟩
      · exact ⟨_, y_OutOfRange, ⟨by obtain ⟨cd, hc, _⟩ := PySem.W.any_some eu_OutOfRange; rw [hc]; rfl, eb_OutOfRange, ⟨_, ed_OutOfRange⟩, ex_OutOfRange, ei_OutOfRange, en_X, eo_X, ep_OutOfRange⟩, (show xsub "OutOfRange" "ValueError" = true from by decide +kernel) ▸ kt_OutOfRange_ValueError⟩
      · exact ⟨_, y_UnknownName, ⟨by obtain ⟨cd, hc, _⟩ := PySem.W.any_some eu_UnknownName; rw [hc]; rfl, eb_UnknownName, ⟨_, ed_UnknownName⟩, ex_UnknownName, ei_UnknownName, en_X, eo_X, ep_UnknownName⟩, (show xsub "UnknownName" "ValueError" = true from by decide +kernel) ▸ kt_UnknownName_ValueError⟩
      · exact ⟨_, y_ZeroResult, ⟨by obtain ⟨cd, hc, _⟩ := PySem.W.any_some eu_ZeroResult; rw [hc]; rfl, eb_ZeroResult, ⟨_, ed_ZeroResult⟩, ex_ZeroResult, ei_ZeroResult, en_X, eo_X, ep_ZeroResult⟩, (show xsub "ZeroResult" "ValueError" = true from by decide +kernel) ▸ kt_ZeroResult_ValueError⟩,
    is_ZeroResult := fun nm hm => by
      simp only [List.mem_cons, List.not_mem_nil, or_false] at hm
      rcases hm with rfl | rfl | rfl | rfl | rfl | rfl | rfl | rfl | rfl | rfl | rfl | rfl | rfl | rfl | rfl | rfl | rfl | rfl | rfl
      · exact ⟨_, y_DifferentWidths, ⟨by obtain ⟨cd, hc, _⟩ := PySem.W.any_some eu_DifferentWidths; rw [hc]; rfl, eb_DifferentWidths, ⟨_, ed_DifferentWidths⟩, ex_DifferentWidths, ei_DifferentWidths, en_X, eo_X, ep_DifferentWidths⟩, (show xsub "DifferentWidths" "ZeroResult" = false from by decide +kernel) ▸ kt_DifferentWidths_ZeroResult⟩
      · exact ⟨_, y_InvalidChain, ⟨by obtain ⟨cd, hc, _⟩ := PySem.W.any_some eu_InvalidChain; rw [hc]; rfl, eb_InvalidChain, ⟨_, ed_InvalidChain⟩, ex_InvalidChain, ei_InvalidChain, en_X, eo_X, ep_InvalidChain⟩, (show xsub "InvalidChain" "ZeroResult" = false from by decide +kernel) ▸ kt_InvalidChain_ZeroResult⟩
      · exact ⟨_, y_InvalidExponent, ⟨by obtain ⟨cd, hc, _⟩ := PySem.W.any_some eu_InvalidExponent; rw [hc]; rfl, eb_InvalidExponent, ⟨_, ed_InvalidExponent⟩, ex_InvalidExponent, ei_InvalidExponent, en_X, eo_X, ep_InvalidExponent⟩, (show xsub "InvalidExponent" "ZeroResult" = false from by decide +kernel) ▸ kt_InvalidExponent_ZeroResult⟩
      · exact ⟨_, y_InvalidKind, ⟨by obtain ⟨cd, hc, _⟩ := PySem.W.any_some eu_InvalidKind; rw [hc]; rfl, eb_InvalidKind, ⟨_, ed_InvalidKind⟩, ex_InvalidKind, ei_InvalidKind, en_X, eo_X, ep_InvalidKind⟩, (show xsub "InvalidKind" "ZeroResult" = false from by decide +kernel) ▸ kt_InvalidKind_ZeroResult⟩
      · exact ⟨_, y_InvalidLine, ⟨by obtain ⟨cd, hc, _⟩ := PySem.W.any_some eu_InvalidLine; rw [hc]; rfl, eb_InvalidLine, ⟨_, ed_InvalidLine⟩, ex_InvalidLine, ei_InvalidLine, en_X, eo_X, ep_InvalidLine⟩, (show xsub "InvalidLine" "ZeroResult" = false from by decide +kernel) ▸ kt_InvalidLine_ZeroResult⟩
      · exact ⟨_, y_InvalidName, ⟨by obtain ⟨cd, hc, _⟩ := PySem.W.any_some eu_InvalidName; rw [hc]; rfl, eb_InvalidName, ⟨_, ed_InvalidName⟩, ex_InvalidName, ei_InvalidName, en_X, eo_X, ep_InvalidName⟩, (show xsub "InvalidName" "ZeroResult" = false from by decide +kernel) ▸ kt_InvalidName_ZeroResult⟩
      · exact ⟨_, y_InvalidNumber, ⟨by obtain ⟨cd, hc, _⟩ := PySem.W.any_some eu_InvalidNumber; rw [hc]; rfl, eb_InvalidNumber, ⟨_, ed_InvalidNumber⟩, ex_InvalidNumber, ei_InvalidNumber, en_X, eo_X, ep_InvalidNumber⟩, (show xsub "InvalidNumber" "ZeroResult" = false from by decide +kernel) ▸ kt_InvalidNumber_ZeroResult⟩
      · exact ⟨_, y_InvalidRange, ⟨by obtain ⟨cd, hc, _⟩ := PySem.W.any_some eu_InvalidRange; rw [hc]; rfl, eb_InvalidRange, ⟨_, ed_InvalidRange⟩, ex_InvalidRange, ei_InvalidRange, en_X, eo_X, ep_InvalidRange⟩, (show xsub "InvalidRange" "ZeroResult" = false from by decide +kernel) ▸ kt_InvalidRange_ZeroResult⟩
      · exact ⟨_, y_InvalidRule, ⟨by obtain ⟨cd, hc, _⟩ := PySem.W.any_some eu_InvalidRule; rw [hc]; rfl, eb_InvalidRule, ⟨_, ed_InvalidRule⟩, ex_InvalidRule, ei_InvalidRule, en_X, eo_X, ep_InvalidRule⟩, (show xsub "InvalidRule" "ZeroResult" = false from by decide +kernel) ▸ kt_InvalidRule_ZeroResult⟩
      · exact ⟨_, y_InvalidShift, ⟨by obtain ⟨cd, hc, _⟩ := PySem.W.any_some eu_InvalidShift; rw [hc]; rfl, eb_InvalidShift, ⟨_, ed_InvalidShift⟩, ex_InvalidShift, ei_InvalidShift, en_X, eo_X, ep_InvalidShift⟩, (show xsub "InvalidShift" "ZeroResult" = false from by decide +kernel) ▸ kt_InvalidShift_ZeroResult⟩
      · exact ⟨_, y_InvalidText, ⟨by obtain ⟨cd, hc, _⟩ := PySem.W.any_some eu_InvalidText; rw [hc]; rfl, eb_InvalidText, ⟨_, ed_InvalidText⟩, ex_InvalidText, ei_InvalidText, en_X, eo_X, ep_InvalidText⟩, (show xsub "InvalidText" "ZeroResult" = false from by decide +kernel) ▸ kt_InvalidText_ZeroResult⟩
      · exact ⟨_, y_InvalidThresholds, ⟨by obtain ⟨cd, hc, _⟩ := PySem.W.any_some eu_InvalidThresholds; rw [hc]; rfl, eb_InvalidThresholds, ⟨_, ed_InvalidThresholds⟩, ex_InvalidThresholds, ei_InvalidThresholds, en_X, eo_X, ep_InvalidThresholds⟩, (show xsub "InvalidThresholds" "ZeroResult" = false from by decide +kernel) ▸ kt_InvalidThresholds_ZeroResult⟩
      · exact ⟨_, y_InvalidWidth, ⟨by obtain ⟨cd, hc, _⟩ := PySem.W.any_some eu_InvalidWidth; rw [hc]; rfl, eb_InvalidWidth, ⟨_, ed_InvalidWidth⟩, ex_InvalidWidth, ei_InvalidWidth, en_X, eo_X, ep_InvalidWidth⟩, (show xsub "InvalidWidth" "ZeroResult" = false from by decide +kernel) ▸ kt_InvalidWidth_ZeroResult⟩
      · exact ⟨_, y_NoBench, ⟨by obtain ⟨cd, hc, _⟩ := PySem.W.any_some eu_NoBench; rw [hc]; rfl, eb_NoBench, ⟨_, ed_NoBench⟩, ex_NoBench, ei_NoBench, en_X, eo_X, ep_NoBench⟩, (show xsub "NoBench" "ZeroResult" = false from by decide +kernel) ▸ kt_NoBench_ZeroResult⟩
      · exact ⟨_, y_NotExact, ⟨by obtain ⟨cd, hc, _⟩ := PySem.W.any_some eu_NotExact; rw [hc]; rfl, eb_NotExact, ⟨_, ed_NotExact⟩, ex_NotExact, ei_NotExact, en_X, eo_X, ep_NotExact⟩, (show xsub "NotExact" "ZeroResult" = false from by decide +kernel) ▸ kt_NotExact_ZeroResult⟩
      · exact ⟨_, y_NothingToUndo, ⟨by obtain ⟨cd, hc, _⟩ := PySem.W.any_some eu_NothingToUndo; rw [hc]; rfl, eb_NothingToUndo, ⟨_, ed_NothingToUndo⟩, ex_NothingToUndo, ei_NothingToUndo, en_X, eo_X, ep_NothingToUndo⟩, (show xsub "NothingToUndo" "ZeroResult" = false from by decide +kernel) ▸ kt_NothingToUndo_ZeroResult⟩
      · exact ⟨_, y_OutOfRange, ⟨by obtain ⟨cd, hc, _⟩ := PySem.W.any_some eu_OutOfRange; rw [hc]; rfl, eb_OutOfRange, ⟨_, ed_OutOfRange⟩, ex_OutOfRange, ei_OutOfRange, en_X, eo_X, ep_OutOfRange⟩, (show xsub "OutOfRange" "ZeroResult" = false from by decide +kernel) ▸ kt_OutOfRange_ZeroResult⟩
      · exact ⟨_, y_UnknownName, ⟨by obtain ⟨cd, hc, _⟩ := PySem.W.any_some eu_UnknownName; rw [hc]; rfl, eb_UnknownName, ⟨_, ed_UnknownName⟩, ex_UnknownName, ei_UnknownName, en_X, eo_X, ep_UnknownName⟩, (show xsub "UnknownName" "ZeroResult" = false from by decide +kernel) ▸ kt_UnknownName_ZeroResult⟩
      · exact ⟨_, y_ZeroResult, ⟨by obtain ⟨cd, hc, _⟩ := PySem.W.any_some eu_ZeroResult; rw [hc]; rfl, eb_ZeroResult, ⟨_, ed_ZeroResult⟩, ex_ZeroResult, ei_ZeroResult, en_X, eo_X, ep_ZeroResult⟩, (show xsub "ZeroResult" "ZeroResult" = true from by decide +kernel) ▸ kt_ZeroResult_ZeroResult⟩,
    n_ValueError := PySem.W.mg_none_of X G z_ValueError,
    n_abs := PySem.W.mg_none_of X G z_abs,
    n_all := PySem.W.mg_none_of X G z_all,
    n_enumerate := PySem.W.mg_none_of X G z_enumerate,
    n_isinstance := PySem.W.mg_none_of X G z_isinstance,
    n_len := PySem.W.mg_none_of X G z_len,
    n_max := PySem.W.mg_none_of X G z_max,
    n_min := PySem.W.mg_none_of X G z_min,
    n_range := PySem.W.mg_none_of X G z_range,
    n_repr := PySem.W.mg_none_of X G z_repr }
theorem all_mk {l : PySem.W.OpenLaw} {w : World} {K : Fg} {h : Heap} {mg : Str → Option Value} {fa : Addr} (X : K.In h) (G : h.Ns mainGlobals mg) (hfa : mg "law" = some (.ref fa)) {C_RoundingError : Addr} {C_DifferentWidths : Addr} {nm_DifferentWidths q_DifferentWidths : Str} {N_DifferentWidths : Addr} {bs_DifferentWidths bm_DifferentWidths : List Value} {sn_DifferentWidths : List Str} {sub_DifferentWidths : List Value} {ab_DifferentWidths : Bool} {col_DifferentWidths : Option Bool} {dd_DifferentWidths : Option Addr} {k0_DifferentWidths k1_DifferentWidths k2_DifferentWidths k3_DifferentWidths k5_DifferentWidths : Option Value} {C_InvalidChain : Addr} {nm_InvalidChain q_InvalidChain : Str} {N_InvalidChain : Addr} {bs_InvalidChain bm_InvalidChain : List Value} {sn_InvalidChain : List Str} {sub_InvalidChain : List Value} {ab_InvalidChain : Bool} {col_InvalidChain : Option Bool} {dd_InvalidChain : Option Addr} {k0_InvalidChain k1_InvalidChain k2_InvalidChain k3_InvalidChain k5_InvalidChain : Option Value} {C_InvalidExponent : Addr} {nm_InvalidExponent q_InvalidExponent : Str} {N_InvalidExponent : Addr} {bs_InvalidExponent bm_InvalidExponent : List Value} {sn_InvalidExponent : List Str} {sub_InvalidExponent : List Value} {ab_InvalidExponent : Bool} {col_InvalidExponent : Option Bool} {dd_InvalidExponent : Option Addr} {k0_InvalidExponent k1_InvalidExponent k2_InvalidExponent k3_InvalidExponent k5_InvalidExponent : Option Value} {C_InvalidKind : Addr} {nm_InvalidKind q_InvalidKind : Str} {N_InvalidKind : Addr} {bs_InvalidKind bm_InvalidKind : List Value} {sn_InvalidKind : List Str} {sub_InvalidKind : List Value} {ab_InvalidKind : Bool} {col_InvalidKind : Option Bool} {dd_InvalidKind : Option Addr} {k0_InvalidKind k1_InvalidKind k2_InvalidKind k3_InvalidKind k5_InvalidKind : Option Value} {C_InvalidLine : Addr} {nm_InvalidLine q_InvalidLine : Str} {N_InvalidLine : Addr} {bs_InvalidLine bm_InvalidLine : List Value} {sn_InvalidLine : List Str} {sub_InvalidLine : List Value} {ab_InvalidLine : Bool} {col_InvalidLine : Option Bool} {dd_InvalidLine : Option Addr} {k0_InvalidLine k1_InvalidLine k2_InvalidLine k3_InvalidLine k5_InvalidLine : Option Value} {C_InvalidName : Addr} {nm_InvalidName q_InvalidName : Str} {N_InvalidName : Addr} {bs_InvalidName bm_InvalidName : List Value} {sn_InvalidName : List Str} {sub_InvalidName : List Value} {ab_InvalidName : Bool} {col_InvalidName : Option Bool} {dd_InvalidName : Option Addr} {k0_InvalidName k1_InvalidName k2_InvalidName k3_InvalidName k5_InvalidName : Option Value} {C_InvalidNumber : Addr} {nm_InvalidNumber q_InvalidNumber : Str} {N_InvalidNumber : Addr} {bs_InvalidNumber bm_InvalidNumber : List Value} {sn_InvalidNumber : List Str} {sub_InvalidNumber : List Value} {ab_InvalidNumber : Bool} {col_InvalidNumber : Option Bool} {dd_InvalidNumber : Option Addr} {k0_InvalidNumber k1_InvalidNumber k2_InvalidNumber k3_InvalidNumber k5_InvalidNumber : Option Value} {C_InvalidRange : Addr} {nm_InvalidRange q_InvalidRange : Str} {N_InvalidRange : Addr} {bs_InvalidRange bm_InvalidRange : List Value} {sn_InvalidRange : List Str} {sub_InvalidRange : List Value} {ab_InvalidRange : Bool} {col_InvalidRange : Option Bool} {dd_InvalidRange : Option Addr} {k0_InvalidRange k1_InvalidRange k2_InvalidRange k3_InvalidRange k5_InvalidRange : Option Value} {C_InvalidRule : Addr} {nm_InvalidRule q_InvalidRule : Str} {N_InvalidRule : Addr} {bs_InvalidRule bm_InvalidRule : List Value} {sn_InvalidRule : List Str} {sub_InvalidRule : List Value} {ab_InvalidRule : Bool} {col_InvalidRule : Option Bool} {dd_InvalidRule : Option Addr} {k0_InvalidRule k1_InvalidRule k2_InvalidRule k3_InvalidRule k5_InvalidRule : Option Value} {C_InvalidShift : Addr} {nm_InvalidShift q_InvalidShift : Str} {N_InvalidShift : Addr} {bs_InvalidShift bm_InvalidShift : List Value} {sn_InvalidShift : List Str} {sub_InvalidShift : List Value} {ab_InvalidShift : Bool} {col_InvalidShift : Option Bool} {dd_InvalidShift : Option Addr} {k0_InvalidShift k1_InvalidShift k2_InvalidShift k3_InvalidShift k5_InvalidShift : Option Value} {C_InvalidText : Addr} {nm_InvalidText q_InvalidText : Str} {N_InvalidText : Addr} {bs_InvalidText bm_InvalidText : List Value} {sn_InvalidText : List Str} {sub_InvalidText : List Value} {ab_InvalidText : Bool} {col_InvalidText : Option Bool} {dd_InvalidText : Option Addr} {k0_InvalidText k1_InvalidText k2_InvalidText k3_InvalidText k5_InvalidText : Option Value} {C_InvalidThresholds : Addr} {nm_InvalidThresholds q_InvalidThresholds : Str} {N_InvalidThresholds : Addr} {bs_InvalidThresholds bm_InvalidThresholds : List Value} {sn_InvalidThresholds : List Str} {sub_InvalidThresholds : List Value} {ab_InvalidThresholds : Bool} {col_InvalidThresholds : Option Bool} {dd_InvalidThresholds : Option Addr} {k0_InvalidThresholds k1_InvalidThresholds k2_InvalidThresholds k3_InvalidThresholds k5_InvalidThresholds : Option Value} {C_InvalidWidth : Addr} {nm_InvalidWidth q_InvalidWidth : Str} {N_InvalidWidth : Addr} {bs_InvalidWidth bm_InvalidWidth : List Value} {sn_InvalidWidth : List Str} {sub_InvalidWidth : List Value} {ab_InvalidWidth : Bool} {col_InvalidWidth : Option Bool} {dd_InvalidWidth : Option Addr} {k0_InvalidWidth k1_InvalidWidth k2_InvalidWidth k3_InvalidWidth k5_InvalidWidth : Option Value} {C_NoBench : Addr} {nm_NoBench q_NoBench : Str} {N_NoBench : Addr} {bs_NoBench bm_NoBench : List Value} {sn_NoBench : List Str} {sub_NoBench : List Value} {ab_NoBench : Bool} {col_NoBench : Option Bool} {dd_NoBench : Option Addr} {k0_NoBench k1_NoBench k2_NoBench k3_NoBench k5_NoBench : Option Value} {C_NotExact : Addr} {nm_NotExact q_NotExact : Str} {N_NotExact : Addr} {bs_NotExact bm_NotExact : List Value} {sn_NotExact : List Str} {sub_NotExact : List Value} {ab_NotExact : Bool} {col_NotExact : Option Bool} {dd_NotExact : Option Addr} {k0_NotExact k1_NotExact k2_NotExact k3_NotExact k5_NotExact : Option Value} {C_NothingToUndo : Addr} {nm_NothingToUndo q_NothingToUndo : Str} {N_NothingToUndo : Addr} {bs_NothingToUndo bm_NothingToUndo : List Value} {sn_NothingToUndo : List Str} {sub_NothingToUndo : List Value} {ab_NothingToUndo : Bool} {col_NothingToUndo : Option Bool} {dd_NothingToUndo : Option Addr} {k0_NothingToUndo k1_NothingToUndo k2_NothingToUndo k3_NothingToUndo k5_NothingToUndo : Option Value} {C_OutOfRange : Addr} {nm_OutOfRange q_OutOfRange : Str} {N_OutOfRange : Addr} {bs_OutOfRange bm_OutOfRange : List Value} {sn_OutOfRange : List Str} {sub_OutOfRange : List Value} {ab_OutOfRange : Bool} {col_OutOfRange : Option Bool} {dd_OutOfRange : Option Addr} {k0_OutOfRange k1_OutOfRange k2_OutOfRange k3_OutOfRange k5_OutOfRange : Option Value} {C_UnknownName : Addr} {nm_UnknownName q_UnknownName : Str} {N_UnknownName : Addr} {bs_UnknownName bm_UnknownName : List Value} {sn_UnknownName : List Str} {sub_UnknownName : List Value} {ab_UnknownName : Bool} {col_UnknownName : Option Bool} {dd_UnknownName : Option Addr} {k0_UnknownName k1_UnknownName k2_UnknownName k3_UnknownName k5_UnknownName : Option Value} {C_ZeroResult : Addr} {nm_ZeroResult q_ZeroResult : Str} {N_ZeroResult : Addr} {bs_ZeroResult bm_ZeroResult : List Value} {sn_ZeroResult : List Str} {sub_ZeroResult : List Value} {ab_ZeroResult : Bool} {col_ZeroResult : Option Bool} {dd_ZeroResult : Option Addr} {k0_ZeroResult k1_ZeroResult k2_ZeroResult k3_ZeroResult k5_ZeroResult : Option Value} {f0 : Addr} {od0 an0 : Option Addr} {sl0 : Array (Option Value)} {oc0 kV0 dc0 pm0 cd0 ct0 : Value} {f1 : Addr} {od1 an1 : Option Addr} {sl1 : Array (Option Value)} {oc1 kV1 dc1 pm1 cd1 ct1 : Value} {f2 : Addr} {od2 an2 : Option Addr} {sl2 : Array (Option Value)} {oc2 kV2 dc2 pm2 cd2 ct2 : Value} {f3 : Addr} {od3 an3 : Option Addr} {sl3 : Array (Option Value)} {oc3 kV3 dc3 pm3 cd3 ct3 : Value} {f4 : Addr} {od4 an4 : Option Addr} {sl4 : Array (Option Value)} {oc4 kV4 dc4 pm4 cd4 ct4 : Value} {f5 : Addr} {od5 an5 : Option Addr} {sl5 : Array (Option Value)} {oc5 kV5 dc5 pm5 cd5 ct5 : Value} {f6 : Addr} {od6 an6 : Option Addr} {sl6 : Array (Option Value)} {oc6 kV6 dc6 pm6 cd6 ct6 : Value} {f7 : Addr} {od7 an7 : Option Addr} {sl7 : Array (Option Value)} {oc7 kV7 dc7 pm7 cd7 ct7 : Value} {f8 : Addr} {od8 an8 : Option Addr} {sl8 : Array (Option Value)} {oc8 kV8 dc8 pm8 cd8 ct8 : Value} {f9 : Addr} {od9 an9 : Option Addr} {sl9 : Array (Option Value)} {oc9 kV9 dc9 pm9 cd9 ct9 : Value} {f10 : Addr} {od10 an10 : Option Addr} {sl10 : Array (Option Value)} {oc10 kV10 dc10 pm10 cd10 ct10 : Value} {f11 : Addr} {od11 an11 : Option Addr} {sl11 : Array (Option Value)} {oc11 kV11 dc11 pm11 cd11 ct11 : Value} {f12 : Addr} {od12 an12 : Option Addr} {sl12 : Array (Option Value)} {oc12 kV12 dc12 pm12 cd12 ct12 : Value} {f13 : Addr} {od13 an13 : Option Addr} {sl13 : Array (Option Value)} {oc13 kV13 dc13 pm13 cd13 ct13 : Value} {f14 : Addr} {od14 an14 : Option Addr} {sl14 : Array (Option Value)} {oc14 kV14 dc14 pm14 cd14 ct14 : Value} {f15 : Addr} {od15 an15 : Option Addr} {sl15 : Array (Option Value)} {oc15 kV15 dc15 pm15 cd15 ct15 : Value} {f16 : Addr} {od16 an16 : Option Addr} {sl16 : Array (Option Value)} {oc16 kV16 dc16 pm16 cd16 ct16 : Value} {f17 : Addr} {od17 an17 : Option Addr} {sl17 : Array (Option Value)} {oc17 kV17 dc17 pm17 cd17 ct17 : Value} {f18 : Addr} {od18 an18 : Option Addr} {sl18 : Array (Option Value)} {oc18 kV18 dc18 pm18 cd18 ct18 : Value} {f19 : Addr} {od19 an19 : Option Addr} {sl19 : Array (Option Value)} {oc19 kV19 dc19 pm19 cd19 ct19 : Value} {f20 : Addr} {od20 an20 : Option Addr} {sl20 : Array (Option Value)} {oc20 kV20 dc20 pm20 cd20 ct20 : Value} {f21 : Addr} {od21 an21 : Option Addr} {sl21 : Array (Option Value)} {oc21 kV21 dc21 pm21 cd21 ct21 : Value} {f22 : Addr} {od22 an22 : Option Addr} {sl22 : Array (Option Value)} {oc22 kV22 dc22 pm22 cd22 ct22 : Value} {f23 : Addr} {od23 an23 : Option Addr} {sl23 : Array (Option Value)} {oc23 kV23 dc23 pm23 cd23 ct23 : Value} {f24 : Addr} {od24 an24 : Option Addr} {sl24 : Array (Option Value)} {oc24 kV24 dc24 pm24 cd24 ct24 : Value} {f25 : Addr} {od25 an25 : Option Addr} {sl25 : Array (Option Value)} {oc25 kV25 dc25 pm25 cd25 ct25 : Value} {f26 : Addr} {od26 an26 : Option Addr} {sl26 : Array (Option Value)} {oc26 kV26 dc26 pm26 cd26 ct26 : Value} {f27 : Addr} {od27 an27 : Option Addr} {sl27 : Array (Option Value)} {oc27 kV27 dc27 pm27 cd27 ct27 : Value} 
    (a0 : PySem.W.findIn K (.ref C_NoBench) "__init__" = some (some (.ref f0))) (i0 : PySem.W.isFn K (.ref f0) = true)
    (l0 : K.lookup f0 = some ⟨oc0, od0, .func (PySem.W.fnOf "__init__" "NoBench.__init__" (defArgs st_NoBench_init) (defBody st_NoBench_init) (defScope st_NoBench_init) .none kV0 dc0 pm0 an0 cd0 ct0), sl0⟩) (c0 : PySem.W.codeIn K cd0 "NoBench.__init__" = true) (k0 : PySem.W.keepIn K (.ref f0) = true)
    (a1 : PySem.W.findIn K (.ref C_NothingToUndo) "__init__" = some (some (.ref f1))) (i1 : PySem.W.isFn K (.ref f1) = true)
    (l1 : K.lookup f1 = some ⟨oc1, od1, .func (PySem.W.fnOf "__init__" "NothingToUndo.__init__" (defArgs st_NothingToUndo_init) (defBody st_NothingToUndo_init) (defScope st_NothingToUndo_init) .none kV1 dc1 pm1 an1 cd1 ct1), sl1⟩) (c1 : PySem.W.codeIn K cd1 "NothingToUndo.__init__" = true) (k1 : PySem.W.keepIn K (.ref f1) = true)
    (a2 : PySem.W.findIn K (.ref C_OutOfRange) "__init__" = some (some (.ref f2))) (i2 : PySem.W.isFn K (.ref f2) = true)
    (l2 : K.lookup f2 = some ⟨oc2, od2, .func (PySem.W.fnOf "__init__" "OutOfRange.__init__" (defArgs st_OutOfRange_init) (defBody st_OutOfRange_init) (defScope st_OutOfRange_init) .none kV2 dc2 pm2 an2 cd2 ct2), sl2⟩) (c2 : PySem.W.codeIn K cd2 "OutOfRange.__init__" = true) (k2 : PySem.W.keepIn K (.ref f2) = true)
    (a3 : PySem.W.findIn K (.ref C_ZeroResult) "__init__" = some (some (.ref f3))) (i3 : PySem.W.isFn K (.ref f3) = true)
    (l3 : K.lookup f3 = some ⟨oc3, od3, .func (PySem.W.fnOf "__init__" "ZeroResult.__init__" (defArgs st_ZeroResult_init) (defBody st_ZeroResult_init) (defScope st_ZeroResult_init) .none kV3 dc3 pm3 an3 cd3 ct3), sl3⟩) (c3 : PySem.W.codeIn K cd3 "ZeroResult.__init__" = true) (k3 : PySem.W.keepIn K (.ref f3) = true)
    (a4 : PySem.W.findIn K (.ref C_DifferentWidths) "__init__" = some (some (.ref f4))) (i4 : PySem.W.isFn K (.ref f4) = true)
    (l4 : K.lookup f4 = some ⟨oc4, od4, .func (PySem.W.fnOf "__init__" "DifferentWidths.__init__" (defArgs st_DifferentWidths_init) (defBody st_DifferentWidths_init) (defScope st_DifferentWidths_init) .none kV4 dc4 pm4 an4 cd4 ct4), sl4⟩) (c4 : PySem.W.codeIn K cd4 "DifferentWidths.__init__" = true) (k4 : PySem.W.keepIn K (.ref f4) = true)
    (a5 : PySem.W.findIn K (.ref C_InvalidLine) "__init__" = some (some (.ref f5))) (i5 : PySem.W.isFn K (.ref f5) = true)
    (l5 : K.lookup f5 = some ⟨oc5, od5, .func (PySem.W.fnOf "__init__" "InvalidLine.__init__" (defArgs st_InvalidLine_init) (defBody st_InvalidLine_init) (defScope st_InvalidLine_init) .none kV5 dc5 pm5 an5 cd5 ct5), sl5⟩) (c5 : PySem.W.codeIn K cd5 "InvalidLine.__init__" = true) (k5 : PySem.W.keepIn K (.ref f5) = true)
    (a6 : PySem.W.findIn K (.ref C_InvalidText) "__init__" = some (some (.ref f6))) (i6 : PySem.W.isFn K (.ref f6) = true)
    (l6 : K.lookup f6 = some ⟨oc6, od6, .func (PySem.W.fnOf "__init__" "InvalidText.__init__" (defArgs st_InvalidText_init) (defBody st_InvalidText_init) (defScope st_InvalidText_init) .none kV6 dc6 pm6 an6 cd6 ct6), sl6⟩) (c6 : PySem.W.codeIn K cd6 "InvalidText.__init__" = true) (k6 : PySem.W.keepIn K (.ref f6) = true)
    (a7 : PySem.W.findIn K (.ref C_NotExact) "__init__" = some (some (.ref f7))) (i7 : PySem.W.isFn K (.ref f7) = true)
    (l7 : K.lookup f7 = some ⟨oc7, od7, .func (PySem.W.fnOf "__init__" "NotExact.__init__" (defArgs st_NotExact_init) (defBody st_NotExact_init) (defScope st_NotExact_init) .none kV7 dc7 pm7 an7 cd7 ct7), sl7⟩) (c7 : PySem.W.codeIn K cd7 "NotExact.__init__" = true) (k7 : PySem.W.keepIn K (.ref f7) = true)
    (a8 : PySem.W.findIn K (.ref C_UnknownName) "__init__" = some (some (.ref f8))) (i8 : PySem.W.isFn K (.ref f8) = true)
    (l8 : K.lookup f8 = some ⟨oc8, od8, .func (PySem.W.fnOf "__init__" "UnknownName.__init__" (defArgs st_UnknownName_init) (defBody st_UnknownName_init) (defScope st_UnknownName_init) .none kV8 dc8 pm8 an8 cd8 ct8), sl8⟩) (c8 : PySem.W.codeIn K cd8 "UnknownName.__init__" = true) (k8 : PySem.W.keepIn K (.ref f8) = true)
    (a9 : PySem.W.findIn K (.ref C_InvalidName) "__init__" = some (some (.ref f9))) (i9 : PySem.W.isFn K (.ref f9) = true)
    (l9 : K.lookup f9 = some ⟨oc9, od9, .func (PySem.W.fnOf "__init__" "InvalidName.__init__" (defArgs st_InvalidName_init) (defBody st_InvalidName_init) (defScope st_InvalidName_init) .none kV9 dc9 pm9 an9 cd9 ct9), sl9⟩) (c9 : PySem.W.codeIn K cd9 "InvalidName.__init__" = true) (k9 : PySem.W.keepIn K (.ref f9) = true)
    (a10 : PySem.W.findIn K (.ref C_InvalidKind) "__init__" = some (some (.ref f10))) (i10 : PySem.W.isFn K (.ref f10) = true)
    (l10 : K.lookup f10 = some ⟨oc10, od10, .func (PySem.W.fnOf "__init__" "InvalidKind.__init__" (defArgs st_InvalidKind_init) (defBody st_InvalidKind_init) (defScope st_InvalidKind_init) .none kV10 dc10 pm10 an10 cd10 ct10), sl10⟩) (c10 : PySem.W.codeIn K cd10 "InvalidKind.__init__" = true) (k10 : PySem.W.keepIn K (.ref f10) = true)
    (a11 : PySem.W.findIn K (.ref C_InvalidShift) "__init__" = some (some (.ref f11))) (i11 : PySem.W.isFn K (.ref f11) = true)
    (l11 : K.lookup f11 = some ⟨oc11, od11, .func (PySem.W.fnOf "__init__" "InvalidShift.__init__" (defArgs st_InvalidShift_init) (defBody st_InvalidShift_init) (defScope st_InvalidShift_init) .none kV11 dc11 pm11 an11 cd11 ct11), sl11⟩) (c11 : PySem.W.codeIn K cd11 "InvalidShift.__init__" = true) (k11 : PySem.W.keepIn K (.ref f11) = true)
    (a12 : PySem.W.findIn K (.ref C_InvalidExponent) "__init__" = some (some (.ref f12))) (i12 : PySem.W.isFn K (.ref f12) = true)
    (l12 : K.lookup f12 = some ⟨oc12, od12, .func (PySem.W.fnOf "__init__" "InvalidExponent.__init__" (defArgs st_InvalidExponent_init) (defBody st_InvalidExponent_init) (defScope st_InvalidExponent_init) .none kV12 dc12 pm12 an12 cd12 ct12), sl12⟩) (c12 : PySem.W.codeIn K cd12 "InvalidExponent.__init__" = true) (k12 : PySem.W.keepIn K (.ref f12) = true)
    (a13 : PySem.W.findIn K (.ref C_InvalidRange) "__init__" = some (some (.ref f13))) (i13 : PySem.W.isFn K (.ref f13) = true)
    (l13 : K.lookup f13 = some ⟨oc13, od13, .func (PySem.W.fnOf "__init__" "InvalidRange.__init__" (defArgs st_InvalidRange_init) (defBody st_InvalidRange_init) (defScope st_InvalidRange_init) .none kV13 dc13 pm13 an13 cd13 ct13), sl13⟩) (c13 : PySem.W.codeIn K cd13 "InvalidRange.__init__" = true) (k13 : PySem.W.keepIn K (.ref f13) = true)
    (a14 : PySem.W.findIn K (.ref C_InvalidThresholds) "__init__" = some (some (.ref f14))) (i14 : PySem.W.isFn K (.ref f14) = true)
    (l14 : K.lookup f14 = some ⟨oc14, od14, .func (PySem.W.fnOf "__init__" "InvalidThresholds.__init__" (defArgs st_InvalidThresholds_init) (defBody st_InvalidThresholds_init) (defScope st_InvalidThresholds_init) .none kV14 dc14 pm14 an14 cd14 ct14), sl14⟩) (c14 : PySem.W.codeIn K cd14 "InvalidThresholds.__init__" = true) (k14 : PySem.W.keepIn K (.ref f14) = true)
    (a15 : PySem.W.findIn K (.ref C_InvalidChain) "__init__" = some (some (.ref f15))) (i15 : PySem.W.isFn K (.ref f15) = true)
    (l15 : K.lookup f15 = some ⟨oc15, od15, .func (PySem.W.fnOf "__init__" "InvalidChain.__init__" (defArgs st_InvalidChain_init) (defBody st_InvalidChain_init) (defScope st_InvalidChain_init) .none kV15 dc15 pm15 an15 cd15 ct15), sl15⟩) (c15 : PySem.W.codeIn K cd15 "InvalidChain.__init__" = true) (k15 : PySem.W.keepIn K (.ref f15) = true)
    (a16 : PySem.W.findIn K (.ref C_InvalidRule) "__init__" = some (some (.ref f16))) (i16 : PySem.W.isFn K (.ref f16) = true)
    (l16 : K.lookup f16 = some ⟨oc16, od16, .func (PySem.W.fnOf "__init__" "InvalidRule.__init__" (defArgs st_InvalidRule_init) (defBody st_InvalidRule_init) (defScope st_InvalidRule_init) .none kV16 dc16 pm16 an16 cd16 ct16), sl16⟩) (c16 : PySem.W.codeIn K cd16 "InvalidRule.__init__" = true) (k16 : PySem.W.keepIn K (.ref f16) = true)
    (a17 : PySem.W.findIn K (.ref C_InvalidWidth) "__init__" = some (some (.ref f17))) (i17 : PySem.W.isFn K (.ref f17) = true)
    (l17 : K.lookup f17 = some ⟨oc17, od17, .func (PySem.W.fnOf "__init__" "InvalidWidth.__init__" (defArgs st_InvalidWidth_init) (defBody st_InvalidWidth_init) (defScope st_InvalidWidth_init) .none kV17 dc17 pm17 an17 cd17 ct17), sl17⟩) (c17 : PySem.W.codeIn K cd17 "InvalidWidth.__init__" = true) (k17 : PySem.W.keepIn K (.ref f17) = true)
    (a18 : PySem.W.findIn K (.ref C_InvalidNumber) "__init__" = some (some (.ref f18))) (i18 : PySem.W.isFn K (.ref f18) = true)
    (l18 : K.lookup f18 = some ⟨oc18, od18, .func (PySem.W.fnOf "__init__" "InvalidNumber.__init__" (defArgs st_InvalidNumber_init) (defBody st_InvalidNumber_init) (defScope st_InvalidNumber_init) .none kV18 dc18 pm18 an18 cd18 ct18), sl18⟩) (c18 : PySem.W.codeIn K cd18 "InvalidNumber.__init__" = true) (k18 : PySem.W.keepIn K (.ref f18) = true)
    (a19 : PySem.W.nsIn K mainGlobals "_law_source" = some (some (.ref f19)))
    (l19 : K.lookup f19 = some ⟨oc19, od19, .func (PySem.W.fnOf "_law_source" "_law_source" (defArgs st__law_source) (defBody st__law_source) (defScope st__law_source) .none kV19 dc19 pm19 an19 cd19 ct19), sl19⟩) (c19 : PySem.W.codeIn K cd19 "_law_source" = true) (k19 : PySem.W.keepIn K (.ref f19) = true)
    (a20 : PySem.W.nsIn K mainGlobals "_law_draw" = some (some (.ref f20)))
    (l20 : K.lookup f20 = some ⟨oc20, od20, .func (PySem.W.fnOf "_law_draw" "_law_draw" (defArgs st__law_draw) (defBody st__law_draw) (defScope st__law_draw) .none kV20 dc20 pm20 an20 cd20 ct20), sl20⟩) (c20 : PySem.W.codeIn K cd20 "_law_draw" = true) (k20 : PySem.W.keepIn K (.ref f20) = true)
    (a21 : PySem.W.nsIn K mainGlobals "_law_pick" = some (some (.ref f21)))
    (l21 : K.lookup f21 = some ⟨oc21, od21, .func (PySem.W.fnOf "_law_pick" "_law_pick" (defArgs st__law_pick) (defBody st__law_pick) (defScope st__law_pick) .none kV21 dc21 pm21 an21 cd21 ct21), sl21⟩) (c21 : PySem.W.codeIn K cd21 "_law_pick" = true) (k21 : PySem.W.keepIn K (.ref f21) = true)
    (a22 : PySem.W.nsIn K mainGlobals "_law_odd" = some (some (.ref f22)))
    (l22 : K.lookup f22 = some ⟨oc22, od22, .func (PySem.W.fnOf "_law_odd" "_law_odd" (defArgs st__law_odd) (defBody st__law_odd) (defScope st__law_odd) .none kV22 dc22 pm22 an22 cd22 ct22), sl22⟩) (c22 : PySem.W.codeIn K cd22 "_law_odd" = true) (k22 : PySem.W.keepIn K (.ref f22) = true)
    (a23 : PySem.W.nsIn K mainGlobals "_law_with_value" = some (some (.ref f23)))
    (l23 : K.lookup f23 = some ⟨oc23, od23, .func (PySem.W.fnOf "_law_with_value" "_law_with_value" (defArgs st__law_with_value) (defBody st__law_with_value) (defScope st__law_with_value) .none kV23 dc23 pm23 an23 cd23 ct23), sl23⟩) (c23 : PySem.W.codeIn K cd23 "_law_with_value" = true) (k23 : PySem.W.keepIn K (.ref f23) = true)
    (a24 : PySem.W.nsIn K mainGlobals "_law_by_name" = some (some (.ref f24)))
    (l24 : K.lookup f24 = some ⟨oc24, od24, .func (PySem.W.fnOf "_law_by_name" "_law_by_name" (defArgs st__law_by_name) (defBody st__law_by_name) (defScope st__law_by_name) .none kV24 dc24 pm24 an24 cd24 ct24), sl24⟩) (c24 : PySem.W.codeIn K cd24 "_law_by_name" = true) (k24 : PySem.W.keepIn K (.ref f24) = true)
    (a25 : PySem.W.nsIn K mainGlobals "_law_marks" = some (some (.ref f25)))
    (l25 : K.lookup f25 = some ⟨oc25, od25, .func (PySem.W.fnOf "_law_marks" "_law_marks" (defArgs st__law_marks) (defBody st__law_marks) (defScope st__law_marks) .none kV25 dc25 pm25 an25 cd25 ct25), sl25⟩) (c25 : PySem.W.codeIn K cd25 "_law_marks" = true) (k25 : PySem.W.keepIn K (.ref f25) = true)
    (a26 : PySem.W.nsIn K mainGlobals "_law_right" = some (some (.ref f26)))
    (l26 : K.lookup f26 = some ⟨oc26, od26, .func (PySem.W.fnOf "_law_right" "_law_right" (defArgs st__law_right) (defBody st__law_right) (defScope st__law_right) .none kV26 dc26 pm26 an26 cd26 ct26), sl26⟩) (c26 : PySem.W.codeIn K cd26 "_law_right" = true) (k26 : PySem.W.keepIn K (.ref f26) = true)
    (a27 : PySem.W.nsIn K mainGlobals "law" = some (some (.ref f27)))
    (l27 : K.lookup f27 = some ⟨oc27, od27, .func (PySem.W.fnOf "law" "law" (defArgs st_law) (defBody st_law) (defScope st_law) .none kV27 dc27 pm27 an27 cd27 ct27), sl27⟩) (c27 : PySem.W.codeIn K cd27 "law" = true) (k27 : PySem.W.keepIn K (.ref f27) = true)
    (z_ValueError : PySem.W.nsIn K mainGlobals "ValueError" = some none)
    (z_abs : PySem.W.nsIn K mainGlobals "abs" = some none)
    (z_all : PySem.W.nsIn K mainGlobals "all" = some none)
    (z_enumerate : PySem.W.nsIn K mainGlobals "enumerate" = some none)
    (z_isinstance : PySem.W.nsIn K mainGlobals "isinstance" = some none)
    (z_len : PySem.W.nsIn K mainGlobals "len" = some none)
    (z_max : PySem.W.nsIn K mainGlobals "max" = some none)
    (z_min : PySem.W.nsIn K mainGlobals "min" = some none)
    (z_range : PySem.W.nsIn K mainGlobals "range" = some none)
    (z_repr : PySem.W.nsIn K mainGlobals "repr" = some none)
    (y_RE : PySem.W.nsIn K mainGlobals "RoundingError" = some (some (.ref C_RoundingError))) (eg_RE : PySem.W.specialIn K (.ref C_RoundingError) "__getattribute__" = some (some (.builtin "type.__getattribute__"))) (er_RE : PySem.W.readsIn K C_RoundingError (.type "type") = true) (ei_RE : PySem.W.findCls K (.ref C_RoundingError) (.type "type") "__init__" = some (.val (.builtin "ValueError.__init__")))
    (en_X : PySem.W.specialIn K (.builtin "object.__class__") "__get__" = some (some (.builtin "getset_descriptor.__get__"))) (eo_X : PySem.W.takesIn K (.builtin "object.__class__") = some true)
    (y_DifferentWidths : PySem.W.nsIn K mainGlobals "DifferentWidths" = some (some (.ref C_DifferentWidths))) (ex_DifferentWidths : PySem.W.subIn K (.ref C_DifferentWidths) (.type "BaseException") = some true) (et_DifferentWidths : PySem.W.typeIn K (.ref C_DifferentWidths) = some (.type "type")) (ek_DifferentWidths : PySem.W.keepIn K (.ref C_DifferentWidths) = true) (eu_DifferentWidths : PySem.W.hasDictIn K C_DifferentWidths = true)
    (ec_DifferentWidths : K.lookup C_DifferentWidths = some (excClassObj nm_DifferentWidths q_DifferentWidths C_DifferentWidths N_DifferentWidths bs_DifferentWidths bm_DifferentWidths true sn_DifferentWidths sub_DifferentWidths ab_DifferentWidths col_DifferentWidths dd_DifferentWidths k0_DifferentWidths k1_DifferentWidths k2_DifferentWidths k3_DifferentWidths k5_DifferentWidths "ValueError.__new__")) (em_DifferentWidths : PySem.HandSPX.refsVE bm_DifferentWidths = true) (es_DifferentWidths : PySem.W.findIn K (.ref C_DifferentWidths) "__setattr__" = some (some (.builtin "object.__setattr__")))
    (eb_DifferentWidths : PySem.W.findIn K (.ref C_DifferentWidths) "__getattribute__" = some (some (.builtin "BaseException.__getattribute__"))) (ed_DifferentWidths : PySem.W.findIn K (.ref C_DifferentWidths) "__getattr__" = some none)
    (ei_DifferentWidths : PySem.W.findIn K (.ref C_DifferentWidths) "__class__" = some (some (.builtin "object.__class__"))) (ep_DifferentWidths : PySem.W.mroIn K C_DifferentWidths (.type "object") = some true)
    (kt_DifferentWidths_DifferentWidths : PySem.W.kitOne K (.ref C_DifferentWidths) (.ref C_DifferentWidths) = some true)
    (kt_DifferentWidths_InvalidChain : PySem.W.kitOne K (.ref C_DifferentWidths) (.ref C_InvalidChain) = some false)
    (kt_DifferentWidths_InvalidExponent : PySem.W.kitOne K (.ref C_DifferentWidths) (.ref C_InvalidExponent) = some false)
    (kt_DifferentWidths_InvalidKind : PySem.W.kitOne K (.ref C_DifferentWidths) (.ref C_InvalidKind) = some false)
    (kt_DifferentWidths_InvalidLine : PySem.W.kitOne K (.ref C_DifferentWidths) (.ref C_InvalidLine) = some false)
    (kt_DifferentWidths_InvalidName : PySem.W.kitOne K (.ref C_DifferentWidths) (.ref C_InvalidName) = some false)
    (kt_DifferentWidths_InvalidNumber : PySem.W.kitOne K (.ref C_DifferentWidths) (.ref C_InvalidNumber) = some false)
    (kt_DifferentWidths_InvalidRange : PySem.W.kitOne K (.ref C_DifferentWidths) (.ref C_InvalidRange) = some false)
    (kt_DifferentWidths_InvalidRule : PySem.W.kitOne K (.ref C_DifferentWidths) (.ref C_InvalidRule) = some false)
    (kt_DifferentWidths_InvalidShift : PySem.W.kitOne K (.ref C_DifferentWidths) (.ref C_InvalidShift) = some false)
    (kt_DifferentWidths_InvalidText : PySem.W.kitOne K (.ref C_DifferentWidths) (.ref C_InvalidText) = some false)
    (kt_DifferentWidths_InvalidThresholds : PySem.W.kitOne K (.ref C_DifferentWidths) (.ref C_InvalidThresholds) = some false)
    (kt_DifferentWidths_InvalidWidth : PySem.W.kitOne K (.ref C_DifferentWidths) (.ref C_InvalidWidth) = some false)
    (kt_DifferentWidths_NoBench : PySem.W.kitOne K (.ref C_DifferentWidths) (.ref C_NoBench) = some false)
    (kt_DifferentWidths_NotExact : PySem.W.kitOne K (.ref C_DifferentWidths) (.ref C_NotExact) = some false)
    (kt_DifferentWidths_NothingToUndo : PySem.W.kitOne K (.ref C_DifferentWidths) (.ref C_NothingToUndo) = some false)
    (kt_DifferentWidths_OutOfRange : PySem.W.kitOne K (.ref C_DifferentWidths) (.ref C_OutOfRange) = some false)
    (kt_DifferentWidths_RoundingError : PySem.W.kitOne K (.ref C_DifferentWidths) (.ref C_RoundingError) = some true)
    (kt_DifferentWidths_UnknownName : PySem.W.kitOne K (.ref C_DifferentWidths) (.ref C_UnknownName) = some false)
    (kt_DifferentWidths_ValueError : PySem.W.kitOne K (.ref C_DifferentWidths) (.type "ValueError") = some true)
    (kt_DifferentWidths_ZeroResult : PySem.W.kitOne K (.ref C_DifferentWidths) (.ref C_ZeroResult) = some false)
    (y_InvalidChain : PySem.W.nsIn K mainGlobals "InvalidChain" = some (some (.ref C_InvalidChain))) (ex_InvalidChain : PySem.W.subIn K (.ref C_InvalidChain) (.type "BaseException") = some true) (et_InvalidChain : PySem.W.typeIn K (.ref C_InvalidChain) = some (.type "type")) (ek_InvalidChain : PySem.W.keepIn K (.ref C_InvalidChain) = true) (eu_InvalidChain : PySem.W.hasDictIn K C_InvalidChain = true)
    (ec_InvalidChain : K.lookup C_InvalidChain = some (excClassObj nm_InvalidChain q_InvalidChain C_InvalidChain N_InvalidChain bs_InvalidChain bm_InvalidChain true sn_InvalidChain sub_InvalidChain ab_InvalidChain col_InvalidChain dd_InvalidChain k0_InvalidChain k1_InvalidChain k2_InvalidChain k3_InvalidChain k5_InvalidChain "ValueError.__new__")) (em_InvalidChain : PySem.HandSPX.refsVE bm_InvalidChain = true)
    (es_InvalidChain : PySem.W.findIn K (.ref C_InvalidChain) "__setattr__" = some (some (.builtin "object.__setattr__"))) (ev_InvalidChain : PySem.W.findIn K (.ref C_InvalidChain) "value" = some none) (eb_InvalidChain : PySem.W.findIn K (.ref C_InvalidChain) "__getattribute__" = some (some (.builtin "BaseException.__getattribute__"))) (ed_InvalidChain : PySem.W.findIn K (.ref C_InvalidChain) "__getattr__" = some none)
    (ei_InvalidChain : PySem.W.findIn K (.ref C_InvalidChain) "__class__" = some (some (.builtin "object.__class__"))) (ep_InvalidChain : PySem.W.mroIn K C_InvalidChain (.type "object") = some true)
    (kt_InvalidChain_DifferentWidths : PySem.W.kitOne K (.ref C_InvalidChain) (.ref C_DifferentWidths) = some false)
    (kt_InvalidChain_InvalidChain : PySem.W.kitOne K (.ref C_InvalidChain) (.ref C_InvalidChain) = some true)
    (kt_InvalidChain_InvalidExponent : PySem.W.kitOne K (.ref C_InvalidChain) (.ref C_InvalidExponent) = some false)
    (kt_InvalidChain_InvalidKind : PySem.W.kitOne K (.ref C_InvalidChain) (.ref C_InvalidKind) = some false)
    (kt_InvalidChain_InvalidLine : PySem.W.kitOne K (.ref C_InvalidChain) (.ref C_InvalidLine) = some false)
    (kt_InvalidChain_InvalidName : PySem.W.kitOne K (.ref C_InvalidChain) (.ref C_InvalidName) = some false)
    (kt_InvalidChain_InvalidNumber : PySem.W.kitOne K (.ref C_InvalidChain) (.ref C_InvalidNumber) = some false)
    (kt_InvalidChain_InvalidRange : PySem.W.kitOne K (.ref C_InvalidChain) (.ref C_InvalidRange) = some false)
    (kt_InvalidChain_InvalidRule : PySem.W.kitOne K (.ref C_InvalidChain) (.ref C_InvalidRule) = some false)
    (kt_InvalidChain_InvalidShift : PySem.W.kitOne K (.ref C_InvalidChain) (.ref C_InvalidShift) = some false)
    (kt_InvalidChain_InvalidText : PySem.W.kitOne K (.ref C_InvalidChain) (.ref C_InvalidText) = some false)
    (kt_InvalidChain_InvalidThresholds : PySem.W.kitOne K (.ref C_InvalidChain) (.ref C_InvalidThresholds) = some false)
    (kt_InvalidChain_InvalidWidth : PySem.W.kitOne K (.ref C_InvalidChain) (.ref C_InvalidWidth) = some false)
    (kt_InvalidChain_NoBench : PySem.W.kitOne K (.ref C_InvalidChain) (.ref C_NoBench) = some false)
    (kt_InvalidChain_NotExact : PySem.W.kitOne K (.ref C_InvalidChain) (.ref C_NotExact) = some false)
    (kt_InvalidChain_NothingToUndo : PySem.W.kitOne K (.ref C_InvalidChain) (.ref C_NothingToUndo) = some false)
    (kt_InvalidChain_OutOfRange : PySem.W.kitOne K (.ref C_InvalidChain) (.ref C_OutOfRange) = some false)
    (kt_InvalidChain_RoundingError : PySem.W.kitOne K (.ref C_InvalidChain) (.ref C_RoundingError) = some true)
    (kt_InvalidChain_UnknownName : PySem.W.kitOne K (.ref C_InvalidChain) (.ref C_UnknownName) = some false)
    (kt_InvalidChain_ValueError : PySem.W.kitOne K (.ref C_InvalidChain) (.type "ValueError") = some true)
    (kt_InvalidChain_ZeroResult : PySem.W.kitOne K (.ref C_InvalidChain) (.ref C_ZeroResult) = some false)
    (y_InvalidExponent : PySem.W.nsIn K mainGlobals "InvalidExponent" = some (some (.ref C_InvalidExponent))) (ex_InvalidExponent : PySem.W.subIn K (.ref C_InvalidExponent) (.type "BaseException") = some true) (et_InvalidExponent : PySem.W.typeIn K (.ref C_InvalidExponent) = some (.type "type")) (ek_InvalidExponent : PySem.W.keepIn K (.ref C_InvalidExponent) = true) (eu_InvalidExponent : PySem.W.hasDictIn K C_InvalidExponent = true)
    (ec_InvalidExponent : K.lookup C_InvalidExponent = some (excClassObj nm_InvalidExponent q_InvalidExponent C_InvalidExponent N_InvalidExponent bs_InvalidExponent bm_InvalidExponent true sn_InvalidExponent sub_InvalidExponent ab_InvalidExponent col_InvalidExponent dd_InvalidExponent k0_InvalidExponent k1_InvalidExponent k2_InvalidExponent k3_InvalidExponent k5_InvalidExponent "ValueError.__new__")) (em_InvalidExponent : PySem.HandSPX.refsVE bm_InvalidExponent = true)
    (es_InvalidExponent : PySem.W.findIn K (.ref C_InvalidExponent) "__setattr__" = some (some (.builtin "object.__setattr__"))) (ev_InvalidExponent : PySem.W.findIn K (.ref C_InvalidExponent) "value" = some none) (eb_InvalidExponent : PySem.W.findIn K (.ref C_InvalidExponent) "__getattribute__" = some (some (.builtin "BaseException.__getattribute__"))) (ed_InvalidExponent : PySem.W.findIn K (.ref C_InvalidExponent) "__getattr__" = some none)
    (ei_InvalidExponent : PySem.W.findIn K (.ref C_InvalidExponent) "__class__" = some (some (.builtin "object.__class__"))) (ep_InvalidExponent : PySem.W.mroIn K C_InvalidExponent (.type "object") = some true)
    (kt_InvalidExponent_DifferentWidths : PySem.W.kitOne K (.ref C_InvalidExponent) (.ref C_DifferentWidths) = some false)
    (kt_InvalidExponent_InvalidChain : PySem.W.kitOne K (.ref C_InvalidExponent) (.ref C_InvalidChain) = some false)
    (kt_InvalidExponent_InvalidExponent : PySem.W.kitOne K (.ref C_InvalidExponent) (.ref C_InvalidExponent) = some true)
    (kt_InvalidExponent_InvalidKind : PySem.W.kitOne K (.ref C_InvalidExponent) (.ref C_InvalidKind) = some false)
    (kt_InvalidExponent_InvalidLine : PySem.W.kitOne K (.ref C_InvalidExponent) (.ref C_InvalidLine) = some false)
    (kt_InvalidExponent_InvalidName : PySem.W.kitOne K (.ref C_InvalidExponent) (.ref C_InvalidName) = some false)
    (kt_InvalidExponent_InvalidNumber : PySem.W.kitOne K (.ref C_InvalidExponent) (.ref C_InvalidNumber) = some false)
    (kt_InvalidExponent_InvalidRange : PySem.W.kitOne K (.ref C_InvalidExponent) (.ref C_InvalidRange) = some false)
    (kt_InvalidExponent_InvalidRule : PySem.W.kitOne K (.ref C_InvalidExponent) (.ref C_InvalidRule) = some false)
    (kt_InvalidExponent_InvalidShift : PySem.W.kitOne K (.ref C_InvalidExponent) (.ref C_InvalidShift) = some false)
    (kt_InvalidExponent_InvalidText : PySem.W.kitOne K (.ref C_InvalidExponent) (.ref C_InvalidText) = some false)
    (kt_InvalidExponent_InvalidThresholds : PySem.W.kitOne K (.ref C_InvalidExponent) (.ref C_InvalidThresholds) = some false)
    (kt_InvalidExponent_InvalidWidth : PySem.W.kitOne K (.ref C_InvalidExponent) (.ref C_InvalidWidth) = some false)
    (kt_InvalidExponent_NoBench : PySem.W.kitOne K (.ref C_InvalidExponent) (.ref C_NoBench) = some false)
    (kt_InvalidExponent_NotExact : PySem.W.kitOne K (.ref C_InvalidExponent) (.ref C_NotExact) = some false)
    (kt_InvalidExponent_NothingToUndo : PySem.W.kitOne K (.ref C_InvalidExponent) (.ref C_NothingToUndo) = some false)
    (kt_InvalidExponent_OutOfRange : PySem.W.kitOne K (.ref C_InvalidExponent) (.ref C_OutOfRange) = some false)
    (kt_InvalidExponent_RoundingError : PySem.W.kitOne K (.ref C_InvalidExponent) (.ref C_RoundingError) = some true)
    (kt_InvalidExponent_UnknownName : PySem.W.kitOne K (.ref C_InvalidExponent) (.ref C_UnknownName) = some false)
    (kt_InvalidExponent_ValueError : PySem.W.kitOne K (.ref C_InvalidExponent) (.type "ValueError") = some true)
    (kt_InvalidExponent_ZeroResult : PySem.W.kitOne K (.ref C_InvalidExponent) (.ref C_ZeroResult) = some false)
    (y_InvalidKind : PySem.W.nsIn K mainGlobals "InvalidKind" = some (some (.ref C_InvalidKind))) (ex_InvalidKind : PySem.W.subIn K (.ref C_InvalidKind) (.type "BaseException") = some true) (et_InvalidKind : PySem.W.typeIn K (.ref C_InvalidKind) = some (.type "type")) (ek_InvalidKind : PySem.W.keepIn K (.ref C_InvalidKind) = true) (eu_InvalidKind : PySem.W.hasDictIn K C_InvalidKind = true)
    (ec_InvalidKind : K.lookup C_InvalidKind = some (excClassObj nm_InvalidKind q_InvalidKind C_InvalidKind N_InvalidKind bs_InvalidKind bm_InvalidKind true sn_InvalidKind sub_InvalidKind ab_InvalidKind col_InvalidKind dd_InvalidKind k0_InvalidKind k1_InvalidKind k2_InvalidKind k3_InvalidKind k5_InvalidKind "ValueError.__new__")) (em_InvalidKind : PySem.HandSPX.refsVE bm_InvalidKind = true)
    (es_InvalidKind : PySem.W.findIn K (.ref C_InvalidKind) "__setattr__" = some (some (.builtin "object.__setattr__"))) (ev_InvalidKind : PySem.W.findIn K (.ref C_InvalidKind) "value" = some none) (eb_InvalidKind : PySem.W.findIn K (.ref C_InvalidKind) "__getattribute__" = some (some (.builtin "BaseException.__getattribute__"))) (ed_InvalidKind : PySem.W.findIn K (.ref C_InvalidKind) "__getattr__" = some none)
    (ei_InvalidKind : PySem.W.findIn K (.ref C_InvalidKind) "__class__" = some (some (.builtin "object.__class__"))) (ep_InvalidKind : PySem.W.mroIn K C_InvalidKind (.type "object") = some true)
    (kt_InvalidKind_DifferentWidths : PySem.W.kitOne K (.ref C_InvalidKind) (.ref C_DifferentWidths) = some false)
    (kt_InvalidKind_InvalidChain : PySem.W.kitOne K (.ref C_InvalidKind) (.ref C_InvalidChain) = some false)
    (kt_InvalidKind_InvalidExponent : PySem.W.kitOne K (.ref C_InvalidKind) (.ref C_InvalidExponent) = some false)
    (kt_InvalidKind_InvalidKind : PySem.W.kitOne K (.ref C_InvalidKind) (.ref C_InvalidKind) = some true)
    (kt_InvalidKind_InvalidLine : PySem.W.kitOne K (.ref C_InvalidKind) (.ref C_InvalidLine) = some false)
    (kt_InvalidKind_InvalidName : PySem.W.kitOne K (.ref C_InvalidKind) (.ref C_InvalidName) = some false)
    (kt_InvalidKind_InvalidNumber : PySem.W.kitOne K (.ref C_InvalidKind) (.ref C_InvalidNumber) = some false)
    (kt_InvalidKind_InvalidRange : PySem.W.kitOne K (.ref C_InvalidKind) (.ref C_InvalidRange) = some false)
    (kt_InvalidKind_InvalidRule : PySem.W.kitOne K (.ref C_InvalidKind) (.ref C_InvalidRule) = some false)
    (kt_InvalidKind_InvalidShift : PySem.W.kitOne K (.ref C_InvalidKind) (.ref C_InvalidShift) = some false)
    (kt_InvalidKind_InvalidText : PySem.W.kitOne K (.ref C_InvalidKind) (.ref C_InvalidText) = some false)
    (kt_InvalidKind_InvalidThresholds : PySem.W.kitOne K (.ref C_InvalidKind) (.ref C_InvalidThresholds) = some false)
    (kt_InvalidKind_InvalidWidth : PySem.W.kitOne K (.ref C_InvalidKind) (.ref C_InvalidWidth) = some false)
    (kt_InvalidKind_NoBench : PySem.W.kitOne K (.ref C_InvalidKind) (.ref C_NoBench) = some false)
    (kt_InvalidKind_NotExact : PySem.W.kitOne K (.ref C_InvalidKind) (.ref C_NotExact) = some false)
    (kt_InvalidKind_NothingToUndo : PySem.W.kitOne K (.ref C_InvalidKind) (.ref C_NothingToUndo) = some false)
    (kt_InvalidKind_OutOfRange : PySem.W.kitOne K (.ref C_InvalidKind) (.ref C_OutOfRange) = some false)
    (kt_InvalidKind_RoundingError : PySem.W.kitOne K (.ref C_InvalidKind) (.ref C_RoundingError) = some true)
    (kt_InvalidKind_UnknownName : PySem.W.kitOne K (.ref C_InvalidKind) (.ref C_UnknownName) = some false)
    (kt_InvalidKind_ValueError : PySem.W.kitOne K (.ref C_InvalidKind) (.type "ValueError") = some true)
    (kt_InvalidKind_ZeroResult : PySem.W.kitOne K (.ref C_InvalidKind) (.ref C_ZeroResult) = some false)
    (y_InvalidLine : PySem.W.nsIn K mainGlobals "InvalidLine" = some (some (.ref C_InvalidLine))) (ex_InvalidLine : PySem.W.subIn K (.ref C_InvalidLine) (.type "BaseException") = some true) (et_InvalidLine : PySem.W.typeIn K (.ref C_InvalidLine) = some (.type "type")) (ek_InvalidLine : PySem.W.keepIn K (.ref C_InvalidLine) = true) (eu_InvalidLine : PySem.W.hasDictIn K C_InvalidLine = true)
    (ec_InvalidLine : K.lookup C_InvalidLine = some (excClassObj nm_InvalidLine q_InvalidLine C_InvalidLine N_InvalidLine bs_InvalidLine bm_InvalidLine true sn_InvalidLine sub_InvalidLine ab_InvalidLine col_InvalidLine dd_InvalidLine k0_InvalidLine k1_InvalidLine k2_InvalidLine k3_InvalidLine k5_InvalidLine "ValueError.__new__")) (em_InvalidLine : PySem.HandSPX.refsVE bm_InvalidLine = true)
    (es_InvalidLine : PySem.W.findIn K (.ref C_InvalidLine) "__setattr__" = some (some (.builtin "object.__setattr__"))) (ev_InvalidLine : PySem.W.findIn K (.ref C_InvalidLine) "value" = some none) (eb_InvalidLine : PySem.W.findIn K (.ref C_InvalidLine) "__getattribute__" = some (some (.builtin "BaseException.__getattribute__"))) (ed_InvalidLine : PySem.W.findIn K (.ref C_InvalidLine) "__getattr__" = some none)
    (ei_InvalidLine : PySem.W.findIn K (.ref C_InvalidLine) "__class__" = some (some (.builtin "object.__class__"))) (ep_InvalidLine : PySem.W.mroIn K C_InvalidLine (.type "object") = some true)
    (kt_InvalidLine_DifferentWidths : PySem.W.kitOne K (.ref C_InvalidLine) (.ref C_DifferentWidths) = some false)
    (kt_InvalidLine_InvalidChain : PySem.W.kitOne K (.ref C_InvalidLine) (.ref C_InvalidChain) = some false)
    (kt_InvalidLine_InvalidExponent : PySem.W.kitOne K (.ref C_InvalidLine) (.ref C_InvalidExponent) = some false)
    (kt_InvalidLine_InvalidKind : PySem.W.kitOne K (.ref C_InvalidLine) (.ref C_InvalidKind) = some false)
    (kt_InvalidLine_InvalidLine : PySem.W.kitOne K (.ref C_InvalidLine) (.ref C_InvalidLine) = some true)
    (kt_InvalidLine_InvalidName : PySem.W.kitOne K (.ref C_InvalidLine) (.ref C_InvalidName) = some false)
    (kt_InvalidLine_InvalidNumber : PySem.W.kitOne K (.ref C_InvalidLine) (.ref C_InvalidNumber) = some false)
    (kt_InvalidLine_InvalidRange : PySem.W.kitOne K (.ref C_InvalidLine) (.ref C_InvalidRange) = some false)
    (kt_InvalidLine_InvalidRule : PySem.W.kitOne K (.ref C_InvalidLine) (.ref C_InvalidRule) = some false)
    (kt_InvalidLine_InvalidShift : PySem.W.kitOne K (.ref C_InvalidLine) (.ref C_InvalidShift) = some false)
    (kt_InvalidLine_InvalidText : PySem.W.kitOne K (.ref C_InvalidLine) (.ref C_InvalidText) = some false)
    (kt_InvalidLine_InvalidThresholds : PySem.W.kitOne K (.ref C_InvalidLine) (.ref C_InvalidThresholds) = some false)
    (kt_InvalidLine_InvalidWidth : PySem.W.kitOne K (.ref C_InvalidLine) (.ref C_InvalidWidth) = some false)
    (kt_InvalidLine_NoBench : PySem.W.kitOne K (.ref C_InvalidLine) (.ref C_NoBench) = some false)
    (kt_InvalidLine_NotExact : PySem.W.kitOne K (.ref C_InvalidLine) (.ref C_NotExact) = some false)
    (kt_InvalidLine_NothingToUndo : PySem.W.kitOne K (.ref C_InvalidLine) (.ref C_NothingToUndo) = some false)
    (kt_InvalidLine_OutOfRange : PySem.W.kitOne K (.ref C_InvalidLine) (.ref C_OutOfRange) = some false)
    (kt_InvalidLine_RoundingError : PySem.W.kitOne K (.ref C_InvalidLine) (.ref C_RoundingError) = some true)
    (kt_InvalidLine_UnknownName : PySem.W.kitOne K (.ref C_InvalidLine) (.ref C_UnknownName) = some false)
    (kt_InvalidLine_ValueError : PySem.W.kitOne K (.ref C_InvalidLine) (.type "ValueError") = some true)
    (kt_InvalidLine_ZeroResult : PySem.W.kitOne K (.ref C_InvalidLine) (.ref C_ZeroResult) = some false)
    (y_InvalidName : PySem.W.nsIn K mainGlobals "InvalidName" = some (some (.ref C_InvalidName))) (ex_InvalidName : PySem.W.subIn K (.ref C_InvalidName) (.type "BaseException") = some true) (et_InvalidName : PySem.W.typeIn K (.ref C_InvalidName) = some (.type "type")) (ek_InvalidName : PySem.W.keepIn K (.ref C_InvalidName) = true) (eu_InvalidName : PySem.W.hasDictIn K C_InvalidName = true)
    (ec_InvalidName : K.lookup C_InvalidName = some (excClassObj nm_InvalidName q_InvalidName C_InvalidName N_InvalidName bs_InvalidName bm_InvalidName true sn_InvalidName sub_InvalidName ab_InvalidName col_InvalidName dd_InvalidName k0_InvalidName k1_InvalidName k2_InvalidName k3_InvalidName k5_InvalidName "ValueError.__new__")) (em_InvalidName : PySem.HandSPX.refsVE bm_InvalidName = true)
    (es_InvalidName : PySem.W.findIn K (.ref C_InvalidName) "__setattr__" = some (some (.builtin "object.__setattr__"))) (ev_InvalidName : PySem.W.findIn K (.ref C_InvalidName) "value" = some none) (eb_InvalidName : PySem.W.findIn K (.ref C_InvalidName) "__getattribute__" = some (some (.builtin "BaseException.__getattribute__"))) (ed_InvalidName : PySem.W.findIn K (.ref C_InvalidName) "__getattr__" = some none)
    (ei_InvalidName : PySem.W.findIn K (.ref C_InvalidName) "__class__" = some (some (.builtin "object.__class__"))) (ep_InvalidName : PySem.W.mroIn K C_InvalidName (.type "object") = some true)
    (kt_InvalidName_DifferentWidths : PySem.W.kitOne K (.ref C_InvalidName) (.ref C_DifferentWidths) = some false)
    (kt_InvalidName_InvalidChain : PySem.W.kitOne K (.ref C_InvalidName) (.ref C_InvalidChain) = some false)
    (kt_InvalidName_InvalidExponent : PySem.W.kitOne K (.ref C_InvalidName) (.ref C_InvalidExponent) = some false)
    (kt_InvalidName_InvalidKind : PySem.W.kitOne K (.ref C_InvalidName) (.ref C_InvalidKind) = some false)
    (kt_InvalidName_InvalidLine : PySem.W.kitOne K (.ref C_InvalidName) (.ref C_InvalidLine) = some false)
    (kt_InvalidName_InvalidName : PySem.W.kitOne K (.ref C_InvalidName) (.ref C_InvalidName) = some true)
    (kt_InvalidName_InvalidNumber : PySem.W.kitOne K (.ref C_InvalidName) (.ref C_InvalidNumber) = some false)
    (kt_InvalidName_InvalidRange : PySem.W.kitOne K (.ref C_InvalidName) (.ref C_InvalidRange) = some false)
    (kt_InvalidName_InvalidRule : PySem.W.kitOne K (.ref C_InvalidName) (.ref C_InvalidRule) = some false)
    (kt_InvalidName_InvalidShift : PySem.W.kitOne K (.ref C_InvalidName) (.ref C_InvalidShift) = some false)
    (kt_InvalidName_InvalidText : PySem.W.kitOne K (.ref C_InvalidName) (.ref C_InvalidText) = some false)
    (kt_InvalidName_InvalidThresholds : PySem.W.kitOne K (.ref C_InvalidName) (.ref C_InvalidThresholds) = some false)
    (kt_InvalidName_InvalidWidth : PySem.W.kitOne K (.ref C_InvalidName) (.ref C_InvalidWidth) = some false)
    (kt_InvalidName_NoBench : PySem.W.kitOne K (.ref C_InvalidName) (.ref C_NoBench) = some false)
    (kt_InvalidName_NotExact : PySem.W.kitOne K (.ref C_InvalidName) (.ref C_NotExact) = some false)
    (kt_InvalidName_NothingToUndo : PySem.W.kitOne K (.ref C_InvalidName) (.ref C_NothingToUndo) = some false)
    (kt_InvalidName_OutOfRange : PySem.W.kitOne K (.ref C_InvalidName) (.ref C_OutOfRange) = some false)
    (kt_InvalidName_RoundingError : PySem.W.kitOne K (.ref C_InvalidName) (.ref C_RoundingError) = some true)
    (kt_InvalidName_UnknownName : PySem.W.kitOne K (.ref C_InvalidName) (.ref C_UnknownName) = some false)
    (kt_InvalidName_ValueError : PySem.W.kitOne K (.ref C_InvalidName) (.type "ValueError") = some true)
    (kt_InvalidName_ZeroResult : PySem.W.kitOne K (.ref C_InvalidName) (.ref C_ZeroResult) = some false)
    (y_InvalidNumber : PySem.W.nsIn K mainGlobals "InvalidNumber" = some (some (.ref C_InvalidNumber))) (ex_InvalidNumber : PySem.W.subIn K (.ref C_InvalidNumber) (.type "BaseException") = some true) (et_InvalidNumber : PySem.W.typeIn K (.ref C_InvalidNumber) = some (.type "type")) (ek_InvalidNumber : PySem.W.keepIn K (.ref C_InvalidNumber) = true) (eu_InvalidNumber : PySem.W.hasDictIn K C_InvalidNumber = true)
    (ec_InvalidNumber : K.lookup C_InvalidNumber = some (excClassObj nm_InvalidNumber q_InvalidNumber C_InvalidNumber N_InvalidNumber bs_InvalidNumber bm_InvalidNumber true sn_InvalidNumber sub_InvalidNumber ab_InvalidNumber col_InvalidNumber dd_InvalidNumber k0_InvalidNumber k1_InvalidNumber k2_InvalidNumber k3_InvalidNumber k5_InvalidNumber "ValueError.__new__")) (em_InvalidNumber : PySem.HandSPX.refsVE bm_InvalidNumber = true)
    (es_InvalidNumber : PySem.W.findIn K (.ref C_InvalidNumber) "__setattr__" = some (some (.builtin "object.__setattr__"))) (ev_InvalidNumber : PySem.W.findIn K (.ref C_InvalidNumber) "value" = some none) (eb_InvalidNumber : PySem.W.findIn K (.ref C_InvalidNumber) "__getattribute__" = some (some (.builtin "BaseException.__getattribute__"))) (ed_InvalidNumber : PySem.W.findIn K (.ref C_InvalidNumber) "__getattr__" = some none)
    (ei_InvalidNumber : PySem.W.findIn K (.ref C_InvalidNumber) "__class__" = some (some (.builtin "object.__class__"))) (ep_InvalidNumber : PySem.W.mroIn K C_InvalidNumber (.type "object") = some true)
    (kt_InvalidNumber_DifferentWidths : PySem.W.kitOne K (.ref C_InvalidNumber) (.ref C_DifferentWidths) = some false)
    (kt_InvalidNumber_InvalidChain : PySem.W.kitOne K (.ref C_InvalidNumber) (.ref C_InvalidChain) = some false)
    (kt_InvalidNumber_InvalidExponent : PySem.W.kitOne K (.ref C_InvalidNumber) (.ref C_InvalidExponent) = some false)
    (kt_InvalidNumber_InvalidKind : PySem.W.kitOne K (.ref C_InvalidNumber) (.ref C_InvalidKind) = some false)
    (kt_InvalidNumber_InvalidLine : PySem.W.kitOne K (.ref C_InvalidNumber) (.ref C_InvalidLine) = some false)
    (kt_InvalidNumber_InvalidName : PySem.W.kitOne K (.ref C_InvalidNumber) (.ref C_InvalidName) = some false)
    (kt_InvalidNumber_InvalidNumber : PySem.W.kitOne K (.ref C_InvalidNumber) (.ref C_InvalidNumber) = some true)
    (kt_InvalidNumber_InvalidRange : PySem.W.kitOne K (.ref C_InvalidNumber) (.ref C_InvalidRange) = some false)
    (kt_InvalidNumber_InvalidRule : PySem.W.kitOne K (.ref C_InvalidNumber) (.ref C_InvalidRule) = some false)
    (kt_InvalidNumber_InvalidShift : PySem.W.kitOne K (.ref C_InvalidNumber) (.ref C_InvalidShift) = some false)
    (kt_InvalidNumber_InvalidText : PySem.W.kitOne K (.ref C_InvalidNumber) (.ref C_InvalidText) = some false)
    (kt_InvalidNumber_InvalidThresholds : PySem.W.kitOne K (.ref C_InvalidNumber) (.ref C_InvalidThresholds) = some false)
    (kt_InvalidNumber_InvalidWidth : PySem.W.kitOne K (.ref C_InvalidNumber) (.ref C_InvalidWidth) = some false)
    (kt_InvalidNumber_NoBench : PySem.W.kitOne K (.ref C_InvalidNumber) (.ref C_NoBench) = some false)
    (kt_InvalidNumber_NotExact : PySem.W.kitOne K (.ref C_InvalidNumber) (.ref C_NotExact) = some false)
    (kt_InvalidNumber_NothingToUndo : PySem.W.kitOne K (.ref C_InvalidNumber) (.ref C_NothingToUndo) = some false)
    (kt_InvalidNumber_OutOfRange : PySem.W.kitOne K (.ref C_InvalidNumber) (.ref C_OutOfRange) = some false)
    (kt_InvalidNumber_RoundingError : PySem.W.kitOne K (.ref C_InvalidNumber) (.ref C_RoundingError) = some true)
    (kt_InvalidNumber_UnknownName : PySem.W.kitOne K (.ref C_InvalidNumber) (.ref C_UnknownName) = some false)
    (kt_InvalidNumber_ValueError : PySem.W.kitOne K (.ref C_InvalidNumber) (.type "ValueError") = some true)
    (kt_InvalidNumber_ZeroResult : PySem.W.kitOne K (.ref C_InvalidNumber) (.ref C_ZeroResult) = some false)
    (y_InvalidRange : PySem.W.nsIn K mainGlobals "InvalidRange" = some (some (.ref C_InvalidRange))) (ex_InvalidRange : PySem.W.subIn K (.ref C_InvalidRange) (.type "BaseException") = some true) (et_InvalidRange : PySem.W.typeIn K (.ref C_InvalidRange) = some (.type "type")) (ek_InvalidRange : PySem.W.keepIn K (.ref C_InvalidRange) = true) (eu_InvalidRange : PySem.W.hasDictIn K C_InvalidRange = true)
    (ec_InvalidRange : K.lookup C_InvalidRange = some (excClassObj nm_InvalidRange q_InvalidRange C_InvalidRange N_InvalidRange bs_InvalidRange bm_InvalidRange true sn_InvalidRange sub_InvalidRange ab_InvalidRange col_InvalidRange dd_InvalidRange k0_InvalidRange k1_InvalidRange k2_InvalidRange k3_InvalidRange k5_InvalidRange "ValueError.__new__")) (em_InvalidRange : PySem.HandSPX.refsVE bm_InvalidRange = true)
    (es_InvalidRange : PySem.W.findIn K (.ref C_InvalidRange) "__setattr__" = some (some (.builtin "object.__setattr__"))) (ev_InvalidRange : PySem.W.findIn K (.ref C_InvalidRange) "value" = some none) (eb_InvalidRange : PySem.W.findIn K (.ref C_InvalidRange) "__getattribute__" = some (some (.builtin "BaseException.__getattribute__"))) (ed_InvalidRange : PySem.W.findIn K (.ref C_InvalidRange) "__getattr__" = some none)
    (ei_InvalidRange : PySem.W.findIn K (.ref C_InvalidRange) "__class__" = some (some (.builtin "object.__class__"))) (ep_InvalidRange : PySem.W.mroIn K C_InvalidRange (.type "object") = some true)
    (kt_InvalidRange_DifferentWidths : PySem.W.kitOne K (.ref C_InvalidRange) (.ref C_DifferentWidths) = some false)
    (kt_InvalidRange_InvalidChain : PySem.W.kitOne K (.ref C_InvalidRange) (.ref C_InvalidChain) = some false)
    (kt_InvalidRange_InvalidExponent : PySem.W.kitOne K (.ref C_InvalidRange) (.ref C_InvalidExponent) = some false)
    (kt_InvalidRange_InvalidKind : PySem.W.kitOne K (.ref C_InvalidRange) (.ref C_InvalidKind) = some false)
    (kt_InvalidRange_InvalidLine : PySem.W.kitOne K (.ref C_InvalidRange) (.ref C_InvalidLine) = some false)
    (kt_InvalidRange_InvalidName : PySem.W.kitOne K (.ref C_InvalidRange) (.ref C_InvalidName) = some false)
    (kt_InvalidRange_InvalidNumber : PySem.W.kitOne K (.ref C_InvalidRange) (.ref C_InvalidNumber) = some false)
    (kt_InvalidRange_InvalidRange : PySem.W.kitOne K (.ref C_InvalidRange) (.ref C_InvalidRange) = some true)
    (kt_InvalidRange_InvalidRule : PySem.W.kitOne K (.ref C_InvalidRange) (.ref C_InvalidRule) = some false)
    (kt_InvalidRange_InvalidShift : PySem.W.kitOne K (.ref C_InvalidRange) (.ref C_InvalidShift) = some false)
    (kt_InvalidRange_InvalidText : PySem.W.kitOne K (.ref C_InvalidRange) (.ref C_InvalidText) = some false)
    (kt_InvalidRange_InvalidThresholds : PySem.W.kitOne K (.ref C_InvalidRange) (.ref C_InvalidThresholds) = some false)
    (kt_InvalidRange_InvalidWidth : PySem.W.kitOne K (.ref C_InvalidRange) (.ref C_InvalidWidth) = some false)
    (kt_InvalidRange_NoBench : PySem.W.kitOne K (.ref C_InvalidRange) (.ref C_NoBench) = some false)
    (kt_InvalidRange_NotExact : PySem.W.kitOne K (.ref C_InvalidRange) (.ref C_NotExact) = some false)
    (kt_InvalidRange_NothingToUndo : PySem.W.kitOne K (.ref C_InvalidRange) (.ref C_NothingToUndo) = some false)
    (kt_InvalidRange_OutOfRange : PySem.W.kitOne K (.ref C_InvalidRange) (.ref C_OutOfRange) = some false)
    (kt_InvalidRange_RoundingError : PySem.W.kitOne K (.ref C_InvalidRange) (.ref C_RoundingError) = some true)
    (kt_InvalidRange_UnknownName : PySem.W.kitOne K (.ref C_InvalidRange) (.ref C_UnknownName) = some false)
    (kt_InvalidRange_ValueError : PySem.W.kitOne K (.ref C_InvalidRange) (.type "ValueError") = some true)
    (kt_InvalidRange_ZeroResult : PySem.W.kitOne K (.ref C_InvalidRange) (.ref C_ZeroResult) = some false)
    (y_InvalidRule : PySem.W.nsIn K mainGlobals "InvalidRule" = some (some (.ref C_InvalidRule))) (ex_InvalidRule : PySem.W.subIn K (.ref C_InvalidRule) (.type "BaseException") = some true) (et_InvalidRule : PySem.W.typeIn K (.ref C_InvalidRule) = some (.type "type")) (ek_InvalidRule : PySem.W.keepIn K (.ref C_InvalidRule) = true) (eu_InvalidRule : PySem.W.hasDictIn K C_InvalidRule = true)
    (ec_InvalidRule : K.lookup C_InvalidRule = some (excClassObj nm_InvalidRule q_InvalidRule C_InvalidRule N_InvalidRule bs_InvalidRule bm_InvalidRule true sn_InvalidRule sub_InvalidRule ab_InvalidRule col_InvalidRule dd_InvalidRule k0_InvalidRule k1_InvalidRule k2_InvalidRule k3_InvalidRule k5_InvalidRule "ValueError.__new__")) (em_InvalidRule : PySem.HandSPX.refsVE bm_InvalidRule = true)
    (es_InvalidRule : PySem.W.findIn K (.ref C_InvalidRule) "__setattr__" = some (some (.builtin "object.__setattr__"))) (ev_InvalidRule : PySem.W.findIn K (.ref C_InvalidRule) "value" = some none) (eb_InvalidRule : PySem.W.findIn K (.ref C_InvalidRule) "__getattribute__" = some (some (.builtin "BaseException.__getattribute__"))) (ed_InvalidRule : PySem.W.findIn K (.ref C_InvalidRule) "__getattr__" = some none)
    (ei_InvalidRule : PySem.W.findIn K (.ref C_InvalidRule) "__class__" = some (some (.builtin "object.__class__"))) (ep_InvalidRule : PySem.W.mroIn K C_InvalidRule (.type "object") = some true)
    (kt_InvalidRule_DifferentWidths : PySem.W.kitOne K (.ref C_InvalidRule) (.ref C_DifferentWidths) = some false)
    (kt_InvalidRule_InvalidChain : PySem.W.kitOne K (.ref C_InvalidRule) (.ref C_InvalidChain) = some false)
    (kt_InvalidRule_InvalidExponent : PySem.W.kitOne K (.ref C_InvalidRule) (.ref C_InvalidExponent) = some false)
    (kt_InvalidRule_InvalidKind : PySem.W.kitOne K (.ref C_InvalidRule) (.ref C_InvalidKind) = some false)
    (kt_InvalidRule_InvalidLine : PySem.W.kitOne K (.ref C_InvalidRule) (.ref C_InvalidLine) = some false)
    (kt_InvalidRule_InvalidName : PySem.W.kitOne K (.ref C_InvalidRule) (.ref C_InvalidName) = some false)
    (kt_InvalidRule_InvalidNumber : PySem.W.kitOne K (.ref C_InvalidRule) (.ref C_InvalidNumber) = some false)
    (kt_InvalidRule_InvalidRange : PySem.W.kitOne K (.ref C_InvalidRule) (.ref C_InvalidRange) = some false)
    (kt_InvalidRule_InvalidRule : PySem.W.kitOne K (.ref C_InvalidRule) (.ref C_InvalidRule) = some true)
    (kt_InvalidRule_InvalidShift : PySem.W.kitOne K (.ref C_InvalidRule) (.ref C_InvalidShift) = some false)
    (kt_InvalidRule_InvalidText : PySem.W.kitOne K (.ref C_InvalidRule) (.ref C_InvalidText) = some false)
    (kt_InvalidRule_InvalidThresholds : PySem.W.kitOne K (.ref C_InvalidRule) (.ref C_InvalidThresholds) = some false)
    (kt_InvalidRule_InvalidWidth : PySem.W.kitOne K (.ref C_InvalidRule) (.ref C_InvalidWidth) = some false)
    (kt_InvalidRule_NoBench : PySem.W.kitOne K (.ref C_InvalidRule) (.ref C_NoBench) = some false)
    (kt_InvalidRule_NotExact : PySem.W.kitOne K (.ref C_InvalidRule) (.ref C_NotExact) = some false)
    (kt_InvalidRule_NothingToUndo : PySem.W.kitOne K (.ref C_InvalidRule) (.ref C_NothingToUndo) = some false)
    (kt_InvalidRule_OutOfRange : PySem.W.kitOne K (.ref C_InvalidRule) (.ref C_OutOfRange) = some false)
    (kt_InvalidRule_RoundingError : PySem.W.kitOne K (.ref C_InvalidRule) (.ref C_RoundingError) = some true)
    (kt_InvalidRule_UnknownName : PySem.W.kitOne K (.ref C_InvalidRule) (.ref C_UnknownName) = some false)
    (kt_InvalidRule_ValueError : PySem.W.kitOne K (.ref C_InvalidRule) (.type "ValueError") = some true)
    (kt_InvalidRule_ZeroResult : PySem.W.kitOne K (.ref C_InvalidRule) (.ref C_ZeroResult) = some false)
    (y_InvalidShift : PySem.W.nsIn K mainGlobals "InvalidShift" = some (some (.ref C_InvalidShift))) (ex_InvalidShift : PySem.W.subIn K (.ref C_InvalidShift) (.type "BaseException") = some true) (et_InvalidShift : PySem.W.typeIn K (.ref C_InvalidShift) = some (.type "type")) (ek_InvalidShift : PySem.W.keepIn K (.ref C_InvalidShift) = true) (eu_InvalidShift : PySem.W.hasDictIn K C_InvalidShift = true)
    (ec_InvalidShift : K.lookup C_InvalidShift = some (excClassObj nm_InvalidShift q_InvalidShift C_InvalidShift N_InvalidShift bs_InvalidShift bm_InvalidShift true sn_InvalidShift sub_InvalidShift ab_InvalidShift col_InvalidShift dd_InvalidShift k0_InvalidShift k1_InvalidShift k2_InvalidShift k3_InvalidShift k5_InvalidShift "ValueError.__new__")) (em_InvalidShift : PySem.HandSPX.refsVE bm_InvalidShift = true)
    (es_InvalidShift : PySem.W.findIn K (.ref C_InvalidShift) "__setattr__" = some (some (.builtin "object.__setattr__"))) (ev_InvalidShift : PySem.W.findIn K (.ref C_InvalidShift) "value" = some none) (eb_InvalidShift : PySem.W.findIn K (.ref C_InvalidShift) "__getattribute__" = some (some (.builtin "BaseException.__getattribute__"))) (ed_InvalidShift : PySem.W.findIn K (.ref C_InvalidShift) "__getattr__" = some none)
    (ei_InvalidShift : PySem.W.findIn K (.ref C_InvalidShift) "__class__" = some (some (.builtin "object.__class__"))) (ep_InvalidShift : PySem.W.mroIn K C_InvalidShift (.type "object") = some true)
    (kt_InvalidShift_DifferentWidths : PySem.W.kitOne K (.ref C_InvalidShift) (.ref C_DifferentWidths) = some false)
    (kt_InvalidShift_InvalidChain : PySem.W.kitOne K (.ref C_InvalidShift) (.ref C_InvalidChain) = some false)
    (kt_InvalidShift_InvalidExponent : PySem.W.kitOne K (.ref C_InvalidShift) (.ref C_InvalidExponent) = some false)
    (kt_InvalidShift_InvalidKind : PySem.W.kitOne K (.ref C_InvalidShift) (.ref C_InvalidKind) = some false)
    (kt_InvalidShift_InvalidLine : PySem.W.kitOne K (.ref C_InvalidShift) (.ref C_InvalidLine) = some false)
    (kt_InvalidShift_InvalidName : PySem.W.kitOne K (.ref C_InvalidShift) (.ref C_InvalidName) = some false)
    (kt_InvalidShift_InvalidNumber : PySem.W.kitOne K (.ref C_InvalidShift) (.ref C_InvalidNumber) = some false)
    (kt_InvalidShift_InvalidRange : PySem.W.kitOne K (.ref C_InvalidShift) (.ref C_InvalidRange) = some false)
    (kt_InvalidShift_InvalidRule : PySem.W.kitOne K (.ref C_InvalidShift) (.ref C_InvalidRule) = some false)
    (kt_InvalidShift_InvalidShift : PySem.W.kitOne K (.ref C_InvalidShift) (.ref C_InvalidShift) = some true)
    (kt_InvalidShift_InvalidText : PySem.W.kitOne K (.ref C_InvalidShift) (.ref C_InvalidText) = some false)
    (kt_InvalidShift_InvalidThresholds : PySem.W.kitOne K (.ref C_InvalidShift) (.ref C_InvalidThresholds) = some false)
    (kt_InvalidShift_InvalidWidth : PySem.W.kitOne K (.ref C_InvalidShift) (.ref C_InvalidWidth) = some false)
    (kt_InvalidShift_NoBench : PySem.W.kitOne K (.ref C_InvalidShift) (.ref C_NoBench) = some false)
    (kt_InvalidShift_NotExact : PySem.W.kitOne K (.ref C_InvalidShift) (.ref C_NotExact) = some false)
    (kt_InvalidShift_NothingToUndo : PySem.W.kitOne K (.ref C_InvalidShift) (.ref C_NothingToUndo) = some false)
    (kt_InvalidShift_OutOfRange : PySem.W.kitOne K (.ref C_InvalidShift) (.ref C_OutOfRange) = some false)
    (kt_InvalidShift_RoundingError : PySem.W.kitOne K (.ref C_InvalidShift) (.ref C_RoundingError) = some true)
    (kt_InvalidShift_UnknownName : PySem.W.kitOne K (.ref C_InvalidShift) (.ref C_UnknownName) = some false)
    (kt_InvalidShift_ValueError : PySem.W.kitOne K (.ref C_InvalidShift) (.type "ValueError") = some true)
    (kt_InvalidShift_ZeroResult : PySem.W.kitOne K (.ref C_InvalidShift) (.ref C_ZeroResult) = some false)
    (y_InvalidText : PySem.W.nsIn K mainGlobals "InvalidText" = some (some (.ref C_InvalidText))) (ex_InvalidText : PySem.W.subIn K (.ref C_InvalidText) (.type "BaseException") = some true) (et_InvalidText : PySem.W.typeIn K (.ref C_InvalidText) = some (.type "type")) (ek_InvalidText : PySem.W.keepIn K (.ref C_InvalidText) = true) (eu_InvalidText : PySem.W.hasDictIn K C_InvalidText = true)
    (ec_InvalidText : K.lookup C_InvalidText = some (excClassObj nm_InvalidText q_InvalidText C_InvalidText N_InvalidText bs_InvalidText bm_InvalidText true sn_InvalidText sub_InvalidText ab_InvalidText col_InvalidText dd_InvalidText k0_InvalidText k1_InvalidText k2_InvalidText k3_InvalidText k5_InvalidText "ValueError.__new__")) (em_InvalidText : PySem.HandSPX.refsVE bm_InvalidText = true)
    (es_InvalidText : PySem.W.findIn K (.ref C_InvalidText) "__setattr__" = some (some (.builtin "object.__setattr__"))) (ev_InvalidText : PySem.W.findIn K (.ref C_InvalidText) "value" = some none) (eb_InvalidText : PySem.W.findIn K (.ref C_InvalidText) "__getattribute__" = some (some (.builtin "BaseException.__getattribute__"))) (ed_InvalidText : PySem.W.findIn K (.ref C_InvalidText) "__getattr__" = some none)
    (ei_InvalidText : PySem.W.findIn K (.ref C_InvalidText) "__class__" = some (some (.builtin "object.__class__"))) (ep_InvalidText : PySem.W.mroIn K C_InvalidText (.type "object") = some true)
    (kt_InvalidText_DifferentWidths : PySem.W.kitOne K (.ref C_InvalidText) (.ref C_DifferentWidths) = some false)
    (kt_InvalidText_InvalidChain : PySem.W.kitOne K (.ref C_InvalidText) (.ref C_InvalidChain) = some false)
    (kt_InvalidText_InvalidExponent : PySem.W.kitOne K (.ref C_InvalidText) (.ref C_InvalidExponent) = some false)
    (kt_InvalidText_InvalidKind : PySem.W.kitOne K (.ref C_InvalidText) (.ref C_InvalidKind) = some false)
    (kt_InvalidText_InvalidLine : PySem.W.kitOne K (.ref C_InvalidText) (.ref C_InvalidLine) = some false)
    (kt_InvalidText_InvalidName : PySem.W.kitOne K (.ref C_InvalidText) (.ref C_InvalidName) = some false)
    (kt_InvalidText_InvalidNumber : PySem.W.kitOne K (.ref C_InvalidText) (.ref C_InvalidNumber) = some false)
    (kt_InvalidText_InvalidRange : PySem.W.kitOne K (.ref C_InvalidText) (.ref C_InvalidRange) = some false)
    (kt_InvalidText_InvalidRule : PySem.W.kitOne K (.ref C_InvalidText) (.ref C_InvalidRule) = some false)
    (kt_InvalidText_InvalidShift : PySem.W.kitOne K (.ref C_InvalidText) (.ref C_InvalidShift) = some false)
    (kt_InvalidText_InvalidText : PySem.W.kitOne K (.ref C_InvalidText) (.ref C_InvalidText) = some true)
    (kt_InvalidText_InvalidThresholds : PySem.W.kitOne K (.ref C_InvalidText) (.ref C_InvalidThresholds) = some false)
    (kt_InvalidText_InvalidWidth : PySem.W.kitOne K (.ref C_InvalidText) (.ref C_InvalidWidth) = some false)
    (kt_InvalidText_NoBench : PySem.W.kitOne K (.ref C_InvalidText) (.ref C_NoBench) = some false)
    (kt_InvalidText_NotExact : PySem.W.kitOne K (.ref C_InvalidText) (.ref C_NotExact) = some false)
    (kt_InvalidText_NothingToUndo : PySem.W.kitOne K (.ref C_InvalidText) (.ref C_NothingToUndo) = some false)
    (kt_InvalidText_OutOfRange : PySem.W.kitOne K (.ref C_InvalidText) (.ref C_OutOfRange) = some false)
    (kt_InvalidText_RoundingError : PySem.W.kitOne K (.ref C_InvalidText) (.ref C_RoundingError) = some true)
    (kt_InvalidText_UnknownName : PySem.W.kitOne K (.ref C_InvalidText) (.ref C_UnknownName) = some false)
    (kt_InvalidText_ValueError : PySem.W.kitOne K (.ref C_InvalidText) (.type "ValueError") = some true)
    (kt_InvalidText_ZeroResult : PySem.W.kitOne K (.ref C_InvalidText) (.ref C_ZeroResult) = some false)
    (y_InvalidThresholds : PySem.W.nsIn K mainGlobals "InvalidThresholds" = some (some (.ref C_InvalidThresholds))) (ex_InvalidThresholds : PySem.W.subIn K (.ref C_InvalidThresholds) (.type "BaseException") = some true) (et_InvalidThresholds : PySem.W.typeIn K (.ref C_InvalidThresholds) = some (.type "type")) (ek_InvalidThresholds : PySem.W.keepIn K (.ref C_InvalidThresholds) = true) (eu_InvalidThresholds : PySem.W.hasDictIn K C_InvalidThresholds = true)
    (ec_InvalidThresholds : K.lookup C_InvalidThresholds = some (excClassObj nm_InvalidThresholds q_InvalidThresholds C_InvalidThresholds N_InvalidThresholds bs_InvalidThresholds bm_InvalidThresholds true sn_InvalidThresholds sub_InvalidThresholds ab_InvalidThresholds col_InvalidThresholds dd_InvalidThresholds k0_InvalidThresholds k1_InvalidThresholds k2_InvalidThresholds k3_InvalidThresholds k5_InvalidThresholds "ValueError.__new__")) (em_InvalidThresholds : PySem.HandSPX.refsVE bm_InvalidThresholds = true)
    (es_InvalidThresholds : PySem.W.findIn K (.ref C_InvalidThresholds) "__setattr__" = some (some (.builtin "object.__setattr__"))) (ev_InvalidThresholds : PySem.W.findIn K (.ref C_InvalidThresholds) "value" = some none) (eb_InvalidThresholds : PySem.W.findIn K (.ref C_InvalidThresholds) "__getattribute__" = some (some (.builtin "BaseException.__getattribute__"))) (ed_InvalidThresholds : PySem.W.findIn K (.ref C_InvalidThresholds) "__getattr__" = some none)
    (ei_InvalidThresholds : PySem.W.findIn K (.ref C_InvalidThresholds) "__class__" = some (some (.builtin "object.__class__"))) (ep_InvalidThresholds : PySem.W.mroIn K C_InvalidThresholds (.type "object") = some true)
    (kt_InvalidThresholds_DifferentWidths : PySem.W.kitOne K (.ref C_InvalidThresholds) (.ref C_DifferentWidths) = some false)
    (kt_InvalidThresholds_InvalidChain : PySem.W.kitOne K (.ref C_InvalidThresholds) (.ref C_InvalidChain) = some false)
    (kt_InvalidThresholds_InvalidExponent : PySem.W.kitOne K (.ref C_InvalidThresholds) (.ref C_InvalidExponent) = some false)
    (kt_InvalidThresholds_InvalidKind : PySem.W.kitOne K (.ref C_InvalidThresholds) (.ref C_InvalidKind) = some false)
    (kt_InvalidThresholds_InvalidLine : PySem.W.kitOne K (.ref C_InvalidThresholds) (.ref C_InvalidLine) = some false)
    (kt_InvalidThresholds_InvalidName : PySem.W.kitOne K (.ref C_InvalidThresholds) (.ref C_InvalidName) = some false)
    (kt_InvalidThresholds_InvalidNumber : PySem.W.kitOne K (.ref C_InvalidThresholds) (.ref C_InvalidNumber) = some false)
    (kt_InvalidThresholds_InvalidRange : PySem.W.kitOne K (.ref C_InvalidThresholds) (.ref C_InvalidRange) = some false)
    (kt_InvalidThresholds_InvalidRule : PySem.W.kitOne K (.ref C_InvalidThresholds) (.ref C_InvalidRule) = some false)
    (kt_InvalidThresholds_InvalidShift : PySem.W.kitOne K (.ref C_InvalidThresholds) (.ref C_InvalidShift) = some false)
    (kt_InvalidThresholds_InvalidText : PySem.W.kitOne K (.ref C_InvalidThresholds) (.ref C_InvalidText) = some false)
    (kt_InvalidThresholds_InvalidThresholds : PySem.W.kitOne K (.ref C_InvalidThresholds) (.ref C_InvalidThresholds) = some true)
    (kt_InvalidThresholds_InvalidWidth : PySem.W.kitOne K (.ref C_InvalidThresholds) (.ref C_InvalidWidth) = some false)
    (kt_InvalidThresholds_NoBench : PySem.W.kitOne K (.ref C_InvalidThresholds) (.ref C_NoBench) = some false)
    (kt_InvalidThresholds_NotExact : PySem.W.kitOne K (.ref C_InvalidThresholds) (.ref C_NotExact) = some false)
    (kt_InvalidThresholds_NothingToUndo : PySem.W.kitOne K (.ref C_InvalidThresholds) (.ref C_NothingToUndo) = some false)
    (kt_InvalidThresholds_OutOfRange : PySem.W.kitOne K (.ref C_InvalidThresholds) (.ref C_OutOfRange) = some false)
    (kt_InvalidThresholds_RoundingError : PySem.W.kitOne K (.ref C_InvalidThresholds) (.ref C_RoundingError) = some true)
    (kt_InvalidThresholds_UnknownName : PySem.W.kitOne K (.ref C_InvalidThresholds) (.ref C_UnknownName) = some false)
    (kt_InvalidThresholds_ValueError : PySem.W.kitOne K (.ref C_InvalidThresholds) (.type "ValueError") = some true)
    (kt_InvalidThresholds_ZeroResult : PySem.W.kitOne K (.ref C_InvalidThresholds) (.ref C_ZeroResult) = some false)
    (y_InvalidWidth : PySem.W.nsIn K mainGlobals "InvalidWidth" = some (some (.ref C_InvalidWidth))) (ex_InvalidWidth : PySem.W.subIn K (.ref C_InvalidWidth) (.type "BaseException") = some true) (et_InvalidWidth : PySem.W.typeIn K (.ref C_InvalidWidth) = some (.type "type")) (ek_InvalidWidth : PySem.W.keepIn K (.ref C_InvalidWidth) = true) (eu_InvalidWidth : PySem.W.hasDictIn K C_InvalidWidth = true)
    (ec_InvalidWidth : K.lookup C_InvalidWidth = some (excClassObj nm_InvalidWidth q_InvalidWidth C_InvalidWidth N_InvalidWidth bs_InvalidWidth bm_InvalidWidth true sn_InvalidWidth sub_InvalidWidth ab_InvalidWidth col_InvalidWidth dd_InvalidWidth k0_InvalidWidth k1_InvalidWidth k2_InvalidWidth k3_InvalidWidth k5_InvalidWidth "ValueError.__new__")) (em_InvalidWidth : PySem.HandSPX.refsVE bm_InvalidWidth = true)
    (es_InvalidWidth : PySem.W.findIn K (.ref C_InvalidWidth) "__setattr__" = some (some (.builtin "object.__setattr__"))) (ev_InvalidWidth : PySem.W.findIn K (.ref C_InvalidWidth) "value" = some none) (eb_InvalidWidth : PySem.W.findIn K (.ref C_InvalidWidth) "__getattribute__" = some (some (.builtin "BaseException.__getattribute__"))) (ed_InvalidWidth : PySem.W.findIn K (.ref C_InvalidWidth) "__getattr__" = some none)
    (ei_InvalidWidth : PySem.W.findIn K (.ref C_InvalidWidth) "__class__" = some (some (.builtin "object.__class__"))) (ep_InvalidWidth : PySem.W.mroIn K C_InvalidWidth (.type "object") = some true)
    (kt_InvalidWidth_DifferentWidths : PySem.W.kitOne K (.ref C_InvalidWidth) (.ref C_DifferentWidths) = some false)
    (kt_InvalidWidth_InvalidChain : PySem.W.kitOne K (.ref C_InvalidWidth) (.ref C_InvalidChain) = some false)
    (kt_InvalidWidth_InvalidExponent : PySem.W.kitOne K (.ref C_InvalidWidth) (.ref C_InvalidExponent) = some false)
    (kt_InvalidWidth_InvalidKind : PySem.W.kitOne K (.ref C_InvalidWidth) (.ref C_InvalidKind) = some false)
    (kt_InvalidWidth_InvalidLine : PySem.W.kitOne K (.ref C_InvalidWidth) (.ref C_InvalidLine) = some false)
    (kt_InvalidWidth_InvalidName : PySem.W.kitOne K (.ref C_InvalidWidth) (.ref C_InvalidName) = some false)
    (kt_InvalidWidth_InvalidNumber : PySem.W.kitOne K (.ref C_InvalidWidth) (.ref C_InvalidNumber) = some false)
    (kt_InvalidWidth_InvalidRange : PySem.W.kitOne K (.ref C_InvalidWidth) (.ref C_InvalidRange) = some false)
    (kt_InvalidWidth_InvalidRule : PySem.W.kitOne K (.ref C_InvalidWidth) (.ref C_InvalidRule) = some false)
    (kt_InvalidWidth_InvalidShift : PySem.W.kitOne K (.ref C_InvalidWidth) (.ref C_InvalidShift) = some false)
    (kt_InvalidWidth_InvalidText : PySem.W.kitOne K (.ref C_InvalidWidth) (.ref C_InvalidText) = some false)
    (kt_InvalidWidth_InvalidThresholds : PySem.W.kitOne K (.ref C_InvalidWidth) (.ref C_InvalidThresholds) = some false)
    (kt_InvalidWidth_InvalidWidth : PySem.W.kitOne K (.ref C_InvalidWidth) (.ref C_InvalidWidth) = some true)
    (kt_InvalidWidth_NoBench : PySem.W.kitOne K (.ref C_InvalidWidth) (.ref C_NoBench) = some false)
    (kt_InvalidWidth_NotExact : PySem.W.kitOne K (.ref C_InvalidWidth) (.ref C_NotExact) = some false)
    (kt_InvalidWidth_NothingToUndo : PySem.W.kitOne K (.ref C_InvalidWidth) (.ref C_NothingToUndo) = some false)
    (kt_InvalidWidth_OutOfRange : PySem.W.kitOne K (.ref C_InvalidWidth) (.ref C_OutOfRange) = some false)
    (kt_InvalidWidth_RoundingError : PySem.W.kitOne K (.ref C_InvalidWidth) (.ref C_RoundingError) = some true)
    (kt_InvalidWidth_UnknownName : PySem.W.kitOne K (.ref C_InvalidWidth) (.ref C_UnknownName) = some false)
    (kt_InvalidWidth_ValueError : PySem.W.kitOne K (.ref C_InvalidWidth) (.type "ValueError") = some true)
    (kt_InvalidWidth_ZeroResult : PySem.W.kitOne K (.ref C_InvalidWidth) (.ref C_ZeroResult) = some false)
    (y_NoBench : PySem.W.nsIn K mainGlobals "NoBench" = some (some (.ref C_NoBench))) (ex_NoBench : PySem.W.subIn K (.ref C_NoBench) (.type "BaseException") = some true) (et_NoBench : PySem.W.typeIn K (.ref C_NoBench) = some (.type "type")) (ek_NoBench : PySem.W.keepIn K (.ref C_NoBench) = true) (eu_NoBench : PySem.W.hasDictIn K C_NoBench = true)
    (ec_NoBench : K.lookup C_NoBench = some (excClassObj nm_NoBench q_NoBench C_NoBench N_NoBench bs_NoBench bm_NoBench true sn_NoBench sub_NoBench ab_NoBench col_NoBench dd_NoBench k0_NoBench k1_NoBench k2_NoBench k3_NoBench k5_NoBench "ValueError.__new__")) (em_NoBench : PySem.HandSPX.refsVE bm_NoBench = true) (es_NoBench : PySem.W.findIn K (.ref C_NoBench) "__setattr__" = some (some (.builtin "object.__setattr__")))
    (eb_NoBench : PySem.W.findIn K (.ref C_NoBench) "__getattribute__" = some (some (.builtin "BaseException.__getattribute__"))) (ed_NoBench : PySem.W.findIn K (.ref C_NoBench) "__getattr__" = some none)
    (ei_NoBench : PySem.W.findIn K (.ref C_NoBench) "__class__" = some (some (.builtin "object.__class__"))) (ep_NoBench : PySem.W.mroIn K C_NoBench (.type "object") = some true)
    (kt_NoBench_DifferentWidths : PySem.W.kitOne K (.ref C_NoBench) (.ref C_DifferentWidths) = some false)
    (kt_NoBench_InvalidChain : PySem.W.kitOne K (.ref C_NoBench) (.ref C_InvalidChain) = some false)
    (kt_NoBench_InvalidExponent : PySem.W.kitOne K (.ref C_NoBench) (.ref C_InvalidExponent) = some false)
    (kt_NoBench_InvalidKind : PySem.W.kitOne K (.ref C_NoBench) (.ref C_InvalidKind) = some false)
    (kt_NoBench_InvalidLine : PySem.W.kitOne K (.ref C_NoBench) (.ref C_InvalidLine) = some false)
    (kt_NoBench_InvalidName : PySem.W.kitOne K (.ref C_NoBench) (.ref C_InvalidName) = some false)
    (kt_NoBench_InvalidNumber : PySem.W.kitOne K (.ref C_NoBench) (.ref C_InvalidNumber) = some false)
    (kt_NoBench_InvalidRange : PySem.W.kitOne K (.ref C_NoBench) (.ref C_InvalidRange) = some false)
    (kt_NoBench_InvalidRule : PySem.W.kitOne K (.ref C_NoBench) (.ref C_InvalidRule) = some false)
    (kt_NoBench_InvalidShift : PySem.W.kitOne K (.ref C_NoBench) (.ref C_InvalidShift) = some false)
    (kt_NoBench_InvalidText : PySem.W.kitOne K (.ref C_NoBench) (.ref C_InvalidText) = some false)
    (kt_NoBench_InvalidThresholds : PySem.W.kitOne K (.ref C_NoBench) (.ref C_InvalidThresholds) = some false)
    (kt_NoBench_InvalidWidth : PySem.W.kitOne K (.ref C_NoBench) (.ref C_InvalidWidth) = some false)
    (kt_NoBench_NoBench : PySem.W.kitOne K (.ref C_NoBench) (.ref C_NoBench) = some true)
    (kt_NoBench_NotExact : PySem.W.kitOne K (.ref C_NoBench) (.ref C_NotExact) = some false)
    (kt_NoBench_NothingToUndo : PySem.W.kitOne K (.ref C_NoBench) (.ref C_NothingToUndo) = some false)
    (kt_NoBench_OutOfRange : PySem.W.kitOne K (.ref C_NoBench) (.ref C_OutOfRange) = some false)
    (kt_NoBench_RoundingError : PySem.W.kitOne K (.ref C_NoBench) (.ref C_RoundingError) = some true)
    (kt_NoBench_UnknownName : PySem.W.kitOne K (.ref C_NoBench) (.ref C_UnknownName) = some false)
    (kt_NoBench_ValueError : PySem.W.kitOne K (.ref C_NoBench) (.type "ValueError") = some true)
    (kt_NoBench_ZeroResult : PySem.W.kitOne K (.ref C_NoBench) (.ref C_ZeroResult) = some false)
    (y_NotExact : PySem.W.nsIn K mainGlobals "NotExact" = some (some (.ref C_NotExact))) (ex_NotExact : PySem.W.subIn K (.ref C_NotExact) (.type "BaseException") = some true) (et_NotExact : PySem.W.typeIn K (.ref C_NotExact) = some (.type "type")) (ek_NotExact : PySem.W.keepIn K (.ref C_NotExact) = true) (eu_NotExact : PySem.W.hasDictIn K C_NotExact = true)
    (ec_NotExact : K.lookup C_NotExact = some (excClassObj nm_NotExact q_NotExact C_NotExact N_NotExact bs_NotExact bm_NotExact true sn_NotExact sub_NotExact ab_NotExact col_NotExact dd_NotExact k0_NotExact k1_NotExact k2_NotExact k3_NotExact k5_NotExact "ValueError.__new__")) (em_NotExact : PySem.HandSPX.refsVE bm_NotExact = true)
    (es_NotExact : PySem.W.findIn K (.ref C_NotExact) "__setattr__" = some (some (.builtin "object.__setattr__"))) (ev_NotExact : PySem.W.findIn K (.ref C_NotExact) "value" = some none) (eb_NotExact : PySem.W.findIn K (.ref C_NotExact) "__getattribute__" = some (some (.builtin "BaseException.__getattribute__"))) (ed_NotExact : PySem.W.findIn K (.ref C_NotExact) "__getattr__" = some none)
    (ei_NotExact : PySem.W.findIn K (.ref C_NotExact) "__class__" = some (some (.builtin "object.__class__"))) (ep_NotExact : PySem.W.mroIn K C_NotExact (.type "object") = some true)
    (kt_NotExact_DifferentWidths : PySem.W.kitOne K (.ref C_NotExact) (.ref C_DifferentWidths) = some false)
    (kt_NotExact_InvalidChain : PySem.W.kitOne K (.ref C_NotExact) (.ref C_InvalidChain) = some false)
    (kt_NotExact_InvalidExponent : PySem.W.kitOne K (.ref C_NotExact) (.ref C_InvalidExponent) = some false)
    (kt_NotExact_InvalidKind : PySem.W.kitOne K (.ref C_NotExact) (.ref C_InvalidKind) = some false)
    (kt_NotExact_InvalidLine : PySem.W.kitOne K (.ref C_NotExact) (.ref C_InvalidLine) = some false)
    (kt_NotExact_InvalidName : PySem.W.kitOne K (.ref C_NotExact) (.ref C_InvalidName) = some false)
    (kt_NotExact_InvalidNumber : PySem.W.kitOne K (.ref C_NotExact) (.ref C_InvalidNumber) = some false)
    (kt_NotExact_InvalidRange : PySem.W.kitOne K (.ref C_NotExact) (.ref C_InvalidRange) = some false)
    (kt_NotExact_InvalidRule : PySem.W.kitOne K (.ref C_NotExact) (.ref C_InvalidRule) = some false)
    (kt_NotExact_InvalidShift : PySem.W.kitOne K (.ref C_NotExact) (.ref C_InvalidShift) = some false)
    (kt_NotExact_InvalidText : PySem.W.kitOne K (.ref C_NotExact) (.ref C_InvalidText) = some false)
    (kt_NotExact_InvalidThresholds : PySem.W.kitOne K (.ref C_NotExact) (.ref C_InvalidThresholds) = some false)
    (kt_NotExact_InvalidWidth : PySem.W.kitOne K (.ref C_NotExact) (.ref C_InvalidWidth) = some false)
    (kt_NotExact_NoBench : PySem.W.kitOne K (.ref C_NotExact) (.ref C_NoBench) = some false)
    (kt_NotExact_NotExact : PySem.W.kitOne K (.ref C_NotExact) (.ref C_NotExact) = some true)
    (kt_NotExact_NothingToUndo : PySem.W.kitOne K (.ref C_NotExact) (.ref C_NothingToUndo) = some false)
    (kt_NotExact_OutOfRange : PySem.W.kitOne K (.ref C_NotExact) (.ref C_OutOfRange) = some false)
    (kt_NotExact_RoundingError : PySem.W.kitOne K (.ref C_NotExact) (.ref C_RoundingError) = some true)
    (kt_NotExact_UnknownName : PySem.W.kitOne K (.ref C_NotExact) (.ref C_UnknownName) = some false)
    (kt_NotExact_ValueError : PySem.W.kitOne K (.ref C_NotExact) (.type "ValueError") = some true)
    (kt_NotExact_ZeroResult : PySem.W.kitOne K (.ref C_NotExact) (.ref C_ZeroResult) = some false)
    (y_NothingToUndo : PySem.W.nsIn K mainGlobals "NothingToUndo" = some (some (.ref C_NothingToUndo))) (ex_NothingToUndo : PySem.W.subIn K (.ref C_NothingToUndo) (.type "BaseException") = some true) (et_NothingToUndo : PySem.W.typeIn K (.ref C_NothingToUndo) = some (.type "type")) (ek_NothingToUndo : PySem.W.keepIn K (.ref C_NothingToUndo) = true) (eu_NothingToUndo : PySem.W.hasDictIn K C_NothingToUndo = true)
    (ec_NothingToUndo : K.lookup C_NothingToUndo = some (excClassObj nm_NothingToUndo q_NothingToUndo C_NothingToUndo N_NothingToUndo bs_NothingToUndo bm_NothingToUndo true sn_NothingToUndo sub_NothingToUndo ab_NothingToUndo col_NothingToUndo dd_NothingToUndo k0_NothingToUndo k1_NothingToUndo k2_NothingToUndo k3_NothingToUndo k5_NothingToUndo "ValueError.__new__")) (em_NothingToUndo : PySem.HandSPX.refsVE bm_NothingToUndo = true) (es_NothingToUndo : PySem.W.findIn K (.ref C_NothingToUndo) "__setattr__" = some (some (.builtin "object.__setattr__")))
    (eb_NothingToUndo : PySem.W.findIn K (.ref C_NothingToUndo) "__getattribute__" = some (some (.builtin "BaseException.__getattribute__"))) (ed_NothingToUndo : PySem.W.findIn K (.ref C_NothingToUndo) "__getattr__" = some none)
    (ei_NothingToUndo : PySem.W.findIn K (.ref C_NothingToUndo) "__class__" = some (some (.builtin "object.__class__"))) (ep_NothingToUndo : PySem.W.mroIn K C_NothingToUndo (.type "object") = some true)
    (kt_NothingToUndo_DifferentWidths : PySem.W.kitOne K (.ref C_NothingToUndo) (.ref C_DifferentWidths) = some false)
    (kt_NothingToUndo_InvalidChain : PySem.W.kitOne K (.ref C_NothingToUndo) (.ref C_InvalidChain) = some false)
    (kt_NothingToUndo_InvalidExponent : PySem.W.kitOne K (.ref C_NothingToUndo) (.ref C_InvalidExponent) = some false)
    (kt_NothingToUndo_InvalidKind : PySem.W.kitOne K (.ref C_NothingToUndo) (.ref C_InvalidKind) = some false)
    (kt_NothingToUndo_InvalidLine : PySem.W.kitOne K (.ref C_NothingToUndo) (.ref C_InvalidLine) = some false)
    (kt_NothingToUndo_InvalidName : PySem.W.kitOne K (.ref C_NothingToUndo) (.ref C_InvalidName) = some false)
    (kt_NothingToUndo_InvalidNumber : PySem.W.kitOne K (.ref C_NothingToUndo) (.ref C_InvalidNumber) = some false)
    (kt_NothingToUndo_InvalidRange : PySem.W.kitOne K (.ref C_NothingToUndo) (.ref C_InvalidRange) = some false)
    (kt_NothingToUndo_InvalidRule : PySem.W.kitOne K (.ref C_NothingToUndo) (.ref C_InvalidRule) = some false)
    (kt_NothingToUndo_InvalidShift : PySem.W.kitOne K (.ref C_NothingToUndo) (.ref C_InvalidShift) = some false)
    (kt_NothingToUndo_InvalidText : PySem.W.kitOne K (.ref C_NothingToUndo) (.ref C_InvalidText) = some false)
    (kt_NothingToUndo_InvalidThresholds : PySem.W.kitOne K (.ref C_NothingToUndo) (.ref C_InvalidThresholds) = some false)
    (kt_NothingToUndo_InvalidWidth : PySem.W.kitOne K (.ref C_NothingToUndo) (.ref C_InvalidWidth) = some false)
    (kt_NothingToUndo_NoBench : PySem.W.kitOne K (.ref C_NothingToUndo) (.ref C_NoBench) = some false)
    (kt_NothingToUndo_NotExact : PySem.W.kitOne K (.ref C_NothingToUndo) (.ref C_NotExact) = some false)
    (kt_NothingToUndo_NothingToUndo : PySem.W.kitOne K (.ref C_NothingToUndo) (.ref C_NothingToUndo) = some true)
    (kt_NothingToUndo_OutOfRange : PySem.W.kitOne K (.ref C_NothingToUndo) (.ref C_OutOfRange) = some false)
    (kt_NothingToUndo_RoundingError : PySem.W.kitOne K (.ref C_NothingToUndo) (.ref C_RoundingError) = some true)
    (kt_NothingToUndo_UnknownName : PySem.W.kitOne K (.ref C_NothingToUndo) (.ref C_UnknownName) = some false)
    (kt_NothingToUndo_ValueError : PySem.W.kitOne K (.ref C_NothingToUndo) (.type "ValueError") = some true)
    (kt_NothingToUndo_ZeroResult : PySem.W.kitOne K (.ref C_NothingToUndo) (.ref C_ZeroResult) = some false)
    (y_OutOfRange : PySem.W.nsIn K mainGlobals "OutOfRange" = some (some (.ref C_OutOfRange))) (ex_OutOfRange : PySem.W.subIn K (.ref C_OutOfRange) (.type "BaseException") = some true) (et_OutOfRange : PySem.W.typeIn K (.ref C_OutOfRange) = some (.type "type")) (ek_OutOfRange : PySem.W.keepIn K (.ref C_OutOfRange) = true) (eu_OutOfRange : PySem.W.hasDictIn K C_OutOfRange = true)
    (ec_OutOfRange : K.lookup C_OutOfRange = some (excClassObj nm_OutOfRange q_OutOfRange C_OutOfRange N_OutOfRange bs_OutOfRange bm_OutOfRange true sn_OutOfRange sub_OutOfRange ab_OutOfRange col_OutOfRange dd_OutOfRange k0_OutOfRange k1_OutOfRange k2_OutOfRange k3_OutOfRange k5_OutOfRange "ValueError.__new__")) (em_OutOfRange : PySem.HandSPX.refsVE bm_OutOfRange = true) (es_OutOfRange : PySem.W.findIn K (.ref C_OutOfRange) "__setattr__" = some (some (.builtin "object.__setattr__")))
    (eb_OutOfRange : PySem.W.findIn K (.ref C_OutOfRange) "__getattribute__" = some (some (.builtin "BaseException.__getattribute__"))) (ed_OutOfRange : PySem.W.findIn K (.ref C_OutOfRange) "__getattr__" = some none)
    (ei_OutOfRange : PySem.W.findIn K (.ref C_OutOfRange) "__class__" = some (some (.builtin "object.__class__"))) (ep_OutOfRange : PySem.W.mroIn K C_OutOfRange (.type "object") = some true)
    (kt_OutOfRange_DifferentWidths : PySem.W.kitOne K (.ref C_OutOfRange) (.ref C_DifferentWidths) = some false)
    (kt_OutOfRange_InvalidChain : PySem.W.kitOne K (.ref C_OutOfRange) (.ref C_InvalidChain) = some false)
    (kt_OutOfRange_InvalidExponent : PySem.W.kitOne K (.ref C_OutOfRange) (.ref C_InvalidExponent) = some false)
    (kt_OutOfRange_InvalidKind : PySem.W.kitOne K (.ref C_OutOfRange) (.ref C_InvalidKind) = some false)
    (kt_OutOfRange_InvalidLine : PySem.W.kitOne K (.ref C_OutOfRange) (.ref C_InvalidLine) = some false)
    (kt_OutOfRange_InvalidName : PySem.W.kitOne K (.ref C_OutOfRange) (.ref C_InvalidName) = some false)
    (kt_OutOfRange_InvalidNumber : PySem.W.kitOne K (.ref C_OutOfRange) (.ref C_InvalidNumber) = some false)
    (kt_OutOfRange_InvalidRange : PySem.W.kitOne K (.ref C_OutOfRange) (.ref C_InvalidRange) = some false)
    (kt_OutOfRange_InvalidRule : PySem.W.kitOne K (.ref C_OutOfRange) (.ref C_InvalidRule) = some false)
    (kt_OutOfRange_InvalidShift : PySem.W.kitOne K (.ref C_OutOfRange) (.ref C_InvalidShift) = some false)
    (kt_OutOfRange_InvalidText : PySem.W.kitOne K (.ref C_OutOfRange) (.ref C_InvalidText) = some false)
    (kt_OutOfRange_InvalidThresholds : PySem.W.kitOne K (.ref C_OutOfRange) (.ref C_InvalidThresholds) = some false)
    (kt_OutOfRange_InvalidWidth : PySem.W.kitOne K (.ref C_OutOfRange) (.ref C_InvalidWidth) = some false)
    (kt_OutOfRange_NoBench : PySem.W.kitOne K (.ref C_OutOfRange) (.ref C_NoBench) = some false)
    (kt_OutOfRange_NotExact : PySem.W.kitOne K (.ref C_OutOfRange) (.ref C_NotExact) = some false)
    (kt_OutOfRange_NothingToUndo : PySem.W.kitOne K (.ref C_OutOfRange) (.ref C_NothingToUndo) = some false)
    (kt_OutOfRange_OutOfRange : PySem.W.kitOne K (.ref C_OutOfRange) (.ref C_OutOfRange) = some true)
    (kt_OutOfRange_RoundingError : PySem.W.kitOne K (.ref C_OutOfRange) (.ref C_RoundingError) = some true)
    (kt_OutOfRange_UnknownName : PySem.W.kitOne K (.ref C_OutOfRange) (.ref C_UnknownName) = some false)
    (kt_OutOfRange_ValueError : PySem.W.kitOne K (.ref C_OutOfRange) (.type "ValueError") = some true)
    (kt_OutOfRange_ZeroResult : PySem.W.kitOne K (.ref C_OutOfRange) (.ref C_ZeroResult) = some false)
    (y_UnknownName : PySem.W.nsIn K mainGlobals "UnknownName" = some (some (.ref C_UnknownName))) (ex_UnknownName : PySem.W.subIn K (.ref C_UnknownName) (.type "BaseException") = some true) (et_UnknownName : PySem.W.typeIn K (.ref C_UnknownName) = some (.type "type")) (ek_UnknownName : PySem.W.keepIn K (.ref C_UnknownName) = true) (eu_UnknownName : PySem.W.hasDictIn K C_UnknownName = true)
    (ec_UnknownName : K.lookup C_UnknownName = some (excClassObj nm_UnknownName q_UnknownName C_UnknownName N_UnknownName bs_UnknownName bm_UnknownName true sn_UnknownName sub_UnknownName ab_UnknownName col_UnknownName dd_UnknownName k0_UnknownName k1_UnknownName k2_UnknownName k3_UnknownName k5_UnknownName "ValueError.__new__")) (em_UnknownName : PySem.HandSPX.refsVE bm_UnknownName = true)
    (es_UnknownName : PySem.W.findIn K (.ref C_UnknownName) "__setattr__" = some (some (.builtin "object.__setattr__"))) (ev_UnknownName : PySem.W.findIn K (.ref C_UnknownName) "value" = some none) (eb_UnknownName : PySem.W.findIn K (.ref C_UnknownName) "__getattribute__" = some (some (.builtin "BaseException.__getattribute__"))) (ed_UnknownName : PySem.W.findIn K (.ref C_UnknownName) "__getattr__" = some none)
    (ei_UnknownName : PySem.W.findIn K (.ref C_UnknownName) "__class__" = some (some (.builtin "object.__class__"))) (ep_UnknownName : PySem.W.mroIn K C_UnknownName (.type "object") = some true)
    (kt_UnknownName_DifferentWidths : PySem.W.kitOne K (.ref C_UnknownName) (.ref C_DifferentWidths) = some false)
    (kt_UnknownName_InvalidChain : PySem.W.kitOne K (.ref C_UnknownName) (.ref C_InvalidChain) = some false)
    (kt_UnknownName_InvalidExponent : PySem.W.kitOne K (.ref C_UnknownName) (.ref C_InvalidExponent) = some false)
    (kt_UnknownName_InvalidKind : PySem.W.kitOne K (.ref C_UnknownName) (.ref C_InvalidKind) = some false)
    (kt_UnknownName_InvalidLine : PySem.W.kitOne K (.ref C_UnknownName) (.ref C_InvalidLine) = some false)
    (kt_UnknownName_InvalidName : PySem.W.kitOne K (.ref C_UnknownName) (.ref C_InvalidName) = some false)
    (kt_UnknownName_InvalidNumber : PySem.W.kitOne K (.ref C_UnknownName) (.ref C_InvalidNumber) = some false)
    (kt_UnknownName_InvalidRange : PySem.W.kitOne K (.ref C_UnknownName) (.ref C_InvalidRange) = some false)
    (kt_UnknownName_InvalidRule : PySem.W.kitOne K (.ref C_UnknownName) (.ref C_InvalidRule) = some false)
    (kt_UnknownName_InvalidShift : PySem.W.kitOne K (.ref C_UnknownName) (.ref C_InvalidShift) = some false)
    (kt_UnknownName_InvalidText : PySem.W.kitOne K (.ref C_UnknownName) (.ref C_InvalidText) = some false)
    (kt_UnknownName_InvalidThresholds : PySem.W.kitOne K (.ref C_UnknownName) (.ref C_InvalidThresholds) = some false)
    (kt_UnknownName_InvalidWidth : PySem.W.kitOne K (.ref C_UnknownName) (.ref C_InvalidWidth) = some false)
    (kt_UnknownName_NoBench : PySem.W.kitOne K (.ref C_UnknownName) (.ref C_NoBench) = some false)
    (kt_UnknownName_NotExact : PySem.W.kitOne K (.ref C_UnknownName) (.ref C_NotExact) = some false)
    (kt_UnknownName_NothingToUndo : PySem.W.kitOne K (.ref C_UnknownName) (.ref C_NothingToUndo) = some false)
    (kt_UnknownName_OutOfRange : PySem.W.kitOne K (.ref C_UnknownName) (.ref C_OutOfRange) = some false)
    (kt_UnknownName_RoundingError : PySem.W.kitOne K (.ref C_UnknownName) (.ref C_RoundingError) = some true)
    (kt_UnknownName_UnknownName : PySem.W.kitOne K (.ref C_UnknownName) (.ref C_UnknownName) = some true)
    (kt_UnknownName_ValueError : PySem.W.kitOne K (.ref C_UnknownName) (.type "ValueError") = some true)
    (kt_UnknownName_ZeroResult : PySem.W.kitOne K (.ref C_UnknownName) (.ref C_ZeroResult) = some false)
    (y_ZeroResult : PySem.W.nsIn K mainGlobals "ZeroResult" = some (some (.ref C_ZeroResult))) (ex_ZeroResult : PySem.W.subIn K (.ref C_ZeroResult) (.type "BaseException") = some true) (et_ZeroResult : PySem.W.typeIn K (.ref C_ZeroResult) = some (.type "type")) (ek_ZeroResult : PySem.W.keepIn K (.ref C_ZeroResult) = true) (eu_ZeroResult : PySem.W.hasDictIn K C_ZeroResult = true)
    (ec_ZeroResult : K.lookup C_ZeroResult = some (excClassObj nm_ZeroResult q_ZeroResult C_ZeroResult N_ZeroResult bs_ZeroResult bm_ZeroResult true sn_ZeroResult sub_ZeroResult ab_ZeroResult col_ZeroResult dd_ZeroResult k0_ZeroResult k1_ZeroResult k2_ZeroResult k3_ZeroResult k5_ZeroResult "ValueError.__new__")) (em_ZeroResult : PySem.HandSPX.refsVE bm_ZeroResult = true) (es_ZeroResult : PySem.W.findIn K (.ref C_ZeroResult) "__setattr__" = some (some (.builtin "object.__setattr__")))
    (eb_ZeroResult : PySem.W.findIn K (.ref C_ZeroResult) "__getattribute__" = some (some (.builtin "BaseException.__getattribute__"))) (ed_ZeroResult : PySem.W.findIn K (.ref C_ZeroResult) "__getattr__" = some none)
    (ei_ZeroResult : PySem.W.findIn K (.ref C_ZeroResult) "__class__" = some (some (.builtin "object.__class__"))) (ep_ZeroResult : PySem.W.mroIn K C_ZeroResult (.type "object") = some true)
    (kt_ZeroResult_DifferentWidths : PySem.W.kitOne K (.ref C_ZeroResult) (.ref C_DifferentWidths) = some false)
    (kt_ZeroResult_InvalidChain : PySem.W.kitOne K (.ref C_ZeroResult) (.ref C_InvalidChain) = some false)
    (kt_ZeroResult_InvalidExponent : PySem.W.kitOne K (.ref C_ZeroResult) (.ref C_InvalidExponent) = some false)
    (kt_ZeroResult_InvalidKind : PySem.W.kitOne K (.ref C_ZeroResult) (.ref C_InvalidKind) = some false)
    (kt_ZeroResult_InvalidLine : PySem.W.kitOne K (.ref C_ZeroResult) (.ref C_InvalidLine) = some false)
    (kt_ZeroResult_InvalidName : PySem.W.kitOne K (.ref C_ZeroResult) (.ref C_InvalidName) = some false)
    (kt_ZeroResult_InvalidNumber : PySem.W.kitOne K (.ref C_ZeroResult) (.ref C_InvalidNumber) = some false)
    (kt_ZeroResult_InvalidRange : PySem.W.kitOne K (.ref C_ZeroResult) (.ref C_InvalidRange) = some false)
    (kt_ZeroResult_InvalidRule : PySem.W.kitOne K (.ref C_ZeroResult) (.ref C_InvalidRule) = some false)
    (kt_ZeroResult_InvalidShift : PySem.W.kitOne K (.ref C_ZeroResult) (.ref C_InvalidShift) = some false)
    (kt_ZeroResult_InvalidText : PySem.W.kitOne K (.ref C_ZeroResult) (.ref C_InvalidText) = some false)
    (kt_ZeroResult_InvalidThresholds : PySem.W.kitOne K (.ref C_ZeroResult) (.ref C_InvalidThresholds) = some false)
    (kt_ZeroResult_InvalidWidth : PySem.W.kitOne K (.ref C_ZeroResult) (.ref C_InvalidWidth) = some false)
    (kt_ZeroResult_NoBench : PySem.W.kitOne K (.ref C_ZeroResult) (.ref C_NoBench) = some false)
    (kt_ZeroResult_NotExact : PySem.W.kitOne K (.ref C_ZeroResult) (.ref C_NotExact) = some false)
    (kt_ZeroResult_NothingToUndo : PySem.W.kitOne K (.ref C_ZeroResult) (.ref C_NothingToUndo) = some false)
    (kt_ZeroResult_OutOfRange : PySem.W.kitOne K (.ref C_ZeroResult) (.ref C_OutOfRange) = some false)
    (kt_ZeroResult_RoundingError : PySem.W.kitOne K (.ref C_ZeroResult) (.ref C_RoundingError) = some true)
    (kt_ZeroResult_UnknownName : PySem.W.kitOne K (.ref C_ZeroResult) (.ref C_UnknownName) = some false)
    (kt_ZeroResult_ValueError : PySem.W.kitOne K (.ref C_ZeroResult) (.type "ValueError") = some true)
    (kt_ZeroResult_ZeroResult : PySem.W.kitOne K (.ref C_ZeroResult) (.ref C_ZeroResult) = some true) :
    ∃ fd : FuncData, (∀ (s : Shared) (v : Value), BindsTo s fd ⟨[v], []⟩ [("_law_script", v)]) ∧ TbH K h ∧ ∀ base : Heap, K.In base → base.Ns mainGlobals mg → TbB K mg base → Fn l.prog w K mg base CX0 6 fa fd ["_law_script"] (lift K 1 fs_law) := by
  have e := hfa.symm.trans (PySem.W.mg_of X G a27)
  cases e
  exact ⟨_, fun s v => .of_eq rfl, tbH_no rfl, fun base _ _ hB => ok_law (mkTx X G a0 i0 l0 c0 k0 a1 i1 l1 c1 k1 a2 i2 l2 c2 k2 a3 i3 l3 c3 k3 a4 i4 l4 c4 k4 a5 i5 l5 c5 k5 a6 i6 l6 c6 k6 a7 i7 l7 c7 k7 a8 i8 l8 c8 k8 a9 i9 l9 c9 k9 a10 i10 l10 c10 k10 a11 i11 l11 c11 k11 a12 i12 l12 c12 k12 a13 i13 l13 c13 k13 a14 i14 l14 c14 k14 a15 i15 l15 c15 k15 a16 i16 l16 c16 k16 a17 i17 l17 c17 k17 a18 i18 l18 c18 k18 a19 l19 c19 k19 a20 l20 c20 k20 a21 l21 c21 k21 a22 l22 c22 k22 a23 l23 c23 k23 a24 l24 c24 k24 a25 l25 c25 k25 a26 l26 c26 k26 a27 l27 c27 k27 z_ValueError z_abs z_all z_enumerate z_isinstance z_len z_max z_min z_range z_repr y_RE eg_RE er_RE ei_RE en_X eo_X y_DifferentWidths ex_DifferentWidths et_DifferentWidths ek_DifferentWidths eu_DifferentWidths ec_DifferentWidths em_DifferentWidths es_DifferentWidths eb_DifferentWidths ed_DifferentWidths ei_DifferentWidths ep_DifferentWidths kt_DifferentWidths_DifferentWidths kt_DifferentWidths_InvalidChain kt_DifferentWidths_InvalidExponent kt_DifferentWidths_InvalidKind kt_DifferentWidths_InvalidLine kt_DifferentWidths_InvalidName kt_DifferentWidths_InvalidNumber kt_DifferentWidths_InvalidRange kt_DifferentWidths_InvalidRule kt_DifferentWidths_InvalidShift kt_DifferentWidths_InvalidText kt_DifferentWidths_InvalidThresholds kt_DifferentWidths_InvalidWidth kt_DifferentWidths_NoBench kt_DifferentWidths_NotExact kt_DifferentWidths_NothingToUndo kt_DifferentWidths_OutOfRange kt_DifferentWidths_RoundingError kt_DifferentWidths_UnknownName kt_DifferentWidths_ValueError kt_DifferentWidths_ZeroResult y_InvalidChain ex_InvalidChain et_InvalidChain ek_InvalidChain eu_InvalidChain ec_InvalidChain em_InvalidChain es_InvalidChain ev_InvalidChain eb_InvalidChain ed_InvalidChain ei_InvalidChain ep_InvalidChain kt_InvalidChain_DifferentWidths kt_InvalidChain_InvalidChain kt_InvalidChain_InvalidExponent kt_InvalidChain_InvalidKind kt_InvalidChain_InvalidLine kt_InvalidChain_InvalidName kt_InvalidChain_InvalidNumber kt_InvalidChain_InvalidRange kt_InvalidChain_InvalidRule kt_InvalidChain_InvalidShift kt_InvalidChain_InvalidText kt_InvalidChain_InvalidThresholds kt_InvalidChain_InvalidWidth kt_InvalidChain_NoBench kt_InvalidChain_NotExact kt_InvalidChain_NothingToUndo kt_InvalidChain_OutOfRange kt_InvalidChain_RoundingError kt_InvalidChain_UnknownName kt_InvalidChain_ValueError kt_InvalidChain_ZeroResult y_InvalidExponent ex_InvalidExponent et_InvalidExponent ek_InvalidExponent eu_InvalidExponent ec_InvalidExponent em_InvalidExponent es_InvalidExponent ev_InvalidExponent eb_InvalidExponent ed_InvalidExponent ei_InvalidExponent ep_InvalidExponent kt_InvalidExponent_DifferentWidths kt_InvalidExponent_InvalidChain kt_InvalidExponent_InvalidExponent kt_InvalidExponent_InvalidKind kt_InvalidExponent_InvalidLine kt_InvalidExponent_InvalidName kt_InvalidExponent_InvalidNumber kt_InvalidExponent_InvalidRange kt_InvalidExponent_InvalidRule kt_InvalidExponent_InvalidShift kt_InvalidExponent_InvalidText kt_InvalidExponent_InvalidThresholds kt_InvalidExponent_InvalidWidth kt_InvalidExponent_NoBench kt_InvalidExponent_NotExact kt_InvalidExponent_NothingToUndo kt_InvalidExponent_OutOfRange kt_InvalidExponent_RoundingError kt_InvalidExponent_UnknownName kt_InvalidExponent_ValueError kt_InvalidExponent_ZeroResult y_InvalidKind ex_InvalidKind et_InvalidKind ek_InvalidKind eu_InvalidKind ec_InvalidKind em_InvalidKind es_InvalidKind ev_InvalidKind eb_InvalidKind ed_InvalidKind ei_InvalidKind ep_InvalidKind kt_InvalidKind_DifferentWidths kt_InvalidKind_InvalidChain kt_InvalidKind_InvalidExponent kt_InvalidKind_InvalidKind kt_InvalidKind_InvalidLine kt_InvalidKind_InvalidName kt_InvalidKind_InvalidNumber kt_InvalidKind_InvalidRange kt_InvalidKind_InvalidRule kt_InvalidKind_InvalidShift kt_InvalidKind_InvalidText kt_InvalidKind_InvalidThresholds kt_InvalidKind_InvalidWidth kt_InvalidKind_NoBench kt_InvalidKind_NotExact kt_InvalidKind_NothingToUndo kt_InvalidKind_OutOfRange kt_InvalidKind_RoundingError kt_InvalidKind_UnknownName kt_InvalidKind_ValueError kt_InvalidKind_ZeroResult y_InvalidLine ex_InvalidLine et_InvalidLine ek_InvalidLine eu_InvalidLine ec_InvalidLine em_InvalidLine es_InvalidLine ev_InvalidLine eb_InvalidLine ed_InvalidLine ei_InvalidLine ep_InvalidLine kt_InvalidLine_DifferentWidths kt_InvalidLine_InvalidChain kt_InvalidLine_InvalidExponent kt_InvalidLine_InvalidKind kt_InvalidLine_InvalidLine kt_InvalidLine_InvalidName kt_InvalidLine_InvalidNumber kt_InvalidLine_InvalidRange kt_InvalidLine_InvalidRule kt_InvalidLine_InvalidShift kt_InvalidLine_InvalidText kt_InvalidLine_InvalidThresholds kt_InvalidLine_InvalidWidth kt_InvalidLine_NoBench kt_InvalidLine_NotExact kt_InvalidLine_NothingToUndo kt_InvalidLine_OutOfRange kt_InvalidLine_RoundingError kt_InvalidLine_UnknownName kt_InvalidLine_ValueError kt_InvalidLine_ZeroResult y_InvalidName ex_InvalidName et_InvalidName ek_InvalidName eu_InvalidName ec_InvalidName em_InvalidName es_InvalidName ev_InvalidName eb_InvalidName ed_InvalidName ei_InvalidName ep_InvalidName kt_InvalidName_DifferentWidths kt_InvalidName_InvalidChain kt_InvalidName_InvalidExponent kt_InvalidName_InvalidKind kt_InvalidName_InvalidLine kt_InvalidName_InvalidName kt_InvalidName_InvalidNumber kt_InvalidName_InvalidRange kt_InvalidName_InvalidRule kt_InvalidName_InvalidShift kt_InvalidName_InvalidText kt_InvalidName_InvalidThresholds kt_InvalidName_InvalidWidth kt_InvalidName_NoBench kt_InvalidName_NotExact kt_InvalidName_NothingToUndo kt_InvalidName_OutOfRange kt_InvalidName_RoundingError kt_InvalidName_UnknownName kt_InvalidName_ValueError kt_InvalidName_ZeroResult y_InvalidNumber ex_InvalidNumber et_InvalidNumber ek_InvalidNumber eu_InvalidNumber ec_InvalidNumber em_InvalidNumber es_InvalidNumber ev_InvalidNumber eb_InvalidNumber ed_InvalidNumber ei_InvalidNumber ep_InvalidNumber kt_InvalidNumber_DifferentWidths kt_InvalidNumber_InvalidChain kt_InvalidNumber_InvalidExponent kt_InvalidNumber_InvalidKind kt_InvalidNumber_InvalidLine kt_InvalidNumber_InvalidName kt_InvalidNumber_InvalidNumber kt_InvalidNumber_InvalidRange kt_InvalidNumber_InvalidRule kt_InvalidNumber_InvalidShift kt_InvalidNumber_InvalidText kt_InvalidNumber_InvalidThresholds kt_InvalidNumber_InvalidWidth kt_InvalidNumber_NoBench kt_InvalidNumber_NotExact kt_InvalidNumber_NothingToUndo kt_InvalidNumber_OutOfRange kt_InvalidNumber_RoundingError kt_InvalidNumber_UnknownName kt_InvalidNumber_ValueError kt_InvalidNumber_ZeroResult y_InvalidRange ex_InvalidRange et_InvalidRange ek_InvalidRange eu_InvalidRange ec_InvalidRange em_InvalidRange es_InvalidRange ev_InvalidRange eb_InvalidRange ed_InvalidRange ei_InvalidRange ep_InvalidRange kt_InvalidRange_DifferentWidths kt_InvalidRange_InvalidChain kt_InvalidRange_InvalidExponent kt_InvalidRange_InvalidKind kt_InvalidRange_InvalidLine kt_InvalidRange_InvalidName kt_InvalidRange_InvalidNumber kt_InvalidRange_InvalidRange kt_InvalidRange_InvalidRule kt_InvalidRange_InvalidShift kt_InvalidRange_InvalidText kt_InvalidRange_InvalidThresholds kt_InvalidRange_InvalidWidth kt_InvalidRange_NoBench kt_InvalidRange_NotExact kt_InvalidRange_NothingToUndo kt_InvalidRange_OutOfRange kt_InvalidRange_RoundingError kt_InvalidRange_UnknownName kt_InvalidRange_ValueError kt_InvalidRange_ZeroResult y_InvalidRule ex_InvalidRule et_InvalidRule ek_InvalidRule eu_InvalidRule ec_InvalidRule em_InvalidRule es_InvalidRule ev_InvalidRule eb_InvalidRule ed_InvalidRule ei_InvalidRule ep_InvalidRule kt_InvalidRule_DifferentWidths kt_InvalidRule_InvalidChain kt_InvalidRule_InvalidExponent kt_InvalidRule_InvalidKind kt_InvalidRule_InvalidLine kt_InvalidRule_InvalidName kt_InvalidRule_InvalidNumber kt_InvalidRule_InvalidRange kt_InvalidRule_InvalidRule kt_InvalidRule_InvalidShift kt_InvalidRule_InvalidText kt_InvalidRule_InvalidThresholds kt_InvalidRule_InvalidWidth kt_InvalidRule_NoBench kt_InvalidRule_NotExact kt_InvalidRule_NothingToUndo kt_InvalidRule_OutOfRange kt_InvalidRule_RoundingError kt_InvalidRule_UnknownName kt_InvalidRule_ValueError kt_InvalidRule_ZeroResult y_InvalidShift ex_InvalidShift et_InvalidShift ek_InvalidShift eu_InvalidShift ec_InvalidShift em_InvalidShift es_InvalidShift ev_InvalidShift eb_InvalidShift ed_InvalidShift ei_InvalidShift ep_InvalidShift kt_InvalidShift_DifferentWidths kt_InvalidShift_InvalidChain kt_InvalidShift_InvalidExponent kt_InvalidShift_InvalidKind kt_InvalidShift_InvalidLine kt_InvalidShift_InvalidName kt_InvalidShift_InvalidNumber kt_InvalidShift_InvalidRange kt_InvalidShift_InvalidRule kt_InvalidShift_InvalidShift kt_InvalidShift_InvalidText kt_InvalidShift_InvalidThresholds kt_InvalidShift_InvalidWidth kt_InvalidShift_NoBench kt_InvalidShift_NotExact kt_InvalidShift_NothingToUndo kt_InvalidShift_OutOfRange kt_InvalidShift_RoundingError kt_InvalidShift_UnknownName kt_InvalidShift_ValueError kt_InvalidShift_ZeroResult y_InvalidText ex_InvalidText et_InvalidText ek_InvalidText eu_InvalidText ec_InvalidText em_InvalidText es_InvalidText ev_InvalidText eb_InvalidText ed_InvalidText ei_InvalidText ep_InvalidText kt_InvalidText_DifferentWidths kt_InvalidText_InvalidChain kt_InvalidText_InvalidExponent kt_InvalidText_InvalidKind kt_InvalidText_InvalidLine kt_InvalidText_InvalidName kt_InvalidText_InvalidNumber kt_InvalidText_InvalidRange kt_InvalidText_InvalidRule kt_InvalidText_InvalidShift kt_InvalidText_InvalidText kt_InvalidText_InvalidThresholds kt_InvalidText_InvalidWidth kt_InvalidText_NoBench kt_InvalidText_NotExact kt_InvalidText_NothingToUndo kt_InvalidText_OutOfRange kt_InvalidText_RoundingError kt_InvalidText_UnknownName kt_InvalidText_ValueError kt_InvalidText_ZeroResult y_InvalidThresholds ex_InvalidThresholds et_InvalidThresholds ek_InvalidThresholds eu_InvalidThresholds ec_InvalidThresholds em_InvalidThresholds es_InvalidThresholds ev_InvalidThresholds eb_InvalidThresholds ed_InvalidThresholds ei_InvalidThresholds ep_InvalidThresholds kt_InvalidThresholds_DifferentWidths kt_InvalidThresholds_InvalidChain kt_InvalidThresholds_InvalidExponent kt_InvalidThresholds_InvalidKind kt_InvalidThresholds_InvalidLine kt_InvalidThresholds_InvalidName kt_InvalidThresholds_InvalidNumber kt_InvalidThresholds_InvalidRange kt_InvalidThresholds_InvalidRule kt_InvalidThresholds_InvalidShift kt_InvalidThresholds_InvalidText kt_InvalidThresholds_InvalidThresholds kt_InvalidThresholds_InvalidWidth kt_InvalidThresholds_NoBench kt_InvalidThresholds_NotExact kt_InvalidThresholds_NothingToUndo kt_InvalidThresholds_OutOfRange kt_InvalidThresholds_RoundingError kt_InvalidThresholds_UnknownName kt_InvalidThresholds_ValueError kt_InvalidThresholds_ZeroResult y_InvalidWidth ex_InvalidWidth et_InvalidWidth ek_InvalidWidth eu_InvalidWidth ec_InvalidWidth em_InvalidWidth es_InvalidWidth ev_InvalidWidth eb_InvalidWidth ed_InvalidWidth ei_InvalidWidth ep_InvalidWidth kt_InvalidWidth_DifferentWidths kt_InvalidWidth_InvalidChain kt_InvalidWidth_InvalidExponent kt_InvalidWidth_InvalidKind kt_InvalidWidth_InvalidLine kt_InvalidWidth_InvalidName kt_InvalidWidth_InvalidNumber kt_InvalidWidth_InvalidRange kt_InvalidWidth_InvalidRule kt_InvalidWidth_InvalidShift kt_InvalidWidth_InvalidText kt_InvalidWidth_InvalidThresholds kt_InvalidWidth_InvalidWidth kt_InvalidWidth_NoBench kt_InvalidWidth_NotExact kt_InvalidWidth_NothingToUndo kt_InvalidWidth_OutOfRange kt_InvalidWidth_RoundingError kt_InvalidWidth_UnknownName kt_InvalidWidth_ValueError kt_InvalidWidth_ZeroResult y_NoBench ex_NoBench et_NoBench ek_NoBench eu_NoBench ec_NoBench em_NoBench es_NoBench eb_NoBench ed_NoBench ei_NoBench ep_NoBench kt_NoBench_DifferentWidths kt_NoBench_InvalidChain kt_NoBench_InvalidExponent kt_NoBench_InvalidKind kt_NoBench_InvalidLine kt_NoBench_InvalidName kt_NoBench_InvalidNumber kt_NoBench_InvalidRange kt_NoBench_InvalidRule kt_NoBench_InvalidShift kt_NoBench_InvalidText kt_NoBench_InvalidThresholds kt_NoBench_InvalidWidth kt_NoBench_NoBench kt_NoBench_NotExact kt_NoBench_NothingToUndo kt_NoBench_OutOfRange kt_NoBench_RoundingError kt_NoBench_UnknownName kt_NoBench_ValueError kt_NoBench_ZeroResult y_NotExact ex_NotExact et_NotExact ek_NotExact eu_NotExact ec_NotExact em_NotExact es_NotExact ev_NotExact eb_NotExact ed_NotExact ei_NotExact ep_NotExact kt_NotExact_DifferentWidths kt_NotExact_InvalidChain kt_NotExact_InvalidExponent kt_NotExact_InvalidKind kt_NotExact_InvalidLine kt_NotExact_InvalidName kt_NotExact_InvalidNumber kt_NotExact_InvalidRange kt_NotExact_InvalidRule kt_NotExact_InvalidShift kt_NotExact_InvalidText kt_NotExact_InvalidThresholds kt_NotExact_InvalidWidth kt_NotExact_NoBench kt_NotExact_NotExact kt_NotExact_NothingToUndo kt_NotExact_OutOfRange kt_NotExact_RoundingError kt_NotExact_UnknownName kt_NotExact_ValueError kt_NotExact_ZeroResult y_NothingToUndo ex_NothingToUndo et_NothingToUndo ek_NothingToUndo eu_NothingToUndo ec_NothingToUndo em_NothingToUndo es_NothingToUndo eb_NothingToUndo ed_NothingToUndo ei_NothingToUndo ep_NothingToUndo kt_NothingToUndo_DifferentWidths kt_NothingToUndo_InvalidChain kt_NothingToUndo_InvalidExponent kt_NothingToUndo_InvalidKind kt_NothingToUndo_InvalidLine kt_NothingToUndo_InvalidName kt_NothingToUndo_InvalidNumber kt_NothingToUndo_InvalidRange kt_NothingToUndo_InvalidRule kt_NothingToUndo_InvalidShift kt_NothingToUndo_InvalidText kt_NothingToUndo_InvalidThresholds kt_NothingToUndo_InvalidWidth kt_NothingToUndo_NoBench kt_NothingToUndo_NotExact kt_NothingToUndo_NothingToUndo kt_NothingToUndo_OutOfRange kt_NothingToUndo_RoundingError kt_NothingToUndo_UnknownName kt_NothingToUndo_ValueError kt_NothingToUndo_ZeroResult y_OutOfRange ex_OutOfRange et_OutOfRange ek_OutOfRange eu_OutOfRange ec_OutOfRange em_OutOfRange es_OutOfRange eb_OutOfRange ed_OutOfRange ei_OutOfRange ep_OutOfRange kt_OutOfRange_DifferentWidths kt_OutOfRange_InvalidChain kt_OutOfRange_InvalidExponent kt_OutOfRange_InvalidKind kt_OutOfRange_InvalidLine kt_OutOfRange_InvalidName kt_OutOfRange_InvalidNumber kt_OutOfRange_InvalidRange kt_OutOfRange_InvalidRule kt_OutOfRange_InvalidShift kt_OutOfRange_InvalidText kt_OutOfRange_InvalidThresholds kt_OutOfRange_InvalidWidth kt_OutOfRange_NoBench kt_OutOfRange_NotExact kt_OutOfRange_NothingToUndo kt_OutOfRange_OutOfRange kt_OutOfRange_RoundingError kt_OutOfRange_UnknownName kt_OutOfRange_ValueError kt_OutOfRange_ZeroResult y_UnknownName ex_UnknownName et_UnknownName ek_UnknownName eu_UnknownName ec_UnknownName em_UnknownName es_UnknownName ev_UnknownName eb_UnknownName ed_UnknownName ei_UnknownName ep_UnknownName kt_UnknownName_DifferentWidths kt_UnknownName_InvalidChain kt_UnknownName_InvalidExponent kt_UnknownName_InvalidKind kt_UnknownName_InvalidLine kt_UnknownName_InvalidName kt_UnknownName_InvalidNumber kt_UnknownName_InvalidRange kt_UnknownName_InvalidRule kt_UnknownName_InvalidShift kt_UnknownName_InvalidText kt_UnknownName_InvalidThresholds kt_UnknownName_InvalidWidth kt_UnknownName_NoBench kt_UnknownName_NotExact kt_UnknownName_NothingToUndo kt_UnknownName_OutOfRange kt_UnknownName_RoundingError kt_UnknownName_UnknownName kt_UnknownName_ValueError kt_UnknownName_ZeroResult y_ZeroResult ex_ZeroResult et_ZeroResult ek_ZeroResult eu_ZeroResult ec_ZeroResult em_ZeroResult es_ZeroResult eb_ZeroResult ed_ZeroResult ei_ZeroResult ep_ZeroResult kt_ZeroResult_DifferentWidths kt_ZeroResult_InvalidChain kt_ZeroResult_InvalidExponent kt_ZeroResult_InvalidKind kt_ZeroResult_InvalidLine kt_ZeroResult_InvalidName kt_ZeroResult_InvalidNumber kt_ZeroResult_InvalidRange kt_ZeroResult_InvalidRule kt_ZeroResult_InvalidShift kt_ZeroResult_InvalidText kt_ZeroResult_InvalidThresholds kt_ZeroResult_InvalidWidth kt_ZeroResult_NoBench kt_ZeroResult_NotExact kt_ZeroResult_NothingToUndo kt_ZeroResult_OutOfRange kt_ZeroResult_RoundingError kt_ZeroResult_UnknownName kt_ZeroResult_ValueError kt_ZeroResult_ZeroResult)⟩
end LAW
open PySem PySem.W PyProof.Rows
set_option maxHeartbeats 0 in
theorem PySem.Challenge.cw_stagedrounding_k11_exceptions_made_by_ha_holds : PySem.Challenge.rw_stagedrounding_k11_exceptions_made_by_ha.Holds := by
  w_on; o_law; k_head; (case hw => w_witness2)
  k_fill
  refine Z.end_of (l := PySem.Challenge.rw_stagedrounding_k11_exceptions_made_by_ha) (n := 63) (k := 6) (x := "_law_script") (fs := LAW.fs_law) rfl (by decide) rfl ⟨rfl, by decide, by decide⟩ (fun w h Y => PySem.W.kIn_of Y) ?Fu LAW.law_true
  case Fu =>
    intro w mg fa h Y KX G hmg
    refine' LAW.all_mk KX G hmg ?a0 ?i0 ?l0 ?c0 ?k0 ?a1 ?i1 ?l1 ?c1 ?k1 ?a2 ?i2 ?l2 ?c2 ?k2 ?a3 ?i3 ?l3 ?c3 ?k3 ?a4 ?i4 ?l4 ?c4 ?k4 ?a5 ?i5 ?l5 ?c5 ?k5 ?a6 ?i6 ?l6 ?c6 ?k6 ?a7 ?i7 ?l7 ?c7 ?k7 ?a8 ?i8 ?l8 ?c8 ?k8 ?a9 ?i9 ?l9 ?c9 ?k9 ?a10 ?i10 ?l10 ?c10 ?k10 ?a11 ?i11 ?l11 ?c11 ?k11 ?a12 ?i12 ?l12 ?c12 ?k12 ?a13 ?i13 ?l13 ?c13 ?k13 ?a14 ?i14 ?l14 ?c14 ?k14 ?a15 ?i15 ?l15 ?c15 ?k15 ?a16 ?i16 ?l16 ?c16 ?k16 ?a17 ?i17 ?l17 ?c17 ?k17 ?a18 ?i18 ?l18 ?c18 ?k18 ?a19 ?l19 ?c19 ?k19 ?a20 ?l20 ?c20 ?k20 ?a21 ?l21 ?c21 ?k21 ?a22 ?l22 ?c22 ?k22 ?a23 ?l23 ?c23 ?k23 ?a24 ?l24 ?c24 ?k24 ?a25 ?l25 ?c25 ?k25 ?a26 ?l26 ?c26 ?k26 ?a27 ?l27 ?c27 ?k27 ?z_ValueError ?z_abs ?z_all ?z_enumerate ?z_isinstance ?z_len ?z_max ?z_min ?z_range ?z_repr ?y_RE ?eg_RE ?er_RE ?ei_RE ?en_X ?eo_X ?y_DifferentWidths ?ex_DifferentWidths ?et_DifferentWidths ?ek_DifferentWidths ?eu_DifferentWidths ?ec_DifferentWidths ?em_DifferentWidths ?es_DifferentWidths ?eb_DifferentWidths ?ed_DifferentWidths ?ei_DifferentWidths ?ep_DifferentWidths ?kt_DifferentWidths_DifferentWidths ?kt_DifferentWidths_InvalidChain ?kt_DifferentWidths_InvalidExponent ?kt_DifferentWidths_InvalidKind ?kt_DifferentWidths_InvalidLine ?kt_DifferentWidths_InvalidName ?kt_DifferentWidths_InvalidNumber ?kt_DifferentWidths_InvalidRange ?kt_DifferentWidths_InvalidRule ?kt_DifferentWidths_InvalidShift ?kt_DifferentWidths_InvalidText ?kt_DifferentWidths_InvalidThresholds ?kt_DifferentWidths_InvalidWidth ?kt_DifferentWidths_NoBench ?kt_DifferentWidths_NotExact ?kt_DifferentWidths_NothingToUndo ?kt_DifferentWidths_OutOfRange ?kt_DifferentWidths_RoundingError ?kt_DifferentWidths_UnknownName ?kt_DifferentWidths_ValueError ?kt_DifferentWidths_ZeroResult ?y_InvalidChain ?ex_InvalidChain ?et_InvalidChain ?ek_InvalidChain ?eu_InvalidChain ?ec_InvalidChain ?em_InvalidChain ?es_InvalidChain ?ev_InvalidChain ?eb_InvalidChain ?ed_InvalidChain ?ei_InvalidChain ?ep_InvalidChain ?kt_InvalidChain_DifferentWidths ?kt_InvalidChain_InvalidChain ?kt_InvalidChain_InvalidExponent ?kt_InvalidChain_InvalidKind ?kt_InvalidChain_InvalidLine ?kt_InvalidChain_InvalidName ?kt_InvalidChain_InvalidNumber ?kt_InvalidChain_InvalidRange ?kt_InvalidChain_InvalidRule ?kt_InvalidChain_InvalidShift ?kt_InvalidChain_InvalidText ?kt_InvalidChain_InvalidThresholds ?kt_InvalidChain_InvalidWidth ?kt_InvalidChain_NoBench ?kt_InvalidChain_NotExact ?kt_InvalidChain_NothingToUndo ?kt_InvalidChain_OutOfRange ?kt_InvalidChain_RoundingError ?kt_InvalidChain_UnknownName ?kt_InvalidChain_ValueError ?kt_InvalidChain_ZeroResult ?y_InvalidExponent ?ex_InvalidExponent ?et_InvalidExponent ?ek_InvalidExponent ?eu_InvalidExponent ?ec_InvalidExponent ?em_InvalidExponent ?es_InvalidExponent ?ev_InvalidExponent ?eb_InvalidExponent ?ed_InvalidExponent ?ei_InvalidExponent ?ep_InvalidExponent ?kt_InvalidExponent_DifferentWidths ?kt_InvalidExponent_InvalidChain ?kt_InvalidExponent_InvalidExponent ?kt_InvalidExponent_InvalidKind ?kt_InvalidExponent_InvalidLine ?kt_InvalidExponent_InvalidName ?kt_InvalidExponent_InvalidNumber ?kt_InvalidExponent_InvalidRange ?kt_InvalidExponent_InvalidRule ?kt_InvalidExponent_InvalidShift ?kt_InvalidExponent_InvalidText ?kt_InvalidExponent_InvalidThresholds ?kt_InvalidExponent_InvalidWidth ?kt_InvalidExponent_NoBench ?kt_InvalidExponent_NotExact ?kt_InvalidExponent_NothingToUndo ?kt_InvalidExponent_OutOfRange ?kt_InvalidExponent_RoundingError ?kt_InvalidExponent_UnknownName ?kt_InvalidExponent_ValueError ?kt_InvalidExponent_ZeroResult ?y_InvalidKind ?ex_InvalidKind ?et_InvalidKind ?ek_InvalidKind ?eu_InvalidKind ?ec_InvalidKind ?em_InvalidKind ?es_InvalidKind ?ev_InvalidKind ?eb_InvalidKind ?ed_InvalidKind ?ei_InvalidKind ?ep_InvalidKind ?kt_InvalidKind_DifferentWidths ?kt_InvalidKind_InvalidChain ?kt_InvalidKind_InvalidExponent ?kt_InvalidKind_InvalidKind ?kt_InvalidKind_InvalidLine ?kt_InvalidKind_InvalidName ?kt_InvalidKind_InvalidNumber ?kt_InvalidKind_InvalidRange ?kt_InvalidKind_InvalidRule ?kt_InvalidKind_InvalidShift ?kt_InvalidKind_InvalidText ?kt_InvalidKind_InvalidThresholds ?kt_InvalidKind_InvalidWidth ?kt_InvalidKind_NoBench ?kt_InvalidKind_NotExact ?kt_InvalidKind_NothingToUndo ?kt_InvalidKind_OutOfRange ?kt_InvalidKind_RoundingError ?kt_InvalidKind_UnknownName ?kt_InvalidKind_ValueError ?kt_InvalidKind_ZeroResult ?y_InvalidLine ?ex_InvalidLine ?et_InvalidLine ?ek_InvalidLine ?eu_InvalidLine ?ec_InvalidLine ?em_InvalidLine ?es_InvalidLine ?ev_InvalidLine ?eb_InvalidLine ?ed_InvalidLine ?ei_InvalidLine ?ep_InvalidLine ?kt_InvalidLine_DifferentWidths ?kt_InvalidLine_InvalidChain ?kt_InvalidLine_InvalidExponent ?kt_InvalidLine_InvalidKind ?kt_InvalidLine_InvalidLine ?kt_InvalidLine_InvalidName ?kt_InvalidLine_InvalidNumber ?kt_InvalidLine_InvalidRange ?kt_InvalidLine_InvalidRule ?kt_InvalidLine_InvalidShift ?kt_InvalidLine_InvalidText ?kt_InvalidLine_InvalidThresholds ?kt_InvalidLine_InvalidWidth ?kt_InvalidLine_NoBench ?kt_InvalidLine_NotExact ?kt_InvalidLine_NothingToUndo ?kt_InvalidLine_OutOfRange ?kt_InvalidLine_RoundingError ?kt_InvalidLine_UnknownName ?kt_InvalidLine_ValueError ?kt_InvalidLine_ZeroResult ?y_InvalidName ?ex_InvalidName ?et_InvalidName ?ek_InvalidName ?eu_InvalidName ?ec_InvalidName ?em_InvalidName ?es_InvalidName ?ev_InvalidName ?eb_InvalidName ?ed_InvalidName ?ei_InvalidName ?ep_InvalidName ?kt_InvalidName_DifferentWidths ?kt_InvalidName_InvalidChain ?kt_InvalidName_InvalidExponent ?kt_InvalidName_InvalidKind ?kt_InvalidName_InvalidLine ?kt_InvalidName_InvalidName ?kt_InvalidName_InvalidNumber ?kt_InvalidName_InvalidRange ?kt_InvalidName_InvalidRule ?kt_InvalidName_InvalidShift ?kt_InvalidName_InvalidText ?kt_InvalidName_InvalidThresholds ?kt_InvalidName_InvalidWidth ?kt_InvalidName_NoBench ?kt_InvalidName_NotExact ?kt_InvalidName_NothingToUndo ?kt_InvalidName_OutOfRange ?kt_InvalidName_RoundingError ?kt_InvalidName_UnknownName ?kt_InvalidName_ValueError ?kt_InvalidName_ZeroResult ?y_InvalidNumber ?ex_InvalidNumber ?et_InvalidNumber ?ek_InvalidNumber ?eu_InvalidNumber ?ec_InvalidNumber ?em_InvalidNumber ?es_InvalidNumber ?ev_InvalidNumber ?eb_InvalidNumber ?ed_InvalidNumber ?ei_InvalidNumber ?ep_InvalidNumber ?kt_InvalidNumber_DifferentWidths ?kt_InvalidNumber_InvalidChain ?kt_InvalidNumber_InvalidExponent ?kt_InvalidNumber_InvalidKind ?kt_InvalidNumber_InvalidLine ?kt_InvalidNumber_InvalidName ?kt_InvalidNumber_InvalidNumber ?kt_InvalidNumber_InvalidRange ?kt_InvalidNumber_InvalidRule ?kt_InvalidNumber_InvalidShift ?kt_InvalidNumber_InvalidText ?kt_InvalidNumber_InvalidThresholds ?kt_InvalidNumber_InvalidWidth ?kt_InvalidNumber_NoBench ?kt_InvalidNumber_NotExact ?kt_InvalidNumber_NothingToUndo ?kt_InvalidNumber_OutOfRange ?kt_InvalidNumber_RoundingError ?kt_InvalidNumber_UnknownName ?kt_InvalidNumber_ValueError ?kt_InvalidNumber_ZeroResult ?y_InvalidRange ?ex_InvalidRange ?et_InvalidRange ?ek_InvalidRange ?eu_InvalidRange ?ec_InvalidRange ?em_InvalidRange ?es_InvalidRange ?ev_InvalidRange ?eb_InvalidRange ?ed_InvalidRange ?ei_InvalidRange ?ep_InvalidRange ?kt_InvalidRange_DifferentWidths ?kt_InvalidRange_InvalidChain ?kt_InvalidRange_InvalidExponent ?kt_InvalidRange_InvalidKind ?kt_InvalidRange_InvalidLine ?kt_InvalidRange_InvalidName ?kt_InvalidRange_InvalidNumber ?kt_InvalidRange_InvalidRange ?kt_InvalidRange_InvalidRule ?kt_InvalidRange_InvalidShift ?kt_InvalidRange_InvalidText ?kt_InvalidRange_InvalidThresholds ?kt_InvalidRange_InvalidWidth ?kt_InvalidRange_NoBench ?kt_InvalidRange_NotExact ?kt_InvalidRange_NothingToUndo ?kt_InvalidRange_OutOfRange ?kt_InvalidRange_RoundingError ?kt_InvalidRange_UnknownName ?kt_InvalidRange_ValueError ?kt_InvalidRange_ZeroResult ?y_InvalidRule ?ex_InvalidRule ?et_InvalidRule ?ek_InvalidRule ?eu_InvalidRule ?ec_InvalidRule ?em_InvalidRule ?es_InvalidRule ?ev_InvalidRule ?eb_InvalidRule ?ed_InvalidRule ?ei_InvalidRule ?ep_InvalidRule ?kt_InvalidRule_DifferentWidths ?kt_InvalidRule_InvalidChain ?kt_InvalidRule_InvalidExponent ?kt_InvalidRule_InvalidKind ?kt_InvalidRule_InvalidLine ?kt_InvalidRule_InvalidName ?kt_InvalidRule_InvalidNumber ?kt_InvalidRule_InvalidRange ?kt_InvalidRule_InvalidRule ?kt_InvalidRule_InvalidShift ?kt_InvalidRule_InvalidText ?kt_InvalidRule_InvalidThresholds ?kt_InvalidRule_InvalidWidth ?kt_InvalidRule_NoBench ?kt_InvalidRule_NotExact ?kt_InvalidRule_NothingToUndo ?kt_InvalidRule_OutOfRange ?kt_InvalidRule_RoundingError ?kt_InvalidRule_UnknownName ?kt_InvalidRule_ValueError ?kt_InvalidRule_ZeroResult ?y_InvalidShift ?ex_InvalidShift ?et_InvalidShift ?ek_InvalidShift ?eu_InvalidShift ?ec_InvalidShift ?em_InvalidShift ?es_InvalidShift ?ev_InvalidShift ?eb_InvalidShift ?ed_InvalidShift ?ei_InvalidShift ?ep_InvalidShift ?kt_InvalidShift_DifferentWidths ?kt_InvalidShift_InvalidChain ?kt_InvalidShift_InvalidExponent ?kt_InvalidShift_InvalidKind ?kt_InvalidShift_InvalidLine ?kt_InvalidShift_InvalidName ?kt_InvalidShift_InvalidNumber ?kt_InvalidShift_InvalidRange ?kt_InvalidShift_InvalidRule ?kt_InvalidShift_InvalidShift ?kt_InvalidShift_InvalidText ?kt_InvalidShift_InvalidThresholds ?kt_InvalidShift_InvalidWidth ?kt_InvalidShift_NoBench ?kt_InvalidShift_NotExact ?kt_InvalidShift_NothingToUndo ?kt_InvalidShift_OutOfRange ?kt_InvalidShift_RoundingError ?kt_InvalidShift_UnknownName ?kt_InvalidShift_ValueError ?kt_InvalidShift_ZeroResult ?y_InvalidText ?ex_InvalidText ?et_InvalidText ?ek_InvalidText ?eu_InvalidText ?ec_InvalidText ?em_InvalidText ?es_InvalidText ?ev_InvalidText ?eb_InvalidText ?ed_InvalidText ?ei_InvalidText ?ep_InvalidText ?kt_InvalidText_DifferentWidths ?kt_InvalidText_InvalidChain ?kt_InvalidText_InvalidExponent ?kt_InvalidText_InvalidKind ?kt_InvalidText_InvalidLine ?kt_InvalidText_InvalidName ?kt_InvalidText_InvalidNumber ?kt_InvalidText_InvalidRange ?kt_InvalidText_InvalidRule ?kt_InvalidText_InvalidShift ?kt_InvalidText_InvalidText ?kt_InvalidText_InvalidThresholds ?kt_InvalidText_InvalidWidth ?kt_InvalidText_NoBench ?kt_InvalidText_NotExact ?kt_InvalidText_NothingToUndo ?kt_InvalidText_OutOfRange ?kt_InvalidText_RoundingError ?kt_InvalidText_UnknownName ?kt_InvalidText_ValueError ?kt_InvalidText_ZeroResult ?y_InvalidThresholds ?ex_InvalidThresholds ?et_InvalidThresholds ?ek_InvalidThresholds ?eu_InvalidThresholds ?ec_InvalidThresholds ?em_InvalidThresholds ?es_InvalidThresholds ?ev_InvalidThresholds ?eb_InvalidThresholds ?ed_InvalidThresholds ?ei_InvalidThresholds ?ep_InvalidThresholds ?kt_InvalidThresholds_DifferentWidths ?kt_InvalidThresholds_InvalidChain ?kt_InvalidThresholds_InvalidExponent ?kt_InvalidThresholds_InvalidKind ?kt_InvalidThresholds_InvalidLine ?kt_InvalidThresholds_InvalidName ?kt_InvalidThresholds_InvalidNumber ?kt_InvalidThresholds_InvalidRange ?kt_InvalidThresholds_InvalidRule ?kt_InvalidThresholds_InvalidShift ?kt_InvalidThresholds_InvalidText ?kt_InvalidThresholds_InvalidThresholds ?kt_InvalidThresholds_InvalidWidth ?kt_InvalidThresholds_NoBench ?kt_InvalidThresholds_NotExact ?kt_InvalidThresholds_NothingToUndo ?kt_InvalidThresholds_OutOfRange ?kt_InvalidThresholds_RoundingError ?kt_InvalidThresholds_UnknownName ?kt_InvalidThresholds_ValueError ?kt_InvalidThresholds_ZeroResult ?y_InvalidWidth ?ex_InvalidWidth ?et_InvalidWidth ?ek_InvalidWidth ?eu_InvalidWidth ?ec_InvalidWidth ?em_InvalidWidth ?es_InvalidWidth ?ev_InvalidWidth ?eb_InvalidWidth ?ed_InvalidWidth ?ei_InvalidWidth ?ep_InvalidWidth ?kt_InvalidWidth_DifferentWidths ?kt_InvalidWidth_InvalidChain ?kt_InvalidWidth_InvalidExponent ?kt_InvalidWidth_InvalidKind ?kt_InvalidWidth_InvalidLine ?kt_InvalidWidth_InvalidName ?kt_InvalidWidth_InvalidNumber ?kt_InvalidWidth_InvalidRange ?kt_InvalidWidth_InvalidRule ?kt_InvalidWidth_InvalidShift ?kt_InvalidWidth_InvalidText ?kt_InvalidWidth_InvalidThresholds ?kt_InvalidWidth_InvalidWidth ?kt_InvalidWidth_NoBench ?kt_InvalidWidth_NotExact ?kt_InvalidWidth_NothingToUndo ?kt_InvalidWidth_OutOfRange ?kt_InvalidWidth_RoundingError ?kt_InvalidWidth_UnknownName ?kt_InvalidWidth_ValueError ?kt_InvalidWidth_ZeroResult ?y_NoBench ?ex_NoBench ?et_NoBench ?ek_NoBench ?eu_NoBench ?ec_NoBench ?em_NoBench ?es_NoBench ?eb_NoBench ?ed_NoBench ?ei_NoBench ?ep_NoBench ?kt_NoBench_DifferentWidths ?kt_NoBench_InvalidChain ?kt_NoBench_InvalidExponent ?kt_NoBench_InvalidKind ?kt_NoBench_InvalidLine ?kt_NoBench_InvalidName ?kt_NoBench_InvalidNumber ?kt_NoBench_InvalidRange ?kt_NoBench_InvalidRule ?kt_NoBench_InvalidShift ?kt_NoBench_InvalidText ?kt_NoBench_InvalidThresholds ?kt_NoBench_InvalidWidth ?kt_NoBench_NoBench ?kt_NoBench_NotExact ?kt_NoBench_NothingToUndo ?kt_NoBench_OutOfRange ?kt_NoBench_RoundingError ?kt_NoBench_UnknownName ?kt_NoBench_ValueError ?kt_NoBench_ZeroResult ?y_NotExact ?ex_NotExact ?et_NotExact ?ek_NotExact ?eu_NotExact ?ec_NotExact ?em_NotExact ?es_NotExact ?ev_NotExact ?eb_NotExact ?ed_NotExact ?ei_NotExact ?ep_NotExact ?kt_NotExact_DifferentWidths ?kt_NotExact_InvalidChain ?kt_NotExact_InvalidExponent ?kt_NotExact_InvalidKind ?kt_NotExact_InvalidLine ?kt_NotExact_InvalidName ?kt_NotExact_InvalidNumber ?kt_NotExact_InvalidRange ?kt_NotExact_InvalidRule ?kt_NotExact_InvalidShift ?kt_NotExact_InvalidText ?kt_NotExact_InvalidThresholds ?kt_NotExact_InvalidWidth ?kt_NotExact_NoBench ?kt_NotExact_NotExact ?kt_NotExact_NothingToUndo ?kt_NotExact_OutOfRange ?kt_NotExact_RoundingError ?kt_NotExact_UnknownName ?kt_NotExact_ValueError ?kt_NotExact_ZeroResult ?y_NothingToUndo ?ex_NothingToUndo ?et_NothingToUndo ?ek_NothingToUndo ?eu_NothingToUndo ?ec_NothingToUndo ?em_NothingToUndo ?es_NothingToUndo ?eb_NothingToUndo ?ed_NothingToUndo ?ei_NothingToUndo ?ep_NothingToUndo ?kt_NothingToUndo_DifferentWidths ?kt_NothingToUndo_InvalidChain ?kt_NothingToUndo_InvalidExponent ?kt_NothingToUndo_InvalidKind ?kt_NothingToUndo_InvalidLine ?kt_NothingToUndo_InvalidName ?kt_NothingToUndo_InvalidNumber ?kt_NothingToUndo_InvalidRange ?kt_NothingToUndo_InvalidRule ?kt_NothingToUndo_InvalidShift ?kt_NothingToUndo_InvalidText ?kt_NothingToUndo_InvalidThresholds ?kt_NothingToUndo_InvalidWidth ?kt_NothingToUndo_NoBench ?kt_NothingToUndo_NotExact ?kt_NothingToUndo_NothingToUndo ?kt_NothingToUndo_OutOfRange ?kt_NothingToUndo_RoundingError ?kt_NothingToUndo_UnknownName ?kt_NothingToUndo_ValueError ?kt_NothingToUndo_ZeroResult ?y_OutOfRange ?ex_OutOfRange ?et_OutOfRange ?ek_OutOfRange ?eu_OutOfRange ?ec_OutOfRange ?em_OutOfRange ?es_OutOfRange ?eb_OutOfRange ?ed_OutOfRange ?ei_OutOfRange ?ep_OutOfRange ?kt_OutOfRange_DifferentWidths ?kt_OutOfRange_InvalidChain ?kt_OutOfRange_InvalidExponent ?kt_OutOfRange_InvalidKind ?kt_OutOfRange_InvalidLine ?kt_OutOfRange_InvalidName ?kt_OutOfRange_InvalidNumber ?kt_OutOfRange_InvalidRange ?kt_OutOfRange_InvalidRule ?kt_OutOfRange_InvalidShift ?kt_OutOfRange_InvalidText ?kt_OutOfRange_InvalidThresholds ?kt_OutOfRange_InvalidWidth ?kt_OutOfRange_NoBench ?kt_OutOfRange_NotExact ?kt_OutOfRange_NothingToUndo ?kt_OutOfRange_OutOfRange ?kt_OutOfRange_RoundingError ?kt_OutOfRange_UnknownName ?kt_OutOfRange_ValueError ?kt_OutOfRange_ZeroResult ?y_UnknownName ?ex_UnknownName ?et_UnknownName ?ek_UnknownName ?eu_UnknownName ?ec_UnknownName ?em_UnknownName ?es_UnknownName ?ev_UnknownName ?eb_UnknownName ?ed_UnknownName ?ei_UnknownName ?ep_UnknownName ?kt_UnknownName_DifferentWidths ?kt_UnknownName_InvalidChain ?kt_UnknownName_InvalidExponent ?kt_UnknownName_InvalidKind ?kt_UnknownName_InvalidLine ?kt_UnknownName_InvalidName ?kt_UnknownName_InvalidNumber ?kt_UnknownName_InvalidRange ?kt_UnknownName_InvalidRule ?kt_UnknownName_InvalidShift ?kt_UnknownName_InvalidText ?kt_UnknownName_InvalidThresholds ?kt_UnknownName_InvalidWidth ?kt_UnknownName_NoBench ?kt_UnknownName_NotExact ?kt_UnknownName_NothingToUndo ?kt_UnknownName_OutOfRange ?kt_UnknownName_RoundingError ?kt_UnknownName_UnknownName ?kt_UnknownName_ValueError ?kt_UnknownName_ZeroResult ?y_ZeroResult ?ex_ZeroResult ?et_ZeroResult ?ek_ZeroResult ?eu_ZeroResult ?ec_ZeroResult ?em_ZeroResult ?es_ZeroResult ?eb_ZeroResult ?ed_ZeroResult ?ei_ZeroResult ?ep_ZeroResult ?kt_ZeroResult_DifferentWidths ?kt_ZeroResult_InvalidChain ?kt_ZeroResult_InvalidExponent ?kt_ZeroResult_InvalidKind ?kt_ZeroResult_InvalidLine ?kt_ZeroResult_InvalidName ?kt_ZeroResult_InvalidNumber ?kt_ZeroResult_InvalidRange ?kt_ZeroResult_InvalidRule ?kt_ZeroResult_InvalidShift ?kt_ZeroResult_InvalidText ?kt_ZeroResult_InvalidThresholds ?kt_ZeroResult_InvalidWidth ?kt_ZeroResult_NoBench ?kt_ZeroResult_NotExact ?kt_ZeroResult_NothingToUndo ?kt_ZeroResult_OutOfRange ?kt_ZeroResult_RoundingError ?kt_ZeroResult_UnknownName ?kt_ZeroResult_ValueError ?kt_ZeroResult_ZeroResult
    (case y_RE => k_is); (case y_DifferentWidths => k_is); (case y_InvalidChain => k_is); (case y_InvalidExponent => k_is); (case y_InvalidKind => k_is); (case y_InvalidLine => k_is); (case y_InvalidName => k_is); (case y_InvalidNumber => k_is); (case y_InvalidRange => k_is); (case y_InvalidRule => k_is); (case y_InvalidShift => k_is); (case y_InvalidText => k_is); (case y_InvalidThresholds => k_is); (case y_InvalidWidth => k_is); (case y_NoBench => k_is); (case y_NotExact => k_is); (case y_NothingToUndo => k_is); (case y_OutOfRange => k_is); (case y_UnknownName => k_is); (case y_ZeroResult => k_is); (case a0 => k_is); (case i0 => k_is); (case l0 => k_is); (case c0 => k_is); (case k0 => k_is); (case a1 => k_is); (case i1 => k_is); (case l1 => k_is); (case c1 => k_is); (case k1 => k_is); (case a2 => k_is); (case i2 => k_is); (case l2 => k_is); (case c2 => k_is); (case k2 => k_is); (case a3 => k_is); (case i3 => k_is); (case l3 => k_is); (case c3 => k_is); (case k3 => k_is); (case a4 => k_is); (case i4 => k_is); (case l4 => k_is); (case c4 => k_is); (case k4 => k_is); (case a5 => k_is); (case i5 => k_is); (case l5 => k_is); (case c5 => k_is); (case k5 => k_is); (case a6 => k_is); (case i6 => k_is); (case l6 => k_is); (case c6 => k_is); (case k6 => k_is); (case a7 => k_is); (case i7 => k_is); (case l7 => k_is); (case c7 => k_is); (case k7 => k_is); (case a8 => k_is); (case i8 => k_is); (case l8 => k_is); (case c8 => k_is); (case k8 => k_is); (case a9 => k_is); (case i9 => k_is); (case l9 => k_is); (case c9 => k_is); (case k9 => k_is); (case a10 => k_is); (case i10 => k_is); (case l10 => k_is); (case c10 => k_is); (case k10 => k_is); (case a11 => k_is); (case i11 => k_is); (case l11 => k_is); (case c11 => k_is); (case k11 => k_is); (case a12 => k_is); (case i12 => k_is); (case l12 => k_is); (case c12 => k_is); (case k12 => k_is); (case a13 => k_is); (case i13 => k_is); (case l13 => k_is); (case c13 => k_is); (case k13 => k_is); (case a14 => k_is); (case i14 => k_is); (case l14 => k_is); (case c14 => k_is); (case k14 => k_is); (case a15 => k_is); (case i15 => k_is); (case l15 => k_is); (case c15 => k_is); (case k15 => k_is); (case a16 => k_is); (case i16 => k_is); (case l16 => k_is); (case c16 => k_is); (case k16 => k_is); (case a17 => k_is); (case i17 => k_is); (case l17 => k_is); (case c17 => k_is); (case k17 => k_is); (case a18 => k_is); (case i18 => k_is); (case l18 => k_is); (case c18 => k_is); (case k18 => k_is); (case a19 => k_is); (case l19 => k_is); (case c19 => k_is); (case k19 => k_is); (case a20 => k_is); (case l20 => k_is); (case c20 => k_is); (case k20 => k_is); (case a21 => k_is); (case l21 => k_is); (case c21 => k_is); (case k21 => k_is); (case a22 => k_is); (case l22 => k_is); (case c22 => k_is); (case k22 => k_is); (case a23 => k_is); (case l23 => k_is); (case c23 => k_is); (case k23 => k_is); (case a24 => k_is); (case l24 => k_is); (case c24 => k_is); (case k24 => k_is); (case a25 => k_is); (case l25 => k_is); (case c25 => k_is); (case k25 => k_is); (case a26 => k_is); (case l26 => k_is); (case c26 => k_is); (case k26 => k_is); (case a27 => k_is); (case l27 => k_is); (case c27 => k_is); (case k27 => k_is); (case z_ValueError => k_is); (case z_abs => k_is); (case z_all => k_is); (case z_enumerate => k_is); (case z_isinstance => k_is); (case z_len => k_is); (case z_max => k_is); (case z_min => k_is); (case z_range => k_is); (case z_repr => k_is); (case eg_RE => k_is); (case er_RE => k_is); (case ei_RE => k_is); (case en_X => k_is); (case eo_X => k_is); (case ex_DifferentWidths => k_is); (case et_DifferentWidths => k_is); (case ek_DifferentWidths => k_is); (case eu_DifferentWidths => k_is); (case ec_DifferentWidths => k_is); (case es_DifferentWidths => k_is); (case eb_DifferentWidths => k_is); (case ed_DifferentWidths => k_is); (case ei_DifferentWidths => k_is); (case ep_DifferentWidths => k_is); (case ex_InvalidChain => k_is); (case et_InvalidChain => k_is); (case ek_InvalidChain => k_is); (case eu_InvalidChain => k_is); (case ec_InvalidChain => k_is); (case es_InvalidChain => k_is); (case ev_InvalidChain => k_is); (case eb_InvalidChain => k_is); (case ed_InvalidChain => k_is); (case ei_InvalidChain => k_is); (case ep_InvalidChain => k_is); (case ex_InvalidExponent => k_is); (case et_InvalidExponent => k_is); (case ek_InvalidExponent => k_is); (case eu_InvalidExponent => k_is); (case ec_InvalidExponent => k_is); (case es_InvalidExponent => k_is); (case ev_InvalidExponent => k_is); (case eb_InvalidExponent => k_is); (case ed_InvalidExponent => k_is); (case ei_InvalidExponent => k_is); (case ep_InvalidExponent => k_is); (case ex_InvalidKind => k_is); (case et_InvalidKind => k_is); (case ek_InvalidKind => k_is); (case eu_InvalidKind => k_is); (case ec_InvalidKind => k_is); (case es_InvalidKind => k_is); (case ev_InvalidKind => k_is); (case eb_InvalidKind => k_is); (case ed_InvalidKind => k_is); (case ei_InvalidKind => k_is); (case ep_InvalidKind => k_is); (case ex_InvalidLine => k_is); (case et_InvalidLine => k_is); (case ek_InvalidLine => k_is); (case eu_InvalidLine => k_is); (case ec_InvalidLine => k_is); (case es_InvalidLine => k_is); (case ev_InvalidLine => k_is); (case eb_InvalidLine => k_is); (case ed_InvalidLine => k_is); (case ei_InvalidLine => k_is); (case ep_InvalidLine => k_is); (case ex_InvalidName => k_is); (case et_InvalidName => k_is); (case ek_InvalidName => k_is); (case eu_InvalidName => k_is); (case ec_InvalidName => k_is); (case es_InvalidName => k_is); (case ev_InvalidName => k_is); (case eb_InvalidName => k_is); (case ed_InvalidName => k_is); (case ei_InvalidName => k_is); (case ep_InvalidName => k_is); (case ex_InvalidNumber => k_is); (case et_InvalidNumber => k_is); (case ek_InvalidNumber => k_is); (case eu_InvalidNumber => k_is); (case ec_InvalidNumber => k_is); (case es_InvalidNumber => k_is); (case ev_InvalidNumber => k_is); (case eb_InvalidNumber => k_is); (case ed_InvalidNumber => k_is); (case ei_InvalidNumber => k_is); (case ep_InvalidNumber => k_is); (case ex_InvalidRange => k_is); (case et_InvalidRange => k_is); (case ek_InvalidRange => k_is); (case eu_InvalidRange => k_is); (case ec_InvalidRange => k_is); (case es_InvalidRange => k_is); (case ev_InvalidRange => k_is); (case eb_InvalidRange => k_is); (case ed_InvalidRange => k_is); (case ei_InvalidRange => k_is); (case ep_InvalidRange => k_is); (case ex_InvalidRule => k_is); (case et_InvalidRule => k_is); (case ek_InvalidRule => k_is); (case eu_InvalidRule => k_is); (case ec_InvalidRule => k_is); (case es_InvalidRule => k_is); (case ev_InvalidRule => k_is); (case eb_InvalidRule => k_is); (case ed_InvalidRule => k_is); (case ei_InvalidRule => k_is); (case ep_InvalidRule => k_is); (case ex_InvalidShift => k_is); (case et_InvalidShift => k_is); (case ek_InvalidShift => k_is); (case eu_InvalidShift => k_is); (case ec_InvalidShift => k_is); (case es_InvalidShift => k_is); (case ev_InvalidShift => k_is); (case eb_InvalidShift => k_is); (case ed_InvalidShift => k_is); (case ei_InvalidShift => k_is); (case ep_InvalidShift => k_is); (case ex_InvalidText => k_is); (case et_InvalidText => k_is); (case ek_InvalidText => k_is); (case eu_InvalidText => k_is); (case ec_InvalidText => k_is); (case es_InvalidText => k_is); (case ev_InvalidText => k_is); (case eb_InvalidText => k_is); (case ed_InvalidText => k_is); (case ei_InvalidText => k_is); (case ep_InvalidText => k_is); (case ex_InvalidThresholds => k_is); (case et_InvalidThresholds => k_is); (case ek_InvalidThresholds => k_is); (case eu_InvalidThresholds => k_is); (case ec_InvalidThresholds => k_is); (case es_InvalidThresholds => k_is); (case ev_InvalidThresholds => k_is); (case eb_InvalidThresholds => k_is); (case ed_InvalidThresholds => k_is); (case ei_InvalidThresholds => k_is); (case ep_InvalidThresholds => k_is); (case ex_InvalidWidth => k_is); (case et_InvalidWidth => k_is); (case ek_InvalidWidth => k_is); (case eu_InvalidWidth => k_is); (case ec_InvalidWidth => k_is); (case es_InvalidWidth => k_is); (case ev_InvalidWidth => k_is); (case eb_InvalidWidth => k_is); (case ed_InvalidWidth => k_is); (case ei_InvalidWidth => k_is); (case ep_InvalidWidth => k_is); (case ex_NoBench => k_is); (case et_NoBench => k_is); (case ek_NoBench => k_is); (case eu_NoBench => k_is); (case ec_NoBench => k_is); (case es_NoBench => k_is); (case eb_NoBench => k_is); (case ed_NoBench => k_is); (case ei_NoBench => k_is); (case ep_NoBench => k_is); (case ex_NotExact => k_is); (case et_NotExact => k_is); (case ek_NotExact => k_is); (case eu_NotExact => k_is); (case ec_NotExact => k_is); (case es_NotExact => k_is); (case ev_NotExact => k_is); (case eb_NotExact => k_is); (case ed_NotExact => k_is); (case ei_NotExact => k_is); (case ep_NotExact => k_is); (case ex_NothingToUndo => k_is); (case et_NothingToUndo => k_is); (case ek_NothingToUndo => k_is); (case eu_NothingToUndo => k_is); (case ec_NothingToUndo => k_is); (case es_NothingToUndo => k_is); (case eb_NothingToUndo => k_is); (case ed_NothingToUndo => k_is); (case ei_NothingToUndo => k_is); (case ep_NothingToUndo => k_is); (case ex_OutOfRange => k_is); (case et_OutOfRange => k_is); (case ek_OutOfRange => k_is); (case eu_OutOfRange => k_is); (case ec_OutOfRange => k_is); (case es_OutOfRange => k_is); (case eb_OutOfRange => k_is); (case ed_OutOfRange => k_is); (case ei_OutOfRange => k_is); (case ep_OutOfRange => k_is); (case ex_UnknownName => k_is); (case et_UnknownName => k_is); (case ek_UnknownName => k_is); (case eu_UnknownName => k_is); (case ec_UnknownName => k_is); (case es_UnknownName => k_is); (case ev_UnknownName => k_is); (case eb_UnknownName => k_is); (case ed_UnknownName => k_is); (case ei_UnknownName => k_is); (case ep_UnknownName => k_is); (case ex_ZeroResult => k_is); (case et_ZeroResult => k_is); (case ek_ZeroResult => k_is); (case eu_ZeroResult => k_is); (case ec_ZeroResult => k_is); (case es_ZeroResult => k_is); (case eb_ZeroResult => k_is); (case ed_ZeroResult => k_is); (case ei_ZeroResult => k_is); (case ep_ZeroResult => k_is); (case em_DifferentWidths => rfl); (case em_InvalidChain => rfl); (case em_InvalidExponent => rfl); (case em_InvalidKind => rfl); (case em_InvalidLine => rfl); (case em_InvalidName => rfl); (case em_InvalidNumber => rfl); (case em_InvalidRange => rfl); (case em_InvalidRule => rfl); (case em_InvalidShift => rfl); (case em_InvalidText => rfl); (case em_InvalidThresholds => rfl); (case em_InvalidWidth => rfl); (case em_NoBench => rfl); (case em_NotExact => rfl); (case em_NothingToUndo => rfl); (case em_OutOfRange => rfl); (case em_UnknownName => rfl); (case em_ZeroResult => rfl); (case kt_DifferentWidths_DifferentWidths => kernel_rfl); (case kt_DifferentWidths_InvalidChain => kernel_rfl); (case kt_DifferentWidths_InvalidExponent => kernel_rfl); (case kt_DifferentWidths_InvalidKind => kernel_rfl); (case kt_DifferentWidths_InvalidLine => kernel_rfl); (case kt_DifferentWidths_InvalidName => kernel_rfl); (case kt_DifferentWidths_InvalidNumber => kernel_rfl); (case kt_DifferentWidths_InvalidRange => kernel_rfl); (case kt_DifferentWidths_InvalidRule => kernel_rfl); (case kt_DifferentWidths_InvalidShift => kernel_rfl); (case kt_DifferentWidths_InvalidText => kernel_rfl); (case kt_DifferentWidths_InvalidThresholds => kernel_rfl); (case kt_DifferentWidths_InvalidWidth => kernel_rfl); (case kt_DifferentWidths_NoBench => kernel_rfl); (case kt_DifferentWidths_NotExact => kernel_rfl); (case kt_DifferentWidths_NothingToUndo => kernel_rfl); (case kt_DifferentWidths_OutOfRange => kernel_rfl); (case kt_DifferentWidths_RoundingError => kernel_rfl); (case kt_DifferentWidths_UnknownName => kernel_rfl); (case kt_DifferentWidths_ValueError => kernel_rfl); (case kt_DifferentWidths_ZeroResult => kernel_rfl); (case kt_InvalidChain_DifferentWidths => kernel_rfl); (case kt_InvalidChain_InvalidChain => kernel_rfl); (case kt_InvalidChain_InvalidExponent => kernel_rfl); (case kt_InvalidChain_InvalidKind => kernel_rfl); (case kt_InvalidChain_InvalidLine => kernel_rfl); (case kt_InvalidChain_InvalidName => kernel_rfl); (case kt_InvalidChain_InvalidNumber => kernel_rfl); (case kt_InvalidChain_InvalidRange => kernel_rfl); (case kt_InvalidChain_InvalidRule => kernel_rfl); (case kt_InvalidChain_InvalidShift => kernel_rfl); (case kt_InvalidChain_InvalidText => kernel_rfl); (case kt_InvalidChain_InvalidThresholds => kernel_rfl); (case kt_InvalidChain_InvalidWidth => kernel_rfl); (case kt_InvalidChain_NoBench => kernel_rfl); (case kt_InvalidChain_NotExact => kernel_rfl); (case kt_InvalidChain_NothingToUndo => kernel_rfl); (case kt_InvalidChain_OutOfRange => kernel_rfl); (case kt_InvalidChain_RoundingError => kernel_rfl); (case kt_InvalidChain_UnknownName => kernel_rfl); (case kt_InvalidChain_ValueError => kernel_rfl); (case kt_InvalidChain_ZeroResult => kernel_rfl); (case kt_InvalidExponent_DifferentWidths => kernel_rfl); (case kt_InvalidExponent_InvalidChain => kernel_rfl); (case kt_InvalidExponent_InvalidExponent => kernel_rfl); (case kt_InvalidExponent_InvalidKind => kernel_rfl); (case kt_InvalidExponent_InvalidLine => kernel_rfl); (case kt_InvalidExponent_InvalidName => kernel_rfl); (case kt_InvalidExponent_InvalidNumber => kernel_rfl); (case kt_InvalidExponent_InvalidRange => kernel_rfl); (case kt_InvalidExponent_InvalidRule => kernel_rfl); (case kt_InvalidExponent_InvalidShift => kernel_rfl); (case kt_InvalidExponent_InvalidText => kernel_rfl); (case kt_InvalidExponent_InvalidThresholds => kernel_rfl); (case kt_InvalidExponent_InvalidWidth => kernel_rfl); (case kt_InvalidExponent_NoBench => kernel_rfl); (case kt_InvalidExponent_NotExact => kernel_rfl); (case kt_InvalidExponent_NothingToUndo => kernel_rfl); (case kt_InvalidExponent_OutOfRange => kernel_rfl); (case kt_InvalidExponent_RoundingError => kernel_rfl); (case kt_InvalidExponent_UnknownName => kernel_rfl); (case kt_InvalidExponent_ValueError => kernel_rfl); (case kt_InvalidExponent_ZeroResult => kernel_rfl); (case kt_InvalidKind_DifferentWidths => kernel_rfl); (case kt_InvalidKind_InvalidChain => kernel_rfl); (case kt_InvalidKind_InvalidExponent => kernel_rfl); (case kt_InvalidKind_InvalidKind => kernel_rfl); (case kt_InvalidKind_InvalidLine => kernel_rfl); (case kt_InvalidKind_InvalidName => kernel_rfl); (case kt_InvalidKind_InvalidNumber => kernel_rfl); (case kt_InvalidKind_InvalidRange => kernel_rfl); (case kt_InvalidKind_InvalidRule => kernel_rfl); (case kt_InvalidKind_InvalidShift => kernel_rfl); (case kt_InvalidKind_InvalidText => kernel_rfl); (case kt_InvalidKind_InvalidThresholds => kernel_rfl); (case kt_InvalidKind_InvalidWidth => kernel_rfl); (case kt_InvalidKind_NoBench => kernel_rfl); (case kt_InvalidKind_NotExact => kernel_rfl); (case kt_InvalidKind_NothingToUndo => kernel_rfl); (case kt_InvalidKind_OutOfRange => kernel_rfl); (case kt_InvalidKind_RoundingError => kernel_rfl); (case kt_InvalidKind_UnknownName => kernel_rfl); (case kt_InvalidKind_ValueError => kernel_rfl); (case kt_InvalidKind_ZeroResult => kernel_rfl); (case kt_InvalidLine_DifferentWidths => kernel_rfl); (case kt_InvalidLine_InvalidChain => kernel_rfl); (case kt_InvalidLine_InvalidExponent => kernel_rfl); (case kt_InvalidLine_InvalidKind => kernel_rfl); (case kt_InvalidLine_InvalidLine => kernel_rfl); (case kt_InvalidLine_InvalidName => kernel_rfl); (case kt_InvalidLine_InvalidNumber => kernel_rfl); (case kt_InvalidLine_InvalidRange => kernel_rfl); (case kt_InvalidLine_InvalidRule => kernel_rfl); (case kt_InvalidLine_InvalidShift => kernel_rfl); (case kt_InvalidLine_InvalidText => kernel_rfl); (case kt_InvalidLine_InvalidThresholds => kernel_rfl); (case kt_InvalidLine_InvalidWidth => kernel_rfl); (case kt_InvalidLine_NoBench => kernel_rfl); (case kt_InvalidLine_NotExact => kernel_rfl); (case kt_InvalidLine_NothingToUndo => kernel_rfl); (case kt_InvalidLine_OutOfRange => kernel_rfl); (case kt_InvalidLine_RoundingError => kernel_rfl); (case kt_InvalidLine_UnknownName => kernel_rfl); (case kt_InvalidLine_ValueError => kernel_rfl); (case kt_InvalidLine_ZeroResult => kernel_rfl); (case kt_InvalidName_DifferentWidths => kernel_rfl); (case kt_InvalidName_InvalidChain => kernel_rfl); (case kt_InvalidName_InvalidExponent => kernel_rfl); (case kt_InvalidName_InvalidKind => kernel_rfl); (case kt_InvalidName_InvalidLine => kernel_rfl); (case kt_InvalidName_InvalidName => kernel_rfl); (case kt_InvalidName_InvalidNumber => kernel_rfl); (case kt_InvalidName_InvalidRange => kernel_rfl); (case kt_InvalidName_InvalidRule => kernel_rfl); (case kt_InvalidName_InvalidShift => kernel_rfl); (case kt_InvalidName_InvalidText => kernel_rfl); (case kt_InvalidName_InvalidThresholds => kernel_rfl); (case kt_InvalidName_InvalidWidth => kernel_rfl); (case kt_InvalidName_NoBench => kernel_rfl); (case kt_InvalidName_NotExact => kernel_rfl); (case kt_InvalidName_NothingToUndo => kernel_rfl); (case kt_InvalidName_OutOfRange => kernel_rfl); (case kt_InvalidName_RoundingError => kernel_rfl); (case kt_InvalidName_UnknownName => kernel_rfl); (case kt_InvalidName_ValueError => kernel_rfl); (case kt_InvalidName_ZeroResult => kernel_rfl); (case kt_InvalidNumber_DifferentWidths => kernel_rfl); (case kt_InvalidNumber_InvalidChain => kernel_rfl); (case kt_InvalidNumber_InvalidExponent => kernel_rfl); (case kt_InvalidNumber_InvalidKind => kernel_rfl); (case kt_InvalidNumber_InvalidLine => kernel_rfl); (case kt_InvalidNumber_InvalidName => kernel_rfl); (case kt_InvalidNumber_InvalidNumber => kernel_rfl); (case kt_InvalidNumber_InvalidRange => kernel_rfl); (case kt_InvalidNumber_InvalidRule => kernel_rfl); (case kt_InvalidNumber_InvalidShift => kernel_rfl); (case kt_InvalidNumber_InvalidText => kernel_rfl); (case kt_InvalidNumber_InvalidThresholds => kernel_rfl); (case kt_InvalidNumber_InvalidWidth => kernel_rfl); (case kt_InvalidNumber_NoBench => kernel_rfl); (case kt_InvalidNumber_NotExact => kernel_rfl); (case kt_InvalidNumber_NothingToUndo => kernel_rfl); (case kt_InvalidNumber_OutOfRange => kernel_rfl); (case kt_InvalidNumber_RoundingError => kernel_rfl); (case kt_InvalidNumber_UnknownName => kernel_rfl); (case kt_InvalidNumber_ValueError => kernel_rfl); (case kt_InvalidNumber_ZeroResult => kernel_rfl); (case kt_InvalidRange_DifferentWidths => kernel_rfl); (case kt_InvalidRange_InvalidChain => kernel_rfl); (case kt_InvalidRange_InvalidExponent => kernel_rfl); (case kt_InvalidRange_InvalidKind => kernel_rfl); (case kt_InvalidRange_InvalidLine => kernel_rfl); (case kt_InvalidRange_InvalidName => kernel_rfl); (case kt_InvalidRange_InvalidNumber => kernel_rfl); (case kt_InvalidRange_InvalidRange => kernel_rfl); (case kt_InvalidRange_InvalidRule => kernel_rfl); (case kt_InvalidRange_InvalidShift => kernel_rfl); (case kt_InvalidRange_InvalidText => kernel_rfl); (case kt_InvalidRange_InvalidThresholds => kernel_rfl); (case kt_InvalidRange_InvalidWidth => kernel_rfl); (case kt_InvalidRange_NoBench => kernel_rfl); (case kt_InvalidRange_NotExact => kernel_rfl); (case kt_InvalidRange_NothingToUndo => kernel_rfl); (case kt_InvalidRange_OutOfRange => kernel_rfl); (case kt_InvalidRange_RoundingError => kernel_rfl); (case kt_InvalidRange_UnknownName => kernel_rfl); (case kt_InvalidRange_ValueError => kernel_rfl); (case kt_InvalidRange_ZeroResult => kernel_rfl); (case kt_InvalidRule_DifferentWidths => kernel_rfl); (case kt_InvalidRule_InvalidChain => kernel_rfl); (case kt_InvalidRule_InvalidExponent => kernel_rfl); (case kt_InvalidRule_InvalidKind => kernel_rfl); (case kt_InvalidRule_InvalidLine => kernel_rfl); (case kt_InvalidRule_InvalidName => kernel_rfl); (case kt_InvalidRule_InvalidNumber => kernel_rfl); (case kt_InvalidRule_InvalidRange => kernel_rfl); (case kt_InvalidRule_InvalidRule => kernel_rfl); (case kt_InvalidRule_InvalidShift => kernel_rfl); (case kt_InvalidRule_InvalidText => kernel_rfl); (case kt_InvalidRule_InvalidThresholds => kernel_rfl); (case kt_InvalidRule_InvalidWidth => kernel_rfl); (case kt_InvalidRule_NoBench => kernel_rfl); (case kt_InvalidRule_NotExact => kernel_rfl); (case kt_InvalidRule_NothingToUndo => kernel_rfl); (case kt_InvalidRule_OutOfRange => kernel_rfl); (case kt_InvalidRule_RoundingError => kernel_rfl); (case kt_InvalidRule_UnknownName => kernel_rfl); (case kt_InvalidRule_ValueError => kernel_rfl); (case kt_InvalidRule_ZeroResult => kernel_rfl); (case kt_InvalidShift_DifferentWidths => kernel_rfl); (case kt_InvalidShift_InvalidChain => kernel_rfl); (case kt_InvalidShift_InvalidExponent => kernel_rfl); (case kt_InvalidShift_InvalidKind => kernel_rfl); (case kt_InvalidShift_InvalidLine => kernel_rfl); (case kt_InvalidShift_InvalidName => kernel_rfl); (case kt_InvalidShift_InvalidNumber => kernel_rfl); (case kt_InvalidShift_InvalidRange => kernel_rfl); (case kt_InvalidShift_InvalidRule => kernel_rfl); (case kt_InvalidShift_InvalidShift => kernel_rfl); (case kt_InvalidShift_InvalidText => kernel_rfl); (case kt_InvalidShift_InvalidThresholds => kernel_rfl); (case kt_InvalidShift_InvalidWidth => kernel_rfl); (case kt_InvalidShift_NoBench => kernel_rfl); (case kt_InvalidShift_NotExact => kernel_rfl); (case kt_InvalidShift_NothingToUndo => kernel_rfl); (case kt_InvalidShift_OutOfRange => kernel_rfl); (case kt_InvalidShift_RoundingError => kernel_rfl); (case kt_InvalidShift_UnknownName => kernel_rfl); (case kt_InvalidShift_ValueError => kernel_rfl); (case kt_InvalidShift_ZeroResult => kernel_rfl); (case kt_InvalidText_DifferentWidths => kernel_rfl); (case kt_InvalidText_InvalidChain => kernel_rfl); (case kt_InvalidText_InvalidExponent => kernel_rfl); (case kt_InvalidText_InvalidKind => kernel_rfl); (case kt_InvalidText_InvalidLine => kernel_rfl); (case kt_InvalidText_InvalidName => kernel_rfl); (case kt_InvalidText_InvalidNumber => kernel_rfl); (case kt_InvalidText_InvalidRange => kernel_rfl); (case kt_InvalidText_InvalidRule => kernel_rfl); (case kt_InvalidText_InvalidShift => kernel_rfl); (case kt_InvalidText_InvalidText => kernel_rfl); (case kt_InvalidText_InvalidThresholds => kernel_rfl); (case kt_InvalidText_InvalidWidth => kernel_rfl); (case kt_InvalidText_NoBench => kernel_rfl); (case kt_InvalidText_NotExact => kernel_rfl); (case kt_InvalidText_NothingToUndo => kernel_rfl); (case kt_InvalidText_OutOfRange => kernel_rfl); (case kt_InvalidText_RoundingError => kernel_rfl); (case kt_InvalidText_UnknownName => kernel_rfl); (case kt_InvalidText_ValueError => kernel_rfl); (case kt_InvalidText_ZeroResult => kernel_rfl); (case kt_InvalidThresholds_DifferentWidths => kernel_rfl); (case kt_InvalidThresholds_InvalidChain => kernel_rfl); (case kt_InvalidThresholds_InvalidExponent => kernel_rfl); (case kt_InvalidThresholds_InvalidKind => kernel_rfl); (case kt_InvalidThresholds_InvalidLine => kernel_rfl); (case kt_InvalidThresholds_InvalidName => kernel_rfl); (case kt_InvalidThresholds_InvalidNumber => kernel_rfl); (case kt_InvalidThresholds_InvalidRange => kernel_rfl); (case kt_InvalidThresholds_InvalidRule => kernel_rfl); (case kt_InvalidThresholds_InvalidShift => kernel_rfl); (case kt_InvalidThresholds_InvalidText => kernel_rfl); (case kt_InvalidThresholds_InvalidThresholds => kernel_rfl); (case kt_InvalidThresholds_InvalidWidth => kernel_rfl); (case kt_InvalidThresholds_NoBench => kernel_rfl); (case kt_InvalidThresholds_NotExact => kernel_rfl); (case kt_InvalidThresholds_NothingToUndo => kernel_rfl); (case kt_InvalidThresholds_OutOfRange => kernel_rfl); (case kt_InvalidThresholds_RoundingError => kernel_rfl); (case kt_InvalidThresholds_UnknownName => kernel_rfl); (case kt_InvalidThresholds_ValueError => kernel_rfl); (case kt_InvalidThresholds_ZeroResult => kernel_rfl); (case kt_InvalidWidth_DifferentWidths => kernel_rfl); (case kt_InvalidWidth_InvalidChain => kernel_rfl); (case kt_InvalidWidth_InvalidExponent => kernel_rfl); (case kt_InvalidWidth_InvalidKind => kernel_rfl); (case kt_InvalidWidth_InvalidLine => kernel_rfl); (case kt_InvalidWidth_InvalidName => kernel_rfl); (case kt_InvalidWidth_InvalidNumber => kernel_rfl); (case kt_InvalidWidth_InvalidRange => kernel_rfl); (case kt_InvalidWidth_InvalidRule => kernel_rfl); (case kt_InvalidWidth_InvalidShift => kernel_rfl); (case kt_InvalidWidth_InvalidText => kernel_rfl); (case kt_InvalidWidth_InvalidThresholds => kernel_rfl); (case kt_InvalidWidth_InvalidWidth => kernel_rfl); (case kt_InvalidWidth_NoBench => kernel_rfl); (case kt_InvalidWidth_NotExact => kernel_rfl); (case kt_InvalidWidth_NothingToUndo => kernel_rfl); (case kt_InvalidWidth_OutOfRange => kernel_rfl); (case kt_InvalidWidth_RoundingError => kernel_rfl); (case kt_InvalidWidth_UnknownName => kernel_rfl); (case kt_InvalidWidth_ValueError => kernel_rfl); (case kt_InvalidWidth_ZeroResult => kernel_rfl); (case kt_NoBench_DifferentWidths => kernel_rfl); (case kt_NoBench_InvalidChain => kernel_rfl); (case kt_NoBench_InvalidExponent => kernel_rfl); (case kt_NoBench_InvalidKind => kernel_rfl); (case kt_NoBench_InvalidLine => kernel_rfl); (case kt_NoBench_InvalidName => kernel_rfl); (case kt_NoBench_InvalidNumber => kernel_rfl); (case kt_NoBench_InvalidRange => kernel_rfl); (case kt_NoBench_InvalidRule => kernel_rfl); (case kt_NoBench_InvalidShift => kernel_rfl); (case kt_NoBench_InvalidText => kernel_rfl); (case kt_NoBench_InvalidThresholds => kernel_rfl); (case kt_NoBench_InvalidWidth => kernel_rfl); (case kt_NoBench_NoBench => kernel_rfl); (case kt_NoBench_NotExact => kernel_rfl); (case kt_NoBench_NothingToUndo => kernel_rfl); (case kt_NoBench_OutOfRange => kernel_rfl); (case kt_NoBench_RoundingError => kernel_rfl); (case kt_NoBench_UnknownName => kernel_rfl); (case kt_NoBench_ValueError => kernel_rfl); (case kt_NoBench_ZeroResult => kernel_rfl); (case kt_NotExact_DifferentWidths => kernel_rfl); (case kt_NotExact_InvalidChain => kernel_rfl); (case kt_NotExact_InvalidExponent => kernel_rfl); (case kt_NotExact_InvalidKind => kernel_rfl); (case kt_NotExact_InvalidLine => kernel_rfl); (case kt_NotExact_InvalidName => kernel_rfl); (case kt_NotExact_InvalidNumber => kernel_rfl); (case kt_NotExact_InvalidRange => kernel_rfl); (case kt_NotExact_InvalidRule => kernel_rfl); (case kt_NotExact_InvalidShift => kernel_rfl); (case kt_NotExact_InvalidText => kernel_rfl); (case kt_NotExact_InvalidThresholds => kernel_rfl); (case kt_NotExact_InvalidWidth => kernel_rfl); (case kt_NotExact_NoBench => kernel_rfl); (case kt_NotExact_NotExact => kernel_rfl); (case kt_NotExact_NothingToUndo => kernel_rfl); (case kt_NotExact_OutOfRange => kernel_rfl); (case kt_NotExact_RoundingError => kernel_rfl); (case kt_NotExact_UnknownName => kernel_rfl); (case kt_NotExact_ValueError => kernel_rfl); (case kt_NotExact_ZeroResult => kernel_rfl); (case kt_NothingToUndo_DifferentWidths => kernel_rfl); (case kt_NothingToUndo_InvalidChain => kernel_rfl); (case kt_NothingToUndo_InvalidExponent => kernel_rfl); (case kt_NothingToUndo_InvalidKind => kernel_rfl); (case kt_NothingToUndo_InvalidLine => kernel_rfl); (case kt_NothingToUndo_InvalidName => kernel_rfl); (case kt_NothingToUndo_InvalidNumber => kernel_rfl); (case kt_NothingToUndo_InvalidRange => kernel_rfl); (case kt_NothingToUndo_InvalidRule => kernel_rfl); (case kt_NothingToUndo_InvalidShift => kernel_rfl); (case kt_NothingToUndo_InvalidText => kernel_rfl); (case kt_NothingToUndo_InvalidThresholds => kernel_rfl); (case kt_NothingToUndo_InvalidWidth => kernel_rfl); (case kt_NothingToUndo_NoBench => kernel_rfl); (case kt_NothingToUndo_NotExact => kernel_rfl); (case kt_NothingToUndo_NothingToUndo => kernel_rfl); (case kt_NothingToUndo_OutOfRange => kernel_rfl); (case kt_NothingToUndo_RoundingError => kernel_rfl); (case kt_NothingToUndo_UnknownName => kernel_rfl); (case kt_NothingToUndo_ValueError => kernel_rfl); (case kt_NothingToUndo_ZeroResult => kernel_rfl); (case kt_OutOfRange_DifferentWidths => kernel_rfl); (case kt_OutOfRange_InvalidChain => kernel_rfl); (case kt_OutOfRange_InvalidExponent => kernel_rfl); (case kt_OutOfRange_InvalidKind => kernel_rfl); (case kt_OutOfRange_InvalidLine => kernel_rfl); (case kt_OutOfRange_InvalidName => kernel_rfl); (case kt_OutOfRange_InvalidNumber => kernel_rfl); (case kt_OutOfRange_InvalidRange => kernel_rfl); (case kt_OutOfRange_InvalidRule => kernel_rfl); (case kt_OutOfRange_InvalidShift => kernel_rfl); (case kt_OutOfRange_InvalidText => kernel_rfl); (case kt_OutOfRange_InvalidThresholds => kernel_rfl); (case kt_OutOfRange_InvalidWidth => kernel_rfl); (case kt_OutOfRange_NoBench => kernel_rfl); (case kt_OutOfRange_NotExact => kernel_rfl); (case kt_OutOfRange_NothingToUndo => kernel_rfl); (case kt_OutOfRange_OutOfRange => kernel_rfl); (case kt_OutOfRange_RoundingError => kernel_rfl); (case kt_OutOfRange_UnknownName => kernel_rfl); (case kt_OutOfRange_ValueError => kernel_rfl); (case kt_OutOfRange_ZeroResult => kernel_rfl); (case kt_UnknownName_DifferentWidths => kernel_rfl); (case kt_UnknownName_InvalidChain => kernel_rfl); (case kt_UnknownName_InvalidExponent => kernel_rfl); (case kt_UnknownName_InvalidKind => kernel_rfl); (case kt_UnknownName_InvalidLine => kernel_rfl); (case kt_UnknownName_InvalidName => kernel_rfl); (case kt_UnknownName_InvalidNumber => kernel_rfl); (case kt_UnknownName_InvalidRange => kernel_rfl); (case kt_UnknownName_InvalidRule => kernel_rfl); (case kt_UnknownName_InvalidShift => kernel_rfl); (case kt_UnknownName_InvalidText => kernel_rfl); (case kt_UnknownName_InvalidThresholds => kernel_rfl); (case kt_UnknownName_InvalidWidth => kernel_rfl); (case kt_UnknownName_NoBench => kernel_rfl); (case kt_UnknownName_NotExact => kernel_rfl); (case kt_UnknownName_NothingToUndo => kernel_rfl); (case kt_UnknownName_OutOfRange => kernel_rfl); (case kt_UnknownName_RoundingError => kernel_rfl); (case kt_UnknownName_UnknownName => kernel_rfl); (case kt_UnknownName_ValueError => kernel_rfl); (case kt_UnknownName_ZeroResult => kernel_rfl); (case kt_ZeroResult_DifferentWidths => kernel_rfl); (case kt_ZeroResult_InvalidChain => kernel_rfl); (case kt_ZeroResult_InvalidExponent => kernel_rfl); (case kt_ZeroResult_InvalidKind => kernel_rfl); (case kt_ZeroResult_InvalidLine => kernel_rfl); (case kt_ZeroResult_InvalidName => kernel_rfl); (case kt_ZeroResult_InvalidNumber => kernel_rfl); (case kt_ZeroResult_InvalidRange => kernel_rfl); (case kt_ZeroResult_InvalidRule => kernel_rfl); (case kt_ZeroResult_InvalidShift => kernel_rfl); (case kt_ZeroResult_InvalidText => kernel_rfl); (case kt_ZeroResult_InvalidThresholds => kernel_rfl); (case kt_ZeroResult_InvalidWidth => kernel_rfl); (case kt_ZeroResult_NoBench => kernel_rfl); (case kt_ZeroResult_NotExact => kernel_rfl); (case kt_ZeroResult_NothingToUndo => kernel_rfl); (case kt_ZeroResult_OutOfRange => kernel_rfl); (case kt_ZeroResult_RoundingError => kernel_rfl); (case kt_ZeroResult_UnknownName => kernel_rfl); (case kt_ZeroResult_ValueError => kernel_rfl); (case kt_ZeroResult_ZeroResult => kernel_rfl)
