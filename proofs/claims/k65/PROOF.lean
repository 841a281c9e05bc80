import PyProof.Rows.All
import KE.KDictWalk
import HandS.ForMost
import HandS.Evl
import HandS.IsInst
import HandS.Wide
import HandS.WideBits
import HandS.Zip
import HandS.Flow
import HandS.TupAny
import HandS.Exc
import HandS.Lambda
import HandS.Style
import HandS.Walk
import HandS.Rev
import HandS.RaiseMore
import KE.KNestM
import HandS.WideMore
import PyProof.ReprLen
import PyProof.ReprRoads
import HandS.Conv
import HandS.More
import HandS.HeadHook3
import KE.SortData
import PyProof.ListMulAny
import HandS.Deep
import KE.KDictZip
import PyProof.ListNew
import KE.GoesEnum
import HandS.Iter
import HandS.Text
import KE.DataCmp
import PyProof.LongRange
import HandS.NoneIn
import HandS.SetFor
import HandS.Strs
import HandS.TupMul
import HandS.ExcInit
import HandS.ExcOwn
import HandS.FStr
import HandS.TryMany
import HandS.ExcField
import HandS.ExcIs
import KE.KExcIs
import HandS.WrittenGet
import KE.GoesZip
import KE.GoesMore
import HandS.StrSplit
import KE.KRevSl
import PyProof.Rows.StrRev
import KE.KStrOpen
import PyProof.ListStr
import KE.IntTextLaws
import KE.KIntText
import PyProof.StrLawsChain
import KE.IntTextText
import HandS.TupSets
import KE.KeyNested
import PySem.Challenge.RW_stagedrounding_k65_whole_monotone_chains
set_option Elab.async false
set_option linter.all false
set_option maxRecDepth 100000
set_option maxHeartbeats 4000000
set_option autoImplicit false
namespace Z
open L2 PySem PySem.Spec PyProof.Rows
open Evl (Ex ex_l ex_t ex_rd fresh_back)
abbrev Da := PyData
abbrev Fg := PySem.W.Frag
def keyD : Key → Da
  | .inl i => .int i
  | .inr x => .str x
mutual
inductive Rp (K : Fg) (F : Hp) : V → Da → Prop
  | non : Rp K F .non .none
  | bl (b : Bool) : Rp K F (.bl b) (.bool b)
  | int (i : Int) : Rp K F (.int i) (.int i)
  | str (x : Str) : Rp K F (.str x) (.str x)
  | lst {a : Addr} {xs : List V} {ds : List Da} : F a = some (.lst xs) → Rps K F xs ds → Rp K F (.ref a) (.list ds)
  | tup {a : Addr} {xs : List V} {ds : List Da} : SqT K F a xs → Rps K F xs ds → Rp K F (.ref a) (.tuple ds)
  | dct {a : Addr} {kvs : List (Key × V)} {es : List (Da × Da)} : Rd F a (.dK kvs) → RpK K F kvs es → Rp K F (.ref a) (.dict es)
inductive Rps (K : Fg) (F : Hp) : List V → List Da → Prop
  | nil : Rps K F [] []
  | cons {v : V} {vs : List V} {d : Da} {ds : List Da} : Rp K F v d → Rps K F vs ds → Rps K F (v :: vs) (d :: ds)
inductive RpK (K : Fg) (F : Hp) : List (Key × V) → List (Da × Da) → Prop
  | nil : RpK K F [] []
  | cons {k : Key} {v : V} {vs : List (Key × V)} {d : Da} {ds : List (Da × Da)} : Rp K F v d → RpK K F vs ds → RpK K F ((k, v) :: vs) ((keyD k, d) :: ds)
end
section
variable {K : Fg} {F F' : Hp}
mutual
theorem Rp.mono (e : Ex F F') : ∀ (d : Da) (v : V), Rp K F v d → Rp K F' v d
  | .none, _, h => by cases h; exact .non
  | .bool b, _, h => by cases h; exact .bl b
  | .int i, _, h => by cases h; exact .int i
  | .str x, _, h => by cases h; exact .str x
  | .list ds, _, h => by cases h with | lst hs ha => exact .lst (e _ _ hs) (Rps.mono e ds _ ha)
  | .tuple ds, _, h => by cases h with | tup hs ha => exact .tup (ex_t e hs) (Rps.mono e ds _ ha)
  | .dict es, _, h => by cases h with | dct hs ha => exact .dct (ex_rd e hs) (RpK.mono e es _ ha)
theorem Rps.mono (e : Ex F F') : ∀ (ds : List Da) (vs : List V), Rps K F vs ds → Rps K F' vs ds
  | [], _, h => by cases h; exact .nil
  | d :: ds, _, h => by cases h with | cons h1 h2 => exact .cons (Rp.mono e d _ h1) (Rps.mono e ds _ h2)
theorem RpK.mono (e : Ex F F') : ∀ (ds : List (Da × Da)) (vs : List (Key × V)), RpK K F vs ds → RpK K F' vs ds
  | [], _, h => by cases h; exact .nil
  | (_, d) :: ds, _, h => by cases h with | cons h1 h2 => exact .cons (Rp.mono e d _ h1) (RpK.mono e ds _ h2)
end
theorem Rp.up {v : V} {d : Da} (h : Rp K F v d) (e : Ex F F') : Rp K F' v d := Rp.mono e d v h
theorem Rps.up {v : List V} {d : List Da} (h : Rps K F v d) (e : Ex F F') : Rps K F' v d := Rps.mono e d v h
theorem Rps.len : ∀ {vs : List V} {ds : List Da}, Rps K F vs ds → vs.length = ds.length
  | _, _, .nil => rfl
  | _, _, .cons _ t => congrArg (· + 1) t.len
theorem Rps.get : ∀ {vs : List V} {ds : List Da} {i : Nat} {d : Da}, Rps K F vs ds → ds[i]? = some d → ∃ v, vs[i]? = some v ∧ Rp K F v d
  | _, _, _, _, .nil, e => by simp at e
  | _, _, 0, _, .cons r _, e => by simp at e; subst e; exact ⟨_, rfl, r⟩
  | _, _, i + 1, d, .cons _ t, e => by
    obtain ⟨u, h1, h2⟩ := Rps.get (i := i) (d := d) t (by simpa using e)
    exact ⟨u, by simpa using h1, h2⟩
theorem Rps.app : ∀ {vs us : List V} {ds es : List Da}, Rps K F vs ds → Rps K F us es → Rps K F (vs ++ us) (ds ++ es)
  | _, _, _, _, .nil, s => s
  | _, _, _, _, .cons r t, s => .cons r (t.app s)
end
/-- a still thing that is no datum: an instance by its class's name and its fields; an exception of the program's own by its class's name and its value -/
inductive Kd where | ins (nm : Str) (fs : List (Str × Da)) | exc (nm : Str) (z : Option Da) | at (p : Addr) | insAt (p : Addr) (nm : Str) (fs : List (Str × Da)) | lam (F0 : Hp) (f c : Addr) (q : Str) | dx (ms : List Da) (d : Addr) (es : Array DictEntry) (ep : Nat)
/-- a dict by its entries, whatever its keys -/
def DctX (d : Addr) (es : Array DictEntry) (ep : Nat) : HO := .ext fun h => h.DictRaw d es ep
/-- what an exception in the air says -/
def XvOk (K : Fg) (F : Hp) (cls : Value) (dd : Option Addr) (nm : Str) : Option Da → Prop
  | some z => ∃ (C x : Addr) (u : V), cls = .ref C ∧ PySem.W.nsIn K mainGlobals nm = some (some (.ref C)) ∧ dd = some x ∧ F x = some (.xd [("value", u)]) ∧ Rp K F u z
  | none => ∃ C : Addr, cls = .ref C ∧ PySem.W.nsIn K mainGlobals nm = some (some (.ref C)) ∧ dd = none
theorem XvOk.up {K : Fg} {F F' : Hp} {cls : Value} {dd : Option Addr} {nm : Str} (e : Ex F F') : ∀ {z : Option Da}, XvOk K F cls dd nm z → XvOk K F' cls dd nm z
  | some _, ⟨C, x, u, h1, h2, h3, h4, h5⟩ => ⟨C, x, u, h1, h2, h3, e _ _ h4, h5.up e⟩
  | none, h => h
/-- an exception that was caught, at a -/
def exT (a : Addr) (cls : Value) (d : Option Addr) : HO := .ext fun h => ∃ (oe : Obj) (vs : Array Value), h.get? a = some oe ∧ Zc cls d oe ∧ oe.data = .fields vs
def ObOk (K : Fg) (F : Hp) (v : V) : Kd → Prop
  | .ins nm fs => ∃ (p C dx : Addr) (us : List (Str × V)), v = .ref p ∧ PySem.W.nsIn K mainGlobals nm = some (some (.ref C)) ∧ F p = some (.ins C dx us) ∧ us.map Prod.fst = fs.map Prod.fst ∧ Rps K F (us.map Prod.snd) (fs.map Prod.snd)
  | .exc nm z => ∃ (a : Addr) (cls : Value) (dd : Option Addr), v = .ref a ∧ F a = some (exT a cls dd) ∧ XvOk K F cls dd nm z
  | .at p => v = .ref p
  | .lam F0 f c q => v = .ref f ∧ F c = some (LamX.CodeO c q) ∧ Ex F0 F
  | .dx ms d es ep => v = .ref d ∧ (d == sysModules) = false ∧ F d = some (DctX d es ep) ∧ Paired (fun (m : Da) (e : DictEntry) => ∃ u : V, RelV u e.val ∧ Rp K F u m) ms es.toList
  | .insAt p nm fs => ∃ (C dx : Addr) (us : List (Str × V)), v = .ref p ∧ PySem.W.nsIn K mainGlobals nm = some (some (.ref C)) ∧ F p = some (.ins C dx us) ∧ us.map Prod.fst = fs.map Prod.fst ∧ Rps K F (us.map Prod.snd) (fs.map Prod.snd)
theorem ObOk.up {K : Fg} {F F' : Hp} {v : V} (e : Ex F F') : ∀ {k : Kd}, ObOk K F v k → ObOk K F' v k
  | .ins _ _, ⟨p, C, dx, us, h1, h2, h3, h4, h5⟩ => ⟨p, C, dx, us, h1, h2, e _ _ h3, h4, h5.up e⟩
  | .exc _ _, ⟨a, cls, dd, h1, h2, h3⟩ => ⟨a, cls, dd, h1, e _ _ h2, h3.up e⟩
  | .at _, h => h
  | .lam _ _ _ _, ⟨h1, h2, h3⟩ => ⟨h1, e _ _ h2, h3.trans e⟩
  | .dx _ _ _ _, ⟨h1, h2, h3, h4⟩ => ⟨h1, h2, e _ _ h3, Paired.mapP h4 fun _ _ ⟨u, q1, q2⟩ => ⟨u, q1, q2.up e⟩⟩
  | .insAt _ _ _, ⟨C, dx, us, h1, h2, h3, h4, h5⟩ => ⟨C, dx, us, h1, h2, e _ _ h3, h4, h5.up e⟩
/-- a local's content: a datum; an own list, not yet given away; the source of draws -/
inductive Sv where | val (d : Da) | own (ds : List Da) | src | scr (ns : List Int) | ob (k : Kd)
/-- an expression's value -/
inductive Rv where | val (d : Da) | src | scr (ns : List Int) | ob (k : Kd)
/-- a def's result; or what it raised: the class's name, the field value -/
inductive Rr where | val (d : Da) | own (ds : List Da) | exc (nm : Str) (d : Option Da)
structure Gs where
  sl : List (Option Sv)
  fu : Option Nat
  ow : Bool
/-- the entry: the still part, the heap, the source that was handed in -/
structure Con where
  F : Hp
  H : Hp
  ext : Option Addr
def modS : Int := 2305843009213693921
/-- a source of draws that may be asked n times more -/
def SrcAt (H : Hp) (a : Addr) (n : Nat) : Prop := ∃ x y z : Int, H a = some (.lst [.int x, .int y, .int z]) ∧ 0 ≤ x ∧ x < 2 ^ 1000 ∧ 0 ≤ y ∧ y < modS ∧ 0 ≤ z ∧ z + n ≤ 2 ^ 40
def SlOk (K : Fg) (F H : Hp) (c : Con) (a : Addr) (fu : Option Nat) (v : V) : Sv → Prop
  | .val d => Rp K F v d
  | .own ds => ∃ o xs, v = .ref o ∧ F o = none ∧ c.H o = none ∧ H o = some (.lst xs) ∧ Rps K F xs ds ∧ (fu ≠ none → o ≠ a)
  | .src => v = .ref a ∧ fu ≠ none
  | .scr ns => ∃ b, v = .ref b ∧ SqL K F b (ns.map V.int)
  | .ob k => ObOk K F v k
def RvOk (K : Fg) (F : Hp) (a : Addr) (fu : Option Nat) (v : V) : Rv → Prop
  | .val d => Rp K F v d
  | .src => v = .ref a ∧ fu ≠ none
  | .scr ns => ∃ b, v = .ref b ∧ SqL K F b (ns.map V.int)
  | .ob k => ObOk K F v k
theorem RvOk.up {K : Fg} {F F' : Hp} {a : Addr} {fu : Option Nat} {v : V} (e : Ex F F') : ∀ {r : Rv}, RvOk K F a fu v r → RvOk K F' a fu v r
  | .val _, h => Rp.up h e
  | .src, h => h
  | .scr _, ⟨b, h1, h2⟩ => ⟨b, h1, ex_l e h2⟩
  | .ob _, h => ObOk.up e h
inductive Tm (K : Fg) (F : Hp) (a : Addr) (fu : Option Nat) : List V → List Rv → Prop
  | nil : Tm K F a fu [] []
  | cons {v : V} {vs : List V} {r : Rv} {rs : List Rv} : RvOk K F a fu v r → Tm K F a fu vs rs → Tm K F a fu (v :: vs) (r :: rs)
def LAM : List Str := []
def lamQ (x : Str) : Str := x ++ ".<locals>.<lambda>"
/-- no table -/
def NT (o : HO) : Prop := ∀ ps, o ≠ .tbl ps
/-- the table at P: known to the heap, not to the still part; its code objects are known to the still part -/
structure TabAt (F H : Hp) (P : Addr) (q : Str) : Prop where
  ex : ∃ ps : Array Value, H P = some (.tbl ps) ∧ PySem.TriplesOk ps.toList ∧ ∀ (pos : Pos) (cv : Value), PySem.codeAmong pos ps.toList = some cv → ∃ c, cv = .ref c ∧ F c = some (LamX.CodeO c q)
  no : F P = none
def TabK (K : Fg) (F H : Hp) : Prop := ∀ x c P, x ∈ LAM → PySem.W.tabIn K x = some (c, P) → TabAt F H P (lamQ x)
theorem TabK.up {K : Fg} {F H F' H' : Hp} (t : TabK K F H) (ef : Ex F F') (eh : ∀ b ps, H b = some (.tbl ps) → H' b = some (.tbl ps)) (rn : ∀ b, F' b ≠ none → F b ≠ none ∨ ∀ ps, H b ≠ some (.tbl ps)) : TabK K F' H' := fun x c P h1 h2 => by
  obtain ⟨⟨ps, a1, a2, a3⟩, a4⟩ := t x c P h1 h2
  refine ⟨⟨ps, eh P ps a1, a2, fun pos cv hc => ?_⟩, ?_⟩
  · obtain ⟨c, e1, e2⟩ := a3 pos cv hc
    exact ⟨c, e1, ef _ _ e2⟩
  · cases q : F' P with
    | none => rfl
    | some o =>
      rcases rn P (by rw [q]; exact fun z => nomatch z) with w | w
      · exact absurd a4 w
      · exact absurd a1 (w ps)
/-- the still part grows by a list of the heap -/
theorem TabK.lst {K : Fg} {F H : Hp} {o : Addr} {xs : List V} (t : TabK K F H) (ho : H o = some (.lst xs)) (fo : F o = none) : TabK K (upd F o (.lst xs)) H :=
  t.up (Ex.new fo) (fun _ _ h => h) fun b h => by
    by_cases z : b = o
    · subst z
      exact .inr fun ps e => by rw [ho] at e; cases e
    · rw [upd_ne z] at h
      exact .inl h
/-- another thing at o, where there was no table -/
theorem TabK.but {K : Fg} {F H H' : Hp} {o : Addr} {w : HO} (t : TabK K F H) (ho : H o = some w) (n : NT w) (e : ∀ b u, b ≠ o → H b = some u → H' b = some u) : TabK K F H' :=
  t.up (Ex.refl F) (fun b ps h => e b _ (fun z => by rw [z, ho] at h; cases h; exact n _ rfl) h) fun _ h => .inl h
/-- tables stay tables -/
def TbS (H H' : Hp) : Prop := ∀ b ps, H b = some (.tbl ps) → ∃ ps', H' b = some (.tbl ps')
theorem TbS.refl {H : Hp} : TbS H H := fun _ ps h => ⟨ps, h⟩
theorem TbS.ex {H H' : Hp} (e : Ex H H') : TbS H H' := fun b ps h => ⟨ps, e b _ h⟩
theorem TbS.trans {H H1 H2 : Hp} (a : TbS H H1) (b : TbS H1 H2) : TbS H H2 := fun x ps h => let ⟨ps', h'⟩ := a x ps h; b x ps' h'
theorem TbS.but {H H' : Hp} {o : Addr} {w : HO} (ho : H o = some w) (n : NT w) (e : ∀ b u, b ≠ o → H b = some u → H' b = some u) : TbS H H' :=
  fun b ps h => ⟨ps, e b _ (fun z => by rw [z, ho] at h; cases h; exact n _ rfl) h⟩
structure Sta (K : Fg) (c : Con) (g : Gs) (σ : L2.St) (H : Hp) (tv : List V) (tr : List Rv) (F : Hp) (a : Addr) : Prop where
  e0 : Ex c.F F
  eh : Ex F H
  keep : ∀ b o, c.ext ≠ some b → NT o → c.H b = some o → H b = some o
  new : ∀ b, F b ≠ none → c.F b ≠ none ∨ c.H b = none
  ex : ∀ b, c.ext = some b → a = b ∧ g.fu ≠ none
  ow : g.ow = true → c.ext = none
  src : ∀ n, g.fu = some n → F a = none ∧ (c.ext = some a ∨ (c.ext = none ∧ c.H a = none)) ∧ SrcAt H a n
  tmp : Tm K F a g.fu tv tr
  len : σ.length = g.sl.length
  slot : ∀ (i : Nat) s, g.sl[i]? = some (some s) → ∃ v, σ[i]? = some (some v) ∧ SlOk K F H c a g.fu v s
  dis : ∀ (i j : Nat) ds es, i ≠ j → g.sl[i]? = some (some (.own ds)) → g.sl[j]? = some (some (.own es)) → σ[i]? ≠ σ[j]?
  t0 : TabK K F H
  tab : TbS c.H H
/-- still part and heap have grown -/
structure Gr (F H F' H' : Hp) : Prop where
  f : Ex F F'
  h : Ex H H'
  s : Ex F' H'
  n : ∀ b, F' b ≠ none → F b ≠ none ∨ H b = none
theorem Gr.refl {F H : Hp} (e : Ex F H) : Gr F H F H := ⟨Ex.refl _, Ex.refl _, e, fun _ h => .inl h⟩
theorem ne_none {α : Type} {x : Option α} {o : α} (h : x = some o) : x ≠ none := by rw [h]; exact fun z => nomatch z
theorem Gr.new {F H : Hp} {p : Addr} {o : HO} (e : Ex F H) (hp : H p = none) : Gr F H (upd F p o) (upd H p o) := by
  have fp : F p = none := fresh_back e hp
  refine ⟨Ex.new fp, Ex.new hp, fun b u q => ?_, fun b q => ?_⟩
  · by_cases hb : b = p
    · subst hb; rw [upd_same] at q ⊢; exact q
    · rw [upd_ne hb] at q ⊢; exact e b u q
  · by_cases hb : b = p
    · subst hb; exact .inr hp
    · rw [upd_ne hb] at q; exact .inl q
theorem Gr.trans {F H F1 H1 F2 H2 : Hp} (a : Gr F H F1 H1) (b : Gr F1 H1 F2 H2) : Gr F H F2 H2 :=
  ⟨a.f.trans b.f, a.h.trans b.h, b.s, fun x q => by
    rcases b.n x q with z | z
    · exact a.n x z
    · exact .inr (fresh_back a.h z)⟩
theorem Tm.up {K : Fg} {F F' : Hp} {a : Addr} {fu : Option Nat} (e : Ex F F') : ∀ {tv : List V} {tr : List Rv}, Tm K F a fu tv tr → Tm K F' a fu tv tr
  | _, _, .nil => .nil
  | _, _, .cons (r := r) h t => .cons (h.up e) (t.up e)
section
variable {K : Fg} {c : Con} {g : Gs} {σ : L2.St} {H H' F F' : Hp} {tv : List V} {tr : List Rv} {a : Addr}
/-- an old address is not new -/
theorem Sta.fresh (s : Sta K c g σ H tv tr F a) {b : Addr} (h : H b = none) : c.H b = none := by
  cases q : c.H b with
  | none => rfl
  | some o =>
    by_cases hx : c.ext = some b
    · obtain ⟨e1, e2⟩ := s.ex b hx
      subst e1
      cases hf : g.fu with
      | none => exact absurd hf e2
      | some n =>
        obtain ⟨_, _, x, y, z, e, _⟩ := s.src n hf
        rw [h] at e; cases e
    · cases o with
      | tbl ps =>
        obtain ⟨ps', z⟩ := s.tab b ps q
        rw [h] at z; cases z
      | _ => rw [s.keep b _ hx (fun _ z => by cases z) q] at h; cases h
theorem Sta.tabk (s : Sta K c g σ H tv tr F a) : TabK K F H := s.t0
theorem Sta.growN (s : Sta K c g σ H tv tr F a) (rf : Ex F F') (rh : ∀ b o, NT o → H b = some o → H' b = some o) (rs : Ex F' H') (rn : ∀ b, F' b ≠ none → F b ≠ none ∨ H b = none) (rt : TbS H H') (rk : TabK K F' H') : Sta K c g σ H' tv tr F' a where
  e0 := s.e0.trans rf
  eh := rs
  keep := fun b o h1 hn h2 => rh b o hn (s.keep b o h1 hn h2)
  new := fun b q => by
    rcases rn b q with z | z
    · exact s.new b z
    · exact .inr (s.fresh z)
  ex := s.ex
  ow := s.ow
  src := fun n h => by
    obtain ⟨h1, h2, x, y, z, e, h3⟩ := s.src n h
    refine ⟨?_, h2, x, y, z, rh _ _ (fun _ z => by cases z) e, h3⟩
    cases q : F' a with
    | none => rfl
    | some o =>
      rcases rn a (ne_none q) with z | z
      · exact absurd h1 z
      · rw [e] at z; cases z
  tmp := s.tmp.up rf
  len := s.len
  slot := fun i sv h => by
    obtain ⟨v, h1, h2⟩ := s.slot i sv h
    refine ⟨v, h1, ?_⟩
    cases sv with
    | val d => exact Rp.up h2 rf
    | src => exact h2
    | scr ns => obtain ⟨b, z1, z2⟩ := h2; exact ⟨b, z1, ex_l rf z2⟩
    | ob k => exact ObOk.up rf h2
    | own ds =>
      obtain ⟨o, xs, q1, q2, q3, q4, q5, q6⟩ := h2
      refine ⟨o, xs, q1, ?_, q3, rh _ _ (fun _ z => by cases z) q4, q5.up rf, q6⟩
      cases q : F' o with
      | none => rfl
      | some u =>
        rcases rn o (ne_none q) with z | z
        · exact absurd q2 z
        · rw [q4] at z; cases z
  dis := s.dis
  t0 := rk
  tab := s.tab.trans rt
theorem Sta.grow (s : Sta K c g σ H tv tr F a) (r : Gr F H F' H') : Sta K c g σ H' tv tr F' a := s.growN r.f (fun b o _ h => r.h b o h) r.s r.n (.ex r.h) (s.t0.up r.f (fun b ps h => r.h b _ h) fun b h => (r.n b h).imp id fun z ps e => by rw [z] at e; cases e)
theorem Sta.push (s : Sta K c g σ H tv tr F a) {v : V} {r : Rv} (h : RvOk K F a g.fu v r) : Sta K c g σ H (v :: tv) (r :: tr) F a :=
  ⟨s.e0, s.eh, s.keep, s.new, s.ex, s.ow, s.src, .cons h s.tmp, s.len, s.slot, s.dis, s.t0, s.tab⟩
theorem Sta.pop (s : Sta K c g σ H tv tr F a) {tv' : List V} {tr' : List Rv} (h : Tm K F a g.fu tv' tr') : Sta K c g σ H tv' tr' F a :=
  ⟨s.e0, s.eh, s.keep, s.new, s.ex, s.ow, s.src, h, s.len, s.slot, s.dis, s.t0, s.tab⟩
theorem Sta.pop1 {v : V} {r : Rv} (s : Sta K c g σ H (v :: tv) (r :: tr) F a) : Sta K c g σ H tv tr F a :=
  s.pop (by cases s.tmp with | cons _ t => exact t)
theorem Sta.top {v : V} {r : Rv} (s : Sta K c g σ H (v :: tv) (r :: tr) F a) : RvOk K F a g.fu v r := by
  cases s.tmp with | cons h _ => exact h
end
abbrev DE := Gs → (Rv → Gs → Prop) → Prop
abbrev DL := Gs → (List Da → Gs → Prop) → Prop
abbrev DT := Gs → (Bool → Gs → Prop) → Prop
abbrev DA := Gs → (List Rv → Gs → Prop) → Prop
structure DEnds where
  nx : Gs → Prop
  rt : Rr → Gs → Prop
  bk : Gs → Prop := fun _ => False
  ct : Gs → Prop := fun _ => False
abbrev DS := DEnds → Gs → Prop
def up (K : Fg) (t : DE) : TE := fun σ H Q => ∃ c g tv tr F a post, Sta K c g σ H tv tr F a ∧ t g post ∧
  ∀ r g' v H' F' a', post r g' → Sta K c g' σ H' (v :: tv) (r :: tr) F' a' → Q v H'
def upT (K : Fg) (t : DT) : TT := fun σ H Q => ∃ c g tv tr F a post, Sta K c g σ H tv tr F a ∧ t g post ∧
  ∀ b g' H' F' a', post b g' → Sta K c g' σ H' tv tr F' a' → Q b H'
/-- a new list, at an address of its own -/
structure NewL (K : Fg) (c : Con) (g : Gs) (σ : L2.St) (H F : Hp) (a : Addr) (v : V) (ds : List Da) : Prop where
  ex : ∃ o xs, v = .ref o ∧ F o = none ∧ c.H o = none ∧ H o = some (.lst xs) ∧ Rps K F xs ds ∧ (g.fu ≠ none → o ≠ a) ∧
    ∀ (i : Nat) (es : List Da), g.sl[i]? = some (some (Sv.own es)) → σ[i]? ≠ some (some (V.ref o))
def upL (K : Fg) (t : DL) : TE := fun σ H Q => ∃ c g tv tr F a post, Sta K c g σ H tv tr F a ∧ t g post ∧
  ∀ ds g' v H' F' a', post ds g' → Sta K c g' σ H' tv tr F' a' → NewL K c g' σ H' F' a' v ds → Q v H'
def upA (K : Fg) (t : DA) : TA := fun σ H Q => ∃ c g tv tr F a post, Sta K c g σ H tv tr F a ∧ t g post ∧
  ∀ rs g' vs H' F' a', post rs g' → Sta K c g' σ H' (vs.reverse ++ tv) (rs.reverse ++ tr) F' a' → vs.length = rs.length → Q vs H'
structure DD (K : Fg) (Wx : WX) (c : Con) (tv : List V) (tr : List Rv) (d : DEnds) (D : Ends) : Prop where
  nx : ∀ g σ H F a, d.nx g → Sta K c g σ H tv tr F a → D.nx σ H
  bk : ∀ g σ H F a, d.bk g → Sta K c g σ H tv tr F a → D.bk σ H
  ct : ∀ g σ H F a, d.ct g → Sta K c g σ H tv tr F a → D.ct σ H
  rv : ∀ x g σ v H F a, d.rt (.val x) g → Sta K c g σ H (v :: tv) (.val x :: tr) F a → D.rt v H
  ro : ∀ ds g σ v H F a, d.rt (.own ds) g → Sta K c g σ H tv tr F a → NewL K c { g with sl := [] } [] H F a v ds → D.rt v H
  rx : ∀ nm z g σ H F a cls dd, d.rt (.exc nm z) g → Sta K c g σ H tv tr F a → XvOk K F cls dd nm z → Wx cls dd σ H
def hasSrc : List Rv → Bool
  | [] => false
  | .src :: _ => true
  | _ :: r => hasSrc r
theorem hasSrc_app : ∀ {rs ts : List Rv}, hasSrc rs = false → hasSrc ts = false → hasSrc (rs ++ ts) = false
  | [], _, _, h => h
  | .val _ :: rs, _, h, h' => hasSrc_app (rs := rs) h h'
  | .scr _ :: rs, _, h, h' => hasSrc_app (rs := rs) h h'
  | .ob _ :: rs, _, h, h' => hasSrc_app (rs := rs) h h'
  | .src :: _, _, h, _ => by cases h
def upS (K : Fg) (Wx : WX) (t : DS) : TS := fun D σ H => ∃ c g tv tr F a d, Sta K c g σ H tv tr F a ∧ hasSrc tr = false ∧ t d g ∧ DD K Wx c tv tr d D
section
variable {X : Cx} {e : Expr}
theorem pe_to {t t' : TE} (h : PE X e t) (i : ∀ σ H Q, t' σ H Q → t σ H Q) : PE X e t' := ⟨fun pins s σ H Q I q => h.run pins s σ H Q I (i σ H Q q)⟩
theorem pt_to {t t' : TT} (h : PT X e t) (i : ∀ σ H Q, t' σ H Q → t σ H Q) : PT X e t' := ⟨fun pins s σ H Q I q => h.run pins s σ H Q I (i σ H Q q)⟩
theorem pw_to {t t' : TT} (h : PW X e t) (i : ∀ σ H Q, t' σ H Q → t σ H Q) : PW X e t' := ⟨fun w pins s σ H Q I q => h.run w pins s σ H Q I (i σ H Q q)⟩
theorem pa_to {es : List Expr} {t t' : TA} (h : PA X es t) (i : ∀ σ H Q, t' σ H Q → t σ H Q) : PA X es t' := ⟨fun p pins s σ H Q I q => h.run p pins s σ H Q I (i σ H Q q)⟩
theorem ps_to {st : Stmt} {t t' : TS} (h : PS X st t) (i : ∀ D σ H, t' D σ H → t D σ H) : PS X st t' := ⟨fun pins s σ H D I q => h.run pins s σ H D I (i D σ H q)⟩
theorem pss_to {st : List Stmt} {t t' : TS} (h : PSs X st t) (i : ∀ D σ H, t' D σ H → t D σ H) : PSs X st t' := ⟨fun pins s σ H D I q => h.run pins s σ H D I (i D σ H q)⟩
end
def Gs.set (g : Gs) (i : Nat) (s : Sv) : Gs := { g with sl := g.sl.set i (some s) }
def dVar (i : Nat) : DE := fun g Q => match g.sl[i]? with
  | some (some (.val d)) => Q (.val d) g
  | some (some .src) => Q .src g
  | some (some (.scr ns)) => Q (.scr ns) g
  | some (some (.ob k)) => Q (.ob k) g
  | some (some (.own ds)) => Q (.val (.list ds)) (g.set i (.val (.list ds)))
  | _ => False
def dC (d : Da) : DE := fun g Q => Q (.val d) g
section
variable {K : Fg} {c : Con} {g : Gs} {σ : L2.St} {H H' F F' : Hp} {tv : List V} {tr : List Rv} {a : Addr}
/-- an own list is given away: it stands still from now on -/
theorem Sta.freeze (s : Sta K c g σ H tv tr F a) {i : Nat} {ds : List Da} (h : g.sl[i]? = some (some (.own ds))) :
    ∃ o F', σ[i]? = some (some (.ref o)) ∧ Rp K F' (.ref o) (.list ds) ∧ Sta K c (g.set i (.val (.list ds))) σ H tv tr F' a := by
  obtain ⟨v, h1, o, xs, rfl, q2, q3, q4, q5, q6⟩ := s.slot i _ h
  have ef : Ex F (upd F o (.lst xs)) := Ex.new q2
  have ro : Rp K (upd F o (.lst xs)) (.ref o) (.list ds) := .lst upd_same (q5.up ef)
  have hi : i < g.sl.length := (List.getElem?_eq_some_iff.mp h).1
  refine ⟨o, upd F o (.lst xs), h1, ro, s.e0.trans ef, fun b u q => ?_, s.keep, fun b q => ?_, s.ex, s.ow, fun n hn => ?_, s.tmp.up ef, ?_, fun j sv hj => ?_, fun j k es fs hjk hj hk => ?_, s.t0.lst q4 q2, s.tab⟩
  · by_cases hb : b = o
    · subst hb; rw [upd_same] at q; cases q; exact q4
    · rw [upd_ne hb] at q; exact s.eh b u q
  · by_cases hb : b = o
    · subst hb; exact .inr q3
    · rw [upd_ne hb] at q; exact s.new b q
  · obtain ⟨z1, z2⟩ := s.src n hn
    refine ⟨?_, z2⟩
    rw [upd_ne (fun z => q6 (ne_none hn) z.symm)]; exact z1
  · show σ.length = (g.sl.set i _).length
    rw [List.length_set]; exact s.len
  · by_cases hji : j = i
    · subst hji
      have : (g.sl.set j (some (Sv.val (.list ds))))[j]? = some (some sv) := hj
      rw [List.getElem?_set_self hi] at this
      cases this
      exact ⟨_, h1, ro⟩
    · have : (g.sl.set i (some (Sv.val (.list ds))))[j]? = some (some sv) := hj
      rw [List.getElem?_set_ne (Ne.symm hji)] at this
      obtain ⟨v, w1, w2⟩ := s.slot j sv this
      refine ⟨v, w1, ?_⟩
      cases sv with
      | val d => exact Rp.up w2 ef
      | src => exact w2
      | scr ns => obtain ⟨b, z1, z2⟩ := w2; exact ⟨b, z1, ex_l ef z2⟩
      | ob k => exact ObOk.up ef w2
      | own es =>
        obtain ⟨o', ys, r1, r2, r3, r4, r5, r6⟩ := w2
        have ne : o' ≠ o := fun z => s.dis j i es ds hji this h (by rw [w1, h1, r1, z])
        exact ⟨o', ys, r1, by rw [upd_ne ne]; exact r2, r3, r4, r5.up ef, r6⟩
  · have n1 : j ≠ i := fun z => by
      subst z
      have : (g.sl.set j (some (Sv.val (.list ds))))[j]? = some (some (.own es)) := hj
      rw [List.getElem?_set_self hi] at this; cases this
    have n2 : k ≠ i := fun z => by
      subst z
      have : (g.sl.set k (some (Sv.val (.list ds))))[k]? = some (some (.own fs)) := hk
      rw [List.getElem?_set_self hi] at this; cases this
    have e1 : (g.sl.set i (some (Sv.val (.list ds))))[j]? = some (some (.own es)) := hj
    have e2 : (g.sl.set i (some (Sv.val (.list ds))))[k]? = some (some (.own fs)) := hk
    rw [List.getElem?_set_ne (Ne.symm n1)] at e1
    rw [List.getElem?_set_ne (Ne.symm n2)] at e2
    exact s.dis j k es fs hjk e1 e2
end
section
variable {X : Cx} {e : Expr}
theorem e_var (i : Nat) (h : PE X e (tVar i)) : PE X e (up X.K (dVar i)) := pe_to h fun σ H Q q => by
  obtain ⟨c, g, tv, tr, F, a, post, s, t, k⟩ := q
  unfold dVar at t
  split at t
  · rename_i d hd
    obtain ⟨v, h1, h2⟩ := s.slot i _ hd
    exact ⟨v, h1, k _ g v H F a t (s.push (r := .val d) h2)⟩
  · rename_i hd
    obtain ⟨v, h1, h2⟩ := s.slot i _ hd
    exact ⟨v, h1, k _ g v H F a t (s.push (r := .src) h2)⟩
  · rename_i ns hd
    obtain ⟨v, h1, h2⟩ := s.slot i _ hd
    exact ⟨v, h1, k _ g v H F a t (s.push (r := .scr ns) h2)⟩
  · rename_i kd hd
    obtain ⟨v, h1, h2⟩ := s.slot i _ hd
    exact ⟨v, h1, k _ g v H F a t (s.push (r := .ob kd) h2)⟩
  · rename_i ds hd
    obtain ⟨o, F', h1, h2, s'⟩ := s.freeze hd
    exact ⟨_, h1, k _ _ _ H F' a t (s'.push (r := .val (.list ds)) h2)⟩
  · exact t.elim
/-- anything whose value is plain and the same always -/
theorem e_c {v : V} {d : Da} (h : PE X e (tC v)) (r : ∀ F, Rp X.K F v d) : PE X e (up X.K (dC d)) := pe_to h fun σ H Q q => by
  obtain ⟨c, g, tv, tr, F, a, post, s, t, k⟩ := q
  exact k _ g v H F a t (s.push (r := .val d) (r F))
theorem e_int {i j pos} : PE X (.Constant (.int i) j pos) (up X.K (dC (.int i))) := e_c pe_int fun _ => .int i
theorem e_bl {b j pos} : PE X (.Constant (.bool b) j pos) (up X.K (dC (.bool b))) := e_c pe_bl fun _ => .bl b
theorem e_non {j pos} : PE X (.Constant .none j pos) (up X.K (dC .none)) := e_c pe_non fun _ => .non
theorem e_str {x j pos} : PE X (.Constant (.str x) j pos) (up X.K (dC (.str x))) := e_c pe_str fun _ => .str x
end
end Z
namespace Z
open L2 PySem PySem.Spec PyProof.Rows
open Evl (Ex ex_l ex_t ex_rd fresh_back)
abbrev BinF := Da → Da → (Da → Prop) → Prop
def dBin (f : BinF) (ta tb : DE) : DE := fun g Q => ta g fun x g1 => tb g1 fun y g2 => match x, y with
  | .val d, .val e => f d e fun z => Q (.val z) g2
  | _, _ => False
/-- on values: what r asks follows from f -/
def BinOk (K : Fg) (r : R2) (f : BinF) : Prop := ∀ (F H : Hp) (x y : V) (d e : Da) (post : Da → Prop) (Q : VK), Ex F H → Rp K F x d → Rp K F y e → f d e post →
  (∀ z v H' F', post z → Gr F H F' H' → Rp K F' v z → Q v H') → r x y H Q
section
variable {X : Cx} {a b : Expr} {ta tb : DE} {pos : Pos} {f : BinF} {r : R2}
theorem bin_core (hf : BinOk X.K r f) : ∀ σ H Q, up X.K (dBin f ta tb) σ H Q → tOp r (up X.K ta) (up X.K tb) σ H Q := fun σ H Q q => by
  obtain ⟨c, g, tv, tr, F, ad, post, s, t, k⟩ := q
  refine ⟨c, g, tv, tr, F, ad, _, s, t, fun x g1 v1 H1 F1 a1 t1 s1 => ?_⟩
  refine ⟨c, g1, _, _, F1, a1, _, s1, t1, fun y g2 v2 H2 F2 a2 t2 s2 => ?_⟩
  cases x with
  | val d =>
    cases y with
    | val e =>
      have r1 : Rp X.K F2 v1 d := s2.pop1.top
      have r2 : Rp X.K F2 v2 e := s2.top
      refine hf F2 H2 v1 v2 d e _ Q s2.eh r1 r2 t2 fun z v H' F' hz gr rz => ?_
      exact k _ g2 v H' F' a2 hz ((s2.pop1.pop1.grow gr).push (r := .val z) rz)
    | src => exact t2.elim
    | scr _ => exact t2.elim
    | ob _ => exact t2.elim
  | src => exact t2.elim
  | scr _ => exact t2.elim
  | ob _ => exact t2.elim
theorem e_bin {op : Operator} (ho : OpR X (binaryOp op) r) (hf : BinOk X.K r f) (ha : PE X a (up X.K ta)) (hb : PE X b (up X.K tb)) : PE X (.BinOp a op b pos) (up X.K (dBin f ta tb)) :=
  pe_to (pe_op ho ha hb) (bin_core hf)
theorem e_cmp {op : CmpOp} (ho : OpR X (compareOp op) r) (hf : BinOk X.K r f) (ha : PE X a (up X.K ta)) (hb : PE X b (up X.K tb)) (hm : behindInMarks op b = false) : PE X (.Compare a [op] [b] pos) (up X.K (dBin f ta tb)) :=
  pe_to (pe_cmpR ho ha hb hm) (bin_core hf)
theorem or_op {ff : Value → Value → Sem Value} {r1 r2 : R2} (h1 : OpR X ff r1) (h2 : OpR X ff r2) : OpR X ff (fun x y H Q => r1 x y H Q ∨ r2 x y H Q) := by
  intro pins s σ H x y v u Q I rx ry h
  rcases h with h | h
  · exact h1 pins s σ H x y v u Q I rx ry h
  · exact h2 pins s σ H x y v u Q I rx ry h
end
def fI (C : Int → Int → Prop) (o : Int → Int → Da) : BinF := fun d e post => match d, e with
  | .int i, .int j => C i j ∧ post (o i j)
  | _, _ => False
section
variable {K : Fg}
theorem ok_I {C : Int → Int → Prop} {o : Int → Int → Int} : BinOk K (rI C fun i j => .int (o i j)) (fI C fun i j => .int (o i j)) := fun F H x y d e post Q hx r1 r2 hf k => by
  cases d with
  | int i =>
    cases e with
    | int j =>
      cases r1; cases r2
      exact ⟨i, j, rfl, rfl, hf.1, k _ _ H F hf.2 (Gr.refl hx) (.int _)⟩
    | _ => exact hf.elim
  | _ => exact hf.elim
end
def fI0 (o : Int → Int → Da) : BinF := fun d e post => match d, e with
  | .int i, .int j => post (o i j)
  | _, _ => False
section
variable {K : Fg}
theorem ok_I0 {o : Int → Int → Int} : BinOk K (rI0 fun i j => .int (o i j)) (fI0 fun i j => .int (o i j)) := fun F H x y d e post Q hx r1 r2 hf k => by
  cases d with
  | int i =>
    cases e with
    | int j =>
      cases r1; cases r2
      exact ⟨i, j, rfl, rfl, k _ _ H F hf (Gr.refl hx) (.int _)⟩
    | _ => exact hf.elim
  | _ => exact hf.elim
theorem ok_I0b {o : Int → Int → Bool} : BinOk K (rI0 fun i j => .bl (o i j)) (fI0 fun i j => .bool (o i j)) := fun F H x y d e post Q hx r1 r2 hf k => by
  cases d with
  | int i =>
    cases e with
    | int j =>
      cases r1; cases r2
      exact ⟨i, j, rfl, rfl, k _ _ H F hf (Gr.refl hx) (.bl _)⟩
    | _ => exact hf.elim
  | _ => exact hf.elim
end
def CPowX (i j : Int) : Prop := 0 ≤ j ∧ (Builtin.Int.intBits i : Int) * j ≤ 2 ^ 27
/-- +: ints, texts, tuples, lists -/
def fAdd : BinF := fun d e post => match d, e with
  | .int i, .int j => post (.int (i + j))
  | .str x, .str y => x.length + y.length ≤ sizeLine ∧ post (.str (x ++ y))
  | .tuple xs, .tuple ys => xs ≠ [] ∧ xs.length + ys.length ≤ sizeLine ∧ post (.tuple (xs ++ ys))
  | .list xs, .list ys => xs.length + ys.length ≤ sizeLine ∧ post (.list (xs ++ ys))
  | _, _ => False
section
variable {X : Cx} {a b : Expr} {ta tb : DE} {pos : Pos}
theorem Rps.nil_iff {K : Fg} {F : Hp} {xs : List V} {ds : List Da} (h : Rps K F xs ds) : xs = [] ↔ ds = [] := by
  cases h <;> simp
theorem e_add (ha : PE X a (up X.K ta)) (hb : PE X b (up X.K tb)) : PE X (.BinOp a .Add b pos) (up X.K (dBin fAdd ta tb)) := by
  refine e_bin (or_op op_add (or_op op_add_str (or_op op_catT op_cat))) ?_ ha hb
  intro F H x y d e post Q hx r1 r2 hf k
  cases d with
  | int i =>
    cases e with
    | int j =>
      cases r1; cases r2
      exact .inl ⟨i, j, rfl, rfl, k _ _ H F hf (Gr.refl hx) (.int _)⟩
    | _ => exact hf.elim
  | str u =>
    cases e with
    | str w =>
      cases r1; cases r2
      exact .inr (.inl ⟨u, w, rfl, rfl, hf.1, k _ _ H F hf.2 (Gr.refl hx) (.str _)⟩)
    | _ => exact hf.elim
  | tuple ds =>
    cases e with
    | tuple es =>
      cases r1 with
      | tup s1 m1 =>
        cases r2 with
        | tup s2 m2 =>
          rename_i p1 xs p2 ys
          obtain ⟨h1, h2, h3⟩ := hf
          refine .inr (.inr (.inl ⟨p1, p2, xs, ys, rfl, rfl, ex_t hx s1, ex_t hx s2, fun z => h1 (m1.nil_iff.mp z), by rw [m1.len, m2.len]; exact h2, fun z => ?_, fun z p hp => ?_⟩))
          · have : es = [] := m2.nil_iff.mp z
            subst this
            rw [List.append_nil] at h3
            exact k _ _ H F h3 (Gr.refl hx) (.tup s1 m1)
          · have gr := Gr.new (o := .tup (xs ++ ys)) hx hp
            exact k _ _ _ _ h3 gr (.tup (.inl (.inl upd_same)) ((m1.up gr.f).app (m2.up gr.f)))
    | _ => exact hf.elim
  | list ds =>
    cases e with
    | list es =>
      cases r1 with
      | lst s1 m1 =>
        cases r2 with
        | lst s2 m2 =>
          rename_i p1 xs p2 ys
          obtain ⟨h2, h3⟩ := hf
          refine .inr (.inr (.inr ⟨p1, p2, xs, ys, rfl, rfl, hx _ _ s1, hx _ _ s2, by rw [m1.len, m2.len]; exact h2, fun p hp => ?_⟩))
          have gr := Gr.new (o := .lst (xs ++ ys)) hx hp
          exact k _ _ _ _ h3 gr (.lst upd_same ((m1.up gr.f).app (m2.up gr.f)))
    | _ => exact hf.elim
  | _ => exact hf.elim
theorem e_sub (ha : PE X a (up X.K ta)) (hb : PE X b (up X.K tb)) : PE X (.BinOp a .Sub b pos) (up X.K (dBin (fI0 fun i j => .int (i - j)) ta tb)) := e_bin op_sub ok_I0 ha hb
theorem e_mul (ha : PE X a (up X.K ta)) (hb : PE X b (up X.K tb)) : PE X (.BinOp a .Mult b pos) (up X.K (dBin (fI CMulX fun i j => .int (i * j)) ta tb)) := e_bin op_mulX ok_I ha hb
theorem e_div (ha : PE X a (up X.K ta)) (hb : PE X b (up X.K tb)) : PE X (.BinOp a .FloorDiv b pos) (up X.K (dBin (fI CDivW fun i j => .int (i / j)) ta tb)) := e_bin op_fdivW ok_I ha hb
theorem e_mod (ha : PE X a (up X.K ta)) (hb : PE X b (up X.K tb)) : PE X (.BinOp a .Mod b pos) (up X.K (dBin (fI (fun _ j => 0 < j) fun i j => .int (i % j)) ta tb)) := e_bin op_mod ok_I ha hb
theorem e_shl (ha : PE X a (up X.K ta)) (hb : PE X b (up X.K tb)) : PE X (.BinOp a .LShift b pos) (up X.K (dBin (fI CShl fun i j => .int (i * 2 ^ j.toNat)) ta tb)) := e_bin op_shlW ok_I ha hb
theorem op_powX : OpR X (binaryOp .Pow) (rI CPowX fun i j => .int (i ^ j.toNat)) := opI fun _ _ _ _ _ _ _ hc q => pow_int hc.1 hc.2 q
theorem e_pow (ha : PE X a (up X.K ta)) (hb : PE X b (up X.K tb)) : PE X (.BinOp a .Pow b pos) (up X.K (dBin (fI CPowX fun i j => .int (i ^ j.toNat)) ta tb)) := e_bin op_powX ok_I ha hb
theorem e_le (ha : PE X a (up X.K ta)) (hb : PE X b (up X.K tb)) : PE X (.Compare a [.LtE] [b] pos) (up X.K (dBin (fI0 fun i j => .bool (decide (i ≤ j))) ta tb)) := e_cmp op_le ok_I0b ha hb (nomark _)
theorem e_gt (ha : PE X a (up X.K ta)) (hb : PE X b (up X.K tb)) : PE X (.Compare a [.Gt] [b] pos) (up X.K (dBin (fI0 fun i j => .bool (decide (j < i))) ta tb)) := e_cmp op_gt ok_I0b ha hb (nomark _)
theorem e_ge (ha : PE X a (up X.K ta)) (hb : PE X b (up X.K tb)) : PE X (.Compare a [.GtE] [b] pos) (up X.K (dBin (fI0 fun i j => .bool (decide (j ≤ i))) ta tb)) := e_cmp op_ge ok_I0b ha hb (nomark _)
end
section
variable {K : Fg} {F H : Hp}
mutual
theorem Rp.dp (e : Ex F H) : ∀ (d : Da) (v : V), Rp K F v d → d.canLay0 = true → Dp K H v d
  | .none, _, h, _ => by cases h; exact .non
  | .bool b, _, h, _ => by cases h; exact .bl b
  | .int i, _, h, _ => by cases h; exact .int i
  | .str x, _, h, _ => by cases h; exact .str x
  | .list ds, _, h, q => by cases h with | lst hs ha => exact .lst (.inl (.inl (e _ _ hs))) (Rps.dp e ds _ ha (by simpa [PyData.canLay0] using q))
  | .tuple ds, _, h, q => by cases h with | tup hs ha => exact .tup (ex_t e hs) (Rps.dp e ds _ ha (by simpa [PyData.canLay0] using q))
  | .dict es, _, h, q => by simp [PyData.canLay0] at q
theorem Rps.dp (e : Ex F H) : ∀ (ds : List Da) (vs : List V), Rps K F vs ds → PyData.canLayAll0 ds = true → DpAll K H vs ds
  | [], _, h, _ => by cases h; exact .nil
  | d :: ds, _, h, q => by
    cases h with
    | cons h1 h2 =>
      have q' : d.canLay0 = true ∧ PyData.canLayAll0 ds = true := by simpa [PyData.canLayAll0] using q
      exact .cons (Rp.dp e d _ h1 q'.1) (Rps.dp e ds _ h2 q'.2)
end
end
def fEq : BinF := fun d e post => SeqAt.shaped d = true ∧ SeqAt.shaped e = true ∧ post (.bool (d.eqv e))
def fNe : BinF := fun d e post => SeqAt.shaped d = true ∧ SeqAt.shaped e = true ∧ post (.bool (!d.eqv e))
theorem shaped_lay {d : Da} (h : SeqAt.shaped d = true) : d.canLay0 = true := by
  unfold SeqAt.shaped at h
  rw [Bool.and_eq_true] at h
  exact h.1
section
variable {X : Cx} {a b : Expr} {ta tb : DE} {pos : Pos}
theorem e_eq (hu : X.A.units + 64 < cLine) (ha : PE X a (up X.K ta)) (hb : PE X b (up X.K tb)) : PE X (.Compare a [.Eq] [b] pos) (up X.K (dBin fEq ta tb)) :=
  e_cmp (op_eqD hu) (fun F H x y d e post Q hx r1 r2 hf k => ⟨d, e, r1.dp hx d x (shaped_lay hf.1), r2.dp hx e y (shaped_lay hf.2.1), hf.1, hf.2.1, k _ _ H F hf.2.2 (Gr.refl hx) (.bl _)⟩) ha hb (nomark _)
end
def flatD : Da → Bool
  | .none => true
  | .bool _ => true
  | .int _ => true
  | .str _ => true
  | _ => false
def inD (d : Da) (es : List Da) : Bool := es.any fun y => y.eqv d
def fIn (neg : Bool) : BinF := fun d e post => match e with
  | .tuple es => flatD d = true ∧ es.all flatD = true ∧ post (.bool (if neg then !inD d es else inD d es))
  | .list es => flatD d = true ∧ es.all flatD = true ∧ post (.bool (if neg then !inD d es else inD d es))
  | _ => False
section
variable {K : Fg} {F H : Hp}
theorem flat_v {v : V} {d : Da} (r : Rp K F v d) (h : flatD d = true) : flatV v = true := by
  cases r <;> first | rfl | exact absurd (show false = true from h) Bool.false_ne_true
theorem eqv_v {v w : V} {d e : Da} (r : Rp K F v d) (q : Rp K F w e) (h : flatD d = true) (h' : flatD e = true) : eqV v w = d.eqv e := by
  cases r <;> first | exact absurd (show false = true from h) Bool.false_ne_true | (cases q <;> first | exact absurd (show false = true from h') Bool.false_ne_true | (simp [eqV, PyData.eqv]))
theorem flat_vs : ∀ {vs : List V} {ds : List Da}, Rps K F vs ds → ds.all flatD = true → vs.all flatV = true
  | _, _, .nil, _ => rfl
  | _, _, .cons r t, h => by
    rw [List.all_cons, Bool.and_eq_true] at h ⊢
    exact ⟨flat_v r h.1, flat_vs t h.2⟩
theorem in_v {x : V} {d : Da} (r : Rp K F x d) (hd : flatD d = true) : ∀ {vs : List V} {ds : List Da}, Rps K F vs ds → ds.all flatD = true → inV x vs = inD d ds
  | _, _, .nil, _ => rfl
  | _, _, .cons q t, h => by
    rw [List.all_cons, Bool.and_eq_true] at h
    have ih := in_v r hd t h.2
    unfold inV inD at ih ⊢
    rw [List.any_cons, List.any_cons, ih, eqv_v q r h.1 hd]
theorem ok_in {neg : Bool} : BinOk K (rIn K neg) (fIn neg) := fun F H x y d e post Q hx r1 r2 hf k => by
  cases e with
  | tuple es =>
    cases r2 with
    | tup s1 m1 =>
      obtain ⟨h1, h2, h3⟩ := hf
      refine ⟨_, _, rfl, .inr (ex_t hx s1), flat_v r1 h1, flat_vs m1 h2, ?_⟩
      rw [in_v r1 h1 m1 h2]
      exact k _ _ H F h3 (Gr.refl hx) (.bl _)
  | list es =>
    cases r2 with
    | lst s1 m1 =>
      obtain ⟨h1, h2, h3⟩ := hf
      refine ⟨_, _, rfl, .inl (.inl (.inl (hx _ _ s1))), flat_v r1 h1, flat_vs m1 h2, ?_⟩
      rw [in_v r1 h1 m1 h2]
      exact k _ _ H F h3 (Gr.refl hx) (.bl _)
  | _ => exact hf.elim
end
section
variable {X : Cx} {a b : Expr} {ta tb : DE} {pos : Pos}
theorem e_in (ha : PE X a (up X.K ta)) (hb : PE X b (up X.K tb)) (hm : behindInMarks .In b = false := by rfl) : PE X (.Compare a [.In] [b] pos) (up X.K (dBin (fIn false) ta tb)) := e_cmp op_in_seq ok_in ha hb hm
end
end Z
namespace Z
open L2 PySem PySem.Spec PyProof.Rows
open Evl (Ex ex_l ex_t ex_rd fresh_back)
def dTest (t : DE) : DT := fun g Q => t g fun r g1 => match r with
  | .val (.bool b) => Q b g1
  | _ => False
def dAndT (ta tb : DT) : DT := fun g Q => ta g fun b g1 => (b = true → tb g1 Q) ∧ (b = false → Q false g1)
def dOrT (ta tb : DT) : DT := fun g Q => ta g fun b g1 => (b = true → Q true g1) ∧ (b = false → tb g1 Q)
def dNotT (ta : DT) : DT := fun g Q => ta g fun b g1 => Q (!b) g1
def dAndV (ta tb : DE) : DE := fun g Q => ta g fun r g1 => match r with
  | .val (.bool b) => (b = true → tb g1 Q) ∧ (b = false → Q (.val (.bool false)) g1)
  | _ => False
def dOrV (ta tb : DE) : DE := fun g Q => ta g fun r g1 => match r with
  | .val (.bool b) => (b = true → Q (.val (.bool true)) g1) ∧ (b = false → tb g1 Q)
  | _ => False
def dNotV (ta : DE) : DE := fun g Q => ta g fun r g1 => match r with
  | .val (.bool b) => Q (.val (.bool (!b))) g1
  | _ => False
def dIf (t : DT) (ta tb : DE) : DE := fun g Q => t g fun b g1 => (b = true → ta g1 Q) ∧ (b = false → tb g1 Q)
section
variable {K : Fg} {F : Hp} {a : Addr} {fu : Option Nat} {v : V}
theorem RvOk.bl {r : Rv} (h : RvOk K F a fu v r) {b : Bool} (e : r = .val (.bool b)) : v = .bl b := by
  subst e
  have h' : Rp K F v (.bool b) := h
  cases h'; rfl
end
section
variable {X : Cx} {a b c e : Expr} {ta tb t : DE} {sa sb : DT} {pos : Pos} {rest : List Expr}
theorem t_val (h : PE X e (up X.K t)) (hw : ∀ whole : Sem Value, isTrue e X.env whole = (do
    let v ← whole
    standAt e.pos
    holding [v] (truthy v)) := by intro _; rfl) : PT X e (upT X.K (dTest t)) := pt_to (pt_val h hw) fun σ H Q q => by
  obtain ⟨c, g, tv, tr, F, ad, post, s, t1, k⟩ := q
  refine ⟨c, g, tv, tr, F, ad, _, s, t1, fun r g1 v1 H1 F1 a1 h1 s1 => ?_⟩
  cases r with
  | val d =>
    cases d with
    | bool b => exact ⟨b, s1.top.bl rfl, k b g1 H1 F1 a1 h1 s1.pop1⟩
    | _ => exact h1.elim
  | _ => exact h1.elim
theorem w_and (h1 : PT X a (upT X.K sa)) (h2 : PW X (.BoolOp .And (b :: rest) pos) (upT X.K sb)) : PW X (.BoolOp .And (a :: b :: rest) pos) (upT X.K (dAndT sa sb)) := pw_to (pw_and h1 h2) fun σ H Q q => by
  obtain ⟨c, g, tv, tr, F, ad, post, s, t1, k⟩ := q
  refine ⟨c, g, tv, tr, F, ad, _, s, t1, fun b g1 H1 F1 a1 h1 s1 => ?_⟩
  cases b with
  | true => rw [if_pos rfl]; exact ⟨c, g1, tv, tr, F1, a1, _, s1, h1.1 rfl, k⟩
  | false => rw [if_neg Bool.false_ne_true]; exact k false g1 H1 F1 a1 (h1.2 rfl) s1
theorem w_and1 (h1 : PT X a (upT X.K sa)) : PW X (.BoolOp .And [a] pos) (upT X.K sa) := pw_and1 h1
theorem w_or (h1 : PT X a (upT X.K sa)) (h2 : PW X (.BoolOp .Or (b :: rest) pos) (upT X.K sb)) : PW X (.BoolOp .Or (a :: b :: rest) pos) (upT X.K (dOrT sa sb)) := pw_to (pw_or h1 h2) fun σ H Q q => by
  obtain ⟨c, g, tv, tr, F, ad, post, s, t1, k⟩ := q
  refine ⟨c, g, tv, tr, F, ad, _, s, t1, fun b g1 H1 F1 a1 h1 s1 => ?_⟩
  cases b with
  | true => rw [if_pos rfl]; exact k true g1 H1 F1 a1 (h1.1 rfl) s1
  | false => rw [if_neg Bool.false_ne_true]; exact ⟨c, g1, tv, tr, F1, a1, _, s1, h1.2 rfl, k⟩
theorem w_or1 (h1 : PT X a (upT X.K sa)) : PW X (.BoolOp .Or [a] pos) (upT X.K sa) := pw_or1 h1
theorem t_not (h1 : PT X a (upT X.K sa)) : PT X (.UnaryOp .Not a pos) (upT X.K (dNotT sa)) := pt_to (pt_not h1) fun σ H Q q => by
  obtain ⟨c, g, tv, tr, F, ad, post, s, t1, k⟩ := q
  exact ⟨c, g, tv, tr, F, ad, _, s, t1, fun b g1 H1 F1 a1 h1 s1 => k _ g1 H1 F1 a1 h1 s1⟩
theorem e_and (h1 : PE X a (up X.K ta)) (h2 : PE X (.BoolOp .And (b :: rest) pos) (up X.K tb)) : PE X (.BoolOp .And (a :: b :: rest) pos) (up X.K (dAndV ta tb)) := pe_to (pe_and h1 h2) fun σ H Q q => by
  obtain ⟨c, g, tv, tr, F, ad, post, s, t1, k⟩ := q
  refine ⟨c, g, tv, tr, F, ad, _, s, t1, fun r g1 v1 H1 F1 a1 h1 s1 => ?_⟩
  cases r with
  | val d =>
    cases d with
    | bool b =>
      refine ⟨b, s1.top.bl rfl, ?_⟩
      cases b with
      | true => rw [if_pos rfl]; exact ⟨c, g1, tv, tr, F1, a1, _, s1.pop1, h1.1 rfl, k⟩
      | false => rw [if_neg Bool.false_ne_true]; exact k _ g1 _ H1 F1 a1 (h1.2 rfl) (s1.pop1.push (r := .val (.bool false)) (Rp.bl false))
    | _ => exact h1.elim
  | _ => exact h1.elim
theorem e_or (h1 : PE X a (up X.K ta)) (h2 : PE X (.BoolOp .Or (b :: rest) pos) (up X.K tb)) : PE X (.BoolOp .Or (a :: b :: rest) pos) (up X.K (dOrV ta tb)) := pe_to (pe_or h1 h2) fun σ H Q q => by
  obtain ⟨c, g, tv, tr, F, ad, post, s, t1, k⟩ := q
  refine ⟨c, g, tv, tr, F, ad, _, s, t1, fun r g1 v1 H1 F1 a1 h1 s1 => ?_⟩
  cases r with
  | val d =>
    cases d with
    | bool b =>
      refine ⟨b, s1.top.bl rfl, ?_⟩
      cases b with
      | true => rw [if_pos rfl]; exact k _ g1 _ H1 F1 a1 (h1.1 rfl) (s1.pop1.push (r := .val (.bool true)) (Rp.bl true))
      | false => rw [if_neg Bool.false_ne_true]; exact ⟨c, g1, tv, tr, F1, a1, _, s1.pop1, h1.2 rfl, k⟩
    | _ => exact h1.elim
  | _ => exact h1.elim
theorem e_one {op : BoolOp} (h1 : PE X a (up X.K ta)) : PE X (.BoolOp op [a] pos) (up X.K ta) := pe_one h1
theorem e_not (h1 : PE X a (up X.K ta)) : PE X (.UnaryOp .Not a pos) (up X.K (dNotV ta)) := pe_to (pe_not h1) fun σ H Q q => by
  obtain ⟨c, g, tv, tr, F, ad, post, s, t1, k⟩ := q
  refine ⟨c, g, tv, tr, F, ad, _, s, t1, fun r g1 v1 H1 F1 a1 h1 s1 => ?_⟩
  cases r with
  | val d =>
    cases d with
    | bool b => exact ⟨b, s1.top.bl rfl, k _ g1 _ H1 F1 a1 h1 (s1.pop1.push (r := .val (.bool (!b))) (Rp.bl (!b)))⟩
    | _ => exact h1.elim
  | _ => exact h1.elim
theorem e_if (h : PT X c (upT X.K sa)) (h1 : PE X a (up X.K ta)) (h2 : PE X b (up X.K tb)) : PE X (.IfExp c a b pos) (up X.K (dIf sa ta tb)) := pe_to (pe_ifExp h h1 h2) fun σ H Q q => by
  obtain ⟨c, g, tv, tr, F, ad, post, s, t1, k⟩ := q
  refine ⟨c, g, tv, tr, F, ad, _, s, t1, fun b g1 H1 F1 a1 h1 s1 => ?_⟩
  cases b with
  | true => rw [if_pos rfl]; exact ⟨c, g1, tv, tr, F1, a1, _, s1, h1.1 rfl, k⟩
  | false => rw [if_neg Bool.false_ne_true]; exact ⟨c, g1, tv, tr, F1, a1, _, s1, h1.2 rfl, k⟩
/-- -a -/
def dNeg (ta : DE) : DE := fun g Q => ta g fun r g1 => match r with
  | .val (.int i) => Q (.val (.int (-i))) g1
  | _ => False
theorem e_neg (h1 : PE X a (up X.K ta)) : PE X (.UnaryOp .USub a pos) (up X.K (dNeg ta)) := pe_to (pe_un un_neg h1) fun σ H Q q => by
  obtain ⟨c, g, tv, tr, F, ad, post, s, t1, k⟩ := q
  refine ⟨c, g, tv, tr, F, ad, _, s, t1, fun r g1 v1 H1 F1 a1 h1 s1 => ?_⟩
  cases r with
  | val d =>
    cases d with
    | int i =>
      have hr : Rp X.K F1 v1 (.int i) := s1.top
      cases hr
      exact ⟨i, rfl, k _ g1 _ H1 F1 a1 h1 (s1.pop1.push (r := .val (.int (-i))) (Rp.int (-i)))⟩
    | _ => exact h1.elim
  | _ => exact h1.elim
/-- x is None, x is not None -/
def isNon : Da → Bool
  | .none => true
  | _ => false
def dIsN (neg : Bool) (ta : DE) : DE := fun g Q => ta g fun r g1 => match r with
  | .val d => Q (.val (.bool (if neg then !isNon d else isNon d))) g1
  | _ => False
theorem non_v {K : Fg} {F : Hp} {v : V} {d : Da} (h : Rp K F v d) : decide (v = .non) = isNon d := by
  cases h <;> simp [isNon]
/-- a < b < c -/
def dChain (f f' : BinF) (ta tb tc : DE) : DE := fun g Q => ta g fun x g1 => tb g1 fun y g2 => match x, y with
  | .val d, .val e => f d e fun z => match z with
    | .bool true => tc g2 fun w g3 => match w with
      | .val h => f' e h fun z' => Q (.val z') g3
      | _ => False
    | .bool false => Q (.val (.bool false)) g2
    | _ => False
  | _, _ => False
end
end Z
namespace Z
open L2 PySem PySem.Spec PyProof.Rows
open Evl (Ex ex_l ex_t ex_rd fresh_back)
section
variable {X : Cx} {a b c e : Expr} {ta tb tc t : DE} {pos : Pos}
theorem chain_core {r r' : R2} {f f' : BinF} (hf : BinOk X.K r f) (hf' : BinOk X.K r' f') {σ : L2.St} {H : Hp} {Q : VK} (q : up X.K (dChain f f' ta tb tc) σ H Q) : tChain r r' (up X.K ta) (up X.K tb) (up X.K tc) σ H Q := by
  obtain ⟨c, g, tv, tr, F, ad, post, s, t, k⟩ := q
  refine ⟨c, g, tv, tr, F, ad, _, s, t, fun x g1 v1 H1 F1 a1 t1 s1 => ?_⟩
  refine ⟨c, g1, _, _, F1, a1, _, s1, t1, fun y g2 v2 H2 F2 a2 t2 s2 => ?_⟩
  cases x with
  | val d =>
    cases y with
    | val e =>
      have r1 : Rp X.K F2 v1 d := s2.pop1.top
      have r2 : Rp X.K F2 v2 e := s2.top
      refine hf F2 H2 v1 v2 d e _ _ s2.eh r1 r2 t2 fun z v H3 F3 hz gr rz => ?_
      cases z with
      | bool k1 =>
        cases rz
        have s3 := s2.grow gr
        refine ⟨k1, rfl, ?_⟩
        cases k1 with
        | true =>
          rw [if_pos rfl]
          refine ⟨c, g2, _, _, F3, a2, _, s3, hz, fun w g4 v4 H4 F4 a4 t4 s4 => ?_⟩
          cases w with
          | val h =>
            have q2 : Rp X.K F4 v2 e := s4.pop1.top
            have q4 : Rp X.K F4 v4 h := s4.top
            exact hf' F4 H4 v2 v4 e h _ _ s4.eh q2 q4 t4 fun z' v' H5 F5 hz' gr' rz' => k _ g4 v' H5 F5 a4 hz' ((s4.pop1.pop1.pop1.grow gr').push (r := .val z') rz')
          | _ => exact t4.elim
        | false =>
          rw [if_neg Bool.false_ne_true]
          exact k _ g2 _ H3 F3 a2 hz (s3.pop1.pop1.push (r := .val (.bool false)) (Rp.bl false))
      | _ => exact hz.elim
    | _ => exact t2.elim
  | _ => exact t2.elim
theorem e_chain {op op' : CmpOp} {r r' : R2} {f f' : BinF} (ho : OpR X (compareOp op) r) (ho' : OpR X (compareOp op') r') (hf : BinOk X.K r f) (hf' : BinOk X.K r' f') (ha : PE X a (up X.K ta)) (hb : PE X b (up X.K tb)) (hc : PE X c (up X.K tc))
    (hm : lastMarks [op, op'] [b, c] = false := by with_unfolding_all rfl) : PE X (.Compare a [op, op'] [b, c] pos) (up X.K (dChain f f' ta tb tc)) := pe_to (pe_chain ho ho' ha hb hc hm) fun _ _ _ q => chain_core hf hf' q
theorem e_lele (ha : PE X a (up X.K ta)) (hb : PE X b (up X.K tb)) (hc : PE X c (up X.K tc)) (hm : lastMarks [.LtE, .LtE] [b, c] = false := by with_unfolding_all rfl) :
    PE X (.Compare a [.LtE, .LtE] [b, c] pos) (up X.K (dChain (fI0 fun i j => .bool (decide (i ≤ j))) (fI0 fun i j => .bool (decide (i ≤ j))) ta tb tc)) := e_chain op_le op_le ok_I0b ok_I0b ha hb hc hm
end
def dNil : DA := fun g Q => Q [] g
def dCons (te : DE) (tr : DA) : DA := fun g Q => te g fun x g1 => tr g1 fun xs g2 => Q (x :: xs) g2
section
variable {K : Fg} {F : Hp} {a : Addr} {fu : Option Nat}
theorem Tm.app : ∀ {xs ys : List V} {rs ts : List Rv}, Tm K F a fu xs rs → Tm K F a fu ys ts → Tm K F a fu (xs ++ ys) (rs ++ ts)
  | _, _, _, _, .nil, s => s
  | _, _, _, _, .cons r t, s => .cons r (t.app s)
theorem Tm.rev : ∀ {xs : List V} {rs : List Rv}, Tm K F a fu xs rs → Tm K F a fu xs.reverse rs.reverse
  | _, _, .nil => .nil
  | _, _, .cons r t => by
    rw [List.reverse_cons, List.reverse_cons]
    exact t.rev.app (.cons r .nil)
theorem Tm.split : ∀ {xs ys : List V} {rs ts : List Rv}, xs.length = rs.length → Tm K F a fu (xs ++ ys) (rs ++ ts) → Tm K F a fu xs rs ∧ Tm K F a fu ys ts
  | [], _, [], _, _, h => ⟨.nil, h⟩
  | [], _, _ :: _, _, e, _ => by simp at e
  | _ :: _, _, [], _, e, _ => by simp at e
  | x :: xs, ys, r :: rs, ts, e, h => by
    have h' : Tm K F a fu (x :: (xs ++ ys)) (r :: (rs ++ ts)) := h
    cases h' with
    | cons h1 h2 =>
      obtain ⟨q1, q2⟩ := Tm.split (by simpa using e) h2
      exact ⟨.cons h1 q1, q2⟩
theorem Tm.args {vs tv : List V} {rs tr : List Rv} (h : Tm K F a fu (vs.reverse ++ tv) (rs.reverse ++ tr)) (e : vs.length = rs.length) : Tm K F a fu vs rs ∧ Tm K F a fu tv tr := by
  obtain ⟨h1, h2⟩ := Tm.split (by simpa using e) h
  have := h1.rev
  rw [List.reverse_reverse, List.reverse_reverse] at this
  exact ⟨this, h2⟩
end
def valsD : List Rv → Option (List Da)
  | [] => some []
  | .val d :: rs => (valsD rs).map (d :: ·)
  | _ :: _ => none
theorem Tm.vals {K : Fg} {F : Hp} {a : Addr} {fu : Option Nat} : ∀ {vs : List V} {rs : List Rv} {ds : List Da}, Tm K F a fu vs rs → valsD rs = some ds → Rps K F vs ds
  | _, _, _, .nil, e => by cases e; exact .nil
  | _, .val d :: rs, ds, .cons h t, e => by
    unfold valsD at e
    cases q : valsD rs with
    | none => rw [q] at e; cases e
    | some es =>
      rw [q] at e
      cases e
      exact .cons h (t.vals q)
  | _, .src :: rs, ds, .cons h t, e => by cases e
  | _, .scr _ :: rs, ds, .cons h t, e => by cases e
  | _, .ob _ :: rs, ds, .cons h t, e => by cases e
def dTup (ta : DA) : DE := fun g Q => ta g fun rs g1 => match valsD rs with
  | some ds => ds.length ≤ 1000000 ∧ Q (.val (.tuple ds)) g1
  | none => False
def dLst (ta : DA) : DL := fun g Q => ta g fun rs g1 => match valsD rs with
  | some ds => ds.length ≤ 1000000 ∧ Q ds g1
  | none => False
def dFz (t : DL) : DE := fun g Q => t g fun ds g1 => Q (.val (.list ds)) g1
theorem mil {n : Nat} (h : n ≤ 1000000) : n ≤ sizeLine := Nat.le_trans h (by decide)
section
variable {K : Fg} {c : Con} {g : Gs} {σ : L2.St} {H F : Hp} {tv : List V} {tr : List Rv} {a : Addr}
/-- the new list stands still from now on -/
theorem Sta.still (s : Sta K c g σ H tv tr F a) {v : V} {ds : List Da} (h : NewL K c g σ H F a v ds) : ∃ F', Sta K c g σ H (v :: tv) (.val (.list ds) :: tr) F' a := by
  obtain ⟨o, xs, rfl, q2, q3, q4, q5, q6, q7⟩ := h.ex
  have ef : Ex F (upd F o (.lst xs)) := Ex.new q2
  have ro : Rp K (upd F o (.lst xs)) (.ref o) (.list ds) := .lst upd_same (q5.up ef)
  refine ⟨upd F o (.lst xs), s.e0.trans ef, fun b u q => ?_, s.keep, fun b q => ?_, s.ex, s.ow, fun n hn => ?_, .cons ro (s.tmp.up ef), s.len, fun j sv hj => ?_, s.dis, s.t0.lst q4 q2, s.tab⟩
  · by_cases hb : b = o
    · subst hb; rw [upd_same] at q; cases q; exact q4
    · rw [upd_ne hb] at q; exact s.eh b u q
  · by_cases hb : b = o
    · subst hb; exact .inr q3
    · rw [upd_ne hb] at q; exact s.new b q
  · obtain ⟨z1, z2⟩ := s.src n hn
    refine ⟨?_, z2⟩
    rw [upd_ne (fun z => q6 (ne_none hn) z.symm)]; exact z1
  · obtain ⟨v, w1, w2⟩ := s.slot j sv hj
    refine ⟨v, w1, ?_⟩
    cases sv with
    | val d => exact Rp.up w2 ef
    | src => exact w2
    | scr ns => obtain ⟨b, z1, z2⟩ := w2; exact ⟨b, z1, ex_l ef z2⟩
    | ob k => exact ObOk.up ef w2
    | own es =>
      obtain ⟨o', ys, r1, r2, r3, r4, r5, r6⟩ := w2
      have ne : o' ≠ o := fun z => q7 j es hj (by rw [w1, r1, z])
      exact ⟨o', ys, r1, by rw [upd_ne ne]; exact r2, r3, r4, r5.up ef, r6⟩
/-- a list laid at a free address -/
theorem Sta.laid (s : Sta K c g σ H tv tr F a) {p : Addr} (hp : H p = none) {xs : List V} {ds : List Da} (m : Rps K F xs ds) : Sta K c g σ (upd H p (.lst xs)) tv tr F a ∧ NewL K c g σ (upd H p (.lst xs)) F a (.ref p) ds := by
  have fp : F p = none := fresh_back s.eh hp
  have eH : Ex H (upd H p (.lst xs)) := Ex.new hp
  refine ⟨s.grow ⟨Ex.refl _, eH, s.eh.trans eH, fun b h => .inl h⟩, ⟨p, xs, rfl, fp, s.fresh hp, upd_same, m, fun hf z => ?_, fun i es hi z => ?_⟩⟩
  · cases q : g.fu with
    | none => exact hf q
    | some n =>
      obtain ⟨_, _, x, y, w, e, _⟩ := s.src n q
      rw [← z, hp] at e; cases e
  · obtain ⟨v, w1, o, ys, r1, r2, r3, r4, _⟩ := s.slot i _ hi
    rw [z] at w1
    cases w1
    cases r1
    rw [hp] at r4; cases r4
end
section
variable {X : Cx} {e : Expr} {es : List Expr} {te : DE} {tr : DA} {tl : DL} {pos : Pos}
theorem a_nil : PA X [] (upA X.K dNil) := pa_to pa_nil fun σ H Q q => by
  obtain ⟨c, g, tv, tr, F, ad, post, s, t, k⟩ := q
  exact k [] g [] H F ad t s rfl
theorem a_cons (h : PE X e (up X.K te)) (hr : PA X es (upA X.K tr)) (hs : starEach (e :: es) X.env = (false, eval e X.env) :: starEach es X.env := by rfl) : PA X (e :: es) (upA X.K (dCons te tr)) := pa_to (pa_cons h hr hs) fun σ H Q q => by
  obtain ⟨c, g, tv, tr, F, ad, post, s, t, k⟩ := q
  refine ⟨c, g, tv, tr, F, ad, _, s, t, fun x g1 v1 H1 F1 a1 t1 s1 => ?_⟩
  refine ⟨c, g1, _, _, F1, a1, _, s1, t1, fun xs g2 vs H2 F2 a2 t2 s2 hl => ?_⟩
  refine k (x :: xs) g2 (v1 :: vs) H2 F2 a2 t2 ?_ (by simp [hl])
  rw [List.reverse_cons, List.reverse_cons, List.append_assoc, List.append_assoc]
  exact s2
theorem e_tup {x1 : Nat} (h : PA X es (upA X.K tr)) : PE X (.Tuple es x1 pos) (up X.K (dTup tr)) := pe_to (pe_tup h) fun σ H Q q => by
  obtain ⟨c, g, tv, tr, F, ad, post, s, t, k⟩ := q
  refine ⟨c, g, tv, tr, F, ad, _, s, t, fun rs g1 vs H1 F1 a1 t1 s1 hl => ?_⟩
  cases q : valsD rs with
  | none => rw [q] at t1; exact t1.elim
  | some ds =>
    rw [q] at t1
    obtain ⟨m1, m2⟩ := s1.tmp.args hl
    have hv := m1.vals q
    refine ⟨by rw [hv.len]; exact mil t1.1, fun p hp => ?_⟩
    have gr := Gr.new (o := .tup vs) s1.eh hp
    exact k _ g1 _ _ _ a1 t1.2 (((s1.pop m2).grow gr).push (r := .val (.tuple ds)) (.tup (.inl (.inl upd_same)) (hv.up gr.f)))
theorem e_lstL (h : PA X es (upA X.K tr)) : PE X (.List es pos) (upL X.K (dLst tr)) := pe_to (pe_lst h) fun σ H Q q => by
  obtain ⟨c, g, tv, tr, F, ad, post, s, t, k⟩ := q
  refine ⟨c, g, tv, tr, F, ad, _, s, t, fun rs g1 vs H1 F1 a1 t1 s1 hl => ?_⟩
  cases q : valsD rs with
  | none => rw [q] at t1; exact t1.elim
  | some ds =>
    rw [q] at t1
    obtain ⟨m1, m2⟩ := s1.tmp.args hl
    have hv := m1.vals q
    refine ⟨by rw [hv.len]; exact mil t1.1, fun p hp => ?_⟩
    obtain ⟨s2, n2⟩ := (s1.pop m2).laid hp hv
    exact k ds g1 _ _ F1 a1 t1.2 s2 n2
theorem e_fz (h : PE X e (upL X.K tl)) : PE X e (up X.K (dFz tl)) := pe_to h fun σ H Q q => by
  obtain ⟨c, g, tv, tr, F, ad, post, s, t, k⟩ := q
  refine ⟨c, g, tv, tr, F, ad, _, s, t, fun ds g1 v H1 F1 a1 t1 s1 n1 => ?_⟩
  obtain ⟨F2, s2⟩ := s1.still n1
  exact k _ g1 v H1 F2 a1 t1 s2
end
def dIx (ta tb : DE) : DE := fun g Q => ta g fun x g1 => tb g1 fun y g2 => match x, y with
  | .val (.tuple ds), .val (.int i) => (match atI ds i with | some z => Q (.val z) g2 | none => False)
  | .val (.list ds), .val (.int i) => (match atI ds i with | some z => Q (.val z) g2 | none => False)
  | .scr ns, .val (.int i) => (match atI ns i with | some z => Q (.val (.int z)) g2 | none => False)
  | _, _ => False
theorem atI_get {K : Fg} {F : Hp} {vs : List V} {ds : List Da} {i : Int} {d : Da} (h : Rps K F vs ds) (e : atI ds i = some d) : ∃ v, atI vs i = some v ∧ Rp K F v d := by
  unfold atI at e ⊢
  rw [h.len]
  cases q : ixN ds.length i with
  | none => rw [q] at e; cases e
  | some j =>
    rw [q] at e
    exact h.get e
section
variable {X : Cx} {a b : Expr} {ta tb : DE} {pos : Pos}
theorem e_ix (ha : PE X a (up X.K ta)) (hb : PE X b (up X.K tb)) (hs : PlainIx b := by exact fun _ _ => rfl) : PE X (.Subscript a b pos) (up X.K (dIx ta tb)) := pe_to (pe_ix ix_seq ha hb hs) fun σ H Q q => by
  obtain ⟨c, g, tv, tr, F, ad, post, s, t, k⟩ := q
  refine ⟨c, g, tv, tr, F, ad, _, s, t, fun x g1 v1 H1 F1 a1 t1 s1 => ?_⟩
  refine ⟨c, g1, _, _, F1, a1, _, s1, t1, fun y g2 v2 H2 F2 a2 t2 s2 => ?_⟩
  have hx := s2.pop1.top
  have hy := s2.top
  have s3 := s2.pop1.pop1
  split at t2
  · rename_i ds i
    split at t2
    · rename_i z e
      have hy' : Rp X.K F2 v2 (.int i) := hy
      have hx' : Rp X.K F2 v1 (.tuple ds) := hx
      cases hy'
      cases hx' with
      | tup sq m =>
        obtain ⟨w, e1, e2⟩ := atI_get m e
        exact .inr (.inl ⟨_, _, i, w, rfl, rfl, ex_t s2.eh sq, e1, k _ g2 w H2 F2 a2 t2 (s3.push (r := .val z) e2)⟩)
    · exact t2.elim
  · rename_i ds i
    split at t2
    · rename_i z e
      have hy' : Rp X.K F2 v2 (.int i) := hy
      have hx' : Rp X.K F2 v1 (.list ds) := hx
      cases hy'
      cases hx' with
      | lst sq m =>
        obtain ⟨w, e1, e2⟩ := atI_get m e
        exact .inl ⟨_, _, i, w, rfl, rfl, .inl (.inl (s2.eh _ _ sq)), e1, k _ g2 w H2 F2 a2 t2 (s3.push (r := .val z) e2)⟩
    · exact t2.elim
  · rename_i ns i
    split at t2
    · rename_i z e
      have hy' : Rp X.K F2 v2 (.int i) := hy
      cases hy'
      obtain ⟨p, rfl, sq⟩ := hx
      have e' : atI (ns.map V.int) i = some (.int z) := by
        unfold atI at e ⊢
        rw [List.length_map]
        cases q : ixN ns.length i with
        | none => rw [q] at e; cases e
        | some j =>
          rw [q] at e
          show (ns.map V.int)[j]? = _
          rw [List.getElem?_map, show ns[j]? = some z from e]
          rfl
      exact .inl ⟨p, _, i, _, rfl, rfl, ex_l s2.eh sq, e', k _ g2 _ H2 F2 a2 t2 (s3.push (r := .val (.int z)) (Rp.int z))⟩
    · exact t2.elim
  · exact t2.elim
end
end Z
namespace Z
open L2 PySem PySem.Spec PyProof.Rows
open Evl (Ex ex_l ex_t ex_rd fresh_back)
structure Fn (P : Program) (w : World) (K : Fg) (mg : Str → Option Value) (base : Heap) (CX : CXT) (k : Nat) (f : Addr) (fd : FuncData) (ps : List Str) (sp : Sp) : Prop where
  len : ∀ vs H Q E, sp vs H Q E → vs.length = ps.length
  run : ∀ (A : Around) (outer : List Env) (s : Shared) (H : Hp) (args : Args) (us : List Value) (vs : List V) (Q : VK) (E : XK), Room k A → A.guards = some [] →
    Env0 P w K mg base A outer s H → BindsTo s fd args (ps.zip us) → Vals vs us → sp vs H Q E → codeAny (model P w) A (.call (.ref f) args) (CR CX outer P w H s Q E) s
theorem Fn.mono {P : Program} {w : World} {K : Fg} {mg : Str → Option Value} {base : Heap} {CX : CXT} {j k : Nat} {f : Addr} {fd : FuncData} {ps : List Str} {sp : Sp} (F : Fn P w K mg base CX j f fd ps sp) (h : j ≤ k) : Fn P w K mg base CX k f fd ps sp :=
  ⟨F.len, fun A outer s H args us vs Q E hr hg => F.run A outer s H args us vs Q E (hr.mono h) hg⟩
section
variable {P : Program} {w : World} {K : Fg} {mg : Str → Option Value} {base : Heap} {CX : CXT}
theorem fn_by {x qual : Str} {st : Stmt} {f : Addr} {fd : FuncData} {N ps : List Str} {k : Nat} {sp : Sp} (Fu : Fun K x qual st f fd) (S : FnScope N ps (defScope st)) (len : ∀ vs H Q E, sp vs H Q E → vs.length = ps.length)
    (hbody : ∀ (cdv : Value) (A : Around) (outer : List Env) (s : Shared) (H : Hp) (vs : List V) (Q : VK) (E : XK), Room k (A.deeper (envOfC qual (defScope st) s.heap.objs.size f cdv)) →
      (A.deeper (envOfC qual (defScope st) s.heap.objs.size f cdv)).guards = some [] → sp vs H Q E →
      ∃ t, PSs (cxOf CX P w K mg base N qual (defScope st) f cdv A outer s H E) (defBody st) t ∧ t { nx := fun _ H' => Q .non H', rt := Q } (start N vs) H) : Fn P w K mg base CX (k + 1) f fd ps sp := by
  obtain ⟨oc, od, kV, doc, pm, an, cdv, ct, osl, rfl, lk, hcd⟩ := Fu.ex
  refine ⟨len, fun A outer s H args us vs Q E hr hg e0 hb r hsp => ?_⟩
  have KX : K.In s.heap := e0.mod.kin.keeps fun b o e => (e0.bs b o e).1
  have kinds : ∀ y ∈ ps.zip us, (defScope st).names.lookup y.1 = some .local ∨ ((defScope st).names.lookup y.1 = some .cell ∧ ((cellsFrom (s.heap.objs.size + 1) (defScope st).names []).lookup y.1).isSome = true) := by
    rintro ⟨n, v⟩ hy
    exact (S.par n (List.of_mem_zip hy).1).imp id fun q => ⟨q, PySem.W.cellsFrom_some _ _ _ (.inl q)⟩
  refine codeAny_call_function hr.depth (KX _ _ lk) rfl S.co S.gen rfl (PySem.W.codeRec_of KX hcd) (hb _ _ _ _ (wpAny_newFunctionEnv_cells S.kind kinds fun env he s1 x => ?_))
  subst he
  refine ⟨(e0.mod.nolimit.keeps fun b o e => (e0.bs b o e).1).keeps x.toInCall.keep, codeAny_func ?_⟩
  obtain ⟨t, ht, hq⟩ := hbody cdv A outer s H vs Q E (hr.deeper _) hg hsp
  refine wpAny_mono (ht.run [] s1 (start N vs) H _ (inv_start S hr.hd e0 (len _ _ _ _ hsp) r x) hq) (fun fl s' hs => ?_) fun e s' hs => hs
  match fl, hs with
  | .ret u, ⟨v, σ', H', J, rv, q⟩ => exact ⟨v, H', J.os, J.bare, J.base, J.hok, rv, q⟩
  | .next, ⟨σ', H', J, q⟩ => exact ⟨.non, H', J.os, J.bare, J.base, J.hok, rfl, q⟩
  | .brk, ⟨_, _, _, q⟩ => exact q.elim
  | .cont, ⟨_, _, _, q⟩ => exact q.elim
end
section
variable {X : Cx} {CX : CXT} {k : Nat} {f : Addr} {fd : FuncData} {ps : List Str} {sp : Sp} {dvs : List V} {ds : List Value} {E : XK} {x : Str} {p pos : Pos} {e : Expr} {es : List Expr} {t : TA}
theorem fn_run {pins : List (Addr × Obj)} {σ : L2.St} {H : Hp} {s : Shared} {Q : VK} {args : Args} {us : List Value} {vs : List V} (F : Fn X.prog X.w X.K X.mg X.base CX k f fd ps sp) (hr : Room k X.A) (hg : X.A.guards = some []) (hx : Passes CX X E)
    (I : Inv X pins σ H s) (hb : BindsTo s fd args (ps.zip us)) (r : Vals vs us) (h : sp vs H Q E) : codeAny (model X.prog X.w) X.A (.call (.ref f) args) (fun r s' => match r with
      | .ok (.ret u) => EP X pins σ Q u s'
      | .ok _ => False
      | .error e => X.xe e s') s := by
  refine codeAny_mono (F.run X.A X.stack s H args us vs Q E hr hg I.env0 hb r h) fun r s' hq => ?_
  match r, hq with
  | .error e, hq => exact hx pins σ H s e s' I hq
  | .ok (.ret u), hq => exact I.after hq
  | .ok .next, hq => exact False.elim hq
  | .ok .brk, hq => exact False.elim hq
  | .ok .cont, hq => exact False.elim hq
theorem call_fin {pins : List (Addr × Obj)} {σ : L2.St} {H : Hp} {s : Shared} {Q : VK} {us : List Value} {vs : List V} (F : Fn X.prog X.w X.K X.mg X.base CX k f fd ps sp) (hr : Room k X.A) (hg : X.A.guards = some []) (hx : Passes CX X E)
    (I : Inv X pins σ H s) (hb : Binds X.K fd ps []) (r : Vals vs us) (h : sp vs H Q E) : wpAny (model X.prog X.w) X.A (call (.ref f) us) (EP X pins σ Q) X.xe s := by
  have hl : us.length = ps.length := by rw [← r.length]; exact F.len _ _ _ _ h
  have hb' := hb s us I.kIn (by rw [List.append_nil]; exact hl)
  rw [List.append_nil] at hb'
  refine wpAny_call (codeAny_mono (fn_run F hr hg hx I hb' r h) fun r s' hq => ?_)
  match r, hq with
  | .error e, hq => exact hq
  | .ok (.ret u), hq => exact hq
  | .ok .next, hq => exact hq.elim
  | .ok .brk, hq => exact hq.elim
  | .ok .cont, hq => exact hq.elim
theorem pe_fn (F : Fn X.prog X.w X.K X.mg X.base CX k f fd ps sp) (hr : Room k X.A) (hgd : X.A.guards = some []) (hg : Gl X x) (hm : X.mg x = some (.ref f)) (hk : PySem.W.keepIn X.K (.ref f) = true) (hb : Binds X.K fd ps []) (hx : Passes CX X E)
    (ha : PA X (e :: es) t) (hdb : (x == ("__debug__" : Str)) = false := by decide) (he : starEach (e :: es) X.env = (false, eval e X.env) :: starEach es X.env := by rfl) (hpl : (backTo pos (starEach es X.env)).any (·.1) = false := by rfl) :
    PE X (.Call (.Name x p) (e :: es) [] pos) (fun σ H Q => t σ H fun vs H1 => sp vs H1 Q E) :=
  ⟨fun pins s σ H Q I h => wpAny_Call_Name_kw (ld_glob I hg hm (PySem.W.callWith_K (h₀ := X.base) I.ok.mod.kin hk (thn (ha.run pos pins s σ H _ I h) fun us s1 ⟨vs, H1, I1, r, q⟩ => ⟨I1.kIn, call_fin F hr hgd hx I1 hb r q⟩) he hpl) hdb)⟩
end
abbrev FSp := List Rv → Option Nat → (Rr → Option Nat → Prop) → Prop
def RrOk (K : Fg) (F' H H' : Hp) (v : V) : Rr → Prop
  | .val d => Rp K F' v d
  | .own ds => ∃ o xs, v = .ref o ∧ H o = none ∧ F' o = none ∧ H' o = some (.lst xs) ∧ Rps K F' xs ds
  | .exc _ _ => False
/-- how a call lies behind: still part, heap, source -/
structure Out (K : Fg) (F H : Hp) (a : Addr) (fu : Option Nat) (fu' : Option Nat) (F' H' : Hp) (v : V) (r : Rr) : Prop where
  f : Ex F F'
  s : Ex F' H'
  keep : ∀ b o, (fu ≠ none → b ≠ a) → NT o → H b = some o → H' b = some o
  new : ∀ b, F' b ≠ none → F b ≠ none ∨ H b = none
  src : fu ≠ none → ∃ n, fu' = some n ∧ F' a = none ∧ SrcAt H' a n
  rep : RrOk K F' H H' v r
  tab : TbS H H'
  tk : TabK K F' H'
def lift (K : Fg) (np : Nat) (fs : FSp) : Sp := fun vs H Q _ => ∃ F a rs fu post, Ex F H ∧ Tm K F a fu vs rs ∧ vs.length = np ∧ (∀ n, fu = some n → F a = none ∧ SrcAt H a n) ∧ TabK K F H ∧ fs rs fu post ∧
  ∀ r fu' v H' F', post r fu' → Out K F H a fu fu' F' H' v r → Q v H'
theorem lift_len {K : Fg} {np : Nat} {fs : FSp} (vs : List V) (H : Hp) (Q : VK) (E : XK) (h : lift K np fs vs H Q E) : vs.length = np := by
  obtain ⟨_, _, _, _, _, _, _, h, _⟩ := h
  exact h
def rrv : Rr → Rv
  | .val d => .val d
  | .own ds => .val (.list ds)
  | .exc _ _ => .val .none
def dCall (np : Nat) (fs : FSp) (ta : DA) : DE := fun g Q => ta g fun rs g1 => rs.length = np ∧ match hasSrc rs with
  | true => fs rs g1.fu fun r fu' => Q (rrv r) { g1 with fu := fu' }
  | false => fs rs none fun r _ => Q (rrv r) g1
def dCallL (np : Nat) (fs : FSp) (ta : DA) : DL := fun g Q => ta g fun rs g1 => rs.length = np ∧ match hasSrc rs with
  | true => fs rs g1.fu fun r fu' => match r with | .own ds => Q ds { g1 with fu := fu' } | _ => False
  | false => fs rs none fun r _ => match r with | .own ds => Q ds g1 | _ => False
section
variable {K : Fg} {c : Con} {g : Gs} {σ : L2.St} {H F H' F' : Hp} {tv : List V} {tr : List Rv} {a : Addr}
theorem Tm.noSrc : ∀ {vs : List V} {rs : List Rv} {fu : Option Nat}, hasSrc rs = false → Tm K F a fu vs rs → Tm K F a none vs rs
  | _, _, _, _, .nil => .nil
  | _, .val d :: rs, _, h, .cons r t => .cons (show Rp K F _ d from r) (t.noSrc h)
  | _, .scr d :: rs, _, h, .cons r t => .cons r (t.noSrc h)
  | _, .ob d :: rs, _, h, .cons r t => .cons r (t.noSrc h)
  | _, .src :: rs, _, h, .cons r t => by cases h
theorem Tm.fu_ne : ∀ {vs : List V} {rs : List Rv} {fu : Option Nat}, hasSrc rs = true → Tm K F a fu vs rs → fu ≠ none
  | _, _, _, h, .nil => by cases h
  | _, .val d :: rs, _, h, .cons r t => Tm.fu_ne (rs := rs) h t
  | _, .scr d :: rs, _, h, .cons r t => Tm.fu_ne (rs := rs) h t
  | _, .ob d :: rs, _, h, .cons r t => Tm.fu_ne (rs := rs) h t
  | _, .src :: rs, _, h, .cons r t => r.2
theorem Tm.refu {fu fu' : Option Nat} (hf : fu' ≠ none) : ∀ {vs : List V} {rs : List Rv}, Tm K F a fu vs rs → Tm K F a fu' vs rs
  | _, _, .nil => .nil
  | _, .val d :: rs, .cons r t => .cons (show Rp K F _ d from r) (t.refu hf)
  | _, .scr d :: rs, .cons r t => .cons r (t.refu hf)
  | _, .ob d :: rs, .cons r t => .cons r (t.refu hf)
  | _, .src :: rs, .cons r t => .cons ⟨r.1, hf⟩ (t.refu hf)
/-- behind a call that had the source -/
theorem Sta.after1 (s : Sta K c g σ H tv tr F a) {v : V} {r : Rr} {fu' : Option Nat} (hf : g.fu ≠ none) (o : Out K F H a g.fu fu' F' H' v r) : Sta K c { g with fu := fu' } σ H' tv tr F' a := by
  obtain ⟨n', e', na, sa⟩ := o.src hf
  have ne' : fu' ≠ none := ne_none e'
  have oldF : ∀ b, H b ≠ none → F b = none → F' b = none := fun b h1 h2 => by
    cases q : F' b with
    | none => rfl
    | some u =>
      rcases o.new b (ne_none q) with z | z
      · exact absurd h2 z
      · exact absurd z h1
  obtain ⟨n0, e0⟩ : ∃ n, g.fu = some n := by cases q : g.fu with
    | none => exact absurd q hf
    | some n => exact ⟨n, rfl⟩
  obtain ⟨_, sx, _⟩ := s.src n0 e0
  refine ⟨s.e0.trans o.f, o.s, fun b u h1 hn h2 => ?_, fun b q => ?_, fun b h => ⟨(s.ex b h).1, ne'⟩, s.ow, fun n h => ?_, (s.tmp.up o.f).refu ne', s.len, fun i sv h => ?_, s.dis, o.tk, s.tab.trans o.tab⟩
  · refine o.keep b u (fun _ z => ?_) hn (s.keep b u h1 hn h2)
    subst z
    rcases sx with z | ⟨_, z⟩
    · exact h1 z
    · rw [h2] at z; cases z
  · rcases o.new b q with z | z
    · exact s.new b z
    · exact .inr (s.fresh z)
  · have h' : fu' = some n := h
    rw [e'] at h'; cases h'
    exact ⟨na, sx, sa⟩
  · obtain ⟨v, w1, w2⟩ := s.slot i sv h
    refine ⟨v, w1, ?_⟩
    cases sv with
    | val d => exact Rp.up w2 o.f
    | src => exact ⟨w2.1, ne'⟩
    | scr ns => obtain ⟨b, z1, z2⟩ := w2; exact ⟨b, z1, ex_l o.f z2⟩
    | ob k => exact ObOk.up o.f w2
    | own ds =>
      obtain ⟨p, xs, q1, q2, q3, q4, q5, q6⟩ := w2
      exact ⟨p, xs, q1, oldF p (ne_none q4) q2, q3, o.keep p _ (fun _ => q6 hf) (fun _ z => by cases z) q4, q5.up o.f, fun _ => q6 hf⟩
/-- behind a call that had it not -/
theorem Sta.after0 (s : Sta K c g σ H tv tr F a) {v : V} {r : Rr} {fu' : Option Nat} {b : Addr} (o : Out K F H b none fu' F' H' v r) : Sta K c g σ H' tv tr F' a :=
  s.growN o.f (fun x u hn h => o.keep x u (fun z => absurd rfl z) hn h) o.s o.new o.tab o.tk
theorem NewL.of (s : Sta K c g σ H tv tr F a) {g' : Gs} (hs : g'.sl = g.sl) (hfu : g'.fu ≠ none → g.fu ≠ none) {v : V} {ds : List Da} (h : RrOk K F' H H' v (.own ds)) : NewL K c g' σ H' F' a v ds := by
  obtain ⟨o, xs, rfl, q1, q2, q3, q4⟩ := h
  refine ⟨o, xs, rfl, q2, s.fresh q1, q3, q4, fun hf z => ?_, fun i es hi z => ?_⟩
  · cases q : g.fu with
    | none => exact hfu hf q
    | some n =>
      obtain ⟨_, _, x, y, w, e, _⟩ := s.src n q
      rw [← z, q1] at e; cases e
  · rw [hs] at hi
    obtain ⟨v, w1, o', ys, r1, r2, r3, r4, _⟩ := s.slot i _ hi
    rw [z] at w1
    cases w1
    cases r1
    rw [q1] at r4; cases r4
end
section
variable {X : Cx} {k : Nat} {f : Addr} {fd : FuncData} {ps : List Str} {fs : FSp} {x : Str} {p pos : Pos} {e : Expr} {es : List Expr} {tr : DA} {np : Nat} {E : XK} {CX : CXT}
theorem lift_core : ∀ σ H Q, up X.K (dCall np fs tr) σ H Q → upA X.K tr σ H fun vs H1 => lift X.K np fs vs H1 Q E := fun σ H Q q => by
  obtain ⟨c, g, tv, tr, F, ad, post, s, t, k⟩ := q
  refine ⟨c, g, tv, tr, F, ad, _, s, t, fun rs g1 vs H1 F1 a1 t1 s1 hl => ?_⟩
  obtain ⟨hn, t1⟩ := t1
  rw [← hl] at hn
  obtain ⟨m1, m2⟩ := s1.tmp.args hl
  have s2 := s1.pop m2
  cases q : hasSrc rs with
  | true =>
    rw [q] at t1
    have hf := m1.fu_ne q
    refine ⟨F1, a1, rs, g1.fu, _, s1.eh, m1, hn, fun n h => ⟨(s1.src n h).1, (s1.src n h).2.2⟩, s1.tabk, t1, fun r fu' v H' F' hp o => ?_⟩
    have s3 := s2.after1 hf o
    cases r with
    | exc _ _ => exact o.rep.elim
    | val d => exact k _ _ v H' F' a1 hp (s3.push (r := .val d) o.rep)
    | own ds =>
      obtain ⟨F'', s4⟩ := s3.still (NewL.of (g' := { g1 with fu := fu' }) s2 rfl (fun _ => hf) o.rep)
      exact k _ _ v H' F'' a1 hp s4
  | false =>
    rw [q] at t1
    refine ⟨F1, a1, rs, none, _, s1.eh, m1.noSrc q, hn, fun n h => by (cases h), s1.tabk, t1, fun r fu' v H' F' hp o => ?_⟩
    have s3 := s2.after0 o
    cases r with
    | exc _ _ => exact o.rep.elim
    | val d => exact k _ _ v H' F' a1 hp (s3.push (r := .val d) o.rep)
    | own ds =>
      obtain ⟨F'', s4⟩ := s3.still (NewL.of s2 rfl id o.rep)
      exact k _ _ v H' F'' a1 hp s4
theorem liftL_core : ∀ σ H Q, upL X.K (dCallL np fs tr) σ H Q → upA X.K tr σ H fun vs H1 => lift X.K np fs vs H1 Q E := fun σ H Q q => by
  obtain ⟨c, g, tv, tr, F, ad, post, s, t, k⟩ := q
  refine ⟨c, g, tv, tr, F, ad, _, s, t, fun rs g1 vs H1 F1 a1 t1 s1 hl => ?_⟩
  obtain ⟨hn, t1⟩ := t1
  rw [← hl] at hn
  obtain ⟨m1, m2⟩ := s1.tmp.args hl
  have s2 := s1.pop m2
  cases q : hasSrc rs with
  | true =>
    rw [q] at t1
    have hf := m1.fu_ne q
    refine ⟨F1, a1, rs, g1.fu, _, s1.eh, m1, hn, fun n h => ⟨(s1.src n h).1, (s1.src n h).2.2⟩, s1.tabk, t1, fun r fu' v H' F' hp o => ?_⟩
    have s3 := s2.after1 hf o
    cases r with
    | exc _ _ => exact hp.elim
    | val d => exact hp.elim
    | own ds => exact k _ _ v H' F' a1 hp s3 (NewL.of (g' := { g1 with fu := fu' }) s2 rfl (fun _ => hf) o.rep)
  | false =>
    rw [q] at t1
    refine ⟨F1, a1, rs, none, _, s1.eh, m1.noSrc q, hn, fun n h => by (cases h), s1.tabk, t1, fun r fu' v H' F' hp o => ?_⟩
    have s3 := s2.after0 o
    cases r with
    | exc _ _ => exact hp.elim
    | val d => exact hp.elim
    | own ds => exact k _ _ v H' F' a1 hp s3 (NewL.of s2 rfl id o.rep)
theorem e_call (G : Fn X.prog X.w X.K X.mg X.base CX k f fd ps (lift X.K np fs)) (hr : Room k X.A) (hgd : X.A.guards = some []) (hg : Gl X x) (hm : X.mg x = some (.ref f)) (hk : PySem.W.keepIn X.K (.ref f) = true) (hb : Binds X.K fd ps []) (hx : Passes CX X E)
    (ha : PA X (e :: es) (upA X.K tr)) (hdb : (x == ("__debug__" : Str)) = false := by decide) (he : starEach (e :: es) X.env = (false, eval e X.env) :: starEach es X.env := by rfl) (hpl : (backTo pos (starEach es X.env)).any (·.1) = false := by rfl) :
    PE X (.Call (.Name x p) (e :: es) [] pos) (up X.K (dCall np fs tr)) := pe_to (pe_fn G hr hgd hg hm hk hb hx ha hdb he hpl) lift_core
theorem e_callL (G : Fn X.prog X.w X.K X.mg X.base CX k f fd ps (lift X.K np fs)) (hr : Room k X.A) (hgd : X.A.guards = some []) (hg : Gl X x) (hm : X.mg x = some (.ref f)) (hk : PySem.W.keepIn X.K (.ref f) = true) (hb : Binds X.K fd ps []) (hx : Passes CX X E)
    (ha : PA X (e :: es) (upA X.K tr)) (hdb : (x == ("__debug__" : Str)) = false := by decide) (he : starEach (e :: es) X.env = (false, eval e X.env) :: starEach es X.env := by rfl) (hpl : (backTo pos (starEach es X.env)).any (·.1) = false := by rfl) :
    PE X (.Call (.Name x p) (e :: es) [] pos) (upL X.K (dCallL np fs tr)) := pe_to (pe_fn G hr hgd hg hm hk hb hx ha hdb he hpl) liftL_core
end
end Z
namespace Z
open L2 PySem PySem.Spec PyProof.Rows
open Evl (Ex ex_l ex_t ex_rd fresh_back)
variable {Wx : WX}
def rsv : Rv → Sv
  | .val d => .val d
  | .src => .src
  | .scr ns => .scr ns
  | .ob k => .ob k
section
variable {K : Fg} {c : Con} {g : Gs} {σ : L2.St} {H F : Hp} {tv : List V} {tr : List Rv} {a : Addr}
theorem set_some {α : Type} {l : List α} {i j : Nat} {x y : α} (h : (l.set i x)[j]? = some y) : (j = i ∧ j < l.length ∧ y = x) ∨ (j ≠ i ∧ l[j]? = some y) := by
  by_cases e : j = i
  · subst e
    have hl : j < (l.set j x).length := (List.getElem?_eq_some_iff.mp h).1
    rw [List.length_set] at hl
    rw [List.getElem?_set_self hl] at h
    cases h
    exact .inl ⟨rfl, hl, rfl⟩
  · rw [List.getElem?_set_ne (Ne.symm e)] at h
    exact .inr ⟨e, h⟩
theorem Sta.set {v : V} {r : Rv} (s : Sta K c g σ H (v :: tv) (r :: tr) F a) (i : Nat) : Sta K c (g.set i (rsv r)) (σ.set i (some v)) H tv tr F a := by
  have hr := s.top
  have s0 := s.pop1
  refine ⟨s0.e0, s0.eh, s0.keep, s0.new, s0.ex, s0.ow, s0.src, s0.tmp, ?_, fun j sv hj => ?_, fun j k ds es hjk hj hk => ?_, s0.t0, s0.tab⟩
  · show (σ.set i _).length = (g.sl.set i _).length
    rw [List.length_set, List.length_set]; exact s0.len
  · rcases set_some (show (g.sl.set i (some (rsv r)))[j]? = some (some sv) from hj) with ⟨rfl, hl, e⟩ | ⟨ne, e⟩
    · cases e
      refine ⟨v, List.getElem?_set_self (by rw [s0.len]; exact hl), ?_⟩
      cases r with
      | val d => exact hr
      | src => exact hr
      | scr ns => exact hr
      | ob k => exact hr
    · obtain ⟨w, h1, h2⟩ := s0.slot j sv e
      exact ⟨w, by rw [List.getElem?_set_ne (Ne.symm ne)]; exact h1, h2⟩
  · have no : ∀ k fs, (g.sl.set i (some (rsv r)))[k]? = some (some (Sv.own fs)) → k ≠ i ∧ g.sl[k]? = some (some (Sv.own fs)) := fun k fs h => by
      rcases set_some h with ⟨_, _, e⟩ | z
      · cases r <;> cases e
      · exact z
    obtain ⟨n1, e1⟩ := no j ds hj
    obtain ⟨n2, e2⟩ := no k es hk
    rw [List.getElem?_set_ne (Ne.symm n1), List.getElem?_set_ne (Ne.symm n2)]
    exact s0.dis j k ds es hjk e1 e2
theorem Sta.setOwn (s : Sta K c g σ H tv tr F a) {v : V} {ds : List Da} (h : NewL K c g σ H F a v ds) (i : Nat) : Sta K c (g.set i (.own ds)) (σ.set i (some v)) H tv tr F a := by
  obtain ⟨o, xs, rfl, q2, q3, q4, q5, q6, q7⟩ := h.ex
  refine ⟨s.e0, s.eh, s.keep, s.new, s.ex, s.ow, s.src, s.tmp, ?_, fun j sv hj => ?_, fun j k es fs hjk hj hk => ?_, s.t0, s.tab⟩
  · show (σ.set i _).length = (g.sl.set i _).length
    rw [List.length_set, List.length_set]; exact s.len
  · rcases set_some (show (g.sl.set i (some (Sv.own ds)))[j]? = some (some sv) from hj) with ⟨rfl, hl, e⟩ | ⟨ne, e⟩
    · cases e
      exact ⟨_, List.getElem?_set_self (by rw [s.len]; exact hl), o, xs, rfl, q2, q3, q4, q5, q6⟩
    · obtain ⟨w, h1, h2⟩ := s.slot j sv e
      exact ⟨w, by rw [List.getElem?_set_ne (Ne.symm ne)]; exact h1, h2⟩
  · rcases set_some (show (g.sl.set i (some (Sv.own ds)))[j]? = some (some (Sv.own es)) from hj) with ⟨rfl, hl, e⟩ | ⟨nj, ej⟩
    · rcases set_some (show (g.sl.set j (some (Sv.own ds)))[k]? = some (some (Sv.own fs)) from hk) with ⟨rfl, _, _⟩ | ⟨nk, ek⟩
      · exact absurd rfl hjk
      · rw [List.getElem?_set_self (by rw [s.len]; exact hl), List.getElem?_set_ne (Ne.symm nk)]
        exact fun z => q7 k fs ek z.symm
    · rcases set_some (show (g.sl.set i (some (Sv.own ds)))[k]? = some (some (Sv.own fs)) from hk) with ⟨rfl, hl, _⟩ | ⟨nk, ek⟩
      · rw [List.getElem?_set_self (by rw [s.len]; exact hl), List.getElem?_set_ne (Ne.symm nj)]
        exact q7 j es ej
      · rw [List.getElem?_set_ne (Ne.symm nj), List.getElem?_set_ne (Ne.symm nk)]
        exact s.dis j k es fs hjk ej ek
/-- an own list changes -/
theorem Sta.mut (s : Sta K c g σ H tv tr F a) {i : Nat} {o : Addr} {ds es : List Da} {ys : List V} (h : g.sl[i]? = some (some (.own ds))) (ho : σ[i]? = some (some (.ref o))) (hy : Rps K F ys es) :
    Sta K c (g.set i (.own es)) σ (upd H o (.lst ys)) tv tr F a := by
  obtain ⟨v, h1, o', xs, rfl, q2, q3, q4, q5, q6⟩ := s.slot i _ h
  rw [ho] at h1
  cases h1
  have hi : i < g.sl.length := (List.getElem?_eq_some_iff.mp h).1
  refine ⟨s.e0, fun b u q => ?_, fun b u z1 hn z2 => ?_, s.new, s.ex, s.ow, fun n hn => ?_, s.tmp, ?_, fun j sv hj => ?_, fun j k e1 e2 hjk hj hk => ?_, s.t0.but q4 (fun _ z => by cases z) fun b u ne h => by rw [upd_ne ne]; exact h, s.tab.trans (.but q4 (fun _ z => by cases z) fun b u ne h => by rw [upd_ne ne]; exact h)⟩
  · have nb : b ≠ o := fun z => by rw [z, q2] at q; cases q
    rw [upd_ne nb]; exact s.eh b u q
  · have nb : b ≠ o := fun z => by rw [z, q3] at z2; cases z2
    rw [upd_ne nb]; exact s.keep b u z1 hn z2
  · obtain ⟨z1, z2, x, y, z, e, z3⟩ := s.src n hn
    exact ⟨z1, z2, x, y, z, by rw [upd_ne (fun w => q6 (ne_none hn) w.symm)]; exact e, z3⟩
  · show σ.length = (g.sl.set i _).length
    rw [List.length_set]; exact s.len
  · rcases set_some (show (g.sl.set i (some (Sv.own es)))[j]? = some (some sv) from hj) with ⟨rfl, hl, e⟩ | ⟨ne, e⟩
    · cases e
      exact ⟨_, ho, o, ys, rfl, q2, q3, upd_same, hy, q6⟩
    · obtain ⟨w, h1, h2⟩ := s.slot j sv e
      refine ⟨w, h1, ?_⟩
      cases sv with
      | val d => exact h2
      | src => exact h2
      | scr ns => exact h2
      | ob k => exact h2
      | own fs =>
        obtain ⟨p, zs, r1, r2, r3, r4, r5, r6⟩ := h2
        have np : p ≠ o := fun z => s.dis j i fs ds ne e h (by rw [h1, ho, r1, z])
        exact ⟨p, zs, r1, r2, r3, by rw [upd_ne np]; exact r4, r5, r6⟩
  · have back : ∀ k e, (g.sl.set i (some (Sv.own es)))[k]? = some (some (Sv.own e)) → ∃ e', g.sl[k]? = some (some (Sv.own e')) := fun k e hk => by
      rcases set_some hk with ⟨rfl, _, _⟩ | ⟨_, z⟩
      · exact ⟨_, h⟩
      · exact ⟨_, z⟩
    obtain ⟨f1, w1⟩ := back j e1 hj
    obtain ⟨f2, w2⟩ := back k e2 hk
    exact s.dis j k f1 f2 hjk w1 w2
end
abbrev DG := Rv → Gs → (Gs → Prop) → Prop
abbrev DGs := List Da → Gs → (Gs → Prop) → Prop
def upG (K : Fg) (t : DG) : TG := fun v σ H Q => ∃ c g tv tr F a r post, Sta K c g σ H (v :: tv) (r :: tr) F a ∧ t r g post ∧ ∀ g' σ' H' F' a', post g' → Sta K c g' σ' H' tv tr F' a' → Q σ' H'
def upGs (K : Fg) (t : DGs) : TGs := fun vs σ H Q => ∃ c g tv tr F a ds post, Sta K c g σ H (vs ++ tv) (ds.map Rv.val ++ tr) F a ∧ vs.length = ds.length ∧ t ds g post ∧ ∀ g' σ' H' F' a', post g' → Sta K c g' σ' H' tv tr F' a' → Q σ' H'
def dN (i : Nat) : DG := fun r g Q => Q (g.set i (rsv r))
def dT (n : Nat) (t : DGs) : DG := fun r g Q => match r with
  | .val (.tuple ds) => ds.length = n ∧ t ds g Q
  | _ => False
def dTn : DGs := fun ds g Q => match ds with
  | [] => Q g
  | _ => False
def dTc (t : DG) (u : DGs) : DGs := fun ds g Q => match ds with
  | d :: r => t (.val d) g fun g1 => u r g1 Q
  | [] => False
section
variable {X : Cx} {pos : Pos} {e : Expr} {es : List Expr}
theorem pg_to {t t' : TG} (h : PG X e t) (i : ∀ v σ H Q, t' v σ H Q → t v σ H Q) : PG X e t' := ⟨fun pins s v u σ H Q I r q => h.run pins s v u σ H Q I r (i _ _ _ _ q)⟩
theorem pgs_to {t t' : TGs} (h : PGs X es t) (i : ∀ v σ H Q, t' v σ H Q → t v σ H Q) : PGs X es t' := ⟨fun pins s v u σ H Q I r q => h.run pins s v u σ H Q I r (i _ _ _ _ q)⟩
theorem Tm.ofRps {K : Fg} {F : Hp} {a : Addr} {fu : Option Nat} : ∀ {vs : List V} {ds : List Da}, Rps K F vs ds → Tm K F a fu vs (ds.map Rv.val)
  | _, _, .nil => .nil
  | _, _, .cons h t => .cons h (Tm.ofRps t)
theorem g_name {i : Nat} (h : PG X e (gName i)) : PG X e (upG X.K (dN i)) := pg_to h fun v σ H Q q => by
  obtain ⟨c, g, tv, tr, F, a, r, post, s, t, k⟩ := q
  exact k _ _ H F a t (s.set i)
theorem gs_nil : PGs X [] (upGs X.K dTn) := pgs_to pgs_nil fun vs σ H Q q => by
  obtain ⟨c, g, tv, tr, F, a, ds, post, s, hl, t, k⟩ := q
  cases ds with
  | nil =>
    have : vs = [] := List.length_eq_zero_iff.mp hl
    subst this
    exact ⟨rfl, k _ _ H F a t s⟩
  | cons d r => exact t.elim
theorem gs_cons {t : DG} {u : DGs} (h : PG X e (upG X.K t)) (hr : PGs X es (upGs X.K u)) (hs : (assignEach (e :: es) X.env).map (·.2) = assign e X.env :: (assignEach es X.env).map (·.2) := by rfl) : PGs X (e :: es) (upGs X.K (dTc t u)) := pgs_to (pgs_cons h hr hs) fun vs σ H Q q => by
  obtain ⟨c, g, tv, tr, F, a, ds, post, s, hl, t, k⟩ := q
  cases ds with
  | nil => exact t.elim
  | cons d r =>
    cases vs with
    | nil => simp at hl
    | cons v vs =>
      refine ⟨v, vs, rfl, c, g, _, _, F, a, _, _, s, t, fun g1 σ1 H1 F1 a1 t1 s1 => ?_⟩
      exact ⟨c, g1, tv, tr, F1, a1, r, _, s1, by simpa using hl, t1, k⟩
theorem g_tup {n k : Nat} {t : DGs} (hc : X.calm = true) (h : PGs X es (upGs X.K t)) (hn : (assignEach es X.env).length = n := by rfl) (hf : List.findIdx? (fun x => x.1) (assignEach es X.env) = none := by rfl) : PG X (.Tuple es k pos) (upG X.K (dT n t)) :=
  pg_to (pg_tup hc h hn hf) fun v σ H Q q => by
  obtain ⟨c, g, tv, tr, F, a, r, post, s, t, k⟩ := q
  cases r with
  | val d =>
    cases d with
    | tuple ds =>
      have hr : Rp X.K F v (.tuple ds) := s.top
      cases hr with
      | tup sq m =>
        refine ⟨_, _, rfl, ex_t s.eh sq, by rw [m.len]; exact t.1, c, g, tv, tr, F, a, ds, post, s.pop ((Tm.ofRps m).app s.pop1.tmp), m.len, t.2, k⟩
    | _ => exact t.elim
  | _ => exact t.elim
end
def dAsg (te : DE) (t : DG) : DS := fun d g => te g fun r g1 => t r g1 d.nx
def dSetL (i : Nat) (tl : DL) : DS := fun d g => tl g fun ds g1 => d.nx (g1.set i (.own ds))
def dSeq (t u : DS) : DS := fun d g => t { d with nx := u d } g
def dNext : DS := fun d g => d.nx g
def dIfS (c : DT) (t u : DS) : DS := fun d g => c g fun b g1 => (b = true → t d g1) ∧ (b = false → u d g1)
def dRet (te : DE) : DS := fun d g => te g fun r g1 => match r with
  | .val x => d.rt (.val x) g1
  | _ => False
def dRetL (tl : DL) : DS := fun d g => tl g fun ds g1 => d.rt (.own ds) g1
def dDrop (te : DE) : DS := fun d g => te g fun _ g1 => d.nx g1
def dNever : DS := fun _ _ => False
def dAug (i : Nat) (f : BinF) (te : DE) : DS := fun d g => match g.sl[i]? with
  | some (some (.val x)) => te g fun r g1 => match r with
    | .val y => f x y fun z => d.nx (g1.set i (.val z))
    | _ => False
  | _ => False
def dPar (i j : Nat) (ta tb : DE) : DS := fun d g => ta g fun r g1 => tb g1 fun s g2 => d.nx ((g2.set i (rsv r)).set j (rsv s))
/-- a, b = [..], constant -/
def dParL (i j : Nat) (tl : DL) (x : Da) : DS := fun d g => tl g fun ds g1 => d.nx ((g1.set i (.own ds)).set j (.val x))
def dApp (i : Nat) (te : DE) : DS := fun d g => (∃ ds, g.sl[i]? = some (some (.own ds))) ∧ te g fun r g1 => match r with
  | .val z => (match g1.sl[i]? with
    | some (some (.own ds)) => ds.length < 1000000 ∧ d.nx (g1.set i (.own (ds ++ [z])))
    | _ => False)
  | _ => False
def dWhile (c : DT) (tb : DS) : DS := fun d g => ∃ W : Nat → Gs → Prop, (∃ m, W m g) ∧ ∀ m g, W m g → c g fun b g1 =>
  (b = true → tb { d with nx := fun g2 => ∃ m', m' < m ∧ W m' g2, ct := fun g2 => ∃ m', m' < m ∧ W m' g2, bk := d.nx } g1) ∧ (b = false → d.nx g1)
section
variable {X : Cx} {pos : Pos} {e tg : Expr} {te : DE} {tl : DL}
theorem s_asg {t : DG} (he : PE X e (up X.K te)) (hg : PG X tg (upG X.K t)) (h1 : swapsWithSole [tg] e pos.line X.env = pure false := by rfl) (h2 : swappedStores [tg] e X.env = pure none := by rfl) (h3 : (assignEach [tg] X.env).map (·.2) = [assign tg X.env] := by rfl) :
    PS X (.Assign [tg] e pos) (upS X.K Wx (dAsg te t)) := ps_to (ps_asg he hg h1 h2 h3) fun D σ H q => by
  obtain ⟨c, g, tv, tr, F, a, d, s, hn, t, k⟩ := q
  refine ⟨c, g, tv, tr, F, a, _, s, t, fun r g1 v H1 F1 a1 t1 s1 => ?_⟩
  exact ⟨c, g1, tv, tr, F1, a1, r, _, s1, t1, fun g2 σ2 H2 F2 a2 t2 s2 => k.nx g2 σ2 H2 F2 a2 t2 s2⟩
theorem s_set {i : Nat} {x : Str} {pos' : Pos} (hN : X.N.Nodup) (hi : X.N[i]? = some x) (hx : L2.Loc X.env.scope x) (he : PE X e (up X.K te)) (h1 : swapsWith e (some (.Name x pos')) pos.line X.env = pure false := by rfl)
    (hf : X.fn x = true ∨ X.env.scope.names.lookup x = some .local := by first | exact .inl rfl | exact .inr rfl) : PS X (.Assign [.Name x pos'] e pos) (upS X.K Wx (dAsg te (dN i))) := ps_to (ps_set hN hi hx he h1 hf) fun D σ H q => by
  obtain ⟨c, g, tv, tr, F, a, d, s, hn, t, k⟩ := q
  exact ⟨c, g, tv, tr, F, a, _, s, t, fun r g1 v H1 F1 a1 t1 s1 => k.nx _ _ H1 F1 a1 t1 (s1.set i)⟩
theorem s_setL {i : Nat} {x : Str} {pos' : Pos} (hN : X.N.Nodup) (hi : X.N[i]? = some x) (hx : L2.Loc X.env.scope x) (he : PE X e (upL X.K tl)) (h1 : swapsWith e (some (.Name x pos')) pos.line X.env = pure false := by rfl)
    (hf : X.fn x = true ∨ X.env.scope.names.lookup x = some .local := by first | exact .inl rfl | exact .inr rfl) : PS X (.Assign [.Name x pos'] e pos) (upS X.K Wx (dSetL i tl)) := ps_to (ps_set hN hi hx he h1 hf) fun D σ H q => by
  obtain ⟨c, g, tv, tr, F, a, d, s, hn, t, k⟩ := q
  exact ⟨c, g, tv, tr, F, a, _, s, t, fun ds g1 v H1 F1 a1 t1 s1 n1 => k.nx _ _ H1 F1 a1 t1 (s1.setOwn n1 i)⟩
variable {st : Stmt} {rest body : List Stmt} {t u : DS} {ct : DT}
theorem ss_nil : PSs X [] (upS X.K Wx dNext) := pss_to pss_nil fun D σ H q => by
  obtain ⟨c, g, tv, tr, F, a, d, s, hn, t, k⟩ := q
  exact k.nx g σ H F a t s
theorem DD.seq {K : Fg} {Wx : WX} {c : Con} {tv : List V} {tr : List Rv} {d : DEnds} {D : Ends} (k : DD K Wx c tv tr d D) {N : Gs → Prop} {M : L2.St → Hp → Prop} (h : ∀ g σ H F a, N g → Sta K c g σ H tv tr F a → M σ H) : DD K Wx c tv tr { d with nx := N } { D with nx := M } :=
  ⟨h, k.bk, k.ct, k.rv, k.ro, k.rx⟩
theorem ss_cons (h1 : PS X st (upS X.K Wx t)) (h2 : PSs X rest (upS X.K Wx u)) : PSs X (st :: rest) (upS X.K Wx (dSeq t u)) := pss_to (pss_cons h1 h2) fun D σ H q => by
  obtain ⟨c, g, tv, tr, F, a, d, s, hn, t, k⟩ := q
  exact ⟨c, g, tv, tr, F, a, _, s, hn, t, k.seq fun g1 σ1 H1 F1 a1 t1 s1 => ⟨c, g1, tv, tr, F1, a1, d, s1, hn, t1, k⟩⟩
theorem ss_one (h1 : PS X st (upS X.K Wx t)) : PSs X [st] (upS X.K Wx t) := pss_one h1
theorem s_if {c : Expr} {a b : List Stmt} (hc : PT X c (upT X.K ct)) (h1 : PSs X a (upS X.K Wx t)) (h2 : PSs X b (upS X.K Wx u)) : PS X (.If c a b pos) (upS X.K Wx (dIfS ct t u)) := ps_to (ps_if hc h1 h2) fun D σ H q => by
  obtain ⟨c, g, tv, tr, F, a, d, s, hn, t, k⟩ := q
  refine ⟨c, g, tv, tr, F, a, _, s, t, fun b g1 H1 F1 a1 t1 s1 => ?_⟩
  cases b with
  | true => rw [if_pos rfl]; exact ⟨c, g1, tv, tr, F1, a1, d, s1, hn, t1.1 rfl, k⟩
  | false => rw [if_neg Bool.false_ne_true]; exact ⟨c, g1, tv, tr, F1, a1, d, s1, hn, t1.2 rfl, k⟩
theorem s_ret (he : PE X e (up X.K te)) : PS X (.Return (some e) pos) (upS X.K Wx (dRet te)) := ps_to (ps_ret he) fun D σ H q => by
  obtain ⟨c, g, tv, tr, F, a, d, s, hn, t, k⟩ := q
  refine ⟨c, g, tv, tr, F, a, _, s, t, fun r g1 v H1 F1 a1 t1 s1 => ?_⟩
  cases r with
  | val x => exact k.rv x g1 σ v H1 F1 a1 t1 s1
  | _ => exact t1.elim
theorem s_retL (he : PE X e (upL X.K tl)) : PS X (.Return (some e) pos) (upS X.K Wx (dRetL tl)) := ps_to (ps_ret he) fun D σ H q => by
  obtain ⟨c, g, tv, tr, F, a, d, s, hn, t, k⟩ := q
  refine ⟨c, g, tv, tr, F, a, _, s, t, fun ds g1 v H1 F1 a1 t1 s1 n1 => ?_⟩
  obtain ⟨o, xs, q1, q2, q3, q4, q5, q6, _⟩ := n1.ex
  exact k.ro ds g1 σ v H1 F1 a1 t1 s1 ⟨o, xs, q1, q2, q3, q4, q5, q6, fun i es h => by simp at h⟩
theorem s_expr (he : PE X e (up X.K te)) (h1 : swapsWith e none pos.line X.env = pure false := by rfl) : PS X (.Expr e pos) (upS X.K Wx (dDrop te)) := ps_to (ps_expr he h1) fun D σ H q => by
  obtain ⟨c, g, tv, tr, F, a, d, s, hn, t, k⟩ := q
  exact ⟨c, g, tv, tr, F, a, _, s, t, fun r g1 v H1 F1 a1 t1 s1 => k.nx g1 σ H1 F1 a1 t1 s1.pop1⟩
theorem s_never : PS X st (upS X.K Wx dNever) := ps_to ps_never fun D σ H q => by
  obtain ⟨c, g, tv, tr, F, a, d, s, hn, t, k⟩ := q
  exact t.elim
theorem s_aug {i : Nat} {x : Str} {pos' : Pos} {op : Operator} {f : BinF} {r : R2} (hN : X.N.Nodup) (hi : X.N[i]? = some x) (hx : L2.Loc X.env.scope x) (he : PE X e (up X.K te)) (ho : OpR X (inplaceOp op) r) (hb : BinOk X.K r f)
    (hf : X.fn x = true ∨ X.env.scope.names.lookup x = some .local := by first | exact .inl rfl | exact .inr rfl) : PS X (.AugAssign (.Name x pos') op e pos) (upS X.K Wx (dAug i f te)) := ps_to (ps_aug (ti := r) hN hi hx he ho hf) fun D σ H q => by
  obtain ⟨c, g, tv, tr, F, a, d, s, hn, t, k⟩ := q
  unfold dAug at t
  split at t
  · rename_i y hy
    obtain ⟨v, h1, h2⟩ := s.slot i _ hy
    refine ⟨v, h1, c, g, v :: tv, .val y :: tr, F, a, _, s.push (r := .val y) h2, t, fun r g1 w H1 F1 a1 t1 s1 => ?_⟩
    cases r with
    | val z =>
      have r1 : Rp X.K F1 v y := s1.pop1.top
      have r2 : Rp X.K F1 w z := s1.top
      exact hb F1 H1 v w y z _ _ s1.eh r1 r2 t1 fun z' v' H' F' hz gr rz => k.nx _ _ H' F' a1 hz (Sta.set (r := .val z') ((s1.pop1.pop1.grow gr).push (r := .val z') rz) i)
    | _ => exact t1.elim
  · exact t.elim
theorem s_par {i j : Nat} {x y : Str} {a b : Expr} {ta tb : DE} {px py pt : Pos} {kt k2 : Nat} {pt2 : Pos} (hc : X.calm = true) (hN : X.N.Nodup) (hi : X.N[i]? = some x) (hj : X.N[j]? = some y) (hij : i ≠ j)
    (hx : X.env.scope.names.lookup x = some .local) (hy : X.env.scope.names.lookup y = some .local) (ha : PE X a (up X.K ta)) (hb : PE X b (up X.K tb))
    (hsw : swappedStores [.Tuple [.Name x px, .Name y py] kt pt] (.Tuple [a, b] k2 pt2) X.env = pure (some [x, y]) := by rfl) (h1 : swapsWithSole [.Tuple [.Name x px, .Name y py] kt pt] (.Tuple [a, b] k2 pt2) pos.line X.env = pure false := by rfl)
    (n1 : starEach [a, b] X.env = (false, eval a X.env) :: starEach [b] X.env := by rfl) (n2 : starEach [b] X.env = (false, eval b X.env) :: starEach [] X.env := by rfl) :
    PS X (.Assign [.Tuple [.Name x px, .Name y py] kt pt] (.Tuple [a, b] k2 pt2) pos) (upS X.K Wx (dPar i j ta tb)) := ps_to (ps_par hc hN hi hj hij hx hy (a_cons ha (a_cons hb a_nil n2) n1) hsw h1) fun D σ H q => by
  obtain ⟨c, g, tv, tr, F, a, d, s, hn, t, k⟩ := q
  refine ⟨c, g, tv, tr, F, a, fun rs g1 => match rs with | [r, s] => d.nx ((g1.set i (rsv r)).set j (rsv s)) | _ => False, s, t, fun rs g1 vs H1 F1 a1 t1 s1 hl => ?_⟩
  match rs, t1, vs, hl, s1 with
  | [r, s'], t1, [v, w], _, s1 =>
    refine ⟨v, w, rfl, k.nx _ _ H1 F1 a1 t1 ?_⟩
    have s2 : Sta X.K c g1 σ H1 (v :: w :: tv) (r :: s' :: tr) F1 a1 := by
      have e1 : Sta X.K c g1 σ H1 (w :: v :: tv) (s' :: r :: tr) F1 a1 := s1
      exact e1.pop (.cons e1.pop1.top (.cons e1.top e1.pop1.pop1.tmp))
    exact (s2.set i).set j
theorem s_parL {i j : Nat} {x y : Str} {a b : Expr} {tl : DL} {v : V} {z : Da} {px py pt : Pos} {kt k2 : Nat} {pt2 : Pos} (hc : X.calm = true) (hN : X.N.Nodup) (hi : X.N[i]? = some x) (hj : X.N[j]? = some y) (hij : i ≠ j)
    (hx : X.env.scope.names.lookup x = some .local) (hy : X.env.scope.names.lookup y = some .local) (ha : PE X a (upL X.K tl)) (hb : PE X b (tC v)) (hv : ∀ F, Rp X.K F v z)
    (hsw : swappedStores [.Tuple [.Name x px, .Name y py] kt pt] (.Tuple [a, b] k2 pt2) X.env = pure (some [x, y]) := by rfl) (h1 : swapsWithSole [.Tuple [.Name x px, .Name y py] kt pt] (.Tuple [a, b] k2 pt2) pos.line X.env = pure false := by rfl)
    (n1 : starEach [a, b] X.env = (false, eval a X.env) :: starEach [b] X.env := by rfl) (n2 : starEach [b] X.env = (false, eval b X.env) :: starEach [] X.env := by rfl) :
    PS X (.Assign [.Tuple [.Name x px, .Name y py] kt pt] (.Tuple [a, b] k2 pt2) pos) (upS X.K Wx (dParL i j tl z)) := ps_to (ps_par hc hN hi hj hij hx hy (pa_cons ha (pa_cons hb pa_nil n2) n1) hsw h1) fun D σ H q => by
  obtain ⟨c, g, tv, tr, F, a, d, s, hn, t, k⟩ := q
  refine ⟨c, g, tv, tr, F, a, _, s, t, fun ds g1 w H1 F1 a1 t1 s1 n1 => ?_⟩
  refine ⟨w, v, rfl, k.nx _ _ H1 F1 a1 t1 ?_⟩
  exact Sta.set (r := .val z) ((s1.setOwn n1 i).push (r := .val z) (hv F1)) j
/-- x.append(e), x an own list -/
theorem s_app {i : Nat} {o : Expr} {apos cpos : Pos} {name : Str} (hv : PE X o (tVar i)) (he : PE X e (up X.K te))
    (hp : ∀ {t : TA} , PA X [e] t → PE X (.Call (.Attribute o "append" apos) [e] [] cpos) (tBM X.K "list" rAppend (tVar i) t)) (n1 : starEach [e] X.env = (false, eval e X.env) :: starEach [] X.env := by rfl)
    (h1 : swapsWith (.Call (.Attribute o "append" apos) [e] [] cpos) none pos.line X.env = pure false := by rfl) : PS X (.Expr (.Call (.Attribute o "append" apos) [e] [] cpos) pos) (upS X.K Wx (dApp i te)) := ps_to (ps_expr (hp (pa_cons he pa_nil n1)) h1) fun D σ H q => by
  obtain ⟨c, g, tv, tr, F, a, d, s, hn, ⟨⟨ds, hd⟩, t⟩, k⟩ := q
  obtain ⟨v, h1, o, xs, rfl, q2, q3, q4, q5, q6⟩ := s.slot i _ hd
  refine ⟨_, h1, .inl ⟨rfl, xs, .inl (.inl q4)⟩, c, g, tv, tr, F, a, _, s, t, fun r g1 w H1 F1 a1 t1 s1 => ?_⟩
  cases r with
  | val z =>
    simp only at t1
    split at t1
    · rename_i es he
      obtain ⟨v', h1', o', ys, rfl, p2, p3, p4, p5, p6⟩ := s1.slot i _ he
      rw [h1] at h1'
      cases h1'
      refine ⟨o, ys, w, rfl, rfl, p4, by rw [p5.len]; exact Nat.lt_of_lt_of_le t1.1 (by decide), k.nx _ _ _ F1 a1 t1.2 (s1.pop1.mut he h1 (p5.app (.cons s1.top .nil)))⟩
    · exact t1.elim
  | _ => exact t1.elim
theorem s_while {c : Expr} (hp : PassesOwn (model X.prog X.w) X.A X.env X.xe) (hc : PT X c (upT X.K ct)) (hb : PSs X body (upS X.K Wx t)) : PS X (.While c body [] pos) (upS X.K Wx (dWhile ct t)) := ps_to (ps_while hp hc hb) fun D σ H q => by
  obtain ⟨c, g, tv, tr, F, a, d, s, hn, ⟨W, ⟨m, hm⟩, hw⟩, k⟩ := q
  refine ⟨fun m σ H => ∃ g F a, Sta X.K c g σ H tv tr F a ∧ W m g, ⟨m, g, F, a, s, hm⟩, fun m σ H hW => ?_⟩
  obtain ⟨g, F, a, s, hm⟩ := hW
  refine ⟨c, g, tv, tr, F, a, _, s, hw m g hm, fun b g1 H1 F1 a1 t1 s1 => ?_⟩
  cases b with
  | true =>
    rw [if_pos rfl]
    refine ⟨fun σ H => ∃ m', m' < m ∧ ∃ g F a, Sta X.K c g σ H tv tr F a ∧ W m' g, fun σ' H' h => h, c, g1, tv, tr, F1, a1, _, s1, hn, t1.1 rfl, ⟨fun g2 σ2 H2 F2 a2 ⟨m', h1, h2⟩ s2 => ⟨m', h1, g2, F2, a2, s2, h2⟩, k.nx, fun g2 σ2 H2 F2 a2 ⟨m', h1, h2⟩ s2 => ⟨m', h1, g2, F2, a2, s2, h2⟩, k.rv, k.ro, k.rx⟩⟩
  | false =>
    rw [if_neg Bool.false_ne_true]
    exact k.nx g1 σ H1 F1 a1 (t1.2 rfl) s1
end
end Z
namespace Z
open L2 PySem PySem.Spec PyProof.Rows
open Evl (Ex ex_l ex_t ex_rd fresh_back)
variable {Wx : WX}
structure WalkD (K : Fg) (J : It) (ds : List Da) (wv : List V) (wr : List Rv) : Prop where
  goes : ∀ (i : Nat) (F H : Hp) (a : Addr) (fu : Option Nat), Ex F H → Tm K F a fu wv wr → i < ds.length → J.go i H
  stops : ∀ (F H : Hp) (a : Addr) (fu : Option Nat), Ex F H → Tm K F a fu wv wr → J.stop ds.length H
  yields : ∀ (i : Nat) (F H : Hp) (a : Addr) (fu : Option Nat) (x : V) (H' : Hp), Ex F H → Tm K F a fu wv wr → i < ds.length → J.yld i H x H' → ∃ F' d, ds[i]? = some d ∧ Gr F H F' H' ∧ Rp K F' x d
theorem WalkD.walk {K : Fg} {J : It} {ds : List Da} {wv : List V} {wr : List Rv} (w : WalkD K J ds wv wr) : Walk J ds.length (fun H => ∃ F a fu, Ex F H ∧ Tm K F a fu wv wr) J.yld :=
  ⟨fun i H hi ⟨F, a, fu, e, t⟩ => w.goes i F H a fu e t hi, fun H ⟨F, a, fu, e, t⟩ => w.stops F H a fu e t, fun i H x H' hi _ y => y⟩
abbrev DW := Gs → (List Da → Gs → Prop) → Prop
def upI (K : Fg) (tw : DW) : TI := fun σ H R => ∃ c g tv tr F a post, Sta K c g σ H tv tr F a ∧ tw g post ∧
  ∀ ds g' H' F' a' J wv wr, post ds g' → Sta K c g' σ H' (wv ++ tv) (wr ++ tr) F' a' → wv.length = wr.length → hasSrc wr = false → WalkD K J ds wv wr → R J H'
def forD (t : DG) (tb : DS) : List Da → DS
  | [], d, g => d.nx g
  | x :: xs, d, g => t (.val x) g fun g1 => tb { d with nx := forD t tb xs d, ct := forD t tb xs d, bk := d.nx } g1
def dFor (tw : DW) (t : DG) (tb : DS) : DS := fun d g => tw g fun ds g1 => forD t tb ds d g1
theorem drop_at {α : Type} {l : List α} {i : Nat} {x : α} (h : l[i]? = some x) : l.drop i = x :: l.drop (i + 1) := by
  obtain ⟨hi, e⟩ := List.getElem?_eq_some_iff.mp h
  rw [List.drop_eq_getElem_cons hi, e]
section
variable {X : Cx} {tg iter : Expr} {body : List Stmt} {tw : DW} {t : DG} {tb : DS} {pos : Pos}
theorem s_for (hp : PassesOwn (model X.prog X.w) X.A X.env X.xe) (hc : X.calm = true) (hi : PI X tg iter (upI X.K tw)) (hg : PG X tg (upG X.K t)) (hb : PSs X body (upS X.K Wx tb)) (hfs : ∀ x, foldedSetIterable iter X.env x = pure x := by intro _; rfl) :
    PS X (.For tg iter body [] pos) (upS X.K Wx (dFor tw t tb)) := ps_to (ps_for hp hc hi hg hb hfs) fun D σ H q => by
  obtain ⟨c, g, tv, tr, F, a, d, s, hn, q, k⟩ := q
  refine ⟨c, g, tv, tr, F, a, _, s, q, fun ds g' H' F' a' J wv wr hf s' hl hw wd => ?_⟩
  have w := wd.walk
  have sp : ∀ {g : Gs} {σ : L2.St} {H F : Hp} {a : Addr}, Sta X.K c g σ H (wv ++ tv) (wr ++ tr) F a → Tm X.K F a g.fu wv wr ∧ Tm X.K F a g.fu tv tr := fun s => Tm.split hl s.tmp
  refine for_it w (fun i σ H => ∃ g F a, Sta X.K c g σ H (wv ++ tv) (wr ++ tr) F a ∧ forD t tb (ds.drop i) d g) ⟨g', F', a', s', hf⟩ (fun i σ H hi p => ?_) (fun i x σ H H' hi p y => ?_) (fun σ H p => ?_)
  · obtain ⟨g, F, a, s, _⟩ := p
    exact ⟨F, a, g.fu, s.eh, (sp s).1⟩
  · obtain ⟨g, F, a, s, f⟩ := p
    obtain ⟨F2, dx, e1, gr, rx⟩ := wd.yields i F H a g.fu x H' s.eh (sp s).1 hi y
    rw [drop_at e1] at f
    refine ⟨c, g, wv ++ tv, wr ++ tr, F2, a, .val dx, _, (s.grow gr).push (r := .val dx) rx, f, fun g1 σ1 H1 F1 a1 t1 s1 => ?_⟩
    refine ⟨c, g1, wv ++ tv, wr ++ tr, F1, a1, _, s1, hasSrc_app hw hn, t1, ⟨fun g2 σ2 H2 F2 a2 h s2 => ⟨g2, F2, a2, s2, h⟩, fun g2 σ2 H2 F2 a2 h s2 => k.nx g2 σ2 H2 F2 a2 h (s2.pop (sp s2).2), fun g2 σ2 H2 F2 a2 h s2 => ⟨g2, F2, a2, s2, h⟩, fun x g2 σ2 v H2 F2 a2 h s2 => ?_, fun es g2 σ2 v H2 F2 a2 h s2 n2 => ?_, fun nm z g2 σ2 H2 F2 a2 cls dd h s2 ox => k.rx nm z g2 σ2 H2 F2 a2 cls dd h (s2.pop (sp s2).2) ox⟩⟩
    · exact k.rv x g2 σ2 v H2 F2 a2 h ((s2.pop1.pop (sp s2.pop1).2).push (r := .val x) s2.top)
    · exact k.ro es g2 σ2 v H2 F2 a2 h (s2.pop (sp s2).2) n2
  · obtain ⟨g, F, a, s, f⟩ := p
    rw [List.drop_length] at f
    exact k.nx g σ H F a f (s.pop (sp s).2)
end
theorem walkD_list {K : Fg} {p : Addr} {ds : List Da} : WalkD K (Itl K p) ds [.ref p] [.val (.list ds)] := by
  have get : ∀ {F H : Hp} {a : Addr} {fu : Option Nat}, Ex F H → Tm K F a fu [.ref p] [.val (.list ds)] → ∃ xs, SqL K H p xs ∧ Rps K F xs ds := fun {F H a fu} e t => by
    cases t with
    | cons h _ =>
      have h' : Rp K F (.ref p) (.list ds) := h
      cases h' with
      | lst sq m => exact ⟨_, .inl (.inl (e _ _ sq)), m⟩
  refine ⟨fun i F H a fu e t hi => ?_, fun F H a fu e t => ?_, fun i F H a fu x H' e t hi y => ?_⟩
  · obtain ⟨xs, sq, m⟩ := get e t
    obtain ⟨v, h1, _⟩ := m.get (List.getElem?_eq_getElem hi)
    exact ⟨xs, v, sq, h1⟩
  · obtain ⟨xs, sq, m⟩ := get e t
    exact ⟨xs, sq, Nat.le_of_eq m.len⟩
  · obtain ⟨xs, sq, m⟩ := get e t
    obtain ⟨v, h1, h2⟩ := m.get (List.getElem?_eq_getElem hi)
    obtain ⟨rfl, hx⟩ := y
    rw [hx xs sq] at h1
    cases h1
    exact ⟨F, _, List.getElem?_eq_getElem hi, Gr.refl e, h2⟩
theorem walkD_tup {K : Fg} {p : Addr} {ds : List Da} : WalkD K (Itt K p) ds [.ref p] [.val (.tuple ds)] := by
  have get : ∀ {F H : Hp} {a : Addr} {fu : Option Nat}, Ex F H → Tm K F a fu [.ref p] [.val (.tuple ds)] → ∃ xs, SqT K H p xs ∧ Rps K F xs ds := fun {F H a fu} e t => by
    cases t with
    | cons h _ =>
      have h' : Rp K F (.ref p) (.tuple ds) := h
      cases h' with
      | tup sq m => exact ⟨_, ex_t e sq, m⟩
  refine ⟨fun i F H a fu e t hi => ?_, fun F H a fu e t => ?_, fun i F H a fu x H' e t hi y => ?_⟩
  · obtain ⟨xs, sq, m⟩ := get e t
    obtain ⟨v, h1, _⟩ := m.get (List.getElem?_eq_getElem hi)
    exact ⟨xs, v, sq, h1⟩
  · obtain ⟨xs, sq, m⟩ := get e t
    exact ⟨xs, sq, Nat.le_of_eq m.len⟩
  · obtain ⟨xs, sq, m⟩ := get e t
    obtain ⟨v, h1, h2⟩ := m.get (List.getElem?_eq_getElem hi)
    obtain ⟨rfl, hx⟩ := y
    rw [hx xs sq] at h1
    cases h1
    exact ⟨F, _, List.getElem?_eq_getElem hi, Gr.refl e, h2⟩
theorem walkD_scr {K : Fg} {p : Addr} {ns : List Int} : WalkD K (Itl K p) (ns.map PyData.int) [.ref p] [.scr ns] := by
  have get : ∀ {F H : Hp} {a : Addr} {fu : Option Nat}, Ex F H → Tm K F a fu [.ref p] [.scr ns] → SqL K H p (ns.map V.int) := fun {F H a fu} e t => by
    cases t with
    | cons h _ =>
      obtain ⟨b, e1, sq⟩ := h
      cases e1
      exact ex_l e sq
  refine ⟨fun i F H a fu e t hi => ?_, fun F H a fu e t => ?_, fun i F H a fu x H' e t hi y => ?_⟩
  · rw [List.length_map] at hi
    exact ⟨_, _, get e t, by rw [List.getElem?_map, List.getElem?_eq_getElem hi]; rfl⟩
  · exact ⟨_, get e t, by rw [List.length_map, List.length_map]; exact Nat.le_refl _⟩
  · obtain ⟨rfl, hx⟩ := y
    rw [List.length_map] at hi
    have h1 := hx _ (get e t)
    rw [List.getElem?_map, List.getElem?_eq_getElem hi] at h1
    cases h1
    exact ⟨F, .int ns[i], by rw [List.getElem?_map, List.getElem?_eq_getElem hi]; rfl, Gr.refl e, .int _⟩
def dItems (te : DE) : DW := fun g Q => te g fun r g1 => match r with
  | .val (.list ds) => Q ds g1
  | .val (.tuple ds) => Q ds g1
  | .scr ns => Q (ns.map PyData.int) g1
  | _ => False
def rangeD (lo : Int) (n : Nat) : List Da := (List.range n).map fun i => .int (lo + (i : Nat))
def dRange1 (te : DE) : DW := fun g Q => te g fun r g1 => match r with
  | .val (.int j) => j < 2 ^ 62 ∧ -(2 ^ 62) ≤ j ∧ Q (rangeD 0 j.toNat) g1
  | _ => False
section
variable {X : Cx} {tg l b : Expr} {te ta tb : DE} {p pos : Pos}
/-- a list, a tuple, the script -/
theorem i_items (hl : PE X l (up X.K te)) : PI X tg l (upI X.K (dItems te)) := by
  refine ⟨fun pins st σ H R I q => ?_⟩
  obtain ⟨c, g, tv, tr, F, a, post, s, t, k⟩ := q
  refine thn (hl.run pins st σ H (fun v H1 => (∃ p xs, v = .ref p ∧ SqL X.K H1 p xs ∧ R (Itl X.K p) H1) ∨ ∃ p xs, v = .ref p ∧ SqT X.K H1 p xs ∧ R (Itt X.K p) H1) I ?_) fun u s1 ⟨x, H1, I1, r1, q1⟩ => ?_
  · refine ⟨c, g, tv, tr, F, a, _, s, t, fun r g1 v H1 F1 a1 t1 s1 => ?_⟩
    cases r with
    | val d =>
      cases d with
      | list ds =>
        have hr : Rp X.K F1 v (.list ds) := s1.top
        cases hr with
        | lst sq m => exact .inl ⟨_, _, rfl, .inl (.inl (s1.eh _ _ sq)), k ds g1 H1 F1 a1 _ [_] [.val (.list ds)] t1 s1 rfl rfl walkD_list⟩
      | tuple ds =>
        have hr : Rp X.K F1 v (.tuple ds) := s1.top
        cases hr with
        | tup sq m => exact .inr ⟨_, _, rfl, ex_t s1.eh sq, k ds g1 H1 F1 a1 _ [_] [.val (.tuple ds)] t1 s1 rfl rfl walkD_tup⟩
      | _ => exact t1.elim
    | scr ns =>
      obtain ⟨b, rfl, sq⟩ := s1.top
      exact .inl ⟨_, _, rfl, ex_l s1.eh sq, k _ g1 H1 F1 a1 _ [_] [.scr ns] t1 s1 rfl rfl walkD_scr⟩
    | src => exact t1.elim
    | ob _ => exact t1.elim
  · have fr := I1.hok.fresh (Nat.le_refl s1.heap.objs.size)
    have fp : ∀ b ∈ [s1.heap.objs.size], FpOk X pins H1 b := fun b hb => by
      cases List.mem_singleton.mp hb
      exact I1.fpOk (Nat.le_refl _) fr
    rcases q1 with ⟨p, xs, rfl, sq, q⟩ | ⟨p, xs, rfl, sq, q⟩
    · cases r1
      obtain ⟨its, rv, pl, hz⟩ := I1.list sq
      exact wpAny_pyIter_list pl.isList ⟨_, _, _, _, H1, rfl, I1.kept (t' := s1.toks) fun b o e => Heap.get?_push_of_some _ e, turn_list p _, ⟨_, Heap.get?_push_size _ rfl, rfl, rfl⟩, fp, q⟩
    · cases r1
      obtain ⟨its, rv, pl, hz⟩ := I1.tuple sq
      exact wpAny_pyIter_tuple (show s1.heap.IsTuple p its.toArray from pl) ⟨_, _, _, _, H1, rfl, I1.kept (t' := s1.toks) fun b o e => Heap.get?_push_of_some _ e, turn_tuple p _, ⟨_, Heap.get?_push_size _ rfl, rfl, rfl⟩, fp, q⟩
theorem pi_to {w w' : TI} (h : PI X tg l w) (i : ∀ σ H R, w' σ H R → w σ H R) : PI X tg l w' := ⟨fun pins s σ H R I q => h.run pins s σ H R I (i _ _ _ q)⟩
theorem rangeD_get {lo : Int} {n i : Nat} (h : i < n) : (rangeD lo n)[i]? = some (.int (lo + (i : Nat))) := by
  unfold rangeD
  rw [List.getElem?_map, List.getElem?_range h]
  rfl
theorem rangeD_len (lo : Int) (n : Nat) : (rangeD lo n).length = n := by
  unfold rangeD
  rw [List.length_map, List.length_range]
theorem walkD_range {K : Fg} {lo : Int} {n : Nat} : WalkD K (Itr lo n) (rangeD lo n) [] [] := by
  refine ⟨fun i F H a fu e t hi => ?_, fun F H a fu e t => ?_, fun i F H a fu x H' e t hi y => ?_⟩
  · rw [rangeD_len] at hi; exact hi
  · rw [rangeD_len]; exact Nat.le_refl n
  · rw [rangeD_len] at hi
    obtain ⟨rfl, rfl⟩ := y
    exact ⟨F, _, rangeD_get hi, Gr.refl e, .int _⟩
theorem i_range1 (hg : Gl X "range") (hm : X.mg "range" = none) (ha : PE X l (up X.K te)) (hs : starEach [l] X.env = [(false, eval l X.env)] := by rfl) : PI X tg (.Call (.Name "range" p) [l] [] pos) (upI X.K (dRange1 te)) :=
  pi_to (pi_range1 hg hm (pa_cons ha pa_nil hs) hs) fun σ H R q => by
  obtain ⟨c, g, tv, tr, F, a, post, s, t, k⟩ := q
  refine ⟨c, g, tv, tr, F, a, _, s, t, fun r g1 v H1 F1 a1 t1 s1 => ?_⟩
  cases r with
  | val d =>
    cases d with
    | int j =>
      have hr : Rp X.K F1 v (.int j) := s1.top
      cases hr
      exact ⟨j, rfl, t1.2.1, t1.1, k _ g1 H1 F1 a1 _ [] [] t1.2.2 s1.pop1 rfl rfl walkD_range⟩
    | _ => exact t1.elim
  | _ => exact t1.elim
end
end Z
namespace Z
open L2 PySem PySem.Spec PyProof.Rows
open Evl (Ex ex_l ex_t ex_rd fresh_back)
variable {Wx : WX}
def upGw (K : Fg) (vs : List Nat) (t : DG) : TG := fun v σ H Q => ∃ c g tv tr F a r post, Sta K c g σ H (v :: tv) (r :: tr) F a ∧ t r g post ∧
  ∀ g' σ' H' F' a', post g' → Sta K c g' σ' H' tv tr F' a' → wipe σ' vs = wipe σ vs → Q σ' H'
def upGsw (K : Fg) (vs : List Nat) (t : DGs) : TGs := fun us σ H Q => ∃ c g tv tr F a ds post, Sta K c g σ H (us ++ tv) (ds.map Rv.val ++ tr) F a ∧ us.length = ds.length ∧ t ds g post ∧
  ∀ g' σ' H' F' a', post g' → Sta K c g' σ' H' tv tr F' a' → wipe σ' vs = wipe σ vs → Q σ' H'
theorem wipe_get {σ : L2.St} : ∀ {vs : List Nat} {i : Nat}, i ∉ vs → (wipe σ vs)[i]? = σ[i]?
  | [], _, _ => rfl
  | v :: vs, i, h => by
    show ((wipe σ vs).set v none)[i]? = _
    rw [List.getElem?_set_ne (fun e => h (by rw [e]; exact List.mem_cons_self)), wipe_get fun z => h (List.mem_cons_of_mem _ z)]
theorem wipe_in {σ : L2.St} : ∀ {vs : List Nat} {i : Nat}, i ∈ vs → i < σ.length → (wipe σ vs)[i]? = some none
  | v :: vs, i, h, hl => by
    show ((wipe σ vs).set v none)[i]? = _
    by_cases e : v = i
    · subst e
      exact List.getElem?_set_self (by rw [wipe_length]; exact hl)
    · rw [List.getElem?_set_ne e]
      rcases List.mem_cons.mp h with z | z
      · exact absurd z.symm e
      · exact wipe_in z hl
theorem wipe_set {σ : L2.St} {vs : List Nat} {i : Nat} {x : Option V} (h : i ∈ vs) : wipe (σ.set i x) vs = wipe σ vs := by
  apply List.ext_getElem?
  intro j
  by_cases hj : j ∈ vs
  · by_cases hl : j < σ.length
    · rw [wipe_in hj (by rw [List.length_set]; exact hl), wipe_in hj hl]
    · rw [List.getElem?_eq_none (by rw [wipe_length, List.length_set]; omega), List.getElem?_eq_none (by rw [wipe_length]; omega)]
  · rw [wipe_get hj, wipe_get hj, List.getElem?_set_ne (fun e => hj (by rw [← e]; exact h))]
section
variable {X : Cx} {pos : Pos} {e : Expr} {es : List Expr} {vs : List Nat} {K : Fg}
theorem gw_name {i : Nat} (hk : K = X.K) (h : PG X e (gName i)) (hi : i ∈ vs) : PG X e (upGw K vs (dN i)) := pg_to h fun v σ H Q q => by
  subst hk
  obtain ⟨c, g, tv, tr, F, a, r, post, s, t, k⟩ := q
  exact k _ _ H F a t (s.set i) (wipe_set hi)
theorem gsw_nil : PGs X [] (upGsw K vs dTn) := pgs_to pgs_nil fun us σ H Q q => by
  obtain ⟨c, g, tv, tr, F, a, ds, post, s, hl, t, k⟩ := q
  cases ds with
  | nil =>
    have : us = [] := List.length_eq_zero_iff.mp hl
    subst this
    exact ⟨rfl, k _ _ H F a t s rfl⟩
  | cons d r => exact t.elim
theorem gsw_cons {t : DG} {u : DGs} (h : PG X e (upGw K vs t)) (hr : PGs X es (upGsw K vs u)) (hs : (assignEach (e :: es) X.env).map (·.2) = assign e X.env :: (assignEach es X.env).map (·.2) := by rfl) : PGs X (e :: es) (upGsw K vs (dTc t u)) := pgs_to (pgs_cons h hr hs) fun us σ H Q q => by
  obtain ⟨c, g, tv, tr, F, a, ds, post, s, hl, t, k⟩ := q
  cases ds with
  | nil => exact t.elim
  | cons d r =>
    cases us with
    | nil => simp at hl
    | cons v us =>
      refine ⟨v, us, rfl, c, g, _, _, F, a, _, _, s, t, fun g1 σ1 H1 F1 a1 t1 s1 w1 => ?_⟩
      exact ⟨c, g1, tv, tr, F1, a1, r, _, s1, by simpa using hl, t1, fun g2 σ2 H2 F2 a2 t2 s2 w2 => k g2 σ2 H2 F2 a2 t2 s2 (w2.trans w1)⟩
theorem gw_tup {n k : Nat} {t : DGs} (hk : K = X.K) (hc : X.calm = true) (h : PGs X es (upGsw K vs t)) (hn : (assignEach es X.env).length = n := by rfl) (hf : List.findIdx? (fun x => x.1) (assignEach es X.env) = none := by rfl) : PG X (.Tuple es k pos) (upGw K vs (dT n t)) :=
  pg_to (pg_tup hc h hn hf) fun v σ H Q q => by
  subst hk
  obtain ⟨c, g, tv, tr, F, a, r, post, s, t, k⟩ := q
  cases r with
  | val d =>
    cases d with
    | tuple ds =>
      have hr : Rp X.K F v (.tuple ds) := s.top
      cases hr with
      | tup sq m =>
        refine ⟨_, _, rfl, ex_t s.eh sq, by rw [m.len]; exact t.1, c, g, tv, tr, F, a, ds, post, s.pop ((Tm.ofRps m).app s.pop1.tmp), m.len, t.2, k⟩
    | _ => exact t.elim
  | _ => exact t.elim
end
def noOwn : Option Sv → Option Sv
  | some (.own _) => none
  | x => x
def wipeS (sl : List (Option Sv)) : List Nat → List (Option Sv)
  | [] => sl
  | v :: vs => (wipeS sl vs).set v none
def hide (vs : List Nat) (sl : List (Option Sv)) : List (Option Sv) := wipeS (sl.map noOwn) vs
theorem wipeS_len (sl : List (Option Sv)) : ∀ vs, (wipeS sl vs).length = sl.length
  | [] => rfl
  | v :: vs => by
    show ((wipeS sl vs).set v none).length = _
    rw [List.length_set, wipeS_len sl vs]
theorem wipeS_some {sl : List (Option Sv)} : ∀ {vs : List Nat} {i : Nat} {s : Sv}, (wipeS sl vs)[i]? = some (some s) → i ∉ vs ∧ sl[i]? = some (some s)
  | [], _, _, h => ⟨by simp, h⟩
  | v :: vs, i, s, h => by
    rcases set_some (show ((wipeS sl vs).set v none)[i]? = some (some s) from h) with ⟨_, _, e⟩ | ⟨ne, e⟩
    · cases e
    · obtain ⟨h1, h2⟩ := wipeS_some e
      exact ⟨by simp only [List.mem_cons, not_or]; exact ⟨ne, h1⟩, h2⟩
theorem hide_some {sl : List (Option Sv)} {vs : List Nat} {i : Nat} {s : Sv} (h : (hide vs sl)[i]? = some (some s)) : i ∉ vs ∧ sl[i]? = some (some s) ∧ ∀ ds, s ≠ .own ds := by
  obtain ⟨h1, h2⟩ := wipeS_some h
  rw [List.getElem?_map] at h2
  cases q : sl[i]? with
  | none => rw [q] at h2; cases h2
  | some x =>
    rw [q] at h2
    have h3 : noOwn x = some s := Option.some.inj h2
    refine ⟨h1, ?_, fun ds e => ?_⟩
    · cases x with
      | none => cases h3
      | some y => cases y <;> first | (cases h3; rfl) | cases h3
    · subst e
      cases x with
      | none => cases h3
      | some y => cases y <;> cases h3
def fuN (fu fu' : Option Nat) : Option Nat := match fu with
  | some _ => fu'
  | none => none
def lcD (sl : List (Option Sv)) (t : DG) (tt : DT) (te : DE) : List Da → List Da → Option Nat → (List Da → Option Nat → Prop) → Prop
  | [], acc, fu, Q => Q acc fu
  | x :: xs, acc, fu, Q => t (.val x) ⟨sl, fu, false⟩ fun g1 => tt g1 fun b g2 =>
    (b = true → te g2 fun r g3 => match r with
      | .val d => acc.length < 1000000 ∧ lcD sl t tt te xs (acc ++ [d]) (fuN fu g3.fu) Q
      | _ => False) ∧ (b = false → lcD sl t tt te xs acc (fuN fu g2.fu) Q)
def dYes : DT := fun g Q => Q true g
def dLc (vs : List Nat) (tw : DW) (t : DG) (tt : DT) (te : DE) : DL := fun g Q => tw g fun ds g1 => lcD (hide vs g1.sl) t tt te ds [] g1.fu fun acc fu' => Q acc { g1 with fu := fu' }
section
variable {K : Fg} {F1 H1 F H : Hp} {a D : Addr} {fu0 fu : Option Nat} {acc : List Da}
/-- behind a turn: from the nested entry back to the one ahead of the comprehension -/
theorem Out.turn (o : Out K F1 H1 a fu0 fu F H (.ref D) (.own acc)) {g : Gs} {σ : L2.St} {H4 F4 : Hp} {tv : List V} {tr : List Rv} {a4 : Addr} (hfu : fu0 = none → fu = none) (hD : fu0 ≠ none → D ≠ a) (s : Sta K ⟨F, H, if fu = none then none else some a⟩ g σ H4 tv tr F4 a4) :
    (fu0 ≠ none → a4 = a) ∧ F4 D = none ∧ (fu0 = none → fuN fu g.fu = none) ∧ (∃ xs, H4 D = some (.lst xs) ∧ Rps K F4 xs acc) ∧ Out K F1 H1 a fu0 (fuN fu g.fu) F4 H4 (.ref D) (.own acc) := by
  obtain ⟨o', xs, eD, d1, d2, d3, d4⟩ := o.rep
  cases eD
  have fne : fu0 ≠ none → fu ≠ none := fun hf => by
    obtain ⟨n, e, _⟩ := o.src hf
    exact ne_none e
  have ext1 : fu0 ≠ none → (if fu = none then none else some a : Option Addr) = some a := fun hf => if_neg (fne hf)
  have ext0 : ∀ b, (fu0 ≠ none → b ≠ a) → (if fu = none then none else some a : Option Addr) ≠ some b := fun b hb => by
    by_cases hf : fu = none
    · rw [if_pos hf]; exact fun z => nomatch z
    · rw [if_neg hf]
      intro z
      cases z
      exact hb (fun z => hf (hfu z)) rfl
  have a4e : fu0 ≠ none → a4 = a ∧ g.fu ≠ none := fun hf => s.ex a (ext1 hf)
  have hD4 : H4 D = some (.lst xs) := s.keep D _ (ext0 D hD) (fun _ z => by cases z) d3
  have hF4 : F4 D = none := by
    cases q : F4 D with
    | none => rfl
    | some u =>
      rcases s.new D (ne_none q) with z | z
      · exact absurd d2 z
      · have z' : H D = none := z
        rw [d3] at z'; cases z'
  have hn : fu0 = none → fuN fu g.fu = none := fun z => by
    rw [hfu z]; rfl
  refine ⟨fun hf => (a4e hf).1, hF4, hn, ⟨xs, hD4, d4.up s.e0⟩, ⟨o.f.trans s.e0, s.eh, fun b u hb hn e => s.keep b u (ext0 b hb) hn (o.keep b u hb hn e), fun b q => ?_, fun hf => ?_, ⟨D, xs, rfl, d1, hF4, hD4, d4.up s.e0⟩, o.tab.trans s.tab, s.t0⟩⟩
  · rcases s.new b q with z | z
    · exact o.new b z
    · have z' : H b = none := z
      refine .inr ?_
      cases e : H1 b with
      | none => rfl
      | some u =>
        by_cases hb : fu0 ≠ none → b ≠ a
        · cases u with
          | tbl ps =>
            obtain ⟨ps', w⟩ := o.tab b ps e
            rw [w] at z'; cases z'
          | _ => rw [o.keep b _ hb (fun _ z => by cases z) e] at z'; cases z'
        · have hb1 : fu0 ≠ none := fun w => hb fun w' => absurd w w'
          have hb2 : b = a := Classical.byContradiction fun w => hb fun _ => w
          obtain ⟨n, _, _, x, y, w, q', _⟩ := o.src hb1
          rw [hb2, q'] at z'; cases z'
  · obtain ⟨e1, e2⟩ := a4e hf
    subst e1
    cases q : g.fu with
    | none => exact absurd q e2
    | some n =>
      obtain ⟨h1, _, h3⟩ := s.src n q
      cases q2 : fu with
      | none => exact absurd q2 (fne hf)
      | some m => exact ⟨n, rfl, h1, h3⟩
/-- the list at D grows -/
theorem Out.grow (o : Out K F1 H1 a fu0 fu F H (.ref D) (.own acc)) (hD : fu0 ≠ none → D ≠ a) {xs : List V} {v : V} {d : Da} (hx : H D = some (.lst xs)) (m : Rps K F xs acc) (r : Rp K F v d) : Out K F1 H1 a fu0 fu F (upd H D (.lst (xs ++ [v]))) (.ref D) (.own (acc ++ [d])) := by
  obtain ⟨o', ys, eD, d1, d2, d3, d4⟩ := o.rep
  cases eD
  refine ⟨o.f, fun b u q => ?_, fun b u hb hn e => ?_, o.new, fun hf => ?_, ⟨D, _, rfl, d1, d2, upd_same, m.app (.cons r .nil)⟩, o.tab.trans (.but hx (fun _ z => by cases z) fun b u ne h => by rw [upd_ne ne]; exact h), o.tk.but hx (fun _ z => by cases z) fun b u ne h => by rw [upd_ne ne]; exact h⟩
  · have nb : b ≠ D := fun z => by rw [z, d2] at q; cases q
    rw [upd_ne nb]; exact o.s b u q
  · have nb : b ≠ D := fun z => by rw [z, d1] at e; cases e
    rw [upd_ne nb]; exact o.keep b u hb hn e
  · obtain ⟨n, h1, h2, x, y, w, q', h3⟩ := o.src hf
    exact ⟨n, h1, h2, x, y, w, by rw [upd_ne (fun z => hD hf z.symm)]; exact q', h3⟩
end
theorem lc_sta {K : Fg} {c : Con} {g1 : Gs} {σ : L2.St} {H1 F1 : Hp} {tv : List V} {tr : List Rv} {a : Addr} (s : Sta K c g1 σ H1 tv tr F1 a) (vs : List Nat) {fu : Option Nat} {F H : Hp} {D : Addr} {acc : List Da} (o : Out K F1 H1 a g1.fu fu F H (.ref D) (.own acc)) (hfu : g1.fu = none → fu = none) :
    Sta K ⟨F, H, if fu = none then none else some a⟩ ⟨hide vs g1.sl, fu, false⟩ (wipe σ vs) H tv tr F a := by
  have fne : g1.fu ≠ none → fu ≠ none := fun hf => by
    obtain ⟨n, e, _⟩ := o.src hf
    exact ne_none e
  have bne : fu ≠ none → g1.fu ≠ none := fun hf z => hf (hfu z)
  have tm : Tm K F a fu tv tr := by
    cases q : g1.fu with
    | none =>
      have t := s.tmp.up o.f
      rw [q] at t
      rw [hfu q]
      exact t
    | some n => exact (s.tmp.up o.f).refu (fne (ne_none q))
  refine ⟨Ex.refl F, o.s, fun b u _ _ e => e, fun b q => .inl q, fun b e => ?_, fun z => (by cases z), fun n e => ?_, tm, ?_, fun i sv h => ?_, fun i j ds es _ h => ?_, o.tk, .refl⟩
  · by_cases hf : fu = none
    · simp [hf] at e
    · simp [hf] at e
      exact ⟨e, hf⟩
  · have e' : fu = some n := e
    obtain ⟨n', h1, h2, h3⟩ := o.src (bne (ne_none e'))
    rw [e'] at h1
    cases h1
    exact ⟨h2, .inl (if_neg (ne_none e')), h3⟩
  · show (wipe σ vs).length = (hide vs g1.sl).length
    rw [wipe_length]
    unfold hide
    rw [wipeS_len, List.length_map]
    exact s.len
  · obtain ⟨h1, h2, h3⟩ := hide_some (show (hide vs g1.sl)[i]? = some (some sv) from h)
    obtain ⟨v, w1, w2⟩ := s.slot i sv h2
    refine ⟨v, by rw [wipe_get h1]; exact w1, ?_⟩
    cases sv with
    | val d => exact Rp.up w2 o.f
    | src => exact ⟨w2.1, fne w2.2⟩
    | scr ns => obtain ⟨b, z1, z2⟩ := w2; exact ⟨b, z1, ex_l o.f z2⟩
    | ob k => exact ObOk.up o.f w2
    | own ds => exact absurd rfl (h3 ds)
  · obtain ⟨_, _, h3⟩ := hide_some (show (hide vs g1.sl)[i]? = some (some (Sv.own ds)) from h)
    exact absurd rfl (h3 ds)
section
variable {K : Fg} {vs : List Nat} {tw : DW} {t : DG} {tt : DT} {te : DE}
theorem lc_main : ∀ σ H Q, upL K (dLc vs tw t tt te) σ H Q → tLc (upI K tw) (upGw K vs t) (upT K tt) (up K te) vs σ H Q := fun σ H Q q => by
  obtain ⟨c, g, tv, tr, F, a, post, s, q, k⟩ := q
  refine ⟨c, g, tv, tr, F, a, _, s, q, fun ds g1 H1 F1 a1 J wv wr hf s1 hl hw wd D hD => ?_⟩
  have sp : ∀ {g : Gs} {c : Con} {σ : L2.St} {H F : Hp} {a : Addr}, Sta K c g σ H (wv ++ tv) (wr ++ tr) F a → Tm K F a g.fu wv wr ∧ Tm K F a g.fu tv tr := fun s => Tm.split hl s.tmp
  have srcH : g1.fu ≠ none → ∃ n, g1.fu = some n ∧ F1 a1 = none ∧ SrcAt H1 a1 n := fun hf => by
    cases q : g1.fu with
    | none => exact absurd q hf
    | some n => exact ⟨n, rfl, (s1.src n q).1, (s1.src n q).2.2⟩
  have Da1 : g1.fu ≠ none → D ≠ a1 := fun hf e => by
    obtain ⟨n, _, _, x, y, z, q, _⟩ := srcH hf
    rw [← e, hD] at q; cases q
  have o0 : Out K F1 H1 a1 g1.fu g1.fu F1 (upd H1 D (.lst [])) (.ref D) (.own []) := by
    have eH : Ex H1 (upd H1 D (.lst [])) := Ex.new hD
    refine ⟨Ex.refl F1, s1.eh.trans eH, fun b u _ _ e => eH b u e, fun b q => .inl q, fun hf => ?_, ⟨D, [], rfl, hD, fresh_back s1.eh hD, upd_same, .nil⟩, .ex eH, s1.t0.up (Ex.refl _) (fun b ps h => eH b _ h) fun _ h => .inl h⟩
    obtain ⟨n, h1, h2, x, y, z, q, h3⟩ := srcH hf
    exact ⟨n, h1, h2, x, y, z, eH _ _ q, h3⟩
  refine lc_it wd.walk (fun i H => ∃ F fu acc, Out K F1 H1 a1 g1.fu fu F H (.ref D) (.own acc) ∧ (g1.fu = none → fu = none) ∧ lcD (hide vs g1.sl) t tt te (ds.drop i) acc fu fun acc fu' => post acc { g1 with fu := fu' }) ⟨F1, g1.fu, [], o0, id, hf⟩ (fun i H hi p => ?_) (fun i x H H' hi p y => ?_) (fun H p => ?_)
  · obtain ⟨F, fu, acc, o, hfu, _⟩ := p
    have s2 := lc_sta s1 vs o hfu
    exact ⟨F, a1, fu, s2.eh, (sp s2).1⟩
  · obtain ⟨F, fu, acc, o, hfu, f⟩ := p
    have s2 := lc_sta s1 vs o hfu
    obtain ⟨F2, dx, e1, gr, rx⟩ := wd.yields i F H a1 fu x H' s2.eh (sp s2).1 hi y
    rw [drop_at e1] at f
    refine ⟨_, _, wv ++ tv, wr ++ tr, F2, a1, .val dx, _, (s2.grow gr).push (r := .val dx) rx, f, fun g3 σ3 H3 F3 a3 t3 s3 w3 => ⟨?_, ?_⟩⟩
    · rw [w3]
      apply List.ext_getElem?
      intro j
      by_cases hj : j ∈ vs
      · by_cases hl : j < σ.length
        · rw [wipe_in hj (by rw [wipe_length]; exact hl), wipe_in hj hl]
        · rw [List.getElem?_eq_none (by rw [wipe_length, wipe_length]; omega), List.getElem?_eq_none (by rw [wipe_length]; omega)]
      · rw [wipe_get hj, wipe_get hj]
    · refine ⟨_, g3, _, _, F3, a3, _, s3, t3, fun b g4 H4 F4 a4 t4 s4 => ?_⟩
      cases b with
      | true =>
        rw [if_pos rfl]
        refine ⟨_, g4, _, _, F4, a4, _, s4, t4.1 rfl, fun r g5 v H5 F5 a5 t5 s5 => ?_⟩
        cases r with
        | val d =>
          obtain ⟨ae, fD, fn, ⟨xs, hx, m⟩, o5⟩ := o.turn hfu Da1 s5.pop1
          exact ⟨xs, hx, by rw [m.len]; exact Nat.lt_of_lt_of_le t5.1 (by decide), F5, _, _, o5.grow Da1 hx m s5.top, fn, t5.2⟩
        | _ => exact t5.elim
      | false =>
        rw [if_neg Bool.false_ne_true]
        obtain ⟨ae, fD, fn, ⟨xs, hx, m⟩, o5⟩ := o.turn hfu Da1 s4
        exact ⟨F4, _, _, o5, fn, t4.2 rfl⟩
  · obtain ⟨F, fu, acc, o, hfu, f⟩ := p
    rw [List.drop_length] at f
    have s1' := s1.pop (sp s1).2
    by_cases hf : g1.fu = none
    · have o' := o
      rw [hf] at o'
      have s3 := s1'.after0 o'
      have e : ({ g1 with fu := fu } : Gs) = g1 := by
        rw [hfu hf, ← hf]
      refine k acc _ _ H F a1 f ?_ ?_
      · rw [e]; exact s3
      · rw [e]; exact NewL.of s1' rfl id o.rep
    · exact k acc _ _ H F a1 f (s1'.after1 hf o) (NewL.of (g' := { g1 with fu := fu }) s1' rfl (fun _ => hf) o.rep)
end
section
variable {X : Cx} {elt tg iter : Expr} {ifs : List Expr} {scope : Scope} {own : List (Str × Nat)} {pos spos : Pos} {tw : DW} {t : DG} {tt : DT} {te : DE}
theorem ts_yes : PTs X [] (upT X.K dYes) := ⟨fun pins s σ H Q I q => by
  obtain ⟨c, g, tv, tr, F, a, post, st, t, k⟩ := q
  exact pts_nil.run pins s σ H Q I (k true g H F a t st)⟩
theorem e_lc (hc : X.calm = true) (hN : X.N.Nodup) (hi : PI X tg iter (upI X.K tw)) (hb : BlkOk X.N X.env.scope scope own)
    (hg : ∀ s H C cl fp, PG (X.blk s H scope (compEnvC scope cl C X.env) fp) tg (upGw X.K (own.map (·.2)) t)) (ht : ∀ s H C cl fp, PTs (X.blk s H scope (compEnvC scope cl C X.env) fp) ifs (upT X.K tt))
    (he : ∀ s H C cl fp, PE (X.blk s H scope (compEnvC scope cl C X.env) fp) elt (up X.K te)) (hfs : ∀ x, foldedSetIterable iter X.env x = pure x := by intro _; rfl) :
    PE X (.ListComp elt [{ target := tg, iter := iter, ifs := ifs, is_async := 0 }] scope pos) (upL X.K (dLc (own.map (·.2)) tw t tt te)) := pe_to (pe_lc hc hN hi hb hg ht he hfs) lc_main
end
end Z
namespace Z
open L2 PySem PySem.Spec PyProof.Rows
open Evl (Ex ex_l ex_t ex_rd fresh_back)
abbrev CF := List Rv → (Da → Prop) → Prop
def dCB (f : CF) (ta : DA) : DE := fun g Q => ta g fun rs g1 => f rs fun z => Q (.val z) g1
def CallOk (K : Fg) (r : List V → Hp → VK → Prop) (f : CF) : Prop := ∀ (F H : Hp) (a : Addr) (fu : Option Nat) (vs : List V) (rs : List Rv) (post : Da → Prop) (Q : VK), Ex F H → Tm K F a fu vs rs → f rs post →
  (∀ z v H' F', post z → Gr F H F' H' → Rp K F' v z → Q v H') → r vs H Q
section
variable {X : Cx} {x : Str} {p pos : Pos} {e : Expr} {es : List Expr} {tr : DA} {id T : String} {r : List V → Hp → VK → Prop} {f : CF}
theorem cb_core (hf : CallOk X.K r f) : ∀ σ H Q, up X.K (dCB f tr) σ H Q → tCB r (upA X.K tr) σ H Q := fun σ H Q q => by
  obtain ⟨c, g, tv, tr, F, ad, post, s, t, k⟩ := q
  refine ⟨c, g, tv, tr, F, ad, _, s, t, fun rs g1 vs H1 F1 a1 t1 s1 hl => ?_⟩
  obtain ⟨m1, m2⟩ := s1.tmp.args hl
  exact hf F1 H1 a1 g1.fu vs rs _ _ s1.eh m1 t1 fun z v H' F' hz gr rz => k _ g1 v H' F' a1 hz (((s1.pop m2).grow gr).push (r := .val z) rz)
theorem e_callB (hc : CallR X (.builtin id) r) (hf : CallOk X.K r f) (hg : Gl X x) (hm : X.mg x = none) (hv : bootBuiltins x = some (.builtin id)) (ha : PA X (e :: es) (upA X.K tr)) (hn : x ≠ "__name__" := by decide) (hdb : (x == ("__debug__" : Str)) = false := by decide)
    (he : starEach (e :: es) X.env = (false, eval e X.env) :: starEach es X.env := by rfl) (hpl : (backTo pos (starEach es X.env)).any (·.1) = false := by rfl) : PE X (.Call (.Name x p) (e :: es) [] pos) (up X.K (dCB f tr)) :=
  pe_to (pe_callB hc hg hm hv ha hn hdb he hpl) (cb_core hf)
theorem e_callTy (hc : CallR X (.type T) r) (hf : CallOk X.K r f) (hg : Gl X x) (hm : X.mg x = none) (hv : bootBuiltins x = some (.type T)) (ha : PA X (e :: es) (upA X.K tr)) (hn : x ≠ "__name__" := by decide) (hdb : (x == ("__debug__" : Str)) = false := by decide)
    (he : starEach (e :: es) X.env = (false, eval e X.env) :: starEach es X.env := by rfl) (hpl : (backTo pos (starEach es X.env)).any (·.1) = false := by rfl) : PE X (.Call (.Name x p) (e :: es) [] pos) (up X.K (dCB f tr)) :=
  pe_to (pe_callTy hc hg hm hv ha hn hdb he hpl) (cb_core hf)
end
section
variable {K : Fg}
theorem Tm.i1 {F : Hp} {a : Addr} {fu : Option Nat} {vs : List V} {i : Int} (h : Tm K F a fu vs [.val (.int i)]) : vs = [.int i] := by
  cases h with
  | cons h t =>
    cases t
    have h' : Rp K F _ (.int i) := h
    cases h'
    rfl
theorem Tm.i2 {F : Hp} {a : Addr} {fu : Option Nat} {vs : List V} {i j : Int} (h : Tm K F a fu vs [.val (.int i), .val (.int j)]) : vs = [.int i, .int j] := by
  cases h with
  | cons h t =>
    cases t.i1
    have h' : Rp K F _ (.int i) := h
    cases h'
    rfl
theorem Tm.v1 {F : Hp} {a : Addr} {fu : Option Nat} {vs : List V} {d : Da} (h : Tm K F a fu vs [.val d]) : ∃ v, vs = [v] ∧ Rp K F v d := by
  cases h with
  | cons h t =>
    cases t
    exact ⟨_, rfl, h⟩
def cInt1 (o : Int → Int) : CF := fun rs post => match rs with
  | [.val (.int i)] => post (.int (o i))
  | _ => False
def cInt2 (o : Int → Int → Int) : CF := fun rs post => match rs with
  | [.val (.int i), .val (.int j)] => post (.int (o i j))
  | _ => False
theorem ok_int1 {o : Int → Int} : CallOk K (fun xs H Q => ∃ i, xs = [V.int i] ∧ Q (.int (o i)) H) (cInt1 o) := fun F H a fu vs rs post Q e t hf k => by
  unfold cInt1 at hf
  split at hf
  · exact ⟨_, t.i1, k _ _ H F hf (Gr.refl e) (.int _)⟩
  · exact hf.elim
theorem ok_int2 {o : Int → Int → Int} : CallOk K (fun xs H Q => ∃ i j, xs = [V.int i, V.int j] ∧ Q (.int (o i j)) H) (cInt2 o) := fun F H a fu vs rs post Q e t hf k => by
  unfold cInt2 at hf
  split at hf
  · exact ⟨_, _, t.i2, k _ _ H F hf (Gr.refl e) (.int _)⟩
  · exact hf.elim
/-- len -/
def cLen : CF := fun rs post => match rs with
  | [.val (.list ds)] => post (.int ds.length)
  | [.val (.tuple ds)] => post (.int ds.length)
  | [.val (.str x)] => x.length ≤ sizeLine ∧ post (.int x.length)
  | [.scr ns] => post (.int ns.length)
  | _ => False
theorem ok_len : CallOk K (fun xs H Q => ∃ x n, xs = [x] ∧ LenV K x H n ∧ Q (.int n) H) cLen := fun F H a fu vs rs post Q e t hf k => by
  unfold cLen at hf
  split at hf
  · rename_i ds
    obtain ⟨v, rfl, r⟩ := t.v1
    cases r with
    | lst sq m => exact ⟨_, _, rfl, .inl ⟨_, .inl (.inl (e _ _ sq)), m.len.symm⟩, k _ _ H F hf (Gr.refl e) (.int _)⟩
  · rename_i ds
    obtain ⟨v, rfl, r⟩ := t.v1
    cases r with
    | tup sq m => exact ⟨_, _, rfl, .inr ⟨_, ex_t e sq, m.len.symm⟩, k _ _ H F hf (Gr.refl e) (.int _)⟩
  · rename_i x
    obtain ⟨v, rfl, r⟩ := t.v1
    cases r
    exact ⟨_, _, rfl, ⟨hf.1, rfl⟩, k _ _ H F hf.2 (Gr.refl e) (.int _)⟩
  · rename_i ns
    cases t with
    | cons h t =>
      cases t
      obtain ⟨b, rfl, sq⟩ := h
      exact ⟨_, _, rfl, .inl ⟨_, ex_l e sq, (List.length_map ..).symm⟩, k _ _ H F hf (Gr.refl e) (.int _)⟩
  · exact hf.elim
/-- all of a list of bools -/
def boolsD : List Da → Option (List Bool)
  | [] => some []
  | .bool b :: r => (boolsD r).map (b :: ·)
  | _ :: _ => none
theorem bools_v {F : Hp} : ∀ {vs : List V} {ds : List Da} {bs : List Bool}, Rps K F vs ds → boolsD ds = some bs → vs = bs.map V.bl
  | _, _, _, .nil, h => by cases h; rfl
  | _, d :: ds, bs, .cons r t, h => by
    cases d with
    | bool b =>
      unfold boolsD at h
      cases q : boolsD ds with
      | none => rw [q] at h; cases h
      | some cs =>
        rw [q] at h
        cases h
        cases r
        rw [bools_v t q]
        rfl
    | _ => cases h
def cAll : CF := fun rs post => match rs with
  | [.val (.list ds)] => (match boolsD ds with | some bs => post (.bool (bs.all id)) | none => False)
  | _ => False
theorem ok_all : CallOk K (rAll K) cAll := fun F H a fu vs rs post Q e t hf k => by
  unfold cAll at hf
  split at hf
  · rename_i ds
    split at hf
    · rename_i bs q
      obtain ⟨v, rfl, r⟩ := t.v1
      cases r with
      | lst sq m =>
        rw [bools_v m q] at sq
        exact ⟨_, bs, rfl, .inl (.inl (e _ _ sq)), k _ _ H F hf (Gr.refl e) (.bl _)⟩
    · exact hf.elim
  · exact hf.elim
/-- tuple(..) -/
def cTuple : CF := fun rs post => match rs with
  | [.val (.list ds)] => post (.tuple ds)
  | [.val (.tuple ds)] => post (.tuple ds)
  | _ => False
theorem ok_tuple : CallOk K (fun xs H Q => ∃ p ys, xs = [V.ref p] ∧ ((SqL K H p ys ∧ ∀ l, H l = none → Q (.ref l) (upd H l (.tup ys))) ∨ (SqT K H p ys ∧ Q (.ref p) H))) cTuple := fun F H a fu vs rs post Q e t hf k => by
  unfold cTuple at hf
  split at hf
  · rename_i ds
    obtain ⟨v, rfl, r⟩ := t.v1
    cases r with
    | lst sq m =>
      rename_i pp xs
      refine ⟨_, _, rfl, .inl ⟨.inl (.inl (e _ _ sq)), fun l hl => ?_⟩⟩
      have gr := Gr.new (o := .tup xs) e hl
      exact k _ _ _ _ hf gr (.tup (.inl (.inl upd_same)) (m.up gr.f))
  · rename_i ds
    obtain ⟨v, rfl, r⟩ := t.v1
    cases r with
    | tup sq m => exact ⟨_, _, rfl, .inr ⟨ex_t e sq, k _ _ H F hf (Gr.refl e) (.tup sq m)⟩⟩
  · exact hf.elim
end
def tyD : Da → String
  | .none => "NoneType"
  | .bool _ => "bool"
  | .int _ => "int"
  | .str _ => "str"
  | .list _ => "list"
  | .tuple _ => "tuple"
  | .dict _ => "dict"
theorem ty_v {K : Fg} {F H : Hp} {v : V} {d : Da} (e : Ex F H) (r : Rp K F v d) : TyX K H v (.type (tyD d)) := by
  cases r with
  | non => exact .base .non
  | bl b => exact .base (.bl b)
  | int i => exact .base (.int i)
  | str x => exact .base (.str x)
  | lst sq m => exact .base (.lst (e _ _ sq))
  | tup sq m =>
    rcases sq with (h | ⟨o, h⟩) | ⟨o, its, n, h1, h2, _⟩
    · exact .base (.tup (e _ _ h))
    · exact .fTuple (e _ _ h)
    · exact .kTuple h1 h2
  | dct h _ =>
    rcases h with h | ⟨o, h⟩
    · exact .base (.dK (e _ _ h))
    · exact .fDict (e _ _ h)
def isTy (T : String) (d : Da) : Bool := match d with
  | .none => T == "NoneType"
  | .bool _ => T == "bool" || T == "int"
  | .int _ => T == "int"
  | .str _ => T == "str"
  | .list _ => T == "list"
  | .tuple _ => T == "tuple"
  | .dict _ => T == "dict"
def dIsi (T : String) (ta : DE) : DE := fun g Q => ta g fun r g1 => match r with
  | .val d => Q (.val (.bool (isTy T d))) g1
  | _ => False
section
variable {X : Cx} {x : Str} {p pos : Pos} {e c : Expr} {te : DE} {T : String}
theorem e_isi (hT : ∀ d : Da, kitB (tyD d) T = some (isTy T d)) (hg : Gl X "isinstance") (hm : X.mg "isinstance" = none) (he : PE X e (up X.K te)) (hc : PE X c (tC (.ty T)))
    (h1 : starEach [e, c] X.env = (false, eval e X.env) :: starEach [c] X.env := by rfl) (h2 : starEach [c] X.env = (false, eval c X.env) :: starEach [] X.env := by rfl) (hpl : (backTo pos (starEach [c] X.env)).any (·.1) = false := by rfl) :
    PE X (.Call (.Name "isinstance" p) [e, c] [] pos) (up X.K (dIsi T te)) := pe_to (pe_callB call_isi hg hm (by decide +kernel) (pa_cons he (pa_cons hc pa_nil h2) h1) (by decide) (by decide) h1 hpl) fun σ H Q q => by
  obtain ⟨c, g, tv, tr, F, ad, post, s, t, k⟩ := q
  refine ⟨c, g, tv, tr, F, ad, _, s, t, fun r g1 v H1 F1 a1 t1 s1 => ?_⟩
  cases r with
  | val d => exact ⟨_, _, _, _, isTy T d, rfl, .ty T, ty_v s1.eh s1.top, kit_ty (hT d), k _ g1 _ H1 F1 a1 t1 (s1.pop1.push (r := .val (.bool _)) (Rp.bl _))⟩
  | _ => exact t1.elim
end
theorem kit_int : ∀ d : Da, kitB (tyD d) "int" = some (isTy "int" d)
  | .none => (by decide +kernel : kitB "NoneType" "int" = some false)
  | .bool _ => (by decide +kernel : kitB "bool" "int" = some true)
  | .int _ => (by decide +kernel : kitB "int" "int" = some true)
  | .str _ => (by decide +kernel : kitB "str" "int" = some false)
  | .list _ => (by decide +kernel : kitB "list" "int" = some false)
  | .tuple _ => (by decide +kernel : kitB "tuple" "int" = some false)
  | .dict _ => (by decide +kernel : kitB "dict" "int" = some false)
theorem kit_bool : ∀ d : Da, kitB (tyD d) "bool" = some (isTy "bool" d)
  | .none => (by decide +kernel : kitB "NoneType" "bool" = some false)
  | .bool _ => (by decide +kernel : kitB "bool" "bool" = some true)
  | .int _ => (by decide +kernel : kitB "int" "bool" = some false)
  | .str _ => (by decide +kernel : kitB "str" "bool" = some false)
  | .list _ => (by decide +kernel : kitB "list" "bool" = some false)
  | .tuple _ => (by decide +kernel : kitB "tuple" "bool" = some false)
  | .dict _ => (by decide +kernel : kitB "dict" "bool" = some false)
theorem kit_str : ∀ d : Da, kitB (tyD d) "str" = some (isTy "str" d)
  | .none => (by decide +kernel : kitB "NoneType" "str" = some false)
  | .bool _ => (by decide +kernel : kitB "bool" "str" = some false)
  | .int _ => (by decide +kernel : kitB "int" "str" = some false)
  | .str _ => (by decide +kernel : kitB "str" "str" = some true)
  | .list _ => (by decide +kernel : kitB "list" "str" = some false)
  | .tuple _ => (by decide +kernel : kitB "tuple" "str" = some false)
  | .dict _ => (by decide +kernel : kitB "dict" "str" = some false)
theorem kit_tuple : ∀ d : Da, kitB (tyD d) "tuple" = some (isTy "tuple" d)
  | .none => (by decide +kernel : kitB "NoneType" "tuple" = some false)
  | .bool _ => (by decide +kernel : kitB "bool" "tuple" = some false)
  | .int _ => (by decide +kernel : kitB "int" "tuple" = some false)
  | .str _ => (by decide +kernel : kitB "str" "tuple" = some false)
  | .list _ => (by decide +kernel : kitB "list" "tuple" = some false)
  | .tuple _ => (by decide +kernel : kitB "tuple" "tuple" = some true)
  | .dict _ => (by decide +kernel : kitB "dict" "tuple" = some false)
def dBits (te : DE) : DE := fun g Q => te g fun r g1 => match r with
  | .val (.int i) => Q (.val (.int (Builtin.Int.intBits i : Nat))) g1
  | _ => False
section
variable {X : Cx} {o : Expr} {te : DE} {apos pos : Pos}
theorem e_bits (ho : PE X o (up X.K te)) (hb : attributeBase o "bit_length" X.env (eval o X.env) = eval o X.env := by rfl) (hl : (apos.endLine == pos.line) = true := by rfl) : PE X (.Call (.Attribute o "bit_length" apos) [] [] pos) (up X.K (dBits te)) :=
  pe_to (pe_bits ho hb hl) fun σ H Q q => by
  obtain ⟨c, g, tv, tr, F, ad, post, s, t, k⟩ := q
  refine ⟨c, g, tv, tr, F, ad, _, s, t, fun r g1 v H1 F1 a1 t1 s1 => ?_⟩
  cases r with
  | val d =>
    cases d with
    | int i =>
      have hr : Rp X.K F1 v (.int i) := s1.top
      cases hr
      exact ⟨i, rfl, k _ g1 _ H1 F1 a1 t1 (s1.pop1.push (r := .val (.int _)) (Rp.int _))⟩
    | _ => exact t1.elim
  | _ => exact t1.elim
end
def svOf : Rv → Option Sv := fun r => some (rsv r)
section
variable {P : Program} {w : World} {K : Fg} {mg : Str → Option Value} {base : Heap} {CX : CXT}
def ent (N : List Str) (rs : List Rv) (fu : Option Nat) : Gs := ⟨rs.map svOf ++ List.replicate (N.length - rs.length) none, fu, fu.isNone⟩
theorem Tm.len : ∀ {F : Hp} {a : Addr} {fu : Option Nat} {vs : List V} {rs : List Rv}, Tm K F a fu vs rs → vs.length = rs.length
  | _, _, _, _, _, .nil => rfl
  | _, _, _, _, _, .cons _ t => congrArg (· + 1) t.len
theorem Tm.get : ∀ {F : Hp} {a : Addr} {fu : Option Nat} {vs : List V} {rs : List Rv} {i : Nat} {r : Rv}, Tm K F a fu vs rs → rs[i]? = some r → ∃ v, vs[i]? = some v ∧ RvOk K F a fu v r
  | _, _, _, _, _, _, _, .nil, e => by simp at e
  | _, _, _, _, _, 0, _, .cons r _, e => by simp at e; subst e; exact ⟨_, rfl, r⟩
  | _, _, _, _, _, i + 1, r, .cons _ t, e => by
    obtain ⟨u, h1, h2⟩ := Tm.get (i := i) (r := r) t (by simpa using e)
    exact ⟨u, by simpa using h1, h2⟩
theorem sta_ent {N : List Str} {F H : Hp} {a : Addr} {fu : Option Nat} {vs : List V} {rs : List Rv} (e : Ex F H) (t : Tm K F a fu vs rs) (hs : ∀ n, fu = some n → F a = none ∧ SrcAt H a n) (tk : TabK K F H) :
    Sta K ⟨F, H, if fu = none then none else some a⟩ (ent N rs fu) (L2.start N vs) H [] [] F a := by
  have atS : ∀ (i : Nat) s, (ent N rs fu).sl[i]? = some (some s) → ∃ r, rs[i]? = some r ∧ s = rsv r := fun i s h => by
    have h' : (rs.map svOf ++ List.replicate (N.length - rs.length) none)[i]? = some (some s) := h
    by_cases hi : i < rs.length
    · rw [List.getElem?_append_left (by simpa using hi), List.getElem?_map, List.getElem?_eq_getElem hi] at h'
      cases h'
      exact ⟨_, List.getElem?_eq_getElem hi, rfl⟩
    · rw [List.getElem?_append_right (by simpa using hi), List.getElem?_replicate] at h'
      split at h' <;> cases h'
  have noO : ∀ (i : Nat) ds, (ent N rs fu).sl[i]? = some (some (.own ds)) → False := fun i ds h => by
    obtain ⟨r, _, e⟩ := atS i _ h
    cases r <;> cases e
  refine ⟨Ex.refl F, e, fun b o _ _ h => h, fun b h => .inl h, fun b h => ?_, fun h => ?_, fun n h => ?_, .nil, ?_, fun i s h => ?_, fun i j ds es _ h => (noO i ds h).elim, tk, .refl⟩
  · by_cases hf : fu = none
    · simp [hf] at h
    · simp [hf] at h
      exact ⟨h, hf⟩
  · have h' : fu = none := Option.isNone_iff_eq_none.mp h
    exact if_pos h'
  · have h' : fu = some n := h
    exact ⟨(hs n h').1, .inl (if_neg (ne_none h')), (hs n h').2⟩
  · unfold L2.start ent
    rw [List.length_append, List.length_append, List.length_map, List.length_map, t.len, List.length_replicate, List.length_replicate]
  · obtain ⟨r, h1, rfl⟩ := atS i s h
    obtain ⟨v, h2, h3⟩ := t.get h1
    have hi : i < vs.length := (List.getElem?_eq_some_iff.mp h2).1
    refine ⟨v, ?_, ?_⟩
    · unfold L2.start
      rw [List.getElem?_append_left (by simpa using hi), List.getElem?_map, h2]
      rfl
    · cases r <;> exact h3
/-- any wish: no rule of the body asks for one -/
def W0 : WX := fun _ _ _ _ => True
theorem fn_data {x qual : Str} {st : Stmt} {f : Addr} {fd : FuncData} {N ps : List Str} {k : Nat} {fs : FSp} (Fu : Fun K x qual st f fd) (S : FnScope N ps (defScope st)) (tb : DS)
    (hd : ∀ (cdv : Value) (A : Around) (outer : List Env) (s : Shared) (H : Hp) (E : XK), Room k (A.deeper (envOfC qual (defScope st) s.heap.objs.size f cdv)) → (A.deeper (envOfC qual (defScope st) s.heap.objs.size f cdv)).guards = some [] →
      PSs (cxOf CX P w K mg base N qual (defScope st) f cdv A outer s H E).nox (defBody st) (upS K W0 tb))
    (hb : ∀ rs fu post, rs.length = ps.length → fs rs fu post → tb ⟨fun g => post (.val .none) g.fu, fun r g => post r g.fu, fun _ => False, fun _ => False⟩ (ent N rs fu)) : Fn P w K mg base CX (k + 1) f fd ps (lift K ps.length fs) := by
  refine fn_by Fu S lift_len fun cdv A outer s H vs Q E hr hg h => ⟨_, (hd cdv A outer s H E hr hg).nox, ?_⟩
  obtain ⟨F, a, rs, fu, post, e, t, hl, hs, tk, hf, hq⟩ := h
  have st0 := sta_ent (N := N) e t hs tk
  have fin : ∀ {g : Gs} {σ : L2.St} {H' F' : Hp} {tv : List V} {tr : List Rv} {a' : Addr} {v : V} {r : Rr}, Sta K ⟨F, H, if fu = none then none else some a⟩ g σ H' tv tr F' a' → RrOk K F' H H' v r → Out K F H a fu g.fu F' H' v r := fun {g σ H' F' tv tr a' v r} s hr => by
    refine ⟨s.e0, s.eh, fun b o hb hn h => s.keep b o (fun z => ?_) hn h, s.new, fun hf => ?_, hr, s.tab, s.t0⟩
    · by_cases hf : fu = none
      · simp [hf] at z
      · simp [hf] at z
        exact hb hf z.symm
    · obtain ⟨e1, e2⟩ := s.ex a (if_neg hf)
      subst e1
      cases q : g.fu with
      | none => exact absurd q e2
      | some n => exact ⟨n, rfl, (s.src n q).1, (s.src n q).2.2⟩
  refine ⟨_, _, [], [], F, a, _, st0, rfl, hb rs fu post (by rw [← t.len]; exact hl) hf, ⟨fun g σ H' F' a' h s => ?_, fun g σ H' F' a' h s => h, fun g σ H' F' a' h s => h, fun x g σ v H' F' a' h s => ?_, fun ds g σ v H' F' a' h s n => ?_, fun nm z g σ H' F' a' cls dd h s ox => ?_⟩⟩
  · exact hq _ _ _ H' F' h (fin s (r := .val .none) Rp.non)
  · exact hq _ _ _ H' F' h (fin s (r := .val x) s.top)
  · obtain ⟨o, xs, q1, q2, q3, q4, q5, _⟩ := n.ex
    exact hq _ _ _ H' F' h (fin s (r := .own ds) ⟨o, xs, q1, q3, q2, q4, q5⟩)
  · exact True.intro
end
end Z
namespace Z
open L2 PySem PySem.Spec PyProof.Rows
open Evl (Ex ex_l ex_t ex_rd fresh_back)
/-- the table of the def that makes lambdas -/
def tabA (K : Fg) : List Addr := LAM.filterMap fun x => (PySem.W.tabIn K x).map Prod.snd
theorem tabA_of {K : Fg} {x : Str} {c P : Addr} (h1 : x ∈ LAM) (h2 : PySem.W.tabIn K x = some (c, P)) : P ∈ tabA K :=
  List.mem_filterMap.mpr ⟨x, h1, by rw [h2]; rfl⟩
theorem of_tabA {K : Fg} {P : Addr} (h : P ∈ tabA K) : ∃ x c, x ∈ LAM ∧ PySem.W.tabIn K x = some (c, P) := by
  obtain ⟨x, h1, h2⟩ := List.mem_filterMap.mp h
  cases r : PySem.W.tabIn K x with
  | none => rw [r] at h2; cases h2
  | some cp =>
    rw [r] at h2
    obtain ⟨c, P'⟩ := cp
    cases h2
    exact ⟨x, c, h1, r⟩
/-- what the making of lambdas asks of the base -/
def TbB (K : Fg) (mg : Str → Option Value) (base : Heap) : Prop := ∀ x c P, x ∈ LAM → PySem.W.tabIn K x = some (c, P) → LamX.TabB base mg c P
/-- what the end asks of the table -/
structure TbE (K : Fg) (mg : Str → Option Value) (h : Heap) : Prop where
  at' : ∀ x c P, x ∈ LAM → PySem.W.tabIn K x = some (c, P) → PySem.W.CodeHd h c P ∧ h.get? P = some (PySem.W.tabObj #[])
  no : ∀ x c P, x ∈ LAM → PySem.W.tabIn K x = some (c, P) → K.lookup P = none
  bm : ∃ (bm : Addr) (ob : Obj), mg "__builtins__" = some (.ref bm) ∧ bm ≠ builtinsNs ∧ h.get? bm = some ob ∧ ob.cls = .type "module" ∧ ob.dict = some builtinsNs ∧ ob.data = .plain
section
variable {P : Program} {w : World} {K : Fg} {mg mb : Str → Option Value} {k : Nat} {fa a : Addr} {fd : FuncData} {x : Str} {s₁ : Shared} {vs : List Value} {ns : List Int} {fs : FSp}
theorem end_at {F H : Hp} (KX : K.In s₁.heap) (hns : s₁.heap.Ns mainGlobals mg) (hb : s₁.heap.Ns builtinsNs mb) (hbb : ∀ x : Str, x ≠ "__name__" → mb x = bootBuiltins x) (hlim : s₁.heap.NoLimit) (hg : s₁.gens = #[])
    (ha : s₁.heap.get? a = some { cls := .type "list", data := .seq vs.toArray }) (hr : Room k callerA) (T : TbE K mg s₁.heap)
    (Fu : ∀ base : Heap, K.In base → base.Ns mainGlobals mg → TbB K mg base → Fn P w K mg base CX0 k fa fd [x] (lift K 1 fs)) (hbind : ∀ (s : Shared) (u : Value), BindsTo s fd ⟨[u], []⟩ [(x, u)])
    (hsp : fs [.scr ns] none fun r _ => r = .val (.bool true)) (hO : ∀ b, H b = none ∨ (b ∈ tabA K ∧ H b = some (.tbl #[])) ∨ ∃ ob xs, H b = some (.frz ob (.lst xs))) (hFH : Ex F H) (hFn : ∀ b, b ∈ tabA K → F b = none) (hH : ∀ b, b ∈ tabA K → H b = some (.tbl #[]))
    (hS : SqL K F a (ns.map V.int)) (hok : HOk P w H s₁.heap) (hA : ∀ b, H b ≠ none → b = a ∨ b ∈ tabA K) (hK : a ∉ tabA K → H a ≠ none → K.lookup a = none) :
    codeAny (model P w) callerA (.call (.ref fa) ⟨[.ref a], []⟩) (fun r s' => r = .ok (.ret (.bool true)) ∧ OldK s₁.heap s'.heap ∧ s'.os = s₁.os ∧ AllBare s'.gens) s₁ := by
  have tabAt : ∀ b, b ∈ tabA K → ∃ c, PySem.W.CodeHd s₁.heap c b ∧ s₁.heap.get? b = some (PySem.W.tabObj #[]) := fun b h => by
    obtain ⟨x, c, h1, h2⟩ := of_tabA h
    exact ⟨c, T.at' x c b h1 h2⟩
  have hide : ∀ {b : Addr} {o : Obj}, s₁.heap.get? b = some o → o.cls ≠ .none → (∀ vs n, o.data ≠ .seq vs n) → H b = none := fun {b o} e n1 n2 => by
    cases q : H b with
    | none => rfl
    | some u =>
      rcases hA b (ne_none q) with rfl | z
      · rw [ha] at e
        cases e
        exact absurd rfl (n2 _ _)
      · obtain ⟨_, _, z2⟩ := tabAt b z
        rw [e] at z2
        cases z2
        exact absurd rfl n1
  have hideD : ∀ {b : Addr} {o : Obj} {es : Array DictEntry} {ep : Nat}, s₁.heap.get? b = some o → o.data = .dict es ep → H b = none := fun {b o es ep} e d => by
    cases q : H b with
    | none => rfl
    | some u =>
      rcases hA b (ne_none q) with rfl | z
      · rw [ha] at e
        cases e
        cases d
      · obtain ⟨_, _, z2⟩ := tabAt b z
        rw [e] at z2
        cases z2
        cases d
  have nsK : ∀ {b : Addr} {m : Str → Option Value}, s₁.heap.Ns b m → (hidT s₁.heap H).Ns b m := fun {b m} z => by
    obtain ⟨o, es, ep, e, d, r⟩ := z
    exact ⟨o, es, ep, hidT_get e (hideD e d), d, r⟩
  have hKb : K.In (hidT s₁.heap H) := fun b o e => hidT_get (KX b o e) (by
    cases q : H b with
    | none => rfl
    | some u =>
      rcases hA b (ne_none q) with rfl | z
      · by_cases hz : b ∈ tabA K
        · obtain ⟨x, c, h1, h2⟩ := of_tabA hz
          rw [T.no x c b h1 h2] at e
          cases e
        · rw [hK hz (ne_none q)] at e
          cases e
      · obtain ⟨x, c, h1, h2⟩ := of_tabA z
        rw [T.no x c b h1 h2] at e
        cases e)
  have TB : TbB K mg (hidT s₁.heap H) := fun x c P' h1 h2 => by
    obtain ⟨hc, hP⟩ := T.at' x c P' h1 h2
    have dG : ∀ {b : Addr} {m : Str → Option Value}, s₁.heap.Ns b m → b ≠ P' := fun {b m} z e => by
      obtain ⟨o, es, ep, e1, d, _⟩ := z
      rw [e, hP] at e1
      cases e1
      cases d
    refine ⟨?_, ?_, dG hns⟩
    · obtain ⟨o, us, file, tf, flags, tg, inF, text, tt, e1, r1, r2, r3⟩ := hc
      exact ⟨o, us, file, tf, flags, tg, inF, text, tt, hidT_get e1 (hide e1 (by rw [r1]; exact fun z => nomatch z) fun vs n z => by rw [r2] at z; cases z), r1, r2, r3⟩
    · obtain ⟨bm, ob, b1, b2, b3, b4, b5, b6⟩ := T.bm
      refine ⟨bm, ob, b1, b2, fun e => ?_, fun e => ?_, hidT_get b3 (hide b3 (by rw [b4]; exact fun z => nomatch z) fun vs n z => by rw [b6] at z; cases z), b4, b5, b6⟩
      · obtain ⟨o, es, ep, e1, d, _⟩ := hns
        rw [e, e1] at b3
        cases b3
        rw [b6] at d
        cases d
      · rw [e, hP] at b3
        cases b3
        cases b4
  obtain ⟨mc, h1, h2⟩ := hlim
  have e0 : Env0 P w K mg (hidT s₁.heap H) callerA [] s₁ H :=
    { frames := rfl, mod := ⟨hKb, nsK hns, ⟨mb, nsK hb, hbb⟩, ⟨mc, nsK h1, h2⟩⟩, bs := fun b o e => of_hidT e, bsz := Nat.le_of_eq (hidT_size _ _), funs := trivial
      frf := fun b hb => absurd (show b ∈ ([] : List Addr) from hb) (by simp), hok := hok, bare := .of_eq hg }
  have pr : lift K 1 fs [.ref a] H (fun v _ => v = .bl true) fun _ _ _ => False :=
    ⟨F, a, [.scr ns], none, _, hFH, .cons ⟨a, rfl, hS⟩ .nil, rfl, fun n z => (by cases z), fun x c P' h1 h2 => ⟨⟨#[], hH P' (tabA_of h1 h2), trivial, fun pos cv hc => by have z : PySem.codeAmong pos [] = some cv := hc; simp [PySem.codeAmong] at z⟩, hFn P' (tabA_of h1 h2)⟩, hsp, fun r fu' v H' F' e o => by
      subst e
      have q : Rp K F' v (.bool true) := o.rep
      cases q
      rfl⟩
  refine codeAny_mono ((Fu _ hKb (nsK hns) TB).run callerA [] s₁ H ⟨[.ref a], []⟩ [.ref a] [.ref a] _ _ hr rfl e0 (hbind s₁ (.ref a)) (.cons rfl .nil) pr) fun r s' h => ?_
  match r, h with
  | .error e, h => exact False.elim h
  | .ok .next, h => exact False.elim h
  | .ok .brk, h => exact False.elim h
  | .ok .cont, h => exact False.elim h
  | .ok (.ret u), ⟨v, H', os, bare, un, hok', rv, q⟩ =>
    have q' : v = .bl true := q
    subst q'
    have ru : u = Value.bool true := rv
    subst ru
    have stay : ∀ b o, b ∉ tabA K → s₁.heap.get? b = some o → s'.heap.get? b = some o := fun b o nb e => by
      rcases hO b with z | ⟨z, _⟩ | ⟨ob, xs, z⟩
      · exact un.keep b o e z (fun z => absurd (show b ∈ ([] : List Addr) from z) (by simp)) (by simp)
      · exact absurd z nb
      · obtain ⟨e1, _⟩ := hok b _ z
        obtain ⟨e2, _⟩ := hok' b _ (un.frzs b ob _ z)
        rw [e] at e1
        cases e1
        exact e2
    have grew : ∀ b, b ∈ tabA K → ∃ more : Array Value, s'.heap.get? b = some { cls := .none, data := .fields more } := fun b hb => by
      obtain ⟨more, z⟩ := un.tbls b #[] (hH b hb)
      exact ⟨_, hok' b _ z⟩
    refine ⟨rfl, ⟨fun b o e => ?_, fun b o e => ?_⟩, os, bare⟩
    · by_cases hb : b ∈ tabA K
      · obtain ⟨c, z1, z2⟩ := tabAt b hb
        obtain ⟨more, z3⟩ := grew b hb
        rw [e] at z2
        cases z2
        exact .inr (.inl ⟨(z1.tab e).isCodeTable, rfl, #[], more, rfl, by rw [Array.empty_append]; exact z3⟩)
      · exact .inl (stay b o hb e)
    · by_cases hb : b ∈ tabA K
      · obtain ⟨more, z3⟩ := grew b hb
        exact ⟨_, z3⟩
      · exact ⟨o, stay b o hb e⟩
theorem end_call (KX : K.In s₁.heap) (hns : s₁.heap.Ns mainGlobals mg) (hb : s₁.heap.Ns builtinsNs mb) (hbb : ∀ x : Str, x ≠ "__name__" → mb x = bootBuiltins x) (hlim : s₁.heap.NoLimit) (hg : s₁.gens = #[])
    (ha : s₁.heap.get? a = some { cls := .type "list", data := .seq vs.toArray }) (hi : IntsAre vs ns) (hl : ns.length ≤ sizeLine) (hr : Room k callerA) (T : TbE K mg s₁.heap)
    (Fu : ∀ base : Heap, K.In base → base.Ns mainGlobals mg → TbB K mg base → Fn P w K mg base CX0 k fa fd [x] (lift K 1 fs)) (hbind : ∀ (s : Shared) (u : Value), BindsTo s fd ⟨[u], []⟩ [(x, u)])
    (hsp : fs [.scr ns] none fun r _ => r = .val (.bool true)) :
    codeAny (model P w) callerA (.call (.ref fa) ⟨[.ref a], []⟩) (fun r s' => r = .ok (.ret (.bool true)) ∧ OldK s₁.heap s'.heap ∧ s'.os = s₁.os ∧ AllBare s'.gens) s₁ := by
  have rv := vals_ints hi
  have aT : a ∉ tabA K := fun z => by
    obtain ⟨x, c, h1, h2⟩ := of_tabA z
    have := (T.at' x c a h1 h2).2
    rw [ha] at this
    cases this
  have tO : ∀ b, b ∈ tabA K → s₁.heap.get? b = some (PySem.W.tabObj #[]) := fun b z => by
    obtain ⟨x, c, h1, h2⟩ := of_tabA z
    exact (T.at' x c b h1 h2).2
  let tb : Hp := fun b => if b ∈ tabA K then some (.tbl #[]) else none
  have tbY : ∀ {b}, b ∈ tabA K → tb b = some (.tbl #[]) := fun h => if_pos h
  have tbN : ∀ {b}, b ∉ tabA K → tb b = none := fun h => if_neg h
  have tb_of : ∀ {b u}, tb b = some u → b ∈ tabA K ∧ u = .tbl #[] := fun {b u} h => by
    by_cases z : b ∈ tabA K
    · rw [tbY z] at h
      exact ⟨z, (Option.some.inj h).symm⟩
    · rw [tbN z] at h
      cases h
  cases hk : K.lookup a with
  | some o =>
    have e := KX a o hk
    rw [ha] at e
    cases e
    have sz : vs.toArray.size ≤ sizeLine := by rw [List.size_toArray, hi.length]; exact hl
    refine end_at (F := fun _ => none) (H := tb) KX hns hb hbb hlim hg ha hr T Fu hbind hsp (fun b => ?_) (fun b u z => by cases (show (none : Option HO) = some u from z)) (fun _ _ => rfl) (fun b z => tbY z) (.inr ⟨_, vs.toArray, _, hk, rfl, rfl, rfl, sz, by simpa using rv⟩) (fun b u z => ?_) (fun b z => ?_) fun _ z => absurd (tbN aT) z
    · by_cases z : b ∈ tabA K
      · exact .inr (.inl ⟨z, tbY z⟩)
      · exact .inl (tbN z)
    · obtain ⟨z1, rfl⟩ := tb_of z
      exact tO b z1
    · cases q : tb b with
      | none => exact absurd q z
      | some u => exact .inr (tb_of q).1
  | none =>
    let ob : Obj := { cls := .type "list", data := .seq vs.toArray }
    let sc : Hp := fun b => if b = a then some (HO.frz ob (.lst (ns.map V.int))) else none
    have scY : sc a = some (HO.frz ob (.lst (ns.map V.int))) := if_pos rfl
    have scN : ∀ {b}, b ≠ a → sc b = none := fun h => if_neg h
    have at_a : ∀ {b : Addr} {u : HO}, sc b = some u → b = a ∧ u = .frz ob (.lst (ns.map V.int)) := fun {b u} z => by
      by_cases h : b = a
      · rw [h, scY] at z
        exact ⟨h, (Option.some.inj z).symm⟩
      · rw [scN h] at z
        cases z
    have ne : ∀ {b}, b ∈ tabA K → b ≠ a := fun {b} z e => aT (by rw [← e]; exact z)
    let H : Hp := fun b => if b ∈ tabA K then some (.tbl #[]) else sc b
    have HY : ∀ {b}, b ∈ tabA K → H b = some (.tbl #[]) := fun h => if_pos h
    have HN : ∀ {b}, b ∉ tabA K → H b = sc b := fun h => if_neg h
    refine end_at (F := sc) (H := H) KX hns hb hbb hlim hg ha hr T Fu hbind hsp (fun b => ?_) (fun b u z => ?_) (fun b z => scN (ne z)) (fun b z => HY z) (.inl (.inr ⟨ob, scY⟩)) (fun b u z => ?_) (fun b z => ?_) fun _ _ => hk
    · by_cases z : b ∈ tabA K
      · exact .inr (.inl ⟨z, HY z⟩)
      · rw [HN z]
        by_cases h : b = a
        · exact .inr (.inr ⟨ob, _, by rw [h]; exact scY⟩)
        · exact .inl (scN h)
    · obtain ⟨rfl, rfl⟩ := at_a z
      rw [HN aT]
      exact z
    · by_cases z1 : b ∈ tabA K
      · rw [HY z1] at z
        cases z
        exact tO b z1
      · rw [HN z1] at z
        obtain ⟨rfl, rfl⟩ := at_a z
        exact ⟨ha, by rw [List.length_map]; exact hl, vs, _, rv, ha⟩
    · by_cases z1 : b ∈ tabA K
      · exact .inr z1
      · rw [HN z1] at z
        exact .inl (Classical.byContradiction fun h => z (scN h))
end
/-- the maker's table as the head leaves it -/
def TbH (K : Fg) (h : Heap) : Prop := ∀ x c P, x ∈ LAM → PySem.W.tabIn K x = some (c, P) → (PySem.W.CodeHd h c P ∧ h.get? P = some (PySem.W.tabObj #[])) ∧ K.lookup P = none
theorem tbH_no {K : Fg} {h : Heap} (e : LAM = []) : TbH K h := fun x c P e1 => by rw [e] at e1; cases e1
theorem end_of {l : PySem.W.OpenLaw} {n k : Nat} {q : Program} {loose : List Str} {XP : (Str → Option Value) → Heap → Prop} {YP : World → Heap → Prop} {d : DefRec} {K : Params → PySem.W.Frag} {fs : FSp} {x : Str}
    (hn : l.most = some n) (hn2 : n ≤ sizeLine) (hdf : d.params.defaults = []) (hr : Room k callerA) (hY : ∀ (w : World) (h : Heap), YP w h → (K w.params).In h)
    (Fu : ∀ (w : World) (mg : Str → Option Value) (fa : Addr) (h : Heap), YP w h → (K w.params).In h → h.Ns mainGlobals mg → mg d.name = some (.ref fa) →
      ∃ fd : FuncData, (∀ (s : Shared) (u : Value), BindsTo s fd ⟨[u], []⟩ [(x, u)]) ∧ TbH (K w.params) h ∧ ∀ base : Heap, (K w.params).In base → base.Ns mainGlobals mg → TbB (K w.params) mg base → Fn l.prog w (K w.params) mg base CX0 k fa fd [x] (lift (K w.params) 1 fs))
    (hsp : ∀ ns : List Int, ns.length ≤ n → fs [.scr ns] none fun r _ => r = .val (.bool true)) : PySem.W.WalkO q loose XP YP l.row.toRowW d [] (fun f vs => PySem.call f vs) := by
  refine Att.attach_call hn hdf fun w s₀ s₁ mg mb fa o pm cd doc a vs ns G Y ho hd hcd hmg hobj hints hlen hg => ?_
  obtain ⟨fd, hb, hT, hF⟩ := Fu w mg fa _ Y (hY w _ Y) G.T.g hmg
  exact end_call (hY w _ Y) G.T.g G.T.b G.T.builtins G.T.nolimit hg hobj hints (Nat.le_trans hlen hn2) hr ⟨fun x c P e1 e2 => (hT x c P e1 e2).1, fun x c P e1 e2 => (hT x c P e1 e2).2, G.T.bmain⟩ hF hb (hsp ns hlen)
end Z
namespace Z
open L2 PySem PySem.Spec PyProof.Rows
open Evl (Ex ex_l ex_t ex_rd fresh_back)
variable {Wx : WX}
def SrcD (ds : List Da) (n : Nat) : Prop := ∃ x y z : Int, ds = [.int x, .int y, .int z] ∧ 0 ≤ x ∧ x < 2 ^ 1000 ∧ 0 ≤ y ∧ y < modS ∧ 0 ≤ z ∧ z + n ≤ 2 ^ 40
def noSrc : Option Sv → Option Sv
  | some .src => none
  | x => x
/-- f(a new source, constants ..) -/
def dCallS (np n : Nat) (fs : FSp) (tl : DL) (rs : List Rv) : DE := fun g Q => tl g fun ds g1 => SrcD ds n ∧ rs.length + 1 = np ∧ fs (.src :: rs) (some n) fun r _ => Q (rrv r) g1
section
variable {K : Fg} {c : Con} {g : Gs} {σ : L2.St} {H F H' F' : Hp} {tv : List V} {tr : List Rv} {a : Addr}
theorem Rps.three {xs : List V} {x y z : Int} (h : Rps K F xs [.int x, .int y, .int z]) : xs = [.int x, .int y, .int z] := by
  cases h with
  | cons h1 h =>
    cases h with
    | cons h2 h =>
      cases h with
      | cons h3 h =>
        cases h
        cases h1
        cases h2
        cases h3
        rfl
theorem SrcD.at {ds : List Da} {n : Nat} (h : SrcD ds n) {o : Addr} {xs : List V} (hH : H o = some (.lst xs)) (m : Rps K F xs ds) : SrcAt H o n := by
  obtain ⟨x, y, z, rfl, h⟩ := h
  rw [m.three] at hH
  exact ⟨x, y, z, hH, h⟩
/-- behind a call that had a source of its own -/
theorem Sta.after2 (s : Sta K c g σ H tv tr F a) {v u : V} {r : Rr} {ds : List Da} {n : Nat} {fu' : Option Nat} {o : Addr} (h : NewL K c g σ H F a (.ref o) ds) (ou : Out K F H o (some n) fu' F' H' u r) : Sta K c g σ H' tv tr F' a := by
  obtain ⟨o', xs, eo, q2, q3, q4, q5, q6, q7⟩ := h.ex
  cases eo
  have keepN : ∀ b x, b ≠ o → NT x → H b = some x → H' b = some x := fun b x hb hn e => ou.keep b x (fun _ => hb) hn e
  have oldF : ∀ b, H b ≠ none → F b = none → F' b = none := fun b h1 h2 => by
    cases q : F' b with
    | none => rfl
    | some u =>
      rcases ou.new b (ne_none q) with z | z
      · exact absurd h2 z
      · exact absurd z h1
  refine ⟨s.e0.trans ou.f, ou.s, fun b x z1 hn z2 => keepN b x (fun z => by rw [z, q3] at z2; cases z2) hn (s.keep b x z1 hn z2), fun b q => ?_, s.ex, s.ow, fun m hm => ?_, s.tmp.up ou.f, s.len, fun j sv hj => ?_, s.dis, ou.tk, s.tab.trans ou.tab⟩
  · rcases ou.new b q with z | z
    · exact s.new b z
    · exact .inr (s.fresh z)
  · obtain ⟨z1, z2, x, y, z, e, z3⟩ := s.src m hm
    exact ⟨oldF a (ne_none e) z1, z2, x, y, z, keepN a _ (fun w => q6 (ne_none hm) w.symm) (fun _ z => by cases z) e, z3⟩
  · obtain ⟨w, h1, h2⟩ := s.slot j sv hj
    refine ⟨w, h1, ?_⟩
    cases sv with
    | val d => exact Rp.up h2 ou.f
    | src => exact h2
    | scr ns => obtain ⟨b, z1, z2⟩ := h2; exact ⟨b, z1, ex_l ou.f z2⟩
    | ob k => exact ObOk.up ou.f h2
    | own es =>
      obtain ⟨p, ys, r1, r2, r3, r4, r5, r6⟩ := h2
      exact ⟨p, ys, r1, oldF p (ne_none r4) r2, r3, keepN p _ (fun z => q7 j es hj (by rw [h1, r1, z])) (fun _ z => by cases z) r4, r5.up ou.f, r6⟩
end
section
variable {X : Cx} {e : Expr} {tl : DL} {pos : Pos}
variable {CX : CXT} {k : Nat} {f : Addr} {fd : FuncData} {ps : List Str} {fs : FSp} {x : Str} {p : Pos} {es : List Expr} {np : Nat} {E : XK} {vs : List V} {rs : List Rv}
theorem e_callS (n : Nat) (G : Fn X.prog X.w X.K X.mg X.base CX k f fd ps (lift X.K np fs)) (hr : Room k X.A) (hgd : X.A.guards = some []) (hg : Gl X x) (hm : X.mg x = some (.ref f)) (hk : PySem.W.keepIn X.K (.ref f) = true) (hb : Binds X.K fd ps []) (hx : Passes CX X E)
    (he : PE X e (upL X.K tl)) (hes : PA X es fun _ H Q => Q vs H) (hvs : ∀ F a fu, Tm X.K F a fu vs rs) (hdb : (x == ("__debug__" : Str)) = false := by decide) (hs : starEach (e :: es) X.env = (false, eval e X.env) :: starEach es X.env := by rfl)
    (hpl : (backTo pos (starEach es X.env)).any (·.1) = false := by rfl) : PE X (.Call (.Name x p) (e :: es) [] pos) (up X.K (dCallS np n fs tl rs)) := pe_to (pe_fn G hr hgd hg hm hk hb hx (pa_cons he hes hs) hdb hs hpl) fun σ H Q q => by
  obtain ⟨c, g, tv, tr, F, a, post, s, t, k⟩ := q
  refine ⟨c, g, tv, tr, F, a, _, s, t, fun ds g1 v H1 F1 a1 t1 s1 n1 => ?_⟩
  obtain ⟨o, xs, rfl, q2, q3, q4, q5, q6, q7⟩ := n1.ex
  refine ⟨F1, o, .src :: rs, some n, _, s1.eh, .cons ⟨rfl, fun z => nomatch z⟩ (hvs F1 o _), ?_, fun m hm => ?_, s1.tabk, t1.2.2, fun r fu' v H' F' hp ou => ?_⟩
  · have := (hvs F1 o none).len
    rw [List.length_cons, this]; exact t1.2.1
  · cases hm
    exact ⟨q2, t1.1.at q4 q5⟩
  · have s2 := s1.after2 (v := v) n1 ou
    cases r with
    | val d => exact k _ _ v H' F' a1 hp (s2.push (r := .val d) ou.rep)
    | exc _ _ => exact ou.rep.elim
    | own es =>
      obtain ⟨F'', s4⟩ := s2.still (NewL.of s1 rfl id ou.rep)
      exact k _ _ v H' F'' a1 hp s4
theorem as_nil : PA X [] fun _ H Q => Q [] H := pa_nil
end
section
variable {X : Cx} {x : Str} {p pos : Pos} {e e2 : Expr} {tr : DA}
theorem e_len (hg : Gl X "len") (hm : X.mg "len" = none) (ha : PA X [e] (upA X.K tr)) (he : starEach [e] X.env = (false, eval e X.env) :: starEach [] X.env := by rfl) : PE X (.Call (.Name "len" p) [e] [] pos) (up X.K (dCB cLen tr)) := e_callB call_len ok_len hg hm PySem.boot_len ha (by decide) (by decide) he rfl
theorem e_abs (hg : Gl X "abs") (hm : X.mg "abs" = none) (ha : PA X [e] (upA X.K tr)) (he : starEach [e] X.env = (false, eval e X.env) :: starEach [] X.env := by rfl) : PE X (.Call (.Name "abs" p) [e] [] pos) (up X.K (dCB (cInt1 fun i => if i < 0 then -i else i) tr)) := e_callB call_abs ok_int1 hg hm (by decide +kernel) ha (by decide) (by decide) he rfl
theorem e_max (hc : X.calm = true) (hg : Gl X "max") (hm : X.mg "max" = none) (ha : PA X [e, e2] (upA X.K tr)) (he : starEach [e, e2] X.env = (false, eval e X.env) :: starEach [e2] X.env := by rfl) (hpl : (backTo pos (starEach [e2] X.env)).any (·.1) = false := by rfl) :
    PE X (.Call (.Name "max" p) [e, e2] [] pos) (up X.K (dCB (cInt2 fun i j => if j > i then j else i) tr)) := e_callB (call_max2 hc) ok_int2 hg hm (by decide +kernel) ha (by decide) (by decide) he hpl
theorem e_min (hc : X.calm = true) (hg : Gl X "min") (hm : X.mg "min" = none) (ha : PA X [e, e2] (upA X.K tr)) (he : starEach [e, e2] X.env = (false, eval e X.env) :: starEach [e2] X.env := by rfl) (hpl : (backTo pos (starEach [e2] X.env)).any (·.1) = false := by rfl) :
    PE X (.Call (.Name "min" p) [e, e2] [] pos) (up X.K (dCB (cInt2 fun i j => if j < i then j else i) tr)) := e_callB (call_min2 hc) ok_int2 hg hm (by decide +kernel) ha (by decide) (by decide) he hpl
theorem e_all (hc : X.calm = true) (hg : Gl X "all") (hm : X.mg "all" = none) (ha : PA X [e] (upA X.K tr)) (he : starEach [e] X.env = (false, eval e X.env) :: starEach [] X.env := by rfl) : PE X (.Call (.Name "all" p) [e] [] pos) (up X.K (dCB cAll tr)) := e_callB (cr_all hc) ok_all hg hm (by decide +kernel) ha (by decide) (by decide) he rfl
theorem e_tuple (hg : Gl X "tuple") (hm : X.mg "tuple" = none) (ha : PA X [e] (upA X.K tr)) (he : starEach [e] X.env = (false, eval e X.env) :: starEach [] X.env := by rfl) : PE X (.Call (.Name "tuple" p) [e] [] pos) (up X.K (dCB cTuple tr)) := e_callTy call_tuple_of ok_tuple hg hm (by decide +kernel) ha (by decide) (by decide) he rfl
theorem e_glob {v : V} {u : Value} {d : Da} (hg : Gl X x) (hm : X.mg x = some u) (r : RelV v u) (hr : ∀ F, Rp X.K F v d) (hd : (x == ("__debug__" : Str)) = false := by decide) : PE X (.Name x pos) (up X.K (dC d)) := e_c (pe_glob hg hm r hd) hr
theorem c_ty {T : String} (hg : Gl X x) (hm : X.mg x = none) (hv : bootBuiltins x = some (.type T)) (hn : x ≠ "__name__" := by decide) (hd : (x == ("__debug__" : Str)) = false := by decide) : PE X (.Name x pos) (tC (.ty T)) := pe_bltn hg hm hv rfl hn hd
end
end Z
namespace Z
open L2 PySem PySem.Spec PyProof.Rows
open Evl (Ex ex_l ex_t ex_rd fresh_back)
abbrev oSub : BinF := fI0 fun i j => .int (i - j)
abbrev oAddI : BinF := fI0 fun i j => .int (i + j)
abbrev oMul : BinF := fI CMulX fun i j => .int (i * j)
abbrev oDiv : BinF := fI CDivW fun i j => .int (i / j)
abbrev oMod : BinF := fI (fun _ j => 0 < j) fun i j => .int (i % j)
abbrev oShl : BinF := fI CShl fun i j => .int (i * 2 ^ j.toNat)
abbrev oPow : BinF := fI CPowX fun i j => .int (i ^ j.toNat)
abbrev oLt : BinF := fI0 fun i j => .bool (decide (i < j))
abbrev oLe : BinF := fI0 fun i j => .bool (decide (i ≤ j))
abbrev oGt : BinF := fI0 fun i j => .bool (decide (j < i))
abbrev oGe : BinF := fI0 fun i j => .bool (decide (j ≤ i))
abbrev oAbs : CF := cInt1 fun i => if i < 0 then -i else i
abbrev oMax : CF := cInt2 fun i j => if j > i then j else i
abbrev oMin : CF := cInt2 fun i j => if j < i then j else i
theorem test_core {K : Fg} {t : DE} {σ : L2.St} {H : Hp} {Q : Bool → Hp → Prop} (q : upT K (dTest t) σ H Q) : up K t σ H fun x H1 => ∃ k, x = .bl k ∧ Q k H1 := by
  obtain ⟨c, g, tv, tr, F, ad, post, s, t1, k⟩ := q
  refine ⟨c, g, tv, tr, F, ad, _, s, t1, fun r g1 v1 H1 F1 a1 h1 s1 => ?_⟩
  cases r with
  | val d =>
    cases d with
    | bool b => exact ⟨b, s1.top.bl rfl, k b g1 H1 F1 a1 h1 s1.pop1⟩
    | _ => exact h1.elim
  | _ => exact h1.elim
section
variable {X : Cx} {a b c : Expr} {ta tb tc : DE} {pos : Pos}
theorem t_cmp {op : CmpOp} {r : R2} {f : BinF} (ho : OpR X (compareOp op) r) (hf : BinOk X.K r f) (ha : PE X a (up X.K ta)) (hb : PE X b (up X.K tb)) (hm : behindInMarks op b = false) : PT X (.Compare a [op] [b] pos) (upT X.K (dTest (dBin f ta tb))) :=
  pt_to (pt_cmpR ho ha hb hm) fun σ H Q q => bin_core hf σ H _ (test_core q)
theorem t_lt (ha : PE X a (up X.K ta)) (hb : PE X b (up X.K tb)) : PT X (.Compare a [.Lt] [b] pos) (upT X.K (dTest (dBin oLt ta tb))) := t_cmp op_lt ok_I0b ha hb (nomark _)
theorem t_gt (ha : PE X a (up X.K ta)) (hb : PE X b (up X.K tb)) : PT X (.Compare a [.Gt] [b] pos) (upT X.K (dTest (dBin oGt ta tb))) := t_cmp op_gt ok_I0b ha hb (nomark _)
theorem t_ge (ha : PE X a (up X.K ta)) (hb : PE X b (up X.K tb)) : PT X (.Compare a [.GtE] [b] pos) (upT X.K (dTest (dBin oGe ta tb))) := t_cmp op_ge ok_I0b ha hb (nomark _)
theorem t_eq (hu : X.A.units + 64 < cLine) (ha : PE X a (up X.K ta)) (hb : PE X b (up X.K tb)) : PT X (.Compare a [.Eq] [b] pos) (upT X.K (dTest (dBin fEq ta tb))) :=
  t_cmp (op_eqD hu) (fun F H x y d e post Q hx r1 r2 hf k => ⟨d, e, r1.dp hx d x (shaped_lay hf.1), r2.dp hx e y (shaped_lay hf.2.1), hf.1, hf.2.1, k _ _ H F hf.2.2 (Gr.refl hx) (.bl _)⟩) ha hb (nomark _)
theorem t_ne (hu : X.A.units + 64 < cLine) (ha : PE X a (up X.K ta)) (hb : PE X b (up X.K tb)) : PT X (.Compare a [.NotEq] [b] pos) (upT X.K (dTest (dBin fNe ta tb))) :=
  t_cmp (op_neD hu) (fun F H x y d e post Q hx r1 r2 hf k => ⟨d, e, r1.dp hx d x (shaped_lay hf.1), r2.dp hx e y (shaped_lay hf.2.1), hf.1, hf.2.1, k _ _ H F hf.2.2 (Gr.refl hx) (.bl _)⟩) ha hb (nomark _)
theorem t_in (ha : PE X a (up X.K ta)) (hb : PE X b (up X.K tb)) (hm : behindInMarks .In b = false := by rfl) : PT X (.Compare a [.In] [b] pos) (upT X.K (dTest (dBin (fIn false) ta tb))) := t_cmp op_in_seq ok_in ha hb hm
theorem isn_core {neg : Bool} {σ : L2.St} {H : Hp} {Q : VK} (q : up X.K (dIsN neg ta) σ H Q) : up X.K ta σ H fun x H1 => Q (.bl (if neg then !decide (x = .non) else decide (x = .non))) H1 := by
  obtain ⟨c, g, tv, tr, F, ad, post, s, t1, k⟩ := q
  refine ⟨c, g, tv, tr, F, ad, _, s, t1, fun r g1 v1 H1 F1 a1 h1 s1 => ?_⟩
  cases r with
  | val d =>
    have hr : Rp X.K F1 v1 d := s1.top
    rw [non_v hr]
    exact k _ g1 _ H1 F1 a1 h1 (s1.pop1.push (r := .val (.bool _)) (Rp.bl _))
  | _ => exact h1.elim
theorem t_isN {j : Nat} {pos' : Pos} (ha : PE X a (up X.K ta)) : PT X (.Compare a [.Is] [.Constant .none j pos'] pos) (upT X.K (dTest (dIsN false ta))) := pt_to (pt_cmpR op_isN ha pe_non (nomark _)) fun σ H Q q => by
  obtain ⟨c, g, tv, tr, F, ad, post, s, t1, k⟩ := isn_core (test_core q)
  exact ⟨c, g, tv, tr, F, ad, post, s, t1, fun r g1 v1 H1 F1 a1 h1 s1 => ⟨rfl, k r g1 v1 H1 F1 a1 h1 s1⟩⟩
theorem t_notN {j : Nat} {pos' : Pos} (ha : PE X a (up X.K ta)) : PT X (.Compare a [.IsNot] [.Constant .none j pos'] pos) (upT X.K (dTest (dIsN true ta))) := pt_to (pt_cmpR op_notN ha pe_non (nomark _)) fun σ H Q q => by
  obtain ⟨c, g, tv, tr, F, ad, post, s, t1, k⟩ := isn_core (test_core q)
  exact ⟨c, g, tv, tr, F, ad, post, s, t1, fun r g1 v1 H1 F1 a1 h1 s1 => ⟨rfl, k r g1 v1 H1 F1 a1 h1 s1⟩⟩
end
/-- a pair of ints -/
abbrev num (n d : Int) : Da := .tuple [.int n, .int d]
theorem atI_0 {α : Type} {x0 : α} {xs : List α} : atI (x0 :: xs) 0 = some x0 := by
  unfold atI ixN
  rw [if_pos (by decide), if_pos (by simp only [List.length_cons]; omega)]
  rfl
theorem atI_1 {α : Type} {x0 x1 : α} {xs : List α} : atI (x0 :: x1 :: xs) 1 = some x1 := by
  unfold atI ixN
  rw [if_pos (by decide), if_pos (by simp only [List.length_cons]; omega)]
  rfl
theorem atI_2 {α : Type} {x0 x1 x2 : α} {xs : List α} : atI (x0 :: x1 :: x2 :: xs) 2 = some x2 := by
  unfold atI ixN
  rw [if_pos (by decide), if_pos (by simp only [List.length_cons]; omega)]
  rfl
theorem atI_3 {α : Type} {x0 x1 x2 x3 : α} {xs : List α} : atI (x0 :: x1 :: x2 :: x3 :: xs) 3 = some x3 := by
  unfold atI ixN
  rw [if_pos (by decide), if_pos (by simp only [List.length_cons]; omega)]
  rfl
theorem atI_4 {α : Type} {x0 x1 x2 x3 x4 : α} {xs : List α} : atI (x0 :: x1 :: x2 :: x3 :: x4 :: xs) 4 = some x4 := by
  unfold atI ixN
  rw [if_pos (by decide), if_pos (by simp only [List.length_cons]; omega)]
  rfl
theorem atI_5 {α : Type} {x0 x1 x2 x3 x4 x5 : α} {xs : List α} : atI (x0 :: x1 :: x2 :: x3 :: x4 :: x5 :: xs) 5 = some x5 := by
  unfold atI ixN
  rw [if_pos (by decide), if_pos (by simp only [List.length_cons]; omega)]
  rfl
theorem eqv_ii (i j : Int) : (PyData.int i).eqv (.int j) = decide (i = j) := by
  simp only [PyData.eqv]
  rw [Bool.eq_iff_iff]
  simp
theorem eqv_ss (x y : Str) : (PyData.str x).eqv (.str y) = decide (x = y) := by
  simp only [PyData.eqv]
  rw [Bool.eq_iff_iff]
  simp
theorem eqv_num (a b c d : Int) : (PyData.tuple [.int a, .int b]).eqv (.tuple [.int c, .int d]) = (decide (a = c) && decide (b = d)) := by
  simp only [PyData.eqv, PyData.eqvAll]
  rw [Bool.eq_iff_iff]
  simp
theorem shaped_int (i : Int) : SeqAt.shaped (.int i) = true := rfl
theorem shaped_num (i j : Int) : SeqAt.shaped (.tuple [.int i, .int j]) = true := rfl
theorem shaped_none : SeqAt.shaped .none = true := rfl
theorem flat_str (x : Str) : flatD (.str x) = true := rfl
theorem flat_int (x : Int) : flatD (.int x) = true := rfl
theorem flat_none : flatD .none = true := rfl
/-- less than n bits -/
structure Bn (n : Nat) (i : Int) : Prop where
  lt : i.natAbs < 2 ^ n
theorem bits_lt {i : Int} {n : Nat} (h : Bn n i) : Builtin.Int.intBits i ≤ n := by
  unfold Builtin.Int.intBits
  split
  · exact Nat.zero_le _
  · rename_i h0
    have h1 : i ≠ 0 := fun z => h0 (by rw [z]; rfl)
    have : i.natAbs.log2 < n := (Nat.log2_lt (by omega)).mpr h.lt
    omega
theorem Bn.mono {n m : Nat} {i : Int} (h : Bn n i) (hm : n ≤ m) : Bn m i := ⟨Nat.lt_of_lt_of_le h.lt (Nat.pow_le_pow_right (by decide) hm)⟩
theorem Bn.le {n : Nat} {i j : Int} (h : Bn n j) (h0 : 0 ≤ i) (h1 : i ≤ j) : Bn n i := ⟨by have := h.lt; omega⟩
theorem Bn.mul {a b : Nat} {i j : Int} (ha : Bn a i) (hb : Bn b j) : Bn (a + b) (i * j) := ⟨by
  rw [Int.natAbs_mul, Nat.pow_add]
  exact Nat.mul_lt_mul'' ha.lt hb.lt⟩
theorem Bn.add {a : Nat} {i j : Int} (ha : Bn a i) (hb : Bn a j) : Bn (a + 1) (i + j) := ⟨by
  have h1 := ha.lt
  have h2 := hb.lt
  have h3 := Int.natAbs_add_le i j
  rw [Nat.pow_succ]
  omega⟩
theorem Bn.pow2 {n m : Nat} (h : n < m) : Bn m ((2 : Int) ^ n) := ⟨by
  rw [Int.natAbs_pow]
  exact Nat.pow_lt_pow_right (by decide) h⟩
theorem Bn.small {m : Nat} {i : Int} (h1 : -18446744073709551616 < i) (h2 : i < 18446744073709551616) (hm : 64 ≤ m) : Bn m i := by
  have e : (2 : Nat) ^ 64 = 18446744073709551616 := by decide
  exact Bn.mono (n := 64) ⟨by rw [e]; omega⟩ hm
theorem Bn.modR {n : Nat} {i j : Int} (h : Bn n j) (hj : 0 < j) : Bn n (i % j) := h.le (Int.emod_nonneg _ (by omega)) (Int.le_of_lt (Int.emod_lt_of_pos _ hj))
theorem mulX {i j : Int} (a b : Nat) (ha : Bn a i) (hb : Bn b j) (h : a + b ≤ 134217728) : CMulX i j := by
  have h1 := bits_lt ha
  have h2 := bits_lt hb
  unfold CMulX
  omega
theorem shlX {i j : Int} (a : Nat) (ha : Bn a i) (h0 : 0 ≤ j) (h : (a : Int) + j ≤ 134217728) : CShl i j := by
  have h1 := bits_lt ha
  refine ⟨h0, ?_⟩
  have e : (2 : Int) ^ 27 = 134217728 := by decide
  rw [e]
  omega
theorem divX {i j : Int} (b : Nat) (h0 : 0 < j) (hb : Bn b j) (h9 : b ≤ 9000) : CDivW i j := wide_div h0 (Bn.mono hb h9).lt (by decide) (Nat.le_refl _)
theorem pow2_pos (n : Nat) : (0 : Int) < 2 ^ n := Int.pow_pos (by decide)
theorem shlB {i : Int} {a n : Nat} (ha : Bn a i) : Bn (a + n + 1) (i * 2 ^ n) := by
  have := ha.mul (Bn.pow2 (n := n) (m := n + 1) (by omega))
  exact this.mono (by omega)
end Z
namespace Z
open L2 PySem PySem.Spec PyProof.Rows
/-- by the number of turns gone -/
theorem forD_ix {t : DG} {tb : DS} {d : DEnds} (I : Nat → Gs → Prop) : ∀ {ds : List Da} {g : Gs} {k : Nat}, (∀ (i : Nat) x, ds[i]? = some x → ∀ g, I (k + i) g → ∀ N : Gs → Prop, (∀ g', I (k + i + 1) g' → N g') → t (.val x) g fun g1 => tb { d with nx := N, ct := N, bk := d.nx } g1) →
    (∀ g, I (k + ds.length) g → d.nx g) → I k g → forD t tb ds d g
  | [], g, k, _, hd, h => hd g h
  | x :: xs, g, k, hs, hd, h => hs 0 x rfl g h (forD t tb xs d) fun g' h' => forD_ix I (k := k + 1) (fun i y hy g2 h2 N hN => hs (i + 1) y (by simpa using hy) g2 (by rw [show k + (i + 1) = k + 1 + i by omega]; exact h2) N (fun g3 h3 => hN g3 (by rw [show k + 1 + i + 1 = k + (i + 1) + 1 by omega]; exact h3)))
      (fun g2 h2 => hd g2 (by rw [List.length_cons, show k + (xs.length + 1) = k + 1 + xs.length by omega]; exact h2)) h'
theorem fuN_self (fu : Option Nat) : fuN fu fu = fu := by cases fu <;> rfl
/-- a comprehension whose element is a plain function of the item -/
theorem lc_map {sl : List (Option Sv)} {i : Nat} {te : DE} (f : Da → Da) {Q : List Da → Option Nat → Prop} {fu : Option Nat} : ∀ {ds acc : List Da},
    (∀ x ∈ ds, ∀ R : Rv → Gs → Prop, (∀ g3 : Gs, g3.fu = fu → R (.val (f x)) g3) → te (Gs.set ⟨sl, fu, false⟩ i (.val x)) R) → acc.length + ds.length ≤ 1000000 → Q (acc ++ ds.map f) fu → lcD sl (dN i) dYes te ds acc fu Q
  | [], acc, _, _, h => by rw [List.map_nil, List.append_nil] at h; exact h
  | x :: xs, acc, hs, hl, h => by
    refine ⟨fun _ => hs x List.mem_cons_self _ fun g3 e => ⟨?_, ?_⟩, fun z => nomatch z⟩
    · rw [List.length_cons] at hl; omega
    · rw [e, fuN_self]
      refine lc_map f (fun y hy => hs y (List.mem_cons_of_mem _ hy)) ?_ ?_
      · rw [List.length_cons] at hl
        rw [List.length_append, List.length_cons, List.length_nil]
        omega
      · rw [List.append_assoc]
        exact h
theorem gcd_step {a b : Int} (ha : 0 ≤ a) (hb : 0 < b) : Int.gcd b (a % b) = Int.gcd a b := by
  obtain ⟨n, rfl⟩ := Int.eq_ofNat_of_zero_le ha
  obtain ⟨m, rfl⟩ := Int.eq_ofNat_of_zero_le (Int.le_of_lt hb)
  rw [← Int.natCast_emod, Int.gcd_natCast_natCast, Int.gcd_natCast_natCast, Nat.gcd_comm n m, Nat.gcd_rec m n, Nat.gcd_comm]
theorem gcd_pos {a b : Int} (hb : 0 < b) : 0 < (Int.gcd a b : Int) := by
  have := Int.gcd_pos_of_ne_zero_right a (show b ≠ 0 by omega)
  omega
theorem gcd_le {a b : Int} (hb : 0 < b) : (Int.gcd a b : Int) ≤ b := by
  have h : (Int.gcd a b : Int) ∣ b := Int.gcd_dvd_right a b
  exact Int.le_of_dvd hb h
def low (n d : Int) : Int × Int := (n / Int.gcd n d, d / Int.gcd n d)
def lowD (n d : Int) : Da := num (low n d).1 (low n d).2
def bl (i : Int) : Int := (Builtin.Int.intBits i : Nat)
/-- times 2 ** f, as two ints -/
def scI (n d f : Int) : Int × Int := (n * 2 ^ f.toNat, d * 2 ^ (-f).toNat)
def powI (k e : Int) : Int × Int := low (scI k 1 e).1 (scI k 1 e).2
def cellI (n d w : Int) : Int × Int :=
  if 2 ^ w.toNat ≤ (scI n d (0 - (bl n - bl d - w))).1 / (scI n d (0 - (bl n - bl d - w))).2 then ((scI n d (0 - (bl n - bl d - w + 1))).1 / (scI n d (0 - (bl n - bl d - w + 1))).2, bl n - bl d - w + 1)
  else ((scI n d (0 - (bl n - bl d - w))).1 / (scI n d (0 - (bl n - bl d - w))).2, bl n - bl d - w)
def posI (n d w : Int) : Int × Int :=
  low ((scI n d (0 - (cellI n d w).2)).1 - (cellI n d w).1 * (scI n d (0 - (cellI n d w).2)).2) (scI n d (0 - (cellI n d w).2)).2
/-- the six rules -/
inductive Ru where | dn | hd | he | hu | od | up
  deriving DecidableEq
def Ru.s : Ru → Str
  | .dn => "down"
  | .hd => "half_down"
  | .he => "half_even"
  | .hu => "half_up"
  | .od => "odd"
  | .up => "up"
theorem shaped_ru (r : Ru) : SeqAt.shaped (.str r.s) = true := by cases r <;> decide +kernel
def goesUp (k n d : Int) : Ru → Bool
  | .dn => false
  | .up => true
  | .od => decide (k % 2 = 0)
  | .hd => decide (d < 2 * n)
  | .hu => decide (d ≤ 2 * n)
  | .he => if 2 * n = d then decide (k % 2 = 1) else decide (d < 2 * n)
def endsI (n d w : Int) : (Int × Int) × (Int × Int) :=
  if (posI n d w).1 = 0 then ((n, d), (n, d)) else (powI (cellI n d w).1 (cellI n d w).2, powI ((cellI n d w).1 + 1) (cellI n d w).2)
def roundI (n d w : Int) (r : Ru) : Int × Int := if goesUp (cellI n d w).1 (posI n d w).1 (posI n d w).2 r then (endsI n d w).2 else (endsI n d w).1
abbrev nm (p : Int × Int) : Da := num p.1 p.2
end Z
namespace Z
open L2 PySem PySem.Spec PyProof.Rows
theorem bl_pos {n : Int} (h : 0 < n) : ∃ m : Nat, bl n = (m : Int) + 1 ∧ (2 : Int) ^ m ≤ n ∧ n < 2 ^ (m + 1) := by
  obtain ⟨k, rfl⟩ := Int.eq_ofNat_of_zero_le (Int.le_of_lt h)
  have hk : k ≠ 0 := by omega
  refine ⟨k.log2, ?_, ?_, ?_⟩
  · unfold bl Builtin.Int.intBits
    rw [if_neg (by simp; omega), Int.natAbs_natCast]
    omega
  · have := Nat.log2_self_le hk
    have e : ((2 ^ k.log2 : Nat) : Int) = (2 : Int) ^ k.log2 := by norm_cast
    omega
  · have := Nat.lt_log2_self (n := k)
    have e : ((2 ^ (k.log2 + 1) : Nat) : Int) = (2 : Int) ^ (k.log2 + 1) := by norm_cast
    omega
/-- the first guess: between 2 ^ (w - 1) and 2 ^ (w + 1) -/
theorem guess {n d w e : Int} (hn : 0 < n) (hd : 0 < d) (hw : 1 ≤ w) (he : e = bl n - bl d - w) :
    (scI n d (0 - e)).2 * 2 ^ (w - 1).toNat ≤ (scI n d (0 - e)).1 ∧ (scI n d (0 - e)).1 < (scI n d (0 - e)).2 * 2 ^ (w + 1).toNat := by
  obtain ⟨p, ep, p1, p2⟩ := bl_pos hn
  obtain ⟨q, eq, q1, q2⟩ := bl_pos hd
  obtain ⟨v, ev⟩ : ∃ v : Nat, w = (v : Int) + 1 := ⟨(w - 1).toNat, by omega⟩
  have e1 : (w - 1).toNat = v := by omega
  have e2 : (w + 1).toNat = v + 2 := by omega
  rw [e1, e2]
  unfold scI
  generalize hA : (0 - e).toNat = A
  generalize hB : (-(0 - e)).toNat = B
  have hAB : q + 1 + B + v = p + A := by omega
  show d * 2 ^ B * 2 ^ v ≤ n * 2 ^ A ∧ n * 2 ^ A < d * 2 ^ B * 2 ^ (v + 2)
  have h2A := pow2_pos A
  have h2B := pow2_pos B
  have h2v := pow2_pos v
  constructor
  · have s1 : d * 2 ^ B * 2 ^ v ≤ 2 ^ (q + 1) * 2 ^ B * 2 ^ v := Int.mul_le_mul_of_nonneg_right (Int.mul_le_mul_of_nonneg_right (Int.le_of_lt q2) (Int.le_of_lt h2B)) (Int.le_of_lt h2v)
    have s2 : (2 : Int) ^ (q + 1) * 2 ^ B * 2 ^ v = 2 ^ p * 2 ^ A := by rw [← Int.pow_add, ← Int.pow_add, ← Int.pow_add, hAB]
    have s3 : (2 : Int) ^ p * 2 ^ A ≤ n * 2 ^ A := Int.mul_le_mul_of_nonneg_right p1 (Int.le_of_lt h2A)
    omega
  · have s1 : n * 2 ^ A < 2 ^ (p + 1) * 2 ^ A := Int.mul_lt_mul_of_pos_right p2 h2A
    have s2 : (2 : Int) ^ (p + 1) * 2 ^ A = 2 ^ q * 2 ^ B * 2 ^ (v + 2) := by
      rw [← Int.pow_add, ← Int.pow_add, ← Int.pow_add]
      congr 1
      omega
    have s3 : (2 : Int) ^ q * 2 ^ B * 2 ^ (v + 2) ≤ d * 2 ^ B * 2 ^ (v + 2) := Int.mul_le_mul_of_nonneg_right (Int.mul_le_mul_of_nonneg_right q1 (Int.le_of_lt h2B)) (Int.le_of_lt (pow2_pos _))
    omega
theorem scI_pos {n d f : Int} (hn : 0 < n) (hd : 0 < d) : 0 < (scI n d f).1 ∧ 0 < (scI n d f).2 := ⟨Int.mul_pos hn (pow2_pos _), Int.mul_pos hd (pow2_pos _)⟩
/-- one exponent more: half of it -/
theorem scI_half (n d e : Int) : (scI n d (0 - (e + 1))).1 * (scI n d (0 - e)).2 * 2 = (scI n d (0 - e)).1 * (scI n d (0 - (e + 1))).2 := by
  unfold scI
  generalize hA : (0 - (e + 1)).toNat = A
  generalize hB : (-(0 - (e + 1))).toNat = B
  generalize hA' : (0 - e).toNat = A'
  generalize hB' : (-(0 - e)).toNat = B'
  have h : A + B' + 1 = A' + B := by omega
  show n * 2 ^ A * (d * 2 ^ B') * 2 = n * 2 ^ A' * (d * 2 ^ B)
  have s : (2 : Int) ^ A * 2 ^ B' * 2 = 2 ^ A' * 2 ^ B := by
    rw [← Int.pow_add, ← Int.pow_add, ← h, Int.pow_succ]
  calc n * 2 ^ A * (d * 2 ^ B') * 2 = n * d * (2 ^ A * 2 ^ B' * 2) := by grind
    _ = n * d * (2 ^ A' * 2 ^ B) := by rw [s]
    _ = n * 2 ^ A' * (d * 2 ^ B) := by grind
/-- the cell: its k has just w bits, and is the whole part -/
theorem cellI_spec {n d w : Int} (hn : 0 < n) (hd : 0 < d) (hw : 1 ≤ w) :
    (cellI n d w).1 = (scI n d (0 - (cellI n d w).2)).1 / (scI n d (0 - (cellI n d w).2)).2 ∧ 2 ^ (w - 1).toNat ≤ (cellI n d w).1 ∧ (cellI n d w).1 < 2 ^ w.toNat ∧ bl n - bl d - w ≤ (cellI n d w).2 ∧ (cellI n d w).2 ≤ bl n - bl d - w + 1 := by
  obtain ⟨g1, g2⟩ := guess hn hd hw rfl
  have ew : w.toNat = (w - 1).toNat + 1 := by omega
  have ew2 : (w + 1).toNat = w.toNat + 1 := by omega
  generalize he : bl n - bl d - w = e at g1 g2
  obtain ⟨a0, b0⟩ := scI_pos (f := 0 - e) hn hd
  obtain ⟨a1, b1⟩ := scI_pos (f := 0 - (e + 1)) hn hd
  by_cases hc : 2 ^ w.toNat ≤ (scI n d (0 - e)).1 / (scI n d (0 - e)).2
  · have ec : cellI n d w = ((scI n d (0 - (e + 1))).1 / (scI n d (0 - (e + 1))).2, e + 1) := by
      unfold cellI
      rw [he, if_pos hc]
    rw [ec]
    have hh := scI_half n d e
    have hc' := (Int.le_ediv_iff_mul_le b0).mp hc
    refine ⟨rfl, (Int.le_ediv_iff_mul_le b1).mpr ?_, (Int.ediv_lt_iff_lt_mul b1).mpr ?_, by omega, by omega⟩
    · apply Int.le_of_mul_le_mul_right (a := (scI n d (0 - e)).2 * 2) _ (by omega)
      rw [show (scI n d (0 - (e + 1))).1 * ((scI n d (0 - e)).2 * 2) = (scI n d (0 - e)).1 * (scI n d (0 - (e + 1))).2 by rw [← hh]; grind]
      have := Int.mul_le_mul_of_nonneg_right hc' (Int.le_of_lt b1)
      rw [ew, Int.pow_succ] at this
      grind
    · apply Int.lt_of_mul_lt_mul_right (a := (scI n d (0 - e)).2 * 2) _ (by omega)
      rw [show (scI n d (0 - (e + 1))).1 * ((scI n d (0 - e)).2 * 2) = (scI n d (0 - e)).1 * (scI n d (0 - (e + 1))).2 by rw [← hh]; grind]
      have := Int.mul_lt_mul_of_pos_right g2 b1
      rw [ew2, Int.pow_succ] at this
      grind
  · have ec : cellI n d w = ((scI n d (0 - e)).1 / (scI n d (0 - e)).2, e) := by
      unfold cellI
      rw [he, if_neg hc]
    rw [ec]
    exact ⟨rfl, (Int.le_ediv_iff_mul_le b0).mpr (by rw [Int.mul_comm]; exact g1), by omega, by omega, by omega⟩
end Z
namespace Z
open L2 PySem PySem.Spec PyProof.Rows
open Evl (Ex ex_l ex_t ex_rd fresh_back)
mutual
/-- at most so long is its text -/
def szD : Da → Nat
  | .none => 4
  | .bool _ => 5
  | .int _ => 1921
  | .str x => 10 * x.length + 2
  | .list xs => szAll xs + 3
  | .tuple xs => szAll xs + 3
  | .dict _ => 0
def szAll : List Da → Nat
  | [] => 0
  | x :: xs => szD x + 2 + szAll xs
end
theorem strOk_small {x : Str} (h : PyData.strOk x = true) : ∀ c ∈ x.cps.toList, c < 16 ^ 8 := fun c hc => by
  unfold PyData.strOk at h
  rw [Array.all_eq_true_iff_forall_mem] at h
  have h1 := h c (by simpa using hc)
  have h2 : c < 0x110000 := of_decide_eq_true h1
  exact Nat.lt_trans h2 (by decide)
mutual
theorem szD_ok : ∀ d : Da, d.canLay0 = true → d.showable = true → d.shown.length ≤ szD d
  | .none, _, _ => by decide +kernel
  | .bool true, _, _ => by decide +kernel
  | .bool false, _, _ => by decide +kernel
  | .int i, _, h => int_text_len_1921 (of_decide_eq_true (show decide (i.natAbs.log2 < 1920) = true from h))
  | .str x, h, _ => StrLaws.reprText_len x (strOk_small h)
  | .list xs, h, h' => by
    have h1 := szAll_ok xs (by simpa [PyData.canLay0] using h) (by simpa [PyData.showable] using h')
    have h2 := listText_len_le (PyData.shownAll xs)
    show (listText (PyData.shownAll xs)).length ≤ szAll xs + 3
    omega
  | .tuple xs, h, h' => by
    have h1 := szAll_ok xs (by simpa [PyData.canLay0] using h) (by simpa [PyData.showable] using h')
    have h2 := tupleText_len_le (PyData.shownAll xs)
    show (tupleText (PyData.shownAll xs)).length ≤ szAll xs + 3
    omega
  | .dict _, h, _ => by simp [PyData.canLay0] at h
theorem szAll_ok : ∀ xs : List Da, PyData.canLayAll0 xs = true → PyData.showableAll xs = true → ((PyData.shownAll xs).map (·.length)).sum + 2 * (PyData.shownAll xs).length ≤ szAll xs
  | [], _, _ => by simp [PyData.shownAll, szAll]
  | x :: xs, h, h' => by
    have q : x.canLay0 = true ∧ PyData.canLayAll0 xs = true := by simpa [PyData.canLayAll0] using h
    have q' : x.showable = true ∧ PyData.showableAll xs = true := by simpa [PyData.showableAll] using h'
    have h1 := szD_ok x q.1 q'.1
    have h2 := szAll_ok xs q.2 q'.2
    simp only [PyData.shownAll, szAll, List.map_cons, List.sum_cons, List.length_cons]
    omega
end
/-- may be shown -/
def Sh (d : Da) : Prop := d.canLay0 = true ∧ d.showable = true ∧ d.depth ≤ 60 ∧ szD d ≤ 16000000
theorem Sh.len {d : Da} (h : Sh d) : d.shown.length ≤ sizeLine := Nat.le_trans (szD_ok d h.1 h.2.1) (Nat.le_trans h.2.2.2 (by decide))
def pick {α : Type} (perm : List Nat) (ws : List α) : List α := perm.filterMap fun i => ws[i]?
end Z
namespace Z
open L2 PySem PySem.Spec PyProof.Rows
open Evl (Ex ex_l ex_t ex_rd fresh_back)
def Cps (x : Str) : Prop := ∀ c ∈ x.cps.toList, c < 0x110000
theorem cps_ok {x : Str} : PyData.strOk x = true ↔ Cps x := by
  unfold PyData.strOk Cps
  rw [Array.all_eq_true_iff_forall_mem]
  simp
theorem cps_of (s : String) : Cps (Str.ofString s) := by
  rw [Str.ofString_eq_toList]
  intro c hc
  simp only [List.mem_map] at hc
  obtain ⟨ch, _, rfl⟩ := hc
  have := ch.valid
  show ch.val.toNat < _
  rcases this with h | h
  · exact Nat.lt_trans h (by decide)
  · exact h.2
theorem cps_app {x y : Str} (hx : Cps x) (hy : Cps y) : Cps (x ++ y) := by
  intro c hc
  have : c ∈ (x.cps ++ y.cps).toList := hc
  rw [Array.toList_append, List.mem_append] at this
  exact this.elim (hx c) (hy c)
theorem cps_char {q c : Nat} (hq : q < 0x110000) (hc : c < 0x110000) : ∀ k ∈ Builtin.Str.reprChar q c, k < 0x110000 := by
  have hh : ∀ (w : Nat), ∀ k ∈ List.replicate (w - ((Nat.toDigits 16 c).map Char.toNat).length) 48 ++ (Nat.toDigits 16 c).map Char.toNat, k < 0x110000 := fun w k hk => by
    rw [List.mem_append] at hk
    rcases hk with h | h
    · have := (List.mem_replicate.mp h).2; omega
    · obtain ⟨ch, _, rfl⟩ := List.mem_map.mp h
      have := ch.valid
      show ch.val.toNat < _
      rcases this with h | h
      · exact Nat.lt_trans h (by decide)
      · exact h.2
  intro k hk
  unfold Builtin.Str.reprChar at hk
  dsimp only at hk
  repeat' split at hk
  all_goals first
    | (simp only [List.mem_append, List.mem_cons, List.not_mem_nil, or_false] at hk; omega)
    | (rw [List.mem_append] at hk
       rcases hk with h | h
       · (simp only [List.mem_cons, List.not_mem_nil, or_false] at h; omega)
       · exact hh _ k h)
theorem cps_fold {q : Nat} (hq : q < 0x110000) : ∀ (l : List Nat) (acc : Array Nat), (∀ c ∈ l, c < 0x110000) → (∀ c ∈ acc.toList, c < 0x110000) → ∀ c ∈ (l.foldl (fun out c => out ++ (Builtin.Str.reprChar q c).toArray) acc).toList, c < 0x110000
  | [], _, _, ha => ha
  | x :: l, acc, hl, ha => by
    rw [List.foldl_cons]
    refine cps_fold hq l _ (fun c hc => hl c (List.mem_cons_of_mem _ hc)) fun c hc => ?_
    rw [Array.toList_append, List.mem_append] at hc
    rcases hc with h | h
    · exact ha c h
    · exact cps_char hq (hl x List.mem_cons_self) c (by simpa using h)
theorem cps_repr {x : Str} (h : Cps x) : Cps (reprText x) := by
  have hq : reprQuote x < 0x110000 := by unfold reprQuote; split <;> decide
  intro c hc
  unfold reprText at hc
  rw [Array.toList_push, List.mem_append, ← Array.foldl_toList] at hc
  rcases hc with hc | hc
  · refine cps_fold hq _ _ h (fun d hd => ?_) c hc
    have : d = reprQuote x := by simpa using hd
    omega
  · have : c = reprQuote x := by simpa using hc
    omega
theorem cps_text : ∀ (ts : List Str) (k : Nat) (acc : Str), Cps acc → (∀ t ∈ ts, Cps t) → Cps (textFrom k acc ts)
  | [], _, _, ha, _ => ha
  | t :: ts, k, acc, ha, h => cps_text ts (k + 1) _ (cps_app (cps_app ha (cps_of _)) (h t List.mem_cons_self)) fun u hu => h u (List.mem_cons_of_mem _ hu)
theorem cps_join {sep : Str} (hs : Cps sep) : ∀ ts : List Str, (∀ t ∈ ts, Cps t) → Cps (Str.join sep ts)
  | [], _ => fun c hc => by simp [Str.join, Str.empty] at hc
  | [x], h => h x List.mem_cons_self
  | x :: y :: r, h => cps_app (cps_app (h x List.mem_cons_self) hs) (cps_join hs (y :: r) fun t ht => h t (List.mem_cons_of_mem _ ht))
mutual
theorem cps_shown : ∀ d : Da, d.canLay0 = true → Cps d.shown
  | .none, _ => cps_of _
  | .bool b, _ => by cases b <;> exact cps_of _
  | .int i, _ => cps_of _
  | .str x, h => cps_repr (cps_ok.mp (by simpa [PyData.canLay0] using h))
  | .list xs, h => cps_app (cps_text _ _ _ (cps_of _) (cps_all xs (by simpa [PyData.canLay0] using h))) (cps_of _)
  | .tuple xs, h => cps_app (cps_app (cps_of _) (cps_join (cps_of _) _ (cps_all xs (by simpa [PyData.canLay0] using h)))) (cps_of _)
  | .dict _, h => by simp [PyData.canLay0] at h
theorem cps_all : ∀ xs : List Da, PyData.canLayAll0 xs = true → ∀ t ∈ PyData.shownAll xs, Cps t
  | [], _, t, ht => by simp [PyData.shownAll] at ht
  | x :: xs, h, t, ht => by
    have q : x.canLay0 = true ∧ PyData.canLayAll0 xs = true := by simpa [PyData.canLayAll0] using h
    rcases List.mem_cons.mp (show t ∈ x.shown :: PyData.shownAll xs from ht) with rfl | ht
    · exact cps_shown x q.1
    · exact cps_all xs q.2 t ht
end
theorem eqv_strs (a b c d : Str) : (PyData.list [.str a, .str b]).eqv (.list [.str c, .str d]) = (decide (a = c) && decide (b = d)) := by
  simp [PyData.eqv, PyData.eqvAll]
  by_cases h1 : a = c <;> by_cases h2 : b = d <;> simp [h1, h2]
theorem showI {n : Int} (h : Bn 1900 n) : n.natAbs.log2 < 1920 := by
  by_cases h0 : n.natAbs = 0
  · rw [h0]; decide
  · exact (Nat.log2_lt h0).mpr (Nat.lt_trans h.lt (Nat.pow_lt_pow_right (by decide) (by decide)))
theorem Sh.num {n d : Int} (hn : Bn 1900 n) (hd : Bn 1900 d) : Sh (Z.num n d) := by
  refine ⟨rfl, ?_, by show 1 ≤ 60; decide, by show 1921 + 2 + (1921 + 2 + 0) + 3 ≤ 16000000; decide⟩
  have := showI hn
  have := showI hd
  simp [PyData.showable, PyData.showableAll, *]
theorem Sh.int {n : Int} (hn : Bn 1900 n) : Sh (.int n) := by
  refine ⟨rfl, ?_, by show 0 ≤ 60; decide, by show 1921 ≤ 16000000; decide⟩
  have := showI hn
  simp [PyData.showable, *]
theorem Sh.none : Sh .none := ⟨rfl, rfl, by decide, by decide⟩
theorem Sh.bool (b : Bool) : Sh (.bool b) := ⟨rfl, rfl, by show 0 ≤ 60; decide, by show 5 ≤ 16000000; decide⟩
theorem pick_0 {α : Type} (a : α) : pick [0] [a] = [a] := rfl
theorem pick_01 {α : Type} (a b : α) : pick [0, 1] [a, b] = [a, b] := rfl
theorem pick_10 {α : Type} (a b : α) : pick [1, 0] [a, b] = [b, a] := rfl
theorem pick_012 {α : Type} (a b c : α) : pick [0, 1, 2] [a, b, c] = [a, b, c] := rfl
theorem pick_021 {α : Type} (a b c : α) : pick [0, 2, 1] [a, b, c] = [a, c, b] := rfl
theorem pick_102 {α : Type} (a b c : α) : pick [1, 0, 2] [a, b, c] = [b, a, c] := rfl
theorem pick_120 {α : Type} (a b c : α) : pick [1, 2, 0] [a, b, c] = [b, c, a] := rfl
theorem pick_201 {α : Type} (a b c : α) : pick [2, 0, 1] [a, b, c] = [c, a, b] := rfl
theorem pick_210 {α : Type} (a b c : α) : pick [2, 1, 0] [a, b, c] = [c, b, a] := rfl
theorem boolsD_true : ∀ ds : List Da, boolsD (ds.map fun _ => .bool true) = some (ds.map fun _ => true)
  | [] => rfl
  | d :: ds => by
    have := boolsD_true ds
    simp [boolsD, this]
theorem rangeD_mem {lo : Int} {n : Nat} {x : Da} (h : x ∈ rangeD lo n) : ∃ i : Int, x = .int i ∧ lo ≤ i ∧ i < lo + n := by
  unfold rangeD at h
  obtain ⟨i, hi, rfl⟩ := List.mem_map.mp h
  have := List.mem_range.mp hi
  exact ⟨_, rfl, by omega, by omega⟩
theorem all_true (ds : List Da) : (ds.map fun _ => true).all id = true := by
  induction ds with
  | nil => rfl
  | cons d ds ih => simpa using ih
theorem low_pos {n d : Int} (hn : 0 < n) (hd : 0 < d) : 0 < (low n d).1 ∧ 0 < (low n d).2 ∧ Int.gcd (low n d).1 (low n d).2 = 1 ∧ (low n d).1 ≤ n ∧ (low n d).2 ≤ d := by
  have g0 := gcd_pos (a := n) hd
  have d1 : (Int.gcd n d : Int) ∣ n := Int.gcd_dvd_left n d
  have d2 : (Int.gcd n d : Int) ∣ d := Int.gcd_dvd_right n d
  refine ⟨Int.ediv_pos_of_pos_of_dvd hn (Int.le_of_lt g0) d1, Int.ediv_pos_of_pos_of_dvd hd (Int.le_of_lt g0) d2, ?_, Int.ediv_le_self _ (Int.le_of_lt hn), Int.ediv_le_self _ (Int.le_of_lt hd)⟩
  show Int.gcd (n / Int.gcd n d) (d / Int.gcd n d) = 1
  exact Int.gcd_ediv_gcd_ediv_gcd (by omega)
end Z
namespace Z
open L2 PySem PySem.Spec PyProof.Rows
theorem bl_le {n : Int} {a : Nat} (h : Bn a n) : bl n ≤ a := by
  unfold bl
  have := bits_lt h
  omega
theorem bl_nn (n : Int) : 0 ≤ bl n := by unfold bl; omega
def oddN (n : Nat) : Nat := if h : n = 0 then 0 else if n % 2 = 0 then oddN (n / 2) else n
termination_by n
decreasing_by omega
theorem oddN_even {n : Nat} (h : 0 < n) (h2 : n % 2 = 0) : oddN n = oddN (n / 2) := by
  rw [oddN]
  rw [dif_neg (by omega), if_pos h2]
theorem oddN_odd {n : Nat} (h2 : n % 2 = 1) : oddN n = n := by
  rw [oddN]
  rw [dif_neg (by omega), if_neg (by omega)]
theorem oddN_spec (n : Nat) : 0 < n → oddN n % 2 = 1 ∧ ∃ b, n = oddN n * 2 ^ b := by
  induction n using Nat.strongRecOn with
  | ind n ih =>
    intro h
    by_cases h2 : n % 2 = 0
    · rw [oddN_even h h2]
      obtain ⟨o, b, e⟩ := ih (n / 2) (by omega) (by omega)
      refine ⟨o, b + 1, ?_⟩
      rw [Nat.pow_succ, ← Nat.mul_assoc, ← e]
      omega
    · rw [oddN_odd (by omega)]
      exact ⟨by omega, 0, by simp⟩
theorem odd_uniq {o p x y : Nat} (ho : o % 2 = 1) (hp : p % 2 = 1) (h : o * 2 ^ x = p * 2 ^ y) : o = p ∧ x = y := by
  induction x generalizing y with
  | zero =>
    cases y with
    | zero => simpa using h
    | succ y =>
      rw [Nat.pow_succ, ← Nat.mul_assoc] at h
      simp at h
      omega
  | succ x ih =>
    cases y with
    | zero =>
      rw [Nat.pow_succ, ← Nat.mul_assoc] at h
      simp at h
      omega
    | succ y =>
      rw [Nat.pow_succ, Nat.pow_succ, ← Nat.mul_assoc, ← Nat.mul_assoc] at h
      have := ih (y := y) (Nat.eq_of_mul_eq_mul_right (by decide) h)
      omega
theorem oddN_pos {n : Nat} (h : 0 < n) : 0 < oddN n := by have := (oddN_spec n h).1; omega
theorem oddN_le {n : Nat} (h : 0 < n) : oddN n ≤ n := by
  obtain ⟨_, b, e⟩ := oddN_spec n h
  have : oddN n * 1 ≤ oddN n * 2 ^ b := Nat.mul_le_mul_left _ (Nat.pow_pos (by decide))
  omega
theorem cop_two {p : Nat} (h : p % 2 = 1) (k : Nat) : Nat.Coprime p (2 ^ k) := by
  refine Nat.Coprime.pow_right k ?_
  have h1 : Nat.gcd p 2 ∣ 2 := Nat.gcd_dvd_right p 2
  have h2 : Nat.gcd p 2 ∣ p := Nat.gcd_dvd_left p 2
  have h3 : Nat.gcd p 2 ≤ 2 := Nat.le_of_dvd (by decide) h1
  have h4 : 0 < Nat.gcd p 2 := Nat.gcd_pos_of_pos_right _ (by decide)
  rcases Nat.lt_or_ge (Nat.gcd p 2) 2 with h5 | h5
  · show Nat.gcd p 2 = 1; omega
  · have h6 : Nat.gcd p 2 = 2 := by omega
    rw [h6] at h2
    omega
theorem oddN_pow2 {d k : Nat} (h : d ∣ 2 ^ k) : oddN d = 1 := by
  have hd : 0 < d := Nat.pos_of_dvd_of_pos h (Nat.pow_pos (by decide))
  obtain ⟨h1, b, e⟩ := oddN_spec d hd
  have : oddN d ∣ 2 ^ k := Nat.dvd_trans ⟨2 ^ b, e⟩ h
  exact Nat.Coprime.eq_one_of_dvd (cop_two h1 k) this
theorem lowZ {x y : Int} (hy : 0 < y) : (low x y).1 = 0 ↔ x = 0 := by
  have g0 := gcd_pos (a := x) hy
  have d1 : (Int.gcd x y : Int) ∣ x := Int.gcd_dvd_left x y
  constructor
  · intro h
    have h' : x / Int.gcd x y = 0 := h
    have := Int.ediv_mul_cancel d1
    rw [h'] at this
    omega
  · rintro rfl
    exact Int.zero_ediv _
theorem bl_le_iff {x : Nat} (hx : 0 < x) {w : Nat} : bl (x : Int) ≤ w ↔ x < 2 ^ w := by
  obtain ⟨m, e, h1, h2⟩ := bl_pos (n := (x : Int)) (by omega)
  have h1' : 2 ^ m ≤ x := by exact_mod_cast h1
  have h2' : x < 2 ^ (m + 1) := by exact_mod_cast h2
  rw [e]
  constructor
  · intro h
    exact Nat.lt_of_lt_of_le h2' (Nat.pow_le_pow_right (by decide) (by omega))
  · intro h
    have := (Nat.pow_lt_pow_iff_right (a := 2) (by decide)).mp (Nat.lt_of_le_of_lt h1' h)
    omega
/-- a rest of zero: only numbers of this width have it -/
theorem rest_zero {n d A B w : Nat} (hn : 0 < n) (hd : 0 < d) (hg : Nat.Coprime n d) (h1 : 2 ^ w ≤ n * 2 ^ A / (d * 2 ^ B)) (h2 : n * 2 ^ A / (d * 2 ^ B) < 2 ^ (w + 1)) :
    n * 2 ^ A % (d * 2 ^ B) = 0 ↔ oddN d = 1 ∧ oddN n < 2 ^ (w + 1) := by
  obtain ⟨o1, b, e1⟩ := oddN_spec n hn
  obtain ⟨o2, a, e2⟩ := oddN_spec d hd
  have hD : 0 < d * 2 ^ B := Nat.mul_pos hd (Nat.pow_pos (by decide))
  constructor
  · intro h
    have hv : d * 2 ^ B ∣ n * 2 ^ A := Nat.dvd_of_mod_eq_zero h
    have hd1 : d ∣ 2 ^ A := Nat.Coprime.dvd_of_dvd_mul_left (Nat.Coprime.symm hg) (Nat.dvd_trans ⟨2 ^ B, rfl⟩ hv)
    have p1 := oddN_pow2 hd1
    refine ⟨p1, ?_⟩
    generalize hk : n * 2 ^ A / (d * 2 ^ B) = k at h1 h2
    have hk0 : 0 < k := Nat.lt_of_lt_of_le (Nat.pow_pos (by decide)) h1
    have e3 : n * 2 ^ A = k * (d * 2 ^ B) := by rw [← hk]; exact (Nat.div_mul_cancel hv).symm
    obtain ⟨o3, c, e4⟩ := oddN_spec k hk0
    have e5 : oddN n * 2 ^ (b + A) = oddN k * 2 ^ (c + (a + B)) := by
      rw [p1, Nat.one_mul] at e2
      rw [Nat.pow_add, ← Nat.mul_assoc, ← e1, Nat.pow_add, ← Nat.mul_assoc, ← e4, Nat.pow_add, ← e2]
      exact e3
    have := (odd_uniq o1 o3 e5).1
    have := oddN_le hk0
    omega
  · rintro ⟨p1, p2⟩
    rw [p1, Nat.one_mul] at e2
    have eN : n * 2 ^ A = oddN n * 2 ^ (b + A) := by rw [Nat.pow_add, ← Nat.mul_assoc, ← e1]
    have eD : d * 2 ^ B = 2 ^ (a + B) := by rw [Nat.pow_add, ← e2]
    rw [eN, eD] at h1 ⊢
    by_cases hc : a + B ≤ b + A
    · refine Nat.mod_eq_zero_of_dvd (Nat.dvd_trans (Nat.pow_dvd_pow 2 hc) ⟨oddN n, Nat.mul_comm _ _⟩)
    · exfalso
      obtain ⟨t, ht⟩ : ∃ t, a + B = t + 1 + (b + A) := ⟨a + B - (b + A) - 1, by omega⟩
      rw [ht, Nat.pow_add 2 (t + 1) (b + A), Nat.mul_comm (2 ^ (t + 1)), Nat.mul_comm (oddN n), Nat.mul_div_mul_left _ _ (Nat.pow_pos (by decide))] at h1
      have h3 := (Nat.le_div_iff_mul_le (Nat.pow_pos (by decide))).mp h1
      have h4 : 2 ^ w * 2 ≤ 2 ^ w * 2 ^ (t + 1) := Nat.mul_le_mul_left _ (by rw [Nat.pow_succ]; have := Nat.pow_pos (n := t) (show 0 < 2 by decide); omega)
      rw [Nat.pow_succ] at p2
      omega
theorem natI {n : Int} (h : 0 < n) : ∃ m : Nat, n = (m : Int) ∧ 0 < m := ⟨n.toNat, by omega, by omega⟩
theorem pos_lw {n d w : Int} (hn : 0 < n) (hd : 0 < d) (hg : Int.gcd n d = 1) (hw : 1 ≤ w) : (posI n d w).1 = 0 ↔ oddN d.toNat = 1 ∧ bl (oddN n.toNat) ≤ w := by
  obtain ⟨c0, c1, c2, _⟩ := cellI_spec hn hd hw
  obtain ⟨a0, b0⟩ := scI_pos (f := 0 - (cellI n d w).2) hn hd
  unfold posI
  rw [lowZ b0]
  generalize (cellI n d w).1 = k at c0 c1 c2 ⊢
  generalize (cellI n d w).2 = e at c0 a0 b0 ⊢
  have e1 : (scI n d (0 - e)).1 - k * (scI n d (0 - e)).2 = (scI n d (0 - e)).1 % (scI n d (0 - e)).2 := by rw [c0, Int.emod_def, Int.mul_comm]
  rw [e1]
  unfold scI at c0 ⊢
  obtain ⟨n', rfl, hn'⟩ := natI hn
  obtain ⟨d', rfl, hd'⟩ := natI hd
  obtain ⟨w', rfl⟩ : ∃ w' : Nat, w = (w' : Int) + 1 := ⟨(w - 1).toNat, by omega⟩
  have ew : ((w' : Int) + 1).toNat = w' + 1 := by omega
  have ew2 : ((w' : Int) + 1 - 1).toNat = w' := by omega
  rw [ew] at c2
  rw [ew2] at c1
  dsimp only at c0 ⊢
  generalize (0 - e).toNat = A at c0 ⊢
  generalize (-(0 - e)).toNat = B at c0 ⊢
  have cast1 : (n' : Int) * 2 ^ A = ((n' * 2 ^ A : Nat) : Int) := by push_cast; rfl
  have cast2 : (d' : Int) * 2 ^ B = ((d' * 2 ^ B : Nat) : Int) := by push_cast; rfl
  rw [cast1, cast2] at c0 ⊢
  rw [← Int.natCast_ediv] at c0
  rw [c0] at c1 c2
  have r := rest_zero (A := A) (B := B) (w := w') hn' hd' (by simpa [Nat.Coprime, Int.gcd] using hg) (by exact_mod_cast c1) (by exact_mod_cast c2)
  rw [← Int.natCast_emod, Int.ofNat_eq_zero, r]
  show _ ↔ oddN d' = 1 ∧ bl (oddN n' : Int) ≤ ((w' + 1 : Nat) : Int)
  rw [bl_le_iff (oddN_pos hn')]
end Z
namespace Z
open L2 PySem PySem.Spec PyProof.Rows
open Evl (Ex ex_l ex_t ex_rd fresh_back)
/-- the remainder of a * x lies between l and h -/
def Hit (a m l h x : Int) : Prop := l ≤ a * x % m ∧ a * x % m ≤ h
/-- the least int from 0 on that hits -/
def LM (a m l h : Int) : Option Int → Prop
  | some x => 0 ≤ x ∧ Hit a m l h x ∧ ∀ y, 0 ≤ y → Hit a m l h y → x ≤ y
  | none => ∀ y, 0 ≤ y → ¬Hit a m l h y
/-- rounded up -/
def upI' (n d : Int) : Int := -(-n / d)
theorem up_iff {n d x : Int} (hd : 0 < d) : upI' n d ≤ x ↔ n ≤ d * x := by
  unfold upI'
  have h1 := Int.ediv_mul_le (-n) (show d ≠ 0 by omega)
  have h2 := Int.lt_ediv_add_one_mul_self (-n) hd
  generalize -n / d = q at h1 h2 ⊢
  have e1 : (q + 1) * d = q * d + d := by grind
  rw [e1] at h2
  constructor
  · intro h
    have : (-q) * d ≤ x * d := Int.mul_le_mul_of_nonneg_right h (by omega)
    have e2 : (-q) * d = -(q * d) := by grind
    have e3 : x * d = d * x := by grind
    omega
  · intro h
    apply Int.not_lt.mp
    intro hc
    have : (x + 1) * d ≤ (-q) * d := Int.mul_le_mul_of_nonneg_right (by omega) (by omega)
    have e2 : (-q) * d = -(q * d) := by grind
    have e3 : (x + 1) * d = d * x + d := by grind
    omega
theorem up_lt {n d : Int} (hd : 0 < d) : d * (upI' n d - 1) < n ∧ n ≤ d * upI' n d := by
  refine ⟨?_, (up_iff hd).mp (Int.le_refl _)⟩
  apply Int.not_le.mp
  intro h
  have := (up_iff (x := upI' n d - 1) hd).mpr h
  omega
theorem up_eq {n d x : Int} (hd : 0 < d) (h1 : d * (x - 1) < n) (h2 : n ≤ d * x) : upI' n d = x := by
  have a := (up_iff hd).mpr h2
  have b : ¬upI' n d ≤ x - 1 := fun h => absurd ((up_iff hd).mp h) (by omega)
  omega
theorem mod_of {t q r m : Int} (h : t = m * q + r) (h0 : 0 ≤ r) (h1 : r < m) : t % m = r ∧ t / m = q := by
  have hm : 0 < m := by omega
  have e : t % m = r := by
    rw [h, Int.add_comm, Int.add_mul_emod_self_left, Int.emod_eq_of_lt h0 h1]
  refine ⟨e, ?_⟩
  have := Int.mul_ediv_add_emod t m
  rw [e] at this
  have h3 : m * (t / m) = m * q := by omega
  exact Int.eq_of_mul_eq_mul_left (by omega) h3
theorem hit_of {a m l h x y : Int} (h0 : 0 < l) (hm : h < m) (h1 : l ≤ a * x - m * y) (h2 : a * x - m * y ≤ h) : Hit a m l h x := by
  have := (mod_of (t := a * x) (q := y) (r := a * x - m * y) (m := m) (by omega) (by omega) (by omega)).1
  unfold Hit
  rw [this]
  exact ⟨h1, h2⟩
theorem hit_to {a m l h x : Int} (H : Hit a m l h x) : l ≤ a * x - m * (a * x / m) ∧ a * x - m * (a * x / m) ≤ h := by
  have := Int.mul_ediv_add_emod (a * x) m
  unfold Hit at H
  omega
/-- no multiple lies in it: what is left for the smaller problem -/
theorem lm_step {a m l h : Int} (ha : 0 < a) (h0 : 0 < l) (hl : l ≤ h) (hm : h < m) (hf : h < a * upI' l a) :
    (0 < -h % a ∧ -h % a ≤ -l % a ∧ -l % a < a) ∧ (∀ r, LM (m % a) a (-h % a) (-l % a) r → LM a m l h (r.map fun y => upI' (l + m * y) a)) := by
  obtain ⟨u1, u2⟩ := up_lt (n := l) ha
  generalize hc : upI' l a = c at u1 u2 hf
  have e1 : a * (c - 1) = a * c - a := by grind
  rw [e1] at u1
  -- the interval, from the multiple above it
  have m1 : -l % a = a * c - l := (mod_of (q := -c) (by grind) (by omega) (by omega)).1
  have m2 : -h % a = a * c - h := (mod_of (q := -c) (by grind) (by omega) (by omega)).1
  rw [m1, m2]
  have b1 : 0 < a * c - h := by omega
  have b2 : a * c - h ≤ a * c - l := by omega
  have b3 : a * c - l < a := by omega
  refine ⟨⟨b1, b2, b3⟩, ?_⟩
  have hm' := Int.mul_ediv_add_emod m a
  generalize hq : m / a = q at hm'
  generalize hk : m % a = k at hm'
  have k0 : 0 ≤ k := by rw [← hk]; exact Int.emod_nonneg _ (by omega)
  -- from a hit of the smaller problem
  have up1 : ∀ y, 0 ≤ y → Hit k a (a * c - h) (a * c - l) y → ∃ x, 0 ≤ x ∧ l ≤ a * x - m * y ∧ a * x - m * y ≤ h := fun y y0 hy => by
    obtain ⟨t1, t2⟩ := hit_to hy
    generalize hu : k * y / a = u at t1 t2
    have u0 : 0 ≤ u := by rw [← hu]; exact Int.ediv_nonneg (Int.mul_nonneg k0 y0) (by omega)
    have q0 : 0 ≤ q := by rw [← hq]; exact Int.ediv_nonneg (by omega) (by omega)
    have c0 : 0 ≤ c := by
      apply Int.not_lt.mp
      intro hc
      have : a * c ≤ a * 0 := Int.mul_le_mul_of_nonneg_left (by omega) (by omega)
      omega
    have x0 : 0 ≤ q * y := Int.mul_nonneg q0 y0
    have ex : a * (u + q * y + c) - m * y = a * u + a * c - k * y := by rw [← hm']; grind
    exact ⟨u + q * y + c, by omega, by omega, by omega⟩
  have down : ∀ x y, l ≤ a * x - m * y → a * x - m * y ≤ h → Hit k a (a * c - h) (a * c - l) y := fun x y t1 t2 => by
    have ex : a * x - m * y = a * (x - q * y) - k * y := by rw [← hm']; grind
    have ez : k * y - a * (x - q * y - c) = k * y - a * (x - q * y) + a * c := by grind
    exact hit_of (y := x - q * y - c) b1 (by omega) (by omega) (by omega)
  intro r hr
  cases r with
  | none =>
    intro x x0 hx
    obtain ⟨t1, t2⟩ := hit_to hx
    by_cases hy : 0 ≤ a * x / m
    · exact hr _ hy (down _ _ t1 t2)
    · exact absurd (Int.ediv_nonneg (Int.mul_nonneg (Int.le_of_lt ha) x0) (by omega)) hy
  | some y =>
    obtain ⟨y0, hy, hmin⟩ := hr
    obtain ⟨x, x0, t1, t2⟩ := up1 y y0 hy
    have ee : upI' (l + m * y) a = x := by
      have e3 : a * (x - 1) = a * x - a := by grind
      exact up_eq ha (by omega) (by omega)
    show LM a m l h (some (upI' (l + m * y) a))
    rw [ee]
    refine ⟨x0, hit_of h0 hm t1 t2, fun x' x0' hx' => ?_⟩
    obtain ⟨s1, s2⟩ := hit_to hx'
    have y0' : 0 ≤ a * x' / m := Int.ediv_nonneg (Int.mul_nonneg (Int.le_of_lt ha) x0') (by omega)
    have hle := hmin _ y0' (down _ _ s1 s2)
    rw [← ee]
    rw [up_iff ha]
    have : m * y ≤ m * (a * x' / m) := Int.mul_le_mul_of_nonneg_left hle (by omega)
    omega
/-- the steps put aside -/
inductive Chn (A M L H : Int) : List (Int × Int × Int) → Int → Int → Int → Int → Prop
  | nil : Chn A M L H [] A M L H
  | snoc {os : List (Int × Int × Int)} {a m l h : Int} (c : Chn A M L H os a m l h) (ha : 0 < a) (hf : h < a * upI' l a) : Chn A M L H (os ++ [(a, m, l)]) (m % a) a (-h % a) (-l % a)
theorem Chn.ok {A M L H : Int} (hA : 0 ≤ A) (hAM : A < M) (hL : 0 < L) (hLH : L ≤ H) (hM : H < M) {os : List (Int × Int × Int)} {a m l h : Int} (c : Chn A M L H os a m l h) : 0 ≤ a ∧ a < m ∧ 0 < l ∧ l ≤ h ∧ h < m ∧ m ≤ M ∧ a * m * 2 ^ os.length ≤ A * M := by
  induction c with
  | nil => exact ⟨hA, hAM, hL, hLH, hM, Int.le_refl _, by simp⟩
  | snoc c ha hf ih =>
    rename_i os a m l h
    obtain ⟨i1, i2, i3, i4, i5, i6, i7⟩ := ih
    obtain ⟨⟨s1, s2, s3⟩, _⟩ := lm_step (m := m) ha i3 i4 i5 hf
    have r0 := Int.emod_nonneg m (show a ≠ 0 by omega)
    have r1 := Int.emod_lt_of_pos m ha
    refine ⟨r0, r1, s1, s2, s3, by omega, ?_⟩
    refine Int.le_trans ?_ i7
    rw [List.length_append, List.length_cons, List.length_nil, Int.pow_succ]
    have q1 := Int.mul_ediv_add_emod m a
    have q2 : 1 ≤ m / a := by
      have := (Int.le_ediv_iff_mul_le ha (a := 1) (b := m)).mpr (by omega)
      exact this
    have q3 : a * 1 ≤ a * (m / a) := Int.mul_le_mul_of_nonneg_left q2 (by omega)
    have q4 : 2 * (m % a) ≤ m := by omega
    have p := pow2_pos os.length
    have e : m % a * a * (2 ^ os.length * 2) = 2 * (m % a) * (a * 2 ^ os.length) := by grind
    have e2 : a * m * 2 ^ os.length = m * (a * 2 ^ os.length) := by grind
    rw [e, e2]
    exact Int.mul_le_mul_of_nonneg_right q4 (Int.mul_nonneg (by omega) (Int.le_of_lt p))
end Z
namespace Z
open L2 PySem PySem.Spec PyProof.Rows
end Z
namespace Z
open L2 PySem PySem.Spec PyProof.Rows
end Z
namespace Z
open L2 PySem PySem.Spec PyProof.Rows
open Evl (Ex ex_l ex_t ex_rd fresh_back)
def intsD : List Da → Option (List Int)
  | [] => some []
  | .int i :: ds => (intsD ds).map (i :: ·)
  | _ => none
theorem ints_v {K : Fg} {F : Hp} : ∀ {vs : List V} {ds : List Da} {ns : List Int}, Rps K F vs ds → intsD ds = some ns → vs = ns.map V.int
  | _, _, _, .nil, h => by cases h; rfl
  | _, d :: ds, ns, .cons r t, h => by
    cases d with
    | int i =>
      unfold intsD at h
      cases q : intsD ds with
      | none => rw [q] at h; cases h
      | some cs =>
        rw [q] at h
        cases h
        cases r
        rw [ints_v t q]
        rfl
    | _ => cases h
theorem intsD_map (ns : List Int) : intsD (ns.map PyData.int) = some ns := by
  induction ns with
  | nil => rfl
  | cons n ns ih => simp [intsD, ih]
def cMinL : CF := fun rs post => match rs with
  | [.val (.list ds)] => (match intsD ds with | some ns => 0 < ns.length ∧ ∀ m, m ∈ ns → (∀ y, y ∈ ns → m ≤ y) → post (.int m) | none => False)
  | _ => False
section
variable {K : Fg}
theorem ok_minL : CallOk K (rMin K) cMinL := fun F H a fu vs rs post Q e t hf k => by
  unfold cMinL at hf
  split at hf
  · rename_i ds
    split at hf
    · rename_i ns q
      obtain ⟨v, rfl, r⟩ := t.v1
      cases r with
      | lst sq m =>
        rw [ints_v m q] at sq
        exact ⟨_, ns, rfl, .inl (.inl (e _ _ sq)), hf.1, fun m h1 h2 => k _ _ H F (hf.2 m h1 h2) (Gr.refl e) (.int _)⟩
    · exact hf.elim
  · exact hf.elim
end
section
variable {X : Cx} {p pos : Pos} {e : Expr} {tr : DA}
theorem e_minL (hc : X.calm = true) (hg : Gl X "min") (hm : X.mg "min" = none) (ha : PA X [e] (upA X.K tr)) (he : starEach [e] X.env = (false, eval e X.env) :: starEach [] X.env := by rfl) : PE X (.Call (.Name "min" p) [e] [] pos) (up X.K (dCB cMinL tr)) := e_callB (cr_min hc) ok_minL hg hm (by decide +kernel) ha (by decide) (by decide) he rfl
end
end Z
namespace Z
open L2 PySem PySem.Spec PyProof.Rows
open Evl (Ex ex_l ex_t ex_rd fresh_back)
end Z
namespace Z
open L2 PySem PySem.Spec PyProof.Rows
open Evl (Ex ex_l ex_t ex_rd fresh_back)
abbrev DO := Gs → (Option Int → Gs → Prop) → Prop
def oNo : DO := fun g Q => Q none g
def oSo (te : DE) : DO := fun g Q => te g fun r g1 => match r with
  | .val (.int i) => Q (some i) g1
  | _ => False
def upO (K : Fg) (t : DO) : TO := fun σ H Q => ∃ c g tv tr F a post, Sta K c g σ H tv tr F a ∧ t g post ∧
  ∀ o g' H' F' a', post o g' → Sta K c g' σ H' tv tr F' a' → Q o H'
def cutD (ds : List Da) (lo hi : Option Int) : List Da := (ds.drop (HT.sIx ds.length 0 lo)).take (HT.sIx ds.length ds.length hi - HT.sIx ds.length 0 lo)
def dSl (ta : DE) (tl th : DO) : DE := fun g Q => ta g fun x g1 => tl g1 fun lo g2 => th g2 fun hi g3 => match x with
  | .val (.list ds) => Q (.val (.list (cutD ds lo hi))) g3
  | .val (.tuple ds) => ¬(HT.sIx ds.length 0 lo = 0 ∧ HT.sIx ds.length ds.length hi = ds.length) ∧ Q (.val (.tuple (cutD ds lo hi))) g3
  | _ => False
theorem Rps.drop {K : Fg} {F : Hp} : ∀ {vs : List V} {ds : List Da} (n : Nat), Rps K F vs ds → Rps K F (vs.drop n) (ds.drop n)
  | _, _, 0, h => h
  | _, _, n + 1, .nil => .nil
  | _, _, n + 1, .cons _ t => Rps.drop n t
theorem Rps.take {K : Fg} {F : Hp} : ∀ {vs : List V} {ds : List Da} (n : Nat), Rps K F vs ds → Rps K F (vs.take n) (ds.take n)
  | _, _, 0, _ => .nil
  | _, _, n + 1, .nil => .nil
  | _, _, n + 1, .cons r t => .cons r (Rps.take n t)
theorem Rps.cut {K : Fg} {F : Hp} {vs : List V} {ds : List Da} (h : Rps K F vs ds) (lo hi : Option Int) : Rps K F (cutV vs lo hi) (cutD ds lo hi) := by
  unfold cutV cutD
  rw [h.len]
  exact (h.drop _).take _
section
variable {X : Cx} {e : Expr} {te : DE}
theorem po_to {o : Option Expr} {t t' : TO} (h : PO X o t) (i : ∀ σ H Q, t' σ H Q → t σ H Q) : PO X o t' := ⟨fun pins s σ H Q I q => h.run pins s σ H Q I (i σ H Q q)⟩
theorem o_none : PO X none (upO X.K oNo) := po_to po_none fun σ H Q q => by
  obtain ⟨c, g, tv, tr, F, ad, post, s, t, k⟩ := q
  exact k none g H F ad t s
theorem o_some (h : PE X e (up X.K te)) : PO X (some e) (upO X.K (oSo te)) := po_to (po_some h) fun σ H Q q => by
  obtain ⟨c, g, tv, tr, F, ad, post, s, t, k⟩ := q
  refine ⟨c, g, tv, tr, F, ad, _, s, t, fun r g1 v H1 F1 a1 t1 s1 => ?_⟩
  cases r with
  | val d =>
    cases d with
    | int i =>
      have hr : Rp X.K F1 v (.int i) := s1.top
      cases hr
      exact ⟨i, rfl, k _ g1 H1 F1 a1 t1 s1.pop1⟩
    | _ => exact t1.elim
  | _ => exact t1.elim
variable {lo hi : Option Expr} {tl th : DO} {ta : DE} {a : Expr} {p2 pos : Pos}
theorem e_sl (ha : PE X a (up X.K ta)) (hl : PO X lo (upO X.K tl)) (hu : PO X hi (upO X.K th)) : PE X (.Subscript a (.Slice lo hi none p2) pos) (up X.K (dSl ta tl th)) := pe_to (pe_slice (sl_list.or sl_tup) ha hl hu) fun σ H Q q => by
  obtain ⟨c, g, tv, tr, F, ad, post, s, t, k⟩ := q
  refine ⟨c, g, tv, tr, F, ad, _, s, t, fun x g1 v1 H1 F1 a1 t1 s1 => ?_⟩
  refine ⟨c, g1, _, _, F1, a1, _, s1, t1, fun l g2 H2 F2 a2 t2 s2 => ?_⟩
  refine ⟨c, g2, _, _, F2, a2, _, s2, t2, fun u g3 H3 F3 a3 t3 s3 => ?_⟩
  cases x with
  | val d =>
    cases d with
    | list ds =>
      have hr : Rp X.K F3 v1 (.list ds) := s3.top
      cases hr with
      | lst sq m =>
        rename_i pp xs
        refine .inl ⟨_, _, rfl, .inl (.inl (s3.eh _ _ sq)), fun q hq => ?_⟩
        have gr := Gr.new (o := .lst (cutV xs l u)) s3.eh hq
        exact k _ g3 _ _ _ a3 t3 ((s3.pop1.grow gr).push (r := .val (.list (cutD ds l u))) (.lst upd_same ((m.cut l u).up gr.f)))
    | tuple ds =>
      have hr : Rp X.K F3 v1 (.tuple ds) := s3.top
      cases hr with
      | tup sq m =>
        rename_i pp xs
        refine .inr ⟨_, _, rfl, ex_t s3.eh sq, by rw [m.len]; exact t3.1, fun q hq => ?_⟩
        have gr := Gr.new (o := .tup (cutV xs l u)) s3.eh hq
        exact k _ g3 _ _ _ a3 t3.2 ((s3.pop1.grow gr).push (r := .val (.tuple (cutD ds l u))) (.tup (.inl (.inl upd_same)) ((m.cut l u).up gr.f)))
    | _ => exact t3.elim
  | _ => exact t3.elim
end
end Z
namespace Z
open L2 PySem PySem.Spec PyProof.Rows
open Evl (Ex ex_l ex_t ex_rd fresh_back)
def dBy (tab : Ru → Da) (te : DE) : DE := fun g Q => te g fun r g1 => match r with
  | .val (.str x) => ∃ ru : Ru, x = ru.s ∧ Q (.val (tab ru)) g1
  | _ => False
section
variable {X : Cx} {b : Expr} {te : DE} {p pos : Pos} {x : Str}
theorem e_by {ra : Addr} {tab : Ru → Da} (hg : Gl X x) (hm : X.mg x = some (.ref ra)) (hk : ∀ ru : Ru, ∃ v, KDct X.K X.w ra ru.s v ∧ ∀ F, Rp X.K F v (tab ru)) (hb : PE X b (up X.K te)) (hd : (x == ("__debug__" : Str)) = false := by decide) (hs : PlainIx b := by exact fun _ _ => rfl) :
    PE X (.Subscript (.Name x p) b pos) (up X.K (dBy tab te)) := pe_to (pe_ix ix_kdict (pe_glob hg hm (show RelV (.ref ra) (.ref ra) from rfl) hd) hb hs) fun σ H Q q => by
  obtain ⟨c, g, tv, tr, F, ad, post, s, t, k⟩ := q
  refine ⟨c, g, tv, tr, F, ad, _, s, t, fun r g1 v1 H1 F1 a1 t1 s1 => ?_⟩
  cases r with
  | val d =>
    cases d with
    | str z =>
      have hr : Rp X.K F1 v1 (.str z) := s1.top
      cases hr
      obtain ⟨ru, rfl, t1⟩ := t1
      obtain ⟨v, h1, h2⟩ := hk ru
      exact ⟨ra, ru.s, v, rfl, rfl, h1, k _ g1 v H1 F1 a1 t1 (s1.pop1.push (r := .val (tab ru)) (h2 F1))⟩
    | _ => exact t1.elim
  | _ => exact t1.elim
end
end Z
namespace Z
open L2 PySem PySem.Spec PyProof.Rows
end Z
namespace Z
open L2 PySem PySem.Spec PyProof.Rows
open Evl (Ex ex_l ex_t ex_rd fresh_back)
def rSortedD (K : Fg) : List V → Hp → VK → Prop := fun vs H Q => ∃ (a : Addr) (bs : List (V × Da)), vs = [V.ref a] ∧ SqL K H a (bs.map Prod.fst) ∧ (∀ b ∈ bs, Dp K H b.1 b.2) ∧ PySem.W.AllAlike (bs.map Prod.snd) ∧ PySem.W.Sortable (bs.map Prod.snd) ∧ (∀ b ∈ bs, b.2.depth ≤ 50) ∧
  ∀ (bs' : List (V × Da)) (p : Addr), bs'.Perm bs → (bs'.map Prod.snd).Pairwise (fun a b => PySem.W.dataLe false id a b = true) → H p = none → Q (.ref p) (upd H p (.lst (bs'.map Prod.fst)))
theorem each_vals : ∀ {bs : List (V × Da)} {its : List Value}, Vals (bs.map Prod.fst) its → PySem.W.EachIs (fun v b => RelV b.1 v) its bs
  | [], _, h => by cases h; exact .nil
  | b :: bs, _, h => by
    cases h with
    | cons h t => exact .cons h (each_vals t)
theorem vals_each : ∀ {bs : List (V × Da)} {its : List Value}, PySem.W.EachIs (fun v b => RelV b.1 v) its bs → Vals (bs.map Prod.fst) its
  | _, _, .nil => .nil
  | _, _, .cons h t => .cons h (vals_each t)
theorem each_and {α β : Type} {R S : α → β → Prop} : ∀ {as : List α} {bs : List β}, PySem.W.EachIs R as bs → (∀ a, ∀ b ∈ bs, R a b → S a b) → PySem.W.EachIs S as bs
  | _, _, .nil, _ => .nil
  | _, _, .cons h t, k => .cons (k _ _ (List.mem_cons_self ..) h) (each_and t fun a b hb => k a b (List.mem_cons_of_mem _ hb))
section
variable {X : Cx}
theorem cr_sortedD (hu : X.A.units + 64 < cLine) : CallR X (.builtin "sorted") (rSortedD X.K) := by
  intro pins s σ H vs us Q I r h
  obtain ⟨a, bs, rfl, hs, hd, ha, hk, hdp, q⟩ := h
  obtain ⟨its, rv, hl, hz⟩ := I.list hs
  rw [Vals.ref1 r]
  have e := each_vals rv
  have er : PySem.W.EachIs (fun v (b : V × Da) => ∃ as, Reads s.heap v b.2 as) its bs := each_and e fun v b hb hr => Dp.reads I b.2 b.1 v (hd b hb) hr
  rw [List.length_map] at hz
  refine PySem.W.sorted_data (enc := Prod.snd) hl.isList e er ha hk hz (fun b hb => by have := hdp b hb; omega) fun out h1 h2 => ?_
  obtain ⟨ep, he'⟩ := PyProof.Rows.sortedAll_at s.heap its out.toArray
  have pm : (bs.mergeSort (PySem.W.dataLe false Prod.snd)).Perm bs := List.mergeSort_perm ..
  have pw : ((bs.mergeSort (PySem.W.dataLe false Prod.snd)).map Prod.snd).Pairwise (fun a b => PySem.W.dataLe false id a b = true) := by
    rw [List.pairwise_map]
    exact PySem.W.sort_pairwise (PySem.W.sortLe_total _ _ _) bs
  have hlen : ((bs.mergeSort (PySem.W.dataLe false Prod.snd)).map Prod.fst).length ≤ sizeLine := by rw [List.length_map, pm.length_eq]; exact hz
  exact ⟨.ref _, upd H (s.heap.objs.size + 1) (.lst ((bs.mergeSort (PySem.W.dataLe false Prod.snd)).map Prod.fst)), I.laid (t' := s.toks) (fun _ _ => PyProof.Rows.sortedAll_old) (Nat.le_succ _) ⟨hlen, out, ep, vals_each h2, he'⟩, rfl, q _ _ pm pw (I.hok.fresh (Nat.le_succ _))⟩
end
def cSortedD : CF := fun rs post => match rs with
  | [.val (.list ds)] => PySem.W.AllAlike ds ∧ PySem.W.Sortable ds ∧ (∀ d ∈ ds, d.canLay0 = true ∧ d.depth ≤ 50) ∧ ∀ ds' : List Da, ds'.Perm ds → ds'.Pairwise (fun a b => PySem.W.dataLe false id a b = true) → post (.list ds')
  | _ => False
theorem rps_zip {K : Fg} {F : Hp} : ∀ {xs : List V} {ds : List Da}, Rps K F xs ds → ∃ bs : List (V × Da), bs.map Prod.fst = xs ∧ bs.map Prod.snd = ds ∧ ∀ b ∈ bs, Rp K F b.1 b.2
  | _, _, .nil => ⟨[], rfl, rfl, fun b hb => nomatch hb⟩
  | _, _, .cons h t => by
    obtain ⟨bs, rfl, rfl, h3⟩ := rps_zip t
    refine ⟨(_, _) :: bs, rfl, rfl, fun b hb => ?_⟩
    rcases List.mem_cons.mp hb with rfl | hb
    · exact h
    · exact h3 b hb
theorem zip_rps {K : Fg} {F : Hp} : ∀ {bs : List (V × Da)}, (∀ b ∈ bs, Rp K F b.1 b.2) → Rps K F (bs.map Prod.fst) (bs.map Prod.snd)
  | [], _ => .nil
  | b :: bs, h => .cons (h b (List.mem_cons_self ..)) (zip_rps fun c hc => h c (List.mem_cons_of_mem _ hc))
theorem ok_sortedD {K : Fg} : CallOk K (rSortedD K) cSortedD := fun F H a fu vs rs post Q e t hf k => by
  unfold cSortedD at hf
  split at hf
  · rename_i ds
    obtain ⟨v, rfl, r⟩ := t.v1
    obtain ⟨h1, h2, h3, h4⟩ := hf
    cases r with
    | lst sq m =>
      obtain ⟨bs, rfl, rfl, hb⟩ := rps_zip m
      refine ⟨_, bs, rfl, .inl (.inl (e _ _ sq)), fun b hm => (hb b hm).dp e _ _ (h3 _ (List.mem_map_of_mem hm)).1, h1, h2, fun b hm => (h3 _ (List.mem_map_of_mem hm)).2, fun bs' p pm pw hp => ?_⟩
      have gr := Gr.new (o := .lst (bs'.map Prod.fst)) e hp
      exact k _ _ _ _ (h4 _ (pm.map _) pw) gr (.lst upd_same ((zip_rps fun b hm => hb b (pm.mem_iff.mp hm)).up gr.f))
  · exact hf.elim
/-- pairs in order: their first ints are -/
theorem le_fst {i j : Int} {x y : Da} (h : PySem.W.dataLe false id (.tuple [.int i, x]) (.tuple [.int j, y]) = true) : i ≤ j := by
  rcases Int.lt_or_le j i with q | q
  · exfalso
    have h' : (!PyProof.Rows.lexLt PyProof.Rows.itemOrd (PySem.W.keyToks (.tuple [.int j, y])) (PySem.W.keyToks (.tuple [.int i, x]))) = true := h
    rw [Bool.not_eq_true'] at h'
    have e : PyProof.Rows.lexLt PyProof.Rows.itemOrd (PySem.W.keyToks (.tuple [.int j, y])) (PySem.W.keyToks (.tuple [.int i, x])) = true := by
      refine PyProof.Rows.lex_true.mpr (.inr ⟨rfl, PyProof.Rows.lex_true.mpr (.inl (decide_eq_true q))⟩)
    rw [e] at h'
    cases h'
  · exact q
section
variable {X : Cx} {p pos : Pos} {e : Expr} {tr : DA} {k : Nat}
theorem e_sortedD (hr : Room k X.A) (hg : Gl X "sorted") (hm : X.mg "sorted" = none) (ha : PA X [e] (upA X.K tr)) (he : starEach [e] X.env = (false, eval e X.env) :: starEach [] X.env := by rfl) : PE X (.Call (.Name "sorted" p) [e] [] pos) (up X.K (dCB cSortedD tr)) := e_callB (cr_sortedD hr.units) ok_sortedD hg hm (by decide +kernel) ha (by decide) (by decide) he rfl
end
end Z
namespace Z
open L2 PySem PySem.Spec PyProof.Rows
open Evl (Ex ex_l ex_t ex_rd fresh_back)
theorem div_cross {a b a' b' : Int} (hb : 0 < b) (hb' : 0 < b') (h : a * b' = a' * b) : a / b = a' / b' := by
  have e1 : a / b = (a * b') / (b * b') := (Int.mul_ediv_mul_of_pos_left a b hb').symm
  have e2 : a' / b' = (a' * b) / (b' * b) := (Int.mul_ediv_mul_of_pos_left a' b' hb).symm
  rw [e1, e2, h, Int.mul_comm b b']
theorem low_mul {x y c : Int} (hc : 0 < c) : low (x * c) (y * c) = low x y := by
  unfold low
  rw [Int.gcd_mul_right, Int.natCast_mul]
  have e : ((c.natAbs : Nat) : Int) = c := by omega
  rw [e, Int.mul_ediv_mul_of_pos_left _ _ hc, Int.mul_ediv_mul_of_pos_left _ _ hc]
theorem low_cross {x y x' y' : Int} (hy : 0 < y) (hy' : 0 < y') (h : x * y' = x' * y) : low x y = low x' y' := by
  rw [← low_mul (x := x) (y := y) hy', ← low_mul (x := x') (y := y') hy, h, Int.mul_comm y y']
theorem low_self {n d : Int} (h : Int.gcd n d = 1) : low n d = (n, d) := by
  unfold low
  rw [h]
  simp
theorem mod_cross {a b a' b' : Int} (hb : 0 < b) (hb' : 0 < b') (h : a * b' = a' * b) : (a % b) * b' = (a' % b') * b := by
  have e := div_cross hb hb' h
  rw [Int.emod_def, Int.emod_def, ← e, Int.sub_mul, Int.sub_mul, h]
  grind
theorem low_val {x y : Int} (hy : 0 < y) : (low x y).1 * y = x * (low x y).2 := by
  unfold low
  obtain ⟨u, hu⟩ : (Int.gcd x y : Int) ∣ x := Int.gcd_dvd_left x y
  obtain ⟨v, hv⟩ : (Int.gcd x y : Int) ∣ y := Int.gcd_dvd_right x y
  have g0 := gcd_pos (a := x) hy
  generalize (Int.gcd x y : Int) = g at *
  subst hu hv
  rw [Int.mul_ediv_cancel_left _ (by omega), Int.mul_ediv_cancel_left _ (by omega)]
  grind
theorem pow_lt_pow2 {a b : Nat} (h : (2 : Int) ^ a < 2 ^ b) : a < b := by
  by_cases q : a < b
  · exact q
  · have : (2 : Int) ^ b ≤ 2 ^ a := by
      obtain ⟨c, rfl⟩ : ∃ c, a = b + c := ⟨a - b, by omega⟩
      rw [Int.pow_add]
      have h1 := pow2_pos b
      have h2 := pow2_pos c
      have := Int.mul_le_mul_of_nonneg_left (show (1 : Int) ≤ 2 ^ c by omega) (Int.le_of_lt h1)
      omega
    omega
theorem pow_le2 {a b : Nat} (h : a ≤ b) : (2 : Int) ^ a ≤ 2 ^ b := by
  obtain ⟨c, rfl⟩ : ∃ c, b = a + c := ⟨b - a, by omega⟩
  rw [Int.pow_add]
  have h1 := pow2_pos a
  have h2 := pow2_pos c
  have := Int.mul_le_mul_of_nonneg_left (show (1 : Int) ≤ 2 ^ c by omega) (Int.le_of_lt h1)
  omega
/-- a cell told by any exponent p - q -/
theorem cell_at {n d w : Int} (hn : 0 < n) (hd : 0 < d) (hw : 1 ≤ w) {p q : Nat} (h1 : 2 ^ (w - 1).toNat ≤ n * 2 ^ q / (d * 2 ^ p)) (h2 : n * 2 ^ q / (d * 2 ^ p) < 2 ^ w.toNat) :
    cellI n d w = (n * 2 ^ q / (d * 2 ^ p), (p : Int) - q) ∧ posI n d w = low (n * 2 ^ q % (d * 2 ^ p)) (d * 2 ^ p) := by
  obtain ⟨c1, c2, c3, _⟩ := cellI_spec hn hd hw
  have hp : 0 < d * 2 ^ p := Int.mul_pos hd (pow2_pos p)
  generalize hk : (cellI n d w).1 = k at c1 c2 c3
  generalize he : (cellI n d w).2 = e at c1
  unfold scI at c1
  generalize hA : (0 - e).toNat = A at c1
  generalize hB : (-(0 - e)).toNat = B at c1
  have hP : 0 < d * 2 ^ B := Int.mul_pos hd (pow2_pos B)
  replace c1 : k = n * 2 ^ A / (d * 2 ^ B) := c1
  rw [c1] at c2 c3
  have ew : w.toNat = (w - 1).toNat + 1 := by omega
  have x1 := (Int.le_ediv_iff_mul_le hp).mp h1
  have x2 := (Int.ediv_lt_iff_lt_mul hp).mp h2
  have y1 := (Int.le_ediv_iff_mul_le hP).mp c2
  have y2 := (Int.ediv_lt_iff_lt_mul hP).mp c3
  have mono : ∀ {a b : Int} (j : Nat), a ≤ b → a * 2 ^ j ≤ b * 2 ^ j := fun j h => Int.mul_le_mul_of_nonneg_right h (Int.le_of_lt (pow2_pos j))
  have mono' : ∀ {a b : Int} (j : Nat), a < b → a * 2 ^ j < b * 2 ^ j := fun j h => Int.mul_lt_mul_of_pos_right h (pow2_pos j)
  have key : ∀ {s t u v : Nat}, 2 ^ s * (d * 2 ^ t) < 2 ^ u * (d * 2 ^ v) → s + t < u + v := fun {s t u v} h => by
    refine pow_lt_pow2 ?_
    rw [Int.pow_add, Int.pow_add]
    refine Int.lt_of_mul_lt_mul_left (a := d) ?_ (Int.le_of_lt hd)
    grind
  have hpq : B + q = p + A := by
    have z1 : (w - 1).toNat + (p + A) < w.toNat + (B + q) := by
      refine key ?_
      have := mono A x1
      have := mono' q y2
      rw [Int.pow_add, Int.pow_add]
      grind
    have z2 : (w - 1).toNat + (B + q) < w.toNat + (p + A) := by
      refine key ?_
      have := mono q y1
      have := mono' A x2
      rw [Int.pow_add, Int.pow_add]
      grind
    omega
  have hx : n * 2 ^ A * (d * 2 ^ p) = n * 2 ^ q * (d * 2 ^ B) := by
    have : (2 : Int) ^ A * 2 ^ p = 2 ^ q * 2 ^ B := by rw [← Int.pow_add, ← Int.pow_add]; congr 1; omega
    grind
  have e1 := div_cross hP hp hx
  have ec : cellI n d w = (n * 2 ^ q / (d * 2 ^ p), (p : Int) - q) := by
    refine Prod.ext ?_ ?_
    · rw [hk, c1, e1]
    · rw [he]
      show e = (p : Int) - q
      omega
  refine ⟨ec, ?_⟩
  unfold posI
  rw [hk, he]
  unfold scI
  rw [hA, hB, c1]
  show low (n * 2 ^ A - n * 2 ^ A / (d * 2 ^ B) * (d * 2 ^ B)) (d * 2 ^ B) = _
  have em : n * 2 ^ A - n * 2 ^ A / (d * 2 ^ B) * (d * 2 ^ B) = n * 2 ^ A % (d * 2 ^ B) := by
    rw [Int.emod_def]
    grind
  rw [em]
  exact low_cross hP hp (mod_cross hP hp hx)
/-- what a power number is -/
theorem pow_val {k e : Int} {p q : Nat} (he : e = (p : Int) - q) : (powI k e).1 * 2 ^ q = k * 2 ^ p * (powI k e).2 := by
  unfold powI scI
  generalize hA : e.toNat = A
  generalize hB : (-e).toNat = B
  have h := low_val (x := k * 2 ^ A) (y := 1 * 2 ^ B) (Int.mul_pos (by decide) (pow2_pos B))
  show (low (k * 2 ^ A) (1 * 2 ^ B)).1 * 2 ^ q = k * 2 ^ p * (low (k * 2 ^ A) (1 * 2 ^ B)).2
  generalize low (k * 2 ^ A) (1 * 2 ^ B) = y at h ⊢
  have s : (2 : Int) ^ A * 2 ^ q = 2 ^ p * 2 ^ B := by rw [← Int.pow_add, ← Int.pow_add]; congr 1; omega
  refine Int.eq_of_mul_eq_mul_right (a := 2 ^ B) (by have := pow2_pos B; omega) ?_
  calc y.1 * 2 ^ q * 2 ^ B = y.1 * (1 * 2 ^ B) * 2 ^ q := by grind
    _ = k * 2 ^ A * y.2 * 2 ^ q := by rw [h]
    _ = k * y.2 * (2 ^ A * 2 ^ q) := by grind
    _ = k * y.2 * (2 ^ p * 2 ^ B) := by rw [s]
    _ = k * 2 ^ p * y.2 * 2 ^ B := by grind
theorem pow_pos {k e : Int} (hk : 0 < k) : 0 < (powI k e).1 ∧ 0 < (powI k e).2 ∧ Int.gcd (powI k e).1 (powI k e).2 = 1 := by
  unfold powI
  obtain ⟨a, b⟩ := scI_pos (n := k) (d := 1) (f := e) hk (by decide)
  obtain ⟨h1, h2, h3, _⟩ := low_pos a b
  exact ⟨h1, h2, h3⟩
/-- equal in value, both in lowest terms -/
theorem low_uniq {n d n' d' : Int} (hd : 0 < d) (hd' : 0 < d') (hg : Int.gcd n d = 1) (hg' : Int.gcd n' d' = 1) (h : n * d' = n' * d) : (n, d) = (n', d') := by
  rw [← low_self hg, ← low_self hg', low_cross hd hd' h]
theorem pow_is {n d k e : Int} {p q : Nat} (he : e = (p : Int) - q) (hk : 0 < k) (hd : 0 < d) (hg : Int.gcd n d = 1) (h : n * 2 ^ q = k * 2 ^ p * d) : powI k e = (n, d) := by
  obtain ⟨_, h2, h3⟩ := pow_pos (k := k) (e := e) hk
  have hv := pow_val (k := k) he
  refine low_uniq (n := (powI k e).1) (d := (powI k e).2) h2 hd h3 hg ?_
  refine Int.eq_of_mul_eq_mul_right (a := 2 ^ q) (by have := pow2_pos q; omega) ?_
  calc (powI k e).1 * d * 2 ^ q = (powI k e).1 * 2 ^ q * d := by grind
    _ = k * 2 ^ p * (powI k e).2 * d := by rw [hv]
    _ = n * 2 ^ q * (powI k e).2 := by rw [h]; grind
    _ = n * (powI k e).2 * 2 ^ q := by grind
/-- a threshold: a fraction, and to which side it goes there -/
structure Th where
  n : Int
  d : Int
  up : Bool
structure Th.Ok (t : Th) : Prop where
  n0 : 0 ≤ t.n
  nd : t.n ≤ t.d
  d0 : 0 < t.d
  z : t.n = 0 → t.up = false
  o : t.n = t.d → t.up = true
def Abv (x y : Int) (t : Th) : Prop := t.n * y < x * t.d ∨ (t.n * y = x * t.d ∧ t.up = true)
instance (x y : Int) (t : Th) : Decidable (Abv x y t) := by unfold Abv; infer_instance
theorem abv_mul {x y c : Int} {t : Th} (hc : 0 < c) : Abv (x * c) (y * c) t ↔ Abv x y t := by
  unfold Abv
  rw [show t.n * (y * c) = (t.n * y) * c by grind, show x * c * t.d = (x * t.d) * c by grind, Int.mul_lt_mul_right hc, Int.mul_eq_mul_right_iff (by omega)]
theorem abv_low {x y : Int} {t : Th} (hy : 0 < y) : Abv (low x y).1 (low x y).2 t ↔ Abv x y t := by
  obtain ⟨u, hu⟩ : (Int.gcd x y : Int) ∣ x := Int.gcd_dvd_left x y
  obtain ⟨v, hv⟩ : (Int.gcd x y : Int) ∣ y := Int.gcd_dvd_right x y
  have g0 := gcd_pos (a := x) hy
  have e : low x y = (u, v) := by
    unfold low
    refine Prod.ext ?_ ?_
    · show x / (Int.gcd x y : Int) = u
      generalize (Int.gcd x y : Int) = g at *
      rw [hu, Int.mul_ediv_cancel_left _ (by omega)]
    · show y / (Int.gcd x y : Int) = v
      generalize (Int.gcd x y : Int) = g at *
      rw [hv, Int.mul_ediv_cancel_left _ (by omega)]
  rw [e]
  show Abv u v t ↔ _
  generalize (Int.gcd x y : Int) = g at *
  rw [hu, hv, Int.mul_comm g u, Int.mul_comm g v]
  exact (abv_mul g0).symm
/-- the same fraction, not in lowest terms -/
theorem abv_th {x y n d : Int} {up : Bool} (hd : 0 < d) : Abv x y ⟨(low n d).1, (low n d).2, up⟩ ↔ Abv x y ⟨n, d, up⟩ := by
  have h := low_val (x := n) hd
  obtain ⟨v, hv⟩ : (Int.gcd n d : Int) ∣ d := Int.gcd_dvd_right n d
  have g0 := gcd_pos (a := n) hd
  have l2 : 0 < (low n d).2 := by
    show 0 < d / (Int.gcd n d : Int)
    generalize (Int.gcd n d : Int) = g at *
    rw [hv, Int.mul_ediv_cancel_left _ (by omega)]
    rw [hv] at hd
    exact Int.pos_of_mul_pos_right hd g0 
  unfold Abv
  show ((low n d).1 * y < x * (low n d).2 ∨ ((low n d).1 * y = x * (low n d).2 ∧ up = true)) ↔ (n * y < x * d ∨ (n * y = x * d ∧ up = true))
  generalize low n d = z at *
  have e1 : z.1 * y * d = n * y * z.2 := by
    calc z.1 * y * d = (z.1 * d) * y := by grind
      _ = n * z.2 * y := by rw [h]
      _ = n * y * z.2 := by grind
  have e2 : x * z.2 * d = x * d * z.2 := by grind
  have a1 : z.1 * y < x * z.2 ↔ n * y < x * d := by
    rw [← Int.mul_lt_mul_right hd, e1, e2, Int.mul_lt_mul_right l2]
  have a2 : z.1 * y = x * z.2 ↔ n * y = x * d := by
    rw [← Int.mul_eq_mul_right_iff (show d ≠ 0 by omega), e1, e2, Int.mul_eq_mul_right_iff (show z.2 ≠ 0 by omega)]
  rw [a1, a2]
theorem abv_zero {y : Int} {t : Th} (h : t.Ok) (hy : 0 < y) : ¬ Abv 0 y t := by
  unfold Abv
  rw [Int.zero_mul]
  rintro (q | ⟨q1, q2⟩)
  · have := Int.mul_nonneg h.n0 (Int.le_of_lt hy)
    omega
  · have : t.n = 0 := by
      rcases Int.mul_eq_zero.mp q1 with z | z
      · exact z
      · omega
    rw [h.z this] at q2
    cases q2
theorem abv_one {y : Int} {t : Th} (h : t.Ok) (hy : 0 < y) : Abv y y t := by
  unfold Abv
  by_cases q : t.n = t.d
  · exact .inr ⟨by rw [q, Int.mul_comm], h.o q⟩
  · refine .inl ?_
    rw [Int.mul_comm y]
    exact Int.mul_lt_mul_of_pos_right (by have := h.nd; omega) hy
/-- rounding at width w by thresholds for even (false) and odd (true) cells -/
def thrI (n d w : Int) (T : Bool → Th) : Int × Int :=
  powI ((cellI n d w).1 + (if Abv (posI n d w).1 (posI n d w).2 (T (decide ((cellI n d w).1 % 2 = 1))) then 1 else 0)) (cellI n d w).2
def nev : Th := ⟨1, 1, true⟩
def alw : Th := ⟨0, 1, false⟩
def tieD : Th := ⟨1, 2, false⟩
def tieU : Th := ⟨1, 2, true⟩
def byR : Ru → Bool → Th
  | .dn, _ => nev
  | .hd, _ => tieD
  | .he, false => tieD
  | .he, true => tieU
  | .hu, _ => tieU
  | .od, false => alw
  | .od, true => nev
  | .up, _ => alw
theorem byR_ok (r : Ru) (b : Bool) : (byR r b).Ok := by
  cases r <;> cases b <;> exact ⟨by decide, by decide, by decide, by decide, by decide⟩
/-- the cell's own: p, q with e = p - q -/
theorem cell_pq {n d w : Int} (hn : 0 < n) (hd : 0 < d) (hw : 1 ≤ w) (p q : Nat) (h : (cellI n d w).2 = (p : Int) - q) :
    (cellI n d w).1 = n * 2 ^ q / (d * 2 ^ p) ∧ 2 ^ (w - 1).toNat ≤ (cellI n d w).1 ∧ (cellI n d w).1 < 2 ^ w.toNat ∧ posI n d w = low (n * 2 ^ q % (d * 2 ^ p)) (d * 2 ^ p) := by
  obtain ⟨c1, c2, c3, _⟩ := cellI_spec hn hd hw
  have e1 : (cellI n d w).1 = n * 2 ^ q / (d * 2 ^ p) := by
    rw [c1]
    generalize (cellI n d w).2 = e at h
    unfold scI
    generalize hA : (0 - e).toNat = A
    generalize hB : (-(0 - e)).toNat = B
    show n * 2 ^ A / (d * 2 ^ B) = _
    refine div_cross (Int.mul_pos hd (pow2_pos B)) (Int.mul_pos hd (pow2_pos p)) ?_
    have : (2 : Int) ^ A * 2 ^ p = 2 ^ q * 2 ^ B := by rw [← Int.pow_add, ← Int.pow_add]; congr 1; omega
    grind
  rw [e1] at c2 c3
  exact ⟨e1, by rw [e1]; exact c2, by rw [e1]; exact c3, (cell_at hn hd hw c2 c3).2⟩
theorem lowZ' {x y : Int} (hy : 0 < y) : (low x y).1 = 0 ↔ x = 0 := by
  have h := low_val (x := x) hy
  constructor
  · intro z
    rw [z, Int.zero_mul] at h
    rcases Int.mul_eq_zero.mp h.symm with q | q
    · exact q
    · exfalso
      have g0 := gcd_pos (a := x) hy
      have : (low x y).2 = y / (Int.gcd x y : Int) := rfl
      obtain ⟨v, hv⟩ : (Int.gcd x y : Int) ∣ y := Int.gcd_dvd_right x y
      rw [this] at q
      generalize (Int.gcd x y : Int) = g at *
      rw [hv, Int.mul_ediv_cancel_left _ (by omega)] at q
      subst q
      omega
  · rintro rfl
    show 0 / _ = _
    exact Int.zero_ediv _
/-- where the position is 0, it is the number itself -/
theorem pow_self {n d w : Int} (hn : 0 < n) (hd : 0 < d) (hg : Int.gcd n d = 1) (hw : 1 ≤ w) (h : (posI n d w).1 = 0) : powI (cellI n d w).1 (cellI n d w).2 = (n, d) := by
  obtain ⟨p, q, he⟩ : ∃ p q : Nat, (cellI n d w).2 = (p : Int) - q := ⟨((cellI n d w).2).toNat, (-(cellI n d w).2).toNat, by omega⟩
  obtain ⟨c1, c2, c3, c4⟩ := cell_pq hn hd hw p q he
  have hb := Int.mul_pos hd (pow2_pos p)
  rw [c4, lowZ' hb] at h
  refine pow_is he (Int.lt_of_lt_of_le (pow2_pos _) c2) hd hg ?_
  have := Int.emod_def (n * 2 ^ q) (d * 2 ^ p)
  rw [h, ← c1] at this
  grind
theorem thr_self {n d w : Int} {T : Bool → Th} (hT : ∀ b, (T b).Ok) (hn : 0 < n) (hd : 0 < d) (hg : Int.gcd n d = 1) (hw : 1 ≤ w) (h : (posI n d w).1 = 0) : thrI n d w T = (n, d) := by
  unfold thrI
  have y0 : 0 < (posI n d w).2 := by
    have q : ∃ x y : Int, 0 ≤ x ∧ 0 < y ∧ posI n d w = low x y := by
      obtain ⟨p, q, he⟩ : ∃ p q : Nat, (cellI n d w).2 = (p : Int) - q := ⟨((cellI n d w).2).toNat, (-(cellI n d w).2).toNat, by omega⟩
      obtain ⟨c1, c2, c3, c4⟩ := cell_pq hn hd hw p q he
      have hb := Int.mul_pos hd (pow2_pos p)
      exact ⟨_, _, Int.emod_nonneg _ (by omega), hb, c4⟩
    obtain ⟨x, y, hx, hy, e⟩ := q
    rw [e, lowZ' hy] at h
    subst h
    rw [e]
    show 0 < y / (Int.gcd 0 y : Int)
    rw [Int.gcd_zero_left]
    have : ((y.natAbs : Nat) : Int) = y := by omega
    rw [this, Int.ediv_self (by omega)]
    decide
  rw [h, if_neg (abv_zero (hT _) y0), Int.add_zero]
  exact pow_self hn hd hg hw h
/-- position: between 0 and 1 -/
theorem pos_rng {n d w : Int} (hn : 0 < n) (hd : 0 < d) (hw : 1 ≤ w) (h : (posI n d w).1 ≠ 0) : 0 < (posI n d w).1 ∧ (posI n d w).1 < (posI n d w).2 := by
  obtain ⟨p, q, he⟩ : ∃ p q : Nat, (cellI n d w).2 = (p : Int) - q := ⟨((cellI n d w).2).toNat, (-(cellI n d w).2).toNat, by omega⟩
  obtain ⟨c1, c2, c3, c4⟩ := cell_pq hn hd hw p q he
  have hb := Int.mul_pos hd (pow2_pos p)
  have m0 := Int.emod_nonneg (n * 2 ^ q) (show d * 2 ^ p ≠ 0 by omega)
  have m1 := Int.emod_lt_of_pos (n * 2 ^ q) hb
  rw [c4] at h ⊢
  have x0 : n * 2 ^ q % (d * 2 ^ p) ≠ 0 := fun z => h ((lowZ' hb).mpr z)
  generalize n * 2 ^ q % (d * 2 ^ p) = x at *
  generalize d * 2 ^ p = y at *
  obtain ⟨h1, h2, _⟩ := low_pos (n := x) (d := y) (by omega) hb
  have hv := low_val (x := x) hb
  refine ⟨h1, ?_⟩
  generalize low x y = z at *
  refine Int.lt_of_mul_lt_mul_right (a := y) ?_ (Int.le_of_lt hb)
  rw [hv, Int.mul_comm x]
  exact Int.mul_lt_mul_of_pos_left m1 h2
theorem goes_abv {k x y : Int} (r : Ru) (hx : 0 < x) (hy : x < y) : goesUp k x y r = true ↔ Abv x y (byR r (decide (k % 2 = 1))) := by
  have h2 : k % 2 = 0 ∨ k % 2 = 1 := by omega
  rcases h2 with h2 | h2 <;> cases r <;> simp only [goesUp, byR, h2, Abv, nev, alw, tieD, tieU] <;> simp <;> first | omega | (split <;> simp <;> omega) | skip
theorem thr_round {n d w : Int} (r : Ru) (hn : 0 < n) (hd : 0 < d) (hg : Int.gcd n d = 1) (hw : 1 ≤ w) : roundI n d w r = thrI n d w (byR r) := by
  by_cases h : (posI n d w).1 = 0
  · rw [thr_self (byR_ok r) hn hd hg hw h]
    unfold roundI endsI
    rw [if_pos h]
    split <;> rfl
  · obtain ⟨p1, p2⟩ := pos_rng hn hd hw h
    have ga := goes_abv (k := (cellI n d w).1) r p1 p2
    unfold roundI endsI thrI
    rw [if_neg h]
    by_cases hu : goesUp (cellI n d w).1 (posI n d w).1 (posI n d w).2 r = true
    · rw [if_pos hu, if_pos (ga.mp hu)]
    · rw [if_neg hu, if_neg (fun z => hu (ga.mpr z)), Int.add_zero]
/-- the last index that stays down -/
def lastI (r : Ru) (far : Nat) (b : Bool) : Int :=
  if (byR r b).up = false then (byR r b).n * 2 ^ far / (byR r b).d else (byR r b).n * 2 ^ far / (byR r b).d - 1
def combI (T : Bool → Th) (r : Ru) (far : Nat) (b : Bool) : Th :=
  ⟨(low (lastI r far b * (T (decide (lastI r far b % 2 = 1))).d + (T (decide (lastI r far b % 2 = 1))).n) ((T (decide (lastI r far b % 2 = 1))).d * 2 ^ far)).1,
   (low (lastI r far b * (T (decide (lastI r far b % 2 = 1))).d + (T (decide (lastI r far b % 2 = 1))).n) ((T (decide (lastI r far b % 2 = 1))).d * 2 ^ far)).2,
   (T (decide (lastI r far b % 2 = 1))).up⟩
theorem last_iff {r : Ru} {far : Nat} {b : Bool} {x : Int} (hf : 1 ≤ far) (h0 : 0 ≤ x) (h1 : x ≤ 2 ^ far) : Abv x (2 ^ far) (byR r b) ↔ lastI r far b < x := by
  obtain ⟨f, rfl⟩ : ∃ f, far = f + 1 := ⟨far - 1, by omega⟩
  have e : (2 : Int) ^ (f + 1) = 2 * 2 ^ f := by rw [Int.pow_succ, Int.mul_comm]
  have p := pow2_pos f
  unfold lastI Abv
  rw [e] at h1 ⊢
  generalize (2 : Int) ^ f = F at *
  cases r <;> cases b <;> simp only [byR, nev, alw, tieD, tieU] <;> simp <;> omega
theorem last_rng {r : Ru} {far : Nat} {b : Bool} (hf : 1 ≤ far) : 0 ≤ lastI r far b ∧ lastI r far b < 2 ^ far := by
  obtain ⟨f, rfl⟩ : ∃ f, far = f + 1 := ⟨far - 1, by omega⟩
  have e : (2 : Int) ^ (f + 1) = 2 * 2 ^ f := by rw [Int.pow_succ, Int.mul_comm]
  have p := pow2_pos f
  unfold lastI
  rw [e]
  generalize (2 : Int) ^ f = F at *
  cases r <;> cases b <;> simp only [byR, nev, alw, tieD, tieU] <;> simp <;> omega
theorem comb_core {i j b c : Int} {t : Th} (ht : t.Ok) (hb : 0 < b) (c0 : 0 ≤ c) (c1 : c < b) :
    (i * t.d + t.n) * b < (j * b + c) * t.d ∨ ((i * t.d + t.n) * b = (j * b + c) * t.d ∧ t.up = true) ↔ (i < j ∨ (i = j ∧ Abv c b t)) := by
  have hd := ht.d0
  have hn := ht.n0
  have hnd := ht.nd
  have e : (j * b + c) * t.d - (i * t.d + t.n) * b = (j - i) * (b * t.d) + (c * t.d - t.n * b) := by grind
  have bd := Int.mul_pos hb hd
  have x1 : 0 ≤ t.n * b := Int.mul_nonneg hn (Int.le_of_lt hb)
  have x2 : t.n * b ≤ b * t.d := by rw [Int.mul_comm b]; exact Int.mul_le_mul_of_nonneg_right hnd (Int.le_of_lt hb)
  have x3 : 0 ≤ c * t.d := Int.mul_nonneg c0 (Int.le_of_lt hd)
  have x4 : c * t.d < b * t.d := Int.mul_lt_mul_of_pos_right c1 hd
  have x5 : t.n * b = b * t.d → t.n = t.d := fun h => by
    rw [Int.mul_comm b] at h
    exact Int.eq_of_mul_eq_mul_right (by omega) h
  unfold Abv
  generalize hL : (i * t.d + t.n) * b = L at *
  generalize hR : (j * b + c) * t.d = R at *
  rcases Int.lt_trichotomy i j with h | h | h
  · have y : b * t.d ≤ (j - i) * (b * t.d) := by
      have := Int.mul_le_mul_of_nonneg_right (show 1 ≤ j - i by omega) (Int.le_of_lt bd)
      omega
    constructor
    · intro _; exact .inl h
    · intro _
      by_cases q : L < R
      · exact .inl q
      · refine .inr ⟨by omega, ht.o (x5 (by omega))⟩
  · subst h
    rw [Int.sub_self, Int.zero_mul] at e
    constructor
    · rintro (q | ⟨q1, q2⟩)
      · exact .inr ⟨rfl, .inl (by omega)⟩
      · exact .inr ⟨rfl, .inr ⟨by omega, q2⟩⟩
    · rintro (q | ⟨_, q | ⟨q1, q2⟩⟩)
      · omega
      · exact .inl (by omega)
      · exact .inr ⟨by omega, q2⟩
  · have y : (j - i) * (b * t.d) ≤ - (b * t.d) := by
      have := Int.mul_le_mul_of_nonneg_right (show j - i ≤ -1 by omega) (Int.le_of_lt bd)
      omega
    constructor
    · rintro (q | ⟨q1, q2⟩) <;> omega
    · rintro (q | ⟨q, _⟩) <;> omega
theorem comb_abv {T : Bool → Th} (hT : ∀ b, (T b).Ok) {r : Ru} {far : Nat} {bo : Bool} {j b c u : Int} (hf : 1 ≤ far) (j0 : 0 ≤ j) (j1 : j < 2 ^ far) (hb : 0 < b) (c0 : 0 ≤ c) (c1 : c < b)
    (hu : u = if Abv c b (T (decide (j % 2 = 1))) then 1 else 0) : Abv (j * b + c) (b * 2 ^ far) (combI T r far bo) ↔ Abv (j + u) (2 ^ far) (byR r bo) := by
  have F0 := pow2_pos far
  have hu' : u = 0 ∨ u = 1 := by rw [hu]; split <;> simp
  rw [last_iff hf (by omega) (by omega)]
  unfold combI
  generalize hi : lastI r far bo = i
  have ht := hT (decide (i % 2 = 1))
  generalize hTi : T (decide (i % 2 = 1)) = t at ht
  have hd := ht.d0
  rw [abv_th (Int.mul_pos hd F0)]
  have s1 : Abv (j * b + c) (b * 2 ^ far) ⟨i * t.d + t.n, t.d * 2 ^ far, t.up⟩ ↔ ((i * t.d + t.n) * b < (j * b + c) * t.d ∨ ((i * t.d + t.n) * b = (j * b + c) * t.d ∧ t.up = true)) := by
    unfold Abv
    show ((i * t.d + t.n) * (b * 2 ^ far) < (j * b + c) * (t.d * 2 ^ far) ∨ ((i * t.d + t.n) * (b * 2 ^ far) = (j * b + c) * (t.d * 2 ^ far) ∧ t.up = true)) ↔ _
    rw [← Int.mul_assoc, ← Int.mul_assoc, Int.mul_lt_mul_right F0, Int.mul_eq_mul_right_iff (by omega)]
  rw [s1, comb_core ht hb c0 c1]
  constructor
  · rintro (q | ⟨rfl, q⟩)
    · omega
    · rw [hTi, if_pos q] at hu
      omega
  · intro q
    by_cases h : i < j
    · exact .inl h
    · have e : i = j := by omega
      refine .inr ⟨e, ?_⟩
      by_cases z : Abv c b t
      · exact z
      · subst e
        rw [hTi, if_neg z] at hu
        omega
theorem th_ok_low {n d : Int} {up : Bool} (hd : 0 < d) (h0 : 0 ≤ n) (h1 : n ≤ d) (z : n = 0 → up = false) (o : n = d → up = true) : Th.Ok ⟨(low n d).1, (low n d).2, up⟩ := by
  have h := low_val (x := n) hd
  obtain ⟨v, hv⟩ : (Int.gcd n d : Int) ∣ d := Int.gcd_dvd_right n d
  have g0 := gcd_pos (a := n) hd
  have l2 : 0 < (low n d).2 := by
    show 0 < d / (Int.gcd n d : Int)
    generalize (Int.gcd n d : Int) = g at *
    rw [hv, Int.mul_ediv_cancel_left _ (by omega)]
    rw [hv] at hd
    exact Int.pos_of_mul_pos_right hd g0
  have l1 : 0 ≤ (low n d).1 := Int.ediv_nonneg h0 (Int.le_of_lt g0)
  refine ⟨l1, ?_, l2, ?_, ?_⟩
  · show (low n d).1 ≤ (low n d).2
    refine Int.le_of_mul_le_mul_right (a := d) ?_ hd
    rw [h, Int.mul_comm (low n d).2]
    exact Int.mul_le_mul_of_nonneg_right h1 (Int.le_of_lt l2)
  · intro q
    replace q : (low n d).1 = 0 := q
    exact z ((lowZ' hd).mp q)
  · intro q
    replace q : (low n d).1 = (low n d).2 := q
    refine o ?_
    rw [q, Int.mul_comm] at h
    exact (Int.eq_of_mul_eq_mul_right (by omega) h).symm
theorem comb_ok {T : Bool → Th} (hT : ∀ b, (T b).Ok) {r : Ru} {far : Nat} (hf : 1 ≤ far) (bo : Bool) : (combI T r far bo).Ok := by
  have F0 := pow2_pos far
  obtain ⟨i0, i1⟩ := last_rng (r := r) (b := bo) hf
  unfold combI
  generalize hi : lastI r far bo = i at *
  have ht := hT (decide (i % 2 = 1))
  generalize hTi : T (decide (i % 2 = 1)) = t at ht
  have hd := ht.d0
  have hn := ht.n0
  have x := Int.mul_nonneg i0 (Int.le_of_lt hd)
  have y : i * t.d + t.d ≤ t.d * 2 ^ far := by
    have := Int.mul_le_mul_of_nonneg_right (show i + 1 ≤ 2 ^ far by omega) (Int.le_of_lt hd)
    rw [Int.add_mul, Int.mul_comm (2 ^ far)] at this
    omega
  have hnd := ht.nd
  refine th_ok_low (Int.mul_pos hd F0) (by omega) (by omega) (fun z => ht.z (by omega)) (fun z => ht.o (by omega))
/-- a step after a rounding by thresholds is a rounding by the combined thresholds -/
theorem comb_law {T : Bool → Th} (hT : ∀ b, (T b).Ok) {r : Ru} {n d w : Int} {far : Nat} (hn : 0 < n) (hd : 0 < d) (hw : 1 ≤ w) (hf : 1 ≤ far) :
    thrI (thrI n d (w + far) T).1 (thrI n d (w + far) T).2 w (byR r) = thrI n d w (combI T r far) := by
  obtain ⟨p, q, he⟩ : ∃ p q : Nat, (cellI n d w).2 = ((p + far : Nat) : Int) - q := ⟨((cellI n d w).2 - far).toNat, (-((cellI n d w).2 - far)).toNat, by omega⟩
  obtain ⟨k1, k2, k3, k4⟩ := cell_pq hn hd hw (p + far) q he
  have F0 := pow2_pos far
  have P0 := pow2_pos p
  have hb : 0 < d * 2 ^ p := Int.mul_pos hd P0
  have eb : d * 2 ^ (p + far) = d * 2 ^ p * 2 ^ far := by rw [Int.pow_add, Int.mul_assoc]
  rw [eb] at k1 k4
  generalize hk : (cellI n d w).1 = k at k1 k2 k3
  generalize hb' : d * 2 ^ p = b at *
  generalize ha' : n * 2 ^ q = a at *
  have eK : a / b / 2 ^ far = k := by rw [Int.ediv_ediv, if_neg (fun h => absurd h.1 (by omega)), Int.sub_zero, k1]
  have j0 := Int.emod_nonneg (a / b) (show (2 : Int) ^ far ≠ 0 by omega)
  have j1 := Int.emod_lt_of_pos (a / b) F0
  have eKj : a / b = k * 2 ^ far + a / b % 2 ^ far := by
    have := Int.emod_add_mul_ediv (a / b) (2 ^ far)
    rw [eK] at this
    rw [Int.mul_comm k]
    omega
  generalize hj : a / b % 2 ^ far = j at *
  have c0 := Int.emod_nonneg a (show b ≠ 0 by omega)
  have c1 := Int.emod_lt_of_pos a hb
  have ea : a = b * (a / b) + a % b := (Int.mul_ediv_add_emod a b).symm
  have em : a % (b * 2 ^ far) = j * b + a % b := by
    have h1 : a = (j * b + a % b) + (b * 2 ^ far) * k := by
      rw [eKj] at ea
      grind
    have h2 : 0 ≤ j * b + a % b := by
      have := Int.mul_nonneg j0 (Int.le_of_lt hb)
      omega
    have h3 : j * b + a % b < b * 2 ^ far := by
      have := Int.mul_le_mul_of_nonneg_right (show j + 1 ≤ 2 ^ far by omega) (Int.le_of_lt hb)
      rw [Int.add_mul, Int.mul_comm (2 ^ far)] at this
      omega
    have h4 : a % (b * 2 ^ far) = (j * b + a % b) % (b * 2 ^ far) := by
      conv => lhs; rw [h1]
      exact Int.add_mul_emod_self_left ..
    rw [h4, Int.emod_eq_of_lt h2 h3]
  -- the wide cell
  have W1 : (2 : Int) ^ (w + far - 1).toNat ≤ a / b := by
    have : (w + far - 1).toNat = (w - 1).toNat + far := by omega
    rw [this, Int.pow_add, eKj]
    have := Int.mul_le_mul_of_nonneg_right k2 (Int.le_of_lt F0)
    omega
  have W2 : a / b < (2 : Int) ^ (w + far).toNat := by
    have : (w + far).toNat = w.toNat + far := by omega
    rw [this, Int.pow_add, eKj]
    have := Int.mul_le_mul_of_nonneg_right (show k + 1 ≤ 2 ^ w.toNat by omega) (Int.le_of_lt F0)
    rw [Int.add_mul] at this
    omega
  obtain ⟨v1, v2⟩ := cell_at (w := w + far) (p := p) (q := q) hn hd (by omega) (by rw [hb', ha']; exact W1) (by rw [hb', ha']; exact W2)
  rw [hb', ha'] at v1 v2
  have podd : a / b % 2 = j % 2 := by
    obtain ⟨f, rfl⟩ : ∃ f, far = f + 1 := ⟨far - 1, by omega⟩
    rw [eKj, Int.pow_succ]
    generalize (2 : Int) ^ f = G
    rw [show k * (G * 2) = (k * G) * 2 by grind]
    omega
  generalize hu : (if Abv (a % b) b (T (decide (j % 2 = 1))) then (1 : Int) else 0) = u
  have hu01 : u = 0 ∨ u = 1 := by rw [← hu]; split <;> simp
  have ey : thrI n d (w + far) T = powI (a / b + u) ((p : Int) - q) := by
    unfold thrI
    rw [v1, v2]
    show powI (a / b + if Abv _ _ (T (decide (a / b % 2 = 1))) then 1 else 0) _ = _
    rw [podd]
    congr 2
    rw [← hu]
    have hx := abv_low (x := a % b) (t := T (decide (j % 2 = 1))) hb
    by_cases z : Abv (a % b) b (T (decide (j % 2 = 1)))
    · rw [if_pos z, if_pos (hx.mpr z)]
    · rw [if_neg z, if_neg (fun y => z (hx.mp y))]
  have hab := comb_abv hT (r := r) (bo := decide (k % 2 = 1)) hf j0 j1 hb c0 c1 hu.symm
  have er : thrI n d w (combI T r far) = powI (k + if Abv (j + u) (2 ^ far) (byR r (decide (k % 2 = 1))) then 1 else 0) (((p + far : Nat) : Int) - q) := by
    unfold thrI
    rw [hk, k4, he, em]
    congr 2
    have hx := abv_low (x := j * b + a % b) (t := combI T r far (decide (k % 2 = 1))) (Int.mul_pos hb F0)
    by_cases z : Abv (j + u) (2 ^ far) (byR r (decide (k % 2 = 1)))
    · rw [if_pos z, if_pos (hx.mpr (hab.mpr z))]
    · rw [if_neg z, if_neg (fun y => z (hab.mp (hx.mp y)))]
  have K0 : 0 < a / b := Int.lt_of_lt_of_le (pow2_pos _) W1
  obtain ⟨y1, y2, y3⟩ := pow_pos (k := a / b + u) (e := (p : Int) - q) (by omega)
  have yv := pow_val (k := a / b + u) (e := (p : Int) - q) (p := p) (q := q) rfl
  rw [ey, er]
  generalize hy : powI (a / b + u) ((p : Int) - q) = y at *
  have k0 : 0 < k := Int.lt_of_lt_of_le (pow2_pos _) k2
  have yd : 0 < y.2 * 2 ^ p := Int.mul_pos y2 P0
  have yv' : y.1 * 2 ^ q = (k * 2 ^ far + (j + u)) * (y.2 * 2 ^ p) := by
    rw [yv, eKj]
    grind
  have ed : y.2 * 2 ^ (p + far) = 2 ^ far * (y.2 * 2 ^ p) := by rw [Int.pow_add]; grind
  by_cases hlt : j + u < 2 ^ far
  · have d1 : y.1 * 2 ^ q / (y.2 * 2 ^ (p + far)) = k := by
      rw [yv', ed, Int.mul_ediv_mul_of_pos_left _ _ yd, Int.mul_comm k, Int.mul_add_ediv_left _ _ (by omega), Int.ediv_eq_zero_of_lt (by omega) hlt, Int.add_zero]
    have d2 : y.1 * 2 ^ q % (y.2 * 2 ^ (p + far)) = (j + u) * (y.2 * 2 ^ p) := by
      rw [Int.emod_def, d1, yv', ed]
      grind
    obtain ⟨u1, u2⟩ := cell_at (n := y.1) (d := y.2) (w := w) (p := p + far) (q := q) y1 y2 hw (by rw [d1]; exact k2) (by rw [d1]; exact k3)
    rw [d1] at u1
    rw [d2, ed, low_mul yd] at u2
    unfold thrI
    rw [u1, u2]
    show powI (k + if Abv _ _ (byR r (decide (k % 2 = 1))) then 1 else 0) _ = _
    congr 2
    have hx := abv_low (x := j + u) (t := byR r (decide (k % 2 = 1))) F0
    by_cases z : Abv (j + u) (2 ^ far) (byR r (decide (k % 2 = 1)))
    · rw [if_pos z, if_pos (hx.mpr z)]
    · rw [if_neg z, if_neg (fun y => z (hx.mp y))]
  · have hju : j + u = 2 ^ far := by omega
    rw [hju, if_pos (abv_one (byR_ok _ _) F0)]
    rw [hju] at yv'
    have yv2 : y.1 * 2 ^ q = (k + 1) * 2 ^ (p + far) * y.2 := by
      rw [yv', Int.pow_add]
      grind
    have e2 : powI (k + 1) (((p + far : Nat) : Int) - q) = (y.1, y.2) := pow_is rfl (by omega) y2 y3 yv2
    rw [e2]
    refine thr_self (byR_ok r) y1 y2 y3 hw ?_
    have dd : 0 < y.2 * 2 ^ (p + far) := Int.mul_pos y2 (pow2_pos _)
    by_cases hk1 : k + 1 < 2 ^ w.toNat
    · have d1 : y.1 * 2 ^ q / (y.2 * 2 ^ (p + far)) = k + 1 := by
        rw [yv2, show (k + 1) * 2 ^ (p + far) * y.2 = (k + 1) * (y.2 * 2 ^ (p + far)) by grind, Int.mul_ediv_cancel _ (by omega)]
      have d2 : y.1 * 2 ^ q % (y.2 * 2 ^ (p + far)) = 0 := by
        rw [Int.emod_def, d1, yv2]
        grind
      obtain ⟨u1, u2⟩ := cell_at (n := y.1) (d := y.2) (w := w) (p := p + far) (q := q) y1 y2 hw (by rw [d1]; omega) (by rw [d1]; exact hk1)
      rw [u2, d2]
      exact (lowZ' dd).mpr rfl
    · have hk2 : k + 1 = 2 ^ w.toNat := by omega
      have ew : w.toNat = (w - 1).toNat + 1 := by omega
      have dd2 : 0 < y.2 * 2 ^ (p + far + 1) := Int.mul_pos y2 (pow2_pos _)
      have yv3 : y.1 * 2 ^ q = 2 ^ (w - 1).toNat * (y.2 * 2 ^ (p + far + 1)) := by
        rw [yv2, hk2, ew, Int.pow_succ, Int.pow_succ]
        grind
      have d1 : y.1 * 2 ^ q / (y.2 * 2 ^ (p + far + 1)) = 2 ^ (w - 1).toNat := by
        rw [yv3, Int.mul_ediv_cancel _ (by omega)]
      have d2 : y.1 * 2 ^ q % (y.2 * 2 ^ (p + far + 1)) = 0 := by
        rw [Int.emod_def, d1, yv3]
        grind
      obtain ⟨u1, u2⟩ := cell_at (n := y.1) (d := y.2) (w := w) (p := p + far + 1) (q := q) y1 y2 hw (by rw [d1]; omega) (by rw [d1, ew, Int.pow_succ]; have := pow2_pos (w - 1).toNat; omega)
      rw [u2, d2]
      exact (lowZ' dd2).mpr rfl
structure Nu (n d : Int) : Prop where
  n0 : 0 < n
  d0 : 0 < d
  g : Int.gcd n d = 1
/-- (k 2^e), k from 2^(w-1) to 2^w: of width w -/
theorem pow_fits {s e w : Int} (hw : 1 ≤ w) (h1 : 2 ^ (w - 1).toNat ≤ s) (h2 : s ≤ 2 ^ w.toNat) : (posI (powI s e).1 (powI s e).2 w).1 = 0 := by
  obtain ⟨p, q, he⟩ : ∃ p q : Nat, e = (p : Int) - q := ⟨e.toNat, (-e).toNat, by omega⟩
  have s0 : 0 < s := Int.lt_of_lt_of_le (pow2_pos _) h1
  obtain ⟨y1, y2, y3⟩ := pow_pos (k := s) (e := e) s0
  have yv := pow_val (k := s) he
  generalize powI s e = y at *
  have dd : 0 < y.2 * 2 ^ p := Int.mul_pos y2 (pow2_pos _)
  by_cases hk1 : s < 2 ^ w.toNat
  · have d1 : y.1 * 2 ^ q / (y.2 * 2 ^ p) = s := by
      rw [yv, show s * 2 ^ p * y.2 = s * (y.2 * 2 ^ p) by grind, Int.mul_ediv_cancel _ (by omega)]
    have d2 : y.1 * 2 ^ q % (y.2 * 2 ^ p) = 0 := by
      rw [Int.emod_def, d1, yv]
      grind
    obtain ⟨u1, u2⟩ := cell_at (n := y.1) (d := y.2) (w := w) (p := p) (q := q) y1 y2 hw (by rw [d1]; omega) (by rw [d1]; exact hk1)
    rw [u2, d2]
    exact (lowZ' dd).mpr rfl
  · have hk2 : s = 2 ^ w.toNat := by omega
    have ew : w.toNat = (w - 1).toNat + 1 := by omega
    have dd2 : 0 < y.2 * 2 ^ (p + 1) := Int.mul_pos y2 (pow2_pos _)
    have yv3 : y.1 * 2 ^ q = 2 ^ (w - 1).toNat * (y.2 * 2 ^ (p + 1)) := by
      rw [yv, hk2, ew, Int.pow_succ, Int.pow_succ]
      grind
    have d1 : y.1 * 2 ^ q / (y.2 * 2 ^ (p + 1)) = 2 ^ (w - 1).toNat := by
      rw [yv3, Int.mul_ediv_cancel _ (by omega)]
    have d2 : y.1 * 2 ^ q % (y.2 * 2 ^ (p + 1)) = 0 := by
      rw [Int.emod_def, d1, yv3]
      grind
    obtain ⟨u1, u2⟩ := cell_at (n := y.1) (d := y.2) (w := w) (p := p + 1) (q := q) y1 y2 hw (by rw [d1]; omega) (by rw [d1, ew, Int.pow_succ]; have := pow2_pos (w - 1).toNat; omega)
    rw [u2, d2]
    exact (lowZ' dd2).mpr rfl
theorem thr_step {n d w : Int} (T : Bool → Th) (h : Nu n d) (hw : 1 ≤ w) : ∃ s, thrI n d w T = powI s (cellI n d w).2 ∧ 2 ^ (w - 1).toNat ≤ s ∧ s ≤ 2 ^ w.toNat ∧ (s = (cellI n d w).1 ∨ s = (cellI n d w).1 + 1) := by
  obtain ⟨_, c2, c3, _⟩ := cellI_spec h.n0 h.d0 hw
  refine ⟨_, rfl, ?_, ?_, ?_⟩ <;> split <;> omega
theorem thr_nu {n d w : Int} (T : Bool → Th) (h : Nu n d) (hw : 1 ≤ w) : Nu (thrI n d w T).1 (thrI n d w T).2 ∧ (posI (thrI n d w T).1 (thrI n d w T).2 w).1 = 0 := by
  obtain ⟨s, e, h1, h2, _⟩ := thr_step T h hw
  rw [e]
  obtain ⟨y1, y2, y3⟩ := pow_pos (k := s) (e := (cellI n d w).2) (Int.lt_of_lt_of_le (pow2_pos _) h1)
  exact ⟨⟨y1, y2, y3⟩, pow_fits hw h1 h2⟩
theorem round_nu {n d w : Int} (r : Ru) (h : Nu n d) (hw : 1 ≤ w) : Nu (roundI n d w r).1 (roundI n d w r).2 ∧ (posI (roundI n d w r).1 (roundI n d w r).2 w).1 = 0 := by
  rw [thr_round r h.n0 h.d0 h.g hw]
  exact thr_nu _ h hw
theorem fits_mono {n d w w' : Int} (h : Nu n d) (hw : 1 ≤ w) (hl : w ≤ w') (f : (posI n d w).1 = 0) : (posI n d w').1 = 0 := by
  rw [pos_lw h.n0 h.d0 h.g hw] at f
  rw [pos_lw h.n0 h.d0 h.g (by omega)]
  exact ⟨f.1, by omega⟩
theorem round_self {n d w : Int} (r : Ru) (f : (posI n d w).1 = 0) : roundI n d w r = (n, d) := by
  unfold roundI endsI
  rw [if_pos f]
  split <;> rfl
def applI (n d : Int) : List (Int × Ru) → Int × Int
  | [] => (n, d)
  | s :: c => applI (roundI n d s.1 s.2).1 (roundI n d s.1 s.2).2 c
def stagI (n d : Int) : List (Int × Ru) → List (Int × Int)
  | [] => []
  | s :: c => roundI n d s.1 s.2 :: stagI (roundI n d s.1 s.2).1 (roundI n d s.1 s.2).2 c
def trimI : Option Int → List (Int × Ru) → List (Int × Ru)
  | _, [] => []
  | none, s :: c => s :: trimI (some s.1) c
  | some l, s :: c => if s.1 < l then s :: trimI (some s.1) c else trimI (some l) c
/-- a chain's widths -/
def Wds (c : List (Int × Ru)) : Prop := ∀ s ∈ c, 1 ≤ s.1 ∧ s.1 ≤ 100
theorem Wds.hd {s : Int × Ru} {c : List (Int × Ru)} (h : Wds (s :: c)) : 1 ≤ s.1 ∧ s.1 ≤ 100 := h s (List.mem_cons_self ..)
theorem Wds.tl {s : Int × Ru} {c : List (Int × Ru)} (h : Wds (s :: c)) : Wds c := fun t ht => h t (List.mem_cons_of_mem _ ht)
theorem trim_some {l : Int} (hl : 1 ≤ l) : ∀ {c : List (Int × Ru)} {n d : Int}, Wds c → Nu n d → (posI n d l).1 = 0 → applI n d c = applI n d (trimI (some l) c)
  | [], _, _, _, _, _ => rfl
  | s :: c, n, d, hw, h, f => by
    obtain ⟨r1, r2⟩ := round_nu s.2 h hw.hd.1
    unfold trimI
    by_cases q : s.1 < l
    · rw [if_pos q]
      show applI _ _ c = applI _ _ (trimI (some s.1) c)
      exact trim_some hw.hd.1 hw.tl r1 r2
    · rw [if_neg q]
      show applI (roundI n d s.1 s.2).1 (roundI n d s.1 s.2).2 c = _
      rw [round_self s.2 (fits_mono h hl (by omega) f)]
      exact trim_some hl hw.tl h f
theorem trim_law {c : List (Int × Ru)} {n d : Int} (hw : Wds c) (h : Nu n d) : applI n d c = applI n d (trimI none c) := by
  cases c with
  | nil => rfl
  | cons s c =>
    obtain ⟨r1, r2⟩ := round_nu s.2 h hw.hd.1
    exact trim_some hw.hd.1 hw.tl r1 r2
def Fall (w : Int) : List (Int × Ru) → Prop
  | [] => True
  | s :: c => 1 ≤ s.1 ∧ s.1 < w ∧ Fall s.1 c
theorem trim_fall : ∀ {c : List (Int × Ru)} {l : Int}, Wds c → Fall l (trimI (some l) c)
  | [], _, _ => trivial
  | s :: c, l, hw => by
    unfold trimI
    by_cases q : s.1 < l
    · rw [if_pos q]
      exact ⟨hw.hd.1, q, trim_fall hw.tl⟩
    · rw [if_neg q]
      exact trim_fall hw.tl
def thF (w : Int) (T : Bool → Th) : List (Int × Ru) → Int × (Bool → Th)
  | [] => (w, T)
  | s :: c => thF s.1 (combI T s.2 (w - s.1).toNat) c
theorem thF_law : ∀ {c : List (Int × Ru)} {w n d : Int} {T : Bool → Th}, (∀ b, (T b).Ok) → 1 ≤ w → Fall w c → Nu n d → applI (thrI n d w T).1 (thrI n d w T).2 c = thrI n d (thF w T c).1 (thF w T c).2
  | [], _, _, _, _, _, _, _, _ => rfl
  | s :: c, w, n, d, T, hT, hw, hf, h => by
    obtain ⟨f1, f2, f3⟩ := hf
    obtain ⟨t1, t2⟩ := thr_nu T h hw
    show applI (roundI _ _ s.1 s.2).1 (roundI _ _ s.1 s.2).2 c = _
    have e : roundI (thrI n d w T).1 (thrI n d w T).2 s.1 s.2 = thrI n d s.1 (combI T s.2 (w - s.1).toNat) := by
      rw [thr_round s.2 t1.n0 t1.d0 t1.g f1]
      have := comb_law hT (r := s.2) (w := s.1) (far := (w - s.1).toNat) h.n0 h.d0 f1 (by omega)
      rw [show s.1 + ((w - s.1).toNat : Int) = w by omega] at this
      exact this
    rw [e]
    exact thF_law (fun b => comb_ok hT (by omega) b) f1 f3 h
theorem thF_ok : ∀ {c : List (Int × Ru)} {w : Int} {T : Bool → Th}, (∀ b, (T b).Ok) → Fall w c → ∀ b, ((thF w T c).2 b).Ok
  | [], _, _, hT, _, b => hT b
  | s :: c, w, T, hT, hf, b => thF_ok (fun b => comb_ok hT (by have := hf.2.1; omega) b) hf.2.2 b
/-- the whole chain by thresholds -/
def chT : List (Int × Ru) → Int × (Bool → Th)
  | [] => (1, byR .dn)
  | s :: c => thF s.1 (byR s.2) (trimI (some s.1) c)
theorem chain_law {c : List (Int × Ru)} {n d : Int} (hc : c ≠ []) (hw : Wds c) (h : Nu n d) : applI n d c = thrI n d (chT c).1 (chT c).2 := by
  cases c with
  | nil => exact absurd rfl hc
  | cons s c =>
    rw [trim_law hw h]
    show applI (roundI n d s.1 s.2).1 (roundI n d s.1 s.2).2 (trimI (some s.1) c) = _
    rw [thr_round s.2 h.n0 h.d0 h.g hw.hd.1]
    exact thF_law (byR_ok _) hw.hd.1 (trim_fall hw.tl) h
theorem chT_ok {c : List (Int × Ru)} (hw : Wds c) (b : Bool) : ((chT c).2 b).Ok := by
  cases c with
  | nil => exact byR_ok .dn b
  | cons s c => exact thF_ok (byR_ok _) (trim_fall hw.tl) b
/-- its width: the least -/
theorem thF_min : ∀ {c : List (Int × Ru)} {w : Int} {T : Bool → Th}, (thF w T (trimI (some w) c)).1 ≤ w ∧ (∀ s ∈ c, (thF w T (trimI (some w) c)).1 ≤ s.1) ∧ ((thF w T (trimI (some w) c)).1 = w ∨ ∃ s ∈ c, (thF w T (trimI (some w) c)).1 = s.1)
  | [], w, T => by
    have e : (thF w T (trimI (some w) [])).1 = w := rfl
    refine ⟨by omega, fun s hs => absurd hs (by simp), .inl e⟩
  | s :: c, w, T => by
    unfold trimI
    by_cases q : s.1 < w
    · rw [if_pos q]
      show (thF s.1 _ _).1 ≤ w ∧ (∀ s' ∈ s :: c, (thF s.1 _ _).1 ≤ s'.1) ∧ ((thF s.1 _ _).1 = w ∨ ∃ s' ∈ s :: c, (thF s.1 _ _).1 = s'.1)
      obtain ⟨h1, h2, h3⟩ := thF_min (c := c) (w := s.1) (T := combI T s.2 (w - s.1).toNat)
      refine ⟨by omega, fun s' hs' => ?_, .inr ?_⟩
      · rcases List.mem_cons.mp hs' with rfl | hs'
        · exact h1
        · exact h2 _ hs'
      · rcases h3 with h3 | ⟨s', hs', h3⟩
        · exact ⟨s, List.mem_cons_self .., h3⟩
        · exact ⟨s', List.mem_cons_of_mem _ hs', h3⟩
    · rw [if_neg q]
      obtain ⟨h1, h2, h3⟩ := thF_min (c := c) (w := w) (T := T)
      refine ⟨h1, fun s' hs' => ?_, ?_⟩
      · rcases List.mem_cons.mp hs' with rfl | hs'
        · omega
        · exact h2 _ hs'
      · rcases h3 with h3 | ⟨s', hs', h3⟩
        · exact .inl h3
        · exact .inr ⟨s', List.mem_cons_of_mem _ hs', h3⟩
theorem chT_min {c : List (Int × Ru)} (hc : c ≠ []) : (∀ s ∈ c, (chT c).1 ≤ s.1) ∧ ∃ s ∈ c, (chT c).1 = s.1 := by
  cases c with
  | nil => exact absurd rfl hc
  | cons s c =>
    obtain ⟨h1, h2, h3⟩ := thF_min (c := c) (w := s.1) (T := byR s.2)
    refine ⟨fun s' hs' => ?_, ?_⟩
    · rcases List.mem_cons.mp hs' with rfl | hs'
      · exact h1
      · exact h2 _ hs'
    · rcases h3 with h3 | ⟨s', hs', h3⟩
      · exact ⟨s, List.mem_cons_self .., h3⟩
      · exact ⟨s', List.mem_cons_of_mem _ hs', h3⟩
/-- how great a threshold's denominator is; in lowest terms -/
theorem low_gcd {n d : Int} (hd : 0 < d) : Int.gcd (low n d).1 (low n d).2 = 1 ∧ 0 < (low n d).2 ∧ (low n d).2 ≤ d := by
  obtain ⟨u, hu⟩ : (Int.gcd n d : Int) ∣ n := Int.gcd_dvd_left n d
  obtain ⟨v, hv⟩ : (Int.gcd n d : Int) ∣ d := Int.gcd_dvd_right n d
  have g0 := gcd_pos (a := n) hd
  have e : low n d = (u, v) := by
    unfold low
    refine Prod.ext ?_ ?_
    · show n / (Int.gcd n d : Int) = u
      generalize (Int.gcd n d : Int) = g at *
      rw [hu, Int.mul_ediv_cancel_left _ (by omega)]
    · show d / (Int.gcd n d : Int) = v
      generalize (Int.gcd n d : Int) = g at *
      rw [hv, Int.mul_ediv_cancel_left _ (by omega)]
  have g1 : (Int.gcd n d) = (Int.gcd n d) * Int.gcd u v := by
    have h := Int.gcd_mul_left (Int.gcd n d : Int) u v
    rw [← hu, ← hv] at h
    simpa using h
  rw [e]
  refine ⟨?_, ?_, ?_⟩
  · have : 0 < Int.gcd n d := by omega
    show Int.gcd u v = 1
    have h2 : Int.gcd n d * 1 = Int.gcd n d * Int.gcd u v := by rw [Nat.mul_one]; exact g1
    exact (Nat.eq_of_mul_eq_mul_left this h2).symm
  · show 0 < v
    generalize (Int.gcd n d : Int) = g at *
    rw [hv] at hd
    exact Int.pos_of_mul_pos_right hd g0
  · show v ≤ d
    have v0 : 0 < v := by
      generalize (Int.gcd n d : Int) = g at *
      rw [hv] at hd
      exact Int.pos_of_mul_pos_right hd g0
    have : 1 * v ≤ (Int.gcd n d : Int) * v := Int.mul_le_mul_of_nonneg_right (by omega) (Int.le_of_lt v0)
    rw [← hv] at this
    omega
structure ThB (m : Nat) (T : Bool → Th) : Prop where
  ok : ∀ b, (T b).Ok
  g : ∀ b, Int.gcd (T b).n (T b).d = 1
  l : ∀ b, (T b).d ≤ 2 ^ m
theorem byR_B (r : Ru) : ThB 1 (byR r) := ⟨byR_ok r, fun b => by cases r <;> cases b <;> decide, fun b => by cases r <;> cases b <;> decide⟩
theorem comb_B {m far : Nat} {T : Bool → Th} {r : Ru} (h : ThB m T) (hf : 1 ≤ far) : ThB (m + far) (combI T r far) := by
  refine ⟨comb_ok h.ok hf, fun b => ?_, fun b => ?_⟩
  · exact (low_gcd (Int.mul_pos (h.ok _).d0 (pow2_pos far))).1
  · refine Int.le_trans (low_gcd (Int.mul_pos (h.ok _).d0 (pow2_pos far))).2.2 ?_
    rw [Int.pow_add]
    exact Int.mul_le_mul_of_nonneg_right (h.l _) (Int.le_of_lt (pow2_pos far))
theorem thF_B : ∀ {c : List (Int × Ru)} {w : Int} {m : Nat} {T : Bool → Th}, ThB m T → Fall w c → 1 ≤ w → ∃ m' : Nat, ThB m' (thF w T c).2 ∧ (m' : Int) ≤ m + w ∧ 1 ≤ (thF w T c).1 ∧ (thF w T c).1 ≤ w
  | [], w, m, T, h, _, hw => ⟨m, h, by omega, hw, Int.le_refl _⟩
  | s :: c, w, m, T, h, hf, hw => by
    obtain ⟨f1, f2, f3⟩ := hf
    obtain ⟨m', h1, h2, h3, h4⟩ := thF_B (c := c) (comb_B (r := s.2) (far := (w - s.1).toNat) h (by omega)) f3 f1
    exact ⟨m', h1, by omega, h3, by show (thF s.1 _ c).1 ≤ w; omega⟩
theorem ThB.mono {m m' : Nat} {T : Bool → Th} (h : ThB m T) (hm : m ≤ m') : ThB m' T := ⟨h.ok, h.g, fun b => Int.le_trans (h.l b) (pow_le2 hm)⟩
theorem chT_B {c : List (Int × Ru)} (hc : c ≠ []) (hw : Wds c) : ThB 101 (chT c).2 ∧ 1 ≤ (chT c).1 ∧ (chT c).1 ≤ 100 := by
  cases c with
  | nil => exact absurd rfl hc
  | cons s c =>
    obtain ⟨h1, h2⟩ := hw.hd
    obtain ⟨m, k1, k2, k3, k4⟩ := thF_B (byR_B s.2) (trim_fall (l := s.1) hw.tl) h1
    exact ⟨k1.mono (by omega), k3, by show (thF s.1 _ _).1 ≤ 100; omega⟩
structure Vb (a : Nat) (n d : Int) : Prop where
  hi : n ≤ d * 2 ^ a
  lo : d ≤ n * 2 ^ a
theorem vb_e {n d w : Int} {a : Nat} (h : Nu n d) (v : Vb a n d) (h1 : 1 ≤ w) (h2 : w ≤ 100) : -(a : Int) - 100 ≤ (cellI n d w).2 ∧ (cellI n d w).2 ≤ a := by
  obtain ⟨p, q, he⟩ : ∃ p q : Nat, (cellI n d w).2 = (p : Int) - q := ⟨((cellI n d w).2).toNat, (-(cellI n d w).2).toNat, by omega⟩
  obtain ⟨c1, c2, c3, c4⟩ := cell_pq h.n0 h.d0 h1 p q he
  have hb := Int.mul_pos h.d0 (pow2_pos p)
  have hd := h.d0
  rw [c1] at c2 c3
  have x1 := (Int.le_ediv_iff_mul_le hb).mp c2
  have x2 := (Int.ediv_lt_iff_lt_mul hb).mp c3
  have y1 : (w - 1).toNat + p < a + q + 1 := by
    refine pow_lt_pow2 ?_
    refine Int.lt_of_mul_lt_mul_left (a := d) ?_ (Int.le_of_lt hd)
    have := Int.mul_le_mul_of_nonneg_right v.hi (Int.le_of_lt (pow2_pos q))
    have z := Int.mul_pos hd (pow2_pos (a + q))
    rw [Int.pow_succ, Int.pow_add]
    rw [Int.pow_add] at z ⊢
    grind
  have y2 : q < w.toNat + p + a := by
    refine pow_lt_pow2 ?_
    refine Int.lt_of_mul_lt_mul_left (a := d) ?_ (Int.le_of_lt hd)
    have := Int.mul_le_mul_of_nonneg_right v.lo (Int.le_of_lt (pow2_pos q))
    have z := Int.mul_lt_mul_of_pos_right x2 (pow2_pos a)
    rw [Int.pow_add, Int.pow_add]
    grind
  omega
theorem vb_round {n d w : Int} {a : Nat} (r : Ru) (h : Nu n d) (v : Vb a n d) (h1 : 1 ≤ w) : Vb a (roundI n d w r).1 (roundI n d w r).2 := by
  by_cases f : (posI n d w).1 = 0
  · rw [round_self r f]
    exact v
  rw [thr_round r h.n0 h.d0 h.g h1]
  obtain ⟨s, e, s1, s2, s3⟩ := thr_step (byR r) h h1
  obtain ⟨p, q, he⟩ : ∃ p q : Nat, (cellI n d w).2 = (p : Int) - q := ⟨((cellI n d w).2).toNat, (-(cellI n d w).2).toNat, by omega⟩
  obtain ⟨c1, c2, c3, c4⟩ := cell_pq h.n0 h.d0 h1 p q he
  have hb := Int.mul_pos h.d0 (pow2_pos p)
  have hd := h.d0
  have P0 := pow2_pos p
  have Q0 := pow2_pos q
  obtain ⟨y1, y2, y3⟩ := pow_pos (k := s) (e := (cellI n d w).2) (Int.lt_of_lt_of_le (pow2_pos _) s1)
  have yv := pow_val (k := s) he
  rw [e]
  generalize powI s (cellI n d w).2 = y at *
  rw [c4, lowZ' hb] at f
  have m0 := Int.emod_nonneg (n * 2 ^ q) (show d * 2 ^ p ≠ 0 by omega)
  have hm := Int.emod_def (n * 2 ^ q) (d * 2 ^ p)
  rw [← c1] at hm
  have x2 := (Int.ediv_lt_iff_lt_mul hb).mp (by rw [← c1]; exact c3)
  generalize hk : (cellI n d w).1 = k at *
  have ew : w.toNat = (w - 1).toNat + 1 := by omega
  constructor
  · have u1 : (w - 1).toNat + p < a + q := by
      refine pow_lt_pow2 ?_
      refine Int.lt_of_mul_lt_mul_left (a := d) ?_ (Int.le_of_lt hd)
      have z1 := Int.mul_le_mul_of_nonneg_right v.hi (Int.le_of_lt Q0)
      have z2 := Int.mul_le_mul_of_nonneg_right c2 (Int.le_of_lt hb)
      rw [Int.pow_add, Int.pow_add]
      grind
    have u2 : (2 : Int) ^ w.toNat * 2 ^ p ≤ 2 ^ a * 2 ^ q := by
      rw [← Int.pow_add, ← Int.pow_add]
      exact pow_le2 (by omega)
    have u3 := Int.mul_le_mul_of_nonneg_right s2 (Int.le_of_lt P0)
    have u4 := Int.mul_le_mul_of_nonneg_right (Int.le_trans u3 u2) (Int.le_of_lt y2)
    refine Int.le_of_mul_le_mul_right (a := 2 ^ q) ?_ Q0
    rw [yv]
    grind
  · have u1 : q < w.toNat + p + a := by
      refine pow_lt_pow2 ?_
      refine Int.lt_of_mul_lt_mul_left (a := d) ?_ (Int.le_of_lt hd)
      have := Int.mul_le_mul_of_nonneg_right v.lo (Int.le_of_lt Q0)
      have z := Int.mul_lt_mul_of_pos_right x2 (pow2_pos a)
      rw [Int.pow_add, Int.pow_add]
      grind
    have u2 : (2 : Int) ^ q ≤ 2 ^ (w - 1).toNat * 2 ^ p * 2 ^ a := by
      rw [← Int.pow_add, ← Int.pow_add]
      exact pow_le2 (by omega)
    have u3 := Int.mul_le_mul_of_nonneg_right (Int.mul_le_mul_of_nonneg_right s1 (Int.le_of_lt P0)) (Int.le_of_lt (pow2_pos a))
    have u4 := Int.mul_le_mul_of_nonneg_right (Int.le_trans u2 u3) (Int.le_of_lt y2)
    refine Int.le_of_mul_le_mul_right (a := 2 ^ q) ?_ Q0
    rw [show y.1 * 2 ^ a * 2 ^ q = y.1 * 2 ^ q * 2 ^ a by grind, yv]
    grind
end Z
namespace Z
open L2 PySem PySem.Spec PyProof.Rows
open Evl (Ex ex_l ex_t ex_rd fresh_back)
def fInD (neg : Bool) : BinF := fun d e post => match e with
  | .tuple es => SeqAt.shaped d = true ∧ SeqAt.shaped (.tuple es) = true ∧ post (.bool (if neg then !inD d es else inD d es))
  | .list es => SeqAt.shaped d = true ∧ SeqAt.shaped (.list es) = true ∧ post (.bool (if neg then !inD d es else inD d es))
  | _ => False
def rInX (K : Fg) (neg : Bool) : R2 := fun x y H Q => ∃ d e es, Dp K H x d ∧ Dp K H y e ∧ (e = .list es ∨ e = .tuple es) ∧ SeqAt.shaped d = true ∧ SeqAt.shaped e = true ∧ Q (.bl (if neg then !inD d es else inD d es)) H
section
variable {X : Cx} {a b : Expr} {ta tb : DE} {pos : Pos}
theorem op_notInX (hu : X.A.units + 65 < cLine) : OpR X (compareOp .NotIn) (rInX X.K true) := by
  intro pins s σ H x y v u Q I rx ry h
  obtain ⟨d, e, es, hd, he, ht, sd, se, q⟩ := h
  obtain ⟨as, r1⟩ := Dp.reads I d x v hd rx
  obtain ⟨bs, r2⟩ := Dp.reads I e y u he ry
  rcases ht with rfl | rfl
  · exact SeqAt.notIn_list_reads r2 r1 (SeqAt.canLay_of_shaped se) (SeqAt.canLay_of_shaped sd) (room_in_shaped sd hu) ⟨.bl _, H, I, rfl, q⟩
  · exact SeqAt.notIn_tuple_reads r2 r1 (SeqAt.canLay_of_shaped se) (SeqAt.canLay_of_shaped sd) (room_in_shaped sd hu) ⟨.bl _, H, I, rfl, q⟩
theorem ok_inX {K : Fg} {neg : Bool} : BinOk K (rInX K neg) (fInD neg) := fun F H x y d e post Q hx r1 r2 hf k => by
  cases e with
  | tuple es =>
    obtain ⟨h1, h2, h3⟩ := hf
    exact ⟨d, _, es, r1.dp hx d x (shaped_lay h1), r2.dp hx _ y (shaped_lay h2), .inr rfl, h1, h2, k _ _ H F h3 (Gr.refl hx) (.bl _)⟩
  | list es =>
    obtain ⟨h1, h2, h3⟩ := hf
    exact ⟨d, _, es, r1.dp hx d x (shaped_lay h1), r2.dp hx _ y (shaped_lay h2), .inl rfl, h1, h2, k _ _ H F h3 (Gr.refl hx) (.bl _)⟩
  | _ => exact hf.elim
theorem Room.units1 {k : Nat} {A : Around} (r : Room k A) : A.units + 65 < cLine := by have := r.un; omega
theorem t_notinX {k : Nat} (hr : Room k X.A) (ha : PE X a (up X.K ta)) (hb : PE X b (up X.K tb)) (hm : behindInMarks .NotIn b = false := by rfl) : PT X (.Compare a [.NotIn] [b] pos) (upT X.K (dTest (dBin (fInD true) ta tb))) := t_cmp (op_notInX (Room.units1 hr)) ok_inX ha hb hm
end
theorem lc_mapT {sl : List (Option Sv)} {t : DG} {te : DE} (f : Da → Da) {Q : List Da → Option Nat → Prop} {fu : Option Nat} : ∀ {ds acc : List Da},
    (∀ x ∈ ds, ∀ (R : Rv → Gs → Prop) (N : Gs → Prop), (∀ g3 : Gs, g3.fu = fu → R (.val (f x)) g3) → t (.val x) ⟨sl, fu, false⟩ fun g1 => (true = true → te g1 R) ∧ (true = false → N g1)) → acc.length + ds.length ≤ 1000000 → Q (acc ++ ds.map f) fu → lcD sl t dYes te ds acc fu Q
  | [], acc, _, _, h => by rw [List.map_nil, List.append_nil] at h; exact h
  | x :: xs, acc, hs, hl, h => by
    have ih : lcD sl t dYes te xs (acc ++ [f x]) fu Q := lc_mapT f (fun y hy => hs y (List.mem_cons_of_mem _ hy)) (by rw [List.length_cons] at hl; rw [List.length_append, List.length_cons, List.length_nil]; omega) (by rw [List.append_assoc]; exact h)
    exact hs x List.mem_cons_self (fun r g3 => match r with
      | .val d => acc.length < 1000000 ∧ lcD sl t dYes te xs (acc ++ [d]) (fuN fu g3.fu) Q
      | _ => False) (fun g2 => lcD sl t dYes te xs acc (fuN fu g2.fu) Q) (fun g3 e => ⟨by rw [List.length_cons] at hl; omega, by rw [e, fuN_self]; exact ih⟩)
def stD (s : Int × Ru) : Da := .tuple [.int s.1, .str s.2.s]
def chD (c : List (Int × Ru)) : Da := .tuple (c.map stD)
theorem stD_inj {s s' : Int × Ru} (h : stD s = stD s') : s = s' := by
  obtain ⟨w, r⟩ := s
  obtain ⟨w', r'⟩ := s'
  simp only [stD, PyData.tuple.injEq, List.cons.injEq, PyData.int.injEq, PyData.str.injEq, and_true] at h
  obtain ⟨rfl, h⟩ := h
  refine Prod.ext rfl ?_
  revert h
  cases r <;> cases r' <;> first | exact fun _ => rfl | (intro h; exact absurd h (by decide +kernel))
/-- pairs of an int and a text: may be sorted -/
theorem pairs_sortable {ds : List Da} (h : ∀ d ∈ ds, ∃ (i : Int) (x : Str), d = .tuple [.int i, .str x] ∧ PyData.strOk x = true) :
    PySem.W.AllAlike ds ∧ PySem.W.Sortable ds ∧ ∀ d ∈ ds, d.canLay0 = true ∧ d.depth ≤ 50 := by
  refine ⟨fun d hd e he => ?_, .inl fun d hd => ?_, fun d hd => ?_⟩
  · obtain ⟨i, x, rfl, _⟩ := h d hd
    obtain ⟨j, y, rfl, _⟩ := h e he
    simp [PySem.W.alike, PySem.W.alikeAll]
  · obtain ⟨i, x, rfl, _⟩ := h d hd
    exact ⟨_, _, rfl⟩
  · obtain ⟨i, x, rfl, hx⟩ := h d hd
    refine ⟨?_, ?_⟩
    · simp [PyData.canLay0, PyData.canLayAll0, hx]
    · simp [PyData.depth, PyData.depthAll]
theorem ru_ok (r : Ru) : PyData.strOk r.s = true := by cases r <;> decide +kernel
end Z
namespace Z
open L2 PySem PySem.Spec PyProof.Rows
open Evl (Ex ex_l ex_t ex_rd fresh_back)
theorem powB2 {k e : Int} {a : Nat} (hk : 0 < k) (bk : Bn 102 k) (h1 : -(a : Int) - 100 ≤ e) (h2 : e ≤ a) : 0 < (powI k e).1 ∧ 0 < (powI k e).2 ∧ Int.gcd (powI k e).1 (powI k e).2 = 1 ∧ Bn (a + 300) (powI k e).1 ∧ Bn (a + 300) (powI k e).2 := by
  obtain ⟨p, q⟩ := scI_pos (f := e) hk (show (0 : Int) < 1 by decide)
  obtain ⟨h3, h4, h5, h6, h7⟩ := low_pos p q
  have b1 : Bn (a + 300) (scI k 1 e).1 := (shlB bk).mono (by omega)
  have b2 : Bn (a + 300) (scI k 1 e).2 := (shlB (Bn.small (m := 64) (i := 1) (by decide) (by decide) (by decide))).mono (by omega)
  exact ⟨h3, h4, h5, b1.le (Int.le_of_lt h3) h6, b2.le (Int.le_of_lt h4) h7⟩
/-- a number of values from 2^-a to 2^a -/
structure NuB (a : Nat) (n d : Int) : Prop where
  nu : Nu n d
  v : Vb a n d
  bn : Bn (a + 300) n
  bd : Bn (a + 300) d
theorem bn_le {a : Nat} {n : Int} (h : Bn a n) (h0 : 0 < n) : n ≤ 2 ^ a := by
  have h1 := h.lt
  have e : ((2 ^ a : Nat) : Int) = (2 : Int) ^ a := by norm_cast
  omega
theorem NuB.of {a : Nat} {n d : Int} (hn : 0 < n) (hd : 0 < d) (hg : Int.gcd n d = 1) (bn : Bn a n) (bd : Bn a d) : NuB a n d := by
  have x := bn_le bn hn
  have y := bn_le bd hd
  have p := pow2_pos a
  refine ⟨⟨hn, hd, hg⟩, ⟨?_, ?_⟩, bn.mono (by omega), bd.mono (by omega)⟩
  · have := Int.mul_le_mul_of_nonneg_right (show 1 ≤ d by omega) (Int.le_of_lt p)
    omega
  · have := Int.mul_le_mul_of_nonneg_right (show 1 ≤ n by omega) (Int.le_of_lt p)
    omega
theorem NuB.mono {a b : Nat} {n d : Int} (h : NuB a n d) (hab : a ≤ b) : NuB b n d := by
  have p := pow_le2 hab
  have x := Int.mul_le_mul_of_nonneg_left p (Int.le_of_lt h.nu.d0)
  have y := Int.mul_le_mul_of_nonneg_left p (Int.le_of_lt h.nu.n0)
  have := h.v.hi
  have := h.v.lo
  exact ⟨h.nu, ⟨by omega, by omega⟩, h.bn.mono (by omega), h.bd.mono (by omega)⟩
theorem NuB.round {a : Nat} {n d w : Int} (h : NuB a n d) (r : Ru) (h1 : 1 ≤ w) (h2 : w ≤ 100) : NuB a (roundI n d w r).1 (roundI n d w r).2 := by
  have hv := vb_round r h.nu h.v h1
  have hn := (round_nu r h.nu h1).1
  by_cases f : (posI n d w).1 = 0
  · rw [round_self r f]
    exact h
  obtain ⟨e1, e2⟩ := vb_e h.nu h.v h1 h2
  obtain ⟨s, e, s1, s2, s3⟩ := thr_step (byR r) h.nu h1
  refine ⟨hn, hv, ?_, ?_⟩ <;> rw [thr_round r h.nu.n0 h.nu.d0 h.nu.g h1, e]
  all_goals
    have s0 : 0 < s := Int.lt_of_lt_of_le (pow2_pos _) s1
    have bs : Bn 102 s := (Bn.pow2 (n := w.toNat) (m := 102) (by omega)).le (Int.le_of_lt s0) s2
    obtain ⟨_, _, _, b1, b2⟩ := powB2 s0 bs e1 e2
  · exact b1
  · exact b2
structure Chn1 (c : List (Int × Ru)) : Prop where
  ne : c ≠ []
  len : c.length ≤ 12
  w : Wds c
theorem appl_B {a : Nat} : ∀ {c : List (Int × Ru)} {n d : Int}, Wds c → NuB a n d → NuB a (applI n d c).1 (applI n d c).2
  | [], _, _, _, h => h
  | s :: c, n, d, hw, h => by
    rw [applI]
    exact appl_B hw.tl (h.round s.2 hw.hd.1 hw.hd.2)
theorem thr_ends {n d w : Int} {T : Bool → Th} (hT : ∀ b, (T b).Ok) (h : Nu n d) (hw : 1 ≤ w) : thrI n d w T = (endsI n d w).1 ∨ thrI n d w T = (endsI n d w).2 := by
  by_cases f : (posI n d w).1 = 0
  · rw [thr_self hT h.n0 h.d0 h.g hw f]
    unfold endsI
    rw [if_pos f]
    exact .inl rfl
  · obtain ⟨s, e, _, _, e2⟩ := thr_step T h hw
    rw [e]
    unfold endsI
    rw [if_neg f]
    rcases e2 with e2 | e2 <;> rw [e2]
    · exact .inl rfl
    · exact .inr rfl
theorem appl_ends {c : List (Int × Ru)} {n d : Int} (hc : Chn1 c) (h : Nu n d) : applI n d c = (endsI n d (chT c).1).1 ∨ applI n d c = (endsI n d (chT c).1).2 := by
  rw [chain_law hc.ne hc.w h]
  exact thr_ends (chT_ok hc.w) h (chT_B hc.ne hc.w).2.1
theorem in_two {x a b : Int × Int} (h : x = a ∨ x = b) : inD (nm x) [nm a, nm b] = true := by
  unfold inD
  rw [List.any_cons, List.any_cons, List.any_nil, eqv_num, eqv_num]
  rcases h with rfl | rfl <;> simp
theorem shaped_nums (a b c d : Int) : SeqAt.shaped (.tuple [num a b, num c d]) = true := rfl
end Z
namespace Z
open L2 PySem PySem.Spec PyProof.Rows
open Evl (Ex ex_l ex_t ex_rd fresh_back)
def sdS : Bool → Str
  | true => "up"
  | false => "down"
def thD (t : Th) : Da := .tuple [num t.n t.d, .str (sdS t.up)]
def prF (T : Bool → Th) : Da := .tuple [thD (T false), thD (T true)]
def prD (w : Int) (T : Bool → Th) : Da := .tuple [if w = 1 then .none else thD (T false), thD (T true)]
theorem sd_ok (b : Bool) : PyData.strOk (sdS b) = true := by cases b <;> decide +kernel
theorem shaped_sd (b : Bool) : SeqAt.shaped (.str (sdS b)) = true := by cases b <;> decide +kernel
theorem shaped_dn : SeqAt.shaped (.str "down") = true := shaped_sd false
theorem dec_dn (b : Bool) : (sdS b = ("down" : Str)) ↔ b = false := by cases b <;> decide +kernel
theorem atI_par {α : Type} {x y : α} {i : Int} (h0 : 0 ≤ i) (h1 : i ≤ 1) : atI [x, y] i = some (if i = 1 then y else x) := by
  by_cases h : i = 1
  · subst h; rfl
  · have : i = 0 := by omega
    subst this; rfl
theorem mod2 (k : Int) : 0 ≤ k % 2 ∧ k % 2 ≤ 1 := by omega
theorem pick_par {T : Bool → Th} {k : Int} : atI [thD (T false), thD (T true)] (k % 2) = some (thD (T (decide (k % 2 = 1)))) := by
  rw [atI_par (mod2 k).1 (mod2 k).2]
  by_cases h : k % 2 = 1
  · rw [if_pos h, decide_eq_true h]
  · rw [if_neg h, decide_eq_false h]
theorem Bn.leP {m : Nat} {i : Int} (h0 : 0 ≤ i) (h : i ≤ 2 ^ m) : Bn (m + 1) i := (Bn.pow2 (n := m) (m := m + 1) (by omega)).le h0 h
theorem ThB.bn {m : Nat} {T : Bool → Th} (h : ThB m T) (b : Bool) : Bn (m + 1) (T b).n ∧ Bn (m + 1) (T b).d :=
  ⟨Bn.leP (h.ok b).n0 (Int.le_trans (h.ok b).nd (h.l b)), Bn.leP (Int.le_of_lt (h.ok b).d0) (h.l b)⟩
end Z
namespace Z
open L2 PySem PySem.Spec PyProof.Rows
open Evl (Ex ex_l ex_t ex_rd fresh_back)
theorem kdct_of2 {K : Fg} {w : World} {a : Addr} {es : Array DictEntry} {n : Nat} {x : Str} {u : Value} {v : V} (h : K.lookup a = some ⟨.type "dict", none, .dict es n, #[]⟩) (hk : PySem.W.KeysLit w.params es.toList) (hx : PySem.W.nsIn K a x = some (some u)) (r : RelV v u) : KDct K w a x v :=
  ⟨es, n, u, h, hk, hx, r⟩
end Z
namespace Z
open L2 PySem PySem.Spec PyProof.Rows
open Evl (Ex ex_l ex_t ex_rd fresh_back)
end Z
namespace Z
open L2 PySem PySem.Spec PyProof.Rows
open Evl (Ex ex_l ex_t ex_rd fresh_back)
end Z
namespace Z
open L2 PySem PySem.Spec PyProof.Rows
open Evl (Ex ex_l ex_t ex_rd fresh_back)
end Z
namespace Z
open L2 PySem PySem.Spec PyProof.Rows
open Evl (Ex ex_l ex_t ex_rd fresh_back)
theorem gcd_divW {n d x : Int} (hd : 0 < d) (hs : Bn 9000 d) : CDivW x (Int.gcd n d) := divX 9000 (gcd_pos hd) (hs.le (Int.le_of_lt (gcd_pos hd)) (gcd_le hd)) (Nat.le_refl _)
theorem max0 (e : Int) : (if (0 : Int) > e then 0 else e).toNat = e.toNat := by
  split <;> omega
theorem max0n (e : Int) : (if (0 : Int) > 0 - e then 0 else 0 - e).toNat = (-e).toNat := by
  split <;> omega
theorem max0nn (e : Int) : 0 ≤ (if (0 : Int) > e then 0 else e) := by
  split <;> omega
theorem max0le {e b : Int} (h : e ≤ b) (hb : 0 ≤ b) : (if (0 : Int) > e then 0 else e) ≤ b := by
  split <;> omega
theorem scI_div {n d f : Int} {b : Nat} (hd : 0 < d) (bd : Bn b d) (h : (b : Int) + -f ≤ 8998) (hb : b ≤ 8998) : CDivW (scI n d f).1 (scI n d f).2 :=
  divX 9000 (Int.mul_pos hd (pow2_pos _)) ((shlB bd).mono (by omega)) (Nat.le_refl _)
theorem cell_e {n d w : Int} (hn : 0 < n) (bn : Bn 4000 n) (hd : 0 < d) (bd : Bn 4000 d) (h1 : 1 ≤ w) (h2 : w ≤ 100) : -4100 ≤ (cellI n d w).2 ∧ (cellI n d w).2 ≤ 4000 := by
  obtain ⟨_, _, _, c1, c2⟩ := cellI_spec hn hd h1
  have e1 := bl_le bn
  have e2 := bl_le bd
  have e3 := bl_nn n
  have e4 := bl_nn d
  obtain ⟨p, ep, _⟩ := bl_pos hn
  obtain ⟨q, eq, _⟩ := bl_pos hd
  omega
theorem cell_kB {n d w : Int} (hn : 0 < n) (hd : 0 < d) (h1 : 1 ≤ w) (h2 : w ≤ 100) : 0 < (cellI n d w).1 ∧ Bn 101 (cellI n d w).1 := by
  obtain ⟨_, c1, c2, _⟩ := cellI_spec hn hd h1
  have := pow2_pos (w - 1).toNat
  exact ⟨by omega, (Bn.pow2 (n := w.toNat) (m := 101) (by omega)).le (by omega) (Int.le_of_lt c2)⟩
theorem pos_rest {n d w : Int} (hn : 0 < n) (hd : 0 < d) (h1 : 1 ≤ w) : (scI n d (0 - (cellI n d w).2)).1 - (cellI n d w).1 * (scI n d (0 - (cellI n d w).2)).2 = (scI n d (0 - (cellI n d w).2)).1 % (scI n d (0 - (cellI n d w).2)).2 := by
  obtain ⟨c, _⟩ := cellI_spec hn hd h1
  generalize ha : (scI n d (0 - (cellI n d w).2)).1 = a at c ⊢
  generalize hb : (scI n d (0 - (cellI n d w).2)).2 = b at c ⊢
  rw [c, Int.emod_def, Int.mul_comm]
theorem low_le {n d : Int} (hn : 0 ≤ n) (hd : 0 < d) : 0 ≤ (low n d).1 ∧ (low n d).1 ≤ n := ⟨Int.ediv_nonneg hn (Int.le_of_lt (gcd_pos hd)), Int.ediv_le_self _ hn⟩
theorem pos_B {n d w : Int} (hn : 0 < n) (bn : Bn 4000 n) (hd : 0 < d) (bd : Bn 4000 d) (h1 : 1 ≤ w) (h2 : w ≤ 100) : 0 ≤ (posI n d w).1 ∧ Bn 9000 (posI n d w).1 := by
  obtain ⟨c1, c2⟩ := cell_e hn bn hd bd h1 h2
  obtain ⟨a0, b0⟩ := scI_pos (f := 0 - (cellI n d w).2) hn hd
  have bb : Bn 9000 (scI n d (0 - (cellI n d w).2)).2 := (shlB bd).mono (by omega)
  unfold posI
  rw [pos_rest hn hd h1]
  have r0 := Int.emod_nonneg (scI n d (0 - (cellI n d w).2)).1 (show (scI n d (0 - (cellI n d w).2)).2 ≠ 0 by omega)
  obtain ⟨l1, l2⟩ := low_le r0 b0
  exact ⟨l1, (Bn.modR bb b0).le l1 l2⟩
end Z
namespace Z
open L2 PySem PySem.Spec PyProof.Rows
open Evl (Ex ex_l ex_t ex_rd fresh_back)
end Z
namespace LZ
open PySem
open PySem.Sem (wp)
section
variable {prog : Program} {w : World} {A : Around} {s : Shared} {R : Result → Shared → Prop} {q TI TO u1 u2 t1 t2 S : Addr} {x0 x1 y0 y1 a b : Value}
/-- what the zip stands for, ahead of the first pair -/
structure Fresh (h : Heap) (q TI TO u1 u2 t1 t2 : Addr) (x0 x1 y0 y1 a b : Value) : Prop where
  D : ZipApart q TI TO u1 u2 t1 t2
  z : IsZip h q TI TO .none
  i : IsPair h TI (.ref u1) (.ref u2)
  o : IsPair h TO a b
  g1 : h.IsTupleIter u1 t1 0
  g2 : h.IsTupleIter u2 t2 0
  m1 : h.IsTuple t1 #[x0, x1]
  m2 : h.IsTuple t2 #[y0, y1]
theorem Fresh.keep {h h' : Heap} (F : Fresh h q TI TO u1 u2 t1 t2 x0 x1 y0 y1 a b) (hS : S ≠ q ∧ S ≠ TI ∧ S ≠ TO ∧ S ≠ u1 ∧ S ≠ u2 ∧ S ≠ t1 ∧ S ≠ t2) (hk : ∀ c o, c ≠ S → h.get? c = some o → h'.get? c = some o) : Fresh h' q TI TO u1 u2 t1 t2 x0 x1 y0 y1 a b := by
  obtain ⟨s1, s2, s3, s4, s5, s6, s7⟩ := hS
  exact ⟨F.D, hk _ _ s1.symm F.z, hk _ _ s2.symm F.i, hk _ _ s3.symm F.o, F.g1.at fun o e => hk _ o s4.symm e, F.g2.at fun o e => hk _ o s5.symm e, F.m1.at fun o e => hk _ o s6.symm e, F.m2.at fun o e => hk _ o s7.symm e⟩
end
end LZ
namespace Z
open L2 PySem PySem.Spec PyProof.Rows
open Evl (Ex ex_l ex_t ex_rd fresh_back)
end Z
namespace Z
open L2 PySem PySem.Spec PyProof.Rows
open Evl (Ex ex_l ex_t ex_rd fresh_back)
instance : DecidableEq Th := fun a b => decidable_of_iff (a.n = b.n ∧ a.d = b.d ∧ a.up = b.up) ⟨fun h => by cases a; cases b; simp_all, fun h => by subst h; exact ⟨rfl, rfl, rfl⟩⟩
def Bef (t u : Th) : Prop := t.n * u.d < u.n * t.d ∨ (t.n * u.d = u.n * t.d ∧ t.up = true ∧ u.up = false)
instance (t u : Th) : Decidable (Bef t u) := by unfold Bef; infer_instance
end Z
namespace Z
open L2 PySem PySem.Spec PyProof.Rows
open Evl (Ex ex_l ex_t ex_rd fresh_back)
end Z
namespace Z
open L2 PySem PySem.Spec PyProof.Rows
structure ShB (k z : Nat) (d : Da) : Prop where
  lay : d.canLay0 = true
  sh : d.showable = true
  dp : d.depth ≤ k
  sz : szD d ≤ z
theorem ShB.cps {k z : Nat} {d : Da} (h : ShB k z d) : Cps d.shown := cps_shown d h.lay
theorem ShB.shaped {k z : Nat} {d : Da} (h : ShB k z d) (hk : k ≤ 64) : SeqAt.shaped d = true := by
  unfold SeqAt.shaped
  rw [h.lay, Bool.true_and]
  exact decide_eq_true (Nat.le_trans h.dp hk)
theorem ShB.refl {k z : Nat} {d : Da} (h : ShB k z d) : d.eqv d = true := SeqAt.eqv_refl d h.lay
theorem ShB.mono {k z k' z' : Nat} {d : Da} (h : ShB k z d) (hk : k ≤ k') (hz : z ≤ z') : ShB k' z' d := ⟨h.lay, h.sh, Nat.le_trans h.dp hk, Nat.le_trans h.sz hz⟩
theorem ShB.int {i : Int} (h : Bn 1900 i) : ShB 0 1921 (.int i) := ⟨rfl, decide_eq_true (showI h), Nat.le_refl _, Nat.le_refl _⟩
theorem ShB.none : ShB 0 1921 .none := ⟨rfl, rfl, Nat.le_refl _, by show 4 ≤ 1921; decide⟩
theorem ShB.bool (b : Bool) : ShB 0 1921 (.bool b) := ⟨rfl, rfl, Nat.le_refl _, by show 5 ≤ 1921; decide⟩
theorem ShB.str {x : Str} (h : PyData.strOk x = true) (hl : x.length ≤ 100) : ShB 0 1921 (.str x) := ⟨h, rfl, Nat.le_refl _, by show 10 * x.length + 2 ≤ 1921; omega⟩
theorem ShB.all {k z : Nat} : ∀ {ds : List Da}, (∀ d ∈ ds, ShB k z d) → PyData.canLayAll0 ds = true ∧ PyData.showableAll ds = true ∧ PyData.depthAll ds ≤ k ∧ szAll ds ≤ ds.length * (z + 2)
  | [], _ => ⟨rfl, rfl, Nat.zero_le _, Nat.zero_le _⟩
  | d :: ds, h => by
    obtain ⟨i1, i2, i3, i4⟩ := ShB.all (ds := ds) fun e he => h e (List.mem_cons_of_mem _ he)
    have h0 := h d (List.mem_cons_self ..)
    have h1 := h0.dp
    have h2 := h0.sz
    refine ⟨by simp [PyData.canLayAll0, h0.lay, i1], by simp [PyData.showableAll, h0.sh, i2], ?_, ?_⟩
    · simp only [PyData.depthAll]
      omega
    · rw [List.length_cons, Nat.succ_mul]
      simp only [szAll]
      omega
theorem ShB.tup {k z n : Nat} {ds : List Da} (h : ∀ d ∈ ds, ShB k z d) (hn : ds.length ≤ n) : ShB (k + 1) (n * (z + 2) + 3) (.tuple ds) := by
  obtain ⟨i1, i2, i3, i4⟩ := ShB.all h
  have := Nat.mul_le_mul_right (z + 2) hn
  refine ⟨by simpa [PyData.canLay0] using i1, by simpa [PyData.showable] using i2, ?_, ?_⟩
  · simp only [PyData.depth]
    omega
  · simp only [szD]
    omega
theorem ShB.lst {k z n : Nat} {ds : List Da} (h : ∀ d ∈ ds, ShB k z d) (hn : ds.length ≤ n) : ShB (k + 1) (n * (z + 2) + 3) (.list ds) := by
  obtain ⟨i1, i2, i3, i4⟩ := ShB.all h
  have := Nat.mul_le_mul_right (z + 2) hn
  refine ⟨by simpa [PyData.canLay0] using i1, by simpa [PyData.showable] using i2, ?_, ?_⟩
  · simp only [PyData.depth]
    omega
  · simp only [szD]
    omega
theorem ShB.two {k z : Nat} {a b : Da} (ha : ShB k z a) (hb : ShB k z b) : ∀ d ∈ [a, b], ShB k z d := fun d hd => by
  simp only [List.mem_cons, List.not_mem_nil, or_false] at hd
  rcases hd with rfl | rfl
  · exact ha
  · exact hb
theorem ShB.num {n d : Int} (hn : Bn 1900 n) (hd : Bn 1900 d) : ShB 1 4000 (num n d) := (ShB.tup (ShB.two (ShB.int hn) (ShB.int hd)) (n := 2) (Nat.le_refl 2)).mono (by decide) (by decide)
theorem shaped_prD (w : Int) (T : Bool → Th) : SeqAt.shaped (Z.prD w T) = true := by
  have h1 := sd_ok (T true).up
  have h0 := sd_ok (T false).up
  unfold SeqAt.shaped Z.prD thD
  by_cases q : w = 1
  · rw [if_pos q]
    simp [PyData.canLay0, PyData.canLayAll0, h1, PyData.depth, PyData.depthAll]
  · rw [if_neg q]
    simp [PyData.canLay0, PyData.canLayAll0, h1, h0, PyData.depth, PyData.depthAll]
end Z
namespace Z
open L2 PySem PySem.Spec PyProof.Rows
def Dif (T U : Bool → Th) (b : Bool) (i p : Int) : Prop := ¬(Abv i p (T b) ↔ Abv i p (U b))
/-- the first place where two chains part: a grid of 2 ^ t, the parity of the cell, the index -/
structure SdAt (w : Int) (T U : Bool → Th) (t : Nat) (b : Bool) (j : Int) : Prop where
  b1 : w = 1 → b = true
  dif : Dif T U b j (2 ^ t)
  lo : 0 < j
  hi : j < 2 ^ t
  min : ∀ i, Dif T U b i (2 ^ t) → j ≤ i
  par : b = true → w ≠ 1 → ∀ i, ¬Dif T U false i (2 ^ t)
  pre : ∀ t', t' < t → ∀ b', (w = 1 → b' = true) → ∀ i, ¬Dif T U b' i (2 ^ t')
  tb : t ≤ 101
theorem SdAt.ne {w : Int} {T U : Bool → Th} {t : Nat} {b : Bool} {j : Int} (h : SdAt w T U t b j) : T b ≠ U b := fun e => h.dif (by rw [e])
end Z
namespace Z
open L2 PySem PySem.Spec PyProof.Rows
open Evl (Ex ex_l ex_t ex_rd fresh_back)
end Z
namespace Z
open L2 PySem PySem.Spec PyProof.Rows
instance (T U : Bool → Th) (b : Bool) (x y : Int) : Decidable (Dif T U b x y) := by unfold Dif; infer_instance
/-- x * f / d is a place where the two part -/
def DfX (w : Int) (T U : Bool → Th) (f d x : Int) : Prop := Dif T U (decide ((cellI (x * f) d w).1 % 2 = 1)) (posI (x * f) d w).1 (posI (x * f) d w).2
instance (w : Int) (T U : Bool → Th) (f d x : Int) : Decidable (DfX w T U f d x) := by unfold DfX; infer_instance
end Z
namespace Z
open L2 PySem PySem.Spec PyProof.Rows
def pD (p : Int → Bool) : Da → Bool
  | .int x => p x
  | _ => false
/-- arguments of a search among operands -/
structure LoOk (w : Int) (T U : Bool → Th) (f d p : Int) : Prop where
  w1 : 1 ≤ w
  w2 : w ≤ 100
  T : ThB 101 T
  U : ThB 101 U
  f0 : 0 < f
  bf : Bn 300 f
  d0 : 0 < d
  bd : Bn 300 d
  p1 : 1 ≤ p
  p2 : p ≤ 100
/-- two chains that may be compared -/
structure Two (c c' : List (Int × Ru)) : Prop where
  a : Chn1 c
  b : Chn1 c'
  w : (chT c).1 = (chT c').1
theorem Two.lo {c c' : List (Int × Ru)} {f d p : Int} (h : Two c c') (f0 : 0 < f) (bf : Bn 300 f) (d0 : 0 < d) (bd : Bn 300 d) (p1 : 1 ≤ p) (p2 : p ≤ 100) : LoOk (chT c).1 (chT c).2 (chT c').2 f d p := by
  obtain ⟨hT, w1, w2⟩ := chT_B h.a.ne h.a.w
  obtain ⟨hU, _, _⟩ := chT_B h.b.ne h.b.w
  exact ⟨w1, w2, hT, hU, f0, bf, d0, bd, p1, p2⟩
end Z
namespace Z
open L2 PySem PySem.Spec PyProof.Rows
open Evl (Ex ex_l ex_t ex_rd fresh_back)
/-- chains differ at a product, at a quotient -/
def prP (c c' : List (Int × Ru)) (a b : Int) : Prop := DfX (chT c).1 (chT c).2 (chT c').2 a 1 b
def quP (c c' : List (Int × Ru)) (a b : Int) : Prop := DfX (chT c).1 (chT c).2 (chT c').2 1 b a
instance (c c' : List (Int × Ru)) (a b : Int) : Decidable (prP c c' a b) := by unfold prP; infer_instance
instance (c c' : List (Int × Ru)) (a b : Int) : Decidable (quP c c' a b) := by unfold quP; infer_instance
end Z
namespace Z
open L2 PySem PySem.Spec PyProof.Rows
open Evl (Ex ex_l ex_t ex_rd fresh_back)
end Z
namespace Z
open L2 PySem PySem.Spec PyProof.Rows
end Z
namespace L2
open PySem PySem.Spec PyProof.Rows
end L2
namespace Z
open L2 PySem PySem.Spec PyProof.Rows
open Evl (Ex ex_l ex_t ex_rd fresh_back)
end Z
namespace Z
open L2 PySem PySem.Spec PyProof.Rows
open Evl (Ex ex_l ex_t ex_rd fresh_back)
end Z
namespace Z
open L2 PySem PySem.Spec PyProof.Rows
end Z
namespace Z
open L2 PySem PySem.Spec PyProof.Rows
open Evl (Ex ex_l ex_t ex_rd fresh_back)
end Z
namespace Z
open L2 PySem PySem.Spec PyProof.Rows
end Z
namespace Z
open L2 PySem PySem.Spec PyProof.Rows
open Evl (Ex ex_l ex_t ex_rd fresh_back)
theorem Rps.at {K : Fg} {F : Hp} : ∀ {vs : List V} {ds : List Da}, Rps K F vs ds → ∀ (i : Nat) v d, vs[i]? = some v → ds[i]? = some d → Rp K F v d
  | _, _, .nil, i, v, d, h, _ => by simp at h
  | _, _, .cons r t, 0, v, d, h1, h2 => by simp at h1 h2; subst h1; subst h2; exact r
  | _, _, .cons r t, i + 1, v, d, h1, h2 => Rps.at t i v d (by simpa using h1) (by simpa using h2)
end Z
namespace Z
open L2 PySem PySem.Spec PyProof.Rows
open Evl (Ex ex_l ex_t ex_rd fresh_back)
variable {Wx : WX}
def isOwn : Option Sv → Bool
  | some (.own _) => true
  | _ => false
structure StI (K : Fg) (p C dx : Addr) (F0 H0 : Hp) (g : Gs) (σ : L2.St) (H F : Hp) (a : Addr) (us : List (Str × V)) (fs : List (Str × Da)) : Prop where
  st : Sta K ⟨F, H, none⟩ g σ H [] [] F a
  fu : g.fu = none
  sl0 : g.sl[0]? = some (some (.ob (.at p)))
  ins : H p = some (.ins C dx us)
  fp : F p = none
  nm : us.map Prod.fst = fs.map Prod.fst
  rp : Rps K F (us.map Prod.snd) (fs.map Prod.snd)
  e0 : Ex F0 F
  kp : ∀ b o, b ≠ p → NT o → H0 b = some o → H b = some o
  nw : ∀ b, F b ≠ none → F0 b ≠ none ∨ H0 b = none
  tb : TbS H0 H
section
variable {K : Fg} {p C dx : Addr} {F0 H0 : Hp} {g g' : Gs} {σ σ' : L2.St} {H F H' F' : Hp} {a a' : Addr} {us : List (Str × V)} {fs : List (Str × Da)}
theorem no_own (h : g'.sl.any isOwn = false) {i : Nat} {ds : List Da} : g'.sl[i]? ≠ some (some (.own ds)) := fun z => by
  have h1 := List.mem_of_getElem? z
  rw [List.any_eq_false] at h
  exact h _ h1 rfl
/-- the state from now on -/
theorem Sta.rebase {c : Con} (s : Sta K c g' σ' H' [] [] F' a') (fu : g'.fu = none) (no : g'.sl.any isOwn = false) : Sta K ⟨F', H', none⟩ g' σ' H' [] [] F' a' :=
  ⟨Ex.refl _, s.eh, fun b o _ _ h => h, fun b h => .inl h, fun b h => (by cases h), fun _ => rfl, fun n h => (by rw [fu] at h; cases h), s.tmp, s.len, fun i sv h => by
    obtain ⟨v, h1, h2⟩ := s.slot i sv h
    refine ⟨v, h1, ?_⟩
    cases sv with
    | own ds => exact absurd h (no_own no)
    | _ => exact h2, s.dis, s.tabk, .refl⟩
theorem StI.next (t : StI K p C dx F0 H0 g σ H F a us fs) (s : Sta K ⟨F, H, none⟩ g' σ' H' [] [] F' a') (fu : g'.fu = none) (no : g'.sl.any isOwn = false) (sl0 : g'.sl[0]? = some (some (.ob (.at p)))) : StI K p C dx F0 H0 g' σ' H' F' a' us fs := by
  have kp : ∀ b o, NT o → H b = some o → H' b = some o := fun b o hn h => s.keep b o (fun z => by cases z) hn h
  have fp : F' p = none := by
    cases q : F' p with
    | none => rfl
    | some u =>
      rcases s.new p (ne_none q) with z | z
      · exact absurd t.fp z
      · have : H p = none := z
        rw [t.ins] at this
        cases this
  refine ⟨s.rebase fu no, fu, sl0, kp _ _ (fun _ z => by cases z) t.ins, fp, t.nm, t.rp.up s.e0, t.e0.trans s.e0, fun b o n hn h => kp b o hn (t.kp b o n hn h), fun b h => ?_, t.tb.trans s.tab⟩
  rcases s.new b h with z | z
  · exact t.nw b z
  · by_cases q : b = p
    · subst q; exact absurd fp h
    · refine .inr ?_
      cases w : H0 b with
      | none => rfl
      | some o =>
        have z : H b = none := z
        cases o with
        | tbl ps =>
          obtain ⟨ps', w'⟩ := t.tb b ps w
          rw [w'] at z; cases z
        | _ => rw [t.kp b _ q (fun _ z => by cases z) w] at z; cases z
end
end Z
namespace Z
open L2 PySem PySem.Spec PyProof.Rows
open Evl (Ex ex_l ex_t ex_rd fresh_back)
theorem forD_ix0 {t : DG} {tb : DS} {d : DEnds} (I : Nat → Gs → Prop) {ds : List Da} {g : Gs} (h1 : ∀ (i : Nat) x, ds[i]? = some x → ∀ g, I i g → ∀ N : Gs → Prop, (∀ g', I (i + 1) g' → N g') → t (.val x) g fun g1 => tb { d with nx := N, ct := N, bk := d.nx } g1)
    (h2 : ∀ g, I ds.length g → d.nx g) (h3 : I 0 g) : forD t tb ds d g := by
  refine forD_ix (k := 0) I (fun i x hx g hg N hN => ?_) (fun g hg => ?_) h3
  · rw [Nat.zero_add] at hg hN
    exact h1 i x hx g hg N hN
  · rw [Nat.zero_add] at hg
    exact h2 g hg
theorem rangeD_at {lo : Int} {n k : Nat} {x : Da} (h : (rangeD lo n)[k]? = some x) : k < n ∧ x = .int (lo + k) := by
  have hk := (List.getElem?_eq_some_iff.mp h).1
  rw [rangeD_len] at hk
  unfold rangeD at h
  rw [List.getElem?_map, List.getElem?_range hk] at h
  cases h
  exact ⟨hk, rfl⟩
end Z
namespace Z
open L2 PySem PySem.Spec PyProof.Rows
end Z
namespace Z
open L2 PySem PySem.Spec PyProof.Rows
open Evl (Ex ex_l ex_t ex_rd fresh_back)
variable {Wx : WX}
def plainS : Option Sv → Bool
  | none => true
  | some (.val _) => true
  | _ => false
structure StJ (K : Fg) (nm : Str) (p C dx : Addr) (F0 H0 : Hp) (g : Gs) (σ : L2.St) (H F : Hp) (a : Addr) (us : List (Str × V)) (fs : List (Str × Da)) : Prop where
  st : Sta K ⟨F, H, none⟩ g σ H [] [] F a
  fu : g.fu = none
  sl0 : g.sl[0]? = some (some (.ob (.insAt p nm fs)))
  pl : g.sl.tail.all plainS = true
  nsC : PySem.W.nsIn K mainGlobals nm = some (some (.ref C))
  ins : F p = some (.ins C dx us)
  fp : F0 p = none
  nm : us.map Prod.fst = fs.map Prod.fst
  rp : Rps K F (us.map Prod.snd) (fs.map Prod.snd)
  e0 : Ex F0 F
  kp : ∀ b o, b ≠ p → NT o → H0 b = some o → H b = some o
  nw : ∀ b, b ≠ p → F b ≠ none → F0 b ≠ none ∨ H0 b = none
  tb : TbS H0 H
/-- the new instance is as it was, nothing is own -/
def okJ (g g' : Gs) : Prop := g'.fu = none ∧ g'.sl[0]? = g.sl[0]? ∧ g'.sl.tail.all plainS = true
section
variable {K : Fg} {nm : Str} {p C dx : Addr} {F0 H0 : Hp} {g g' : Gs} {σ σ' : L2.St} {H F H' F' : Hp} {a a' : Addr} {us : List (Str × V)} {fs : List (Str × Da)}
theorem no_ownJ {k : Kd} (h0 : g.sl[0]? = some (some (.ob k))) (ht : g.sl.tail.all plainS = true) {i : Nat} {ds : List Da} : g.sl[i]? ≠ some (some (.own ds)) := fun z => by
  cases i with
  | zero => rw [h0] at z; cases z
  | succ i =>
    have h1 : g.sl.tail[i]? = some (some (.own ds)) := by rw [List.getElem?_tail]; exact z
    have := List.all_eq_true.mp ht _ (List.mem_of_getElem? h1)
    cases this
theorem StJ.next (t : StJ K nm p C dx F0 H0 g σ H F a us fs) (s : Sta K ⟨F, H, none⟩ g' σ' H' [] [] F' a') (ok : okJ g g') : StJ K nm p C dx F0 H0 g' σ' H' F' a' us fs := by
  obtain ⟨fu, o0, pl⟩ := ok
  have sl0 : g'.sl[0]? = some (some (.ob (.insAt p nm fs))) := o0.trans t.sl0
  have kp : ∀ b o, NT o → H b = some o → H' b = some o := fun b o hn h => s.keep b o (fun z => by cases z) hn h
  refine ⟨⟨Ex.refl _, s.eh, fun b o _ _ h => h, fun b h => .inl h, fun b h => (by cases h), fun _ => rfl, fun n h => (by rw [fu] at h; cases h), s.tmp, s.len, fun i sv h => ?_, s.dis, s.tabk, .refl⟩, fu, sl0, pl, t.nsC, s.e0 _ _ t.ins, t.fp, t.nm, t.rp.up s.e0, t.e0.trans s.e0, fun b o n hn h => kp b o hn (t.kp b o n hn h), fun b n h => ?_, t.tb.trans s.tab⟩
  · obtain ⟨v, h1, h2⟩ := s.slot i sv h
    refine ⟨v, h1, ?_⟩
    cases sv with
    | own ds => exact absurd h (no_ownJ sl0 pl)
    | _ => exact h2
  · rcases s.new b h with z | z
    · exact t.nw b n z
    · refine .inr ?_
      cases w : H0 b with
      | none => rfl
      | some o =>
        have z : H b = none := z
        cases o with
        | tbl ps =>
          obtain ⟨ps', w'⟩ := t.tb b ps w
          rw [w'] at z; cases z
        | _ => rw [t.kp b _ n (fun _ z => by cases z) w] at z; cases z
end
end Z
namespace Z
open L2 PySem PySem.Spec PyProof.Rows
/-- the sign of the root of n / d minus t / b * 2 ^ e -/
def cmR (n d e t b : Int) : Int :=
  (if d * t * t * 2 ^ (2 * e).toNat < n * b * b * 2 ^ (0 - 2 * e).toNat then 1 else 0) - (if n * b * b * 2 ^ (0 - 2 * e).toNat < d * t * t * 2 ^ (2 * e).toNat then 1 else 0)
theorem cmR_pos {n d e t b : Int} : 0 < cmR n d e t b ↔ d * t * t * 2 ^ (2 * e).toNat < n * b * b * 2 ^ (0 - 2 * e).toNat := by
  unfold cmR
  split <;> split <;> omega
theorem sq_le {x y : Int} (h0 : 0 ≤ x) (h : x ≤ y) : x * x ≤ y * y := Int.mul_le_mul h h h0 (Int.le_trans h0 h)
theorem p4 (m : Nat) : (2 : Int) ^ m * 2 ^ m = 4 ^ m := by rw [← Int.mul_pow]; rfl
/-- whether the root's position is above the threshold -/
def UpR (n d e k : Int) (T : Bool → Th) : Prop :=
  cmR n d e k 1 ≠ 0 ∧ (0 < cmR n d e (k * (T (decide (k % 2 = 1))).d + (T (decide (k % 2 = 1))).n) (T (decide (k % 2 = 1))).d ∨ (cmR n d e (k * (T (decide (k % 2 = 1))).d + (T (decide (k % 2 = 1))).n) (T (decide (k % 2 = 1))).d = 0 ∧ (T (decide (k % 2 = 1))).up = true))
instance (n d e k : Int) (T : Bool → Th) : Decidable (UpR n d e k T) := by unfold UpR; infer_instance
end Z
namespace Z
open L2 PySem PySem.Spec PyProof.Rows
open Evl (Ex ex_l ex_t ex_rd fresh_back)
end Z
namespace Z
open L2 PySem PySem.Spec PyProof.Rows
open Evl (Ex ex_l ex_t ex_rd fresh_back)
mutual
def layX : Da → Bool
  | .none => true
  | .bool _ => true
  | .int _ => true
  | .str x => PyData.strOk x
  | .list xs => layXs xs
  | .tuple xs => layXs xs
  | .dict kvs => layKv kvs
def layXs : List Da → Bool
  | [] => true
  | x :: xs => layX x && layXs xs
def layKv : List (Da × Da) → Bool
  | [] => true
  | (k, v) :: r => layX k && layX v && layKv r
end
mutual
def szX : Da → Nat
  | .none => 4
  | .bool _ => 5
  | .int _ => 1921
  | .str x => 10 * x.length + 2
  | .list xs => szXs xs + 3
  | .tuple xs => szXs xs + 3
  | .dict kvs => szKv kvs + 3
def szXs : List Da → Nat
  | [] => 0
  | x :: xs => szX x + 2 + szXs xs
def szKv : List (Da × Da) → Nat
  | [] => 0
  | (k, v) :: r => szX k + szX v + 4 + szKv r
end
theorem dictText_len_le (ps : List Str) : (dictText ps).length ≤ (ps.map (·.length)).sum + 2 * ps.length + 2 := by
  have h : (Str.join ", " ps).length ≤ (ps.map (·.length)).sum + ps.length * 2 := StrLaws.join_length_le ", " ps
  unfold dictText
  rw [strLen_append, strLen_append]
  show 1 + (Str.join ", " ps).length + 1 ≤ _
  omega
mutual
theorem szX_ok : ∀ d : Da, layX d = true → d.showable = true → d.shown.length ≤ szX d
  | .none, _, _ => by decide +kernel
  | .bool true, _, _ => by decide +kernel
  | .bool false, _, _ => by decide +kernel
  | .int i, _, h => int_text_len_1921 (of_decide_eq_true (show decide (i.natAbs.log2 < 1920) = true from h))
  | .str x, h, _ => StrLaws.reprText_len x (strOk_small h)
  | .list xs, h, h' => by
    have h1 := szXs_ok xs h (by simpa [PyData.showable] using h')
    have h2 := listText_len_le (PyData.shownAll xs)
    show (listText (PyData.shownAll xs)).length ≤ szXs xs + 3
    omega
  | .tuple xs, h, h' => by
    have h1 := szXs_ok xs h (by simpa [PyData.showable] using h')
    have h2 := tupleText_len_le (PyData.shownAll xs)
    show (tupleText (PyData.shownAll xs)).length ≤ szXs xs + 3
    omega
  | .dict kvs, h, h' => by
    have h1 := szKv_ok kvs h (by simpa [PyData.showable] using h')
    have h2 := dictText_len_le (PyData.shownKv kvs)
    show (dictText (PyData.shownKv kvs)).length ≤ szKv kvs + 3
    omega
theorem szXs_ok : ∀ xs : List Da, layXs xs = true → PyData.showableAll xs = true → ((PyData.shownAll xs).map (·.length)).sum + 2 * (PyData.shownAll xs).length ≤ szXs xs
  | [], _, _ => by simp [PyData.shownAll, szXs]
  | x :: xs, h, h' => by
    have q : layX x = true ∧ layXs xs = true := by simpa [layXs] using h
    have q' : x.showable = true ∧ PyData.showableAll xs = true := by simpa [PyData.showableAll] using h'
    have h1 := szX_ok x q.1 q'.1
    have h2 := szXs_ok xs q.2 q'.2
    simp only [PyData.shownAll, szXs, List.map_cons, List.sum_cons, List.length_cons]
    omega
theorem szKv_ok : ∀ kvs : List (Da × Da), layKv kvs = true → PyData.showableKv kvs = true → ((PyData.shownKv kvs).map (·.length)).sum + 2 * (PyData.shownKv kvs).length ≤ szKv kvs
  | [], _, _ => by simp [PyData.shownKv, szKv]
  | (k, v) :: r, h, h' => by
    have q : (layX k = true ∧ layX v = true) ∧ layKv r = true := by simpa [layKv] using h
    have q' : (k.showable = true ∧ v.showable = true) ∧ PyData.showableKv r = true := by simpa [PyData.showableKv] using h'
    have h1 := szX_ok k q.1.1 q'.1.1
    have h2 := szX_ok v q.1.2 q'.1.2
    have h3 := szKv_ok r q.2 q'.2
    have e : (k.shown ++ ": " ++ v.shown).length = k.shown.length + 2 + v.shown.length := by
      rw [strLen_append, strLen_append]; rfl
    simp only [PyData.shownKv, szKv, List.map_cons, List.sum_cons, List.length_cons, e]
    omega
end
mutual
theorem cps_shownX : ∀ d : Da, layX d = true → Cps d.shown
  | .none, _ => cps_of _
  | .bool b, _ => by cases b <;> exact cps_of _
  | .int i, _ => cps_of _
  | .str x, h => cps_repr (cps_ok.mp h)
  | .list xs, h => cps_app (cps_text _ _ _ (cps_of _) (cps_allX xs h)) (cps_of _)
  | .tuple xs, h => cps_app (cps_app (cps_of _) (cps_join (cps_of _) _ (cps_allX xs h))) (cps_of _)
  | .dict kvs, h => cps_app (cps_app (cps_of _) (cps_join (cps_of _) _ (cps_allKv kvs h))) (cps_of _)
theorem cps_allX : ∀ xs : List Da, layXs xs = true → ∀ t ∈ PyData.shownAll xs, Cps t
  | [], _, t, ht => by simp [PyData.shownAll] at ht
  | x :: xs, h, t, ht => by
    have q : layX x = true ∧ layXs xs = true := by simpa [layXs] using h
    rcases List.mem_cons.mp (show t ∈ x.shown :: PyData.shownAll xs from ht) with rfl | ht
    · exact cps_shownX x q.1
    · exact cps_allX xs q.2 t ht
theorem cps_allKv : ∀ kvs : List (Da × Da), layKv kvs = true → ∀ t ∈ PyData.shownKv kvs, Cps t
  | [], _, t, ht => by simp [PyData.shownKv] at ht
  | (k, v) :: r, h, t, ht => by
    have q : (layX k = true ∧ layX v = true) ∧ layKv r = true := by simpa [layKv] using h
    rcases List.mem_cons.mp (show t ∈ (k.shown ++ ": " ++ v.shown) :: PyData.shownKv r from ht) with rfl | ht
    · exact cps_app (cps_app (cps_shownX k q.1.1) (cps_of _)) (cps_shownX v q.1.2)
    · exact cps_allKv r q.2 t ht
end
/-- may be shown, dicts among them -/
structure ShX (d : Da) : Prop where
  lay : layX d = true
  sh : d.showable = true
  dp : d.depth ≤ 60
  sz : szX d ≤ 16000000
theorem ShX.len {d : Da} (h : ShX d) : d.shown.length ≤ sizeLine := Nat.le_trans (szX_ok d h.lay h.sh) (Nat.le_trans h.sz (by decide))
theorem ShX.cps {d : Da} (h : ShX d) : Cps d.shown := cps_shownX d h.lay
end Z
namespace Z
open L2 PySem PySem.Spec PyProof.Rows
theorem sq_lt' {x y : Int} (hx : 0 ≤ x) (hy : 0 ≤ y) (h : x * x < y * y) : x < y := by
  rcases Int.lt_or_le x y with z | z
  · exact z
  · have := sq_le hy z
    omega
theorem sq_le' {x y : Int} (hx : 0 ≤ x) (hy : 0 ≤ y) (h : x * x ≤ y * y) : x ≤ y := by
  rcases Int.lt_or_le y x with z | z
  · have := Int.mul_le_mul z z (by omega) hx
    have e : (y + 1) * (y + 1) = y * y + 2 * y + 1 := by grind
    omega
  · exact z
theorem p4n (e : Int) : (2 : Int) ^ (2 * e).toNat = 2 ^ e.toNat * 2 ^ e.toNat ∧ (2 : Int) ^ (0 - 2 * e).toNat = 2 ^ (-e).toNat * 2 ^ (-e).toNat := by
  rw [← Int.pow_add, ← Int.pow_add]
  constructor <;> congr 1 <;> omega
/-- t / u at the root's side, told by a fraction a / b: A = a * 2 ^ -e, B = b * 2 ^ e -/
structure Side (n d a b A B e : Int) : Prop where
  hA : A = a * 2 ^ (-e).toNat
  hB : B = b * 2 ^ e.toNat
  n0 : 0 < n
  d0 : 0 < d
  a0 : 0 ≤ a
  b0 : 0 < b
section
variable {n d a b A B e t u : Int}
theorem Side.A0 (s : Side n d a b A B e) : 0 ≤ A := by rw [s.hA]; exact Int.mul_nonneg s.a0 (Int.le_of_lt (pow2_pos _))
theorem Side.B0 (s : Side n d a b A B e) : 0 < B := by rw [s.hB]; exact Int.mul_pos s.b0 (pow2_pos _)
/-- the two squares, told by cmR's two sides -/
theorem Side.sq (s : Side n d a b A B e) : (t * B) * (t * B) * d = (d * t * t * 2 ^ (2 * e).toNat) * (b * b) ∧ (u * A) * (u * A) * d = (u * u * 2 ^ (0 - 2 * e).toNat) * (a * a * d) := by
  rw [s.hA, s.hB, (p4n e).1, (p4n e).2]
  constructor <;> grind
/-- the fraction is not above the root -/
theorem Side.le (s : Side n d a b A B e) (h : a * a * d ≤ n * (b * b)) (u0 : 0 < u) (t0 : 0 ≤ t) (c : cmR n d e t u ≤ 0) : u * A ≤ t * B := by
  have c : n * u * u * 2 ^ (0 - 2 * e).toNat ≤ d * t * t * 2 ^ (2 * e).toNat := by
    have := cmR_pos (n := n) (d := d) (e := e) (t := t) (b := u)
    omega
  have hd := s.d0
  have bb := Int.mul_pos s.b0 s.b0
  refine sq_le' (Int.mul_nonneg (Int.le_of_lt u0) s.A0) (Int.mul_nonneg t0 (Int.le_of_lt s.B0)) (Int.le_of_mul_le_mul_right (a := d) ?_ hd)
  rw [(s.sq (t := t) (u := u)).1, (s.sq (t := t) (u := u)).2]
  have p := Int.mul_pos (Int.mul_pos u0 u0) (pow2_pos (0 - 2 * e).toNat)
  have q1 := Int.mul_le_mul_of_nonneg_right c (Int.le_of_lt bb)
  have q2 := Int.mul_le_mul_of_nonneg_left h (Int.le_of_lt p)
  have e1 : n * u * u * 2 ^ (0 - 2 * e).toNat * (b * b) = u * u * 2 ^ (0 - 2 * e).toNat * (n * (b * b)) := by grind
  omega
/-- the fraction is below the root -/
theorem Side.lt (s : Side n d a b A B e) (h : a * a * d < n * (b * b)) (u0 : 0 < u) (t0 : 0 ≤ t) (c : cmR n d e t u ≤ 0) : u * A < t * B := by
  have c : n * u * u * 2 ^ (0 - 2 * e).toNat ≤ d * t * t * 2 ^ (2 * e).toNat := by
    have := cmR_pos (n := n) (d := d) (e := e) (t := t) (b := u)
    omega
  have hd := s.d0
  have bb := Int.mul_pos s.b0 s.b0
  refine sq_lt' (Int.mul_nonneg (Int.le_of_lt u0) s.A0) (Int.mul_nonneg t0 (Int.le_of_lt s.B0)) (Int.lt_of_mul_lt_mul_right (a := d) ?_ (Int.le_of_lt hd))
  rw [(s.sq (t := t) (u := u)).1, (s.sq (t := t) (u := u)).2]
  have p := Int.mul_pos (Int.mul_pos u0 u0) (pow2_pos (0 - 2 * e).toNat)
  have q1 := Int.mul_le_mul_of_nonneg_right c (Int.le_of_lt bb)
  have q2 := Int.mul_lt_mul_of_pos_left h p
  have e1 : n * u * u * 2 ^ (0 - 2 * e).toNat * (b * b) = u * u * 2 ^ (0 - 2 * e).toNat * (n * (b * b)) := by grind
  omega
end
end Z
namespace Z
open L2 PySem PySem.Spec PyProof.Rows
open Evl (Ex ex_l ex_t ex_rd fresh_back)
variable {Wx : WX}
theorem Rps.app2 {K : Fg} {F : Hp} : ∀ {vs : List V} {ds : List Da} {v : V} {d : Da}, Rps K F vs ds → Rp K F v d → Rps K F (vs ++ [v]) (ds ++ [d])
  | _, _, _, _, .nil, r => .cons r .nil
  | _, _, _, _, .cons a t, r => .cons a (Rps.app2 t r)
theorem Rps.rev {K : Fg} {F : Hp} : ∀ {vs : List V} {ds : List Da}, Rps K F vs ds → Rps K F vs.reverse ds.reverse
  | _, _, .nil => .nil
  | _, _, .cons a t => by
    rw [List.reverse_cons, List.reverse_cons]
    exact Rps.app2 (Rps.rev t) a
structure Tri (x y z : Int) : Prop where
  x0 : 0 ≤ x
  y0 : 0 ≤ y
  z0 : 0 ≤ z
  ev : (x + y + z) % 2 = 0
  a : x ≤ y + z
  b : y ≤ x + z
  c : z ≤ x + y
theorem Tri.add {x y z x' y' z' : Int} (h : Tri x y z) (h' : Tri x' y' z') : Tri (x + x') (y + y') (z + z') := by
  obtain ⟨a1, a2, a3, a4, a5, a6, a7⟩ := h
  obtain ⟨b1, b2, b3, b4, b5, b6, b7⟩ := h'
  exact ⟨by omega, by omega, by omega, by omega, by omega, by omega, by omega⟩
end Z
namespace Z
open L2 PySem PySem.Spec PyProof.Rows
open Evl (Ex ex_l ex_t ex_rd fresh_back)
variable {Wx : WX}
theorem NewL.grow {K : Fg} {c : Con} {g : Gs} {σ : L2.St} {H F : Hp} {a p : Addr} {v : V} {ds : List Da} {ot : HO} (h : NewL K c g σ H F a v ds) (e : Ex F H) (hp : H p = none) : NewL K c g σ (upd H p ot) (upd F p ot) a v ds := by
  obtain ⟨o, xs, rfl, q2, q3, q4, q5, q6, q7⟩ := h.ex
  have ne : o ≠ p := fun z => by rw [z, hp] at q4; cases q4
  exact ⟨o, xs, rfl, by rw [upd_ne ne]; exact q2, q3, by rw [upd_ne ne]; exact q4, q5.up (Gr.new e hp).f, q6, q7⟩
end Z
namespace LZN
open PySem
open PySem.Sem (wp)
/-- a zip ahead of an item: fresh, or its first tuple still held -/
def ZSt (h : Heap) (q TI TO u1 u2 S : Addr) : Prop := IsZip h q TI TO .none ∨ ∃ (T : Addr) (f : Bool) (oT : Obj), IsZipHeld h q TI TO T f ∧ h.get? T = some oT ∧ T ≠ q ∧ T ≠ u1 ∧ T ≠ u2 ∧ T ≠ S
structure Run (h : Heap) (q TI TO u1 u2 l1 l2 S : Addr) (xs ys : Array Value) (k : Nat) : Prop where
  D : ZipApart q TI TO u1 u2 l1 l2
  z : ZSt h q TI TO u1 u2 S
  o : ∃ a b, IsPair h TO a b
  i : IsPair h TI (.ref u1) (.ref u2)
  g1 : h.IsListIter u1 l1 k
  g2 : h.IsListIter u2 l2 k
  m1 : h.IsList l1 xs
  m2 : h.IsList l2 ys
structure Off (S q TI TO u1 u2 l1 l2 : Addr) : Prop where
  q : S ≠ q
  TI : S ≠ TI
  TO : S ≠ TO
  u1 : S ≠ u1
  u2 : S ≠ u2
  l1 : S ≠ l1
  l2 : S ≠ l2
section
variable {h h' : Heap} {q TI TO u1 u2 l1 l2 S : Addr} {xs ys : Array Value} {k : Nat}
theorem Run.keep (R : Run h q TI TO u1 u2 l1 l2 S xs ys k) (o : Off S q TI TO u1 u2 l1 l2) (hk : ∀ c ob, c ≠ S → h.get? c = some ob → h'.get? c = some ob) : Run h' q TI TO u1 u2 l1 l2 S xs ys k := by
  obtain ⟨a, b, z2⟩ := R.o
  refine ⟨R.D, ?_, ⟨a, b, hk _ _ o.TO.symm z2⟩, hk _ _ o.TI.symm R.i, R.g1.at fun ob e => hk _ ob o.u1.symm e, R.g2.at fun ob e => hk _ ob o.u2.symm e, R.m1.at fun ob e => hk _ ob o.l1.symm e, R.m2.at fun ob e => hk _ ob o.l2.symm e⟩
  rcases R.z with z1 | ⟨T, f, oT, z1, z2, n1, n2, n3, n4⟩
  · exact .inl (hk _ _ o.q.symm z1)
  · exact .inr ⟨T, f, oT, hk _ _ o.q.symm z1, hk _ _ n4 z2, n1, n2, n3, n4⟩
end
end LZN
namespace Z
open L2 PySem PySem.Spec PyProof.Rows
open Evl (Ex ex_l ex_t ex_rd fresh_back)
end Z
namespace L2
open PySem PySem.Spec PyProof.Rows
end L2
namespace Z
open L2 PySem PySem.Spec PyProof.Rows
open Evl (Ex ex_l ex_t ex_rd fresh_back)
end Z
namespace Z
open L2 PySem PySem.Spec PyProof.Rows
end Z
namespace Z
open L2 PySem PySem.Spec PyProof.Rows
end Z
namespace Z
open L2 PySem PySem.Spec PyProof.Rows
open Evl (Ex ex_l ex_t ex_rd fresh_back)
end Z
namespace Z
open L2 PySem PySem.Spec PyProof.Rows
open Evl (Ex ex_l ex_t ex_rd fresh_back)
end Z
namespace Z
open L2 PySem PySem.Spec PyProof.Rows
open Evl (Ex ex_l ex_t ex_rd fresh_back)
end Z
namespace Z
open L2 PySem PySem.Spec PyProof.Rows
open Evl (Ex ex_l ex_t ex_rd fresh_back)
end Z
namespace Z
open L2 PySem PySem.Spec PyProof.Rows
open Evl (Ex ex_l ex_t ex_rd fresh_back)
variable {Wx : WX}
/-- an expression that may raise: it gives what a def gives -/
abbrev DX := Gs → (Rr → Gs → Prop) → Prop
def Gs.unset (g : Gs) (i : Nat) : Gs := { g with sl := g.sl.set i none }
def gAs (g : Gs) (nm : Str) (z : Option Da) : Option Nat → Gs
  | none => g
  | some i => g.set i (.ob (.exc nm z))
def rtN (post : Rr → Option Nat → Prop) : Rr → Gs → Prop := fun r g => match r with
  | .exc _ _ => False
  | .val x => post (.val x) g.fu
  | .own ds => post (.own ds) g.fu
end Z
namespace Z
open L2 PySem PySem.Spec PyProof.Rows
open Evl (Ex ex_l ex_t ex_rd fresh_back)
open LamX (LamS lamEnv lamCx lam_start2 inv_table CodeO)
variable {Wx : WX}
/-- what a lambda's body may see: no own list, no source -/
def plainO : Option Sv → Option Sv
  | some (.own _) => none
  | some .src => none
  | x => x
def gLam (g : Gs) : Gs := ⟨g.sl.map plainO, none, true⟩
/-- the lambda as a def's promise -/
def lamF (t : DX) (g : Gs) : FSp := fun rs fu post => rs = [] ∧ fu = none ∧ t (gLam g) fun r _ => post r none
section
variable {K : Fg} {c : Con} {g : Gs} {σ : L2.St} {H H' F F' : Hp} {tv : List V} {tr : List Rv} {a a' : Addr}
theorem Sta.lam (s : Sta K c g σ H tv tr F a) (ef : Ex F F') (eh : Ex F' H') (tk : TabK K F' H') : Sta K ⟨F', H', none⟩ (gLam g) σ H' [] [] F' a' := by
  have back : ∀ {i : Nat} {sv : Sv}, (gLam g).sl[i]? = some (some sv) → g.sl[i]? = some (some sv) ∧ (∀ ds, sv ≠ .own ds) ∧ sv ≠ .src := fun {i sv} h => by
    have h' : (g.sl.map plainO)[i]? = some (some sv) := h
    rw [List.getElem?_map] at h'
    cases q : g.sl[i]? with
    | none => rw [q] at h'; cases h'
    | some x =>
      rw [q] at h'
      have h2 : plainO x = some sv := Option.some.inj h'
      cases x with
      | none => cases h2
      | some y =>
        cases y with
        | own ds => cases h2
        | src => cases h2
        | val d => cases h2; exact ⟨rfl, fun _ z => (by cases z), fun z => (by cases z)⟩
        | scr d => cases h2; exact ⟨rfl, fun _ z => (by cases z), fun z => (by cases z)⟩
        | ob d => cases h2; exact ⟨rfl, fun _ z => (by cases z), fun z => (by cases z)⟩
  refine ⟨Ex.refl _, eh, fun b o _ _ h => h, fun b h => .inl h, fun b h => (by cases h), fun _ => rfl, fun n h => (by cases h), .nil, ?_, fun i sv h => ?_, fun i j ds es _ h => absurd rfl ((back h).2.1 ds), tk, .refl⟩
  · show σ.length = (g.sl.map plainO).length
    rw [List.length_map]; exact s.len
  · obtain ⟨h1, h2, h3⟩ := back h
    obtain ⟨v, w1, w2⟩ := s.slot i sv h1
    refine ⟨v, w1, ?_⟩
    cases sv with
    | val d => exact Rp.up w2 ef
    | src => exact absurd rfl h3
    | scr ns => obtain ⟨b, z1, z2⟩ := w2; exact ⟨b, z1, ex_l ef z2⟩
    | ob k => exact ObOk.up ef w2
    | own ds => exact absurd rfl (h2 ds)
end
end Z
namespace Z
open L2 PySem PySem.Spec PyProof.Rows
open Evl (Ex ex_l ex_t ex_rd fresh_back)
variable {Wx : WX}
/-- the classes, as values -/
inductive Cvs : List V → List Value → Prop
  | nil : Cvs [] []
  | cons {v : V} {u : Value} {vs : List V} {us : List Value} : (∀ w, RelV v w → w = u) → Cvs vs us → Cvs (v :: vs) (u :: us)
theorem Cvs.all {vs : List V} {us ws : List Value} (h : Cvs vs us) (r : Vals vs ws) : ws = us := by
  induction h generalizing ws with
  | nil => cases r; rfl
  | cons h1 _ ih =>
    cases r with
    | cons r1 r2 => rw [h1 _ r1, ih r2]
end Z
namespace Z
open L2 PySem PySem.Spec PyProof.Rows
open Evl (Ex ex_l ex_t ex_rd fresh_back)
end Z
namespace L2
open PySem PySem.Spec PyProof.Rows
end L2
namespace Z
open L2 PySem PySem.Spec PyProof.Rows
open Evl (Ex ex_l ex_t ex_rd fresh_back)
end Z
namespace Z
open L2 PySem PySem.Spec PyProof.Rows
open Evl (Ex ex_l ex_t ex_rd fresh_back)
end Z
namespace Z
open L2 PySem PySem.Spec PyProof.Rows
open Evl (Ex ex_l ex_t ex_rd fresh_back)
end Z
namespace Z
open L2 PySem PySem.Spec PyProof.Rows
open Evl (Ex ex_l ex_t ex_rd fresh_back)
end Z
namespace Z
open L2 PySem PySem.Spec PyProof.Rows
open Evl (Ex ex_l ex_t ex_rd fresh_back)
end Z
namespace Z
open L2 PySem PySem.Spec PyProof.Rows
end Z
namespace Z
open L2 PySem PySem.Spec PyProof.Rows
open Evl (Ex ex_l ex_t ex_rd fresh_back)
end Z
namespace L2
open PySem PySem.Spec PyProof.Rows
end L2
namespace Z
open L2 PySem PySem.Spec PyProof.Rows
open Evl (Ex ex_l ex_t ex_rd fresh_back)
end Z
namespace Z
open L2 PySem PySem.Spec PyProof.Rows
open Evl (Ex ex_l ex_t ex_rd fresh_back)
end Z
namespace Z
open L2 PySem PySem.Spec PyProof.Rows
abbrev sg (x : Str) : List Nat := x.cps.toList
def isDg (c : Nat) : Bool := decide (48 ≤ c) && decide (c ≤ 57)
def optI : Option Int → Da
  | none => .none
  | some n => .int n
/-- a text of the law: short, plain signs, few digits -/
structure TX (n : Nat) (t : Str) : Prop where
  len : t.length ≤ 20000
  asc : ∀ c ∈ sg t, c < 128
  dg : (sg t).countP isDg ≤ n
theorem TX.mono {n m : Nat} {t : Str} (h : TX n t) (hm : n ≤ m) : TX m t := ⟨h.len, h.asc, Nat.le_trans h.dg hm⟩
theorem TX.ok {n : Nat} {t : Str} (h : TX n t) : PyData.strOk t = true := by
  show t.cps.all (fun c => decide (c < 0x110000)) = true
  rw [← Array.all_toList, List.all_eq_true]
  exact fun c hc => decide_eq_true (Nat.lt_trans (h.asc c hc) (by decide))
theorem TX.shaped {n : Nat} {t : Str} (h : TX n t) : SeqAt.shaped (.str t) = true := by
  simp [SeqAt.shaped, PyData.canLay0, PyData.depth, h.ok]
end Z
namespace ZS
open L2 PySem PySem.Spec PyProof.Rows
abbrev Old (h0 h : Heap) : Prop := ∀ b o, h0.get? b = some o → h.get? b = some o
theorem Old.trans {h0 h1 h2 : Heap} (x : Old h0 h1) (y : Old h1 h2) : Old h0 h2 := fun b o e => y b o (x b o e)
/-- the tuple at a is the key k -/
abbrev NK (h : Heap) (k : NestedKey) (a : Addr) : Prop := NestedIs h k (.ref a) ∧ k.depth ≤ 8
end ZS
namespace ZS
open L2 PySem PySem.Spec PyProof.Rows
abbrev KL := List (Addr × NestedKey)
def row (w : World) (p : Addr × NestedKey) : Int × Value := (p.2.hash w, .ref p.1)
def hs (w : World) (L : KL) : List Int := L.map fun p => p.2.hash w
end ZS
namespace ZS
open L2 PySem PySem.Spec PyProof.Rows Z
section
variable {α : Type} [DecidableEq α]
def dd : List α → List α
  | [] => []
  | x :: xs => if x ∈ xs then dd xs else x :: dd xs
end
section
variable {P : Program} {w : World} {B : Around} {h0 : Heap}
theorem take_snoc {α : Type} {l : List α} {i : Nat} {x : α} (h : l[i]? = some x) : l.take (i + 1) = l.take i ++ [x] := by
  rw [List.take_succ, h] <;> rfl
end
mutual
def kD : Da → NestedKey
  | .none => .none
  | .bool b => .num (if b = true then 1 else 0)
  | .int i => .num i
  | .str x => .text x
  | .tuple ds => .tup (kDs ds)
  | .list _ => .none
  | .dict _ => .none
def kDs : List Da → List NestedKey
  | [] => []
  | d :: ds => kD d :: kDs ds
end
mutual
/-- data that has a hash -/
def okD : Da → Bool
  | .none => true
  | .bool _ => true
  | .int _ => true
  | .str _ => true
  | .tuple ds => okDs ds
  | .list _ => false
  | .dict _ => false
def okDs : List Da → Bool
  | [] => true
  | d :: ds => okD d && okDs ds
end
section
variable {X : Cx} {pins : List (Addr × Obj)} {σ : L2.St} {H F : Hp} {s : Shared}
mutual
theorem rp_key (I : Inv X pins σ H s) (e : Evl.Ex F H) : ∀ (d : Da) (v : V) (u : Value), Rp X.K F v d → RelV v u → okD d = true → NestedIs s.heap (kD d) u
  | .none, _, _, h, r, _ => by cases h; cases r; exact .none
  | .bool b, _, _, h, r, _ => by cases h; cases r; exact .bool rfl
  | .int i, _, _, h, r, _ => by cases h; obtain ⟨t, rfl⟩ := r; exact .int i t
  | .str x, _, _, h, r, _ => by cases h; obtain ⟨t, rfl⟩ := r; exact .text x t
  | .tuple ds, _, _, h, r, k => by
    cases h with
    | tup hs ha =>
      cases r
      obtain ⟨its, rv, ⟨o, ho, hc, n, hd⟩, _⟩ := I.tuple (Evl.ex_t e hs)
      exact .tup ho hc hd (rps_keys I e ds _ _ ha rv k)
  | .list _, _, _, _, _, k => nomatch k
  | .dict _, _, _, _, _, k => nomatch k
theorem rps_keys (I : Inv X pins σ H s) (e : Evl.Ex F H) : ∀ (ds : List Da) (vs : List V) (us : List Value), Rps X.K F vs ds → Vals vs us → okDs ds = true → NestedAll s.heap (kDs ds) us
  | [], _, _, h, r, _ => by cases h; cases r; exact .nil
  | d :: ds, _, _, h, r, k => by
    cases h with
    | cons h1 h2 =>
      cases r with
      | cons r1 r2 =>
        unfold okDs at k
        rw [Bool.and_eq_true] at k
        exact .cons (rp_key I e d _ _ h1 r1 k.1) (rps_keys I e ds _ _ h2 r2 k.2)
end
/-- a tuple that may lie in a set -/
def setD (d : Da) : Bool := (match d with
  | .tuple _ => true
  | _ => false) && okD d && decide ((kD d).depth ≤ 8)
end
end ZS
namespace Z
open L2 PySem PySem.Spec PyProof.Rows
end Z
namespace ZS
open L2 PySem PySem.Spec PyProof.Rows
open Z (DctX)
theorem dx_ok {P : Program} {w : World} {H : Hp} {h : Heap} {d : Addr} {es : Array DictEntry} {ep : Nat} (x : h.DictRaw d es ep) : ObjOk P w H h d (DctX d es ep) := by
  have ⟨o, ho, _⟩ := x
  exact ⟨x, ⟨o, ho⟩, fun h1 h2 p k => p.at k⟩
abbrev NX := List (NestedKey × Addr × Value)
def rowsD (P : Program) (w : World) (xs : NX) (es : Array DictEntry) : Prop := es.toList = xs.map (entryOfKey (nestedKind P w))
section
variable {X : Cx} {pins : List (Addr × Obj)} {σ : L2.St} {H : Hp} {s : Shared} {d : Addr} {es : Array DictEntry} {ep : Nat}
theorem dx_get (I : Inv X pins σ H s) (h : H d = some (DctX d es ep)) : s.heap.DictRaw d es ep := (I.hok d _ h).1
/-- {} -/
def tNewX : TE := fun _ H Q => ∀ p, H p = none → (p == sysModules) = false → Q (.ref p) (upd H p (DctX p #[] 0))
end
section
variable {X : Cx} {o e : Expr} {to te : TE} {apos cpos p q : Pos}
theorem pe_newX : PE X (.Dict [] [] p) tNewX := ⟨fun pins s σ H Q I h =>
  wpAny_Dict_empty ⟨.ref s.heap.objs.size, _, I.laid (a := s.heap.objs.size) (o := DctX s.heap.objs.size #[] 0) (t' := s.toks) (fun _ _ q => Heap.get?_push_of_some _ q) (Nat.le_refl _) (dx_ok ⟨_, Heap.get?_push_size _ rfl, ⟨rfl, rfl, rfl⟩, rfl⟩), rfl, h _ (I.hok.fresh (Nat.le_refl _)) (beq_false_of_ne fun z => absurd I.big (by rw [← z]; exact Nat.lt_irrefl _))⟩⟩
/-- what is known of a key: data of the still part -/
def KeyAt (K : PySem.W.Frag) (F : Hp) (k : NestedKey) (b : Addr) : Prop := ∃ da, Z.Rp K F (.ref b) da ∧ setD da = true ∧ k = kD da
theorem KeyAt.nk {pins : List (Addr × Obj)} {σ : L2.St} {H F : Hp} {s : Shared} {k : NestedKey} {b : Addr} (I : Inv X pins σ H s) (ex : Evl.Ex F H) (x : KeyAt X.K F k b) : NK s.heap k b := by
  obtain ⟨da, r, sd, rfl⟩ := x
  simp only [setD, Bool.and_eq_true, decide_eq_true_eq] at sd
  exact ⟨rp_key I ex da _ _ r rfl sd.1.2, sd.2⟩
/-- d.setdefault(k, []) -/
def tSdef (X : Cx) (to te : TE) : TE := fun σ H Q => to σ H fun x H1 => ∃ d es ep, x = .ref d ∧ H1 d = some (DctX d es ep) ∧ (d == sysModules) = false ∧ te σ H1 fun y H2 => ∃ (xs : NX) (es2 : Array DictEntry) (ep2 : Nat) (b : Addr) (k : NestedKey) (F : Hp),
  H2 d = some (DctX d es2 ep2) ∧ rowsD X.prog X.w xs es2 ∧ y = .ref b ∧ Evl.Ex F H2 ∧ KeyAt X.K F k b ∧ (∀ x ∈ xs, KeyAt X.K F x.1 x.2.1) ∧ (xs.map (·.1)).Nodup ∧ xs.length < 10000 ∧ ∀ l, H2 l = none →
    (∀ p, atKey xs k = some p → ∃ v, RelV v p.2 ∧ Q v (upd H2 l (.lst []))) ∧
    (atKey xs k = none → ∀ es3 ep3, rowsD X.prog X.w (storedH xs k b (.ref l)) es3 → Q (.ref l) (upd (upd H2 l (.lst [])) d (DctX d es3 ep3)))
theorem pe_sdef (hu : X.A.units + 64 < cLine) (ho : PE X o to) (he : PE X e te) (m : M2 X o "setdefault" apos e (.List [] q) cpos) : PE X (.Call (.Attribute o "setdefault" apos) [e, .List [] q] [] cpos) (tSdef X to te) := by
  refine ⟨fun pins s σ H Q I h => ?_⟩
  refine wpAny_Call_method m.base m.few m.line PySem.F.plainAttrs_dict PySem.F.slot_dict_setdefault PySem.F.type_dict_setdefault (thn (ho.run pins s σ H _ I h) fun u s1 ⟨x, H1, I1, rx, d, es, ep, ex, hd, hsys, q1⟩ => ?_)
  subst ex
  obtain rfl : u = Value.ref d := rx
  have hr := dx_get I1 hd
  refine ⟨hr.typeIs, fun b hb => ?_, ?_⟩
  · cases hb
    obtain ⟨ob, h1, h2, _⟩ := hr
    exact ⟨ob, h1, h2.2.1⟩
  rw [m.trees]
  refine Calls.callWith_builtin rfl (Calls.evalArgs_plain (Calls.spliced_cons (thn (he.run pins s1 σ H1 _ I1 q1) fun iv s2 ⟨y, H2, I2, ry, q2⟩ =>
    Calls.spliced_cons (thn ((pe_lst (X := X) (pos := q) pa_nil).run pins s2 σ H2 (fun v H3 => ∃ l, v = .ref l ∧ H2 l = none ∧ H3 = upd H2 l (.lst [])) I2 ⟨Nat.zero_le _, fun l hl => ⟨l, rfl, hl, rfl⟩⟩) fun fv s3 ⟨z, H3, I3, rz, l, ez, hl, eH⟩ => Calls.spliced_nil ?_))))
  subst ez eH
  obtain rfl : fv = Value.ref l := rz
  obtain ⟨xs, es2, ep2, b, k, F, h1, h2, rfl, exF, hk, hks, nd, few, q3⟩ := q2
  obtain rfl : iv = Value.ref b := ry
  have ex3 : Evl.Ex F (upd H2 l (.lst [])) := exF.trans (Evl.Ex.new hl)
  have nld : d ≠ l := fun z => by rw [z, hl] at h1; cases h1
  have h1' : upd H2 l (.lst []) d = some (DctX d es2 ep2) := by rw [upd_ne nld]; exact h1
  obtain ⟨ob, o1, o2, o3⟩ := dx_get I3 h1'
  have doh : s3.heap.DictOfH (nestedKind X.prog X.w) d xs := ⟨ob, es2, ep2, o1, o2, o3, h2, fun x hx => (hks x hx).nk I3 ex3, nd⟩
  obtain ⟨g1, g2⟩ := q3 l hl
  refine call_setdefault_heap (knd := nestedKind X.prog X.w) (k := k) (by show X.A.in1.units + 8 < cLine; simp only [Around.in1_units]; omega) (hk.nk I3 ex3) hsys doh (fun p hp => ?_) (fun hn h' doh' sb => ?_) (by rw [sizeLine_eq]; omega)
  · obtain ⟨v, rv, qv⟩ := g1 p hp
    exact ⟨v, _, I3.tok _, rv, qv⟩
  · obtain ⟨o4, es3, ep3, p1, p2, p3, p4, _, _⟩ := doh'
    exact ⟨.ref l, _, I3.write (e := d) (t' := s3.toks + (nestedKind X.prog X.w).draws k) (by rw [h1']; trivial) (.inl rfl) (fun b u hb hu => (sb.2 b hb).trans hu) ⟨o4, p1⟩ (dx_ok ⟨o4, p1, p2, p3⟩), rfl, g2 hn es3 ep3 p4⟩
end
def Itx (d : Addr) (es : Array DictEntry) (ep : Nat) : It :=
  ⟨fun i H => H d = some (DctX d es ep) ∧ i < es.size, fun i H x H' => H' = H ∧ ∃ h : i < es.size, RelV x es[i].val, fun i H => H d = some (DctX d es ep) ∧ es.size ≤ i⟩
theorem turn_valsX {P : Program} {w : World} {K : PySem.W.Frag} {tg : Expr} {d : Addr} {es : Array DictEntry} {ep : Nat} (wf : ∀ i (h : i < es.size), ∃ x, RelV x es[i].val) (it : Addr) : Turn P w K tg (Itx d es ep) [it] it (fun i h => h.IsValIter it d i es.size ep) where
  mem := by simp
  obj := fun i h st b hb => by
    have e : b = it := by simpa using hb
    subst e
    obtain ⟨oi, e, c, dd⟩ := st
    exact ⟨oi, e, fun v z => by rw [dd] at z; cases z⟩
  keep := fun i h h' st k => st.at fun oi e => k it (by simp) oi e
  item := by
    intro X hP hw hK hc i pins s σ H E I hf st hg
    subst hP hw hK
    obtain ⟨hd, hi⟩ := hg
    obtain ⟨f0, f1, f2, f3, f4, f5⟩ := hf it (by simp)
    obtain ⟨x, rx⟩ := wf i hi
    refine wpAny_pyNext_values_item_raw st (dx_get I hd) hi fun h' st' sb => ?_
    have I1 : Inv X pins σ H { s with heap := h' } := I.turned (t' := s.toks) (fun b ob hb e => (sb.2 b hb).trans e) f0 f1 f3 f4 f5
    obtain ⟨oi, e, c, dd⟩ := id st'
    exact ⟨_, rfl, go_of (s := { s with heap := h' }) e c dd (by decide) ⟨x, H, I1, rx, ⟨rfl, hi, rx⟩, st', fun b hb => (hf b hb).1⟩⟩
  done := by
    intro X hP hw hK hc i pins s σ H E I hf st hg
    subst hP hw hK
    obtain ⟨hd, hi⟩ := hg
    obtain ⟨f0, f1, f2, f3, f4, f5⟩ := hf it (by simp)
    exact wpAny_pyNext_values_end_raw (I.ok.hd hc) st (dx_get I hd) hi fun h' eb => ⟨rfl, I.turned (t' := s.toks) (fun b ob hb e => eb b ob hb e) f0 f1 f3 f4 f5⟩
  self := fun A i s Q E st h => wpAny_pyIter_valiter st h
def iValX (td : TE) : TI := fun σ H R => td σ H fun x H1 => ∃ d es ep, x = .ref d ∧ (d == sysModules) = false ∧ H1 d = some (DctX d es ep) ∧ (∀ i (h : i < es.size), ∃ x, RelV x es[i].val) ∧ R (Itx d es ep) H1
theorem pi_valX {X : Cx} {tg e : Expr} {td : TE} {apos cpos : Pos} (he : PE X e td) (hbase : attributeBase e "values" X.env (eval e X.env) = eval e X.env := by rfl) (hline : (apos.endLine == cpos.line) = true := by rfl) : PI X tg (.Call (.Attribute e "values" apos) [] [] cpos) (iValX td) := by
  refine ⟨fun pins s σ H R I h => ?_⟩
  refine wpAny_Call_method (T := "dict") (id := "dict.values") hbase rfl hline F.plainAttrs_dict F.slot_dict_values F.type_dict_values (thn (he.run pins s σ H _ I h) fun u s1 ⟨x, H1, I1, rx, d, es, ep, ex, hsys, hd, wf, q⟩ => ?_)
  subst ex
  obtain rfl : u = Value.ref d := rx
  have hr := dx_get I1 hd
  refine ⟨hr.typeIs, fun b hb => ?_, ?_⟩
  · cases hb
    obtain ⟨ob, h1, h2, _⟩ := hr
    exact ⟨ob, h1, h2.2.1⟩
  have I2 : Inv X pins σ H1 { s1 with heap := s1.heap.push { cls := .type "dict_values", data := .fields #[.ref d] } } := I1.kept (t' := s1.toks) fun b ob q => Heap.get?_push_of_some _ q
  have fin : wpAny (model X.prog X.w) X.A (pyIter (.ref s1.heap.objs.size)) (PIE X pins σ tg R) X.xe { s1 with heap := s1.heap.push { cls := .type "dict_values", data := .fields #[.ref d] } } := by
    refine wpAny_pyIter_values_raw (d := d) ⟨_, Heap.get?_push_size _ rfl, rfl, rfl⟩ (hr.at fun o e => Heap.get?_push_of_some _ e) (pi_one (tk := s1.toks) I2 _ (turn_valsX wf _) ⟨_, Heap.get?_push_size _ rfl, rfl, rfl⟩ q)
  show wpAny _ _ (callWith cpos (.builtin "dict.values") [.ref d] [] []) _ X.xe s1
  exact method_meetsIn F.slot_dict_values F.entry_dict_values rfl (PySem.evalArgs_none ⟨rfl, hr.typeIs, F.args_dict_values_1 _, _, meets_dict_values_raw d hsys, ⟨⟨es, ep, hr⟩, fin⟩⟩)
end ZS
namespace Z
open L2 PySem PySem.Spec PyProof.Rows
open Evl (Ex ex_l ex_t ex_rd fresh_back)
def gQ (g : Gs) : Prop := g.fu = none ∧ g.sl.any isOwn = false
section
variable {K : Fg} {c : Con} {g g' : Gs} {σ σ' : L2.St} {H H' F F' : Hp} {tv tv' : List V} {tr tr' : List Rv} {a a' : Addr}
/-- a frame of its own: all that stands in the heap H' is old -/
theorem Sta.anew (s : Sta K c g σ H tv tr F a) (q : gQ g) (e : Ex F H') (tb : ∀ b ps, H b = some (.tbl ps) → H' b = some (.tbl ps)) : Sta K ⟨F, H', none⟩ g σ H' tv tr F a where
  e0 := Ex.refl F
  eh := e
  keep := fun b o _ _ h => h
  new := fun b q => .inl q
  ex := fun b h => nomatch h
  ow := fun _ => rfl
  src := fun n h => by rw [q.1] at h; cases h
  tmp := s.tmp
  len := s.len
  slot := fun i sv h => by
    obtain ⟨v, h1, h2⟩ := s.slot i sv h
    refine ⟨v, h1, ?_⟩
    cases sv with
    | own ds => exact absurd h (no_own q.2)
    | _ => exact h2
  dis := s.dis
  t0 := s.t0.up (Ex.refl F) tb fun b h => .inl h
  tab := .refl
/-- what the entry's frame wants, told without the state -/
structure Bk (c : Con) (F H : Hp) : Prop where
  ext : c.ext = none
  e0 : Ex c.F F
  keep : ∀ b o, NT o → c.H b = some o → H b = some o
  new : ∀ b, F b ≠ none → c.F b ≠ none ∨ c.H b = none
  tab : TbS c.H H
  fresh : ∀ b, H b = none → c.H b = none
theorem Sta.bk (s : Sta K c g σ H tv tr F a) (q : gQ g) : Bk c F H := by
  have e : c.ext = none := by
    cases z : c.ext with
    | none => rfl
    | some b => exact absurd q.1 (s.ex b z).2
  exact ⟨e, s.e0, fun b o hn h => s.keep b o (by rw [e]; simp) hn h, s.new, s.tab, fun b h => s.fresh h⟩
theorem Bk.more (k : Bk c F H) (ef : Ex F F') (kh : ∀ b o, NT o → c.H b ≠ none → H b = some o → H' b = some o) (nf : ∀ b, F' b ≠ none → F b ≠ none ∨ H b = none) (tb : TbS H H') (fr : ∀ b, H' b = none → H b = none) : Bk c F' H' where
  ext := k.ext
  e0 := k.e0.trans ef
  keep := fun b o hn h => kh b o hn (ne_none h) (k.keep b o hn h)
  new := fun b h => (nf b h).elim (k.new b) fun z => .inr (k.fresh b z)
  tab := k.tab.trans tb
  fresh := fun b h => k.fresh b (fr b h)
end
/-- one entry: the key's data and address, the marks and their list's address -/
structure Gt where
  k : Da
  m : List Da
  b : Addr
  l : Addr
def Gt.x (t : Gt) : NestedKey × Addr × Value := (ZS.kD t.k, t.b, .ref t.l)
structure GtOk (K : Fg) (cH F H : Hp) (d : Addr) (t : Gt) : Prop where
  sd : ZS.setD t.k = true
  kr : Rp K F (.ref t.b) t.k
  ld : t.l ≠ d
  fl : F t.l = none
  cl : cH t.l = none
  mr : ∃ vs, H t.l = some (.lst vs) ∧ Rps K F vs t.m
structure GD (P : Program) (w : World) (K : Fg) (cH F H : Hp) (d : Addr) (ts : List Gt) : Prop where
  sys : (d == sysModules) = false
  fd : F d = none
  cd : cH d = none
  dx : ∃ es ep, H d = some (DctX d es ep) ∧ ZS.rowsD P w (ts.map Gt.x) es
  ok : ∀ t ∈ ts, GtOk K cH F H d t
  ls : (ts.map Gt.l).Nodup
  ks : (ts.map fun t => ZS.kD t.k).Nodup
section
variable {P : Program} {w : World} {K : Fg} {cH F F' H H' : Hp} {d : Addr} {ts : List Gt}
theorem stay_none {b : Addr} (f : F b = none) (h : H b ≠ none) (nf : ∀ b, F' b ≠ none → F b ≠ none ∨ H b = none) : F' b = none := by
  cases q : F' b with
  | none => rfl
  | some o =>
    rcases nf b (ne_none q) with z | z
    · exact absurd f z
    · exact absurd z h
theorem GD.keep (G : GD P w K cH F H d ts) (ef : Ex F F') (kh : ∀ b o, NT o → H b = some o → H' b = some o) (nf : ∀ b, F' b ≠ none → F b ≠ none ∨ H b = none) : GD P w K cH F' H' d ts where
  sys := G.sys
  fd := by
    obtain ⟨es, ep, h, _⟩ := G.dx
    exact stay_none G.fd (ne_none h) nf
  cd := G.cd
  dx := by
    obtain ⟨es, ep, h, r⟩ := G.dx
    exact ⟨es, ep, kh _ _ (fun _ z => by cases z) h, r⟩
  ok := fun t ht => by
    have o := G.ok t ht
    obtain ⟨vs, h, r⟩ := o.mr
    exact ⟨o.sd, o.kr.up ef, o.ld, stay_none o.fl (ne_none h) nf, o.cl, vs, kh _ _ (fun _ z => by cases z) h, r.up ef⟩
  ls := G.ls
  ks := G.ks
/-- a new key with a new list -/
theorem GD.newKey (G : GD P w K cH F H d ts) {k : Da} {b l : Addr} {es : Array DictEntry} {ep : Nat} (sd : ZS.setD k = true) (kr : Rp K F (.ref b) k) (hl : H l = none) (fl : F l = none) (cl : cH l = none)
    (nk : ZS.kD k ∉ ts.map fun t => ZS.kD t.k) (r : ZS.rowsD P w ((ts ++ [Gt.mk k [] b l]).map Gt.x) es) : GD P w K cH F (upd (upd H l (.lst [])) d (DctX d es ep)) d (ts ++ [⟨k, [], b, l⟩]) := by
  obtain ⟨es0, ep0, hd, _⟩ := G.dx
  have nld : l ≠ d := fun z => by rw [z, hd] at hl; cases hl
  refine ⟨G.sys, G.fd, G.cd, ⟨es, ep, upd_same, r⟩, fun t ht => ?_, ?_, ?_⟩
  · rcases List.mem_append.mp ht with ht | ht
    · have o := G.ok t ht
      obtain ⟨vs, h, rr⟩ := o.mr
      have n1 : t.l ≠ l := fun z => by rw [z, hl] at h; cases h
      exact ⟨o.sd, o.kr, o.ld, o.fl, o.cl, vs, by rw [upd_ne o.ld, upd_ne n1]; exact h, rr⟩
    · rw [List.mem_singleton.mp ht]
      exact ⟨sd, kr, nld, fl, cl, [], by rw [upd_ne nld, upd_same], .nil⟩
  · rw [List.map_append]
    refine List.nodup_append.mpr ⟨G.ls, by simp, fun x hx y hy e => ?_⟩
    obtain ⟨t, ht, rfl⟩ := List.mem_map.mp hx
    have ey : y = l := by simpa using hy
    obtain ⟨vs, h, _⟩ := (G.ok t ht).mr
    rw [e, ey, hl] at h
    cases h
  · rw [List.map_append]
    refine List.nodup_append.mpr ⟨G.ks, by simp, fun x hx y hy e => ?_⟩
    have ey : y = ZS.kD k := by simpa using hy
    exact nk (by rw [← ey, ← e]; exact hx)
def putG (κ : NestedKey) (z : Da) (t : Gt) : Gt := if ZS.kD t.k = κ then { t with m := t.m ++ [z] } else t
theorem putG_x (κ : NestedKey) (z : Da) (t : Gt) : (putG κ z t).x = t.x ∧ (putG κ z t).l = t.l ∧ (putG κ z t).k = t.k ∧ (putG κ z t).b = t.b := by
  unfold putG
  split <;> exact ⟨rfl, rfl, rfl, rfl⟩
/-- the list of one key grows -/
theorem GD.app (G : GD P w K cH F H d ts) {t0 : Gt} (h0 : t0 ∈ ts) {vs : List V} (hv : H t0.l = some (.lst vs)) {y : V} {z : Da} (ry : Rp K F y z) : GD P w K cH F (upd H t0.l (.lst (vs ++ [y]))) d (ts.map (putG (ZS.kD t0.k) z)) := by
  have o0 := G.ok t0 h0
  have same : ∀ t ∈ ts, ∀ u ∈ ts, t.l = u.l → t = u := fun t ht u hu e => by
    obtain ⟨i, hi, e1⟩ := List.getElem_of_mem ht
    obtain ⟨j, hj, e2⟩ := List.getElem_of_mem hu
    have q : i = j := (List.getElem_inj G.ls (i := i) (j := j) (h₀ := by simpa using hi) (h₁ := by simpa using hj)).mp (by simp [e1, e2, e])
    subst q
    rw [← e1, ← e2]
  have samek : ∀ t ∈ ts, ∀ u ∈ ts, ZS.kD t.k = ZS.kD u.k → t = u := fun t ht u hu e => by
    obtain ⟨i, hi, e1⟩ := List.getElem_of_mem ht
    obtain ⟨j, hj, e2⟩ := List.getElem_of_mem hu
    have q : i = j := (List.getElem_inj G.ks (i := i) (j := j) (h₀ := by simpa using hi) (h₁ := by simpa using hj)).mp (by simp [e1, e2, e])
    subst q
    rw [← e1, ← e2]
  refine ⟨G.sys, G.fd, G.cd, ?_, fun t ht => ?_, ?_, ?_⟩
  · obtain ⟨es, ep, h, r⟩ := G.dx
    refine ⟨es, ep, by rw [upd_ne (Ne.symm o0.ld)]; exact h, ?_⟩
    rw [List.map_map]
    rw [show ts.map (Gt.x ∘ putG (ZS.kD t0.k) z) = ts.map Gt.x from List.map_congr_left fun t _ => (putG_x _ _ t).1]
    exact r
  · obtain ⟨u, hu, rfl⟩ := List.mem_map.mp ht
    have o := G.ok u hu
    obtain ⟨q1, q2, q3, q4⟩ := putG_x (ZS.kD t0.k) z u
    refine ⟨by rw [q3]; exact o.sd, by rw [q4, q3]; exact o.kr, by rw [q2]; exact o.ld, by rw [q2]; exact o.fl, by rw [q2]; exact o.cl, ?_⟩
    rw [q2]
    by_cases e : ZS.kD u.k = ZS.kD t0.k
    · obtain rfl := samek u hu t0 h0 e
      obtain ⟨vs', hv', r⟩ := o.mr
      rw [hv] at hv'
      cases hv'
      exact ⟨_, upd_same, by unfold putG; rw [if_pos e]; exact r.app (.cons ry .nil)⟩
    · have n : u.l ≠ t0.l := fun z => e (by rw [same u hu t0 h0 z])
      obtain ⟨vs', hv', r⟩ := o.mr
      exact ⟨vs', by rw [upd_ne n]; exact hv', by unfold putG; rw [if_neg e]; exact r⟩
  · rw [List.map_map, show ts.map (Gt.l ∘ putG (ZS.kD t0.k) z) = ts.map Gt.l from List.map_congr_left fun t _ => (putG_x _ _ t).2.1]
    exact G.ls
  · rw [List.map_map, show ts.map ((fun t => ZS.kD t.k) ∘ putG (ZS.kD t0.k) z) = ts.map (fun t => ZS.kD t.k) from List.map_congr_left fun t _ => by show ZS.kD (putG _ _ t).k = _; rw [(putG_x _ _ t).2.2.1]]
    exact G.ks
end
end Z
namespace Z
open L2 PySem PySem.Spec PyProof.Rows
open Evl (Ex ex_l ex_t ex_rd fresh_back)
/-- keys with their marks -/
abbrev Acc := List (Da × List Da)
def Gt.a (t : Gt) : Da × List Da := (t.k, t.m)
def putA (κ : NestedKey) (z : Da) (p : Da × List Da) : Da × List Da := if ZS.kD p.1 = κ then (p.1, p.2 ++ [z]) else p
def addG (acc : Acc) (k z : Da) : Acc := (if ZS.kD k ∈ acc.map (fun p => ZS.kD p.1) then acc else acc ++ [(k, [])]).map (putA (ZS.kD k) z)
theorem putG_a (κ : NestedKey) (z : Da) (t : Gt) : (putG κ z t).a = putA κ z t.a := by
  unfold putG putA Gt.a
  split <;> rfl
def grpD (iD : Nat) (p : Addr) (t : DG) (ct : DT) (tk tv : DE) (R : Acc → Gs → Prop) : List Da → Acc → Gs → Prop
  | [], acc, g => R acc g
  | x :: xs, acc, g => t (.val x) g fun g1 => gQ g1 ∧ ct g1 fun b g2 => gQ g2 ∧ (b = false → grpD iD p t ct tk tv R xs acc g2) ∧
    (b = true → g2.sl[iD]? = some (some (.ob (.at p))) ∧ acc.length < 1000 ∧ (∀ q ∈ acc, q.2.length < 1000) ∧ tk g2 fun r g3 => gQ g3 ∧ ∃ k, r = .val k ∧ ZS.setD k = true ∧ tv g3 fun r g4 => gQ g4 ∧ ∃ z, r = .val z ∧ grpD iD p t ct tk tv R xs (addG acc k z) g4)
def dGrp (iD : Nat) (tw : DW) (t : DG) (ct : DT) (tk tv : DE) (T : DS) : DS := fun d g => gQ g ∧ ∀ p : Addr, tw (g.set iD (.ob (.at p))) fun ds g1 => gQ g1 ∧
  grpD iD p t ct tk tv (fun acc g2 => gQ g2 ∧ g2.sl[iD]? = some (some (.ob (.at p))) ∧ ∀ es ep, T d (g2.set iD (.ob (.dx (acc.map fun q => .list q.2) p es ep)))) ds [] g1
section
variable {P : Program} {w : World} {K : Fg} {c : Con} {g g' : Gs} {σ σ' : L2.St} {H H' F F' : Hp} {tv : List V} {tr : List Rv} {a : Addr} {d : Addr} {ts : List Gt}
/-- behind a step under a frame of its own -/
theorem grp_step (s : Sta K ⟨F, H, none⟩ g σ H' tv tr F' a) (q : gQ g) (k : Bk c F H) (G : GD P w K c.H F H d ts) : Sta K ⟨F', H', none⟩ g σ H' tv tr F' a ∧ Bk c F' H' ∧ GD P w K c.H F' H' d ts :=
  ⟨s.anew q s.eh fun _ _ h => h, k.more s.e0 (fun b o hn _ h => s.keep b o (by simp) hn h) s.new s.tab (fun b h => s.fresh h), G.keep s.e0 (fun b o hn h => s.keep b o (by simp) hn h) s.new⟩
/-- another thing at an address that the entry does not know -/
theorem grp_upd (s : Sta K ⟨F, H, none⟩ g σ H tv tr F a) (q : gQ g) (k : Bk c F H) {l : Addr} {u : HO} (fl : F l = none) (cl : c.H l = none) (nt : ∀ ps, H l ≠ some (.tbl ps)) :
    Sta K ⟨F, upd H l u, none⟩ g σ (upd H l u) tv tr F a ∧ Bk c F (upd H l u) := by
  have tb : ∀ b ps, H b = some (.tbl ps) → upd H l u b = some (.tbl ps) := fun b ps h => by
    have n : b ≠ l := fun z => nt ps (by rw [← z]; exact h)
    rw [upd_ne n]
    exact h
  have e : Ex F (upd H l u) := fun b o h => by
    have n : b ≠ l := fun z => by rw [z, fl] at h; cases h
    rw [upd_ne n]
    exact s.eh b o h
  have s2 := (s.anew q s.eh fun _ _ h => h).anew q s.eh fun _ _ h => h
  refine ⟨?_, k.more (Ex.refl F) (fun b o _ hc h => ?_) (fun b h => .inl h) (fun b ps h => ⟨ps, tb b ps h⟩) fun b h => ?_⟩
  · exact ⟨Ex.refl F, e, fun b o _ _ h => h, fun b q => .inl q, fun b h => (by cases h), fun _ => rfl, fun n h => (by rw [q.1] at h; cases h), s.tmp, s.len, (fun i sv h => by
      obtain ⟨v, h1, h2⟩ := s.slot i sv h
      refine ⟨v, h1, ?_⟩
      cases sv with
      | own ds => exact absurd h (no_own q.2)
      | _ => exact h2), s.dis, s.t0.up (Ex.refl F) tb fun b h => .inl h, .refl⟩
  · have n : b ≠ l := fun z => hc (by rw [z]; exact cl)
    rw [upd_ne n]
    exact h
  · by_cases n : b = l
    · rw [n, upd_same] at h
      cases h
    · rw [upd_ne n] at h
      exact h
theorem gQ.set (q : gQ g) {i : Nat} {sv : Sv} (h : isOwn (some sv) = false) : gQ (g.set i sv) := by
  refine ⟨q.1, ?_⟩
  rw [List.any_eq_false]
  intro x hx
  rcases List.mem_or_eq_of_mem_set (show x ∈ g.sl.set i (some sv) from hx) with z | z
  · exact (List.any_eq_false.mp q.2) x z
  · rw [z, h]
    decide
/-- the dict and its lists stand still from now on -/
theorem grp_done (s : Sta K ⟨F, H, none⟩ g σ H tv tr F a) (q : gQ g) (k : Bk c F H) (G : GD P w K c.H F H d ts) {i : Nat} (hs : g.sl[i]? = some (some (.ob (.at d)))) :
    ∃ F' es ep, Sta K c (g.set i (.ob (.dx (ts.map fun t => .list t.m) d es ep))) σ H tv tr F' a := by
  obtain ⟨es, ep, hd, hr⟩ := G.dx
  have ls_no : ∀ b, b ∈ ts.map Gt.l → F b = none ∧ c.H b = none ∧ (∃ vs, H b = some (.lst vs)) := fun b hb => by
    obtain ⟨t, ht, rfl⟩ := List.mem_map.mp hb
    have o := G.ok t ht
    obtain ⟨vs, h, _⟩ := o.mr
    exact ⟨o.fl, o.cl, vs, h⟩
  obtain ⟨F', hF⟩ : ∃ F' : Hp, F' = fun b => if b = d ∨ b ∈ ts.map Gt.l then H b else F b := ⟨_, rfl⟩
  have inF : ∀ b, (b = d ∨ b ∈ ts.map Gt.l) → F' b = H b := fun b h => by rw [hF]; exact if_pos h
  have outF : ∀ b, ¬ (b = d ∨ b ∈ ts.map Gt.l) → F' b = F b := fun b h => by rw [hF]; exact if_neg h
  have ef : Ex F F' := fun b o h => by
    rw [outF b fun z => ?_]
    · exact h
    · rcases z with z | z
      · rw [z, G.fd] at h; cases h
      · rw [(ls_no b z).1] at h; cases h
  have eh : Ex F' H := fun b o h => by
    by_cases z : b = d ∨ b ∈ ts.map Gt.l
    · rw [inF b z] at h; exact h
    · rw [outF b z] at h; exact s.eh b o h
  have hi : i < g.sl.length := (List.getElem?_eq_some_iff.mp hs).1
  have pr : ∀ us : List Gt, (∀ t ∈ us, t ∈ ts) → Paired (fun (m : Da) (e : DictEntry) => ∃ u : V, RelV u e.val ∧ Rp K F' u m) (us.map fun t => PyData.list t.m) ((us.map Gt.x).map (entryOfKey (nestedKind P w))) := fun us => by
    induction us with
    | nil => exact fun _ => .nil
    | cons t us ih =>
      intro h
      obtain ⟨vs, hv, rv⟩ := (G.ok t (h t List.mem_cons_self)).mr
      refine .cons ⟨.ref t.l, rfl, .lst ?_ (rv.up ef)⟩ (ih fun u hu => h u (List.mem_cons_of_mem _ hu))
      rw [inF _ (.inr (List.mem_map.mpr ⟨t, h t List.mem_cons_self, rfl⟩))]
      exact hv
  refine ⟨F', es, ep, k.e0.trans ef, eh, fun b o _ hn h => k.keep b o hn h, fun b h => ?_, fun b h => (by rw [k.ext] at h; cases h), fun _ => k.ext, fun n h => (by have h : g.fu = some n := h; rw [q.1] at h; cases h), s.tmp.up ef, ?_, fun j sv hj => ?_, fun j l ds es' _ hj => ?_, ?_, k.tab⟩
  · by_cases z : b = d ∨ b ∈ ts.map Gt.l
    · rcases z with z | z
      · rw [z]; exact .inr G.cd
      · exact .inr (ls_no b z).2.1
    · rw [outF b z] at h
      exact k.new b h
  · show σ.length = (g.sl.set i _).length
    rw [List.length_set]
    exact s.len
  · have hj' : (g.sl.set i (some (Sv.ob (.dx (ts.map fun t => .list t.m) d es ep))))[j]? = some (some sv) := hj
    by_cases e : j = i
    · subst e
      rw [List.getElem?_set_self hi] at hj'
      cases hj'
      obtain ⟨v, h1, h2⟩ := s.slot j _ hs
      refine ⟨v, h1, h2, G.sys, ?_, ?_⟩
      · rw [inF d (.inl rfl)]; exact hd
      · rw [show es.toList = (ts.map Gt.x).map (entryOfKey (nestedKind P w)) from hr]
        exact pr ts fun t h => h
    · rw [List.getElem?_set_ne (Ne.symm e)] at hj'
      obtain ⟨v, h1, h2⟩ := s.slot j sv hj'
      refine ⟨v, h1, ?_⟩
      cases sv with
      | val x => exact Rp.up h2 ef
      | src => exact h2
      | scr ns => obtain ⟨b, z1, z2⟩ := h2; exact ⟨b, z1, ex_l ef z2⟩
      | ob kk => exact ObOk.up ef h2
      | own ds => exact absurd hj' (no_own q.2)
  · exact absurd hj (no_own (q.set rfl).2)
  · refine s.t0.up ef (fun _ _ h => h) fun b h => ?_
    by_cases z : b = d ∨ b ∈ ts.map Gt.l
    · refine .inr fun ps e => ?_
      rcases z with z | z
      · rw [z, hd] at e; cases e
      · obtain ⟨_, _, vs, hv⟩ := ls_no b z
        rw [hv] at e; cases e
    · rw [outF b z] at h
      exact .inl h
end
end Z
namespace Z
open L2 PySem PySem.Spec PyProof.Rows
open Evl (Ex ex_l ex_t ex_rd fresh_back)
section
variable {X : Cx} {Wx : WX}
/-- behind setdefault: the list of the key grows -/
theorem grp_tail {c : Con} {g3 : Gs} {σ : L2.St} {H5 F3 : Hp} {tv0 : List V} {tr0 : List Rv} {a3 p : Addr} {ts : List Gt} {t0 : Gt} {iD : Nat} {t : DG} {ct : DT} {tk tv : DE} {R : Acc → Gs → Prop} {ds : List Da} {acc : Acc} {kd : Da} {N : L2.St → Hp → Prop}
    (s5 : Sta X.K ⟨F3, H5, none⟩ g3 σ H5 tv0 tr0 F3 a3) (k5 : Bk c F3 H5) (G5 : GD X.prog X.w X.K c.H F3 H5 p ts) (h0 : t0 ∈ ts) (few : t0.m.length < 1000) (ek : ZS.kD t0.k = ZS.kD kd)
    (ea : ∀ z, (ts.map (putG (ZS.kD kd) z)).map Gt.a = addG acc kd z) (f : tv g3 fun r g4 => gQ g4 ∧ ∃ z, r = .val z ∧ grpD iD p t ct tk tv R ds (addG acc kd z) g4)
    (hN : ∀ g F a ts σ H, Sta X.K ⟨F, H, none⟩ g σ H tv0 tr0 F a → gQ g → Bk c F H → GD X.prog X.w X.K c.H F H p ts → grpD iD p t ct tk tv R ds (ts.map Gt.a) g → N σ H) :
    tyV X.K "list" (.ref t0.l) H5 ∧ tCons (up X.K tv) tNil σ H5 fun xs H6 => rAppend (.ref t0.l) xs H6 fun _ H7 => N σ H7 := by
  obtain ⟨vs, hvs, rvs⟩ := (G5.ok t0 h0).mr
  refine ⟨.inl ⟨rfl, vs, .inl (.inl hvs)⟩, ⟨F3, H5, none⟩, g3, tv0, tr0, F3, a3, _, s5, f, fun r g4 v4 H6 F6 a6 t4 s6 => ?_⟩
  obtain ⟨q4, z, rfl, t4⟩ := t4
  have rz : Rp X.K F6 v4 z := s6.top
  obtain ⟨s7, k7, G7⟩ := grp_step s6.pop1 q4 k5 G5
  have o7 := G7.ok t0 h0
  obtain ⟨vs', hvs', rvs'⟩ := o7.mr
  have sz : (1000 : Nat) < sizeLine := by decide
  refine ⟨t0.l, vs', v4, rfl, rfl, hvs', by rw [rvs'.len]; omega, ?_⟩
  obtain ⟨s8, k8⟩ := grp_upd (u := .lst (vs' ++ [v4])) s7 q4 k7 o7.fl o7.cl (fun ps e => by rw [hvs'] at e; cases e)
  have G8 := G7.app h0 hvs' rz
  rw [ek] at G8
  exact hN g4 F6 a6 _ σ _ s8 q4 k8 G8 (by rw [ea]; exact t4)
theorem ss_grp {iD : Nat} {D : Str} {pD : Pos} {tg iter ce ke ve o : Expr} {rest : List Stmt} {tw : DW} {t : DG} {ct : DT} {tk tv : DE} {T : DS} {pd p1 p2 pi pe a1 c1 a2 c2 lq : Pos}
    (hN : X.N.Nodup) (hiD : X.N[iD]? = some D) (hlD : L2.Loc X.env.scope D)
    (hp : PassesOwn (model X.prog X.w) X.A X.env X.xe) (hc : X.calm = true) (hu : X.A.units + 64 < cLine)
    (hi : PI X tg iter (upI X.K tw)) (hg : PG X tg (upG X.K t)) (hct : PT X ce (upT X.K ct)) (ho : PE X o (tVar iD)) (hk : PE X ke (up X.K tk)) (hv : PE X ve (up X.K tv))
    (hr : PSs X rest (upS X.K Wx T))
    (hsD : swapsWith (.Dict [] [] pd) (some (.Name D pD)) p1.line X.env = pure false := by rfl) (hfD : X.fn D = true ∨ X.env.scope.names.lookup D = some .local := by first | exact .inl rfl | exact .inr rfl)
    (m : M2 X o "setdefault" a1 ke (.List [] lq) c1 := by exact ⟨rfl, rfl, rfl, rfl⟩)
    (happ : ∀ {to : TE} {t : TA}, PE X (.Call (.Attribute o "setdefault" a1) [ke, .List [] lq] [] c1) to → PA X [ve] t → PE X (.Call (.Attribute (.Call (.Attribute o "setdefault" a1) [ke, .List [] lq] [] c1) "append" a2) [ve] [] c2) (tBM X.K "list" rAppend to t) := by
      exact fun ho ha => pe_bm PySem.F.plainAttrs_list PySem.F.slot_list_append PySem.F.type_list_append mt_append ho ha)
    (hsw : swapsWith (.Call (.Attribute (.Call (.Attribute o "setdefault" a1) [ke, .List [] lq] [] c1) "append" a2) [ve] [] c2) none pe.line X.env = pure false := by rfl)
    (n1 : starEach [ve] X.env = (false, eval ve X.env) :: starEach [] X.env := by rfl)
    (hfs : ∀ x, foldedSetIterable iter X.env x = pure x := by intro _; rfl) :
    PSs X (.Assign [.Name D pD] (.Dict [] [] pd) p1 :: .For tg iter [.If ce [.Expr (.Call (.Attribute (.Call (.Attribute o "setdefault" a1) [ke, .List [] lq] [] c1) "append" a2) [ve] [] c2) pe] [] pi] [] p2 :: rest) (upS X.K Wx (dGrp iD tw t ct tk tv T)) := by
  refine pss_to (pss_cons (ps_set hN hiD hlD ZS.pe_newX hsD hfD) (pss_cons (ps_for hp hc hi hg (pss_one (ps_if hct (pss_one (ps_expr (happ (ZS.pe_sdef hu ho hk m) (pa_cons hv pa_nil n1)) hsw)) pss_nil)) hfs) hr)) fun Dn σ H q => ?_
  obtain ⟨c, g, tv0, tr0, F, a, d, s, hn, ⟨q0, q⟩, k⟩ := q
  intro p hp0 sysp
  have s1 : Sta X.K c (g.set iD (.ob (.at p))) (σ.set iD (some (.ref p))) H tv0 tr0 F a := Sta.set (r := .ob (.at p)) (s.push (r := .ob (.at p)) rfl) iD
  have q1 : gQ (g.set iD (.ob (.at p))) := q0.set rfl
  have k1 : Bk c F H := s1.bk q1
  have fp : F p = none := fresh_back s.eh hp0
  have cp : c.H p = none := k1.fresh p hp0
  obtain ⟨s2, k2⟩ := grp_upd (u := DctX p #[] 0) (s1.anew q1 s1.eh fun _ _ h => h) q1 k1 fp cp (fun ps e => by rw [hp0] at e; cases e)
  have G2 : GD X.prog X.w X.K c.H F (upd H p (DctX p #[] 0)) p [] := ⟨sysp, fp, cp, ⟨#[], 0, upd_same, rfl⟩, fun t ht => (by cases ht), List.nodup_nil, List.nodup_nil⟩
  refine ⟨⟨F, _, none⟩, _, tv0, tr0, F, a, _, s2, q p, fun ds g1 H2 F2 a2 J wv wr hf s3 hl hw wd => ?_⟩
  obtain ⟨q3, hf⟩ := hf
  obtain ⟨s4, k4, G4⟩ := grp_step s3 q3 k2 G2
  have w := wd.walk
  have sp : ∀ {c : Con} {g : Gs} {σ : L2.St} {H F : Hp} {a : Addr}, Sta X.K c g σ H (wv ++ tv0) (wr ++ tr0) F a → Tm X.K F a g.fu wv wr ∧ Tm X.K F a g.fu tv0 tr0 := fun s => Tm.split hl s.tmp
  refine for_it w (fun i σ H => ∃ g F a ts, Sta X.K ⟨F, H, none⟩ g σ H (wv ++ tv0) (wr ++ tr0) F a ∧ gQ g ∧ Bk c F H ∧ GD X.prog X.w X.K c.H F H p ts ∧ grpD iD p t ct tk tv _ (ds.drop i) (ts.map Gt.a) g) ⟨g1, F2, a2, [], s4, q3, k4, G4, hf⟩ (fun i σ H hi pp => ?_) (fun i x σ H H' hi pp y => ?_) (fun σ H pp => ?_)
  · obtain ⟨g, F, a, ts, s, _⟩ := pp
    exact ⟨F, a, g.fu, s.eh, (sp s).1⟩
  · obtain ⟨g, F, a, ts, s, qg, kb, G, f⟩ := pp
    obtain ⟨F2, dx, e1, gr, rx⟩ := wd.yields i F H a g.fu x H' s.eh (sp s).1 hi y
    rw [drop_at e1] at f
    obtain ⟨sA, kA, GA⟩ := grp_step (s.grow gr) qg kb G
    refine ⟨⟨F2, H', none⟩, g, wv ++ tv0, wr ++ tr0, F2, a, .val dx, _, sA.push (r := .val dx) rx, f, fun g1 σ1 H1 F1 a1 t1 s1 => ?_⟩
    obtain ⟨q1, t1⟩ := t1
    obtain ⟨sB, kB, GB⟩ := grp_step s1 q1 kA GA
    refine ⟨⟨F1, H1, none⟩, g1, _, _, F1, a1, _, sB, t1, fun b g2 H2 F3 a2 t2 s2 => ?_⟩
    obtain ⟨q2, t2f, t2t⟩ := t2
    obtain ⟨sC, kC, GC⟩ := grp_step s2 q2 kB GB
    cases b with
    | false =>
      rw [if_neg Bool.false_ne_true]
      exact ⟨g2, F3, a2, ts, sC, q2, kC, GC, t2f rfl⟩
    | true =>
      rw [if_pos rfl]
      obtain ⟨hsl, few, fewm, t2⟩ := t2t rfl
      obtain ⟨v, hv1, hv2⟩ := sC.slot iD _ hsl
      obtain rfl : v = .ref p := hv2
      obtain ⟨es, ep, hd, hrows⟩ := GC.dx
      refine ⟨.ref p, hv1, p, es, ep, rfl, hd, GC.sys, ⟨F3, H2, none⟩, g2, _, _, F3, a2, _, sC, t2, fun r g3 v3 H3 F4 a3 t3 s3 => ?_⟩
      obtain ⟨q3, kd, rfl, sd, t3⟩ := t3
      have rk : Rp X.K F4 v3 kd := s3.top
      obtain ⟨sD, kD0, GD0⟩ := grp_step s3.pop1 q3 kC GC
      obtain ⟨es3, ep3, hd3, hr3⟩ := GD0.dx
      obtain ⟨b, rfl⟩ : ∃ b, v3 = .ref b := by
        cases kd with
        | tuple zs => cases rk; exact ⟨_, rfl⟩
        | _ => simp [ZS.setD] at sd
      have fewt : ts.length < 1000 := by simpa using few
      have nin : ∀ l, H3 l = none → F4 l = none ∧ c.H l = none := fun l hl => ⟨fresh_back sD.eh hl, kD0.fresh l hl⟩
      refine ⟨ts.map Gt.x, es3, ep3, b, ZS.kD kd, F4, hd3, hr3, rfl, sD.eh, ⟨kd, rk, sd, rfl⟩, fun x hx => ?_, ?_, by rw [List.length_map]; omega, fun l hl0 => ⟨fun pp hpp => ?_, fun hnone es4 ep4 hr4 => ?_⟩⟩
      · obtain ⟨t, ht, rfl⟩ := List.mem_map.mp hx
        have o := GD0.ok t ht
        exact ⟨t.k, o.kr, o.sd, rfl⟩
      · rw [List.map_map]
        exact GD0.ks
      · -- the key is there
        unfold atKey at hpp
        obtain ⟨e, he, e2⟩ := Option.map_eq_some_iff.mp hpp
        have hm := List.mem_of_find?_eq_some he
        have hkk := List.find?_some he
        obtain ⟨t0, ht0, rfl⟩ := List.mem_map.mp hm
        have ek : ZS.kD t0.k = ZS.kD kd := of_decide_eq_true hkk
        obtain ⟨f1, f2⟩ := nin l hl0
        obtain ⟨s5, k5⟩ := grp_upd (u := .lst []) sD q3 kD0 f1 f2 (fun ps e => by rw [hl0] at e; cases e)
        have G5 := GD0.keep (F' := F4) (H' := upd H3 l (.lst [])) (Ex.refl F4) (fun b o _ h => by rw [upd_ne fun z => by rw [z, hl0] at h; cases h]; exact h) fun b h => .inl h
        refine ⟨.ref t0.l, by rw [← e2] <;> rfl, ?_⟩
        refine grp_tail s5 k5 G5 ht0 (fewm _ (List.mem_map.mpr ⟨t0, ht0, rfl⟩)) ek (fun z => ?_) t3 fun g F a ts σ H h1 h2 h3 h4 h5 => ⟨g, F, a, ts, h1, h2, h3, h4, h5⟩
        unfold addG
        rw [if_pos (by rw [List.map_map]; exact List.mem_map.mpr ⟨t0, ht0, ek⟩), List.map_map, List.map_map]
        exact List.map_congr_left fun t _ => putG_a _ _ _
      · -- a new key
        have nk : ZS.kD kd ∉ ts.map fun t => ZS.kD t.k := fun z => by
          obtain ⟨t, ht, e⟩ := List.mem_map.mp z
          unfold atKey at hnone
          rw [Option.map_eq_none_iff, List.find?_eq_none] at hnone
          exact hnone t.x (List.mem_map.mpr ⟨t, ht, rfl⟩) (decide_eq_true e)
        obtain ⟨f1, f2⟩ := nin l hl0
        rw [storedH_new hnone] at hr4
        have hr5 : ZS.rowsD X.prog X.w ((ts ++ [Gt.mk kd [] b l]).map Gt.x) es4 := by rw [List.map_append]; exact hr4
        have G5 := GD0.newKey (ep := ep4) sd rk hl0 f1 f2 nk hr5
        obtain ⟨s5, k5⟩ := grp_upd (u := .lst []) sD q3 kD0 f1 f2 (fun ps e => by rw [hl0] at e; cases e)
        have npl : p ≠ l := fun z => by rw [z, hl0] at hd3; cases hd3
        obtain ⟨s6, k6⟩ := grp_upd (l := p) (u := DctX p es4 ep4) s5 q3 k5 GD0.fd GD0.cd (fun ps e => by rw [upd_ne npl, hd3] at e; cases e)
        refine grp_tail (t0 := ⟨kd, [], b, l⟩) s6 k6 G5 (List.mem_append_right _ (List.mem_singleton.mpr rfl)) (by show 0 < 1000; decide) rfl (fun z => ?_) t3 fun g F a ts σ H h1 h2 h3 h4 h5 => ⟨g, F, a, ts, h1, h2, h3, h4, h5⟩
        unfold addG
        rw [if_neg (by rw [List.map_map]; exact nk), List.map_map, List.map_append, List.map_append, List.map_map]
        rw [show ts.map (Gt.a ∘ putG (ZS.kD kd) z) = ts.map (putA (ZS.kD kd) z ∘ Gt.a) from List.map_congr_left fun t _ => putG_a _ _ _]
        show _ ++ [(putG (ZS.kD kd) z _).a] = _ ++ [putA _ _ _]
        rw [putG_a] <;> rfl
  · obtain ⟨g, F, a, ts, s, qg, kb, G, f⟩ := pp
    rw [List.drop_length] at f
    obtain ⟨q5, hsl, f⟩ := f
    have s' := s.pop (sp s).2
    obtain ⟨F', es, ep, s6⟩ := grp_done s' qg kb G hsl
    have e : (ts.map fun t => PyData.list t.m) = (ts.map Gt.a).map fun q => PyData.list q.2 := by rw [List.map_map] <;> rfl
    rw [e] at s6
    exact ⟨c, _, tv0, tr0, F', a, d, s6, hn, f es ep, k⟩
def dValX (i : Nat) : DW := fun g post => ∃ ms d es ep, g.sl[i]? = some (some (.ob (.dx ms d es ep))) ∧ post ms g
theorem paired_get {α β : Type} {R : α → β → Prop} : ∀ {as : List α} {bs : List β}, Paired R as bs → as.length = bs.length ∧ ∀ i (h1 : i < as.length) (h2 : i < bs.length), R as[i] bs[i]
  | _, _, .nil => ⟨rfl, fun i h => absurd h (Nat.not_lt_zero _)⟩
  | _, _, .cons r t => ⟨congrArg (· + 1) (paired_get t).1, fun i h1 h2 => by
    cases i with
    | zero => exact r
    | succ i => exact (paired_get t).2 i (Nat.lt_of_succ_lt_succ h1) (Nat.lt_of_succ_lt_succ h2)⟩
theorem i_valX {X : Cx} {i : Nat} {tg e : Expr} {apos cpos : Pos} (he : PE X e (tVar i)) (hbase : attributeBase e "values" X.env (eval e X.env) = eval e X.env := by rfl) (hline : (apos.endLine == cpos.line) = true := by rfl) :
    PI X tg (.Call (.Attribute e "values" apos) [] [] cpos) (upI X.K (dValX i)) := by
  have h := ZS.pi_valX (tg := tg) he hbase hline
  refine ⟨fun pins s σ H R I q => h.run pins s σ H R I ?_⟩
  obtain ⟨c, g, tv, tr, F, a, post, st, ⟨ms, d, es, ep, hs, t⟩, k⟩ := q
  obtain ⟨v, hv, ob⟩ := st.slot i _ hs
  obtain ⟨rfl, sys, hF, pr⟩ := (show v = .ref d ∧ (d == sysModules) = false ∧ F d = some (DctX d es ep) ∧ Paired (fun (m : Da) (e : DictEntry) => ∃ u : V, RelV u e.val ∧ Rp X.K F u m) ms es.toList from ob)
  obtain ⟨l0, g1⟩ := paired_get pr
  have l1 : ms.length = es.size := by simpa using l0
  have tmd : ∀ {F : Hp} {a : Addr} {fu : Option Nat}, Tm X.K F a fu [.ref d] [.ob (.dx ms d es ep)] → F d = some (DctX d es ep) ∧ Paired (fun (m : Da) (e : DictEntry) => ∃ u : V, RelV u e.val ∧ Rp X.K F u m) ms es.toList := fun t => by
    cases t with
    | cons h _ =>
      have h : ObOk X.K _ (.ref d) (.dx ms d es ep) := h
      exact ⟨h.2.2.1, h.2.2.2⟩
  refine ⟨.ref d, hv, d, es, ep, rfl, sys, st.eh _ _ hF, fun j hj => ?_, k ms g H F a _ [.ref d] [.ob (.dx ms d es ep)] t (st.push (r := .ob (.dx ms d es ep)) ob) rfl rfl ?_⟩
  · obtain ⟨u, hu, _⟩ := g1 j (by omega) (by rw [Array.length_toList]; exact hj)
    exact ⟨u, by simpa using hu⟩
  · refine ⟨fun j F H a fu e t hj => ⟨e _ _ (tmd t).1, by omega⟩, fun F H a fu e t => ⟨e _ _ (tmd t).1, by omega⟩, fun j F H a fu x H' e t hj y => ?_⟩
    obtain ⟨rfl, hj2, rx⟩ := y
    obtain ⟨u, hu, ru⟩ := (paired_get (tmd t).2).2 j hj (by rw [Array.length_toList]; exact hj2)
    have hu2 : RelV u es[j].val := by simpa using hu
    have : x = u := RelV.inj rx hu2
    subst this
    exact ⟨F, ms[j], List.getElem?_eq_getElem hj, Gr.refl e, ru⟩
end
end Z
namespace Z
open L2 PySem PySem.Spec PyProof.Rows
theorem abv_le {x x' y : Int} {t : Th} (td : 0 < t.d) (h : x ≤ x') (a : Abv x y t) : Abv x' y t := by
  have m := Int.mul_le_mul_of_nonneg_right h (Int.le_of_lt td)
  rcases a with a | ⟨a, u⟩
  · exact .inl (Int.lt_of_lt_of_le a m)
  · rcases Int.lt_or_eq_of_le m with q | q
    · exact .inl (by rw [a]; exact q)
    · exact .inr ⟨by rw [a, q], u⟩
/-- the cell of a number, by powers -/
structure CelF (n d w k : Int) (p q : Nat) : Prop where
  lo : 2 ^ (w - 1).toNat ≤ k
  hi : k + 1 ≤ 2 ^ ((w - 1).toNat + 1)
  a : k * (d * 2 ^ p) ≤ n * 2 ^ q
  b : n * 2 ^ q < (k + 1) * (d * 2 ^ p)
theorem cell_cf {n d w : Int} (hn : 0 < n) (hd : 0 < d) (hw : 1 ≤ w) : CelF n d w (cellI n d w).1 (cellI n d w).2.toNat (-(cellI n d w).2).toNat := by
  obtain ⟨c1, c2, c3, _⟩ := cellI_spec hn hd hw
  generalize (cellI n d w).1 = k at c1 c2 c3
  generalize (cellI n d w).2 = e at c1
  unfold scI at c1
  rw [show -(0 - e) = e by omega, show 0 - e = -e by omega] at c1
  have hp : 0 < d * 2 ^ e.toNat := Int.mul_pos hd (pow2_pos _)
  have c1 : k = n * 2 ^ (-e).toNat / (d * 2 ^ e.toNat) := c1
  refine ⟨c2, ?_, ?_, ?_⟩
  · rw [show (w - 1).toNat + 1 = w.toNat by omega]
    omega
  · exact (Int.le_ediv_iff_mul_le hp).mp (Int.le_of_eq c1)
  · exact (Int.ediv_lt_iff_lt_mul hp).mp (by omega)
theorem pow_at (k e : Int) : (powI k e).1 * 2 ^ (-e).toNat = k * 2 ^ e.toNat * (powI k e).2 ∧ 0 < (powI k e).2 := by
  have hd : (0 : Int) < 2 ^ (-e).toNat := pow2_pos _
  have e1 : powI k e = low (k * 2 ^ e.toNat) (1 * 2 ^ (-e).toNat) := rfl
  rw [e1, Int.one_mul]
  generalize k * 2 ^ e.toNat = N
  generalize hD : (2 : Int) ^ (-e).toNat = D at hd
  have g0 : (0 : Int) < Int.gcd N D := by
    have := Int.gcd_pos_of_ne_zero_right N (show D ≠ 0 by omega)
    omega
  obtain ⟨u, hu⟩ : (Int.gcd N D : Int) ∣ N := Int.gcd_dvd_left N D
  obtain ⟨v, hv⟩ : (Int.gcd N D : Int) ∣ D := Int.gcd_dvd_right N D
  unfold low
  generalize (Int.gcd N D : Int) = G at g0 hu hv
  subst hu
  have e2 : G * u / G = u := Int.mul_ediv_cancel_left _ (by omega)
  have e3 : D / G = v := by rw [hv]; exact Int.mul_ediv_cancel_left _ (by omega)
  simp only [e2, e3]
  refine ⟨by rw [hv]; grind, ?_⟩
  rw [hv] at hd
  rcases Int.lt_or_le 0 v with h | h
  · exact h
  · have z := Int.mul_le_mul_of_nonneg_left h (Int.le_of_lt g0)
    rw [Int.mul_zero] at z
    omega
theorem thr_mono {n d n' d' w : Int} {T : Bool → Th} (hT : ∀ b, (T b).Ok) (hn : 0 < n) (hd : 0 < d) (hn' : 0 < n') (hd' : 0 < d') (hw : 1 ≤ w) (le : n * d' ≤ n' * d) :
    (thrI n d w T).1 * (thrI n' d' w T).2 ≤ (thrI n' d' w T).1 * (thrI n d w T).2 ∧
    (cellI n d w = cellI n' d' w → ∀ t : Th, t.Ok → Abv (posI n d w).1 (posI n d w).2 t → Abv (posI n' d' w).1 (posI n' d' w).2 t) := by
  have C := cell_cf hn hd hw
  have C' := cell_cf hn' hd' hw
  have P1 : posI n d w = low (n * 2 ^ (-(cellI n d w).2).toNat - (cellI n d w).1 * (d * 2 ^ (cellI n d w).2.toNat)) (d * 2 ^ (cellI n d w).2.toNat) := by
    unfold posI scI
    rw [show -(0 - (cellI n d w).2) = (cellI n d w).2 by omega, show 0 - (cellI n d w).2 = -(cellI n d w).2 by omega]
  have P2 : posI n' d' w = low (n' * 2 ^ (-(cellI n' d' w).2).toNat - (cellI n' d' w).1 * (d' * 2 ^ (cellI n' d' w).2.toNat)) (d' * 2 ^ (cellI n' d' w).2.toNat) := by
    unfold posI scI
    rw [show -(0 - (cellI n' d' w).2) = (cellI n' d' w).2 by omega, show 0 - (cellI n' d' w).2 = -(cellI n' d' w).2 by omega]
  unfold thrI
  rw [P1, P2]
  generalize cellI n d w = c at C
  generalize cellI n' d' w = c' at C'
  obtain ⟨k, e⟩ := c
  obtain ⟨k', e'⟩ := c'
  simp only at C C' ⊢
  have hB : 0 < d * 2 ^ e.toNat := Int.mul_pos hd (pow2_pos _)
  have hB' : 0 < d' * 2 ^ e'.toNat := Int.mul_pos hd' (pow2_pos _)
  have L1 : n * 2 ^ (-e).toNat * (d' * 2 ^ (-e').toNat) ≤ n' * 2 ^ (-e').toNat * (d * 2 ^ (-e).toNat) := by
    have h := Int.mul_le_mul_of_nonneg_right le (Int.le_of_lt (Int.mul_pos (pow2_pos (-e).toNat) (pow2_pos (-e').toNat)))
    have e1 : n * d' * (2 ^ (-e).toNat * 2 ^ (-e').toNat) = n * 2 ^ (-e).toNat * (d' * 2 ^ (-e').toNat) := by grind
    have e2 : n' * d * (2 ^ (-e).toNat * 2 ^ (-e').toNat) = n' * 2 ^ (-e').toNat * (d * 2 ^ (-e).toNat) := by grind
    rw [e1, e2] at h
    exact h
  -- the same cell: the positions ascend
  have same : (k, e) = (k', e') → ∀ t : Th, t.Ok → Abv (n * 2 ^ (-e).toNat - k * (d * 2 ^ e.toNat)) (d * 2 ^ e.toNat) t → Abv (n' * 2 ^ (-e').toNat - k' * (d' * 2 ^ e'.toNat)) (d' * 2 ^ e'.toNat) t := fun q t ok ab => by
    cases q
    have x1 := (abv_mul (c := d' * 2 ^ (-e).toNat) (Int.mul_pos hd' (pow2_pos _))).mpr ab
    refine (abv_mul (c := d * 2 ^ (-e).toNat) (Int.mul_pos hd (pow2_pos _))).mp ?_
    have e1 : d * 2 ^ e.toNat * (d' * 2 ^ (-e).toNat) = d' * 2 ^ e.toNat * (d * 2 ^ (-e).toNat) := by grind
    rw [e1] at x1
    refine abv_le ok.d0 ?_ x1
    have e2 : (n * 2 ^ (-e).toNat - k * (d * 2 ^ e.toNat)) * (d' * 2 ^ (-e).toNat) = n * 2 ^ (-e).toNat * (d' * 2 ^ (-e).toNat) - k * (d' * 2 ^ e.toNat * (d * 2 ^ (-e).toNat)) := by grind
    have e3 : (n' * 2 ^ (-e).toNat - k * (d' * 2 ^ e.toNat)) * (d * 2 ^ (-e).toNat) = n' * 2 ^ (-e).toNat * (d * 2 ^ (-e).toNat) - k * (d' * 2 ^ e.toNat * (d * 2 ^ (-e).toNat)) := by grind
    rw [e2, e3]
    exact Int.sub_le_sub_right L1 _
  refine ⟨?_, fun q t ok ab => (abv_low hB').mpr (same q t ok ((abv_low hB).mp ab))⟩
  -- cells ascend
  have L2 : k * 2 ^ (e.toNat + (-e').toNat) < (k' + 1) * 2 ^ (e'.toNat + (-e).toNat) := by
    have a := Int.mul_le_mul_of_nonneg_right C.a (Int.le_of_lt (Int.mul_pos hd' (pow2_pos (-e').toNat)))
    have b := Int.mul_lt_mul_of_pos_right C'.b (Int.mul_pos hd (pow2_pos (-e).toNat))
    have h := Int.lt_of_le_of_lt (Int.le_trans a L1) b
    rw [Int.pow_add, Int.pow_add]
    have e1 : k * (d * 2 ^ e.toNat) * (d' * 2 ^ (-e').toNat) = k * (2 ^ e.toNat * 2 ^ (-e').toNat) * (d * d') := by grind
    have e2 : (k' + 1) * (d' * 2 ^ e'.toNat) * (d * 2 ^ (-e).toNat) = (k' + 1) * (2 ^ e'.toNat * 2 ^ (-e).toNat) * (d * d') := by grind
    rw [e1, e2] at h
    exact Int.lt_of_mul_lt_mul_right h (Int.le_of_lt (Int.mul_pos hd hd'))
  have L3 : e.toNat + (-e').toNat ≤ e'.toNat + (-e).toNat := by
    apply Classical.byContradiction
    intro hc
    have g : e'.toNat + (-e).toNat + 1 ≤ e.toNat + (-e').toNat := by omega
    have a := Int.mul_le_mul_of_nonneg_right C.lo (Int.le_of_lt (pow2_pos (e.toNat + (-e').toNat)))
    have b := Int.mul_le_mul_of_nonneg_right C'.hi (Int.le_of_lt (pow2_pos (e'.toNat + (-e).toNat)))
    have h := Int.lt_of_le_of_lt a (Int.lt_of_lt_of_le L2 b)
    rw [← Int.pow_add, ← Int.pow_add] at h
    have := pow_le2 (show (w - 1).toNat + 1 + (e'.toNat + (-e).toNat) ≤ (w - 1).toNat + (e.toNat + (-e').toNat) by omega)
    omega
  generalize hA : (if Abv (low (n * 2 ^ (-e).toNat - k * (d * 2 ^ e.toNat)) (d * 2 ^ e.toNat)).1 (low (n * 2 ^ (-e).toNat - k * (d * 2 ^ e.toNat)) (d * 2 ^ e.toNat)).2 (T (decide (k % 2 = 1))) then (1 : Int) else 0) = a
  generalize hA' : (if Abv (low (n' * 2 ^ (-e').toNat - k' * (d' * 2 ^ e'.toNat)) (d' * 2 ^ e'.toNat)).1 (low (n' * 2 ^ (-e').toNat - k' * (d' * 2 ^ e'.toNat)) (d' * 2 ^ e'.toNat)).2 (T (decide (k' % 2 = 1))) then (1 : Int) else 0) = a'
  have a01 : 0 ≤ a ∧ a ≤ 1 := by rw [← hA]; split <;> omega
  have a01' : 0 ≤ a' ∧ a' ≤ 1 := by rw [← hA']; split <;> omega
  have L4 : (k + a) * 2 ^ (e.toNat + (-e').toNat) ≤ (k' + a') * 2 ^ (e'.toNat + (-e).toNat) := by
    rcases Nat.lt_or_eq_of_le L3 with g | g
    · have h1 := Int.mul_le_mul_of_nonneg_right (show k + a ≤ 2 ^ ((w - 1).toNat + 1) by have := C.hi; omega) (Int.le_of_lt (pow2_pos (e.toNat + (-e').toNat)))
      have h2 := Int.mul_le_mul_of_nonneg_right (show (2 : Int) ^ (w - 1).toNat ≤ k' + a' by have := C'.lo; omega) (Int.le_of_lt (pow2_pos (e'.toNat + (-e).toNat)))
      rw [← Int.pow_add] at h1 h2
      have h3 := pow_le2 (show (w - 1).toNat + 1 + (e.toNat + (-e').toNat) ≤ (w - 1).toNat + (e'.toNat + (-e).toNat) by omega)
      exact Int.le_trans h1 (Int.le_trans h3 h2)
    · rw [g] at L2 ⊢
      have hk : k < k' + 1 := Int.lt_of_mul_lt_mul_right L2 (Int.le_of_lt (pow2_pos _))
      refine Int.mul_le_mul_of_nonneg_right ?_ (Int.le_of_lt (pow2_pos _))
      rcases Int.lt_or_eq_of_le (show k ≤ k' by omega) with q | q
      · omega
      · have ee : e = e' := by omega
        have s := same (by rw [q, ee]) _ (hT (decide (k % 2 = 1)))
        rw [← hA, ← hA', ← q]
        by_cases c : Abv (low (n * 2 ^ (-e).toNat - k * (d * 2 ^ e.toNat)) (d * 2 ^ e.toNat)).1 (low (n * 2 ^ (-e).toNat - k * (d * 2 ^ e.toNat)) (d * 2 ^ e.toNat)).2 (T (decide (k % 2 = 1)))
        · have c2 := (abv_low hB').mpr (s ((abv_low hB).mp c))
          rw [← q] at c2
          rw [if_pos c, if_pos c2]
          exact Int.le_refl _
        · rw [if_neg c]
          split <;> omega
  obtain ⟨u1, u2⟩ := pow_at (k + a) e
  obtain ⟨v1, v2⟩ := pow_at (k' + a') e'
  generalize powI (k + a) e = x at u1 u2
  generalize powI (k' + a') e' = y at v1 v2
  have h := Int.mul_le_mul_of_nonneg_right L4 (Int.le_of_lt (Int.mul_pos u2 v2))
  rw [Int.pow_add, Int.pow_add] at h
  have e1 : (k + a) * (2 ^ e.toNat * 2 ^ (-e').toNat) * (x.2 * y.2) = x.1 * y.2 * (2 ^ (-e).toNat * 2 ^ (-e').toNat) := by
    have : (k + a) * (2 ^ e.toNat * 2 ^ (-e').toNat) * (x.2 * y.2) = ((k + a) * 2 ^ e.toNat * x.2) * (2 ^ (-e').toNat * y.2) := by grind
    rw [this, ← u1]
    grind
  have e2 : (k' + a') * (2 ^ e'.toNat * 2 ^ (-e).toNat) * (x.2 * y.2) = y.1 * x.2 * (2 ^ (-e).toNat * 2 ^ (-e').toNat) := by
    have : (k' + a') * (2 ^ e'.toNat * 2 ^ (-e).toNat) * (x.2 * y.2) = ((k' + a') * 2 ^ e'.toNat * y.2) * (2 ^ (-e).toNat * x.2) := by grind
    rw [this, ← v1]
    grind
  rw [e1, e2] at h
  exact Int.le_of_mul_le_mul_right h (Int.mul_pos (pow2_pos _) (pow2_pos _))
end Z
namespace Z
open L2 PySem PySem.Spec PyProof.Rows
theorem addG_mem {acc : Acc} {k z : Da} {p : Da × List Da} (h : p ∈ addG acc k z) : (p ∈ acc ∧ ZS.kD p.1 ≠ ZS.kD k) ∨ (∃ q ∈ acc, ZS.kD q.1 = ZS.kD k ∧ p = (q.1, q.2 ++ [z])) ∨ p = (k, [z]) := by
  unfold addG at h
  obtain ⟨q, hq, rfl⟩ := List.mem_map.mp h
  have key : q ∈ acc → (putA (ZS.kD k) z q ∈ acc ∧ ZS.kD (putA (ZS.kD k) z q).1 ≠ ZS.kD k) ∨ (∃ q' ∈ acc, ZS.kD q'.1 = ZS.kD k ∧ putA (ZS.kD k) z q = (q'.1, q'.2 ++ [z])) := fun hq => by
    unfold putA
    by_cases e : ZS.kD q.1 = ZS.kD k
    · rw [if_pos e]
      exact .inr ⟨q, hq, e, rfl⟩
    · rw [if_neg e]
      exact .inl ⟨hq, e⟩
  split at hq
  · exact (key hq).imp id .inl
  · rcases List.mem_append.mp hq with hq | hq
    · exact (key hq).imp id .inl
    · rw [List.mem_singleton.mp hq]
      refine .inr (.inr ?_)
      unfold putA
      rw [if_pos rfl] <;> rfl
theorem addG_len (acc : Acc) (k z : Da) : (addG acc k z).length ≤ acc.length + 1 := by
  unfold addG
  rw [List.length_map]
  split
  · omega
  · rw [List.length_append]
    exact Nat.le_refl _
structure GI {γ : Type} (key : γ → NestedKey) (mk : γ → Bool) (xs : List γ) (acc : Acc) : Prop where
  len : acc.length ≤ xs.length
  all : ∀ p ∈ acc, ∃ ys : List γ, ys.Sublist xs ∧ (∀ y ∈ ys, key y = ZS.kD p.1) ∧ p.2 = ys.map fun y => PyData.bool (mk y)
section
variable {γ : Type} {key : γ → NestedKey} {mk : γ → Bool} {xs : List γ} {acc : Acc} {x : γ}
theorem GI.zero : GI key mk [] [] := ⟨Nat.le_refl _, fun p h => by cases h⟩
theorem GI.skip (g : GI key mk xs acc) : GI key mk (xs ++ [x]) acc :=
  ⟨by rw [List.length_append]; have := g.len; omega, fun p hp => by
    obtain ⟨ys, a, b, c⟩ := g.all p hp
    exact ⟨ys, a.trans (List.sublist_append_left _ _), b, c⟩⟩
theorem GI.add (g : GI key mk xs acc) {k : Da} (hk : key x = ZS.kD k) : GI key mk (xs ++ [x]) (addG acc k (.bool (mk x))) :=
  ⟨by rw [List.length_append]; have := g.len; have := addG_len acc k (.bool (mk x)); simp only [List.length_singleton]; omega, fun p hp => by
    rcases addG_mem hp with ⟨h, _⟩ | ⟨q, hq, e, rfl⟩ | rfl
    · exact g.skip.all p h
    · obtain ⟨ys, a, b, c⟩ := g.all q hq
      refine ⟨ys ++ [x], a.append (List.Sublist.refl _), fun y hy => ?_, by rw [c, List.map_append] <;> rfl⟩
      rcases List.mem_append.mp hy with hy | hy
      · exact b y hy
      · rw [List.mem_singleton.mp hy, hk]
        exact e.symm
    · exact ⟨[x], List.sublist_append_right _ _, fun y hy => by rw [List.mem_singleton.mp hy]; exact hk, rfl⟩⟩
theorem GI.few (g : GI key mk xs acc) : ∀ p ∈ acc, p.2.length ≤ xs.length := fun p hp => by
  obtain ⟨ys, a, _, c⟩ := g.all p hp
  rw [c, List.length_map]
  exact a.length_le
/-- the marks of one key ascend -/
theorem GI.asc {R : γ → γ → Prop} (g : GI key mk xs acc) (hx : xs.Pairwise R) (hm : ∀ a b, R a b → key a = key b → mk a = true → mk b = true) : ∀ p ∈ acc, ∃ bs : List Bool, p.2 = bs.map PyData.bool ∧ bs.Pairwise fun a b => a = true → b = true := fun p hp => by
  obtain ⟨ys, a, b, c⟩ := g.all p hp
  refine ⟨ys.map mk, by rw [c, List.map_map] <;> rfl, ?_⟩
  rw [List.pairwise_map]
  exact List.Pairwise.imp_of_mem (fun {u v} hu hv h => hm u v h ((b u hu).trans (b v hv).symm)) (hx.sublist a)
end
/-- two ascending lists of the same bools are one -/
theorem bools_one : ∀ (as bs : List Bool), as.Perm bs → (as.Pairwise fun a b => a = true → b = true) → (bs.Pairwise fun a b => a = true → b = true) → as = bs
  | [], bs, p, _, _ => p.nil_eq
  | a :: as, [], p, _, _ => absurd p.length_eq (by simp)
  | a :: as, b :: bs, p, h1, h2 => by
    have e : a = b := by
      obtain ⟨x1, _⟩ := List.pairwise_cons.mp h1
      obtain ⟨y1, _⟩ := List.pairwise_cons.mp h2
      have m1 : a ∈ b :: bs := p.mem_iff.mp List.mem_cons_self
      have m2 : b ∈ a :: as := p.mem_iff.mpr List.mem_cons_self
      rcases List.mem_cons.mp m1 with q | q
      · exact q
      · rcases List.mem_cons.mp m2 with r | r
        · exact r.symm
        · have u := x1 b r
          have v := y1 a q
          cases a <;> cases b <;> simp_all
    subst e
    rw [bools_one as bs (List.Perm.cons_inv p) (List.pairwise_cons.mp h1).2 (List.pairwise_cons.mp h2).2]
theorem le_bools (a b : Bool) : PySem.W.dataLe false id (PyData.bool a) (PyData.bool b) = true ↔ (a = true → b = true) := by
  cases a <;> cases b <;> decide +kernel
/-- a sorted list of bools, by data -/
theorem sorted_bools {bs : List Bool} {ds : List Da} (h : bs.Pairwise fun a b => a = true → b = true) (p : ds.Perm (bs.map PyData.bool)) (hs : ds.Pairwise fun a b => PySem.W.dataLe false id a b = true) : ds = bs.map PyData.bool := by
  obtain ⟨cs, rfl⟩ : ∃ cs : List Bool, ds = cs.map PyData.bool := by
    have key : ∀ l : List Da, (∀ x ∈ l, ∃ b : Bool, x = .bool b) → ∃ cs : List Bool, l = cs.map PyData.bool := fun l => by
      induction l with
      | nil => exact fun _ => ⟨[], rfl⟩
      | cons x l ih =>
        intro h
        obtain ⟨b, rfl⟩ := h x List.mem_cons_self
        obtain ⟨cs, rfl⟩ := ih fun y hy => h y (List.mem_cons_of_mem _ hy)
        exact ⟨b :: cs, rfl⟩
    refine key ds fun x hx => ?_
    obtain ⟨b, _, rfl⟩ := List.mem_map.mp (p.mem_iff.mp hx)
    exact ⟨b, rfl⟩
  have q : cs.Perm bs := by
    have z := p.map fun d => (match d with | PyData.bool b => b | _ => false)
    rw [List.map_map, List.map_map] at z
    simpa [Function.comp_def] using z
  rw [List.pairwise_map] at hs
  rw [bools_one cs bs q (hs.imp fun {a b} h => (le_bools a b).mp h) h]
theorem bools_fit (bs : List Bool) : PySem.W.AllAlike (bs.map PyData.bool) ∧ PySem.W.Sortable (bs.map PyData.bool) ∧ ∀ d ∈ bs.map PyData.bool, d.canLay0 = true ∧ d.depth ≤ 50 := by
  refine ⟨fun d hd d' hd' => ?_, .inr fun d hd => ?_, fun d hd => ?_⟩
  · obtain ⟨a, _, rfl⟩ := List.mem_map.mp hd
    obtain ⟨b, _, rfl⟩ := List.mem_map.mp hd'
    rfl
  · obtain ⟨a, _, rfl⟩ := List.mem_map.mp hd
    exact ⟨fun z => (by cases z), fun xs z => (by cases z)⟩
  · obtain ⟨a, _, rfl⟩ := List.mem_map.mp hd
    exact ⟨rfl, Nat.zero_le _⟩
/-- the grouping loop, by what holds before each item -/
theorem grpD_ix {iD : Nat} {p : Addr} {t : DG} {ct : DT} {tk tv : DE} {R : Acc → Gs → Prop} {xs : List Da} (I : Nat → Acc → Gs → Prop)
    (step : ∀ k x, xs[k]? = some x → ∀ acc g, I k acc g → ∀ N : Acc → Gs → Prop, (∀ acc' g', I (k + 1) acc' g' → N acc' g') →
      t (.val x) g fun g1 => gQ g1 ∧ ct g1 fun b g2 => gQ g2 ∧ (b = false → N acc g2) ∧
        (b = true → g2.sl[iD]? = some (some (.ob (.at p))) ∧ acc.length < 1000 ∧ (∀ q ∈ acc, q.2.length < 1000) ∧ tk g2 fun r g3 => gQ g3 ∧ ∃ k, r = .val k ∧ ZS.setD k = true ∧ tv g3 fun r g4 => gQ g4 ∧ ∃ z, r = .val z ∧ N (addG acc k z) g4))
    (fin : ∀ acc g, I xs.length acc g → R acc g) : ∀ acc g, I 0 acc g → grpD iD p t ct tk tv R xs acc g := by
  have key : ∀ (m k : Nat), k + m = xs.length → ∀ acc g, I k acc g → grpD iD p t ct tk tv R (xs.drop k) acc g := by
    intro m
    induction m with
    | zero =>
      intro k e acc g h
      rw [List.drop_of_length_le (by omega)]
      exact fin acc g (by rw [← show k = xs.length by omega]; exact h)
    | succ m ih =>
      intro k e acc g h
      have hk : k < xs.length := by omega
      rw [List.drop_eq_getElem_cons hk]
      exact step k xs[k] (List.getElem?_eq_getElem hk) acc g h _ fun acc' g' h' => ih (k + 1) (by omega) acc' g' h'
  exact fun acc g h => key xs.length 0 (by omega) acc g h
end Z
namespace LAW
open Z L2 PySem PySem.Spec PyProof.Rows
open Evl (Ex ex_l ex_t ex_rd fresh_back)
local macro_rules
  | `(tactic| simp_arith [$xs,*]) => `(tactic| simp only [↓dGrp,↓dValX,↓dSeq,↓dAsg,↓dSetL,↓dNext,↓dIfS,↓dRet,↓dRetL,↓dDrop,↓dNever,↓dAug,↓dPar,↓dParL,↓dApp,↓dVar,↓dC,↓dBin,↓fI,↓fI0,↓fAdd,↓fEq,↓fNe,↓fIn,↓dTest,↓dAndT,↓dOrT,↓dNotT,↓dAndV,↓dOrV,↓dNotV,↓dIf,↓dNeg,↓dIsN,↓dChain,↓dNil,↓dCons,↓dTup,↓dLst,↓dFz,↓valsD,↓dIx,↓dCall,↓dCallL,↓hasSrc,↓rrv,↓dN,↓dT,↓dTn,↓dTc,↓rsv,↓Gs.set,↓dFor,↓dItems,↓dRange1,↓dLc,↓dCB,↓cLen,↓cAll,↓cTuple,↓cInt1,↓cInt2,↓dIsi,↓dBits,↓dCallS,↓oSub,↓oAddI,↓oMul,↓oDiv,↓oMod,↓oShl,↓oPow,↓oLt,↓oLe,↓oGt,↓oGe,↓oAbs,↓oMax,↓oMin,↓cMinL,↓cSortedD,↓fInD,↓dSl,↓oNo,↓oSo,↓dBy,↓gAs,↓Gs.unset,↓rtN,↓lamF,↓gLam,↓plainO,↓Z.isNon, $xs,*, ent,svOf,List.map_cons,List.map_nil,List.cons_append,List.nil_append,List.append_nil,List.replicate,List.length_cons,List.length_nil,List.getElem?_cons_zero,List.getElem?_cons_succ,List.getElem?_nil,List.set_cons_zero,List.set_cons_succ,Option.map_some,Option.map_none,Option.isNone_some,Option.isNone_none,forall_const,true_implies,false_implies,and_true,true_and,Bool.true_eq_false,Bool.false_eq_true,reduceCtorEq,noOwn,wipeS,hide,fuN_self,lcD,dYes,Nat.zero_add,Nat.reduceAdd,Nat.reduceLeDiff,Nat.reduceSub,atI_0,atI_1,atI_2,atI_3,atI_4,atI_5,Int.one_mul,eqv_ii,eqv_ss,eqv_num,shaped_int,shaped_num,shaped_none,shaped_ru,flat_str,flat_int,flat_none,List.all_cons,List.all_nil,Bool.and_true,decide_eq_true_eq,decide_eq_false_iff_not,Bool.not_eq_true',Bool.not_eq_false',Decidable.not_not,↓reduceIte,Bool.false_eq_true,Int.reduceLT,eqv_strs,pick_0,pick_01,pick_10,pick_012,pick_021,pick_102,pick_120,pick_201,pick_210])
  | `(tactic| simp_arith [$xs,*] at $h:ident) => `(tactic| simp only [↓dGrp,↓dValX,↓dSeq,↓dAsg,↓dSetL,↓dNext,↓dIfS,↓dRet,↓dRetL,↓dDrop,↓dNever,↓dAug,↓dPar,↓dParL,↓dApp,↓dVar,↓dC,↓dBin,↓fI,↓fI0,↓fAdd,↓fEq,↓fNe,↓fIn,↓dTest,↓dAndT,↓dOrT,↓dNotT,↓dAndV,↓dOrV,↓dNotV,↓dIf,↓dNeg,↓dIsN,↓dChain,↓dNil,↓dCons,↓dTup,↓dLst,↓dFz,↓valsD,↓dIx,↓dCall,↓dCallL,↓hasSrc,↓rrv,↓dN,↓dT,↓dTn,↓dTc,↓rsv,↓Gs.set,↓dFor,↓dItems,↓dRange1,↓dLc,↓dCB,↓cLen,↓cAll,↓cTuple,↓cInt1,↓cInt2,↓dIsi,↓dBits,↓dCallS,↓oSub,↓oAddI,↓oMul,↓oDiv,↓oMod,↓oShl,↓oPow,↓oLt,↓oLe,↓oGt,↓oGe,↓oAbs,↓oMax,↓oMin,↓cMinL,↓cSortedD,↓fInD,↓dSl,↓oNo,↓oSo,↓dBy,↓gAs,↓Gs.unset,↓rtN,↓lamF,↓gLam,↓plainO,↓Z.isNon, $xs,*, ent,svOf,List.map_cons,List.map_nil,List.cons_append,List.nil_append,List.append_nil,List.replicate,List.length_cons,List.length_nil,List.getElem?_cons_zero,List.getElem?_cons_succ,List.getElem?_nil,List.set_cons_zero,List.set_cons_succ,Option.map_some,Option.map_none,Option.isNone_some,Option.isNone_none,forall_const,true_implies,false_implies,and_true,true_and,Bool.true_eq_false,Bool.false_eq_true,reduceCtorEq,noOwn,wipeS,hide,fuN_self,lcD,dYes,Nat.zero_add,Nat.reduceAdd,Nat.reduceLeDiff,Nat.reduceSub,atI_0,atI_1,atI_2,atI_3,atI_4,atI_5,Int.one_mul,eqv_ii,eqv_ss,eqv_num,shaped_int,shaped_num,shaped_none,shaped_ru,flat_str,flat_int,flat_none,List.all_cons,List.all_nil,Bool.and_true,decide_eq_true_eq,decide_eq_false_iff_not,Bool.not_eq_true',Bool.not_eq_false',Decidable.not_not,↓reduceIte,Bool.false_eq_true,Int.reduceLT,eqv_strs,pick_0,pick_01,pick_10,pick_012,pick_021,pick_102,pick_120,pick_201,pick_210] at $h:ident)
def topS (i : Nat) : Stmt := PySem.Challenge.pw_stagedrounding_k65_whole_monotone_chains.main.body.getD i (.Pass ⟨0, 0, 0, 0⟩)
abbrev st_is_int : Stmt := topS 8
abbrev N_is_int : List Str := ["value", "least"]
theorem sc_is_int : FnScope N_is_int ["value", "least"] (defScope st_is_int) := ⟨rfl, rfl, rfl, by decide +kernel, rfl, by decide +kernel, by decide +kernel⟩
abbrev st_common_divisor : Stmt := topS 9
abbrev N_common_divisor : List Str := ["one", "other"]
theorem sc_common_divisor : FnScope N_common_divisor ["one", "other"] (defScope st_common_divisor) := ⟨rfl, rfl, rfl, by decide +kernel, rfl, by decide +kernel, by decide +kernel⟩
abbrev st_lowest : Stmt := topS 10
abbrev N_lowest : List Str := ["n", "d", "divisor"]
theorem sc_lowest : FnScope N_lowest ["n", "d"] (defScope st_lowest) := ⟨rfl, rfl, rfl, by decide +kernel, rfl, by decide +kernel, by decide +kernel⟩
abbrev st_is_number : Stmt := topS 11
abbrev N_is_number : List Str := ["value", "part"]
theorem sc_is_number : FnScope N_is_number ["value"] (defScope st_is_number) := ⟨rfl, rfl, rfl, by decide +kernel, rfl, by decide +kernel, by decide +kernel⟩
abbrev st_is_width : Stmt := topS 12
abbrev N_is_width : List Str := ["value"]
theorem sc_is_width : FnScope N_is_width ["value"] (defScope st_is_width) := ⟨rfl, rfl, rfl, by decide +kernel, rfl, by decide +kernel, by decide +kernel⟩
abbrev st_check_number : Stmt := topS 13
abbrev N_check_number : List Str := ["value"]
theorem sc_check_number : FnScope N_check_number ["value"] (defScope st_check_number) := ⟨rfl, rfl, rfl, by decide +kernel, rfl, by decide +kernel, by decide +kernel⟩
abbrev st_check_width : Stmt := topS 14
abbrev N_check_width : List Str := ["value"]
theorem sc_check_width : FnScope N_check_width ["value"] (defScope st_check_width) := ⟨rfl, rfl, rfl, by decide +kernel, rfl, by decide +kernel, by decide +kernel⟩
abbrev st_scaled : Stmt := topS 15
abbrev N_scaled : List Str := ["number", "e", "n", "d"]
theorem sc_scaled : FnScope N_scaled ["number", "e"] (defScope st_scaled) := ⟨rfl, rfl, rfl, by decide +kernel, rfl, by decide +kernel, by decide +kernel⟩
abbrev st_power_number : Stmt := topS 16
abbrev N_power_number : List Str := ["k", "e", "n", "d"]
theorem sc_power_number : FnScope N_power_number ["k", "e"] (defScope st_power_number) := ⟨rfl, rfl, rfl, by decide +kernel, rfl, by decide +kernel, by decide +kernel⟩
abbrev st_cell_of : Stmt := topS 17
abbrev N_cell_of : List Str := ["number", "width", "e", "n", "d"]
theorem sc_cell_of : FnScope N_cell_of ["number", "width"] (defScope st_cell_of) := ⟨rfl, rfl, rfl, by decide +kernel, rfl, by decide +kernel, by decide +kernel⟩
abbrev st_position_of : Stmt := topS 18
abbrev N_position_of : List Str := ["number", "width", "k", "e", "n", "d"]
theorem sc_position_of : FnScope N_position_of ["number", "width"] (defScope st_position_of) := ⟨rfl, rfl, rfl, by decide +kernel, rfl, by decide +kernel, by decide +kernel⟩
abbrev st_cell : Stmt := topS 19
abbrev N_cell : List Str := ["number", "width"]
theorem sc_cell : FnScope N_cell ["number", "width"] (defScope st_cell) := ⟨rfl, rfl, rfl, by decide +kernel, rfl, by decide +kernel, by decide +kernel⟩
abbrev st_position : Stmt := topS 20
abbrev N_position : List Str := ["number", "width"]
theorem sc_position : FnScope N_position ["number", "width"] (defScope st_position) := ⟨rfl, rfl, rfl, by decide +kernel, rfl, by decide +kernel, by decide +kernel⟩
abbrev st_is_rule : Stmt := topS 29
abbrev N_is_rule : List Str := ["value"]
theorem sc_is_rule : FnScope N_is_rule ["value"] (defScope st_is_rule) := ⟨rfl, rfl, rfl, by decide +kernel, rfl, by decide +kernel, by decide +kernel⟩
abbrev st_ends_of : Stmt := topS 30
abbrev N_ends_of : List Str := ["number", "width", "k", "e"]
theorem sc_ends_of : FnScope N_ends_of ["number", "width"] (defScope st_ends_of) := ⟨rfl, rfl, rfl, by decide +kernel, rfl, by decide +kernel, by decide +kernel⟩
abbrev st_goes_up : Stmt := topS 31
abbrev N_goes_up : List Str := ["k", "place", "rule", "n", "d"]
theorem sc_goes_up : FnScope N_goes_up ["k", "place", "rule"] (defScope st_goes_up) := ⟨rfl, rfl, rfl, by decide +kernel, rfl, by decide +kernel, by decide +kernel⟩
abbrev st_round_once : Stmt := topS 32
abbrev N_round_once : List Str := ["number", "width", "rule", "lower", "upper", "k"]
theorem sc_round_once : FnScope N_round_once ["number", "width", "rule"] (defScope st_round_once) := ⟨rfl, rfl, rfl, by decide +kernel, rfl, by decide +kernel, by decide +kernel⟩
abbrev st_neighbours : Stmt := topS 33
abbrev N_neighbours : List Str := ["number", "width"]
theorem sc_neighbours : FnScope N_neighbours ["number", "width"] (defScope st_neighbours) := ⟨rfl, rfl, rfl, by decide +kernel, rfl, by decide +kernel, by decide +kernel⟩
abbrev st_is_step : Stmt := topS 37
abbrev N_is_step : List Str := ["value"]
theorem sc_is_step : FnScope N_is_step ["value"] (defScope st_is_step) := ⟨rfl, rfl, rfl, by decide +kernel, rfl, by decide +kernel, by decide +kernel⟩
abbrev st_is_chain : Stmt := topS 38
abbrev N_is_chain : List Str := ["value", "step"]
theorem sc_is_chain : FnScope N_is_chain ["value"] (defScope st_is_chain) := ⟨rfl, rfl, rfl, by decide +kernel, rfl, by decide +kernel, by decide +kernel⟩
abbrev st_check_chain : Stmt := topS 39
abbrev N_check_chain : List Str := ["value"]
theorem sc_check_chain : FnScope N_check_chain ["value"] (defScope st_check_chain) := ⟨rfl, rfl, rfl, by decide +kernel, rfl, by decide +kernel, by decide +kernel⟩
abbrev st_last_width : Stmt := topS 40
abbrev N_last_width : List Str := ["chain", "width", "rule"]
theorem sc_last_width : FnScope N_last_width ["chain"] (defScope st_last_width) := ⟨rfl, rfl, rfl, by decide +kernel, rfl, by decide +kernel, by decide +kernel⟩
abbrev st_stages : Stmt := topS 41
abbrev N_stages : List Str := ["number", "chain", "found", "width", "rule"]
theorem sc_stages : FnScope N_stages ["number", "chain"] (defScope st_stages) := ⟨rfl, rfl, rfl, by decide +kernel, rfl, by decide +kernel, by decide +kernel⟩
abbrev st_applied : Stmt := topS 42
abbrev N_applied : List Str := ["number", "chain"]
theorem sc_applied : FnScope N_applied ["number", "chain"] (defScope st_applied) := ⟨rfl, rfl, rfl, by decide +kernel, rfl, by decide +kernel, by decide +kernel⟩
abbrev st_trimmed : Stmt := topS 43
abbrev N_trimmed : List Str := ["chain", "found", "least", "width", "rule"]
theorem sc_trimmed : FnScope N_trimmed ["chain"] (defScope st_trimmed) := ⟨rfl, rfl, rfl, by decide +kernel, rfl, by decide +kernel, by decide +kernel⟩
abbrev st_last_down : Stmt := topS 50
abbrev N_last_down : List Str := ["rule", "far", "parity", "t", "side", "parts", "index"]
theorem sc_last_down : FnScope N_last_down ["rule", "far", "parity"] (defScope st_last_down) := ⟨rfl, rfl, rfl, by decide +kernel, rfl, by decide +kernel, by decide +kernel⟩
abbrev st_combined : Stmt := topS 51
abbrev N_combined : List Str := ["pair", "rule", "far", "found", "parity", "index", "n", "d", "side"]
theorem sc_combined : FnScope N_combined ["pair", "rule", "far"] (defScope st_combined) := ⟨rfl, rfl, rfl, by decide +kernel, rfl, by decide +kernel, by decide +kernel⟩
abbrev st_thresholds : Stmt := topS 52
abbrev N_thresholds : List Str := ["chain", "steps", "width", "rule", "found", "narrower"]
theorem sc_thresholds : FnScope N_thresholds ["chain"] (defScope st_thresholds) := ⟨rfl, rfl, rfl, by decide +kernel, rfl, by decide +kernel, by decide +kernel⟩
abbrev st_check_chains : Stmt := topS 54
abbrev N_check_chains : List Str := ["one", "other"]
theorem sc_check_chains : FnScope N_check_chains ["one", "other"] (defScope st_check_chains) := ⟨rfl, rfl, rfl, by decide +kernel, rfl, by decide +kernel, by decide +kernel⟩
abbrev st_same : Stmt := topS 55
abbrev N_same : List Str := ["one", "other"]
theorem sc_same : FnScope N_same ["one", "other"] (defScope st_same) := ⟨rfl, rfl, rfl, by decide +kernel, rfl, by decide +kernel, by decide +kernel⟩
abbrev st__law_source : Stmt := topS 57
abbrev N__law_source : List Str := ["_law_script", "_law_k", "_law_given", "_law_digits"]
theorem sc__law_source : FnScope N__law_source ["_law_script", "_law_k"] (defScope st__law_source) := ⟨rfl, rfl, rfl, by decide +kernel, rfl, by decide +kernel, by decide +kernel⟩
abbrev st__law_draw : Stmt := topS 58
abbrev N__law_draw : List Str := ["_law_source_here", "_law_size", "_law_digit", "_law_turn", "_law_mixed"]
theorem sc__law_draw : FnScope N__law_draw ["_law_source_here", "_law_size"] (defScope st__law_draw) := ⟨rfl, rfl, rfl, by decide +kernel, rfl, by decide +kernel, by decide +kernel⟩
abbrev st__law_pick : Stmt := topS 59
abbrev N__law_pick : List Str := ["_law_source_here", "_law_some"]
theorem sc__law_pick : FnScope N__law_pick ["_law_source_here", "_law_some"] (defScope st__law_pick) := ⟨rfl, rfl, rfl, by decide +kernel, rfl, by decide +kernel, by decide +kernel⟩
abbrev st__law_divisor : Stmt := topS 60
abbrev N__law_divisor : List Str := ["_law_one", "_law_other"]
theorem sc__law_divisor : FnScope N__law_divisor ["_law_one", "_law_other"] (defScope st__law_divisor) := ⟨rfl, rfl, rfl, by decide +kernel, rfl, by decide +kernel, by decide +kernel⟩
abbrev st__law_low : Stmt := topS 61
abbrev N__law_low : List Str := ["_law_n", "_law_d", "_law_by"]
theorem sc__law_low : FnScope N__law_low ["_law_n", "_law_d"] (defScope st__law_low) := ⟨rfl, rfl, rfl, by decide +kernel, rfl, by decide +kernel, by decide +kernel⟩
abbrev st__law_scaled : Stmt := topS 62
abbrev N__law_scaled : List Str := ["_law_number_here", "_law_e", "_law_n", "_law_d"]
theorem sc__law_scaled : FnScope N__law_scaled ["_law_number_here", "_law_e"] (defScope st__law_scaled) := ⟨rfl, rfl, rfl, by decide +kernel, rfl, by decide +kernel, by decide +kernel⟩
abbrev st__law_number : Stmt := topS 63
abbrev N__law_number : List Str := ["_law_source_here", "_law_most", "_law_n", "_law_d"]
theorem sc__law_number : FnScope N__law_number ["_law_source_here", "_law_most"] (defScope st__law_number) := ⟨rfl, rfl, rfl, by decide +kernel, rfl, by decide +kernel, by decide +kernel⟩
abbrev st__law_rule : Stmt := topS 64
abbrev N__law_rule : List Str := ["_law_source_here"]
theorem sc__law_rule : FnScope N__law_rule ["_law_source_here"] (defScope st__law_rule) := ⟨rfl, rfl, rfl, by decide +kernel, rfl, by decide +kernel, by decide +kernel⟩
abbrev st__law_chain : Stmt := topS 65
abbrev N__law_chain : List Str := ["_law_source_here", "_law_last", "_law_most", "_law_far", "_law_found", "_law_turn", "_law_falling", "_law_width", "_law_rule_here"]
theorem sc__law_chain : FnScope N__law_chain ["_law_source_here", "_law_last", "_law_most", "_law_far"] (defScope st__law_chain) := ⟨rfl, rfl, rfl, by decide +kernel, rfl, by decide +kernel, by decide +kernel⟩
abbrev st__law_below : Stmt := topS 66
abbrev N__law_below : List Str := ["_law_one", "_law_other"]
theorem sc__law_below : FnScope N__law_below ["_law_one", "_law_other"] (defScope st__law_below) := ⟨rfl, rfl, rfl, by decide +kernel, rfl, by decide +kernel, by decide +kernel⟩
abbrev st__law_near : Stmt := topS 67
abbrev N__law_near : List Str := ["_law_source_here", "_law_one", "_law_n", "_law_d", "_law_fine", "_law_j"]
theorem sc__law_near : FnScope N__law_near ["_law_source_here", "_law_one"] (defScope st__law_near) := ⟨rfl, rfl, rfl, by decide +kernel, rfl, by decide +kernel, by decide +kernel⟩
abbrev st__law_row_right : Stmt := topS 68
abbrev N__law_row_right : List Str := ["_law_row", "_law_steps", "_law_least", "_law_last", "_law_one", "_law_here", "_law_low_here", "_law_high", "_law_ups", "_law_marks"]
theorem sc__law_row_right : FnScope N__law_row_right ["_law_row", "_law_steps"] (defScope st__law_row_right) := ⟨rfl, rfl, rfl, by decide +kernel, rfl, by decide +kernel, by decide +kernel⟩
abbrev st__law_right : Stmt := topS 69
abbrev N__law_right : List Str := ["_law_source_here", "_law_turn", "_law_steps", "_law_mode", "_law_alike", "_law_wide", "_law_way"]
theorem sc__law_right : FnScope N__law_right ["_law_source_here"] (defScope st__law_right) := ⟨rfl, rfl, rfl, by decide +kernel, rfl, by decide +kernel, by decide +kernel⟩
abbrev st_law : Stmt := topS 70
abbrev N_law : List Str := ["_law_script", "_law_k"]
theorem sc_law : FnScope N_law ["_law_script"] (defScope st_law) := ⟨rfl, rfl, rfl, by decide +kernel, rfl, by decide +kernel, by decide +kernel⟩
def tab_BY_RULE : Ru → Da
  | .dn => (.tuple [(.tuple [(.tuple [(.int 1), (.int 1)]), (.str "up")]), (.tuple [(.tuple [(.int 1), (.int 1)]), (.str "up")])])
  | .hd => (.tuple [(.tuple [(.tuple [(.int 1), (.int 2)]), (.str "down")]), (.tuple [(.tuple [(.int 1), (.int 2)]), (.str "down")])])
  | .he => (.tuple [(.tuple [(.tuple [(.int 1), (.int 2)]), (.str "down")]), (.tuple [(.tuple [(.int 1), (.int 2)]), (.str "up")])])
  | .hu => (.tuple [(.tuple [(.tuple [(.int 1), (.int 2)]), (.str "up")]), (.tuple [(.tuple [(.int 1), (.int 2)]), (.str "up")])])
  | .od => (.tuple [(.tuple [(.tuple [(.int 0), (.int 1)]), (.str "down")]), (.tuple [(.tuple [(.int 1), (.int 1)]), (.str "up")])])
  | .up => (.tuple [(.tuple [(.tuple [(.int 0), (.int 1)]), (.str "down")]), (.tuple [(.tuple [(.int 0), (.int 1)]), (.str "down")])])
set_option genInjectivity false in
set_option genSizeOf false in
set_option genSizeOfSpec false in
structure Tx (w : World) (K : Fg) (mg : Str → Option Value) where
  f_is_int : Addr
  fd_is_int : FuncData
  F_is_int : Fun K "is_int" "is_int" st_is_int f_is_int fd_is_int
  b_is_int : Binds K fd_is_int ["value", "least"] []
  g_is_int : mg "is_int" = some (.ref f_is_int)
  f_common_divisor : Addr
  fd_common_divisor : FuncData
  F_common_divisor : Fun K "common_divisor" "common_divisor" st_common_divisor f_common_divisor fd_common_divisor
  b_common_divisor : Binds K fd_common_divisor ["one", "other"] []
  g_common_divisor : mg "common_divisor" = some (.ref f_common_divisor)
  f_lowest : Addr
  fd_lowest : FuncData
  F_lowest : Fun K "lowest" "lowest" st_lowest f_lowest fd_lowest
  b_lowest : Binds K fd_lowest ["n", "d"] []
  g_lowest : mg "lowest" = some (.ref f_lowest)
  f_is_number : Addr
  fd_is_number : FuncData
  F_is_number : Fun K "is_number" "is_number" st_is_number f_is_number fd_is_number
  b_is_number : Binds K fd_is_number ["value"] []
  g_is_number : mg "is_number" = some (.ref f_is_number)
  f_is_width : Addr
  fd_is_width : FuncData
  F_is_width : Fun K "is_width" "is_width" st_is_width f_is_width fd_is_width
  b_is_width : Binds K fd_is_width ["value"] []
  g_is_width : mg "is_width" = some (.ref f_is_width)
  f_check_number : Addr
  fd_check_number : FuncData
  F_check_number : Fun K "check_number" "check_number" st_check_number f_check_number fd_check_number
  b_check_number : Binds K fd_check_number ["value"] []
  g_check_number : mg "check_number" = some (.ref f_check_number)
  f_check_width : Addr
  fd_check_width : FuncData
  F_check_width : Fun K "check_width" "check_width" st_check_width f_check_width fd_check_width
  b_check_width : Binds K fd_check_width ["value"] []
  g_check_width : mg "check_width" = some (.ref f_check_width)
  f_scaled : Addr
  fd_scaled : FuncData
  F_scaled : Fun K "scaled" "scaled" st_scaled f_scaled fd_scaled
  b_scaled : Binds K fd_scaled ["number", "e"] []
  g_scaled : mg "scaled" = some (.ref f_scaled)
  f_power_number : Addr
  fd_power_number : FuncData
  F_power_number : Fun K "power_number" "power_number" st_power_number f_power_number fd_power_number
  b_power_number : Binds K fd_power_number ["k", "e"] []
  g_power_number : mg "power_number" = some (.ref f_power_number)
  f_cell_of : Addr
  fd_cell_of : FuncData
  F_cell_of : Fun K "cell_of" "cell_of" st_cell_of f_cell_of fd_cell_of
  b_cell_of : Binds K fd_cell_of ["number", "width"] []
  g_cell_of : mg "cell_of" = some (.ref f_cell_of)
  f_position_of : Addr
  fd_position_of : FuncData
  F_position_of : Fun K "position_of" "position_of" st_position_of f_position_of fd_position_of
  b_position_of : Binds K fd_position_of ["number", "width"] []
  g_position_of : mg "position_of" = some (.ref f_position_of)
  f_cell : Addr
  fd_cell : FuncData
  F_cell : Fun K "cell" "cell" st_cell f_cell fd_cell
  b_cell : Binds K fd_cell ["number", "width"] []
  g_cell : mg "cell" = some (.ref f_cell)
  f_position : Addr
  fd_position : FuncData
  F_position : Fun K "position" "position" st_position f_position fd_position
  b_position : Binds K fd_position ["number", "width"] []
  g_position : mg "position" = some (.ref f_position)
  f_is_rule : Addr
  fd_is_rule : FuncData
  F_is_rule : Fun K "is_rule" "is_rule" st_is_rule f_is_rule fd_is_rule
  b_is_rule : Binds K fd_is_rule ["value"] []
  g_is_rule : mg "is_rule" = some (.ref f_is_rule)
  f_ends_of : Addr
  fd_ends_of : FuncData
  F_ends_of : Fun K "ends_of" "ends_of" st_ends_of f_ends_of fd_ends_of
  b_ends_of : Binds K fd_ends_of ["number", "width"] []
  g_ends_of : mg "ends_of" = some (.ref f_ends_of)
  f_goes_up : Addr
  fd_goes_up : FuncData
  F_goes_up : Fun K "goes_up" "goes_up" st_goes_up f_goes_up fd_goes_up
  b_goes_up : Binds K fd_goes_up ["k", "place", "rule"] []
  g_goes_up : mg "goes_up" = some (.ref f_goes_up)
  f_round_once : Addr
  fd_round_once : FuncData
  F_round_once : Fun K "round_once" "round_once" st_round_once f_round_once fd_round_once
  b_round_once : Binds K fd_round_once ["number", "width", "rule"] []
  g_round_once : mg "round_once" = some (.ref f_round_once)
  f_neighbours : Addr
  fd_neighbours : FuncData
  F_neighbours : Fun K "neighbours" "neighbours" st_neighbours f_neighbours fd_neighbours
  b_neighbours : Binds K fd_neighbours ["number", "width"] []
  g_neighbours : mg "neighbours" = some (.ref f_neighbours)
  f_is_step : Addr
  fd_is_step : FuncData
  F_is_step : Fun K "is_step" "is_step" st_is_step f_is_step fd_is_step
  b_is_step : Binds K fd_is_step ["value"] []
  g_is_step : mg "is_step" = some (.ref f_is_step)
  f_is_chain : Addr
  fd_is_chain : FuncData
  F_is_chain : Fun K "is_chain" "is_chain" st_is_chain f_is_chain fd_is_chain
  b_is_chain : Binds K fd_is_chain ["value"] []
  g_is_chain : mg "is_chain" = some (.ref f_is_chain)
  f_check_chain : Addr
  fd_check_chain : FuncData
  F_check_chain : Fun K "check_chain" "check_chain" st_check_chain f_check_chain fd_check_chain
  b_check_chain : Binds K fd_check_chain ["value"] []
  g_check_chain : mg "check_chain" = some (.ref f_check_chain)
  f_last_width : Addr
  fd_last_width : FuncData
  F_last_width : Fun K "last_width" "last_width" st_last_width f_last_width fd_last_width
  b_last_width : Binds K fd_last_width ["chain"] []
  g_last_width : mg "last_width" = some (.ref f_last_width)
  f_stages : Addr
  fd_stages : FuncData
  F_stages : Fun K "stages" "stages" st_stages f_stages fd_stages
  b_stages : Binds K fd_stages ["number", "chain"] []
  g_stages : mg "stages" = some (.ref f_stages)
  f_applied : Addr
  fd_applied : FuncData
  F_applied : Fun K "applied" "applied" st_applied f_applied fd_applied
  b_applied : Binds K fd_applied ["number", "chain"] []
  g_applied : mg "applied" = some (.ref f_applied)
  f_trimmed : Addr
  fd_trimmed : FuncData
  F_trimmed : Fun K "trimmed" "trimmed" st_trimmed f_trimmed fd_trimmed
  b_trimmed : Binds K fd_trimmed ["chain"] []
  g_trimmed : mg "trimmed" = some (.ref f_trimmed)
  f_last_down : Addr
  fd_last_down : FuncData
  F_last_down : Fun K "last_down" "last_down" st_last_down f_last_down fd_last_down
  b_last_down : Binds K fd_last_down ["rule", "far", "parity"] []
  g_last_down : mg "last_down" = some (.ref f_last_down)
  f_combined : Addr
  fd_combined : FuncData
  F_combined : Fun K "combined" "combined" st_combined f_combined fd_combined
  b_combined : Binds K fd_combined ["pair", "rule", "far"] []
  g_combined : mg "combined" = some (.ref f_combined)
  f_thresholds : Addr
  fd_thresholds : FuncData
  F_thresholds : Fun K "thresholds" "thresholds" st_thresholds f_thresholds fd_thresholds
  b_thresholds : Binds K fd_thresholds ["chain"] []
  g_thresholds : mg "thresholds" = some (.ref f_thresholds)
  f_check_chains : Addr
  fd_check_chains : FuncData
  F_check_chains : Fun K "check_chains" "check_chains" st_check_chains f_check_chains fd_check_chains
  b_check_chains : Binds K fd_check_chains ["one", "other"] []
  g_check_chains : mg "check_chains" = some (.ref f_check_chains)
  f_same : Addr
  fd_same : FuncData
  F_same : Fun K "same" "same" st_same f_same fd_same
  b_same : Binds K fd_same ["one", "other"] []
  g_same : mg "same" = some (.ref f_same)
  f__law_source : Addr
  fd__law_source : FuncData
  F__law_source : Fun K "_law_source" "_law_source" st__law_source f__law_source fd__law_source
  b__law_source : Binds K fd__law_source ["_law_script", "_law_k"] []
  g__law_source : mg "_law_source" = some (.ref f__law_source)
  f__law_draw : Addr
  fd__law_draw : FuncData
  F__law_draw : Fun K "_law_draw" "_law_draw" st__law_draw f__law_draw fd__law_draw
  b__law_draw : Binds K fd__law_draw ["_law_source_here", "_law_size"] []
  g__law_draw : mg "_law_draw" = some (.ref f__law_draw)
  f__law_pick : Addr
  fd__law_pick : FuncData
  F__law_pick : Fun K "_law_pick" "_law_pick" st__law_pick f__law_pick fd__law_pick
  b__law_pick : Binds K fd__law_pick ["_law_source_here", "_law_some"] []
  g__law_pick : mg "_law_pick" = some (.ref f__law_pick)
  f__law_divisor : Addr
  fd__law_divisor : FuncData
  F__law_divisor : Fun K "_law_divisor" "_law_divisor" st__law_divisor f__law_divisor fd__law_divisor
  b__law_divisor : Binds K fd__law_divisor ["_law_one", "_law_other"] []
  g__law_divisor : mg "_law_divisor" = some (.ref f__law_divisor)
  f__law_low : Addr
  fd__law_low : FuncData
  F__law_low : Fun K "_law_low" "_law_low" st__law_low f__law_low fd__law_low
  b__law_low : Binds K fd__law_low ["_law_n", "_law_d"] []
  g__law_low : mg "_law_low" = some (.ref f__law_low)
  f__law_scaled : Addr
  fd__law_scaled : FuncData
  F__law_scaled : Fun K "_law_scaled" "_law_scaled" st__law_scaled f__law_scaled fd__law_scaled
  b__law_scaled : Binds K fd__law_scaled ["_law_number_here", "_law_e"] []
  g__law_scaled : mg "_law_scaled" = some (.ref f__law_scaled)
  f__law_number : Addr
  fd__law_number : FuncData
  F__law_number : Fun K "_law_number" "_law_number" st__law_number f__law_number fd__law_number
  b__law_number : Binds K fd__law_number ["_law_source_here", "_law_most"] []
  g__law_number : mg "_law_number" = some (.ref f__law_number)
  f__law_rule : Addr
  fd__law_rule : FuncData
  F__law_rule : Fun K "_law_rule" "_law_rule" st__law_rule f__law_rule fd__law_rule
  b__law_rule : Binds K fd__law_rule ["_law_source_here"] []
  g__law_rule : mg "_law_rule" = some (.ref f__law_rule)
  f__law_chain : Addr
  fd__law_chain : FuncData
  F__law_chain : Fun K "_law_chain" "_law_chain" st__law_chain f__law_chain fd__law_chain
  b__law_chain : Binds K fd__law_chain ["_law_source_here", "_law_last", "_law_most", "_law_far"] []
  g__law_chain : mg "_law_chain" = some (.ref f__law_chain)
  f__law_below : Addr
  fd__law_below : FuncData
  F__law_below : Fun K "_law_below" "_law_below" st__law_below f__law_below fd__law_below
  b__law_below : Binds K fd__law_below ["_law_one", "_law_other"] []
  g__law_below : mg "_law_below" = some (.ref f__law_below)
  f__law_near : Addr
  fd__law_near : FuncData
  F__law_near : Fun K "_law_near" "_law_near" st__law_near f__law_near fd__law_near
  b__law_near : Binds K fd__law_near ["_law_source_here", "_law_one"] []
  g__law_near : mg "_law_near" = some (.ref f__law_near)
  f__law_row_right : Addr
  fd__law_row_right : FuncData
  F__law_row_right : Fun K "_law_row_right" "_law_row_right" st__law_row_right f__law_row_right fd__law_row_right
  b__law_row_right : Binds K fd__law_row_right ["_law_row", "_law_steps"] []
  g__law_row_right : mg "_law_row_right" = some (.ref f__law_row_right)
  f__law_right : Addr
  fd__law_right : FuncData
  F__law_right : Fun K "_law_right" "_law_right" st__law_right f__law_right fd__law_right
  b__law_right : Binds K fd__law_right ["_law_source_here"] []
  g__law_right : mg "_law_right" = some (.ref f__law_right)
  f_law : Addr
  fd_law : FuncData
  F_law : Fun K "law" "law" st_law f_law fd_law
  b_law : Binds K fd_law ["_law_script"] []
  g_law : mg "law" = some (.ref f_law)
  n_abs : mg "abs" = none
  n_all : mg "all" = none
  n_bool : mg "bool" = none
  n_int : mg "int" = none
  n_isinstance : mg "isinstance" = none
  n_len : mg "len" = none
  n_max : mg "max" = none
  n_min : mg "min" = none
  n_range : mg "range" = none
  n_sorted : mg "sorted" = none
  n_str : mg "str" = none
  n_tuple : mg "tuple" = none
  ra_BY_RULE : Addr
  c_BY_RULE : mg "BY_RULE" = some (.ref ra_BY_RULE)
  k_BY_RULE : ∀ ru : Ru, ∃ v, KDct K w ra_BY_RULE ru.s v ∧ ∀ F, Rp K F v (tab_BY_RULE ru)
  u_DOWN : Value
  w_DOWN : V
  c_DOWN : mg "DOWN" = some u_DOWN
  v_DOWN : RelV w_DOWN u_DOWN
  r_DOWN : ∀ F, Rp K F w_DOWN (.str "down")
  u_HALF_EVEN : Value
  w_HALF_EVEN : V
  c_HALF_EVEN : mg "HALF_EVEN" = some u_HALF_EVEN
  v_HALF_EVEN : RelV w_HALF_EVEN u_HALF_EVEN
  r_HALF_EVEN : ∀ F, Rp K F w_HALF_EVEN (.str "half_even")
  u_HALF_UP : Value
  w_HALF_UP : V
  c_HALF_UP : mg "HALF_UP" = some u_HALF_UP
  v_HALF_UP : RelV w_HALF_UP u_HALF_UP
  r_HALF_UP : ∀ F, Rp K F w_HALF_UP (.str "half_up")
  u_MOST_STEPS : Value
  w_MOST_STEPS : V
  c_MOST_STEPS : mg "MOST_STEPS" = some u_MOST_STEPS
  v_MOST_STEPS : RelV w_MOST_STEPS u_MOST_STEPS
  r_MOST_STEPS : ∀ F, Rp K F w_MOST_STEPS (.int 12)
  u_MOST_WIDTH : Value
  w_MOST_WIDTH : V
  c_MOST_WIDTH : mg "MOST_WIDTH" = some u_MOST_WIDTH
  v_MOST_WIDTH : RelV w_MOST_WIDTH u_MOST_WIDTH
  r_MOST_WIDTH : ∀ F, Rp K F w_MOST_WIDTH (.int 100)
  u_ODD : Value
  w_ODD : V
  c_ODD : mg "ODD" = some u_ODD
  v_ODD : RelV w_ODD u_ODD
  r_ODD : ∀ F, Rp K F w_ODD (.str "odd")
  u_PAIR_cells : Value
  w_PAIR_cells : V
  c_PAIR_cells : mg "PAIR_cells" = some u_PAIR_cells
  v_PAIR_cells : RelV w_PAIR_cells u_PAIR_cells
  r_PAIR_cells : ∀ F, Rp K F w_PAIR_cells (.int 2)
  u_PAIR_chains : Value
  w_PAIR_chains : V
  c_PAIR_chains : mg "PAIR_chains" = some u_PAIR_chains
  v_PAIR_chains : RelV w_PAIR_chains u_PAIR_chains
  r_PAIR_chains : ∀ F, Rp K F w_PAIR_chains (.int 2)
  u_RULES : Value
  w_RULES : V
  c_RULES : mg "RULES" = some u_RULES
  v_RULES : RelV w_RULES u_RULES
  r_RULES : ∀ F, Rp K F w_RULES (.tuple [(.str "down"), (.str "half_down"), (.str "half_even"), (.str "half_up"), (.str "odd"), (.str "up")])
  u_UP : Value
  w_UP : V
  c_UP : mg "UP" = some u_UP
  v_UP : RelV w_UP u_UP
  r_UP : ∀ F, Rp K F w_UP (.str "up")
def b_is_int : DS :=
  (dRet (dAndV (dIsi "int" (dVar 0)) (dAndV (dNotV (dIsi "bool" (dVar 0))) (dBin oGe (dVar 0) (dVar 1)))))
/-- value is an int, no bool, at least m -/
def isInt (d : Da) (m : Int) : Bool := match d with
  | .int i => decide (m ≤ i)
  | _ => false
def fs_is_int : FSp := fun rs fu post => ∃ d m, rs = [.val d, .val (.int m)] ∧ post (.val (.bool (isInt d m))) fu
theorem p_is_int (rs : List Rv) (fu : Option Nat) (post : Rr → Option Nat → Prop) (hl : rs.length = 2) (h : fs_is_int rs fu post) : b_is_int ⟨fun g => post (.val .none) g.fu, fun r g => post r g.fu, fun _ => False, fun _ => False⟩ (ent N_is_int rs fu) := by
  obtain ⟨d, m, rfl, h⟩ := h
  cases d <;> (simp_arith [b_is_int]; simp_all [isInt, isTy])
theorem isInt_some {d : Da} {m : Int} (h : isInt d m = true) : ∃ i, d = .int i ∧ m ≤ i := by
  cases d with
  | int i => exact ⟨i, rfl, of_decide_eq_true h⟩
  | _ => cases h
section
variable {P : Program} {w : World} {K : Fg} {mg : Str → Option Value} {base : Heap}
theorem d_is_int (T : Tx w K mg) {cdv : Value} {A : Around} {outer : List Env} {s : Shared} {H : Hp} {E : XK} (hr : Room 0 (A.deeper (envOfC "is_int" (defScope st_is_int) s.heap.objs.size T.f_is_int cdv))) (hgd : (A.deeper (envOfC "is_int" (defScope st_is_int) s.heap.objs.size T.f_is_int cdv)).guards = some []) :
    PSs (cxOf CX0 P w K mg base N_is_int "is_int" (defScope st_is_int) T.f_is_int cdv A outer s H E).nox (defBody st_is_int) (upS K W0 b_is_int) :=
  (ss_one (s_ret (e_and (e_isi kit_int (by rfl) T.n_isinstance (e_var 0 (pv 0)) (c_ty (by rfl) T.n_int (by decide +kernel))) (e_and (e_not (e_isi kit_bool (by rfl) T.n_isinstance (e_var 0 (pv 0)) (c_ty (by rfl) T.n_bool (by decide +kernel)))) (e_one (e_ge (e_var 0 (pv 0)) (e_var 1 (pv 1))))))))
theorem ok_is_int (T : Tx w K mg) : Fn P w K mg base CX0 1 T.f_is_int T.fd_is_int ["value", "least"] (lift K 2 fs_is_int) := fn_data T.F_is_int sc_is_int b_is_int (fun _ _ _ _ _ _ hr hgd => d_is_int T hr hgd) p_is_int
end
def b_common_divisor : DS :=
  (dSeq (dWhile (dTest (dBin fNe (dVar 1) (dC (.int 0))))
    (dPar 0 1 (dVar 1) (dBin oMod (dVar 0) (dVar 1))))
  (dRet (dVar 0)))
def fs_common_divisor : FSp := fun rs fu post => ∃ a b : Int, rs = [.val (.int a), .val (.int b)] ∧ 0 ≤ a ∧ 0 ≤ b ∧ post (.val (.int (Int.gcd a b))) fu
theorem p_common_divisor (rs : List Rv) (fu : Option Nat) (post : Rr → Option Nat → Prop) (hl : rs.length = 2) (h : fs_common_divisor rs fu post) : b_common_divisor ⟨fun g => post (.val .none) g.fu, fun r g => post r g.fu, fun _ => False, fun _ => False⟩ (ent N_common_divisor rs fu) := by
  obtain ⟨a, b, rfl, ha, hb, h⟩ := h
  simp_arith [b_common_divisor]
  refine ⟨fun m g => ∃ x y : Int, g = ⟨[some (.val (.int x)), some (.val (.int y))], fu, fu.isNone⟩ ∧ 0 ≤ x ∧ 0 ≤ y ∧ y.toNat = m ∧ Int.gcd x y = Int.gcd a b, ⟨b.toNat, a, b, rfl, ha, hb, rfl, rfl⟩, fun m g hg => ?_⟩
  obtain ⟨x, y, rfl, hx, hy, rfl, e⟩ := hg
  simp_arith [Nat.zero_add]
  refine ⟨fun hne => ?_, fun heq => ?_⟩
  · have hy0 : 0 < y := by omega
    refine ⟨hy0, (x % y).toNat, ?_, y, x % y, rfl, hy, Int.emod_nonneg _ (by omega), rfl, by rw [gcd_step hx hy0, e]⟩
    have := Int.emod_lt_of_pos x hy0
    have := Int.emod_nonneg x (show y ≠ 0 by omega)
    omega
  · subst heq
    rw [Int.gcd_zero_right] at e
    have : x = ((Int.gcd a b : Nat) : Int) := by omega
    rw [this]
    exact h
section
variable {P : Program} {w : World} {K : Fg} {mg : Str → Option Value} {base : Heap}
theorem d_common_divisor (T : Tx w K mg) {cdv : Value} {A : Around} {outer : List Env} {s : Shared} {H : Hp} {E : XK} (hr : Room 0 (A.deeper (envOfC "common_divisor" (defScope st_common_divisor) s.heap.objs.size T.f_common_divisor cdv))) (hgd : (A.deeper (envOfC "common_divisor" (defScope st_common_divisor) s.heap.objs.size T.f_common_divisor cdv)).guards = some []) :
    PSs (cxOf CX0 P w K mg base N_common_divisor "common_divisor" (defScope st_common_divisor) T.f_common_divisor cdv A outer s H E).nox (defBody st_common_divisor) (upS K W0 b_common_divisor) :=
  (ss_cons (s_while PassesOwn.never (t_ne hr.units (e_var 1 (pv 1)) e_int) (ss_one (s_par (i := 0) (j := 1) rfl sc_common_divisor.nd rfl rfl (by decide) rfl rfl (e_var 1 (pv 1)) (e_mod (e_var 0 (pv 0)) (e_var 1 (pv 1))))))
    (ss_one (s_ret (e_var 0 (pv 0)))))
theorem ok_common_divisor (T : Tx w K mg) : Fn P w K mg base CX0 1 T.f_common_divisor T.fd_common_divisor ["one", "other"] (lift K 2 fs_common_divisor) := fn_data T.F_common_divisor sc_common_divisor b_common_divisor (fun _ _ _ _ _ _ hr hgd => d_common_divisor T hr hgd) p_common_divisor
end
def b_lowest : DS :=
  (dSeq (dAsg (dCall 2 fs_common_divisor (dCons (dVar 0) (dCons (dVar 1) dNil))) (dN 2))
  (dRet (dTup (dCons (dBin oDiv (dVar 0) (dVar 2)) (dCons (dBin oDiv (dVar 1) (dVar 2)) dNil)))))
def fs_lowest : FSp := fun rs fu post => ∃ n d : Int, rs = [.val (.int n), .val (.int d)] ∧ 0 ≤ n ∧ 0 < d ∧ Bn 9000 d ∧ post (.val (lowD n d)) fu
theorem p_lowest (rs : List Rv) (fu : Option Nat) (post : Rr → Option Nat → Prop) (hl : rs.length = 2) (h : fs_lowest rs fu post) : b_lowest ⟨fun g => post (.val .none) g.fu, fun r g => post r g.fu, fun _ => False, fun _ => False⟩ (ent N_lowest rs fu) := by
  obtain ⟨n, d, rfl, hn, hd, hs, h⟩ := h
  simp_arith [b_lowest, fs_common_divisor]
  refine ⟨n, d, rfl, hn, by omega, gcd_divW hd hs, gcd_divW hd hs, h⟩
section
variable {P : Program} {w : World} {K : Fg} {mg : Str → Option Value} {base : Heap}
theorem d_lowest (T : Tx w K mg) {cdv : Value} {A : Around} {outer : List Env} {s : Shared} {H : Hp} {E : XK} (hr : Room 1 (A.deeper (envOfC "lowest" (defScope st_lowest) s.heap.objs.size T.f_lowest cdv))) (hgd : (A.deeper (envOfC "lowest" (defScope st_lowest) s.heap.objs.size T.f_lowest cdv)).guards = some []) :
    PSs (cxOf CX0 P w K mg base N_lowest "lowest" (defScope st_lowest) T.f_lowest cdv A outer s H E).nox (defBody st_lowest) (upS K W0 b_lowest) :=
  (ss_cons (s_set (i := 2) sc_lowest.nd rfl (.inl rfl) (e_call (ok_common_divisor T) (hr.mono (by decide)) hgd (by rfl) T.g_common_divisor T.F_common_divisor.kp T.b_common_divisor pass0 (a_cons (e_var 0 (pv 0)) (a_cons (e_var 1 (pv 1)) a_nil))))
    (ss_one (s_ret (e_tup (a_cons (e_div (e_var 0 (pv 0)) (e_var 2 (pv 2))) (a_cons (e_div (e_var 1 (pv 1)) (e_var 2 (pv 2))) a_nil))))))
theorem ok_lowest (T : Tx w K mg) : Fn P w K mg base CX0 2 T.f_lowest T.fd_lowest ["n", "d"] (lift K 2 fs_lowest) := fn_data T.F_lowest sc_lowest b_lowest (fun _ _ _ _ _ _ hr hgd => d_lowest T hr hgd) p_lowest
end
def b_is_number : DS :=
  (dSeq (dIfS (dOrT (dNotT (dTest (dIsi "tuple" (dVar 0)))) (dOrT (dTest (dBin fNe (dCB cLen (dCons (dVar 0) dNil)) (dC (.int 2)))) (dNotT (dTest (dCB cAll (dCons (dFz (dLc [1] (dItems (dVar 0)) (dN 1) dYes (dCall 2 fs_is_int (dCons (dVar 1) (dCons (dC (.int 1)) dNil))))) dNil))))))
    (dRet (dC (.bool false)))
    dNext)
  (dRet (dBin fEq (dCall 2 fs_common_divisor (dCons (dIx (dVar 0) (dC (.int 0))) (dCons (dIx (dVar 0) (dC (.int 1))) dNil))) (dC (.int 1)))))
/-- a number: two ints from 1 on without a common divisor -/
def isNum : Da → Bool
  | .tuple [x, y] => isInt x 1 && isInt y 1 && (match x, y with | .int n, .int d => decide (Int.gcd n d = 1) | _, _ => false)
  | _ => false
theorem isNum_ne {xs : List Da} (h : xs.length ≠ 2) : isNum (.tuple xs) = false := by
  match xs with
  | [] => rfl
  | [_] => rfl
  | [_, _] => exact absurd rfl h
  | _ :: _ :: _ :: _ => rfl
theorem isNum_num {n d : Int} (hn : 1 ≤ n) (hd : 1 ≤ d) (h : Int.gcd n d = 1) : isNum (num n d) = true := by
  simp [isNum, isInt, hn, hd, h]
def fs_is_number : FSp := fun rs fu post => ∃ v, rs = [.val v] ∧ post (.val (.bool (isNum v))) fu
theorem p_is_number (rs : List Rv) (fu : Option Nat) (post : Rr → Option Nat → Prop) (hl : rs.length = 1) (h : fs_is_number rs fu post) : b_is_number ⟨fun g => post (.val .none) g.fu, fun r g => post r g.fu, fun _ => False, fun _ => False⟩ (ent N_is_number rs fu) := by
  obtain ⟨v, rfl, h⟩ := h
  cases v with
  | tuple xs =>
    simp_arith [b_is_number]
    refine ⟨fun z => (by simp [isTy] at z), fun _ => ⟨fun z => ?_, fun z => ?_⟩⟩
    · have e : xs.length ≠ 2 := by omega
      rw [isNum_ne e] at h
      exact h
    · have e : xs.length = 2 := by omega
      match xs, e with
      | [x, y], _ =>
        simp_arith [fs_is_int]
        refine ⟨x, 1, rfl, by decide, y, 1, rfl, by decide, ?_⟩
        simp only [boolsD, Option.map_some]
        simp only [isNum] at h
        refine ⟨fun hf => ?_, fun ht => ?_⟩
        · have : (isInt x 1 && isInt y 1) = false := by
            revert hf
            cases isInt x 1 <;> cases isInt y 1 <;> simp
          rw [this, Bool.false_and] at h
          exact h
        · have h12 : isInt x 1 = true ∧ isInt y 1 = true := by simpa using ht
          obtain ⟨n, rfl, hn⟩ := isInt_some h12.1
          obtain ⟨d, rfl, hd⟩ := isInt_some h12.2
          refine ⟨n, d, rfl, by omega, by omega, rfl, rfl, ?_⟩
          have e : ((PyData.int ((Int.gcd n d : Nat) : Int)).eqv (PyData.int 1)) = decide (Int.gcd n d = 1) := by
            simp only [PyData.eqv]
            rw [Bool.eq_iff_iff]
            simp
            omega
          rw [e]
          rw [h12.1, h12.2] at h
          simpa using h
  | _ => simp_arith [b_is_number]; simpa [isTy, isNum] using h
section
variable {P : Program} {w : World} {K : Fg} {mg : Str → Option Value} {base : Heap}
theorem d_is_number (T : Tx w K mg) {cdv : Value} {A : Around} {outer : List Env} {s : Shared} {H : Hp} {E : XK} (hr : Room 1 (A.deeper (envOfC "is_number" (defScope st_is_number) s.heap.objs.size T.f_is_number cdv))) (hgd : (A.deeper (envOfC "is_number" (defScope st_is_number) s.heap.objs.size T.f_is_number cdv)).guards = some []) :
    PSs (cxOf CX0 P w K mg base N_is_number "is_number" (defScope st_is_number) T.f_is_number cdv A outer s H E).nox (defBody st_is_number) (upS K W0 b_is_number) :=
  (ss_cons (s_if (PW.pt (w_or (t_not (t_val (e_isi kit_tuple (by rfl) T.n_isinstance (e_var 0 (pv 0)) (c_ty (by rfl) T.n_tuple (by decide +kernel))))) (w_or (t_ne hr.units (e_len (by rfl) T.n_len (a_cons (e_var 0 (pv 0)) a_nil)) (e_glob (by rfl) T.c_PAIR_cells T.v_PAIR_cells T.r_PAIR_cells)) (w_or1 (t_not (t_val (e_all rfl (by rfl) T.n_all (a_cons (e_fz (e_lc (own := [("part", 1)]) rfl sc_is_number.nd (i_items (e_var 0 (pv 0))) (blkOk_by (own := [("part", 1)]) (N := N_is_number) (sc := defScope st_is_number) (by decide +kernel)) (fun _ _ _ _ _ => (gw_name rfl (pg_name (i := 1) sc_is_number.nd rfl (.inl rfl)) (by decide))) (fun _ _ _ _ _ => ts_yes) (fun _ _ _ _ _ => (e_call (ok_is_int T) (hr.mono (by decide)) hgd (by rfl) T.g_is_int T.F_is_int.kp T.b_is_int pass0 (a_cons (e_var 1 (pv 1)) (a_cons e_int a_nil)))))) a_nil)))))))) (ss_one (s_ret e_bl)) ss_nil)
    (ss_one (s_ret (e_eq hr.units (e_call (ok_common_divisor T) (hr.mono (by decide)) hgd (by rfl) T.g_common_divisor T.F_common_divisor.kp T.b_common_divisor pass0 (a_cons (e_ix (e_var 0 (pv 0)) e_int) (a_cons (e_ix (e_var 0 (pv 0)) e_int) a_nil))) e_int))))
theorem ok_is_number (T : Tx w K mg) : Fn P w K mg base CX0 2 T.f_is_number T.fd_is_number ["value"] (lift K 1 fs_is_number) := fn_data T.F_is_number sc_is_number b_is_number (fun _ _ _ _ _ _ hr hgd => d_is_number T hr hgd) p_is_number
end
def b_is_width : DS :=
  (dRet (dAndV (dCall 2 fs_is_int (dCons (dVar 0) (dCons (dC (.int 1)) dNil))) (dBin oLe (dVar 0) (dC (.int 100)))))
def isWid (v : Da) : Bool := isInt v 1 && (match v with | .int i => decide (i ≤ 100) | _ => false)
theorem isWid_int {w : Int} (h1 : 1 ≤ w) (h2 : w ≤ 100) : isWid (.int w) = true := by simp [isWid, isInt, h1, h2]
def fs_is_width : FSp := fun rs fu post => ∃ v, rs = [.val v] ∧ post (.val (.bool (isWid v))) fu
theorem p_is_width (rs : List Rv) (fu : Option Nat) (post : Rr → Option Nat → Prop) (hl : rs.length = 1) (h : fs_is_width rs fu post) : b_is_width ⟨fun g => post (.val .none) g.fu, fun r g => post r g.fu, fun _ => False, fun _ => False⟩ (ent N_is_width rs fu) := by
  obtain ⟨v, rfl, h⟩ := h
  simp_arith [b_is_width, fs_is_int]
  refine ⟨v, 1, rfl, fun ht => ?_, fun hf => ?_⟩
  · obtain ⟨n, rfl, hn⟩ := isInt_some ht
    simpa [isWid, ht] using h
  · simpa [isWid, hf] using h
section
variable {P : Program} {w : World} {K : Fg} {mg : Str → Option Value} {base : Heap}
theorem d_is_width (T : Tx w K mg) {cdv : Value} {A : Around} {outer : List Env} {s : Shared} {H : Hp} {E : XK} (hr : Room 1 (A.deeper (envOfC "is_width" (defScope st_is_width) s.heap.objs.size T.f_is_width cdv))) (hgd : (A.deeper (envOfC "is_width" (defScope st_is_width) s.heap.objs.size T.f_is_width cdv)).guards = some []) :
    PSs (cxOf CX0 P w K mg base N_is_width "is_width" (defScope st_is_width) T.f_is_width cdv A outer s H E).nox (defBody st_is_width) (upS K W0 b_is_width) :=
  (ss_one (s_ret (e_and (e_call (ok_is_int T) (hr.mono (by decide)) hgd (by rfl) T.g_is_int T.F_is_int.kp T.b_is_int pass0 (a_cons (e_var 0 (pv 0)) (a_cons e_int a_nil))) (e_one (e_le (e_var 0 (pv 0)) (e_glob (by rfl) T.c_MOST_WIDTH T.v_MOST_WIDTH T.r_MOST_WIDTH))))))
theorem ok_is_width (T : Tx w K mg) : Fn P w K mg base CX0 2 T.f_is_width T.fd_is_width ["value"] (lift K 1 fs_is_width) := fn_data T.F_is_width sc_is_width b_is_width (fun _ _ _ _ _ _ hr hgd => d_is_width T hr hgd) p_is_width
end
def b_check_number : DS :=
  (dIfS (dNotT (dTest (dCall 1 fs_is_number (dCons (dVar 0) dNil))))
    dNever
    dNext)
theorem _root_.Z.NuB.is {a : Nat} {n d : Int} (h : NuB a n d) : isNum (num n d) = true := isNum_num (by have := h.nu.n0; omega) (by have := h.nu.d0; omega) h.nu.g
def fs_check_number : FSp := fun rs fu post => ∃ v, rs = [.val v] ∧ isNum v = true ∧ post (.val .none) fu
theorem p_check_number (rs : List Rv) (fu : Option Nat) (post : Rr → Option Nat → Prop) (hl : rs.length = 1) (h : fs_check_number rs fu post) : b_check_number ⟨fun g => post (.val .none) g.fu, fun r g => post r g.fu, fun _ => False, fun _ => False⟩ (ent N_check_number rs fu) := by
  obtain ⟨v, rfl, hv, h⟩ := h
  simp_arith [b_check_number, fs_is_number]
  refine ⟨v, rfl, fun z => ?_, fun _ => h⟩
  rw [hv] at z
  exact absurd z (by decide)
section
variable {P : Program} {w : World} {K : Fg} {mg : Str → Option Value} {base : Heap}
theorem d_check_number (T : Tx w K mg) {cdv : Value} {A : Around} {outer : List Env} {s : Shared} {H : Hp} {E : XK} (hr : Room 2 (A.deeper (envOfC "check_number" (defScope st_check_number) s.heap.objs.size T.f_check_number cdv))) (hgd : (A.deeper (envOfC "check_number" (defScope st_check_number) s.heap.objs.size T.f_check_number cdv)).guards = some []) :
    PSs (cxOf CX0 P w K mg base N_check_number "check_number" (defScope st_check_number) T.f_check_number cdv A outer s H E).nox (defBody st_check_number) (upS K W0 b_check_number) :=
  (ss_one (s_if (t_not (t_val (e_call (ok_is_number T) (hr.mono (by decide)) hgd (by rfl) T.g_is_number T.F_is_number.kp T.b_is_number pass0 (a_cons (e_var 0 (pv 0)) a_nil)))) (ss_one s_never) ss_nil))
theorem ok_check_number (T : Tx w K mg) : Fn P w K mg base CX0 3 T.f_check_number T.fd_check_number ["value"] (lift K 1 fs_check_number) := fn_data T.F_check_number sc_check_number b_check_number (fun _ _ _ _ _ _ hr hgd => d_check_number T hr hgd) p_check_number
end
def b_check_width : DS :=
  (dIfS (dNotT (dTest (dCall 1 fs_is_width (dCons (dVar 0) dNil))))
    dNever
    dNext)
def fs_check_width : FSp := fun rs fu post => ∃ v, rs = [.val v] ∧ isWid v = true ∧ post (.val .none) fu
theorem p_check_width (rs : List Rv) (fu : Option Nat) (post : Rr → Option Nat → Prop) (hl : rs.length = 1) (h : fs_check_width rs fu post) : b_check_width ⟨fun g => post (.val .none) g.fu, fun r g => post r g.fu, fun _ => False, fun _ => False⟩ (ent N_check_width rs fu) := by
  obtain ⟨v, rfl, hv, h⟩ := h
  simp_arith [b_check_width, fs_is_width]
  refine ⟨v, rfl, fun z => ?_, fun _ => h⟩
  rw [hv] at z
  exact absurd z (by decide)
section
variable {P : Program} {w : World} {K : Fg} {mg : Str → Option Value} {base : Heap}
theorem d_check_width (T : Tx w K mg) {cdv : Value} {A : Around} {outer : List Env} {s : Shared} {H : Hp} {E : XK} (hr : Room 2 (A.deeper (envOfC "check_width" (defScope st_check_width) s.heap.objs.size T.f_check_width cdv))) (hgd : (A.deeper (envOfC "check_width" (defScope st_check_width) s.heap.objs.size T.f_check_width cdv)).guards = some []) :
    PSs (cxOf CX0 P w K mg base N_check_width "check_width" (defScope st_check_width) T.f_check_width cdv A outer s H E).nox (defBody st_check_width) (upS K W0 b_check_width) :=
  (ss_one (s_if (t_not (t_val (e_call (ok_is_width T) (hr.mono (by decide)) hgd (by rfl) T.g_is_width T.F_is_width.kp T.b_is_width pass0 (a_cons (e_var 0 (pv 0)) a_nil)))) (ss_one s_never) ss_nil))
theorem ok_check_width (T : Tx w K mg) : Fn P w K mg base CX0 3 T.f_check_width T.fd_check_width ["value"] (lift K 1 fs_check_width) := fn_data T.F_check_width sc_check_width b_check_width (fun _ _ _ _ _ _ hr hgd => d_check_width T hr hgd) p_check_width
end
def b_scaled : DS :=
  (dSeq (dAsg (dVar 0) (dT 2 (dTc (dN 2) (dTc (dN 3) dTn))))
  (dRet (dTup (dCons (dBin oShl (dVar 2) (dCB oMax (dCons (dVar 1) (dCons (dC (.int 0)) dNil)))) (dCons (dBin oShl (dVar 3) (dCB oMax (dCons (dBin oSub (dC (.int 0)) (dVar 1)) (dCons (dC (.int 0)) dNil)))) dNil)))))
def fs_scaled : FSp := fun rs fu post => ∃ n d e : Int, rs = [.val (num n d), .val (.int e)] ∧ Bn 100000 n ∧ Bn 100000 d ∧ -100000 ≤ e ∧ e ≤ 100000 ∧ post (.val (nm (scI n d e))) fu
theorem p_scaled (rs : List Rv) (fu : Option Nat) (post : Rr → Option Nat → Prop) (hl : rs.length = 2) (h : fs_scaled rs fu post) : b_scaled ⟨fun g => post (.val .none) g.fu, fun r g => post r g.fu, fun _ => False, fun _ => False⟩ (ent N_scaled rs fu) := by
  obtain ⟨n, d, e, rfl, hn, hd, h1, h2, h⟩ := h
  simp_arith [b_scaled]
  have b1 := max0le (e := e) (b := 100000) h2 (by decide)
  have b2 := max0le (e := 0 - e) (b := 100000) (by omega) (by decide)
  refine ⟨shlX 100000 hn (max0nn _) (by omega), shlX 100000 hd (max0nn _) (by omega), ?_⟩
  rw [max0, max0n]
  exact h
section
variable {P : Program} {w : World} {K : Fg} {mg : Str → Option Value} {base : Heap}
theorem d_scaled (T : Tx w K mg) {cdv : Value} {A : Around} {outer : List Env} {s : Shared} {H : Hp} {E : XK} (hr : Room 0 (A.deeper (envOfC "scaled" (defScope st_scaled) s.heap.objs.size T.f_scaled cdv))) (hgd : (A.deeper (envOfC "scaled" (defScope st_scaled) s.heap.objs.size T.f_scaled cdv)).guards = some []) :
    PSs (cxOf CX0 P w K mg base N_scaled "scaled" (defScope st_scaled) T.f_scaled cdv A outer s H E).nox (defBody st_scaled) (upS K W0 b_scaled) :=
  (ss_cons (s_asg (e_var 0 (pv 0)) (g_tup rfl (gs_cons (g_name (pg_name (i := 2) sc_scaled.nd rfl (.inl rfl))) (gs_cons (g_name (pg_name (i := 3) sc_scaled.nd rfl (.inl rfl))) gs_nil))))
    (ss_one (s_ret (e_tup (a_cons (e_shl (e_var 2 (pv 2)) (e_max rfl (by rfl) T.n_max (a_cons (e_var 1 (pv 1)) (a_cons e_int a_nil)))) (a_cons (e_shl (e_var 3 (pv 3)) (e_max rfl (by rfl) T.n_max (a_cons (e_sub e_int (e_var 1 (pv 1))) (a_cons e_int a_nil)))) a_nil))))))
theorem ok_scaled (T : Tx w K mg) : Fn P w K mg base CX0 1 T.f_scaled T.fd_scaled ["number", "e"] (lift K 2 fs_scaled) := fn_data T.F_scaled sc_scaled b_scaled (fun _ _ _ _ _ _ hr hgd => d_scaled T hr hgd) p_scaled
end
def b_power_number : DS :=
  (dSeq (dAsg (dCall 2 fs_scaled (dCons (dTup (dCons (dVar 0) (dCons (dC (.int 1)) dNil))) (dCons (dVar 1) dNil))) (dT 2 (dTc (dN 2) (dTc (dN 3) dTn))))
  (dRet (dCall 2 fs_lowest (dCons (dVar 2) (dCons (dVar 3) dNil)))))
def fs_power_number : FSp := fun rs fu post => ∃ k e : Int, rs = [.val (.int k), .val (.int e)] ∧ 0 ≤ k ∧ Bn 5000 k ∧ -8000 ≤ e ∧ e ≤ 8000 ∧ post (.val (nm (powI k e))) fu
theorem p_power_number (rs : List Rv) (fu : Option Nat) (post : Rr → Option Nat → Prop) (hl : rs.length = 2) (h : fs_power_number rs fu post) : b_power_number ⟨fun g => post (.val .none) g.fu, fun r g => post r g.fu, fun _ => False, fun _ => False⟩ (ent N_power_number rs fu) := by
  obtain ⟨k, e, rfl, h0, hk, h1, h2, h⟩ := h
  simp_arith [b_power_number, fs_scaled, fs_lowest]
  refine ⟨k, 1, e, rfl, hk.mono (by decide), Bn.small (by decide) (by decide) (by decide), by omega, by omega, ?_⟩
  refine ⟨_, _, rfl, Int.mul_nonneg h0 (Int.le_of_lt (pow2_pos _)), ?_, ?_, h⟩
  · rw [scI, Int.one_mul]; exact pow2_pos _
  · rw [scI, Int.one_mul]
    exact Bn.pow2 (by omega)
section
variable {P : Program} {w : World} {K : Fg} {mg : Str → Option Value} {base : Heap}
theorem d_power_number (T : Tx w K mg) {cdv : Value} {A : Around} {outer : List Env} {s : Shared} {H : Hp} {E : XK} (hr : Room 2 (A.deeper (envOfC "power_number" (defScope st_power_number) s.heap.objs.size T.f_power_number cdv))) (hgd : (A.deeper (envOfC "power_number" (defScope st_power_number) s.heap.objs.size T.f_power_number cdv)).guards = some []) :
    PSs (cxOf CX0 P w K mg base N_power_number "power_number" (defScope st_power_number) T.f_power_number cdv A outer s H E).nox (defBody st_power_number) (upS K W0 b_power_number) :=
  (ss_cons (s_asg (e_call (ok_scaled T) (hr.mono (by decide)) hgd (by rfl) T.g_scaled T.F_scaled.kp T.b_scaled pass0 (a_cons (e_tup (a_cons (e_var 0 (pv 0)) (a_cons e_int a_nil))) (a_cons (e_var 1 (pv 1)) a_nil))) (g_tup rfl (gs_cons (g_name (pg_name (i := 2) sc_power_number.nd rfl (.inl rfl))) (gs_cons (g_name (pg_name (i := 3) sc_power_number.nd rfl (.inl rfl))) gs_nil))))
    (ss_one (s_ret (e_call (ok_lowest T) (hr.mono (by decide)) hgd (by rfl) T.g_lowest T.F_lowest.kp T.b_lowest pass0 (a_cons (e_var 2 (pv 2)) (a_cons (e_var 3 (pv 3)) a_nil))))))
theorem ok_power_number (T : Tx w K mg) : Fn P w K mg base CX0 3 T.f_power_number T.fd_power_number ["k", "e"] (lift K 2 fs_power_number) := fn_data T.F_power_number sc_power_number b_power_number (fun _ _ _ _ _ _ hr hgd => d_power_number T hr hgd) p_power_number
end
def b_cell_of : DS :=
  (dSeq (dAsg (dBin oSub (dBin oSub (dBits (dIx (dVar 0) (dC (.int 0)))) (dBits (dIx (dVar 0) (dC (.int 1))))) (dVar 1)) (dN 2))
  (dSeq (dAsg (dCall 2 fs_scaled (dCons (dVar 0) (dCons (dBin oSub (dC (.int 0)) (dVar 2)) dNil))) (dT 2 (dTc (dN 3) (dTc (dN 4) dTn))))
  (dSeq (dIfS (dTest (dBin oGe (dBin oDiv (dVar 3) (dVar 4)) (dBin oShl (dC (.int 1)) (dVar 1))))
    (dSeq (dAug 2 oAddI (dC (.int 1)))
  (dAsg (dCall 2 fs_scaled (dCons (dVar 0) (dCons (dBin oSub (dC (.int 0)) (dVar 2)) dNil))) (dT 2 (dTc (dN 3) (dTc (dN 4) dTn)))))
    dNext)
  (dRet (dTup (dCons (dBin oDiv (dVar 3) (dVar 4)) (dCons (dVar 2) dNil)))))))
def fs_cell_of : FSp := fun rs fu post => ∃ n d w : Int, rs = [.val (num n d), .val (.int w)] ∧ 0 < n ∧ Bn 4000 n ∧ 0 < d ∧ Bn 4000 d ∧ 1 ≤ w ∧ w ≤ 100 ∧ post (.val (nm (cellI n d w))) fu
theorem p_cell_of (rs : List Rv) (fu : Option Nat) (post : Rr → Option Nat → Prop) (hl : rs.length = 2) (h : fs_cell_of rs fu post) : b_cell_of ⟨fun g => post (.val .none) g.fu, fun r g => post r g.fu, fun _ => False, fun _ => False⟩ (ent N_cell_of rs fu) := by
  obtain ⟨n, d, w, rfl, hn, bn, hd, bd, h1, h2, h⟩ := h
  have e1 := bl_le bn
  have e2 := bl_le bd
  have e3 := bl_nn n
  have e4 := bl_nn d
  simp_arith [b_cell_of, fs_scaled]
  change ∃ n_1 d_1 e, [Rv.val (num n d), Rv.val (PyData.int (0 - (bl n - bl d - w)))] = _ ∧ _
  refine ⟨n, d, _, rfl, bn.mono (by decide), bd.mono (by decide), by omega, by omega, scI_div hd bd (by omega) (by decide), shlX 64 (Bn.small (by decide) (by decide) (by decide)) (by omega) (by omega), fun ht => ?_, fun hf => ?_⟩
  · change ∃ n_1 d_1 e, [Rv.val (num n d), Rv.val (PyData.int (0 - (bl n - bl d - w + 1)))] = _ ∧ _
    refine ⟨n, d, _, rfl, bn.mono (by decide), bd.mono (by decide), by omega, by omega, scI_div hd bd (by omega) (by decide), ?_⟩
    have e : cellI n d w = ((scI n d (0 - (bl n - bl d - w + 1))).1 / (scI n d (0 - (bl n - bl d - w + 1))).2, bl n - bl d - w + 1) := if_pos ht
    rw [e] at h
    exact h
  · refine ⟨scI_div hd bd (by omega) (by decide), ?_⟩
    have e : cellI n d w = ((scI n d (0 - (bl n - bl d - w))).1 / (scI n d (0 - (bl n - bl d - w))).2, bl n - bl d - w) := if_neg hf
    rw [e] at h
    exact h
section
variable {P : Program} {w : World} {K : Fg} {mg : Str → Option Value} {base : Heap}
theorem d_cell_of (T : Tx w K mg) {cdv : Value} {A : Around} {outer : List Env} {s : Shared} {H : Hp} {E : XK} (hr : Room 1 (A.deeper (envOfC "cell_of" (defScope st_cell_of) s.heap.objs.size T.f_cell_of cdv))) (hgd : (A.deeper (envOfC "cell_of" (defScope st_cell_of) s.heap.objs.size T.f_cell_of cdv)).guards = some []) :
    PSs (cxOf CX0 P w K mg base N_cell_of "cell_of" (defScope st_cell_of) T.f_cell_of cdv A outer s H E).nox (defBody st_cell_of) (upS K W0 b_cell_of) :=
  (ss_cons (s_set (i := 2) sc_cell_of.nd rfl (.inl rfl) (e_sub (e_sub (e_bits (e_ix (e_var 0 (pv 0)) e_int)) (e_bits (e_ix (e_var 0 (pv 0)) e_int))) (e_var 1 (pv 1))))
    (ss_cons (s_asg (e_call (ok_scaled T) (hr.mono (by decide)) hgd (by rfl) T.g_scaled T.F_scaled.kp T.b_scaled pass0 (a_cons (e_var 0 (pv 0)) (a_cons (e_sub e_int (e_var 2 (pv 2))) a_nil))) (g_tup rfl (gs_cons (g_name (pg_name (i := 3) sc_cell_of.nd rfl (.inl rfl))) (gs_cons (g_name (pg_name (i := 4) sc_cell_of.nd rfl (.inl rfl))) gs_nil))))
    (ss_cons (s_if (t_ge (e_div (e_var 3 (pv 3)) (e_var 4 (pv 4))) (e_shl e_int (e_var 1 (pv 1)))) (ss_cons (s_aug (i := 2) sc_cell_of.nd rfl (.inl rfl) e_int iop_add ok_I0)
    (ss_one (s_asg (e_call (ok_scaled T) (hr.mono (by decide)) hgd (by rfl) T.g_scaled T.F_scaled.kp T.b_scaled pass0 (a_cons (e_var 0 (pv 0)) (a_cons (e_sub e_int (e_var 2 (pv 2))) a_nil))) (g_tup rfl (gs_cons (g_name (pg_name (i := 3) sc_cell_of.nd rfl (.inl rfl))) (gs_cons (g_name (pg_name (i := 4) sc_cell_of.nd rfl (.inl rfl))) gs_nil)))))) ss_nil)
    (ss_one (s_ret (e_tup (a_cons (e_div (e_var 3 (pv 3)) (e_var 4 (pv 4))) (a_cons (e_var 2 (pv 2)) a_nil))))))))
theorem ok_cell_of (T : Tx w K mg) : Fn P w K mg base CX0 2 T.f_cell_of T.fd_cell_of ["number", "width"] (lift K 2 fs_cell_of) := fn_data T.F_cell_of sc_cell_of b_cell_of (fun _ _ _ _ _ _ hr hgd => d_cell_of T hr hgd) p_cell_of
end
def b_position_of : DS :=
  (dSeq (dAsg (dCall 2 fs_cell_of (dCons (dVar 0) (dCons (dVar 1) dNil))) (dT 2 (dTc (dN 2) (dTc (dN 3) dTn))))
  (dSeq (dAsg (dCall 2 fs_scaled (dCons (dVar 0) (dCons (dBin oSub (dC (.int 0)) (dVar 3)) dNil))) (dT 2 (dTc (dN 4) (dTc (dN 5) dTn))))
  (dRet (dCall 2 fs_lowest (dCons (dBin oSub (dVar 4) (dBin oMul (dVar 2) (dVar 5))) (dCons (dVar 5) dNil))))))
def fs_position_of : FSp := fun rs fu post => ∃ n d w : Int, rs = [.val (num n d), .val (.int w)] ∧ 0 < n ∧ Bn 4000 n ∧ 0 < d ∧ Bn 4000 d ∧ 1 ≤ w ∧ w ≤ 100 ∧ post (.val (nm (posI n d w))) fu
theorem p_position_of (rs : List Rv) (fu : Option Nat) (post : Rr → Option Nat → Prop) (hl : rs.length = 2) (h : fs_position_of rs fu post) : b_position_of ⟨fun g => post (.val .none) g.fu, fun r g => post r g.fu, fun _ => False, fun _ => False⟩ (ent N_position_of rs fu) := by
  obtain ⟨n, d, w, rfl, hn, bn, hd, bd, h1, h2, h⟩ := h
  simp_arith [b_position_of, fs_cell_of, fs_scaled, fs_lowest]
  obtain ⟨c1, c2⟩ := cell_e hn bn hd bd h1 h2
  obtain ⟨k1, k2⟩ := cell_kB hn hd h1 h2
  obtain ⟨a0, b0⟩ := scI_pos (f := 0 - (cellI n d w).2) hn hd
  have bb : Bn 9000 (scI n d (0 - (cellI n d w).2)).2 := (shlB bd).mono (by omega)
  refine ⟨n, d, w, rfl, hn, bn, hd, bd, h1, h2, n, d, _, rfl, bn.mono (by decide), bd.mono (by decide), by omega, by omega, mulX 101 9000 k2 bb (by decide), _, _, rfl, ?_, b0, bb, h⟩
  rw [pos_rest hn hd h1]
  exact Int.emod_nonneg _ (by omega)
section
variable {P : Program} {w : World} {K : Fg} {mg : Str → Option Value} {base : Heap}
theorem d_position_of (T : Tx w K mg) {cdv : Value} {A : Around} {outer : List Env} {s : Shared} {H : Hp} {E : XK} (hr : Room 2 (A.deeper (envOfC "position_of" (defScope st_position_of) s.heap.objs.size T.f_position_of cdv))) (hgd : (A.deeper (envOfC "position_of" (defScope st_position_of) s.heap.objs.size T.f_position_of cdv)).guards = some []) :
    PSs (cxOf CX0 P w K mg base N_position_of "position_of" (defScope st_position_of) T.f_position_of cdv A outer s H E).nox (defBody st_position_of) (upS K W0 b_position_of) :=
  (ss_cons (s_asg (e_call (ok_cell_of T) (hr.mono (by decide)) hgd (by rfl) T.g_cell_of T.F_cell_of.kp T.b_cell_of pass0 (a_cons (e_var 0 (pv 0)) (a_cons (e_var 1 (pv 1)) a_nil))) (g_tup rfl (gs_cons (g_name (pg_name (i := 2) sc_position_of.nd rfl (.inl rfl))) (gs_cons (g_name (pg_name (i := 3) sc_position_of.nd rfl (.inl rfl))) gs_nil))))
    (ss_cons (s_asg (e_call (ok_scaled T) (hr.mono (by decide)) hgd (by rfl) T.g_scaled T.F_scaled.kp T.b_scaled pass0 (a_cons (e_var 0 (pv 0)) (a_cons (e_sub e_int (e_var 3 (pv 3))) a_nil))) (g_tup rfl (gs_cons (g_name (pg_name (i := 4) sc_position_of.nd rfl (.inl rfl))) (gs_cons (g_name (pg_name (i := 5) sc_position_of.nd rfl (.inl rfl))) gs_nil))))
    (ss_one (s_ret (e_call (ok_lowest T) (hr.mono (by decide)) hgd (by rfl) T.g_lowest T.F_lowest.kp T.b_lowest pass0 (a_cons (e_sub (e_var 4 (pv 4)) (e_mul (e_var 2 (pv 2)) (e_var 5 (pv 5)))) (a_cons (e_var 5 (pv 5)) a_nil)))))))
theorem ok_position_of (T : Tx w K mg) : Fn P w K mg base CX0 3 T.f_position_of T.fd_position_of ["number", "width"] (lift K 2 fs_position_of) := fn_data T.F_position_of sc_position_of b_position_of (fun _ _ _ _ _ _ hr hgd => d_position_of T hr hgd) p_position_of
end
def b_cell : DS :=
  (dSeq (dDrop (dCall 1 fs_check_number (dCons (dVar 0) dNil)))
  (dSeq (dDrop (dCall 1 fs_check_width (dCons (dVar 1) dNil)))
  (dRet (dCall 2 fs_cell_of (dCons (dVar 0) (dCons (dVar 1) dNil))))))
def fs_cell : FSp := fun rs fu post => ∃ n d w : Int, rs = [.val (num n d), .val (.int w)] ∧ isNum (num n d) = true ∧ 0 < n ∧ Bn 4000 n ∧ 0 < d ∧ Bn 4000 d ∧ 1 ≤ w ∧ w ≤ 100 ∧ post (.val (nm (cellI n d w))) fu
theorem p_cell (rs : List Rv) (fu : Option Nat) (post : Rr → Option Nat → Prop) (hl : rs.length = 2) (h : fs_cell rs fu post) : b_cell ⟨fun g => post (.val .none) g.fu, fun r g => post r g.fu, fun _ => False, fun _ => False⟩ (ent N_cell rs fu) := by
  obtain ⟨n, d, w, rfl, hi, hn, bn, hd, bd, h1, h2, h⟩ := h
  simp_arith [b_cell, fs_check_number, fs_check_width, fs_cell_of]
  exact ⟨_, rfl, hi, _, rfl, isWid_int h1 h2, n, d, w, rfl, hn, bn, hd, bd, h1, h2, h⟩
section
variable {P : Program} {w : World} {K : Fg} {mg : Str → Option Value} {base : Heap}
theorem d_cell (T : Tx w K mg) {cdv : Value} {A : Around} {outer : List Env} {s : Shared} {H : Hp} {E : XK} (hr : Room 3 (A.deeper (envOfC "cell" (defScope st_cell) s.heap.objs.size T.f_cell cdv))) (hgd : (A.deeper (envOfC "cell" (defScope st_cell) s.heap.objs.size T.f_cell cdv)).guards = some []) :
    PSs (cxOf CX0 P w K mg base N_cell "cell" (defScope st_cell) T.f_cell cdv A outer s H E).nox (defBody st_cell) (upS K W0 b_cell) :=
  (ss_cons (s_expr (e_call (ok_check_number T) (hr.mono (by decide)) hgd (by rfl) T.g_check_number T.F_check_number.kp T.b_check_number pass0 (a_cons (e_var 0 (pv 0)) a_nil)))
    (ss_cons (s_expr (e_call (ok_check_width T) (hr.mono (by decide)) hgd (by rfl) T.g_check_width T.F_check_width.kp T.b_check_width pass0 (a_cons (e_var 1 (pv 1)) a_nil)))
    (ss_one (s_ret (e_call (ok_cell_of T) (hr.mono (by decide)) hgd (by rfl) T.g_cell_of T.F_cell_of.kp T.b_cell_of pass0 (a_cons (e_var 0 (pv 0)) (a_cons (e_var 1 (pv 1)) a_nil)))))))
theorem ok_cell (T : Tx w K mg) : Fn P w K mg base CX0 4 T.f_cell T.fd_cell ["number", "width"] (lift K 2 fs_cell) := fn_data T.F_cell sc_cell b_cell (fun _ _ _ _ _ _ hr hgd => d_cell T hr hgd) p_cell
end
def b_position : DS :=
  (dSeq (dDrop (dCall 1 fs_check_number (dCons (dVar 0) dNil)))
  (dSeq (dDrop (dCall 1 fs_check_width (dCons (dVar 1) dNil)))
  (dRet (dCall 2 fs_position_of (dCons (dVar 0) (dCons (dVar 1) dNil))))))
def fs_position : FSp := fun rs fu post => ∃ n d w : Int, rs = [.val (num n d), .val (.int w)] ∧ isNum (num n d) = true ∧ 0 < n ∧ Bn 4000 n ∧ 0 < d ∧ Bn 4000 d ∧ 1 ≤ w ∧ w ≤ 100 ∧ post (.val (nm (posI n d w))) fu
theorem p_position (rs : List Rv) (fu : Option Nat) (post : Rr → Option Nat → Prop) (hl : rs.length = 2) (h : fs_position rs fu post) : b_position ⟨fun g => post (.val .none) g.fu, fun r g => post r g.fu, fun _ => False, fun _ => False⟩ (ent N_position rs fu) := by
  obtain ⟨n, d, w, rfl, hi, hn, bn, hd, bd, h1, h2, h⟩ := h
  simp_arith [b_position, fs_check_number, fs_check_width, fs_position_of]
  exact ⟨_, rfl, hi, _, rfl, isWid_int h1 h2, n, d, w, rfl, hn, bn, hd, bd, h1, h2, h⟩
section
variable {P : Program} {w : World} {K : Fg} {mg : Str → Option Value} {base : Heap}
theorem d_position (T : Tx w K mg) {cdv : Value} {A : Around} {outer : List Env} {s : Shared} {H : Hp} {E : XK} (hr : Room 3 (A.deeper (envOfC "position" (defScope st_position) s.heap.objs.size T.f_position cdv))) (hgd : (A.deeper (envOfC "position" (defScope st_position) s.heap.objs.size T.f_position cdv)).guards = some []) :
    PSs (cxOf CX0 P w K mg base N_position "position" (defScope st_position) T.f_position cdv A outer s H E).nox (defBody st_position) (upS K W0 b_position) :=
  (ss_cons (s_expr (e_call (ok_check_number T) (hr.mono (by decide)) hgd (by rfl) T.g_check_number T.F_check_number.kp T.b_check_number pass0 (a_cons (e_var 0 (pv 0)) a_nil)))
    (ss_cons (s_expr (e_call (ok_check_width T) (hr.mono (by decide)) hgd (by rfl) T.g_check_width T.F_check_width.kp T.b_check_width pass0 (a_cons (e_var 1 (pv 1)) a_nil)))
    (ss_one (s_ret (e_call (ok_position_of T) (hr.mono (by decide)) hgd (by rfl) T.g_position_of T.F_position_of.kp T.b_position_of pass0 (a_cons (e_var 0 (pv 0)) (a_cons (e_var 1 (pv 1)) a_nil)))))))
theorem ok_position (T : Tx w K mg) : Fn P w K mg base CX0 4 T.f_position T.fd_position ["number", "width"] (lift K 2 fs_position) := fn_data T.F_position sc_position b_position (fun _ _ _ _ _ _ hr hgd => d_position T hr hgd) p_position
end
def b_is_rule : DS :=
  (dRet (dAndV (dIsi "str" (dVar 0)) (dBin (fIn false) (dVar 0) (dC (.tuple [(.str "down"), (.str "half_down"), (.str "half_even"), (.str "half_up"), (.str "odd"), (.str "up")])))))
abbrev rulesD : List Da := [.str "down", .str "half_down", .str "half_even", .str "half_up", .str "odd", .str "up"]
def isRul (v : Da) : Bool := match v with
  | .str r => inD (.str r) rulesD
  | _ => false
theorem isRul_s (r : Ru) : isRul (.str r.s) = true := by cases r <;> decide +kernel
def fs_is_rule : FSp := fun rs fu post => ∃ v, rs = [.val v] ∧ post (.val (.bool (isRul v))) fu
theorem p_is_rule (rs : List Rv) (fu : Option Nat) (post : Rr → Option Nat → Prop) (hl : rs.length = 1) (h : fs_is_rule rs fu post) : b_is_rule ⟨fun g => post (.val .none) g.fu, fun r g => post r g.fu, fun _ => False, fun _ => False⟩ (ent N_is_rule rs fu) := by
  obtain ⟨v, rfl, h⟩ := h
  cases v with
  | str r =>
    simp_arith [b_is_rule]
    refine ⟨fun _ => h, fun z => (by simp [isTy] at z)⟩
  | _ => simp_arith [b_is_rule]; simpa [isTy, isRul] using h
section
variable {P : Program} {w : World} {K : Fg} {mg : Str → Option Value} {base : Heap}
theorem d_is_rule (T : Tx w K mg) {cdv : Value} {A : Around} {outer : List Env} {s : Shared} {H : Hp} {E : XK} (hr : Room 0 (A.deeper (envOfC "is_rule" (defScope st_is_rule) s.heap.objs.size T.f_is_rule cdv))) (hgd : (A.deeper (envOfC "is_rule" (defScope st_is_rule) s.heap.objs.size T.f_is_rule cdv)).guards = some []) :
    PSs (cxOf CX0 P w K mg base N_is_rule "is_rule" (defScope st_is_rule) T.f_is_rule cdv A outer s H E).nox (defBody st_is_rule) (upS K W0 b_is_rule) :=
  (ss_one (s_ret (e_and (e_isi kit_str (by rfl) T.n_isinstance (e_var 0 (pv 0)) (c_ty (by rfl) T.n_str (by decide +kernel))) (e_one (e_in (e_var 0 (pv 0)) (e_glob (by rfl) T.c_RULES T.v_RULES T.r_RULES))))))
theorem ok_is_rule (T : Tx w K mg) : Fn P w K mg base CX0 1 T.f_is_rule T.fd_is_rule ["value"] (lift K 1 fs_is_rule) := fn_data T.F_is_rule sc_is_rule b_is_rule (fun _ _ _ _ _ _ hr hgd => d_is_rule T hr hgd) p_is_rule
end
def b_ends_of : DS :=
  (dSeq (dIfS (dTest (dBin fEq (dIx (dCall 2 fs_position_of (dCons (dVar 0) (dCons (dVar 1) dNil))) (dC (.int 0))) (dC (.int 0))))
    (dRet (dTup (dCons (dVar 0) (dCons (dVar 0) dNil))))
    dNext)
  (dSeq (dAsg (dCall 2 fs_cell_of (dCons (dVar 0) (dCons (dVar 1) dNil))) (dT 2 (dTc (dN 2) (dTc (dN 3) dTn))))
  (dRet (dTup (dCons (dCall 2 fs_power_number (dCons (dVar 2) (dCons (dVar 3) dNil))) (dCons (dCall 2 fs_power_number (dCons (dBin fAdd (dVar 2) (dC (.int 1))) (dCons (dVar 3) dNil))) dNil))))))
def fs_ends_of : FSp := fun rs fu post => ∃ n d w : Int, rs = [.val (num n d), .val (.int w)] ∧ 0 < n ∧ Bn 4000 n ∧ 0 < d ∧ Bn 4000 d ∧ 1 ≤ w ∧ w ≤ 100 ∧ post (.val (.tuple [nm (endsI n d w).1, nm (endsI n d w).2])) fu
theorem p_ends_of (rs : List Rv) (fu : Option Nat) (post : Rr → Option Nat → Prop) (hl : rs.length = 2) (h : fs_ends_of rs fu post) : b_ends_of ⟨fun g => post (.val .none) g.fu, fun r g => post r g.fu, fun _ => False, fun _ => False⟩ (ent N_ends_of rs fu) := by
  obtain ⟨n, d, w, rfl, hn, bn, hd, bd, h1, h2, h⟩ := h
  simp_arith [b_ends_of, fs_cell_of, fs_position_of, fs_power_number]
  obtain ⟨c1, c2⟩ := cell_e hn bn hd bd h1 h2
  obtain ⟨k1, k2⟩ := cell_kB hn hd h1 h2
  refine ⟨n, d, w, rfl, hn, bn, hd, bd, h1, h2, fun hz => ?_, fun hz => ?_⟩
  · have e : endsI n d w = ((n, d), (n, d)) := if_pos hz
    rw [e] at h
    exact h
  · have e : endsI n d w = (powI (cellI n d w).1 (cellI n d w).2, powI ((cellI n d w).1 + 1) (cellI n d w).2) := if_neg hz
    rw [e] at h
    exact ⟨n, d, w, rfl, hn, bn, hd, bd, h1, h2, _, _, rfl, by omega, k2.mono (by decide), by omega, by omega, _, _, rfl, by omega, ((k2.add (Bn.small (by decide) (by decide) (by decide))).mono (by decide)), by omega, by omega, h⟩
section
variable {P : Program} {w : World} {K : Fg} {mg : Str → Option Value} {base : Heap}
theorem d_ends_of (T : Tx w K mg) {cdv : Value} {A : Around} {outer : List Env} {s : Shared} {H : Hp} {E : XK} (hr : Room 3 (A.deeper (envOfC "ends_of" (defScope st_ends_of) s.heap.objs.size T.f_ends_of cdv))) (hgd : (A.deeper (envOfC "ends_of" (defScope st_ends_of) s.heap.objs.size T.f_ends_of cdv)).guards = some []) :
    PSs (cxOf CX0 P w K mg base N_ends_of "ends_of" (defScope st_ends_of) T.f_ends_of cdv A outer s H E).nox (defBody st_ends_of) (upS K W0 b_ends_of) :=
  (ss_cons (s_if (t_eq hr.units (e_ix (e_call (ok_position_of T) (hr.mono (by decide)) hgd (by rfl) T.g_position_of T.F_position_of.kp T.b_position_of pass0 (a_cons (e_var 0 (pv 0)) (a_cons (e_var 1 (pv 1)) a_nil))) e_int) e_int) (ss_one (s_ret (e_tup (a_cons (e_var 0 (pv 0)) (a_cons (e_var 0 (pv 0)) a_nil))))) ss_nil)
    (ss_cons (s_asg (e_call (ok_cell_of T) (hr.mono (by decide)) hgd (by rfl) T.g_cell_of T.F_cell_of.kp T.b_cell_of pass0 (a_cons (e_var 0 (pv 0)) (a_cons (e_var 1 (pv 1)) a_nil))) (g_tup rfl (gs_cons (g_name (pg_name (i := 2) sc_ends_of.nd rfl (.inl rfl))) (gs_cons (g_name (pg_name (i := 3) sc_ends_of.nd rfl (.inl rfl))) gs_nil))))
    (ss_one (s_ret (e_tup (a_cons (e_call (ok_power_number T) (hr.mono (by decide)) hgd (by rfl) T.g_power_number T.F_power_number.kp T.b_power_number pass0 (a_cons (e_var 2 (pv 2)) (a_cons (e_var 3 (pv 3)) a_nil))) (a_cons (e_call (ok_power_number T) (hr.mono (by decide)) hgd (by rfl) T.g_power_number T.F_power_number.kp T.b_power_number pass0 (a_cons (e_add (e_var 2 (pv 2)) e_int) (a_cons (e_var 3 (pv 3)) a_nil))) a_nil)))))))
theorem ok_ends_of (T : Tx w K mg) : Fn P w K mg base CX0 4 T.f_ends_of T.fd_ends_of ["number", "width"] (lift K 2 fs_ends_of) := fn_data T.F_ends_of sc_ends_of b_ends_of (fun _ _ _ _ _ _ hr hgd => d_ends_of T hr hgd) p_ends_of
end
def b_goes_up : DS :=
  (dSeq (dAsg (dVar 1) (dT 2 (dTc (dN 3) (dTc (dN 4) dTn))))
  (dSeq (dIfS (dTest (dBin (fIn false) (dVar 2) (dTup (dCons (dC (.str "down")) (dCons (dC (.str "up")) dNil)))))
    (dRet (dBin fEq (dVar 2) (dC (.str "up"))))
    dNext)
  (dSeq (dIfS (dTest (dBin fEq (dVar 2) (dC (.str "odd"))))
    (dRet (dBin fEq (dBin oMod (dVar 0) (dC (.int 2))) (dC (.int 0))))
    dNext)
  (dSeq (dIfS (dTest (dBin fNe (dBin oMul (dC (.int 2)) (dVar 3)) (dVar 4)))
    (dRet (dBin oGt (dBin oMul (dC (.int 2)) (dVar 3)) (dVar 4)))
    dNext)
  (dRet (dOrV (dBin fEq (dVar 2) (dC (.str "half_up"))) (dAndV (dBin fEq (dVar 2) (dC (.str "half_even"))) (dBin fEq (dBin oMod (dVar 0) (dC (.int 2))) (dC (.int 1))))))))))
def fs_goes_up : FSp := fun rs fu post => ∃ (k n d : Int) (r : Ru), rs = [.val (.int k), .val (num n d), .val (.str r.s)] ∧ Bn 10000 n ∧ post (.val (.bool (goesUp k n d r))) fu
theorem p_goes_up (rs : List Rv) (fu : Option Nat) (post : Rr → Option Nat → Prop) (hl : rs.length = 3) (h : fs_goes_up rs fu post) : b_goes_up ⟨fun g => post (.val .none) g.fu, fun r g => post r g.fu, fun _ => False, fun _ => False⟩ (ent N_goes_up rs fu) := by
  obtain ⟨k, n, d, r, rfl, bn, h⟩ := h
  have hm : CMulX 2 n := mulX 64 10000 (Bn.small (by decide) (by decide) (by decide)) bn (by decide)
  have sh : ∀ r : Ru, SeqAt.shaped (.str r.s) = true := shaped_ru
  have s1 := sh .dn
  have s2 := sh .hd
  have s3 := sh .he
  have s4 := sh .hu
  have s5 := sh .od
  have s6 := sh .up
  simp only [Ru.s] at s1 s2 s3 s4 s5 s6
  cases r <;> simp only [Ru.s, goesUp] at h ⊢ <;> (simp (decide := true) only [↓dGrp,↓dValX,↓dSeq,↓dAsg,↓dSetL,↓dNext,↓dIfS,↓dRet,↓dRetL,↓dDrop,↓dNever,↓dAug,↓dPar,↓dParL,↓dApp,↓dVar,↓dC,↓dBin,↓fI,↓fI0,↓fAdd,↓fEq,↓fNe,↓fIn,↓dTest,↓dAndT,↓dOrT,↓dNotT,↓dAndV,↓dOrV,↓dNotV,↓dIf,↓dNeg,↓dIsN,↓dChain,↓dNil,↓dCons,↓dTup,↓dLst,↓dFz,↓valsD,↓dIx,↓dCall,↓dCallL,↓hasSrc,↓rrv,↓dN,↓dT,↓dTn,↓dTc,↓rsv,↓Gs.set,↓dFor,↓dItems,↓dRange1,↓dLc,↓dCB,↓cLen,↓cAll,↓cTuple,↓cInt1,↓cInt2,↓dIsi,↓dBits,↓dCallS,↓oSub,↓oAddI,↓oMul,↓oDiv,↓oMod,↓oShl,↓oPow,↓oLt,↓oLe,↓oGt,↓oGe,↓oAbs,↓oMax,↓oMin,↓cMinL,↓cSortedD,↓fInD,↓dSl,↓oNo,↓oSo,↓dBy,↓gAs,↓Gs.unset,↓rtN,↓lamF,↓gLam,↓plainO,↓Z.isNon,b_goes_up,s1,s2,s3,s4,s5,s6,inD,List.any_cons,List.any_nil,Bool.or_false,Bool.or_true,Bool.false_or,decide_true,decide_false,ent,svOf,List.map_cons,List.map_nil,List.cons_append,List.nil_append,List.append_nil,List.replicate,List.length_cons,List.length_nil,List.getElem?_cons_zero,List.getElem?_cons_succ,List.getElem?_nil,List.set_cons_zero,List.set_cons_succ,Option.map_some,Option.map_none,Option.isNone_some,Option.isNone_none,forall_const,true_implies,false_implies,and_true,true_and,Bool.true_eq_false,Bool.false_eq_true,reduceCtorEq,noOwn,wipeS,hide,fuN_self,lcD,dYes,Nat.zero_add,Nat.reduceAdd,Nat.reduceLeDiff,Nat.reduceSub,atI_0,atI_1,atI_2,atI_3,atI_4,atI_5,Int.one_mul,eqv_ii,eqv_ss,eqv_num,shaped_int,shaped_num,shaped_none,shaped_ru,flat_str,flat_int,flat_none,List.all_cons,List.all_nil,Bool.and_true,decide_eq_true_eq,decide_eq_false_iff_not,Bool.not_eq_true',Bool.not_eq_false',Decidable.not_not,↓reduceIte,Bool.false_eq_true,Int.reduceLT,eqv_strs,pick_0,pick_01,pick_10,pick_012,pick_021,pick_102,pick_120,pick_201,pick_210])
  · exact h
  · refine ⟨hm, fun _ => ⟨hm, h⟩, fun z => ?_⟩
    rw [decide_eq_false (by omega)] at h
    exact h
  · refine ⟨hm, fun z => ⟨hm, ?_⟩, fun z => ?_⟩
    · rw [if_neg z] at h; exact h
    · rw [if_pos z] at h; exact h
  · refine ⟨hm, fun z => ⟨hm, ?_⟩, fun z => ?_⟩
    · rw [show decide (d ≤ 2 * n) = decide (d < 2 * n) by rw [decide_eq_decide]; omega] at h
      exact h
    · rw [decide_eq_true (by omega)] at h
      exact h
  · exact h
  · exact h
section
variable {P : Program} {w : World} {K : Fg} {mg : Str → Option Value} {base : Heap}
theorem d_goes_up (T : Tx w K mg) {cdv : Value} {A : Around} {outer : List Env} {s : Shared} {H : Hp} {E : XK} (hr : Room 0 (A.deeper (envOfC "goes_up" (defScope st_goes_up) s.heap.objs.size T.f_goes_up cdv))) (hgd : (A.deeper (envOfC "goes_up" (defScope st_goes_up) s.heap.objs.size T.f_goes_up cdv)).guards = some []) :
    PSs (cxOf CX0 P w K mg base N_goes_up "goes_up" (defScope st_goes_up) T.f_goes_up cdv A outer s H E).nox (defBody st_goes_up) (upS K W0 b_goes_up) :=
  (ss_cons (s_asg (e_var 1 (pv 1)) (g_tup rfl (gs_cons (g_name (pg_name (i := 3) sc_goes_up.nd rfl (.inl rfl))) (gs_cons (g_name (pg_name (i := 4) sc_goes_up.nd rfl (.inl rfl))) gs_nil))))
    (ss_cons (s_if (t_in (e_var 2 (pv 2)) (e_tup (a_cons (e_glob (by rfl) T.c_DOWN T.v_DOWN T.r_DOWN) (a_cons (e_glob (by rfl) T.c_UP T.v_UP T.r_UP) a_nil)))) (ss_one (s_ret (e_eq hr.units (e_var 2 (pv 2)) (e_glob (by rfl) T.c_UP T.v_UP T.r_UP)))) ss_nil)
    (ss_cons (s_if (t_eq hr.units (e_var 2 (pv 2)) (e_glob (by rfl) T.c_ODD T.v_ODD T.r_ODD)) (ss_one (s_ret (e_eq hr.units (e_mod (e_var 0 (pv 0)) e_int) e_int))) ss_nil)
    (ss_cons (s_if (t_ne hr.units (e_mul e_int (e_var 3 (pv 3))) (e_var 4 (pv 4))) (ss_one (s_ret (e_gt (e_mul e_int (e_var 3 (pv 3))) (e_var 4 (pv 4))))) ss_nil)
    (ss_one (s_ret (e_or (e_eq hr.units (e_var 2 (pv 2)) (e_glob (by rfl) T.c_HALF_UP T.v_HALF_UP T.r_HALF_UP)) (e_one (e_and (e_eq hr.units (e_var 2 (pv 2)) (e_glob (by rfl) T.c_HALF_EVEN T.v_HALF_EVEN T.r_HALF_EVEN)) (e_one (e_eq hr.units (e_mod (e_var 0 (pv 0)) e_int) e_int)))))))))))
theorem ok_goes_up (T : Tx w K mg) : Fn P w K mg base CX0 1 T.f_goes_up T.fd_goes_up ["k", "place", "rule"] (lift K 3 fs_goes_up) := fn_data T.F_goes_up sc_goes_up b_goes_up (fun _ _ _ _ _ _ hr hgd => d_goes_up T hr hgd) p_goes_up
end
def b_round_once : DS :=
  (dSeq (dAsg (dCall 2 fs_ends_of (dCons (dVar 0) (dCons (dVar 1) dNil))) (dT 2 (dTc (dN 3) (dTc (dN 4) dTn))))
  (dSeq (dAsg (dIx (dCall 2 fs_cell_of (dCons (dVar 0) (dCons (dVar 1) dNil))) (dC (.int 0))) (dN 5))
  (dRet (dIf (dTest (dCall 3 fs_goes_up (dCons (dVar 5) (dCons (dCall 2 fs_position_of (dCons (dVar 0) (dCons (dVar 1) dNil))) (dCons (dVar 2) dNil))))) (dVar 4) (dVar 3)))))
def fs_round_once : FSp := fun rs fu post => ∃ (n d w : Int) (r : Ru), rs = [.val (num n d), .val (.int w), .val (.str r.s)] ∧ 0 < n ∧ Bn 4000 n ∧ 0 < d ∧ Bn 4000 d ∧ 1 ≤ w ∧ w ≤ 100 ∧ post (.val (nm (roundI n d w r))) fu
theorem p_round_once (rs : List Rv) (fu : Option Nat) (post : Rr → Option Nat → Prop) (hl : rs.length = 3) (h : fs_round_once rs fu post) : b_round_once ⟨fun g => post (.val .none) g.fu, fun r g => post r g.fu, fun _ => False, fun _ => False⟩ (ent N_round_once rs fu) := by
  obtain ⟨n, d, w, r, rfl, hn, bn, hd, bd, h1, h2, h⟩ := h
  simp_arith [b_round_once, fs_ends_of, fs_cell_of, fs_position_of, fs_goes_up]
  refine ⟨n, d, w, rfl, hn, bn, hd, bd, h1, h2, n, d, w, rfl, hn, bn, hd, bd, h1, h2, n, d, w, rfl, hn, bn, hd, bd, h1, h2, _, _, _, r, rfl, (pos_B hn bn hd bd h1 h2).2.mono (by decide), fun hu => ?_, fun hu => ?_⟩
  · have e : roundI n d w r = (endsI n d w).2 := if_pos hu
    rw [e] at h
    exact h
  · have e : roundI n d w r = (endsI n d w).1 := if_neg (by rw [hu]; decide)
    rw [e] at h
    exact h
section
variable {P : Program} {w : World} {K : Fg} {mg : Str → Option Value} {base : Heap}
theorem d_round_once (T : Tx w K mg) {cdv : Value} {A : Around} {outer : List Env} {s : Shared} {H : Hp} {E : XK} (hr : Room 4 (A.deeper (envOfC "round_once" (defScope st_round_once) s.heap.objs.size T.f_round_once cdv))) (hgd : (A.deeper (envOfC "round_once" (defScope st_round_once) s.heap.objs.size T.f_round_once cdv)).guards = some []) :
    PSs (cxOf CX0 P w K mg base N_round_once "round_once" (defScope st_round_once) T.f_round_once cdv A outer s H E).nox (defBody st_round_once) (upS K W0 b_round_once) :=
  (ss_cons (s_asg (e_call (ok_ends_of T) (hr.mono (by decide)) hgd (by rfl) T.g_ends_of T.F_ends_of.kp T.b_ends_of pass0 (a_cons (e_var 0 (pv 0)) (a_cons (e_var 1 (pv 1)) a_nil))) (g_tup rfl (gs_cons (g_name (pg_name (i := 3) sc_round_once.nd rfl (.inl rfl))) (gs_cons (g_name (pg_name (i := 4) sc_round_once.nd rfl (.inl rfl))) gs_nil))))
    (ss_cons (s_set (i := 5) sc_round_once.nd rfl (.inl rfl) (e_ix (e_call (ok_cell_of T) (hr.mono (by decide)) hgd (by rfl) T.g_cell_of T.F_cell_of.kp T.b_cell_of pass0 (a_cons (e_var 0 (pv 0)) (a_cons (e_var 1 (pv 1)) a_nil))) e_int))
    (ss_one (s_ret (e_if (t_val (e_call (ok_goes_up T) (hr.mono (by decide)) hgd (by rfl) T.g_goes_up T.F_goes_up.kp T.b_goes_up pass0 (a_cons (e_var 5 (pv 5)) (a_cons (e_call (ok_position_of T) (hr.mono (by decide)) hgd (by rfl) T.g_position_of T.F_position_of.kp T.b_position_of pass0 (a_cons (e_var 0 (pv 0)) (a_cons (e_var 1 (pv 1)) a_nil))) (a_cons (e_var 2 (pv 2)) a_nil))))) (e_var 4 (pv 4)) (e_var 3 (pv 3)))))))
theorem ok_round_once (T : Tx w K mg) : Fn P w K mg base CX0 5 T.f_round_once T.fd_round_once ["number", "width", "rule"] (lift K 3 fs_round_once) := fn_data T.F_round_once sc_round_once b_round_once (fun _ _ _ _ _ _ hr hgd => d_round_once T hr hgd) p_round_once
end
def b_neighbours : DS :=
  (dSeq (dDrop (dCall 1 fs_check_number (dCons (dVar 0) dNil)))
  (dSeq (dDrop (dCall 1 fs_check_width (dCons (dVar 1) dNil)))
  (dRet (dCall 2 fs_ends_of (dCons (dVar 0) (dCons (dVar 1) dNil))))))
def fs_neighbours : FSp := fun rs fu post => ∃ n d w : Int, rs = [.val (num n d), .val (.int w)] ∧ isNum (num n d) = true ∧ 0 < n ∧ Bn 4000 n ∧ 0 < d ∧ Bn 4000 d ∧ 1 ≤ w ∧ w ≤ 100 ∧ post (.val (.tuple [nm (endsI n d w).1, nm (endsI n d w).2])) fu
theorem p_neighbours (rs : List Rv) (fu : Option Nat) (post : Rr → Option Nat → Prop) (hl : rs.length = 2) (h : fs_neighbours rs fu post) : b_neighbours ⟨fun g => post (.val .none) g.fu, fun r g => post r g.fu, fun _ => False, fun _ => False⟩ (ent N_neighbours rs fu) := by
  obtain ⟨n, d, w, rfl, hi, hn, bn, hd, bd, h1, h2, h⟩ := h
  simp_arith [b_neighbours, fs_check_number, fs_check_width, fs_ends_of]
  exact ⟨_, rfl, hi, _, rfl, isWid_int h1 h2, n, d, w, rfl, hn, bn, hd, bd, h1, h2, h⟩
section
variable {P : Program} {w : World} {K : Fg} {mg : Str → Option Value} {base : Heap}
theorem d_neighbours (T : Tx w K mg) {cdv : Value} {A : Around} {outer : List Env} {s : Shared} {H : Hp} {E : XK} (hr : Room 4 (A.deeper (envOfC "neighbours" (defScope st_neighbours) s.heap.objs.size T.f_neighbours cdv))) (hgd : (A.deeper (envOfC "neighbours" (defScope st_neighbours) s.heap.objs.size T.f_neighbours cdv)).guards = some []) :
    PSs (cxOf CX0 P w K mg base N_neighbours "neighbours" (defScope st_neighbours) T.f_neighbours cdv A outer s H E).nox (defBody st_neighbours) (upS K W0 b_neighbours) :=
  (ss_cons (s_expr (e_call (ok_check_number T) (hr.mono (by decide)) hgd (by rfl) T.g_check_number T.F_check_number.kp T.b_check_number pass0 (a_cons (e_var 0 (pv 0)) a_nil)))
    (ss_cons (s_expr (e_call (ok_check_width T) (hr.mono (by decide)) hgd (by rfl) T.g_check_width T.F_check_width.kp T.b_check_width pass0 (a_cons (e_var 1 (pv 1)) a_nil)))
    (ss_one (s_ret (e_call (ok_ends_of T) (hr.mono (by decide)) hgd (by rfl) T.g_ends_of T.F_ends_of.kp T.b_ends_of pass0 (a_cons (e_var 0 (pv 0)) (a_cons (e_var 1 (pv 1)) a_nil)))))))
theorem ok_neighbours (T : Tx w K mg) : Fn P w K mg base CX0 5 T.f_neighbours T.fd_neighbours ["number", "width"] (lift K 2 fs_neighbours) := fn_data T.F_neighbours sc_neighbours b_neighbours (fun _ _ _ _ _ _ hr hgd => d_neighbours T hr hgd) p_neighbours
end
def b_is_step : DS :=
  (dRet (dAndV (dIsi "tuple" (dVar 0)) (dAndV (dBin fEq (dCB cLen (dCons (dVar 0) dNil)) (dC (.int 2))) (dAndV (dCall 1 fs_is_width (dCons (dIx (dVar 0) (dC (.int 0))) dNil)) (dCall 1 fs_is_rule (dCons (dIx (dVar 0) (dC (.int 1))) dNil))))))
def isStp : Da → Bool
  | .tuple [x, y] => isWid x && isRul y
  | _ => false
theorem isStp_ne {xs : List Da} (h : xs.length ≠ 2) : isStp (.tuple xs) = false := by
  match xs with
  | [] => rfl
  | [_] => rfl
  | [_, _] => exact absurd rfl h
  | _ :: _ :: _ :: _ => rfl
theorem isStp_st {s : Int × Ru} (h : 1 ≤ s.1 ∧ s.1 ≤ 100) : isStp (stD s) = true := by
  show (isWid (.int s.1) && isRul (.str s.2.s)) = true
  rw [isWid_int h.1 h.2, isRul_s]
  rfl
def fs_is_step : FSp := fun rs fu post => ∃ v, rs = [.val v] ∧ post (.val (.bool (isStp v))) fu
theorem p_is_step (rs : List Rv) (fu : Option Nat) (post : Rr → Option Nat → Prop) (hl : rs.length = 1) (h : fs_is_step rs fu post) : b_is_step ⟨fun g => post (.val .none) g.fu, fun r g => post r g.fu, fun _ => False, fun _ => False⟩ (ent N_is_step rs fu) := by
  obtain ⟨v, rfl, h⟩ := h
  cases v with
  | tuple xs =>
    simp_arith [b_is_step]
    refine ⟨fun _ => ⟨fun z => ?_, fun z => ?_⟩, fun z => (by simp [isTy] at z)⟩
    · have e : xs.length = 2 := by omega
      match xs, e with
      | [x, y], _ =>
        simp_arith [fs_is_width, fs_is_rule]
        refine ⟨x, rfl, fun ht => ⟨y, rfl, ?_⟩, fun hf => ?_⟩
        · simp only [isStp, ht, Bool.true_and] at h
          exact h
        · simp only [isStp, hf, Bool.false_and] at h
          exact h
    · have e : xs.length ≠ 2 := by omega
      rw [isStp_ne e] at h
      exact h
  | _ => simp_arith [b_is_step]; simpa [isTy, isStp] using h
section
variable {P : Program} {w : World} {K : Fg} {mg : Str → Option Value} {base : Heap}
theorem d_is_step (T : Tx w K mg) {cdv : Value} {A : Around} {outer : List Env} {s : Shared} {H : Hp} {E : XK} (hr : Room 2 (A.deeper (envOfC "is_step" (defScope st_is_step) s.heap.objs.size T.f_is_step cdv))) (hgd : (A.deeper (envOfC "is_step" (defScope st_is_step) s.heap.objs.size T.f_is_step cdv)).guards = some []) :
    PSs (cxOf CX0 P w K mg base N_is_step "is_step" (defScope st_is_step) T.f_is_step cdv A outer s H E).nox (defBody st_is_step) (upS K W0 b_is_step) :=
  (ss_one (s_ret (e_and (e_isi kit_tuple (by rfl) T.n_isinstance (e_var 0 (pv 0)) (c_ty (by rfl) T.n_tuple (by decide +kernel))) (e_and (e_eq hr.units (e_len (by rfl) T.n_len (a_cons (e_var 0 (pv 0)) a_nil)) (e_glob (by rfl) T.c_PAIR_chains T.v_PAIR_chains T.r_PAIR_chains)) (e_and (e_call (ok_is_width T) (hr.mono (by decide)) hgd (by rfl) T.g_is_width T.F_is_width.kp T.b_is_width pass0 (a_cons (e_ix (e_var 0 (pv 0)) e_int) a_nil)) (e_one (e_call (ok_is_rule T) (hr.mono (by decide)) hgd (by rfl) T.g_is_rule T.F_is_rule.kp T.b_is_rule pass0 (a_cons (e_ix (e_var 0 (pv 0)) e_int) a_nil))))))))
theorem ok_is_step (T : Tx w K mg) : Fn P w K mg base CX0 3 T.f_is_step T.fd_is_step ["value"] (lift K 1 fs_is_step) := fn_data T.F_is_step sc_is_step b_is_step (fun _ _ _ _ _ _ hr hgd => d_is_step T hr hgd) p_is_step
end
def b_is_chain : DS :=
  (dRet (dAndV (dIsi "tuple" (dVar 0)) (dAndV (dChain oLe oLe (dC (.int 1)) (dCB cLen (dCons (dVar 0) dNil)) (dC (.int 12))) (dCB cAll (dCons (dFz (dLc [1] (dItems (dVar 0)) (dN 1) dYes (dCall 1 fs_is_step (dCons (dVar 1) dNil)))) dNil)))))
def isChn : Da → Bool
  | .tuple xs => decide (1 ≤ (xs.length : Int)) && decide ((xs.length : Int) ≤ 12) && xs.all isStp
  | _ => false
theorem isChn_ch {c : List (Int × Ru)} (h : c ≠ []) (hl : c.length ≤ 12) (hw : Wds c) : isChn (chD c) = true := by
  have h0 : 0 < c.length := List.length_pos_iff.mpr h
  simp only [isChn, chD, Bool.and_eq_true, decide_eq_true_eq, List.length_map]
  refine ⟨⟨by omega, by omega⟩, ?_⟩
  rw [List.all_map, List.all_eq_true]
  exact fun s hs => isStp_st (hw s hs)
theorem boolsD_map (f : Da → Bool) : ∀ ds : List Da, boolsD (ds.map fun d => .bool (f d)) = some (ds.map f)
  | [] => rfl
  | d :: ds => by
    have := boolsD_map f ds
    simp [boolsD, this]
def fs_is_chain : FSp := fun rs fu post => ∃ v, rs = [.val v] ∧ post (.val (.bool (isChn v))) fu
theorem p_is_chain (rs : List Rv) (fu : Option Nat) (post : Rr → Option Nat → Prop) (hl : rs.length = 1) (h : fs_is_chain rs fu post) : b_is_chain ⟨fun g => post (.val .none) g.fu, fun r g => post r g.fu, fun _ => False, fun _ => False⟩ (ent N_is_chain rs fu) := by
  obtain ⟨v, rfl, h⟩ := h
  cases v with
  | tuple xs =>
    simp_arith [b_is_chain]
    refine ⟨fun _ => ?_, fun z => (by simp [isTy] at z)⟩
    by_cases h1 : 1 ≤ (xs.length : Int)
    · by_cases h2 : (xs.length : Int) ≤ 12
      · rw [decide_eq_true h1]
        refine ⟨fun _ => ?_, fun z => absurd h2 (by simpa using z)⟩
        refine lc_map (fun x => .bool (isStp x)) (fun x hx R hR => ?_) (by simp only [List.length_nil]; omega) ?_
        · simp_arith [fs_is_step]
          exact ⟨x, rfl, hR _ rfl⟩
        · rw [List.nil_append, boolsD_map]
          simp only [isChn, h1, h2, decide_true, Bool.true_and] at h
          show post (.val (.bool ((List.map isStp xs).all id))) fu
          rw [List.all_map]
          exact h
      · rw [decide_eq_true h1]
        refine ⟨fun z => absurd (by simpa using z) h2, fun _ => ?_⟩
        simp only [isChn, h2, decide_false, Bool.and_false, Bool.false_and] at h
        exact h
    · rw [decide_eq_false h1]
      simp_arith [Nat.zero_add]
      simp only [isChn, h1, decide_false, Bool.and_false, Bool.false_and] at h
      exact h
  | _ => simp_arith [b_is_chain]; simpa [isTy, isChn] using h
section
variable {P : Program} {w : World} {K : Fg} {mg : Str → Option Value} {base : Heap}
theorem d_is_chain (T : Tx w K mg) {cdv : Value} {A : Around} {outer : List Env} {s : Shared} {H : Hp} {E : XK} (hr : Room 3 (A.deeper (envOfC "is_chain" (defScope st_is_chain) s.heap.objs.size T.f_is_chain cdv))) (hgd : (A.deeper (envOfC "is_chain" (defScope st_is_chain) s.heap.objs.size T.f_is_chain cdv)).guards = some []) :
    PSs (cxOf CX0 P w K mg base N_is_chain "is_chain" (defScope st_is_chain) T.f_is_chain cdv A outer s H E).nox (defBody st_is_chain) (upS K W0 b_is_chain) :=
  (ss_one (s_ret (e_and (e_isi kit_tuple (by rfl) T.n_isinstance (e_var 0 (pv 0)) (c_ty (by rfl) T.n_tuple (by decide +kernel))) (e_and (e_lele e_int (e_len (by rfl) T.n_len (a_cons (e_var 0 (pv 0)) a_nil)) (e_glob (by rfl) T.c_MOST_STEPS T.v_MOST_STEPS T.r_MOST_STEPS)) (e_one (e_all rfl (by rfl) T.n_all (a_cons (e_fz (e_lc (own := [("step", 1)]) rfl sc_is_chain.nd (i_items (e_var 0 (pv 0))) (blkOk_by (own := [("step", 1)]) (N := N_is_chain) (sc := defScope st_is_chain) (by decide +kernel)) (fun _ _ _ _ _ => (gw_name rfl (pg_name (i := 1) sc_is_chain.nd rfl (.inl rfl)) (by decide))) (fun _ _ _ _ _ => ts_yes) (fun _ _ _ _ _ => (e_call (ok_is_step T) (hr.mono (by decide)) hgd (by rfl) T.g_is_step T.F_is_step.kp T.b_is_step pass0 (a_cons (e_var 1 (pv 1)) a_nil))))) a_nil)))))))
theorem ok_is_chain (T : Tx w K mg) : Fn P w K mg base CX0 4 T.f_is_chain T.fd_is_chain ["value"] (lift K 1 fs_is_chain) := fn_data T.F_is_chain sc_is_chain b_is_chain (fun _ _ _ _ _ _ hr hgd => d_is_chain T hr hgd) p_is_chain
end
def b_check_chain : DS :=
  (dIfS (dNotT (dTest (dCall 1 fs_is_chain (dCons (dVar 0) dNil))))
    dNever
    dNext)
theorem _root_.Z.Chn1.is {c : List (Int × Ru)} (h : Chn1 c) : isChn (chD c) = true := isChn_ch h.ne h.len h.w
def fs_check_chain : FSp := fun rs fu post => ∃ v, rs = [.val v] ∧ isChn v = true ∧ post (.val .none) fu
theorem p_check_chain (rs : List Rv) (fu : Option Nat) (post : Rr → Option Nat → Prop) (hl : rs.length = 1) (h : fs_check_chain rs fu post) : b_check_chain ⟨fun g => post (.val .none) g.fu, fun r g => post r g.fu, fun _ => False, fun _ => False⟩ (ent N_check_chain rs fu) := by
  obtain ⟨v, rfl, hv, h⟩ := h
  simp_arith [b_check_chain, fs_is_chain]
  refine ⟨v, rfl, fun z => ?_, fun _ => h⟩
  rw [hv] at z
  exact absurd z (by decide)
section
variable {P : Program} {w : World} {K : Fg} {mg : Str → Option Value} {base : Heap}
theorem d_check_chain (T : Tx w K mg) {cdv : Value} {A : Around} {outer : List Env} {s : Shared} {H : Hp} {E : XK} (hr : Room 4 (A.deeper (envOfC "check_chain" (defScope st_check_chain) s.heap.objs.size T.f_check_chain cdv))) (hgd : (A.deeper (envOfC "check_chain" (defScope st_check_chain) s.heap.objs.size T.f_check_chain cdv)).guards = some []) :
    PSs (cxOf CX0 P w K mg base N_check_chain "check_chain" (defScope st_check_chain) T.f_check_chain cdv A outer s H E).nox (defBody st_check_chain) (upS K W0 b_check_chain) :=
  (ss_one (s_if (t_not (t_val (e_call (ok_is_chain T) (hr.mono (by decide)) hgd (by rfl) T.g_is_chain T.F_is_chain.kp T.b_is_chain pass0 (a_cons (e_var 0 (pv 0)) a_nil)))) (ss_one s_never) ss_nil))
theorem ok_check_chain (T : Tx w K mg) : Fn P w K mg base CX0 5 T.f_check_chain T.fd_check_chain ["value"] (lift K 1 fs_check_chain) := fn_data T.F_check_chain sc_check_chain b_check_chain (fun _ _ _ _ _ _ hr hgd => d_check_chain T hr hgd) p_check_chain
end
def b_last_width : DS :=
  (dSeq (dDrop (dCall 1 fs_check_chain (dCons (dVar 0) dNil)))
  (dRet (dCB cMinL (dCons (dFz (dLc [1, 2] (dItems (dVar 0)) (dT 2 (dTc (dN 1) (dTc (dN 2) dTn))) dYes (dVar 1))) dNil))))
def fs_last_width : FSp := fun rs fu post => ∃ c : List (Int × Ru), rs = [.val (chD c)] ∧ Chn1 c ∧ post (.val (.int (chT c).1)) fu
theorem p_last_width (rs : List Rv) (fu : Option Nat) (post : Rr → Option Nat → Prop) (hl : rs.length = 1) (h : fs_last_width rs fu post) : b_last_width ⟨fun g => post (.val .none) g.fu, fun r g => post r g.fu, fun _ => False, fun _ => False⟩ (ent N_last_width rs fu) := by
  obtain ⟨c, rfl, hc, h⟩ := h
  simp_arith [b_last_width, fs_check_chain]
  refine ⟨_, rfl, hc.is, ?_⟩
  unfold chD
  simp_arith [Nat.zero_add]
  refine lc_mapT (fun d => match d with | .tuple (x :: _) => x | _ => .none) (fun x hx R N hR => ?_) (by have := hc.len; simp; omega) ?_
  · obtain ⟨s, hs, rfl⟩ := List.mem_map.mp hx
    unfold stD at hR ⊢
    simp_arith [Nat.zero_add]
    exact hR _ rfl
  · have e : List.map (fun d => match d with | .tuple (x :: _) => x | _ => .none) (c.map stD) = (c.map Prod.fst).map PyData.int := by
      rw [List.map_map, List.map_map]
      rfl
    rw [List.nil_append, e, intsD_map]
    obtain ⟨m1, s, hs, m2⟩ := chT_min hc.ne
    refine ⟨by rw [List.length_map]; exact List.length_pos_iff.mpr hc.ne, fun m hm hy => ?_⟩
    obtain ⟨t, ht, rfl⟩ := List.mem_map.mp hm
    have a := hy s.1 (List.mem_map_of_mem hs)
    have b := m1 t ht
    have : t.1 = (chT c).1 := by omega
    rw [this]
    exact h
section
variable {P : Program} {w : World} {K : Fg} {mg : Str → Option Value} {base : Heap}
theorem d_last_width (T : Tx w K mg) {cdv : Value} {A : Around} {outer : List Env} {s : Shared} {H : Hp} {E : XK} (hr : Room 5 (A.deeper (envOfC "last_width" (defScope st_last_width) s.heap.objs.size T.f_last_width cdv))) (hgd : (A.deeper (envOfC "last_width" (defScope st_last_width) s.heap.objs.size T.f_last_width cdv)).guards = some []) :
    PSs (cxOf CX0 P w K mg base N_last_width "last_width" (defScope st_last_width) T.f_last_width cdv A outer s H E).nox (defBody st_last_width) (upS K W0 b_last_width) :=
  (ss_cons (s_expr (e_call (ok_check_chain T) (hr.mono (by decide)) hgd (by rfl) T.g_check_chain T.F_check_chain.kp T.b_check_chain pass0 (a_cons (e_var 0 (pv 0)) a_nil)))
    (ss_one (s_ret (e_minL rfl (by rfl) T.n_min (a_cons (e_fz (e_lc (own := [("width", 1), ("rule", 2)]) rfl sc_last_width.nd (i_items (e_var 0 (pv 0))) (blkOk_by (own := [("width", 1), ("rule", 2)]) (N := N_last_width) (sc := defScope st_last_width) (by decide +kernel)) (fun _ _ _ _ _ => (gw_tup rfl rfl (gsw_cons (gw_name rfl (pg_name (i := 1) sc_last_width.nd rfl (.inl rfl)) (by decide)) (gsw_cons (gw_name rfl (pg_name (i := 2) sc_last_width.nd rfl (.inl rfl)) (by decide)) gsw_nil)))) (fun _ _ _ _ _ => ts_yes) (fun _ _ _ _ _ => (e_var 1 (pv 1))))) a_nil)))))
theorem ok_last_width (T : Tx w K mg) : Fn P w K mg base CX0 6 T.f_last_width T.fd_last_width ["chain"] (lift K 1 fs_last_width) := fn_data T.F_last_width sc_last_width b_last_width (fun _ _ _ _ _ _ hr hgd => d_last_width T hr hgd) p_last_width
end
def b_stages : DS :=
  (dSeq (dDrop (dCall 1 fs_check_number (dCons (dVar 0) dNil)))
  (dSeq (dDrop (dCall 1 fs_check_chain (dCons (dVar 1) dNil)))
  (dSeq (dSetL 2 (dLst dNil))
  (dSeq (dFor (dItems (dVar 1)) (dT 2 (dTc (dN 3) (dTc (dN 4) dTn)))
    (dSeq (dAsg (dCall 3 fs_round_once (dCons (dVar 0) (dCons (dVar 3) (dCons (dVar 4) dNil)))) (dN 0))
  (dApp 2 (dVar 0))))
  (dRet (dCB cTuple (dCons (dVar 2) dNil)))))))
def stagD (n d : Int) (c : List (Int × Ru)) : List Da := (stagI n d c).map nm
def fs_stages : FSp := fun rs fu post => ∃ (n d : Int) (c : List (Int × Ru)), rs = [.val (num n d), .val (chD c)] ∧ NuB 1000 n d ∧ Chn1 c ∧ post (.val (.tuple (stagD n d c))) fu
def stgB : DS := (dSeq (dAsg (dCall 3 fs_round_once (dCons (dVar 0) (dCons (dVar 3) (dCons (dVar 4) dNil)))) (dN 0))
  (dApp 2 (dVar 0)))
theorem p_stgB {D : DEnds} {x : Option Sv} {fu : Option Nat} : ∀ {c : List (Int × Ru)} {n d : Int} {acc : List Da} {y z : Option Sv}, Wds c → NuB 1000 n d → acc.length + c.length ≤ 100 →
    (∀ (n' d' : Int) (y z : Option Sv), D.nx ⟨[some (.val (num n' d')), x, some (.own (acc ++ stagD n d c)), y, z], fu, fu.isNone⟩) →
    forD (dT 2 (dTc (dN 3) (dTc (dN 4) dTn))) stgB (c.map stD) D ⟨[some (.val (num n d)), x, some (.own acc), y, z], fu, fu.isNone⟩
  | [], n, d, acc, y, z, _, _, _, h => by
    have := h n d y z
    rw [show stagD n d [] = [] from rfl, List.append_nil] at this
    exact this
  | s :: c, n, d, acc, y, z, hw, hn, hl, h => by
    obtain ⟨w1, w2⟩ := hw.hd
    have ih := p_stgB (D := D) (x := x) (fu := fu) (c := c) (n := (roundI n d s.1 s.2).1) (d := (roundI n d s.1 s.2).2) (acc := acc ++ [nm (roundI n d s.1 s.2)]) (y := some (.val (.int s.1))) (z := some (.val (.str s.2.s))) hw.tl (hn.round s.2 w1 w2) (by simp only [List.length_append, List.length_cons, List.length_nil] at hl ⊢; omega) (fun n' d' y z => by
      have := h n' d' y z
      rw [show stagD n d (s :: c) = nm (roundI n d s.1 s.2) :: stagD (roundI n d s.1 s.2).1 (roundI n d s.1 s.2).2 c from rfl] at this
      rw [List.append_assoc]
      exact this)
    show dT 2 _ (.val (stD s)) _ _
    unfold stD
    simp_arith [stgB, fs_round_once]
    refine ⟨n, d, s.1, s.2, rfl, hn.nu.n0, hn.bn.mono (by decide), hn.nu.d0, hn.bd.mono (by decide), w1, w2, ⟨_, rfl⟩, by simp only [List.length_cons] at hl; omega, ?_⟩
    exact ih
theorem p_stages (rs : List Rv) (fu : Option Nat) (post : Rr → Option Nat → Prop) (hl : rs.length = 2) (h : fs_stages rs fu post) : b_stages ⟨fun g => post (.val .none) g.fu, fun r g => post r g.fu, fun _ => False, fun _ => False⟩ (ent N_stages rs fu) := by
  obtain ⟨n, d, c, rfl, hn, hc, h⟩ := h
  simp_arith [b_stages, fs_check_number, fs_check_chain]
  refine ⟨_, rfl, hn.is, _, rfl, hc.is, ?_⟩
  unfold chD
  simp_arith [Nat.zero_add]
  refine p_stgB hc.w hn (by have := hc.len; simp; omega) fun n' d' y z => ?_
  simp_arith [Nat.zero_add]
  exact h
section
variable {P : Program} {w : World} {K : Fg} {mg : Str → Option Value} {base : Heap}
theorem d_stages (T : Tx w K mg) {cdv : Value} {A : Around} {outer : List Env} {s : Shared} {H : Hp} {E : XK} (hr : Room 5 (A.deeper (envOfC "stages" (defScope st_stages) s.heap.objs.size T.f_stages cdv))) (hgd : (A.deeper (envOfC "stages" (defScope st_stages) s.heap.objs.size T.f_stages cdv)).guards = some []) :
    PSs (cxOf CX0 P w K mg base N_stages "stages" (defScope st_stages) T.f_stages cdv A outer s H E).nox (defBody st_stages) (upS K W0 b_stages) :=
  (ss_cons (s_expr (e_call (ok_check_number T) (hr.mono (by decide)) hgd (by rfl) T.g_check_number T.F_check_number.kp T.b_check_number pass0 (a_cons (e_var 0 (pv 0)) a_nil)))
    (ss_cons (s_expr (e_call (ok_check_chain T) (hr.mono (by decide)) hgd (by rfl) T.g_check_chain T.F_check_chain.kp T.b_check_chain pass0 (a_cons (e_var 1 (pv 1)) a_nil)))
    (ss_cons (s_setL (i := 2) sc_stages.nd rfl (.inl rfl) (e_lstL a_nil))
    (ss_cons (s_for PassesOwn.never rfl (i_items (e_var 1 (pv 1))) (g_tup rfl (gs_cons (g_name (pg_name (i := 3) sc_stages.nd rfl (.inl rfl))) (gs_cons (g_name (pg_name (i := 4) sc_stages.nd rfl (.inl rfl))) gs_nil))) (ss_cons (s_set (i := 0) sc_stages.nd rfl (.inl rfl) (e_call (ok_round_once T) (hr.mono (by decide)) hgd (by rfl) T.g_round_once T.F_round_once.kp T.b_round_once pass0 (a_cons (e_var 0 (pv 0)) (a_cons (e_var 3 (pv 3)) (a_cons (e_var 4 (pv 4)) a_nil)))))
    (ss_one (s_app (name := "x") (pv 2) (e_var 0 (pv 0)) (fun h => pe_bm PySem.F.plainAttrs_list PySem.F.slot_list_append PySem.F.type_list_append mt_append (pv 2) h)))))
    (ss_one (s_ret (e_tuple (by rfl) T.n_tuple (a_cons (e_var 2 (pv 2)) a_nil))))))))
theorem ok_stages (T : Tx w K mg) : Fn P w K mg base CX0 6 T.f_stages T.fd_stages ["number", "chain"] (lift K 2 fs_stages) := fn_data T.F_stages sc_stages b_stages (fun _ _ _ _ _ _ hr hgd => d_stages T hr hgd) p_stages
end
def b_applied : DS :=
  (dRet (dIx (dCall 2 fs_stages (dCons (dVar 0) (dCons (dVar 1) dNil))) (dNeg (dC (.int 1)))))
theorem stag_last : ∀ {c : List (Int × Ru)} {n d : Int}, c ≠ [] → (stagI n d c).getLast? = some (applI n d c)
  | [], _, _, h => absurd rfl h
  | [s], n, d, _ => by
    rw [stagI, stagI, applI, applI]
    rfl
  | s :: t :: c, n, d, _ => by
    have := stag_last (c := t :: c) (n := (roundI n d s.1 s.2).1) (d := (roundI n d s.1 s.2).2) (by simp)
    rw [stagI, applI, ← this, stagI, List.getLast?_cons_cons]
theorem atI_last {α : Type} {xs : List α} {x : α} (h : xs.getLast? = some x) : atI xs (-1) = some x := by
  have h0 : xs ≠ [] := fun e => by subst e; cases h
  have hl : 0 < xs.length := List.length_pos_iff.mpr h0
  have e : ixN xs.length (-1) = some (xs.length - 1) := by
    unfold ixN
    rw [if_neg (by decide), if_pos (by omega)]
    congr 1
    omega
  unfold atI
  rw [e]
  rw [List.getLast?_eq_getElem?] at h
  exact h
def fs_applied : FSp := fun rs fu post => ∃ (n d : Int) (c : List (Int × Ru)), rs = [.val (num n d), .val (chD c)] ∧ NuB 1000 n d ∧ Chn1 c ∧ post (.val (nm (applI n d c))) fu
theorem p_applied (rs : List Rv) (fu : Option Nat) (post : Rr → Option Nat → Prop) (hl : rs.length = 2) (h : fs_applied rs fu post) : b_applied ⟨fun g => post (.val .none) g.fu, fun r g => post r g.fu, fun _ => False, fun _ => False⟩ (ent N_applied rs fu) := by
  obtain ⟨n, d, c, rfl, hn, hc, h⟩ := h
  simp_arith [b_applied, fs_stages]
  refine ⟨n, d, c, rfl, hn, hc, ?_⟩
  have e : atI (stagD n d c) (-1) = some (nm (applI n d c)) := by
    refine atI_last ?_
    unfold stagD
    rw [List.getLast?_map, stag_last hc.ne]
    rfl
  show match atI (stagD n d c) (-1) with | some z => _ | none => _
  rw [e]
  exact h
section
variable {P : Program} {w : World} {K : Fg} {mg : Str → Option Value} {base : Heap}
theorem d_applied (T : Tx w K mg) {cdv : Value} {A : Around} {outer : List Env} {s : Shared} {H : Hp} {E : XK} (hr : Room 6 (A.deeper (envOfC "applied" (defScope st_applied) s.heap.objs.size T.f_applied cdv))) (hgd : (A.deeper (envOfC "applied" (defScope st_applied) s.heap.objs.size T.f_applied cdv)).guards = some []) :
    PSs (cxOf CX0 P w K mg base N_applied "applied" (defScope st_applied) T.f_applied cdv A outer s H E).nox (defBody st_applied) (upS K W0 b_applied) :=
  (ss_one (s_ret (e_ix (e_call (ok_stages T) (hr.mono (by decide)) hgd (by rfl) T.g_stages T.F_stages.kp T.b_stages pass0 (a_cons (e_var 0 (pv 0)) (a_cons (e_var 1 (pv 1)) a_nil))) (e_neg e_int))))
theorem ok_applied (T : Tx w K mg) : Fn P w K mg base CX0 7 T.f_applied T.fd_applied ["number", "chain"] (lift K 2 fs_applied) := fn_data T.F_applied sc_applied b_applied (fun _ _ _ _ _ _ hr hgd => d_applied T hr hgd) p_applied
end
def b_trimmed : DS :=
  (dSeq (dDrop (dCall 1 fs_check_chain (dCons (dVar 0) dNil)))
  (dSeq (dParL 1 2 (dLst dNil) .none)
  (dSeq (dFor (dItems (dVar 0)) (dT 2 (dTc (dN 3) (dTc (dN 4) dTn)))
    (dIfS (dOrT (dTest (dIsN false (dVar 2))) (dTest (dBin oLt (dVar 3) (dVar 2))))
    (dSeq (dApp 1 (dTup (dCons (dVar 3) (dCons (dVar 4) dNil))))
  (dAsg (dVar 3) (dN 2)))
    dNext))
  (dRet (dCB cTuple (dCons (dVar 1) dNil))))))
def fs_trimmed : FSp := fun rs fu post => ∃ c : List (Int × Ru), rs = [.val (chD c)] ∧ Chn1 c ∧ post (.val (chD (trimI none c))) fu
def trB : DS := (dIfS (dOrT (dTest (dIsN false (dVar 2))) (dTest (dBin oLt (dVar 3) (dVar 2))))
    (dSeq (dApp 1 (dTup (dCons (dVar 3) (dCons (dVar 4) dNil))))
  (dAsg (dVar 3) (dN 2)))
    dNext)
def optI : Option Int → Da
  | none => .none
  | some i => .int i
theorem p_trB {D : DEnds} {x : Option Sv} {fu : Option Nat} : ∀ {c : List (Int × Ru)} {l : Option Int} {acc : List (Int × Ru)} {y z : Option Sv}, acc.length + c.length ≤ 100 →
    (∀ (l' : Option Int) (y z : Option Sv), D.nx ⟨[x, some (.own ((acc ++ trimI l c).map stD)), some (.val (optI l')), y, z], fu, fu.isNone⟩) →
    forD (dT 2 (dTc (dN 3) (dTc (dN 4) dTn))) trB (c.map stD) D ⟨[x, some (.own (acc.map stD)), some (.val (optI l)), y, z], fu, fu.isNone⟩
  | [], l, acc, y, z, _, h => by
    have := h l y z
    have e2 : trimI l ([] : List (Int × Ru)) = [] := by cases l <;> rfl
    rw [e2, List.append_nil] at this
    exact this
  | s :: c, l, acc, y, z, hl, h => by
    have ih1 : (∀ (l' : Option Int) (y z : Option Sv), D.nx ⟨[x, some (.own ((acc ++ s :: trimI (some s.1) c).map stD)), some (.val (optI l')), y, z], fu, fu.isNone⟩) →
        forD (dT 2 (dTc (dN 3) (dTc (dN 4) dTn))) trB (c.map stD) D ⟨[x, some (.own (acc.map stD ++ [stD s])), some (.val (.int s.1)), some (.val (.int s.1)), some (.val (.str s.2.s))], fu, fu.isNone⟩ := fun h' => by
      have ih := p_trB (D := D) (x := x) (fu := fu) (c := c) (l := some s.1) (acc := acc ++ [s]) (y := some (.val (.int s.1))) (z := some (.val (.str s.2.s))) (by simp only [List.length_append, List.length_cons, List.length_nil] at hl ⊢; omega) (fun l' y z => by
        have := h' l' y z
        rw [List.append_assoc]
        exact this)
      rw [List.map_append] at ih
      exact ih
    have hlen : (acc.map stD).length < 1000000 := by rw [List.length_map]; simp only [List.length_cons] at hl; omega
    show dT 2 _ (.val (.tuple [.int s.1, .str s.2.s])) _ _
    cases l with
    | none =>
      simp_arith [trB, optI, Z.isNon]
      exact ⟨⟨_, rfl⟩, hlen, ih1 fun l' y z => by have := h l' y z; rw [trimI] at this; exact this⟩
    | some l =>
      simp_arith [trB, optI, Z.isNon]
      refine ⟨fun q => ⟨⟨_, rfl⟩, hlen, ih1 fun l' y z => by have := h l' y z; rw [trimI, if_pos q] at this; exact this⟩, fun q => ?_⟩
      have ih := p_trB (D := D) (x := x) (fu := fu) (c := c) (l := some l) (acc := acc) (y := some (.val (.int s.1))) (z := some (.val (.str s.2.s))) (by simp only [List.length_cons] at hl; omega) (fun l' y z => by
        have := h l' y z
        rw [trimI, if_neg q] at this
        exact this)
      exact ih
theorem p_trimmed (rs : List Rv) (fu : Option Nat) (post : Rr → Option Nat → Prop) (hl : rs.length = 1) (h : fs_trimmed rs fu post) : b_trimmed ⟨fun g => post (.val .none) g.fu, fun r g => post r g.fu, fun _ => False, fun _ => False⟩ (ent N_trimmed rs fu) := by
  obtain ⟨c, rfl, hc, h⟩ := h
  simp_arith [b_trimmed, fs_check_chain]
  refine ⟨_, rfl, hc.is, ?_⟩
  unfold chD
  simp_arith [dParL]
  refine p_trB (acc := []) (l := none) (by have := hc.len; simp; omega) (fun l y z => ?_)
  simp_arith [Nat.zero_add]
  exact h
section
variable {P : Program} {w : World} {K : Fg} {mg : Str → Option Value} {base : Heap}
theorem d_trimmed (T : Tx w K mg) {cdv : Value} {A : Around} {outer : List Env} {s : Shared} {H : Hp} {E : XK} (hr : Room 5 (A.deeper (envOfC "trimmed" (defScope st_trimmed) s.heap.objs.size T.f_trimmed cdv))) (hgd : (A.deeper (envOfC "trimmed" (defScope st_trimmed) s.heap.objs.size T.f_trimmed cdv)).guards = some []) :
    PSs (cxOf CX0 P w K mg base N_trimmed "trimmed" (defScope st_trimmed) T.f_trimmed cdv A outer s H E).nox (defBody st_trimmed) (upS K W0 b_trimmed) :=
  (ss_cons (s_expr (e_call (ok_check_chain T) (hr.mono (by decide)) hgd (by rfl) T.g_check_chain T.F_check_chain.kp T.b_check_chain pass0 (a_cons (e_var 0 (pv 0)) a_nil)))
    (ss_cons (s_parL (i := 1) (j := 2) rfl sc_trimmed.nd rfl rfl (by decide) rfl rfl (e_lstL a_nil) pe_non (fun _ => .non))
    (ss_cons (s_for PassesOwn.never rfl (i_items (e_var 0 (pv 0))) (g_tup rfl (gs_cons (g_name (pg_name (i := 3) sc_trimmed.nd rfl (.inl rfl))) (gs_cons (g_name (pg_name (i := 4) sc_trimmed.nd rfl (.inl rfl))) gs_nil))) (ss_one (s_if (PW.pt (w_or (t_isN (e_var 2 (pv 2))) (w_or1 (t_lt (e_var 3 (pv 3)) (e_var 2 (pv 2)))))) (ss_cons (s_app (name := "x") (pv 1) (e_tup (a_cons (e_var 3 (pv 3)) (a_cons (e_var 4 (pv 4)) a_nil))) (fun h => pe_bm PySem.F.plainAttrs_list PySem.F.slot_list_append PySem.F.type_list_append mt_append (pv 1) h))
    (ss_one (s_set (i := 2) sc_trimmed.nd rfl (.inl rfl) (e_var 3 (pv 3))))) ss_nil)))
    (ss_one (s_ret (e_tuple (by rfl) T.n_tuple (a_cons (e_var 1 (pv 1)) a_nil)))))))
theorem ok_trimmed (T : Tx w K mg) : Fn P w K mg base CX0 6 T.f_trimmed T.fd_trimmed ["chain"] (lift K 1 fs_trimmed) := fn_data T.F_trimmed sc_trimmed b_trimmed (fun _ _ _ _ _ _ hr hgd => d_trimmed T hr hgd) p_trimmed
end
def b_last_down : DS :=
  (dSeq (dAsg (dIx (dBy tab_BY_RULE (dVar 0)) (dVar 2)) (dT 2 (dTc (dN 3) (dTc (dN 4) dTn))))
  (dSeq (dAsg (dBin oShl (dC (.int 1)) (dVar 1)) (dN 5))
  (dSeq (dAsg (dBin oDiv (dBin oMul (dIx (dVar 3) (dC (.int 0))) (dVar 5)) (dIx (dVar 3) (dC (.int 1)))) (dN 6))
  (dRet (dIf (dTest (dBin fEq (dVar 4) (dC (.str "down")))) (dVar 6) (dBin oSub (dVar 6) (dC (.int 1))))))))
theorem tab_by (r : Ru) : tab_BY_RULE r = prF (byR r) := by cases r <;> rfl
def fs_last_down : FSp := fun rs fu post => ∃ (r : Ru) (far par : Int), rs = [.val (.str r.s), .val (.int far), .val (.int par)] ∧ 1 ≤ far ∧ far ≤ 200 ∧ 0 ≤ par ∧ par ≤ 1 ∧ post (.val (.int (lastI r far.toNat (decide (par = 1))))) fu
theorem p_last_down (rs : List Rv) (fu : Option Nat) (post : Rr → Option Nat → Prop) (hl : rs.length = 3) (h : fs_last_down rs fu post) : b_last_down ⟨fun g => post (.val .none) g.fu, fun r g => post r g.fu, fun _ => False, fun _ => False⟩ (ent N_last_down rs fu) := by
  obtain ⟨r, far, par, rfl, h1, h2, p0, p1, h⟩ := h
  simp_arith [b_last_down]
  refine ⟨r, rfl, ?_⟩
  have e : (if par = 1 then thD (byR r true) else thD (byR r false)) = thD (byR r (decide (par = 1))) := by
    by_cases q : par = 1
    · rw [if_pos q, decide_eq_true q]
    · rw [if_neg q, decide_eq_false q]
  have b1 : Bn 64 (1 : Int) := Bn.small (by decide) (by decide) (by decide)
  have ok := byR_ok r (decide (par = 1))
  obtain ⟨t1, t2⟩ := (byR_B r).bn (decide (par = 1))
  have bp : Bn 202 ((2 : Int) ^ far.toNat) := Bn.pow2 (by omega)
  unfold lastI at h
  rw [tab_by]
  simp_arith [prF]
  rw [atI_par p0 p1, e]
  generalize byR r (decide (par = 1)) = t at *
  simp_arith [thD, Int.one_mul]
  refine ⟨shlX 64 b1 (by omega) (by omega), mulX 2 202 t1 bp (by decide), divX 2 ok.d0 t2 (by decide), shaped_sd _, shaped_dn, ?_⟩
  refine ⟨fun z => ?_, fun z => ?_⟩
  · rw [if_pos ((dec_dn _).mp z)] at h
    exact h
  · rw [if_neg (fun q => z ((dec_dn _).mpr q))] at h
    exact h
section
variable {P : Program} {w : World} {K : Fg} {mg : Str → Option Value} {base : Heap}
theorem d_last_down (T : Tx w K mg) {cdv : Value} {A : Around} {outer : List Env} {s : Shared} {H : Hp} {E : XK} (hr : Room 0 (A.deeper (envOfC "last_down" (defScope st_last_down) s.heap.objs.size T.f_last_down cdv))) (hgd : (A.deeper (envOfC "last_down" (defScope st_last_down) s.heap.objs.size T.f_last_down cdv)).guards = some []) :
    PSs (cxOf CX0 P w K mg base N_last_down "last_down" (defScope st_last_down) T.f_last_down cdv A outer s H E).nox (defBody st_last_down) (upS K W0 b_last_down) :=
  (ss_cons (s_asg (e_ix (e_by (by rfl) T.c_BY_RULE T.k_BY_RULE (e_var 0 (pv 0))) (e_var 2 (pv 2))) (g_tup rfl (gs_cons (g_name (pg_name (i := 3) sc_last_down.nd rfl (.inl rfl))) (gs_cons (g_name (pg_name (i := 4) sc_last_down.nd rfl (.inl rfl))) gs_nil))))
    (ss_cons (s_set (i := 5) sc_last_down.nd rfl (.inl rfl) (e_shl e_int (e_var 1 (pv 1))))
    (ss_cons (s_set (i := 6) sc_last_down.nd rfl (.inl rfl) (e_div (e_mul (e_ix (e_var 3 (pv 3)) e_int) (e_var 5 (pv 5))) (e_ix (e_var 3 (pv 3)) e_int)))
    (ss_one (s_ret (e_if (t_eq hr.units (e_var 4 (pv 4)) (e_glob (by rfl) T.c_DOWN T.v_DOWN T.r_DOWN)) (e_var 6 (pv 6)) (e_sub (e_var 6 (pv 6)) e_int)))))))
theorem ok_last_down (T : Tx w K mg) : Fn P w K mg base CX0 1 T.f_last_down T.fd_last_down ["rule", "far", "parity"] (lift K 3 fs_last_down) := fn_data T.F_last_down sc_last_down b_last_down (fun _ _ _ _ _ _ hr hgd => d_last_down T hr hgd) p_last_down
end
def b_combined : DS :=
  (dSeq (dSetL 3 (dLst dNil))
  (dSeq (dFor (dItems (dTup (dCons (dC (.int 0)) (dCons (dC (.int 1)) dNil)))) (dN 4)
    (dSeq (dAsg (dCall 3 fs_last_down (dCons (dVar 1) (dCons (dVar 2) (dCons (dVar 4) dNil)))) (dN 5))
  (dSeq (dAsg (dIx (dVar 0) (dBin oMod (dVar 5) (dC (.int 2)))) (dT 2 (dTc (dT 2 (dTc (dN 6) (dTc (dN 7) dTn))) (dTc (dN 8) dTn))))
  (dApp 3 (dTup (dCons (dCall 2 fs_lowest (dCons (dBin fAdd (dBin oMul (dVar 5) (dVar 7)) (dVar 6)) (dCons (dBin oShl (dVar 7) (dVar 2)) dNil))) (dCons (dVar 8) dNil)))))))
  (dRet (dCB cTuple (dCons (dVar 3) dNil)))))
def fs_combined : FSp := fun rs fu post => ∃ (T : Bool → Th) (m : Nat) (r : Ru) (far : Int), rs = [.val (prF T), .val (.str r.s), .val (.int far)] ∧ ThB m T ∧ m ≤ 400 ∧ 1 ≤ far ∧ far ≤ 200 ∧ post (.val (prF (combI T r far.toNat))) fu
theorem p_combined (rs : List Rv) (fu : Option Nat) (post : Rr → Option Nat → Prop) (hl : rs.length = 3) (h : fs_combined rs fu post) : b_combined ⟨fun g => post (.val .none) g.fu, fun r g => post r g.fu, fun _ => False, fun _ => False⟩ (ent N_combined rs fu) := by
  obtain ⟨T, m, r, far, rfl, hT, hm, h1, h2, h⟩ := h
  have bp : Bn 202 ((2 : Int) ^ far.toNat) := Bn.pow2 (by omega)
  have bi : ∀ b, 0 ≤ lastI r far.toNat b ∧ Bn 202 (lastI r far.toNat b) := fun b => by
    obtain ⟨l0, l1⟩ := last_rng (r := r) (b := b) (show 1 ≤ far.toNat by omega)
    exact ⟨l0, bp.le l0 (Int.le_of_lt l1)⟩
  have bd : ∀ b, Bn 401 (T b).n ∧ Bn 401 (T b).d := fun b => ⟨(hT.bn b).1.mono (by omega), (hT.bn b).2.mono (by omega)⟩
  have gd : ∀ b, 0 < (T b).d * 2 ^ far.toNat ∧ Bn 900 ((T b).d * 2 ^ far.toNat) := fun b => ⟨Int.mul_pos (hT.ok b).d0 (pow2_pos _), (shlB (bd b).2).mono (by omega)⟩
  have key : ∀ b i, lastI r far.toNat b = i → (T (decide (i % 2 = 1))).n = (T (decide (i % 2 = 1))).n := fun _ _ _ => rfl
  simp_arith [b_combined, forD, fs_last_down]
  refine ⟨r, far, 0, rfl, h1, h2, by decide, by decide, ?_⟩
  rw [show (decide ((0 : Int) = 1)) = false from rfl]
  simp_arith [prF]
  rw [pick_par]
  simp_arith [thD, fs_lowest]
  refine ⟨⟨_, rfl⟩, mulX 202 401 (bi _).2 (bd _).2 (by decide), shlX 401 (bd _).2 (by omega) (by omega), _, _, rfl, ?_, (gd _).1, (gd _).2.mono (by decide), ?_⟩
  · have := Int.mul_nonneg (bi false).1 (Int.le_of_lt (hT.ok (decide (lastI r far.toNat false % 2 = 1))).d0)
    have := (hT.ok (decide (lastI r far.toNat false % 2 = 1))).n0
    omega
  refine ⟨by simp, r, far, 1, rfl, h1, h2, by decide, by decide, ?_⟩
  have pp := pick_par (T := T) (k := lastI r far.toNat true)
  simp only [thD] at pp
  rw [show (decide ((1 : Int) = 1)) = true from rfl, pp]
  simp_arith [thD, fs_lowest]
  refine ⟨⟨_, rfl⟩, mulX 202 401 (bi _).2 (bd _).2 (by decide), shlX 401 (bd _).2 (by omega) (by omega), _, _, rfl, ?_, (gd _).1, (gd _).2.mono (by decide), ?_⟩
  · have := Int.mul_nonneg (bi true).1 (Int.le_of_lt (hT.ok (decide (lastI r far.toNat true % 2 = 1))).d0)
    have := (hT.ok (decide (lastI r far.toNat true % 2 = 1))).n0
    omega
  exact ⟨by decide, h⟩
section
variable {P : Program} {w : World} {K : Fg} {mg : Str → Option Value} {base : Heap}
theorem d_combined (T : Tx w K mg) {cdv : Value} {A : Around} {outer : List Env} {s : Shared} {H : Hp} {E : XK} (hr : Room 2 (A.deeper (envOfC "combined" (defScope st_combined) s.heap.objs.size T.f_combined cdv))) (hgd : (A.deeper (envOfC "combined" (defScope st_combined) s.heap.objs.size T.f_combined cdv)).guards = some []) :
    PSs (cxOf CX0 P w K mg base N_combined "combined" (defScope st_combined) T.f_combined cdv A outer s H E).nox (defBody st_combined) (upS K W0 b_combined) :=
  (ss_cons (s_setL (i := 3) sc_combined.nd rfl (.inl rfl) (e_lstL a_nil))
    (ss_cons (s_for PassesOwn.never rfl (i_items (e_tup (a_cons e_int (a_cons e_int a_nil)))) (g_name (pg_name (i := 4) sc_combined.nd rfl (.inl rfl))) (ss_cons (s_set (i := 5) sc_combined.nd rfl (.inl rfl) (e_call (ok_last_down T) (hr.mono (by decide)) hgd (by rfl) T.g_last_down T.F_last_down.kp T.b_last_down pass0 (a_cons (e_var 1 (pv 1)) (a_cons (e_var 2 (pv 2)) (a_cons (e_var 4 (pv 4)) a_nil)))))
    (ss_cons (s_asg (e_ix (e_var 0 (pv 0)) (e_mod (e_var 5 (pv 5)) e_int)) (g_tup rfl (gs_cons (g_tup rfl (gs_cons (g_name (pg_name (i := 6) sc_combined.nd rfl (.inl rfl))) (gs_cons (g_name (pg_name (i := 7) sc_combined.nd rfl (.inl rfl))) gs_nil))) (gs_cons (g_name (pg_name (i := 8) sc_combined.nd rfl (.inl rfl))) gs_nil))))
    (ss_one (s_app (name := "x") (pv 3) (e_tup (a_cons (e_call (ok_lowest T) (hr.mono (by decide)) hgd (by rfl) T.g_lowest T.F_lowest.kp T.b_lowest pass0 (a_cons (e_add (e_mul (e_var 5 (pv 5)) (e_var 7 (pv 7))) (e_var 6 (pv 6))) (a_cons (e_shl (e_var 7 (pv 7)) (e_var 2 (pv 2))) a_nil))) (a_cons (e_var 8 (pv 8)) a_nil))) (fun h => pe_bm PySem.F.plainAttrs_list PySem.F.slot_list_append PySem.F.type_list_append mt_append (pv 3) h))))))
    (ss_one (s_ret (e_tuple (by rfl) T.n_tuple (a_cons (e_var 3 (pv 3)) a_nil))))))
theorem ok_combined (T : Tx w K mg) : Fn P w K mg base CX0 3 T.f_combined T.fd_combined ["pair", "rule", "far"] (lift K 3 fs_combined) := fn_data T.F_combined sc_combined b_combined (fun _ _ _ _ _ _ hr hgd => d_combined T hr hgd) p_combined
end
def b_thresholds : DS :=
  (dSeq (dAsg (dCall 1 fs_trimmed (dCons (dVar 0) dNil)) (dN 1))
  (dSeq (dAsg (dIx (dVar 1) (dC (.int 0))) (dT 2 (dTc (dN 2) (dTc (dN 3) dTn))))
  (dSeq (dAsg (dBy tab_BY_RULE (dVar 3)) (dN 4))
  (dSeq (dFor (dItems (dSl (dVar 1) (oSo (dC (.int 1))) oNo)) (dT 2 (dTc (dN 5) (dTc (dN 3) dTn)))
    (dSeq (dAsg (dCall 3 fs_combined (dCons (dVar 4) (dCons (dVar 3) (dCons (dBin oSub (dVar 2) (dVar 5)) dNil)))) (dN 4))
  (dAsg (dVar 5) (dN 2))))
  (dRet (dIf (dTest (dBin oGt (dVar 2) (dC (.int 1)))) (dVar 4) (dTup (dCons (dC .none) (dCons (dIx (dVar 4) (dC (.int 1))) dNil)))))))))
def fs_thresholds : FSp := fun rs fu post => ∃ c : List (Int × Ru), rs = [.val (chD c)] ∧ Chn1 c ∧ post (.val (Z.prD (chT c).1 (chT c).2)) fu
def thB : DS := (dSeq (dAsg (dCall 3 fs_combined (dCons (dVar 4) (dCons (dVar 3) (dCons (dBin oSub (dVar 2) (dVar 5)) dNil)))) (dN 4))
  (dAsg (dVar 5) (dN 2)))
theorem p_thB {D : DEnds} {x y : Option Sv} {fu : Option Nat} : ∀ {c : List (Int × Ru)} {w : Int} {T : Bool → Th} {m : Nat} {u v : Option Sv}, Fall w c → 1 ≤ w → ThB m T → (m : Int) + w ≤ 101 →
    (∀ (u v : Option Sv), D.nx ⟨[x, y, some (.val (.int (thF w T c).1)), u, some (.val (prF (thF w T c).2)), v], fu, fu.isNone⟩) →
    forD (dT 2 (dTc (dN 5) (dTc (dN 3) dTn))) thB (c.map stD) D ⟨[x, y, some (.val (.int w)), u, some (.val (prF T)), v], fu, fu.isNone⟩
  | [], w, T, m, u, v, _, _, _, _, h => h u v
  | s :: c, w, T, m, u, v, hf, hw, hT, hm, h => by
    obtain ⟨f1, f2, f3⟩ := hf
    have e : ((w - s.1).toNat : Int) = w - s.1 := by omega
    have ih := p_thB (D := D) (x := x) (y := y) (fu := fu) (c := c) (w := s.1) (T := combI T s.2 (w - s.1).toNat) (m := m + (w - s.1).toNat) (u := some (.val (.str s.2.s))) (v := some (.val (.int s.1))) f3 f1 (comb_B hT (by omega)) (by omega) h
    show dT 2 _ (.val (.tuple [.int s.1, .str s.2.s])) _ _
    simp_arith [thB, fs_combined]
    exact ⟨T, m, s.2, w - s.1, rfl, hT, by omega, by omega, by omega, ih⟩
theorem sIx_one {n : Nat} (h : 1 ≤ n) : HT.sIx n 0 (some 1) = 1 := by
  show (if (1 : Int) < 0 then ((1 : Int) + (n : Int)).toNat else min (1 : Int).toNat n) = 1
  rw [if_neg (by decide)]
  simp
  omega
theorem cut_tlT {ds : List Da} (h : 1 ≤ ds.length) : Z.cutD ds (some 1) none = ds.drop 1 := by
  unfold Z.cutD
  have e1 : HT.sIx ds.length 0 (some 1) = 1 := by
    show (if (1 : Int) < 0 then ((1 : Int) + (ds.length : Int)).toNat else min (1 : Int).toNat ds.length) = 1
    rw [if_neg (by decide)]
    simp
    omega
  rw [e1, HT.sIx_none, List.take_of_length_le (by rw [List.length_drop]; omega)]
theorem p_thresholds (rs : List Rv) (fu : Option Nat) (post : Rr → Option Nat → Prop) (hl : rs.length = 1) (h : fs_thresholds rs fu post) : b_thresholds ⟨fun g => post (.val .none) g.fu, fun r g => post r g.fu, fun _ => False, fun _ => False⟩ (ent N_thresholds rs fu) := by
  obtain ⟨c, rfl, hc, h⟩ := h
  obtain ⟨hB, w1, w2⟩ := chT_B hc.ne hc.w
  cases c with
  | nil => exact absurd rfl hc.ne
  | cons s c =>
    have hd := hc.w.hd
    simp_arith [b_thresholds, fs_trimmed]
    refine ⟨_, rfl, hc, ?_⟩
    rw [trimI]
    have e1 : 1 ≤ ((s :: trimI (some s.1) c).map stD).length := by simp
    unfold chD
    rw [List.map_cons]
    have e2 : stD s = .tuple [.int s.1, .str s.2.s] := rfl
    rw [e2]
    simp_arith [Nat.zero_add]
    refine ⟨s.2, rfl, ?_⟩
    rw [tab_by]
    have ec : Z.cutD (PyData.tuple [PyData.int s.fst, PyData.str s.snd.s] :: List.map stD (trimI (some s.fst) c)) (some 1) none = List.map stD (trimI (some s.fst) c) := by
      rw [cut_tlT (by simp)]
      rfl
    rw [ec]
    refine ⟨fun q => absurd q.1 ?_, ?_⟩
    · rw [sIx_one (by omega)]
      decide
    have e3 : chT (s :: c) = thF s.1 (byR s.2) (trimI (some s.1) c) := rfl
    rw [e3] at h w1
    refine p_thB (m := 1) (trim_fall hc.w.tl) hd.1 (byR_B _) (by omega) fun u v => ?_
    generalize thF s.1 (byR s.2) (trimI (some s.1) c) = z at *
    simp_arith [prF]
    refine ⟨fun q => ?_, fun q => ?_⟩
    · simp only [Z.prD] at h
      rw [if_neg (by omega)] at h
      exact h
    · simp only [Z.prD] at h
      rw [if_pos (by omega)] at h
      exact h
section
variable {P : Program} {w : World} {K : Fg} {mg : Str → Option Value} {base : Heap}
theorem d_thresholds (T : Tx w K mg) {cdv : Value} {A : Around} {outer : List Env} {s : Shared} {H : Hp} {E : XK} (hr : Room 6 (A.deeper (envOfC "thresholds" (defScope st_thresholds) s.heap.objs.size T.f_thresholds cdv))) (hgd : (A.deeper (envOfC "thresholds" (defScope st_thresholds) s.heap.objs.size T.f_thresholds cdv)).guards = some []) :
    PSs (cxOf CX0 P w K mg base N_thresholds "thresholds" (defScope st_thresholds) T.f_thresholds cdv A outer s H E).nox (defBody st_thresholds) (upS K W0 b_thresholds) :=
  (ss_cons (s_set (i := 1) sc_thresholds.nd rfl (.inl rfl) (e_call (ok_trimmed T) (hr.mono (by decide)) hgd (by rfl) T.g_trimmed T.F_trimmed.kp T.b_trimmed pass0 (a_cons (e_var 0 (pv 0)) a_nil)))
    (ss_cons (s_asg (e_ix (e_var 1 (pv 1)) e_int) (g_tup rfl (gs_cons (g_name (pg_name (i := 2) sc_thresholds.nd rfl (.inl rfl))) (gs_cons (g_name (pg_name (i := 3) sc_thresholds.nd rfl (.inl rfl))) gs_nil))))
    (ss_cons (s_set (i := 4) sc_thresholds.nd rfl (.inl rfl) (e_by (by rfl) T.c_BY_RULE T.k_BY_RULE (e_var 3 (pv 3))))
    (ss_cons (s_for PassesOwn.never rfl (i_items (e_sl (e_var 1 (pv 1)) (o_some e_int) o_none)) (g_tup rfl (gs_cons (g_name (pg_name (i := 5) sc_thresholds.nd rfl (.inl rfl))) (gs_cons (g_name (pg_name (i := 3) sc_thresholds.nd rfl (.inl rfl))) gs_nil))) (ss_cons (s_set (i := 4) sc_thresholds.nd rfl (.inl rfl) (e_call (ok_combined T) (hr.mono (by decide)) hgd (by rfl) T.g_combined T.F_combined.kp T.b_combined pass0 (a_cons (e_var 4 (pv 4)) (a_cons (e_var 3 (pv 3)) (a_cons (e_sub (e_var 2 (pv 2)) (e_var 5 (pv 5))) a_nil)))))
    (ss_one (s_set (i := 2) sc_thresholds.nd rfl (.inl rfl) (e_var 5 (pv 5))))))
    (ss_one (s_ret (e_if (t_gt (e_var 2 (pv 2)) e_int) (e_var 4 (pv 4)) (e_tup (a_cons e_non (a_cons (e_ix (e_var 4 (pv 4)) e_int) a_nil))))))))))
theorem ok_thresholds (T : Tx w K mg) : Fn P w K mg base CX0 7 T.f_thresholds T.fd_thresholds ["chain"] (lift K 1 fs_thresholds) := fn_data T.F_thresholds sc_thresholds b_thresholds (fun _ _ _ _ _ _ hr hgd => d_thresholds T hr hgd) p_thresholds
end
def b_check_chains : DS :=
  (dSeq (dDrop (dCall 1 fs_check_chain (dCons (dVar 0) dNil)))
  (dDrop (dCall 1 fs_check_chain (dCons (dVar 1) dNil))))
def fs_check_chains : FSp := fun rs fu post => ∃ v u, rs = [.val v, .val u] ∧ isChn v = true ∧ isChn u = true ∧ post (.val .none) fu
theorem p_check_chains (rs : List Rv) (fu : Option Nat) (post : Rr → Option Nat → Prop) (hl : rs.length = 2) (h : fs_check_chains rs fu post) : b_check_chains ⟨fun g => post (.val .none) g.fu, fun r g => post r g.fu, fun _ => False, fun _ => False⟩ (ent N_check_chains rs fu) := by
  obtain ⟨v, u, rfl, hv, hu, h⟩ := h
  simp_arith [b_check_chains, fs_check_chain]
  exact ⟨v, rfl, hv, u, rfl, hu, h⟩
section
variable {P : Program} {w : World} {K : Fg} {mg : Str → Option Value} {base : Heap}
theorem d_check_chains (T : Tx w K mg) {cdv : Value} {A : Around} {outer : List Env} {s : Shared} {H : Hp} {E : XK} (hr : Room 5 (A.deeper (envOfC "check_chains" (defScope st_check_chains) s.heap.objs.size T.f_check_chains cdv))) (hgd : (A.deeper (envOfC "check_chains" (defScope st_check_chains) s.heap.objs.size T.f_check_chains cdv)).guards = some []) :
    PSs (cxOf CX0 P w K mg base N_check_chains "check_chains" (defScope st_check_chains) T.f_check_chains cdv A outer s H E).nox (defBody st_check_chains) (upS K W0 b_check_chains) :=
  (ss_cons (s_expr (e_call (ok_check_chain T) (hr.mono (by decide)) hgd (by rfl) T.g_check_chain T.F_check_chain.kp T.b_check_chain pass0 (a_cons (e_var 0 (pv 0)) a_nil)))
    (ss_one (s_expr (e_call (ok_check_chain T) (hr.mono (by decide)) hgd (by rfl) T.g_check_chain T.F_check_chain.kp T.b_check_chain pass0 (a_cons (e_var 1 (pv 1)) a_nil)))))
theorem ok_check_chains (T : Tx w K mg) : Fn P w K mg base CX0 6 T.f_check_chains T.fd_check_chains ["one", "other"] (lift K 2 fs_check_chains) := fn_data T.F_check_chains sc_check_chains b_check_chains (fun _ _ _ _ _ _ hr hgd => d_check_chains T hr hgd) p_check_chains
end
def b_same : DS :=
  (dSeq (dDrop (dCall 2 fs_check_chains (dCons (dVar 0) (dCons (dVar 1) dNil))))
  (dRet (dAndV (dBin fEq (dCall 1 fs_last_width (dCons (dVar 0) dNil)) (dCall 1 fs_last_width (dCons (dVar 1) dNil))) (dBin fEq (dCall 1 fs_thresholds (dCons (dVar 0) dNil)) (dCall 1 fs_thresholds (dCons (dVar 1) dNil))))))
def sameB (c c' : List (Int × Ru)) : Bool := decide ((chT c).1 = (chT c').1) && (Z.prD (chT c).1 (chT c).2).eqv (Z.prD (chT c').1 (chT c').2)
def fs_same : FSp := fun rs fu post => ∃ c c' : List (Int × Ru), rs = [.val (chD c), .val (chD c')] ∧ Chn1 c ∧ Chn1 c' ∧ post (.val (.bool (sameB c c'))) fu
theorem p_same (rs : List Rv) (fu : Option Nat) (post : Rr → Option Nat → Prop) (hl : rs.length = 2) (h : fs_same rs fu post) : b_same ⟨fun g => post (.val .none) g.fu, fun r g => post r g.fu, fun _ => False, fun _ => False⟩ (ent N_same rs fu) := by
  obtain ⟨c, c', rfl, hc, hc', h⟩ := h
  simp_arith [b_same, fs_check_chains, fs_last_width, fs_thresholds]
  refine ⟨_, _, rfl, hc.is, hc'.is, c, rfl, hc, c', rfl, hc', fun q => ⟨c, rfl, hc, c', rfl, hc', shaped_prD _ _, shaped_prD _ _, ?_⟩, fun q => ?_⟩
  · unfold sameB at h
    rw [decide_eq_true q, Bool.true_and] at h
    exact h
  · unfold sameB at h
    rw [decide_eq_false q, Bool.false_and] at h
    exact h
section
variable {P : Program} {w : World} {K : Fg} {mg : Str → Option Value} {base : Heap}
theorem d_same (T : Tx w K mg) {cdv : Value} {A : Around} {outer : List Env} {s : Shared} {H : Hp} {E : XK} (hr : Room 7 (A.deeper (envOfC "same" (defScope st_same) s.heap.objs.size T.f_same cdv))) (hgd : (A.deeper (envOfC "same" (defScope st_same) s.heap.objs.size T.f_same cdv)).guards = some []) :
    PSs (cxOf CX0 P w K mg base N_same "same" (defScope st_same) T.f_same cdv A outer s H E).nox (defBody st_same) (upS K W0 b_same) :=
  (ss_cons (s_expr (e_call (ok_check_chains T) (hr.mono (by decide)) hgd (by rfl) T.g_check_chains T.F_check_chains.kp T.b_check_chains pass0 (a_cons (e_var 0 (pv 0)) (a_cons (e_var 1 (pv 1)) a_nil))))
    (ss_one (s_ret (e_and (e_eq hr.units (e_call (ok_last_width T) (hr.mono (by decide)) hgd (by rfl) T.g_last_width T.F_last_width.kp T.b_last_width pass0 (a_cons (e_var 0 (pv 0)) a_nil)) (e_call (ok_last_width T) (hr.mono (by decide)) hgd (by rfl) T.g_last_width T.F_last_width.kp T.b_last_width pass0 (a_cons (e_var 1 (pv 1)) a_nil))) (e_one (e_eq hr.units (e_call (ok_thresholds T) (hr.mono (by decide)) hgd (by rfl) T.g_thresholds T.F_thresholds.kp T.b_thresholds pass0 (a_cons (e_var 0 (pv 0)) a_nil)) (e_call (ok_thresholds T) (hr.mono (by decide)) hgd (by rfl) T.g_thresholds T.F_thresholds.kp T.b_thresholds pass0 (a_cons (e_var 1 (pv 1)) a_nil))))))))
theorem ok_same (T : Tx w K mg) : Fn P w K mg base CX0 8 T.f_same T.fd_same ["one", "other"] (lift K 2 fs_same) := fn_data T.F_same sc_same b_same (fun _ _ _ _ _ _ hr hgd => d_same T hr hgd) p_same
end
def b__law_source : DS :=
  (dSeq (dAsg (dIf (dTest (dBin oLt (dVar 1) (dCB cLen (dCons (dVar 0) dNil)))) (dIx (dVar 0) (dVar 1)) (dC (.int 0))) (dN 2))
  (dSeq (dAsg (dIf (dTest (dBin oGe (dCB oAbs (dCons (dVar 2) dNil)) (dBin oPow (dC (.int 10)) (dC (.int 18))))) (dBin oMod (dCB oAbs (dCons (dVar 2) dNil)) (dBin oPow (dBin oPow (dC (.int 10)) (dC (.int 60))) (dC (.int 4)))) (dC (.int 0))) (dN 3))
  (dRetL (dLst (dCons (dVar 3) (dCons (dBin oMod (dBin fAdd (dBin fAdd (dBin oMul (dBin oMod (dVar 2) (dC (.int 2305843009213693951))) (dC (.int 1000003))) (dBin oMul (dBin oMul (dC (.int 7919)) (dVar 1)) (dVar 1))) (dC (.int 97))) (dC (.int 2305843009213693921))) (dCons (dC (.int 0)) dNil)))))))
def fs__law_source : FSp := fun rs fu post => ∃ (ns : List Int) (k : Int), rs = [.scr ns, .val (.int k)] ∧ 0 ≤ k ∧ k < 1000000 ∧ ∀ x y : Int, 0 ≤ x → x < 2 ^ 1000 → 0 ≤ y → y < modS → post (.own [.int x, .int y, .int 0]) fu
theorem atI_nn {ns : List Int} {k : Int} (h0 : 0 ≤ k) (h : k < ns.length) : ∃ z, atI ns k = some z := by
  unfold atI ixN
  rw [if_pos h0, if_pos h]
  exact ⟨_, List.getElem?_eq_getElem (show k.toNat < ns.length by omega)⟩
theorem pw1 : CPowX 10 18 := ⟨by decide, by decide +kernel⟩
theorem pw2 : CPowX 10 60 := ⟨by decide, by decide +kernel⟩
theorem pw3 : CPowX (10 ^ Int.toNat 60) 4 := ⟨by decide, by decide +kernel⟩
theorem pw4 : (0 : Int) < (10 ^ Int.toNat 60) ^ Int.toNat 4 := by decide +kernel
theorem pw5 : ((10 : Int) ^ Int.toNat 60) ^ Int.toNat 4 ≤ 2 ^ 1000 := by decide +kernel
theorem src_fin {fu : Option Nat} {post : Rr → Option Nat → Prop} {z k : Int} (h1 : 0 ≤ k) (h2 : k < 1000000) (h : ∀ x y : Int, 0 ≤ x → x < 2 ^ 1000 → 0 ≤ y → y < modS → post (.own [.int x, .int y, .int 0]) fu) :
    CMulX (z % 2305843009213693951) 1000003 ∧ CMulX 7919 k ∧ CMulX (7919 * k) k ∧ ∀ x : Int, 0 ≤ x → x < 2 ^ 1000 → post (.own [.int x, .int ((z % 2305843009213693951 * 1000003 + 7919 * k * k + 97) % 2305843009213693921), .int 0]) fu := by
  have a1 := Int.emod_nonneg z (show (2305843009213693951 : Int) ≠ 0 by decide)
  have a2 := Int.emod_lt_of_pos z (show (0 : Int) < 2305843009213693951 by decide)
  refine ⟨mulX 64 64 (Bn.small (by omega) (by omega) (by decide)) (Bn.small (by decide) (by decide) (by decide)) (by decide), mulX 64 64 (Bn.small (by decide) (by decide) (by decide)) (Bn.small (by omega) (by omega) (by decide)) (by decide),
    mulX 64 64 (Bn.small (by omega) (by omega) (by decide)) (Bn.small (by omega) (by omega) (by decide)) (by decide), fun x x0 x1 => h x _ x0 x1 (Int.emod_nonneg _ (by decide)) (Int.emod_lt_of_pos _ (by decide))⟩
/-- the body behind its first statement -/
def srcT : DS := (dSeq (dAsg (dIf (dTest (dBin oGe (dCB oAbs (dCons (dVar 2) dNil)) (dBin oPow (dC (.int 10)) (dC (.int 18))))) (dBin oMod (dCB oAbs (dCons (dVar 2) dNil)) (dBin oPow (dBin oPow (dC (.int 10)) (dC (.int 60))) (dC (.int 4)))) (dC (.int 0))) (dN 3))
  (dRetL (dLst (dCons (dVar 3) (dCons (dBin oMod (dBin fAdd (dBin fAdd (dBin oMul (dBin oMod (dVar 2) (dC (.int 2305843009213693951))) (dC (.int 1000003))) (dBin oMul (dBin oMul (dC (.int 7919)) (dVar 1)) (dVar 1))) (dC (.int 97))) (dC (.int 2305843009213693921))) (dCons (dC (.int 0)) dNil))))))
def srcB : DS := (dSeq (dAsg (dIf (dTest (dBin oLt (dVar 1) (dCB cLen (dCons (dVar 0) dNil)))) (dIx (dVar 0) (dVar 1)) (dC (.int 0))) (dN 2)) srcT)
theorem p_srcT (z : Int) (fu : Option Nat) (post : Rr → Option Nat → Prop) {ns : List Int} {k : Int} (h1 : 0 ≤ k) (h2 : k < 1000000) (h : ∀ x y : Int, 0 ≤ x → x < 2 ^ 1000 → 0 ≤ y → y < modS → post (.own [.int x, .int y, .int 0]) fu) : srcT ⟨fun g => post (.val .none) g.fu, fun r g => post r g.fu, fun _ => False, fun _ => False⟩ ⟨[some (.scr ns), some (.val (.int k)), some (.val (.int z)), none], fu, fu.isNone⟩ := by
  have m0 : ∀ a : Int, 0 ≤ a % (10 ^ Int.toNat 60) ^ Int.toNat 4 ∧ a % (10 ^ Int.toNat 60) ^ Int.toNat 4 < 2 ^ 1000 := fun a => ⟨Int.emod_nonneg _ (Int.ne_of_gt pw4), Int.lt_of_lt_of_le (Int.emod_lt_of_pos _ pw4) pw5⟩
  have p0 : (0 : Int) < 2 ^ 1000 := pow2_pos _
  simp_arith [srcT]
  obtain ⟨f1, f2, f3, f4⟩ := src_fin (z := z) h1 h2 h
  exact ⟨pw1, fun _ => ⟨pw2, pw3, pw4, f1, f2, f3, f4 _ (m0 _).1 (m0 _).2⟩, fun _ => ⟨f1, f2, f3, f4 0 (Int.le_refl 0) p0⟩⟩
theorem p_srcB (fu : Option Nat) (post : Rr → Option Nat → Prop) {ns : List Int} {k : Int} (h1 : 0 ≤ k) (h2 : k < 1000000) (h : ∀ x y : Int, 0 ≤ x → x < 2 ^ 1000 → 0 ≤ y → y < modS → post (.own [.int x, .int y, .int 0]) fu) : srcB ⟨fun g => post (.val .none) g.fu, fun r g => post r g.fu, fun _ => False, fun _ => False⟩ (ent N__law_source [.scr ns, .val (.int k)] fu) := by
  simp_arith [srcB]
  refine ⟨fun hk => ?_, fun hk => p_srcT 0 fu post h1 h2 h⟩
  obtain ⟨z, ez⟩ := atI_nn h1 hk
  rw [ez]
  exact p_srcT z fu post h1 h2 h
theorem p__law_source (rs : List Rv) (fu : Option Nat) (post : Rr → Option Nat → Prop) (hl : rs.length = 2) (h : fs__law_source rs fu post) : b__law_source ⟨fun g => post (.val .none) g.fu, fun r g => post r g.fu, fun _ => False, fun _ => False⟩ (ent N__law_source rs fu) := by
  obtain ⟨ns, k, rfl, h1, h2, h⟩ := h
  exact p_srcB fu post h1 h2 h
section
variable {P : Program} {w : World} {K : Fg} {mg : Str → Option Value} {base : Heap}
theorem d__law_source (T : Tx w K mg) {cdv : Value} {A : Around} {outer : List Env} {s : Shared} {H : Hp} {E : XK} (hr : Room 0 (A.deeper (envOfC "_law_source" (defScope st__law_source) s.heap.objs.size T.f__law_source cdv))) (hgd : (A.deeper (envOfC "_law_source" (defScope st__law_source) s.heap.objs.size T.f__law_source cdv)).guards = some []) :
    PSs (cxOf CX0 P w K mg base N__law_source "_law_source" (defScope st__law_source) T.f__law_source cdv A outer s H E).nox (defBody st__law_source) (upS K W0 b__law_source) :=
  (ss_cons (s_set (i := 2) sc__law_source.nd rfl (.inl rfl) (e_if (t_lt (e_var 1 (pv 1)) (e_len (by rfl) T.n_len (a_cons (e_var 0 (pv 0)) a_nil))) (e_ix (e_var 0 (pv 0)) (e_var 1 (pv 1))) e_int))
    (ss_cons (s_set (i := 3) sc__law_source.nd rfl (.inl rfl) (e_if (t_ge (e_abs (by rfl) T.n_abs (a_cons (e_var 2 (pv 2)) a_nil)) (e_pow e_int e_int)) (e_mod (e_abs (by rfl) T.n_abs (a_cons (e_var 2 (pv 2)) a_nil)) (e_pow (e_pow e_int e_int) e_int)) e_int))
    (ss_one (s_retL (e_lstL (a_cons (e_var 3 (pv 3)) (a_cons (e_mod (e_add (e_add (e_mul (e_mod (e_var 2 (pv 2)) e_int) e_int) (e_mul (e_mul e_int (e_var 1 (pv 1))) (e_var 1 (pv 1)))) e_int) e_int) (a_cons e_int a_nil))))))))
theorem ok__law_source (T : Tx w K mg) : Fn P w K mg base CX0 1 T.f__law_source T.fd__law_source ["_law_script", "_law_k"] (lift K 2 fs__law_source) := fn_data T.F__law_source sc__law_source b__law_source (fun _ _ _ _ _ _ hr hgd => d__law_source T hr hgd) p__law_source
end
/-- a draw: some int below the size, one draw less left -/
def fs__law_draw : FSp := fun rs fu post => ∃ (n : Int) (m : Nat), rs = [.src, .val (.int n)] ∧ fu = some (m + 1) ∧ 0 < n ∧ Bn 9000 n ∧ ∀ i : Int, 0 ≤ i → i < n → post (.val (.int i)) (some m)
theorem at3_0 {x y z : V} : atI [x, y, z] 0 = some x := atI_0
theorem at3_1 {x y z : V} : atI [x, y, z] 1 = some y := atI_1
theorem at3_2 {x y z : V} : atI [x, y, z] 2 = some z := atI_2
section
variable {P : Program} {w : World} {K : Fg} {mg : Str → Option Value} {base : Heap}
/-- behind the draw: all but the source is as it was -/
theorem draw_out {F H : Hp} {a : Addr} {m : Nat} {x y z i : Int} {o : List V} (tk : TabK K F H) (e : Ex F H) (hF : F a = none) (hH : H a = some (.lst o)) (hx : 0 ≤ x ∧ x < 2 ^ 1000 ∧ 0 ≤ y ∧ y < modS ∧ 0 ≤ z ∧ z + m ≤ 2 ^ 40) :
    Out K F H a (some (m + 1)) (some m) F (upd H a (.lst [.int x, .int y, .int z])) (.int i) (.val (.int i)) := by
  refine ⟨Ex.refl F, fun b u q => ?_, fun b u hb _ q => ?_, fun b q => .inl q, fun _ => ⟨m, rfl, hF, x, y, z, upd_same, hx⟩, Rp.int i, .but hH (fun _ z => by cases z) fun b u nb q => by rw [upd_ne nb]; exact q, tk.but hH (fun _ z => by cases z) fun b u nb q => by rw [upd_ne nb]; exact q⟩
  · rw [upd_ne (fun h => by rw [h, hF] at q; cases q)]; exact e b u q
  · rw [upd_ne (hb (fun h => nomatch h))]; exact q
theorem ok__law_draw (T : Tx w K mg) : Fn P w K mg base CX0 1 T.f__law_draw T.fd__law_draw ["_law_source_here", "_law_size"] (lift K 2 fs__law_draw) := by
  refine fn_by T.F__law_draw sc__law_draw lift_len fun cdv A outer s H vs Q E hr hg h => ?_
  obtain ⟨F, a, rs, fu, post, e, tm, hlen, hsrc, tk, ⟨n, m, rfl, rfl, n0, nB, hp⟩, hq⟩ := h
  obtain ⟨hF, x, y, z, hH, x0, x1, y0, y1, z0, z1⟩ := hsrc (m + 1) rfl
  have hv : vs = [.ref a, .int n] := by
    cases tm with
    | cons h1 t =>
      cases t.i1
      rw [h1.1]
  subst hv
  have zB : z < 2 ^ 40 := by omega
  have e40 : (2 : Int) ^ 40 = 1099511627776 := by decide
  rw [e40] at zB z1
  refine ⟨_, PSs.nox (pss_cons (ps_if (pt_cmpR op_gt (pe_ix ix_list (pv 0) pe_int (fun _ _ => rfl)) pe_int (nomark _))
      (pss_cons (ps_set (i := 2) sc__law_draw.nd rfl (.inl rfl) (pe_op op_mod (pe_ix ix_list (pv 0) pe_int (fun _ _ => rfl)) (pv 1)))
      (pss_cons (ps_asg (pe_op op_fdivW (pe_ix ix_list (pv 0) pe_int (fun _ _ => rfl)) (pv 1)) (pg_sub (pv 0) pe_int set_list))
      (pss_one (ps_ret (pv 2))))) pss_nil)
    (pss_cons (ps_asg (pe_op op_add (pe_ix ix_list (pv 0) pe_int (fun _ _ => rfl)) pe_int) (pg_sub (pv 0) pe_int set_list))
    (pss_cons (ps_set (i := 3) sc__law_draw.nd rfl (.inl rfl) (pe_ix ix_list (pv 0) pe_int (fun _ _ => rfl)))
    (pss_cons (ps_set (i := 4) sc__law_draw.nd rfl (.inl rfl) (pe_op op_mod (pe_op op_mulX (pe_op op_add (pe_op op_add (pe_ix ix_list (pv 0) pe_int (fun _ _ => rfl)) (pe_op op_mulX (pe_op op_mulX pe_int (pv 3)) (pv 3))) pe_int) pe_int) pe_int))
    (pss_cons (ps_set (i := 4) sc__law_draw.nd rfl (.inl rfl) (pe_op op_mod (pe_op op_mulX (pv 4) (pe_op op_add (pe_op op_mod (pv 4) pe_int) (pe_op op_mulX pe_int (pv 3)))) pe_int))
    (pss_one (ps_ret (pe_op op_mod (pe_op op_add (pe_op op_fdivW (pv 4) pe_int) (pe_op op_fdivW (pv 4) pe_int)) (pv 1))))))))), ?_⟩
  have sq : SqL K H a [.int x, .int y, .int z] := .inl (.inl hH)
  refine ⟨.ref a, rfl, a, _, 0, _, rfl, rfl, sq, at3_0, x, 0, rfl, rfl, _, rfl, ite2 (fun c => ?_) (fun c => ?_)⟩
  · have c' : 0 < x := of_decide_eq_true c
    refine ⟨.ref a, rfl, a, _, 0, _, rfl, rfl, sq, at3_0, .int n, rfl, x, n, rfl, rfl, n0, ?_⟩
    refine ⟨.ref a, rfl, a, _, 0, _, rfl, rfl, sq, at3_0, .int n, rfl, x, n, rfl, rfl, divX 9000 n0 nB (Nat.le_refl _), ?_⟩
    refine ⟨.ref a, rfl, a, _, 0, 0, rfl, rfl, hH, rfl, .int (x % n), rfl, ?_⟩
    refine hq _ _ _ _ F (hp (x % n) (Int.emod_nonneg _ (by omega)) (Int.emod_lt_of_pos _ n0)) (draw_out (x := x / n) (y := y) (z := z) tk e hF hH ⟨Int.ediv_nonneg x0 (by omega), ?_, y0, y1, z0, by omega⟩)
    exact Int.lt_of_le_of_lt (Int.ediv_le_self _ x0) x1
  · have hH2 : (upd H a (.lst [.int x, .int y, .int (z + 1)])) a = some (.lst [.int x, .int y, .int (z + 1)]) := upd_same
    have sq2 : SqL K (upd H a (.lst [.int x, .int y, .int (z + 1)])) a [.int x, .int y, .int (z + 1)] := .inl (.inl hH2)
    refine ⟨.ref a, rfl, a, _, 2, _, rfl, rfl, sq, at3_2, z, 1, rfl, rfl, .ref a, rfl, a, _, 2, 2, rfl, rfl, hH, rfl, ?_⟩
    refine ⟨.ref a, rfl, a, _, 2, _, rfl, rfl, sq2, at3_2, ?_⟩
    have y2 : y < 2305843009213693921 := y1
    have zz1 : Bn 64 (z + 1) := Bn.small (by omega) (by omega) (by decide)
    have m1 : Bn 128 (65537 * (z + 1)) := (Bn.small (m := 64) (i := 65537) (by decide) (by decide) (by decide)).mul zz1
    have m2 : Bn 192 (65537 * (z + 1) * (z + 1)) := m1.mul zz1
    have m3 : Bn 194 (y + 65537 * (z + 1) * (z + 1) + 11) := ((Bn.small (m := 192) (i := y) (by omega) (by omega) (by decide)).add m2).add (Bn.small (by decide) (by decide) (by decide))
    refine ⟨.ref a, rfl, a, _, 1, _, rfl, rfl, sq2, at3_1, .int (z + 1), rfl, 65537, z + 1, rfl, rfl, mulX 64 64 (Bn.small (by decide) (by decide) (by decide)) zz1 (by decide), .int (z + 1), rfl, _, _, rfl, rfl, mulX 128 64 m1 zz1 (by decide), _, _, rfl, rfl, _, _, rfl, rfl, _, _, rfl, rfl, mulX 194 64 m3 (Bn.small (by decide) (by decide) (by decide)) (by decide), _, _, rfl, rfl, (show (0 : Int) < 2305843009213693921 by decide), ?_⟩
    dsimp only
    generalize hmx : (y + 65537 * (z + 1) * (z + 1) + 11) * 48271 % 2305843009213693921 = mx
    have mx0 : 0 ≤ mx := by rw [← hmx]; exact Int.emod_nonneg _ (by decide)
    have mx1 : mx < 2305843009213693921 := by rw [← hmx]; exact Int.emod_lt_of_pos _ (by decide)
    have r0 := Int.emod_nonneg mx (show (1000003 : Int) ≠ 0 by decide)
    have r1 := Int.emod_lt_of_pos mx (show (0 : Int) < 1000003 by decide)
    have m4 : Bn 128 (99991 * (z + 1)) := (Bn.small (m := 64) (i := 99991) (by decide) (by decide) (by decide)).mul zz1
    have m5 : Bn 129 (mx % 1000003 + 99991 * (z + 1)) := (Bn.small (m := 128) (by omega) (by omega) (by decide)).add m4
    refine ⟨.int mx, rfl, .int mx, rfl, mx, 1000003, rfl, rfl, (show (0 : Int) < 1000003 by decide), .int (z + 1), rfl, 99991, z + 1, rfl, rfl, mulX 64 64 (Bn.small (by decide) (by decide) (by decide)) zz1 (by decide), _, _, rfl, rfl, _, _, rfl, rfl, mulX 64 129 (Bn.small (by omega) (by omega) (by decide)) m5 (by decide), _, _, rfl, rfl, (show (0 : Int) < 2305843009213693907 by decide), ?_⟩
    dsimp only
    generalize mx * (mx % 1000003 + 99991 * (z + 1)) % 2305843009213693907 = my
    refine ⟨.int my, rfl, my, 97, rfl, rfl, divX 64 (by decide) (Bn.small (by decide) (by decide) (by decide)) (by decide), .int my, rfl, my, 1000033, rfl, rfl, divX 64 (by decide) (Bn.small (by decide) (by decide) (by decide)) (by decide), _, _, rfl, rfl, .int n, rfl, _, n, rfl, rfl, n0, ?_⟩
    exact hq _ _ _ _ F (hp _ (Int.emod_nonneg _ (by omega)) (Int.emod_lt_of_pos _ n0)) (draw_out (x := x) (y := y) (z := z + 1) tk e hF hH ⟨x0, x1, y0, y1, by omega, by omega⟩)
end
def b__law_pick : DS :=
  (dRet (dIx (dVar 1) (dCall 2 fs__law_draw (dCons (dVar 0) (dCons (dCB cLen (dCons (dVar 1) dNil)) dNil)))))
theorem atI_mem {α : Type} {xs : List α} {k : Int} (h0 : 0 ≤ k) (h : k < xs.length) : ∃ z ∈ xs, atI xs k = some z := by
  unfold atI ixN
  rw [if_pos h0, if_pos h]
  have hk : k.toNat < xs.length := by omega
  exact ⟨xs[k.toNat], List.getElem_mem hk, List.getElem?_eq_getElem hk⟩
def fs__law_pick : FSp := fun rs fu post => ∃ (xs : List Da) (m : Nat), rs = [.src, .val (.list xs)] ∧ fu = some (m + 1) ∧ 0 < xs.length ∧ xs.length < 1000000 ∧ ∀ v ∈ xs, post (.val v) (some m)
theorem p__law_pick (rs : List Rv) (fu : Option Nat) (post : Rr → Option Nat → Prop) (hl : rs.length = 2) (h : fs__law_pick rs fu post) : b__law_pick ⟨fun g => post (.val .none) g.fu, fun r g => post r g.fu, fun _ => False, fun _ => False⟩ (ent N__law_pick rs fu) := by
  obtain ⟨xs, m, rfl, rfl, h0, h1, h⟩ := h
  simp_arith [b__law_pick, fs__law_draw]
  refine ⟨_, m, rfl, rfl, by omega, Bn.small (by omega) (by omega) (by decide), fun i i0 i1 => ?_⟩
  obtain ⟨z, hz, ez⟩ := atI_mem (xs := xs) i0 i1
  rw [ez]
  exact h z hz
section
variable {P : Program} {w : World} {K : Fg} {mg : Str → Option Value} {base : Heap}
theorem d__law_pick (T : Tx w K mg) {cdv : Value} {A : Around} {outer : List Env} {s : Shared} {H : Hp} {E : XK} (hr : Room 1 (A.deeper (envOfC "_law_pick" (defScope st__law_pick) s.heap.objs.size T.f__law_pick cdv))) (hgd : (A.deeper (envOfC "_law_pick" (defScope st__law_pick) s.heap.objs.size T.f__law_pick cdv)).guards = some []) :
    PSs (cxOf CX0 P w K mg base N__law_pick "_law_pick" (defScope st__law_pick) T.f__law_pick cdv A outer s H E).nox (defBody st__law_pick) (upS K W0 b__law_pick) :=
  (ss_one (s_ret (e_ix (e_var 1 (pv 1)) (e_call (ok__law_draw T) (hr.mono (by decide)) hgd (by rfl) T.g__law_draw T.F__law_draw.kp T.b__law_draw pass0 (a_cons (e_var 0 (pv 0)) (a_cons (e_len (by rfl) T.n_len (a_cons (e_var 1 (pv 1)) a_nil)) a_nil))))))
theorem ok__law_pick (T : Tx w K mg) : Fn P w K mg base CX0 2 T.f__law_pick T.fd__law_pick ["_law_source_here", "_law_some"] (lift K 2 fs__law_pick) := fn_data T.F__law_pick sc__law_pick b__law_pick (fun _ _ _ _ _ _ hr hgd => d__law_pick T hr hgd) p__law_pick
end
def b__law_divisor : DS :=
  (dSeq (dWhile (dTest (dBin oGt (dVar 1) (dC (.int 0))))
    (dPar 0 1 (dVar 1) (dBin oMod (dVar 0) (dVar 1))))
  (dRet (dVar 0)))
def fs__law_divisor : FSp := fun rs fu post => ∃ a b : Int, rs = [.val (.int a), .val (.int b)] ∧ 0 ≤ a ∧ 0 ≤ b ∧ post (.val (.int (Int.gcd a b))) fu
theorem p__law_divisor (rs : List Rv) (fu : Option Nat) (post : Rr → Option Nat → Prop) (hl : rs.length = 2) (h : fs__law_divisor rs fu post) : b__law_divisor ⟨fun g => post (.val .none) g.fu, fun r g => post r g.fu, fun _ => False, fun _ => False⟩ (ent N__law_divisor rs fu) := by
  obtain ⟨a, b, rfl, ha, hb, h⟩ := h
  simp_arith [b__law_divisor]
  refine ⟨fun m g => ∃ x y : Int, g = ⟨[some (.val (.int x)), some (.val (.int y))], fu, fu.isNone⟩ ∧ 0 ≤ x ∧ 0 ≤ y ∧ y.toNat = m ∧ Int.gcd x y = Int.gcd a b, ⟨b.toNat, a, b, rfl, ha, hb, rfl, rfl⟩, fun m g hg => ?_⟩
  obtain ⟨x, y, rfl, hx, hy, rfl, e⟩ := hg
  simp_arith [Nat.zero_add]
  refine ⟨fun hy0 => ?_, fun heq => ?_⟩
  · refine ⟨hy0, (x % y).toNat, ?_, y, x % y, rfl, hy, Int.emod_nonneg _ (by omega), rfl, by rw [gcd_step hx hy0, e]⟩
    have := Int.emod_lt_of_pos x hy0
    have := Int.emod_nonneg x (show y ≠ 0 by omega)
    omega
  · have hy0 : y = 0 := by omega
    subst hy0
    rw [Int.gcd_zero_right] at e
    have : x = ((Int.gcd a b : Nat) : Int) := by omega
    rw [this]
    exact h
section
variable {P : Program} {w : World} {K : Fg} {mg : Str → Option Value} {base : Heap}
theorem d__law_divisor (T : Tx w K mg) {cdv : Value} {A : Around} {outer : List Env} {s : Shared} {H : Hp} {E : XK} (hr : Room 0 (A.deeper (envOfC "_law_divisor" (defScope st__law_divisor) s.heap.objs.size T.f__law_divisor cdv))) (hgd : (A.deeper (envOfC "_law_divisor" (defScope st__law_divisor) s.heap.objs.size T.f__law_divisor cdv)).guards = some []) :
    PSs (cxOf CX0 P w K mg base N__law_divisor "_law_divisor" (defScope st__law_divisor) T.f__law_divisor cdv A outer s H E).nox (defBody st__law_divisor) (upS K W0 b__law_divisor) :=
  (ss_cons (s_while PassesOwn.never (t_gt (e_var 1 (pv 1)) e_int) (ss_one (s_par (i := 0) (j := 1) rfl sc__law_divisor.nd rfl rfl (by decide) rfl rfl (e_var 1 (pv 1)) (e_mod (e_var 0 (pv 0)) (e_var 1 (pv 1))))))
    (ss_one (s_ret (e_var 0 (pv 0)))))
theorem ok__law_divisor (T : Tx w K mg) : Fn P w K mg base CX0 1 T.f__law_divisor T.fd__law_divisor ["_law_one", "_law_other"] (lift K 2 fs__law_divisor) := fn_data T.F__law_divisor sc__law_divisor b__law_divisor (fun _ _ _ _ _ _ hr hgd => d__law_divisor T hr hgd) p__law_divisor
end
def b__law_low : DS :=
  (dSeq (dAsg (dCall 2 fs__law_divisor (dCons (dVar 0) (dCons (dVar 1) dNil))) (dN 2))
  (dRet (dTup (dCons (dBin oDiv (dVar 0) (dVar 2)) (dCons (dBin oDiv (dVar 1) (dVar 2)) dNil)))))
def fs__law_low : FSp := fun rs fu post => ∃ n d : Int, rs = [.val (.int n), .val (.int d)] ∧ 0 ≤ n ∧ 0 < d ∧ Bn 9000 d ∧ post (.val (lowD n d)) fu
theorem p__law_low (rs : List Rv) (fu : Option Nat) (post : Rr → Option Nat → Prop) (hl : rs.length = 2) (h : fs__law_low rs fu post) : b__law_low ⟨fun g => post (.val .none) g.fu, fun r g => post r g.fu, fun _ => False, fun _ => False⟩ (ent N__law_low rs fu) := by
  obtain ⟨n, d, rfl, hn, hd, hs, h⟩ := h
  simp_arith [b__law_low, fs__law_divisor]
  have dv : ∀ x, CDivW x (Int.gcd n d) := fun x => divX 9000 (gcd_pos hd) (hs.le (Int.le_of_lt (gcd_pos hd)) (gcd_le hd)) (Nat.le_refl _)
  refine ⟨n, d, rfl, hn, by omega, dv _, dv _, h⟩
section
variable {P : Program} {w : World} {K : Fg} {mg : Str → Option Value} {base : Heap}
theorem d__law_low (T : Tx w K mg) {cdv : Value} {A : Around} {outer : List Env} {s : Shared} {H : Hp} {E : XK} (hr : Room 1 (A.deeper (envOfC "_law_low" (defScope st__law_low) s.heap.objs.size T.f__law_low cdv))) (hgd : (A.deeper (envOfC "_law_low" (defScope st__law_low) s.heap.objs.size T.f__law_low cdv)).guards = some []) :
    PSs (cxOf CX0 P w K mg base N__law_low "_law_low" (defScope st__law_low) T.f__law_low cdv A outer s H E).nox (defBody st__law_low) (upS K W0 b__law_low) :=
  (ss_cons (s_set (i := 2) sc__law_low.nd rfl (.inl rfl) (e_call (ok__law_divisor T) (hr.mono (by decide)) hgd (by rfl) T.g__law_divisor T.F__law_divisor.kp T.b__law_divisor pass0 (a_cons (e_var 0 (pv 0)) (a_cons (e_var 1 (pv 1)) a_nil))))
    (ss_one (s_ret (e_tup (a_cons (e_div (e_var 0 (pv 0)) (e_var 2 (pv 2))) (a_cons (e_div (e_var 1 (pv 1)) (e_var 2 (pv 2))) a_nil))))))
theorem ok__law_low (T : Tx w K mg) : Fn P w K mg base CX0 2 T.f__law_low T.fd__law_low ["_law_n", "_law_d"] (lift K 2 fs__law_low) := fn_data T.F__law_low sc__law_low b__law_low (fun _ _ _ _ _ _ hr hgd => d__law_low T hr hgd) p__law_low
end
def b__law_scaled : DS :=
  (dSeq (dAsg (dVar 0) (dT 2 (dTc (dN 2) (dTc (dN 3) dTn))))
  (dRet (dIf (dTest (dBin oGe (dVar 1) (dC (.int 0)))) (dCall 2 fs__law_low (dCons (dBin oShl (dVar 2) (dVar 1)) (dCons (dVar 3) dNil))) (dCall 2 fs__law_low (dCons (dVar 2) (dCons (dBin oShl (dVar 3) (dBin oSub (dC (.int 0)) (dVar 1))) dNil))))))
/-- times 2 ** e, in lowest terms -/
def scl (n d e : Int) : Int × Int := low (scI n d e).1 (scI n d e).2
def fs__law_scaled : FSp := fun rs fu post => ∃ n d e : Int, rs = [.val (num n d), .val (.int e)] ∧ 0 ≤ n ∧ Bn 100000 n ∧ 0 < d ∧ Bn 4000 d ∧ -4000 ≤ e ∧ e ≤ 4000 ∧ post (.val (nm (scl n d e))) fu
theorem p__law_scaled (rs : List Rv) (fu : Option Nat) (post : Rr → Option Nat → Prop) (hl : rs.length = 2) (h : fs__law_scaled rs fu post) : b__law_scaled ⟨fun g => post (.val .none) g.fu, fun r g => post r g.fu, fun _ => False, fun _ => False⟩ (ent N__law_scaled rs fu) := by
  obtain ⟨n, d, e, rfl, hn, bn, hd, bd, h1, h2, h⟩ := h
  simp_arith [b__law_scaled, fs__law_low]
  refine ⟨fun he => ⟨shlX 100000 bn he (by omega), _, _, rfl, Int.mul_nonneg hn (Int.le_of_lt (pow2_pos _)), hd, bd.mono (by decide), ?_⟩, fun he => ⟨shlX 4000 bd (by omega) (by omega), _, _, rfl, hn, Int.mul_pos hd (pow2_pos _), (shlB bd).mono (by omega), ?_⟩⟩
  · have e1 : scI n d e = (n * 2 ^ e.toNat, d) := by
      unfold scI
      rw [show (-e).toNat = 0 by omega, Int.pow_zero, Int.mul_one]
    unfold scl at h
    rw [e1] at h
    exact h
  · have e1 : scI n d e = (n, d * 2 ^ (0 - e).toNat) := by
      unfold scI
      rw [show e.toNat = 0 by omega, Int.pow_zero, Int.mul_one, show (0 - e).toNat = (-e).toNat by omega]
    unfold scl at h
    rw [e1] at h
    exact h
theorem scl_ok {n d e : Int} (hn : 0 < n) (hd : 0 < d) : 0 < (scl n d e).1 ∧ 0 < (scl n d e).2 ∧ Int.gcd (scl n d e).1 (scl n d e).2 = 1 := by
  obtain ⟨a, b⟩ := scI_pos (f := e) hn hd
  obtain ⟨h1, h2, h3, _⟩ := low_pos a b
  exact ⟨h1, h2, h3⟩
theorem scl_B {n d e : Int} {a b : Nat} (hn : 0 < n) (hd : 0 < d) (bn : Bn a n) (bd : Bn b d) (m : Nat) (hm : (a : Int) + e + 1 ≤ m) (hm' : (b : Int) - e + 1 ≤ m) (ha : a + 1 ≤ m) (hb : b + 1 ≤ m) : Bn m (scl n d e).1 ∧ Bn m (scl n d e).2 := by
  obtain ⟨p, q⟩ := scI_pos (f := e) hn hd
  obtain ⟨h1, h2, h3, h4, h5⟩ := low_pos p q
  have b1 : Bn m (scI n d e).1 := (shlB bn).mono (by omega)
  have b2 : Bn m (scI n d e).2 := (shlB bd).mono (by omega)
  exact ⟨b1.le (Int.le_of_lt h1) h4, b2.le (Int.le_of_lt h2) h5⟩
section
variable {P : Program} {w : World} {K : Fg} {mg : Str → Option Value} {base : Heap}
theorem d__law_scaled (T : Tx w K mg) {cdv : Value} {A : Around} {outer : List Env} {s : Shared} {H : Hp} {E : XK} (hr : Room 2 (A.deeper (envOfC "_law_scaled" (defScope st__law_scaled) s.heap.objs.size T.f__law_scaled cdv))) (hgd : (A.deeper (envOfC "_law_scaled" (defScope st__law_scaled) s.heap.objs.size T.f__law_scaled cdv)).guards = some []) :
    PSs (cxOf CX0 P w K mg base N__law_scaled "_law_scaled" (defScope st__law_scaled) T.f__law_scaled cdv A outer s H E).nox (defBody st__law_scaled) (upS K W0 b__law_scaled) :=
  (ss_cons (s_asg (e_var 0 (pv 0)) (g_tup rfl (gs_cons (g_name (pg_name (i := 2) sc__law_scaled.nd rfl (.inl rfl))) (gs_cons (g_name (pg_name (i := 3) sc__law_scaled.nd rfl (.inl rfl))) gs_nil))))
    (ss_one (s_ret (e_if (t_ge (e_var 1 (pv 1)) e_int) (e_call (ok__law_low T) (hr.mono (by decide)) hgd (by rfl) T.g__law_low T.F__law_low.kp T.b__law_low pass0 (a_cons (e_shl (e_var 2 (pv 2)) (e_var 1 (pv 1))) (a_cons (e_var 3 (pv 3)) a_nil))) (e_call (ok__law_low T) (hr.mono (by decide)) hgd (by rfl) T.g__law_low T.F__law_low.kp T.b__law_low pass0 (a_cons (e_var 2 (pv 2)) (a_cons (e_shl (e_var 3 (pv 3)) (e_sub e_int (e_var 1 (pv 1)))) a_nil)))))))
theorem ok__law_scaled (T : Tx w K mg) : Fn P w K mg base CX0 3 T.f__law_scaled T.fd__law_scaled ["_law_number_here", "_law_e"] (lift K 2 fs__law_scaled) := fn_data T.F__law_scaled sc__law_scaled b__law_scaled (fun _ _ _ _ _ _ hr hgd => d__law_scaled T hr hgd) p__law_scaled
end
def b__law_number : DS :=
  (dSeq (dPar 2 3 (dBin fAdd (dC (.int 1)) (dCall 2 fs__law_draw (dCons (dVar 0) (dCons (dCall 2 fs__law_pick (dCons (dVar 0) (dCons (dFz (dLst (dCons (dC (.int 8)) (dCons (dC (.int 64)) (dCons (dC (.int 1024)) (dCons (dVar 1) dNil)))))) dNil))) dNil)))) (dCall 2 fs__law_pick (dCons (dVar 0) (dCons (dFz (dLst (dCons (dC (.int 1)) (dCons (dC (.int 1)) (dCons (dC (.int 2)) (dCons (dC (.int 16)) (dCons (dC (.int 3)) (dCons (dC (.int 10)) dNil)))))))) dNil))))
  (dSeq (dAsg (dCall 2 fs__law_pick (dCons (dVar 0) (dCons (dFz (dLst (dCons (dVar 3) (dCons (dVar 3) (dCons (dBin fAdd (dC (.int 1)) (dCall 2 fs__law_draw (dCons (dVar 0) (dCons (dVar 1) dNil)))) dNil))))) dNil))) (dN 3))
  (dRet (dCall 2 fs__law_scaled (dCons (dCall 2 fs__law_low (dCons (dVar 2) (dCons (dVar 3) dNil))) (dCons (dBin oSub (dCall 2 fs__law_draw (dCons (dVar 0) (dCons (dC (.int 13)) dNil))) (dC (.int 6))) dNil))))))
def fs__law_number : FSp := fun rs fu post => ∃ (mo : Int) (m : Nat), rs = [.src, .val (.int mo)] ∧ fu = some (m + 6) ∧ 1 ≤ mo ∧ mo ≤ 1000000000000 ∧ ∀ n d : Int, 0 < n → Bn 80 n → 0 < d → Bn 80 d → Int.gcd n d = 1 → post (.val (num n d)) (some m)
theorem p__law_number (rs : List Rv) (fu : Option Nat) (post : Rr → Option Nat → Prop) (hl : rs.length = 2) (h : fs__law_number rs fu post) : b__law_number ⟨fun g => post (.val .none) g.fu, fun r g => post r g.fu, fun _ => False, fun _ => False⟩ (ent N__law_number rs fu) := by
  obtain ⟨mo, m, rfl, rfl, h0, h1, h⟩ := h
  simp_arith [b__law_number, fs__law_draw, fs__law_pick, fs__law_low, fs__law_scaled]
  refine ⟨_, m + 5, rfl, rfl, by show 0 < 4; decide, by show 4 < 1000000; decide, fun v hv => ?_⟩
  obtain ⟨s, rfl, s0, s1⟩ : ∃ s : Int, v = .int s ∧ 0 < s ∧ s ≤ 1000000000000 := by
    simp only [List.mem_cons, List.not_mem_nil, or_false] at hv
    rcases hv with rfl | rfl | rfl | rfl
    · exact ⟨_, rfl, by decide, by decide⟩
    · exact ⟨_, rfl, by decide, by decide⟩
    · exact ⟨_, rfl, by decide, by decide⟩
    · exact ⟨_, rfl, by omega, by omega⟩
  refine ⟨s, m + 4, rfl, rfl, s0, Bn.small (by omega) (by omega) (by decide), fun i i0 i1 => ?_⟩
  refine ⟨_, m + 3, rfl, rfl, by show 0 < 6; decide, by show 6 < 1000000; decide, fun v hv => ?_⟩
  obtain ⟨t, rfl, t0, t1⟩ : ∃ s : Int, v = .int s ∧ 0 < s ∧ s ≤ 16 := by
    simp only [List.mem_cons, List.not_mem_nil, or_false] at hv
    rcases hv with rfl | rfl | rfl | rfl | rfl | rfl <;> exact ⟨_, rfl, by decide, by decide⟩
  refine ⟨mo, m + 2, rfl, rfl, by omega, Bn.small (by omega) (by omega) (by decide), fun j j0 j1 => ?_⟩
  refine ⟨_, m + 1, rfl, rfl, by show 0 < 3; decide, by show 3 < 1000000; decide, fun v hv => ?_⟩
  obtain ⟨u, rfl, u0, u1⟩ : ∃ s : Int, v = .int s ∧ 0 < s ∧ s ≤ 1000000000001 := by
    simp only [List.mem_cons, List.not_mem_nil, or_false] at hv
    rcases hv with rfl | rfl | rfl
    · exact ⟨_, rfl, by omega, by omega⟩
    · exact ⟨_, rfl, by omega, by omega⟩
    · exact ⟨_, rfl, by omega, by omega⟩
  obtain ⟨l1, l2, l3, l4, l5⟩ := low_pos (n := 1 + i) (d := u) (by omega) u0
  refine ⟨1 + i, u, rfl, by omega, u0, Bn.small (by omega) (by omega) (by decide), 13, m, rfl, rfl, by decide, Bn.small (by decide) (by decide) (by decide), fun e e0 e1 => ?_⟩
  have bn : Bn 64 (low (1 + i) u).1 := Bn.small (by omega) (by omega) (by decide)
  have bd : Bn 64 (low (1 + i) u).2 := Bn.small (by omega) (by omega) (by decide)
  refine ⟨_, _, _, rfl, Int.le_of_lt l1, bn.mono (by decide), l2, bd.mono (by decide), by omega, by omega, ?_⟩
  obtain ⟨o1, o2, o3⟩ := scl_ok (e := e - 6) l1 l2
  obtain ⟨p1, p2⟩ := scl_B (e := e - 6) l1 l2 bn bd 80 (by omega) (by omega) (by decide) (by decide)
  exact h _ _ o1 p1 o2 p2 o3
section
variable {P : Program} {w : World} {K : Fg} {mg : Str → Option Value} {base : Heap}
theorem d__law_number (T : Tx w K mg) {cdv : Value} {A : Around} {outer : List Env} {s : Shared} {H : Hp} {E : XK} (hr : Room 3 (A.deeper (envOfC "_law_number" (defScope st__law_number) s.heap.objs.size T.f__law_number cdv))) (hgd : (A.deeper (envOfC "_law_number" (defScope st__law_number) s.heap.objs.size T.f__law_number cdv)).guards = some []) :
    PSs (cxOf CX0 P w K mg base N__law_number "_law_number" (defScope st__law_number) T.f__law_number cdv A outer s H E).nox (defBody st__law_number) (upS K W0 b__law_number) :=
  (ss_cons (s_par (i := 2) (j := 3) rfl sc__law_number.nd rfl rfl (by decide) rfl rfl (e_add e_int (e_call (ok__law_draw T) (hr.mono (by decide)) hgd (by rfl) T.g__law_draw T.F__law_draw.kp T.b__law_draw pass0 (a_cons (e_var 0 (pv 0)) (a_cons (e_call (ok__law_pick T) (hr.mono (by decide)) hgd (by rfl) T.g__law_pick T.F__law_pick.kp T.b__law_pick pass0 (a_cons (e_var 0 (pv 0)) (a_cons (e_fz (e_lstL (a_cons e_int (a_cons e_int (a_cons e_int (a_cons (e_var 1 (pv 1)) a_nil)))))) a_nil))) a_nil)))) (e_call (ok__law_pick T) (hr.mono (by decide)) hgd (by rfl) T.g__law_pick T.F__law_pick.kp T.b__law_pick pass0 (a_cons (e_var 0 (pv 0)) (a_cons (e_fz (e_lstL (a_cons e_int (a_cons e_int (a_cons e_int (a_cons e_int (a_cons e_int (a_cons e_int a_nil)))))))) a_nil))))
    (ss_cons (s_set (i := 3) sc__law_number.nd rfl (.inl rfl) (e_call (ok__law_pick T) (hr.mono (by decide)) hgd (by rfl) T.g__law_pick T.F__law_pick.kp T.b__law_pick pass0 (a_cons (e_var 0 (pv 0)) (a_cons (e_fz (e_lstL (a_cons (e_var 3 (pv 3)) (a_cons (e_var 3 (pv 3)) (a_cons (e_add e_int (e_call (ok__law_draw T) (hr.mono (by decide)) hgd (by rfl) T.g__law_draw T.F__law_draw.kp T.b__law_draw pass0 (a_cons (e_var 0 (pv 0)) (a_cons (e_var 1 (pv 1)) a_nil)))) a_nil))))) a_nil))))
    (ss_one (s_ret (e_call (ok__law_scaled T) (hr.mono (by decide)) hgd (by rfl) T.g__law_scaled T.F__law_scaled.kp T.b__law_scaled pass0 (a_cons (e_call (ok__law_low T) (hr.mono (by decide)) hgd (by rfl) T.g__law_low T.F__law_low.kp T.b__law_low pass0 (a_cons (e_var 2 (pv 2)) (a_cons (e_var 3 (pv 3)) a_nil))) (a_cons (e_sub (e_call (ok__law_draw T) (hr.mono (by decide)) hgd (by rfl) T.g__law_draw T.F__law_draw.kp T.b__law_draw pass0 (a_cons (e_var 0 (pv 0)) (a_cons e_int a_nil))) e_int) a_nil)))))))
theorem ok__law_number (T : Tx w K mg) : Fn P w K mg base CX0 4 T.f__law_number T.fd__law_number ["_law_source_here", "_law_most"] (lift K 2 fs__law_number) := fn_data T.F__law_number sc__law_number b__law_number (fun _ _ _ _ _ _ hr hgd => d__law_number T hr hgd) p__law_number
end
def b__law_rule : DS :=
  (dRet (dCall 2 fs__law_pick (dCons (dVar 0) (dCons (dFz (dLst (dCons (dC (.str "down")) (dCons (dC (.str "half_down")) (dCons (dC (.str "half_even")) (dCons (dC (.str "half_up")) (dCons (dC (.str "odd")) (dCons (dC (.str "up")) dNil)))))))) dNil))))
def ruD : List Da := [.str "down", .str "half_down", .str "half_even", .str "half_up", .str "odd", .str "up"]
theorem ru_memD {x : Da} (h : x ∈ ruD) : ∃ r : Ru, x = .str r.s := by
  simp only [ruD, List.mem_cons, List.not_mem_nil, or_false] at h
  rcases h with rfl | rfl | rfl | rfl | rfl | rfl
  · exact ⟨.dn, rfl⟩
  · exact ⟨.hd, rfl⟩
  · exact ⟨.he, rfl⟩
  · exact ⟨.hu, rfl⟩
  · exact ⟨.od, rfl⟩
  · exact ⟨.up, rfl⟩
def fs__law_rule : FSp := fun rs fu post => ∃ m : Nat, rs = [.src] ∧ fu = some (m + 1) ∧ ∀ r : Ru, post (.val (.str r.s)) (some m)
theorem p__law_rule (rs : List Rv) (fu : Option Nat) (post : Rr → Option Nat → Prop) (hl : rs.length = 1) (h : fs__law_rule rs fu post) : b__law_rule ⟨fun g => post (.val .none) g.fu, fun r g => post r g.fu, fun _ => False, fun _ => False⟩ (ent N__law_rule rs fu) := by
  obtain ⟨m, rfl, rfl, h⟩ := h
  simp_arith [b__law_rule, fs__law_pick]
  refine ⟨_, m, rfl, rfl, by show 0 < 6; decide, by show 6 < 1000000; decide, fun v hv => ?_⟩
  obtain ⟨r, rfl⟩ := ru_memD hv
  exact h r
section
variable {P : Program} {w : World} {K : Fg} {mg : Str → Option Value} {base : Heap}
theorem d__law_rule (T : Tx w K mg) {cdv : Value} {A : Around} {outer : List Env} {s : Shared} {H : Hp} {E : XK} (hr : Room 2 (A.deeper (envOfC "_law_rule" (defScope st__law_rule) s.heap.objs.size T.f__law_rule cdv))) (hgd : (A.deeper (envOfC "_law_rule" (defScope st__law_rule) s.heap.objs.size T.f__law_rule cdv)).guards = some []) :
    PSs (cxOf CX0 P w K mg base N__law_rule "_law_rule" (defScope st__law_rule) T.f__law_rule cdv A outer s H E).nox (defBody st__law_rule) (upS K W0 b__law_rule) :=
  (ss_one (s_ret (e_call (ok__law_pick T) (hr.mono (by decide)) hgd (by rfl) T.g__law_pick T.F__law_pick.kp T.b__law_pick pass0 (a_cons (e_var 0 (pv 0)) (a_cons (e_fz (e_lstL (a_cons e_str (a_cons e_str (a_cons e_str (a_cons e_str (a_cons e_str (a_cons e_str a_nil)))))))) a_nil)))))
theorem ok__law_rule (T : Tx w K mg) : Fn P w K mg base CX0 3 T.f__law_rule T.fd__law_rule ["_law_source_here"] (lift K 1 fs__law_rule) := fn_data T.F__law_rule sc__law_rule b__law_rule (fun _ _ _ _ _ _ hr hgd => d__law_rule T hr hgd) p__law_rule
end
def b__law_chain : DS :=
  (dSeq (dSetL 4 (dLst (dCons (dTup (dCons (dVar 1) (dCons (dCall 1 fs__law_rule (dCons (dVar 0) dNil)) dNil))) dNil)))
  (dSeq (dFor (dRange1 (dCall 2 fs__law_draw (dCons (dVar 0) (dCons (dVar 2) dNil)))) (dN 5)
    (dApp 4 (dTup (dCons (dBin fAdd (dBin fAdd (dVar 1) (dC (.int 1))) (dCall 2 fs__law_draw (dCons (dVar 0) (dCons (dVar 3) dNil)))) (dCons (dCall 1 fs__law_rule (dCons (dVar 0) dNil)) dNil)))))
  (dSeq (dIfS (dTest (dBin oGt (dCall 2 fs__law_draw (dCons (dVar 0) (dCons (dC (.int 4)) dNil))) (dC (.int 0))))
    (dSeq (dAsg (dCB cSortedD (dCons (dFz (dLc [7, 8] (dItems (dVar 4)) (dT 2 (dTc (dN 7) (dTc (dN 8) dTn))) dYes (dTup (dCons (dBin oSub (dC (.int 0)) (dVar 7)) (dCons (dVar 8) dNil))))) dNil)) (dN 6))
  (dRet (dCB cTuple (dCons (dFz (dLc [7, 8] (dItems (dVar 6)) (dT 2 (dTc (dN 7) (dTc (dN 8) dTn))) dYes (dTup (dCons (dBin oSub (dC (.int 0)) (dVar 7)) (dCons (dVar 8) dNil))))) dNil))))
    dNext)
  (dRet (dCB cTuple (dCons (dBin fAdd (dSl (dVar 4) (oSo (dC (.int 1))) oNo) (dSl (dVar 4) oNo (oSo (dC (.int 1))))) dNil))))))
/-- what a drawn chain is: its least width is last -/
structure Drc (last far most : Int) (c : List (Int × Ru)) : Prop where
  r : ∀ s ∈ c, last ≤ s.1 ∧ s.1 ≤ last + far
  l : ∃ s ∈ c, s.1 = last
  n : (c.length : Int) ≤ most
theorem Drc.chn {last far most : Int} {c : List (Int × Ru)} (h : Drc last far most c) (h1 : 1 ≤ last) (h2 : last + far ≤ 100) (h3 : most ≤ 12) : Chn1 c := by
  obtain ⟨s, hs, _⟩ := h.l
  have := h.n
  refine ⟨fun e => ?_, by omega, fun t ht => by have := h.r t ht; omega⟩
  rw [e] at hs
  exact absurd hs (by simp)
/-- its last step is the narrowest -/
def EndW (last : Int) (c : List (Int × Ru)) : Prop := ∃ (c0 : List (Int × Ru)) (r : Ru), c = c0 ++ [(last, r)]
theorem Drc.perm {last far most : Int} {c c' : List (Int × Ru)} (h : Drc last far most c) (h1 : ∀ s ∈ c', s ∈ c) (h2 : ∀ s ∈ c, s ∈ c') (h3 : c'.length = c.length) : Drc last far most c' := by
  obtain ⟨s, hs, e⟩ := h.l
  have := h.n
  exact ⟨fun t ht => h.r t (h1 t ht), ⟨s, h2 s hs, e⟩, by omega⟩
def ngD (s : Int × Ru) : Da := .tuple [.int (0 - s.1), .str s.2.s]
theorem ngD_inj {s s' : Int × Ru} (h : ngD s = ngD s') : s = s' := by
  obtain ⟨w, r⟩ := s
  obtain ⟨w', r'⟩ := s'
  simp only [ngD, PyData.tuple.injEq, List.cons.injEq, PyData.int.injEq, PyData.str.injEq, and_true] at h
  have e : stD (w, r) = stD (w', r') := by
    simp only [stD, PyData.tuple.injEq, List.cons.injEq, PyData.int.injEq, PyData.str.injEq, and_true]
    exact ⟨by omega, h.2⟩
  exact stD_inj e
theorem from_perm {f : Int × Ru → Da} {c : List (Int × Ru)} : ∀ {ds : List Da}, (∀ d ∈ ds, d ∈ c.map f) → ∃ c' : List (Int × Ru), ds = c'.map f ∧ ∀ s ∈ c', s ∈ c
  | [], _ => ⟨[], rfl, fun s hs => absurd hs (by simp)⟩
  | d :: ds, h => by
    obtain ⟨c', rfl, h2⟩ := from_perm (ds := ds) fun e he => h e (List.mem_cons_of_mem _ he)
    obtain ⟨s, hs, rfl⟩ := List.mem_map.mp (h d List.mem_cons_self)
    refine ⟨s :: c', rfl, fun t ht => ?_⟩
    rcases List.mem_cons.mp ht with rfl | ht
    · exact hs
    · exact h2 t ht
theorem cut_tl {ds : List Da} (h : 1 ≤ ds.length) : Z.cutD ds (some 1) none = ds.drop 1 := by
  unfold Z.cutD
  have e1 : HT.sIx ds.length 0 (some 1) = 1 := by
    show (if (1 : Int) < 0 then ((1 : Int) + (ds.length : Int)).toNat else min (1 : Int).toNat ds.length) = 1
    rw [if_neg (by decide)]
    simp
    omega
  rw [e1, HT.sIx_none, List.take_of_length_le (by rw [List.length_drop]; omega)]
theorem cut_hd {ds : List Da} (h : 1 ≤ ds.length) : Z.cutD ds none (some 1) = ds.take 1 := by
  unfold Z.cutD
  have e1 : HT.sIx ds.length ds.length (some 1) = 1 := by
    show (if (1 : Int) < 0 then ((1 : Int) + (ds.length : Int)).toNat else min (1 : Int).toNat ds.length) = 1
    rw [if_neg (by decide)]
    simp
    omega
  rw [e1, HT.sIx_none]
  rfl
def fs__law_chain : FSp := fun rs fu post => ∃ (last most far : Int) (m : Nat), rs = [.src, .val (.int last), .val (.int most), .val (.int far)] ∧ fu = some m ∧ 1 ≤ last ∧ 1 ≤ most ∧ most ≤ 12 ∧ 1 ≤ far ∧ last + far ≤ 100 ∧ 30 ≤ m ∧
  ∀ (c : List (Int × Ru)) (m' : Nat), m ≤ m' + 30 → Drc last far most c → EndW last c → post (.val (chD c)) (some m')
def lcF : DS := (dFor (dRange1 (dCall 2 fs__law_draw (dCons (dVar 0) (dCons (dVar 2) dNil)))) (dN 5)
    (dApp 4 (dTup (dCons (dBin fAdd (dBin fAdd (dVar 1) (dC (.int 1))) (dCall 2 fs__law_draw (dCons (dVar 0) (dCons (dVar 3) dNil)))) (dCons (dCall 1 fs__law_rule (dCons (dVar 0) dNil)) dNil)))))
def lcE : DS := (dSeq (dIfS (dTest (dBin oGt (dCall 2 fs__law_draw (dCons (dVar 0) (dCons (dC (.int 4)) dNil))) (dC (.int 0))))
    (dSeq (dAsg (dCB cSortedD (dCons (dFz (dLc [7, 8] (dItems (dVar 4)) (dT 2 (dTc (dN 7) (dTc (dN 8) dTn))) dYes (dTup (dCons (dBin oSub (dC (.int 0)) (dVar 7)) (dCons (dVar 8) dNil))))) dNil)) (dN 6))
  (dRet (dCB cTuple (dCons (dFz (dLc [7, 8] (dItems (dVar 6)) (dT 2 (dTc (dN 7) (dTc (dN 8) dTn))) dYes (dTup (dCons (dBin oSub (dC (.int 0)) (dVar 7)) (dCons (dVar 8) dNil))))) dNil))))
    dNext)
  (dRet (dCB cTuple (dCons (dBin fAdd (dSl (dVar 4) (oSo (dC (.int 1))) oNo) (dSl (dVar 4) oNo (oSo (dC (.int 1))))) dNil))))
theorem end_sorted {last far most : Int} {c : List (Int × Ru)} (hc : Drc last far most c) (pw : (c.map ngD).Pairwise (fun a b => PySem.W.dataLe false id a b = true)) : EndW last c := by
  obtain ⟨s, hs, e⟩ := hc.l
  have ne : c ≠ [] := fun z => by rw [z] at hs; exact absurd hs (by simp)
  have sp : c = c.dropLast ++ [c.getLast ne] := (List.dropLast_concat_getLast ne).symm
  generalize c.dropLast = c0 at sp
  generalize c.getLast ne = z at sp
  have z1 := hc.r z (by rw [sp]; simp)
  have z2 : z.1 ≤ s.1 := by
    rw [sp] at hs
    rcases List.mem_append.mp hs with q | q
    · rw [sp, List.map_append, List.pairwise_append] at pw
      have := le_fst (pw.2.2 (ngD s) (List.mem_map_of_mem q) (ngD z) (by simp))
      omega
    · rw [List.mem_singleton] at q
      rw [q]
      exact Int.le_refl _
  have : z = (last, z.2) := Prod.ext (by show z.1 = last; omega) rfl
  rw [this] at sp
  exact ⟨c0, z.2, sp⟩
def negD : Da → Da
  | .tuple [.int i, x] => .tuple [.int (0 - i), x]
  | d => d
theorem p_lcE {D : DEnds} {last most far : Int} {m : Nat} {t f w r : Option Sv} {c : List (Int × Ru)} (hc : Drc last far most c) (hl : c.length ≤ 100)
    (hh : ∃ (r0 : Ru) (t : List (Int × Ru)), c = (last, r0) :: t)
    (h : ∀ (c : List (Int × Ru)) (g : Gs), g.fu = some m → Drc last far most c → EndW last c → D.rt (.val (chD c)) g) :
    lcE D ⟨[some .src, some (.val (.int last)), some (.val (.int most)), some (.val (.int far)), some (.own (c.map stD)), t, f, w, r], some (m + 1), false⟩ := by
  have c1 : 1 ≤ (c.map stD).length := by
    obtain ⟨s, hs, _⟩ := hc.l
    rw [List.length_map]
    exact List.length_pos_iff.mpr (fun e => absurd hs (by rw [e]; simp))
  simp_arith [lcE, fs__law_draw]
  refine ⟨_, m, rfl, rfl, by decide, Bn.small (by decide) (by decide) (by decide), fun i i0 i1 => ⟨fun _ => ?_, fun _ => ?_⟩⟩
  · refine lc_mapT negD (fun x hx R N hR => ?_) (by simp; omega) ?_
    · obtain ⟨s, hs, rfl⟩ := List.mem_map.mp hx
      unfold stD at hR ⊢
      simp_arith [Nat.zero_add]
      exact hR _ rfl
    · have e : List.map negD (c.map stD) = c.map ngD := by
        rw [List.map_map]
        rfl
      rw [List.nil_append, e]
      obtain ⟨a1, a2, a3⟩ := pairs_sortable (ds := c.map ngD) fun d hd => by
        obtain ⟨s, hs, rfl⟩ := List.mem_map.mp hd
        exact ⟨_, _, rfl, ru_ok _⟩
      refine ⟨a1, a2, a3, fun ds' pm pw => ?_⟩
      obtain ⟨c', rfl, hm⟩ := from_perm fun d hd => pm.mem_iff.mp hd
      have hlen : c'.length = c.length := by
        have := pm.length_eq
        rw [List.length_map, List.length_map] at this
        exact this
      have hm' : ∀ s ∈ c, s ∈ c' := fun s hs => by
        obtain ⟨s', hs', e⟩ := List.mem_map.mp (pm.mem_iff.mpr (List.mem_map_of_mem (f := ngD) hs))
        rw [← ngD_inj e]
        exact hs'
      try simp_arith [Nat.zero_add]
      refine lc_mapT negD (fun x hx R N hR => ?_) (by simp; omega) ?_
      · obtain ⟨s, hs, rfl⟩ := List.mem_map.mp hx
        unfold ngD at hR ⊢
        simp_arith [Nat.zero_add]
        exact hR _ rfl
      · have e : List.map negD (c'.map ngD) = c'.map stD := by
          rw [List.map_map]
          refine List.map_congr_left fun s hs => ?_
          show PyData.tuple [.int (0 - (0 - s.1)), _] = PyData.tuple [.int s.1, _]
          rw [show 0 - (0 - s.1) = s.1 by omega]
        rw [List.nil_append, e]
        exact h c' _ rfl (hc.perm hm hm' hlen) (end_sorted (hc.perm hm hm' hlen) pw)
  · rw [cut_tl c1, cut_hd c1, ← List.map_drop, ← List.map_take, ← List.map_append]
    refine ⟨by simp only [List.length_map, List.length_append, List.length_drop, List.length_take, sizeLine_eq]; omega, ?_⟩
    refine h (c.drop 1 ++ c.take 1) _ rfl (hc.perm (fun s hs => ?_) (fun s hs => ?_) ?_) (by obtain ⟨r0, t, rfl⟩ := hh; exact ⟨t, r0, rfl⟩)
    · rcases List.mem_append.mp hs with q | q
      · exact List.mem_of_mem_drop q
      · exact List.mem_of_mem_take q
    · rw [← List.take_append_drop 1 c] at hs
      rcases List.mem_append.mp hs with q | q
      · exact List.mem_append_right _ q
      · exact List.mem_append_left _ q
    · rw [List.length_append, List.length_drop, List.length_take]
      rw [List.length_map] at c1
      omega
theorem p__law_chain (rs : List Rv) (fu : Option Nat) (post : Rr → Option Nat → Prop) (hl : rs.length = 4) (h : fs__law_chain rs fu post) : b__law_chain ⟨fun g => post (.val .none) g.fu, fun r g => post r g.fu, fun _ => False, fun _ => False⟩ (ent N__law_chain rs fu) := by
  obtain ⟨last, most, far, m0, rfl, rfl, h1, h2, h3, h4, h5, hm, h⟩ := h
  obtain ⟨m, rfl⟩ : ∃ m, m0 = m + 30 := ⟨m0 - 30, by omega⟩
  show dSeq _ (dSeq lcF lcE) _ _
  simp_arith [lcF, fs__law_draw, fs__law_rule]
  refine ⟨m + 29, rfl, fun r0 => ⟨most, m + 28, rfl, rfl, by omega, Bn.small (by omega) (by omega) (by decide), fun i i0 i1 => ⟨by omega, by omega, ?_⟩⟩⟩
  refine forD_ix (k := 0) (fun k g => ∃ (c : List (Int × Ru)) (m' : Nat) (t f w r : Option Sv), g = ⟨[some .src, some (.val (.int last)), some (.val (.int most)), some (.val (.int far)), some (.own (c.map stD)), t, f, w, r], some m', false⟩ ∧ m + 28 ≤ m' + 2 * k ∧ c.length = k + 1 ∧ (∀ s ∈ c, last ≤ s.1 ∧ s.1 ≤ last + far) ∧ (∃ s ∈ c, s.1 = last) ∧ ∃ (r0 : Ru) (t : List (Int × Ru)), c = (last, r0) :: t) (fun k x hx g hg N hN => ?_) (fun g hg => ?_) ⟨[(last, r0)], m + 28, _, _, _, _, rfl, by omega, rfl, fun s hs => ?_, ⟨(last, r0), List.mem_cons_self, rfl⟩, r0, [], rfl⟩
  · obtain ⟨c, m', t, f, w, r, rfl, q1, q2, q3, q4, q5⟩ := hg
    have hk : k < 12 := by
      have := (List.getElem?_eq_some_iff.mp hx).1
      rw [rangeD_len] at this
      omega
    obtain ⟨m1, rfl⟩ : ∃ m1, m' = m1 + 2 := ⟨m' - 2, by omega⟩
    simp_arith [fs__law_draw, fs__law_rule]
    refine ⟨⟨_, rfl⟩, far, m1 + 1, rfl, rfl, by omega, Bn.small (by omega) (by omega) (by decide), fun j j0 j1 => ⟨m1, rfl, fun r1 => ⟨by rw [List.length_map]; omega, ?_⟩⟩⟩
    refine hN _ ⟨c ++ [(last + 1 + j, r1)], m1, some (.val x), f, w, r, ?_, by omega, by rw [List.length_append]; simp; omega, fun s hs => ?_, ?_, ?_⟩
    · rw [List.map_append]
      rfl
    · rcases List.mem_append.mp hs with hs | hs
      · exact q3 s hs
      · rcases List.mem_cons.mp hs with rfl | hs
        · exact ⟨by show last ≤ last + 1 + j; omega, by show last + 1 + j ≤ last + far; omega⟩
        · exact absurd hs (by simp)
    · obtain ⟨s, hs, e⟩ := q4
      exact ⟨s, List.mem_append_left _ hs, e⟩
    · obtain ⟨r0, t, rfl⟩ := q5
      exact ⟨r0, _, rfl⟩
  · obtain ⟨c, m', t, f, w, r, rfl, q1, q2, q3, q4, q5⟩ := hg
    rw [rangeD_len] at q1 q2
    obtain ⟨m1, rfl⟩ : ∃ m1, m' = m1 + 1 := ⟨m' - 1, by omega⟩
    refine p_lcE ⟨q3, q4, by omega⟩ (by omega) q5 fun c' g e hc' he => ?_
    have := h c' m1 (by omega) hc' he
    rw [← e] at this
    exact this
  · rcases List.mem_cons.mp hs with rfl | hs
    · exact ⟨Int.le_refl _, by show last ≤ last + far; omega⟩
    · exact absurd hs (by simp)
section
variable {P : Program} {w : World} {K : Fg} {mg : Str → Option Value} {base : Heap}
theorem d__law_chain (T : Tx w K mg) {cdv : Value} {A : Around} {outer : List Env} {s : Shared} {H : Hp} {E : XK} (hr : Room 3 (A.deeper (envOfC "_law_chain" (defScope st__law_chain) s.heap.objs.size T.f__law_chain cdv))) (hgd : (A.deeper (envOfC "_law_chain" (defScope st__law_chain) s.heap.objs.size T.f__law_chain cdv)).guards = some []) :
    PSs (cxOf CX0 P w K mg base N__law_chain "_law_chain" (defScope st__law_chain) T.f__law_chain cdv A outer s H E).nox (defBody st__law_chain) (upS K W0 b__law_chain) :=
  (ss_cons (s_setL (i := 4) sc__law_chain.nd rfl (.inl rfl) (e_lstL (a_cons (e_tup (a_cons (e_var 1 (pv 1)) (a_cons (e_call (ok__law_rule T) (hr.mono (by decide)) hgd (by rfl) T.g__law_rule T.F__law_rule.kp T.b__law_rule pass0 (a_cons (e_var 0 (pv 0)) a_nil)) a_nil))) a_nil)))
    (ss_cons (s_for PassesOwn.never rfl (i_range1 (by rfl) T.n_range (e_call (ok__law_draw T) (hr.mono (by decide)) hgd (by rfl) T.g__law_draw T.F__law_draw.kp T.b__law_draw pass0 (a_cons (e_var 0 (pv 0)) (a_cons (e_var 2 (pv 2)) a_nil)))) (g_name (pg_name (i := 5) sc__law_chain.nd rfl (.inl rfl))) (ss_one (s_app (name := "x") (pv 4) (e_tup (a_cons (e_add (e_add (e_var 1 (pv 1)) e_int) (e_call (ok__law_draw T) (hr.mono (by decide)) hgd (by rfl) T.g__law_draw T.F__law_draw.kp T.b__law_draw pass0 (a_cons (e_var 0 (pv 0)) (a_cons (e_var 3 (pv 3)) a_nil)))) (a_cons (e_call (ok__law_rule T) (hr.mono (by decide)) hgd (by rfl) T.g__law_rule T.F__law_rule.kp T.b__law_rule pass0 (a_cons (e_var 0 (pv 0)) a_nil)) a_nil))) (fun h => pe_bm PySem.F.plainAttrs_list PySem.F.slot_list_append PySem.F.type_list_append mt_append (pv 4) h))))
    (ss_cons (s_if (t_gt (e_call (ok__law_draw T) (hr.mono (by decide)) hgd (by rfl) T.g__law_draw T.F__law_draw.kp T.b__law_draw pass0 (a_cons (e_var 0 (pv 0)) (a_cons e_int a_nil))) e_int) (ss_cons (s_set (i := 6) sc__law_chain.nd rfl (.inl rfl) (e_sortedD hr (by rfl) T.n_sorted (a_cons (e_fz (e_lc (own := [("_law_width", 7), ("_law_rule_here", 8)]) rfl sc__law_chain.nd (i_items (e_var 4 (pv 4))) (blkOk_by (own := [("_law_width", 7), ("_law_rule_here", 8)]) (N := N__law_chain) (sc := defScope st__law_chain) (by decide +kernel)) (fun _ _ _ _ _ => (gw_tup rfl rfl (gsw_cons (gw_name rfl (pg_name (i := 7) sc__law_chain.nd rfl (.inl rfl)) (by decide)) (gsw_cons (gw_name rfl (pg_name (i := 8) sc__law_chain.nd rfl (.inl rfl)) (by decide)) gsw_nil)))) (fun _ _ _ _ _ => ts_yes) (fun _ _ _ _ _ => (e_tup (a_cons (e_sub e_int (e_var 7 (pv 7))) (a_cons (e_var 8 (pv 8)) a_nil)))))) a_nil)))
    (ss_one (s_ret (e_tuple (by rfl) T.n_tuple (a_cons (e_fz (e_lc (own := [("_law_width", 7), ("_law_rule_here", 8)]) rfl sc__law_chain.nd (i_items (e_var 6 (pv 6))) (blkOk_by (own := [("_law_width", 7), ("_law_rule_here", 8)]) (N := N__law_chain) (sc := defScope st__law_chain) (by decide +kernel)) (fun _ _ _ _ _ => (gw_tup rfl rfl (gsw_cons (gw_name rfl (pg_name (i := 7) sc__law_chain.nd rfl (.inl rfl)) (by decide)) (gsw_cons (gw_name rfl (pg_name (i := 8) sc__law_chain.nd rfl (.inl rfl)) (by decide)) gsw_nil)))) (fun _ _ _ _ _ => ts_yes) (fun _ _ _ _ _ => (e_tup (a_cons (e_sub e_int (e_var 7 (pv 7))) (a_cons (e_var 8 (pv 8)) a_nil)))))) a_nil))))) ss_nil)
    (ss_one (s_ret (e_tuple (by rfl) T.n_tuple (a_cons (e_add (e_sl (e_var 4 (pv 4)) (o_some e_int) o_none) (e_sl (e_var 4 (pv 4)) o_none (o_some e_int))) a_nil)))))))
theorem ok__law_chain (T : Tx w K mg) : Fn P w K mg base CX0 4 T.f__law_chain T.fd__law_chain ["_law_source_here", "_law_last", "_law_most", "_law_far"] (lift K 4 fs__law_chain) := fn_data T.F__law_chain sc__law_chain b__law_chain (fun _ _ _ _ _ _ hr hgd => d__law_chain T hr hgd) p__law_chain
end
def b__law_below : DS :=
  (dRet (dBin oLe (dBin oMul (dIx (dVar 0) (dC (.int 0))) (dIx (dVar 1) (dC (.int 1)))) (dBin oMul (dIx (dVar 1) (dC (.int 0))) (dIx (dVar 0) (dC (.int 1))))))
def fs__law_below : FSp := fun rs fu post => ∃ n d n' d' : Int, rs = [.val (num n d), .val (num n' d')] ∧ Bn 4000 n ∧ Bn 4000 d ∧ Bn 4000 n' ∧ Bn 4000 d' ∧ post (.val (.bool (decide (n * d' ≤ n' * d)))) fu
theorem p__law_below (rs : List Rv) (fu : Option Nat) (post : Rr → Option Nat → Prop) (hl : rs.length = 2) (h : fs__law_below rs fu post) : b__law_below ⟨fun g => post (.val .none) g.fu, fun r g => post r g.fu, fun _ => False, fun _ => False⟩ (ent N__law_below rs fu) := by
  obtain ⟨n, d, n', d', rfl, b1, b2, b3, b4, h⟩ := h
  simp_arith [b__law_below, num]
  exact ⟨mulX 4000 4000 b1 b4 (by decide), mulX 4000 4000 b3 b2 (by decide), h⟩
section
variable {P : Program} {w : World} {K : Fg} {mg : Str → Option Value} {base : Heap}
theorem d__law_below (T : Tx w K mg) {cdv : Value} {A : Around} {outer : List Env} {s : Shared} {H : Hp} {E : XK} (hr : Room 0 (A.deeper (envOfC "_law_below" (defScope st__law_below) s.heap.objs.size T.f__law_below cdv))) (hgd : (A.deeper (envOfC "_law_below" (defScope st__law_below) s.heap.objs.size T.f__law_below cdv)).guards = some []) :
    PSs (cxOf CX0 P w K mg base N__law_below "_law_below" (defScope st__law_below) T.f__law_below cdv A outer s H E).nox (defBody st__law_below) (upS K W0 b__law_below) :=
  (ss_one (s_ret (e_le (e_mul (e_ix (e_var 0 (pv 0)) e_int) (e_ix (e_var 1 (pv 1)) e_int)) (e_mul (e_ix (e_var 1 (pv 1)) e_int) (e_ix (e_var 0 (pv 0)) e_int)))))
theorem ok__law_below (T : Tx w K mg) : Fn P w K mg base CX0 1 T.f__law_below T.fd__law_below ["_law_one", "_law_other"] (lift K 2 fs__law_below) := fn_data T.F__law_below sc__law_below b__law_below (fun _ _ _ _ _ _ hr hgd => d__law_below T hr hgd) p__law_below
end
def b__law_near : DS :=
  (dSeq (dAsg (dTup (dCons (dVar 1) (dCons (dCall 2 fs__law_pick (dCons (dVar 0) (dCons (dFz (dLst (dCons (dC (.int 3)) (dCons (dC (.int 4)) (dCons (dC (.int 5)) (dCons (dC (.int 6)) (dCons (dC (.int 8)) (dCons (dC (.int 10)) (dCons (dC (.int 60)) dNil))))))))) dNil))) dNil))) (dT 2 (dTc (dT 2 (dTc (dN 2) (dTc (dN 3) dTn))) (dTc (dN 4) dTn))))
  (dRetL (dLc [5] (dRange1 (dC (.int 16))) (dN 5) dYes (dCall 2 fs__law_low (dCons (dBin oMul (dVar 2) (dBin fAdd (dBin oShl (dC (.int 1)) (dVar 4)) (dVar 5))) (dCons (dBin oShl (dVar 3) (dVar 4)) dNil))))))
/-- sixteen numbers near to one another -/
def rowN (n d : Int) (f : Nat) : List (Int × Int) := (List.range 16).map fun j : Nat => low (n * (2 ^ f + j)) (d * 2 ^ f)
def fs__law_near : FSp := fun rs fu post => ∃ (n d : Int) (m : Nat), rs = [.src, .val (num n d)] ∧ fu = some (m + 1) ∧ 0 < n ∧ Bn 200 n ∧ 0 < d ∧ Bn 200 d ∧ ∀ f : Nat, f ≤ 60 → post (.own ((rowN n d f).map nm)) (some m)
theorem p__law_near (rs : List Rv) (fu : Option Nat) (post : Rr → Option Nat → Prop) (hl : rs.length = 2) (h : fs__law_near rs fu post) : b__law_near ⟨fun g => post (.val .none) g.fu, fun r g => post r g.fu, fun _ => False, fun _ => False⟩ (ent N__law_near rs fu) := by
  obtain ⟨n, d, m, rfl, rfl, n0, bn, d0, bd, h⟩ := h
  simp_arith [b__law_near, fs__law_pick, fs__law_low, num]
  refine ⟨_, m, rfl, rfl, by show 0 < 7; decide, by show 7 < 1000000; decide, fun v hv => ?_⟩
  obtain ⟨f, rfl, hf⟩ : ∃ f : Nat, v = .int f ∧ f ≤ 60 := by
    simp only [List.mem_cons, List.not_mem_nil, or_false] at hv
    rcases hv with rfl | rfl | rfl | rfl | rfl | rfl | rfl
    · exact ⟨3, rfl, by decide⟩
    · exact ⟨4, rfl, by decide⟩
    · exact ⟨5, rfl, by decide⟩
    · exact ⟨6, rfl, by decide⟩
    · exact ⟨8, rfl, by decide⟩
    · exact ⟨10, rfl, by decide⟩
    · exact ⟨60, rfl, by decide⟩
  refine ⟨by decide, by decide, lc_map (fun x => match x with | .int j => nm (low (n * (2 ^ f + j)) (d * 2 ^ f)) | _ => .none) (fun x hx R hR => ?_) (by rw [rangeD_len]; decide) ?_⟩
  · obtain ⟨j, rfl, j0, j1⟩ := rangeD_mem hx
    simp_arith [fs__law_low]
    rw [Int.toNat_natCast]
    have j2 : j < 16 := by simpa using j1
    have p2 : Bn 61 ((2 : Int) ^ f) := Bn.pow2 (by omega)
    have bs : Bn 100 (2 ^ f + j) := ((p2.mono (m := 64) (by decide)).add (Bn.small (by omega) (by omega) (by decide))).mono (by decide)
    have pp := pow2_pos f
    exact ⟨shlX 64 (Bn.small (by decide) (by decide) (by decide)) (by omega) (by omega), mulX 200 100 bn bs (by decide), shlX 200 bd (by omega) (by omega), _, _, rfl, Int.le_of_lt (Int.mul_pos n0 (by omega)), Int.mul_pos d0 pp, (bd.mul p2).mono (by decide), hR _ rfl⟩
  · have e : [] ++ (rangeD 0 (Int.toNat 16)).map (fun x => match x with | .int j => nm (low (n * (2 ^ f + j)) (d * 2 ^ f)) | _ => .none) = (rowN n d f).map nm := by
      unfold rowN rangeD
      simp
    rw [e]
    exact h f hf
section
variable {P : Program} {w : World} {K : Fg} {mg : Str → Option Value} {base : Heap}
theorem d__law_near (T : Tx w K mg) {cdv : Value} {A : Around} {outer : List Env} {s : Shared} {H : Hp} {E : XK} (hr : Room 2 (A.deeper (envOfC "_law_near" (defScope st__law_near) s.heap.objs.size T.f__law_near cdv))) (hgd : (A.deeper (envOfC "_law_near" (defScope st__law_near) s.heap.objs.size T.f__law_near cdv)).guards = some []) :
    PSs (cxOf CX0 P w K mg base N__law_near "_law_near" (defScope st__law_near) T.f__law_near cdv A outer s H E).nox (defBody st__law_near) (upS K W0 b__law_near) :=
  (ss_cons (s_asg (e_tup (a_cons (e_var 1 (pv 1)) (a_cons (e_call (ok__law_pick T) (hr.mono (by decide)) hgd (by rfl) T.g__law_pick T.F__law_pick.kp T.b__law_pick pass0 (a_cons (e_var 0 (pv 0)) (a_cons (e_fz (e_lstL (a_cons e_int (a_cons e_int (a_cons e_int (a_cons e_int (a_cons e_int (a_cons e_int (a_cons e_int a_nil))))))))) a_nil))) a_nil))) (g_tup rfl (gs_cons (g_tup rfl (gs_cons (g_name (pg_name (i := 2) sc__law_near.nd rfl (.inr rfl))) (gs_cons (g_name (pg_name (i := 3) sc__law_near.nd rfl (.inr rfl))) gs_nil))) (gs_cons (g_name (pg_name (i := 4) sc__law_near.nd rfl (.inr rfl))) gs_nil))))
    (ss_one (s_retL (e_lc (own := [("_law_j", 5)]) rfl sc__law_near.nd (i_range1 (by rfl) T.n_range e_int) (blkOk_by (own := [("_law_j", 5)]) (N := N__law_near) (sc := defScope st__law_near) (by decide +kernel)) (fun _ _ _ _ _ => (gw_name rfl (pg_name (i := 5) sc__law_near.nd rfl (.inl rfl)) (by decide))) (fun _ _ _ _ _ => ts_yes) (fun _ _ _ _ _ => (e_call (ok__law_low T) (hr.mono (by decide)) hgd (by rfl) T.g__law_low T.F__law_low.kp T.b__law_low pass0 (a_cons (e_mul (e_var 2 (pv 2)) (e_add (e_shl e_int (e_var 4 (pv 4))) (e_var 5 (pv 5)))) (a_cons (e_shl (e_var 3 (pv 3)) (e_var 4 (pv 4))) a_nil))))))))
theorem ok__law_near (T : Tx w K mg) : Fn P w K mg base CX0 3 T.f__law_near T.fd__law_near ["_law_source_here", "_law_one"] (lift K 2 fs__law_near) := fn_data T.F__law_near sc__law_near b__law_near (fun _ _ _ _ _ _ hr hgd => d__law_near T hr hgd) p__law_near
end
def b__law_row_right : DS :=
  (dSeq (dPar 2 3 (dCall 1 fs_last_width (dCons (dVar 1) dNil)) (dC .none))
  (dSeq (dFor (dItems (dVar 0)) (dN 4)
    (dSeq (dAsg (dCall 2 fs_applied (dCons (dVar 4) (dCons (dVar 1) dNil))) (dN 5))
  (dSeq (dAsg (dCall 2 fs_neighbours (dCons (dVar 4) (dCons (dVar 2) dNil))) (dT 2 (dTc (dN 6) (dTc (dN 7) dTn))))
  (dSeq (dIfS (dOrT (dAndT (dTest (dIsN true (dVar 3))) (dNotT (dTest (dCall 2 fs__law_below (dCons (dVar 3) (dCons (dVar 5) dNil)))))) (dTest (dBin (fInD true) (dVar 5) (dTup (dCons (dVar 6) (dCons (dVar 7) dNil))))))
    (dRet (dC (.bool false)))
    dNext)
  (dAsg (dVar 5) (dN 3))))))
  (dGrp 8 (dItems (dVar 0)) (dN 4) (dTest (dBin fNe (dCall 2 fs_position (dCons (dVar 4) (dCons (dVar 2) dNil))) (dTup (dCons (dC (.int 0)) (dCons (dC (.int 1)) dNil))))) (dCall 2 fs_cell (dCons (dVar 4) (dCons (dVar 2) dNil))) (dBin fEq (dCall 2 fs_applied (dCons (dVar 4) (dCons (dVar 1) dNil))) (dIx (dCall 2 fs_neighbours (dCons (dVar 4) (dCons (dVar 2) dNil))) (dC (.int 1))))
  (dRet (dCB cAll (dCons (dFz (dLc [9] (dValX 8) (dN 9) dYes (dBin fEq (dVar 9) (dCB cSortedD (dCons (dVar 9) dNil))))) dNil))))))
structure RowOk (xs : List (Int × Int)) : Prop where
  len : xs.length ≤ 100
  nu : ∀ x ∈ xs, NuB 1000 x.1 x.2
  asc : xs.Pairwise fun x y => x.1 * y.2 ≤ y.1 * x.2
theorem RowOk.asc2 {xs : List (Int × Int)} (h : RowOk xs) : xs.Pairwise fun x y => Nu x.1 x.2 ∧ Nu y.1 y.2 ∧ x.1 * y.2 ≤ y.1 * x.2 :=
  h.asc.imp_of_mem fun {x y} hx hy le => ⟨(h.nu x hx).nu, (h.nu y hy).nu, le⟩
theorem bools_lay : ∀ bs : List Bool, PyData.canLayAll0 (bs.map PyData.bool) = true ∧ PyData.depthAll (bs.map PyData.bool) = 0
  | [] => ⟨rfl, rfl⟩
  | b :: bs => by
    obtain ⟨h1, h2⟩ := bools_lay bs
    simp [PyData.canLayAll0, PyData.depthAll, PyData.canLay0, PyData.depth, h1, h2]
theorem shaped_bools (bs : List Bool) : SeqAt.shaped (.list (bs.map PyData.bool)) = true := by
  obtain ⟨h1, h2⟩ := bools_lay bs
  simp [SeqAt.shaped, PyData.canLay0, PyData.depth, h1, h2]
theorem set_nm (a b : Int) : ZS.setD (num a b) = true := by simp [num, ZS.setD, ZS.okD, ZS.okDs, ZS.kD, ZS.kDs, NestedKey.depth, NestedKey.depthAll]
def rrL : DS := (dSeq (dAsg (dCall 2 fs_applied (dCons (dVar 4) (dCons (dVar 1) dNil))) (dN 5))
  (dSeq (dAsg (dCall 2 fs_neighbours (dCons (dVar 4) (dCons (dVar 2) dNil))) (dT 2 (dTc (dN 6) (dTc (dN 7) dTn))))
  (dSeq (dIfS (dOrT (dAndT (dTest (dIsN true (dVar 3))) (dNotT (dTest (dCall 2 fs__law_below (dCons (dVar 3) (dCons (dVar 5) dNil)))))) (dTest (dBin (fInD true) (dVar 5) (dTup (dCons (dVar 6) (dCons (dVar 7) dNil))))))
    (dRet (dC (.bool false)))
    dNext)
  (dAsg (dVar 5) (dN 3)))))
abbrev gRw (xs : List (Int × Int)) (c : List (Int × Ru)) (L : Da) (x4 x5 x6 x7 : Option Sv) : Gs := ⟨[some (.val (.list (xs.map nm))), some (.val (chD c)), some (.val (.int (chT c).1)), some (.val L), x4, x5, x6, x7, none, none], none, true⟩
theorem p_rrL {D : DEnds} {xs : List (Int × Int)} {c : List (Int × Ru)} {L : Da} {x : Int × Int} {x5 x6 x7 : Option Sv} (hc : Chn1 c) (nb : NuB 1000 x.1 x.2)
    (hL : L = .none ∨ ∃ y : Int × Int, NuB 1000 y.1 y.2 ∧ y.1 * x.2 ≤ x.1 * y.2 ∧ L = nm (applI y.1 y.2 c))
    (h : ∀ x6 x7, isOwn x6 = false → isOwn x7 = false → D.nx (gRw xs c (nm (applI x.1 x.2 c)) (some (.val (nm x))) (some (.val (nm (applI x.1 x.2 c)))) x6 x7)) : rrL D (gRw xs c L (some (.val (nm x))) x5 x6 x7) := by
  obtain ⟨n, d⟩ := x
  obtain ⟨hT, w1, w2⟩ := chT_B hc.ne hc.w
  have nu := nb.nu
  have ends := appl_ends hc nu
  have B := appl_B hc.w nb
  have two : inD (nm (applI n d c)) [nm (endsI n d (chT c).1).1, nm (endsI n d (chT c).1).2] = true := in_two ends
  rcases hL with rfl | ⟨⟨n', d'⟩, ny, le, rfl⟩
  · simp_arith [rrL, fs_applied, fs_neighbours]
    refine ⟨n, d, c, rfl, nb, hc, n, d, _, rfl, nb.is, nu.n0, nb.bn.mono (by decide), nu.d0, nb.bd.mono (by decide), w1, w2, ?_⟩
    exact ⟨shaped_nums _ _ _ _, fun z => (by rw [two] at z; cases z), fun _ => h _ _ rfl rfl⟩
  · have B' := appl_B hc.w ny
    have mono := (thr_mono hT.ok ny.nu.n0 ny.nu.d0 nu.n0 nu.d0 w1 le).1
    rw [← chain_law hc.ne hc.w nu, ← chain_law hc.ne hc.w ny.nu] at mono
    simp_arith [rrL, fs_applied, fs_neighbours, fs__law_below]
    refine ⟨n, d, c, rfl, nb, hc, n, d, _, rfl, nb.is, nu.n0, nb.bn.mono (by decide), nu.d0, nb.bd.mono (by decide), w1, w2, ?_⟩
    exact ⟨_, _, _, _, rfl, B'.bn.mono (by decide), B'.bd.mono (by decide), B.bn.mono (by decide), B.bd.mono (by decide), fun z => absurd mono z, fun _ => ⟨shaped_nums _ _ _ _, fun z => (by rw [two] at z; cases z), fun _ => h _ _ rfl rfl⟩⟩
theorem pos_lowest {n d w : Int} (hd : 0 < d) (h : (posI n d w).1 = 0) : posI n d w = (0, 1) := by
  unfold posI at h ⊢
  have hB : 0 < (scI n d (0 - (cellI n d w).2)).2 := Int.mul_pos hd (pow2_pos _)
  generalize (scI n d (0 - (cellI n d w).2)).1 - (cellI n d w).1 * (scI n d (0 - (cellI n d w).2)).2 = A at h ⊢
  generalize (scI n d (0 - (cellI n d w).2)).2 = B at h hB ⊢
  have g0 : (0 : Int) < Int.gcd A B := by
    have := Int.gcd_pos_of_ne_zero_right A (show B ≠ 0 by omega)
    omega
  obtain ⟨u, hu⟩ : (Int.gcd A B : Int) ∣ A := Int.gcd_dvd_left A B
  have e : A = 0 := by
    have h2 : A / (Int.gcd A B : Int) = 0 := h
    generalize (Int.gcd A B : Int) = G at *
    rw [hu, Int.mul_ediv_cancel_left _ (by omega)] at h2
    rw [hu, h2, Int.mul_zero]
  subst e
  unfold low
  rw [Int.gcd_zero_left]
  have e2 : ((B.natAbs : Nat) : Int) = B := by omega
  rw [e2, Int.zero_ediv, Int.ediv_self (by omega)]
/-- whether a number goes up -/
def mkB (w : Int) (T : Bool → Th) (x : Int × Int) : Bool := decide (Abv (posI x.1 x.2 w).1 (posI x.1 x.2 w).2 (T (decide ((cellI x.1 x.2 w).1 % 2 = 1))))
theorem pow_ne (k e : Int) : powI k e ≠ powI (k + 1) e := fun h => by
  obtain ⟨a1, a2⟩ := pow_at k e
  obtain ⟨b1, b2⟩ := pow_at (k + 1) e
  rw [← h] at b1
  rw [a1] at b1
  have p0 := pow2_pos e.toNat
  have e2 : (k + 1) * 2 ^ e.toNat * (powI k e).2 = k * 2 ^ e.toNat * (powI k e).2 + 2 ^ e.toNat * (powI k e).2 := by grind
  rw [e2] at b1
  have := Int.mul_pos p0 a2
  omega
theorem mark_eq {c : List (Int × Ru)} {n d : Int} (hc : Chn1 c) (h : Nu n d) (hp : (posI n d (chT c).1).1 ≠ 0) : (applI n d c = (endsI n d (chT c).1).2) ↔ mkB (chT c).1 (chT c).2 (n, d) = true := by
  rw [chain_law hc.ne hc.w h]
  unfold endsI thrI mkB
  rw [if_neg hp, decide_eq_true_eq]
  by_cases a : Abv (posI n d (chT c).1).1 (posI n d (chT c).1).2 ((chT c).2 (decide ((cellI n d (chT c).1).1 % 2 = 1)))
  · rw [if_pos a]
    exact ⟨fun _ => a, fun _ => rfl⟩
  · rw [if_neg a, Int.add_zero]
    exact ⟨fun z => absurd z (pow_ne _ _), fun z => absurd z a⟩
def keyB (w : Int) (x : Int × Int) : NestedKey := ZS.kD (nm (cellI x.1 x.2 w))
theorem key_cell {w : Int} {x y : Int × Int} (h : keyB w x = keyB w y) : cellI x.1 x.2 w = cellI y.1 y.2 w := by
  simp only [keyB, num, ZS.kD, ZS.kDs] at h
  injection h with h
  injection h with h1 h2
  injection h1 with h1
  injection h2 with h2 _
  injection h2 with h2
  exact Prod.ext h1 h2
theorem mark_up {w : Int} {T : Bool → Th} (hT : ∀ b, (T b).Ok) (hw : 1 ≤ w) {x y : Int × Int} (hx : Nu x.1 x.2) (hy : Nu y.1 y.2) (le : x.1 * y.2 ≤ y.1 * x.2) (hk : keyB w x = keyB w y) (m : mkB w T x = true) : mkB w T y = true := by
  have e := key_cell hk
  unfold mkB at m ⊢
  rw [decide_eq_true_eq] at m ⊢
  rw [← e]
  exact (thr_mono hT hx.n0 hx.d0 hy.n0 hy.d0 hw le).2 e _ (hT _) m
abbrev gRx (xs : List (Int × Int)) (c : List (Int × Ru)) (L : Da) (x4 x5 x6 x7 x8 : Option Sv) : Gs := ⟨[some (.val (.list (xs.map nm))), some (.val (chD c)), some (.val (.int (chT c).1)), some (.val L), x4, x5, x6, x7, x8, none], none, true⟩
def rrG : DS := (dGrp 8 (dItems (dVar 0)) (dN 4) (dTest (dBin fNe (dCall 2 fs_position (dCons (dVar 4) (dCons (dVar 2) dNil))) (dTup (dCons (dC (.int 0)) (dCons (dC (.int 1)) dNil))))) (dCall 2 fs_cell (dCons (dVar 4) (dCons (dVar 2) dNil))) (dBin fEq (dCall 2 fs_applied (dCons (dVar 4) (dCons (dVar 1) dNil))) (dIx (dCall 2 fs_neighbours (dCons (dVar 4) (dCons (dVar 2) dNil))) (dC (.int 1))))
  (dRet (dCB cAll (dCons (dFz (dLc [9] (dValX 8) (dN 9) dYes (dBin fEq (dVar 9) (dCB cSortedD (dCons (dVar 9) dNil))))) dNil))))
theorem gq_x {xs : List (Int × Int)} {c : List (Int × Ru)} {L : Da} {x4 x5 x6 x7 x8 : Option Sv} (h4 : isOwn x4 = false) (h5 : isOwn x5 = false) (h6 : isOwn x6 = false) (h7 : isOwn x7 = false) (h8 : isOwn x8 = false) : gQ (gRx xs c L x4 x5 x6 x7 x8) :=
  ⟨rfl, by simp only [List.any_cons, List.any_nil, h4, h5, h6, h7, h8] <;> rfl⟩
theorem p_rrG {D : DEnds} {xs : List (Int × Int)} {c : List (Int × Ru)} {L : Da} {x4 x5 x6 x7 : Option Sv} (hx : RowOk xs) (hc : Chn1 c) (h4 : isOwn x4 = false) (h5 : isOwn x5 = false) (h6 : isOwn x6 = false) (h7 : isOwn x7 = false)
    (h : ∀ g, g.fu = none → D.rt (.val (.bool true)) g) : rrG D (gRw xs c L x4 x5 x6 x7) := by
  obtain ⟨hT, w1, w2⟩ := chT_B hc.ne hc.w
  have ix := @grpD_ix
  refine ⟨gq_x h4 h5 h6 h7 rfl, fun p => ?_⟩
  simp_arith [Nat.zero_add]
  refine ⟨gq_x (x8 := some (.ob (.at p))) h4 h5 h6 h7 rfl, ix (fun k acc g => ∃ x4, isOwn x4 = false ∧ g = gRx xs c L x4 x5 x6 x7 (some (.ob (.at p))) ∧ GI (keyB (chT c).1) (mkB (chT c).1 (chT c).2) (xs.take k) acc) (fun k x hxk acc g hg N hN => ?_) (fun acc g hg => ?_) _ _ ⟨x4, h4, rfl, GI.zero⟩⟩
  · obtain ⟨x4, h4, rfl, gi⟩ := hg
    obtain ⟨⟨n, d⟩, hz, rfl⟩ : ∃ z, xs[k]? = some z ∧ nm z = x := by
      rw [List.getElem?_map] at hxk
      obtain ⟨z, h1, h2⟩ := Option.map_eq_some_iff.mp hxk
      exact ⟨z, h1, h2⟩
    have hm : (n, d) ∈ xs := List.mem_of_getElem? hz
    have nb := hx.nu _ hm
    have nu := nb.nu
    have tk : xs.take (k + 1) = xs.take k ++ [(n, d)] := ZS.take_snoc hz
    have lk : (xs.take k).length ≤ 100 := by rw [List.length_take]; have := hx.len; omega
    have few : acc.length < 1000 := by have := gi.len; omega
    have fewm : ∀ q ∈ acc, q.2.length < 1000 := fun q hq => by have := gi.few q hq; omega
    have b4 := nb.bn.mono (m := 4000) (by decide)
    have d4 := nb.bd.mono (m := 4000) (by decide)
    simp_arith [fs_position, fs_cell, fs_applied, fs_neighbours]
    refine ⟨gq_x rfl h5 h6 h7 rfl, n, d, _, rfl, nb.is, nu.n0, b4, nu.d0, d4, w1, w2, gq_x rfl h5 h6 h7 rfl, fun e => ?_, fun e => ⟨few, fewm, n, d, _, rfl, nb.is, nu.n0, b4, nu.d0, d4, w1, w2, ?_⟩⟩
    · exact hN acc _ ⟨_, rfl, rfl, by rw [tk]; exact gi.skip⟩
    · have hp : (posI n d (chT c).1).1 ≠ 0 := fun z => by
        rw [pos_lowest nu.d0 z] at e
        exact absurd e (by decide)
      have e2 : (decide ((applI n d c).fst = (endsI n d (chT c).1).snd.fst) && decide ((applI n d c).snd = (endsI n d (chT c).1).snd.snd)) = mkB (chT c).1 (chT c).2 (n, d) := by
        refine Bool.eq_iff_iff.mpr ?_
        rw [Bool.and_eq_true, decide_eq_true_eq, decide_eq_true_eq, ← mark_eq hc nu hp]
        exact Prod.ext_iff.symm
      refine ⟨gq_x rfl h5 h6 h7 rfl, _, rfl, set_nm _ _, n, d, c, rfl, nb, hc, n, d, _, rfl, nb.is, nu.n0, b4, nu.d0, d4, w1, w2, gq_x rfl h5 h6 h7 rfl, _, rfl, hN _ _ ⟨_, rfl, rfl, ?_⟩⟩
      rw [tk, e2]
      exact gi.add rfl
  · obtain ⟨x4, h4, rfl, gi⟩ := hg
    rw [List.length_map, List.take_length] at gi
    refine ⟨gq_x h4 h5 h6 h7 rfl, rfl, fun es ep => ?_⟩
    have asc := gi.asc hx.asc2 fun a b ⟨ha, hb, le⟩ hk m => mark_up hT.ok w1 ha hb le hk m
    have lc := @lc_map
    have bt := @boolsD_true
    simp_arith [Nat.zero_add]
    refine ⟨_, _, _, _, rfl, lc (fun _ => .bool true) (fun x hxm R hR => ?_) (by have := gi.len; have := hx.len; rw [List.length_map, List.length_nil]; omega) ?_⟩
    · obtain ⟨q, hq, rfl⟩ := List.mem_map.mp hxm
      obtain ⟨bs, e, up⟩ := asc q hq
      rw [e]
      have bf := bools_fit bs
      have lb : bs.length ≤ 100 := by
        have a := gi.few q hq
        rw [e, List.length_map] at a
        have := hx.len
        omega
      have sb := shaped_bools bs
      simp_arith [Nat.zero_add]
      refine ⟨bf.1, bf.2.1, bf.2.2, fun ds' pm pw => ?_⟩
      obtain rfl := sorted_bools up pm pw
      refine ⟨sb, sb, ?_⟩
      rw [SeqAt.eqv_refl _ (shaped_lay sb)]
      exact hR _ rfl
    · rw [List.nil_append, bt]
      simp only [all_true]
      exact h _ rfl
def fs__law_row_right : FSp := fun rs fu post => ∃ (xs : List (Int × Int)) (c : List (Int × Ru)), rs = [.val (.list (xs.map nm)), .val (chD c)] ∧ fu = none ∧ RowOk xs ∧ Chn1 c ∧ post (.val (.bool true)) fu
theorem p__law_row_right (rs : List Rv) (fu : Option Nat) (post : Rr → Option Nat → Prop) (hl : rs.length = 2) (h : fs__law_row_right rs fu post) : b__law_row_right ⟨fun g => post (.val .none) g.fu, fun r g => post r g.fu, fun _ => False, fun _ => False⟩ (ent N__law_row_right rs fu) := by
  obtain ⟨xs, c, rfl, rfl, hx, hc, h⟩ := h
  have lL := @p_rrL
  have lG := @p_rrG
  show (dSeq (dPar 2 3 (dCall 1 fs_last_width (dCons (dVar 1) dNil)) (dC .none)) (dSeq (dFor (dItems (dVar 0)) (dN 4) rrL) rrG)) _ _
  generalize ra : rrL = A at lL
  generalize rb : rrG = B at lG
  simp_arith [fs_last_width]
  refine ⟨c, rfl, hc, forD_ix0 (fun k g => ∃ L x4 x5 x6 x7, isOwn x4 = false ∧ isOwn x5 = false ∧ isOwn x6 = false ∧ isOwn x7 = false ∧ g = gRw xs c L x4 x5 x6 x7 ∧ ((k = 0 ∧ L = .none) ∨ ∃ y, 0 < k ∧ xs[k - 1]? = some y ∧ L = nm (applI y.1 y.2 c))) (fun k x hxk g hg N hN => ?_) (fun g hg => ?_) ⟨.none, none, none, none, none, rfl, rfl, rfl, rfl, rfl, .inl ⟨rfl, rfl⟩⟩⟩
  · obtain ⟨L, x4, x5, x6, x7, h4, h5, h6, h7, rfl, hL⟩ := hg
    obtain ⟨z, hz, rfl⟩ : ∃ z, xs[k]? = some z ∧ nm z = x := by
      rw [List.getElem?_map] at hxk
      obtain ⟨z, h1, h2⟩ := Option.map_eq_some_iff.mp hxk
      exact ⟨z, h1, h2⟩
    simp_arith [Nat.zero_add]
    refine lL hc (hx.nu _ (List.mem_of_getElem? hz)) ?_ fun x6 x7 e6 e7 => hN _ ⟨_, _, _, _, _, rfl, rfl, e6, e7, rfl, .inr ⟨z, by omega, by simpa using hz, rfl⟩⟩
    rcases hL with ⟨_, rfl⟩ | ⟨y, k0, hy, rfl⟩
    · exact .inl rfl
    · refine .inr ⟨y, hx.nu _ (List.mem_of_getElem? hy), ?_, rfl⟩
      obtain ⟨i1, e1⟩ := List.getElem?_eq_some_iff.mp hy
      obtain ⟨i2, e2⟩ := List.getElem?_eq_some_iff.mp hz
      have := List.pairwise_iff_getElem.mp hx.asc (k - 1) k i1 i2 (by omega)
      rw [e1, e2] at this
      exact this
  · obtain ⟨L, x4, x5, x6, x7, h4, h5, h6, h7, rfl, _⟩ := hg
    simp_arith [Nat.zero_add]
    exact lG hx hc h4 h5 h6 h7 fun g hg => by show post _ g.fu; rw [hg]; exact h
section
variable {P : Program} {w : World} {K : Fg} {mg : Str → Option Value} {base : Heap}
theorem d__law_row_right (T : Tx w K mg) {cdv : Value} {A : Around} {outer : List Env} {s : Shared} {H : Hp} {E : XK} (hr : Room 7 (A.deeper (envOfC "_law_row_right" (defScope st__law_row_right) s.heap.objs.size T.f__law_row_right cdv))) (hgd : (A.deeper (envOfC "_law_row_right" (defScope st__law_row_right) s.heap.objs.size T.f__law_row_right cdv)).guards = some []) :
    PSs (cxOf CX0 P w K mg base N__law_row_right "_law_row_right" (defScope st__law_row_right) T.f__law_row_right cdv A outer s H E).nox (defBody st__law_row_right) (upS K W0 b__law_row_right) :=
  (ss_cons (s_par (i := 2) (j := 3) rfl sc__law_row_right.nd rfl rfl (by decide) rfl rfl (e_call (ok_last_width T) (hr.mono (by decide)) hgd (by rfl) T.g_last_width T.F_last_width.kp T.b_last_width pass0 (a_cons (e_var 1 (pv 1)) a_nil)) e_non)
    (ss_cons (s_for PassesOwn.never rfl (i_items (e_var 0 (pv 0))) (g_name (pg_name (i := 4) sc__law_row_right.nd rfl (.inl rfl))) (ss_cons (s_set (i := 5) sc__law_row_right.nd rfl (.inl rfl) (e_call (ok_applied T) (hr.mono (by decide)) hgd (by rfl) T.g_applied T.F_applied.kp T.b_applied pass0 (a_cons (e_var 4 (pv 4)) (a_cons (e_var 1 (pv 1)) a_nil))))
    (ss_cons (s_asg (e_call (ok_neighbours T) (hr.mono (by decide)) hgd (by rfl) T.g_neighbours T.F_neighbours.kp T.b_neighbours pass0 (a_cons (e_var 4 (pv 4)) (a_cons (e_var 2 (pv 2)) a_nil))) (g_tup rfl (gs_cons (g_name (pg_name (i := 6) sc__law_row_right.nd rfl (.inl rfl))) (gs_cons (g_name (pg_name (i := 7) sc__law_row_right.nd rfl (.inl rfl))) gs_nil))))
    (ss_cons (s_if (PW.pt (w_or (PW.pt (w_and (t_notN (e_var 3 (pv 3))) (w_and1 (t_not (t_val (e_call (ok__law_below T) (hr.mono (by decide)) hgd (by rfl) T.g__law_below T.F__law_below.kp T.b__law_below pass0 (a_cons (e_var 3 (pv 3)) (a_cons (e_var 5 (pv 5)) a_nil)))))))) (w_or1 (t_notinX hr (e_var 5 (pv 5)) (e_tup (a_cons (e_var 6 (pv 6)) (a_cons (e_var 7 (pv 7)) a_nil))))))) (ss_one (s_ret e_bl)) ss_nil)
    (ss_one (s_set (i := 3) sc__law_row_right.nd rfl (.inl rfl) (e_var 5 (pv 5))))))))
    (ss_grp (iD := 8) sc__law_row_right.nd rfl (.inl rfl) PassesOwn.never rfl hr.units (i_items (e_var 0 (pv 0))) (g_name (pg_name (i := 4) sc__law_row_right.nd rfl (.inl rfl))) (t_ne hr.units (e_call (ok_position T) (hr.mono (by decide)) hgd (by rfl) T.g_position T.F_position.kp T.b_position pass0 (a_cons (e_var 4 (pv 4)) (a_cons (e_var 2 (pv 2)) a_nil))) (e_tup (a_cons e_int (a_cons e_int a_nil)))) (pv 8) (e_call (ok_cell T) (hr.mono (by decide)) hgd (by rfl) T.g_cell T.F_cell.kp T.b_cell pass0 (a_cons (e_var 4 (pv 4)) (a_cons (e_var 2 (pv 2)) a_nil))) (e_eq hr.units (e_call (ok_applied T) (hr.mono (by decide)) hgd (by rfl) T.g_applied T.F_applied.kp T.b_applied pass0 (a_cons (e_var 4 (pv 4)) (a_cons (e_var 1 (pv 1)) a_nil))) (e_ix (e_call (ok_neighbours T) (hr.mono (by decide)) hgd (by rfl) T.g_neighbours T.F_neighbours.kp T.b_neighbours pass0 (a_cons (e_var 4 (pv 4)) (a_cons (e_var 2 (pv 2)) a_nil))) e_int))
    (ss_one (s_ret (e_all rfl (by rfl) T.n_all (a_cons (e_fz (e_lc (own := [("_law_marks", 9)]) rfl sc__law_row_right.nd (i_valX (pv 8)) (blkOk_by (own := [("_law_marks", 9)]) (N := N__law_row_right) (sc := defScope st__law_row_right) (by decide +kernel)) (fun _ _ _ _ _ => (gw_name rfl (pg_name (i := 9) sc__law_row_right.nd rfl (.inl rfl)) (by decide))) (fun _ _ _ _ _ => ts_yes) (fun _ _ _ _ _ => (e_eq hr.units (e_var 9 (pv 9)) (e_sortedD hr (by rfl) T.n_sorted (a_cons (e_var 9 (pv 9)) a_nil)))))) a_nil)))))))
theorem ok__law_row_right (T : Tx w K mg) : Fn P w K mg base CX0 8 T.f__law_row_right T.fd__law_row_right ["_law_row", "_law_steps"] (lift K 2 fs__law_row_right) := fn_data T.F__law_row_right sc__law_row_right b__law_row_right (fun _ _ _ _ _ _ hr hgd => d__law_row_right T hr hgd) p__law_row_right
end
def b__law_right : DS :=
  (dSeq (dFor (dRange1 (dC (.int 10))) (dN 1)
    (dSeq (dAsg (dCall 4 fs__law_chain (dCons (dVar 0) (dCons (dCall 2 fs__law_pick (dCons (dVar 0) (dCons (dFz (dLst (dCons (dC (.int 1)) (dCons (dC (.int 2)) (dCons (dC (.int 3)) (dCons (dC (.int 4)) dNil)))))) dNil))) (dCons (dC (.int 6)) (dCons (dC (.int 6)) dNil))))) (dN 2))
  (dSeq (dIfS (dNotT (dTest (dCall 2 fs__law_row_right (dCons (dCall 2 fs__law_near (dCons (dVar 0) (dCons (dCall 2 fs__law_number (dCons (dVar 0) (dCons (dC (.int 64)) dNil))) dNil))) (dCons (dVar 2) dNil)))))
    (dRet (dC (.bool false)))
    dNext)
  (dFor (dItems (dTup (dCons (dC (.str "down")) (dCons (dC (.str "up")) dNil)))) (dN 3)
    (dSeq (dAsg (dCB cTuple (dCons (dFz (dLc [5, 6] (dItems (dVar 2)) (dT 2 (dTc (dN 5) (dTc (dN 6) dTn))) dYes (dTup (dCons (dVar 5) (dCons (dVar 3) dNil))))) dNil)) (dN 4))
  (dIfS (dNotT (dTest (dCall 2 fs_same (dCons (dVar 4) (dCons (dTup (dCons (dTup (dCons (dCall 1 fs_last_width (dCons (dVar 2) dNil)) (dCons (dVar 3) dNil))) dNil)) dNil)))))
    (dRet (dC (.bool false)))
    dNext))))))
  (dRet (dC (.bool true))))
theorem two_pow_succ (n : Nat) : (2 : Int) ^ (n + 1) = 2 * 2 ^ n := by rw [Int.pow_succ, Int.mul_comm]
theorem dir_gone {r : Ru} {f : Nat} (hf : 1 ≤ f) (hr : r = .dn ∨ r = .up) : combI (byR r) r f = byR r := by
  funext b
  obtain ⟨g, rfl⟩ : ∃ g, f = g + 1 := ⟨f - 1, by omega⟩
  have p0 := pow2_pos g
  have low2 : low (1 * (2 * 2 ^ g)) (1 * (2 * 2 ^ g)) = (1, 1) := by rw [low_mul (by omega)]; rfl
  have low0 : low (0 * (2 * 2 ^ g)) (1 * (2 * 2 ^ g)) = (0, 1) := by rw [low_mul (by omega)]; rfl
  rw [Int.one_mul] at low2
  rw [Int.zero_mul, Int.one_mul] at low0
  unfold combI lastI
  rw [two_pow_succ]
  generalize (2 : Int) ^ g = F at *
  rcases hr with rfl | rfl <;> simp [byR, nev, alw, low2, low0]
theorem thF_dir {r : Ru} (hr : r = .dn ∨ r = .up) : ∀ (c : List (Int × Ru)) (w : Int), (∀ s ∈ c, s.2 = r) → Fall w c → (thF w (byR r) c).2 = byR r
  | [], _, _, _ => rfl
  | s :: c, w, h, f => by
    show (thF s.1 (combI (byR r) s.2 (w - s.1).toNat) c).2 = _
    rw [h s List.mem_cons_self, dir_gone (by have := f.2.1; omega) hr]
    exact thF_dir hr c s.1 (fun t ht => h t (List.mem_cons_of_mem _ ht)) f.2.2
theorem trim_sub : ∀ (c : List (Int × Ru)) (o : Option Int), ∀ s ∈ trimI o c, s ∈ c
  | [], o, s, h => by cases o <;> simp [trimI] at h
  | t :: c, none, s, h => by
    simp only [trimI] at h
    rcases List.mem_cons.mp h with e | h
    · rw [e]; exact List.mem_cons_self
    · exact List.mem_cons_of_mem _ (trim_sub c _ s h)
  | t :: c, some l, s, h => by
    simp only [trimI] at h
    split at h
    · rcases List.mem_cons.mp h with e | h
      · rw [e]; exact List.mem_cons_self
      · exact List.mem_cons_of_mem _ (trim_sub c _ s h)
    · exact List.mem_cons_of_mem _ (trim_sub c _ s h)
def dirC (r : Ru) (c : List (Int × Ru)) : List (Int × Ru) := c.map fun s => (s.1, r)
theorem dir_chn {r : Ru} {c : List (Int × Ru)} (hc : Chn1 c) : Chn1 (dirC r c) :=
  ⟨fun e => hc.ne (List.map_eq_nil_iff.mp e), by unfold dirC; rw [List.length_map]; exact hc.len, fun s hs => by
    obtain ⟨t, ht, rfl⟩ := List.mem_map.mp hs
    exact hc.w t ht⟩
theorem dir_T {r : Ru} (hr : r = .dn ∨ r = .up) {c : List (Int × Ru)} (hc : Chn1 c) : (chT (dirC r c)).2 = byR r := by
  have all : ∀ s ∈ dirC r c, s.2 = r := fun s hs => by
    obtain ⟨t, _, rfl⟩ := List.mem_map.mp hs
    rfl
  have hw := (dir_chn (r := r) hc).w
  have ne := (dir_chn (r := r) hc).ne
  generalize dirC r c = e at all hw ne
  cases e with
  | nil => exact absurd rfl ne
  | cons s e =>
    show (thF s.1 (byR s.2) (trimI (some s.1) e)).2 = _
    rw [all s List.mem_cons_self]
    exact thF_dir hr _ _ (fun t ht => all t (List.mem_cons_of_mem _ (trim_sub e _ t ht))) (trim_fall fun t ht => hw t (List.mem_cons_of_mem _ ht))
theorem dir_W {r : Ru} {c : List (Int × Ru)} (hc : Chn1 c) : (chT (dirC r c)).1 = (chT c).1 := by
  obtain ⟨a1, t, ht, a2⟩ := chT_min (c := c) hc.ne
  obtain ⟨b1, u, hu, b2⟩ := chT_min (c := dirC r c) (dir_chn hc).ne
  obtain ⟨u', hu', rfl⟩ := List.mem_map.mp hu
  have x := a1 u' hu'
  have y := b1 (t.1, r) (List.mem_map.mpr ⟨t, ht, rfl⟩)
  simp only at y b2
  omega
theorem same_dir {r : Ru} (hr : r = .dn ∨ r = .up) {c : List (Int × Ru)} (hc : Chn1 c) : sameB (dirC r c) [((chT c).1, r)] = true := by
  have e1 : (chT [((chT c).1, r)]).1 = (chT c).1 := rfl
  have e2 : (chT [((chT c).1, r)]).2 = byR r := rfl
  unfold sameB
  rw [e1, e2, dir_T hr hc, dir_W hc, decide_eq_true rfl, Bool.true_and]
  exact SeqAt.eqv_refl _ (shaped_lay (shaped_prD _ _))
def drD (r : Ru) : Da → Da
  | .tuple [.int w, _] => .tuple [.int w, .str r.s]
  | _ => .none
theorem row_ok {n d : Int} (n0 : 0 < n) (bn : Bn 200 n) (d0 : 0 < d) (bd : Bn 200 d) {f : Nat} (hf : f ≤ 60) : RowOk (rowN n d f) := by
  have p2 : Bn 61 ((2 : Int) ^ f) := Bn.pow2 (by omega)
  have pp := pow2_pos f
  refine ⟨by unfold rowN; rw [List.length_map, List.length_range]; decide, fun x hx => ?_, ?_⟩
  · obtain ⟨j, hj, rfl⟩ := List.mem_map.mp hx
    have j2 : j < 16 := List.mem_range.mp hj
    have bs : Bn 100 (2 ^ f + (j : Int)) := ((p2.mono (m := 64) (by decide)).add (Bn.small (by omega) (by omega) (by decide))).mono (by decide)
    have hN : 0 < n * (2 ^ f + (j : Int)) := Int.mul_pos n0 (by omega)
    have hD : 0 < d * 2 ^ f := Int.mul_pos d0 pp
    obtain ⟨l1, l2, l3, l4, l5⟩ := low_pos hN hD
    exact NuB.of l1 l2 l3 (((bn.mul bs).le (Int.le_of_lt l1) l4).mono (by decide)) (((bd.mul p2).le (Int.le_of_lt l2) l5).mono (by decide))
  · unfold rowN
    rw [List.pairwise_map]
    refine List.Pairwise.imp_of_mem (fun {i j} hi hj lt => ?_) List.pairwise_lt_range
    have hN : ∀ j : Nat, 0 < n * (2 ^ f + (j : Int)) := fun j => Int.mul_pos n0 (by omega)
    have hD : 0 < d * 2 ^ f := Int.mul_pos d0 pp
    have cr : ∀ j : Nat, (low (n * (2 ^ f + (j : Int))) (d * 2 ^ f)).1 * (d * 2 ^ f) = n * (2 ^ f + (j : Int)) * (low (n * (2 ^ f + (j : Int))) (d * 2 ^ f)).2 := fun j => by
      have g0 : (0 : Int) < Int.gcd (n * (2 ^ f + (j : Int))) (d * 2 ^ f) := by
        have := Int.gcd_pos_of_ne_zero_right (n * (2 ^ f + (j : Int))) (show d * 2 ^ f ≠ 0 by omega)
        omega
      obtain ⟨u, hu⟩ : (Int.gcd (n * (2 ^ f + (j : Int))) (d * 2 ^ f) : Int) ∣ n * (2 ^ f + (j : Int)) := Int.gcd_dvd_left _ _
      obtain ⟨v, hv⟩ : (Int.gcd (n * (2 ^ f + (j : Int))) (d * 2 ^ f) : Int) ∣ d * 2 ^ f := Int.gcd_dvd_right _ _
      unfold low
      generalize (Int.gcd (n * (2 ^ f + (j : Int))) (d * 2 ^ f) : Int) = G at *
      have e1 : n * (2 ^ f + (j : Int)) / G = u := by rw [hu]; exact Int.mul_ediv_cancel_left _ (by omega)
      have e2 : d * 2 ^ f / G = v := by rw [hv]; exact Int.mul_ediv_cancel_left _ (by omega)
      simp only [e1, e2]
      rw [hu, hv]
      grind
    have q1 := cr i
    have q2 := cr j
    have o1 := (low_pos (hN i) hD).2.1
    have o2 := (low_pos (hN j) hD).2.1
    generalize low (n * (2 ^ f + (i : Int))) (d * 2 ^ f) = x at *
    generalize low (n * (2 ^ f + (j : Int))) (d * 2 ^ f) = y at *
    have le : n * (2 ^ f + (i : Int)) ≤ n * (2 ^ f + (j : Int)) := Int.mul_le_mul_of_nonneg_left (by omega) (Int.le_of_lt n0)
    have h := Int.mul_le_mul_of_nonneg_right le (Int.le_of_lt (Int.mul_pos o1 o2))
    have e1 : n * (2 ^ f + (i : Int)) * (x.2 * y.2) = x.1 * y.2 * (d * 2 ^ f) := by
      have : n * (2 ^ f + (i : Int)) * (x.2 * y.2) = n * (2 ^ f + (i : Int)) * x.2 * y.2 := by grind
      rw [this, ← q1]
      grind
    have e2 : n * (2 ^ f + (j : Int)) * (x.2 * y.2) = y.1 * x.2 * (d * 2 ^ f) := by
      have : n * (2 ^ f + (j : Int)) * (x.2 * y.2) = n * (2 ^ f + (j : Int)) * y.2 * x.2 := by grind
      rw [this, ← q2]
      grind
    rw [e1, e2] at h
    exact Int.le_of_mul_le_mul_right h hD
def fs__law_right : FSp := fun rs fu post => ∃ m : Nat, rs = [.src] ∧ fu = some m ∧ 900000 ≤ m ∧ ∀ m', post (.val (.bool true)) (some m')
def rA (K : DS) : DS := (dSeq (dAsg (dCall 4 fs__law_chain (dCons (dVar 0) (dCons (dCall 2 fs__law_pick (dCons (dVar 0) (dCons (dFz (dLst (dCons (dC (.int 1)) (dCons (dC (.int 2)) (dCons (dC (.int 3)) (dCons (dC (.int 4)) dNil)))))) dNil))) (dCons (dC (.int 6)) (dCons (dC (.int 6)) dNil))))) (dN 2)) K)
abbrev gL (x1 x2 x3 x4 : Option Sv) (m : Nat) : Gs := ⟨[some .src, x1, x2, x3, x4, none, none], some m, false⟩
theorem p_rA {K : DS} {D : DEnds} {x1 x2 x3 x4 : Option Sv} {m : Nat} (h : ∀ (c : List (Int × Ru)) (m' : Nat), m ≤ m' → Chn1 c → K D (gL x1 (some (.val (chD c))) x3 x4 m')) : rA K D (gL x1 x2 x3 x4 (m + 31)) := by
  simp_arith [rA, fs__law_chain, fs__law_pick]
  refine ⟨_, m + 30, rfl, rfl, by show 0 < 4; decide, by show 4 < 1000000; decide, fun v hv => ?_⟩
  obtain ⟨e, rfl, e0, e1⟩ : ∃ e : Int, v = .int e ∧ 1 ≤ e ∧ e ≤ 4 := by
    simp only [List.mem_cons, List.not_mem_nil, or_false] at hv
    rcases hv with rfl | rfl | rfl | rfl <;> exact ⟨_, rfl, by decide, by decide⟩
  exact ⟨e, 6, 6, m + 30, rfl, rfl, e0, by decide, by decide, by decide, by omega, by omega, fun c m' hm hd _ => h c m' (by omega) (hd.chn e0 (by omega) (by decide))⟩
def rB (K : DS) : DS := (dSeq (dIfS (dNotT (dTest (dCall 2 fs__law_row_right (dCons (dCall 2 fs__law_near (dCons (dVar 0) (dCons (dCall 2 fs__law_number (dCons (dVar 0) (dCons (dC (.int 64)) dNil))) dNil))) (dCons (dVar 2) dNil)))))
    (dRet (dC (.bool false)))
    dNext) K)
theorem p_rB {K : DS} {D : DEnds} {x1 x3 x4 : Option Sv} {m : Nat} {c : List (Int × Ru)} (hc : Chn1 c) (h : K D (gL x1 (some (.val (chD c))) x3 x4 m)) : rB K D (gL x1 (some (.val (chD c))) x3 x4 (m + 7)) := by
  simp_arith [rB, fs__law_number, fs__law_near, fs__law_row_right]
  refine ⟨64, m + 1, rfl, rfl, by decide, by decide, fun n d n0 bn d0 bd hg => ⟨n, d, m, rfl, rfl, n0, bn.mono (by decide), d0, bd.mono (by decide), fun f hf => ⟨_, c, rfl, row_ok n0 (bn.mono (by decide)) d0 (bd.mono (by decide)) hf, hc, h⟩⟩⟩
def rC : DS := (dFor (dItems (dTup (dCons (dC (.str "down")) (dCons (dC (.str "up")) dNil)))) (dN 3)
    (dSeq (dAsg (dCB cTuple (dCons (dFz (dLc [5, 6] (dItems (dVar 2)) (dT 2 (dTc (dN 5) (dTc (dN 6) dTn))) dYes (dTup (dCons (dVar 5) (dCons (dVar 3) dNil))))) dNil)) (dN 4))
  (dIfS (dNotT (dTest (dCall 2 fs_same (dCons (dVar 4) (dCons (dTup (dCons (dTup (dCons (dCall 1 fs_last_width (dCons (dVar 2) dNil)) (dCons (dVar 3) dNil))) dNil)) dNil)))))
    (dRet (dC (.bool false)))
    dNext)))
theorem p_rC {D : DEnds} {x1 x3 x4 : Option Sv} {m : Nat} {c : List (Int × Ru)} (hc : Chn1 c) (h : ∀ x3 x4, D.nx (gL x1 (some (.val (chD c))) x3 x4 m)) : rC D (gL x1 (some (.val (chD c))) x3 x4 m) := by
  have lm := @lc_mapT
  obtain ⟨hT, w1, w2⟩ := chT_B hc.ne hc.w
  have one : ∀ r : Ru, Chn1 [((chT c).1, r)] := fun r => ⟨by simp, by simp, fun s hs => by
    rw [List.mem_singleton.mp hs]
    exact ⟨w1, w2⟩⟩
  have ed : ∀ r : Ru, [] ++ (c.map stD).map (drD r) = (dirC r c).map stD := fun r => by
    unfold dirC
    rw [List.nil_append, List.map_map, List.map_map]
    rfl
  have hl : ([] : List Da).length + (c.map stD).length ≤ 1000000 := by rw [List.length_map, List.length_nil]; have := hc.len; omega
  simp_arith [rC, forD, fs_last_width, fs_same, chD]
  refine lm (drD .dn) (fun x hx R N hR => ?_) hl ?_
  · obtain ⟨s, hs, rfl⟩ := List.mem_map.mp hx
    simp_arith [stD]
    exact hR _ rfl
  · rw [ed]
    refine ⟨c, rfl, hc, dirC .dn c, [((chT c).1, .dn)], rfl, dir_chn hc, one _, fun z => (by rw [same_dir (.inl rfl) hc] at z; cases z), fun _ => ?_⟩
    refine lm (drD .up) (fun x hx R N hR => ?_) hl ?_
    · obtain ⟨s, hs, rfl⟩ := List.mem_map.mp hx
      simp_arith [stD]
      exact hR _ rfl
    · rw [ed]
      exact ⟨c, rfl, hc, dirC .up c, [((chT c).1, .up)], rfl, dir_chn hc, one _, fun z => (by rw [same_dir (.inr rfl) hc] at z; cases z), fun _ => h _ _⟩
theorem p__law_right (rs : List Rv) (fu : Option Nat) (post : Rr → Option Nat → Prop) (hl : rs.length = 1) (h : fs__law_right rs fu post) : b__law_right ⟨fun g => post (.val .none) g.fu, fun r g => post r g.fu, fun _ => False, fun _ => False⟩ (ent N__law_right rs fu) := by
  obtain ⟨m, rfl, rfl, hm, h⟩ := h
  have lA := @p_rA
  have lB := @p_rB
  have lC := @p_rC
  show (dSeq (dFor (dRange1 (dC (.int 10))) (dN 1) (rA (rB rC))) (dRet (dC (.bool true)))) _ _
  generalize ra : rA (rB rC) = B
  simp_arith [Nat.zero_add]
  refine ⟨by decide, by decide, forD_ix0 (fun k g => ∃ (m' : Nat) (x1 x2 x3 x4 : Option Sv), m ≤ m' + 40 * k ∧ g = gL x1 x2 x3 x4 m') (fun k x hx g hg N hN => ?_) (fun g hg => ?_) ⟨m, _, _, _, _, by omega, rfl⟩⟩
  · obtain ⟨m', x1, x2, x3, x4, h1, rfl⟩ := hg
    have hk : k < 10 := (rangeD_at hx).1
    obtain ⟨m3, rfl⟩ : ∃ m3, m' = m3 + 7 + 31 := ⟨m' - 38, by omega⟩
    simp_arith [Nat.zero_add]
    rw [← ra]
    refine lA (m := m3 + 7) fun c m4 h4 hc => ?_
    obtain ⟨m5, rfl⟩ : ∃ m5, m4 = m5 + 7 := ⟨m4 - 7, by omega⟩
    exact lB hc (lC hc fun x3 x4 => hN _ ⟨m5, _, _, x3, x4, by omega, rfl⟩)
  · obtain ⟨m', x1, x2, x3, x4, h1, rfl⟩ := hg
    simp_arith [Nat.zero_add]
    exact h m'
section
variable {P : Program} {w : World} {K : Fg} {mg : Str → Option Value} {base : Heap}
theorem d__law_right (T : Tx w K mg) {cdv : Value} {A : Around} {outer : List Env} {s : Shared} {H : Hp} {E : XK} (hr : Room 8 (A.deeper (envOfC "_law_right" (defScope st__law_right) s.heap.objs.size T.f__law_right cdv))) (hgd : (A.deeper (envOfC "_law_right" (defScope st__law_right) s.heap.objs.size T.f__law_right cdv)).guards = some []) :
    PSs (cxOf CX0 P w K mg base N__law_right "_law_right" (defScope st__law_right) T.f__law_right cdv A outer s H E).nox (defBody st__law_right) (upS K W0 b__law_right) :=
  (ss_cons (s_for PassesOwn.never rfl (i_range1 (by rfl) T.n_range e_int) (g_name (pg_name (i := 1) sc__law_right.nd rfl (.inl rfl))) (ss_cons (s_set (i := 2) sc__law_right.nd rfl (.inl rfl) (e_call (ok__law_chain T) (hr.mono (by decide)) hgd (by rfl) T.g__law_chain T.F__law_chain.kp T.b__law_chain pass0 (a_cons (e_var 0 (pv 0)) (a_cons (e_call (ok__law_pick T) (hr.mono (by decide)) hgd (by rfl) T.g__law_pick T.F__law_pick.kp T.b__law_pick pass0 (a_cons (e_var 0 (pv 0)) (a_cons (e_fz (e_lstL (a_cons e_int (a_cons e_int (a_cons e_int (a_cons e_int a_nil)))))) a_nil))) (a_cons e_int (a_cons e_int a_nil))))))
    (ss_cons (s_if (t_not (t_val (e_call (ok__law_row_right T) (hr.mono (by decide)) hgd (by rfl) T.g__law_row_right T.F__law_row_right.kp T.b__law_row_right pass0 (a_cons (e_call (ok__law_near T) (hr.mono (by decide)) hgd (by rfl) T.g__law_near T.F__law_near.kp T.b__law_near pass0 (a_cons (e_var 0 (pv 0)) (a_cons (e_call (ok__law_number T) (hr.mono (by decide)) hgd (by rfl) T.g__law_number T.F__law_number.kp T.b__law_number pass0 (a_cons (e_var 0 (pv 0)) (a_cons e_int a_nil))) a_nil))) (a_cons (e_var 2 (pv 2)) a_nil))))) (ss_one (s_ret e_bl)) ss_nil)
    (ss_one (s_for PassesOwn.never rfl (i_items (e_tup (a_cons e_str (a_cons e_str a_nil)))) (g_name (pg_name (i := 3) sc__law_right.nd rfl (.inr rfl))) (ss_cons (s_set (i := 4) sc__law_right.nd rfl (.inl rfl) (e_tuple (by rfl) T.n_tuple (a_cons (e_fz (e_lc (own := [("_law_wide", 5), ("_law_way", 6)]) rfl sc__law_right.nd (i_items (e_var 2 (pv 2))) (blkOk_by (own := [("_law_wide", 5), ("_law_way", 6)]) (N := N__law_right) (sc := defScope st__law_right) (by decide +kernel)) (fun _ _ _ _ _ => (gw_tup rfl rfl (gsw_cons (gw_name rfl (pg_name (i := 5) sc__law_right.nd rfl (.inl rfl)) (by decide)) (gsw_cons (gw_name rfl (pg_name (i := 6) sc__law_right.nd rfl (.inl rfl)) (by decide)) gsw_nil)))) (fun _ _ _ _ _ => ts_yes) (fun _ _ _ _ _ => (e_tup (a_cons (e_var 5 (pv 5)) (a_cons (e_var 3 (pv 3)) a_nil)))))) a_nil)))
    (ss_one (s_if (t_not (t_val (e_call (ok_same T) (hr.mono (by decide)) hgd (by rfl) T.g_same T.F_same.kp T.b_same pass0 (a_cons (e_var 4 (pv 4)) (a_cons (e_tup (a_cons (e_tup (a_cons (e_call (ok_last_width T) (hr.mono (by decide)) hgd (by rfl) T.g_last_width T.F_last_width.kp T.b_last_width pass0 (a_cons (e_var 2 (pv 2)) a_nil)) (a_cons (e_var 3 (pv 3)) a_nil))) a_nil)) a_nil))))) (ss_one (s_ret e_bl)) ss_nil))))))))
    (ss_one (s_ret e_bl)))
theorem ok__law_right (T : Tx w K mg) : Fn P w K mg base CX0 9 T.f__law_right T.fd__law_right ["_law_source_here"] (lift K 1 fs__law_right) := fn_data T.F__law_right sc__law_right b__law_right (fun _ _ _ _ _ _ hr hgd => d__law_right T hr hgd) p__law_right
end
def b_law : DS :=
  (dRet (dCB cAll (dCons (dFz (dLc [1] (dRange1 (dCB oMax (dCons (dC (.int 1)) (dCons (dCB oMin (dCons (dCB cLen (dCons (dVar 0) dNil)) (dCons (dC (.int 3)) dNil))) dNil)))) (dN 1) dYes (dCallS 1 1000000 fs__law_right (dCallL 2 fs__law_source (dCons (dVar 0) (dCons (dVar 1) dNil))) []))) dNil)))
def fs_law : FSp := fun rs fu post => ∃ ns : List Int, rs = [.scr ns] ∧ post (.val (.bool true)) fu
theorem p_law (rs : List Rv) (fu : Option Nat) (post : Rr → Option Nat → Prop) (hl : rs.length = 1) (h : fs_law rs fu post) : b_law ⟨fun g => post (.val .none) g.fu, fun r g => post r g.fu, fun _ => False, fun _ => False⟩ (ent N_law rs fu) := by
  obtain ⟨ns, rfl, h⟩ := h
  simp_arith [b_law]
  generalize hj : (if (if (3 : Int) < _ then _ else _) > (1 : Int) then _ else _) = j
  have j0 : j ≤ 3 ∧ 0 ≤ j := by subst hj; split <;> (try split) <;> omega
  refine ⟨by omega, by omega, lc_map (fun _ => .bool true) (fun x hx R hR => ?_) ?_ ?_⟩
  · obtain ⟨i, rfl, i0, i1⟩ := rangeD_mem hx
    simp_arith [fs__law_source, fs__law_right]
    exact ⟨ns, i, rfl, i0, by omega, fun x y hx0 hx hy0 hy => ⟨⟨x, y, 0, rfl, hx0, hx, hy0, hy, by decide, by decide⟩, 1000000, rfl, (by decide), hR _ rfl⟩⟩
  · simp [rangeD]; omega
  · rw [List.nil_append, boolsD_true]
    simp only [all_true]
    exact h
theorem law_true (ns : List Int) (hn : ns.length ≤ 63) : fs_law [.scr ns] none fun r _ => r = .val (.bool true) := ⟨ns, rfl, rfl⟩
section
variable {P : Program} {w : World} {K : Fg} {mg : Str → Option Value} {base : Heap}
theorem d_law (T : Tx w K mg) {cdv : Value} {A : Around} {outer : List Env} {s : Shared} {H : Hp} {E : XK} (hr : Room 9 (A.deeper (envOfC "law" (defScope st_law) s.heap.objs.size T.f_law cdv))) (hgd : (A.deeper (envOfC "law" (defScope st_law) s.heap.objs.size T.f_law cdv)).guards = some []) :
    PSs (cxOf CX0 P w K mg base N_law "law" (defScope st_law) T.f_law cdv A outer s H E).nox (defBody st_law) (upS K W0 b_law) :=
  (ss_one (s_ret (e_all rfl (by rfl) T.n_all (a_cons (e_fz (e_lc (own := [("_law_k", 1)]) rfl sc_law.nd (i_range1 (by rfl) T.n_range (e_max rfl (by rfl) T.n_max (a_cons e_int (a_cons (e_min rfl (by rfl) T.n_min (a_cons (e_len (by rfl) T.n_len (a_cons (e_var 0 (pv 0)) a_nil)) (a_cons e_int a_nil))) a_nil)))) (blkOk_by (own := [("_law_k", 1)]) (N := N_law) (sc := defScope st_law) (by decide +kernel)) (fun _ _ _ _ _ => (gw_name rfl (pg_name (i := 1) sc_law.nd rfl (.inl rfl)) (by decide))) (fun _ _ _ _ _ => ts_yes) (fun _ _ _ _ _ => (e_callS 1000000 (ok__law_right T) (hr.mono (by decide)) hgd (by rfl) T.g__law_right T.F__law_right.kp T.b__law_right pass0 (e_callL (ok__law_source T) (hr.mono (by decide)) hgd (by rfl) T.g__law_source T.F__law_source.kp T.b__law_source pass0 (a_cons (e_var 0 (pv 0)) (a_cons (e_var 1 (pv 1)) a_nil))) as_nil (fun _ _ _ => .nil))))) a_nil))))
theorem ok_law (T : Tx w K mg) : Fn P w K mg base CX0 10 T.f_law T.fd_law ["_law_script"] (lift K 1 fs_law) := fn_data T.F_law sc_law b_law (fun _ _ _ _ _ _ hr hgd => d_law T hr hgd) p_law
end
def mkTx {w : World} {K : Fg} {h : Heap} {mg : Str → Option Value} (X : K.In h) (G : h.Ns mainGlobals mg)  {f0 : Addr} {od0 an0 : Option Addr} {sl0 : Array (Option Value)} {oc0 kV0 dc0 pm0 cd0 ct0 : Value} {f1 : Addr} {od1 an1 : Option Addr} {sl1 : Array (Option Value)} {oc1 kV1 dc1 pm1 cd1 ct1 : Value} {f2 : Addr} {od2 an2 : Option Addr} {sl2 : Array (Option Value)} {oc2 kV2 dc2 pm2 cd2 ct2 : Value} {f3 : Addr} {od3 an3 : Option Addr} {sl3 : Array (Option Value)} {oc3 kV3 dc3 pm3 cd3 ct3 : Value} {f4 : Addr} {od4 an4 : Option Addr} {sl4 : Array (Option Value)} {oc4 kV4 dc4 pm4 cd4 ct4 : Value} {f5 : Addr} {od5 an5 : Option Addr} {sl5 : Array (Option Value)} {oc5 kV5 dc5 pm5 cd5 ct5 : Value} {f6 : Addr} {od6 an6 : Option Addr} {sl6 : Array (Option Value)} {oc6 kV6 dc6 pm6 cd6 ct6 : Value} {f7 : Addr} {od7 an7 : Option Addr} {sl7 : Array (Option Value)} {oc7 kV7 dc7 pm7 cd7 ct7 : Value} {f8 : Addr} {od8 an8 : Option Addr} {sl8 : Array (Option Value)} {oc8 kV8 dc8 pm8 cd8 ct8 : Value} {f9 : Addr} {od9 an9 : Option Addr} {sl9 : Array (Option Value)} {oc9 kV9 dc9 pm9 cd9 ct9 : Value} {f10 : Addr} {od10 an10 : Option Addr} {sl10 : Array (Option Value)} {oc10 kV10 dc10 pm10 cd10 ct10 : Value} {f11 : Addr} {od11 an11 : Option Addr} {sl11 : Array (Option Value)} {oc11 kV11 dc11 pm11 cd11 ct11 : Value} {f12 : Addr} {od12 an12 : Option Addr} {sl12 : Array (Option Value)} {oc12 kV12 dc12 pm12 cd12 ct12 : Value} {f13 : Addr} {od13 an13 : Option Addr} {sl13 : Array (Option Value)} {oc13 kV13 dc13 pm13 cd13 ct13 : Value} {f14 : Addr} {od14 an14 : Option Addr} {sl14 : Array (Option Value)} {oc14 kV14 dc14 pm14 cd14 ct14 : Value} {f15 : Addr} {od15 an15 : Option Addr} {sl15 : Array (Option Value)} {oc15 kV15 dc15 pm15 cd15 ct15 : Value} {f16 : Addr} {od16 an16 : Option Addr} {sl16 : Array (Option Value)} {oc16 kV16 dc16 pm16 cd16 ct16 : Value} {f17 : Addr} {od17 an17 : Option Addr} {sl17 : Array (Option Value)} {oc17 kV17 dc17 pm17 cd17 ct17 : Value} {f18 : Addr} {od18 an18 : Option Addr} {sl18 : Array (Option Value)} {oc18 kV18 dc18 pm18 cd18 ct18 : Value} {f19 : Addr} {od19 an19 : Option Addr} {sl19 : Array (Option Value)} {oc19 kV19 dc19 pm19 cd19 ct19 : Value} {f20 : Addr} {od20 an20 : Option Addr} {sl20 : Array (Option Value)} {oc20 kV20 dc20 pm20 cd20 ct20 : Value} {f21 : Addr} {od21 an21 : Option Addr} {sl21 : Array (Option Value)} {oc21 kV21 dc21 pm21 cd21 ct21 : Value} {f22 : Addr} {od22 an22 : Option Addr} {sl22 : Array (Option Value)} {oc22 kV22 dc22 pm22 cd22 ct22 : Value} {f23 : Addr} {od23 an23 : Option Addr} {sl23 : Array (Option Value)} {oc23 kV23 dc23 pm23 cd23 ct23 : Value} {f24 : Addr} {od24 an24 : Option Addr} {sl24 : Array (Option Value)} {oc24 kV24 dc24 pm24 cd24 ct24 : Value} {f25 : Addr} {od25 an25 : Option Addr} {sl25 : Array (Option Value)} {oc25 kV25 dc25 pm25 cd25 ct25 : Value} {f26 : Addr} {od26 an26 : Option Addr} {sl26 : Array (Option Value)} {oc26 kV26 dc26 pm26 cd26 ct26 : Value} {f27 : Addr} {od27 an27 : Option Addr} {sl27 : Array (Option Value)} {oc27 kV27 dc27 pm27 cd27 ct27 : Value} {f28 : Addr} {od28 an28 : Option Addr} {sl28 : Array (Option Value)} {oc28 kV28 dc28 pm28 cd28 ct28 : Value} {f29 : Addr} {od29 an29 : Option Addr} {sl29 : Array (Option Value)} {oc29 kV29 dc29 pm29 cd29 ct29 : Value} {f30 : Addr} {od30 an30 : Option Addr} {sl30 : Array (Option Value)} {oc30 kV30 dc30 pm30 cd30 ct30 : Value} {f31 : Addr} {od31 an31 : Option Addr} {sl31 : Array (Option Value)} {oc31 kV31 dc31 pm31 cd31 ct31 : Value} {f32 : Addr} {od32 an32 : Option Addr} {sl32 : Array (Option Value)} {oc32 kV32 dc32 pm32 cd32 ct32 : Value} {f33 : Addr} {od33 an33 : Option Addr} {sl33 : Array (Option Value)} {oc33 kV33 dc33 pm33 cd33 ct33 : Value} {f34 : Addr} {od34 an34 : Option Addr} {sl34 : Array (Option Value)} {oc34 kV34 dc34 pm34 cd34 ct34 : Value} {f35 : Addr} {od35 an35 : Option Addr} {sl35 : Array (Option Value)} {oc35 kV35 dc35 pm35 cd35 ct35 : Value} {f36 : Addr} {od36 an36 : Option Addr} {sl36 : Array (Option Value)} {oc36 kV36 dc36 pm36 cd36 ct36 : Value} {f37 : Addr} {od37 an37 : Option Addr} {sl37 : Array (Option Value)} {oc37 kV37 dc37 pm37 cd37 ct37 : Value} {f38 : Addr} {od38 an38 : Option Addr} {sl38 : Array (Option Value)} {oc38 kV38 dc38 pm38 cd38 ct38 : Value} {f39 : Addr} {od39 an39 : Option Addr} {sl39 : Array (Option Value)} {oc39 kV39 dc39 pm39 cd39 ct39 : Value} {f40 : Addr} {od40 an40 : Option Addr} {sl40 : Array (Option Value)} {oc40 kV40 dc40 pm40 cd40 ct40 : Value} {f41 : Addr} {od41 an41 : Option Addr} {sl41 : Array (Option Value)} {oc41 kV41 dc41 pm41 cd41 ct41 : Value} {f42 : Addr} {od42 an42 : Option Addr} {sl42 : Array (Option Value)} {oc42 kV42 dc42 pm42 cd42 ct42 : Value} {f43 : Addr} {od43 an43 : Option Addr} {sl43 : Array (Option Value)} {oc43 kV43 dc43 pm43 cd43 ct43 : Value} {ra_BY_RULE : Addr} {es_BY_RULE : Array DictEntry} {en_BY_RULE : Nat} {tk_BY_RULE_down_0_0_0 : Tok} {tk_BY_RULE_down_0_0_1 : Tok} {ra_BY_RULE_down_0_0 : Addr} {rd_BY_RULE_down_0_0 : Option Addr} {rn_BY_RULE_down_0_0 : Nat} {rs_BY_RULE_down_0_0 : Array (Option Value)} {tk_BY_RULE_down_0_1 : Tok} {ra_BY_RULE_down_0 : Addr} {rd_BY_RULE_down_0 : Option Addr} {rn_BY_RULE_down_0 : Nat} {rs_BY_RULE_down_0 : Array (Option Value)} {tk_BY_RULE_down_1_0_0 : Tok} {tk_BY_RULE_down_1_0_1 : Tok} {ra_BY_RULE_down_1_0 : Addr} {rd_BY_RULE_down_1_0 : Option Addr} {rn_BY_RULE_down_1_0 : Nat} {rs_BY_RULE_down_1_0 : Array (Option Value)} {tk_BY_RULE_down_1_1 : Tok} {ra_BY_RULE_down_1 : Addr} {rd_BY_RULE_down_1 : Option Addr} {rn_BY_RULE_down_1 : Nat} {rs_BY_RULE_down_1 : Array (Option Value)} {ra_BY_RULE_down : Addr} {rd_BY_RULE_down : Option Addr} {rn_BY_RULE_down : Nat} {rs_BY_RULE_down : Array (Option Value)} {tk_BY_RULE_half_down_0_0_0 : Tok} {tk_BY_RULE_half_down_0_0_1 : Tok} {ra_BY_RULE_half_down_0_0 : Addr} {rd_BY_RULE_half_down_0_0 : Option Addr} {rn_BY_RULE_half_down_0_0 : Nat} {rs_BY_RULE_half_down_0_0 : Array (Option Value)} {tk_BY_RULE_half_down_0_1 : Tok} {ra_BY_RULE_half_down_0 : Addr} {rd_BY_RULE_half_down_0 : Option Addr} {rn_BY_RULE_half_down_0 : Nat} {rs_BY_RULE_half_down_0 : Array (Option Value)} {tk_BY_RULE_half_down_1_0_0 : Tok} {tk_BY_RULE_half_down_1_0_1 : Tok} {ra_BY_RULE_half_down_1_0 : Addr} {rd_BY_RULE_half_down_1_0 : Option Addr} {rn_BY_RULE_half_down_1_0 : Nat} {rs_BY_RULE_half_down_1_0 : Array (Option Value)} {tk_BY_RULE_half_down_1_1 : Tok} {ra_BY_RULE_half_down_1 : Addr} {rd_BY_RULE_half_down_1 : Option Addr} {rn_BY_RULE_half_down_1 : Nat} {rs_BY_RULE_half_down_1 : Array (Option Value)} {ra_BY_RULE_half_down : Addr} {rd_BY_RULE_half_down : Option Addr} {rn_BY_RULE_half_down : Nat} {rs_BY_RULE_half_down : Array (Option Value)} {tk_BY_RULE_half_even_0_0_0 : Tok} {tk_BY_RULE_half_even_0_0_1 : Tok} {ra_BY_RULE_half_even_0_0 : Addr} {rd_BY_RULE_half_even_0_0 : Option Addr} {rn_BY_RULE_half_even_0_0 : Nat} {rs_BY_RULE_half_even_0_0 : Array (Option Value)} {tk_BY_RULE_half_even_0_1 : Tok} {ra_BY_RULE_half_even_0 : Addr} {rd_BY_RULE_half_even_0 : Option Addr} {rn_BY_RULE_half_even_0 : Nat} {rs_BY_RULE_half_even_0 : Array (Option Value)} {tk_BY_RULE_half_even_1_0_0 : Tok} {tk_BY_RULE_half_even_1_0_1 : Tok} {ra_BY_RULE_half_even_1_0 : Addr} {rd_BY_RULE_half_even_1_0 : Option Addr} {rn_BY_RULE_half_even_1_0 : Nat} {rs_BY_RULE_half_even_1_0 : Array (Option Value)} {tk_BY_RULE_half_even_1_1 : Tok} {ra_BY_RULE_half_even_1 : Addr} {rd_BY_RULE_half_even_1 : Option Addr} {rn_BY_RULE_half_even_1 : Nat} {rs_BY_RULE_half_even_1 : Array (Option Value)} {ra_BY_RULE_half_even : Addr} {rd_BY_RULE_half_even : Option Addr} {rn_BY_RULE_half_even : Nat} {rs_BY_RULE_half_even : Array (Option Value)} {tk_BY_RULE_half_up_0_0_0 : Tok} {tk_BY_RULE_half_up_0_0_1 : Tok} {ra_BY_RULE_half_up_0_0 : Addr} {rd_BY_RULE_half_up_0_0 : Option Addr} {rn_BY_RULE_half_up_0_0 : Nat} {rs_BY_RULE_half_up_0_0 : Array (Option Value)} {tk_BY_RULE_half_up_0_1 : Tok} {ra_BY_RULE_half_up_0 : Addr} {rd_BY_RULE_half_up_0 : Option Addr} {rn_BY_RULE_half_up_0 : Nat} {rs_BY_RULE_half_up_0 : Array (Option Value)} {tk_BY_RULE_half_up_1_0_0 : Tok} {tk_BY_RULE_half_up_1_0_1 : Tok} {ra_BY_RULE_half_up_1_0 : Addr} {rd_BY_RULE_half_up_1_0 : Option Addr} {rn_BY_RULE_half_up_1_0 : Nat} {rs_BY_RULE_half_up_1_0 : Array (Option Value)} {tk_BY_RULE_half_up_1_1 : Tok} {ra_BY_RULE_half_up_1 : Addr} {rd_BY_RULE_half_up_1 : Option Addr} {rn_BY_RULE_half_up_1 : Nat} {rs_BY_RULE_half_up_1 : Array (Option Value)} {ra_BY_RULE_half_up : Addr} {rd_BY_RULE_half_up : Option Addr} {rn_BY_RULE_half_up : Nat} {rs_BY_RULE_half_up : Array (Option Value)} {tk_BY_RULE_odd_0_0_0 : Tok} {tk_BY_RULE_odd_0_0_1 : Tok} {ra_BY_RULE_odd_0_0 : Addr} {rd_BY_RULE_odd_0_0 : Option Addr} {rn_BY_RULE_odd_0_0 : Nat} {rs_BY_RULE_odd_0_0 : Array (Option Value)} {tk_BY_RULE_odd_0_1 : Tok} {ra_BY_RULE_odd_0 : Addr} {rd_BY_RULE_odd_0 : Option Addr} {rn_BY_RULE_odd_0 : Nat} {rs_BY_RULE_odd_0 : Array (Option Value)} {tk_BY_RULE_odd_1_0_0 : Tok} {tk_BY_RULE_odd_1_0_1 : Tok} {ra_BY_RULE_odd_1_0 : Addr} {rd_BY_RULE_odd_1_0 : Option Addr} {rn_BY_RULE_odd_1_0 : Nat} {rs_BY_RULE_odd_1_0 : Array (Option Value)} {tk_BY_RULE_odd_1_1 : Tok} {ra_BY_RULE_odd_1 : Addr} {rd_BY_RULE_odd_1 : Option Addr} {rn_BY_RULE_odd_1 : Nat} {rs_BY_RULE_odd_1 : Array (Option Value)} {ra_BY_RULE_odd : Addr} {rd_BY_RULE_odd : Option Addr} {rn_BY_RULE_odd : Nat} {rs_BY_RULE_odd : Array (Option Value)} {tk_BY_RULE_up_0_0_0 : Tok} {tk_BY_RULE_up_0_0_1 : Tok} {ra_BY_RULE_up_0_0 : Addr} {rd_BY_RULE_up_0_0 : Option Addr} {rn_BY_RULE_up_0_0 : Nat} {rs_BY_RULE_up_0_0 : Array (Option Value)} {tk_BY_RULE_up_0_1 : Tok} {ra_BY_RULE_up_0 : Addr} {rd_BY_RULE_up_0 : Option Addr} {rn_BY_RULE_up_0 : Nat} {rs_BY_RULE_up_0 : Array (Option Value)} {tk_BY_RULE_up_1_0_0 : Tok} {tk_BY_RULE_up_1_0_1 : Tok} {ra_BY_RULE_up_1_0 : Addr} {rd_BY_RULE_up_1_0 : Option Addr} {rn_BY_RULE_up_1_0 : Nat} {rs_BY_RULE_up_1_0 : Array (Option Value)} {tk_BY_RULE_up_1_1 : Tok} {ra_BY_RULE_up_1 : Addr} {rd_BY_RULE_up_1 : Option Addr} {rn_BY_RULE_up_1 : Nat} {rs_BY_RULE_up_1 : Array (Option Value)} {ra_BY_RULE_up : Addr} {rd_BY_RULE_up : Option Addr} {rn_BY_RULE_up : Nat} {rs_BY_RULE_up : Array (Option Value)} {tk_DOWN : Tok} {tk_HALF_EVEN : Tok} {tk_HALF_UP : Tok} {tk_MOST_STEPS : Tok} {tk_MOST_WIDTH : Tok} {tk_ODD : Tok} {tk_PAIR_cells : Tok} {tk_PAIR_chains : Tok} {tk_RULES_0 : Tok} {tk_RULES_1 : Tok} {tk_RULES_2 : Tok} {tk_RULES_3 : Tok} {tk_RULES_4 : Tok} {tk_RULES_5 : Tok} {ra_RULES : Addr} {rd_RULES : Option Addr} {rn_RULES : Nat} {rs_RULES : Array (Option Value)} {tk_UP : Tok}
    (a0 : PySem.W.nsIn K mainGlobals "is_int" = some (some (.ref f0)))
    (l0 : K.lookup f0 = some ⟨oc0, od0, .func (PySem.W.fnOf "is_int" "is_int" (defArgs st_is_int) (defBody st_is_int) (defScope st_is_int) .none kV0 dc0 pm0 an0 cd0 ct0), sl0⟩) (c0 : PySem.W.codeIn K cd0 "is_int" = true) (k0 : PySem.W.keepIn K (.ref f0) = true)
    (a1 : PySem.W.nsIn K mainGlobals "common_divisor" = some (some (.ref f1)))
    (l1 : K.lookup f1 = some ⟨oc1, od1, .func (PySem.W.fnOf "common_divisor" "common_divisor" (defArgs st_common_divisor) (defBody st_common_divisor) (defScope st_common_divisor) .none kV1 dc1 pm1 an1 cd1 ct1), sl1⟩) (c1 : PySem.W.codeIn K cd1 "common_divisor" = true) (k1 : PySem.W.keepIn K (.ref f1) = true)
    (a2 : PySem.W.nsIn K mainGlobals "lowest" = some (some (.ref f2)))
    (l2 : K.lookup f2 = some ⟨oc2, od2, .func (PySem.W.fnOf "lowest" "lowest" (defArgs st_lowest) (defBody st_lowest) (defScope st_lowest) .none kV2 dc2 pm2 an2 cd2 ct2), sl2⟩) (c2 : PySem.W.codeIn K cd2 "lowest" = true) (k2 : PySem.W.keepIn K (.ref f2) = true)
    (a3 : PySem.W.nsIn K mainGlobals "is_number" = some (some (.ref f3)))
    (l3 : K.lookup f3 = some ⟨oc3, od3, .func (PySem.W.fnOf "is_number" "is_number" (defArgs st_is_number) (defBody st_is_number) (defScope st_is_number) .none kV3 dc3 pm3 an3 cd3 ct3), sl3⟩) (c3 : PySem.W.codeIn K cd3 "is_number" = true) (k3 : PySem.W.keepIn K (.ref f3) = true)
    (a4 : PySem.W.nsIn K mainGlobals "is_width" = some (some (.ref f4)))
    (l4 : K.lookup f4 = some ⟨oc4, od4, .func (PySem.W.fnOf "is_width" "is_width" (defArgs st_is_width) (defBody st_is_width) (defScope st_is_width) .none kV4 dc4 pm4 an4 cd4 ct4), sl4⟩) (c4 : PySem.W.codeIn K cd4 "is_width" = true) (k4 : PySem.W.keepIn K (.ref f4) = true)
    (a5 : PySem.W.nsIn K mainGlobals "check_number" = some (some (.ref f5)))
    (l5 : K.lookup f5 = some ⟨oc5, od5, .func (PySem.W.fnOf "check_number" "check_number" (defArgs st_check_number) (defBody st_check_number) (defScope st_check_number) .none kV5 dc5 pm5 an5 cd5 ct5), sl5⟩) (c5 : PySem.W.codeIn K cd5 "check_number" = true) (k5 : PySem.W.keepIn K (.ref f5) = true)
    (a6 : PySem.W.nsIn K mainGlobals "check_width" = some (some (.ref f6)))
    (l6 : K.lookup f6 = some ⟨oc6, od6, .func (PySem.W.fnOf "check_width" "check_width" (defArgs st_check_width) (defBody st_check_width) (defScope st_check_width) .none kV6 dc6 pm6 an6 cd6 ct6), sl6⟩) (c6 : PySem.W.codeIn K cd6 "check_width" = true) (k6 : PySem.W.keepIn K (.ref f6) = true)
    (a7 : PySem.W.nsIn K mainGlobals "scaled" = some (some (.ref f7)))
    (l7 : K.lookup f7 = some ⟨oc7, od7, .func (PySem.W.fnOf "scaled" "scaled" (defArgs st_scaled) (defBody st_scaled) (defScope st_scaled) .none kV7 dc7 pm7 an7 cd7 ct7), sl7⟩) (c7 : PySem.W.codeIn K cd7 "scaled" = true) (k7 : PySem.W.keepIn K (.ref f7) = true)
    (a8 : PySem.W.nsIn K mainGlobals "power_number" = some (some (.ref f8)))
    (l8 : K.lookup f8 = some ⟨oc8, od8, .func (PySem.W.fnOf "power_number" "power_number" (defArgs st_power_number) (defBody st_power_number) (defScope st_power_number) .none kV8 dc8 pm8 an8 cd8 ct8), sl8⟩) (c8 : PySem.W.codeIn K cd8 "power_number" = true) (k8 : PySem.W.keepIn K (.ref f8) = true)
    (a9 : PySem.W.nsIn K mainGlobals "cell_of" = some (some (.ref f9)))
    (l9 : K.lookup f9 = some ⟨oc9, od9, .func (PySem.W.fnOf "cell_of" "cell_of" (defArgs st_cell_of) (defBody st_cell_of) (defScope st_cell_of) .none kV9 dc9 pm9 an9 cd9 ct9), sl9⟩) (c9 : PySem.W.codeIn K cd9 "cell_of" = true) (k9 : PySem.W.keepIn K (.ref f9) = true)
    (a10 : PySem.W.nsIn K mainGlobals "position_of" = some (some (.ref f10)))
    (l10 : K.lookup f10 = some ⟨oc10, od10, .func (PySem.W.fnOf "position_of" "position_of" (defArgs st_position_of) (defBody st_position_of) (defScope st_position_of) .none kV10 dc10 pm10 an10 cd10 ct10), sl10⟩) (c10 : PySem.W.codeIn K cd10 "position_of" = true) (k10 : PySem.W.keepIn K (.ref f10) = true)
    (a11 : PySem.W.nsIn K mainGlobals "cell" = some (some (.ref f11)))
    (l11 : K.lookup f11 = some ⟨oc11, od11, .func (PySem.W.fnOf "cell" "cell" (defArgs st_cell) (defBody st_cell) (defScope st_cell) .none kV11 dc11 pm11 an11 cd11 ct11), sl11⟩) (c11 : PySem.W.codeIn K cd11 "cell" = true) (k11 : PySem.W.keepIn K (.ref f11) = true)
    (a12 : PySem.W.nsIn K mainGlobals "position" = some (some (.ref f12)))
    (l12 : K.lookup f12 = some ⟨oc12, od12, .func (PySem.W.fnOf "position" "position" (defArgs st_position) (defBody st_position) (defScope st_position) .none kV12 dc12 pm12 an12 cd12 ct12), sl12⟩) (c12 : PySem.W.codeIn K cd12 "position" = true) (k12 : PySem.W.keepIn K (.ref f12) = true)
    (a13 : PySem.W.nsIn K mainGlobals "is_rule" = some (some (.ref f13)))
    (l13 : K.lookup f13 = some ⟨oc13, od13, .func (PySem.W.fnOf "is_rule" "is_rule" (defArgs st_is_rule) (defBody st_is_rule) (defScope st_is_rule) .none kV13 dc13 pm13 an13 cd13 ct13), sl13⟩) (c13 : PySem.W.codeIn K cd13 "is_rule" = true) (k13 : PySem.W.keepIn K (.ref f13) = true)
    (a14 : PySem.W.nsIn K mainGlobals "ends_of" = some (some (.ref f14)))
    (l14 : K.lookup f14 = some ⟨oc14, od14, .func (PySem.W.fnOf "ends_of" "ends_of" (defArgs st_ends_of) (defBody st_ends_of) (defScope st_ends_of) .none kV14 dc14 pm14 an14 cd14 ct14), sl14⟩) (c14 : PySem.W.codeIn K cd14 "ends_of" = true) (k14 : PySem.W.keepIn K (.ref f14) = true)
    (a15 : PySem.W.nsIn K mainGlobals "goes_up" = some (some (.ref f15)))
    (l15 : K.lookup f15 = some ⟨oc15, od15, .func (PySem.W.fnOf "goes_up" "goes_up" (defArgs st_goes_up) (defBody st_goes_up) (defScope st_goes_up) .none kV15 dc15 pm15 an15 cd15 ct15), sl15⟩) (c15 : PySem.W.codeIn K cd15 "goes_up" = true) (k15 : PySem.W.keepIn K (.ref f15) = true)
    (a16 : PySem.W.nsIn K mainGlobals "round_once" = some (some (.ref f16)))
    (l16 : K.lookup f16 = some ⟨oc16, od16, .func (PySem.W.fnOf "round_once" "round_once" (defArgs st_round_once) (defBody st_round_once) (defScope st_round_once) .none kV16 dc16 pm16 an16 cd16 ct16), sl16⟩) (c16 : PySem.W.codeIn K cd16 "round_once" = true) (k16 : PySem.W.keepIn K (.ref f16) = true)
    (a17 : PySem.W.nsIn K mainGlobals "neighbours" = some (some (.ref f17)))
    (l17 : K.lookup f17 = some ⟨oc17, od17, .func (PySem.W.fnOf "neighbours" "neighbours" (defArgs st_neighbours) (defBody st_neighbours) (defScope st_neighbours) .none kV17 dc17 pm17 an17 cd17 ct17), sl17⟩) (c17 : PySem.W.codeIn K cd17 "neighbours" = true) (k17 : PySem.W.keepIn K (.ref f17) = true)
    (a18 : PySem.W.nsIn K mainGlobals "is_step" = some (some (.ref f18)))
    (l18 : K.lookup f18 = some ⟨oc18, od18, .func (PySem.W.fnOf "is_step" "is_step" (defArgs st_is_step) (defBody st_is_step) (defScope st_is_step) .none kV18 dc18 pm18 an18 cd18 ct18), sl18⟩) (c18 : PySem.W.codeIn K cd18 "is_step" = true) (k18 : PySem.W.keepIn K (.ref f18) = true)
    (a19 : PySem.W.nsIn K mainGlobals "is_chain" = some (some (.ref f19)))
    (l19 : K.lookup f19 = some ⟨oc19, od19, .func (PySem.W.fnOf "is_chain" "is_chain" (defArgs st_is_chain) (defBody st_is_chain) (defScope st_is_chain) .none kV19 dc19 pm19 an19 cd19 ct19), sl19⟩) (c19 : PySem.W.codeIn K cd19 "is_chain" = true) (k19 : PySem.W.keepIn K (.ref f19) = true)
    (a20 : PySem.W.nsIn K mainGlobals "check_chain" = some (some (.ref f20)))
    (l20 : K.lookup f20 = some ⟨oc20, od20, .func (PySem.W.fnOf "check_chain" "check_chain" (defArgs st_check_chain) (defBody st_check_chain) (defScope st_check_chain) .none kV20 dc20 pm20 an20 cd20 ct20), sl20⟩) (c20 : PySem.W.codeIn K cd20 "check_chain" = true) (k20 : PySem.W.keepIn K (.ref f20) = true)
    (a21 : PySem.W.nsIn K mainGlobals "last_width" = some (some (.ref f21)))
    (l21 : K.lookup f21 = some ⟨oc21, od21, .func (PySem.W.fnOf "last_width" "last_width" (defArgs st_last_width) (defBody st_last_width) (defScope st_last_width) .none kV21 dc21 pm21 an21 cd21 ct21), sl21⟩) (c21 : PySem.W.codeIn K cd21 "last_width" = true) (k21 : PySem.W.keepIn K (.ref f21) = true)
    (a22 : PySem.W.nsIn K mainGlobals "stages" = some (some (.ref f22)))
    (l22 : K.lookup f22 = some ⟨oc22, od22, .func (PySem.W.fnOf "stages" "stages" (defArgs st_stages) (defBody st_stages) (defScope st_stages) .none kV22 dc22 pm22 an22 cd22 ct22), sl22⟩) (c22 : PySem.W.codeIn K cd22 "stages" = true) (k22 : PySem.W.keepIn K (.ref f22) = true)
    (a23 : PySem.W.nsIn K mainGlobals "applied" = some (some (.ref f23)))
    (l23 : K.lookup f23 = some ⟨oc23, od23, .func (PySem.W.fnOf "applied" "applied" (defArgs st_applied) (defBody st_applied) (defScope st_applied) .none kV23 dc23 pm23 an23 cd23 ct23), sl23⟩) (c23 : PySem.W.codeIn K cd23 "applied" = true) (k23 : PySem.W.keepIn K (.ref f23) = true)
    (a24 : PySem.W.nsIn K mainGlobals "trimmed" = some (some (.ref f24)))
    (l24 : K.lookup f24 = some ⟨oc24, od24, .func (PySem.W.fnOf "trimmed" "trimmed" (defArgs st_trimmed) (defBody st_trimmed) (defScope st_trimmed) .none kV24 dc24 pm24 an24 cd24 ct24), sl24⟩) (c24 : PySem.W.codeIn K cd24 "trimmed" = true) (k24 : PySem.W.keepIn K (.ref f24) = true)
    (a25 : PySem.W.nsIn K mainGlobals "last_down" = some (some (.ref f25)))
    (l25 : K.lookup f25 = some ⟨oc25, od25, .func (PySem.W.fnOf "last_down" "last_down" (defArgs st_last_down) (defBody st_last_down) (defScope st_last_down) .none kV25 dc25 pm25 an25 cd25 ct25), sl25⟩) (c25 : PySem.W.codeIn K cd25 "last_down" = true) (k25 : PySem.W.keepIn K (.ref f25) = true)
    (a26 : PySem.W.nsIn K mainGlobals "combined" = some (some (.ref f26)))
    (l26 : K.lookup f26 = some ⟨oc26, od26, .func (PySem.W.fnOf "combined" "combined" (defArgs st_combined) (defBody st_combined) (defScope st_combined) .none kV26 dc26 pm26 an26 cd26 ct26), sl26⟩) (c26 : PySem.W.codeIn K cd26 "combined" = true) (k26 : PySem.W.keepIn K (.ref f26) = true)
    (a27 : PySem.W.nsIn K mainGlobals "thresholds" = some (some (.ref f27)))
    (l27 : K.lookup f27 = some ⟨oc27, od27, .func (PySem.W.fnOf "thresholds" "thresholds" (defArgs st_thresholds) (defBody st_thresholds) (defScope st_thresholds) .none kV27 dc27 pm27 an27 cd27 ct27), sl27⟩) (c27 : PySem.W.codeIn K cd27 "thresholds" = true) (k27 : PySem.W.keepIn K (.ref f27) = true)
    (a28 : PySem.W.nsIn K mainGlobals "check_chains" = some (some (.ref f28)))
    (l28 : K.lookup f28 = some ⟨oc28, od28, .func (PySem.W.fnOf "check_chains" "check_chains" (defArgs st_check_chains) (defBody st_check_chains) (defScope st_check_chains) .none kV28 dc28 pm28 an28 cd28 ct28), sl28⟩) (c28 : PySem.W.codeIn K cd28 "check_chains" = true) (k28 : PySem.W.keepIn K (.ref f28) = true)
    (a29 : PySem.W.nsIn K mainGlobals "same" = some (some (.ref f29)))
    (l29 : K.lookup f29 = some ⟨oc29, od29, .func (PySem.W.fnOf "same" "same" (defArgs st_same) (defBody st_same) (defScope st_same) .none kV29 dc29 pm29 an29 cd29 ct29), sl29⟩) (c29 : PySem.W.codeIn K cd29 "same" = true) (k29 : PySem.W.keepIn K (.ref f29) = true)
    (a30 : PySem.W.nsIn K mainGlobals "_law_source" = some (some (.ref f30)))
    (l30 : K.lookup f30 = some ⟨oc30, od30, .func (PySem.W.fnOf "_law_source" "_law_source" (defArgs st__law_source) (defBody st__law_source) (defScope st__law_source) .none kV30 dc30 pm30 an30 cd30 ct30), sl30⟩) (c30 : PySem.W.codeIn K cd30 "_law_source" = true) (k30 : PySem.W.keepIn K (.ref f30) = true)
    (a31 : PySem.W.nsIn K mainGlobals "_law_draw" = some (some (.ref f31)))
    (l31 : K.lookup f31 = some ⟨oc31, od31, .func (PySem.W.fnOf "_law_draw" "_law_draw" (defArgs st__law_draw) (defBody st__law_draw) (defScope st__law_draw) .none kV31 dc31 pm31 an31 cd31 ct31), sl31⟩) (c31 : PySem.W.codeIn K cd31 "_law_draw" = true) (k31 : PySem.W.keepIn K (.ref f31) = true)
    (a32 : PySem.W.nsIn K mainGlobals "_law_pick" = some (some (.ref f32)))
    (l32 : K.lookup f32 = some ⟨oc32, od32, .func (PySem.W.fnOf "_law_pick" "_law_pick" (defArgs st__law_pick) (defBody st__law_pick) (defScope st__law_pick) .none kV32 dc32 pm32 an32 cd32 ct32), sl32⟩) (c32 : PySem.W.codeIn K cd32 "_law_pick" = true) (k32 : PySem.W.keepIn K (.ref f32) = true)
    (a33 : PySem.W.nsIn K mainGlobals "_law_divisor" = some (some (.ref f33)))
    (l33 : K.lookup f33 = some ⟨oc33, od33, .func (PySem.W.fnOf "_law_divisor" "_law_divisor" (defArgs st__law_divisor) (defBody st__law_divisor) (defScope st__law_divisor) .none kV33 dc33 pm33 an33 cd33 ct33), sl33⟩) (c33 : PySem.W.codeIn K cd33 "_law_divisor" = true) (k33 : PySem.W.keepIn K (.ref f33) = true)
    (a34 : PySem.W.nsIn K mainGlobals "_law_low" = some (some (.ref f34)))
    (l34 : K.lookup f34 = some ⟨oc34, od34, .func (PySem.W.fnOf "_law_low" "_law_low" (defArgs st__law_low) (defBody st__law_low) (defScope st__law_low) .none kV34 dc34 pm34 an34 cd34 ct34), sl34⟩) (c34 : PySem.W.codeIn K cd34 "_law_low" = true) (k34 : PySem.W.keepIn K (.ref f34) = true)
    (a35 : PySem.W.nsIn K mainGlobals "_law_scaled" = some (some (.ref f35)))
    (l35 : K.lookup f35 = some ⟨oc35, od35, .func (PySem.W.fnOf "_law_scaled" "_law_scaled" (defArgs st__law_scaled) (defBody st__law_scaled) (defScope st__law_scaled) .none kV35 dc35 pm35 an35 cd35 ct35), sl35⟩) (c35 : PySem.W.codeIn K cd35 "_law_scaled" = true) (k35 : PySem.W.keepIn K (.ref f35) = true)
    (a36 : PySem.W.nsIn K mainGlobals "_law_number" = some (some (.ref f36)))
    (l36 : K.lookup f36 = some ⟨oc36, od36, .func (PySem.W.fnOf "_law_number" "_law_number" (defArgs st__law_number) (defBody st__law_number) (defScope st__law_number) .none kV36 dc36 pm36 an36 cd36 ct36), sl36⟩) (c36 : PySem.W.codeIn K cd36 "_law_number" = true) (k36 : PySem.W.keepIn K (.ref f36) = true)
    (a37 : PySem.W.nsIn K mainGlobals "_law_rule" = some (some (.ref f37)))
    (l37 : K.lookup f37 = some ⟨oc37, od37, .func (PySem.W.fnOf "_law_rule" "_law_rule" (defArgs st__law_rule) (defBody st__law_rule) (defScope st__law_rule) .none kV37 dc37 pm37 an37 cd37 ct37), sl37⟩) (c37 : PySem.W.codeIn K cd37 "_law_rule" = true) (k37 : PySem.W.keepIn K (.ref f37) = true)
    (a38 : PySem.W.nsIn K mainGlobals "_law_chain" = some (some (.ref f38)))
    (l38 : K.lookup f38 = some ⟨oc38, od38, .func (PySem.W.fnOf "_law_chain" "_law_chain" (defArgs st__law_chain) (defBody st__law_chain) (defScope st__law_chain) .none kV38 dc38 pm38 an38 cd38 ct38), sl38⟩) (c38 : PySem.W.codeIn K cd38 "_law_chain" = true) (k38 : PySem.W.keepIn K (.ref f38) = true)
    (a39 : PySem.W.nsIn K mainGlobals "_law_below" = some (some (.ref f39)))
    (l39 : K.lookup f39 = some ⟨oc39, od39, .func (PySem.W.fnOf "_law_below" "_law_below" (defArgs st__law_below) (defBody st__law_below) (defScope st__law_below) .none kV39 dc39 pm39 an39 cd39 ct39), sl39⟩) (c39 : PySem.W.codeIn K cd39 "_law_below" = true) (k39 : PySem.W.keepIn K (.ref f39) = true)
    (a40 : PySem.W.nsIn K mainGlobals "_law_near" = some (some (.ref f40)))
    (l40 : K.lookup f40 = some ⟨oc40, od40, .func (PySem.W.fnOf "_law_near" "_law_near" (defArgs st__law_near) (defBody st__law_near) (defScope st__law_near) .none kV40 dc40 pm40 an40 cd40 ct40), sl40⟩) (c40 : PySem.W.codeIn K cd40 "_law_near" = true) (k40 : PySem.W.keepIn K (.ref f40) = true)
    (a41 : PySem.W.nsIn K mainGlobals "_law_row_right" = some (some (.ref f41)))
    (l41 : K.lookup f41 = some ⟨oc41, od41, .func (PySem.W.fnOf "_law_row_right" "_law_row_right" (defArgs st__law_row_right) (defBody st__law_row_right) (defScope st__law_row_right) .none kV41 dc41 pm41 an41 cd41 ct41), sl41⟩) (c41 : PySem.W.codeIn K cd41 "_law_row_right" = true) (k41 : PySem.W.keepIn K (.ref f41) = true)
    (a42 : PySem.W.nsIn K mainGlobals "_law_right" = some (some (.ref f42)))
    (l42 : K.lookup f42 = some ⟨oc42, od42, .func (PySem.W.fnOf "_law_right" "_law_right" (defArgs st__law_right) (defBody st__law_right) (defScope st__law_right) .none kV42 dc42 pm42 an42 cd42 ct42), sl42⟩) (c42 : PySem.W.codeIn K cd42 "_law_right" = true) (k42 : PySem.W.keepIn K (.ref f42) = true)
    (a43 : PySem.W.nsIn K mainGlobals "law" = some (some (.ref f43)))
    (l43 : K.lookup f43 = some ⟨oc43, od43, .func (PySem.W.fnOf "law" "law" (defArgs st_law) (defBody st_law) (defScope st_law) .none kV43 dc43 pm43 an43 cd43 ct43), sl43⟩) (c43 : PySem.W.codeIn K cd43 "law" = true) (k43 : PySem.W.keepIn K (.ref f43) = true)
    (z_abs : PySem.W.nsIn K mainGlobals "abs" = some none)
    (z_all : PySem.W.nsIn K mainGlobals "all" = some none)
    (z_bool : PySem.W.nsIn K mainGlobals "bool" = some none)
    (z_int : PySem.W.nsIn K mainGlobals "int" = some none)
    (z_isinstance : PySem.W.nsIn K mainGlobals "isinstance" = some none)
    (z_len : PySem.W.nsIn K mainGlobals "len" = some none)
    (z_max : PySem.W.nsIn K mainGlobals "max" = some none)
    (z_min : PySem.W.nsIn K mainGlobals "min" = some none)
    (z_range : PySem.W.nsIn K mainGlobals "range" = some none)
    (z_sorted : PySem.W.nsIn K mainGlobals "sorted" = some none)
    (z_str : PySem.W.nsIn K mainGlobals "str" = some none)
    (z_tuple : PySem.W.nsIn K mainGlobals "tuple" = some none)
    (y_BY_RULE : PySem.W.nsIn K mainGlobals "BY_RULE" = some (some (.ref ra_BY_RULE))) (d_BY_RULE : K.lookup ra_BY_RULE = some ⟨.type "dict", none, .dict es_BY_RULE en_BY_RULE, #[]⟩) (q_BY_RULE : PySem.W.KeysLit w.params es_BY_RULE.toList)
    (n_BY_RULE_down : PySem.W.nsIn K ra_BY_RULE "down" = some (some (.ref ra_BY_RULE_down)))
    (x_BY_RULE_down : K.lookup ra_BY_RULE_down = some ⟨.type "tuple", rd_BY_RULE_down, .seq #[.ref ra_BY_RULE_down_0, .ref ra_BY_RULE_down_1] rn_BY_RULE_down, rs_BY_RULE_down⟩)
    (x_BY_RULE_down_0 : K.lookup ra_BY_RULE_down_0 = some ⟨.type "tuple", rd_BY_RULE_down_0, .seq #[.ref ra_BY_RULE_down_0_0, .str "up" tk_BY_RULE_down_0_1] rn_BY_RULE_down_0, rs_BY_RULE_down_0⟩)
    (x_BY_RULE_down_0_0 : K.lookup ra_BY_RULE_down_0_0 = some ⟨.type "tuple", rd_BY_RULE_down_0_0, .seq #[.int 1 tk_BY_RULE_down_0_0_0, .int 1 tk_BY_RULE_down_0_0_1] rn_BY_RULE_down_0_0, rs_BY_RULE_down_0_0⟩)
    (x_BY_RULE_down_1 : K.lookup ra_BY_RULE_down_1 = some ⟨.type "tuple", rd_BY_RULE_down_1, .seq #[.ref ra_BY_RULE_down_1_0, .str "up" tk_BY_RULE_down_1_1] rn_BY_RULE_down_1, rs_BY_RULE_down_1⟩)
    (x_BY_RULE_down_1_0 : K.lookup ra_BY_RULE_down_1_0 = some ⟨.type "tuple", rd_BY_RULE_down_1_0, .seq #[.int 1 tk_BY_RULE_down_1_0_0, .int 1 tk_BY_RULE_down_1_0_1] rn_BY_RULE_down_1_0, rs_BY_RULE_down_1_0⟩)
    (n_BY_RULE_half_down : PySem.W.nsIn K ra_BY_RULE "half_down" = some (some (.ref ra_BY_RULE_half_down)))
    (x_BY_RULE_half_down : K.lookup ra_BY_RULE_half_down = some ⟨.type "tuple", rd_BY_RULE_half_down, .seq #[.ref ra_BY_RULE_half_down_0, .ref ra_BY_RULE_half_down_1] rn_BY_RULE_half_down, rs_BY_RULE_half_down⟩)
    (x_BY_RULE_half_down_0 : K.lookup ra_BY_RULE_half_down_0 = some ⟨.type "tuple", rd_BY_RULE_half_down_0, .seq #[.ref ra_BY_RULE_half_down_0_0, .str "down" tk_BY_RULE_half_down_0_1] rn_BY_RULE_half_down_0, rs_BY_RULE_half_down_0⟩)
    (x_BY_RULE_half_down_0_0 : K.lookup ra_BY_RULE_half_down_0_0 = some ⟨.type "tuple", rd_BY_RULE_half_down_0_0, .seq #[.int 1 tk_BY_RULE_half_down_0_0_0, .int 2 tk_BY_RULE_half_down_0_0_1] rn_BY_RULE_half_down_0_0, rs_BY_RULE_half_down_0_0⟩)
    (x_BY_RULE_half_down_1 : K.lookup ra_BY_RULE_half_down_1 = some ⟨.type "tuple", rd_BY_RULE_half_down_1, .seq #[.ref ra_BY_RULE_half_down_1_0, .str "down" tk_BY_RULE_half_down_1_1] rn_BY_RULE_half_down_1, rs_BY_RULE_half_down_1⟩)
    (x_BY_RULE_half_down_1_0 : K.lookup ra_BY_RULE_half_down_1_0 = some ⟨.type "tuple", rd_BY_RULE_half_down_1_0, .seq #[.int 1 tk_BY_RULE_half_down_1_0_0, .int 2 tk_BY_RULE_half_down_1_0_1] rn_BY_RULE_half_down_1_0, rs_BY_RULE_half_down_1_0⟩)
    (n_BY_RULE_half_even : PySem.W.nsIn K ra_BY_RULE "half_even" = some (some (.ref ra_BY_RULE_half_even)))
    (x_BY_RULE_half_even : K.lookup ra_BY_RULE_half_even = some ⟨.type "tuple", rd_BY_RULE_half_even, .seq #[.ref ra_BY_RULE_half_even_0, .ref ra_BY_RULE_half_even_1] rn_BY_RULE_half_even, rs_BY_RULE_half_even⟩)
    (x_BY_RULE_half_even_0 : K.lookup ra_BY_RULE_half_even_0 = some ⟨.type "tuple", rd_BY_RULE_half_even_0, .seq #[.ref ra_BY_RULE_half_even_0_0, .str "down" tk_BY_RULE_half_even_0_1] rn_BY_RULE_half_even_0, rs_BY_RULE_half_even_0⟩)
    (x_BY_RULE_half_even_0_0 : K.lookup ra_BY_RULE_half_even_0_0 = some ⟨.type "tuple", rd_BY_RULE_half_even_0_0, .seq #[.int 1 tk_BY_RULE_half_even_0_0_0, .int 2 tk_BY_RULE_half_even_0_0_1] rn_BY_RULE_half_even_0_0, rs_BY_RULE_half_even_0_0⟩)
    (x_BY_RULE_half_even_1 : K.lookup ra_BY_RULE_half_even_1 = some ⟨.type "tuple", rd_BY_RULE_half_even_1, .seq #[.ref ra_BY_RULE_half_even_1_0, .str "up" tk_BY_RULE_half_even_1_1] rn_BY_RULE_half_even_1, rs_BY_RULE_half_even_1⟩)
    (x_BY_RULE_half_even_1_0 : K.lookup ra_BY_RULE_half_even_1_0 = some ⟨.type "tuple", rd_BY_RULE_half_even_1_0, .seq #[.int 1 tk_BY_RULE_half_even_1_0_0, .int 2 tk_BY_RULE_half_even_1_0_1] rn_BY_RULE_half_even_1_0, rs_BY_RULE_half_even_1_0⟩)
    (n_BY_RULE_half_up : PySem.W.nsIn K ra_BY_RULE "half_up" = some (some (.ref ra_BY_RULE_half_up)))
    (x_BY_RULE_half_up : K.lookup ra_BY_RULE_half_up = some ⟨.type "tuple", rd_BY_RULE_half_up, .seq #[.ref ra_BY_RULE_half_up_0, .ref ra_BY_RULE_half_up_1] rn_BY_RULE_half_up, rs_BY_RULE_half_up⟩)
    (x_BY_RULE_half_up_0 : K.lookup ra_BY_RULE_half_up_0 = some ⟨.type "tuple", rd_BY_RULE_half_up_0, .seq #[.ref ra_BY_RULE_half_up_0_0, .str "up" tk_BY_RULE_half_up_0_1] rn_BY_RULE_half_up_0, rs_BY_RULE_half_up_0⟩)
    (x_BY_RULE_half_up_0_0 : K.lookup ra_BY_RULE_half_up_0_0 = some ⟨.type "tuple", rd_BY_RULE_half_up_0_0, .seq #[.int 1 tk_BY_RULE_half_up_0_0_0, .int 2 tk_BY_RULE_half_up_0_0_1] rn_BY_RULE_half_up_0_0, rs_BY_RULE_half_up_0_0⟩)
    (x_BY_RULE_half_up_1 : K.lookup ra_BY_RULE_half_up_1 = some ⟨.type "tuple", rd_BY_RULE_half_up_1, .seq #[.ref ra_BY_RULE_half_up_1_0, .str "up" tk_BY_RULE_half_up_1_1] rn_BY_RULE_half_up_1, rs_BY_RULE_half_up_1⟩)
    (x_BY_RULE_half_up_1_0 : K.lookup ra_BY_RULE_half_up_1_0 = some ⟨.type "tuple", rd_BY_RULE_half_up_1_0, .seq #[.int 1 tk_BY_RULE_half_up_1_0_0, .int 2 tk_BY_RULE_half_up_1_0_1] rn_BY_RULE_half_up_1_0, rs_BY_RULE_half_up_1_0⟩)
    (n_BY_RULE_odd : PySem.W.nsIn K ra_BY_RULE "odd" = some (some (.ref ra_BY_RULE_odd)))
    (x_BY_RULE_odd : K.lookup ra_BY_RULE_odd = some ⟨.type "tuple", rd_BY_RULE_odd, .seq #[.ref ra_BY_RULE_odd_0, .ref ra_BY_RULE_odd_1] rn_BY_RULE_odd, rs_BY_RULE_odd⟩)
    (x_BY_RULE_odd_0 : K.lookup ra_BY_RULE_odd_0 = some ⟨.type "tuple", rd_BY_RULE_odd_0, .seq #[.ref ra_BY_RULE_odd_0_0, .str "down" tk_BY_RULE_odd_0_1] rn_BY_RULE_odd_0, rs_BY_RULE_odd_0⟩)
    (x_BY_RULE_odd_0_0 : K.lookup ra_BY_RULE_odd_0_0 = some ⟨.type "tuple", rd_BY_RULE_odd_0_0, .seq #[.int 0 tk_BY_RULE_odd_0_0_0, .int 1 tk_BY_RULE_odd_0_0_1] rn_BY_RULE_odd_0_0, rs_BY_RULE_odd_0_0⟩)
    (x_BY_RULE_odd_1 : K.lookup ra_BY_RULE_odd_1 = some ⟨.type "tuple", rd_BY_RULE_odd_1, .seq #[.ref ra_BY_RULE_odd_1_0, .str "up" tk_BY_RULE_odd_1_1] rn_BY_RULE_odd_1, rs_BY_RULE_odd_1⟩)
    (x_BY_RULE_odd_1_0 : K.lookup ra_BY_RULE_odd_1_0 = some ⟨.type "tuple", rd_BY_RULE_odd_1_0, .seq #[.int 1 tk_BY_RULE_odd_1_0_0, .int 1 tk_BY_RULE_odd_1_0_1] rn_BY_RULE_odd_1_0, rs_BY_RULE_odd_1_0⟩)
    (n_BY_RULE_up : PySem.W.nsIn K ra_BY_RULE "up" = some (some (.ref ra_BY_RULE_up)))
    (x_BY_RULE_up : K.lookup ra_BY_RULE_up = some ⟨.type "tuple", rd_BY_RULE_up, .seq #[.ref ra_BY_RULE_up_0, .ref ra_BY_RULE_up_1] rn_BY_RULE_up, rs_BY_RULE_up⟩)
    (x_BY_RULE_up_0 : K.lookup ra_BY_RULE_up_0 = some ⟨.type "tuple", rd_BY_RULE_up_0, .seq #[.ref ra_BY_RULE_up_0_0, .str "down" tk_BY_RULE_up_0_1] rn_BY_RULE_up_0, rs_BY_RULE_up_0⟩)
    (x_BY_RULE_up_0_0 : K.lookup ra_BY_RULE_up_0_0 = some ⟨.type "tuple", rd_BY_RULE_up_0_0, .seq #[.int 0 tk_BY_RULE_up_0_0_0, .int 1 tk_BY_RULE_up_0_0_1] rn_BY_RULE_up_0_0, rs_BY_RULE_up_0_0⟩)
    (x_BY_RULE_up_1 : K.lookup ra_BY_RULE_up_1 = some ⟨.type "tuple", rd_BY_RULE_up_1, .seq #[.ref ra_BY_RULE_up_1_0, .str "down" tk_BY_RULE_up_1_1] rn_BY_RULE_up_1, rs_BY_RULE_up_1⟩)
    (x_BY_RULE_up_1_0 : K.lookup ra_BY_RULE_up_1_0 = some ⟨.type "tuple", rd_BY_RULE_up_1_0, .seq #[.int 0 tk_BY_RULE_up_1_0_0, .int 1 tk_BY_RULE_up_1_0_1] rn_BY_RULE_up_1_0, rs_BY_RULE_up_1_0⟩)
    (y_DOWN : PySem.W.nsIn K mainGlobals "DOWN" = some (some (.str "down" tk_DOWN)))
    (y_HALF_EVEN : PySem.W.nsIn K mainGlobals "HALF_EVEN" = some (some (.str "half_even" tk_HALF_EVEN)))
    (y_HALF_UP : PySem.W.nsIn K mainGlobals "HALF_UP" = some (some (.str "half_up" tk_HALF_UP)))
    (y_MOST_STEPS : PySem.W.nsIn K mainGlobals "MOST_STEPS" = some (some (.int 12 tk_MOST_STEPS)))
    (y_MOST_WIDTH : PySem.W.nsIn K mainGlobals "MOST_WIDTH" = some (some (.int 100 tk_MOST_WIDTH)))
    (y_ODD : PySem.W.nsIn K mainGlobals "ODD" = some (some (.str "odd" tk_ODD)))
    (y_PAIR_cells : PySem.W.nsIn K mainGlobals "PAIR_cells" = some (some (.int 2 tk_PAIR_cells)))
    (y_PAIR_chains : PySem.W.nsIn K mainGlobals "PAIR_chains" = some (some (.int 2 tk_PAIR_chains)))
    (y_RULES : PySem.W.nsIn K mainGlobals "RULES" = some (some (.ref ra_RULES)))
    (x_RULES : K.lookup ra_RULES = some ⟨.type "tuple", rd_RULES, .seq #[.str "down" tk_RULES_0, .str "half_down" tk_RULES_1, .str "half_even" tk_RULES_2, .str "half_up" tk_RULES_3, .str "odd" tk_RULES_4, .str "up" tk_RULES_5] rn_RULES, rs_RULES⟩)
    (y_UP : PySem.W.nsIn K mainGlobals "UP" = some (some (.str "up" tk_UP))) : Tx w K mg :=
  { f_is_int := f0, fd_is_int := _, F_is_int := fun_mk (st := st_is_int) l0 c0 k0, b_is_int := (fun_mk (st := st_is_int) l0 c0 k0).binds (ps := ["value", "least"]) fun _ _ _ _ _ _ us hl => match us, hl with | [_, _], _ => rfl,
    g_is_int := PySem.W.mg_of X G a0,
    f_common_divisor := f1, fd_common_divisor := _, F_common_divisor := fun_mk (st := st_common_divisor) l1 c1 k1, b_common_divisor := (fun_mk (st := st_common_divisor) l1 c1 k1).binds (ps := ["one", "other"]) fun _ _ _ _ _ _ us hl => match us, hl with | [_, _], _ => rfl,
    g_common_divisor := PySem.W.mg_of X G a1,
    f_lowest := f2, fd_lowest := _, F_lowest := fun_mk (st := st_lowest) l2 c2 k2, b_lowest := (fun_mk (st := st_lowest) l2 c2 k2).binds (ps := ["n", "d"]) fun _ _ _ _ _ _ us hl => match us, hl with | [_, _], _ => rfl,
    g_lowest := PySem.W.mg_of X G a2,
    f_is_number := f3, fd_is_number := _, F_is_number := fun_mk (st := st_is_number) l3 c3 k3, b_is_number := (fun_mk (st := st_is_number) l3 c3 k3).binds (ps := ["value"]) fun _ _ _ _ _ _ us hl => match us, hl with | [_], _ => rfl,
    g_is_number := PySem.W.mg_of X G a3,
    f_is_width := f4, fd_is_width := _, F_is_width := fun_mk (st := st_is_width) l4 c4 k4, b_is_width := (fun_mk (st := st_is_width) l4 c4 k4).binds (ps := ["value"]) fun _ _ _ _ _ _ us hl => match us, hl with | [_], _ => rfl,
    g_is_width := PySem.W.mg_of X G a4,
    f_check_number := f5, fd_check_number := _, F_check_number := fun_mk (st := st_check_number) l5 c5 k5, b_check_number := (fun_mk (st := st_check_number) l5 c5 k5).binds (ps := ["value"]) fun _ _ _ _ _ _ us hl => match us, hl with | [_], _ => rfl,
    g_check_number := PySem.W.mg_of X G a5,
    f_check_width := f6, fd_check_width := _, F_check_width := fun_mk (st := st_check_width) l6 c6 k6, b_check_width := (fun_mk (st := st_check_width) l6 c6 k6).binds (ps := ["value"]) fun _ _ _ _ _ _ us hl => match us, hl with | [_], _ => rfl,
    g_check_width := PySem.W.mg_of X G a6,
    f_scaled := f7, fd_scaled := _, F_scaled := fun_mk (st := st_scaled) l7 c7 k7, b_scaled := (fun_mk (st := st_scaled) l7 c7 k7).binds (ps := ["number", "e"]) fun _ _ _ _ _ _ us hl => match us, hl with | [_, _], _ => rfl,
    g_scaled := PySem.W.mg_of X G a7,
    f_power_number := f8, fd_power_number := _, F_power_number := fun_mk (st := st_power_number) l8 c8 k8, b_power_number := (fun_mk (st := st_power_number) l8 c8 k8).binds (ps := ["k", "e"]) fun _ _ _ _ _ _ us hl => match us, hl with | [_, _], _ => rfl,
    g_power_number := PySem.W.mg_of X G a8,
    f_cell_of := f9, fd_cell_of := _, F_cell_of := fun_mk (st := st_cell_of) l9 c9 k9, b_cell_of := (fun_mk (st := st_cell_of) l9 c9 k9).binds (ps := ["number", "width"]) fun _ _ _ _ _ _ us hl => match us, hl with | [_, _], _ => rfl,
    g_cell_of := PySem.W.mg_of X G a9,
    f_position_of := f10, fd_position_of := _, F_position_of := fun_mk (st := st_position_of) l10 c10 k10, b_position_of := (fun_mk (st := st_position_of) l10 c10 k10).binds (ps := ["number", "width"]) fun _ _ _ _ _ _ us hl => match us, hl with | [_, _], _ => rfl,
    g_position_of := PySem.W.mg_of X G a10,
    f_cell := f11, fd_cell := _, F_cell := fun_mk (st := st_cell) l11 c11 k11, b_cell := (fun_mk (st := st_cell) l11 c11 k11).binds (ps := ["number", "width"]) fun _ _ _ _ _ _ us hl => match us, hl with | [_, _], _ => rfl,
    g_cell := PySem.W.mg_of X G a11,
    f_position := f12, fd_position := _, F_position := fun_mk (st := st_position) l12 c12 k12, b_position := (fun_mk (st := st_position) l12 c12 k12).binds (ps := ["number", "width"]) fun _ _ _ _ _ _ us hl => match us, hl with | [_, _], _ => rfl,
    g_position := PySem.W.mg_of X G a12,
    f_is_rule := f13, fd_is_rule := _, F_is_rule := fun_mk (st := st_is_rule) l13 c13 k13, b_is_rule := (fun_mk (st := st_is_rule) l13 c13 k13).binds (ps := ["value"]) fun _ _ _ _ _ _ us hl => match us, hl with | [_], _ => rfl,
    g_is_rule := PySem.W.mg_of X G a13,
    f_ends_of := f14, fd_ends_of := _, F_ends_of := fun_mk (st := st_ends_of) l14 c14 k14, b_ends_of := (fun_mk (st := st_ends_of) l14 c14 k14).binds (ps := ["number", "width"]) fun _ _ _ _ _ _ us hl => match us, hl with | [_, _], _ => rfl,
    g_ends_of := PySem.W.mg_of X G a14,
    f_goes_up := f15, fd_goes_up := _, F_goes_up := fun_mk (st := st_goes_up) l15 c15 k15, b_goes_up := (fun_mk (st := st_goes_up) l15 c15 k15).binds (ps := ["k", "place", "rule"]) fun _ _ _ _ _ _ us hl => match us, hl with | [_, _, _], _ => rfl,
    g_goes_up := PySem.W.mg_of X G a15,
    f_round_once := f16, fd_round_once := _, F_round_once := fun_mk (st := st_round_once) l16 c16 k16, b_round_once := (fun_mk (st := st_round_once) l16 c16 k16).binds (ps := ["number", "width", "rule"]) fun _ _ _ _ _ _ us hl => match us, hl with | [_, _, _], _ => rfl,
    g_round_once := PySem.W.mg_of X G a16,
    f_neighbours := f17, fd_neighbours := _, F_neighbours := fun_mk (st := st_neighbours) l17 c17 k17, b_neighbours := (fun_mk (st := st_neighbours) l17 c17 k17).binds (ps := ["number", "width"]) fun _ _ _ _ _ _ us hl => match us, hl with | [_, _], _ => rfl,
    g_neighbours := PySem.W.mg_of X G a17,
    f_is_step := f18, fd_is_step := _, F_is_step := fun_mk (st := st_is_step) l18 c18 k18, b_is_step := (fun_mk (st := st_is_step) l18 c18 k18).binds (ps := ["value"]) fun _ _ _ _ _ _ us hl => match us, hl with | [_], _ => rfl,
    g_is_step := PySem.W.mg_of X G a18,
    f_is_chain := f19, fd_is_chain := _, F_is_chain := fun_mk (st := st_is_chain) l19 c19 k19, b_is_chain := (fun_mk (st := st_is_chain) l19 c19 k19).binds (ps := ["value"]) fun _ _ _ _ _ _ us hl => match us, hl with | [_], _ => rfl,
    g_is_chain := PySem.W.mg_of X G a19,
    f_check_chain := f20, fd_check_chain := _, F_check_chain := fun_mk (st := st_check_chain) l20 c20 k20, b_check_chain := (fun_mk (st := st_check_chain) l20 c20 k20).binds (ps := ["value"]) fun _ _ _ _ _ _ us hl => match us, hl with | [_], _ => rfl,
    g_check_chain := PySem.W.mg_of X G a20,
    f_last_width := f21, fd_last_width := _, F_last_width := fun_mk (st := st_last_width) l21 c21 k21, b_last_width := (fun_mk (st := st_last_width) l21 c21 k21).binds (ps := ["chain"]) fun _ _ _ _ _ _ us hl => match us, hl with | [_], _ => rfl,
    g_last_width := PySem.W.mg_of X G a21,
    f_stages := f22, fd_stages := _, F_stages := fun_mk (st := st_stages) l22 c22 k22, b_stages := (fun_mk (st := st_stages) l22 c22 k22).binds (ps := ["number", "chain"]) fun _ _ _ _ _ _ us hl => match us, hl with | [_, _], _ => rfl,
    g_stages := PySem.W.mg_of X G a22,
    f_applied := f23, fd_applied := _, F_applied := fun_mk (st := st_applied) l23 c23 k23, b_applied := (fun_mk (st := st_applied) l23 c23 k23).binds (ps := ["number", "chain"]) fun _ _ _ _ _ _ us hl => match us, hl with | [_, _], _ => rfl,
    g_applied := PySem.W.mg_of X G a23,
    f_trimmed := f24, fd_trimmed := _, F_trimmed := fun_mk (st := st_trimmed) l24 c24 k24, b_trimmed := (fun_mk (st := st_trimmed) l24 c24 k24).binds (ps := ["chain"]) fun _ _ _ _ _ _ us hl => match us, hl with | [_], _ => rfl,
    g_trimmed := PySem.W.mg_of X G a24,
    f_last_down := f25, fd_last_down := _, F_last_down := fun_mk (st := st_last_down) l25 c25 k25, b_last_down := (fun_mk (st := st_last_down) l25 c25 k25).binds (ps := ["rule", "far", "parity"]) fun _ _ _ _ _ _ us hl => match us, hl with | [_, _, _], _ => rfl,
    g_last_down := PySem.W.mg_of X G a25,
    f_combined := f26, fd_combined := _, F_combined := fun_mk (st := st_combined) l26 c26 k26, b_combined := (fun_mk (st := st_combined) l26 c26 k26).binds (ps := ["pair", "rule", "far"]) fun _ _ _ _ _ _ us hl => match us, hl with | [_, _, _], _ => rfl,
    g_combined := PySem.W.mg_of X G a26,
    f_thresholds := f27, fd_thresholds := _, F_thresholds := fun_mk (st := st_thresholds) l27 c27 k27, b_thresholds := (fun_mk (st := st_thresholds) l27 c27 k27).binds (ps := ["chain"]) fun _ _ _ _ _ _ us hl => match us, hl with | [_], _ => rfl,
    g_thresholds := PySem.W.mg_of X G a27,
    f_check_chains := f28, fd_check_chains := _, F_check_chains := fun_mk (st := st_check_chains) l28 c28 k28, b_check_chains := (fun_mk (st := st_check_chains) l28 c28 k28).binds (ps := ["one", "other"]) fun _ _ _ _ _ _ us hl => match us, hl with | [_, _], _ => rfl,
    g_check_chains := PySem.W.mg_of X G a28,
    f_same := f29, fd_same := _, F_same := fun_mk (st := st_same) l29 c29 k29, b_same := (fun_mk (st := st_same) l29 c29 k29).binds (ps := ["one", "other"]) fun _ _ _ _ _ _ us hl => match us, hl with | [_, _], _ => rfl,
    g_same := PySem.W.mg_of X G a29,
    f__law_source := f30, fd__law_source := _, F__law_source := fun_mk (st := st__law_source) l30 c30 k30, b__law_source := (fun_mk (st := st__law_source) l30 c30 k30).binds (ps := ["_law_script", "_law_k"]) fun _ _ _ _ _ _ us hl => match us, hl with | [_, _], _ => rfl,
    g__law_source := PySem.W.mg_of X G a30,
    f__law_draw := f31, fd__law_draw := _, F__law_draw := fun_mk (st := st__law_draw) l31 c31 k31, b__law_draw := (fun_mk (st := st__law_draw) l31 c31 k31).binds (ps := ["_law_source_here", "_law_size"]) fun _ _ _ _ _ _ us hl => match us, hl with | [_, _], _ => rfl,
    g__law_draw := PySem.W.mg_of X G a31,
    f__law_pick := f32, fd__law_pick := _, F__law_pick := fun_mk (st := st__law_pick) l32 c32 k32, b__law_pick := (fun_mk (st := st__law_pick) l32 c32 k32).binds (ps := ["_law_source_here", "_law_some"]) fun _ _ _ _ _ _ us hl => match us, hl with | [_, _], _ => rfl,
    g__law_pick := PySem.W.mg_of X G a32,
    f__law_divisor := f33, fd__law_divisor := _, F__law_divisor := fun_mk (st := st__law_divisor) l33 c33 k33, b__law_divisor := (fun_mk (st := st__law_divisor) l33 c33 k33).binds (ps := ["_law_one", "_law_other"]) fun _ _ _ _ _ _ us hl => match us, hl with | [_, _], _ => rfl,
    g__law_divisor := PySem.W.mg_of X G a33,
    f__law_low := f34, fd__law_low := _, F__law_low := fun_mk (st := st__law_low) l34 c34 k34, b__law_low := (fun_mk (st := st__law_low) l34 c34 k34).binds (ps := ["_law_n", "_law_d"]) fun _ _ _ _ _ _ us hl => match us, hl with | [_, _], _ => rfl,
    g__law_low := PySem.W.mg_of X G a34,
    f__law_scaled := f35, fd__law_scaled := _, F__law_scaled := fun_mk (st := st__law_scaled) l35 c35 k35, b__law_scaled := (fun_mk (st := st__law_scaled) l35 c35 k35).binds (ps := ["_law_number_here", "_law_e"]) fun _ _ _ _ _ _ us hl => match us, hl with | [_, _], _ => rfl,
    g__law_scaled := PySem.W.mg_of X G a35,
    f__law_number := f36, fd__law_number := _, F__law_number := fun_mk (st := st__law_number) l36 c36 k36, b__law_number := (fun_mk (st := st__law_number) l36 c36 k36).binds (ps := ["_law_source_here", "_law_most"]) fun _ _ _ _ _ _ us hl => match us, hl with | [_, _], _ => rfl,
    g__law_number := PySem.W.mg_of X G a36,
    f__law_rule := f37, fd__law_rule := _, F__law_rule := fun_mk (st := st__law_rule) l37 c37 k37, b__law_rule := (fun_mk (st := st__law_rule) l37 c37 k37).binds (ps := ["_law_source_here"]) fun _ _ _ _ _ _ us hl => match us, hl with | [_], _ => rfl,
    g__law_rule := PySem.W.mg_of X G a37,
    f__law_chain := f38, fd__law_chain := _, F__law_chain := fun_mk (st := st__law_chain) l38 c38 k38, b__law_chain := (fun_mk (st := st__law_chain) l38 c38 k38).binds (ps := ["_law_source_here", "_law_last", "_law_most", "_law_far"]) fun _ _ _ _ _ _ us hl => match us, hl with | [_, _, _, _], _ => rfl,
    g__law_chain := PySem.W.mg_of X G a38,
    f__law_below := f39, fd__law_below := _, F__law_below := fun_mk (st := st__law_below) l39 c39 k39, b__law_below := (fun_mk (st := st__law_below) l39 c39 k39).binds (ps := ["_law_one", "_law_other"]) fun _ _ _ _ _ _ us hl => match us, hl with | [_, _], _ => rfl,
    g__law_below := PySem.W.mg_of X G a39,
    f__law_near := f40, fd__law_near := _, F__law_near := fun_mk (st := st__law_near) l40 c40 k40, b__law_near := (fun_mk (st := st__law_near) l40 c40 k40).binds (ps := ["_law_source_here", "_law_one"]) fun _ _ _ _ _ _ us hl => match us, hl with | [_, _], _ => rfl,
    g__law_near := PySem.W.mg_of X G a40,
    f__law_row_right := f41, fd__law_row_right := _, F__law_row_right := fun_mk (st := st__law_row_right) l41 c41 k41, b__law_row_right := (fun_mk (st := st__law_row_right) l41 c41 k41).binds (ps := ["_law_row", "_law_steps"]) fun _ _ _ _ _ _ us hl => match us, hl with | [_, _], _ => rfl,
    g__law_row_right := PySem.W.mg_of X G a41,
    f__law_right := f42, fd__law_right := _, F__law_right := fun_mk (st := st__law_right) l42 c42 k42, b__law_right := (fun_mk (st := st__law_right) l42 c42 k42).binds (ps := ["_law_source_here"]) fun _ _ _ _ _ _ us hl => match us, hl with | [_], _ => rfl,
    g__law_right := PySem.W.mg_of X G a42,
    f_law := f43, fd_law := _, F_law := fun_mk (st := st_law) l43 c43 k43, b_law := (fun_mk (st := st_law) l43 c43 k43).binds (ps := ["_law_script"]) fun _ _ _ _ _ _ us hl => match us, hl with | [_], _ => rfl,
    g_law := PySem.W.mg_of X G a43,
    n_abs := PySem.W.mg_none_of X G z_abs,
    n_all := PySem.W.mg_none_of X G z_all,
    n_bool := PySem.W.mg_none_of X G z_bool,
    n_int := PySem.W.mg_none_of X G z_int,
    n_isinstance := PySem.W.mg_none_of X G z_isinstance,
    n_len := PySem.W.mg_none_of X G z_len,
    n_max := PySem.W.mg_none_of X G z_max,
    n_min := PySem.W.mg_none_of X G z_min,
    n_range := PySem.W.mg_none_of X G z_range,
    n_sorted := PySem.W.mg_none_of X G z_sorted,
    n_str := PySem.W.mg_none_of X G z_str,
    n_tuple := PySem.W.mg_none_of X G z_tuple,
    ra_BY_RULE := ra_BY_RULE, c_BY_RULE := PySem.W.mg_of X G y_BY_RULE, k_BY_RULE := fun ru => match ru with | .dn => ⟨.ref ra_BY_RULE_down, kdct_of2 d_BY_RULE q_BY_RULE n_BY_RULE_down rfl, fun _ => .tup (.inr ⟨_, _, _, x_BY_RULE_down, rfl, rfl, by (show 2 ≤ sizeLine; decide), (show Vals [.ref ra_BY_RULE_down_0, .ref ra_BY_RULE_down_1] _ from .cons rfl (.cons rfl (.nil)))⟩) (.cons (.tup (.inr ⟨_, _, _, x_BY_RULE_down_0, rfl, rfl, by (show 2 ≤ sizeLine; decide), (show Vals [.ref ra_BY_RULE_down_0_0, .str "up"] _ from .cons rfl (.cons ⟨_, rfl⟩ (.nil)))⟩) (.cons (.tup (.inr ⟨_, _, _, x_BY_RULE_down_0_0, rfl, rfl, by (show 2 ≤ sizeLine; decide), (show Vals [.int 1, .int 1] _ from .cons ⟨_, rfl⟩ (.cons ⟨_, rfl⟩ (.nil)))⟩) (.cons (.int _) (.cons (.int _) (.nil)))) (.cons (.str _) (.nil)))) (.cons (.tup (.inr ⟨_, _, _, x_BY_RULE_down_1, rfl, rfl, by (show 2 ≤ sizeLine; decide), (show Vals [.ref ra_BY_RULE_down_1_0, .str "up"] _ from .cons rfl (.cons ⟨_, rfl⟩ (.nil)))⟩) (.cons (.tup (.inr ⟨_, _, _, x_BY_RULE_down_1_0, rfl, rfl, by (show 2 ≤ sizeLine; decide), (show Vals [.int 1, .int 1] _ from .cons ⟨_, rfl⟩ (.cons ⟨_, rfl⟩ (.nil)))⟩) (.cons (.int _) (.cons (.int _) (.nil)))) (.cons (.str _) (.nil)))) (.nil)))⟩ | .hd => ⟨.ref ra_BY_RULE_half_down, kdct_of2 d_BY_RULE q_BY_RULE n_BY_RULE_half_down rfl, fun _ => .tup (.inr ⟨_, _, _, x_BY_RULE_half_down, rfl, rfl, by (show 2 ≤ sizeLine; decide), (show Vals [.ref ra_BY_RULE_half_down_0, .ref ra_BY_RULE_half_down_1] _ from .cons rfl (.cons rfl (.nil)))⟩) (.cons (.tup (.inr ⟨_, _, _, x_BY_RULE_half_down_0, rfl, rfl, by (show 2 ≤ sizeLine; decide), (show Vals [.ref ra_BY_RULE_half_down_0_0, .str "down"] _ from .cons rfl (.cons ⟨_, rfl⟩ (.nil)))⟩) (.cons (.tup (.inr ⟨_, _, _, x_BY_RULE_half_down_0_0, rfl, rfl, by (show 2 ≤ sizeLine; decide), (show Vals [.int 1, .int 2] _ from .cons ⟨_, rfl⟩ (.cons ⟨_, rfl⟩ (.nil)))⟩) (.cons (.int _) (.cons (.int _) (.nil)))) (.cons (.str _) (.nil)))) (.cons (.tup (.inr ⟨_, _, _, x_BY_RULE_half_down_1, rfl, rfl, by (show 2 ≤ sizeLine; decide), (show Vals [.ref ra_BY_RULE_half_down_1_0, .str "down"] _ from .cons rfl (.cons ⟨_, rfl⟩ (.nil)))⟩) (.cons (.tup (.inr ⟨_, _, _, x_BY_RULE_half_down_1_0, rfl, rfl, by (show 2 ≤ sizeLine; decide), (show Vals [.int 1, .int 2] _ from .cons ⟨_, rfl⟩ (.cons ⟨_, rfl⟩ (.nil)))⟩) (.cons (.int _) (.cons (.int _) (.nil)))) (.cons (.str _) (.nil)))) (.nil)))⟩ | .he => ⟨.ref ra_BY_RULE_half_even, kdct_of2 d_BY_RULE q_BY_RULE n_BY_RULE_half_even rfl, fun _ => .tup (.inr ⟨_, _, _, x_BY_RULE_half_even, rfl, rfl, by (show 2 ≤ sizeLine; decide), (show Vals [.ref ra_BY_RULE_half_even_0, .ref ra_BY_RULE_half_even_1] _ from .cons rfl (.cons rfl (.nil)))⟩) (.cons (.tup (.inr ⟨_, _, _, x_BY_RULE_half_even_0, rfl, rfl, by (show 2 ≤ sizeLine; decide), (show Vals [.ref ra_BY_RULE_half_even_0_0, .str "down"] _ from .cons rfl (.cons ⟨_, rfl⟩ (.nil)))⟩) (.cons (.tup (.inr ⟨_, _, _, x_BY_RULE_half_even_0_0, rfl, rfl, by (show 2 ≤ sizeLine; decide), (show Vals [.int 1, .int 2] _ from .cons ⟨_, rfl⟩ (.cons ⟨_, rfl⟩ (.nil)))⟩) (.cons (.int _) (.cons (.int _) (.nil)))) (.cons (.str _) (.nil)))) (.cons (.tup (.inr ⟨_, _, _, x_BY_RULE_half_even_1, rfl, rfl, by (show 2 ≤ sizeLine; decide), (show Vals [.ref ra_BY_RULE_half_even_1_0, .str "up"] _ from .cons rfl (.cons ⟨_, rfl⟩ (.nil)))⟩) (.cons (.tup (.inr ⟨_, _, _, x_BY_RULE_half_even_1_0, rfl, rfl, by (show 2 ≤ sizeLine; decide), (show Vals [.int 1, .int 2] _ from .cons ⟨_, rfl⟩ (.cons ⟨_, rfl⟩ (.nil)))⟩) (.cons (.int _) (.cons (.int _) (.nil)))) (.cons (.str _) (.nil)))) (.nil)))⟩ | .hu => ⟨.ref ra_BY_RULE_half_up, kdct_of2 d_BY_RULE q_BY_RULE n_BY_RULE_half_up rfl, fun _ => .tup (.inr ⟨_, _, _, x_BY_RULE_half_up, rfl, rfl, by (show 2 ≤ sizeLine; decide), (show Vals [.ref ra_BY_RULE_half_up_0, .ref ra_BY_RULE_half_up_1] _ from .cons rfl (.cons rfl (.nil)))⟩) (.cons (.tup (.inr ⟨_, _, _, x_BY_RULE_half_up_0, rfl, rfl, by (show 2 ≤ sizeLine; decide), (show Vals [.ref ra_BY_RULE_half_up_0_0, .str "up"] _ from .cons rfl (.cons ⟨_, rfl⟩ (.nil)))⟩) (.cons (.tup (.inr ⟨_, _, _, x_BY_RULE_half_up_0_0, rfl, rfl, by (show 2 ≤ sizeLine; decide), (show Vals [.int 1, .int 2] _ from .cons ⟨_, rfl⟩ (.cons ⟨_, rfl⟩ (.nil)))⟩) (.cons (.int _) (.cons (.int _) (.nil)))) (.cons (.str _) (.nil)))) (.cons (.tup (.inr ⟨_, _, _, x_BY_RULE_half_up_1, rfl, rfl, by (show 2 ≤ sizeLine; decide), (show Vals [.ref ra_BY_RULE_half_up_1_0, .str "up"] _ from .cons rfl (.cons ⟨_, rfl⟩ (.nil)))⟩) (.cons (.tup (.inr ⟨_, _, _, x_BY_RULE_half_up_1_0, rfl, rfl, by (show 2 ≤ sizeLine; decide), (show Vals [.int 1, .int 2] _ from .cons ⟨_, rfl⟩ (.cons ⟨_, rfl⟩ (.nil)))⟩) (.cons (.int _) (.cons (.int _) (.nil)))) (.cons (.str _) (.nil)))) (.nil)))⟩ | .od => ⟨.ref ra_BY_RULE_odd, kdct_of2 d_BY_RULE q_BY_RULE n_BY_RULE_odd rfl, fun _ => .tup (.inr ⟨_, _, _, x_BY_RULE_odd, rfl, rfl, by (show 2 ≤ sizeLine; decide), (show Vals [.ref ra_BY_RULE_odd_0, .ref ra_BY_RULE_odd_1] _ from .cons rfl (.cons rfl (.nil)))⟩) (.cons (.tup (.inr ⟨_, _, _, x_BY_RULE_odd_0, rfl, rfl, by (show 2 ≤ sizeLine; decide), (show Vals [.ref ra_BY_RULE_odd_0_0, .str "down"] _ from .cons rfl (.cons ⟨_, rfl⟩ (.nil)))⟩) (.cons (.tup (.inr ⟨_, _, _, x_BY_RULE_odd_0_0, rfl, rfl, by (show 2 ≤ sizeLine; decide), (show Vals [.int 0, .int 1] _ from .cons ⟨_, rfl⟩ (.cons ⟨_, rfl⟩ (.nil)))⟩) (.cons (.int _) (.cons (.int _) (.nil)))) (.cons (.str _) (.nil)))) (.cons (.tup (.inr ⟨_, _, _, x_BY_RULE_odd_1, rfl, rfl, by (show 2 ≤ sizeLine; decide), (show Vals [.ref ra_BY_RULE_odd_1_0, .str "up"] _ from .cons rfl (.cons ⟨_, rfl⟩ (.nil)))⟩) (.cons (.tup (.inr ⟨_, _, _, x_BY_RULE_odd_1_0, rfl, rfl, by (show 2 ≤ sizeLine; decide), (show Vals [.int 1, .int 1] _ from .cons ⟨_, rfl⟩ (.cons ⟨_, rfl⟩ (.nil)))⟩) (.cons (.int _) (.cons (.int _) (.nil)))) (.cons (.str _) (.nil)))) (.nil)))⟩ | .up => ⟨.ref ra_BY_RULE_up, kdct_of2 d_BY_RULE q_BY_RULE n_BY_RULE_up rfl, fun _ => .tup (.inr ⟨_, _, _, x_BY_RULE_up, rfl, rfl, by (show 2 ≤ sizeLine; decide), (show Vals [.ref ra_BY_RULE_up_0, .ref ra_BY_RULE_up_1] _ from .cons rfl (.cons rfl (.nil)))⟩) (.cons (.tup (.inr ⟨_, _, _, x_BY_RULE_up_0, rfl, rfl, by (show 2 ≤ sizeLine; decide), (show Vals [.ref ra_BY_RULE_up_0_0, .str "down"] _ from .cons rfl (.cons ⟨_, rfl⟩ (.nil)))⟩) (.cons (.tup (.inr ⟨_, _, _, x_BY_RULE_up_0_0, rfl, rfl, by (show 2 ≤ sizeLine; decide), (show Vals [.int 0, .int 1] _ from .cons ⟨_, rfl⟩ (.cons ⟨_, rfl⟩ (.nil)))⟩) (.cons (.int _) (.cons (.int _) (.nil)))) (.cons (.str _) (.nil)))) (.cons (.tup (.inr ⟨_, _, _, x_BY_RULE_up_1, rfl, rfl, by (show 2 ≤ sizeLine; decide), (show Vals [.ref ra_BY_RULE_up_1_0, .str "down"] _ from .cons rfl (.cons ⟨_, rfl⟩ (.nil)))⟩) (.cons (.tup (.inr ⟨_, _, _, x_BY_RULE_up_1_0, rfl, rfl, by (show 2 ≤ sizeLine; decide), (show Vals [.int 0, .int 1] _ from .cons ⟨_, rfl⟩ (.cons ⟨_, rfl⟩ (.nil)))⟩) (.cons (.int _) (.cons (.int _) (.nil)))) (.cons (.str _) (.nil)))) (.nil)))⟩,
    u_DOWN := _, w_DOWN := .str "down", c_DOWN := PySem.W.mg_of X G y_DOWN, v_DOWN := ⟨_, rfl⟩, r_DOWN := fun _ => .str _,
    u_HALF_EVEN := _, w_HALF_EVEN := .str "half_even", c_HALF_EVEN := PySem.W.mg_of X G y_HALF_EVEN, v_HALF_EVEN := ⟨_, rfl⟩, r_HALF_EVEN := fun _ => .str _,
    u_HALF_UP := _, w_HALF_UP := .str "half_up", c_HALF_UP := PySem.W.mg_of X G y_HALF_UP, v_HALF_UP := ⟨_, rfl⟩, r_HALF_UP := fun _ => .str _,
    u_MOST_STEPS := _, w_MOST_STEPS := .int 12, c_MOST_STEPS := PySem.W.mg_of X G y_MOST_STEPS, v_MOST_STEPS := ⟨_, rfl⟩, r_MOST_STEPS := fun _ => .int _,
    u_MOST_WIDTH := _, w_MOST_WIDTH := .int 100, c_MOST_WIDTH := PySem.W.mg_of X G y_MOST_WIDTH, v_MOST_WIDTH := ⟨_, rfl⟩, r_MOST_WIDTH := fun _ => .int _,
    u_ODD := _, w_ODD := .str "odd", c_ODD := PySem.W.mg_of X G y_ODD, v_ODD := ⟨_, rfl⟩, r_ODD := fun _ => .str _,
    u_PAIR_cells := _, w_PAIR_cells := .int 2, c_PAIR_cells := PySem.W.mg_of X G y_PAIR_cells, v_PAIR_cells := ⟨_, rfl⟩, r_PAIR_cells := fun _ => .int _,
    u_PAIR_chains := _, w_PAIR_chains := .int 2, c_PAIR_chains := PySem.W.mg_of X G y_PAIR_chains, v_PAIR_chains := ⟨_, rfl⟩, r_PAIR_chains := fun _ => .int _,
    u_RULES := _, w_RULES := .ref ra_RULES, c_RULES := PySem.W.mg_of X G y_RULES, v_RULES := rfl, r_RULES := fun _ => .tup (.inr ⟨_, _, _, x_RULES, rfl, rfl, by (show 6 ≤ sizeLine; decide), (show Vals [.str "down", .str "half_down", .str "half_even", .str "half_up", .str "odd", .str "up"] _ from .cons ⟨_, rfl⟩ (.cons ⟨_, rfl⟩ (.cons ⟨_, rfl⟩ (.cons ⟨_, rfl⟩ (.cons ⟨_, rfl⟩ (.cons ⟨_, rfl⟩ (.nil)))))))⟩) (.cons (.str _) (.cons (.str _) (.cons (.str _) (.cons (.str _) (.cons (.str _) (.cons (.str _) (.nil))))))),
    u_UP := _, w_UP := .str "up", c_UP := PySem.W.mg_of X G y_UP, v_UP := ⟨_, rfl⟩, r_UP := fun _ => .str _ }
theorem all_mk {l : PySem.W.OpenLaw} {w : World} {K : Fg} {h : Heap} {mg : Str → Option Value} {fa : Addr} (X : K.In h) (G : h.Ns mainGlobals mg) (hfa : mg "law" = some (.ref fa))  {f0 : Addr} {od0 an0 : Option Addr} {sl0 : Array (Option Value)} {oc0 kV0 dc0 pm0 cd0 ct0 : Value} {f1 : Addr} {od1 an1 : Option Addr} {sl1 : Array (Option Value)} {oc1 kV1 dc1 pm1 cd1 ct1 : Value} {f2 : Addr} {od2 an2 : Option Addr} {sl2 : Array (Option Value)} {oc2 kV2 dc2 pm2 cd2 ct2 : Value} {f3 : Addr} {od3 an3 : Option Addr} {sl3 : Array (Option Value)} {oc3 kV3 dc3 pm3 cd3 ct3 : Value} {f4 : Addr} {od4 an4 : Option Addr} {sl4 : Array (Option Value)} {oc4 kV4 dc4 pm4 cd4 ct4 : Value} {f5 : Addr} {od5 an5 : Option Addr} {sl5 : Array (Option Value)} {oc5 kV5 dc5 pm5 cd5 ct5 : Value} {f6 : Addr} {od6 an6 : Option Addr} {sl6 : Array (Option Value)} {oc6 kV6 dc6 pm6 cd6 ct6 : Value} {f7 : Addr} {od7 an7 : Option Addr} {sl7 : Array (Option Value)} {oc7 kV7 dc7 pm7 cd7 ct7 : Value} {f8 : Addr} {od8 an8 : Option Addr} {sl8 : Array (Option Value)} {oc8 kV8 dc8 pm8 cd8 ct8 : Value} {f9 : Addr} {od9 an9 : Option Addr} {sl9 : Array (Option Value)} {oc9 kV9 dc9 pm9 cd9 ct9 : Value} {f10 : Addr} {od10 an10 : Option Addr} {sl10 : Array (Option Value)} {oc10 kV10 dc10 pm10 cd10 ct10 : Value} {f11 : Addr} {od11 an11 : Option Addr} {sl11 : Array (Option Value)} {oc11 kV11 dc11 pm11 cd11 ct11 : Value} {f12 : Addr} {od12 an12 : Option Addr} {sl12 : Array (Option Value)} {oc12 kV12 dc12 pm12 cd12 ct12 : Value} {f13 : Addr} {od13 an13 : Option Addr} {sl13 : Array (Option Value)} {oc13 kV13 dc13 pm13 cd13 ct13 : Value} {f14 : Addr} {od14 an14 : Option Addr} {sl14 : Array (Option Value)} {oc14 kV14 dc14 pm14 cd14 ct14 : Value} {f15 : Addr} {od15 an15 : Option Addr} {sl15 : Array (Option Value)} {oc15 kV15 dc15 pm15 cd15 ct15 : Value} {f16 : Addr} {od16 an16 : Option Addr} {sl16 : Array (Option Value)} {oc16 kV16 dc16 pm16 cd16 ct16 : Value} {f17 : Addr} {od17 an17 : Option Addr} {sl17 : Array (Option Value)} {oc17 kV17 dc17 pm17 cd17 ct17 : Value} {f18 : Addr} {od18 an18 : Option Addr} {sl18 : Array (Option Value)} {oc18 kV18 dc18 pm18 cd18 ct18 : Value} {f19 : Addr} {od19 an19 : Option Addr} {sl19 : Array (Option Value)} {oc19 kV19 dc19 pm19 cd19 ct19 : Value} {f20 : Addr} {od20 an20 : Option Addr} {sl20 : Array (Option Value)} {oc20 kV20 dc20 pm20 cd20 ct20 : Value} {f21 : Addr} {od21 an21 : Option Addr} {sl21 : Array (Option Value)} {oc21 kV21 dc21 pm21 cd21 ct21 : Value} {f22 : Addr} {od22 an22 : Option Addr} {sl22 : Array (Option Value)} {oc22 kV22 dc22 pm22 cd22 ct22 : Value} {f23 : Addr} {od23 an23 : Option Addr} {sl23 : Array (Option Value)} {oc23 kV23 dc23 pm23 cd23 ct23 : Value} {f24 : Addr} {od24 an24 : Option Addr} {sl24 : Array (Option Value)} {oc24 kV24 dc24 pm24 cd24 ct24 : Value} {f25 : Addr} {od25 an25 : Option Addr} {sl25 : Array (Option Value)} {oc25 kV25 dc25 pm25 cd25 ct25 : Value} {f26 : Addr} {od26 an26 : Option Addr} {sl26 : Array (Option Value)} {oc26 kV26 dc26 pm26 cd26 ct26 : Value} {f27 : Addr} {od27 an27 : Option Addr} {sl27 : Array (Option Value)} {oc27 kV27 dc27 pm27 cd27 ct27 : Value} {f28 : Addr} {od28 an28 : Option Addr} {sl28 : Array (Option Value)} {oc28 kV28 dc28 pm28 cd28 ct28 : Value} {f29 : Addr} {od29 an29 : Option Addr} {sl29 : Array (Option Value)} {oc29 kV29 dc29 pm29 cd29 ct29 : Value} {f30 : Addr} {od30 an30 : Option Addr} {sl30 : Array (Option Value)} {oc30 kV30 dc30 pm30 cd30 ct30 : Value} {f31 : Addr} {od31 an31 : Option Addr} {sl31 : Array (Option Value)} {oc31 kV31 dc31 pm31 cd31 ct31 : Value} {f32 : Addr} {od32 an32 : Option Addr} {sl32 : Array (Option Value)} {oc32 kV32 dc32 pm32 cd32 ct32 : Value} {f33 : Addr} {od33 an33 : Option Addr} {sl33 : Array (Option Value)} {oc33 kV33 dc33 pm33 cd33 ct33 : Value} {f34 : Addr} {od34 an34 : Option Addr} {sl34 : Array (Option Value)} {oc34 kV34 dc34 pm34 cd34 ct34 : Value} {f35 : Addr} {od35 an35 : Option Addr} {sl35 : Array (Option Value)} {oc35 kV35 dc35 pm35 cd35 ct35 : Value} {f36 : Addr} {od36 an36 : Option Addr} {sl36 : Array (Option Value)} {oc36 kV36 dc36 pm36 cd36 ct36 : Value} {f37 : Addr} {od37 an37 : Option Addr} {sl37 : Array (Option Value)} {oc37 kV37 dc37 pm37 cd37 ct37 : Value} {f38 : Addr} {od38 an38 : Option Addr} {sl38 : Array (Option Value)} {oc38 kV38 dc38 pm38 cd38 ct38 : Value} {f39 : Addr} {od39 an39 : Option Addr} {sl39 : Array (Option Value)} {oc39 kV39 dc39 pm39 cd39 ct39 : Value} {f40 : Addr} {od40 an40 : Option Addr} {sl40 : Array (Option Value)} {oc40 kV40 dc40 pm40 cd40 ct40 : Value} {f41 : Addr} {od41 an41 : Option Addr} {sl41 : Array (Option Value)} {oc41 kV41 dc41 pm41 cd41 ct41 : Value} {f42 : Addr} {od42 an42 : Option Addr} {sl42 : Array (Option Value)} {oc42 kV42 dc42 pm42 cd42 ct42 : Value} {f43 : Addr} {od43 an43 : Option Addr} {sl43 : Array (Option Value)} {oc43 kV43 dc43 pm43 cd43 ct43 : Value} {ra_BY_RULE : Addr} {es_BY_RULE : Array DictEntry} {en_BY_RULE : Nat} {tk_BY_RULE_down_0_0_0 : Tok} {tk_BY_RULE_down_0_0_1 : Tok} {ra_BY_RULE_down_0_0 : Addr} {rd_BY_RULE_down_0_0 : Option Addr} {rn_BY_RULE_down_0_0 : Nat} {rs_BY_RULE_down_0_0 : Array (Option Value)} {tk_BY_RULE_down_0_1 : Tok} {ra_BY_RULE_down_0 : Addr} {rd_BY_RULE_down_0 : Option Addr} {rn_BY_RULE_down_0 : Nat} {rs_BY_RULE_down_0 : Array (Option Value)} {tk_BY_RULE_down_1_0_0 : Tok} {tk_BY_RULE_down_1_0_1 : Tok} {ra_BY_RULE_down_1_0 : Addr} {rd_BY_RULE_down_1_0 : Option Addr} {rn_BY_RULE_down_1_0 : Nat} {rs_BY_RULE_down_1_0 : Array (Option Value)} {tk_BY_RULE_down_1_1 : Tok} {ra_BY_RULE_down_1 : Addr} {rd_BY_RULE_down_1 : Option Addr} {rn_BY_RULE_down_1 : Nat} {rs_BY_RULE_down_1 : Array (Option Value)} {ra_BY_RULE_down : Addr} {rd_BY_RULE_down : Option Addr} {rn_BY_RULE_down : Nat} {rs_BY_RULE_down : Array (Option Value)} {tk_BY_RULE_half_down_0_0_0 : Tok} {tk_BY_RULE_half_down_0_0_1 : Tok} {ra_BY_RULE_half_down_0_0 : Addr} {rd_BY_RULE_half_down_0_0 : Option Addr} {rn_BY_RULE_half_down_0_0 : Nat} {rs_BY_RULE_half_down_0_0 : Array (Option Value)} {tk_BY_RULE_half_down_0_1 : Tok} {ra_BY_RULE_half_down_0 : Addr} {rd_BY_RULE_half_down_0 : Option Addr} {rn_BY_RULE_half_down_0 : Nat} {rs_BY_RULE_half_down_0 : Array (Option Value)} {tk_BY_RULE_half_down_1_0_0 : Tok} {tk_BY_RULE_half_down_1_0_1 : Tok} {ra_BY_RULE_half_down_1_0 : Addr} {rd_BY_RULE_half_down_1_0 : Option Addr} {rn_BY_RULE_half_down_1_0 : Nat} {rs_BY_RULE_half_down_1_0 : Array (Option Value)} {tk_BY_RULE_half_down_1_1 : Tok} {ra_BY_RULE_half_down_1 : Addr} {rd_BY_RULE_half_down_1 : Option Addr} {rn_BY_RULE_half_down_1 : Nat} {rs_BY_RULE_half_down_1 : Array (Option Value)} {ra_BY_RULE_half_down : Addr} {rd_BY_RULE_half_down : Option Addr} {rn_BY_RULE_half_down : Nat} {rs_BY_RULE_half_down : Array (Option Value)} {tk_BY_RULE_half_even_0_0_0 : Tok} {tk_BY_RULE_half_even_0_0_1 : Tok} {ra_BY_RULE_half_even_0_0 : Addr} {rd_BY_RULE_half_even_0_0 : Option Addr} {rn_BY_RULE_half_even_0_0 : Nat} {rs_BY_RULE_half_even_0_0 : Array (Option Value)} {tk_BY_RULE_half_even_0_1 : Tok} {ra_BY_RULE_half_even_0 : Addr} {rd_BY_RULE_half_even_0 : Option Addr} {rn_BY_RULE_half_even_0 : Nat} {rs_BY_RULE_half_even_0 : Array (Option Value)} {tk_BY_RULE_half_even_1_0_0 : Tok} {tk_BY_RULE_half_even_1_0_1 : Tok} {ra_BY_RULE_half_even_1_0 : Addr} {rd_BY_RULE_half_even_1_0 : Option Addr} {rn_BY_RULE_half_even_1_0 : Nat} {rs_BY_RULE_half_even_1_0 : Array (Option Value)} {tk_BY_RULE_half_even_1_1 : Tok} {ra_BY_RULE_half_even_1 : Addr} {rd_BY_RULE_half_even_1 : Option Addr} {rn_BY_RULE_half_even_1 : Nat} {rs_BY_RULE_half_even_1 : Array (Option Value)} {ra_BY_RULE_half_even : Addr} {rd_BY_RULE_half_even : Option Addr} {rn_BY_RULE_half_even : Nat} {rs_BY_RULE_half_even : Array (Option Value)} {tk_BY_RULE_half_up_0_0_0 : Tok} {tk_BY_RULE_half_up_0_0_1 : Tok} {ra_BY_RULE_half_up_0_0 : Addr} {rd_BY_RULE_half_up_0_0 : Option Addr} {rn_BY_RULE_half_up_0_0 : Nat} {rs_BY_RULE_half_up_0_0 : Array (Option Value)} {tk_BY_RULE_half_up_0_1 : Tok} {ra_BY_RULE_half_up_0 : Addr} {rd_BY_RULE_half_up_0 : Option Addr} {rn_BY_RULE_half_up_0 : Nat} {rs_BY_RULE_half_up_0 : Array (Option Value)} {tk_BY_RULE_half_up_1_0_0 : Tok} {tk_BY_RULE_half_up_1_0_1 : Tok} {ra_BY_RULE_half_up_1_0 : Addr} {rd_BY_RULE_half_up_1_0 : Option Addr} {rn_BY_RULE_half_up_1_0 : Nat} {rs_BY_RULE_half_up_1_0 : Array (Option Value)} {tk_BY_RULE_half_up_1_1 : Tok} {ra_BY_RULE_half_up_1 : Addr} {rd_BY_RULE_half_up_1 : Option Addr} {rn_BY_RULE_half_up_1 : Nat} {rs_BY_RULE_half_up_1 : Array (Option Value)} {ra_BY_RULE_half_up : Addr} {rd_BY_RULE_half_up : Option Addr} {rn_BY_RULE_half_up : Nat} {rs_BY_RULE_half_up : Array (Option Value)} {tk_BY_RULE_odd_0_0_0 : Tok} {tk_BY_RULE_odd_0_0_1 : Tok} {ra_BY_RULE_odd_0_0 : Addr} {rd_BY_RULE_odd_0_0 : Option Addr} {rn_BY_RULE_odd_0_0 : Nat} {rs_BY_RULE_odd_0_0 : Array (Option Value)} {tk_BY_RULE_odd_0_1 : Tok} {ra_BY_RULE_odd_0 : Addr} {rd_BY_RULE_odd_0 : Option Addr} {rn_BY_RULE_odd_0 : Nat} {rs_BY_RULE_odd_0 : Array (Option Value)} {tk_BY_RULE_odd_1_0_0 : Tok} {tk_BY_RULE_odd_1_0_1 : Tok} {ra_BY_RULE_odd_1_0 : Addr} {rd_BY_RULE_odd_1_0 : Option Addr} {rn_BY_RULE_odd_1_0 : Nat} {rs_BY_RULE_odd_1_0 : Array (Option Value)} {tk_BY_RULE_odd_1_1 : Tok} {ra_BY_RULE_odd_1 : Addr} {rd_BY_RULE_odd_1 : Option Addr} {rn_BY_RULE_odd_1 : Nat} {rs_BY_RULE_odd_1 : Array (Option Value)} {ra_BY_RULE_odd : Addr} {rd_BY_RULE_odd : Option Addr} {rn_BY_RULE_odd : Nat} {rs_BY_RULE_odd : Array (Option Value)} {tk_BY_RULE_up_0_0_0 : Tok} {tk_BY_RULE_up_0_0_1 : Tok} {ra_BY_RULE_up_0_0 : Addr} {rd_BY_RULE_up_0_0 : Option Addr} {rn_BY_RULE_up_0_0 : Nat} {rs_BY_RULE_up_0_0 : Array (Option Value)} {tk_BY_RULE_up_0_1 : Tok} {ra_BY_RULE_up_0 : Addr} {rd_BY_RULE_up_0 : Option Addr} {rn_BY_RULE_up_0 : Nat} {rs_BY_RULE_up_0 : Array (Option Value)} {tk_BY_RULE_up_1_0_0 : Tok} {tk_BY_RULE_up_1_0_1 : Tok} {ra_BY_RULE_up_1_0 : Addr} {rd_BY_RULE_up_1_0 : Option Addr} {rn_BY_RULE_up_1_0 : Nat} {rs_BY_RULE_up_1_0 : Array (Option Value)} {tk_BY_RULE_up_1_1 : Tok} {ra_BY_RULE_up_1 : Addr} {rd_BY_RULE_up_1 : Option Addr} {rn_BY_RULE_up_1 : Nat} {rs_BY_RULE_up_1 : Array (Option Value)} {ra_BY_RULE_up : Addr} {rd_BY_RULE_up : Option Addr} {rn_BY_RULE_up : Nat} {rs_BY_RULE_up : Array (Option Value)} {tk_DOWN : Tok} {tk_HALF_EVEN : Tok} {tk_HALF_UP : Tok} {tk_MOST_STEPS : Tok} {tk_MOST_WIDTH : Tok} {tk_ODD : Tok} {tk_PAIR_cells : Tok} {tk_PAIR_chains : Tok} {tk_RULES_0 : Tok} {tk_RULES_1 : Tok} {tk_RULES_2 : Tok} {tk_RULES_3 : Tok} {tk_RULES_4 : Tok} {tk_RULES_5 : Tok} {ra_RULES : Addr} {rd_RULES : Option Addr} {rn_RULES : Nat} {rs_RULES : Array (Option Value)} {tk_UP : Tok}
    (a0 : PySem.W.nsIn K mainGlobals "is_int" = some (some (.ref f0)))
    (l0 : K.lookup f0 = some ⟨oc0, od0, .func (PySem.W.fnOf "is_int" "is_int" (defArgs st_is_int) (defBody st_is_int) (defScope st_is_int) .none kV0 dc0 pm0 an0 cd0 ct0), sl0⟩) (c0 : PySem.W.codeIn K cd0 "is_int" = true) (k0 : PySem.W.keepIn K (.ref f0) = true)
    (a1 : PySem.W.nsIn K mainGlobals "common_divisor" = some (some (.ref f1)))
    (l1 : K.lookup f1 = some ⟨oc1, od1, .func (PySem.W.fnOf "common_divisor" "common_divisor" (defArgs st_common_divisor) (defBody st_common_divisor) (defScope st_common_divisor) .none kV1 dc1 pm1 an1 cd1 ct1), sl1⟩) (c1 : PySem.W.codeIn K cd1 "common_divisor" = true) (k1 : PySem.W.keepIn K (.ref f1) = true)
    (a2 : PySem.W.nsIn K mainGlobals "lowest" = some (some (.ref f2)))
    (l2 : K.lookup f2 = some ⟨oc2, od2, .func (PySem.W.fnOf "lowest" "lowest" (defArgs st_lowest) (defBody st_lowest) (defScope st_lowest) .none kV2 dc2 pm2 an2 cd2 ct2), sl2⟩) (c2 : PySem.W.codeIn K cd2 "lowest" = true) (k2 : PySem.W.keepIn K (.ref f2) = true)
    (a3 : PySem.W.nsIn K mainGlobals "is_number" = some (some (.ref f3)))
    (l3 : K.lookup f3 = some ⟨oc3, od3, .func (PySem.W.fnOf "is_number" "is_number" (defArgs st_is_number) (defBody st_is_number) (defScope st_is_number) .none kV3 dc3 pm3 an3 cd3 ct3), sl3⟩) (c3 : PySem.W.codeIn K cd3 "is_number" = true) (k3 : PySem.W.keepIn K (.ref f3) = true)
    (a4 : PySem.W.nsIn K mainGlobals "is_width" = some (some (.ref f4)))
    (l4 : K.lookup f4 = some ⟨oc4, od4, .func (PySem.W.fnOf "is_width" "is_width" (defArgs st_is_width) (defBody st_is_width) (defScope st_is_width) .none kV4 dc4 pm4 an4 cd4 ct4), sl4⟩) (c4 : PySem.W.codeIn K cd4 "is_width" = true) (k4 : PySem.W.keepIn K (.ref f4) = true)
    (a5 : PySem.W.nsIn K mainGlobals "check_number" = some (some (.ref f5)))
    (l5 : K.lookup f5 = some ⟨oc5, od5, .func (PySem.W.fnOf "check_number" "check_number" (defArgs st_check_number) (defBody st_check_number) (defScope st_check_number) .none kV5 dc5 pm5 an5 cd5 ct5), sl5⟩) (c5 : PySem.W.codeIn K cd5 "check_number" = true) (k5 : PySem.W.keepIn K (.ref f5) = true)
    (a6 : PySem.W.nsIn K mainGlobals "check_width" = some (some (.ref f6)))
    (l6 : K.lookup f6 = some ⟨oc6, od6, .func (PySem.W.fnOf "check_width" "check_width" (defArgs st_check_width) (defBody st_check_width) (defScope st_check_width) .none kV6 dc6 pm6 an6 cd6 ct6), sl6⟩) (c6 : PySem.W.codeIn K cd6 "check_width" = true) (k6 : PySem.W.keepIn K (.ref f6) = true)
    (a7 : PySem.W.nsIn K mainGlobals "scaled" = some (some (.ref f7)))
    (l7 : K.lookup f7 = some ⟨oc7, od7, .func (PySem.W.fnOf "scaled" "scaled" (defArgs st_scaled) (defBody st_scaled) (defScope st_scaled) .none kV7 dc7 pm7 an7 cd7 ct7), sl7⟩) (c7 : PySem.W.codeIn K cd7 "scaled" = true) (k7 : PySem.W.keepIn K (.ref f7) = true)
    (a8 : PySem.W.nsIn K mainGlobals "power_number" = some (some (.ref f8)))
    (l8 : K.lookup f8 = some ⟨oc8, od8, .func (PySem.W.fnOf "power_number" "power_number" (defArgs st_power_number) (defBody st_power_number) (defScope st_power_number) .none kV8 dc8 pm8 an8 cd8 ct8), sl8⟩) (c8 : PySem.W.codeIn K cd8 "power_number" = true) (k8 : PySem.W.keepIn K (.ref f8) = true)
    (a9 : PySem.W.nsIn K mainGlobals "cell_of" = some (some (.ref f9)))
    (l9 : K.lookup f9 = some ⟨oc9, od9, .func (PySem.W.fnOf "cell_of" "cell_of" (defArgs st_cell_of) (defBody st_cell_of) (defScope st_cell_of) .none kV9 dc9 pm9 an9 cd9 ct9), sl9⟩) (c9 : PySem.W.codeIn K cd9 "cell_of" = true) (k9 : PySem.W.keepIn K (.ref f9) = true)
    (a10 : PySem.W.nsIn K mainGlobals "position_of" = some (some (.ref f10)))
    (l10 : K.lookup f10 = some ⟨oc10, od10, .func (PySem.W.fnOf "position_of" "position_of" (defArgs st_position_of) (defBody st_position_of) (defScope st_position_of) .none kV10 dc10 pm10 an10 cd10 ct10), sl10⟩) (c10 : PySem.W.codeIn K cd10 "position_of" = true) (k10 : PySem.W.keepIn K (.ref f10) = true)
    (a11 : PySem.W.nsIn K mainGlobals "cell" = some (some (.ref f11)))
    (l11 : K.lookup f11 = some ⟨oc11, od11, .func (PySem.W.fnOf "cell" "cell" (defArgs st_cell) (defBody st_cell) (defScope st_cell) .none kV11 dc11 pm11 an11 cd11 ct11), sl11⟩) (c11 : PySem.W.codeIn K cd11 "cell" = true) (k11 : PySem.W.keepIn K (.ref f11) = true)
    (a12 : PySem.W.nsIn K mainGlobals "position" = some (some (.ref f12)))
    (l12 : K.lookup f12 = some ⟨oc12, od12, .func (PySem.W.fnOf "position" "position" (defArgs st_position) (defBody st_position) (defScope st_position) .none kV12 dc12 pm12 an12 cd12 ct12), sl12⟩) (c12 : PySem.W.codeIn K cd12 "position" = true) (k12 : PySem.W.keepIn K (.ref f12) = true)
    (a13 : PySem.W.nsIn K mainGlobals "is_rule" = some (some (.ref f13)))
    (l13 : K.lookup f13 = some ⟨oc13, od13, .func (PySem.W.fnOf "is_rule" "is_rule" (defArgs st_is_rule) (defBody st_is_rule) (defScope st_is_rule) .none kV13 dc13 pm13 an13 cd13 ct13), sl13⟩) (c13 : PySem.W.codeIn K cd13 "is_rule" = true) (k13 : PySem.W.keepIn K (.ref f13) = true)
    (a14 : PySem.W.nsIn K mainGlobals "ends_of" = some (some (.ref f14)))
    (l14 : K.lookup f14 = some ⟨oc14, od14, .func (PySem.W.fnOf "ends_of" "ends_of" (defArgs st_ends_of) (defBody st_ends_of) (defScope st_ends_of) .none kV14 dc14 pm14 an14 cd14 ct14), sl14⟩) (c14 : PySem.W.codeIn K cd14 "ends_of" = true) (k14 : PySem.W.keepIn K (.ref f14) = true)
    (a15 : PySem.W.nsIn K mainGlobals "goes_up" = some (some (.ref f15)))
    (l15 : K.lookup f15 = some ⟨oc15, od15, .func (PySem.W.fnOf "goes_up" "goes_up" (defArgs st_goes_up) (defBody st_goes_up) (defScope st_goes_up) .none kV15 dc15 pm15 an15 cd15 ct15), sl15⟩) (c15 : PySem.W.codeIn K cd15 "goes_up" = true) (k15 : PySem.W.keepIn K (.ref f15) = true)
    (a16 : PySem.W.nsIn K mainGlobals "round_once" = some (some (.ref f16)))
    (l16 : K.lookup f16 = some ⟨oc16, od16, .func (PySem.W.fnOf "round_once" "round_once" (defArgs st_round_once) (defBody st_round_once) (defScope st_round_once) .none kV16 dc16 pm16 an16 cd16 ct16), sl16⟩) (c16 : PySem.W.codeIn K cd16 "round_once" = true) (k16 : PySem.W.keepIn K (.ref f16) = true)
    (a17 : PySem.W.nsIn K mainGlobals "neighbours" = some (some (.ref f17)))
    (l17 : K.lookup f17 = some ⟨oc17, od17, .func (PySem.W.fnOf "neighbours" "neighbours" (defArgs st_neighbours) (defBody st_neighbours) (defScope st_neighbours) .none kV17 dc17 pm17 an17 cd17 ct17), sl17⟩) (c17 : PySem.W.codeIn K cd17 "neighbours" = true) (k17 : PySem.W.keepIn K (.ref f17) = true)
    (a18 : PySem.W.nsIn K mainGlobals "is_step" = some (some (.ref f18)))
    (l18 : K.lookup f18 = some ⟨oc18, od18, .func (PySem.W.fnOf "is_step" "is_step" (defArgs st_is_step) (defBody st_is_step) (defScope st_is_step) .none kV18 dc18 pm18 an18 cd18 ct18), sl18⟩) (c18 : PySem.W.codeIn K cd18 "is_step" = true) (k18 : PySem.W.keepIn K (.ref f18) = true)
    (a19 : PySem.W.nsIn K mainGlobals "is_chain" = some (some (.ref f19)))
    (l19 : K.lookup f19 = some ⟨oc19, od19, .func (PySem.W.fnOf "is_chain" "is_chain" (defArgs st_is_chain) (defBody st_is_chain) (defScope st_is_chain) .none kV19 dc19 pm19 an19 cd19 ct19), sl19⟩) (c19 : PySem.W.codeIn K cd19 "is_chain" = true) (k19 : PySem.W.keepIn K (.ref f19) = true)
    (a20 : PySem.W.nsIn K mainGlobals "check_chain" = some (some (.ref f20)))
    (l20 : K.lookup f20 = some ⟨oc20, od20, .func (PySem.W.fnOf "check_chain" "check_chain" (defArgs st_check_chain) (defBody st_check_chain) (defScope st_check_chain) .none kV20 dc20 pm20 an20 cd20 ct20), sl20⟩) (c20 : PySem.W.codeIn K cd20 "check_chain" = true) (k20 : PySem.W.keepIn K (.ref f20) = true)
    (a21 : PySem.W.nsIn K mainGlobals "last_width" = some (some (.ref f21)))
    (l21 : K.lookup f21 = some ⟨oc21, od21, .func (PySem.W.fnOf "last_width" "last_width" (defArgs st_last_width) (defBody st_last_width) (defScope st_last_width) .none kV21 dc21 pm21 an21 cd21 ct21), sl21⟩) (c21 : PySem.W.codeIn K cd21 "last_width" = true) (k21 : PySem.W.keepIn K (.ref f21) = true)
    (a22 : PySem.W.nsIn K mainGlobals "stages" = some (some (.ref f22)))
    (l22 : K.lookup f22 = some ⟨oc22, od22, .func (PySem.W.fnOf "stages" "stages" (defArgs st_stages) (defBody st_stages) (defScope st_stages) .none kV22 dc22 pm22 an22 cd22 ct22), sl22⟩) (c22 : PySem.W.codeIn K cd22 "stages" = true) (k22 : PySem.W.keepIn K (.ref f22) = true)
    (a23 : PySem.W.nsIn K mainGlobals "applied" = some (some (.ref f23)))
    (l23 : K.lookup f23 = some ⟨oc23, od23, .func (PySem.W.fnOf "applied" "applied" (defArgs st_applied) (defBody st_applied) (defScope st_applied) .none kV23 dc23 pm23 an23 cd23 ct23), sl23⟩) (c23 : PySem.W.codeIn K cd23 "applied" = true) (k23 : PySem.W.keepIn K (.ref f23) = true)
    (a24 : PySem.W.nsIn K mainGlobals "trimmed" = some (some (.ref f24)))
    (l24 : K.lookup f24 = some ⟨oc24, od24, .func (PySem.W.fnOf "trimmed" "trimmed" (defArgs st_trimmed) (defBody st_trimmed) (defScope st_trimmed) .none kV24 dc24 pm24 an24 cd24 ct24), sl24⟩) (c24 : PySem.W.codeIn K cd24 "trimmed" = true) (k24 : PySem.W.keepIn K (.ref f24) = true)
    (a25 : PySem.W.nsIn K mainGlobals "last_down" = some (some (.ref f25)))
    (l25 : K.lookup f25 = some ⟨oc25, od25, .func (PySem.W.fnOf "last_down" "last_down" (defArgs st_last_down) (defBody st_last_down) (defScope st_last_down) .none kV25 dc25 pm25 an25 cd25 ct25), sl25⟩) (c25 : PySem.W.codeIn K cd25 "last_down" = true) (k25 : PySem.W.keepIn K (.ref f25) = true)
    (a26 : PySem.W.nsIn K mainGlobals "combined" = some (some (.ref f26)))
    (l26 : K.lookup f26 = some ⟨oc26, od26, .func (PySem.W.fnOf "combined" "combined" (defArgs st_combined) (defBody st_combined) (defScope st_combined) .none kV26 dc26 pm26 an26 cd26 ct26), sl26⟩) (c26 : PySem.W.codeIn K cd26 "combined" = true) (k26 : PySem.W.keepIn K (.ref f26) = true)
    (a27 : PySem.W.nsIn K mainGlobals "thresholds" = some (some (.ref f27)))
    (l27 : K.lookup f27 = some ⟨oc27, od27, .func (PySem.W.fnOf "thresholds" "thresholds" (defArgs st_thresholds) (defBody st_thresholds) (defScope st_thresholds) .none kV27 dc27 pm27 an27 cd27 ct27), sl27⟩) (c27 : PySem.W.codeIn K cd27 "thresholds" = true) (k27 : PySem.W.keepIn K (.ref f27) = true)
    (a28 : PySem.W.nsIn K mainGlobals "check_chains" = some (some (.ref f28)))
    (l28 : K.lookup f28 = some ⟨oc28, od28, .func (PySem.W.fnOf "check_chains" "check_chains" (defArgs st_check_chains) (defBody st_check_chains) (defScope st_check_chains) .none kV28 dc28 pm28 an28 cd28 ct28), sl28⟩) (c28 : PySem.W.codeIn K cd28 "check_chains" = true) (k28 : PySem.W.keepIn K (.ref f28) = true)
    (a29 : PySem.W.nsIn K mainGlobals "same" = some (some (.ref f29)))
    (l29 : K.lookup f29 = some ⟨oc29, od29, .func (PySem.W.fnOf "same" "same" (defArgs st_same) (defBody st_same) (defScope st_same) .none kV29 dc29 pm29 an29 cd29 ct29), sl29⟩) (c29 : PySem.W.codeIn K cd29 "same" = true) (k29 : PySem.W.keepIn K (.ref f29) = true)
    (a30 : PySem.W.nsIn K mainGlobals "_law_source" = some (some (.ref f30)))
    (l30 : K.lookup f30 = some ⟨oc30, od30, .func (PySem.W.fnOf "_law_source" "_law_source" (defArgs st__law_source) (defBody st__law_source) (defScope st__law_source) .none kV30 dc30 pm30 an30 cd30 ct30), sl30⟩) (c30 : PySem.W.codeIn K cd30 "_law_source" = true) (k30 : PySem.W.keepIn K (.ref f30) = true)
    (a31 : PySem.W.nsIn K mainGlobals "_law_draw" = some (some (.ref f31)))
    (l31 : K.lookup f31 = some ⟨oc31, od31, .func (PySem.W.fnOf "_law_draw" "_law_draw" (defArgs st__law_draw) (defBody st__law_draw) (defScope st__law_draw) .none kV31 dc31 pm31 an31 cd31 ct31), sl31⟩) (c31 : PySem.W.codeIn K cd31 "_law_draw" = true) (k31 : PySem.W.keepIn K (.ref f31) = true)
    (a32 : PySem.W.nsIn K mainGlobals "_law_pick" = some (some (.ref f32)))
    (l32 : K.lookup f32 = some ⟨oc32, od32, .func (PySem.W.fnOf "_law_pick" "_law_pick" (defArgs st__law_pick) (defBody st__law_pick) (defScope st__law_pick) .none kV32 dc32 pm32 an32 cd32 ct32), sl32⟩) (c32 : PySem.W.codeIn K cd32 "_law_pick" = true) (k32 : PySem.W.keepIn K (.ref f32) = true)
    (a33 : PySem.W.nsIn K mainGlobals "_law_divisor" = some (some (.ref f33)))
    (l33 : K.lookup f33 = some ⟨oc33, od33, .func (PySem.W.fnOf "_law_divisor" "_law_divisor" (defArgs st__law_divisor) (defBody st__law_divisor) (defScope st__law_divisor) .none kV33 dc33 pm33 an33 cd33 ct33), sl33⟩) (c33 : PySem.W.codeIn K cd33 "_law_divisor" = true) (k33 : PySem.W.keepIn K (.ref f33) = true)
    (a34 : PySem.W.nsIn K mainGlobals "_law_low" = some (some (.ref f34)))
    (l34 : K.lookup f34 = some ⟨oc34, od34, .func (PySem.W.fnOf "_law_low" "_law_low" (defArgs st__law_low) (defBody st__law_low) (defScope st__law_low) .none kV34 dc34 pm34 an34 cd34 ct34), sl34⟩) (c34 : PySem.W.codeIn K cd34 "_law_low" = true) (k34 : PySem.W.keepIn K (.ref f34) = true)
    (a35 : PySem.W.nsIn K mainGlobals "_law_scaled" = some (some (.ref f35)))
    (l35 : K.lookup f35 = some ⟨oc35, od35, .func (PySem.W.fnOf "_law_scaled" "_law_scaled" (defArgs st__law_scaled) (defBody st__law_scaled) (defScope st__law_scaled) .none kV35 dc35 pm35 an35 cd35 ct35), sl35⟩) (c35 : PySem.W.codeIn K cd35 "_law_scaled" = true) (k35 : PySem.W.keepIn K (.ref f35) = true)
    (a36 : PySem.W.nsIn K mainGlobals "_law_number" = some (some (.ref f36)))
    (l36 : K.lookup f36 = some ⟨oc36, od36, .func (PySem.W.fnOf "_law_number" "_law_number" (defArgs st__law_number) (defBody st__law_number) (defScope st__law_number) .none kV36 dc36 pm36 an36 cd36 ct36), sl36⟩) (c36 : PySem.W.codeIn K cd36 "_law_number" = true) (k36 : PySem.W.keepIn K (.ref f36) = true)
    (a37 : PySem.W.nsIn K mainGlobals "_law_rule" = some (some (.ref f37)))
    (l37 : K.lookup f37 = some ⟨oc37, od37, .func (PySem.W.fnOf "_law_rule" "_law_rule" (defArgs st__law_rule) (defBody st__law_rule) (defScope st__law_rule) .none kV37 dc37 pm37 an37 cd37 ct37), sl37⟩) (c37 : PySem.W.codeIn K cd37 "_law_rule" = true) (k37 : PySem.W.keepIn K (.ref f37) = true)
    (a38 : PySem.W.nsIn K mainGlobals "_law_chain" = some (some (.ref f38)))
    (l38 : K.lookup f38 = some ⟨oc38, od38, .func (PySem.W.fnOf "_law_chain" "_law_chain" (defArgs st__law_chain) (defBody st__law_chain) (defScope st__law_chain) .none kV38 dc38 pm38 an38 cd38 ct38), sl38⟩) (c38 : PySem.W.codeIn K cd38 "_law_chain" = true) (k38 : PySem.W.keepIn K (.ref f38) = true)
    (a39 : PySem.W.nsIn K mainGlobals "_law_below" = some (some (.ref f39)))
    (l39 : K.lookup f39 = some ⟨oc39, od39, .func (PySem.W.fnOf "_law_below" "_law_below" (defArgs st__law_below) (defBody st__law_below) (defScope st__law_below) .none kV39 dc39 pm39 an39 cd39 ct39), sl39⟩) (c39 : PySem.W.codeIn K cd39 "_law_below" = true) (k39 : PySem.W.keepIn K (.ref f39) = true)
    (a40 : PySem.W.nsIn K mainGlobals "_law_near" = some (some (.ref f40)))
    (l40 : K.lookup f40 = some ⟨oc40, od40, .func (PySem.W.fnOf "_law_near" "_law_near" (defArgs st__law_near) (defBody st__law_near) (defScope st__law_near) .none kV40 dc40 pm40 an40 cd40 ct40), sl40⟩) (c40 : PySem.W.codeIn K cd40 "_law_near" = true) (k40 : PySem.W.keepIn K (.ref f40) = true)
    (a41 : PySem.W.nsIn K mainGlobals "_law_row_right" = some (some (.ref f41)))
    (l41 : K.lookup f41 = some ⟨oc41, od41, .func (PySem.W.fnOf "_law_row_right" "_law_row_right" (defArgs st__law_row_right) (defBody st__law_row_right) (defScope st__law_row_right) .none kV41 dc41 pm41 an41 cd41 ct41), sl41⟩) (c41 : PySem.W.codeIn K cd41 "_law_row_right" = true) (k41 : PySem.W.keepIn K (.ref f41) = true)
    (a42 : PySem.W.nsIn K mainGlobals "_law_right" = some (some (.ref f42)))
    (l42 : K.lookup f42 = some ⟨oc42, od42, .func (PySem.W.fnOf "_law_right" "_law_right" (defArgs st__law_right) (defBody st__law_right) (defScope st__law_right) .none kV42 dc42 pm42 an42 cd42 ct42), sl42⟩) (c42 : PySem.W.codeIn K cd42 "_law_right" = true) (k42 : PySem.W.keepIn K (.ref f42) = true)
    (a43 : PySem.W.nsIn K mainGlobals "law" = some (some (.ref f43)))
    (l43 : K.lookup f43 = some ⟨oc43, od43, .func (PySem.W.fnOf "law" "law" (defArgs st_law) (defBody st_law) (defScope st_law) .none kV43 dc43 pm43 an43 cd43 ct43), sl43⟩) (c43 : PySem.W.codeIn K cd43 "law" = true) (k43 : PySem.W.keepIn K (.ref f43) = true)
    (z_abs : PySem.W.nsIn K mainGlobals "abs" = some none)
    (z_all : PySem.W.nsIn K mainGlobals "all" = some none)
    (z_bool : PySem.W.nsIn K mainGlobals "bool" = some none)
    (z_int : PySem.W.nsIn K mainGlobals "int" = some none)
    (z_isinstance : PySem.W.nsIn K mainGlobals "isinstance" = some none)
    (z_len : PySem.W.nsIn K mainGlobals "len" = some none)
    (z_max : PySem.W.nsIn K mainGlobals "max" = some none)
    (z_min : PySem.W.nsIn K mainGlobals "min" = some none)
    (z_range : PySem.W.nsIn K mainGlobals "range" = some none)
    (z_sorted : PySem.W.nsIn K mainGlobals "sorted" = some none)
    (z_str : PySem.W.nsIn K mainGlobals "str" = some none)
    (z_tuple : PySem.W.nsIn K mainGlobals "tuple" = some none)
    (y_BY_RULE : PySem.W.nsIn K mainGlobals "BY_RULE" = some (some (.ref ra_BY_RULE))) (d_BY_RULE : K.lookup ra_BY_RULE = some ⟨.type "dict", none, .dict es_BY_RULE en_BY_RULE, #[]⟩) (q_BY_RULE : PySem.W.KeysLit w.params es_BY_RULE.toList)
    (n_BY_RULE_down : PySem.W.nsIn K ra_BY_RULE "down" = some (some (.ref ra_BY_RULE_down)))
    (x_BY_RULE_down : K.lookup ra_BY_RULE_down = some ⟨.type "tuple", rd_BY_RULE_down, .seq #[.ref ra_BY_RULE_down_0, .ref ra_BY_RULE_down_1] rn_BY_RULE_down, rs_BY_RULE_down⟩)
    (x_BY_RULE_down_0 : K.lookup ra_BY_RULE_down_0 = some ⟨.type "tuple", rd_BY_RULE_down_0, .seq #[.ref ra_BY_RULE_down_0_0, .str "up" tk_BY_RULE_down_0_1] rn_BY_RULE_down_0, rs_BY_RULE_down_0⟩)
    (x_BY_RULE_down_0_0 : K.lookup ra_BY_RULE_down_0_0 = some ⟨.type "tuple", rd_BY_RULE_down_0_0, .seq #[.int 1 tk_BY_RULE_down_0_0_0, .int 1 tk_BY_RULE_down_0_0_1] rn_BY_RULE_down_0_0, rs_BY_RULE_down_0_0⟩)
    (x_BY_RULE_down_1 : K.lookup ra_BY_RULE_down_1 = some ⟨.type "tuple", rd_BY_RULE_down_1, .seq #[.ref ra_BY_RULE_down_1_0, .str "up" tk_BY_RULE_down_1_1] rn_BY_RULE_down_1, rs_BY_RULE_down_1⟩)
    (x_BY_RULE_down_1_0 : K.lookup ra_BY_RULE_down_1_0 = some ⟨.type "tuple", rd_BY_RULE_down_1_0, .seq #[.int 1 tk_BY_RULE_down_1_0_0, .int 1 tk_BY_RULE_down_1_0_1] rn_BY_RULE_down_1_0, rs_BY_RULE_down_1_0⟩)
    (n_BY_RULE_half_down : PySem.W.nsIn K ra_BY_RULE "half_down" = some (some (.ref ra_BY_RULE_half_down)))
    (x_BY_RULE_half_down : K.lookup ra_BY_RULE_half_down = some ⟨.type "tuple", rd_BY_RULE_half_down, .seq #[.ref ra_BY_RULE_half_down_0, .ref ra_BY_RULE_half_down_1] rn_BY_RULE_half_down, rs_BY_RULE_half_down⟩)
    (x_BY_RULE_half_down_0 : K.lookup ra_BY_RULE_half_down_0 = some ⟨.type "tuple", rd_BY_RULE_half_down_0, .seq #[.ref ra_BY_RULE_half_down_0_0, .str "down" tk_BY_RULE_half_down_0_1] rn_BY_RULE_half_down_0, rs_BY_RULE_half_down_0⟩)
    (x_BY_RULE_half_down_0_0 : K.lookup ra_BY_RULE_half_down_0_0 = some ⟨.type "tuple", rd_BY_RULE_half_down_0_0, .seq #[.int 1 tk_BY_RULE_half_down_0_0_0, .int 2 tk_BY_RULE_half_down_0_0_1] rn_BY_RULE_half_down_0_0, rs_BY_RULE_half_down_0_0⟩)
    (x_BY_RULE_half_down_1 : K.lookup ra_BY_RULE_half_down_1 = some ⟨.type "tuple", rd_BY_RULE_half_down_1, .seq #[.ref ra_BY_RULE_half_down_1_0, .str "down" tk_BY_RULE_half_down_1_1] rn_BY_RULE_half_down_1, rs_BY_RULE_half_down_1⟩)
    (x_BY_RULE_half_down_1_0 : K.lookup ra_BY_RULE_half_down_1_0 = some ⟨.type "tuple", rd_BY_RULE_half_down_1_0, .seq #[.int 1 tk_BY_RULE_half_down_1_0_0, .int 2 tk_BY_RULE_half_down_1_0_1] rn_BY_RULE_half_down_1_0, rs_BY_RULE_half_down_1_0⟩)
    (n_BY_RULE_half_even : PySem.W.nsIn K ra_BY_RULE "half_even" = some (some (.ref ra_BY_RULE_half_even)))
    (x_BY_RULE_half_even : K.lookup ra_BY_RULE_half_even = some ⟨.type "tuple", rd_BY_RULE_half_even, .seq #[.ref ra_BY_RULE_half_even_0, .ref ra_BY_RULE_half_even_1] rn_BY_RULE_half_even, rs_BY_RULE_half_even⟩)
    (x_BY_RULE_half_even_0 : K.lookup ra_BY_RULE_half_even_0 = some ⟨.type "tuple", rd_BY_RULE_half_even_0, .seq #[.ref ra_BY_RULE_half_even_0_0, .str "down" tk_BY_RULE_half_even_0_1] rn_BY_RULE_half_even_0, rs_BY_RULE_half_even_0⟩)
    (x_BY_RULE_half_even_0_0 : K.lookup ra_BY_RULE_half_even_0_0 = some ⟨.type "tuple", rd_BY_RULE_half_even_0_0, .seq #[.int 1 tk_BY_RULE_half_even_0_0_0, .int 2 tk_BY_RULE_half_even_0_0_1] rn_BY_RULE_half_even_0_0, rs_BY_RULE_half_even_0_0⟩)
    (x_BY_RULE_half_even_1 : K.lookup ra_BY_RULE_half_even_1 = some ⟨.type "tuple", rd_BY_RULE_half_even_1, .seq #[.ref ra_BY_RULE_half_even_1_0, .str "up" tk_BY_RULE_half_even_1_1] rn_BY_RULE_half_even_1, rs_BY_RULE_half_even_1⟩)
    (x_BY_RULE_half_even_1_0 : K.lookup ra_BY_RULE_half_even_1_0 = some ⟨.type "tuple", rd_BY_RULE_half_even_1_0, .seq #[.int 1 tk_BY_RULE_half_even_1_0_0, .int 2 tk_BY_RULE_half_even_1_0_1] rn_BY_RULE_half_even_1_0, rs_BY_RULE_half_even_1_0⟩)
    (n_BY_RULE_half_up : PySem.W.nsIn K ra_BY_RULE "half_up" = some (some (.ref ra_BY_RULE_half_up)))
    (x_BY_RULE_half_up : K.lookup ra_BY_RULE_half_up = some ⟨.type "tuple", rd_BY_RULE_half_up, .seq #[.ref ra_BY_RULE_half_up_0, .ref ra_BY_RULE_half_up_1] rn_BY_RULE_half_up, rs_BY_RULE_half_up⟩)
    (x_BY_RULE_half_up_0 : K.lookup ra_BY_RULE_half_up_0 = some ⟨.type "tuple", rd_BY_RULE_half_up_0, .seq #[.ref ra_BY_RULE_half_up_0_0, .str "up" tk_BY_RULE_half_up_0_1] rn_BY_RULE_half_up_0, rs_BY_RULE_half_up_0⟩)
    (x_BY_RULE_half_up_0_0 : K.lookup ra_BY_RULE_half_up_0_0 = some ⟨.type "tuple", rd_BY_RULE_half_up_0_0, .seq #[.int 1 tk_BY_RULE_half_up_0_0_0, .int 2 tk_BY_RULE_half_up_0_0_1] rn_BY_RULE_half_up_0_0, rs_BY_RULE_half_up_0_0⟩)
    (x_BY_RULE_half_up_1 : K.lookup ra_BY_RULE_half_up_1 = some ⟨.type "tuple", rd_BY_RULE_half_up_1, .seq #[.ref ra_BY_RULE_half_up_1_0, .str "up" tk_BY_RULE_half_up_1_1] rn_BY_RULE_half_up_1, rs_BY_RULE_half_up_1⟩)
    (x_BY_RULE_half_up_1_0 : K.lookup ra_BY_RULE_half_up_1_0 = some ⟨.type "tuple", rd_BY_RULE_half_up_1_0, .seq #[.int 1 tk_BY_RULE_half_up_1_0_0, .int 2 tk_BY_RULE_half_up_1_0_1] rn_BY_RULE_half_up_1_0, rs_BY_RULE_half_up_1_0⟩)
    (n_BY_RULE_odd : PySem.W.nsIn K ra_BY_RULE "odd" = some (some (.ref ra_BY_RULE_odd)))
    (x_BY_RULE_odd : K.lookup ra_BY_RULE_odd = some ⟨.type "tuple", rd_BY_RULE_odd, .seq #[.ref ra_BY_RULE_odd_0, .ref ra_BY_RULE_odd_1] rn_BY_RULE_odd, rs_BY_RULE_odd⟩)
    (x_BY_RULE_odd_0 : K.lookup ra_BY_RULE_odd_0 = some ⟨.type "tuple", rd_BY_RULE_odd_0, .seq #[.ref ra_BY_RULE_odd_0_0, .str "down" tk_BY_RULE_odd_0_1] rn_BY_RULE_odd_0, rs_BY_RULE_odd_0⟩)
    (x_BY_RULE_odd_0_0 : K.lookup ra_BY_RULE_odd_0_0 = some ⟨.type "tuple", rd_BY_RULE_odd_0_0, .seq #[.int 0 tk_BY_RULE_odd_0_0_0, .int 1 tk_BY_RULE_odd_0_0_1] rn_BY_RULE_odd_0_0, rs_BY_RULE_odd_0_0⟩)
    (x_BY_RULE_odd_1 : K.lookup ra_BY_RULE_odd_1 = some ⟨.type "tuple", rd_BY_RULE_odd_1, .seq #[.ref ra_BY_RULE_odd_1_0, .str "up" tk_BY_RULE_odd_1_1] rn_BY_RULE_odd_1, rs_BY_RULE_odd_1⟩)
    (x_BY_RULE_odd_1_0 : K.lookup ra_BY_RULE_odd_1_0 = some ⟨.type "tuple", rd_BY_RULE_odd_1_0, .seq #[.int 1 tk_BY_RULE_odd_1_0_0, .int 1 tk_BY_RULE_odd_1_0_1] rn_BY_RULE_odd_1_0, rs_BY_RULE_odd_1_0⟩)
    (n_BY_RULE_up : PySem.W.nsIn K ra_BY_RULE "up" = some (some (.ref ra_BY_RULE_up)))
    (x_BY_RULE_up : K.lookup ra_BY_RULE_up = some ⟨.type "tuple", rd_BY_RULE_up, .seq #[.ref ra_BY_RULE_up_0, .ref ra_BY_RULE_up_1] rn_BY_RULE_up, rs_BY_RULE_up⟩)
    (x_BY_RULE_up_0 : K.lookup ra_BY_RULE_up_0 = some ⟨.type "tuple", rd_BY_RULE_up_0, .seq #[.ref ra_BY_RULE_up_0_0, .str "down" tk_BY_RULE_up_0_1] rn_BY_RULE_up_0, rs_BY_RULE_up_0⟩)
    (x_BY_RULE_up_0_0 : K.lookup ra_BY_RULE_up_0_0 = some ⟨.type "tuple", rd_BY_RULE_up_0_0, .seq #[.int 0 tk_BY_RULE_up_0_0_0, .int 1 tk_BY_RULE_up_0_0_1] rn_BY_RULE_up_0_0, rs_BY_RULE_up_0_0⟩)
    (x_BY_RULE_up_1 : K.lookup ra_BY_RULE_up_1 = some ⟨.type "tuple", rd_BY_RULE_up_1, .seq #[.ref ra_BY_RULE_up_1_0, .str "down" tk_BY_RULE_up_1_1] rn_BY_RULE_up_1, rs_BY_RULE_up_1⟩)
    (x_BY_RULE_up_1_0 : K.lookup ra_BY_RULE_up_1_0 = some ⟨.type "tuple", rd_BY_RULE_up_1_0, .seq #[.int 0 tk_BY_RULE_up_1_0_0, .int 1 tk_BY_RULE_up_1_0_1] rn_BY_RULE_up_1_0, rs_BY_RULE_up_1_0⟩)
    (y_DOWN : PySem.W.nsIn K mainGlobals "DOWN" = some (some (.str "down" tk_DOWN)))
    (y_HALF_EVEN : PySem.W.nsIn K mainGlobals "HALF_EVEN" = some (some (.str "half_even" tk_HALF_EVEN)))
    (y_HALF_UP : PySem.W.nsIn K mainGlobals "HALF_UP" = some (some (.str "half_up" tk_HALF_UP)))
    (y_MOST_STEPS : PySem.W.nsIn K mainGlobals "MOST_STEPS" = some (some (.int 12 tk_MOST_STEPS)))
    (y_MOST_WIDTH : PySem.W.nsIn K mainGlobals "MOST_WIDTH" = some (some (.int 100 tk_MOST_WIDTH)))
    (y_ODD : PySem.W.nsIn K mainGlobals "ODD" = some (some (.str "odd" tk_ODD)))
    (y_PAIR_cells : PySem.W.nsIn K mainGlobals "PAIR_cells" = some (some (.int 2 tk_PAIR_cells)))
    (y_PAIR_chains : PySem.W.nsIn K mainGlobals "PAIR_chains" = some (some (.int 2 tk_PAIR_chains)))
    (y_RULES : PySem.W.nsIn K mainGlobals "RULES" = some (some (.ref ra_RULES)))
    (x_RULES : K.lookup ra_RULES = some ⟨.type "tuple", rd_RULES, .seq #[.str "down" tk_RULES_0, .str "half_down" tk_RULES_1, .str "half_even" tk_RULES_2, .str "half_up" tk_RULES_3, .str "odd" tk_RULES_4, .str "up" tk_RULES_5] rn_RULES, rs_RULES⟩)
    (y_UP : PySem.W.nsIn K mainGlobals "UP" = some (some (.str "up" tk_UP))) :
    ∃ fd : FuncData, (∀ (s : Shared) (v : Value), BindsTo s fd ⟨[v], []⟩ [("_law_script", v)]) ∧ TbH K h ∧ ∀ base : Heap, K.In base → base.Ns mainGlobals mg → TbB K mg base → Fn l.prog w K mg base CX0 10 fa fd ["_law_script"] (lift K 1 fs_law) := by
  have e := hfa.symm.trans (PySem.W.mg_of X G a43)
  cases e
  exact ⟨_, fun s v => .of_eq rfl, tbH_no rfl, fun base _ _ hB => ok_law (mkTx X G a0 l0 c0 k0 a1 l1 c1 k1 a2 l2 c2 k2 a3 l3 c3 k3 a4 l4 c4 k4 a5 l5 c5 k5 a6 l6 c6 k6 a7 l7 c7 k7 a8 l8 c8 k8 a9 l9 c9 k9 a10 l10 c10 k10 a11 l11 c11 k11 a12 l12 c12 k12 a13 l13 c13 k13 a14 l14 c14 k14 a15 l15 c15 k15 a16 l16 c16 k16 a17 l17 c17 k17 a18 l18 c18 k18 a19 l19 c19 k19 a20 l20 c20 k20 a21 l21 c21 k21 a22 l22 c22 k22 a23 l23 c23 k23 a24 l24 c24 k24 a25 l25 c25 k25 a26 l26 c26 k26 a27 l27 c27 k27 a28 l28 c28 k28 a29 l29 c29 k29 a30 l30 c30 k30 a31 l31 c31 k31 a32 l32 c32 k32 a33 l33 c33 k33 a34 l34 c34 k34 a35 l35 c35 k35 a36 l36 c36 k36 a37 l37 c37 k37 a38 l38 c38 k38 a39 l39 c39 k39 a40 l40 c40 k40 a41 l41 c41 k41 a42 l42 c42 k42 a43 l43 c43 k43 z_abs z_all z_bool z_int z_isinstance z_len z_max z_min z_range z_sorted z_str z_tuple y_BY_RULE d_BY_RULE q_BY_RULE n_BY_RULE_down x_BY_RULE_down x_BY_RULE_down_0 x_BY_RULE_down_0_0 x_BY_RULE_down_1 x_BY_RULE_down_1_0 n_BY_RULE_half_down x_BY_RULE_half_down x_BY_RULE_half_down_0 x_BY_RULE_half_down_0_0 x_BY_RULE_half_down_1 x_BY_RULE_half_down_1_0 n_BY_RULE_half_even x_BY_RULE_half_even x_BY_RULE_half_even_0 x_BY_RULE_half_even_0_0 x_BY_RULE_half_even_1 x_BY_RULE_half_even_1_0 n_BY_RULE_half_up x_BY_RULE_half_up x_BY_RULE_half_up_0 x_BY_RULE_half_up_0_0 x_BY_RULE_half_up_1 x_BY_RULE_half_up_1_0 n_BY_RULE_odd x_BY_RULE_odd x_BY_RULE_odd_0 x_BY_RULE_odd_0_0 x_BY_RULE_odd_1 x_BY_RULE_odd_1_0 n_BY_RULE_up x_BY_RULE_up x_BY_RULE_up_0 x_BY_RULE_up_0_0 x_BY_RULE_up_1 x_BY_RULE_up_1_0 y_DOWN y_HALF_EVEN y_HALF_UP y_MOST_STEPS y_MOST_WIDTH y_ODD y_PAIR_cells y_PAIR_chains y_RULES x_RULES y_UP)⟩
end LAW
namespace PySem.W.Fast
def tw2904239038070666277 : Nat := 0
def tw5228358743542217828 : Nat := 0
def tw9394146290465903616 : Nat := 0
def tw14891248386017286798 : Nat := 0
def tw8833372781982147165 : Nat := 0
def tw522195238424643269 : Nat := 0
def tw8383581515895641900 : Nat := 0
def tw15954895372698545779 : Nat := 0
def tw6152980823147638343 : Nat := 0
def tw5930888406650273641 : Nat := 0
def tw133520345746688213 : Nat := 0
def tw3872040903037731786 : Nat := 0
def tw18303022385604144210 : Nat := 0
def tw4574146296971147687 : Nat := 0
def tw6973195220499625282 : Nat := 0
def tw11230304239335261616 : Nat := 0
def tw4916060138381879429 : Nat := 0
def tw2079772248033965969 : Nat := 0
def tw14386890079843171144 : Nat := 0
def tw3569037432209593264 : Nat := 0
def tw13920221097903173853 : Nat := 0
def tw8432861628666278068 : Nat := 0
def tw9570378571472810691 : Nat := 0
def tw13325948465906984761 : Nat := 0
def tw17757886758668656200 : Nat := 0
def tw11201331841693298582 : Nat := 0
def tw9941880181274533813 : Nat := 0
def tw12969821848811517993 : Nat := 0
def tw11893031380112167390 : Nat := 0
def tw14199852592778441872 : Nat := 0
def tw11574710313149753963 : Nat := 0
def tw16443810736760703563 : Nat := 0
def tw17995226630461880773 : Nat := 0
def tw3782189022828371590 : Nat := 0
def tw17236523814367462131 : Nat := 0
def tw15455350831411247983 : Nat := 0
def tw6805122143178564693 : Nat := 0
def tw12424267345362591795 : Nat := 0
def tw2628537423806297440 : Nat := 0
def tw10309463841656753330 : Nat := 0
def tw2298090467535941266 : Nat := 0
def tw12698361148651414093 : Nat := 0
def tw11502466147671822528 : Nat := 0
def tw5810292037914733052 : Nat := 0
def tw11911237736679069717 : Nat := 0
def tw18067701006212149883 : Nat := 0
def tw15305281683458614171 : Nat := 0
def tw3181758285182723929 : Nat := 0
def tw6471735381627705131 : Nat := 0
def tw16567470286935353998 : Nat := 0
def tw13679218900911090217 : Nat := 0
def tw3109238022845815284 : Nat := 0
def tw14426224815786776544 : Nat := 0
def tw6259154478096784812 : Nat := 0
def tw2017058503987480774 : Nat := 0
def tw7781366098404867893 : Nat := 0
def tw15999122949508274746 : Nat := 0
def tw3833928007673611506 : Nat := 0
def tw15630850778958575119 : Nat := 0
def tw239756211112705929 : Nat := 0
def tw16885371407078098785 : Nat := 0
def tw3285451205600251254 : Nat := 0
def tw4431195731660200292 : Nat := 0
def tw14576153742507642029 : Nat := 0
def tw12938770213909082110 : Nat := 0
def tw6293235375772695422 : Nat := 0
def tw3741928139833362809 : Nat := 0
def tw7495023026287194030 : Nat := 0
def tw3634574177864534420 : Nat := 0
def tw1322263715632084517 : Nat := 0
def tw9348792553588760618 : Nat := 0
def tw11308066534665697129 : Nat := 0
def tw12201436743336662337 : Nat := 0
def tw11569474499449996385 : Nat := 0
def tw6781386224900532781 : Nat := 0
def tw2475910465218950738 : Nat := 0
def tw8700345531230437532 : Nat := 0
def tw507545374538766376 : Nat := 0
def tw12082230755629022245 : Nat := 0
def tw4408007578223548609 : Nat := 0
def tw17415382797483169933 : Nat := 0
def tw2131206355325546349 : Nat := 0
def tw18340987641503106764 : Nat := 0
def tw3227382103131876936 : Nat := 0
def tw12248260052735675836 : Nat := 0
def tw10206884451023493566 : Nat := 0
def tw11851692107618254752 : Nat := 0
def tw7059889072898921501 : Nat := 0
def tw2363509190554102218 : Nat := 0
def tw4671697959217057407 : Nat := 0
def tw12683371346666485578 : Nat := 0
def tw3958996223395679659 : Nat := 0
def tw1518543089043115996 : Nat := 0
def tw10876749619813544528 : Nat := 0
def tw4589963020619257270 : Nat := 0
def tw4424789202021989301 : Nat := 0
def tw16684370850044717312 : Nat := 0
def tw10386689320897126781 : Nat := 0
def tw2203841286088911742 : Nat := 0
def tw3906110630730110093 : Nat := 0
def tw8408734775344672660 : Nat := 0
def tw980313086706482157 : Nat := 0
def tw14226685661462094478 : Nat := 0
def tw219423799329336823 : Nat := 0
def tw16603232814640265608 : Nat := 0
def tw11402128495022431301 : Nat := 0
def tw13683147250349701026 : Nat := 0
def tw13557277831043389004 : Nat := 0
def tw13842548291165449992 : Nat := 0
def tw13070699630259751228 : Nat := 0
def tw12825365272696656988 : Nat := 0
def tw17057493321475048829 : Nat := 0
def tw16726719846882276719 : Nat := 0
def tw5914740635488573986 : Nat := 0
def tw15092361367740172573 : Nat := 0
def tw2699247401605954574 : Nat := 0
def tw11562564043324148935 : Nat := 0
def tw1913381409633931242 : Nat := 0
def tw1379699566264812556 : Nat := 0
def tw3637836012209249332 : Nat := 0
def tw9367194730018466154 : Nat := 0
def tw11412201417669814748 : Nat := 0
def tw3141817269724528437 : Nat := 0
def tw5419407210063923269 : Nat := 0
def tw14320333202792566264 : Nat := 0
def tw8957785462254162503 : Nat := 0
def tw1317648132267472742 : Nat := 0
def tw4285890821054468461 : Nat := 0
def tw6630008686195058560 : Nat := 0
def tw5059157155398639234 : Nat := 0
def tw15590019349268394837 : Nat := 0
def tw4202986912528465223 : Nat := 0
def tw13086115358752680011 : Nat := 0
def tw7196961187455614179 : Nat := 0
def tw14741700034762566150 : Nat := 0
def tw12297204593174886070 : Nat := 0
def tw4426679642963883417 : Nat := 0
def tw7529469965611671975 : Nat := 0
def tw13790793594393548133 : Nat := 0
def tw2209825707756740607 : Nat := 0
def tw15149425054818801327 : Nat := 0
def tw8910859540975997854 : Nat := 0
def tw16984227104427040603 : Nat := 0
def tw10625739845942045044 : Nat := 0
def tw9350980589055273218 : Nat := 0
def tw3745216192022159075 : Nat := 0
def tw5138560934210693457 : Nat := 0
def tw14975734977836059304 : Nat := 0
def tw15421505058422215250 : Nat := 0
def tw12106082559414061509 : Nat := 0
def tw1588474706488181163 : Nat := 0
def tw4673741549133241000 : Nat := 0
def tw6304806210835860527 : Nat := 0
def tw421418762852443132 : Nat := 0
def tw852087906950464272 : Nat := 0
def tw17587207809385601766 : Nat := 0
def tw11379909366835113003 : Nat := 0
def tw10940597694028243340 : Nat := 0
def tw1706751928230779037 : Nat := 0
def tw14217944825774248397 : Nat := 0
def tw14740394910651349415 : Nat := 0
def tw14627862961106530173 : Nat := 0
def tw14170405500598137879 : Nat := 0
def tw2199660168794825639 : Nat := 0
def tw4031367515533248744 : Nat := 0
def tw17268907795511551845 : Nat := 0
def tw16866324562440916909 : Nat := 0
def tw864938862014084915 : Nat := 0
def tw544436401147956130 : Nat := 0
def tw14689532896329373942 : Nat := 0
def tw9372504113652661855 : Nat := 0
def tw1876482328486458326 : Nat := 0
def tw7050059428734020982 : Nat := 0
def tw14989988087833608572 : Nat := 0
def tw17572036512125120950 : Nat := 0
def tw10519067860800959088 : Nat := 0
def tw10302149417249608832 : Nat := 0
def tw15218851222062397433 : Nat := 0
def tw3654380257611255755 : Nat := 0
def tw13932144608464111572 : Nat := 0
def tw1250126817244615314 : Nat := 0
def tw6151623708759395959 : Nat := 0
def tw5076821619242959549 : Nat := 0
def tw5277538242045794291 : Nat := 0
def tw1449256655065580548 : Nat := 0
def tw5072720883212620447 : Nat := 0
def tw11489357565568324465 : Nat := 0
def tw10279097603679446248 : Nat := 0
def tw6305462361875515512 : Nat := 0
def tw16933404108604697116 : Nat := 0
def tw757184485089576901 : Nat := 0
def tw7954480204336814340 : Nat := 0
def tw17073511399995658361 : Nat := 0
def tw10287032363136398521 : Nat := 0
def tw4672783779188732987 : Nat := 0
def tw5665039626062813648 : Nat := 0
def tw15465669534449315206 : Nat := 0
def tw274422228593989270 : Nat := 0
def tw5462328968483592913 : Nat := 0
def tw17870026390384694711 : Nat := 0
def tw18429085778132943977 : Nat := 0
def tw519394295088069606 : Nat := 0
def tw12388821601563723227 : Nat := 0
def tw2743772954985944434 : Nat := 0
def tw11604984133354459401 : Nat := 0
def tw1072776567708520277 : Nat := 0
def tw12987328260997707287 : Nat := 0
def tw15355807352939571192 : Nat := 0
def tw17603151198995882817 : Nat := 0
def tw3252922912128893831 : Nat := 0
def tw11635132933835517724 : Nat := 0
def tw5684931219918890381 : Nat := 0
def tw10896779897973121321 : Nat := 0
def tw15386544066794965493 : Nat := 0
def tw12187701158617969124 : Nat := 0
def tw14881326771198377308 : Nat := 0
def tw15022737760078277367 : Nat := 0
def tw14773901530356622866 : Nat := 0
def tw14860694461646575956 : Nat := 0
def tw11333936386498129549 : Nat := 0
def tw2054119818491298683 : Nat := 0
def tw14419626885634356837 : Nat := 0
def tw4525517010520821649 : Nat := 0
def tw7590355533109324264 : Nat := 0
def tw6661666649229367225 : Nat := 0
def tw17619037397039367760 : Nat := 0
def tw5260684169636644934 : Nat := 0
def tw1525858010988155343 : Nat := 0
def tw15750146106732050860 : Nat := 0
def tw3816156578990815197 : Nat := 0
def tw9416798668577745846 : Nat := 0
def tw1062679566646991351 : Nat := 0
def tw14532456876438906144 : Nat := 0
def tw7622641541943213991 : Nat := 0
def tw4470415475895107784 : Nat := 0
def tw9522454664865744048 : Nat := 0
def tw10192861050239315696 : Nat := 0
def tw13207814912874465586 : Nat := 0
def tw7141665405950245140 : Nat := 0
def tw11065532212844386183 : Nat := 0
def tw18059091929022961692 : Nat := 0
def tw11622388452815901767 : Nat := 0
def tw9080198521472712772 : Nat := 0
def tw3795694092607191418 : Nat := 0
def tw1364284410450043895 : Nat := 0
def tw17003424611684241925 : Nat := 0
def tw9142630558118534511 : Nat := 0
def tw3001268052790936477 : Nat := 0
def tw7592704083286041046 : Nat := 0
def tw18291758888862613397 : Nat := 0
def tw13218002054099545291 : Nat := 0
def tw9225795827644723020 : Nat := 0
def tw4697115242684808954 : Nat := 0
def tw16185821720651711749 : Nat := 0
def tw17505573610942145594 : Nat := 0
def tw9157147574446152591 : Nat := 0
def tw11040498482064419892 : Nat := 0
def tw16642368895770687966 : Nat := 0
def tw6601474359473581287 : Nat := 0
def tw2420871486874418432 : Nat := 0
def tw8365075834019136094 : Nat := 0
def tw17235689105349123781 : Nat := 0
def tw11555226104837232197 : Nat := 0
def tw15454526493609463139 : Nat := 0
def tw13747824621344066784 : Nat := 0
def tw9647273654849050308 : Nat := 0
def tw14649272739837347108 : Nat := 0
def tw8279685104714051069 : Nat := 0
def tw15071898780770075580 : Nat := 0
def tw11801973658260386868 : Nat := 0
def tw16590610760994750701 : Nat := 0
def tw7108732263253928065 : Nat := 0
def tw18107895398862944682 : Nat := 0
def tw3380872619269699270 : Nat := 0
def tw315654872920919679 : Nat := 0
def tw15036857828443132277 : Nat := 0
def tw11198121023186874310 : Nat := 0
def tw8664183231307245809 : Nat := 0
def tw12154250916667265674 : Nat := 0
def tw12950937841896379122 : Nat := 0
def tw9860770065734105708 : Nat := 0
def tw14464787155912203827 : Nat := 0
def tw11547324319915749085 : Nat := 0
def tw7434143168997405858 : Nat := 0
def tw18324337387883149542 : Nat := 0
def tw14595888684258376727 : Nat := 0
def tw15826353457364504745 : Nat := 0
def tw15085333725136674188 : Nat := 0
def tw4759214673860732546 : Nat := 0
def tw922994625040589326 : Nat := 0
def tw9813271905532167815 : Nat := 0
def tw7559303858258181231 : Nat := 0
def tw4477482679102968510 : Nat := 0
def tw15739671952411787864 : Nat := 0
def tw8426306080661371279 : Nat := 0
def tw7531180193019750969 : Nat := 0
def tw122447415566764906 : Nat := 0
def tw8993392229065579363 : Nat := 0
def tw195795030693405322 : Nat := 0
def tw2332277530909519383 : Nat := 0
def tw15196858521134651614 : Nat := 0
def tw11294479407531764038 : Nat := 0
def tw9089302323751737011 : Nat := 0
def tw3797399827905460914 : Nat := 0
def tw2364948158978030133 : Nat := 0
def tw15475513937776385390 : Nat := 0
def tw8352737210980554498 : Nat := 0
def tw15063792958884199763 : Nat := 0
def tw3785350583189922813 : Nat := 0
def tw2078685072847156557 : Nat := 0
def tw3052633106511874443 : Nat := 0
def tw8238653613098898046 : Nat := 0
def tw11734192753022157586 : Nat := 0
def tw14615172364670333441 : Nat := 0
def tw3934941312176470893 : Nat := 0
def tw10142649189161204239 : Nat := 0
def tw13489379048716647308 : Nat := 0
def tw4421276222268288872 : Nat := 0
def tw3192068993717713728 : Nat := 0
def tw7099881462960923114 : Nat := 0
def tw13388296225209166323 : Nat := 0
def tw13779603604681491707 : Nat := 0
def tw13791615242230254877 : Nat := 0
def tw6118854278362929595 : Nat := 0
def tw7382614869356046455 : Nat := 0
def tw8782506752477726929 : Nat := 0
def tw8561191585111431736 : Nat := 0
def tw15313148741251386495 : Nat := 0
def tw1097254149989894197 : Nat := 0
def tw5713367216189619862 : Nat := 0
def tw9903031631235780685 : Nat := 0
def tw15931862957202140888 : Nat := 0
def tw3378831642995724778 : Nat := 0
def tw4566281564918853636 : Nat := 0
def tw12098475333090592800 : Nat := 0
def tw8065148948275920777 : Nat := 0
def tw15729178468980040456 : Nat := 0
def tw10276862913555923118 : Nat := 0
def tw14952985381934096067 : Nat := 0
def tw7572186034592590138 : Nat := 0
def tw3109435165139258702 : Nat := 0
def tw11207006951674175857 : Nat := 0
def tw3203017262865575591 : Nat := 0
def tw4056802807076552476 : Nat := 0
def tw17895434761752043036 : Nat := 0
def tw1112824440007181034 : Nat := 0
def tw3511422058357084795 : Nat := 0
def tw7699141828535806810 : Nat := 0
def tw9930952158656300014 : Nat := 0
def tw14111428613203661471 : Nat := 0
def tw14595443970476518805 : Nat := 0
def tw8482772244171592306 : Nat := 0
def tw1547435086176672218 : Nat := 0
def tw17356772107472753432 : Nat := 0
def tw14857843148136615192 : Nat := 0
def tw7462679278109609322 : Nat := 0
def tw3837409296037585320 : Nat := 0
def tw827643045489804865 : Nat := 0
def tw7926554160895889734 : Nat := 0
def tw11467263153257686941 : Nat := 0
def tw16604257891495267321 : Nat := 0
def tw2986398419838434941 : Nat := 0
def tw14286140387660591286 : Nat := 0
def tw5764139547269703593 : Nat := 0
def tw1300232639688458578 : Nat := 0
def tw182706612472914769 : Nat := 0
def tw6156789323900252167 : Nat := 0
def tw9221559380162706854 : Nat := 0
def tw14383552736219377628 : Nat := 0
def tw15667608800869116727 : Nat := 0
def tw3445029722679806554 : Nat := 0
def tw17669469650686774934 : Nat := 0
def tw1854159624959828746 : Nat := 0
def tw11135730688084317113 : Nat := 0
def tw6645950198466532499 : Nat := 0
def tw18431313529146636502 : Nat := 0
def tw1942447765276703375 : Nat := 0
def tw14631014336681568261 : Nat := 0
def tw5575742278307534539 : Nat := 0
def tw10287923267951107018 : Nat := 0
def tw5051999553966906882 : Nat := 0
def tw12411409548822246212 : Nat := 0
def tw3057497731003112727 : Nat := 0
def tw12889679295066041862 : Nat := 0
def tw2233646990061432257 : Nat := 0
def tw14984238042480341610 : Nat := 0
def tw8897655542848686113 : Nat := 0
def tw10912223734626672254 : Nat := 0
def tw17501360814638754591 : Nat := 0
def tw5535610334258512241 : Nat := 0
def tw14745695504093621644 : Nat := 0
def tw13202296620285929401 : Nat := 0
def tw444513505989706364 : Nat := 0
def tw2124013861573720112 : Nat := 0
def tw4471332404566159716 : Nat := 0
def tw18318019049510389445 : Nat := 0
def tw1381819234889340850 : Nat := 0
def tw1622539570125138640 : Nat := 0
def tw415956836896253265 : Nat := 0
def tw190782695081048532 : Nat := 0
def tw8021983242942090498 : Nat := 0
def tw18060997297692028641 : Nat := 0
def tw2516787601069354459 : Nat := 0
def tw10557695543374288220 : Nat := 0
def tw11378518405201062697 : Nat := 0
def tw2512314059852756703 : Nat := 0
def tw2486335650757059838 : Nat := 0
def tw9742527256213542290 : Nat := 0
def tw13259068674529813443 : Nat := 0
def tw9041004369760147810 : Nat := 0
def tw9685276497036930832 : Nat := 0
def tw7375451165696852941 : Nat := 0
def tw2339257465553949038 : Nat := 0
def tw18440313260062440531 : Nat := 0
def tw13823841959351171885 : Nat := 0
def tw16850049677196935086 : Nat := 0
def tw1935079208144358132 : Nat := 0
def tw17776902647332992548 : Nat := 0
def tw11967974378963409914 : Nat := 0
def tw1622176630166163553 : Nat := 0
def tw13169772758175679301 : Nat := 0
def tw4684259568871617848 : Nat := 0
def tw3875538787533612529 : Nat := 0
def tw8872971562275692305 : Nat := 0
def tw12299536868761350365 : Nat := 0
def tw6862664119822139415 : Nat := 0
def tw2544358953273474653 : Nat := 0
def tw1367464958846501079 : Nat := 0
def tw1130501921657190637 : Nat := 0
def tw15478765319311709608 : Nat := 0
def tw18445891395142703181 : Nat := 0
def tw1407191339584497894 : Nat := 0
def tw10392902402327513461 : Nat := 0
def tw15249901078618777828 : Nat := 0
def tw9441897205756405315 : Nat := 0
def tw13539097267977533682 : Nat := 0
def tw11635789301294874933 : Nat := 0
def tw11098401410459373 : Nat := 0
def tw16042007771371069648 : Nat := 0
def tw18098952012116281659 : Nat := 0
def tw12255363910889224138 : Nat := 0
def tw1302998401751008482 : Nat := 0
def tw12478521558668083005 : Nat := 0
def tw9735914270062581084 : Nat := 0
def tw15385006297070632530 : Nat := 0
def tw15176516688848646995 : Nat := 0
def tw7520219871427859265 : Nat := 0
def tw16977840202241541069 : Nat := 0
def tw14968024223923463943 : Nat := 0
def tw16193522702691763708 : Nat := 0
def tw3631214356767808011 : Nat := 0
def tw2565471070465445025 : Nat := 0
def tw7878212826097485102 : Nat := 0
def tw16539173351118896547 : Nat := 0
def tw2701288715958432945 : Nat := 0
def tw1101483851171809972 : Nat := 0
def tw11364125483590741874 : Nat := 0
def tw7411757837565952428 : Nat := 0
def tw17383418941116948321 : Nat := 0
def tw15847429130935804506 : Nat := 0
def tw5846358549920104134 : Nat := 0
def tw1060672001260465678 : Nat := 0
def tw11995366354696710394 : Nat := 0
def tw5447127633561833431 : Nat := 0
def tw5780003036461285019 : Nat := 0
def tw12674067359715925063 : Nat := 0
def tw3137759340263932903 : Nat := 0
def tw14757879582515970264 : Nat := 0
def tw15363191985822135473 : Nat := 0
def tw1927167936599213942 : Nat := 0
def tw8785048025014814690 : Nat := 0
def tw147637727450349622 : Nat := 0
def tw15491350702822494492 : Nat := 0
def tw12819182123208293406 : Nat := 0
def tw16091798016533464743 : Nat := 0
def tw5090606683162766431 : Nat := 0
def tw9978545458978061528 : Nat := 0
def tw9948129643602525245 : Nat := 0
def tw8738656274277320387 : Nat := 0
def tw17798159546774467110 : Nat := 0
def tw15205070423432741607 : Nat := 0
def tw12885222785537151344 : Nat := 0
def tw5288197817962158877 : Nat := 0
def tw13525660558564849081 : Nat := 0
def tw3095904846094740155 : Nat := 0
def tw4695062612638758771 : Nat := 0
def tw18312153048021786519 : Nat := 0
def tw15966321392601169393 : Nat := 0
def tw11481084043398174789 : Nat := 0
def tw18061738550143935991 : Nat := 0
def tw14615918374071073876 : Nat := 0
def tw15500156067684557316 : Nat := 0
def tw2494798118216105582 : Nat := 0
def tw18253419481082742936 : Nat := 0
def tw7705019884405071241 : Nat := 0
def tw6761001140503888058 : Nat := 0
def tw16671059954573049155 : Nat := 0
def tw17371594091537042422 : Nat := 0
def tw1888126496217355345 : Nat := 0
def tw3327921042046840273 : Nat := 0
def tw1437814026286406981 : Nat := 0
def tw8336525249766490876 : Nat := 0
def tw6894675358663505397 : Nat := 0
def tw10752348234888340854 : Nat := 0
def tw4201045237079298906 : Nat := 0
def tw10542538624731988056 : Nat := 0
def tw9581743721981034201 : Nat := 0
def tw1092678497517915801 : Nat := 0
def tw17827983004259545795 : Nat := 0
def tw6077802147499605176 : Nat := 0
def tw4419931600641966546 : Nat := 0
def tw16948698680372448294 : Nat := 0
def tw1980788649729784404 : Nat := 0
def tw13204204556050299817 : Nat := 0
def tw3723147078385702473 : Nat := 0
def tw10590523628755081123 : Nat := 0
def tw16985717206035528640 : Nat := 0
def tw11082868024073020521 : Nat := 0
def tw1398974599199595159 : Nat := 0
def tw6028388084890996405 : Nat := 0
def tw6506515658228745092 : Nat := 0
def tw17957734351577875435 : Nat := 0
def tw11484323019749007661 : Nat := 0
def tw16857741424558114499 : Nat := 0
def tw15171549609726962373 : Nat := 0
def tw6053874639686874178 : Nat := 0
def tw7979750286597893984 : Nat := 0
def tw10977787946621030402 : Nat := 0
def tw11020438932360910473 : Nat := 0
def tw1325970303309718207 : Nat := 0
def tw9486307785913114578 : Nat := 0
def tw15053636680689743584 : Nat := 0
def tw15863002740025603637 : Nat := 0
def tw3047298258654237533 : Nat := 0
def tw4704134054857129612 : Nat := 0
def tw6157603057494371602 : Nat := 0
def tw13315935861285895781 : Nat := 0
def tw469790016991653301 : Nat := 0
def tw2273219460015499050 : Nat := 0
def tw959869395773872696 : Nat := 0
def tw9574961270118390234 : Nat := 0
def tw16030490237464545650 : Nat := 0
def tw5377190958562386752 : Nat := 0
def tw16833270429302666913 : Nat := 0
def tw3311220553515295333 : Nat := 0
def tw2953101898153819154 : Nat := 0
def tw15079115524790408305 : Nat := 0
def tw15569011596122335113 : Nat := 0
def tw14990592657551916158 : Nat := 0
def tw10020323574383937256 : Nat := 0
def tw12780406750342626360 : Nat := 0
def tw10176818659618188200 : Nat := 0
def tw1993153257970921370 : Nat := 0
def tw10603827530348335709 : Nat := 0
def tw637731630659715592 : Nat := 0
def tw2721363190383810542 : Nat := 0
def tw11520867762307732154 : Nat := 0
def tw11112536008742270953 : Nat := 0
def tw14104636313244928952 : Nat := 0
def tw8630874410793224054 : Nat := 0
def tw13023800618288633403 : Nat := 0
def tw11311981517938559241 : Nat := 0
def tw5313405106054945792 : Nat := 0
def tw8421005658174030801 : Nat := 0
def tw16908579842765534282 : Nat := 0
def tw16554743522431263649 : Nat := 0
def tw1826659682526213498 : Nat := 0
def tw3430846102442025389 : Nat := 0
def tw12165570735163068576 : Nat := 0
def tw15954302838782570843 : Nat := 0
def tw4271446161902812793 : Nat := 0
def tw14046596554902506801 : Nat := 0
def tw8598477169631841468 : Nat := 0
def tw12531451362239952344 : Nat := 0
def tw7354594553037754222 : Nat := 0
def tw15186426480240411122 : Nat := 0
def tw8439837138211087074 : Nat := 0
def tw5325393084803857227 : Nat := 0
def tw14553923990175334525 : Nat := 0
def tw235651733834900672 : Nat := 0
def tw17111564859024012122 : Nat := 0
def tw11186471404449365066 : Nat := 0
def tw8160772304332997925 : Nat := 0
def tw9500862969519162888 : Nat := 0
def tw12884426939400076850 : Nat := 0
def tw17383199470659126334 : Nat := 0
def tw14937256322762594546 : Nat := 0
def tw8916852193721351284 : Nat := 0
def tw3965145944086121987 : Nat := 0
def tw13611558310195751276 : Nat := 0
def tw16861611691519038774 : Nat := 0
def tw13136293454298413383 : Nat := 0
def tw2702967210316903236 : Nat := 0
def tw6140500354845341146 : Nat := 0
def tw949756839049353744 : Nat := 0
def tw2417354232486624362 : Nat := 0
def tw15540248650167330740 : Nat := 0
def tw9664012367080398043 : Nat := 0
def tw11017782468503838804 : Nat := 0
def tw17845710309118516987 : Nat := 0
def tw2316642453784093670 : Nat := 0
def tw8531734898729218283 : Nat := 0
def tw6799412704637178436 : Nat := 0
def tw3157486248392550359 : Nat := 0
def tw34000019181255485 : Nat := 0
def tw1510398400254360411 : Nat := 0
def tw2678254035352831075 : Nat := 0
def tw15141545439245330139 : Nat := 0
def tw9132808333644436872 : Nat := 0
def tw13752932793426633130 : Nat := 0
def tw6767251540114256768 : Nat := 0
def tw15857182403481146801 : Nat := 0
def tw9880603565551532402 : Nat := 0
def tw7555240048034268903 : Nat := 0
def tw16902210219202250239 : Nat := 0
def tw3950985534088558065 : Nat := 0
def tw5631639867374550222 : Nat := 0
def tw7370593364392500101 : Nat := 0
def tw14045901322984159974 : Nat := 0
def tw4032860695804025853 : Nat := 0
def tw3370371130622033823 : Nat := 0
def tw17569596252802067146 : Nat := 0
def tw4978244351218416794 : Nat := 0
def tw7453526913563110041 : Nat := 0
def tw639036215934149820 : Nat := 0
def tw10103112317587307938 : Nat := 0
def tw15886575844222013774 : Nat := 0
def tw10640567614459553013 : Nat := 0
def tw16939023929908171926 : Nat := 0
def tw7457979272134062903 : Nat := 0
def tw9698500021491458128 : Nat := 0
def tw3629395856461014339 : Nat := 0
def tw11723270400107619332 : Nat := 0
def tw13798229182845035107 : Nat := 0
def tw4557564844534109611 : Nat := 0
def tw9965184101892382235 : Nat := 0
def tw12581489065485012592 : Nat := 0
def tw4285179007475928362 : Nat := 0
def tw16690119096182849076 : Nat := 0
def tw6388068347794854559 : Nat := 0
def tw12066776699572487825 : Nat := 0
def tw5283499491902523876 : Nat := 0
def tw10567112295371063785 : Nat := 0
def tw4289397752743982296 : Nat := 0
def tw8111998217939368371 : Nat := 0
def tw7892659628884661111 : Nat := 0
def tw1080746514887062826 : Nat := 0
def tw301356478796339270 : Nat := 0
def tw8641184261495621561 : Nat := 0
def tw7078468755263655036 : Nat := 0
def tw7209262607748050830 : Nat := 0
def tw14754560174557297167 : Nat := 0
def tw15252149806906777185 : Nat := 0
def tw6787937308569432636 : Nat := 0
def tw11836430094930866177 : Nat := 0
def tw8649464609622279356 : Nat := 0
def tw8704997887613659767 : Nat := 0
def tw14652158810382570924 : Nat := 0
def tw17081420161803417711 : Nat := 0
def tw1911415980398796868 : Nat := 0
def tw8071289766600675842 : Nat := 0
def tw16651602836825956427 : Nat := 0
def tw15118865505513873426 : Nat := 0
def tw4761734363558799185 : Nat := 0
def tw15042545843659744278 : Nat := 0
def tw17922009756666364717 : Nat := 0
def tw15078277601394017008 : Nat := 0
def tw6517243673779267913 : Nat := 0
def tw12848804922086352203 : Nat := 0
def tw9581361697867641492 : Nat := 0
def tw17583446992201299816 : Nat := 0
def tw1092695445075257595 : Nat := 0
def tw9122066257062424476 : Nat := 0
def tw15916278430713217726 : Nat := 0
def tw919150191052855556 : Nat := 0
def tw16672756300615934643 : Nat := 0
def tw8331008581474889751 : Nat := 0
def tw17770809610747808932 : Nat := 0
def tw8830251085995172383 : Nat := 0
def tw4817805243098721329 : Nat := 0
def tw4470285144468104467 : Nat := 0
def tw18391024884683722848 : Nat := 0
def tw16456189503195102126 : Nat := 0
def tw12347825513851519086 : Nat := 0
def tw12019561950843841536 : Nat := 0
def tw4334403848891178551 : Nat := 0
def tw3082369735459465566 : Nat := 0
def tw14131551087199798722 : Nat := 0
def tw13994477801077396509 : Nat := 0
def tw14613784475777676687 : Nat := 0
def tw17786970713124859597 : Nat := 0
def tw15379791480194994479 : Nat := 0
def tw425755059953963508 : Nat := 0
def tw13037886529235826215 : Nat := 0
def tw10241373435112273208 : Nat := 0
def tw5823323452344928815 : Nat := 0
def tw15712515604936598571 : Nat := 0
def tw2760414590063484170 : Nat := 0
def tw5494469209131380307 : Nat := 0
def tw5796141964131501008 : Nat := 0
def tw6011462755700728912 : Nat := 0
def tw4928236907104147115 : Nat := 0
def tw5267581335369551740 : Nat := 0
def tw2794289188932393945 : Nat := 0
def tw6103457110331450515 : Nat := 0
def tw13552556385430099763 : Nat := 0
def tw8219299668168273048 : Nat := 0
def tw5998183442076235946 : Nat := 0
def tw9073481695114913371 : Nat := 0
def tw4213962273716656615 : Nat := 0
def tw14970503903796941454 : Nat := 0
def tw3246682960941385734 : Nat := 0
def tw16966443644704589833 : Nat := 0
def tw1754996846935365537 : Nat := 0
def tw13113791807384355798 : Nat := 0
def tw8544081626391262019 : Nat := 0
def tw3751624321094889960 : Nat := 0
def tw14590640968971674197 : Nat := 0
def tw2305649327065835138 : Nat := 0
def tw15954168110760424166 : Nat := 0
def tw3333637951693818870 : Nat := 0
def tw12170471239886303184 : Nat := 0
def tw3871529871758975456 : Nat := 0
def tw11552374206112654451 : Nat := 0
def tw16187343469327149924 : Nat := 0
def tw7270130288901813796 : Nat := 0
def tw7089076422574629904 : Nat := 0
def tw17616580214202332361 : Nat := 0
def tw14905249954667395645 : Nat := 0
def tw18361395586397229447 : Nat := 0
def tw5891024775056796202 : Nat := 0
def tw18068798781134144888 : Nat := 0
def tw10587151915904575082 : Nat := 0
def tw18142588272855643470 : Nat := 0
def tw13272847847457590439 : Nat := 0
def tw7952402891630470280 : Nat := 0
def tw14148393499436636633 : Nat := 0
def tw4332737329327483101 : Nat := 0
def tw9891647733383213164 : Nat := 0
def tw13464151362156871708 : Nat := 0
def tw993147340291717134 : Nat := 0
def tw4241979592687084445 : Nat := 0
def tw17213097328997343337 : Nat := 0
def tw3413911143890187622 : Nat := 0
def tw6887937752952842093 : Nat := 0
def tw2054896405998255472 : Nat := 0
def tw10976259510849588471 : Nat := 0
def tw8372580772580076217 : Nat := 0
def tw2803356235193767775 : Nat := 0
def tw12221051226562352532 : Nat := 0
def tw11228704287610972524 : Nat := 0
def tw11468979725917904985 : Nat := 0
def tw8799325123495639282 : Nat := 0
def tw14241340144272920653 : Nat := 0
def tw4009978770627511998 : Nat := 0
def tw10093338082965871715 : Nat := 0
def tw3850293548045355927 : Nat := 0
def tw5245339746770096350 : Nat := 0
def tw12995018526856988949 : Nat := 0
def tw14124469883427808580 : Nat := 0
def tw14137191283587758205 : Nat := 0
def tw8343966305102508670 : Nat := 0
def tw4685010165546257630 : Nat := 0
def tw6526257798353595572 : Nat := 0
def tw15311406099472323330 : Nat := 0
def tw14818925732731208412 : Nat := 0
def tw3772919564447561309 : Nat := 0
def tw8296724731713214099 : Nat := 0
def tw10535062883360342926 : Nat := 0
def tw2279321485535828314 : Nat := 0
def tw932177198412101390 : Nat := 0
def tw15023785530159092968 : Nat := 0
def tw10599874973046238470 : Nat := 0
def tw4027278558148145774 : Nat := 0
def tw9760069024654618386 : Nat := 0
def tw1674216096713443408 : Nat := 0
def tw6233737782903706944 : Nat := 0
def tw11575059156371384042 : Nat := 0
def tw13829008619886122898 : Nat := 0
def tw726775112719251692 : Nat := 0
def tw12608772570779809369 : Nat := 0
def tw14341597031216809436 : Nat := 0
def tw14423802438204851523 : Nat := 0
def tw4287235441274451325 : Nat := 0
def tw339270010050915828 : Nat := 0
def tw10344107343831195541 : Nat := 0
def tw7443459818636748721 : Nat := 0
def tw1836485870788265519 : Nat := 0
def tw16313734769750406147 : Nat := 0
def tw14574362840730362947 : Nat := 0
def tw143133666611665060 : Nat := 0
def tw17507698323863375692 : Nat := 0
def tw1054871267467831100 : Nat := 0
def tw17870426038006502227 : Nat := 0
def tw10438785575077614682 : Nat := 0
def tw14696613527945814989 : Nat := 0
def tw11313129169238011491 : Nat := 0
def tw17238220764497240467 : Nat := 0
def tw16571737559005289306 : Nat := 0
def tw12044279020548535706 : Nat := 0
def tw14199303163989668759 : Nat := 0
def tw9020103803685968109 : Nat := 0
def tw10906284159731069475 : Nat := 0
def tw13797495180710811759 : Nat := 0
def tw2449345292534663558 : Nat := 0
def tw9631046731984090586 : Nat := 0
def tw17065949906218062382 : Nat := 0
def tw7450955481769224781 : Nat := 0
def tw5981272712525985683 : Nat := 0
def tw10057538198021162853 : Nat := 0
def tw12280677863482683032 : Nat := 0
def tw12923720369344045791 : Nat := 0
def tw17411162743661972055 : Nat := 0
def tw18377382722486006459 : Nat := 0
def tw516851250660394716 : Nat := 0
def tw7240500770656568299 : Nat := 0
def tw4238243901321772676 : Nat := 0
def tw14778759894907059249 : Nat := 0
def tw4590138042584803825 : Nat := 0
def tw16798912772167095014 : Nat := 0
def tw3888295701349564977 : Nat := 0
def tw388924325214437901 : Nat := 0
def tw2162960490996767491 : Nat := 0
def tw5883452888288019267 : Nat := 0
def tw16489104796721349732 : Nat := 0
def tw12543050366068753524 : Nat := 0
def tw6791542524359733020 : Nat := 0
def tw2989572274943054364 : Nat := 0
def tw3712822360694186611 : Nat := 0
def tw8933109379997433233 : Nat := 0
def tw426494173755700155 : Nat := 0
def tw6139573751226301785 : Nat := 0
def tw3080733788990965340 : Nat := 0
def tw10888861311698803396 : Nat := 0
def tw13278271212615187475 : Nat := 0
def tw4196208268839085299 : Nat := 0
def tw4266630455449885177 : Nat := 0
def tw11782070502915751524 : Nat := 0
def tw1807594679256638694 : Nat := 0
def tw3209172545308627930 : Nat := 0
def tw699224937933356496 : Nat := 0
def tw616402850480560918 : Nat := 0
def tw6864389197168488239 : Nat := 0
def tw6456850183886013739 : Nat := 0
def tw7808166062650794409 : Nat := 0
def tw10757126576962130594 : Nat := 0
def tw10305960430334157279 : Nat := 0
def tw4092473519285868446 : Nat := 0
def tw8550031745029460488 : Nat := 0
def tw17865557929637795236 : Nat := 0
def tw8143016657103959005 : Nat := 0
def tw9606134585117065580 : Nat := 0
def tw11429032091897779116 : Nat := 0
def tw8465493049064737207 : Nat := 0
def tw11509017123330116676 : Nat := 0
def tw12765386077397031229 : Nat := 0
def tw6425737200283522606 : Nat := 0
def tw15401071320173196229 : Nat := 0
def tw9869382942662294814 : Nat := 0
def tw10999094295757258941 : Nat := 0
def tw14810457460868782018 : Nat := 0
def tw14122358420906492661 : Nat := 0
def tw10311839242827921447 : Nat := 0
def tw7886130976695404618 : Nat := 0
def tw6369946995608263089 : Nat := 0
def tw11529670348930826174 : Nat := 0
def tw7930016907036135839 : Nat := 0
def tw3574821666204766320 : Nat := 0
def tw1690293755593601984 : Nat := 0
def tw14290582274372926855 : Nat := 0
def tw14949551566062576940 : Nat := 0
def tw4381182002333620666 : Nat := 0
def tw432085850468382176 : Nat := 0
def tw496045148618873124 : Nat := 0
def tw13339816935315519660 : Nat := 0
def tw5102799994165116180 : Nat := 0
def tw11238997400490426214 : Nat := 0
def tw3625853148749385991 : Nat := 0
def tw6999380327450064152 : Nat := 0
def tw17522797415355407840 : Nat := 0
def tw14413844096385856333 : Nat := 0
def tw11832907365660890883 : Nat := 0
def tw561234275644482284 : Nat := 0
def tw16620760552565311156 : Nat := 0
def tw14921106074648995849 : Nat := 0
def tw4349276461979493889 : Nat := 0
def tw18235347254854038115 : Nat := 0
def tw7099810187654915908 : Nat := 0
def tw16589608408270219882 : Nat := 0
def tw11679480595111508103 : Nat := 0
def tw17546865297092237228 : Nat := 0
def tw6180167896896601600 : Nat := 0
def tw9824970501397858965 : Nat := 0
def tw17065429993499081829 : Nat := 0
def tw9542518609630913857 : Nat := 0
def tw2722193957091996863 : Nat := 0
def tw9719135616917423785 : Nat := 0
def tw9843938054302460204 : Nat := 0
def tw5026669306978608763 : Nat := 0
def tw2268192854651614548 : Nat := 0
def tw12440006641556392877 : Nat := 0
def tw6739632725326216369 : Nat := 0
def tw2250033218132307816 : Nat := 0
def tw17963116045443575449 : Nat := 0
def tw2260292585299369956 : Nat := 0
def tw15451383328867635558 : Nat := 0
def tw15858454938600045862 : Nat := 0
def tw9344907471094198541 : Nat := 0
def tw13796210453992872480 : Nat := 0
def tw16951933455389563463 : Nat := 0
def tw14260815920403421231 : Nat := 0
def tw2773859927531804643 : Nat := 0
def tw13255830755435741801 : Nat := 0
def tw941432595551383063 : Nat := 0
def tw11097192254201478780 : Nat := 0
def tw1277554720219118949 : Nat := 0
def tw10722777950263414458 : Nat := 0
def tw14683721500560030199 : Nat := 0
def tw1118970301903120970 : Nat := 0
def tw4484168763724656720 : Nat := 0
def tw1586084833710821450 : Nat := 0
def tw12391902269710214323 : Nat := 0
def tw1910906324870584515 : Nat := 0
def tw16539913644551576404 : Nat := 0
def tw11166306508173953339 : Nat := 0
def tw6671554266181660509 : Nat := 0
def tw7400101462954830180 : Nat := 0
def tw14721843968841347477 : Nat := 0
def tw4251913592033616217 : Nat := 0
def tw4027898548070991667 : Nat := 0
def tw13577035443575004825 : Nat := 0
def tw3501162070096705574 : Nat := 0
def tw644018981548301748 : Nat := 0
def tw7507562045692498813 : Nat := 0
def tw7667402203668609528 : Nat := 0
def tw6894077563144147207 : Nat := 0
def tw11296776065251645214 : Nat := 0
def tw8563350057491013870 : Nat := 0
def tw9686774956300507492 : Nat := 0
def tw6330994215195646600 : Nat := 0
def tw8143395938457312460 : Nat := 0
def tw7393050232659800323 : Nat := 0
def tw13335380656220422877 : Nat := 0
def tw12292389897964271276 : Nat := 0
def tw4394380127293502274 : Nat := 0
def tw5346055399223669452 : Nat := 0
def tw13854401158283521613 : Nat := 0
def tw12220810908781563748 : Nat := 0
def tw4254924054515809864 : Nat := 0
def tw1145283722805012134 : Nat := 0
def tw507337011820459414 : Nat := 0
def tw8972599871280479151 : Nat := 0
def tw16676912515555914653 : Nat := 0
def tw15188056033491352228 : Nat := 0
def tw15692639294981094194 : Nat := 0
def tw7956369205765450743 : Nat := 0
def tw15395447581855712479 : Nat := 0
def tw15697172760429703031 : Nat := 0
def tw2272002019821591761 : Nat := 0
def tw14407790479423692366 : Nat := 0
def tw7891593580541950667 : Nat := 0
def tw4748414651139878065 : Nat := 0
def tw11354331220673533762 : Nat := 0
def tw2914809998400699840 : Nat := 0
def tw15181084927995402425 : Nat := 0
def tw9157245997902162118 : Nat := 0
def tw10524907110986194601 : Nat := 0
def tw4166883540225692287 : Nat := 0
def tw16930680182632469916 : Nat := 0
def tw5170851872959713833 : Nat := 0
def tw16922350459563579749 : Nat := 0
def tw8573406638637062056 : Nat := 0
def tw17366927381470465555 : Nat := 0
def tw2285465765523125919 : Nat := 0
def tw5096014332710091946 : Nat := 0
def tw9996651349763782298 : Nat := 0
def tw3692483056474576197 : Nat := 0
def tw13081371526127655087 : Nat := 0
def tw3158449467552768882 : Nat := 0
def tw1736128982280953441 : Nat := 0
def tw12370430442854801891 : Nat := 0
def tw4140368165754906043 : Nat := 0
def tw2789328718033689324 : Nat := 0
def tw7343067833058176919 : Nat := 0
def tw13404336788297459189 : Nat := 0
def tw5957879553755873291 : Nat := 0
def tw15835860133690524554 : Nat := 0
def tw3102472748002774373 : Nat := 0
def tw17960546099226622074 : Nat := 0
def tw13286745042892468510 : Nat := 0
def tw11155491812486364722 : Nat := 0
def tw10434593514086126897 : Nat := 0
def tw16197845751871610210 : Nat := 0
def tw14721593455980701387 : Nat := 0
def tw14190289739666756403 : Nat := 0
def tw18202296139442221000 : Nat := 0
def tw5101102076167961189 : Nat := 0
def tw6787938201181792401 : Nat := 0
def tw8304089761737444189 : Nat := 0
def tw13218271232281313227 : Nat := 0
def tw4480865315204248969 : Nat := 0
def tw11637109104579629225 : Nat := 0
def tw4053459095267549028 : Nat := 0
def tw14238859084599139208 : Nat := 0
def tw1163174828852465489 : Nat := 0
def tw10606628894898382903 : Nat := 0
def tw9376814542181915896 : Nat := 0
def tw12598210425386395257 : Nat := 0
def tw10141394714874264051 : Nat := 0
def tw13484529412081425490 : Nat := 0
def tw5541869304474507605 : Nat := 0
def tw15556709673252070795 : Nat := 0
def tw18353899693867501943 : Nat := 0
def tw18240940176418278626 : Nat := 0
def tw12881556638146615811 : Nat := 0
def tw6925460132459853716 : Nat := 0
def tw17988659249784552973 : Nat := 0
def tw10891038656000874640 : Nat := 0
def tw8417321267416079340 : Nat := 0
def tw3184628652852329559 : Nat := 0
def tw9273538819394110944 : Nat := 0
def tw4156224184342744148 : Nat := 0
def tw3037619632372754992 : Nat := 0
def tw13927868120305294945 : Nat := 0
def tw12278595987975330131 : Nat := 0
def tw322402211271431814 : Nat := 0
def tw13781488116445180202 : Nat := 0
def tw8912509748438616385 : Nat := 0
def tw11559107079144233640 : Nat := 0
def tw8478729659611324042 : Nat := 0
def tw16603966957777723485 : Nat := 0
def tw9925873499620637794 : Nat := 0
def tw15592527065596934614 : Nat := 0
def tw4653604531566703792 : Nat := 0
def tw17536624288712821409 : Nat := 0
def tw10315385316168918350 : Nat := 0
def tw16804741633371612634 : Nat := 0
def tw9619825455690429143 : Nat := 0
def tw9655314451568210372 : Nat := 0
def tw14766575703816331988 : Nat := 0
def tw11453265748577026373 : Nat := 0
def tw5285848323547622252 : Nat := 0
def tw16371380628193025918 : Nat := 0
def tw2522416727710136543 : Nat := 0
def tw9854159006847477649 : Nat := 0
def tw12626517786116539750 : Nat := 0
def tw4915971165740242505 : Nat := 0
def tw3066148636423919132 : Nat := 0
def tw9476619503272505613 : Nat := 0
def tw6093576370931845613 : Nat := 0
def tw649101154430542343 : Nat := 0
def tw13317437137958064205 : Nat := 0
def tw11903355146447736865 : Nat := 0
def tw1081067910473329347 : Nat := 0
def tw8014897318354592241 : Nat := 0
def tw14319846527011663930 : Nat := 0
def tw2074632184997817448 : Nat := 0
def tw1617691085995865316 : Nat := 0
def tw7150114787102465986 : Nat := 0
def tw17589530036485455893 : Nat := 0
def tw17902991169089544222 : Nat := 0
def tw7412599598147482179 : Nat := 0
def tw11644646483552127436 : Nat := 0
def tw12356748504672122699 : Nat := 0
def tw17416209932534037876 : Nat := 0
def tw15690385161998066176 : Nat := 0
def tw7445298018804702908 : Nat := 0
def tw15617197807644933661 : Nat := 0
def tw4907531490670946199 : Nat := 0
def tw10488142735118497553 : Nat := 0
def tw11080170854593184376 : Nat := 0
def tw17237911141821369114 : Nat := 0
def tw14338498367781849040 : Nat := 0
def tw1409199782329548146 : Nat := 0
def tw4446441497124140897 : Nat := 0
def tw1657315170867224231 : Nat := 0
def tw1986374513958212529 : Nat := 0
def tw2830347036159418321 : Nat := 0
def tw16533052127209886358 : Nat := 0
def tw3952979060843168285 : Nat := 0
def tw5389717365338969414 : Nat := 0
def tw13485053851874044527 : Nat := 0
def tw981079949221653236 : Nat := 0
def tw8498574124332845020 : Nat := 0
def tw15886572739340184464 : Nat := 0
def tw3938459610674062130 : Nat := 0
def tw9001472010758851334 : Nat := 0
def tw5470743864856639758 : Nat := 0
def tw7037207929844233357 : Nat := 0
def tw10055363951945537952 : Nat := 0
def tw14508813591417100080 : Nat := 0
def tw6988728964699518610 : Nat := 0
def tw8109041345424842402 : Nat := 0
def tw11703200375581481410 : Nat := 0
def tw12664070149324714647 : Nat := 0
def tw10176843664405209369 : Nat := 0
def tw2042244789794223618 : Nat := 0
def tw6706439037503588462 : Nat := 0
def tw7311306643238837873 : Nat := 0
def tw2704531777027753605 : Nat := 0
def tw17500887065725016248 : Nat := 0
def tw17337161232610294245 : Nat := 0
def tw17564849070724063007 : Nat := 0
def tw3216035913628022158 : Nat := 0
def tw511995118749406379 : Nat := 0
def tw10606605722490412416 : Nat := 0
def tw5451978260937099577 : Nat := 0
def tw169309968652234706 : Nat := 0
def tw15051101943165666697 : Nat := 0
def tw4470991411298601985 : Nat := 0
def tw2162303982770066380 : Nat := 0
def tw12243295016536179110 : Nat := 0
def tw17044061121274424119 : Nat := 0
def tw11070827203213517596 : Nat := 0
def tw5803116218656932224 : Nat := 0
def tw9745745568102019943 : Nat := 0
def tw15764454750348879162 : Nat := 0
def tw11321750354234060886 : Nat := 0
def tw7521551930598998190 : Nat := 0
def tw10556588388826994137 : Nat := 0
def tw12459460761017705655 : Nat := 0
def tw2753006926461791460 : Nat := 0
def tw1052107017848444133 : Nat := 0
def tw16698376035991178027 : Nat := 0
def tw12607027915887983504 : Nat := 0
def tw2776655874736772339 : Nat := 0
def tw18264653152902654251 : Nat := 0
def tw8899203846836326539 : Nat := 0
def tw1495944907369950938 : Nat := 0
def tw17365632410875819870 : Nat := 0
def tw14675633861219703112 : Nat := 0
def tw233126431223375071 : Nat := 0
def tw5923056381152544760 : Nat := 0
def tw1606452282214691786 : Nat := 0
def tw14643367640729878765 : Nat := 0
def tw3647346459533840929 : Nat := 0
def tw12046108668597157458 : Nat := 0
def tw17064347900932755741 : Nat := 0
def tw3476905578461426154 : Nat := 0
def tw7419518340939549523 : Nat := 0
def tw15580932175679895333 : Nat := 0
def tw1113170294270813840 : Nat := 0
def tw15218834129848676802 : Nat := 0
def tw13857158386212960631 : Nat := 0
def tw403279215517528459 : Nat := 0
def tw2094511939061773674 : Nat := 0
def tw4497716659253351209 : Nat := 0
def tw16253774054769960915 : Nat := 0
def tw17382697753538138821 : Nat := 0
def tw275845407554362837 : Nat := 0
def tw13114358905822100982 : Nat := 0
def tw5066785864524260759 : Nat := 0
def tw9582159909763838239 : Nat := 0
def tw10020660614342936046 : Nat := 0
def tw6458598437217549622 : Nat := 0
def tw17583557908546808627 : Nat := 0
def tw9810566885004955132 : Nat := 0
def tw6229550916587624854 : Nat := 0
def tw2160457311808276360 : Nat := 0
def tw18178725976464850212 : Nat := 0
def tw12660017452428518309 : Nat := 0
def tw3739255309271965777 : Nat := 0
def tw7169311607559614380 : Nat := 0
def tw6543789594210838420 : Nat := 0
def tw12322249878713167517 : Nat := 0
def tw12253374813202987891 : Nat := 0
def tw6280777128554584187 : Nat := 0
def tw9681316564717870382 : Nat := 0
def tw11154226801616425452 : Nat := 0
def tw18438504625991160801 : Nat := 0
def tw11530009221017295089 : Nat := 0
def tw11249961186225427834 : Nat := 0
def tw10705148038035205730 : Nat := 0
def tw2470957716033136840 : Nat := 0
def tw2129177333984297901 : Nat := 0
def tw14118181772126710951 : Nat := 0
def tw13100674718066691501 : Nat := 0
def tw1724511505850707779 : Nat := 0
def tw6702951660314594875 : Nat := 0
def tw1733547168935974699 : Nat := 0
def tw3106216198888135674 : Nat := 0
def tw15599112334947884711 : Nat := 0
def tw7750809546773597721 : Nat := 0
def tw15276197165166348821 : Nat := 0
def tw3194752934737448565 : Nat := 0
def tw8043376042187627733 : Nat := 0
def tw6561054733488604267 : Nat := 0
def tw7685595853187256438 : Nat := 0
def tw9347360772559854961 : Nat := 0
def tw18403984939923029967 : Nat := 0
def tw17198805090123092989 : Nat := 0
def tw3897240402311608259 : Nat := 0
def tw16020792560962413898 : Nat := 0
def tw488733624105807826 : Nat := 0
def tw4052175792282045552 : Nat := 0
def tw7126657495670409327 : Nat := 0
def tw2256558387824168136 : Nat := 0
def tw15923267352245211236 : Nat := 0
def tw2846955024259295074 : Nat := 0
def tw9982107407920961434 : Nat := 0
def tw3552294255838497502 : Nat := 0
def tw1054612450273579109 : Nat := 0
def tw18018129524984162349 : Nat := 0
def tw3061483044836807482 : Nat := 0
def tw4595604965655581046 : Nat := 0
def tw13805580744493778053 : Nat := 0
def tw14569238289922965146 : Nat := 0
def tw2979085672454962783 : Nat := 0
def tw9863042559432556055 : Nat := 0
def tw6072746216334078343 : Nat := 0
def tw1830811117656264640 : Nat := 0
def tw5839939038965336116 : Nat := 0
def tw13732076871344874072 : Nat := 0
def tw12531537178162905940 : Nat := 0
def tw14709147252080806108 : Nat := 0
def tw9334457562680102890 : Nat := 0
def tw5356688478883603340 : Nat := 0
def tw8412134389445657048 : Nat := 0
def tw5829498537583230938 : Nat := 0
def tw18267134750898911554 : Nat := 0
def tw3194819436896434780 : Nat := 0
def tw11992176583710275822 : Nat := 0
def tw2390134064113544941 : Nat := 0
def tw1841504475297440792 : Nat := 0
def tw11891152108026194148 : Nat := 0
def tw2925856027391309259 : Nat := 0
def tw17203730526347673578 : Nat := 0
def tw7516581685172996287 : Nat := 0
def tw988664270255431756 : Nat := 0
def tw11250906425986770532 : Nat := 0
def tw5395134288401286190 : Nat := 0
def tw9142085414938755739 : Nat := 0
def tw12488729569720991132 : Nat := 0
def tw16737412912551070505 : Nat := 0
def tw9532094610652412147 : Nat := 0
def tw10748016703833196359 : Nat := 0
def tw17120083098378592700 : Nat := 0
def tw8084541408439938640 : Nat := 0
def tw4308380868004030340 : Nat := 0
def tw16251571370433594024 : Nat := 0
def tw631401805056703841 : Nat := 0
def tw17153005595630645893 : Nat := 0
def tw17915536716165238337 : Nat := 0
def tw17199251037473037535 : Nat := 0
def tw18109433485506948362 : Nat := 0
def tw11326839301076313233 : Nat := 0
def tw16761969814765382332 : Nat := 0
def tw12777742115522951030 : Nat := 0
def tw3665666540649244820 : Nat := 0
def tw9746236054742311530 : Nat := 0
def tw8255461499720816616 : Nat := 0
def tw9907339725277910464 : Nat := 0
def tw8352509981184412279 : Nat := 0
def tw17195304867443203899 : Nat := 0
def tw8181026632056583081 : Nat := 0
def tw12282710910192977364 : Nat := 0
def tw9649531744699365718 : Nat := 0
def tw10369816551855053266 : Nat := 0
def tw15595019652169345268 : Nat := 0
def tw5475089759125542838 : Nat := 0
def tw17219484870289119331 : Nat := 0
def tw51957992229725024 : Nat := 0
def tw2276879138201357553 : Nat := 0
def tw937190687147268063 : Nat := 0
def tw15431427233235836730 : Nat := 0
def tw5721940488701158146 : Nat := 0
def tw16468793980350866582 : Nat := 0
def tw9921396640444923309 : Nat := 0
def tw991562448755177800 : Nat := 0
def tw11347841798994118067 : Nat := 0
def tw6801147865681837519 : Nat := 0
def tw870186113963556204 : Nat := 0
def tw11597178112608921155 : Nat := 0
def tw7726324610786890336 : Nat := 0
def tw16607455711013326673 : Nat := 0
def tw9439858206075927813 : Nat := 0
def tw10669225959153730471 : Nat := 0
def tw5133594478802099713 : Nat := 0
def tw16697778080858101221 : Nat := 0
def tw11122330089324916229 : Nat := 0
def tw15330120617057200178 : Nat := 0
def tw9167761915489648602 : Nat := 0
def tw3170204985867066274 : Nat := 0
def tw7643193277394796552 : Nat := 0
def tw7394019833438847070 : Nat := 0
def tw6978774652052775050 : Nat := 0
def tw363784868190639157 : Nat := 0
def tw6164831797904727607 : Nat := 0
def tw2871883271328647799 : Nat := 0
def tw11350780429150641931 : Nat := 0
def tw9536366753969614393 : Nat := 0
def tw10193739008258210732 : Nat := 0
def tw14563082463747719213 : Nat := 0
def tw7264394463529919114 : Nat := 0
def tw8802539571175833068 : Nat := 0
def tw11144888968707402255 : Nat := 0
def tw7260800744436188314 : Nat := 0
def tw7407950538236137367 : Nat := 0
def tw13875836415184487498 : Nat := 0
def tw16624375142700762718 : Nat := 0
def tw8508006447934305580 : Nat := 0
def tw12725166314966503636 : Nat := 0
def tw18311778228967177843 : Nat := 0
def tw8674296621819555221 : Nat := 0
def tw3511571221158854526 : Nat := 0
def tw15511456804879305557 : Nat := 0
def tw18157026509657200134 : Nat := 0
def tw1771131778632615261 : Nat := 0
def tw5073306540865983314 : Nat := 0
def tw7326849518177567675 : Nat := 0
def tw12709337391482122317 : Nat := 0
def tw2446914377076603987 : Nat := 0
def tw11103738602099345601 : Nat := 0
def tw15513172453338607531 : Nat := 0
def tw6307946943322896896 : Nat := 0
def tw593270179385346407 : Nat := 0
def tw2622855481060209633 : Nat := 0
def tw5165950314857400096 : Nat := 0
def tw15989861004605099962 : Nat := 0
def tw1547902478258547198 : Nat := 0
def tw2019480538868776708 : Nat := 0
def tw742331397084470624 : Nat := 0
def tw1480920873243671927 : Nat := 0
def tw6082182705624539321 : Nat := 0
def tw12529337828972085693 : Nat := 0
def tw15238790391070846947 : Nat := 0
def tw13109440876774820432 : Nat := 0
def tw13874695076704446488 : Nat := 0
def tw2390883789500361179 : Nat := 0
def tw1133637397612816512 : Nat := 0
def tw16752567160153198172 : Nat := 0
def tw9335933032313172683 : Nat := 0
def tw9292628026440860771 : Nat := 0
def tw1891587960844289505 : Nat := 0
def tw205760838724923030 : Nat := 0
def tw449402547775187518 : Nat := 0
def tw5018177885037900420 : Nat := 0
def tw12791266310247380056 : Nat := 0
def tw2541998470624432526 : Nat := 0
def tw959369624397129028 : Nat := 0
def tw2271748797018181115 : Nat := 0
def tw1539161353737443675 : Nat := 0
def tw13711080681455037257 : Nat := 0
def tw1050161114921391313 : Nat := 0
def tw10360993485261542891 : Nat := 0
def tw11562456718689082056 : Nat := 0
def tw8614180508492960767 : Nat := 0
def tw10761690266636909280 : Nat := 0
def tw16300495959233848140 : Nat := 0
def tw4902965999983184864 : Nat := 0
def tw3376904365408078494 : Nat := 0
def tw13656643841140225042 : Nat := 0
def tw15101188626095701181 : Nat := 0
def tw17917441627143079240 : Nat := 0
def tw18047433987284509770 : Nat := 0
def tw17544694574743950466 : Nat := 0
def tw4073050949575764919 : Nat := 0
def tw2180039983991021673 : Nat := 0
def tw16439182303052165239 : Nat := 0
def tw6570041308138924035 : Nat := 0
def tw18164291459291004858 : Nat := 0
def tw16472600294066121344 : Nat := 0
def tw3285192085723179230 : Nat := 0
def tw14567432281744914576 : Nat := 0
def tw8200024766958557707 : Nat := 0
def tw18227088633862566735 : Nat := 0
def tw12753793388767408104 : Nat := 0
def tw15314005478044111922 : Nat := 0
def tw9595275538433552999 : Nat := 0
def tw3456240211807991968 : Nat := 0
def tw6815722037657212095 : Nat := 0
def tw12551510400445029902 : Nat := 0
def tw10886788829987139346 : Nat := 0
def tw5006729165030181885 : Nat := 0
def tw3037572598095363175 : Nat := 0
def tw5839382034618141035 : Nat := 0
def tw1055134362681586018 : Nat := 0
def tw6395891965583641241 : Nat := 0
def tw8392838197231643929 : Nat := 0
def tw13324722223031172935 : Nat := 0
def tw1929339308385248160 : Nat := 0
def tw10404302050068569980 : Nat := 0
def tw15368580148417244317 : Nat := 0
def tw1406578320510954813 : Nat := 0
def tw13911363540647213865 : Nat := 0
def tw4811117821097939458 : Nat := 0
def tw12622597558386158022 : Nat := 0
def tw17744446991793567797 : Nat := 0
def tw15774138757710215705 : Nat := 0
def tw16245687338763105153 : Nat := 0
def tw5080273668646857208 : Nat := 0
def tw10616360425453283169 : Nat := 0
def tw5548923574832715817 : Nat := 0
def tw14939033959223279256 : Nat := 0
def tw14159963436124783563 : Nat := 0
def tw1084683856498246374 : Nat := 0
def tw10655663499237881194 : Nat := 0
def tw14074467656480704887 : Nat := 0
def tw295468623812461358 : Nat := 0
def tw6562378810322333351 : Nat := 0
def tw4272228810110556803 : Nat := 0
def tw3969396289596848754 : Nat := 0
def tw14379448317971774754 : Nat := 0
def tw361368574519987375 : Nat := 0
def tw17795089646258933571 : Nat := 0
def tw6768832158019823915 : Nat := 0
def tw14954872208713607084 : Nat := 0
def tw15719727557320681539 : Nat := 0
def tw3868370776870815665 : Nat := 0
def tw15336988221610089501 : Nat := 0
def tw6318120690654240419 : Nat := 0
def tw10217460800278640215 : Nat := 0
def tw3047722831683061591 : Nat := 0
def tw423465118178189722 : Nat := 0
def tw13882800827841054581 : Nat := 0
def tw13287387360653976077 : Nat := 0
def tw6799362945028625745 : Nat := 0
def tw2399758783448861340 : Nat := 0
def tw9396237824746641977 : Nat := 0
def tw12204886122747293266 : Nat := 0
def tw15215626419268780901 : Nat := 0
def tw11018730367840566815 : Nat := 0
def tw5536813231358614600 : Nat := 0
def tw11432057015149907595 : Nat := 0
def tw2227497143592751856 : Nat := 0
def tw9361238083024067714 : Nat := 0
def tw15830025201331545320 : Nat := 0
def tw15560676173735211865 : Nat := 0
def tw4145395852719743567 : Nat := 0
def tw6326295984160764810 : Nat := 0
def tw5044069204619179391 : Nat := 0
def tw14817769018860899691 : Nat := 0
def tw6342821750625047609 : Nat := 0
def tw879209415576819392 : Nat := 0
def tw11774493743364505469 : Nat := 0
def tw11668017757964863221 : Nat := 0
def tw2912114707888632768 : Nat := 0
def tw5586405255368441375 : Nat := 0
def tw18171560590513655244 : Nat := 0
def tw406185185186611485 : Nat := 0
def tw11798250934504906181 : Nat := 0
def tw12366805129042088835 : Nat := 0
def tw6778297572206798416 : Nat := 0
def tw13201498968335583445 : Nat := 0
def tw12172792845177175638 : Nat := 0
def tw47247907918237694 : Nat := 0
def tw12431790347860345092 : Nat := 0
def tw5454208134076054638 : Nat := 0
def tw1726127850844417791 : Nat := 0
def tw4579952822200858024 : Nat := 0
def tw5801297739617431507 : Nat := 0
def tw875021811465191191 : Nat := 0
def tw8618448979016996270 : Nat := 0
def tw3229532047944807452 : Nat := 0
def tw17181679640100913878 : Nat := 0
def tw6252413598621913286 : Nat := 0
def tw7269057573576482704 : Nat := 0
def tw8418158405168443250 : Nat := 0
def tw819722054764104646 : Nat := 0
def tw13129957993780182625 : Nat := 0
def tw13442985146440178454 : Nat := 0
def tw3889124841781134121 : Nat := 0
def tw12867044860376203688 : Nat := 0
def tw16271447912197894644 : Nat := 0
def tw1276982320327326961 : Nat := 0
def tw6873189689384790957 : Nat := 0
def tw11123003363208515323 : Nat := 0
def tw6225444086986305470 : Nat := 0
def tw3836900803349197105 : Nat := 0
def tw9108088882246803795 : Nat := 0
def tw17555799213929598023 : Nat := 0
def tw7150245324349158276 : Nat := 0
def tw10841708734486493513 : Nat := 0
def tw1893332836284009931 : Nat := 0
def tw17869666941439732501 : Nat := 0
def tw4926192928399195813 : Nat := 0
def tw5812758624324635080 : Nat := 0
def tw404970947882387640 : Nat := 0
def tw2001171761987608284 : Nat := 0
def tw1863868756290802117 : Nat := 0
def tw2740302859875516395 : Nat := 0
def tw10541540286289835482 : Nat := 0
def tw9300547363915223530 : Nat := 0
def tw9114508153081482004 : Nat := 0
def tw13465142447619773070 : Nat := 0
def tw5128942303939046828 : Nat := 0
def tw7712357171248746826 : Nat := 0
def tw17178700258633125152 : Nat := 0
def tw632960398640245244 : Nat := 0
def tw9138616236746665974 : Nat := 0
def tw8555081609014906817 : Nat := 0
def tw922063589492989093 : Nat := 0
def tw10331520749232199976 : Nat := 0
def tw2347420571176956312 : Nat := 0
def tw4122633206317199257 : Nat := 0
def tw4988530807884964966 : Nat := 0
def tw4137060138427826655 : Nat := 0
def tw4844660351312223354 : Nat := 0
def tw16384812389651845289 : Nat := 0
def tw17151298974982883813 : Nat := 0
def tw2843882484123641817 : Nat := 0
def tw12241123026582112105 : Nat := 0
def tw3655963197891907422 : Nat := 0
def tw98662046225126664 : Nat := 0
def tw4428899797908894722 : Nat := 0
def tw15195429890749288199 : Nat := 0
def tw10606752521505934225 : Nat := 0
def tw14688934329410959732 : Nat := 0
def tw2647178910477984529 : Nat := 0
def tw11646216042513815855 : Nat := 0
def tw14173438514276364292 : Nat := 0
def tw15120485631315038374 : Nat := 0
def tw1013447056827424514 : Nat := 0
def tw7357071508513779046 : Nat := 0
def tw12707229595657597009 : Nat := 0
def tw9665226456351396912 : Nat := 0
def tw2421347946184416045 : Nat := 0
def tw12090262618641615007 : Nat := 0
def tw12840657062338714159 : Nat := 0
def tw2722149976693013471 : Nat := 0
def tw16359760651596827232 : Nat := 0
def tw1920582870228940558 : Nat := 0
def tw11097122300105966503 : Nat := 0
def tw3604929243715827026 : Nat := 0
def tw4597267003603510684 : Nat := 0
def tw10889816204668930533 : Nat := 0
def tw17615564225290160575 : Nat := 0
def tw438904583463389921 : Nat := 0
def tw4721262145678888886 : Nat := 0
def tw13795491568658328932 : Nat := 0
def tw7127831711460417262 : Nat := 0
def tw4458040471358537134 : Nat := 0
def tw9984104242288112118 : Nat := 0
def tw13092402203818817036 : Nat := 0
def tw13506522857471500771 : Nat := 0
def tw1881636189486087157 : Nat := 0
def tw5177361679482646019 : Nat := 0
def tw13444500445333214081 : Nat := 0
def tw880131009787013611 : Nat := 0
def tw3687169312230968068 : Nat := 0
def tw11102222419015333890 : Nat := 0
def tw3699909976903884003 : Nat := 0
def tw17261870352394139504 : Nat := 0
def tw14810781577160904748 : Nat := 0
def tw13520612357456695619 : Nat := 0
def tw12115064078170499194 : Nat := 0
def tw2734431308489833268 : Nat := 0
def tw5188090705758422466 : Nat := 0
def tw8241399410468090097 : Nat := 0
def tw11823050154467540456 : Nat := 0
def tw12966007699547606902 : Nat := 0
def tw3748237708380178879 : Nat := 0
def tw11596726938797458360 : Nat := 0
def tw11042028088945284702 : Nat := 0
def tw5885688332275946133 : Nat := 0
def tw5912270776052745445 : Nat := 0
def tw6800376376622895283 : Nat := 0
def tw15430639987486849679 : Nat := 0
def tw938133021989801977 : Nat := 0
def tw4323438592053445218 : Nat := 0
def tw5121985410093329727 : Nat := 0
def tw11237704611821005719 : Nat := 0
def tw14119587616784348946 : Nat := 0
def tw10263713639757947437 : Nat := 0
def tw16691629046681286403 : Nat := 0
def tw915991212630125032 : Nat := 0
def tw2084584892290955141 : Nat := 0
def tw12528397393408883668 : Nat := 0
def tw9075308487384829109 : Nat := 0
def tw6623080116944136257 : Nat := 0
def tw1220983095116110743 : Nat := 0
def tw15346558939611566491 : Nat := 0
def tw8639731229313158133 : Nat := 0
def tw735585119790379974 : Nat := 0
def tw4920047424855423078 : Nat := 0
def tw16146926269243904768 : Nat := 0
def tw12714359801600024677 : Nat := 0
def tw5097362448671414233 : Nat := 0
def tw1739124594186441036 : Nat := 0
def tw1284304392063092841 : Nat := 0
def tw5131970775308347259 : Nat := 0
def tw5205396466909443633 : Nat := 0
def tw12414341959911047517 : Nat := 0
def tw7794325738590052469 : Nat := 0
def tw11570428010982462652 : Nat := 0
def tw17544686022573900451 : Nat := 0
def tw2189126740700104008 : Nat := 0
def tw3860245892794485353 : Nat := 0
def tw10347493447950313347 : Nat := 0
def tw18017861008850947957 : Nat := 0
def tw16194017560189466137 : Nat := 0
def tw4714065773126494738 : Nat := 0
def tw4011910702215581583 : Nat := 0
def tw2401684129902363362 : Nat := 0
def tw14955712498169415522 : Nat := 0
def tw14857862099598520307 : Nat := 0
def tw3476142826541980471 : Nat := 0
def tw3239959657284951045 : Nat := 0
def tw5474045394691948088 : Nat := 0
def tw6177040729802043053 : Nat := 0
def tw2727431114059599791 : Nat := 0
def tw10033321664106790587 : Nat := 0
def tw11327743928881044120 : Nat := 0
def tw16187835220718334114 : Nat := 0
def tw12996994315610929803 : Nat := 0
def tw3397719275092866829 : Nat := 0
def tw3307568766950321995 : Nat := 0
def tw15789065702052406304 : Nat := 0
def tw14430470096072255459 : Nat := 0
def tw11000427162107705192 : Nat := 0
def tw12879477954399747629 : Nat := 0
def tw6063702565776622552 : Nat := 0
def tw895351768743001832 : Nat := 0
def tw6385209168768375700 : Nat := 0
def tw6409769702016557584 : Nat := 0
def tw10475631659140664264 : Nat := 0
def tw5684646068279199071 : Nat := 0
def tw12775595670454498024 : Nat := 0
def tw9460675018325627364 : Nat := 0
def tw13738552106573946196 : Nat := 0
def tw2586306237750435348 : Nat := 0
def tw7839234575935642728 : Nat := 0
def tw18201005915734989423 : Nat := 0
def tw14388521552464102796 : Nat := 0
def tw6557718713969824041 : Nat := 0
def tw13569629288972547667 : Nat := 0
def tw4041991119873859612 : Nat := 0
def tw8089607705213124279 : Nat := 0
def tw15439056478818230156 : Nat := 0
def tw3950472763511092158 : Nat := 0
def tw151524901272465873 : Nat := 0
def tw8462276525142075751 : Nat := 0
def tw5482357316962684550 : Nat := 0
def tw8759650617688379639 : Nat := 0
def tw16554172509761872823 : Nat := 0
def tw18037208782315755950 : Nat := 0
def tw7996240299813442923 : Nat := 0
def tw7330430095653425454 : Nat := 0
def tw9449577935405058959 : Nat := 0
def tw2228493333085326797 : Nat := 0
def tw12534273359060125082 : Nat := 0
def tw11577027588024822490 : Nat := 0
def tw11285240609452123637 : Nat := 0
def tw4657961693129508535 : Nat := 0
def tw3625260874527323396 : Nat := 0
def tw14183081939848559094 : Nat := 0
def tw577586631250657991 : Nat := 0
def tw13434486185931187599 : Nat := 0
def tw12200482946925879089 : Nat := 0
def tw13244892940931037928 : Nat := 0
def tw5439852358585891383 : Nat := 0
def tw13754534490078914707 : Nat := 0
def tw8386099309471074715 : Nat := 0
def tw14009363384185717143 : Nat := 0
def tw12102257300653520693 : Nat := 0
def tw9445597342321298324 : Nat := 0
def tw9192932301171092364 : Nat := 0
def tw16819614135301675425 : Nat := 0
def tw6266998929818165998 : Nat := 0
def tw14287009158889001232 : Nat := 0
def tw14983588151377217801 : Nat := 0
def tw5701866742135658361 : Nat := 0
def tw9264562679396111211 : Nat := 0
def tw11850396418720833876 : Nat := 0
def tw5206380278682435507 : Nat := 0
def tw8951948005007223857 : Nat := 0
def tw10482535815598985823 : Nat := 0
def tw355284595296599575 : Nat := 0
def tw5202327334324583853 : Nat := 0
def tw282063576036593580 : Nat := 0
def tw17565022276883618093 : Nat := 0
def tw13764470053580375960 : Nat := 0
def tw15896598611218964348 : Nat := 0
def tw12449299907917739532 : Nat := 0
def tw5377794189520071753 : Nat := 0
def tw2679490650650959003 : Nat := 0
def tw15925280086809430769 : Nat := 0
def tw11481494664205981726 : Nat := 0
def tw12748696897920407664 : Nat := 0
def tw1845177086373234044 : Nat := 0
def tw12675915556954669518 : Nat := 0
def tw6541689383730841230 : Nat := 0
def tw10842087711905429202 : Nat := 0
def tw2850178133521474526 : Nat := 0
def tw6607597901884499658 : Nat := 0
def tw3212049371643206104 : Nat := 0
def tw6037095496484764427 : Nat := 0
def tw2636853294664818947 : Nat := 0
def tw16677672716149880096 : Nat := 0
def tw2745507958850885728 : Nat := 0
def tw9525934536058420908 : Nat := 0
def tw8051745447689904804 : Nat := 0
def tw14682935120136189616 : Nat := 0
def tw14293501501368673823 : Nat := 0
def tw17810007334312669536 : Nat := 0
def tw13165350156328839549 : Nat := 0
def tw11449258178179703149 : Nat := 0
def tw14907870881489092207 : Nat := 0
def tw4601768483841469158 : Nat := 0
def tw14834888234761398127 : Nat := 0
def tw1556552349610694414 : Nat := 0
def tw2382090435295524469 : Nat := 0
def tw7573738297880842790 : Nat := 0
def tw2009308097683029351 : Nat := 0
def tw11843276235113836516 : Nat := 0
def tw16070047298243030669 : Nat := 0
def tw1150217964234979821 : Nat := 0
def tw11418154344138001519 : Nat := 0
def tw15535272533506356993 : Nat := 0
def tw16739201667206945900 : Nat := 0
def tw12723534384434204805 : Nat := 0
def tw18173382926646835970 : Nat := 0
def tw11490987997137496535 : Nat := 0
def tw12715712799401638498 : Nat := 0
def tw11769940244056556693 : Nat := 0
def tw4107076626128460513 : Nat := 0
def tw14251343560878433965 : Nat := 0
def tw3486761382122377959 : Nat := 0
def tw12773046874435267890 : Nat := 0
def tw11031875710033072596 : Nat := 0
def tw16351298504564563761 : Nat := 0
def tw6613158545744762681 : Nat := 0
def tw11261103416949283890 : Nat := 0
def tw9416496421645821568 : Nat := 0
def tw4168183384966809573 : Nat := 0
def tw5168938483806018447 : Nat := 0
def tw11525769350743987234 : Nat := 0
def tw18150961432956906193 : Nat := 0
def tw12423574124051140635 : Nat := 0
def tw14558730266685025398 : Nat := 0
def tw4237819926354554615 : Nat := 0
def tw11454301618636360103 : Nat := 0
def tw8571356142228198696 : Nat := 0
def tw8950620808034992111 : Nat := 0
def tw6780769143540940476 : Nat := 0
def tw6663662755374989598 : Nat := 0
def tw7592622517579499535 : Nat := 0
def tw3117876760861884086 : Nat := 0
def tw4492639592228039636 : Nat := 0
def tw1629926054802731181 : Nat := 0
def tw8359782935335651051 : Nat := 0
def tw13442251017071987976 : Nat := 0
def tw5912175332295663651 : Nat := 0
def tw10607426280379867526 : Nat := 0
def tw2825693448565360833 : Nat := 0
def tw2972706994110991000 : Nat := 0
def tw4383598140007342880 : Nat := 0
def tw3108234107048473689 : Nat := 0
def tw13547345008195913238 : Nat := 0
def tw13899258717175937858 : Nat := 0
def tw316585559574028300 : Nat := 0
def tw11175876515179475089 : Nat := 0
def tw15940592053499730432 : Nat := 0
def tw17541290176716315170 : Nat := 0
def tw3928076822776818825 : Nat := 0
def tw14707835044043321954 : Nat := 0
def tw18072463161422229524 : Nat := 0
def tw9037446762264231272 : Nat := 0
def tw9025273190156244543 : Nat := 0
def tw12964314579074887491 : Nat := 0
def tw8084738162522201069 : Nat := 0
def tw984286296013232374 : Nat := 0
def tw4458499673487862048 : Nat := 0
def tw7500205615799548466 : Nat := 0
def tw10083404163005097737 : Nat := 0
def tw15674115954029544285 : Nat := 0
def tw4749731089393769101 : Nat := 0
def tw7558057600573067714 : Nat := 0
def tw10496016702727287840 : Nat := 0
def tw12833402535330673145 : Nat := 0
def tw2872470514170158882 : Nat := 0
def tw7835588029920701819 : Nat := 0
def tw1015188311434327586 : Nat := 0
def tw699452915353719408 : Nat := 0
def tw5096476334208754020 : Nat := 0
def tw12473729939691664092 : Nat := 0
def tw12338142058554992126 : Nat := 0
def tw15143194758926111610 : Nat := 0
def tw12753378330474023633 : Nat := 0
def tw10291622240779924029 : Nat := 0
def tw15287798625599435399 : Nat := 0
def tw13676952708339745219 : Nat := 0
def tw3664053839875375148 : Nat := 0
def tw4563661663031028199 : Nat := 0
def tw18365306392382208882 : Nat := 0
def tw17944855765243393571 : Nat := 0
def tw2072798537073008432 : Nat := 0
def tw3949923194317752001 : Nat := 0
def tw11779097607027719909 : Nat := 0
def tw12891757786627662516 : Nat := 0
def tw9444526842592243851 : Nat := 0
def tw14514757314338732884 : Nat := 0
def tw8442803923020249456 : Nat := 0
def tw9089425958600551685 : Nat := 0
def tw18285949380436896851 : Nat := 0
def tw7426778805519728346 : Nat := 0
def tw1252689684296224716 : Nat := 0
def tw15837918015825004661 : Nat := 0
def tw17969752343870999952 : Nat := 0
def tw886767193462354597 : Nat := 0
def tw2215951730371132925 : Nat := 0
def tw14570328813394661905 : Nat := 0
def tw14478740360339738510 : Nat := 0
def tw4574510955267631225 : Nat := 0
def tw18077184218790872083 : Nat := 0
def tw5854611815290314869 : Nat := 0
def tw2521729217648502505 : Nat := 0
def tw13244149100038513390 : Nat := 0
def tw6124386111222404097 : Nat := 0
def tw13518453913367535119 : Nat := 0
def tw15239326192779582143 : Nat := 0
def tw17621640245027929709 : Nat := 0
def tw5810384399029251275 : Nat := 0
def tw16522435688546009313 : Nat := 0
def tw12258894174141604569 : Nat := 0
def tw13033943507448705573 : Nat := 0
def tw14311345171666223930 : Nat := 0
def tw4867515794430252201 : Nat := 0
def tw557833227399789635 : Nat := 0
def tw4350028578318928848 : Nat := 0
def tw4034198990968899855 : Nat := 0
def tw13230277687509389693 : Nat := 0
def tw7805536657237572275 : Nat := 0
def tw16260651644007651910 : Nat := 0
def tw4497746318430154967 : Nat := 0
def tw9327008753969595922 : Nat := 0
def tw5996570191942218908 : Nat := 0
def tw5742825140516390483 : Nat := 0
def tw7782820747500492442 : Nat := 0
def tw10430890561821443632 : Nat := 0
def tw14611803953251330097 : Nat := 0
def tw7346457593791195838 : Nat := 0
def tw10674765394839998656 : Nat := 0
def tw12062896566667629678 : Nat := 0
def tw7054909361687154555 : Nat := 0
def tw5009636020846357548 : Nat := 0
def tw13903467827525533551 : Nat := 0
def tw1571309591383437693 : Nat := 0
def tw8107340974579312073 : Nat := 0
def tw9646928773220770908 : Nat := 0
def tw13370702210907044577 : Nat := 0
def tw15107513278034196099 : Nat := 0
def tw12793793142334364371 : Nat := 0
def tw10284728996251820825 : Nat := 0
def tw1490140157189965469 : Nat := 0
def tw16544787955462900702 : Nat := 0
def tw6033598535947671662 : Nat := 0
def tw9825898965460416328 : Nat := 0
def tw5471359604264089923 : Nat := 0
def tw7512329820078543472 : Nat := 0
def tw165785917359685194 : Nat := 0
def tw3901760008027099105 : Nat := 0
def tw793172591766448946 : Nat := 0
def tw504149832737224861 : Nat := 0
def tw181741326246700881 : Nat := 0
def tw8194137861474439512 : Nat := 0
def tw12881920539997504673 : Nat := 0
def tw12863200503673193141 : Nat := 0
def tw17610317085596047247 : Nat := 0
def tw14053281010692544661 : Nat := 0
def tw7001138712502303028 : Nat := 0
def tw7772536195754035197 : Nat := 0
def tw16001589288110125628 : Nat := 0
def tw12797595180968289630 : Nat := 0
def tw11056338762765355543 : Nat := 0
def tw3544168197535963265 : Nat := 0
def tw16955940603688868129 : Nat := 0
def tw2734389693560482827 : Nat := 0
def tw1080684823248553157 : Nat := 0
def tw1486049025644120915 : Nat := 0
def tw177818982284215856 : Nat := 0
def tw14055729860868617682 : Nat := 0
def tw1763443978324856155 : Nat := 0
def tw517092495157448628 : Nat := 0
def tw951692923045990702 : Nat := 0
def tw11974038875862348510 : Nat := 0
def tw1830180607784483941 : Nat := 0
def tw12334858286545108048 : Nat := 0
def tw6800836983222448256 : Nat := 0
def tw7184668211163340265 : Nat := 0
def tw15589376522446499623 : Nat := 0
def tw12058490989605842570 : Nat := 0
def tw10674413092229449305 : Nat := 0
def tw5602756966545049349 : Nat := 0
def tw7778539866126741272 : Nat := 0
def tw13319492804502898824 : Nat := 0
def tw13846406017921342209 : Nat := 0
def tw18307440332622130241 : Nat := 0
def tw15755605842886576694 : Nat := 0
def tw6546832537674409174 : Nat := 0
def tw870575335140125237 : Nat := 0
def tw7378094320745318433 : Nat := 0
def tw1827841304886797384 : Nat := 0
def tw17873662635967529157 : Nat := 0
def tw10880652022179301849 : Nat := 0
def tw3058790447763596348 : Nat := 0
def tw13083315451081970467 : Nat := 0
def tw3457004222046833934 : Nat := 0
def tw10280462593442017560 : Nat := 0
def tw5791854859605247624 : Nat := 0
def tw17186702451988643300 : Nat := 0
def tw17011654660562613557 : Nat := 0
def tw7116960220532633173 : Nat := 0
def tw17726194174272310393 : Nat := 0
def tw766349307851744489 : Nat := 0
def tw1444419351568775022 : Nat := 0
def tw16207225487312408342 : Nat := 0
def tw6980224341855833770 : Nat := 0
def tw3136302808475067886 : Nat := 0
def tw4305518899487482600 : Nat := 0
def tw12820105003715898192 : Nat := 0
def tw15292178412237229268 : Nat := 0
def tw8774629041996653669 : Nat := 0
def tw6130401927696639362 : Nat := 0
def tw18428257002857486133 : Nat := 0
def tw9263111530117558090 : Nat := 0
def tw4959397609802049935 : Nat := 0
def tw11135104436287853158 : Nat := 0
def tw3396941754625007146 : Nat := 0
def tw5591463632953899371 : Nat := 0
def tw3714007347081460263 : Nat := 0
def tw8764955952077463218 : Nat := 0
def tw1340550399916252888 : Nat := 0
def tw4768195541676820567 : Nat := 0
def tw11202739013165558886 : Nat := 0
def tw10008054463496475593 : Nat := 0
def tw6089387475151595714 : Nat := 0
def tw12634910255079295458 : Nat := 0
def tw134512741773145602 : Nat := 0
def tw17627093852268002892 : Nat := 0
def tw15045927395840190785 : Nat := 0
def tw11042047466786242770 : Nat := 0
def tw2778962460335869802 : Nat := 0
def tw1508745193608434189 : Nat := 0
def tw13812703866668813443 : Nat := 0
def tw8514585956247292685 : Nat := 0
def tw17714742144712199723 : Nat := 0
def tw935619727699993967 : Nat := 0
def tw12631069046039327270 : Nat := 0
def tw7311160868769570557 : Nat := 0
def tw13265030913932295651 : Nat := 0
def tw1407606121694264609 : Nat := 0
def tw12940451409063270849 : Nat := 0
def tw9602683847222565678 : Nat := 0
def tw9117318076488736367 : Nat := 0
def tw8637720524527135209 : Nat := 0
def tw15591479995718433456 : Nat := 0
def tw11738402655702261448 : Nat := 0
def tw6057732373663646341 : Nat := 0
def tw17348775160904773790 : Nat := 0
def tw16118496470991841106 : Nat := 0
def tw16412405837669353609 : Nat := 0
def tw16994366614529300745 : Nat := 0
def tw4809745380146529746 : Nat := 0
def tw1076737793094870161 : Nat := 0
def tw1116950139951660144 : Nat := 0
def tw9420919619506565788 : Nat := 0
def tw8501264980741488668 : Nat := 0
def tw16586156636927721220 : Nat := 0
def tw4618273994489901298 : Nat := 0
def tw8278133525220893077 : Nat := 0
def tw5745850037027341305 : Nat := 0
def tw3671764431287702529 : Nat := 0
def tw1586728602055661838 : Nat := 0
def tw1505531137743820107 : Nat := 0
def tw9864648981271982236 : Nat := 0
def tw6264243556242589757 : Nat := 0
def tw1132031116223456183 : Nat := 0
def tw7395384824935246247 : Nat := 0
def tw14333405816363174090 : Nat := 0
def tw909622173590532128 : Nat := 0
def tw35986523037088244 : Nat := 0
def tw10600341527652437373 : Nat := 0
def tw11760011149925850467 : Nat := 0
def tw14169588447340085619 : Nat := 0
def tw6157162988253885678 : Nat := 0
def tw17505605604240672307 : Nat := 0
def tw5212266627648728666 : Nat := 0
def tw2694670813242188339 : Nat := 0
def tw12973906183545294124 : Nat := 0
def tw17753547098759332339 : Nat := 0
def tw500396715355207505 : Nat := 0
def tw11371648488247681751 : Nat := 0
def tw1210545782244528311 : Nat := 0
def tw5822072151749638343 : Nat := 0
def tw2623565730821242659 : Nat := 0
def tw11636827849894323770 : Nat := 0
def tw5604686269494720255 : Nat := 0
def tw9157154945500803701 : Nat := 0
def tw6738033170218926263 : Nat := 0
def tw1632155933921907830 : Nat := 0
def tw12611104916477846412 : Nat := 0
def tw10752636736402316064 : Nat := 0
def tw7418558074231647659 : Nat := 0
def tw7801242164525901857 : Nat := 0
def tw5457944825424802272 : Nat := 0
def tw7485804024587962407 : Nat := 0
def tw12996630115263496072 : Nat := 0
def tw5857517831458089383 : Nat := 0
def tw391483072605009293 : Nat := 0
def tw14145254830809382125 : Nat := 0
def tw10921147392881159952 : Nat := 0
def tw576852939803675634 : Nat := 0
def tw10013319439387508358 : Nat := 0
def tw15994127054204873492 : Nat := 0
def tw16042003923011428146 : Nat := 0
def tw13319529036526223510 : Nat := 0
def tw2202967701402978991 : Nat := 0
def tw1286288035482547318 : Nat := 0
def tw17148259956374089716 : Nat := 0
def tw16473459101853798682 : Nat := 0
def tw9874800387338428701 : Nat := 0
def tw8542841549968378685 : Nat := 0
def tw14852807514468586018 : Nat := 0
def tw12467045038717088902 : Nat := 0
def tw494892874758428263 : Nat := 0
def tw10370094449567849177 : Nat := 0
def tw16779226581105701605 : Nat := 0
def tw5179458680573734702 : Nat := 0
def tw1706385410328233295 : Nat := 0
def tw16474716901353827605 : Nat := 0
def tw191433321443082527 : Nat := 0
def tw8074944814536241103 : Nat := 0
def tw12644020933000929506 : Nat := 0
def tw5262060455851336591 : Nat := 0
def tw891645262265875284 : Nat := 0
def tw5372597536689254520 : Nat := 0
def tw8677585843779722003 : Nat := 0
def tw12123502998878979012 : Nat := 0
def tw5706832135419524303 : Nat := 0
def tw7935702621228919749 : Nat := 0
def tw17405157899246444340 : Nat := 0
def tw17960501316699269249 : Nat := 0
def tw8579316178380481138 : Nat := 0
def tw7995270427417506044 : Nat := 0
def tw3099031509004019143 : Nat := 0
def tw18075684541142044428 : Nat := 0
def tw15403221191162124859 : Nat := 0
def tw15675090888511781766 : Nat := 0
def tw9478513740000541708 : Nat := 0
def tw9679107466020967120 : Nat := 0
def tw14716297716565645163 : Nat := 0
def tw5248404263587089625 : Nat := 0
def tw3287088274459788167 : Nat := 0
def tw14810812977528045922 : Nat := 0
def tw4917006547793992345 : Nat := 0
def tw10674594934991152251 : Nat := 0
def tw11962216876863761237 : Nat := 0
def tw6372011536134272165 : Nat := 0
def tw13127792840711916405 : Nat := 0
def tw12386111100427957215 : Nat := 0
def tw17948997134872167816 : Nat := 0
def tw13019138887102844902 : Nat := 0
def tw15308556062363316097 : Nat := 0
def tw12900435478189388932 : Nat := 0
def tw12211976097617617915 : Nat := 0
def tw15581204207931574195 : Nat := 0
def tw2419172799405363958 : Nat := 0
def tw3414932530120754270 : Nat := 0
def tw1372541016156763185 : Nat := 0
def tw395904011346357204 : Nat := 0
def tw10066708111555880835 : Nat := 0
def tw9869580044731120931 : Nat := 0
def tw3209661240791617230 : Nat := 0
def tw10560325658548292419 : Nat := 0
def tw11177772142506878344 : Nat := 0
def tw14009282614036147958 : Nat := 0
def tw10486649497045249692 : Nat := 0
def tw2373724096265261627 : Nat := 0
def tw9547927967696148712 : Nat := 0
def tw5896182231503019163 : Nat := 0
def tw14847573921596336363 : Nat := 0
def tw12568371097802399567 : Nat := 0
def tw16948989366238931134 : Nat := 0
def tw7382086333576411816 : Nat := 0
def tw16793321841311418864 : Nat := 0
def tw7769368252101534447 : Nat := 0
def tw16161824033669368610 : Nat := 0
def tw11055230140626141601 : Nat := 0
def tw837680560795069519 : Nat := 0
def tw16286537459615426945 : Nat := 0
def tw6235306076730982667 : Nat := 0
def tw16590499139139190383 : Nat := 0
def tw15723545672322995259 : Nat := 0
def tw2372179167893864802 : Nat := 0
def tw9821838405610452284 : Nat := 0
def tw3857714310295555078 : Nat := 0
def tw10760957655248435051 : Nat := 0
def tw15121970376620794915 : Nat := 0
def tw4222885068455872842 : Nat := 0
def tw4434938514015340143 : Nat := 0
def tw8117914281112768115 : Nat := 0
def tw7173355233433412838 : Nat := 0
def tw14734002302119326894 : Nat := 0
def tw14763644413182682023 : Nat := 0
def tw6552003187936044333 : Nat := 0
def tw4395549790101055151 : Nat := 0
def tw886210135374451216 : Nat := 0
def tw2039527873366151418 : Nat := 0
def tw3612236818887093825 : Nat := 0
def tw14773925619842775947 : Nat := 0
def tw6083287167735912650 : Nat := 0
def tw10295786762526009994 : Nat := 0
def tw13316919111028108644 : Nat := 0
def tw5354961052564616730 : Nat := 0
def tw4720207528692167817 : Nat := 0
def tw18327722015590107122 : Nat := 0
def tw2789447843207104217 : Nat := 0
def tw7709490697022196670 : Nat := 0
def tw4333909870709961785 : Nat := 0
def tw1067287838234714982 : Nat := 0
def tw8072142046833096976 : Nat := 0
def tw1646020612657028863 : Nat := 0
def tw1296708788213045534 : Nat := 0
def tw6640269061114604875 : Nat := 0
def tw6778026165152096446 : Nat := 0
def tw1524860052601709186 : Nat := 0
def tw13585749611844055820 : Nat := 0
def tw5523746957198720005 : Nat := 0
def tw4926772603600853106 : Nat := 0
def tw17104519639885311411 : Nat := 0
def tw6239102230579816451 : Nat := 0
def tw4292447808729553248 : Nat := 0
def tw8304595503378820152 : Nat := 0
def tw4863614361359951877 : Nat := 0
def tw5999817477054948070 : Nat := 0
def tw4959111130988686279 : Nat := 0
def tw14715871647150771880 : Nat := 0
def tw18122327321511213085 : Nat := 0
def tw15826149530540667076 : Nat := 0
def tw18171585856488732154 : Nat := 0
def tw15084514474029285289 : Nat := 0
def tw6753353250166382681 : Nat := 0
def tw11949785131653290261 : Nat := 0
def tw13818454974804085606 : Nat := 0
def tw3632958849196169318 : Nat := 0
def tw6707934025307051129 : Nat := 0
def tw12914049031264531752 : Nat := 0
def tw3889724280229148369 : Nat := 0
def tw8722248349743019157 : Nat := 0
def tw16962454190777109947 : Nat := 0
def tw9828377116357041955 : Nat := 0
def tw725614284083933436 : Nat := 0
def tw7021466403599281163 : Nat := 0
def tw8997565454093364851 : Nat := 0
def tw3282123047266415609 : Nat := 0
def tw8762818660367279109 : Nat := 0
def tw8591301161315296368 : Nat := 0
def tw9051093787608896885 : Nat := 0
def tw7995684152964496625 : Nat := 0
def tw7399842067562704556 : Nat := 0
def tw15749040161578440897 : Nat := 0
def tw8048058547692231168 : Nat := 0
def tw3884606536596496036 : Nat := 0
def tw14811505413688804818 : Nat := 0
def tw6640491486792405244 : Nat := 0
def tw11189204897296394670 : Nat := 0
def tw12938648257524965593 : Nat := 0
def tw11997247615862067507 : Nat := 0
def tw13744349771416424350 : Nat := 0
def tw15862958436784109551 : Nat := 0
def tw6669159429367451581 : Nat := 0
def tw3444444829555691045 : Nat := 0
def tw9270628162575015361 : Nat := 0
def tw17320588390719992908 : Nat := 0
def tw12475897180906274676 : Nat := 0
def tw2831886538808819495 : Nat := 0
def tw13607679903968864131 : Nat := 0
def tw805012917580362418 : Nat := 0
def tw14276592944012289662 : Nat := 0
def tw17878882872891097611 : Nat := 0
def tw6399030653167652038 : Nat := 0
def tw12079225763984632074 : Nat := 0
def tw8297685915549321016 : Nat := 0
def tw16025643408393264615 : Nat := 0
def tw12338503134112146716 : Nat := 0
def tw3720574839557385977 : Nat := 0
def tw17532832989028768149 : Nat := 0
def tw12838980628385010961 : Nat := 0
def tw6647979619322420094 : Nat := 0
def tw14958463064350783113 : Nat := 0
def tw3652331452750286628 : Nat := 0
def tw9938533703515338651 : Nat := 0
def tw535275184159589970 : Nat := 0
def tw2029459077108535819 : Nat := 0
def tw13584801137673920241 : Nat := 0
def tw657408453456298659 : Nat := 0
def tw12738801394006945330 : Nat := 0
def tw5103959326930439156 : Nat := 0
def tw16277725995707319785 : Nat := 0
def tw18173809017500174688 : Nat := 0
def tw12527107003939916453 : Nat := 0
def tw3004420195490258905 : Nat := 0
def tw5938286431746615854 : Nat := 0
def tw5522059907247356208 : Nat := 0
def tw6364866299791549717 : Nat := 0
def tw13397831251656761367 : Nat := 0
def tw3008923064730877986 : Nat := 0
def tw3437914223547021505 : Nat := 0
def tw8753226190967690972 : Nat := 0
def tw10566491498918833576 : Nat := 0
def tw15133312709383907236 : Nat := 0
def tw3091610165749068253 : Nat := 0
def tw6229633488785164174 : Nat := 0
def tw5109194248764642607 : Nat := 0
def tw6152740440208313396 : Nat := 0
def tw15572803431994322059 : Nat := 0
def tw4544275382037675181 : Nat := 0
def tw1738876319132338976 : Nat := 0
def tw2948554226514511228 : Nat := 0
def tw7179326390788053312 : Nat := 0
def tw4961294970014175587 : Nat := 0
def tw3064282358676522249 : Nat := 0
def tw9563876233024643276 : Nat := 0
def tw13631681177910428846 : Nat := 0
def tw129451529610981206 : Nat := 0
def tw11246660019847511874 : Nat := 0
def tw12551803490774104102 : Nat := 0
def tw5428417753150933433 : Nat := 0
def tw13021096540050377922 : Nat := 0
def tw741451196350013550 : Nat := 0
def tw6895272857875526293 : Nat := 0
def tw13270963421875456537 : Nat := 0
def tw4403412606471888259 : Nat := 0
def tw10820524975910301483 : Nat := 0
def tw10268481525656824011 : Nat := 0
def tw4618859254652998369 : Nat := 0
def tw3100142815876519847 : Nat := 0
def tw1474947965994254435 : Nat := 0
def tw8736243024306734412 : Nat := 0
def tw5651306746437490792 : Nat := 0
def tw8752384012776538023 : Nat := 0
def tw9827357751565284415 : Nat := 0
def tw8377713664061623588 : Nat := 0
def tw7345004240310063553 : Nat := 0
def tw10300341862209839919 : Nat := 0
def tw15544690915466236553 : Nat := 0
def tw4244780281602713381 : Nat := 0
def tw10725792463178101426 : Nat := 0
def tw8433628433232895791 : Nat := 0
def tw17717470614170857577 : Nat := 0
def tw8161959513294143075 : Nat := 0
def tw16866451937062058523 : Nat := 0
def tw18361778851167677559 : Nat := 0
def tw17030453528415071093 : Nat := 0
def tw5758781522148341078 : Nat := 0
def tw82144389391618041 : Nat := 0
def tw15934226610716535590 : Nat := 0
def tw5348919770279221550 : Nat := 0
def tw2312560303071968717 : Nat := 0
def tw5885590404369260410 : Nat := 0
def tw399618176073469056 : Nat := 0
def tw16023300587405864944 : Nat := 0
def tw2730814738021448420 : Nat := 0
def tw1664050988681246766 : Nat := 0
def tw3002214131590475997 : Nat := 0
def tw16200714608455285482 : Nat := 0
def tw17228590501539790827 : Nat := 0
def tw5093262466124418702 : Nat := 0
def tw9388682709139645285 : Nat := 0
def tw3151976267066224975 : Nat := 0
def tw9976966740175140081 : Nat := 0
def tw7200310315422274537 : Nat := 0
def tw12095885998667269676 : Nat := 0
def tw16729423377980599043 : Nat := 0
def tw2798344170982848162 : Nat := 0
def tw5932905211019976229 : Nat := 0
def tw2676028425396634938 : Nat := 0
def tw8339080044862434364 : Nat := 0
def tw10812665887378658432 : Nat := 0
def tw16513343033840777711 : Nat := 0
def tw7995413475050551259 : Nat := 0
def tw7878675323011983908 : Nat := 0
def tw4987013035382789907 : Nat := 0
def tw7830443374343359264 : Nat := 0
def tw14069928733329212854 : Nat := 0
def tw12126026441881529172 : Nat := 0
def tw10686144806483373999 : Nat := 0
def tw12219563127974259928 : Nat := 0
def tw14933498701378023717 : Nat := 0
def tw3544970812448564443 : Nat := 0
def tw11369097580907806641 : Nat := 0
def tw3625046902050559889 : Nat := 0
def tw17251032274865153125 : Nat := 0
def tw10689563164102980295 : Nat := 0
def tw16802907279493052377 : Nat := 0
def tw202859751637549574 : Nat := 0
def tw15426383879937699038 : Nat := 0
def tw6611803434055212414 : Nat := 0
def tw15089710879528248332 : Nat := 0
def tw859853065063199778 : Nat := 0
def tw16232369589898703433 : Nat := 0
def tw3756146211349537845 : Nat := 0
def tw6318613749419059459 : Nat := 0
def tw14205684701834969557 : Nat := 0
def tw3610233055208521764 : Nat := 0
def tw7648246764484406066 : Nat := 0
def tw11221558373035973309 : Nat := 0
def tw11156136899848063763 : Nat := 0
def tw15652266706478082543 : Nat := 0
def tw2332118261510749859 : Nat := 0
def tw2439036603179262958 : Nat := 0
def tw2673871639928079369 : Nat := 0
def tw18014371142424907127 : Nat := 0
def tw8896302209425665387 : Nat := 0
def tw10711423535282720391 : Nat := 0
def tw7966144241830934398 : Nat := 0
def tw1845289034416791250 : Nat := 0
def tw7837098523661411115 : Nat := 0
def tw6434392219687917755 : Nat := 0
def tw89309087850294634 : Nat := 0
def tw17301708600873973139 : Nat := 0
def tw12043839826945805284 : Nat := 0
def tw9059145253062472907 : Nat := 0
def tw6449249220522731899 : Nat := 0
def tw15772853390359741410 : Nat := 0
def tw14042906009301715296 : Nat := 0
def tw15921090113974119595 : Nat := 0
def tw13015061938844240089 : Nat := 0
def tw9064819721750573620 : Nat := 0
def tw9420253044677676226 : Nat := 0
def tw3386156482211362224 : Nat := 0
def tw11631219826616023830 : Nat := 0
def tw14232305371015769186 : Nat := 0
def tw8725447620992727648 : Nat := 0
def tw7660734864451744033 : Nat := 0
def tw8700479886098829129 : Nat := 0
def tw7072313383311911438 : Nat := 0
def tw11113152692487102537 : Nat := 0
def tw8637340420646067562 : Nat := 0
def tw8768920653432877595 : Nat := 0
def tw3524852651621797964 : Nat := 0
def tw8153665989784921931 : Nat := 0
def tw5393741149516545892 : Nat := 0
def tw4329753719510868942 : Nat := 0
def tw2396983630046964519 : Nat := 0
def tw8867411815897212457 : Nat := 0
def tw16888381568447111002 : Nat := 0
def tw16670568639207812336 : Nat := 0
def tw4652581173880307751 : Nat := 0
def tw12281541213464446173 : Nat := 0
def tw7741867499938462620 : Nat := 0
def tw15055556092364706367 : Nat := 0
def tw856440546461083337 : Nat := 0
def tw4041156896168791291 : Nat := 0
def tw2110648855050861356 : Nat := 0
def tw2531752066089293182 : Nat := 0
def tw8239450763980425672 : Nat := 0
def tw13351293861304893998 : Nat := 0
def tw14017511601002479917 : Nat := 0
def tw3672885118456368178 : Nat := 0
def tw17616457525019776839 : Nat := 0
def tw1292832406291463212 : Nat := 0
def tw16545121767294304367 : Nat := 0
def tw10388724340566467447 : Nat := 0
def tw2404894266966775500 : Nat := 0
def tw10137318432117241836 : Nat := 0
def tw9231241319904537908 : Nat := 0
def tw16798115959312266787 : Nat := 0
def tw4341176176273444038 : Nat := 0
def tw3642772171358361708 : Nat := 0
def tw4417518691379863392 : Nat := 0
def tw13109831332258956623 : Nat := 0
def tw15940085292568297274 : Nat := 0
def tw6338038847231347246 : Nat := 0
def tw7136820706417596771 : Nat := 0
def tw5732055428510497736 : Nat := 0
def tw589168958230594255 : Nat := 0
def tw8063182545151544061 : Nat := 0
def tw3432976064988458024 : Nat := 0
def tw7774563147210111799 : Nat := 0
def tw16971953584103407472 : Nat := 0
def tw1200821545981824891 : Nat := 0
def tw17173413383996363349 : Nat := 0
def tw981276871144410175 : Nat := 0
def tw15627965665205443514 : Nat := 0
def tw16779815654887066799 : Nat := 0
def tw3102657587111595228 : Nat := 0
def tw14167610777392558671 : Nat := 0
def tw17883648641000889188 : Nat := 0
def tw16365699894962323237 : Nat := 0
def tw8238940658373846465 : Nat := 0
def tw4990364798720537725 : Nat := 0
def tw10937618347764973492 : Nat := 0
def tw7304083365106322354 : Nat := 0
def tw14777243317288676396 : Nat := 0
def tw2570502724588447223 : Nat := 0
def tw6072567234542507231 : Nat := 0
def tw8170287586619857513 : Nat := 0
def tw10139584160922092559 : Nat := 0
def tw1375128267203219227 : Nat := 0
def tw5872574139872929649 : Nat := 0
def tw12213260867689768745 : Nat := 0
def tw15573202988127524674 : Nat := 0
def tw456517903429488944 : Nat := 0
def tw17127488870939498756 : Nat := 0
def tw11566380423460999900 : Nat := 0
def tw858951851756230680 : Nat := 0
def tw5546070739971100751 : Nat := 0
def tw3357416593543297522 : Nat := 0
def tw17777630046809148089 : Nat := 0
def tw2056178208975743058 : Nat := 0
def tw16888319214493645677 : Nat := 0
def tw3869591248331285769 : Nat := 0
def tw1225087635139347992 : Nat := 0
def tw1860810341389415694 : Nat := 0
def tw9704902046064827180 : Nat := 0
def tw13882370012449908278 : Nat := 0
def tw6954597990929336027 : Nat := 0
def tw9541446185475146068 : Nat := 0
def tw5698363645985308496 : Nat := 0
def tw3417952081584292038 : Nat := 0
def tw9257289705571010138 : Nat := 0
def tw14508829403244552300 : Nat := 0
def tw7919140103150080368 : Nat := 0
def tw11230064818460043209 : Nat := 0
def tw1759313900672320017 : Nat := 0
def tw2900878168220634481 : Nat := 0
def tw5690095395160918281 : Nat := 0
def tw13656095807476994848 : Nat := 0
def tw8524431315694574407 : Nat := 0
def tw2361816921534992261 : Nat := 0
def tw3717382270394178787 : Nat := 0
def tw1148109739208487446 : Nat := 0
def tw17391774290234038599 : Nat := 0
def tw12085293714811286934 : Nat := 0
def tw13638930980389815025 : Nat := 0
def tw16221789883175035099 : Nat := 0
def tw1661951376196044082 : Nat := 0
def tw7262824266219043615 : Nat := 0
def tw5158418267490147528 : Nat := 0
def tw5234432227205316230 : Nat := 0
def tw9015971349937139732 : Nat := 0
def tw8917486061528919479 : Nat := 0
def tw3223117944697415728 : Nat := 0
def tw17080135474933190771 : Nat := 0
def tw2933332824534285724 : Nat := 0
def tw18283573569159808735 : Nat := 0
def tw8438662889920480812 : Nat := 0
def tw6269787178419374006 : Nat := 0
def tw10693600168774972357 : Nat := 0
def tw11509179367964108515 : Nat := 0
def tw1182844576432751248 : Nat := 0
def tw5658071658405876918 : Nat := 0
def tw14648685290955577379 : Nat := 0
def tw4564682325428993523 : Nat := 0
def tw1748809143432692708 : Nat := 0
def tw9800462824845851614 : Nat := 0
def tw4772397525978452484 : Nat := 0
def tw14605118459168541509 : Nat := 0
def tw12187026205721827213 : Nat := 0
def tw1528216344306155657 : Nat := 0
def tw7951135052485459466 : Nat := 0
def tw5331311526668109488 : Nat := 0
def tw2319838621160585906 : Nat := 0
def tw27968585532610297 : Nat := 0
def tw13382522933349917752 : Nat := 0
def tw7413516276687528810 : Nat := 0
def tw4428965738073792390 : Nat := 0
def tw16208347819460814974 : Nat := 0
def tw256146597622906440 : Nat := 0
def tw5812318782667312380 : Nat := 0
def tw14693158028117572507 : Nat := 0
def tw11009579612429496975 : Nat := 0
def tw17729037588435511375 : Nat := 0
def tw12457052980898285917 : Nat := 0
def tw15866620437153296235 : Nat := 0
def tw8697358701637325290 : Nat := 0
def tw12336456261384464199 : Nat := 0
def tw6304053499311738889 : Nat := 0
def tw18206173126044650810 : Nat := 0
def tw9870284053465626037 : Nat := 0
def tw1702677267776496181 : Nat := 0
def tw12033225921246633895 : Nat := 0
def tw2256783394855763712 : Nat := 0
def tw4628355835764654924 : Nat := 0
def tw17578017903708109476 : Nat := 0
def tw16684400982589366651 : Nat := 0
def tw5319081617036038793 : Nat := 0
def tw1567808397921568809 : Nat := 0
def tw7158915707186609348 : Nat := 0
def tw15907855658567185551 : Nat := 0
def tw1934814158120140234 : Nat := 0
def tw3401882758514094809 : Nat := 0
def tw7906558336559054285 : Nat := 0
def tw14037062727655401602 : Nat := 0
def tw6924138293643001828 : Nat := 0
def tw17273329013077602154 : Nat := 0
def tw2112928245991856839 : Nat := 0
def tw4751559979995429907 : Nat := 0
def tw4674024121152648535 : Nat := 0
def tw7861945351938526773 : Nat := 0
def tw7685063650635250816 : Nat := 0
def tw4696434895232118071 : Nat := 0
def tw3396133258362026913 : Nat := 0
def tw12242822016863638731 : Nat := 0
def tw10487796502458723374 : Nat := 0
def tw2373836759729809186 : Nat := 0
def tw9803579394011830381 : Nat := 0
def tw8144081562291893405 : Nat := 0
def tw12880850633089304076 : Nat := 0
def tw6925579447531649222 : Nat := 0
def tw14872833968520639430 : Nat := 0
def tw1676763799245286646 : Nat := 0
def tw18411649351719130154 : Nat := 0
def tw7830914782194039372 : Nat := 0
def tw9973134037268991450 : Nat := 0
def tw231028494640187045 : Nat := 0
def tw13898225733153367399 : Nat := 0
def tw12344855081164970297 : Nat := 0
def tw100434171197844662 : Nat := 0
def tw13031194524881234982 : Nat := 0
def tw11291328788067397972 : Nat := 0
def tw17041869680547833990 : Nat := 0
def tw9070681899730654980 : Nat := 0
def tw10818051244569287309 : Nat := 0
def tw10605548863057052538 : Nat := 0
def tw18195411550049701730 : Nat := 0
def tw6670323044359000036 : Nat := 0
def tw1215785345480572130 : Nat := 0
def tw14489706409771627818 : Nat := 0
def tw9278817126594595101 : Nat := 0
def tw12327675486297253983 : Nat := 0
def tw9939420080679654019 : Nat := 0
def tw14066756186999208335 : Nat := 0
def tw12167839553230221585 : Nat := 0
def tw12353624552264254199 : Nat := 0
def tw2763989130876762708 : Nat := 0
def tw12305739057466738931 : Nat := 0
def tw9456518443655714165 : Nat := 0
def tw12829115469668418391 : Nat := 0
def tw3866553545657838264 : Nat := 0
def tw16770618498893692466 : Nat := 0
def tw8903484209436154787 : Nat := 0
def tw7263758670401028684 : Nat := 0
def tw12422229946903423667 : Nat := 0
def tw14113150067509518541 : Nat := 0
def tw8504847266289012971 : Nat := 0
def tw17585838583056802088 : Nat := 0
def tw14985231948885366134 : Nat := 0
def tw16106877834649247029 : Nat := 0
def tw168922764960646056 : Nat := 0
def tw12427890423148810032 : Nat := 0
def tw13526936023091536491 : Nat := 0
def tw755103686026790430 : Nat := 0
def tw2647379015094785373 : Nat := 0
def tw6935053824016010234 : Nat := 0
def tw14955889356621733103 : Nat := 0
def tw1678557803896366891 : Nat := 0
def tw5672552112038100939 : Nat := 0
def tw5056973339416627340 : Nat := 0
def tw1658507408938850674 : Nat := 0
def tw15991450873527381711 : Nat := 0
def tw17002368513660745959 : Nat := 0
def tw17982377877394378830 : Nat := 0
def tw7331873349357562262 : Nat := 0
def tw18045300677096329113 : Nat := 0
def tw4117163120993968769 : Nat := 0
def tw3435771314169029143 : Nat := 0
def tw13962375062721854500 : Nat := 0
def tw4255124436257529953 : Nat := 0
def tw2617669914107004197 : Nat := 0
def tw5431452819986886131 : Nat := 0
def tw13559379576640008898 : Nat := 0
def tw1512892975684213936 : Nat := 0
def tw16784925393977334508 : Nat := 0
def tw11949898358461634051 : Nat := 0
def tw4916487446166202327 : Nat := 0
def tw1104826136052969038 : Nat := 0
def tw5640775209707536220 : Nat := 0
def tw5942625627966391732 : Nat := 0
def tw4863960541292186412 : Nat := 0
def tw2863325818607288914 : Nat := 0
def tw5225129200020943344 : Nat := 0
def tw17667053334458830845 : Nat := 0
def tw13573574754183992889 : Nat := 0
def tw13959374952558812576 : Nat := 0
def tw114997075969142674 : Nat := 0
def tw3766445916796136963 : Nat := 0
def tw8899574138479926939 : Nat := 0
def tw12040428612526137951 : Nat := 0
def tw354137440126224279 : Nat := 0
def tw14670900704340637037 : Nat := 0
def tw16653622427052369535 : Nat := 0
def tw11029840152558719064 : Nat := 0
def tw12854034833216388063 : Nat := 0
def tw635309480554015476 : Nat := 0
def tw11129274848221885475 : Nat := 0
def tw18113988907962946311 : Nat := 0
def tw4325522933171754349 : Nat := 0
def tw825837916274330786 : Nat := 0
def tw794132350963347942 : Nat := 0
def tw12556608528665915076 : Nat := 0
def tw17085456722197356127 : Nat := 0
def tw7901996058384326196 : Nat := 0
def tw12603252734300811335 : Nat := 0
def tw13389904245070000712 : Nat := 0
def tw4365380056608188694 : Nat := 0
def tw17154639490946304271 : Nat := 0
def tw13106762046818638101 : Nat := 0
def tw10200706814635001342 : Nat := 0
def tw9260905049126007705 : Nat := 0
def tw16381971200348744166 : Nat := 0
def tw16650958539986736516 : Nat := 0
def tw14045369365544591381 : Nat := 0
def tw13468249599636178362 : Nat := 0
def tw4476596578773491582 : Nat := 0
def tw12707569285401477652 : Nat := 0
def tw17118913205035574828 : Nat := 0
def tw7435668041624457800 : Nat := 0
def tw2341491526851328361 : Nat := 0
def tw17523473104613207908 : Nat := 0
def tw13474890375484278707 : Nat := 0
def tw12558552475085666627 : Nat := 0
def tw1504833255810573012 : Nat := 0
def tw14893528474504052942 : Nat := 0
def tw2933283467585330863 : Nat := 0
def tw14175008328230139099 : Nat := 0
def tw15613405178648547135 : Nat := 0
def tw2472003364637680175 : Nat := 0
def tw8444155366450792309 : Nat := 0
def tw2039670527918266872 : Nat := 0
def tw1262917589313960780 : Nat := 0
def tw4539178445553345039 : Nat := 0
def tw9152515488359090414 : Nat := 0
def tw11867662625680196392 : Nat := 0
def tw2354377198735449901 : Nat := 0
def tw6682884453431591922 : Nat := 0
def tw7536823812541625124 : Nat := 0
def tw7257230849464007483 : Nat := 0
def tw7803571387462768744 : Nat := 0
def tw16324805495096231508 : Nat := 0
def tw17409996657124491084 : Nat := 0
def tw11751384762988877578 : Nat := 0
def tw9648564692376721922 : Nat := 0
def tw4788129558633272621 : Nat := 0
def tw13974529904902800176 : Nat := 0
def tw17821954697857955461 : Nat := 0
def tw8272037226561797175 : Nat := 0
def tw14928147337035573569 : Nat := 0
def tw7358332376299249468 : Nat := 0
def tw12259301092670751899 : Nat := 0
def tw3689725542450395494 : Nat := 0
def tw4044404526734288647 : Nat := 0
def tw6660265076238100186 : Nat := 0
def tw2042924120911301358 : Nat := 0
def tw7854772173001536530 : Nat := 0
def tw10296895355703965030 : Nat := 0
def tw6312938907614522735 : Nat := 0
def tw4105134051136163056 : Nat := 0
def tw12200418246717780818 : Nat := 0
def tw8262276421606066916 : Nat := 0
def tw3722091561288078575 : Nat := 0
def tw10651876509697495677 : Nat := 0
def tw12039351827648007786 : Nat := 0
def tw1117111248251077311 : Nat := 0
def tw5855862714901891632 : Nat := 0
def tw16794725259522530820 : Nat := 0
def tw9767833387188189608 : Nat := 0
def tw9513110897458287159 : Nat := 0
def tw11056746831953828345 : Nat := 0
def tw5130622260925939216 : Nat := 0
def tw1361587495631647196 : Nat := 0
def tw14753551158099170079 : Nat := 0
def tw11405642627546724933 : Nat := 0
def tw1908206165506990896 : Nat := 0
def tw5800286600340109954 : Nat := 0
def tw5195277533183054835 : Nat := 0
def tw3909279785007789343 : Nat := 0
def tw185508373563980356 : Nat := 0
def tw9544662632495586005 : Nat := 0
def tw10691114456160132781 : Nat := 0
def tw3290514370877360360 : Nat := 0
def tw1390479139916874276 : Nat := 0
def tw10095300571653725950 : Nat := 0
def tw11050303336746810515 : Nat := 0
def tw9766305944358420969 : Nat := 0
def tw8409296622917155828 : Nat := 0
def tw17248712756362528606 : Nat := 0
def tw3081081495981628833 : Nat := 0
def tw9124320211626951429 : Nat := 0
def tw13890421061465924760 : Nat := 0
def tw10140207684756205232 : Nat := 0
def tw2324579788152135544 : Nat := 0
def tw4746029107135547125 : Nat := 0
def tw9024240114560575105 : Nat := 0
def tw2430038365259820710 : Nat := 0
def tw10327152697716379031 : Nat := 0
def tw570055130881381126 : Nat := 0
def tw17241466176624937908 : Nat := 0
def tw3588351705420948497 : Nat := 0
def tw7528250857172139787 : Nat := 0
def tw6473639124101208766 : Nat := 0
def tw9841009401327311432 : Nat := 0
def tw11381801913527517932 : Nat := 0
def tw6200056914515148823 : Nat := 0
def tw9715474459507105635 : Nat := 0
def tw5101434223169421380 : Nat := 0
def tw8569619258901653901 : Nat := 0
def tw11942382143838970736 : Nat := 0
def tw4103015886068568554 : Nat := 0
def tw13402156168365867208 : Nat := 0
def tw9279632811736575622 : Nat := 0
def tw17427856554946115522 : Nat := 0
def tw14439763694293144273 : Nat := 0
def tw96323042183493111 : Nat := 0
def tw3898983398086318455 : Nat := 0
def tw14017400520394768419 : Nat := 0
def tw17092857334410874849 : Nat := 0
def tw2593431420451794295 : Nat := 0
def tw12984467241700227536 : Nat := 0
def tw4391085394052880822 : Nat := 0
def tw16578243100655002333 : Nat := 0
def tw15654545491347114742 : Nat := 0
def tw4797626704790224048 : Nat := 0
def tw6580310151442019897 : Nat := 0
def tw1331074347591203597 : Nat := 0
def tw4849240244257565867 : Nat := 0
def tw3513631410197863122 : Nat := 0
def tw11555390150406636803 : Nat := 0
def tw2163282712287477530 : Nat := 0
def tw9864424618416084453 : Nat := 0
def tw13522954186471690345 : Nat := 0
def tw1645194814606294387 : Nat := 0
def tw5374636800913506262 : Nat := 0
def tw15641146802154189964 : Nat := 0
def tw13327760338979163777 : Nat := 0
def tw12697081042794855027 : Nat := 0
def tw1567507547293156480 : Nat := 0
def tw17732031342177250216 : Nat := 0
def tw9687620866628107136 : Nat := 0
def tw11196278021546551101 : Nat := 0
def tw8073632432423893924 : Nat := 0
def tw14366238311096674548 : Nat := 0
def tw1964020422574069484 : Nat := 0
def tw9127179493750336322 : Nat := 0
def tw13512741248775635402 : Nat := 0
def tw3242243111062231459 : Nat := 0
def tw11627275023140558702 : Nat := 0
def tw11041523038172375955 : Nat := 0
def tw6333851717014473836 : Nat := 0
def tw14618606880926551997 : Nat := 0
def tw7933159123956512571 : Nat := 0
def tw2279650035152352445 : Nat := 0
def tw14097339257908030914 : Nat := 0
def tw7413555530018562322 : Nat := 0
def tw3533113016499253713 : Nat := 0
def tw3749439191795641556 : Nat := 0
def tw17777084008253734137 : Nat := 0
def tw8171944166362375899 : Nat := 0
def tw3431500986441853990 : Nat := 0
def tw16221655983527779926 : Nat := 0
def tw8362688173239071126 : Nat := 0
def tw7358983588920984114 : Nat := 0
def tw15889274017218775600 : Nat := 0
def tw15058367115589060258 : Nat := 0
def tw4974851151506805101 : Nat := 0
def tw5812933343938310083 : Nat := 0
def tw11696149077021467595 : Nat := 0
def tw15863997287211901795 : Nat := 0
def tw10023707506799403170 : Nat := 0
def tw6529545832383667489 : Nat := 0
def tw9406529609059504536 : Nat := 0
def tw3704112705958650510 : Nat := 0
def tw14223300231222671797 : Nat := 0
def tw11074086993978174212 : Nat := 0
def tw15982405561873458534 : Nat := 0
def tw14316518271513679459 : Nat := 0
def tw6407332745494829596 : Nat := 0
def tw7302095330901442139 : Nat := 0
def tw17051048590401891016 : Nat := 0
def tw4014026487916119354 : Nat := 0
def tw9412522833439284885 : Nat := 0
def tw4762645329764066903 : Nat := 0
def tw4107941450502728355 : Nat := 0
def tw3267981404289957226 : Nat := 0
def tw17949849059335064524 : Nat := 0
def tw4352744381867141213 : Nat := 0
def tw17213599251496894865 : Nat := 0
def tw15042752720431385309 : Nat := 0
def tw957298681302806022 : Nat := 0
def tw14503443360951183428 : Nat := 0
def tw526636160526583619 : Nat := 0
def tw5544482100005158525 : Nat := 0
def tw13195106622285207101 : Nat := 0
def tw15877776069195550571 : Nat := 0
def tw16950529984618585798 : Nat := 0
def tw501605944930177239 : Nat := 0
def tw13583568745507046544 : Nat := 0
def tw140894963567655585 : Nat := 0
def tw3958627391108725120 : Nat := 0
def tw15885947343803788180 : Nat := 0
def tw12939926095911438327 : Nat := 0
def tw11026133490151604710 : Nat := 0
def tw8089035801822224774 : Nat := 0
def tw3060873014186010019 : Nat := 0
def tw157101111589715090 : Nat := 0
def tw4169398036425608670 : Nat := 0
def tw16774550536130701170 : Nat := 0
def tw18283469727968718762 : Nat := 0
def tw912782513843321847 : Nat := 0
def tw15631608805407597978 : Nat := 0
def tw14485185007170521986 : Nat := 0
def tw9779890015097862700 : Nat := 0
def tw15386393391495786904 : Nat := 0
def tw14232474101658405036 : Nat := 0
def tw12505768725407584949 : Nat := 0
def tw16637798666921990993 : Nat := 0
def tw5117155637832650336 : Nat := 0
def tw17808284297677640775 : Nat := 0
def tw1614133578415351775 : Nat := 0
def tw87896708216456758 : Nat := 0
def tw7994358410738937440 : Nat := 0
def tw8585780419966675070 : Nat := 0
def tw8094848253458086256 : Nat := 0
def tw11532749975219233177 : Nat := 0
def tw1723669170012304492 : Nat := 0
def tw16041272550182548756 : Nat := 0
def tw14882648767523812135 : Nat := 0
def tw15915338022367012730 : Nat := 0
def tw13936400929706721435 : Nat := 0
def tw18046865417103721699 : Nat := 0
def tw17372331907343555608 : Nat := 0
def tw7640181821033035321 : Nat := 0
def tw1532307434749376213 : Nat := 0
def tw13798799236796996332 : Nat := 0
def tw10320190286325921216 : Nat := 0
def tw5019462355339459959 : Nat := 0
def tw2419065415346691522 : Nat := 0
def tw2380486992744039876 : Nat := 0
def tw7199289122172615908 : Nat := 0
def tw17433375951509771394 : Nat := 0
def tw18116407119985086123 : Nat := 0
def tw2190900635330373887 : Nat := 0
def tw9904247661305577045 : Nat := 0
def tw14323589573223564381 : Nat := 0
def tw10211794729844491496 : Nat := 0
def tw6504556410348595533 : Nat := 0
def tw7323496466741071444 : Nat := 0
def tw12151825165564810510 : Nat := 0
def tw5221645203751965525 : Nat := 0
def tw15387612586858104117 : Nat := 0
def tw1526549797675042031 : Nat := 0
def tw8847852709180243271 : Nat := 0
def tw10234335691265601900 : Nat := 0
def tw14027039949464453232 : Nat := 0
def tw7236661587840250649 : Nat := 0
def tw16426429359472123593 : Nat := 0
def tw14672775951009403586 : Nat := 0
def tw2526348989091293997 : Nat := 0
def tw12783670348440950091 : Nat := 0
def tw9150264558695529597 : Nat := 0
def tw10534918077095178295 : Nat := 0
def tw7558205050954678984 : Nat := 0
def tw11087520744550553682 : Nat := 0
def tw9179881254086780122 : Nat := 0
def tw4725563902462035982 : Nat := 0
def tw1926153243028396411 : Nat := 0
def tw18220611760645894542 : Nat := 0
def tw5873998944541415101 : Nat := 0
def tw13525848146589623387 : Nat := 0
def tw18380546381988861285 : Nat := 0
def tw6168751967165823718 : Nat := 0
def tw1719938280047037636 : Nat := 0
def tw8274092570660230915 : Nat := 0
def tw7800609845054109836 : Nat := 0
def tw4640263498785790529 : Nat := 0
def tw10678874889260954896 : Nat := 0
def tw14607209177219433453 : Nat := 0
def tw11694088550027311136 : Nat := 0
def tw11415794784293685301 : Nat := 0
def tw10889128496597686749 : Nat := 0
def tw11196739088505091192 : Nat := 0
def tw5103437337135209485 : Nat := 0
def tw3727134071395070002 : Nat := 0
def tw14797609196106877976 : Nat := 0
def tw11929212426931663652 : Nat := 0
def tw6064653173281605448 : Nat := 0
def tw7424283623305818919 : Nat := 0
def tw1031069752417544387 : Nat := 0
def tw7822173294765267746 : Nat := 0
def tw9619619780223973915 : Nat := 0
def tw10998483290341312014 : Nat := 0
def tw6452799610063612140 : Nat := 0
def tw9779752734630988341 : Nat := 0
def tw16062489630065965108 : Nat := 0
def tw11024909918829492994 : Nat := 0
def tw8676006827650801205 : Nat := 0
def tw10920514285290960459 : Nat := 0
def tw2532187519929466724 : Nat := 0
def tw849509137002155205 : Nat := 0
def tw4049758183327318189 : Nat := 0
def tw13934822510344874026 : Nat := 0
def tw3875392042726047171 : Nat := 0
def tw12665827812637218981 : Nat := 0
def tw17076598558737362311 : Nat := 0
def tw10449399194678818232 : Nat := 0
def tw6227522198879446284 : Nat := 0
def tw9919112114736241003 : Nat := 0
def tw14505332311768444377 : Nat := 0
def tw10709504896350882684 : Nat := 0
def tw10050083236637576306 : Nat := 0
def tw18284779815511783039 : Nat := 0
def tw16653815480931332662 : Nat := 0
def tw18157243349844551716 : Nat := 0
def tw5323395621097532788 : Nat := 0
def tw682637497059654546 : Nat := 0
def tw17580884159572837660 : Nat := 0
def tw17759164468525426636 : Nat := 0
def tw8520399327813234036 : Nat := 0
def tw3448205156172737116 : Nat := 0
def tw6123949367497932256 : Nat := 0
def tw13045192798600433108 : Nat := 0
def tw10744117887433388425 : Nat := 0
def tw885489407930929726 : Nat := 0
def tw17515852622906764131 : Nat := 0
def tw6532662175667467194 : Nat := 0
def tw12745128401802882805 : Nat := 0
def tw6742759802212214975 : Nat := 0
def tw423584778023601122 : Nat := 0
def tw18074662457760002958 : Nat := 0
def tw8587269340439440791 : Nat := 0
def tw4121887163228056401 : Nat := 0
def tw17655260450729857305 : Nat := 0
def tw17585482487403549102 : Nat := 0
def tw3418637683892233798 : Nat := 0
def tw14101984292350578534 : Nat := 0
def tw16185668312113877282 : Nat := 0
def tw7837871486306572946 : Nat := 0
def tw17026240440174468501 : Nat := 0
def tw9770885705285596710 : Nat := 0
def tw10923665078096913444 : Nat := 0
def tw3954673314234820288 : Nat := 0
def tw9901650889094626344 : Nat := 0
def tw10706838219073700208 : Nat := 0
def tw16328083195438889846 : Nat := 0
def tw862261107757466863 : Nat := 0
def tw7240912667847377920 : Nat := 0
def tw3959588548342137631 : Nat := 0
def tw17730661197772061590 : Nat := 0
def tw1342006333723023196 : Nat := 0
def tw17087188853307352791 : Nat := 0
def tw8640048374434991596 : Nat := 0
def tw694930363321177493 : Nat := 0
def tw13855586884179891215 : Nat := 0
def tw12536987507845721003 : Nat := 0
def tw4658463046339629735 : Nat := 0
def tw519962688706669264 : Nat := 0
def tw4589868590027286233 : Nat := 0
def tw9921509634795373372 : Nat := 0
def tw12171169723454192414 : Nat := 0
def tw4691642055229881245 : Nat := 0
def tw5135173472348321105 : Nat := 0
def tw1378307930390129731 : Nat := 0
def tw4939351788542803775 : Nat := 0
def tw17475516843973306831 : Nat := 0
def tw4474319833884321983 : Nat := 0
def tw2625862480638111038 : Nat := 0
def tw9768611353540645905 : Nat := 0
def tw6949996354218660110 : Nat := 0
def tw17727743473647884212 : Nat := 0
def tw12469617220257791539 : Nat := 0
def tw6604227227413222600 : Nat := 0
def tw5009222753268061735 : Nat := 0
def tw2262524082534396343 : Nat := 0
def tw12084525026043846248 : Nat := 0
def tw16300950190497372225 : Nat := 0
def tw10180603879751081341 : Nat := 0
def tw12909618258046485540 : Nat := 0
def tw13896409904303858650 : Nat := 0
def tw18192607819353374507 : Nat := 0
def tw10226970277032512048 : Nat := 0
def tw13427432768097148974 : Nat := 0
def tw11368980265998964032 : Nat := 0
def tw10682365073180600565 : Nat := 0
def tw14936157999913385258 : Nat := 0
def tw2063095940507793229 : Nat := 0
def tw2387375008420904652 : Nat := 0
def tw1024993111550286888 : Nat := 0
def tw6567070894131338447 : Nat := 0
def tw8519608707909403912 : Nat := 0
def tw11047096862774659401 : Nat := 0
def tw12339704867961525374 : Nat := 0
def tw860840870330611320 : Nat := 0
def tw16710214766697018478 : Nat := 0
def tw8335360896437330257 : Nat := 0
def tw680871977817202810 : Nat := 0
def tw1531564101523789610 : Nat := 0
def tw4358270156264815648 : Nat := 0
def tw17864033327370211553 : Nat := 0
def tw8635084241218785157 : Nat := 0
def tw6910108352567852880 : Nat := 0
def tw7903860452493910527 : Nat := 0
def tw12139044390541334588 : Nat := 0
def tw14317174903260112299 : Nat := 0
def tw11014152985326855439 : Nat := 0
def tw15769169212600860790 : Nat := 0
def tw6785701498036724178 : Nat := 0
def tw7540225683827151870 : Nat := 0
def tw14387462699023289455 : Nat := 0
def tw11217923109741214068 : Nat := 0
def tw11239532704298163262 : Nat := 0
def tw11962606395461217531 : Nat := 0
def tw2511856587408412323 : Nat := 0
def tw10686136207700496972 : Nat := 0
def tw15663575209821832354 : Nat := 0
def tw8202418095018877310 : Nat := 0
def tw2581746456612446595 : Nat := 0
def tw4571653801941957109 : Nat := 0
def tw10226296990685473189 : Nat := 0
def tw5335010413704421835 : Nat := 0
def tw11518090050924383154 : Nat := 0
def tw9562586479876633234 : Nat := 0
def tw8383143316735913377 : Nat := 0
def tw14429074389707308207 : Nat := 0
def tw16404798228236237086 : Nat := 0
def tw82612617306366766 : Nat := 0
def tw11895385196736501972 : Nat := 0
def tw6268676963835291924 : Nat := 0
def tw3867328216689764133 : Nat := 0
def tw4246925568485616236 : Nat := 0
def tw16285809472571585685 : Nat := 0
def tw5813886919674805480 : Nat := 0
def tw9067536528049852433 : Nat := 0
def tw8861592909409734032 : Nat := 0
def tw7726022615982239974 : Nat := 0
def tw12799992822188360881 : Nat := 0
def tw239915269839675792 : Nat := 0
def tw14352347252924574744 : Nat := 0
def tw15740594417345822935 : Nat := 0
def tw8035899374333007563 : Nat := 0
def tw7078964096458864315 : Nat := 0
def tw9565667367401648131 : Nat := 0
def tw12721099742868413742 : Nat := 0
def tw153828686518562189 : Nat := 0
def tw5140803264304809467 : Nat := 0
def tw4824279711316116663 : Nat := 0
def tw7729260729184464271 : Nat := 0
def tw13079946968090618854 : Nat := 0
def tw9544527117633992909 : Nat := 0
def tw13885022768440876340 : Nat := 0
def tw16612826530223118001 : Nat := 0
def tw9274526421825840718 : Nat := 0
def tw15745758264068885050 : Nat := 0
def tw16502915234000468689 : Nat := 0
def tw1468857815922229779 : Nat := 0
def tw15606310188758689630 : Nat := 0
def tw15070101341411514816 : Nat := 0
def tw14493983769731553581 : Nat := 0
def tw5039718873946031477 : Nat := 0
def tw493354908180778339 : Nat := 0
def tw17252209040055509113 : Nat := 0
def tw7469042941208449284 : Nat := 0
def tw5122799511103417611 : Nat := 0
def tw8236531983025008191 : Nat := 0
def tw7928859979243840888 : Nat := 0
def tw14133883457964638178 : Nat := 0
def tw8798272732950496567 : Nat := 0
def tw1553592244965803934 : Nat := 0
def tw11665617622298139045 : Nat := 0
def tw15512411715318085795 : Nat := 0
def tw1017716389593951806 : Nat := 0
def tw3792336981586372218 : Nat := 0
def tw2504825843388509826 : Nat := 0
def tw9175533163775384776 : Nat := 0
def tw13674082170962711491 : Nat := 0
def tw685655754395663908 : Nat := 0
def tw2167760474649190669 : Nat := 0
def tw3668835981612847206 : Nat := 0
def tw2386767573478684697 : Nat := 0
def tw17307008798408690869 : Nat := 0
def tw5125378293455495942 : Nat := 0
def tw6113196956087810055 : Nat := 0
def tw15999596476438058586 : Nat := 0
def tw13831415705566726343 : Nat := 0
def tw12269887434346252290 : Nat := 0
def tw903906829741223842 : Nat := 0
def tw11565475807223214822 : Nat := 0
def tw13118329973521065369 : Nat := 0
def tw16807585638685890948 : Nat := 0
def tw7577360229439097007 : Nat := 0
def tw18156245078863193643 : Nat := 0
def tw9950949536703842719 : Nat := 0
def tw3959291955295803983 : Nat := 0
def tw11695318499830133210 : Nat := 0
def tw214391854270587116 : Nat := 0
def tw3607069240559711524 : Nat := 0
def tw7080265548169218059 : Nat := 0
def tw7785562216471693676 : Nat := 0
def tw6794774201718402856 : Nat := 0
def tw3912677415377329086 : Nat := 0
def tw7248001897796264702 : Nat := 0
def tw6590722502354271166 : Nat := 0
def tw6359125423191806781 : Nat := 0
def tw14861118602789350866 : Nat := 0
def tw8448060800342903480 : Nat := 0
def tw12720985083790011735 : Nat := 0
def tw7694354427288961286 : Nat := 0
def tw16729914318774334024 : Nat := 0
def tw16279970764027862437 : Nat := 0
def tw13929829917656922392 : Nat := 0
def tw1904291919070917776 : Nat := 0
def tw10833342340677038580 : Nat := 0
def tw11167342572660006027 : Nat := 0
def tw3017926205061063120 : Nat := 0
def tw11567478001845765542 : Nat := 0
def tw200634741747273400 : Nat := 0
def tw15072608150807008084 : Nat := 0
def tw13015661798260191883 : Nat := 0
def tw13982170941992901083 : Nat := 0
def tw4305572938213158862 : Nat := 0
def tw10507397040546473218 : Nat := 0
def tw8993024698586372281 : Nat := 0
def tw5804227942112290740 : Nat := 0
def tw16422469866364001096 : Nat := 0
def tw7618084298160889724 : Nat := 0
def tw17929510819951471179 : Nat := 0
def tw14423018703936207385 : Nat := 0
def tw12168267598824701035 : Nat := 0
def tw8503151786539762867 : Nat := 0
def tw13696269917641753628 : Nat := 0
def tw7162099518646016483 : Nat := 0
def tw12185722732703889716 : Nat := 0
def tw13201122017382594719 : Nat := 0
def tw514440271244999485 : Nat := 0
def tw14316915434964021359 : Nat := 0
def tw17470636065726569926 : Nat := 0
def tw11473830999523519329 : Nat := 0
def tw2622990507278045880 : Nat := 0
def tw15973110796842741674 : Nat := 0
def tw12369241269944415550 : Nat := 0
def tw8441710905809629722 : Nat := 0
def tw7312819316881317848 : Nat := 0
def tw10340006743808985526 : Nat := 0
def tw13326791910039106008 : Nat := 0
def tw15846527670415403444 : Nat := 0
def tw10754257660339312673 : Nat := 0
def tw4510924696577330660 : Nat := 0
def tw13037434739102861277 : Nat := 0
def tw16597601590544027607 : Nat := 0
def tw12830161126327904134 : Nat := 0
def tw7672373267503233548 : Nat := 0
def tw8350678230409489777 : Nat := 0
def tw13443894120941762572 : Nat := 0
def tw6602420869228531701 : Nat := 0
def tw11634683057234545961 : Nat := 0
def tw670518604241201443 : Nat := 0
def tw4756288575037629249 : Nat := 0
def tw13207377179273338814 : Nat := 0
def tw17292609184418033956 : Nat := 0
def tw12831206825324400436 : Nat := 0
def tw11164497479646298598 : Nat := 0
def tw6651230240317722646 : Nat := 0
def tw1610688270275712390 : Nat := 0
def tw6849469924260931190 : Nat := 0
def tw13183517716461063587 : Nat := 0
def tw8679310769806825429 : Nat := 0
def tw16682650582979322321 : Nat := 0
def tw10605657072433601850 : Nat := 0
def tw8229765349871800263 : Nat := 0
def tw3159815463244870593 : Nat := 0
def tw6586386433139102206 : Nat := 0
def tw877036267312360336 : Nat := 0
def tw8798820986769337978 : Nat := 0
def tw15041876505014275574 : Nat := 0
def tw13321727669602028476 : Nat := 0
def tw1066860425551267427 : Nat := 0
def tw2394424062839241698 : Nat := 0
def tw4488386278549129029 : Nat := 0
def tw13245469001052136649 : Nat := 0
def tw10081270637899633490 : Nat := 0
def tw15161507273554103810 : Nat := 0
def tw9134499348337467861 : Nat := 0
def tw3410626001242884227 : Nat := 0
def tw18167882361547592339 : Nat := 0
def tw234849053145354343 : Nat := 0
def tw1929457713765674423 : Nat := 0
def tw2818824133983055706 : Nat := 0
def tw1467397882868836679 : Nat := 0
def tw16081021329116020378 : Nat := 0
def tw17060092014024996606 : Nat := 0
def tw2369222061760324725 : Nat := 0
def tw5154731278059735676 : Nat := 0
def tw4884245339476611620 : Nat := 0
def tw6337780453140898317 : Nat := 0
def tw1393586321701284460 : Nat := 0
def tw13782851674276408947 : Nat := 0
def tw8353330645176188074 : Nat := 0
def tw558058903995718518 : Nat := 0
def tw5861475541783334376 : Nat := 0
def tw12172964033154790528 : Nat := 0
def tw2569280899975549443 : Nat := 0
def tw12796402831786852743 : Nat := 0
def tw3874625775714449245 : Nat := 0
def tw98533536820997620 : Nat := 0
def tw9832281173162061992 : Nat := 0
def tw15569430343723577070 : Nat := 0
def tw11634098581890646812 : Nat := 0
def tw4336191460668510571 : Nat := 0
def tw12551121316765497791 : Nat := 0
def tw382535557073698412 : Nat := 0
def tw16471557219833161530 : Nat := 0
def tw17890529076417802369 : Nat := 0
def tw6225941978993201035 : Nat := 0
def tw10506570922326523256 : Nat := 0
def tw11912421936275299909 : Nat := 0
def tw10639147698553155321 : Nat := 0
def tw14500235830060736224 : Nat := 0
def tw9733146775810043356 : Nat := 0
def tw14673404379370683240 : Nat := 0
def tw8851520130828741317 : Nat := 0
def tw714773608807816626 : Nat := 0
def tw6892429137777673220 : Nat := 0
def tw7527076648959002083 : Nat := 0
def tw9891120265691122457 : Nat := 0
def tw7798078357220743172 : Nat := 0
def tw14895051727719733479 : Nat := 0
def tw10012189209197843750 : Nat := 0
def tw5844912858122020942 : Nat := 0
def tw10019850895043016466 : Nat := 0
def tw4805110371770630929 : Nat := 0
def tw14492164731650662307 : Nat := 0
def tw5409981050180908702 : Nat := 0
def tw8539934305736427482 : Nat := 0
def tw3750987471839212152 : Nat := 0
def tw13510955914226949692 : Nat := 0
def tw6720711209348662804 : Nat := 0
def tw1566569678716175198 : Nat := 0
def tw5900199930510556950 : Nat := 0
def tw1746386816335858458 : Nat := 0
def tw940338619442844640 : Nat := 0
def tw13106832413971495840 : Nat := 0
def tw2341724527780486267 : Nat := 0
def tw16021990708159130277 : Nat := 0
def tw17867374141282506111 : Nat := 0
def tw617480524423079094 : Nat := 0
def tw3177652443876598107 : Nat := 0
def tw7614389168838276044 : Nat := 0
def tw14706973339836142614 : Nat := 0
def tw11826411667750565260 : Nat := 0
def tw16846873686728109970 : Nat := 0
def tw16898306582284536850 : Nat := 0
def tw6663590807684331410 : Nat := 0
def tw3875181080441001967 : Nat := 0
def tw14797296954516036726 : Nat := 0
def tw13443629381861831883 : Nat := 0
def tw15567680244510046057 : Nat := 0
def tw12854156452129371659 : Nat := 0
def tw14474913089793017617 : Nat := 0
def tw11814278580556347297 : Nat := 0
def tw17282878425892373717 : Nat := 0
def tw11203580912847865520 : Nat := 0
def tw2554875566186257733 : Nat := 0
def tw3357863629595308312 : Nat := 0
def tw5593654206411567937 : Nat := 0
def tw11921126419009425533 : Nat := 0
def tw2139278558207625660 : Nat := 0
def tw6160076740516149770 : Nat := 0
def tw11030832825120282121 : Nat := 0
def tw5607396784782357477 : Nat := 0
def tw13127014616971868115 : Nat := 0
def tw18430210708718779634 : Nat := 0
def tw12007209062270759363 : Nat := 0
def tw1180111807241122970 : Nat := 0
def tw17708885436585731967 : Nat := 0
def tw11042545118618709679 : Nat := 0
def tw8100335748473467661 : Nat := 0
def tw509420877483350149 : Nat := 0
def tw2965927276657839048 : Nat := 0
def tw3506353429382663351 : Nat := 0
def tw3940265991098160034 : Nat := 0
def tw11247418266591145358 : Nat := 0
def tw16962917805164684822 : Nat := 0
def tw6439230695765348901 : Nat := 0
def tw4883820530111988700 : Nat := 0
def tw6152869312183406183 : Nat := 0
def tw9117784975749837952 : Nat := 0
def tw16384180736517868517 : Nat := 0
def tw15794529581120364238 : Nat := 0
def tw3887576297822105611 : Nat := 0
def tw10738165722616086856 : Nat := 0
def tw5180131497244931143 : Nat := 0
def tw15778012937134627480 : Nat := 0
def tw12484450419171379857 : Nat := 0
def tw7657523865049506804 : Nat := 0
def tw999636199755953724 : Nat := 0
def tw18127630588716832510 : Nat := 0
def tw2599592688733416598 : Nat := 0
def tw10626706539505627186 : Nat := 0
def tw12825248993085065978 : Nat := 0
def tw8226528927143069145 : Nat := 0
def tw4852457153552993954 : Nat := 0
def tw5464146054574986963 : Nat := 0
def tw16925039619310776986 : Nat := 0
def tw998752959604837897 : Nat := 0
def tw11122503246562061367 : Nat := 0
def tw16301177330609093098 : Nat := 0
def tw12940110980903029111 : Nat := 0
def tw4729955217006676572 : Nat := 0
def tw17444564543030041817 : Nat := 0
def tw6242515589469192168 : Nat := 0
def tw1790411989173503616 : Nat := 0
def tw9804397974258734789 : Nat := 0
def tw17748259383393332813 : Nat := 0
def tw497350722785162326 : Nat := 0
def tw1656553977163962422 : Nat := 0
def tw3426520737960019125 : Nat := 0
def tw10775697301994501300 : Nat := 0
def tw8800941208166818626 : Nat := 0
def tw8679079689291984614 : Nat := 0
def tw17824153769209086828 : Nat := 0
def tw8268027343754436812 : Nat := 0
def tw13502691406008310276 : Nat := 0
def tw2358670648449993664 : Nat := 0
def tw7805514206942470729 : Nat := 0
def tw2875018424260984566 : Nat := 0
def tw16122996498725224638 : Nat := 0
def tw14556663444287990695 : Nat := 0
def tw17051698580411655132 : Nat := 0
def tw986384729934635431 : Nat := 0
def tw2850795129943313173 : Nat := 0
def tw2693669013543774908 : Nat := 0
def tw9465869993375861269 : Nat := 0
def tw5375909958261937531 : Nat := 0
def tw3601443993720755855 : Nat := 0
def tw5780851418118278800 : Nat := 0
def tw11310829644613625776 : Nat := 0
def tw16362728118340477622 : Nat := 0
def tw2450819388259247082 : Nat := 0
def tw17347275414553530543 : Nat := 0
def tw452960054085516687 : Nat := 0
def tw11776201004285269745 : Nat := 0
def tw14652331451670500831 : Nat := 0
def tw12094952049402102191 : Nat := 0
def tw1581623555470259088 : Nat := 0
def tw17860814974041293574 : Nat := 0
def tw13290476614970556471 : Nat := 0
def tw909453326640644825 : Nat := 0
def tw16671616591297093557 : Nat := 0
def tw15315518894329870698 : Nat := 0
def tw4366843916455101147 : Nat := 0
def tw16553067717779534841 : Nat := 0
def tw528725231728914979 : Nat := 0
def tw12736062510120658704 : Nat := 0
def tw12144735324070951247 : Nat := 0
def tw9488954305304344402 : Nat := 0
def tw6408367704974629339 : Nat := 0
def tw6387448290939236677 : Nat := 0
def tw2836133739407908253 : Nat := 0
def tw17972480902436846362 : Nat := 0
def tw16752870623757282559 : Nat := 0
def tw16825810043719592144 : Nat := 0
def tw10667087359443752428 : Nat := 0
def tw9281198470121583263 : Nat := 0
def tw404612848806763180 : Nat := 0
def tw15271057322873249401 : Nat := 0
def tw12006042553019252952 : Nat := 0
def tw8171764316120481646 : Nat := 0
def tw2549571482288175279 : Nat := 0
def tw591341862753675494 : Nat := 0
def tw3463008609034092449 : Nat := 0
def tw1453596438607531700 : Nat := 0
def tw8843213682489336598 : Nat := 0
def tw2605895624398319849 : Nat := 0
def tw11510143111942754905 : Nat := 0
def tw17265004287572108694 : Nat := 0
def tw18422209185924770848 : Nat := 0
def tw4522968923027444606 : Nat := 0
def tw16437446188047802317 : Nat := 0
def tw1566201848526190709 : Nat := 0
def tw17308112662300496122 : Nat := 0
def tw11153617964045153032 : Nat := 0
def tw4806105556252397058 : Nat := 0
def tw6617606871365867372 : Nat := 0
def tw2765700038992538632 : Nat := 0
def tw14969639679543396490 : Nat := 0
def tw4297660809485677611 : Nat := 0
def tw453467274060087342 : Nat := 0
def tw14669921774469008621 : Nat := 0
def tw15219976818074518452 : Nat := 0
def tw13198040113945978698 : Nat := 0
def tw8482685602349921580 : Nat := 0
def tw12352685755492223339 : Nat := 0
def tw9040220970256197479 : Nat := 0
def tw9919750080015086263 : Nat := 0
def tw12855734174309101984 : Nat := 0
def tw5526907480248471260 : Nat := 0
def tw9795579029643598525 : Nat := 0
def tw516819555398148731 : Nat := 0
def tw261867110097181950 : Nat := 0
def tw6563635837247352425 : Nat := 0
def tw15415545691341938621 : Nat := 0
def tw7539803707351609740 : Nat := 0
def tw4495694094050953200 : Nat := 0
def tw9646047179613466108 : Nat := 0
def tw8718183329306559262 : Nat := 0
def tw3941985134761351803 : Nat := 0
def tw12350238231061069439 : Nat := 0
def tw6074247968167372778 : Nat := 0
def tw10616461860135477929 : Nat := 0
def tw12016067202902460995 : Nat := 0
def tw17988152490980008715 : Nat := 0
def tw16565957082590265059 : Nat := 0
def tw3128941561783549013 : Nat := 0
def tw10941356242556209826 : Nat := 0
def tw6974580773747311886 : Nat := 0
def tw2699156678628284311 : Nat := 0
def tw13308809247822498399 : Nat := 0
def tw3286173587216782652 : Nat := 0
def tw496827161010652205 : Nat := 0
def tw9592213953899713545 : Nat := 0
def tw1986098431339877373 : Nat := 0
def tw11950801852495847950 : Nat := 0
def tw18321172987962986882 : Nat := 0
def tw4859413072707710291 : Nat := 0
def tw6960973929330511992 : Nat := 0
def tw18175539081776294305 : Nat := 0
def tw12149555992255575998 : Nat := 0
def tw18405432024680940889 : Nat := 0
def tw9295584793529398444 : Nat := 0
def tw3812628389260282300 : Nat := 0
def tw20173141935496780 : Nat := 0
def tw12522625323999800715 : Nat := 0
def tw8211557091448410258 : Nat := 0
def tw10790201369440358089 : Nat := 0
def tw12969298144709025691 : Nat := 0
def tw284237428007979282 : Nat := 0
def tw5387280096632121709 : Nat := 0
def tw10032964725955395648 : Nat := 0
def tw1715806952488106027 : Nat := 0
def tw1537304260159276833 : Nat := 0
def tw7187934273148161641 : Nat := 0
def tw10640598738100218993 : Nat := 0
def tw16625906576527176827 : Nat := 0
def tw6436909187544178434 : Nat := 0
def tw16215608828506798808 : Nat := 0
def tw3685143117811233838 : Nat := 0
def tw9375672017415953172 : Nat := 0
def tw13617495181890240617 : Nat := 0
def tw15519720908101772324 : Nat := 0
def tw15246567145383970537 : Nat := 0
def tw17767620200637251021 : Nat := 0
def tw9817745552244117095 : Nat := 0
def tw6278384964484231696 : Nat := 0
def tw2160901267128280483 : Nat := 0
def tw1705247937819124596 : Nat := 0
def tw18357808785993289287 : Nat := 0
def tw15692343119514700160 : Nat := 0
def tw11905063818408409257 : Nat := 0
def tw10683342885716273610 : Nat := 0
def tw17267719104102342923 : Nat := 0
def tw7358389491710481839 : Nat := 0
def tw8762532748460692706 : Nat := 0
def tw11913184704233324873 : Nat := 0
def tw1158473907654736552 : Nat := 0
def tw18082528860257793579 : Nat := 0
def tw13965874366506981728 : Nat := 0
def tw10122002749480103904 : Nat := 0
def tw16298520367224011159 : Nat := 0
def tw14730002429791949235 : Nat := 0
def tw16819712868833678342 : Nat := 0
def tw2832306564976077708 : Nat := 0
def tw3328509787363161738 : Nat := 0
def tw8874396457033253331 : Nat := 0
def tw10472703129872927663 : Nat := 0
def tw10387206977549154775 : Nat := 0
def tw2909119903649522327 : Nat := 0
def tw18117405610936614210 : Nat := 0
def tw17124914170973845311 : Nat := 0
def tw13373643872872743361 : Nat := 0
def tw3191207223396688400 : Nat := 0
def tw3785498034633943689 : Nat := 0
def tw270201548675636485 : Nat := 0
def tw9989651659779618463 : Nat := 0
def tw14953045131296431646 : Nat := 0
def tw7530652325275884358 : Nat := 0
def tw3508377719788883124 : Nat := 0
def tw11081078297169983472 : Nat := 0
def tw16457082612132437403 : Nat := 0
def tw14683164621888708807 : Nat := 0
def tw7927957704557811438 : Nat := 0
def tw11316290800138392370 : Nat := 0
def tw857745673358981133 : Nat := 0
def tw6857794747479339132 : Nat := 0
def tw3584093942281141781 : Nat := 0
def tw3430437593855187207 : Nat := 0
def tw1777400298624976466 : Nat := 0
def tw4526638277700998707 : Nat := 0
def tw3994880360249245865 : Nat := 0
def tw8503456388263890262 : Nat := 0
def tw6499538836596699402 : Nat := 0
def tw8813229752269910805 : Nat := 0
def tw7422552495249573096 : Nat := 0
def tw12753126762440011570 : Nat := 0
def tw4699584394508294767 : Nat := 0
def tw4355782457548421724 : Nat := 0
def tw17462455512712801698 : Nat := 0
def tw7938387012452659079 : Nat := 0
def tw2509702769934646877 : Nat := 0
def tw8751012964555322995 : Nat := 0
def tw3727081721846725756 : Nat := 0
def tw11517133106292260207 : Nat := 0
def tw3360831508905128238 : Nat := 0
def tw402230914200824127 : Nat := 0
def tw5228527518218935010 : Nat := 0
def tw17763627282410677669 : Nat := 0
def tw4026408066883039655 : Nat := 0
def tw14572073540498910398 : Nat := 0
def tw18444673424297410672 : Nat := 0
def tw4576863263316673530 : Nat := 0
def tw9296910097762790406 : Nat := 0
def tw10544553898928021216 : Nat := 0
def tw10964726828370345962 : Nat := 0
def tw13886074831750614465 : Nat := 0
def tw456376731707058163 : Nat := 0
def tw8190272323411871008 : Nat := 0
def tw10499493906772097214 : Nat := 0
def tw1973892776459566106 : Nat := 0
def tw2895043576466875233 : Nat := 0
def tw16239959897447370922 : Nat := 0
def tw16218826333733491746 : Nat := 0
def tw161504364574003749 : Nat := 0
def tw12599546792565345152 : Nat := 0
def tw12370170062550119236 : Nat := 0
def tw15479554361640365571 : Nat := 0
def tw3174110438580989785 : Nat := 0
def tw7938819224947891589 : Nat := 0
def tw12223579955947832475 : Nat := 0
def tw7782674322188950634 : Nat := 0
def tw8963355523792788307 : Nat := 0
def tw2413691193645057157 : Nat := 0
def tw18199763714406420967 : Nat := 0
def tw16628123999443067182 : Nat := 0
def tw11278316869420224969 : Nat := 0
def tw4707589803846218562 : Nat := 0
def tw3368126947605454589 : Nat := 0
def tw18369036371379294885 : Nat := 0
def tw12735942560839102047 : Nat := 0
def tw15574045399498654963 : Nat := 0
def tw16552817059565563054 : Nat := 0
def tw8664664332386695157 : Nat := 0
def tw6023685926001755994 : Nat := 0
def tw8494145863564157645 : Nat := 0
def tw16662967679204291325 : Nat := 0
def tw1357205963456990028 : Nat := 0
def tw12157490388989659538 : Nat := 0
def tw13100168165755278908 : Nat := 0
def tw7893742005746456389 : Nat := 0
def tw13926392377690370890 : Nat := 0
def tw8912992138001218739 : Nat := 0
def tw773731762004138144 : Nat := 0
def tw5302471477739464760 : Nat := 0
def tw5910244062497827315 : Nat := 0
def tw5952519943417668880 : Nat := 0
def tw10777128248906831652 : Nat := 0
def tw823783080274232266 : Nat := 0
def tw2412398631285122122 : Nat := 0
def tw12887073316475990210 : Nat := 0
def tw15969582523466480772 : Nat := 0
def tw18170248404848753198 : Nat := 0
def tw11536618992159315608 : Nat := 0
def tw16536912858881620846 : Nat := 0
def tw1149173922117475581 : Nat := 0
def tw5858770084155249124 : Nat := 0
def tw16691873974049840230 : Nat := 0
def tw18320100219777313623 : Nat := 0
def tw761547132154657917 : Nat := 0
def tw9979076633383001401 : Nat := 0
def tw17321632685779140812 : Nat := 0
def tw2278262146951169189 : Nat := 0
def tw17608229094687286487 : Nat := 0
def tw14642935141259405906 : Nat := 0
def tw807779672443855296 : Nat := 0
def tw14987564017026647497 : Nat := 0
def tw12858867643074028186 : Nat := 0
def tw18159478641848587545 : Nat := 0
def tw11538177568221000677 : Nat := 0
def tw2828176613142720506 : Nat := 0
def tw15909501686651823536 : Nat := 0
def tw16336772228327897421 : Nat := 0
def tw9839621777585185593 : Nat := 0
def tw14863108173574666405 : Nat := 0
def tw8726612888925583310 : Nat := 0
def tw15677579257676870130 : Nat := 0
def tw10660178011384655883 : Nat := 0
def tw13903375366991930877 : Nat := 0
def tw15685013640542841591 : Nat := 0
def tw1645655962745991155 : Nat := 0
def tw11917121350365247098 : Nat := 0
def tw8726632680001380891 : Nat := 0
def tw12024088463374377043 : Nat := 0
def tw17967383024698676776 : Nat := 0
def tw3322753451741258561 : Nat := 0
def tw17494814376719157194 : Nat := 0
def tw7524306584210727934 : Nat := 0
def tw5696553805961961437 : Nat := 0
def tw12715382155820591318 : Nat := 0
def tw6373912377492313584 : Nat := 0
def tw13345731075345260811 : Nat := 0
def tw11227291576893235026 : Nat := 0
def tw4104393069605050917 : Nat := 0
def tw2166702677046045999 : Nat := 0
def tw14700444027599080001 : Nat := 0
def tw10760304153382264615 : Nat := 0
def tw14933425765158310872 : Nat := 0
def tw14706080952609042496 : Nat := 0
def tw18048296425881327939 : Nat := 0
def tw5713931736318557020 : Nat := 0
def tw4127063922499107473 : Nat := 0
def tw4944618654329140948 : Nat := 0
def tw18319128088262539526 : Nat := 0
def tw15512991813222707055 : Nat := 0
def tw831336967836080097 : Nat := 0
def tw10855800386558770018 : Nat := 0
def tw1392078056758217743 : Nat := 0
def tw15122373529117730522 : Nat := 0
def tw15937235453822061787 : Nat := 0
def tw17392263858204316986 : Nat := 0
def tw2748319410577361429 : Nat := 0
def tw15021689734707161064 : Nat := 0
def tw14491168822616041263 : Nat := 0
def tw13323675730672786122 : Nat := 0
def tw12781156040164505997 : Nat := 0
def tw16979588118366856484 : Nat := 0
def tw2619474834773667852 : Nat := 0
def tw6197208650530530498 : Nat := 0
def tw1202627502762203869 : Nat := 0
def tw615697632859470061 : Nat := 0
def tw7089410370482332115 : Nat := 0
def tw15779043798535500670 : Nat := 0
def tw13195926043613057982 : Nat := 0
def tw17211516475022117329 : Nat := 0
def tw14246964539484654812 : Nat := 0
def tw9186270388174410772 : Nat := 0
def tw8573006470495936077 : Nat := 0
def tw7948159965243291334 : Nat := 0
def tw17526979345839532139 : Nat := 0
def tw4104298487294937092 : Nat := 0
def tw3509271600844539277 : Nat := 0
def tw10756139663493662830 : Nat := 0
def tw2424707696933815509 : Nat := 0
def tw5555673052880118484 : Nat := 0
def tw15362239067863726534 : Nat := 0
def tw4462260398759372110 : Nat := 0
def tw16683133237563542413 : Nat := 0
def tw1611908048991064607 : Nat := 0
def tw13014265599741155760 : Nat := 0
def tw2208483120324681385 : Nat := 0
def tw16065927312772199506 : Nat := 0
def tw15735287772588803520 : Nat := 0
def tw10776492450141856420 : Nat := 0
def tw7405201485929715229 : Nat := 0
def tw8111414901223691268 : Nat := 0
def tw5965531866591990147 : Nat := 0
def tw17627486973983965706 : Nat := 0
def tw11828412808381969281 : Nat := 0
def tw2727038572501716353 : Nat := 0
def tw1920845657970634616 : Nat := 0
def tw17004909896214791835 : Nat := 0
def tw15701359128256827785 : Nat := 0
def tw15422379416401160102 : Nat := 0
def tw7285851775895358285 : Nat := 0
def tw4613021424678296338 : Nat := 0
def tw17486268216974750179 : Nat := 0
def tw4711187528583925500 : Nat := 0
def tw813323216091916415 : Nat := 0
def tw106191399362023863 : Nat := 0
def tw4916963082078479518 : Nat := 0
def tw18444811351036274540 : Nat := 0
def tw3499532233888838671 : Nat := 0
def tw14206695360174886735 : Nat := 0
def tw14360393411391348509 : Nat := 0
def tw5965398872482875662 : Nat := 0
def tw3658984910635951192 : Nat := 0
def tw7009513924816274167 : Nat := 0
def tw6792652099927633798 : Nat := 0
def tw16561899966363026308 : Nat := 0
def tw16089273022115982458 : Nat := 0
def tw17334182869234194438 : Nat := 0
def tw10383270719650400733 : Nat := 0
def tw17389973825257233731 : Nat := 0
def tw8849795487209815421 : Nat := 0
def tw13992850947608147382 : Nat := 0
def tw4150345725555149336 : Nat := 0
def tw7890273362307480837 : Nat := 0
def tw10860971125853980914 : Nat := 0
def tw13781668853171831876 : Nat := 0
def tw11201064908487420649 : Nat := 0
def tw11224963623493052206 : Nat := 0
def tw6661747195871113063 : Nat := 0
def tw16415018954365102011 : Nat := 0
def tw1402328141285112281 : Nat := 0
def tw7272503710487170329 : Nat := 0
def tw13319571950658987778 : Nat := 0
def tw4413899086976198344 : Nat := 0
def tw9411968917629743485 : Nat := 0
def tw8689608155985694912 : Nat := 0
def tw8770371226161758101 : Nat := 0
def tw11294780892007173717 : Nat := 0
def tw12863387685720018854 : Nat := 0
def tw16582621987652901934 : Nat := 0
def tw16766298129919164919 : Nat := 0
def tw2573809751141529394 : Nat := 0
def tw7556845236162853914 : Nat := 0
def tw15794272119412458478 : Nat := 0
def tw12176055454997894036 : Nat := 0
def tw10451813498294265585 : Nat := 0
def tw11984377805146152494 : Nat := 0
def tw1083408373478946164 : Nat := 0
def tw5126581778190627130 : Nat := 0
def tw3474697059895020368 : Nat := 0
def tw15758596549506722476 : Nat := 0
def tw10183079895425801437 : Nat := 0
def tw15360038404926671239 : Nat := 0
def tw3589508791172510620 : Nat := 0
def tw2128262953770733267 : Nat := 0
def tw2064758608105406682 : Nat := 0
def tw18389035652853345490 : Nat := 0
def tw10698938503202123710 : Nat := 0
def tw12181529327481771971 : Nat := 0
def tw131192832455800044 : Nat := 0
def tw11243534689739662900 : Nat := 0
def tw14054588377442798540 : Nat := 0
def tw4717533968319191223 : Nat := 0
def tw18396084883307861615 : Nat := 0
def tw14350434384276453645 : Nat := 0
def tw13164893770553175826 : Nat := 0
def tw127648052958159788 : Nat := 0
def tw6691740872515405736 : Nat := 0
def tw11876774305292245502 : Nat := 0
def tw16256845281658696182 : Nat := 0
def tw9154659078845245881 : Nat := 0
def tw13936121707594509796 : Nat := 0
def tw3431622380772876791 : Nat := 0
def tw16899697883014621989 : Nat := 0
def tw797178807377585208 : Nat := 0
def tw45265433879416135 : Nat := 0
def tw15087616247628443862 : Nat := 0
def tw471793904163670271 : Nat := 0
def tw10779905992395256697 : Nat := 0
def tw5359351287057575540 : Nat := 0
def tw4385272054138494496 : Nat := 0
def tw16117257856567325909 : Nat := 0
def tw17468176735216090380 : Nat := 0
def tw1769255492444758579 : Nat := 0
def tw641829225658728722 : Nat := 0
def tw13222590060165318107 : Nat := 0
def tw15809120033266124913 : Nat := 0
def tw14647068108618765066 : Nat := 0
def tw4714253532424463621 : Nat := 0
def tw15355842397528158733 : Nat := 0
def tw2276722052786672887 : Nat := 0
def tw2741619111250071530 : Nat := 0
def tw11089831126923039479 : Nat := 0
def tw17809742361745428623 : Nat := 0
def tw17183397275892618696 : Nat := 0
def tw15024499734333628245 : Nat := 0
def tw9462889865640786374 : Nat := 0
def tw14332076784937015630 : Nat := 0
def tw16002097635120484579 : Nat := 0
def tw5446118016988113769 : Nat := 0
def tw12118332156235943268 : Nat := 0
def tw2236832388576846553 : Nat := 0
def tw1547795562469732215 : Nat := 0
def tw2591289080910002244 : Nat := 0
def tw1409468125455147605 : Nat := 0
def tw10194095930641427378 : Nat := 0
def tw1836030471790744982 : Nat := 0
def tw13080306144876285555 : Nat := 0
def tw5830647855329483942 : Nat := 0
def tw6446357211138337428 : Nat := 0
def tw17447465226745609680 : Nat := 0
def tw3678333579000863514 : Nat := 0
def tw8134805613590127419 : Nat := 0
def tw15411636284462357458 : Nat := 0
def tw14062760806532047373 : Nat := 0
def tw12589915896470951282 : Nat := 0
def tw17936197418098950332 : Nat := 0
def tw15618506895195524663 : Nat := 0
def tw2553236690588879329 : Nat := 0
def tw10520567342783479960 : Nat := 0
def tw4817851994620979539 : Nat := 0
def tw8585827960028735536 : Nat := 0
def tw16068420147105597327 : Nat := 0
def tw5047142950494150675 : Nat := 0
def tw15333962643654119781 : Nat := 0
def tw5586753329648747499 : Nat := 0
def tw13943158254888410984 : Nat := 0
def tw14362086744502526497 : Nat := 0
def tw7210074449558636983 : Nat := 0
def tw9823220558735153052 : Nat := 0
def tw7999541412980741949 : Nat := 0
def tw16303169672801737244 : Nat := 0
def tw618372094006581383 : Nat := 0
def tw15311579650359211162 : Nat := 0
def tw13430123391752469127 : Nat := 0
def tw15306587126846864512 : Nat := 0
def tw12016865458565398099 : Nat := 0
def tw6405038021867948200 : Nat := 0
def tw4053782846224413079 : Nat := 0
def tw14699124705562210037 : Nat := 0
def tw15342472689947367081 : Nat := 0
def tw15058787863843771182 : Nat := 0
def tw4801249835132778307 : Nat := 0
def tw13267626727818713932 : Nat := 0
def tw17190093811409346256 : Nat := 0
def tw775382160833226940 : Nat := 0
def tw2795741371033009966 : Nat := 0
def tw7632288734612108891 : Nat := 0
def tw15744289043698810670 : Nat := 0
def tw13494180179316374869 : Nat := 0
def tw4492427930366324594 : Nat := 0
def tw5802669264650837111 : Nat := 0
def tw1451476411732151472 : Nat := 0
def tw6821220558404301020 : Nat := 0
def tw8293760964643080480 : Nat := 0
def tw17004474412956673649 : Nat := 0
def tw12581430654486656839 : Nat := 0
def tw4509210010590674730 : Nat := 0
def tw999996544712988858 : Nat := 0
def tw5625925659780850632 : Nat := 0
def tw4376303153895812499 : Nat := 0
def tw2021807966421200033 : Nat := 0
def tw2555035885026866897 : Nat := 0
def tw18292056994745065799 : Nat := 0
def tw7647449948460729370 : Nat := 0
def tw18375450952715714634 : Nat := 0
def tw15093568328518840058 : Nat := 0
def tw10409676672321001569 : Nat := 0
def tw16130642574017781122 : Nat := 0
def tw6394532185789602582 : Nat := 0
def tw5242131279737353341 : Nat := 0
def tw1706154387797996383 : Nat := 0
def tw12440808428690531121 : Nat := 0
def tw9390128719748489292 : Nat := 0
def tw11524342927224315687 : Nat := 0
def tw3060518690044916114 : Nat := 0
def tw17688704985606364559 : Nat := 0
def tw7935921479285522397 : Nat := 0
def tw4387130221994837338 : Nat := 0
def tw444045402405009066 : Nat := 0
def tw5433619000091308407 : Nat := 0
def tw5934038531905662580 : Nat := 0
def tw17203305517910990129 : Nat := 0
def tw1009842619323686335 : Nat := 0
def tw1598959799929200979 : Nat := 0
def tw10372854608977715682 : Nat := 0
def tw4756882277234818850 : Nat := 0
def tw4135555161666164239 : Nat := 0
def tw14171834922396865569 : Nat := 0
def tw5459395460456250688 : Nat := 0
def tw11503233972808736640 : Nat := 0
def tw2679937016538406314 : Nat := 0
def tw8146971507262704493 : Nat := 0
def tw4560406622880119132 : Nat := 0
def tw16292823815966029302 : Nat := 0
def tw18230470396064219404 : Nat := 0
def tw1470496662711654653 : Nat := 0
def tw15423967241178800312 : Nat := 0
def tw7681059443597413215 : Nat := 0
def tw16015012692627270649 : Nat := 0
def tw5627448473228874808 : Nat := 0
def tw16489443408275403675 : Nat := 0
def tw5005988521273558325 : Nat := 0
def tw16333549864230196085 : Nat := 0
def tw16251095685493281481 : Nat := 0
def tw10792690902224765322 : Nat := 0
def tw12171382927088986914 : Nat := 0
def tw17841112051577671789 : Nat := 0
def tw16530490145887721525 : Nat := 0
def tw5223879232232480196 : Nat := 0
def tw17944063665887880300 : Nat := 0
def tw13355284290625357598 : Nat := 0
def tw1811958895237611240 : Nat := 0
def tw11801016731594258292 : Nat := 0
def tw17069360898480122480 : Nat := 0
def tw16422437374258320176 : Nat := 0
def tw3593380988196206628 : Nat := 0
def tw7242762651434845629 : Nat := 0
def tw12253484494972444043 : Nat := 0
def tw9515257568384548906 : Nat := 0
def tw11632257605132154561 : Nat := 0
def tw6498812994354441954 : Nat := 0
def tw11565851813034073960 : Nat := 0
def tw8058741097649466873 : Nat := 0
def tw13432011372304693877 : Nat := 0
def tw8141864672300335806 : Nat := 0
def tw2262454165738673910 : Nat := 0
def tw12002422702259615854 : Nat := 0
def tw7338305177553409336 : Nat := 0
def tw13768381834849132701 : Nat := 0
def tw10227352675028556782 : Nat := 0
def tw10502633677545463016 : Nat := 0
def tw6460792329052909556 : Nat := 0
def tw4213877215454309628 : Nat := 0
def tw16192376508284390704 : Nat := 0
def tw11211599100627955457 : Nat := 0
def tw14132817583988463154 : Nat := 0
def tw401643602151770000 : Nat := 0
def tw8590557216784969884 : Nat := 0
def tw1376592504846045097 : Nat := 0
def tw1097852925494333088 : Nat := 0
def tw6180711635734022782 : Nat := 0
def tw11575118189538908803 : Nat := 0
def tw18368399405583186488 : Nat := 0
def tw14462254811164540270 : Nat := 0
def tw6154666015253042339 : Nat := 0
def tw10286834592832703732 : Nat := 0
def tw5470745478056351987 : Nat := 0
def tw14548597449929725844 : Nat := 0
def tw17125807077396449199 : Nat := 0
def tw10757745282457386312 : Nat := 0
def tw4477383578158393869 : Nat := 0
def tw10041016284418799948 : Nat := 0
def tw10769706435518546191 : Nat := 0
def tw8987707914693232384 : Nat := 0
def tw11690244002732921049 : Nat := 0
def tw6413748523688289559 : Nat := 0
def tw8089781545698018617 : Nat := 0
def tw8427901619654281222 : Nat := 0
def tw305091993081013794 : Nat := 0
def tw4314654605186559893 : Nat := 0
def tw7447174627954843989 : Nat := 0
def tw3441900274198015162 : Nat := 0
def tw16923613555839566275 : Nat := 0
def tw4903635850913380005 : Nat := 0
def tw16647857192667615476 : Nat := 0
def tw10151105851657695031 : Nat := 0
def tw17758854863005243842 : Nat := 0
def tw17419892651584629633 : Nat := 0
def tw14250999107261445812 : Nat := 0
def tw4201100271585938806 : Nat := 0
def tw6351816948255635662 : Nat := 0
def tw5024495075161250965 : Nat := 0
def tw16376789799327439907 : Nat := 0
def tw6640003164222778602 : Nat := 0
def tw12055661398017949600 : Nat := 0
def tw7190668538566157005 : Nat := 0
def tw13713359630444533727 : Nat := 0
def tw7417888539634791044 : Nat := 0
def tw7523141935200776136 : Nat := 0
def tw4919344352320904861 : Nat := 0
def tw11991418977377247832 : Nat := 0
def tw16686967770727649625 : Nat := 0
def tw18030042520453267603 : Nat := 0
def tw1999513794603560802 : Nat := 0
def tw5044976642977171078 : Nat := 0
def tw8673500678589595420 : Nat := 0
def tw13756746955119538832 : Nat := 0
def tw18177117895681262968 : Nat := 0
def tw1388511754820820707 : Nat := 0
def tw10401134593828712106 : Nat := 0
def tw13685578095090291 : Nat := 0
def tw13273888998232159642 : Nat := 0
def tw8968668437138814380 : Nat := 0
def tw6655215871666377458 : Nat := 0
def tw5918125218470914101 : Nat := 0
def tw14337198725146951260 : Nat := 0
def tw3560638735753030502 : Nat := 0
def tw15070954581905436200 : Nat := 0
def tw10348746919017474525 : Nat := 0
def tw4898356799526403343 : Nat := 0
def tw16551773807183323528 : Nat := 0
def tw5895450559042761511 : Nat := 0
def tw15748893115385934361 : Nat := 0
def tw9540909520758046133 : Nat := 0
def tw13102869222984065794 : Nat := 0
def tw15683822351329886826 : Nat := 0
def tw15353905164686707981 : Nat := 0
def tw6325579560827069102 : Nat := 0
def tw10227235579773809954 : Nat := 0
def tw8007177640846877431 : Nat := 0
def tw12933191238672832437 : Nat := 0
def tw9699074809548097073 : Nat := 0
def tw2936945460160972597 : Nat := 0
def tw7086292398794814513 : Nat := 0
def tw5040319904066600173 : Nat := 0
def tw16639703882494492922 : Nat := 0
def tw3586551556404650342 : Nat := 0
def tw3067592906797885310 : Nat := 0
def tw15636006310859834909 : Nat := 0
def tw4440453515825231853 : Nat := 0
def tw14793949024594894445 : Nat := 0
def tw13556133354014328522 : Nat := 0
def tw13549913900065062975 : Nat := 0
def tw9170596963873254678 : Nat := 0
def tw10315928604868645415 : Nat := 0
def tw10469810541376421138 : Nat := 0
def tw3242137675691628480 : Nat := 0
def tw955055168791449190 : Nat := 0
def tw4628030974673025558 : Nat := 0
def tw15521965178826876497 : Nat := 0
def tw15776325095800435526 : Nat := 0
def tw8390552955958330109 : Nat := 0
def tw2727994372316830974 : Nat := 0
def tw15293691840523874995 : Nat := 0
def tw5738085779494228235 : Nat := 0
def tw8020223979165054884 : Nat := 0
def tw13295263659570443162 : Nat := 0
def tw13275889304736059490 : Nat := 0
def tw5946868600043196614 : Nat := 0
def tw8665940690523606509 : Nat := 0
def tw1701090839716185356 : Nat := 0
def tw14134886411223838370 : Nat := 0
def tw209421137572973664 : Nat := 0
def tw14927419212370635867 : Nat := 0
def tw17960950622555282297 : Nat := 0
def tw17313486143857741307 : Nat := 0
def tw12512569839605960859 : Nat := 0
def tw13935648438140919418 : Nat := 0
def tw683922437710120864 : Nat := 0
def tw12960161876609658767 : Nat := 0
def tw2540457930779256433 : Nat := 0
def tw15256689163636229547 : Nat := 0
def tw10970358616424693682 : Nat := 0
def tw507881136086359892 : Nat := 0
def tw6273226368018291029 : Nat := 0
def tw4832622765147088775 : Nat := 0
def tw17274177788952562273 : Nat := 0
def tw8404465984388288983 : Nat := 0
def tw8208497481379047462 : Nat := 0
def tw1470837870107159835 : Nat := 0
def tw5827233863619205151 : Nat := 0
def tw13304188266451269779 : Nat := 0
def tw7312408839023892472 : Nat := 0
def tw11412138815008824048 : Nat := 0
def tw12315303360687143746 : Nat := 0
def tw10595411420796853242 : Nat := 0
def tw8384567729740730971 : Nat := 0
def tw10139050861424070903 : Nat := 0
def tw5595313385316189808 : Nat := 0
def tw1233643485814399901 : Nat := 0
def tw3794859065224069513 : Nat := 0
def tw1494260350079289745 : Nat := 0
def tw1608215156526346491 : Nat := 0
def tw16897187280154900419 : Nat := 0
def tw3478683112705242706 : Nat := 0
def tw7218714636646326624 : Nat := 0
def tw17968028643870848276 : Nat := 0
def tw7894808640919236931 : Nat := 0
def tw16126661531548583796 : Nat := 0
def tw16093287032774609518 : Nat := 0
def tw17747636929954824404 : Nat := 0
def tw9689688320313028924 : Nat := 0
def tw10657421062693635026 : Nat := 0
def tw11173166848470641198 : Nat := 0
def tw3824157244667561487 : Nat := 0
def tw8841733824391887877 : Nat := 0
def tw6331609931584894960 : Nat := 0
def tw12181042456297524631 : Nat := 0
def tw9260935949536053860 : Nat := 0
def tw8891474648379142812 : Nat := 0
def tw4548093037328731667 : Nat := 0
def tw15531103583711054840 : Nat := 0
def tw14127382451154379422 : Nat := 0
def tw15132379327266222351 : Nat := 0
def tw34792180258802190 : Nat := 0
def tw6276159383467910718 : Nat := 0
def tw11970733210096214338 : Nat := 0
def tw8581483557684304980 : Nat := 0
def tw3272999671397712237 : Nat := 0
def tw13376421797727643210 : Nat := 0
def tw4465297919200369845 : Nat := 0
def tw8793974149004958826 : Nat := 0
def tw16662552632627736195 : Nat := 0
def tw2486849482517135552 : Nat := 0
def tw1690575097328385267 : Nat := 0
def tw9722254461507214951 : Nat := 0
def tw17138691668121019781 : Nat := 0
def tw9807543288534421428 : Nat := 0
def tw6049742735074221210 : Nat := 0
def tw8341447075808488570 : Nat := 0
def tw12826638893669940811 : Nat := 0
def tw14624687009298233161 : Nat := 0
def tw14665580932309547653 : Nat := 0
def tw9593704398338259324 : Nat := 0
def tw2165984116075490979 : Nat := 0
def tw10632164683229803977 : Nat := 0
def tw3257394645897312708 : Nat := 0
def tw2178186448878838870 : Nat := 0
def tw13820035427962876043 : Nat := 0
def tw17479635423370632975 : Nat := 0
def tw14129330978684680507 : Nat := 0
def tw6946160523095108921 : Nat := 0
def tw6034356258001731261 : Nat := 0
def tw9529625134609588657 : Nat := 0
def tw638124699076554418 : Nat := 0
def tw1484937334646829033 : Nat := 0
def tw17758896382614588180 : Nat := 0
def tw2005764814025573329 : Nat := 0
def tw1680645318923165141 : Nat := 0
def tw7226621369555412860 : Nat := 0
def tw5576939881831125475 : Nat := 0
def tw13687767357339232226 : Nat := 0
def tw13072575436792281277 : Nat := 0
def tw4800869037273241195 : Nat := 0
def tw874224852728240991 : Nat := 0
def tw13007720638943085208 : Nat := 0
def tw4810172029709302639 : Nat := 0
def tw8859912498637893006 : Nat := 0
def tw11820845139915840117 : Nat := 0
def tw6120355135162595888 : Nat := 0
def tw16710938164249229608 : Nat := 0
def tw2269625032714348290 : Nat := 0
def tw16900938237885867318 : Nat := 0
def tw3662918215577962357 : Nat := 0
def tw10566855640455638879 : Nat := 0
def tw16300912823646854634 : Nat := 0
def tw1272010182548026493 : Nat := 0
def tw14892448850425648774 : Nat := 0
def tw7054456763452849754 : Nat := 0
def tw10052690359549164221 : Nat := 0
def tw16229067540501031456 : Nat := 0
def tw18251364187272639735 : Nat := 0
def tw2365249254157319907 : Nat := 0
def tw12448200209539024633 : Nat := 0
def tw16227529542747329964 : Nat := 0
def tw10931151020250063605 : Nat := 0
def tw4180258456341870186 : Nat := 0
def tw3587230950123561210 : Nat := 0
def tw7937444352990509757 : Nat := 0
def tw386874247479309775 : Nat := 0
def tw9662994746861350867 : Nat := 0
def tw9146367685729130878 : Nat := 0
def tw1457453846760528767 : Nat := 0
def tw9806221103886257899 : Nat := 0
def tw3596450907640882940 : Nat := 0
def tw14066349694707019549 : Nat := 0
def tw16170776541285571823 : Nat := 0
def tw17161174089059901783 : Nat := 0
def tw16406054164539614287 : Nat := 0
def tw17702790241050672348 : Nat := 0
def tw3751110782350319240 : Nat := 0
def tw3529807321715439682 : Nat := 0
def tw15490022323124648832 : Nat := 0
def tw2176802776650817790 : Nat := 0
def tw331484007667555827 : Nat := 0
def tw11510355615491579591 : Nat := 0
def tw8476914499754242792 : Nat := 0
def tw10356977521511590511 : Nat := 0
def tw8796959683710158758 : Nat := 0
def tw17034220611553112735 : Nat := 0
def tw8771551369304266321 : Nat := 0
def tw14978720107304343447 : Nat := 0
def tw3734428432375929479 : Nat := 0
def tw7912869386777224068 : Nat := 0
def tw6134295730647412386 : Nat := 0
def tw2071635788237156596 : Nat := 0
def tw7941533713004376501 : Nat := 0
def tw4982349857893535547 : Nat := 0
def tw4407512343802470106 : Nat := 0
def tw9810446819517319230 : Nat := 0
def tw15761619750866532627 : Nat := 0
def tw4157147084347172637 : Nat := 0
def tw5484269335973601912 : Nat := 0
def tw16181742550059333433 : Nat := 0
def tw6916595226900788611 : Nat := 0
def tw10799749427040394788 : Nat := 0
def tw13968033276938984529 : Nat := 0
def tw6607301960486011157 : Nat := 0
def tw12711002108533585539 : Nat := 0
def tw4547210566687146300 : Nat := 0
def tw1108648723710763904 : Nat := 0
def tw6343780994436874126 : Nat := 0
def tw10054799278275373959 : Nat := 0
def tw17165404818513592540 : Nat := 0
def tw2737193350413324725 : Nat := 0
def tw18004011689428628058 : Nat := 0
def tw11192799022642286022 : Nat := 0
def tw14854837327959224709 : Nat := 0
def tw11329954919799966561 : Nat := 0
def tw16340161075689960220 : Nat := 0
def tw8853786680708852749 : Nat := 0
def tw1122661997215862464 : Nat := 0
def tw8485942634887051056 : Nat := 0
def tw10487675431111701475 : Nat := 0
def tw16379114592984935473 : Nat := 0
def tw13305654426639619593 : Nat := 0
def tw6853159244378915016 : Nat := 0
def tw3467357361676016554 : Nat := 0
def tw2745872917492161155 : Nat := 0
def tw8284342416348907497 : Nat := 0
def tw6198404173090426116 : Nat := 0
def tw4263911250109030705 : Nat := 0
def tw1642451264748935783 : Nat := 0
def tw890208203227986399 : Nat := 0
def tw4451396307980317209 : Nat := 0
def tw7001199427841004282 : Nat := 0
def tw10277553395289845032 : Nat := 0
def tw4203120524996403115 : Nat := 0
def tw14732671145295827248 : Nat := 0
def tw2088183980525941935 : Nat := 0
def tw7875288529615810997 : Nat := 0
def tw1609663077872648863 : Nat := 0
def tw764752075935219654 : Nat := 0
def tw14407302905487153974 : Nat := 0
def tw15204329452104043465 : Nat := 0
def tw6703728731564939257 : Nat := 0
def tw16452028087216857325 : Nat := 0
def tw9867590137360239749 : Nat := 0
def tw9542253464644760522 : Nat := 0
def tw9418607600749015112 : Nat := 0
def tw13857914687748324302 : Nat := 0
def tw563240901090433034 : Nat := 0
def tw6545692389926834415 : Nat := 0
def tw4079704185792441411 : Nat := 0
def tw8121340156097839322 : Nat := 0
def tw17593215445572523240 : Nat := 0
def tw18006543934167555412 : Nat := 0
def tw11869978110408393610 : Nat := 0
def tw17335551490231485564 : Nat := 0
def tw14660737723448184248 : Nat := 0
def tw6412764862910451866 : Nat := 0
def tw5041597676252101131 : Nat := 0
def tw16308241223024511257 : Nat := 0
def tw11653292371601237189 : Nat := 0
def tw5158655973404156108 : Nat := 0
def tw7121802556228676129 : Nat := 0
def tw6227047284456044244 : Nat := 0
def tw14043267371058360880 : Nat := 0
def tw6894723177159895669 : Nat := 0
def tw10856048793859992115 : Nat := 0
def tw8122568622602385874 : Nat := 0
def tw8161817013116641610 : Nat := 0
def tw9781109429873518560 : Nat := 0
def tw5601782642506582560 : Nat := 0
def tw17360736198979373636 : Nat := 0
def tw2267280038688045076 : Nat := 0
def tw11216104334878554406 : Nat := 0
def tw17478931954318403286 : Nat := 0
def tw14769864182019617127 : Nat := 0
def tw14172153901718580304 : Nat := 0
def tw15753647808695840963 : Nat := 0
def tw337355784498796476 : Nat := 0
def tw2594056419653812842 : Nat := 0
def tw9762051916042115646 : Nat := 0
def tw9242760784649516356 : Nat := 0
def tw16293793031889768423 : Nat := 0
def tw5907137488598877946 : Nat := 0
def tw1850920878714074026 : Nat := 0
def tw4314376624801084752 : Nat := 0
def tw3761282484978870752 : Nat := 0
def tw8177624656429011929 : Nat := 0
def tw5540308179583270689 : Nat := 0
def tw4022145138804249472 : Nat := 0
def tw15840492280648091948 : Nat := 0
def tw8379218500785397136 : Nat := 0
def tw2735807201098103806 : Nat := 0
def tw16115502789353275605 : Nat := 0
def tw5751622240924640507 : Nat := 0
def tw2155049422725936354 : Nat := 0
def tw5479039680085169564 : Nat := 0
def tw15928262855415484860 : Nat := 0
def tw17763473833637046610 : Nat := 0
def tw3572767451328882004 : Nat := 0
def tw4318183474062648818 : Nat := 0
def tw305602685042290223 : Nat := 0
def tw12343570745656556759 : Nat := 0
def tw3096990152827804487 : Nat := 0
def tw6371119779456153216 : Nat := 0
def tw11999613872040143973 : Nat := 0
def tw2817957131902069366 : Nat := 0
def tw370622820693448535 : Nat := 0
def tw10738761511521421391 : Nat := 0
def tw18207829708960458743 : Nat := 0
def tw7370696309374998996 : Nat := 0
def tw8695007979279006918 : Nat := 0
def tw4946300580605617503 : Nat := 0
def tw7935543326837783255 : Nat := 0
def tw15643666312827783157 : Nat := 0
def tw3524349404922670949 : Nat := 0
def tw3449075183823170863 : Nat := 0
def tw2366161432773820774 : Nat := 0
def tw5988317032127080903 : Nat := 0
def tw6182123509064857566 : Nat := 0
def tw850073044878831525 : Nat := 0
def tw3753782450223810744 : Nat := 0
def tw2278615183737352435 : Nat := 0
def tw7193150136085364928 : Nat := 0
def tw17987036098727839066 : Nat := 0
def tw1122996722357755572 : Nat := 0
def tw18294491590406918766 : Nat := 0
def tw15371908063530472521 : Nat := 0
def tw6439632096442736701 : Nat := 0
def tw8694940790795527777 : Nat := 0
def tw6632725507360051649 : Nat := 0
def tw15576354069137319513 : Nat := 0
def tw10906161070467784626 : Nat := 0
def tw10777875264146713608 : Nat := 0
def tw6794189055281172469 : Nat := 0
def tw14192288940486109649 : Nat := 0
def tw3509940233402698655 : Nat := 0
def tw9594807135470734700 : Nat := 0
def tw15955036114662557332 : Nat := 0
def tw5273580358028427881 : Nat := 0
def tw12474575994205153019 : Nat := 0
def tw4183269000332186612 : Nat := 0
def tw5658339749381060224 : Nat := 0
def tw5588740489895120960 : Nat := 0
def tw12394926480755046575 : Nat := 0
def tw18155779047927603101 : Nat := 0
def tw4120022702242336222 : Nat := 0
def tw7593795694382525033 : Nat := 0
def tw13995572014447013087 : Nat := 0
def tw2348823448222987132 : Nat := 0
def tw15800004029652674797 : Nat := 0
def tw2064441563994238867 : Nat := 0
def tw14567754497106283570 : Nat := 0
def tw2316369541785869367 : Nat := 0
def tw14034887944437237774 : Nat := 0
def tw13371235381551379566 : Nat := 0
def tw3649538316418132831 : Nat := 0
def tw2362035427260796495 : Nat := 0
def tw11840657501288301901 : Nat := 0
def tw4972152909461963622 : Nat := 0
def tw11653848672955216393 : Nat := 0
def tw5698098358908739767 : Nat := 0
def tw8176808426520576102 : Nat := 0
def tw14815610290553174454 : Nat := 0
def tw6422186045447713138 : Nat := 0
def tw11831791283139142971 : Nat := 0
def tw6175874910477414865 : Nat := 0
def tw4641281848969523801 : Nat := 0
def tw3587906615641932485 : Nat := 0
def tw15998950565790139507 : Nat := 0
def tw6681604816750054688 : Nat := 0
def tw13869446508226688054 : Nat := 0
def tw3985985962301345173 : Nat := 0
def tw14052801901692879512 : Nat := 0
def tw5922216484943473748 : Nat := 0
def tw11349609421210087609 : Nat := 0
def tw18382560144036990091 : Nat := 0
def tw18015945538486754552 : Nat := 0
def tw10371066499758870383 : Nat := 0
def tw4690314657487808229 : Nat := 0
def tw1901333859138747449 : Nat := 0
def tw6317222687635548676 : Nat := 0
def tw11766806092234047864 : Nat := 0
def tw12714448345769663575 : Nat := 0
def tw10361393660296791501 : Nat := 0
def tw15502087615826209203 : Nat := 0
def tw14728575749125886694 : Nat := 0
def tw9251754172386830108 : Nat := 0
def tw5487825619339310009 : Nat := 0
def tw405766440076550597 : Nat := 0
def tw4153902378128208453 : Nat := 0
def tw18141923980217146832 : Nat := 0
def tw3430499727805932697 : Nat := 0
def tw16085012044981618179 : Nat := 0
def tw4572711314476991687 : Nat := 0
def tw4326057256578579977 : Nat := 0
def tw17370019022511899946 : Nat := 0
def tw18158190536964027528 : Nat := 0
def tw15937195501827872104 : Nat := 0
def tw100163963248266854 : Nat := 0
def tw328462139767674022 : Nat := 0
def tw17684389557829481949 : Nat := 0
def tw12122671364793927603 : Nat := 0
def tw15104035829942506465 : Nat := 0
def tw2474522294114884298 : Nat := 0
def tw13191288858957568192 : Nat := 0
def tw2831938476871018841 : Nat := 0
def tw12366764289075455783 : Nat := 0
def tw11498642976518416224 : Nat := 0
def tw556888481808717079 : Nat := 0
def tw2762433204213428696 : Nat := 0
def tw7757677822181942334 : Nat := 0
def tw605862231412786372 : Nat := 0
def tw14616978035995743357 : Nat := 0
def tw14118046426231483556 : Nat := 0
def tw9488228924455187474 : Nat := 0
def tw15161182835901811163 : Nat := 0
def tw29710175537498563 : Nat := 0
def tw6758347413496937836 : Nat := 0
def tw8854206812657160181 : Nat := 0
def tw250577576532500415 : Nat := 0
def tw10729643343116441615 : Nat := 0
def tw17172439506734556393 : Nat := 0
def tw15638455621134732361 : Nat := 0
def tw15483489405390706673 : Nat := 0
def tw14475483900306584215 : Nat := 0
def tw10352766454410977796 : Nat := 0
def tw6533283761678355078 : Nat := 0
def tw6661760135038900988 : Nat := 0
def tw14996706396170272373 : Nat := 0
def tw8559044659285553624 : Nat := 0
def tw10986158106326848105 : Nat := 0
def tw9487976959937488350 : Nat := 0
def tw2248306099133473144 : Nat := 0
def tw7108878281057031511 : Nat := 0
def tw13538667547299085742 : Nat := 0
def tw2469206118021389242 : Nat := 0
def tw1848556148061695506 : Nat := 0
def tw13657810115147411423 : Nat := 0
def tw11618866588899495606 : Nat := 0
def tw862870071912163902 : Nat := 0
def tw5622571179454968844 : Nat := 0
def tw17853932221423096821 : Nat := 0
def tw11298861080764929552 : Nat := 0
def tw1409601402579836083 : Nat := 0
def tw2538552468476151191 : Nat := 0
def tw13921713870561491649 : Nat := 0
def tw13616139233289176954 : Nat := 0
def tw17228124818487467410 : Nat := 0
def tw3562342406308623144 : Nat := 0
def tw16779520003505557665 : Nat := 0
def tw606780289375182495 : Nat := 0
def tw2133740393832913718 : Nat := 0
def tw16531040334483591755 : Nat := 0
def tw14548832688647888009 : Nat := 0
def tw8661911202520948172 : Nat := 0
def tw15381141222562167332 : Nat := 0
def tw16241252168871660015 : Nat := 0
def tw14452161033502184723 : Nat := 0
def tw18280362762742039549 : Nat := 0
def tw13598248144839528006 : Nat := 0
def tw16489615302237467391 : Nat := 0
def tw7935474008555064635 : Nat := 0
def tw10219172181926936317 : Nat := 0
def tw6960758554187207275 : Nat := 0
def tw14200593756308564707 : Nat := 0
def tw16415722563432980382 : Nat := 0
def tw16845956960213632720 : Nat := 0
def tw13076137578906842008 : Nat := 0
def tw11266997295835668390 : Nat := 0
def tw17153971394864767878 : Nat := 0
def tw16706883405009152871 : Nat := 0
def tw5596175639657456738 : Nat := 0
def tw12689289382347158463 : Nat := 0
def tw10446488090063776810 : Nat := 0
def tw5028803728127401229 : Nat := 0
def tw4102298689878783392 : Nat := 0
def tw11041643047180088930 : Nat := 0
def tw16881440836063892328 : Nat := 0
def tw13502363543083593312 : Nat := 0
def tw11374754756148005096 : Nat := 0
def tw3431688708504715381 : Nat := 0
def tw13444680905800695389 : Nat := 0
def tw2396731531933663633 : Nat := 0
def tw11907834822057388380 : Nat := 0
def tw11682636096996821510 : Nat := 0
def tw934840027862053179 : Nat := 0
def tw11352038821000316059 : Nat := 0
def tw11724655328684136001 : Nat := 0
def tw2383965209863258964 : Nat := 0
def tw3386092853695120070 : Nat := 0
def tw10419132232882028673 : Nat := 0
def tw3760655397824777882 : Nat := 0
def tw12226038641711048952 : Nat := 0
def tw13021053323799062085 : Nat := 0
def tw2122680362326065062 : Nat := 0
def tw17335498433898895631 : Nat := 0
def tw3231193800346200680 : Nat := 0
def tw17429143835311674344 : Nat := 0
def tw6898432946250908090 : Nat := 0
def tw13748128517850563697 : Nat := 0
def tw4608333765507156470 : Nat := 0
def tw10752811641538796407 : Nat := 0
def tw5012524746564836582 : Nat := 0
def tw16436984213538468127 : Nat := 0
def tw11387523713424918241 : Nat := 0
def tw1894134959369031111 : Nat := 0
def tw9987413809438502262 : Nat := 0
def tw3867798680287441535 : Nat := 0
def tw14320667067585399566 : Nat := 0
def tw8642233317079120259 : Nat := 0
def tw10387895424343241434 : Nat := 0
def tw17718170861991685500 : Nat := 0
def tw17283934121818297854 : Nat := 0
def tw4385949269310919208 : Nat := 0
def tw16330084779258279923 : Nat := 0
def tw388716649209048180 : Nat := 0
def tw17931208273028662439 : Nat := 0
def tw14872836864254361607 : Nat := 0
def tw10949232829445668114 : Nat := 0
def tw14037152741673223958 : Nat := 0
def tw9366466717312068989 : Nat := 0
def tw10814975568938150463 : Nat := 0
def tw15817496593831875920 : Nat := 0
def tw15396617804381660559 : Nat := 0
def tw16667908584329650983 : Nat := 0
def tw15000180662522361019 : Nat := 0
def tw17985882210013574168 : Nat := 0
def tw8853917523298557129 : Nat := 0
def tw1913780087157449703 : Nat := 0
def tw967099602047346778 : Nat := 0
def tw17481139753763117472 : Nat := 0
def tw11031798536630603419 : Nat := 0
def tw12747225321230404571 : Nat := 0
def tw11607258239007747691 : Nat := 0
def tw9087761554487415269 : Nat := 0
def tw3896022029955342142 : Nat := 0
def tw10564381894995959667 : Nat := 0
def tw9780141626455106544 : Nat := 0
def tw12841718255879331736 : Nat := 0
def tw10114939085189572270 : Nat := 0
def tw18379425113101973710 : Nat := 0
def tw9330886866660772533 : Nat := 0
def tw16931710179820254241 : Nat := 0
def tw13476109103859772836 : Nat := 0
def tw17923643047362057164 : Nat := 0
def tw5653731404530630390 : Nat := 0
def tw17741894775868422850 : Nat := 0
def tw11245004485274557152 : Nat := 0
def tw6770914726446876239 : Nat := 0
def tw13244104458579333606 : Nat := 0
def tw9486426608855280770 : Nat := 0
def tw8919219497508591910 : Nat := 0
def tw11901999364859358888 : Nat := 0
def tw13403378579328697263 : Nat := 0
def tw2095231829592904186 : Nat := 0
def tw7274051034632745512 : Nat := 0
def tw9882480946855398255 : Nat := 0
def tw439559167363957772 : Nat := 0
def tw16129778110352114683 : Nat := 0
def tw13020540185152517948 : Nat := 0
def tw7440390462191683990 : Nat := 0
def tw2367126681239140931 : Nat := 0
def tw17555658051681794288 : Nat := 0
def tw569637597635016365 : Nat := 0
def tw12363629101901422190 : Nat := 0
def tw7796365599496882190 : Nat := 0
def tw12616968983740125395 : Nat := 0
def tw9291963368056976751 : Nat := 0
def tw14506947527202644544 : Nat := 0
def tw17147106177658748087 : Nat := 0
def tw9120399117477096608 : Nat := 0
def tw9310706753056483672 : Nat := 0
def tw16808382930910638980 : Nat := 0
def tw207698344129787553 : Nat := 0
def tw4259017138435734212 : Nat := 0
def tw12662481678893752931 : Nat := 0
def tw3764494470543819989 : Nat := 0
def tw15849557040720581156 : Nat := 0
def tw11937616180893077121 : Nat := 0
def tw13422980197779738193 : Nat := 0
def tw8555738238806668405 : Nat := 0
def tw2963490934949161333 : Nat := 0
def tw15455224063786280766 : Nat := 0
def tw10007564674846080198 : Nat := 0
def tw801163042870802730 : Nat := 0
def tw8492617789869303874 : Nat := 0
def tw10107608825813773890 : Nat := 0
def tw16147230392369746364 : Nat := 0
def tw16469986422774380490 : Nat := 0
def tw3974512247613119263 : Nat := 0
def tw10624358478322278194 : Nat := 0
def tw16230918204019581399 : Nat := 0
def tw14919793784363395838 : Nat := 0
def tw7769960353246360540 : Nat := 0
def tw3279553416695607930 : Nat := 0
def tw4243626819121226912 : Nat := 0
def tw4008625541695680928 : Nat := 0
def tw6268769293691137465 : Nat := 0
def tw15749543260502354227 : Nat := 0
def tw7017146178861375126 : Nat := 0
def tw4352260165868167620 : Nat := 0
def tw6647570940753284277 : Nat := 0
def tw8683988672554557768 : Nat := 0
def tw14759349834923581759 : Nat := 0
def tw9234240321659530910 : Nat := 0
def tw1260512710388555010 : Nat := 0
def tw4051441861766134857 : Nat := 0
def tw9370649239082034554 : Nat := 0
def tw11040759110082594553 : Nat := 0
def tw7716600270492026716 : Nat := 0
def tw1958795571829080176 : Nat := 0
def tw17302928836033158786 : Nat := 0
def tw8318025719784244501 : Nat := 0
def tw18227650483451059417 : Nat := 0
def tw18149191389420806606 : Nat := 0
def tw2954075333987388306 : Nat := 0
def tw9853258499440206785 : Nat := 0
def tw15924998817986160118 : Nat := 0
def tw14340408571785466988 : Nat := 0
def tw6054661151015296277 : Nat := 0
def tw9689075707710159718 : Nat := 0
def tw579871924354637181 : Nat := 0
def tw7595588711295866366 : Nat := 0
def tw4216535874223459752 : Nat := 0
def tw4016007434251347325 : Nat := 0
def tw8079786189669829886 : Nat := 0
def tw13254948516904578959 : Nat := 0
def tw3965611891836960229 : Nat := 0
def tw12788462770458411612 : Nat := 0
def tw14473477007557857428 : Nat := 0
def tw18326298526744508345 : Nat := 0
def tw8498269321159458957 : Nat := 0
def tw9478873199012217086 : Nat := 0
def tw7335243925563152063 : Nat := 0
def tw5658705824284030509 : Nat := 0
def tw12382708009175725066 : Nat := 0
def tw2476620091626443398 : Nat := 0
def tw8343614730302781921 : Nat := 0
def tw10243889950715244523 : Nat := 0
def tw7875916496868169026 : Nat := 0
def tw8824884277577560069 : Nat := 0
def tw8827554843541406921 : Nat := 0
def tw4016697420120058490 : Nat := 0
def tw10018722082678397347 : Nat := 0
def tw3738165269308427560 : Nat := 0
def tw15152746621162707933 : Nat := 0
def tw412194100965714281 : Nat := 0
def tw9932353057571086948 : Nat := 0
def tw3182556095770269911 : Nat := 0
def tw2331307272821070984 : Nat := 0
def tw11982039181436091942 : Nat := 0
def tw14967792449223075506 : Nat := 0
def tw10115706004740351582 : Nat := 0
def tw5080966257768162788 : Nat := 0
def tw10612682116272740226 : Nat := 0
def tw12310795132757765078 : Nat := 0
def tw1729316036839031726 : Nat := 0
def tw3155002677143390366 : Nat := 0
def tw4349965447609307977 : Nat := 0
def tw5548641127512754468 : Nat := 0
def tw8515493630762954989 : Nat := 0
def tw11200335711408674050 : Nat := 0
def tw17756474628263956885 : Nat := 0
def tw6102157761595892691 : Nat := 0
def tw16347385932894610706 : Nat := 0
def tw15793048003806543167 : Nat := 0
def tw3263157372657074645 : Nat := 0
def tw11377409095971851287 : Nat := 0
def tw2837662180802387170 : Nat := 0
def tw14192597141934062780 : Nat := 0
def tw889621100422237394 : Nat := 0
def tw884135583524835995 : Nat := 0
def tw763123568308521825 : Nat := 0
def tw12383607080298287225 : Nat := 0
def tw5164666078835190528 : Nat := 0
def tw11779684621811565574 : Nat := 0
def tw18284359896910719295 : Nat := 0
def tw14078018261773370010 : Nat := 0
def tw2698069612852415135 : Nat := 0
def tw13392695805385839633 : Nat := 0
def tw13715907972595249258 : Nat := 0
def tw17789565023179053790 : Nat := 0
def tw8984110090257454506 : Nat := 0
def tw3978403997717395616 : Nat := 0
def tw11922334943473745907 : Nat := 0
def tw16740747642662335098 : Nat := 0
def tw12383592386111501692 : Nat := 0
def tw14425670309381037457 : Nat := 0
def tw13185875822553147513 : Nat := 0
def tw10964239420813427562 : Nat := 0
def tw15875594864953071446 : Nat := 0
def tw6414672917177542918 : Nat := 0
def tw16234630748891750372 : Nat := 0
def tw9091266399133772956 : Nat := 0
def tw7570301870499582020 : Nat := 0
def tw10644183414007049194 : Nat := 0
def tw13527014219614438314 : Nat := 0
def tw195039811121114447 : Nat := 0
def tw4204904651263872590 : Nat := 0
def tw12923780263235106599 : Nat := 0
def tw2504786620005876499 : Nat := 0
def tw1457905891685321213 : Nat := 0
def tw6012544226363803122 : Nat := 0
def tw16339089436764008430 : Nat := 0
def tw10556935560195433681 : Nat := 0
def tw12313148586296633930 : Nat := 0
def tw322981655457959920 : Nat := 0
def tw8060243301653749563 : Nat := 0
def tw18421061994892242770 : Nat := 0
def tw4936414054536134531 : Nat := 0
def tw11716813138275867242 : Nat := 0
def tw14167000029654700117 : Nat := 0
def tw17237123011097801195 : Nat := 0
def tw11622537476284361517 : Nat := 0
def tw10856081579759359239 : Nat := 0
def tw1582058046308823727 : Nat := 0
def tw4019178643463976382 : Nat := 0
def tw1238713135122875805 : Nat := 0
def tw11387026148679153231 : Nat := 0
def tw17944318469999543311 : Nat := 0
def tw17439718795518615657 : Nat := 0
def tw11676355258796014443 : Nat := 0
def tw355553771765062141 : Nat := 0
def tw11999648777110397633 : Nat := 0
def tw3063137188017424347 : Nat := 0
def tw15051603521072540114 : Nat := 0
def tw11468526707565553570 : Nat := 0
def tw1439840966733993145 : Nat := 0
def tw18231163183356605385 : Nat := 0
def tw17134101800955152021 : Nat := 0
def tw15869368704842468339 : Nat := 0
def tw3443337639948765508 : Nat := 0
def tw10462420288299355486 : Nat := 0
def tw1073969810602372287 : Nat := 0
def tw12627391175173139632 : Nat := 0
def tw6628036008646365566 : Nat := 0
def tw17380554877567389855 : Nat := 0
def tw2599936786382520854 : Nat := 0
def tw3090746187274472248 : Nat := 0
def tw8264683375207073823 : Nat := 0
def tw14323157717358481619 : Nat := 0
def tw570896932161034400 : Nat := 0
def tw15034877729714737150 : Nat := 0
def tw15883091599736429086 : Nat := 0
def tw1491128720606186131 : Nat := 0
def tw17267481653818737226 : Nat := 0
def tw13679376869984325837 : Nat := 0
def tw5932271075382855637 : Nat := 0
def tw10416865402875295728 : Nat := 0
def tw16399069822436362112 : Nat := 0
def tw13787860254529530829 : Nat := 0
def tw5267639706300624081 : Nat := 0
def tw12699904345125885905 : Nat := 0
def tw12205336115501257528 : Nat := 0
def tw11037094393632365032 : Nat := 0
def tw6710020057065164381 : Nat := 0
def tw16769608196604854695 : Nat := 0
def tw6245039120412860412 : Nat := 0
def tw7077478580457035614 : Nat := 0
def tw4910792729217770999 : Nat := 0
def tw16106829052391970286 : Nat := 0
def tw17582568843452495498 : Nat := 0
def tw1108764635609123131 : Nat := 0
def tw3469678422205229265 : Nat := 0
def tw7349343898981804800 : Nat := 0
def tw12450870383486086377 : Nat := 0
def tw10864736886267074378 : Nat := 0
def tw6569289017127734831 : Nat := 0
def tw13472073351386687092 : Nat := 0
def tw3878070282437046474 : Nat := 0
def tw11367498859303836465 : Nat := 0
def tw11346132992057262095 : Nat := 0
def tw4444609086703079567 : Nat := 0
def tw2435136569777708316 : Nat := 0
def tw3778134865118110127 : Nat := 0
def tw2453981182549909699 : Nat := 0
def tw18391749808804077799 : Nat := 0
def tw10283795794069602094 : Nat := 0
def tw11254727332359903637 : Nat := 0
def tw13097984826912202894 : Nat := 0
def tw8731419067785485404 : Nat := 0
def tw17626761761444078960 : Nat := 0
def tw6429332928883746145 : Nat := 0
def tw839737975500833535 : Nat := 0
def tw9989697853483800216 : Nat := 0
def tw15814187200678919383 : Nat := 0
def tw15506847791701930661 : Nat := 0
def tw9064424004733841912 : Nat := 0
def tw12809872965098958907 : Nat := 0
def tw4865161826218590930 : Nat := 0
def tw1126249829650649375 : Nat := 0
def tw4346413279149594592 : Nat := 0
def tw8506099579813457992 : Nat := 0
def tw5829202256089625398 : Nat := 0
def tw16221016412778697544 : Nat := 0
def tw4434810115892150977 : Nat := 0
def tw15048838614173929321 : Nat := 0
def tw14142355345541461446 : Nat := 0
def tw4314825146162328765 : Nat := 0
def tw18072238680615484293 : Nat := 0
def tw438300521427946321 : Nat := 0
def tw14582316152124957112 : Nat := 0
def tw3824171809220709988 : Nat := 0
def tw12788538857106223874 : Nat := 0
def tw7499651844448980386 : Nat := 0
def tw8795471871755877308 : Nat := 0
def tw3768045580984411487 : Nat := 0
def tw6432875383108437556 : Nat := 0
def tw17364853610671167453 : Nat := 0
def tw3275539889472995640 : Nat := 0
def tw6226981188524861872 : Nat := 0
def tw6468621367171229644 : Nat := 0
def tw3349721955637670348 : Nat := 0
def tw2143979969285523757 : Nat := 0
def tw17890889151515197816 : Nat := 0
def tw16242386727058882169 : Nat := 0
def tw1037043651919647059 : Nat := 0
def tw2110089433371830629 : Nat := 0
def tw1645713229647483077 : Nat := 0
def tw6151063261343667791 : Nat := 0
def tw6070316949504655066 : Nat := 0
def tw3208695853588680128 : Nat := 0
def tw14311626622339586243 : Nat := 0
def tw17268844404583889700 : Nat := 0
def tw9065721452637528178 : Nat := 0
def tw12184872798715180155 : Nat := 0
def tw10481868687143058715 : Nat := 0
def tw14011529693044444033 : Nat := 0
def tw17119544771391358961 : Nat := 0
def tw7605514032551617698 : Nat := 0
def tw5733794334888842309 : Nat := 0
def tw625715673576571613 : Nat := 0
def tw10628497692832138306 : Nat := 0
def tw11229660664375574699 : Nat := 0
def tw17094540852945566325 : Nat := 0
def tw2560295781608697034 : Nat := 0
def tw6899342746602604479 : Nat := 0
def tw6452439656637050046 : Nat := 0
def tw1530031394175789566 : Nat := 0
def tw2035672980589475767 : Nat := 0
def tw14843765424640855888 : Nat := 0
def tw14968420492232046242 : Nat := 0
def tw1035506648189717802 : Nat := 0
def tw2103173082336625218 : Nat := 0
def tw10368400971133640375 : Nat := 0
def tw13877206890765330931 : Nat := 0
def tw3614353325169282674 : Nat := 0
def tw15802800145082983966 : Nat := 0
def tw7114554160886931732 : Nat := 0
def tw9900637219772811416 : Nat := 0
def tw2746532685706752563 : Nat := 0
def tw1962944853300806010 : Nat := 0
def tw2133272533868759064 : Nat := 0
def tw5170210107365087403 : Nat := 0
def tw16899304080508315788 : Nat := 0
def tw14099414092873209404 : Nat := 0
def tw15357086688958815176 : Nat := 0
def tw6228870990472604240 : Nat := 0
def tw9823129942900702780 : Nat := 0
def tw6943595879454949289 : Nat := 0
def tw13613270869068393740 : Nat := 0
def tw534185045281354531 : Nat := 0
def tw7258596644717716934 : Nat := 0
def tw2509408761404180159 : Nat := 0
def tw12863059765503941745 : Nat := 0
def tw950039070232304292 : Nat := 0
def tw15582662938159749574 : Nat := 0
def tw16652852179118627707 : Nat := 0
def tw427094391354037640 : Nat := 0
def tw17774613453929331876 : Nat := 0
def tw5619292257355346873 : Nat := 0
def tw7738570260794617500 : Nat := 0
def tw17309593119199263745 : Nat := 0
def tw14882099823282604219 : Nat := 0
def tw16872365204711528027 : Nat := 0
def tw7295664227598765506 : Nat := 0
def tw10810669341078091331 : Nat := 0
def tw11023396326305546531 : Nat := 0
def tw18377742099325775690 : Nat := 0
def tw3295421232643245266 : Nat := 0
def tw9081625942815030118 : Nat := 0
def tw16442301842669748337 : Nat := 0
def tw12866723031311569732 : Nat := 0
def tw12180492446183208271 : Nat := 0
def tw11497189139972506023 : Nat := 0
def tw7227290762132734028 : Nat := 0
def tw15614682638605929642 : Nat := 0
def tw10958771472699635860 : Nat := 0
def tw654595304063107409 : Nat := 0
def tw3334266363326393042 : Nat := 0
def tw9328414180120307004 : Nat := 0
def tw4660892333750293125 : Nat := 0
def tw11514056072867116437 : Nat := 0
def tw4240232068383246292 : Nat := 0
def tw12637777462313214311 : Nat := 0
def tw15979241953699180718 : Nat := 0
def tw11232838546741724250 : Nat := 0
def tw3282695696193675892 : Nat := 0
def tw1780918036429953053 : Nat := 0
def tw4412047856391396377 : Nat := 0
def tw510799102579745374 : Nat := 0
def tw16310525875691484036 : Nat := 0
def tw1482705799901751273 : Nat := 0
def tw13527327777053021589 : Nat := 0
def tw738370232596471699 : Nat := 0
def tw3594157598625090748 : Nat := 0
def tw3052983477078368795 : Nat := 0
def tw9017894434692510246 : Nat := 0
def tw5302294326281985431 : Nat := 0
def tw9174539594323749576 : Nat := 0
def tw15709532241035148287 : Nat := 0
def tw15573441633392662875 : Nat := 0
def tw6181368336584193328 : Nat := 0
def tw11405083755080062850 : Nat := 0
def tw9224604817601368367 : Nat := 0
def tw9394353396398810989 : Nat := 0
def tw7951413995078820994 : Nat := 0
def tw9882720870897057367 : Nat := 0
def tw13318534023662915687 : Nat := 0
def tw12635981569452276097 : Nat := 0
def tw2631592413465596849 : Nat := 0
def tw17683513506392170759 : Nat := 0
def tw5039960392992373406 : Nat := 0
def tw6008364614534505245 : Nat := 0
def tw14831130404676338694 : Nat := 0
def tw15192837447744645445 : Nat := 0
def tw16989752672925621012 : Nat := 0
def tw8160882315372500321 : Nat := 0
def tw11125666065900486073 : Nat := 0
def tw13769630877932219358 : Nat := 0
def tw7850037083737969126 : Nat := 0
def tw7936210151346152149 : Nat := 0
def tw12743076889022580421 : Nat := 0
def tw6891226565059983179 : Nat := 0
def tw1945172551412413313 : Nat := 0
def tw1452803550597975206 : Nat := 0
def tw17864911746029272617 : Nat := 0
def tw7059859225673134314 : Nat := 0
def tw10652222264141365204 : Nat := 0
def tw1853332802843078974 : Nat := 0
def tw12194671695840032125 : Nat := 0
def tw11589832533377252939 : Nat := 0
def tw14503549320531657643 : Nat := 0
def tw5416846565522073792 : Nat := 0
def tw18391346344342435431 : Nat := 0
def tw5328125519497699338 : Nat := 0
def tw7843947309201399626 : Nat := 0
def tw9504401010841729224 : Nat := 0
def tw17280044055614264021 : Nat := 0
def tw5265711153124280348 : Nat := 0
def tw16077286016477980210 : Nat := 0
def tw13055892940504296780 : Nat := 0
def tw2863794164180262718 : Nat := 0
def tw7602817814036146675 : Nat := 0
def tw12513607738020370963 : Nat := 0
def tw13382025677411748069 : Nat := 0
def tw5633255430536031314 : Nat := 0
def tw4451494112249267659 : Nat := 0
def tw9678665482395129687 : Nat := 0
def tw2147048324308620939 : Nat := 0
def tw11856190405868141127 : Nat := 0
def tw2249595966390001920 : Nat := 0
def tw8235992542543226311 : Nat := 0
def tw15767614920057400957 : Nat := 0
def tw8711374279247839643 : Nat := 0
def tw14082321634966557556 : Nat := 0
def tw3535670521552578617 : Nat := 0
def tw7730528996160648297 : Nat := 0
def tw11152973660331905363 : Nat := 0
def tw7436782637885613173 : Nat := 0
def tw8829356801089438856 : Nat := 0
def tw4530461288887342565 : Nat := 0
def tw17838851486793738859 : Nat := 0
def tw651723207999055319 : Nat := 0
def tw1157429107384486836 : Nat := 0
def tw1816097663880336627 : Nat := 0
def tw9834928829679175287 : Nat := 0
def tw5944517292736091293 : Nat := 0
def tw11670990994554865845 : Nat := 0
def tw4937871364612188473 : Nat := 0
def tw11518649725502167583 : Nat := 0
def tw481535152123948725 : Nat := 0
def tw3912384518975475148 : Nat := 0
def tw1123673059024828583 : Nat := 0
def tw5111127154180998913 : Nat := 0
def tw12592368070148402426 : Nat := 0
def tw4480876266443329222 : Nat := 0
def tw322451737374873292 : Nat := 0
def tw17382708716698437189 : Nat := 0
def tw5069745763718809175 : Nat := 0
def tw247157886881327292 : Nat := 0
def tw12088020199202359121 : Nat := 0
def tw9602636113757395352 : Nat := 0
def tw6641130307856510611 : Nat := 0
def tw13980096640870579775 : Nat := 0
def tw2067094371913831875 : Nat := 0
def tw9970579874426546413 : Nat := 0
def tw13141682943437215198 : Nat := 0
def tw16046867555344623963 : Nat := 0
def tw13210756179126556922 : Nat := 0
def tw4135012699213614527 : Nat := 0
def tw6335362338446553932 : Nat := 0
def tw2618891581183542664 : Nat := 0
def tw10577835331722938159 : Nat := 0
def tw10616739016528543026 : Nat := 0
def tw8752115068485618041 : Nat := 0
def tw4024774490904230937 : Nat := 0
def tw3374614717869296553 : Nat := 0
def tw8636985208611897081 : Nat := 0
def tw18145953556835022891 : Nat := 0
def tw531577539661000976 : Nat := 0
def tw5518818089971418559 : Nat := 0
def tw16829551305964153369 : Nat := 0
def tw17716435038918397629 : Nat := 0
def tw13229923555213348894 : Nat := 0
def tw12782789498914802869 : Nat := 0
def tw3697039192850293759 : Nat := 0
def tw10398190855199151243 : Nat := 0
def tw8944301033352555343 : Nat := 0
def tw7847759549910490645 : Nat := 0
def tw15616119975868334805 : Nat := 0
def tw2419200317491650848 : Nat := 0
def tw17816982633610205668 : Nat := 0
def tw4993184101319838535 : Nat := 0
def tw7491326961679943268 : Nat := 0
def tw16628205403335006759 : Nat := 0
def tw4328141158018851200 : Nat := 0
def tw11661282227283947925 : Nat := 0
def tw13846660327679387096 : Nat := 0
def tw15405012665750370314 : Nat := 0
def tw8059581454556808027 : Nat := 0
def tw10189749032730700467 : Nat := 0
def tw6409754677577376940 : Nat := 0
def tw14826850530011423820 : Nat := 0
def tw11674204766466403037 : Nat := 0
def tw16109821122932182677 : Nat := 0
def tw14177762800630942774 : Nat := 0
def tw13308912733487555901 : Nat := 0
def tw10985186803602669908 : Nat := 0
def tw3028668845833408431 : Nat := 0
def tw3861490101559236515 : Nat := 0
def tw3123624095322138574 : Nat := 0
def tw11513168036516065637 : Nat := 0
def tw12043124060142508891 : Nat := 0
def tw13854409985016583839 : Nat := 0
def tw230143346126009112 : Nat := 0
def tw8313925629353849048 : Nat := 0
def tw11991974938411321567 : Nat := 0
def tw15604669718428082363 : Nat := 0
def tw10786508155876573555 : Nat := 0
def tw11904271844867669263 : Nat := 0
def tw11060793757314737507 : Nat := 0
def tw10231686861769254323 : Nat := 0
def tw4970366723701251480 : Nat := 0
def tw12221647202483971020 : Nat := 0
def tw11701284339273118178 : Nat := 0
def tw10689899401134329472 : Nat := 0
def tw1533801639812647116 : Nat := 0
def tw4660581895442906523 : Nat := 0
def tw11646383953056965225 : Nat := 0
def tw4601625742178121113 : Nat := 0
def tw11778913219249466172 : Nat := 0
def tw12451995275897557825 : Nat := 0
def tw6508114139515760008 : Nat := 0
def tw6472670246960643076 : Nat := 0
def tw16540780109522677805 : Nat := 0
def tw16195726993498299853 : Nat := 0
def tw18254118876363470172 : Nat := 0
def tw10844005584671356757 : Nat := 0
def tw6137769555196914421 : Nat := 0
def tw6567522036424102732 : Nat := 0
def tw17930405306169885474 : Nat := 0
def tw16864806025095555415 : Nat := 0
def tw1603787307314319968 : Nat := 0
def tw604956109536880928 : Nat := 0
def tw1058190724055219362 : Nat := 0
def tw11119461156296143244 : Nat := 0
def tw16071335504612417802 : Nat := 0
def tw1874481632176788949 : Nat := 0
def tw13720634284571438246 : Nat := 0
def tw12991523500926035688 : Nat := 0
def tw2053310403240338748 : Nat := 0
def tw17367277077143865731 : Nat := 0
def tw5697054493085064560 : Nat := 0
def tw12086160790533209498 : Nat := 0
def tw1377834854562336078 : Nat := 0
def tw6992203166942829708 : Nat := 0
def tw8172889064622013594 : Nat := 0
def tw31537529352722458 : Nat := 0
def tw12219479388865312777 : Nat := 0
def tw9532771061104998526 : Nat := 0
def tw14351162775732271601 : Nat := 0
def tw5237890203872769274 : Nat := 0
def tw7868601441993967931 : Nat := 0
def tw11198826179578093912 : Nat := 0
def tw15590038356536005826 : Nat := 0
def tw12214812169010451062 : Nat := 0
def tw17830944427909717930 : Nat := 0
def tw16016134696327436744 : Nat := 0
def tw2740563702481777326 : Nat := 0
def tw7892858403136762097 : Nat := 0
def tw673773065455732127 : Nat := 0
def tw15287620762100090530 : Nat := 0
def tw17872710013762706511 : Nat := 0
def tw13297044510865307284 : Nat := 0
def tw12671024105193756976 : Nat := 0
def tw17994390222670959977 : Nat := 0
def tw8308495045738165180 : Nat := 0
def tw17003422106581706954 : Nat := 0
def tw8832560974233368847 : Nat := 0
def tw3404664297801323802 : Nat := 0
def tw7315799084618462593 : Nat := 0
def tw2237544252416174527 : Nat := 0
def tw10513792450947615968 : Nat := 0
def tw3729210039928655434 : Nat := 0
def tw12646775486159400112 : Nat := 0
def tw15135773743154414381 : Nat := 0
def tw15398028712301996183 : Nat := 0
def tw7406578706114413889 : Nat := 0
def tw1387942531618521120 : Nat := 0
def tw13876363463934359615 : Nat := 0
def tw10065480801738953996 : Nat := 0
def tw10761021099748745900 : Nat := 0
def tw5347539568108924275 : Nat := 0
def tw9095567984901288307 : Nat := 0
def tw12276178111806256849 : Nat := 0
def tw17535214044003467237 : Nat := 0
def tw15323108333478376588 : Nat := 0
def tw10836916004774927453 : Nat := 0
def tw8969494821207258217 : Nat := 0
def tw6110414542965852297 : Nat := 0
def tw7030515024650792401 : Nat := 0
def tw6471246883016009251 : Nat := 0
def tw16712131384723177186 : Nat := 0
def tw2312885343977131374 : Nat := 0
def tw10124005526194291075 : Nat := 0
def tw2845011141759600025 : Nat := 0
def tw1289925958095776332 : Nat := 0
def tw1452296435088072344 : Nat := 0
def tw18248091385492186995 : Nat := 0
def tw3352964430304562072 : Nat := 0
def tw13657815965791451099 : Nat := 0
def tw2197604290709650556 : Nat := 0
def tw17060840916555063381 : Nat := 0
def tw94376735477605532 : Nat := 0
def tw11480263579494432269 : Nat := 0
def tw8931364082000273872 : Nat := 0
def tw17401282474133506813 : Nat := 0
def tw9421365703577980887 : Nat := 0
def tw4049057529831387013 : Nat := 0
def tw15195480927558307791 : Nat := 0
def tw12704804829506006589 : Nat := 0
def tw5472195890397289084 : Nat := 0
def tw12018345558306675408 : Nat := 0
def tw11835548849623703324 : Nat := 0
def tw9970135061633621418 : Nat := 0
def tw1799545336951870610 : Nat := 0
def tw16656142614205981921 : Nat := 0
def tw17323013788090087823 : Nat := 0
def tw653736411475033292 : Nat := 0
def tw17418913136665724194 : Nat := 0
def tw8747426773432330958 : Nat := 0
def tw10447102238170880947 : Nat := 0
def tw14064717238348905589 : Nat := 0
def tw15953635751078668497 : Nat := 0
def tw10971513644082950157 : Nat := 0
def tw11362333563620406255 : Nat := 0
def tw2609988483175391347 : Nat := 0
def tw3452973722976838648 : Nat := 0
def tw17759872330027602289 : Nat := 0
def tw1974160856615987966 : Nat := 0
def tw5495218068247189479 : Nat := 0
def tw17776487633902899676 : Nat := 0
def tw8231738157743689275 : Nat := 0
def tw1614012972371514658 : Nat := 0
def tw5400380545884837934 : Nat := 0
def tw14941753200189642253 : Nat := 0
def tw13088860143513897472 : Nat := 0
def tw762971700913921909 : Nat := 0
def tw17285899751137033136 : Nat := 0
def tw11756382633449263238 : Nat := 0
def tw3748913240874043988 : Nat := 0
def tw7376798419379659803 : Nat := 0
def tw919658081758716094 : Nat := 0
def tw12872560157290085764 : Nat := 0
def tw10186162567912252624 : Nat := 0
def tw13700078295083142633 : Nat := 0
def tw118412450133416088 : Nat := 0
def tw10746729784012740947 : Nat := 0
def tw8048834109035072898 : Nat := 0
def tw14123985116071100539 : Nat := 0
def tw9140418247866277503 : Nat := 0
def tw12653157209842794261 : Nat := 0
def tw9119452950902076737 : Nat := 0
def tw6539037049190868218 : Nat := 0
def tw1782502578215404079 : Nat := 0
def tw9839669886402023651 : Nat := 0
def tw11595010924026839313 : Nat := 0
def tw5449737514742455505 : Nat := 0
def tw8654397500965039099 : Nat := 0
def tw12230233461796163989 : Nat := 0
def tw17836945304299294408 : Nat := 0
def tw1669400678401400021 : Nat := 0
def tw78292235057252110 : Nat := 0
def tw9777578159961342304 : Nat := 0
def tw13079237551529704986 : Nat := 0
def tw5100481527759886004 : Nat := 0
def tw9852859881628438966 : Nat := 0
def tw3955176785098650326 : Nat := 0
def tw13353786599383512119 : Nat := 0
def tw11523389462070415729 : Nat := 0
def tw12875840439950338160 : Nat := 0
def tw14810215947317698300 : Nat := 0
def tw10682023634115358205 : Nat := 0
def tw6307899006424968458 : Nat := 0
def tw17835941568185594676 : Nat := 0
def tw3420768636444663317 : Nat := 0
def tw12061354285894650243 : Nat := 0
def tw10805806011744875204 : Nat := 0
def tw15670619499078842638 : Nat := 0
def tw11836095342601268340 : Nat := 0
def tw256856789144186466 : Nat := 0
def tw7755412966329072963 : Nat := 0
def tw9348476918957195920 : Nat := 0
def tw7726145184783194114 : Nat := 0
def tw5078303386106527236 : Nat := 0
def tw6351527245201539954 : Nat := 0
def tw18226975434629632134 : Nat := 0
def tw5996099053048317507 : Nat := 0
def tw1755943843249407221 : Nat := 0
def tw17260786642464937412 : Nat := 0
def tw7913390279248915134 : Nat := 0
def tw5542946310859484848 : Nat := 0
def tw6791573645424189907 : Nat := 0
def tw7726097697862428435 : Nat := 0
def tw13310675117088132091 : Nat := 0
def tw1895200247210292117 : Nat := 0
def tw16665141661449870831 : Nat := 0
def tw12463685213795079564 : Nat := 0
def tw10093733739996581137 : Nat := 0
def tw2543172665998198629 : Nat := 0
def tw3654848153655449970 : Nat := 0
def tw5364682349093887785 : Nat := 0
def tw13393026149129322035 : Nat := 0
def tw17783961903694532524 : Nat := 0
def tw11789595200732095132 : Nat := 0
def tw17587178704742911850 : Nat := 0
def tw9411820788047576501 : Nat := 0
def tw16717714436486297157 : Nat := 0
def tw2849761252421045724 : Nat := 0
def tw11535649994884759919 : Nat := 0
def tw5505846313799724587 : Nat := 0
def tw13431466435311918813 : Nat := 0
def tw6216008627867643278 : Nat := 0
def tw10726982008828145356 : Nat := 0
def tw324174900502572803 : Nat := 0
def tw13991125695457851942 : Nat := 0
def tw15236969369750087010 : Nat := 0
def tw5136130981268412601 : Nat := 0
def tw1239468247449745403 : Nat := 0
def tw16844546315911215277 : Nat := 0
def tw16701831471263009635 : Nat := 0
def tw17698715683859686939 : Nat := 0
def tw10942481676713911947 : Nat := 0
def tw15442944233678950255 : Nat := 0
def tw14748387228121432989 : Nat := 0
def tw14325577630035733274 : Nat := 0
def tw8793592869273639700 : Nat := 0
def tw4951442731426265760 : Nat := 0
def tw9450323586519224258 : Nat := 0
def tw1320770191970614579 : Nat := 0
def tw18146047059861052661 : Nat := 0
def tw2817532529654290884 : Nat := 0
def tw5404948250452802293 : Nat := 0
def tw4036599774345015861 : Nat := 0
def tw2239519709222312021 : Nat := 0
def tw15651495822832955650 : Nat := 0
def tw11419448884006290275 : Nat := 0
def tw5259677470583758153 : Nat := 0
def tw3507086662462468511 : Nat := 0
def tw9858445858681033731 : Nat := 0
def tw15304926308192626935 : Nat := 0
def tw4284188311919958207 : Nat := 0
def tw3225400906019168660 : Nat := 0
def tw12751654277685413370 : Nat := 0
def tw11626308152881611630 : Nat := 0
def tw7365902742434245008 : Nat := 0
def tw3210479672247006869 : Nat := 0
def tw5918448801028014377 : Nat := 0
def tw5739519244471256634 : Nat := 0
def tw4859483754433844592 : Nat := 0
def tw14441710057250428112 : Nat := 0
def tw1407606046246402577 : Nat := 0
def tw1725255980024126257 : Nat := 0
def tw9329368891008514665 : Nat := 0
def tw17908325740197277075 : Nat := 0
def tw12463841341342116027 : Nat := 0
def tw15159209417597862551 : Nat := 0
def tw6664597193423401753 : Nat := 0
def tw3154748177309735584 : Nat := 0
def tw13656102630328989898 : Nat := 0
def tw11492236154822031311 : Nat := 0
def tw11628704021903844241 : Nat := 0
def tw18093408501498477292 : Nat := 0
def tw146909157981195803 : Nat := 0
def tw4393443518813276143 : Nat := 0
def tw11167250668576041200 : Nat := 0
def tw10478901002698612878 : Nat := 0
def tw2510742297428984730 : Nat := 0
def tw2770843377328856349 : Nat := 0
def tw16276960881464582004 : Nat := 0
def tw13934618221981971690 : Nat := 0
def tw17920801115623055782 : Nat := 0
def tw6558089877987286454 : Nat := 0
def tw17254862747915315161 : Nat := 0
def tw1921264010812215192 : Nat := 0
def tw3792182970661607289 : Nat := 0
def tw6325324347653965348 : Nat := 0
def tw1938323273780231002 : Nat := 0
def tw15022333018563624167 : Nat := 0
def tw7712321125874500601 : Nat := 0
def tw3734088678815773312 : Nat := 0
def tw846753875619698199 : Nat := 0
def tw11767300709050924517 : Nat := 0
def tw11455294399612530524 : Nat := 0
def tw10239807724442378534 : Nat := 0
def tw6122763534144756902 : Nat := 0
def tw13186301975294863052 : Nat := 0
def tw15668439976475984164 : Nat := 0
def tw486646304638040021 : Nat := 0
def tw11494606430480151730 : Nat := 0
def tw11379575716073504431 : Nat := 0
def tw11997225056154053894 : Nat := 0
def tw9331622276143529385 : Nat := 0
def tw17488111731475404022 : Nat := 0
def tw18310255829446694607 : Nat := 0
def tw178693823017733539 : Nat := 0
def tw9408407253795195943 : Nat := 0
def tw5055336762177351583 : Nat := 0
def tw8606721722268941622 : Nat := 0
def tw9683870002570005800 : Nat := 0
def tw15601993038923200900 : Nat := 0
def tw2121448695441428722 : Nat := 0
def tw7056205520692763013 : Nat := 0
def tw13240826140210681062 : Nat := 0
def tw12931201043680390848 : Nat := 0
def tw7911761757368829446 : Nat := 0
def tw17098805479394368910 : Nat := 0
def tw6684981549910355985 : Nat := 0
def tw6329173357951765135 : Nat := 0
def tw1348216133692641666 : Nat := 0
def tw1993410637167654101 : Nat := 0
def tw6947994274609948164 : Nat := 0
def tw5837711760610921920 : Nat := 0
def tw7457625996436357570 : Nat := 0
def tw15016978762209340029 : Nat := 0
def tw3746202995510702608 : Nat := 0
def tw1413055053701089887 : Nat := 0
def tw9313239434527324011 : Nat := 0
def tw5340084668153845977 : Nat := 0
def tw983778263701085841 : Nat := 0
def tw12847590455178677479 : Nat := 0
def tw5667261533714513304 : Nat := 0
def tw8201068003729813420 : Nat := 0
def tw9429291317601082960 : Nat := 0
def tw16950818426173833625 : Nat := 0
def tw1577757489759651410 : Nat := 0
def tw16728257299564387942 : Nat := 0
def tw4724193160285707410 : Nat := 0
def tw10763858605354544270 : Nat := 0
def tw18021507545771664696 : Nat := 0
def tw2507789470474875833 : Nat := 0
def tw6548232800847954605 : Nat := 0
def tw10912403392811953831 : Nat := 0
def tw13246860118605735913 : Nat := 0
def tw13136261610346681774 : Nat := 0
def tw16206273558167654157 : Nat := 0
def tw4195092412123473930 : Nat := 0
def tw3675712724716512272 : Nat := 0
def tw16176478825357942957 : Nat := 0
def tw14908264352230225354 : Nat := 0
def tw11855310016465917722 : Nat := 0
def tw14403313727508891750 : Nat := 0
def tw17413513688475225514 : Nat := 0
end PySem.W.Fast
open PySem PySem.W PyProof.Rows
set_option maxHeartbeats 0 in
theorem PySem.Challenge.cw_stagedrounding_k65_whole_monotone_chains_holds : PySem.Challenge.rw_stagedrounding_k65_whole_monotone_chains.Holds := by
  w_on; o_law; k_head; (case hw => w_witness2)
  k_fill
  refine Z.end_of (l := PySem.Challenge.rw_stagedrounding_k65_whole_monotone_chains) (n := 63) (k := 10) (x := "_law_script") (fs := LAW.fs_law) rfl (by decide) rfl ⟨rfl, by decide, by decide⟩ (fun w h Y => PySem.W.kIn_of Y) ?Fu LAW.law_true
  case Fu =>
    intro w mg fa h Y KX G hmg
    refine' LAW.all_mk KX G hmg ?a0 ?l0 ?c0 ?k0 ?a1 ?l1 ?c1 ?k1 ?a2 ?l2 ?c2 ?k2 ?a3 ?l3 ?c3 ?k3 ?a4 ?l4 ?c4 ?k4 ?a5 ?l5 ?c5 ?k5 ?a6 ?l6 ?c6 ?k6 ?a7 ?l7 ?c7 ?k7 ?a8 ?l8 ?c8 ?k8 ?a9 ?l9 ?c9 ?k9 ?a10 ?l10 ?c10 ?k10 ?a11 ?l11 ?c11 ?k11 ?a12 ?l12 ?c12 ?k12 ?a13 ?l13 ?c13 ?k13 ?a14 ?l14 ?c14 ?k14 ?a15 ?l15 ?c15 ?k15 ?a16 ?l16 ?c16 ?k16 ?a17 ?l17 ?c17 ?k17 ?a18 ?l18 ?c18 ?k18 ?a19 ?l19 ?c19 ?k19 ?a20 ?l20 ?c20 ?k20 ?a21 ?l21 ?c21 ?k21 ?a22 ?l22 ?c22 ?k22 ?a23 ?l23 ?c23 ?k23 ?a24 ?l24 ?c24 ?k24 ?a25 ?l25 ?c25 ?k25 ?a26 ?l26 ?c26 ?k26 ?a27 ?l27 ?c27 ?k27 ?a28 ?l28 ?c28 ?k28 ?a29 ?l29 ?c29 ?k29 ?a30 ?l30 ?c30 ?k30 ?a31 ?l31 ?c31 ?k31 ?a32 ?l32 ?c32 ?k32 ?a33 ?l33 ?c33 ?k33 ?a34 ?l34 ?c34 ?k34 ?a35 ?l35 ?c35 ?k35 ?a36 ?l36 ?c36 ?k36 ?a37 ?l37 ?c37 ?k37 ?a38 ?l38 ?c38 ?k38 ?a39 ?l39 ?c39 ?k39 ?a40 ?l40 ?c40 ?k40 ?a41 ?l41 ?c41 ?k41 ?a42 ?l42 ?c42 ?k42 ?a43 ?l43 ?c43 ?k43 ?z_abs ?z_all ?z_bool ?z_int ?z_isinstance ?z_len ?z_max ?z_min ?z_range ?z_sorted ?z_str ?z_tuple ?y_BY_RULE ?d_BY_RULE ?q_BY_RULE ?n_BY_RULE_down ?x_BY_RULE_down ?x_BY_RULE_down_0 ?x_BY_RULE_down_0_0 ?x_BY_RULE_down_1 ?x_BY_RULE_down_1_0 ?n_BY_RULE_half_down ?x_BY_RULE_half_down ?x_BY_RULE_half_down_0 ?x_BY_RULE_half_down_0_0 ?x_BY_RULE_half_down_1 ?x_BY_RULE_half_down_1_0 ?n_BY_RULE_half_even ?x_BY_RULE_half_even ?x_BY_RULE_half_even_0 ?x_BY_RULE_half_even_0_0 ?x_BY_RULE_half_even_1 ?x_BY_RULE_half_even_1_0 ?n_BY_RULE_half_up ?x_BY_RULE_half_up ?x_BY_RULE_half_up_0 ?x_BY_RULE_half_up_0_0 ?x_BY_RULE_half_up_1 ?x_BY_RULE_half_up_1_0 ?n_BY_RULE_odd ?x_BY_RULE_odd ?x_BY_RULE_odd_0 ?x_BY_RULE_odd_0_0 ?x_BY_RULE_odd_1 ?x_BY_RULE_odd_1_0 ?n_BY_RULE_up ?x_BY_RULE_up ?x_BY_RULE_up_0 ?x_BY_RULE_up_0_0 ?x_BY_RULE_up_1 ?x_BY_RULE_up_1_0 ?y_DOWN ?y_HALF_EVEN ?y_HALF_UP ?y_MOST_STEPS ?y_MOST_WIDTH ?y_ODD ?y_PAIR_cells ?y_PAIR_chains ?y_RULES ?x_RULES ?y_UP
    (case a0 => k_is); (case l0 => k_is); (case c0 => k_is); (case k0 => k_is); (case a1 => k_is); (case l1 => k_is); (case c1 => k_is); (case k1 => k_is); (case a2 => k_is); (case l2 => k_is); (case c2 => k_is); (case k2 => k_is); (case a3 => k_is); (case l3 => k_is); (case c3 => k_is); (case k3 => k_is); (case a4 => k_is); (case l4 => k_is); (case c4 => k_is); (case k4 => k_is); (case a5 => k_is); (case l5 => k_is); (case c5 => k_is); (case k5 => k_is); (case a6 => k_is); (case l6 => k_is); (case c6 => k_is); (case k6 => k_is); (case a7 => k_is); (case l7 => k_is); (case c7 => k_is); (case k7 => k_is); (case a8 => k_is); (case l8 => k_is); (case c8 => k_is); (case k8 => k_is); (case a9 => k_is); (case l9 => k_is); (case c9 => k_is); (case k9 => k_is); (case a10 => k_is); (case l10 => k_is); (case c10 => k_is); (case k10 => k_is); (case a11 => k_is); (case l11 => k_is); (case c11 => k_is); (case k11 => k_is); (case a12 => k_is); (case l12 => k_is); (case c12 => k_is); (case k12 => k_is); (case a13 => k_is); (case l13 => k_is); (case c13 => k_is); (case k13 => k_is); (case a14 => k_is); (case l14 => k_is); (case c14 => k_is); (case k14 => k_is); (case a15 => k_is); (case l15 => k_is); (case c15 => k_is); (case k15 => k_is); (case a16 => k_is); (case l16 => k_is); (case c16 => k_is); (case k16 => k_is); (case a17 => k_is); (case l17 => k_is); (case c17 => k_is); (case k17 => k_is); (case a18 => k_is); (case l18 => k_is); (case c18 => k_is); (case k18 => k_is); (case a19 => k_is); (case l19 => k_is); (case c19 => k_is); (case k19 => k_is); (case a20 => k_is); (case l20 => k_is); (case c20 => k_is); (case k20 => k_is); (case a21 => k_is); (case l21 => k_is); (case c21 => k_is); (case k21 => k_is); (case a22 => k_is); (case l22 => k_is); (case c22 => k_is); (case k22 => k_is); (case a23 => k_is); (case l23 => k_is); (case c23 => k_is); (case k23 => k_is); (case a24 => k_is); (case l24 => k_is); (case c24 => k_is); (case k24 => k_is); (case a25 => k_is); (case l25 => k_is); (case c25 => k_is); (case k25 => k_is); (case a26 => k_is); (case l26 => k_is); (case c26 => k_is); (case k26 => k_is); (case a27 => k_is); (case l27 => k_is); (case c27 => k_is); (case k27 => k_is); (case a28 => k_is); (case l28 => k_is); (case c28 => k_is); (case k28 => k_is); (case a29 => k_is); (case l29 => k_is); (case c29 => k_is); (case k29 => k_is); (case a30 => k_is); (case l30 => k_is); (case c30 => k_is); (case k30 => k_is); (case a31 => k_is); (case l31 => k_is); (case c31 => k_is); (case k31 => k_is); (case a32 => k_is); (case l32 => k_is); (case c32 => k_is); (case k32 => k_is); (case a33 => k_is); (case l33 => k_is); (case c33 => k_is); (case k33 => k_is); (case a34 => k_is); (case l34 => k_is); (case c34 => k_is); (case k34 => k_is); (case a35 => k_is); (case l35 => k_is); (case c35 => k_is); (case k35 => k_is); (case a36 => k_is); (case l36 => k_is); (case c36 => k_is); (case k36 => k_is); (case a37 => k_is); (case l37 => k_is); (case c37 => k_is); (case k37 => k_is); (case a38 => k_is); (case l38 => k_is); (case c38 => k_is); (case k38 => k_is); (case a39 => k_is); (case l39 => k_is); (case c39 => k_is); (case k39 => k_is); (case a40 => k_is); (case l40 => k_is); (case c40 => k_is); (case k40 => k_is); (case a41 => k_is); (case l41 => k_is); (case c41 => k_is); (case k41 => k_is); (case a42 => k_is); (case l42 => k_is); (case c42 => k_is); (case k42 => k_is); (case a43 => k_is); (case l43 => k_is); (case c43 => k_is); (case k43 => k_is); (case z_abs => k_is); (case z_all => k_is); (case z_bool => k_is); (case z_int => k_is); (case z_isinstance => k_is); (case z_len => k_is); (case z_max => k_is); (case z_min => k_is); (case z_range => k_is); (case z_sorted => k_is); (case z_str => k_is); (case z_tuple => k_is); (case y_BY_RULE => k_is); (case d_BY_RULE => k_is); (case q_BY_RULE => k_keys); (case n_BY_RULE_down => k_is); (case x_BY_RULE_down => k_is); (case x_BY_RULE_down_0 => k_is); (case x_BY_RULE_down_0_0 => k_is); (case x_BY_RULE_down_1 => k_is); (case x_BY_RULE_down_1_0 => k_is); (case n_BY_RULE_half_down => k_is); (case x_BY_RULE_half_down => k_is); (case x_BY_RULE_half_down_0 => k_is); (case x_BY_RULE_half_down_0_0 => k_is); (case x_BY_RULE_half_down_1 => k_is); (case x_BY_RULE_half_down_1_0 => k_is); (case n_BY_RULE_half_even => k_is); (case x_BY_RULE_half_even => k_is); (case x_BY_RULE_half_even_0 => k_is); (case x_BY_RULE_half_even_0_0 => k_is); (case x_BY_RULE_half_even_1 => k_is); (case x_BY_RULE_half_even_1_0 => k_is); (case n_BY_RULE_half_up => k_is); (case x_BY_RULE_half_up => k_is); (case x_BY_RULE_half_up_0 => k_is); (case x_BY_RULE_half_up_0_0 => k_is); (case x_BY_RULE_half_up_1 => k_is); (case x_BY_RULE_half_up_1_0 => k_is); (case n_BY_RULE_odd => k_is); (case x_BY_RULE_odd => k_is); (case x_BY_RULE_odd_0 => k_is); (case x_BY_RULE_odd_0_0 => k_is); (case x_BY_RULE_odd_1 => k_is); (case x_BY_RULE_odd_1_0 => k_is); (case n_BY_RULE_up => k_is); (case x_BY_RULE_up => k_is); (case x_BY_RULE_up_0 => k_is); (case x_BY_RULE_up_0_0 => k_is); (case x_BY_RULE_up_1 => k_is); (case x_BY_RULE_up_1_0 => k_is); (case y_DOWN => k_is); (case y_HALF_EVEN => k_is); (case y_HALF_UP => k_is); (case y_MOST_STEPS => k_is); (case y_MOST_WIDTH => k_is); (case y_ODD => k_is); (case y_PAIR_cells => k_is); (case y_PAIR_chains => k_is); (case y_RULES => k_is); (case x_RULES => k_is); (case y_UP => k_is)
