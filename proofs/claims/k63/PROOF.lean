import PyProof.Rows.All
import HandS.ForMost
import HandS.Evl
import HandS.IsInst
import HandS.Wide
import HandS.WideBits
import HandS.Zip
import HandS.Flow
import HandS.TupAny
import HandS.Exc
import HandS.Lambda
import KE.KeyNested
import HandS.Style
import HandS.Walk
import HandS.Rev
import HandS.RaiseMore
import KE.KNestM
import HandS.WideMore
import PyProof.ReprLen
import PyProof.ReprRoads
import HandS.Conv
import HandS.More
import HandS.HeadHook3
import KE.SortData
import PyProof.ListMulAny
import HandS.Deep
import KE.KDictZip
import PyProof.ListNew
import KE.GoesEnum
import HandS.Iter
import HandS.Text
import KE.DataCmp
import PyProof.LongRange
import HandS.NoneIn
import HandS.SetFor
import HandS.Strs
import HandS.TupMul
import HandS.ExcInit
import HandS.ExcOwn
import HandS.FStr
import HandS.TryMany
import HandS.ExcField
import HandS.ExcIs
import KE.KExcIs
import HandS.WrittenGet
import KE.GoesZip
import KE.GoesMore
import KE.DataMinMax
import HandS.SortKw
import PySem.Challenge.RW_stagedrounding_k63_whole_steps_that_are
set_option Elab.async false
set_option linter.all false
set_option maxRecDepth 100000
set_option maxHeartbeats 4000000
set_option autoImplicit false
namespace Z
open L2 PySem PySem.Spec PyProof.Rows
open Evl (Ex ex_l ex_t ex_rd fresh_back)
abbrev Da := PyData
abbrev Fg := PySem.W.Frag
def keyD : Key → Da
  | .inl i => .int i
  | .inr x => .str x
mutual
inductive Rp (K : Fg) (F : Hp) : V → Da → Prop
  | non : Rp K F .non .none
  | bl (b : Bool) : Rp K F (.bl b) (.bool b)
  | int (i : Int) : Rp K F (.int i) (.int i)
  | str (x : Str) : Rp K F (.str x) (.str x)
  | lst {a : Addr} {xs : List V} {ds : List Da} : F a = some (.lst xs) → Rps K F xs ds → Rp K F (.ref a) (.list ds)
  | tup {a : Addr} {xs : List V} {ds : List Da} : SqT K F a xs → Rps K F xs ds → Rp K F (.ref a) (.tuple ds)
  | dct {a : Addr} {kvs : List (Key × V)} {es : List (Da × Da)} : Rd F a (.dK kvs) → RpK K F kvs es → Rp K F (.ref a) (.dict es)
inductive Rps (K : Fg) (F : Hp) : List V → List Da → Prop
  | nil : Rps K F [] []
  | cons {v : V} {vs : List V} {d : Da} {ds : List Da} : Rp K F v d → Rps K F vs ds → Rps K F (v :: vs) (d :: ds)
inductive RpK (K : Fg) (F : Hp) : List (Key × V) → List (Da × Da) → Prop
  | nil : RpK K F [] []
  | cons {k : Key} {v : V} {vs : List (Key × V)} {d : Da} {ds : List (Da × Da)} : Rp K F v d → RpK K F vs ds → RpK K F ((k, v) :: vs) ((keyD k, d) :: ds)
end
section
variable {K : Fg} {F F' : Hp}
mutual
theorem Rp.mono (e : Ex F F') : ∀ (d : Da) (v : V), Rp K F v d → Rp K F' v d
  | .none, _, h => by cases h; exact .non
  | .bool b, _, h => by cases h; exact .bl b
  | .int i, _, h => by cases h; exact .int i
  | .str x, _, h => by cases h; exact .str x
  | .list ds, _, h => by cases h with | lst hs ha => exact .lst (e _ _ hs) (Rps.mono e ds _ ha)
  | .tuple ds, _, h => by cases h with | tup hs ha => exact .tup (ex_t e hs) (Rps.mono e ds _ ha)
  | .dict es, _, h => by cases h with | dct hs ha => exact .dct (ex_rd e hs) (RpK.mono e es _ ha)
theorem Rps.mono (e : Ex F F') : ∀ (ds : List Da) (vs : List V), Rps K F vs ds → Rps K F' vs ds
  | [], _, h => by cases h; exact .nil
  | d :: ds, _, h => by cases h with | cons h1 h2 => exact .cons (Rp.mono e d _ h1) (Rps.mono e ds _ h2)
theorem RpK.mono (e : Ex F F') : ∀ (ds : List (Da × Da)) (vs : List (Key × V)), RpK K F vs ds → RpK K F' vs ds
  | [], _, h => by cases h; exact .nil
  | (_, d) :: ds, _, h => by cases h with | cons h1 h2 => exact .cons (Rp.mono e d _ h1) (RpK.mono e ds _ h2)
end
theorem Rp.up {v : V} {d : Da} (h : Rp K F v d) (e : Ex F F') : Rp K F' v d := Rp.mono e d v h
theorem Rps.up {v : List V} {d : List Da} (h : Rps K F v d) (e : Ex F F') : Rps K F' v d := Rps.mono e d v h
theorem Rps.len : ∀ {vs : List V} {ds : List Da}, Rps K F vs ds → vs.length = ds.length
  | _, _, .nil => rfl
  | _, _, .cons _ t => congrArg (· + 1) t.len
theorem Rps.get : ∀ {vs : List V} {ds : List Da} {i : Nat} {d : Da}, Rps K F vs ds → ds[i]? = some d → ∃ v, vs[i]? = some v ∧ Rp K F v d
  | _, _, _, _, .nil, e => by simp at e
  | _, _, 0, _, .cons r _, e => by simp at e; subst e; exact ⟨_, rfl, r⟩
  | _, _, i + 1, d, .cons _ t, e => by
    obtain ⟨u, h1, h2⟩ := Rps.get (i := i) (d := d) t (by simpa using e)
    exact ⟨u, by simpa using h1, h2⟩
theorem Rps.app : ∀ {vs us : List V} {ds es : List Da}, Rps K F vs ds → Rps K F us es → Rps K F (vs ++ us) (ds ++ es)
  | _, _, _, _, .nil, s => s
  | _, _, _, _, .cons r t, s => .cons r (t.app s)
theorem Rps.st {v : V} {d : Da} (r : Rp K F v d) : ∀ (n : Nat) {vs : List V} {ds : List Da}, Rps K F vs ds → Rps K F (vs.set n v) (ds.set n d)
  | _, _, _, .nil => .nil
  | 0, _, _, .cons _ t => .cons r t
  | n + 1, _, _, .cons q t => .cons q (Rps.st r n t)
end
/-- a still thing that is no datum: an instance by its class's name and its fields; an exception of the program's own by its class's name and its value -/
inductive Kd where | ins (nm : Str) (fs : List (Str × Da)) | exc (nm : Str) (z : Option Da) | at (p : Addr) | insAt (p : Addr) (nm : Str) (fs : List (Str × Da)) | lam (F0 : Hp) (f c : Addr) (q : Str)
/-- what an exception in the air says -/
def XvOk (K : Fg) (F : Hp) (cls : Value) (dd : Option Addr) (nm : Str) : Option Da → Prop
  | some z => ∃ (C x : Addr) (u : V), cls = .ref C ∧ PySem.W.nsIn K mainGlobals nm = some (some (.ref C)) ∧ dd = some x ∧ F x = some (.xd [("value", u)]) ∧ Rp K F u z
  | none => ∃ C : Addr, cls = .ref C ∧ PySem.W.nsIn K mainGlobals nm = some (some (.ref C)) ∧ dd = none
theorem XvOk.up {K : Fg} {F F' : Hp} {cls : Value} {dd : Option Addr} {nm : Str} (e : Ex F F') : ∀ {z : Option Da}, XvOk K F cls dd nm z → XvOk K F' cls dd nm z
  | some _, ⟨C, x, u, h1, h2, h3, h4, h5⟩ => ⟨C, x, u, h1, h2, h3, e _ _ h4, h5.up e⟩
  | none, h => h
/-- an exception that was caught, at a -/
def exT (a : Addr) (cls : Value) (d : Option Addr) : HO := .ext fun h => ∃ (oe : Obj) (vs : Array Value), h.get? a = some oe ∧ Zc cls d oe ∧ oe.data = .fields vs
def ObOk (K : Fg) (F : Hp) (v : V) : Kd → Prop
  | .ins nm fs => ∃ (p C dx : Addr) (us : List (Str × V)), v = .ref p ∧ PySem.W.nsIn K mainGlobals nm = some (some (.ref C)) ∧ F p = some (.ins C dx us) ∧ us.map Prod.fst = fs.map Prod.fst ∧ Rps K F (us.map Prod.snd) (fs.map Prod.snd)
  | .exc nm z => ∃ (a : Addr) (cls : Value) (dd : Option Addr), v = .ref a ∧ F a = some (exT a cls dd) ∧ XvOk K F cls dd nm z
  | .at p => v = .ref p
  | .lam F0 f c q => v = .ref f ∧ F c = some (LamX.CodeO c q) ∧ Ex F0 F
  | .insAt p nm fs => ∃ (C dx : Addr) (us : List (Str × V)), v = .ref p ∧ PySem.W.nsIn K mainGlobals nm = some (some (.ref C)) ∧ F p = some (.ins C dx us) ∧ us.map Prod.fst = fs.map Prod.fst ∧ Rps K F (us.map Prod.snd) (fs.map Prod.snd)
theorem ObOk.up {K : Fg} {F F' : Hp} {v : V} (e : Ex F F') : ∀ {k : Kd}, ObOk K F v k → ObOk K F' v k
  | .ins _ _, ⟨p, C, dx, us, h1, h2, h3, h4, h5⟩ => ⟨p, C, dx, us, h1, h2, e _ _ h3, h4, h5.up e⟩
  | .exc _ _, ⟨a, cls, dd, h1, h2, h3⟩ => ⟨a, cls, dd, h1, e _ _ h2, h3.up e⟩
  | .at _, h => h
  | .lam _ _ _ _, ⟨h1, h2, h3⟩ => ⟨h1, e _ _ h2, h3.trans e⟩
  | .insAt _ _ _, ⟨C, dx, us, h1, h2, h3, h4, h5⟩ => ⟨C, dx, us, h1, h2, e _ _ h3, h4, h5.up e⟩
/-- a local's content: a datum; an own list, not yet given away; the source of draws -/
inductive Sv where | val (d : Da) | own (ds : List Da) | src | scr (ns : List Int) | ob (k : Kd) | mem (bm : Bool) (hs : PySem.NestedKey → Int) (good : Da → Da → Prop)
/-- an expression's value -/
inductive Rv where | val (d : Da) | src | scr (ns : List Int) | ob (k : Kd)
/-- a def's result; or what it raised: the class's name, the field value -/
inductive Rr where | val (d : Da) | own (ds : List Da) | exc (nm : Str) (d : Option Da)
structure Gs where
  sl : List (Option Sv)
  fu : Option Nat
  ow : Bool
/-- the entry: the still part, the heap, the source that was handed in -/
structure Con where
  F : Hp
  H : Hp
  ext : Option Addr
  mp : Addr → (PySem.NestedKey → Int) → (Da → Da → Prop) → Prop
def anyM : Addr → (PySem.NestedKey → Int) → (Da → Da → Prop) → Prop := fun _ _ _ => True
def modS : Int := 2305843009213693921
/-- a source of draws that may be asked n times more -/
def SrcAt (H : Hp) (a : Addr) (n : Nat) : Prop := ∃ x y z : Int, H a = some (.lst [.int x, .int y, .int z]) ∧ 0 ≤ x ∧ x < 2 ^ 1000 ∧ 0 ≤ y ∧ y < modS ∧ 0 ≤ z ∧ z + n ≤ 2 ^ 40
def oVal : Option Addr → Value
  | none => .none
  | some b => .ref b
def memO (p : Addr) (hs : PySem.NestedKey → Int) (L : List (PySem.NestedKey × Addr × Option Addr)) : HO := .ext fun h => ∃ (o : Obj) (es : Array DictEntry) (ep : Nat), h.get? p = some o ∧ o.ExactDict ∧ o.data = .dict es ep ∧
  es.toList = L.map (fun e => (⟨hs e.1, .ref e.2.1, oVal e.2.2⟩ : DictEntry)) ∧ (L.map (·.1)).Nodup ∧ (p == sysModules) = false ∧ L.length ≤ 16000000
def ValM (K : Fg) (F : Hp) : Option Addr → Da → Prop
  | none, d => d = .none
  | some b, d => Rp K F (.ref b) d
theorem ValM.up {K : Fg} {F F' : Hp} (e : Ex F F') : ∀ {o : Option Addr} {d : Da}, ValM K F o d → ValM K F' o d
  | none, _, h => h
  | some _, _, h => Rp.up h e
def MemAt (K : Fg) (F H : Hp) (a : Addr) (hs : PySem.NestedKey → Int) (good : Da → Da → Prop) : Prop := ∃ L : List (PySem.NestedKey × Addr × Option Addr), H a = some (memO a hs L) ∧
  ∀ e ∈ L, e.1.depth ≤ 8 ∧ Rp K F (.ref e.2.1) e.1.data ∧ ∃ dv, ValM K F e.2.2 dv ∧ good e.1.data dv
def SlOk (K : Fg) (F H : Hp) (c : Con) (a : Addr) (fu : Option Nat) (v : V) : Sv → Prop
  | .val d => Rp K F v d
  | .own ds => ∃ o xs, v = .ref o ∧ F o = none ∧ c.H o = none ∧ H o = some (.lst xs) ∧ Rps K F xs ds ∧ (fu ≠ none → o ≠ a)
  | .src => v = .ref a ∧ fu ≠ none
  | .scr ns => ∃ b, v = .ref b ∧ SqL K F b (ns.map V.int)
  | .ob k => ObOk K F v k
  | .mem bm hs good => v = .ref a ∧ fu = none ∧ (bm = true → c.mp a hs good) ∧ F a = none ∧ c.H a = none ∧ MemAt K F H a hs good
def RvOk (K : Fg) (F : Hp) (a : Addr) (fu : Option Nat) (v : V) : Rv → Prop
  | .val d => Rp K F v d
  | .src => v = .ref a ∧ fu ≠ none
  | .scr ns => ∃ b, v = .ref b ∧ SqL K F b (ns.map V.int)
  | .ob k => ObOk K F v k
theorem RvOk.up {K : Fg} {F F' : Hp} {a : Addr} {fu : Option Nat} {v : V} (e : Ex F F') : ∀ {r : Rv}, RvOk K F a fu v r → RvOk K F' a fu v r
  | .val _, h => Rp.up h e
  | .src, h => h
  | .scr _, ⟨b, h1, h2⟩ => ⟨b, h1, ex_l e h2⟩
  | .ob _, h => ObOk.up e h
inductive Tm (K : Fg) (F : Hp) (a : Addr) (fu : Option Nat) : List V → List Rv → Prop
  | nil : Tm K F a fu [] []
  | cons {v : V} {vs : List V} {r : Rv} {rs : List Rv} : RvOk K F a fu v r → Tm K F a fu vs rs → Tm K F a fu (v :: vs) (r :: rs)
def LAM : List Str := []
def lamQ (x : Str) : Str := x ++ ".<locals>.<lambda>"
/-- no table -/
def NT (o : HO) : Prop := ∀ ps, o ≠ .tbl ps
/-- the table at P: known to the heap, not to the still part; its code objects are known to the still part -/
structure TabAt (F H : Hp) (P : Addr) (q : Str) : Prop where
  ex : ∃ ps : Array Value, H P = some (.tbl ps) ∧ PySem.TriplesOk ps.toList ∧ ∀ (pos : Pos) (cv : Value), PySem.codeAmong pos ps.toList = some cv → ∃ c, cv = .ref c ∧ F c = some (LamX.CodeO c q)
  no : F P = none
def TabK (K : Fg) (F H : Hp) : Prop := ∀ x c P, x ∈ LAM → PySem.W.tabIn K x = some (c, P) → TabAt F H P (lamQ x)
theorem TabK.up {K : Fg} {F H F' H' : Hp} (t : TabK K F H) (ef : Ex F F') (eh : ∀ b ps, H b = some (.tbl ps) → H' b = some (.tbl ps)) (rn : ∀ b, F' b ≠ none → F b ≠ none ∨ ∀ ps, H b ≠ some (.tbl ps)) : TabK K F' H' := fun x c P h1 h2 => by
  obtain ⟨⟨ps, a1, a2, a3⟩, a4⟩ := t x c P h1 h2
  refine ⟨⟨ps, eh P ps a1, a2, fun pos cv hc => ?_⟩, ?_⟩
  · obtain ⟨c, e1, e2⟩ := a3 pos cv hc
    exact ⟨c, e1, ef _ _ e2⟩
  · cases q : F' P with
    | none => rfl
    | some o =>
      rcases rn P (by rw [q]; exact fun z => nomatch z) with w | w
      · exact absurd a4 w
      · exact absurd a1 (w ps)
/-- the still part grows by a list of the heap -/
theorem TabK.lst {K : Fg} {F H : Hp} {o : Addr} {xs : List V} (t : TabK K F H) (ho : H o = some (.lst xs)) (fo : F o = none) : TabK K (upd F o (.lst xs)) H :=
  t.up (Ex.new fo) (fun _ _ h => h) fun b h => by
    by_cases z : b = o
    · subst z
      exact .inr fun ps e => by rw [ho] at e; cases e
    · rw [upd_ne z] at h
      exact .inl h
/-- another thing at o, where there was no table -/
theorem TabK.but {K : Fg} {F H H' : Hp} {o : Addr} {w : HO} (t : TabK K F H) (ho : H o = some w) (n : NT w) (e : ∀ b u, b ≠ o → H b = some u → H' b = some u) : TabK K F H' :=
  t.up (Ex.refl F) (fun b ps h => e b _ (fun z => by rw [z, ho] at h; cases h; exact n _ rfl) h) fun _ h => .inl h
theorem MemAt.at {K : Fg} {F H : Hp} {a : Addr} {hs : PySem.NestedKey → Int} {good : Da → Da → Prop} (h : MemAt K F H a hs good) : ∃ u, H a = some u ∧ NT u ∧ ∀ xs, u ≠ .lst xs := by
  obtain ⟨L, h, _⟩ := h
  exact ⟨_, h, (fun ps z => by cases z), fun xs z => by cases z⟩
theorem MemAt.ne {K : Fg} {F H : Hp} {a o : Addr} {hs : PySem.NestedKey → Int} {good : Da → Da → Prop} {xs : List V} (h : MemAt K F H a hs good) (ho : H o = some (.lst xs)) : a ≠ o := fun z => by
  obtain ⟨u, e, _, n⟩ := h.at
  rw [z, ho] at e
  cases e
  exact n _ rfl
theorem MemAt.keep {K : Fg} {F H F' H' : Hp} {a : Addr} {hs : PySem.NestedKey → Int} {good : Da → Da → Prop} (h : MemAt K F H a hs good) (e : Ex F F') (k : ∀ o, NT o → H a = some o → H' a = some o) : MemAt K F' H' a hs good := by
  obtain ⟨L, h1, h2⟩ := h
  refine ⟨L, k _ (fun ps z => by cases z) h1, fun x hx => ?_⟩
  obtain ⟨d, r, dv, v, g⟩ := h2 x hx
  exact ⟨d, r.up e, dv, v.up e, g⟩
theorem MemAt.no {K : Fg} {F H F' : Hp} {a : Addr} {hs : PySem.NestedKey → Int} {good : Da → Da → Prop} (h : MemAt K F H a hs good) (hf : F a = none) (rn : ∀ b, F' b ≠ none → F b ≠ none ∨ H b = none) : F' a = none := by
  cases q : F' a with
  | none => rfl
  | some o =>
    obtain ⟨u, e, _⟩ := h.at
    rcases rn a (by rw [q]; exact fun z => nomatch z) with z | z
    · exact absurd hf z
    · rw [e] at z
      cases z
/-- tables stay tables -/
def TbS (H H' : Hp) : Prop := ∀ b ps, H b = some (.tbl ps) → ∃ ps', H' b = some (.tbl ps')
theorem TbS.refl {H : Hp} : TbS H H := fun _ ps h => ⟨ps, h⟩
theorem TbS.ex {H H' : Hp} (e : Ex H H') : TbS H H' := fun b ps h => ⟨ps, e b _ h⟩
theorem TbS.trans {H H1 H2 : Hp} (a : TbS H H1) (b : TbS H1 H2) : TbS H H2 := fun x ps h => let ⟨ps', h'⟩ := a x ps h; b x ps' h'
theorem TbS.but {H H' : Hp} {o : Addr} {w : HO} (ho : H o = some w) (n : NT w) (e : ∀ b u, b ≠ o → H b = some u → H' b = some u) : TbS H H' :=
  fun b ps h => ⟨ps, e b _ (fun z => by rw [z, ho] at h; cases h; exact n _ rfl) h⟩
structure Sta (K : Fg) (c : Con) (g : Gs) (σ : L2.St) (H : Hp) (tv : List V) (tr : List Rv) (F : Hp) (a : Addr) : Prop where
  e0 : Ex c.F F
  eh : Ex F H
  keep : ∀ b o, c.ext ≠ some b → NT o → c.H b = some o → H b = some o
  new : ∀ b, F b ≠ none → c.F b ≠ none ∨ c.H b = none
  ex : ∀ b, c.ext = some b → a = b ∧ g.fu ≠ none
  ow : g.ow = true → c.ext = none
  src : ∀ n, g.fu = some n → F a = none ∧ (c.ext = some a ∨ (c.ext = none ∧ c.H a = none)) ∧ SrcAt H a n
  tmp : Tm K F a g.fu tv tr
  len : σ.length = g.sl.length
  slot : ∀ (i : Nat) s, g.sl[i]? = some (some s) → ∃ v, σ[i]? = some (some v) ∧ SlOk K F H c a g.fu v s
  dis : ∀ (i j : Nat) ds es, i ≠ j → g.sl[i]? = some (some (.own ds)) → g.sl[j]? = some (some (.own es)) → σ[i]? ≠ σ[j]?
  t0 : TabK K F H
  tab : TbS c.H H
/-- still part and heap have grown -/
structure Gr (F H F' H' : Hp) : Prop where
  f : Ex F F'
  h : Ex H H'
  s : Ex F' H'
  n : ∀ b, F' b ≠ none → F b ≠ none ∨ H b = none
theorem Gr.refl {F H : Hp} (e : Ex F H) : Gr F H F H := ⟨Ex.refl _, Ex.refl _, e, fun _ h => .inl h⟩
theorem ne_none {α : Type} {x : Option α} {o : α} (h : x = some o) : x ≠ none := by rw [h]; exact fun z => nomatch z
theorem Gr.new {F H : Hp} {p : Addr} {o : HO} (e : Ex F H) (hp : H p = none) : Gr F H (upd F p o) (upd H p o) := by
  have fp : F p = none := fresh_back e hp
  refine ⟨Ex.new fp, Ex.new hp, fun b u q => ?_, fun b q => ?_⟩
  · by_cases hb : b = p
    · subst hb; rw [upd_same] at q ⊢; exact q
    · rw [upd_ne hb] at q ⊢; exact e b u q
  · by_cases hb : b = p
    · subst hb; exact .inr hp
    · rw [upd_ne hb] at q; exact .inl q
theorem Gr.trans {F H F1 H1 F2 H2 : Hp} (a : Gr F H F1 H1) (b : Gr F1 H1 F2 H2) : Gr F H F2 H2 :=
  ⟨a.f.trans b.f, a.h.trans b.h, b.s, fun x q => by
    rcases b.n x q with z | z
    · exact a.n x z
    · exact .inr (fresh_back a.h z)⟩
theorem Tm.up {K : Fg} {F F' : Hp} {a : Addr} {fu : Option Nat} (e : Ex F F') : ∀ {tv : List V} {tr : List Rv}, Tm K F a fu tv tr → Tm K F' a fu tv tr
  | _, _, .nil => .nil
  | _, _, .cons (r := r) h t => .cons (h.up e) (t.up e)
section
variable {K : Fg} {c : Con} {g : Gs} {σ : L2.St} {H H' F F' : Hp} {tv : List V} {tr : List Rv} {a : Addr}
/-- an old address is not new -/
theorem Sta.fresh (s : Sta K c g σ H tv tr F a) {b : Addr} (h : H b = none) : c.H b = none := by
  cases q : c.H b with
  | none => rfl
  | some o =>
    by_cases hx : c.ext = some b
    · obtain ⟨e1, e2⟩ := s.ex b hx
      subst e1
      cases hf : g.fu with
      | none => exact absurd hf e2
      | some n =>
        obtain ⟨_, _, x, y, z, e, _⟩ := s.src n hf
        rw [h] at e; cases e
    · cases o with
      | tbl ps =>
        obtain ⟨ps', z⟩ := s.tab b ps q
        rw [h] at z; cases z
      | _ => rw [s.keep b _ hx (fun _ z => by cases z) q] at h; cases h
theorem Sta.tabk (s : Sta K c g σ H tv tr F a) : TabK K F H := s.t0
theorem Sta.growN (s : Sta K c g σ H tv tr F a) (rf : Ex F F') (rh : ∀ b o, NT o → H b = some o → H' b = some o) (rs : Ex F' H') (rn : ∀ b, F' b ≠ none → F b ≠ none ∨ H b = none) (rt : TbS H H') (rk : TabK K F' H') : Sta K c g σ H' tv tr F' a where
  e0 := s.e0.trans rf
  eh := rs
  keep := fun b o h1 hn h2 => rh b o hn (s.keep b o h1 hn h2)
  new := fun b q => by
    rcases rn b q with z | z
    · exact s.new b z
    · exact .inr (s.fresh z)
  ex := s.ex
  ow := s.ow
  src := fun n h => by
    obtain ⟨h1, h2, x, y, z, e, h3⟩ := s.src n h
    refine ⟨?_, h2, x, y, z, rh _ _ (fun _ z => by cases z) e, h3⟩
    cases q : F' a with
    | none => rfl
    | some o =>
      rcases rn a (ne_none q) with z | z
      · exact absurd h1 z
      · rw [e] at z; cases z
  tmp := s.tmp.up rf
  len := s.len
  slot := fun i sv h => by
    obtain ⟨v, h1, h2⟩ := s.slot i sv h
    refine ⟨v, h1, ?_⟩
    cases sv with
    | val d => exact Rp.up h2 rf
    | src => exact h2
    | scr ns => obtain ⟨b, z1, z2⟩ := h2; exact ⟨b, z1, ex_l rf z2⟩
    | ob k => exact ObOk.up rf h2
    | mem bm hs gd =>
      obtain ⟨q1, q2, q3, q4, q5, q6⟩ := h2
      exact ⟨q1, q2, q3, q6.no q4 rn, q5, q6.keep rf fun o n e => rh _ o n e⟩
    | own ds =>
      obtain ⟨o, xs, q1, q2, q3, q4, q5, q6⟩ := h2
      refine ⟨o, xs, q1, ?_, q3, rh _ _ (fun _ z => by cases z) q4, q5.up rf, q6⟩
      cases q : F' o with
      | none => rfl
      | some u =>
        rcases rn o (ne_none q) with z | z
        · exact absurd q2 z
        · rw [q4] at z; cases z
  dis := s.dis
  t0 := rk
  tab := s.tab.trans rt
theorem Sta.grow (s : Sta K c g σ H tv tr F a) (r : Gr F H F' H') : Sta K c g σ H' tv tr F' a := s.growN r.f (fun b o _ h => r.h b o h) r.s r.n (.ex r.h) (s.t0.up r.f (fun b ps h => r.h b _ h) fun b h => (r.n b h).imp id fun z ps e => by rw [z] at e; cases e)
theorem Sta.push (s : Sta K c g σ H tv tr F a) {v : V} {r : Rv} (h : RvOk K F a g.fu v r) : Sta K c g σ H (v :: tv) (r :: tr) F a :=
  ⟨s.e0, s.eh, s.keep, s.new, s.ex, s.ow, s.src, .cons h s.tmp, s.len, s.slot, s.dis, s.t0, s.tab⟩
theorem Sta.pop (s : Sta K c g σ H tv tr F a) {tv' : List V} {tr' : List Rv} (h : Tm K F a g.fu tv' tr') : Sta K c g σ H tv' tr' F a :=
  ⟨s.e0, s.eh, s.keep, s.new, s.ex, s.ow, s.src, h, s.len, s.slot, s.dis, s.t0, s.tab⟩
theorem Sta.pop1 {v : V} {r : Rv} (s : Sta K c g σ H (v :: tv) (r :: tr) F a) : Sta K c g σ H tv tr F a :=
  s.pop (by cases s.tmp with | cons _ t => exact t)
theorem Sta.top {v : V} {r : Rv} (s : Sta K c g σ H (v :: tv) (r :: tr) F a) : RvOk K F a g.fu v r := by
  cases s.tmp with | cons h _ => exact h
end
abbrev DE := Gs → (Rv → Gs → Prop) → Prop
abbrev DL := Gs → (List Da → Gs → Prop) → Prop
abbrev DT := Gs → (Bool → Gs → Prop) → Prop
abbrev DA := Gs → (List Rv → Gs → Prop) → Prop
structure DEnds where
  nx : Gs → Prop
  rt : Rr → Gs → Prop
  bk : Gs → Prop := fun _ => False
  ct : Gs → Prop := fun _ => False
abbrev DS := DEnds → Gs → Prop
def up (K : Fg) (t : DE) : TE := fun σ H Q => ∃ c g tv tr F a post, Sta K c g σ H tv tr F a ∧ t g post ∧
  ∀ r g' v H' F' a', post r g' → Sta K c g' σ H' (v :: tv) (r :: tr) F' a' → Q v H'
def upT (K : Fg) (t : DT) : TT := fun σ H Q => ∃ c g tv tr F a post, Sta K c g σ H tv tr F a ∧ t g post ∧
  ∀ b g' H' F' a', post b g' → Sta K c g' σ H' tv tr F' a' → Q b H'
/-- a new list, at an address of its own -/
structure NewL (K : Fg) (c : Con) (g : Gs) (σ : L2.St) (H F : Hp) (a : Addr) (v : V) (ds : List Da) : Prop where
  ex : ∃ o xs, v = .ref o ∧ F o = none ∧ c.H o = none ∧ H o = some (.lst xs) ∧ Rps K F xs ds ∧ (g.fu ≠ none → o ≠ a) ∧
    ∀ (i : Nat) (es : List Da), g.sl[i]? = some (some (Sv.own es)) → σ[i]? ≠ some (some (V.ref o))
def upL (K : Fg) (t : DL) : TE := fun σ H Q => ∃ c g tv tr F a post, Sta K c g σ H tv tr F a ∧ t g post ∧
  ∀ ds g' v H' F' a', post ds g' → Sta K c g' σ H' tv tr F' a' → NewL K c g' σ H' F' a' v ds → Q v H'
def upA (K : Fg) (t : DA) : TA := fun σ H Q => ∃ c g tv tr F a post, Sta K c g σ H tv tr F a ∧ t g post ∧
  ∀ rs g' vs H' F' a', post rs g' → Sta K c g' σ H' (vs.reverse ++ tv) (rs.reverse ++ tr) F' a' → vs.length = rs.length → Q vs H'
structure DD (K : Fg) (Wx : WX) (c : Con) (tv : List V) (tr : List Rv) (d : DEnds) (D : Ends) : Prop where
  nx : ∀ g σ H F a, d.nx g → Sta K c g σ H tv tr F a → D.nx σ H
  bk : ∀ g σ H F a, d.bk g → Sta K c g σ H tv tr F a → D.bk σ H
  ct : ∀ g σ H F a, d.ct g → Sta K c g σ H tv tr F a → D.ct σ H
  rv : ∀ x g σ v H F a, d.rt (.val x) g → Sta K c g σ H (v :: tv) (.val x :: tr) F a → D.rt v H
  ro : ∀ ds g σ v H F a, d.rt (.own ds) g → Sta K c g σ H tv tr F a → NewL K c { g with sl := [] } [] H F a v ds → D.rt v H
  rx : ∀ nm z g σ H F a cls dd, d.rt (.exc nm z) g → Sta K c g σ H tv tr F a → XvOk K F cls dd nm z → Wx cls dd σ H
def hasSrc : List Rv → Bool
  | [] => false
  | .src :: _ => true
  | _ :: r => hasSrc r
theorem hasSrc_app : ∀ {rs ts : List Rv}, hasSrc rs = false → hasSrc ts = false → hasSrc (rs ++ ts) = false
  | [], _, _, h => h
  | .val _ :: rs, _, h, h' => hasSrc_app (rs := rs) h h'
  | .scr _ :: rs, _, h, h' => hasSrc_app (rs := rs) h h'
  | .ob _ :: rs, _, h, h' => hasSrc_app (rs := rs) h h'
  | .src :: _, _, h, _ => by cases h
def upS (K : Fg) (Wx : WX) (t : DS) : TS := fun D σ H => ∃ c g tv tr F a d, Sta K c g σ H tv tr F a ∧ hasSrc tr = false ∧ t d g ∧ DD K Wx c tv tr d D
section
variable {X : Cx} {e : Expr}
theorem pe_to {t t' : TE} (h : PE X e t) (i : ∀ σ H Q, t' σ H Q → t σ H Q) : PE X e t' := ⟨fun pins s σ H Q I q => h.run pins s σ H Q I (i σ H Q q)⟩
theorem pt_to {t t' : TT} (h : PT X e t) (i : ∀ σ H Q, t' σ H Q → t σ H Q) : PT X e t' := ⟨fun pins s σ H Q I q => h.run pins s σ H Q I (i σ H Q q)⟩
theorem pw_to {t t' : TT} (h : PW X e t) (i : ∀ σ H Q, t' σ H Q → t σ H Q) : PW X e t' := ⟨fun w pins s σ H Q I q => h.run w pins s σ H Q I (i σ H Q q)⟩
theorem pa_to {es : List Expr} {t t' : TA} (h : PA X es t) (i : ∀ σ H Q, t' σ H Q → t σ H Q) : PA X es t' := ⟨fun p pins s σ H Q I q => h.run p pins s σ H Q I (i σ H Q q)⟩
theorem ps_to {st : Stmt} {t t' : TS} (h : PS X st t) (i : ∀ D σ H, t' D σ H → t D σ H) : PS X st t' := ⟨fun pins s σ H D I q => h.run pins s σ H D I (i D σ H q)⟩
theorem pss_to {st : List Stmt} {t t' : TS} (h : PSs X st t) (i : ∀ D σ H, t' D σ H → t D σ H) : PSs X st t' := ⟨fun pins s σ H D I q => h.run pins s σ H D I (i D σ H q)⟩
end
def Gs.set (g : Gs) (i : Nat) (s : Sv) : Gs := { g with sl := g.sl.set i (some s) }
def dVar (i : Nat) : DE := fun g Q => match g.sl[i]? with
  | some (some (.val d)) => Q (.val d) g
  | some (some .src) => Q .src g
  | some (some (.scr ns)) => Q (.scr ns) g
  | some (some (.ob k)) => Q (.ob k) g
  | some (some (.own ds)) => Q (.val (.list ds)) (g.set i (.val (.list ds)))
  | _ => False
def dC (d : Da) : DE := fun g Q => Q (.val d) g
section
variable {K : Fg} {c : Con} {g : Gs} {σ : L2.St} {H H' F F' : Hp} {tv : List V} {tr : List Rv} {a : Addr}
/-- an own list is given away: it stands still from now on -/
theorem Sta.freeze (s : Sta K c g σ H tv tr F a) {i : Nat} {ds : List Da} (h : g.sl[i]? = some (some (.own ds))) :
    ∃ o F', σ[i]? = some (some (.ref o)) ∧ Rp K F' (.ref o) (.list ds) ∧ Sta K c (g.set i (.val (.list ds))) σ H tv tr F' a := by
  obtain ⟨v, h1, o, xs, rfl, q2, q3, q4, q5, q6⟩ := s.slot i _ h
  have ef : Ex F (upd F o (.lst xs)) := Ex.new q2
  have ro : Rp K (upd F o (.lst xs)) (.ref o) (.list ds) := .lst upd_same (q5.up ef)
  have hi : i < g.sl.length := (List.getElem?_eq_some_iff.mp h).1
  refine ⟨o, upd F o (.lst xs), h1, ro, s.e0.trans ef, fun b u q => ?_, s.keep, fun b q => ?_, s.ex, s.ow, fun n hn => ?_, s.tmp.up ef, ?_, fun j sv hj => ?_, fun j k es fs hjk hj hk => ?_, s.t0.lst q4 q2, s.tab⟩
  · by_cases hb : b = o
    · subst hb; rw [upd_same] at q; cases q; exact q4
    · rw [upd_ne hb] at q; exact s.eh b u q
  · by_cases hb : b = o
    · subst hb; exact .inr q3
    · rw [upd_ne hb] at q; exact s.new b q
  · obtain ⟨z1, z2⟩ := s.src n hn
    refine ⟨?_, z2⟩
    rw [upd_ne (fun z => q6 (ne_none hn) z.symm)]; exact z1
  · show σ.length = (g.sl.set i _).length
    rw [List.length_set]; exact s.len
  · by_cases hji : j = i
    · subst hji
      have : (g.sl.set j (some (Sv.val (.list ds))))[j]? = some (some sv) := hj
      rw [List.getElem?_set_self hi] at this
      cases this
      exact ⟨_, h1, ro⟩
    · have : (g.sl.set i (some (Sv.val (.list ds))))[j]? = some (some sv) := hj
      rw [List.getElem?_set_ne (Ne.symm hji)] at this
      obtain ⟨v, w1, w2⟩ := s.slot j sv this
      refine ⟨v, w1, ?_⟩
      cases sv with
      | val d => exact Rp.up w2 ef
      | src => exact w2
      | scr ns => obtain ⟨b, z1, z2⟩ := w2; exact ⟨b, z1, ex_l ef z2⟩
      | ob k => exact ObOk.up ef w2
      | mem bm hs gd =>
        obtain ⟨z1, z2, z3, z4, z5, z6⟩ := w2
        exact ⟨z1, z2, z3, by rw [upd_ne (z6.ne q4)]; exact z4, z5, z6.keep ef fun _ _ e => e⟩
      | own es =>
        obtain ⟨o', ys, r1, r2, r3, r4, r5, r6⟩ := w2
        have ne : o' ≠ o := fun z => s.dis j i es ds hji this h (by rw [w1, h1, r1, z])
        exact ⟨o', ys, r1, by rw [upd_ne ne]; exact r2, r3, r4, r5.up ef, r6⟩
  · have n1 : j ≠ i := fun z => by
      subst z
      have : (g.sl.set j (some (Sv.val (.list ds))))[j]? = some (some (.own es)) := hj
      rw [List.getElem?_set_self hi] at this; cases this
    have n2 : k ≠ i := fun z => by
      subst z
      have : (g.sl.set k (some (Sv.val (.list ds))))[k]? = some (some (.own fs)) := hk
      rw [List.getElem?_set_self hi] at this; cases this
    have e1 : (g.sl.set i (some (Sv.val (.list ds))))[j]? = some (some (.own es)) := hj
    have e2 : (g.sl.set i (some (Sv.val (.list ds))))[k]? = some (some (.own fs)) := hk
    rw [List.getElem?_set_ne (Ne.symm n1)] at e1
    rw [List.getElem?_set_ne (Ne.symm n2)] at e2
    exact s.dis j k es fs hjk e1 e2
end
section
variable {X : Cx} {e : Expr}
theorem e_var (i : Nat) (h : PE X e (tVar i)) : PE X e (up X.K (dVar i)) := pe_to h fun σ H Q q => by
  obtain ⟨c, g, tv, tr, F, a, post, s, t, k⟩ := q
  unfold dVar at t
  split at t
  · rename_i d hd
    obtain ⟨v, h1, h2⟩ := s.slot i _ hd
    exact ⟨v, h1, k _ g v H F a t (s.push (r := .val d) h2)⟩
  · rename_i hd
    obtain ⟨v, h1, h2⟩ := s.slot i _ hd
    exact ⟨v, h1, k _ g v H F a t (s.push (r := .src) h2)⟩
  · rename_i ns hd
    obtain ⟨v, h1, h2⟩ := s.slot i _ hd
    exact ⟨v, h1, k _ g v H F a t (s.push (r := .scr ns) h2)⟩
  · rename_i kd hd
    obtain ⟨v, h1, h2⟩ := s.slot i _ hd
    exact ⟨v, h1, k _ g v H F a t (s.push (r := .ob kd) h2)⟩
  · rename_i ds hd
    obtain ⟨o, F', h1, h2, s'⟩ := s.freeze hd
    exact ⟨_, h1, k _ _ _ H F' a t (s'.push (r := .val (.list ds)) h2)⟩
  · exact t.elim
/-- anything whose value is plain and the same always -/
theorem e_c {v : V} {d : Da} (h : PE X e (tC v)) (r : ∀ F, Rp X.K F v d) : PE X e (up X.K (dC d)) := pe_to h fun σ H Q q => by
  obtain ⟨c, g, tv, tr, F, a, post, s, t, k⟩ := q
  exact k _ g v H F a t (s.push (r := .val d) (r F))
theorem e_int {i j pos} : PE X (.Constant (.int i) j pos) (up X.K (dC (.int i))) := e_c pe_int fun _ => .int i
theorem e_bl {b j pos} : PE X (.Constant (.bool b) j pos) (up X.K (dC (.bool b))) := e_c pe_bl fun _ => .bl b
theorem e_non {j pos} : PE X (.Constant .none j pos) (up X.K (dC .none)) := e_c pe_non fun _ => .non
theorem e_str {x j pos} : PE X (.Constant (.str x) j pos) (up X.K (dC (.str x))) := e_c pe_str fun _ => .str x
end
end Z
namespace Z
open L2 PySem PySem.Spec PyProof.Rows
open Evl (Ex ex_l ex_t ex_rd fresh_back)
abbrev BinF := Da → Da → (Da → Prop) → Prop
def dBin (f : BinF) (ta tb : DE) : DE := fun g Q => ta g fun x g1 => tb g1 fun y g2 => match x, y with
  | .val d, .val e => f d e fun z => Q (.val z) g2
  | _, _ => False
/-- on values: what r asks follows from f -/
def BinOk (K : Fg) (r : R2) (f : BinF) : Prop := ∀ (F H : Hp) (x y : V) (d e : Da) (post : Da → Prop) (Q : VK), Ex F H → Rp K F x d → Rp K F y e → f d e post →
  (∀ z v H' F', post z → Gr F H F' H' → Rp K F' v z → Q v H') → r x y H Q
section
variable {X : Cx} {a b : Expr} {ta tb : DE} {pos : Pos} {f : BinF} {r : R2}
theorem bin_core (hf : BinOk X.K r f) : ∀ σ H Q, up X.K (dBin f ta tb) σ H Q → tOp r (up X.K ta) (up X.K tb) σ H Q := fun σ H Q q => by
  obtain ⟨c, g, tv, tr, F, ad, post, s, t, k⟩ := q
  refine ⟨c, g, tv, tr, F, ad, _, s, t, fun x g1 v1 H1 F1 a1 t1 s1 => ?_⟩
  refine ⟨c, g1, _, _, F1, a1, _, s1, t1, fun y g2 v2 H2 F2 a2 t2 s2 => ?_⟩
  cases x with
  | val d =>
    cases y with
    | val e =>
      have r1 : Rp X.K F2 v1 d := s2.pop1.top
      have r2 : Rp X.K F2 v2 e := s2.top
      refine hf F2 H2 v1 v2 d e _ Q s2.eh r1 r2 t2 fun z v H' F' hz gr rz => ?_
      exact k _ g2 v H' F' a2 hz ((s2.pop1.pop1.grow gr).push (r := .val z) rz)
    | src => exact t2.elim
    | scr _ => exact t2.elim
    | ob _ => exact t2.elim
  | src => exact t2.elim
  | scr _ => exact t2.elim
  | ob _ => exact t2.elim
theorem e_bin {op : Operator} (ho : OpR X (binaryOp op) r) (hf : BinOk X.K r f) (ha : PE X a (up X.K ta)) (hb : PE X b (up X.K tb)) : PE X (.BinOp a op b pos) (up X.K (dBin f ta tb)) :=
  pe_to (pe_op ho ha hb) (bin_core hf)
theorem e_cmp {op : CmpOp} (ho : OpR X (compareOp op) r) (hf : BinOk X.K r f) (ha : PE X a (up X.K ta)) (hb : PE X b (up X.K tb)) (hm : behindInMarks op b = false) : PE X (.Compare a [op] [b] pos) (up X.K (dBin f ta tb)) :=
  pe_to (pe_cmpR ho ha hb hm) (bin_core hf)
theorem or_op {ff : Value → Value → Sem Value} {r1 r2 : R2} (h1 : OpR X ff r1) (h2 : OpR X ff r2) : OpR X ff (fun x y H Q => r1 x y H Q ∨ r2 x y H Q) := by
  intro pins s σ H x y v u Q I rx ry h
  rcases h with h | h
  · exact h1 pins s σ H x y v u Q I rx ry h
  · exact h2 pins s σ H x y v u Q I rx ry h
end
def fI (C : Int → Int → Prop) (o : Int → Int → Da) : BinF := fun d e post => match d, e with
  | .int i, .int j => C i j ∧ post (o i j)
  | _, _ => False
section
variable {K : Fg}
theorem ok_I {C : Int → Int → Prop} {o : Int → Int → Int} : BinOk K (rI C fun i j => .int (o i j)) (fI C fun i j => .int (o i j)) := fun F H x y d e post Q hx r1 r2 hf k => by
  cases d with
  | int i =>
    cases e with
    | int j =>
      cases r1; cases r2
      exact ⟨i, j, rfl, rfl, hf.1, k _ _ H F hf.2 (Gr.refl hx) (.int _)⟩
    | _ => exact hf.elim
  | _ => exact hf.elim
end
def fI0 (o : Int → Int → Da) : BinF := fun d e post => match d, e with
  | .int i, .int j => post (o i j)
  | _, _ => False
section
variable {K : Fg}
theorem ok_I0 {o : Int → Int → Int} : BinOk K (rI0 fun i j => .int (o i j)) (fI0 fun i j => .int (o i j)) := fun F H x y d e post Q hx r1 r2 hf k => by
  cases d with
  | int i =>
    cases e with
    | int j =>
      cases r1; cases r2
      exact ⟨i, j, rfl, rfl, k _ _ H F hf (Gr.refl hx) (.int _)⟩
    | _ => exact hf.elim
  | _ => exact hf.elim
theorem ok_I0b {o : Int → Int → Bool} : BinOk K (rI0 fun i j => .bl (o i j)) (fI0 fun i j => .bool (o i j)) := fun F H x y d e post Q hx r1 r2 hf k => by
  cases d with
  | int i =>
    cases e with
    | int j =>
      cases r1; cases r2
      exact ⟨i, j, rfl, rfl, k _ _ H F hf (Gr.refl hx) (.bl _)⟩
    | _ => exact hf.elim
  | _ => exact hf.elim
end
def CPowX (i j : Int) : Prop := 0 ≤ j ∧ (Builtin.Int.intBits i : Int) * j ≤ 2 ^ 27
/-- +: ints, texts, tuples, lists -/
def fAdd : BinF := fun d e post => match d, e with
  | .int i, .int j => post (.int (i + j))
  | .str x, .str y => x.length + y.length ≤ sizeLine ∧ post (.str (x ++ y))
  | .tuple xs, .tuple ys => xs ≠ [] ∧ xs.length + ys.length ≤ sizeLine ∧ post (.tuple (xs ++ ys))
  | .list xs, .list ys => xs.length + ys.length ≤ sizeLine ∧ post (.list (xs ++ ys))
  | _, _ => False
section
variable {X : Cx} {a b : Expr} {ta tb : DE} {pos : Pos}
theorem Rps.nil_iff {K : Fg} {F : Hp} {xs : List V} {ds : List Da} (h : Rps K F xs ds) : xs = [] ↔ ds = [] := by
  cases h <;> simp
theorem e_add (ha : PE X a (up X.K ta)) (hb : PE X b (up X.K tb)) : PE X (.BinOp a .Add b pos) (up X.K (dBin fAdd ta tb)) := by
  refine e_bin (or_op op_add (or_op op_add_str (or_op op_catT op_cat))) ?_ ha hb
  intro F H x y d e post Q hx r1 r2 hf k
  cases d with
  | int i =>
    cases e with
    | int j =>
      cases r1; cases r2
      exact .inl ⟨i, j, rfl, rfl, k _ _ H F hf (Gr.refl hx) (.int _)⟩
    | _ => exact hf.elim
  | str u =>
    cases e with
    | str w =>
      cases r1; cases r2
      exact .inr (.inl ⟨u, w, rfl, rfl, hf.1, k _ _ H F hf.2 (Gr.refl hx) (.str _)⟩)
    | _ => exact hf.elim
  | tuple ds =>
    cases e with
    | tuple es =>
      cases r1 with
      | tup s1 m1 =>
        cases r2 with
        | tup s2 m2 =>
          rename_i p1 xs p2 ys
          obtain ⟨h1, h2, h3⟩ := hf
          refine .inr (.inr (.inl ⟨p1, p2, xs, ys, rfl, rfl, ex_t hx s1, ex_t hx s2, fun z => h1 (m1.nil_iff.mp z), by rw [m1.len, m2.len]; exact h2, fun z => ?_, fun z p hp => ?_⟩))
          · have : es = [] := m2.nil_iff.mp z
            subst this
            rw [List.append_nil] at h3
            exact k _ _ H F h3 (Gr.refl hx) (.tup s1 m1)
          · have gr := Gr.new (o := .tup (xs ++ ys)) hx hp
            exact k _ _ _ _ h3 gr (.tup (.inl (.inl upd_same)) ((m1.up gr.f).app (m2.up gr.f)))
    | _ => exact hf.elim
  | list ds =>
    cases e with
    | list es =>
      cases r1 with
      | lst s1 m1 =>
        cases r2 with
        | lst s2 m2 =>
          rename_i p1 xs p2 ys
          obtain ⟨h2, h3⟩ := hf
          refine .inr (.inr (.inr ⟨p1, p2, xs, ys, rfl, rfl, hx _ _ s1, hx _ _ s2, by rw [m1.len, m2.len]; exact h2, fun p hp => ?_⟩))
          have gr := Gr.new (o := .lst (xs ++ ys)) hx hp
          exact k _ _ _ _ h3 gr (.lst upd_same ((m1.up gr.f).app (m2.up gr.f)))
    | _ => exact hf.elim
  | _ => exact hf.elim
theorem e_sub (ha : PE X a (up X.K ta)) (hb : PE X b (up X.K tb)) : PE X (.BinOp a .Sub b pos) (up X.K (dBin (fI0 fun i j => .int (i - j)) ta tb)) := e_bin op_sub ok_I0 ha hb
theorem e_mul (ha : PE X a (up X.K ta)) (hb : PE X b (up X.K tb)) : PE X (.BinOp a .Mult b pos) (up X.K (dBin (fI CMulX fun i j => .int (i * j)) ta tb)) := e_bin op_mulX ok_I ha hb
theorem e_div (ha : PE X a (up X.K ta)) (hb : PE X b (up X.K tb)) : PE X (.BinOp a .FloorDiv b pos) (up X.K (dBin (fI CDivW fun i j => .int (i / j)) ta tb)) := e_bin op_fdivW ok_I ha hb
theorem e_mod (ha : PE X a (up X.K ta)) (hb : PE X b (up X.K tb)) : PE X (.BinOp a .Mod b pos) (up X.K (dBin (fI (fun _ j => 0 < j) fun i j => .int (i % j)) ta tb)) := e_bin op_mod ok_I ha hb
theorem e_shl (ha : PE X a (up X.K ta)) (hb : PE X b (up X.K tb)) : PE X (.BinOp a .LShift b pos) (up X.K (dBin (fI CShl fun i j => .int (i * 2 ^ j.toNat)) ta tb)) := e_bin op_shlW ok_I ha hb
theorem op_powX : OpR X (binaryOp .Pow) (rI CPowX fun i j => .int (i ^ j.toNat)) := opI fun _ _ _ _ _ _ _ hc q => pow_int hc.1 hc.2 q
theorem e_pow (ha : PE X a (up X.K ta)) (hb : PE X b (up X.K tb)) : PE X (.BinOp a .Pow b pos) (up X.K (dBin (fI CPowX fun i j => .int (i ^ j.toNat)) ta tb)) := e_bin op_powX ok_I ha hb
theorem e_le (ha : PE X a (up X.K ta)) (hb : PE X b (up X.K tb)) : PE X (.Compare a [.LtE] [b] pos) (up X.K (dBin (fI0 fun i j => .bool (decide (i ≤ j))) ta tb)) := e_cmp op_le ok_I0b ha hb (nomark _)
theorem e_gt (ha : PE X a (up X.K ta)) (hb : PE X b (up X.K tb)) : PE X (.Compare a [.Gt] [b] pos) (up X.K (dBin (fI0 fun i j => .bool (decide (j < i))) ta tb)) := e_cmp op_gt ok_I0b ha hb (nomark _)
theorem e_ge (ha : PE X a (up X.K ta)) (hb : PE X b (up X.K tb)) : PE X (.Compare a [.GtE] [b] pos) (up X.K (dBin (fI0 fun i j => .bool (decide (j ≤ i))) ta tb)) := e_cmp op_ge ok_I0b ha hb (nomark _)
end
section
variable {K : Fg} {F H : Hp}
mutual
theorem Rp.dp (e : Ex F H) : ∀ (d : Da) (v : V), Rp K F v d → d.canLay0 = true → Dp K H v d
  | .none, _, h, _ => by cases h; exact .non
  | .bool b, _, h, _ => by cases h; exact .bl b
  | .int i, _, h, _ => by cases h; exact .int i
  | .str x, _, h, _ => by cases h; exact .str x
  | .list ds, _, h, q => by cases h with | lst hs ha => exact .lst (.inl (.inl (e _ _ hs))) (Rps.dp e ds _ ha (by simpa [PyData.canLay0] using q))
  | .tuple ds, _, h, q => by cases h with | tup hs ha => exact .tup (ex_t e hs) (Rps.dp e ds _ ha (by simpa [PyData.canLay0] using q))
  | .dict es, _, h, q => by simp [PyData.canLay0] at q
theorem Rps.dp (e : Ex F H) : ∀ (ds : List Da) (vs : List V), Rps K F vs ds → PyData.canLayAll0 ds = true → DpAll K H vs ds
  | [], _, h, _ => by cases h; exact .nil
  | d :: ds, _, h, q => by
    cases h with
    | cons h1 h2 =>
      have q' : d.canLay0 = true ∧ PyData.canLayAll0 ds = true := by simpa [PyData.canLayAll0] using q
      exact .cons (Rp.dp e d _ h1 q'.1) (Rps.dp e ds _ h2 q'.2)
end
end
def fEq : BinF := fun d e post => SeqAt.shaped d = true ∧ SeqAt.shaped e = true ∧ post (.bool (d.eqv e))
def fNe : BinF := fun d e post => SeqAt.shaped d = true ∧ SeqAt.shaped e = true ∧ post (.bool (!d.eqv e))
theorem shaped_lay {d : Da} (h : SeqAt.shaped d = true) : d.canLay0 = true := by
  unfold SeqAt.shaped at h
  rw [Bool.and_eq_true] at h
  exact h.1
section
variable {X : Cx} {a b : Expr} {ta tb : DE} {pos : Pos}
theorem e_eq (hu : X.A.units + 64 < cLine) (ha : PE X a (up X.K ta)) (hb : PE X b (up X.K tb)) : PE X (.Compare a [.Eq] [b] pos) (up X.K (dBin fEq ta tb)) :=
  e_cmp (op_eqD hu) (fun F H x y d e post Q hx r1 r2 hf k => ⟨d, e, r1.dp hx d x (shaped_lay hf.1), r2.dp hx e y (shaped_lay hf.2.1), hf.1, hf.2.1, k _ _ H F hf.2.2 (Gr.refl hx) (.bl _)⟩) ha hb (nomark _)
end
def flatD : Da → Bool
  | .none => true
  | .bool _ => true
  | .int _ => true
  | .str _ => true
  | _ => false
def inD (d : Da) (es : List Da) : Bool := es.any fun y => y.eqv d
def fIn (neg : Bool) : BinF := fun d e post => match e with
  | .tuple es => flatD d = true ∧ es.all flatD = true ∧ post (.bool (if neg then !inD d es else inD d es))
  | .list es => flatD d = true ∧ es.all flatD = true ∧ post (.bool (if neg then !inD d es else inD d es))
  | _ => False
section
variable {K : Fg} {F H : Hp}
theorem flat_v {v : V} {d : Da} (r : Rp K F v d) (h : flatD d = true) : flatV v = true := by
  cases r <;> first | rfl | exact absurd (show false = true from h) Bool.false_ne_true
theorem eqv_v {v w : V} {d e : Da} (r : Rp K F v d) (q : Rp K F w e) (h : flatD d = true) (h' : flatD e = true) : eqV v w = d.eqv e := by
  cases r <;> first | exact absurd (show false = true from h) Bool.false_ne_true | (cases q <;> first | exact absurd (show false = true from h') Bool.false_ne_true | (simp [eqV, PyData.eqv]))
theorem flat_vs : ∀ {vs : List V} {ds : List Da}, Rps K F vs ds → ds.all flatD = true → vs.all flatV = true
  | _, _, .nil, _ => rfl
  | _, _, .cons r t, h => by
    rw [List.all_cons, Bool.and_eq_true] at h ⊢
    exact ⟨flat_v r h.1, flat_vs t h.2⟩
theorem in_v {x : V} {d : Da} (r : Rp K F x d) (hd : flatD d = true) : ∀ {vs : List V} {ds : List Da}, Rps K F vs ds → ds.all flatD = true → inV x vs = inD d ds
  | _, _, .nil, _ => rfl
  | _, _, .cons q t, h => by
    rw [List.all_cons, Bool.and_eq_true] at h
    have ih := in_v r hd t h.2
    unfold inV inD at ih ⊢
    rw [List.any_cons, List.any_cons, ih, eqv_v q r h.1 hd]
theorem ok_in {neg : Bool} : BinOk K (rIn K neg) (fIn neg) := fun F H x y d e post Q hx r1 r2 hf k => by
  cases e with
  | tuple es =>
    cases r2 with
    | tup s1 m1 =>
      obtain ⟨h1, h2, h3⟩ := hf
      refine ⟨_, _, rfl, .inr (ex_t hx s1), flat_v r1 h1, flat_vs m1 h2, ?_⟩
      rw [in_v r1 h1 m1 h2]
      exact k _ _ H F h3 (Gr.refl hx) (.bl _)
  | list es =>
    cases r2 with
    | lst s1 m1 =>
      obtain ⟨h1, h2, h3⟩ := hf
      refine ⟨_, _, rfl, .inl (.inl (.inl (hx _ _ s1))), flat_v r1 h1, flat_vs m1 h2, ?_⟩
      rw [in_v r1 h1 m1 h2]
      exact k _ _ H F h3 (Gr.refl hx) (.bl _)
  | _ => exact hf.elim
end
section
variable {X : Cx} {a b : Expr} {ta tb : DE} {pos : Pos}
theorem e_in (ha : PE X a (up X.K ta)) (hb : PE X b (up X.K tb)) (hm : behindInMarks .In b = false := by rfl) : PE X (.Compare a [.In] [b] pos) (up X.K (dBin (fIn false) ta tb)) := e_cmp op_in_seq ok_in ha hb hm
end
end Z
namespace Z
open L2 PySem PySem.Spec PyProof.Rows
open Evl (Ex ex_l ex_t ex_rd fresh_back)
def dTest (t : DE) : DT := fun g Q => t g fun r g1 => match r with
  | .val (.bool b) => Q b g1
  | _ => False
def dAndT (ta tb : DT) : DT := fun g Q => ta g fun b g1 => (b = true → tb g1 Q) ∧ (b = false → Q false g1)
def dOrT (ta tb : DT) : DT := fun g Q => ta g fun b g1 => (b = true → Q true g1) ∧ (b = false → tb g1 Q)
def dNotT (ta : DT) : DT := fun g Q => ta g fun b g1 => Q (!b) g1
def dAndV (ta tb : DE) : DE := fun g Q => ta g fun r g1 => match r with
  | .val (.bool b) => (b = true → tb g1 Q) ∧ (b = false → Q (.val (.bool false)) g1)
  | _ => False
def dOrV (ta tb : DE) : DE := fun g Q => ta g fun r g1 => match r with
  | .val (.bool b) => (b = true → Q (.val (.bool true)) g1) ∧ (b = false → tb g1 Q)
  | _ => False
def dNotV (ta : DE) : DE := fun g Q => ta g fun r g1 => match r with
  | .val (.bool b) => Q (.val (.bool (!b))) g1
  | _ => False
def dIf (t : DT) (ta tb : DE) : DE := fun g Q => t g fun b g1 => (b = true → ta g1 Q) ∧ (b = false → tb g1 Q)
section
variable {K : Fg} {F : Hp} {a : Addr} {fu : Option Nat} {v : V}
theorem RvOk.bl {r : Rv} (h : RvOk K F a fu v r) {b : Bool} (e : r = .val (.bool b)) : v = .bl b := by
  subst e
  have h' : Rp K F v (.bool b) := h
  cases h'; rfl
end
section
variable {X : Cx} {a b c e : Expr} {ta tb t : DE} {sa sb : DT} {pos : Pos} {rest : List Expr}
theorem t_val (h : PE X e (up X.K t)) (hw : ∀ whole : Sem Value, isTrue e X.env whole = (do
    let v ← whole
    standAt e.pos
    holding [v] (truthy v)) := by intro _; rfl) : PT X e (upT X.K (dTest t)) := pt_to (pt_val h hw) fun σ H Q q => by
  obtain ⟨c, g, tv, tr, F, ad, post, s, t1, k⟩ := q
  refine ⟨c, g, tv, tr, F, ad, _, s, t1, fun r g1 v1 H1 F1 a1 h1 s1 => ?_⟩
  cases r with
  | val d =>
    cases d with
    | bool b => exact ⟨b, s1.top.bl rfl, k b g1 H1 F1 a1 h1 s1.pop1⟩
    | _ => exact h1.elim
  | _ => exact h1.elim
theorem w_and (h1 : PT X a (upT X.K sa)) (h2 : PW X (.BoolOp .And (b :: rest) pos) (upT X.K sb)) : PW X (.BoolOp .And (a :: b :: rest) pos) (upT X.K (dAndT sa sb)) := pw_to (pw_and h1 h2) fun σ H Q q => by
  obtain ⟨c, g, tv, tr, F, ad, post, s, t1, k⟩ := q
  refine ⟨c, g, tv, tr, F, ad, _, s, t1, fun b g1 H1 F1 a1 h1 s1 => ?_⟩
  cases b with
  | true => rw [if_pos rfl]; exact ⟨c, g1, tv, tr, F1, a1, _, s1, h1.1 rfl, k⟩
  | false => rw [if_neg Bool.false_ne_true]; exact k false g1 H1 F1 a1 (h1.2 rfl) s1
theorem w_and1 (h1 : PT X a (upT X.K sa)) : PW X (.BoolOp .And [a] pos) (upT X.K sa) := pw_and1 h1
theorem w_or (h1 : PT X a (upT X.K sa)) (h2 : PW X (.BoolOp .Or (b :: rest) pos) (upT X.K sb)) : PW X (.BoolOp .Or (a :: b :: rest) pos) (upT X.K (dOrT sa sb)) := pw_to (pw_or h1 h2) fun σ H Q q => by
  obtain ⟨c, g, tv, tr, F, ad, post, s, t1, k⟩ := q
  refine ⟨c, g, tv, tr, F, ad, _, s, t1, fun b g1 H1 F1 a1 h1 s1 => ?_⟩
  cases b with
  | true => rw [if_pos rfl]; exact k true g1 H1 F1 a1 (h1.1 rfl) s1
  | false => rw [if_neg Bool.false_ne_true]; exact ⟨c, g1, tv, tr, F1, a1, _, s1, h1.2 rfl, k⟩
theorem w_or1 (h1 : PT X a (upT X.K sa)) : PW X (.BoolOp .Or [a] pos) (upT X.K sa) := pw_or1 h1
theorem t_not (h1 : PT X a (upT X.K sa)) : PT X (.UnaryOp .Not a pos) (upT X.K (dNotT sa)) := pt_to (pt_not h1) fun σ H Q q => by
  obtain ⟨c, g, tv, tr, F, ad, post, s, t1, k⟩ := q
  exact ⟨c, g, tv, tr, F, ad, _, s, t1, fun b g1 H1 F1 a1 h1 s1 => k _ g1 H1 F1 a1 h1 s1⟩
theorem e_and (h1 : PE X a (up X.K ta)) (h2 : PE X (.BoolOp .And (b :: rest) pos) (up X.K tb)) : PE X (.BoolOp .And (a :: b :: rest) pos) (up X.K (dAndV ta tb)) := pe_to (pe_and h1 h2) fun σ H Q q => by
  obtain ⟨c, g, tv, tr, F, ad, post, s, t1, k⟩ := q
  refine ⟨c, g, tv, tr, F, ad, _, s, t1, fun r g1 v1 H1 F1 a1 h1 s1 => ?_⟩
  cases r with
  | val d =>
    cases d with
    | bool b =>
      refine ⟨b, s1.top.bl rfl, ?_⟩
      cases b with
      | true => rw [if_pos rfl]; exact ⟨c, g1, tv, tr, F1, a1, _, s1.pop1, h1.1 rfl, k⟩
      | false => rw [if_neg Bool.false_ne_true]; exact k _ g1 _ H1 F1 a1 (h1.2 rfl) (s1.pop1.push (r := .val (.bool false)) (Rp.bl false))
    | _ => exact h1.elim
  | _ => exact h1.elim
theorem e_or (h1 : PE X a (up X.K ta)) (h2 : PE X (.BoolOp .Or (b :: rest) pos) (up X.K tb)) : PE X (.BoolOp .Or (a :: b :: rest) pos) (up X.K (dOrV ta tb)) := pe_to (pe_or h1 h2) fun σ H Q q => by
  obtain ⟨c, g, tv, tr, F, ad, post, s, t1, k⟩ := q
  refine ⟨c, g, tv, tr, F, ad, _, s, t1, fun r g1 v1 H1 F1 a1 h1 s1 => ?_⟩
  cases r with
  | val d =>
    cases d with
    | bool b =>
      refine ⟨b, s1.top.bl rfl, ?_⟩
      cases b with
      | true => rw [if_pos rfl]; exact k _ g1 _ H1 F1 a1 (h1.1 rfl) (s1.pop1.push (r := .val (.bool true)) (Rp.bl true))
      | false => rw [if_neg Bool.false_ne_true]; exact ⟨c, g1, tv, tr, F1, a1, _, s1.pop1, h1.2 rfl, k⟩
    | _ => exact h1.elim
  | _ => exact h1.elim
theorem e_one {op : BoolOp} (h1 : PE X a (up X.K ta)) : PE X (.BoolOp op [a] pos) (up X.K ta) := pe_one h1
theorem e_not (h1 : PE X a (up X.K ta)) : PE X (.UnaryOp .Not a pos) (up X.K (dNotV ta)) := pe_to (pe_not h1) fun σ H Q q => by
  obtain ⟨c, g, tv, tr, F, ad, post, s, t1, k⟩ := q
  refine ⟨c, g, tv, tr, F, ad, _, s, t1, fun r g1 v1 H1 F1 a1 h1 s1 => ?_⟩
  cases r with
  | val d =>
    cases d with
    | bool b => exact ⟨b, s1.top.bl rfl, k _ g1 _ H1 F1 a1 h1 (s1.pop1.push (r := .val (.bool (!b))) (Rp.bl (!b)))⟩
    | _ => exact h1.elim
  | _ => exact h1.elim
theorem e_if (h : PT X c (upT X.K sa)) (h1 : PE X a (up X.K ta)) (h2 : PE X b (up X.K tb)) : PE X (.IfExp c a b pos) (up X.K (dIf sa ta tb)) := pe_to (pe_ifExp h h1 h2) fun σ H Q q => by
  obtain ⟨c, g, tv, tr, F, ad, post, s, t1, k⟩ := q
  refine ⟨c, g, tv, tr, F, ad, _, s, t1, fun b g1 H1 F1 a1 h1 s1 => ?_⟩
  cases b with
  | true => rw [if_pos rfl]; exact ⟨c, g1, tv, tr, F1, a1, _, s1, h1.1 rfl, k⟩
  | false => rw [if_neg Bool.false_ne_true]; exact ⟨c, g1, tv, tr, F1, a1, _, s1, h1.2 rfl, k⟩
/-- -a -/
def dNeg (ta : DE) : DE := fun g Q => ta g fun r g1 => match r with
  | .val (.int i) => Q (.val (.int (-i))) g1
  | _ => False
theorem e_neg (h1 : PE X a (up X.K ta)) : PE X (.UnaryOp .USub a pos) (up X.K (dNeg ta)) := pe_to (pe_un un_neg h1) fun σ H Q q => by
  obtain ⟨c, g, tv, tr, F, ad, post, s, t1, k⟩ := q
  refine ⟨c, g, tv, tr, F, ad, _, s, t1, fun r g1 v1 H1 F1 a1 h1 s1 => ?_⟩
  cases r with
  | val d =>
    cases d with
    | int i =>
      have hr : Rp X.K F1 v1 (.int i) := s1.top
      cases hr
      exact ⟨i, rfl, k _ g1 _ H1 F1 a1 h1 (s1.pop1.push (r := .val (.int (-i))) (Rp.int (-i)))⟩
    | _ => exact h1.elim
  | _ => exact h1.elim
/-- x is None, x is not None -/
def isNon : Da → Bool
  | .none => true
  | _ => false
def dIsN (neg : Bool) (ta : DE) : DE := fun g Q => ta g fun r g1 => match r with
  | .val d => Q (.val (.bool (if neg then !isNon d else isNon d))) g1
  | _ => False
theorem non_v {K : Fg} {F : Hp} {v : V} {d : Da} (h : Rp K F v d) : decide (v = .non) = isNon d := by
  cases h <;> simp [isNon]
theorem e_isN {j : Nat} {pos' : Pos} (h1 : PE X a (up X.K ta)) : PE X (.Compare a [.Is] [.Constant .none j pos'] pos) (up X.K (dIsN false ta)) := pe_to (pe_cmp (pc_isN h1) rfl) fun σ H Q q => by
  obtain ⟨c, g, tv, tr, F, ad, post, s, t1, k⟩ := q
  refine ⟨c, g, tv, tr, F, ad, _, s, t1, fun r g1 v1 H1 F1 a1 h1 s1 => ?_⟩
  cases r with
  | val d =>
    have hr : Rp X.K F1 v1 d := s1.top
    rw [non_v hr]
    exact k _ g1 _ H1 F1 a1 h1 (s1.pop1.push (r := .val (.bool (isNon d))) (Rp.bl _))
  | _ => exact h1.elim
/-- a < b < c -/
def dChain (f f' : BinF) (ta tb tc : DE) : DE := fun g Q => ta g fun x g1 => tb g1 fun y g2 => match x, y with
  | .val d, .val e => f d e fun z => match z with
    | .bool true => tc g2 fun w g3 => match w with
      | .val h => f' e h fun z' => Q (.val z') g3
      | _ => False
    | .bool false => Q (.val (.bool false)) g2
    | _ => False
  | _, _ => False
end
end Z
namespace Z
open L2 PySem PySem.Spec PyProof.Rows
open Evl (Ex ex_l ex_t ex_rd fresh_back)
section
variable {X : Cx} {a b c e : Expr} {ta tb tc t : DE} {pos : Pos}
theorem chain_core {r r' : R2} {f f' : BinF} (hf : BinOk X.K r f) (hf' : BinOk X.K r' f') {σ : L2.St} {H : Hp} {Q : VK} (q : up X.K (dChain f f' ta tb tc) σ H Q) : tChain r r' (up X.K ta) (up X.K tb) (up X.K tc) σ H Q := by
  obtain ⟨c, g, tv, tr, F, ad, post, s, t, k⟩ := q
  refine ⟨c, g, tv, tr, F, ad, _, s, t, fun x g1 v1 H1 F1 a1 t1 s1 => ?_⟩
  refine ⟨c, g1, _, _, F1, a1, _, s1, t1, fun y g2 v2 H2 F2 a2 t2 s2 => ?_⟩
  cases x with
  | val d =>
    cases y with
    | val e =>
      have r1 : Rp X.K F2 v1 d := s2.pop1.top
      have r2 : Rp X.K F2 v2 e := s2.top
      refine hf F2 H2 v1 v2 d e _ _ s2.eh r1 r2 t2 fun z v H3 F3 hz gr rz => ?_
      cases z with
      | bool k1 =>
        cases rz
        have s3 := s2.grow gr
        refine ⟨k1, rfl, ?_⟩
        cases k1 with
        | true =>
          rw [if_pos rfl]
          refine ⟨c, g2, _, _, F3, a2, _, s3, hz, fun w g4 v4 H4 F4 a4 t4 s4 => ?_⟩
          cases w with
          | val h =>
            have q2 : Rp X.K F4 v2 e := s4.pop1.top
            have q4 : Rp X.K F4 v4 h := s4.top
            exact hf' F4 H4 v2 v4 e h _ _ s4.eh q2 q4 t4 fun z' v' H5 F5 hz' gr' rz' => k _ g4 v' H5 F5 a4 hz' ((s4.pop1.pop1.pop1.grow gr').push (r := .val z') rz')
          | _ => exact t4.elim
        | false =>
          rw [if_neg Bool.false_ne_true]
          exact k _ g2 _ H3 F3 a2 hz (s3.pop1.pop1.push (r := .val (.bool false)) (Rp.bl false))
      | _ => exact hz.elim
    | _ => exact t2.elim
  | _ => exact t2.elim
theorem e_chain {op op' : CmpOp} {r r' : R2} {f f' : BinF} (ho : OpR X (compareOp op) r) (ho' : OpR X (compareOp op') r') (hf : BinOk X.K r f) (hf' : BinOk X.K r' f') (ha : PE X a (up X.K ta)) (hb : PE X b (up X.K tb)) (hc : PE X c (up X.K tc))
    (hm : lastMarks [op, op'] [b, c] = false := by with_unfolding_all rfl) : PE X (.Compare a [op, op'] [b, c] pos) (up X.K (dChain f f' ta tb tc)) := pe_to (pe_chain ho ho' ha hb hc hm) fun _ _ _ q => chain_core hf hf' q
theorem e_lele (ha : PE X a (up X.K ta)) (hb : PE X b (up X.K tb)) (hc : PE X c (up X.K tc)) (hm : lastMarks [.LtE, .LtE] [b, c] = false := by with_unfolding_all rfl) :
    PE X (.Compare a [.LtE, .LtE] [b, c] pos) (up X.K (dChain (fI0 fun i j => .bool (decide (i ≤ j))) (fI0 fun i j => .bool (decide (i ≤ j))) ta tb tc)) := e_chain op_le op_le ok_I0b ok_I0b ha hb hc hm
end
def dNil : DA := fun g Q => Q [] g
def dCons (te : DE) (tr : DA) : DA := fun g Q => te g fun x g1 => tr g1 fun xs g2 => Q (x :: xs) g2
section
variable {K : Fg} {F : Hp} {a : Addr} {fu : Option Nat}
theorem Tm.app : ∀ {xs ys : List V} {rs ts : List Rv}, Tm K F a fu xs rs → Tm K F a fu ys ts → Tm K F a fu (xs ++ ys) (rs ++ ts)
  | _, _, _, _, .nil, s => s
  | _, _, _, _, .cons r t, s => .cons r (t.app s)
theorem Tm.rev : ∀ {xs : List V} {rs : List Rv}, Tm K F a fu xs rs → Tm K F a fu xs.reverse rs.reverse
  | _, _, .nil => .nil
  | _, _, .cons r t => by
    rw [List.reverse_cons, List.reverse_cons]
    exact t.rev.app (.cons r .nil)
theorem Tm.split : ∀ {xs ys : List V} {rs ts : List Rv}, xs.length = rs.length → Tm K F a fu (xs ++ ys) (rs ++ ts) → Tm K F a fu xs rs ∧ Tm K F a fu ys ts
  | [], _, [], _, _, h => ⟨.nil, h⟩
  | [], _, _ :: _, _, e, _ => by simp at e
  | _ :: _, _, [], _, e, _ => by simp at e
  | x :: xs, ys, r :: rs, ts, e, h => by
    have h' : Tm K F a fu (x :: (xs ++ ys)) (r :: (rs ++ ts)) := h
    cases h' with
    | cons h1 h2 =>
      obtain ⟨q1, q2⟩ := Tm.split (by simpa using e) h2
      exact ⟨.cons h1 q1, q2⟩
theorem Tm.args {vs tv : List V} {rs tr : List Rv} (h : Tm K F a fu (vs.reverse ++ tv) (rs.reverse ++ tr)) (e : vs.length = rs.length) : Tm K F a fu vs rs ∧ Tm K F a fu tv tr := by
  obtain ⟨h1, h2⟩ := Tm.split (by simpa using e) h
  have := h1.rev
  rw [List.reverse_reverse, List.reverse_reverse] at this
  exact ⟨this, h2⟩
end
def valsD : List Rv → Option (List Da)
  | [] => some []
  | .val d :: rs => (valsD rs).map (d :: ·)
  | _ :: _ => none
theorem Tm.vals {K : Fg} {F : Hp} {a : Addr} {fu : Option Nat} : ∀ {vs : List V} {rs : List Rv} {ds : List Da}, Tm K F a fu vs rs → valsD rs = some ds → Rps K F vs ds
  | _, _, _, .nil, e => by cases e; exact .nil
  | _, .val d :: rs, ds, .cons h t, e => by
    unfold valsD at e
    cases q : valsD rs with
    | none => rw [q] at e; cases e
    | some es =>
      rw [q] at e
      cases e
      exact .cons h (t.vals q)
  | _, .src :: rs, ds, .cons h t, e => by cases e
  | _, .scr _ :: rs, ds, .cons h t, e => by cases e
  | _, .ob _ :: rs, ds, .cons h t, e => by cases e
def dTup (ta : DA) : DE := fun g Q => ta g fun rs g1 => match valsD rs with
  | some ds => ds.length ≤ 1000000 ∧ Q (.val (.tuple ds)) g1
  | none => False
def dLst (ta : DA) : DL := fun g Q => ta g fun rs g1 => match valsD rs with
  | some ds => ds.length ≤ 1000000 ∧ Q ds g1
  | none => False
def dFz (t : DL) : DE := fun g Q => t g fun ds g1 => Q (.val (.list ds)) g1
theorem mil {n : Nat} (h : n ≤ 1000000) : n ≤ sizeLine := Nat.le_trans h (by decide)
section
variable {K : Fg} {c : Con} {g : Gs} {σ : L2.St} {H F : Hp} {tv : List V} {tr : List Rv} {a : Addr}
/-- the new list stands still from now on -/
theorem Sta.still (s : Sta K c g σ H tv tr F a) {v : V} {ds : List Da} (h : NewL K c g σ H F a v ds) : ∃ F', Sta K c g σ H (v :: tv) (.val (.list ds) :: tr) F' a := by
  obtain ⟨o, xs, rfl, q2, q3, q4, q5, q6, q7⟩ := h.ex
  have ef : Ex F (upd F o (.lst xs)) := Ex.new q2
  have ro : Rp K (upd F o (.lst xs)) (.ref o) (.list ds) := .lst upd_same (q5.up ef)
  refine ⟨upd F o (.lst xs), s.e0.trans ef, fun b u q => ?_, s.keep, fun b q => ?_, s.ex, s.ow, fun n hn => ?_, .cons ro (s.tmp.up ef), s.len, fun j sv hj => ?_, s.dis, s.t0.lst q4 q2, s.tab⟩
  · by_cases hb : b = o
    · subst hb; rw [upd_same] at q; cases q; exact q4
    · rw [upd_ne hb] at q; exact s.eh b u q
  · by_cases hb : b = o
    · subst hb; exact .inr q3
    · rw [upd_ne hb] at q; exact s.new b q
  · obtain ⟨z1, z2⟩ := s.src n hn
    refine ⟨?_, z2⟩
    rw [upd_ne (fun z => q6 (ne_none hn) z.symm)]; exact z1
  · obtain ⟨v, w1, w2⟩ := s.slot j sv hj
    refine ⟨v, w1, ?_⟩
    cases sv with
    | val d => exact Rp.up w2 ef
    | src => exact w2
    | scr ns => obtain ⟨b, z1, z2⟩ := w2; exact ⟨b, z1, ex_l ef z2⟩
    | ob k => exact ObOk.up ef w2
    | mem bm hs gd =>
      obtain ⟨z1, z2, z3, z4, z5, z6⟩ := w2
      exact ⟨z1, z2, z3, by rw [upd_ne (z6.ne q4)]; exact z4, z5, z6.keep ef fun _ _ e => e⟩
    | own es =>
      obtain ⟨o', ys, r1, r2, r3, r4, r5, r6⟩ := w2
      have ne : o' ≠ o := fun z => q7 j es hj (by rw [w1, r1, z])
      exact ⟨o', ys, r1, by rw [upd_ne ne]; exact r2, r3, r4, r5.up ef, r6⟩
/-- a list laid at a free address -/
theorem Sta.laid (s : Sta K c g σ H tv tr F a) {p : Addr} (hp : H p = none) {xs : List V} {ds : List Da} (m : Rps K F xs ds) : Sta K c g σ (upd H p (.lst xs)) tv tr F a ∧ NewL K c g σ (upd H p (.lst xs)) F a (.ref p) ds := by
  have fp : F p = none := fresh_back s.eh hp
  have eH : Ex H (upd H p (.lst xs)) := Ex.new hp
  refine ⟨s.grow ⟨Ex.refl _, eH, s.eh.trans eH, fun b h => .inl h⟩, ⟨p, xs, rfl, fp, s.fresh hp, upd_same, m, fun hf z => ?_, fun i es hi z => ?_⟩⟩
  · cases q : g.fu with
    | none => exact hf q
    | some n =>
      obtain ⟨_, _, x, y, w, e, _⟩ := s.src n q
      rw [← z, hp] at e; cases e
  · obtain ⟨v, w1, o, ys, r1, r2, r3, r4, _⟩ := s.slot i _ hi
    rw [z] at w1
    cases w1
    cases r1
    rw [hp] at r4; cases r4
end
section
variable {X : Cx} {e : Expr} {es : List Expr} {te : DE} {tr : DA} {tl : DL} {pos : Pos}
theorem a_nil : PA X [] (upA X.K dNil) := pa_to pa_nil fun σ H Q q => by
  obtain ⟨c, g, tv, tr, F, ad, post, s, t, k⟩ := q
  exact k [] g [] H F ad t s rfl
theorem a_cons (h : PE X e (up X.K te)) (hr : PA X es (upA X.K tr)) (hs : starEach (e :: es) X.env = (false, eval e X.env) :: starEach es X.env := by rfl) : PA X (e :: es) (upA X.K (dCons te tr)) := pa_to (pa_cons h hr hs) fun σ H Q q => by
  obtain ⟨c, g, tv, tr, F, ad, post, s, t, k⟩ := q
  refine ⟨c, g, tv, tr, F, ad, _, s, t, fun x g1 v1 H1 F1 a1 t1 s1 => ?_⟩
  refine ⟨c, g1, _, _, F1, a1, _, s1, t1, fun xs g2 vs H2 F2 a2 t2 s2 hl => ?_⟩
  refine k (x :: xs) g2 (v1 :: vs) H2 F2 a2 t2 ?_ (by simp [hl])
  rw [List.reverse_cons, List.reverse_cons, List.append_assoc, List.append_assoc]
  exact s2
theorem e_tup {x1 : Nat} (h : PA X es (upA X.K tr)) : PE X (.Tuple es x1 pos) (up X.K (dTup tr)) := pe_to (pe_tup h) fun σ H Q q => by
  obtain ⟨c, g, tv, tr, F, ad, post, s, t, k⟩ := q
  refine ⟨c, g, tv, tr, F, ad, _, s, t, fun rs g1 vs H1 F1 a1 t1 s1 hl => ?_⟩
  cases q : valsD rs with
  | none => rw [q] at t1; exact t1.elim
  | some ds =>
    rw [q] at t1
    obtain ⟨m1, m2⟩ := s1.tmp.args hl
    have hv := m1.vals q
    refine ⟨by rw [hv.len]; exact mil t1.1, fun p hp => ?_⟩
    have gr := Gr.new (o := .tup vs) s1.eh hp
    exact k _ g1 _ _ _ a1 t1.2 (((s1.pop m2).grow gr).push (r := .val (.tuple ds)) (.tup (.inl (.inl upd_same)) (hv.up gr.f)))
theorem e_lstL (h : PA X es (upA X.K tr)) : PE X (.List es pos) (upL X.K (dLst tr)) := pe_to (pe_lst h) fun σ H Q q => by
  obtain ⟨c, g, tv, tr, F, ad, post, s, t, k⟩ := q
  refine ⟨c, g, tv, tr, F, ad, _, s, t, fun rs g1 vs H1 F1 a1 t1 s1 hl => ?_⟩
  cases q : valsD rs with
  | none => rw [q] at t1; exact t1.elim
  | some ds =>
    rw [q] at t1
    obtain ⟨m1, m2⟩ := s1.tmp.args hl
    have hv := m1.vals q
    refine ⟨by rw [hv.len]; exact mil t1.1, fun p hp => ?_⟩
    obtain ⟨s2, n2⟩ := (s1.pop m2).laid hp hv
    exact k ds g1 _ _ F1 a1 t1.2 s2 n2
theorem e_fz (h : PE X e (upL X.K tl)) : PE X e (up X.K (dFz tl)) := pe_to h fun σ H Q q => by
  obtain ⟨c, g, tv, tr, F, ad, post, s, t, k⟩ := q
  refine ⟨c, g, tv, tr, F, ad, _, s, t, fun ds g1 v H1 F1 a1 t1 s1 n1 => ?_⟩
  obtain ⟨F2, s2⟩ := s1.still n1
  exact k _ g1 v H1 F2 a1 t1 s2
end
def dIx (ta tb : DE) : DE := fun g Q => ta g fun x g1 => tb g1 fun y g2 => match x, y with
  | .val (.tuple ds), .val (.int i) => (match atI ds i with | some z => Q (.val z) g2 | none => False)
  | .val (.list ds), .val (.int i) => (match atI ds i with | some z => Q (.val z) g2 | none => False)
  | .scr ns, .val (.int i) => (match atI ns i with | some z => Q (.val (.int z)) g2 | none => False)
  | _, _ => False
theorem atI_get {K : Fg} {F : Hp} {vs : List V} {ds : List Da} {i : Int} {d : Da} (h : Rps K F vs ds) (e : atI ds i = some d) : ∃ v, atI vs i = some v ∧ Rp K F v d := by
  unfold atI at e ⊢
  rw [h.len]
  cases q : ixN ds.length i with
  | none => rw [q] at e; cases e
  | some j =>
    rw [q] at e
    exact h.get e
section
variable {X : Cx} {a b : Expr} {ta tb : DE} {pos : Pos}
theorem e_ix (ha : PE X a (up X.K ta)) (hb : PE X b (up X.K tb)) (hs : PlainIx b := by exact fun _ _ => rfl) : PE X (.Subscript a b pos) (up X.K (dIx ta tb)) := pe_to (pe_ix ix_seq ha hb hs) fun σ H Q q => by
  obtain ⟨c, g, tv, tr, F, ad, post, s, t, k⟩ := q
  refine ⟨c, g, tv, tr, F, ad, _, s, t, fun x g1 v1 H1 F1 a1 t1 s1 => ?_⟩
  refine ⟨c, g1, _, _, F1, a1, _, s1, t1, fun y g2 v2 H2 F2 a2 t2 s2 => ?_⟩
  have hx := s2.pop1.top
  have hy := s2.top
  have s3 := s2.pop1.pop1
  split at t2
  · rename_i ds i
    split at t2
    · rename_i z e
      have hy' : Rp X.K F2 v2 (.int i) := hy
      have hx' : Rp X.K F2 v1 (.tuple ds) := hx
      cases hy'
      cases hx' with
      | tup sq m =>
        obtain ⟨w, e1, e2⟩ := atI_get m e
        exact .inr (.inl ⟨_, _, i, w, rfl, rfl, ex_t s2.eh sq, e1, k _ g2 w H2 F2 a2 t2 (s3.push (r := .val z) e2)⟩)
    · exact t2.elim
  · rename_i ds i
    split at t2
    · rename_i z e
      have hy' : Rp X.K F2 v2 (.int i) := hy
      have hx' : Rp X.K F2 v1 (.list ds) := hx
      cases hy'
      cases hx' with
      | lst sq m =>
        obtain ⟨w, e1, e2⟩ := atI_get m e
        exact .inl ⟨_, _, i, w, rfl, rfl, .inl (.inl (s2.eh _ _ sq)), e1, k _ g2 w H2 F2 a2 t2 (s3.push (r := .val z) e2)⟩
    · exact t2.elim
  · rename_i ns i
    split at t2
    · rename_i z e
      have hy' : Rp X.K F2 v2 (.int i) := hy
      cases hy'
      obtain ⟨p, rfl, sq⟩ := hx
      have e' : atI (ns.map V.int) i = some (.int z) := by
        unfold atI at e ⊢
        rw [List.length_map]
        cases q : ixN ns.length i with
        | none => rw [q] at e; cases e
        | some j =>
          rw [q] at e
          show (ns.map V.int)[j]? = _
          rw [List.getElem?_map, show ns[j]? = some z from e]
          rfl
      exact .inl ⟨p, _, i, _, rfl, rfl, ex_l s2.eh sq, e', k _ g2 _ H2 F2 a2 t2 (s3.push (r := .val (.int z)) (Rp.int z))⟩
    · exact t2.elim
  · exact t2.elim
end
end Z
namespace Z
open L2 PySem PySem.Spec PyProof.Rows
open Evl (Ex ex_l ex_t ex_rd fresh_back)
structure Fn (P : Program) (w : World) (K : Fg) (mg : Str → Option Value) (base : Heap) (CX : CXT) (k : Nat) (f : Addr) (fd : FuncData) (ps : List Str) (sp : Sp) : Prop where
  len : ∀ vs H Q E, sp vs H Q E → vs.length = ps.length
  run : ∀ (A : Around) (outer : List Env) (s : Shared) (H : Hp) (args : Args) (us : List Value) (vs : List V) (Q : VK) (E : XK), Room k A → A.guards = some [] →
    Env0 P w K mg base A outer s H → BindsTo s fd args (ps.zip us) → Vals vs us → sp vs H Q E → codeAny (model P w) A (.call (.ref f) args) (CR CX outer P w H s Q E) s
theorem Fn.mono {P : Program} {w : World} {K : Fg} {mg : Str → Option Value} {base : Heap} {CX : CXT} {j k : Nat} {f : Addr} {fd : FuncData} {ps : List Str} {sp : Sp} (F : Fn P w K mg base CX j f fd ps sp) (h : j ≤ k) : Fn P w K mg base CX k f fd ps sp :=
  ⟨F.len, fun A outer s H args us vs Q E hr hg => F.run A outer s H args us vs Q E (hr.mono h) hg⟩
section
variable {P : Program} {w : World} {K : Fg} {mg : Str → Option Value} {base : Heap} {CX : CXT}
theorem fn_by {x qual : Str} {st : Stmt} {f : Addr} {fd : FuncData} {N ps : List Str} {k : Nat} {sp : Sp} (Fu : Fun K x qual st f fd) (S : FnScope N ps (defScope st)) (len : ∀ vs H Q E, sp vs H Q E → vs.length = ps.length)
    (hbody : ∀ (cdv : Value) (A : Around) (outer : List Env) (s : Shared) (H : Hp) (vs : List V) (Q : VK) (E : XK), Room k (A.deeper (envOfC qual (defScope st) s.heap.objs.size f cdv)) →
      (A.deeper (envOfC qual (defScope st) s.heap.objs.size f cdv)).guards = some [] → sp vs H Q E →
      ∃ t, PSs (cxOf CX P w K mg base N qual (defScope st) f cdv A outer s H E) (defBody st) t ∧ t { nx := fun _ H' => Q .non H', rt := Q } (start N vs) H) : Fn P w K mg base CX (k + 1) f fd ps sp := by
  obtain ⟨oc, od, kV, doc, pm, an, cdv, ct, osl, rfl, lk, hcd⟩ := Fu.ex
  refine ⟨len, fun A outer s H args us vs Q E hr hg e0 hb r hsp => ?_⟩
  have KX : K.In s.heap := e0.mod.kin.keeps fun b o e => (e0.bs b o e).1
  have kinds : ∀ y ∈ ps.zip us, (defScope st).names.lookup y.1 = some .local ∨ ((defScope st).names.lookup y.1 = some .cell ∧ ((cellsFrom (s.heap.objs.size + 1) (defScope st).names []).lookup y.1).isSome = true) := by
    rintro ⟨n, v⟩ hy
    exact (S.par n (List.of_mem_zip hy).1).imp id fun q => ⟨q, PySem.W.cellsFrom_some _ _ _ (.inl q)⟩
  refine codeAny_call_function hr.depth (KX _ _ lk) rfl S.co S.gen rfl (PySem.W.codeRec_of KX hcd) (hb _ _ _ _ (wpAny_newFunctionEnv_cells S.kind kinds fun env he s1 x => ?_))
  subst he
  refine ⟨(e0.mod.nolimit.keeps fun b o e => (e0.bs b o e).1).keeps x.toInCall.keep, codeAny_func ?_⟩
  obtain ⟨t, ht, hq⟩ := hbody cdv A outer s H vs Q E (hr.deeper _) hg hsp
  refine wpAny_mono (ht.run [] s1 (start N vs) H _ (inv_start S hr.hd e0 (len _ _ _ _ hsp) r x) hq) (fun fl s' hs => ?_) fun e s' hs => hs
  match fl, hs with
  | .ret u, ⟨v, σ', H', J, rv, q⟩ => exact ⟨v, H', J.os, J.bare, J.base, J.hok, rv, q⟩
  | .next, ⟨σ', H', J, q⟩ => exact ⟨.non, H', J.os, J.bare, J.base, J.hok, rfl, q⟩
  | .brk, ⟨_, _, _, q⟩ => exact q.elim
  | .cont, ⟨_, _, _, q⟩ => exact q.elim
end
section
variable {X : Cx} {CX : CXT} {k : Nat} {f : Addr} {fd : FuncData} {ps : List Str} {sp : Sp} {dvs : List V} {ds : List Value} {E : XK} {x : Str} {p pos : Pos} {e : Expr} {es : List Expr} {t : TA}
theorem fn_run {pins : List (Addr × Obj)} {σ : L2.St} {H : Hp} {s : Shared} {Q : VK} {args : Args} {us : List Value} {vs : List V} (F : Fn X.prog X.w X.K X.mg X.base CX k f fd ps sp) (hr : Room k X.A) (hg : X.A.guards = some []) (hx : Passes CX X E)
    (I : Inv X pins σ H s) (hb : BindsTo s fd args (ps.zip us)) (r : Vals vs us) (h : sp vs H Q E) : codeAny (model X.prog X.w) X.A (.call (.ref f) args) (fun r s' => match r with
      | .ok (.ret u) => EP X pins σ Q u s'
      | .ok _ => False
      | .error e => X.xe e s') s := by
  refine codeAny_mono (F.run X.A X.stack s H args us vs Q E hr hg I.env0 hb r h) fun r s' hq => ?_
  match r, hq with
  | .error e, hq => exact hx pins σ H s e s' I hq
  | .ok (.ret u), hq => exact I.after hq
  | .ok .next, hq => exact False.elim hq
  | .ok .brk, hq => exact False.elim hq
  | .ok .cont, hq => exact False.elim hq
theorem call_fin {pins : List (Addr × Obj)} {σ : L2.St} {H : Hp} {s : Shared} {Q : VK} {us : List Value} {vs : List V} (F : Fn X.prog X.w X.K X.mg X.base CX k f fd ps sp) (hr : Room k X.A) (hg : X.A.guards = some []) (hx : Passes CX X E)
    (I : Inv X pins σ H s) (hb : Binds X.K fd ps []) (r : Vals vs us) (h : sp vs H Q E) : wpAny (model X.prog X.w) X.A (call (.ref f) us) (EP X pins σ Q) X.xe s := by
  have hl : us.length = ps.length := by rw [← r.length]; exact F.len _ _ _ _ h
  have hb' := hb s us I.kIn (by rw [List.append_nil]; exact hl)
  rw [List.append_nil] at hb'
  refine wpAny_call (codeAny_mono (fn_run F hr hg hx I hb' r h) fun r s' hq => ?_)
  match r, hq with
  | .error e, hq => exact hq
  | .ok (.ret u), hq => exact hq
  | .ok .next, hq => exact hq.elim
  | .ok .brk, hq => exact hq.elim
  | .ok .cont, hq => exact hq.elim
theorem pe_fn (F : Fn X.prog X.w X.K X.mg X.base CX k f fd ps sp) (hr : Room k X.A) (hgd : X.A.guards = some []) (hg : Gl X x) (hm : X.mg x = some (.ref f)) (hk : PySem.W.keepIn X.K (.ref f) = true) (hb : Binds X.K fd ps []) (hx : Passes CX X E)
    (ha : PA X (e :: es) t) (hdb : (x == ("__debug__" : Str)) = false := by decide) (he : starEach (e :: es) X.env = (false, eval e X.env) :: starEach es X.env := by rfl) (hpl : (backTo pos (starEach es X.env)).any (·.1) = false := by rfl) :
    PE X (.Call (.Name x p) (e :: es) [] pos) (fun σ H Q => t σ H fun vs H1 => sp vs H1 Q E) :=
  ⟨fun pins s σ H Q I h => wpAny_Call_Name_kw (ld_glob I hg hm (PySem.W.callWith_K (h₀ := X.base) I.ok.mod.kin hk (thn (ha.run pos pins s σ H _ I h) fun us s1 ⟨vs, H1, I1, r, q⟩ => ⟨I1.kIn, call_fin F hr hgd hx I1 hb r q⟩) he hpl) hdb)⟩
end
abbrev FSp := List Rv → Option Nat → (Rr → Option Nat → Prop) → Prop
def RrOk (K : Fg) (F' H H' : Hp) (v : V) : Rr → Prop
  | .val d => Rp K F' v d
  | .own ds => ∃ o xs, v = .ref o ∧ H o = none ∧ F' o = none ∧ H' o = some (.lst xs) ∧ Rps K F' xs ds
  | .exc _ _ => False
/-- how a call lies behind: still part, heap, source -/
structure Out (K : Fg) (F H : Hp) (a : Addr) (fu : Option Nat) (fu' : Option Nat) (F' H' : Hp) (v : V) (r : Rr) : Prop where
  f : Ex F F'
  s : Ex F' H'
  keep : ∀ b o, (fu ≠ none → b ≠ a) → NT o → H b = some o → H' b = some o
  new : ∀ b, F' b ≠ none → F b ≠ none ∨ H b = none
  src : fu ≠ none → ∃ n, fu' = some n ∧ F' a = none ∧ SrcAt H' a n
  rep : RrOk K F' H H' v r
  tab : TbS H H'
  tk : TabK K F' H'
def lift (K : Fg) (np : Nat) (fs : FSp) : Sp := fun vs H Q _ => ∃ F a rs fu post, Ex F H ∧ Tm K F a fu vs rs ∧ vs.length = np ∧ (∀ n, fu = some n → F a = none ∧ SrcAt H a n) ∧ TabK K F H ∧ fs rs fu post ∧
  ∀ r fu' v H' F', post r fu' → Out K F H a fu fu' F' H' v r → Q v H'
theorem lift_len {K : Fg} {np : Nat} {fs : FSp} (vs : List V) (H : Hp) (Q : VK) (E : XK) (h : lift K np fs vs H Q E) : vs.length = np := by
  obtain ⟨_, _, _, _, _, _, _, h, _⟩ := h
  exact h
def rrv : Rr → Rv
  | .val d => .val d
  | .own ds => .val (.list ds)
  | .exc _ _ => .val .none
def dCall (np : Nat) (fs : FSp) (ta : DA) : DE := fun g Q => ta g fun rs g1 => rs.length = np ∧ match hasSrc rs with
  | true => fs rs g1.fu fun r fu' => Q (rrv r) { g1 with fu := fu' }
  | false => fs rs none fun r _ => Q (rrv r) g1
def dCallL (np : Nat) (fs : FSp) (ta : DA) : DL := fun g Q => ta g fun rs g1 => rs.length = np ∧ match hasSrc rs with
  | true => fs rs g1.fu fun r fu' => match r with | .own ds => Q ds { g1 with fu := fu' } | _ => False
  | false => fs rs none fun r _ => match r with | .own ds => Q ds g1 | _ => False
section
variable {K : Fg} {c : Con} {g : Gs} {σ : L2.St} {H F H' F' : Hp} {tv : List V} {tr : List Rv} {a : Addr}
theorem Tm.noSrc : ∀ {vs : List V} {rs : List Rv} {fu : Option Nat}, hasSrc rs = false → Tm K F a fu vs rs → Tm K F a none vs rs
  | _, _, _, _, .nil => .nil
  | _, .val d :: rs, _, h, .cons r t => .cons (show Rp K F _ d from r) (t.noSrc h)
  | _, .scr d :: rs, _, h, .cons r t => .cons r (t.noSrc h)
  | _, .ob d :: rs, _, h, .cons r t => .cons r (t.noSrc h)
  | _, .src :: rs, _, h, .cons r t => by cases h
theorem Tm.fu_ne : ∀ {vs : List V} {rs : List Rv} {fu : Option Nat}, hasSrc rs = true → Tm K F a fu vs rs → fu ≠ none
  | _, _, _, h, .nil => by cases h
  | _, .val d :: rs, _, h, .cons r t => Tm.fu_ne (rs := rs) h t
  | _, .scr d :: rs, _, h, .cons r t => Tm.fu_ne (rs := rs) h t
  | _, .ob d :: rs, _, h, .cons r t => Tm.fu_ne (rs := rs) h t
  | _, .src :: rs, _, h, .cons r t => r.2
theorem Tm.refu {fu fu' : Option Nat} (hf : fu' ≠ none) : ∀ {vs : List V} {rs : List Rv}, Tm K F a fu vs rs → Tm K F a fu' vs rs
  | _, _, .nil => .nil
  | _, .val d :: rs, .cons r t => .cons (show Rp K F _ d from r) (t.refu hf)
  | _, .scr d :: rs, .cons r t => .cons r (t.refu hf)
  | _, .ob d :: rs, .cons r t => .cons r (t.refu hf)
  | _, .src :: rs, .cons r t => .cons ⟨r.1, hf⟩ (t.refu hf)
/-- behind a call that had the source -/
theorem Sta.after1 (s : Sta K c g σ H tv tr F a) {v : V} {r : Rr} {fu' : Option Nat} (hf : g.fu ≠ none) (o : Out K F H a g.fu fu' F' H' v r) : Sta K c { g with fu := fu' } σ H' tv tr F' a := by
  obtain ⟨n', e', na, sa⟩ := o.src hf
  have ne' : fu' ≠ none := ne_none e'
  have oldF : ∀ b, H b ≠ none → F b = none → F' b = none := fun b h1 h2 => by
    cases q : F' b with
    | none => rfl
    | some u =>
      rcases o.new b (ne_none q) with z | z
      · exact absurd h2 z
      · exact absurd z h1
  obtain ⟨n0, e0⟩ : ∃ n, g.fu = some n := by cases q : g.fu with
    | none => exact absurd q hf
    | some n => exact ⟨n, rfl⟩
  obtain ⟨_, sx, _⟩ := s.src n0 e0
  refine ⟨s.e0.trans o.f, o.s, fun b u h1 hn h2 => ?_, fun b q => ?_, fun b h => ⟨(s.ex b h).1, ne'⟩, s.ow, fun n h => ?_, (s.tmp.up o.f).refu ne', s.len, fun i sv h => ?_, s.dis, o.tk, s.tab.trans o.tab⟩
  · refine o.keep b u (fun _ z => ?_) hn (s.keep b u h1 hn h2)
    subst z
    rcases sx with z | ⟨_, z⟩
    · exact h1 z
    · rw [h2] at z; cases z
  · rcases o.new b q with z | z
    · exact s.new b z
    · exact .inr (s.fresh z)
  · have h' : fu' = some n := h
    rw [e'] at h'; cases h'
    exact ⟨na, sx, sa⟩
  · obtain ⟨v, w1, w2⟩ := s.slot i sv h
    refine ⟨v, w1, ?_⟩
    cases sv with
    | val d => exact Rp.up w2 o.f
    | src => exact ⟨w2.1, ne'⟩
    | scr ns => obtain ⟨b, z1, z2⟩ := w2; exact ⟨b, z1, ex_l o.f z2⟩
    | ob k => exact ObOk.up o.f w2
    | mem bm hs gd => exact absurd w2.2.1 hf
    | own ds =>
      obtain ⟨p, xs, q1, q2, q3, q4, q5, q6⟩ := w2
      exact ⟨p, xs, q1, oldF p (ne_none q4) q2, q3, o.keep p _ (fun _ => q6 hf) (fun _ z => by cases z) q4, q5.up o.f, fun _ => q6 hf⟩
/-- behind a call that had it not -/
theorem Sta.after0 (s : Sta K c g σ H tv tr F a) {v : V} {r : Rr} {fu' : Option Nat} {b : Addr} (o : Out K F H b none fu' F' H' v r) : Sta K c g σ H' tv tr F' a :=
  s.growN o.f (fun x u hn h => o.keep x u (fun z => absurd rfl z) hn h) o.s o.new o.tab o.tk
theorem NewL.of (s : Sta K c g σ H tv tr F a) {g' : Gs} (hs : g'.sl = g.sl) (hfu : g'.fu ≠ none → g.fu ≠ none) {v : V} {ds : List Da} (h : RrOk K F' H H' v (.own ds)) : NewL K c g' σ H' F' a v ds := by
  obtain ⟨o, xs, rfl, q1, q2, q3, q4⟩ := h
  refine ⟨o, xs, rfl, q2, s.fresh q1, q3, q4, fun hf z => ?_, fun i es hi z => ?_⟩
  · cases q : g.fu with
    | none => exact hfu hf q
    | some n =>
      obtain ⟨_, _, x, y, w, e, _⟩ := s.src n q
      rw [← z, q1] at e; cases e
  · rw [hs] at hi
    obtain ⟨v, w1, o', ys, r1, r2, r3, r4, _⟩ := s.slot i _ hi
    rw [z] at w1
    cases w1
    cases r1
    rw [q1] at r4; cases r4
end
section
variable {X : Cx} {k : Nat} {f : Addr} {fd : FuncData} {ps : List Str} {fs : FSp} {x : Str} {p pos : Pos} {e : Expr} {es : List Expr} {tr : DA} {np : Nat} {E : XK} {CX : CXT}
theorem lift_core : ∀ σ H Q, up X.K (dCall np fs tr) σ H Q → upA X.K tr σ H fun vs H1 => lift X.K np fs vs H1 Q E := fun σ H Q q => by
  obtain ⟨c, g, tv, tr, F, ad, post, s, t, k⟩ := q
  refine ⟨c, g, tv, tr, F, ad, _, s, t, fun rs g1 vs H1 F1 a1 t1 s1 hl => ?_⟩
  obtain ⟨hn, t1⟩ := t1
  rw [← hl] at hn
  obtain ⟨m1, m2⟩ := s1.tmp.args hl
  have s2 := s1.pop m2
  cases q : hasSrc rs with
  | true =>
    rw [q] at t1
    have hf := m1.fu_ne q
    refine ⟨F1, a1, rs, g1.fu, _, s1.eh, m1, hn, fun n h => ⟨(s1.src n h).1, (s1.src n h).2.2⟩, s1.tabk, t1, fun r fu' v H' F' hp o => ?_⟩
    have s3 := s2.after1 hf o
    cases r with
    | exc _ _ => exact o.rep.elim
    | val d => exact k _ _ v H' F' a1 hp (s3.push (r := .val d) o.rep)
    | own ds =>
      obtain ⟨F'', s4⟩ := s3.still (NewL.of (g' := { g1 with fu := fu' }) s2 rfl (fun _ => hf) o.rep)
      exact k _ _ v H' F'' a1 hp s4
  | false =>
    rw [q] at t1
    refine ⟨F1, a1, rs, none, _, s1.eh, m1.noSrc q, hn, fun n h => by (cases h), s1.tabk, t1, fun r fu' v H' F' hp o => ?_⟩
    have s3 := s2.after0 o
    cases r with
    | exc _ _ => exact o.rep.elim
    | val d => exact k _ _ v H' F' a1 hp (s3.push (r := .val d) o.rep)
    | own ds =>
      obtain ⟨F'', s4⟩ := s3.still (NewL.of s2 rfl id o.rep)
      exact k _ _ v H' F'' a1 hp s4
theorem liftL_core : ∀ σ H Q, upL X.K (dCallL np fs tr) σ H Q → upA X.K tr σ H fun vs H1 => lift X.K np fs vs H1 Q E := fun σ H Q q => by
  obtain ⟨c, g, tv, tr, F, ad, post, s, t, k⟩ := q
  refine ⟨c, g, tv, tr, F, ad, _, s, t, fun rs g1 vs H1 F1 a1 t1 s1 hl => ?_⟩
  obtain ⟨hn, t1⟩ := t1
  rw [← hl] at hn
  obtain ⟨m1, m2⟩ := s1.tmp.args hl
  have s2 := s1.pop m2
  cases q : hasSrc rs with
  | true =>
    rw [q] at t1
    have hf := m1.fu_ne q
    refine ⟨F1, a1, rs, g1.fu, _, s1.eh, m1, hn, fun n h => ⟨(s1.src n h).1, (s1.src n h).2.2⟩, s1.tabk, t1, fun r fu' v H' F' hp o => ?_⟩
    have s3 := s2.after1 hf o
    cases r with
    | exc _ _ => exact hp.elim
    | val d => exact hp.elim
    | own ds => exact k _ _ v H' F' a1 hp s3 (NewL.of (g' := { g1 with fu := fu' }) s2 rfl (fun _ => hf) o.rep)
  | false =>
    rw [q] at t1
    refine ⟨F1, a1, rs, none, _, s1.eh, m1.noSrc q, hn, fun n h => by (cases h), s1.tabk, t1, fun r fu' v H' F' hp o => ?_⟩
    have s3 := s2.after0 o
    cases r with
    | exc _ _ => exact hp.elim
    | val d => exact hp.elim
    | own ds => exact k _ _ v H' F' a1 hp s3 (NewL.of s2 rfl id o.rep)
theorem e_call (G : Fn X.prog X.w X.K X.mg X.base CX k f fd ps (lift X.K np fs)) (hr : Room k X.A) (hgd : X.A.guards = some []) (hg : Gl X x) (hm : X.mg x = some (.ref f)) (hk : PySem.W.keepIn X.K (.ref f) = true) (hb : Binds X.K fd ps []) (hx : Passes CX X E)
    (ha : PA X (e :: es) (upA X.K tr)) (hdb : (x == ("__debug__" : Str)) = false := by decide) (he : starEach (e :: es) X.env = (false, eval e X.env) :: starEach es X.env := by rfl) (hpl : (backTo pos (starEach es X.env)).any (·.1) = false := by rfl) :
    PE X (.Call (.Name x p) (e :: es) [] pos) (up X.K (dCall np fs tr)) := pe_to (pe_fn G hr hgd hg hm hk hb hx ha hdb he hpl) lift_core
theorem e_callL (G : Fn X.prog X.w X.K X.mg X.base CX k f fd ps (lift X.K np fs)) (hr : Room k X.A) (hgd : X.A.guards = some []) (hg : Gl X x) (hm : X.mg x = some (.ref f)) (hk : PySem.W.keepIn X.K (.ref f) = true) (hb : Binds X.K fd ps []) (hx : Passes CX X E)
    (ha : PA X (e :: es) (upA X.K tr)) (hdb : (x == ("__debug__" : Str)) = false := by decide) (he : starEach (e :: es) X.env = (false, eval e X.env) :: starEach es X.env := by rfl) (hpl : (backTo pos (starEach es X.env)).any (·.1) = false := by rfl) :
    PE X (.Call (.Name x p) (e :: es) [] pos) (upL X.K (dCallL np fs tr)) := pe_to (pe_fn G hr hgd hg hm hk hb hx ha hdb he hpl) liftL_core
end
end Z
namespace Z
open L2 PySem PySem.Spec PyProof.Rows
open Evl (Ex ex_l ex_t ex_rd fresh_back)
variable {Wx : WX}
def rsv : Rv → Sv
  | .val d => .val d
  | .src => .src
  | .scr ns => .scr ns
  | .ob k => .ob k
section
variable {K : Fg} {c : Con} {g : Gs} {σ : L2.St} {H F : Hp} {tv : List V} {tr : List Rv} {a : Addr}
theorem set_some {α : Type} {l : List α} {i j : Nat} {x y : α} (h : (l.set i x)[j]? = some y) : (j = i ∧ j < l.length ∧ y = x) ∨ (j ≠ i ∧ l[j]? = some y) := by
  by_cases e : j = i
  · subst e
    have hl : j < (l.set j x).length := (List.getElem?_eq_some_iff.mp h).1
    rw [List.length_set] at hl
    rw [List.getElem?_set_self hl] at h
    cases h
    exact .inl ⟨rfl, hl, rfl⟩
  · rw [List.getElem?_set_ne (Ne.symm e)] at h
    exact .inr ⟨e, h⟩
theorem Sta.set {v : V} {r : Rv} (s : Sta K c g σ H (v :: tv) (r :: tr) F a) (i : Nat) : Sta K c (g.set i (rsv r)) (σ.set i (some v)) H tv tr F a := by
  have hr := s.top
  have s0 := s.pop1
  refine ⟨s0.e0, s0.eh, s0.keep, s0.new, s0.ex, s0.ow, s0.src, s0.tmp, ?_, fun j sv hj => ?_, fun j k ds es hjk hj hk => ?_, s0.t0, s0.tab⟩
  · show (σ.set i _).length = (g.sl.set i _).length
    rw [List.length_set, List.length_set]; exact s0.len
  · rcases set_some (show (g.sl.set i (some (rsv r)))[j]? = some (some sv) from hj) with ⟨rfl, hl, e⟩ | ⟨ne, e⟩
    · cases e
      refine ⟨v, List.getElem?_set_self (by rw [s0.len]; exact hl), ?_⟩
      cases r with
      | val d => exact hr
      | src => exact hr
      | scr ns => exact hr
      | ob k => exact hr
    · obtain ⟨w, h1, h2⟩ := s0.slot j sv e
      exact ⟨w, by rw [List.getElem?_set_ne (Ne.symm ne)]; exact h1, h2⟩
  · have no : ∀ k fs, (g.sl.set i (some (rsv r)))[k]? = some (some (Sv.own fs)) → k ≠ i ∧ g.sl[k]? = some (some (Sv.own fs)) := fun k fs h => by
      rcases set_some h with ⟨_, _, e⟩ | z
      · cases r <;> cases e
      · exact z
    obtain ⟨n1, e1⟩ := no j ds hj
    obtain ⟨n2, e2⟩ := no k es hk
    rw [List.getElem?_set_ne (Ne.symm n1), List.getElem?_set_ne (Ne.symm n2)]
    exact s0.dis j k ds es hjk e1 e2
theorem Sta.setOwn (s : Sta K c g σ H tv tr F a) {v : V} {ds : List Da} (h : NewL K c g σ H F a v ds) (i : Nat) : Sta K c (g.set i (.own ds)) (σ.set i (some v)) H tv tr F a := by
  obtain ⟨o, xs, rfl, q2, q3, q4, q5, q6, q7⟩ := h.ex
  refine ⟨s.e0, s.eh, s.keep, s.new, s.ex, s.ow, s.src, s.tmp, ?_, fun j sv hj => ?_, fun j k es fs hjk hj hk => ?_, s.t0, s.tab⟩
  · show (σ.set i _).length = (g.sl.set i _).length
    rw [List.length_set, List.length_set]; exact s.len
  · rcases set_some (show (g.sl.set i (some (Sv.own ds)))[j]? = some (some sv) from hj) with ⟨rfl, hl, e⟩ | ⟨ne, e⟩
    · cases e
      exact ⟨_, List.getElem?_set_self (by rw [s.len]; exact hl), o, xs, rfl, q2, q3, q4, q5, q6⟩
    · obtain ⟨w, h1, h2⟩ := s.slot j sv e
      exact ⟨w, by rw [List.getElem?_set_ne (Ne.symm ne)]; exact h1, h2⟩
  · rcases set_some (show (g.sl.set i (some (Sv.own ds)))[j]? = some (some (Sv.own es)) from hj) with ⟨rfl, hl, e⟩ | ⟨nj, ej⟩
    · rcases set_some (show (g.sl.set j (some (Sv.own ds)))[k]? = some (some (Sv.own fs)) from hk) with ⟨rfl, _, _⟩ | ⟨nk, ek⟩
      · exact absurd rfl hjk
      · rw [List.getElem?_set_self (by rw [s.len]; exact hl), List.getElem?_set_ne (Ne.symm nk)]
        exact fun z => q7 k fs ek z.symm
    · rcases set_some (show (g.sl.set i (some (Sv.own ds)))[k]? = some (some (Sv.own fs)) from hk) with ⟨rfl, hl, _⟩ | ⟨nk, ek⟩
      · rw [List.getElem?_set_self (by rw [s.len]; exact hl), List.getElem?_set_ne (Ne.symm nj)]
        exact q7 j es ej
      · rw [List.getElem?_set_ne (Ne.symm nj), List.getElem?_set_ne (Ne.symm nk)]
        exact s.dis j k es fs hjk ej ek
/-- an own list changes -/
theorem Sta.mut (s : Sta K c g σ H tv tr F a) {i : Nat} {o : Addr} {ds es : List Da} {ys : List V} (h : g.sl[i]? = some (some (.own ds))) (ho : σ[i]? = some (some (.ref o))) (hy : Rps K F ys es) :
    Sta K c (g.set i (.own es)) σ (upd H o (.lst ys)) tv tr F a := by
  obtain ⟨v, h1, o', xs, rfl, q2, q3, q4, q5, q6⟩ := s.slot i _ h
  rw [ho] at h1
  cases h1
  have hi : i < g.sl.length := (List.getElem?_eq_some_iff.mp h).1
  refine ⟨s.e0, fun b u q => ?_, fun b u z1 hn z2 => ?_, s.new, s.ex, s.ow, fun n hn => ?_, s.tmp, ?_, fun j sv hj => ?_, fun j k e1 e2 hjk hj hk => ?_, s.t0.but q4 (fun _ z => by cases z) fun b u ne h => by rw [upd_ne ne]; exact h, s.tab.trans (.but q4 (fun _ z => by cases z) fun b u ne h => by rw [upd_ne ne]; exact h)⟩
  · have nb : b ≠ o := fun z => by rw [z, q2] at q; cases q
    rw [upd_ne nb]; exact s.eh b u q
  · have nb : b ≠ o := fun z => by rw [z, q3] at z2; cases z2
    rw [upd_ne nb]; exact s.keep b u z1 hn z2
  · obtain ⟨z1, z2, x, y, z, e, z3⟩ := s.src n hn
    exact ⟨z1, z2, x, y, z, by rw [upd_ne (fun w => q6 (ne_none hn) w.symm)]; exact e, z3⟩
  · show σ.length = (g.sl.set i _).length
    rw [List.length_set]; exact s.len
  · rcases set_some (show (g.sl.set i (some (Sv.own es)))[j]? = some (some sv) from hj) with ⟨rfl, hl, e⟩ | ⟨ne, e⟩
    · cases e
      exact ⟨_, ho, o, ys, rfl, q2, q3, upd_same, hy, q6⟩
    · obtain ⟨w, h1, h2⟩ := s.slot j sv e
      refine ⟨w, h1, ?_⟩
      cases sv with
      | val d => exact h2
      | src => exact h2
      | scr ns => exact h2
      | ob k => exact h2
      | mem bm hs gd =>
        obtain ⟨z1, z2, z3, z4, z5, z6⟩ := h2
        exact ⟨z1, z2, z3, z4, z5, z6.keep (Ex.refl F) fun u _ e => by rw [upd_ne (z6.ne q4)]; exact e⟩
      | own fs =>
        obtain ⟨p, zs, r1, r2, r3, r4, r5, r6⟩ := h2
        have np : p ≠ o := fun z => s.dis j i fs ds ne e h (by rw [h1, ho, r1, z])
        exact ⟨p, zs, r1, r2, r3, by rw [upd_ne np]; exact r4, r5, r6⟩
  · have back : ∀ k e, (g.sl.set i (some (Sv.own es)))[k]? = some (some (Sv.own e)) → ∃ e', g.sl[k]? = some (some (Sv.own e')) := fun k e hk => by
      rcases set_some hk with ⟨rfl, _, _⟩ | ⟨_, z⟩
      · exact ⟨_, h⟩
      · exact ⟨_, z⟩
    obtain ⟨f1, w1⟩ := back j e1 hj
    obtain ⟨f2, w2⟩ := back k e2 hk
    exact s.dis j k f1 f2 hjk w1 w2
end
abbrev DG := Rv → Gs → (Gs → Prop) → Prop
abbrev DGs := List Da → Gs → (Gs → Prop) → Prop
def upG (K : Fg) (t : DG) : TG := fun v σ H Q => ∃ c g tv tr F a r post, Sta K c g σ H (v :: tv) (r :: tr) F a ∧ t r g post ∧ ∀ g' σ' H' F' a', post g' → Sta K c g' σ' H' tv tr F' a' → Q σ' H'
def upGs (K : Fg) (t : DGs) : TGs := fun vs σ H Q => ∃ c g tv tr F a ds post, Sta K c g σ H (vs ++ tv) (ds.map Rv.val ++ tr) F a ∧ vs.length = ds.length ∧ t ds g post ∧ ∀ g' σ' H' F' a', post g' → Sta K c g' σ' H' tv tr F' a' → Q σ' H'
def dN (i : Nat) : DG := fun r g Q => Q (g.set i (rsv r))
def dT (n : Nat) (t : DGs) : DG := fun r g Q => match r with
  | .val (.tuple ds) => ds.length = n ∧ t ds g Q
  | _ => False
def dTn : DGs := fun ds g Q => match ds with
  | [] => Q g
  | _ => False
def dTc (t : DG) (u : DGs) : DGs := fun ds g Q => match ds with
  | d :: r => t (.val d) g fun g1 => u r g1 Q
  | [] => False
section
variable {X : Cx} {pos : Pos} {e : Expr} {es : List Expr}
theorem pg_to {t t' : TG} (h : PG X e t) (i : ∀ v σ H Q, t' v σ H Q → t v σ H Q) : PG X e t' := ⟨fun pins s v u σ H Q I r q => h.run pins s v u σ H Q I r (i _ _ _ _ q)⟩
theorem pgs_to {t t' : TGs} (h : PGs X es t) (i : ∀ v σ H Q, t' v σ H Q → t v σ H Q) : PGs X es t' := ⟨fun pins s v u σ H Q I r q => h.run pins s v u σ H Q I r (i _ _ _ _ q)⟩
theorem Tm.ofRps {K : Fg} {F : Hp} {a : Addr} {fu : Option Nat} : ∀ {vs : List V} {ds : List Da}, Rps K F vs ds → Tm K F a fu vs (ds.map Rv.val)
  | _, _, .nil => .nil
  | _, _, .cons h t => .cons h (Tm.ofRps t)
theorem g_name {i : Nat} (h : PG X e (gName i)) : PG X e (upG X.K (dN i)) := pg_to h fun v σ H Q q => by
  obtain ⟨c, g, tv, tr, F, a, r, post, s, t, k⟩ := q
  exact k _ _ H F a t (s.set i)
theorem gs_nil : PGs X [] (upGs X.K dTn) := pgs_to pgs_nil fun vs σ H Q q => by
  obtain ⟨c, g, tv, tr, F, a, ds, post, s, hl, t, k⟩ := q
  cases ds with
  | nil =>
    have : vs = [] := List.length_eq_zero_iff.mp hl
    subst this
    exact ⟨rfl, k _ _ H F a t s⟩
  | cons d r => exact t.elim
theorem gs_cons {t : DG} {u : DGs} (h : PG X e (upG X.K t)) (hr : PGs X es (upGs X.K u)) (hs : (assignEach (e :: es) X.env).map (·.2) = assign e X.env :: (assignEach es X.env).map (·.2) := by rfl) : PGs X (e :: es) (upGs X.K (dTc t u)) := pgs_to (pgs_cons h hr hs) fun vs σ H Q q => by
  obtain ⟨c, g, tv, tr, F, a, ds, post, s, hl, t, k⟩ := q
  cases ds with
  | nil => exact t.elim
  | cons d r =>
    cases vs with
    | nil => simp at hl
    | cons v vs =>
      refine ⟨v, vs, rfl, c, g, _, _, F, a, _, _, s, t, fun g1 σ1 H1 F1 a1 t1 s1 => ?_⟩
      exact ⟨c, g1, tv, tr, F1, a1, r, _, s1, by simpa using hl, t1, k⟩
theorem g_tup {n k : Nat} {t : DGs} (hc : X.calm = true) (h : PGs X es (upGs X.K t)) (hn : (assignEach es X.env).length = n := by rfl) (hf : List.findIdx? (fun x => x.1) (assignEach es X.env) = none := by rfl) : PG X (.Tuple es k pos) (upG X.K (dT n t)) :=
  pg_to (pg_tup hc h hn hf) fun v σ H Q q => by
  obtain ⟨c, g, tv, tr, F, a, r, post, s, t, k⟩ := q
  cases r with
  | val d =>
    cases d with
    | tuple ds =>
      have hr : Rp X.K F v (.tuple ds) := s.top
      cases hr with
      | tup sq m =>
        refine ⟨_, _, rfl, ex_t s.eh sq, by rw [m.len]; exact t.1, c, g, tv, tr, F, a, ds, post, s.pop ((Tm.ofRps m).app s.pop1.tmp), m.len, t.2, k⟩
    | _ => exact t.elim
  | _ => exact t.elim
end
def dAsg (te : DE) (t : DG) : DS := fun d g => te g fun r g1 => t r g1 d.nx
def dSetL (i : Nat) (tl : DL) : DS := fun d g => tl g fun ds g1 => d.nx (g1.set i (.own ds))
def dSeq (t u : DS) : DS := fun d g => t { d with nx := u d } g
def dNext : DS := fun d g => d.nx g
def dIfS (c : DT) (t u : DS) : DS := fun d g => c g fun b g1 => (b = true → t d g1) ∧ (b = false → u d g1)
def dRet (te : DE) : DS := fun d g => te g fun r g1 => match r with
  | .val x => d.rt (.val x) g1
  | _ => False
def dRetL (tl : DL) : DS := fun d g => tl g fun ds g1 => d.rt (.own ds) g1
def dDrop (te : DE) : DS := fun d g => te g fun _ g1 => d.nx g1
def dNever : DS := fun _ _ => False
def dBrk : DS := fun d g => d.bk g
def dAug (i : Nat) (f : BinF) (te : DE) : DS := fun d g => match g.sl[i]? with
  | some (some (.val x)) => te g fun r g1 => match r with
    | .val y => f x y fun z => d.nx (g1.set i (.val z))
    | _ => False
  | _ => False
def dPar (i j : Nat) (ta tb : DE) : DS := fun d g => ta g fun r g1 => tb g1 fun s g2 => d.nx ((g2.set i (rsv r)).set j (rsv s))
/-- a, b = [..], constant -/
def dParL (i j : Nat) (tl : DL) (x : Da) : DS := fun d g => tl g fun ds g1 => d.nx ((g1.set i (.own ds)).set j (.val x))
def dApp (i : Nat) (te : DE) : DS := fun d g => (∃ ds, g.sl[i]? = some (some (.own ds))) ∧ te g fun r g1 => match r with
  | .val z => (match g1.sl[i]? with
    | some (some (.own ds)) => ds.length < 1000000 ∧ d.nx (g1.set i (.own (ds ++ [z])))
    | _ => False)
  | _ => False
def dWhile (c : DT) (tb : DS) : DS := fun d g => ∃ W : Nat → Gs → Prop, (∃ m, W m g) ∧ ∀ m g, W m g → c g fun b g1 =>
  (b = true → tb { d with nx := fun g2 => ∃ m', m' < m ∧ W m' g2, ct := fun g2 => ∃ m', m' < m ∧ W m' g2, bk := d.nx } g1) ∧ (b = false → d.nx g1)
section
variable {X : Cx} {pos : Pos} {e tg : Expr} {te : DE} {tl : DL}
theorem s_asg {t : DG} (he : PE X e (up X.K te)) (hg : PG X tg (upG X.K t)) (h1 : swapsWithSole [tg] e pos.line X.env = pure false := by rfl) (h2 : swappedStores [tg] e X.env = pure none := by rfl) (h3 : (assignEach [tg] X.env).map (·.2) = [assign tg X.env] := by rfl) :
    PS X (.Assign [tg] e pos) (upS X.K Wx (dAsg te t)) := ps_to (ps_asg he hg h1 h2 h3) fun D σ H q => by
  obtain ⟨c, g, tv, tr, F, a, d, s, hn, t, k⟩ := q
  refine ⟨c, g, tv, tr, F, a, _, s, t, fun r g1 v H1 F1 a1 t1 s1 => ?_⟩
  exact ⟨c, g1, tv, tr, F1, a1, r, _, s1, t1, fun g2 σ2 H2 F2 a2 t2 s2 => k.nx g2 σ2 H2 F2 a2 t2 s2⟩
theorem s_set {i : Nat} {x : Str} {pos' : Pos} (hN : X.N.Nodup) (hi : X.N[i]? = some x) (hx : L2.Loc X.env.scope x) (he : PE X e (up X.K te)) (h1 : swapsWith e (some (.Name x pos')) pos.line X.env = pure false := by rfl)
    (hf : X.fn x = true ∨ X.env.scope.names.lookup x = some .local := by first | exact .inl rfl | exact .inr rfl) : PS X (.Assign [.Name x pos'] e pos) (upS X.K Wx (dAsg te (dN i))) := ps_to (ps_set hN hi hx he h1 hf) fun D σ H q => by
  obtain ⟨c, g, tv, tr, F, a, d, s, hn, t, k⟩ := q
  exact ⟨c, g, tv, tr, F, a, _, s, t, fun r g1 v H1 F1 a1 t1 s1 => k.nx _ _ H1 F1 a1 t1 (s1.set i)⟩
theorem s_setL {i : Nat} {x : Str} {pos' : Pos} (hN : X.N.Nodup) (hi : X.N[i]? = some x) (hx : L2.Loc X.env.scope x) (he : PE X e (upL X.K tl)) (h1 : swapsWith e (some (.Name x pos')) pos.line X.env = pure false := by rfl)
    (hf : X.fn x = true ∨ X.env.scope.names.lookup x = some .local := by first | exact .inl rfl | exact .inr rfl) : PS X (.Assign [.Name x pos'] e pos) (upS X.K Wx (dSetL i tl)) := ps_to (ps_set hN hi hx he h1 hf) fun D σ H q => by
  obtain ⟨c, g, tv, tr, F, a, d, s, hn, t, k⟩ := q
  exact ⟨c, g, tv, tr, F, a, _, s, t, fun ds g1 v H1 F1 a1 t1 s1 n1 => k.nx _ _ H1 F1 a1 t1 (s1.setOwn n1 i)⟩
variable {st : Stmt} {rest body : List Stmt} {t u : DS} {ct : DT}
theorem ss_nil : PSs X [] (upS X.K Wx dNext) := pss_to pss_nil fun D σ H q => by
  obtain ⟨c, g, tv, tr, F, a, d, s, hn, t, k⟩ := q
  exact k.nx g σ H F a t s
theorem DD.seq {K : Fg} {Wx : WX} {c : Con} {tv : List V} {tr : List Rv} {d : DEnds} {D : Ends} (k : DD K Wx c tv tr d D) {N : Gs → Prop} {M : L2.St → Hp → Prop} (h : ∀ g σ H F a, N g → Sta K c g σ H tv tr F a → M σ H) : DD K Wx c tv tr { d with nx := N } { D with nx := M } :=
  ⟨h, k.bk, k.ct, k.rv, k.ro, k.rx⟩
theorem ss_cons (h1 : PS X st (upS X.K Wx t)) (h2 : PSs X rest (upS X.K Wx u)) : PSs X (st :: rest) (upS X.K Wx (dSeq t u)) := pss_to (pss_cons h1 h2) fun D σ H q => by
  obtain ⟨c, g, tv, tr, F, a, d, s, hn, t, k⟩ := q
  exact ⟨c, g, tv, tr, F, a, _, s, hn, t, k.seq fun g1 σ1 H1 F1 a1 t1 s1 => ⟨c, g1, tv, tr, F1, a1, d, s1, hn, t1, k⟩⟩
theorem ss_one (h1 : PS X st (upS X.K Wx t)) : PSs X [st] (upS X.K Wx t) := pss_one h1
theorem s_if {c : Expr} {a b : List Stmt} (hc : PT X c (upT X.K ct)) (h1 : PSs X a (upS X.K Wx t)) (h2 : PSs X b (upS X.K Wx u)) : PS X (.If c a b pos) (upS X.K Wx (dIfS ct t u)) := ps_to (ps_if hc h1 h2) fun D σ H q => by
  obtain ⟨c, g, tv, tr, F, a, d, s, hn, t, k⟩ := q
  refine ⟨c, g, tv, tr, F, a, _, s, t, fun b g1 H1 F1 a1 t1 s1 => ?_⟩
  cases b with
  | true => rw [if_pos rfl]; exact ⟨c, g1, tv, tr, F1, a1, d, s1, hn, t1.1 rfl, k⟩
  | false => rw [if_neg Bool.false_ne_true]; exact ⟨c, g1, tv, tr, F1, a1, d, s1, hn, t1.2 rfl, k⟩
theorem s_ret (he : PE X e (up X.K te)) : PS X (.Return (some e) pos) (upS X.K Wx (dRet te)) := ps_to (ps_ret he) fun D σ H q => by
  obtain ⟨c, g, tv, tr, F, a, d, s, hn, t, k⟩ := q
  refine ⟨c, g, tv, tr, F, a, _, s, t, fun r g1 v H1 F1 a1 t1 s1 => ?_⟩
  cases r with
  | val x => exact k.rv x g1 σ v H1 F1 a1 t1 s1
  | _ => exact t1.elim
theorem s_retL (he : PE X e (upL X.K tl)) : PS X (.Return (some e) pos) (upS X.K Wx (dRetL tl)) := ps_to (ps_ret he) fun D σ H q => by
  obtain ⟨c, g, tv, tr, F, a, d, s, hn, t, k⟩ := q
  refine ⟨c, g, tv, tr, F, a, _, s, t, fun ds g1 v H1 F1 a1 t1 s1 n1 => ?_⟩
  obtain ⟨o, xs, q1, q2, q3, q4, q5, q6, _⟩ := n1.ex
  exact k.ro ds g1 σ v H1 F1 a1 t1 s1 ⟨o, xs, q1, q2, q3, q4, q5, q6, fun i es h => by simp at h⟩
theorem s_expr (he : PE X e (up X.K te)) (h1 : swapsWith e none pos.line X.env = pure false := by rfl) : PS X (.Expr e pos) (upS X.K Wx (dDrop te)) := ps_to (ps_expr he h1) fun D σ H q => by
  obtain ⟨c, g, tv, tr, F, a, d, s, hn, t, k⟩ := q
  exact ⟨c, g, tv, tr, F, a, _, s, t, fun r g1 v H1 F1 a1 t1 s1 => k.nx g1 σ H1 F1 a1 t1 s1.pop1⟩
theorem s_never : PS X st (upS X.K Wx dNever) := ps_to ps_never fun D σ H q => by
  obtain ⟨c, g, tv, tr, F, a, d, s, hn, t, k⟩ := q
  exact t.elim
theorem s_break : PS X (.Break pos) (upS X.K Wx dBrk) := ps_to ps_break fun D σ H q => by
  obtain ⟨c, g, tv, tr, F, a, d, s, hn, t, k⟩ := q
  exact k.bk g σ H F a t s
theorem s_aug {i : Nat} {x : Str} {pos' : Pos} {op : Operator} {f : BinF} {r : R2} (hN : X.N.Nodup) (hi : X.N[i]? = some x) (hx : L2.Loc X.env.scope x) (he : PE X e (up X.K te)) (ho : OpR X (inplaceOp op) r) (hb : BinOk X.K r f)
    (hf : X.fn x = true ∨ X.env.scope.names.lookup x = some .local := by first | exact .inl rfl | exact .inr rfl) : PS X (.AugAssign (.Name x pos') op e pos) (upS X.K Wx (dAug i f te)) := ps_to (ps_aug (ti := r) hN hi hx he ho hf) fun D σ H q => by
  obtain ⟨c, g, tv, tr, F, a, d, s, hn, t, k⟩ := q
  unfold dAug at t
  split at t
  · rename_i y hy
    obtain ⟨v, h1, h2⟩ := s.slot i _ hy
    refine ⟨v, h1, c, g, v :: tv, .val y :: tr, F, a, _, s.push (r := .val y) h2, t, fun r g1 w H1 F1 a1 t1 s1 => ?_⟩
    cases r with
    | val z =>
      have r1 : Rp X.K F1 v y := s1.pop1.top
      have r2 : Rp X.K F1 w z := s1.top
      exact hb F1 H1 v w y z _ _ s1.eh r1 r2 t1 fun z' v' H' F' hz gr rz => k.nx _ _ H' F' a1 hz (Sta.set (r := .val z') ((s1.pop1.pop1.grow gr).push (r := .val z') rz) i)
    | _ => exact t1.elim
  · exact t.elim
theorem s_par {i j : Nat} {x y : Str} {a b : Expr} {ta tb : DE} {px py pt : Pos} {kt k2 : Nat} {pt2 : Pos} (hc : X.calm = true) (hN : X.N.Nodup) (hi : X.N[i]? = some x) (hj : X.N[j]? = some y) (hij : i ≠ j)
    (hx : X.env.scope.names.lookup x = some .local) (hy : X.env.scope.names.lookup y = some .local) (ha : PE X a (up X.K ta)) (hb : PE X b (up X.K tb))
    (hsw : swappedStores [.Tuple [.Name x px, .Name y py] kt pt] (.Tuple [a, b] k2 pt2) X.env = pure (some [x, y]) := by rfl) (h1 : swapsWithSole [.Tuple [.Name x px, .Name y py] kt pt] (.Tuple [a, b] k2 pt2) pos.line X.env = pure false := by rfl)
    (n1 : starEach [a, b] X.env = (false, eval a X.env) :: starEach [b] X.env := by rfl) (n2 : starEach [b] X.env = (false, eval b X.env) :: starEach [] X.env := by rfl) :
    PS X (.Assign [.Tuple [.Name x px, .Name y py] kt pt] (.Tuple [a, b] k2 pt2) pos) (upS X.K Wx (dPar i j ta tb)) := ps_to (ps_par hc hN hi hj hij hx hy (a_cons ha (a_cons hb a_nil n2) n1) hsw h1) fun D σ H q => by
  obtain ⟨c, g, tv, tr, F, a, d, s, hn, t, k⟩ := q
  refine ⟨c, g, tv, tr, F, a, fun rs g1 => match rs with | [r, s] => d.nx ((g1.set i (rsv r)).set j (rsv s)) | _ => False, s, t, fun rs g1 vs H1 F1 a1 t1 s1 hl => ?_⟩
  match rs, t1, vs, hl, s1 with
  | [r, s'], t1, [v, w], _, s1 =>
    refine ⟨v, w, rfl, k.nx _ _ H1 F1 a1 t1 ?_⟩
    have s2 : Sta X.K c g1 σ H1 (v :: w :: tv) (r :: s' :: tr) F1 a1 := by
      have e1 : Sta X.K c g1 σ H1 (w :: v :: tv) (s' :: r :: tr) F1 a1 := s1
      exact e1.pop (.cons e1.pop1.top (.cons e1.top e1.pop1.pop1.tmp))
    exact (s2.set i).set j
theorem s_parL {i j : Nat} {x y : Str} {a b : Expr} {tl : DL} {v : V} {z : Da} {px py pt : Pos} {kt k2 : Nat} {pt2 : Pos} (hc : X.calm = true) (hN : X.N.Nodup) (hi : X.N[i]? = some x) (hj : X.N[j]? = some y) (hij : i ≠ j)
    (hx : X.env.scope.names.lookup x = some .local) (hy : X.env.scope.names.lookup y = some .local) (ha : PE X a (upL X.K tl)) (hb : PE X b (tC v)) (hv : ∀ F, Rp X.K F v z)
    (hsw : swappedStores [.Tuple [.Name x px, .Name y py] kt pt] (.Tuple [a, b] k2 pt2) X.env = pure (some [x, y]) := by rfl) (h1 : swapsWithSole [.Tuple [.Name x px, .Name y py] kt pt] (.Tuple [a, b] k2 pt2) pos.line X.env = pure false := by rfl)
    (n1 : starEach [a, b] X.env = (false, eval a X.env) :: starEach [b] X.env := by rfl) (n2 : starEach [b] X.env = (false, eval b X.env) :: starEach [] X.env := by rfl) :
    PS X (.Assign [.Tuple [.Name x px, .Name y py] kt pt] (.Tuple [a, b] k2 pt2) pos) (upS X.K Wx (dParL i j tl z)) := ps_to (ps_par hc hN hi hj hij hx hy (pa_cons ha (pa_cons hb pa_nil n2) n1) hsw h1) fun D σ H q => by
  obtain ⟨c, g, tv, tr, F, a, d, s, hn, t, k⟩ := q
  refine ⟨c, g, tv, tr, F, a, _, s, t, fun ds g1 w H1 F1 a1 t1 s1 n1 => ?_⟩
  refine ⟨w, v, rfl, k.nx _ _ H1 F1 a1 t1 ?_⟩
  exact Sta.set (r := .val z) ((s1.setOwn n1 i).push (r := .val z) (hv F1)) j
/-- x.append(e), x an own list -/
theorem s_app {i : Nat} {o : Expr} {apos cpos : Pos} {name : Str} (hv : PE X o (tVar i)) (he : PE X e (up X.K te))
    (hp : ∀ {t : TA} , PA X [e] t → PE X (.Call (.Attribute o "append" apos) [e] [] cpos) (tBM X.K "list" rAppend (tVar i) t)) (n1 : starEach [e] X.env = (false, eval e X.env) :: starEach [] X.env := by rfl)
    (h1 : swapsWith (.Call (.Attribute o "append" apos) [e] [] cpos) none pos.line X.env = pure false := by rfl) : PS X (.Expr (.Call (.Attribute o "append" apos) [e] [] cpos) pos) (upS X.K Wx (dApp i te)) := ps_to (ps_expr (hp (pa_cons he pa_nil n1)) h1) fun D σ H q => by
  obtain ⟨c, g, tv, tr, F, a, d, s, hn, ⟨⟨ds, hd⟩, t⟩, k⟩ := q
  obtain ⟨v, h1, o, xs, rfl, q2, q3, q4, q5, q6⟩ := s.slot i _ hd
  refine ⟨_, h1, .inl ⟨rfl, xs, .inl (.inl q4)⟩, c, g, tv, tr, F, a, _, s, t, fun r g1 w H1 F1 a1 t1 s1 => ?_⟩
  cases r with
  | val z =>
    simp only at t1
    split at t1
    · rename_i es he
      obtain ⟨v', h1', o', ys, rfl, p2, p3, p4, p5, p6⟩ := s1.slot i _ he
      rw [h1] at h1'
      cases h1'
      refine ⟨o, ys, w, rfl, rfl, p4, by rw [p5.len]; exact Nat.lt_of_lt_of_le t1.1 (by decide), k.nx _ _ _ F1 a1 t1.2 (s1.pop1.mut he h1 (p5.app (.cons s1.top .nil)))⟩
    · exact t1.elim
  | _ => exact t1.elim
theorem s_while {c : Expr} (hp : PassesOwn (model X.prog X.w) X.A X.env X.xe) (hc : PT X c (upT X.K ct)) (hb : PSs X body (upS X.K Wx t)) : PS X (.While c body [] pos) (upS X.K Wx (dWhile ct t)) := ps_to (ps_while hp hc hb) fun D σ H q => by
  obtain ⟨c, g, tv, tr, F, a, d, s, hn, ⟨W, ⟨m, hm⟩, hw⟩, k⟩ := q
  refine ⟨fun m σ H => ∃ g F a, Sta X.K c g σ H tv tr F a ∧ W m g, ⟨m, g, F, a, s, hm⟩, fun m σ H hW => ?_⟩
  obtain ⟨g, F, a, s, hm⟩ := hW
  refine ⟨c, g, tv, tr, F, a, _, s, hw m g hm, fun b g1 H1 F1 a1 t1 s1 => ?_⟩
  cases b with
  | true =>
    rw [if_pos rfl]
    refine ⟨fun σ H => ∃ m', m' < m ∧ ∃ g F a, Sta X.K c g σ H tv tr F a ∧ W m' g, fun σ' H' h => h, c, g1, tv, tr, F1, a1, _, s1, hn, t1.1 rfl, ⟨fun g2 σ2 H2 F2 a2 ⟨m', h1, h2⟩ s2 => ⟨m', h1, g2, F2, a2, s2, h2⟩, k.nx, fun g2 σ2 H2 F2 a2 ⟨m', h1, h2⟩ s2 => ⟨m', h1, g2, F2, a2, s2, h2⟩, k.rv, k.ro, k.rx⟩⟩
  | false =>
    rw [if_neg Bool.false_ne_true]
    exact k.nx g1 σ H1 F1 a1 (t1.2 rfl) s1
end
end Z
namespace Z
open L2 PySem PySem.Spec PyProof.Rows
open Evl (Ex ex_l ex_t ex_rd fresh_back)
variable {Wx : WX}
structure WalkD (K : Fg) (J : It) (ds : List Da) (wv : List V) (wr : List Rv) : Prop where
  goes : ∀ (i : Nat) (F H : Hp) (a : Addr) (fu : Option Nat), Ex F H → Tm K F a fu wv wr → i < ds.length → J.go i H
  stops : ∀ (F H : Hp) (a : Addr) (fu : Option Nat), Ex F H → Tm K F a fu wv wr → J.stop ds.length H
  yields : ∀ (i : Nat) (F H : Hp) (a : Addr) (fu : Option Nat) (x : V) (H' : Hp), Ex F H → Tm K F a fu wv wr → i < ds.length → J.yld i H x H' → ∃ F' d, ds[i]? = some d ∧ Gr F H F' H' ∧ Rp K F' x d
theorem WalkD.walk {K : Fg} {J : It} {ds : List Da} {wv : List V} {wr : List Rv} (w : WalkD K J ds wv wr) : Walk J ds.length (fun H => ∃ F a fu, Ex F H ∧ Tm K F a fu wv wr) J.yld :=
  ⟨fun i H hi ⟨F, a, fu, e, t⟩ => w.goes i F H a fu e t hi, fun H ⟨F, a, fu, e, t⟩ => w.stops F H a fu e t, fun i H x H' hi _ y => y⟩
abbrev DW := Gs → (List Da → Gs → Prop) → Prop
def upI (K : Fg) (tw : DW) : TI := fun σ H R => ∃ c g tv tr F a post, Sta K c g σ H tv tr F a ∧ tw g post ∧
  ∀ ds g' H' F' a' J wv wr, post ds g' → Sta K c g' σ H' (wv ++ tv) (wr ++ tr) F' a' → wv.length = wr.length → hasSrc wr = false → WalkD K J ds wv wr → R J H'
def forD (t : DG) (tb : DS) : List Da → DS
  | [], d, g => d.nx g
  | x :: xs, d, g => t (.val x) g fun g1 => tb { d with nx := forD t tb xs d, ct := forD t tb xs d, bk := d.nx } g1
def dFor (tw : DW) (t : DG) (tb : DS) : DS := fun d g => tw g fun ds g1 => forD t tb ds d g1
theorem drop_at {α : Type} {l : List α} {i : Nat} {x : α} (h : l[i]? = some x) : l.drop i = x :: l.drop (i + 1) := by
  obtain ⟨hi, e⟩ := List.getElem?_eq_some_iff.mp h
  rw [List.drop_eq_getElem_cons hi, e]
section
variable {X : Cx} {tg iter : Expr} {body : List Stmt} {tw : DW} {t : DG} {tb : DS} {pos : Pos}
theorem s_for (hp : PassesOwn (model X.prog X.w) X.A X.env X.xe) (hc : X.calm = true) (hi : PI X tg iter (upI X.K tw)) (hg : PG X tg (upG X.K t)) (hb : PSs X body (upS X.K Wx tb)) (hfs : ∀ x, foldedSetIterable iter X.env x = pure x := by intro _; rfl) :
    PS X (.For tg iter body [] pos) (upS X.K Wx (dFor tw t tb)) := ps_to (ps_for hp hc hi hg hb hfs) fun D σ H q => by
  obtain ⟨c, g, tv, tr, F, a, d, s, hn, q, k⟩ := q
  refine ⟨c, g, tv, tr, F, a, _, s, q, fun ds g' H' F' a' J wv wr hf s' hl hw wd => ?_⟩
  have w := wd.walk
  have sp : ∀ {g : Gs} {σ : L2.St} {H F : Hp} {a : Addr}, Sta X.K c g σ H (wv ++ tv) (wr ++ tr) F a → Tm X.K F a g.fu wv wr ∧ Tm X.K F a g.fu tv tr := fun s => Tm.split hl s.tmp
  refine for_it w (fun i σ H => ∃ g F a, Sta X.K c g σ H (wv ++ tv) (wr ++ tr) F a ∧ forD t tb (ds.drop i) d g) ⟨g', F', a', s', hf⟩ (fun i σ H hi p => ?_) (fun i x σ H H' hi p y => ?_) (fun σ H p => ?_)
  · obtain ⟨g, F, a, s, _⟩ := p
    exact ⟨F, a, g.fu, s.eh, (sp s).1⟩
  · obtain ⟨g, F, a, s, f⟩ := p
    obtain ⟨F2, dx, e1, gr, rx⟩ := wd.yields i F H a g.fu x H' s.eh (sp s).1 hi y
    rw [drop_at e1] at f
    refine ⟨c, g, wv ++ tv, wr ++ tr, F2, a, .val dx, _, (s.grow gr).push (r := .val dx) rx, f, fun g1 σ1 H1 F1 a1 t1 s1 => ?_⟩
    refine ⟨c, g1, wv ++ tv, wr ++ tr, F1, a1, _, s1, hasSrc_app hw hn, t1, ⟨fun g2 σ2 H2 F2 a2 h s2 => ⟨g2, F2, a2, s2, h⟩, fun g2 σ2 H2 F2 a2 h s2 => k.nx g2 σ2 H2 F2 a2 h (s2.pop (sp s2).2), fun g2 σ2 H2 F2 a2 h s2 => ⟨g2, F2, a2, s2, h⟩, fun x g2 σ2 v H2 F2 a2 h s2 => ?_, fun es g2 σ2 v H2 F2 a2 h s2 n2 => ?_, fun nm z g2 σ2 H2 F2 a2 cls dd h s2 ox => k.rx nm z g2 σ2 H2 F2 a2 cls dd h (s2.pop (sp s2).2) ox⟩⟩
    · exact k.rv x g2 σ2 v H2 F2 a2 h ((s2.pop1.pop (sp s2.pop1).2).push (r := .val x) s2.top)
    · exact k.ro es g2 σ2 v H2 F2 a2 h (s2.pop (sp s2).2) n2
  · obtain ⟨g, F, a, s, f⟩ := p
    rw [List.drop_length] at f
    exact k.nx g σ H F a f (s.pop (sp s).2)
end
theorem walkD_list {K : Fg} {p : Addr} {ds : List Da} : WalkD K (Itl K p) ds [.ref p] [.val (.list ds)] := by
  have get : ∀ {F H : Hp} {a : Addr} {fu : Option Nat}, Ex F H → Tm K F a fu [.ref p] [.val (.list ds)] → ∃ xs, SqL K H p xs ∧ Rps K F xs ds := fun {F H a fu} e t => by
    cases t with
    | cons h _ =>
      have h' : Rp K F (.ref p) (.list ds) := h
      cases h' with
      | lst sq m => exact ⟨_, .inl (.inl (e _ _ sq)), m⟩
  refine ⟨fun i F H a fu e t hi => ?_, fun F H a fu e t => ?_, fun i F H a fu x H' e t hi y => ?_⟩
  · obtain ⟨xs, sq, m⟩ := get e t
    obtain ⟨v, h1, _⟩ := m.get (List.getElem?_eq_getElem hi)
    exact ⟨xs, v, sq, h1⟩
  · obtain ⟨xs, sq, m⟩ := get e t
    exact ⟨xs, sq, Nat.le_of_eq m.len⟩
  · obtain ⟨xs, sq, m⟩ := get e t
    obtain ⟨v, h1, h2⟩ := m.get (List.getElem?_eq_getElem hi)
    obtain ⟨rfl, hx⟩ := y
    rw [hx xs sq] at h1
    cases h1
    exact ⟨F, _, List.getElem?_eq_getElem hi, Gr.refl e, h2⟩
theorem walkD_tup {K : Fg} {p : Addr} {ds : List Da} : WalkD K (Itt K p) ds [.ref p] [.val (.tuple ds)] := by
  have get : ∀ {F H : Hp} {a : Addr} {fu : Option Nat}, Ex F H → Tm K F a fu [.ref p] [.val (.tuple ds)] → ∃ xs, SqT K H p xs ∧ Rps K F xs ds := fun {F H a fu} e t => by
    cases t with
    | cons h _ =>
      have h' : Rp K F (.ref p) (.tuple ds) := h
      cases h' with
      | tup sq m => exact ⟨_, ex_t e sq, m⟩
  refine ⟨fun i F H a fu e t hi => ?_, fun F H a fu e t => ?_, fun i F H a fu x H' e t hi y => ?_⟩
  · obtain ⟨xs, sq, m⟩ := get e t
    obtain ⟨v, h1, _⟩ := m.get (List.getElem?_eq_getElem hi)
    exact ⟨xs, v, sq, h1⟩
  · obtain ⟨xs, sq, m⟩ := get e t
    exact ⟨xs, sq, Nat.le_of_eq m.len⟩
  · obtain ⟨xs, sq, m⟩ := get e t
    obtain ⟨v, h1, h2⟩ := m.get (List.getElem?_eq_getElem hi)
    obtain ⟨rfl, hx⟩ := y
    rw [hx xs sq] at h1
    cases h1
    exact ⟨F, _, List.getElem?_eq_getElem hi, Gr.refl e, h2⟩
theorem walkD_scr {K : Fg} {p : Addr} {ns : List Int} : WalkD K (Itl K p) (ns.map PyData.int) [.ref p] [.scr ns] := by
  have get : ∀ {F H : Hp} {a : Addr} {fu : Option Nat}, Ex F H → Tm K F a fu [.ref p] [.scr ns] → SqL K H p (ns.map V.int) := fun {F H a fu} e t => by
    cases t with
    | cons h _ =>
      obtain ⟨b, e1, sq⟩ := h
      cases e1
      exact ex_l e sq
  refine ⟨fun i F H a fu e t hi => ?_, fun F H a fu e t => ?_, fun i F H a fu x H' e t hi y => ?_⟩
  · rw [List.length_map] at hi
    exact ⟨_, _, get e t, by rw [List.getElem?_map, List.getElem?_eq_getElem hi]; rfl⟩
  · exact ⟨_, get e t, by rw [List.length_map, List.length_map]; exact Nat.le_refl _⟩
  · obtain ⟨rfl, hx⟩ := y
    rw [List.length_map] at hi
    have h1 := hx _ (get e t)
    rw [List.getElem?_map, List.getElem?_eq_getElem hi] at h1
    cases h1
    exact ⟨F, .int ns[i], by rw [List.getElem?_map, List.getElem?_eq_getElem hi]; rfl, Gr.refl e, .int _⟩
def dItems (te : DE) : DW := fun g Q => te g fun r g1 => match r with
  | .val (.list ds) => Q ds g1
  | .val (.tuple ds) => Q ds g1
  | .scr ns => Q (ns.map PyData.int) g1
  | _ => False
def rangeD (lo : Int) (n : Nat) : List Da := (List.range n).map fun i => .int (lo + (i : Nat))
def dRange1 (te : DE) : DW := fun g Q => te g fun r g1 => match r with
  | .val (.int j) => j < 2 ^ 62 ∧ -(2 ^ 62) ≤ j ∧ Q (rangeD 0 j.toNat) g1
  | _ => False
def dRange2 (ta tb : DE) : DW := fun g Q => ta g fun x g1 => tb g1 fun y g2 => match x, y with
  | .val (.int i), .val (.int j) => (-(2 ^ 62) ≤ i ∧ i < 2 ^ 62 ∧ -(2 ^ 62) ≤ j ∧ j < 2 ^ 62) ∧ Q (rangeD i (j - i).toNat) g2
  | _, _ => False
def zipD : List Da → List Da → List Da
  | x :: xs, y :: ys => .tuple [x, y] :: zipD xs ys
  | _, _ => []
def dZip (ta tb : DE) : DW := fun g Q => ta g fun x g1 => tb g1 fun y g2 => match x, y with
  | .val (.tuple xs), .val (.tuple ys) => Q (zipD xs ys) g2
  | .val (.list xs), .val (.list ys) => Q (zipD xs ys) g2
  | _, _ => False
theorem zipD_len : ∀ (xs ys : List Da), (zipD xs ys).length = min xs.length ys.length
  | [], _ => by simp [zipD]
  | _ :: _, [] => by simp [zipD]
  | x :: xs, y :: ys => by
    show (zipD xs ys).length + 1 = _
    rw [zipD_len xs ys, List.length_cons, List.length_cons]
    omega
theorem zipD_get : ∀ (xs ys : List Da) (i : Nat) (x y : Da), xs[i]? = some x → ys[i]? = some y → (zipD xs ys)[i]? = some (.tuple [x, y])
  | [], _, _, _, _, h, _ => by simp at h
  | _ :: _, [], _, _, _, _, h => by simp at h
  | a :: xs, b :: ys, 0, x, y, h1, h2 => by simp at h1 h2; subst h1; subst h2; rfl
  | a :: xs, b :: ys, i + 1, x, y, h1, h2 => zipD_get xs ys i x y (by simpa using h1) (by simpa using h2)
section
variable {X : Cx} {tg l b : Expr} {te ta tb : DE} {p pos : Pos}
/-- a list, a tuple, the script -/
theorem i_items (hl : PE X l (up X.K te)) : PI X tg l (upI X.K (dItems te)) := by
  refine ⟨fun pins st σ H R I q => ?_⟩
  obtain ⟨c, g, tv, tr, F, a, post, s, t, k⟩ := q
  refine thn (hl.run pins st σ H (fun v H1 => (∃ p xs, v = .ref p ∧ SqL X.K H1 p xs ∧ R (Itl X.K p) H1) ∨ ∃ p xs, v = .ref p ∧ SqT X.K H1 p xs ∧ R (Itt X.K p) H1) I ?_) fun u s1 ⟨x, H1, I1, r1, q1⟩ => ?_
  · refine ⟨c, g, tv, tr, F, a, _, s, t, fun r g1 v H1 F1 a1 t1 s1 => ?_⟩
    cases r with
    | val d =>
      cases d with
      | list ds =>
        have hr : Rp X.K F1 v (.list ds) := s1.top
        cases hr with
        | lst sq m => exact .inl ⟨_, _, rfl, .inl (.inl (s1.eh _ _ sq)), k ds g1 H1 F1 a1 _ [_] [.val (.list ds)] t1 s1 rfl rfl walkD_list⟩
      | tuple ds =>
        have hr : Rp X.K F1 v (.tuple ds) := s1.top
        cases hr with
        | tup sq m => exact .inr ⟨_, _, rfl, ex_t s1.eh sq, k ds g1 H1 F1 a1 _ [_] [.val (.tuple ds)] t1 s1 rfl rfl walkD_tup⟩
      | _ => exact t1.elim
    | scr ns =>
      obtain ⟨b, rfl, sq⟩ := s1.top
      exact .inl ⟨_, _, rfl, ex_l s1.eh sq, k _ g1 H1 F1 a1 _ [_] [.scr ns] t1 s1 rfl rfl walkD_scr⟩
    | src => exact t1.elim
    | ob _ => exact t1.elim
  · have fr := I1.hok.fresh (Nat.le_refl s1.heap.objs.size)
    have fp : ∀ b ∈ [s1.heap.objs.size], FpOk X pins H1 b := fun b hb => by
      cases List.mem_singleton.mp hb
      exact I1.fpOk (Nat.le_refl _) fr
    rcases q1 with ⟨p, xs, rfl, sq, q⟩ | ⟨p, xs, rfl, sq, q⟩
    · cases r1
      obtain ⟨its, rv, pl, hz⟩ := I1.list sq
      exact wpAny_pyIter_list pl.isList ⟨_, _, _, _, H1, rfl, I1.kept (t' := s1.toks) fun b o e => Heap.get?_push_of_some _ e, turn_list p _, ⟨_, Heap.get?_push_size _ rfl, rfl, rfl⟩, fp, q⟩
    · cases r1
      obtain ⟨its, rv, pl, hz⟩ := I1.tuple sq
      exact wpAny_pyIter_tuple (show s1.heap.IsTuple p its.toArray from pl) ⟨_, _, _, _, H1, rfl, I1.kept (t' := s1.toks) fun b o e => Heap.get?_push_of_some _ e, turn_tuple p _, ⟨_, Heap.get?_push_size _ rfl, rfl, rfl⟩, fp, q⟩
theorem pi_to {w w' : TI} (h : PI X tg l w) (i : ∀ σ H R, w' σ H R → w σ H R) : PI X tg l w' := ⟨fun pins s σ H R I q => h.run pins s σ H R I (i _ _ _ q)⟩
theorem rangeD_get {lo : Int} {n i : Nat} (h : i < n) : (rangeD lo n)[i]? = some (.int (lo + (i : Nat))) := by
  unfold rangeD
  rw [List.getElem?_map, List.getElem?_range h]
  rfl
theorem rangeD_len (lo : Int) (n : Nat) : (rangeD lo n).length = n := by
  unfold rangeD
  rw [List.length_map, List.length_range]
theorem walkD_range {K : Fg} {lo : Int} {n : Nat} : WalkD K (Itr lo n) (rangeD lo n) [] [] := by
  refine ⟨fun i F H a fu e t hi => ?_, fun F H a fu e t => ?_, fun i F H a fu x H' e t hi y => ?_⟩
  · rw [rangeD_len] at hi; exact hi
  · rw [rangeD_len]; exact Nat.le_refl n
  · rw [rangeD_len] at hi
    obtain ⟨rfl, rfl⟩ := y
    exact ⟨F, _, rangeD_get hi, Gr.refl e, .int _⟩
theorem i_range1 (hg : Gl X "range") (hm : X.mg "range" = none) (ha : PE X l (up X.K te)) (hs : starEach [l] X.env = [(false, eval l X.env)] := by rfl) : PI X tg (.Call (.Name "range" p) [l] [] pos) (upI X.K (dRange1 te)) :=
  pi_to (pi_range1 hg hm (pa_cons ha pa_nil hs) hs) fun σ H R q => by
  obtain ⟨c, g, tv, tr, F, a, post, s, t, k⟩ := q
  refine ⟨c, g, tv, tr, F, a, _, s, t, fun r g1 v H1 F1 a1 t1 s1 => ?_⟩
  cases r with
  | val d =>
    cases d with
    | int j =>
      have hr : Rp X.K F1 v (.int j) := s1.top
      cases hr
      exact ⟨j, rfl, t1.2.1, t1.1, k _ g1 H1 F1 a1 _ [] [] t1.2.2 s1.pop1 rfl rfl walkD_range⟩
    | _ => exact t1.elim
  | _ => exact t1.elim
theorem i_range2 (hg : Gl X "range") (hm : X.mg "range" = none) (ha : PE X l (up X.K ta)) (hb : PE X b (up X.K tb)) (hs : starEach [l, b] X.env = [(false, eval l X.env), (false, eval b X.env)] := by rfl) (hs2 : starEach [b] X.env = [(false, eval b X.env)] := by rfl) :
    PI X tg (.Call (.Name "range" p) [l, b] [] pos) (upI X.K (dRange2 ta tb)) := pi_to (pi_range2 hg hm (pa_cons ha (pa_cons hb pa_nil hs2) (by rw [hs, hs2])) hs hs2) fun σ H R q => by
  obtain ⟨c, g, tv, tr, F, a, post, s, t, k⟩ := q
  refine ⟨c, g, tv, tr, F, a, _, s, t, fun r g1 v H1 F1 a1 t1 s1 => ?_⟩
  refine ⟨c, g1, _, _, F1, a1, _, s1, t1, fun r2 g2 v2 H2 F2 a2 t2 s2 => ?_⟩
  split at t2
  · rename_i i j
    have hr : Rp X.K F2 v (.int i) := s2.pop1.top
    have hr2 : Rp X.K F2 v2 (.int j) := s2.top
    cases hr
    cases hr2
    exact ⟨i, j, rfl, t2.1, k _ g2 H2 F2 a2 _ [] [] t2.2 s2.pop1.pop1 rfl rfl walkD_range⟩
  · exact t2.elim
end
end Z
namespace Z
open L2 PySem PySem.Spec PyProof.Rows
open Evl (Ex ex_l ex_t ex_rd fresh_back)
variable {Wx : WX}
def upGw (K : Fg) (vs : List Nat) (t : DG) : TG := fun v σ H Q => ∃ c g tv tr F a r post, Sta K c g σ H (v :: tv) (r :: tr) F a ∧ t r g post ∧
  ∀ g' σ' H' F' a', post g' → Sta K c g' σ' H' tv tr F' a' → wipe σ' vs = wipe σ vs → Q σ' H'
def upGsw (K : Fg) (vs : List Nat) (t : DGs) : TGs := fun us σ H Q => ∃ c g tv tr F a ds post, Sta K c g σ H (us ++ tv) (ds.map Rv.val ++ tr) F a ∧ us.length = ds.length ∧ t ds g post ∧
  ∀ g' σ' H' F' a', post g' → Sta K c g' σ' H' tv tr F' a' → wipe σ' vs = wipe σ vs → Q σ' H'
theorem wipe_get {σ : L2.St} : ∀ {vs : List Nat} {i : Nat}, i ∉ vs → (wipe σ vs)[i]? = σ[i]?
  | [], _, _ => rfl
  | v :: vs, i, h => by
    show ((wipe σ vs).set v none)[i]? = _
    rw [List.getElem?_set_ne (fun e => h (by rw [e]; exact List.mem_cons_self)), wipe_get fun z => h (List.mem_cons_of_mem _ z)]
theorem wipe_in {σ : L2.St} : ∀ {vs : List Nat} {i : Nat}, i ∈ vs → i < σ.length → (wipe σ vs)[i]? = some none
  | v :: vs, i, h, hl => by
    show ((wipe σ vs).set v none)[i]? = _
    by_cases e : v = i
    · subst e
      exact List.getElem?_set_self (by rw [wipe_length]; exact hl)
    · rw [List.getElem?_set_ne e]
      rcases List.mem_cons.mp h with z | z
      · exact absurd z.symm e
      · exact wipe_in z hl
theorem wipe_set {σ : L2.St} {vs : List Nat} {i : Nat} {x : Option V} (h : i ∈ vs) : wipe (σ.set i x) vs = wipe σ vs := by
  apply List.ext_getElem?
  intro j
  by_cases hj : j ∈ vs
  · by_cases hl : j < σ.length
    · rw [wipe_in hj (by rw [List.length_set]; exact hl), wipe_in hj hl]
    · rw [List.getElem?_eq_none (by rw [wipe_length, List.length_set]; omega), List.getElem?_eq_none (by rw [wipe_length]; omega)]
  · rw [wipe_get hj, wipe_get hj, List.getElem?_set_ne (fun e => hj (by rw [← e]; exact h))]
section
variable {X : Cx} {pos : Pos} {e : Expr} {es : List Expr} {vs : List Nat} {K : Fg}
theorem gw_name {i : Nat} (hk : K = X.K) (h : PG X e (gName i)) (hi : i ∈ vs) : PG X e (upGw K vs (dN i)) := pg_to h fun v σ H Q q => by
  subst hk
  obtain ⟨c, g, tv, tr, F, a, r, post, s, t, k⟩ := q
  exact k _ _ H F a t (s.set i) (wipe_set hi)
theorem gsw_nil : PGs X [] (upGsw K vs dTn) := pgs_to pgs_nil fun us σ H Q q => by
  obtain ⟨c, g, tv, tr, F, a, ds, post, s, hl, t, k⟩ := q
  cases ds with
  | nil =>
    have : us = [] := List.length_eq_zero_iff.mp hl
    subst this
    exact ⟨rfl, k _ _ H F a t s rfl⟩
  | cons d r => exact t.elim
theorem gsw_cons {t : DG} {u : DGs} (h : PG X e (upGw K vs t)) (hr : PGs X es (upGsw K vs u)) (hs : (assignEach (e :: es) X.env).map (·.2) = assign e X.env :: (assignEach es X.env).map (·.2) := by rfl) : PGs X (e :: es) (upGsw K vs (dTc t u)) := pgs_to (pgs_cons h hr hs) fun us σ H Q q => by
  obtain ⟨c, g, tv, tr, F, a, ds, post, s, hl, t, k⟩ := q
  cases ds with
  | nil => exact t.elim
  | cons d r =>
    cases us with
    | nil => simp at hl
    | cons v us =>
      refine ⟨v, us, rfl, c, g, _, _, F, a, _, _, s, t, fun g1 σ1 H1 F1 a1 t1 s1 w1 => ?_⟩
      exact ⟨c, g1, tv, tr, F1, a1, r, _, s1, by simpa using hl, t1, fun g2 σ2 H2 F2 a2 t2 s2 w2 => k g2 σ2 H2 F2 a2 t2 s2 (w2.trans w1)⟩
theorem gw_tup {n k : Nat} {t : DGs} (hk : K = X.K) (hc : X.calm = true) (h : PGs X es (upGsw K vs t)) (hn : (assignEach es X.env).length = n := by rfl) (hf : List.findIdx? (fun x => x.1) (assignEach es X.env) = none := by rfl) : PG X (.Tuple es k pos) (upGw K vs (dT n t)) :=
  pg_to (pg_tup hc h hn hf) fun v σ H Q q => by
  subst hk
  obtain ⟨c, g, tv, tr, F, a, r, post, s, t, k⟩ := q
  cases r with
  | val d =>
    cases d with
    | tuple ds =>
      have hr : Rp X.K F v (.tuple ds) := s.top
      cases hr with
      | tup sq m =>
        refine ⟨_, _, rfl, ex_t s.eh sq, by rw [m.len]; exact t.1, c, g, tv, tr, F, a, ds, post, s.pop ((Tm.ofRps m).app s.pop1.tmp), m.len, t.2, k⟩
    | _ => exact t.elim
  | _ => exact t.elim
end
def noOwn : Option Sv → Option Sv
  | some (.own _) => none
  | some (.mem _ _ _) => none
  | x => x
def wipeS (sl : List (Option Sv)) : List Nat → List (Option Sv)
  | [] => sl
  | v :: vs => (wipeS sl vs).set v none
def hide (vs : List Nat) (sl : List (Option Sv)) : List (Option Sv) := wipeS (sl.map noOwn) vs
theorem wipeS_len (sl : List (Option Sv)) : ∀ vs, (wipeS sl vs).length = sl.length
  | [] => rfl
  | v :: vs => by
    show ((wipeS sl vs).set v none).length = _
    rw [List.length_set, wipeS_len sl vs]
theorem wipeS_some {sl : List (Option Sv)} : ∀ {vs : List Nat} {i : Nat} {s : Sv}, (wipeS sl vs)[i]? = some (some s) → i ∉ vs ∧ sl[i]? = some (some s)
  | [], _, _, h => ⟨by simp, h⟩
  | v :: vs, i, s, h => by
    rcases set_some (show ((wipeS sl vs).set v none)[i]? = some (some s) from h) with ⟨_, _, e⟩ | ⟨ne, e⟩
    · cases e
    · obtain ⟨h1, h2⟩ := wipeS_some e
      exact ⟨by simp only [List.mem_cons, not_or]; exact ⟨ne, h1⟩, h2⟩
theorem hide_some {sl : List (Option Sv)} {vs : List Nat} {i : Nat} {s : Sv} (h : (hide vs sl)[i]? = some (some s)) : i ∉ vs ∧ sl[i]? = some (some s) ∧ ∀ ds, s ≠ .own ds := by
  obtain ⟨h1, h2⟩ := wipeS_some h
  rw [List.getElem?_map] at h2
  cases q : sl[i]? with
  | none => rw [q] at h2; cases h2
  | some x =>
    rw [q] at h2
    have h3 : noOwn x = some s := Option.some.inj h2
    refine ⟨h1, ?_, fun ds e => ?_⟩
    · cases x with
      | none => cases h3
      | some y => cases y <;> first | (cases h3; rfl) | cases h3
    · subst e
      cases x with
      | none => cases h3
      | some y => cases y <;> cases h3
theorem hide_mem {sl : List (Option Sv)} {vs : List Nat} {i : Nat} {bm : Bool} {hs : PySem.NestedKey → Int} {gd : Da → Da → Prop} (h : (hide vs sl)[i]? = some (some (.mem bm hs gd))) : False := by
  obtain ⟨h1, h2⟩ := wipeS_some h
  rw [List.getElem?_map] at h2
  cases q : sl[i]? with
  | none => rw [q] at h2; cases h2
  | some x =>
    rw [q] at h2
    have h3 : noOwn x = some (.mem bm hs gd) := Option.some.inj h2
    cases x with
    | none => cases h3
    | some y => cases y <;> cases h3
def fuN (fu fu' : Option Nat) : Option Nat := match fu with
  | some _ => fu'
  | none => none
def lcD (sl : List (Option Sv)) (t : DG) (tt : DT) (te : DE) : List Da → List Da → Option Nat → (List Da → Option Nat → Prop) → Prop
  | [], acc, fu, Q => Q acc fu
  | x :: xs, acc, fu, Q => t (.val x) ⟨sl, fu, false⟩ fun g1 => tt g1 fun b g2 =>
    (b = true → te g2 fun r g3 => match r with
      | .val d => acc.length < 1000000 ∧ lcD sl t tt te xs (acc ++ [d]) (fuN fu g3.fu) Q
      | _ => False) ∧ (b = false → lcD sl t tt te xs acc (fuN fu g2.fu) Q)
def dYes : DT := fun g Q => Q true g
def dLc (vs : List Nat) (tw : DW) (t : DG) (tt : DT) (te : DE) : DL := fun g Q => tw g fun ds g1 => lcD (hide vs g1.sl) t tt te ds [] g1.fu fun acc fu' => Q acc { g1 with fu := fu' }
section
variable {K : Fg} {F1 H1 F H : Hp} {a D : Addr} {fu0 fu : Option Nat} {acc : List Da}
/-- behind a turn: from the nested entry back to the one ahead of the comprehension -/
theorem Out.turn (o : Out K F1 H1 a fu0 fu F H (.ref D) (.own acc)) {g : Gs} {σ : L2.St} {H4 F4 : Hp} {tv : List V} {tr : List Rv} {a4 : Addr} (hfu : fu0 = none → fu = none) (hD : fu0 ≠ none → D ≠ a) (s : Sta K ⟨F, H, if fu = none then none else some a, anyM⟩ g σ H4 tv tr F4 a4) :
    (fu0 ≠ none → a4 = a) ∧ F4 D = none ∧ (fu0 = none → fuN fu g.fu = none) ∧ (∃ xs, H4 D = some (.lst xs) ∧ Rps K F4 xs acc) ∧ Out K F1 H1 a fu0 (fuN fu g.fu) F4 H4 (.ref D) (.own acc) := by
  obtain ⟨o', xs, eD, d1, d2, d3, d4⟩ := o.rep
  cases eD
  have fne : fu0 ≠ none → fu ≠ none := fun hf => by
    obtain ⟨n, e, _⟩ := o.src hf
    exact ne_none e
  have ext1 : fu0 ≠ none → (if fu = none then none else some a : Option Addr) = some a := fun hf => if_neg (fne hf)
  have ext0 : ∀ b, (fu0 ≠ none → b ≠ a) → (if fu = none then none else some a : Option Addr) ≠ some b := fun b hb => by
    by_cases hf : fu = none
    · rw [if_pos hf]; exact fun z => nomatch z
    · rw [if_neg hf]
      intro z
      cases z
      exact hb (fun z => hf (hfu z)) rfl
  have a4e : fu0 ≠ none → a4 = a ∧ g.fu ≠ none := fun hf => s.ex a (ext1 hf)
  have hD4 : H4 D = some (.lst xs) := s.keep D _ (ext0 D hD) (fun _ z => by cases z) d3
  have hF4 : F4 D = none := by
    cases q : F4 D with
    | none => rfl
    | some u =>
      rcases s.new D (ne_none q) with z | z
      · exact absurd d2 z
      · have z' : H D = none := z
        rw [d3] at z'; cases z'
  have hn : fu0 = none → fuN fu g.fu = none := fun z => by
    rw [hfu z]; rfl
  refine ⟨fun hf => (a4e hf).1, hF4, hn, ⟨xs, hD4, d4.up s.e0⟩, ⟨o.f.trans s.e0, s.eh, fun b u hb hn e => s.keep b u (ext0 b hb) hn (o.keep b u hb hn e), fun b q => ?_, fun hf => ?_, ⟨D, xs, rfl, d1, hF4, hD4, d4.up s.e0⟩, o.tab.trans s.tab, s.t0⟩⟩
  · rcases s.new b q with z | z
    · exact o.new b z
    · have z' : H b = none := z
      refine .inr ?_
      cases e : H1 b with
      | none => rfl
      | some u =>
        by_cases hb : fu0 ≠ none → b ≠ a
        · cases u with
          | tbl ps =>
            obtain ⟨ps', w⟩ := o.tab b ps e
            rw [w] at z'; cases z'
          | _ => rw [o.keep b _ hb (fun _ z => by cases z) e] at z'; cases z'
        · have hb1 : fu0 ≠ none := fun w => hb fun w' => absurd w w'
          have hb2 : b = a := Classical.byContradiction fun w => hb fun _ => w
          obtain ⟨n, _, _, x, y, w, q', _⟩ := o.src hb1
          rw [hb2, q'] at z'; cases z'
  · obtain ⟨e1, e2⟩ := a4e hf
    subst e1
    cases q : g.fu with
    | none => exact absurd q e2
    | some n =>
      obtain ⟨h1, _, h3⟩ := s.src n q
      cases q2 : fu with
      | none => exact absurd q2 (fne hf)
      | some m => exact ⟨n, rfl, h1, h3⟩
/-- the list at D grows -/
theorem Out.grow (o : Out K F1 H1 a fu0 fu F H (.ref D) (.own acc)) (hD : fu0 ≠ none → D ≠ a) {xs : List V} {v : V} {d : Da} (hx : H D = some (.lst xs)) (m : Rps K F xs acc) (r : Rp K F v d) : Out K F1 H1 a fu0 fu F (upd H D (.lst (xs ++ [v]))) (.ref D) (.own (acc ++ [d])) := by
  obtain ⟨o', ys, eD, d1, d2, d3, d4⟩ := o.rep
  cases eD
  refine ⟨o.f, fun b u q => ?_, fun b u hb hn e => ?_, o.new, fun hf => ?_, ⟨D, _, rfl, d1, d2, upd_same, m.app (.cons r .nil)⟩, o.tab.trans (.but hx (fun _ z => by cases z) fun b u ne h => by rw [upd_ne ne]; exact h), o.tk.but hx (fun _ z => by cases z) fun b u ne h => by rw [upd_ne ne]; exact h⟩
  · have nb : b ≠ D := fun z => by rw [z, d2] at q; cases q
    rw [upd_ne nb]; exact o.s b u q
  · have nb : b ≠ D := fun z => by rw [z, d1] at e; cases e
    rw [upd_ne nb]; exact o.keep b u hb hn e
  · obtain ⟨n, h1, h2, x, y, w, q', h3⟩ := o.src hf
    exact ⟨n, h1, h2, x, y, w, by rw [upd_ne (fun z => hD hf z.symm)]; exact q', h3⟩
end
theorem lc_sta {K : Fg} {c : Con} {g1 : Gs} {σ : L2.St} {H1 F1 : Hp} {tv : List V} {tr : List Rv} {a : Addr} (s : Sta K c g1 σ H1 tv tr F1 a) (vs : List Nat) {fu : Option Nat} {F H : Hp} {D : Addr} {acc : List Da} (o : Out K F1 H1 a g1.fu fu F H (.ref D) (.own acc)) (hfu : g1.fu = none → fu = none) :
    Sta K ⟨F, H, if fu = none then none else some a, anyM⟩ ⟨hide vs g1.sl, fu, false⟩ (wipe σ vs) H tv tr F a := by
  have fne : g1.fu ≠ none → fu ≠ none := fun hf => by
    obtain ⟨n, e, _⟩ := o.src hf
    exact ne_none e
  have bne : fu ≠ none → g1.fu ≠ none := fun hf z => hf (hfu z)
  have tm : Tm K F a fu tv tr := by
    cases q : g1.fu with
    | none =>
      have t := s.tmp.up o.f
      rw [q] at t
      rw [hfu q]
      exact t
    | some n => exact (s.tmp.up o.f).refu (fne (ne_none q))
  refine ⟨Ex.refl F, o.s, fun b u _ _ e => e, fun b q => .inl q, fun b e => ?_, fun z => (by cases z), fun n e => ?_, tm, ?_, fun i sv h => ?_, fun i j ds es _ h => ?_, o.tk, .refl⟩
  · by_cases hf : fu = none
    · simp [hf] at e
    · simp [hf] at e
      exact ⟨e, hf⟩
  · have e' : fu = some n := e
    obtain ⟨n', h1, h2, h3⟩ := o.src (bne (ne_none e'))
    rw [e'] at h1
    cases h1
    exact ⟨h2, .inl (if_neg (ne_none e')), h3⟩
  · show (wipe σ vs).length = (hide vs g1.sl).length
    rw [wipe_length]
    unfold hide
    rw [wipeS_len, List.length_map]
    exact s.len
  · obtain ⟨h1, h2, h3⟩ := hide_some (show (hide vs g1.sl)[i]? = some (some sv) from h)
    obtain ⟨v, w1, w2⟩ := s.slot i sv h2
    refine ⟨v, by rw [wipe_get h1]; exact w1, ?_⟩
    cases sv with
    | val d => exact Rp.up w2 o.f
    | src => exact ⟨w2.1, fne w2.2⟩
    | scr ns => obtain ⟨b, z1, z2⟩ := w2; exact ⟨b, z1, ex_l o.f z2⟩
    | ob k => exact ObOk.up o.f w2
    | own ds => exact absurd rfl (h3 ds)
    | mem bm hs gd => exact (hide_mem h).elim
  · obtain ⟨_, _, h3⟩ := hide_some (show (hide vs g1.sl)[i]? = some (some (Sv.own ds)) from h)
    exact absurd rfl (h3 ds)
section
variable {K : Fg} {vs : List Nat} {tw : DW} {t : DG} {tt : DT} {te : DE}
theorem lc_main : ∀ σ H Q, upL K (dLc vs tw t tt te) σ H Q → tLc (upI K tw) (upGw K vs t) (upT K tt) (up K te) vs σ H Q := fun σ H Q q => by
  obtain ⟨c, g, tv, tr, F, a, post, s, q, k⟩ := q
  refine ⟨c, g, tv, tr, F, a, _, s, q, fun ds g1 H1 F1 a1 J wv wr hf s1 hl hw wd D hD => ?_⟩
  have sp : ∀ {g : Gs} {c : Con} {σ : L2.St} {H F : Hp} {a : Addr}, Sta K c g σ H (wv ++ tv) (wr ++ tr) F a → Tm K F a g.fu wv wr ∧ Tm K F a g.fu tv tr := fun s => Tm.split hl s.tmp
  have srcH : g1.fu ≠ none → ∃ n, g1.fu = some n ∧ F1 a1 = none ∧ SrcAt H1 a1 n := fun hf => by
    cases q : g1.fu with
    | none => exact absurd q hf
    | some n => exact ⟨n, rfl, (s1.src n q).1, (s1.src n q).2.2⟩
  have Da1 : g1.fu ≠ none → D ≠ a1 := fun hf e => by
    obtain ⟨n, _, _, x, y, z, q, _⟩ := srcH hf
    rw [← e, hD] at q; cases q
  have o0 : Out K F1 H1 a1 g1.fu g1.fu F1 (upd H1 D (.lst [])) (.ref D) (.own []) := by
    have eH : Ex H1 (upd H1 D (.lst [])) := Ex.new hD
    refine ⟨Ex.refl F1, s1.eh.trans eH, fun b u _ _ e => eH b u e, fun b q => .inl q, fun hf => ?_, ⟨D, [], rfl, hD, fresh_back s1.eh hD, upd_same, .nil⟩, .ex eH, s1.t0.up (Ex.refl _) (fun b ps h => eH b _ h) fun _ h => .inl h⟩
    obtain ⟨n, h1, h2, x, y, z, q, h3⟩ := srcH hf
    exact ⟨n, h1, h2, x, y, z, eH _ _ q, h3⟩
  refine lc_it wd.walk (fun i H => ∃ F fu acc, Out K F1 H1 a1 g1.fu fu F H (.ref D) (.own acc) ∧ (g1.fu = none → fu = none) ∧ lcD (hide vs g1.sl) t tt te (ds.drop i) acc fu fun acc fu' => post acc { g1 with fu := fu' }) ⟨F1, g1.fu, [], o0, id, hf⟩ (fun i H hi p => ?_) (fun i x H H' hi p y => ?_) (fun H p => ?_)
  · obtain ⟨F, fu, acc, o, hfu, _⟩ := p
    have s2 := lc_sta s1 vs o hfu
    exact ⟨F, a1, fu, s2.eh, (sp s2).1⟩
  · obtain ⟨F, fu, acc, o, hfu, f⟩ := p
    have s2 := lc_sta s1 vs o hfu
    obtain ⟨F2, dx, e1, gr, rx⟩ := wd.yields i F H a1 fu x H' s2.eh (sp s2).1 hi y
    rw [drop_at e1] at f
    refine ⟨_, _, wv ++ tv, wr ++ tr, F2, a1, .val dx, _, (s2.grow gr).push (r := .val dx) rx, f, fun g3 σ3 H3 F3 a3 t3 s3 w3 => ⟨?_, ?_⟩⟩
    · rw [w3]
      apply List.ext_getElem?
      intro j
      by_cases hj : j ∈ vs
      · by_cases hl : j < σ.length
        · rw [wipe_in hj (by rw [wipe_length]; exact hl), wipe_in hj hl]
        · rw [List.getElem?_eq_none (by rw [wipe_length, wipe_length]; omega), List.getElem?_eq_none (by rw [wipe_length]; omega)]
      · rw [wipe_get hj, wipe_get hj]
    · refine ⟨_, g3, _, _, F3, a3, _, s3, t3, fun b g4 H4 F4 a4 t4 s4 => ?_⟩
      cases b with
      | true =>
        rw [if_pos rfl]
        refine ⟨_, g4, _, _, F4, a4, _, s4, t4.1 rfl, fun r g5 v H5 F5 a5 t5 s5 => ?_⟩
        cases r with
        | val d =>
          obtain ⟨ae, fD, fn, ⟨xs, hx, m⟩, o5⟩ := o.turn hfu Da1 s5.pop1
          exact ⟨xs, hx, by rw [m.len]; exact Nat.lt_of_lt_of_le t5.1 (by decide), F5, _, _, o5.grow Da1 hx m s5.top, fn, t5.2⟩
        | _ => exact t5.elim
      | false =>
        rw [if_neg Bool.false_ne_true]
        obtain ⟨ae, fD, fn, ⟨xs, hx, m⟩, o5⟩ := o.turn hfu Da1 s4
        exact ⟨F4, _, _, o5, fn, t4.2 rfl⟩
  · obtain ⟨F, fu, acc, o, hfu, f⟩ := p
    rw [List.drop_length] at f
    have s1' := s1.pop (sp s1).2
    by_cases hf : g1.fu = none
    · have o' := o
      rw [hf] at o'
      have s3 := s1'.after0 o'
      have e : ({ g1 with fu := fu } : Gs) = g1 := by
        rw [hfu hf, ← hf]
      refine k acc _ _ H F a1 f ?_ ?_
      · rw [e]; exact s3
      · rw [e]; exact NewL.of s1' rfl id o.rep
    · exact k acc _ _ H F a1 f (s1'.after1 hf o) (NewL.of (g' := { g1 with fu := fu }) s1' rfl (fun _ => hf) o.rep)
end
section
variable {X : Cx} {elt tg iter : Expr} {ifs : List Expr} {scope : Scope} {own : List (Str × Nat)} {pos spos : Pos} {tw : DW} {t : DG} {tt : DT} {te : DE}
theorem ts_yes : PTs X [] (upT X.K dYes) := ⟨fun pins s σ H Q I q => by
  obtain ⟨c, g, tv, tr, F, a, post, st, t, k⟩ := q
  exact pts_nil.run pins s σ H Q I (k true g H F a t st)⟩
theorem e_lc (hc : X.calm = true) (hN : X.N.Nodup) (hi : PI X tg iter (upI X.K tw)) (hb : BlkOk X.N X.env.scope scope own)
    (hg : ∀ s H C cl fp, PG (X.blk s H scope (compEnvC scope cl C X.env) fp) tg (upGw X.K (own.map (·.2)) t)) (ht : ∀ s H C cl fp, PTs (X.blk s H scope (compEnvC scope cl C X.env) fp) ifs (upT X.K tt))
    (he : ∀ s H C cl fp, PE (X.blk s H scope (compEnvC scope cl C X.env) fp) elt (up X.K te)) (hfs : ∀ x, foldedSetIterable iter X.env x = pure x := by intro _; rfl) :
    PE X (.ListComp elt [{ target := tg, iter := iter, ifs := ifs, is_async := 0 }] scope pos) (upL X.K (dLc (own.map (·.2)) tw t tt te)) := pe_to (pe_lc hc hN hi hb hg ht he hfs) lc_main
end
end Z
namespace Z
open L2 PySem PySem.Spec PyProof.Rows
open Evl (Ex ex_l ex_t ex_rd fresh_back)
abbrev CF := List Rv → (Da → Prop) → Prop
def dCB (f : CF) (ta : DA) : DE := fun g Q => ta g fun rs g1 => f rs fun z => Q (.val z) g1
def CallOk (K : Fg) (r : List V → Hp → VK → Prop) (f : CF) : Prop := ∀ (F H : Hp) (a : Addr) (fu : Option Nat) (vs : List V) (rs : List Rv) (post : Da → Prop) (Q : VK), Ex F H → Tm K F a fu vs rs → f rs post →
  (∀ z v H' F', post z → Gr F H F' H' → Rp K F' v z → Q v H') → r vs H Q
section
variable {X : Cx} {x : Str} {p pos : Pos} {e : Expr} {es : List Expr} {tr : DA} {id T : String} {r : List V → Hp → VK → Prop} {f : CF}
theorem cb_core (hf : CallOk X.K r f) : ∀ σ H Q, up X.K (dCB f tr) σ H Q → tCB r (upA X.K tr) σ H Q := fun σ H Q q => by
  obtain ⟨c, g, tv, tr, F, ad, post, s, t, k⟩ := q
  refine ⟨c, g, tv, tr, F, ad, _, s, t, fun rs g1 vs H1 F1 a1 t1 s1 hl => ?_⟩
  obtain ⟨m1, m2⟩ := s1.tmp.args hl
  exact hf F1 H1 a1 g1.fu vs rs _ _ s1.eh m1 t1 fun z v H' F' hz gr rz => k _ g1 v H' F' a1 hz (((s1.pop m2).grow gr).push (r := .val z) rz)
theorem e_callB (hc : CallR X (.builtin id) r) (hf : CallOk X.K r f) (hg : Gl X x) (hm : X.mg x = none) (hv : bootBuiltins x = some (.builtin id)) (ha : PA X (e :: es) (upA X.K tr)) (hn : x ≠ "__name__" := by decide) (hdb : (x == ("__debug__" : Str)) = false := by decide)
    (he : starEach (e :: es) X.env = (false, eval e X.env) :: starEach es X.env := by rfl) (hpl : (backTo pos (starEach es X.env)).any (·.1) = false := by rfl) : PE X (.Call (.Name x p) (e :: es) [] pos) (up X.K (dCB f tr)) :=
  pe_to (pe_callB hc hg hm hv ha hn hdb he hpl) (cb_core hf)
theorem e_callTy (hc : CallR X (.type T) r) (hf : CallOk X.K r f) (hg : Gl X x) (hm : X.mg x = none) (hv : bootBuiltins x = some (.type T)) (ha : PA X (e :: es) (upA X.K tr)) (hn : x ≠ "__name__" := by decide) (hdb : (x == ("__debug__" : Str)) = false := by decide)
    (he : starEach (e :: es) X.env = (false, eval e X.env) :: starEach es X.env := by rfl) (hpl : (backTo pos (starEach es X.env)).any (·.1) = false := by rfl) : PE X (.Call (.Name x p) (e :: es) [] pos) (up X.K (dCB f tr)) :=
  pe_to (pe_callTy hc hg hm hv ha hn hdb he hpl) (cb_core hf)
end
section
variable {K : Fg}
theorem Tm.i1 {F : Hp} {a : Addr} {fu : Option Nat} {vs : List V} {i : Int} (h : Tm K F a fu vs [.val (.int i)]) : vs = [.int i] := by
  cases h with
  | cons h t =>
    cases t
    have h' : Rp K F _ (.int i) := h
    cases h'
    rfl
theorem Tm.i2 {F : Hp} {a : Addr} {fu : Option Nat} {vs : List V} {i j : Int} (h : Tm K F a fu vs [.val (.int i), .val (.int j)]) : vs = [.int i, .int j] := by
  cases h with
  | cons h t =>
    cases t.i1
    have h' : Rp K F _ (.int i) := h
    cases h'
    rfl
theorem Tm.v1 {F : Hp} {a : Addr} {fu : Option Nat} {vs : List V} {d : Da} (h : Tm K F a fu vs [.val d]) : ∃ v, vs = [v] ∧ Rp K F v d := by
  cases h with
  | cons h t =>
    cases t
    exact ⟨_, rfl, h⟩
def cInt1 (o : Int → Int) : CF := fun rs post => match rs with
  | [.val (.int i)] => post (.int (o i))
  | _ => False
def cInt2 (o : Int → Int → Int) : CF := fun rs post => match rs with
  | [.val (.int i), .val (.int j)] => post (.int (o i j))
  | _ => False
theorem ok_int1 {o : Int → Int} : CallOk K (fun xs H Q => ∃ i, xs = [V.int i] ∧ Q (.int (o i)) H) (cInt1 o) := fun F H a fu vs rs post Q e t hf k => by
  unfold cInt1 at hf
  split at hf
  · exact ⟨_, t.i1, k _ _ H F hf (Gr.refl e) (.int _)⟩
  · exact hf.elim
theorem ok_int2 {o : Int → Int → Int} : CallOk K (fun xs H Q => ∃ i j, xs = [V.int i, V.int j] ∧ Q (.int (o i j)) H) (cInt2 o) := fun F H a fu vs rs post Q e t hf k => by
  unfold cInt2 at hf
  split at hf
  · exact ⟨_, _, t.i2, k _ _ H F hf (Gr.refl e) (.int _)⟩
  · exact hf.elim
/-- len -/
def cLen : CF := fun rs post => match rs with
  | [.val (.list ds)] => post (.int ds.length)
  | [.val (.tuple ds)] => post (.int ds.length)
  | [.val (.str x)] => x.length ≤ sizeLine ∧ post (.int x.length)
  | [.scr ns] => post (.int ns.length)
  | _ => False
theorem ok_len : CallOk K (fun xs H Q => ∃ x n, xs = [x] ∧ LenV K x H n ∧ Q (.int n) H) cLen := fun F H a fu vs rs post Q e t hf k => by
  unfold cLen at hf
  split at hf
  · rename_i ds
    obtain ⟨v, rfl, r⟩ := t.v1
    cases r with
    | lst sq m => exact ⟨_, _, rfl, .inl ⟨_, .inl (.inl (e _ _ sq)), m.len.symm⟩, k _ _ H F hf (Gr.refl e) (.int _)⟩
  · rename_i ds
    obtain ⟨v, rfl, r⟩ := t.v1
    cases r with
    | tup sq m => exact ⟨_, _, rfl, .inr ⟨_, ex_t e sq, m.len.symm⟩, k _ _ H F hf (Gr.refl e) (.int _)⟩
  · rename_i x
    obtain ⟨v, rfl, r⟩ := t.v1
    cases r
    exact ⟨_, _, rfl, ⟨hf.1, rfl⟩, k _ _ H F hf.2 (Gr.refl e) (.int _)⟩
  · rename_i ns
    cases t with
    | cons h t =>
      cases t
      obtain ⟨b, rfl, sq⟩ := h
      exact ⟨_, _, rfl, .inl ⟨_, ex_l e sq, (List.length_map ..).symm⟩, k _ _ H F hf (Gr.refl e) (.int _)⟩
  · exact hf.elim
/-- all of a list of bools -/
def boolsD : List Da → Option (List Bool)
  | [] => some []
  | .bool b :: r => (boolsD r).map (b :: ·)
  | _ :: _ => none
theorem bools_v {F : Hp} : ∀ {vs : List V} {ds : List Da} {bs : List Bool}, Rps K F vs ds → boolsD ds = some bs → vs = bs.map V.bl
  | _, _, _, .nil, h => by cases h; rfl
  | _, d :: ds, bs, .cons r t, h => by
    cases d with
    | bool b =>
      unfold boolsD at h
      cases q : boolsD ds with
      | none => rw [q] at h; cases h
      | some cs =>
        rw [q] at h
        cases h
        cases r
        rw [bools_v t q]
        rfl
    | _ => cases h
def cAll : CF := fun rs post => match rs with
  | [.val (.list ds)] => (match boolsD ds with | some bs => post (.bool (bs.all id)) | none => False)
  | _ => False
theorem ok_all : CallOk K (rAll K) cAll := fun F H a fu vs rs post Q e t hf k => by
  unfold cAll at hf
  split at hf
  · rename_i ds
    split at hf
    · rename_i bs q
      obtain ⟨v, rfl, r⟩ := t.v1
      cases r with
      | lst sq m =>
        rw [bools_v m q] at sq
        exact ⟨_, bs, rfl, .inl (.inl (e _ _ sq)), k _ _ H F hf (Gr.refl e) (.bl _)⟩
    · exact hf.elim
  · exact hf.elim
/-- tuple(..) -/
def cTuple : CF := fun rs post => match rs with
  | [.val (.list ds)] => post (.tuple ds)
  | [.val (.tuple ds)] => post (.tuple ds)
  | _ => False
theorem ok_tuple : CallOk K (fun xs H Q => ∃ p ys, xs = [V.ref p] ∧ ((SqL K H p ys ∧ ∀ l, H l = none → Q (.ref l) (upd H l (.tup ys))) ∨ (SqT K H p ys ∧ Q (.ref p) H))) cTuple := fun F H a fu vs rs post Q e t hf k => by
  unfold cTuple at hf
  split at hf
  · rename_i ds
    obtain ⟨v, rfl, r⟩ := t.v1
    cases r with
    | lst sq m =>
      rename_i pp xs
      refine ⟨_, _, rfl, .inl ⟨.inl (.inl (e _ _ sq)), fun l hl => ?_⟩⟩
      have gr := Gr.new (o := .tup xs) e hl
      exact k _ _ _ _ hf gr (.tup (.inl (.inl upd_same)) (m.up gr.f))
  · rename_i ds
    obtain ⟨v, rfl, r⟩ := t.v1
    cases r with
    | tup sq m => exact ⟨_, _, rfl, .inr ⟨ex_t e sq, k _ _ H F hf (Gr.refl e) (.tup sq m)⟩⟩
  · exact hf.elim
end
def tyD : Da → String
  | .none => "NoneType"
  | .bool _ => "bool"
  | .int _ => "int"
  | .str _ => "str"
  | .list _ => "list"
  | .tuple _ => "tuple"
  | .dict _ => "dict"
theorem ty_v {K : Fg} {F H : Hp} {v : V} {d : Da} (e : Ex F H) (r : Rp K F v d) : TyX K H v (.type (tyD d)) := by
  cases r with
  | non => exact .base .non
  | bl b => exact .base (.bl b)
  | int i => exact .base (.int i)
  | str x => exact .base (.str x)
  | lst sq m => exact .base (.lst (e _ _ sq))
  | tup sq m =>
    rcases sq with (h | ⟨o, h⟩) | ⟨o, its, n, h1, h2, _⟩
    · exact .base (.tup (e _ _ h))
    · exact .fTuple (e _ _ h)
    · exact .kTuple h1 h2
  | dct h _ =>
    rcases h with h | ⟨o, h⟩
    · exact .base (.dK (e _ _ h))
    · exact .fDict (e _ _ h)
def isTy (T : String) (d : Da) : Bool := match d with
  | .none => T == "NoneType"
  | .bool _ => T == "bool" || T == "int"
  | .int _ => T == "int"
  | .str _ => T == "str"
  | .list _ => T == "list"
  | .tuple _ => T == "tuple"
  | .dict _ => T == "dict"
def dIsi (T : String) (ta : DE) : DE := fun g Q => ta g fun r g1 => match r with
  | .val d => Q (.val (.bool (isTy T d))) g1
  | _ => False
section
variable {X : Cx} {x : Str} {p pos : Pos} {e c : Expr} {te : DE} {T : String}
theorem e_isi (hT : ∀ d : Da, kitB (tyD d) T = some (isTy T d)) (hg : Gl X "isinstance") (hm : X.mg "isinstance" = none) (he : PE X e (up X.K te)) (hc : PE X c (tC (.ty T)))
    (h1 : starEach [e, c] X.env = (false, eval e X.env) :: starEach [c] X.env := by rfl) (h2 : starEach [c] X.env = (false, eval c X.env) :: starEach [] X.env := by rfl) (hpl : (backTo pos (starEach [c] X.env)).any (·.1) = false := by rfl) :
    PE X (.Call (.Name "isinstance" p) [e, c] [] pos) (up X.K (dIsi T te)) := pe_to (pe_callB call_isi hg hm (by decide +kernel) (pa_cons he (pa_cons hc pa_nil h2) h1) (by decide) (by decide) h1 hpl) fun σ H Q q => by
  obtain ⟨c, g, tv, tr, F, ad, post, s, t, k⟩ := q
  refine ⟨c, g, tv, tr, F, ad, _, s, t, fun r g1 v H1 F1 a1 t1 s1 => ?_⟩
  cases r with
  | val d => exact ⟨_, _, _, _, isTy T d, rfl, .ty T, ty_v s1.eh s1.top, kit_ty (hT d), k _ g1 _ H1 F1 a1 t1 (s1.pop1.push (r := .val (.bool _)) (Rp.bl _))⟩
  | _ => exact t1.elim
end
theorem kit_int : ∀ d : Da, kitB (tyD d) "int" = some (isTy "int" d)
  | .none => (by decide +kernel : kitB "NoneType" "int" = some false)
  | .bool _ => (by decide +kernel : kitB "bool" "int" = some true)
  | .int _ => (by decide +kernel : kitB "int" "int" = some true)
  | .str _ => (by decide +kernel : kitB "str" "int" = some false)
  | .list _ => (by decide +kernel : kitB "list" "int" = some false)
  | .tuple _ => (by decide +kernel : kitB "tuple" "int" = some false)
  | .dict _ => (by decide +kernel : kitB "dict" "int" = some false)
theorem kit_bool : ∀ d : Da, kitB (tyD d) "bool" = some (isTy "bool" d)
  | .none => (by decide +kernel : kitB "NoneType" "bool" = some false)
  | .bool _ => (by decide +kernel : kitB "bool" "bool" = some true)
  | .int _ => (by decide +kernel : kitB "int" "bool" = some false)
  | .str _ => (by decide +kernel : kitB "str" "bool" = some false)
  | .list _ => (by decide +kernel : kitB "list" "bool" = some false)
  | .tuple _ => (by decide +kernel : kitB "tuple" "bool" = some false)
  | .dict _ => (by decide +kernel : kitB "dict" "bool" = some false)
theorem kit_str : ∀ d : Da, kitB (tyD d) "str" = some (isTy "str" d)
  | .none => (by decide +kernel : kitB "NoneType" "str" = some false)
  | .bool _ => (by decide +kernel : kitB "bool" "str" = some false)
  | .int _ => (by decide +kernel : kitB "int" "str" = some false)
  | .str _ => (by decide +kernel : kitB "str" "str" = some true)
  | .list _ => (by decide +kernel : kitB "list" "str" = some false)
  | .tuple _ => (by decide +kernel : kitB "tuple" "str" = some false)
  | .dict _ => (by decide +kernel : kitB "dict" "str" = some false)
theorem kit_tuple : ∀ d : Da, kitB (tyD d) "tuple" = some (isTy "tuple" d)
  | .none => (by decide +kernel : kitB "NoneType" "tuple" = some false)
  | .bool _ => (by decide +kernel : kitB "bool" "tuple" = some false)
  | .int _ => (by decide +kernel : kitB "int" "tuple" = some false)
  | .str _ => (by decide +kernel : kitB "str" "tuple" = some false)
  | .list _ => (by decide +kernel : kitB "list" "tuple" = some false)
  | .tuple _ => (by decide +kernel : kitB "tuple" "tuple" = some true)
  | .dict _ => (by decide +kernel : kitB "dict" "tuple" = some false)
def dBits (te : DE) : DE := fun g Q => te g fun r g1 => match r with
  | .val (.int i) => Q (.val (.int (Builtin.Int.intBits i : Nat))) g1
  | _ => False
section
variable {X : Cx} {o : Expr} {te : DE} {apos pos : Pos}
theorem e_bits (ho : PE X o (up X.K te)) (hb : attributeBase o "bit_length" X.env (eval o X.env) = eval o X.env := by rfl) (hl : (apos.endLine == pos.line) = true := by rfl) : PE X (.Call (.Attribute o "bit_length" apos) [] [] pos) (up X.K (dBits te)) :=
  pe_to (pe_bits ho hb hl) fun σ H Q q => by
  obtain ⟨c, g, tv, tr, F, ad, post, s, t, k⟩ := q
  refine ⟨c, g, tv, tr, F, ad, _, s, t, fun r g1 v H1 F1 a1 t1 s1 => ?_⟩
  cases r with
  | val d =>
    cases d with
    | int i =>
      have hr : Rp X.K F1 v (.int i) := s1.top
      cases hr
      exact ⟨i, rfl, k _ g1 _ H1 F1 a1 t1 (s1.pop1.push (r := .val (.int _)) (Rp.int _))⟩
    | _ => exact t1.elim
  | _ => exact t1.elim
end
section
variable {K : Fg}
theorem walkD_zipL {p q : Addr} {ds es : List Da} : WalkD K (Itz K p q) (zipD ds es) [.ref q, .ref p] [.val (.list es), .val (.list ds)] := by
  have get : ∀ {F H : Hp} {a : Addr} {fu : Option Nat}, Ex F H → Tm K F a fu [.ref q, .ref p] [.val (.list es), .val (.list ds)] → ∃ xs ys, SqL K H p xs ∧ SqL K H q ys ∧ Rps K F xs ds ∧ Rps K F ys es := fun {F H a fu} e t => by
    cases t with
    | cons h t =>
      obtain ⟨v, e1, h2⟩ := t.v1
      cases e1
      have h' : Rp K F (.ref q) (.list es) := h
      cases h' with
      | lst sq m =>
        cases h2 with
        | lst sq2 m2 => exact ⟨_, _, .inl (.inl (e _ _ sq2)), .inl (.inl (e _ _ sq)), m2, m⟩
  refine ⟨fun i F H a fu e t hi => ?_, fun F H a fu e t => ?_, fun i F H a fu x H' e t hi y => ?_⟩
  · obtain ⟨xs, ys, s1, s2, m1, m2⟩ := get e t
    rw [zipD_len] at hi
    obtain ⟨v, h1, _⟩ := m1.get (List.getElem?_eq_getElem (show i < ds.length by omega))
    obtain ⟨w, h2, _⟩ := m2.get (List.getElem?_eq_getElem (show i < es.length by omega))
    exact ⟨xs, ys, v, w, s1, s2, h1, h2⟩
  · obtain ⟨xs, ys, s1, s2, m1, m2⟩ := get e t
    refine ⟨xs, ys, s1, s2, ?_⟩
    rw [zipD_len, m1.len, m2.len]
    omega
  · obtain ⟨xs, ys, s1, s2, m1, m2⟩ := get e t
    obtain ⟨T, u, w, rfl, nT, rfl, h1, h2⟩ := y
    rw [zipD_len] at hi
    have g1 : ds[i]? = some ds[i] := List.getElem?_eq_getElem (by omega)
    have g2 : es[i]? = some es[i] := List.getElem?_eq_getElem (by omega)
    obtain ⟨u', e1, r1⟩ := m1.get g1
    obtain ⟨w', e2, r2⟩ := m2.get g2
    rw [h1 xs s1] at e1
    rw [h2 ys s2] at e2
    cases e1
    cases e2
    have gr := Gr.new (o := .tup [u, w]) e nT
    exact ⟨_, _, zipD_get ds es i _ _ g1 g2, gr, .tup (.inl (.inl upd_same)) (.cons (r1.up gr.f) (.cons (r2.up gr.f) .nil))⟩
theorem walkD_zipT {p q : Addr} {ds es : List Da} : WalkD K (RZ.ItzT K p q) (zipD ds es) [.ref q, .ref p] [.val (.tuple es), .val (.tuple ds)] := by
  have get : ∀ {F H : Hp} {a : Addr} {fu : Option Nat}, Ex F H → Tm K F a fu [.ref q, .ref p] [.val (.tuple es), .val (.tuple ds)] → ∃ xs ys, SqT K H p xs ∧ SqT K H q ys ∧ Rps K F xs ds ∧ Rps K F ys es := fun {F H a fu} e t => by
    cases t with
    | cons h t =>
      obtain ⟨v, e1, h2⟩ := t.v1
      cases e1
      have h' : Rp K F (.ref q) (.tuple es) := h
      cases h' with
      | tup sq m =>
        cases h2 with
        | tup sq2 m2 => exact ⟨_, _, ex_t e sq2, ex_t e sq, m2, m⟩
  refine ⟨fun i F H a fu e t hi => ?_, fun F H a fu e t => ?_, fun i F H a fu x H' e t hi y => ?_⟩
  · obtain ⟨xs, ys, s1, s2, m1, m2⟩ := get e t
    rw [zipD_len] at hi
    obtain ⟨v, h1, _⟩ := m1.get (List.getElem?_eq_getElem (show i < ds.length by omega))
    obtain ⟨w, h2, _⟩ := m2.get (List.getElem?_eq_getElem (show i < es.length by omega))
    exact ⟨xs, ys, v, w, s1, s2, h1, h2⟩
  · obtain ⟨xs, ys, s1, s2, m1, m2⟩ := get e t
    refine ⟨xs, ys, s1, s2, ?_⟩
    rw [zipD_len, m1.len, m2.len]
    omega
  · obtain ⟨xs, ys, s1, s2, m1, m2⟩ := get e t
    obtain ⟨T, u, w, rfl, nT, rfl, h1, h2⟩ := y
    rw [zipD_len] at hi
    have g1 : ds[i]? = some ds[i] := List.getElem?_eq_getElem (by omega)
    have g2 : es[i]? = some es[i] := List.getElem?_eq_getElem (by omega)
    obtain ⟨u', e1, r1⟩ := m1.get g1
    obtain ⟨w', e2, r2⟩ := m2.get g2
    rw [h1 xs s1] at e1
    rw [h2 ys s2] at e2
    cases e1
    cases e2
    have gr := Gr.new (o := .tup [u, w]) e nT
    exact ⟨_, _, zipD_get ds es i _ _ g1 g2, gr, .tup (.inl (.inl upd_same)) (.cons (r1.up gr.f) (.cons (r2.up gr.f) .nil))⟩
end
section
variable {X : Cx} {a b : Expr} {ta tb : DE} {p pos tpos : Pos} {elts : List Expr} {kk : Nat}
theorem i_zip (hg : Gl X "zip") (hm : X.mg "zip" = none) (ha : PE X a (up X.K ta)) (hb : PE X b (up X.K tb)) (hs : starEach [a, b] X.env = (false, eval a X.env) :: starEach [b] X.env := by rfl) (hs2 : starEach [b] X.env = (false, eval b X.env) :: starEach [] X.env := by rfl)
    (hpl : (backTo pos (starEach [b] X.env)).any (·.1) = false := by rfl) : PI X (.Tuple elts kk tpos) (.Call (.Name "zip" p) [a, b] [] pos) (upI X.K (dZip ta tb)) := pi_to (RZ.pi_zipA hg hm (pa_cons ha (pa_cons hb pa_nil hs2) hs) hs hpl) fun σ H R q => by
  obtain ⟨c, g, tv, tr, F, a, post, s, t, k⟩ := q
  refine ⟨c, g, tv, tr, F, a, _, s, t, fun r g1 v H1 F1 a1 t1 s1 => ?_⟩
  refine ⟨c, g1, _, _, F1, a1, _, s1, t1, fun r2 g2 v2 H2 F2 a2 t2 s2 => ?_⟩
  split at t2
  · rename_i xs ys
    have hr : Rp X.K F2 v (.tuple xs) := s2.pop1.top
    have hr2 : Rp X.K F2 v2 (.tuple ys) := s2.top
    cases hr with
    | tup q1 m1 =>
      cases hr2 with
      | tup q2 m2 => exact ⟨_, _, _, _, rfl, .inr ⟨ex_t s2.eh q1, ex_t s2.eh q2, k _ g2 H2 F2 a2 _ [_, _] [_, _] t2 s2 rfl rfl walkD_zipT⟩⟩
  · rename_i xs ys
    have hr : Rp X.K F2 v (.list xs) := s2.pop1.top
    have hr2 : Rp X.K F2 v2 (.list ys) := s2.top
    cases hr with
    | lst q1 m1 =>
      cases hr2 with
      | lst q2 m2 => exact ⟨_, _, _, _, rfl, .inl ⟨.inl (.inl (s2.eh _ _ q1)), .inl (.inl (s2.eh _ _ q2)), k _ g2 H2 F2 a2 _ [_, _] [_, _] t2 s2 rfl rfl walkD_zipL⟩⟩
  · exact t2.elim
end
def svOf : Rv → Option Sv := fun r => some (rsv r)
section
variable {P : Program} {w : World} {K : Fg} {mg : Str → Option Value} {base : Heap} {CX : CXT}
def ent (N : List Str) (rs : List Rv) (fu : Option Nat) : Gs := ⟨rs.map svOf ++ List.replicate (N.length - rs.length) none, fu, fu.isNone⟩
theorem Tm.len : ∀ {F : Hp} {a : Addr} {fu : Option Nat} {vs : List V} {rs : List Rv}, Tm K F a fu vs rs → vs.length = rs.length
  | _, _, _, _, _, .nil => rfl
  | _, _, _, _, _, .cons _ t => congrArg (· + 1) t.len
theorem Tm.get : ∀ {F : Hp} {a : Addr} {fu : Option Nat} {vs : List V} {rs : List Rv} {i : Nat} {r : Rv}, Tm K F a fu vs rs → rs[i]? = some r → ∃ v, vs[i]? = some v ∧ RvOk K F a fu v r
  | _, _, _, _, _, _, _, .nil, e => by simp at e
  | _, _, _, _, _, 0, _, .cons r _, e => by simp at e; subst e; exact ⟨_, rfl, r⟩
  | _, _, _, _, _, i + 1, r, .cons _ t, e => by
    obtain ⟨u, h1, h2⟩ := Tm.get (i := i) (r := r) t (by simpa using e)
    exact ⟨u, by simpa using h1, h2⟩
theorem sta_ent {N : List Str} {F H : Hp} {a : Addr} {fu : Option Nat} {vs : List V} {rs : List Rv} (e : Ex F H) (t : Tm K F a fu vs rs) (hs : ∀ n, fu = some n → F a = none ∧ SrcAt H a n) (tk : TabK K F H) :
    Sta K ⟨F, H, if fu = none then none else some a, anyM⟩ (ent N rs fu) (L2.start N vs) H [] [] F a := by
  have atS : ∀ (i : Nat) s, (ent N rs fu).sl[i]? = some (some s) → ∃ r, rs[i]? = some r ∧ s = rsv r := fun i s h => by
    have h' : (rs.map svOf ++ List.replicate (N.length - rs.length) none)[i]? = some (some s) := h
    by_cases hi : i < rs.length
    · rw [List.getElem?_append_left (by simpa using hi), List.getElem?_map, List.getElem?_eq_getElem hi] at h'
      cases h'
      exact ⟨_, List.getElem?_eq_getElem hi, rfl⟩
    · rw [List.getElem?_append_right (by simpa using hi), List.getElem?_replicate] at h'
      split at h' <;> cases h'
  have noO : ∀ (i : Nat) ds, (ent N rs fu).sl[i]? = some (some (.own ds)) → False := fun i ds h => by
    obtain ⟨r, _, e⟩ := atS i _ h
    cases r <;> cases e
  refine ⟨Ex.refl F, e, fun b o _ _ h => h, fun b h => .inl h, fun b h => ?_, fun h => ?_, fun n h => ?_, .nil, ?_, fun i s h => ?_, fun i j ds es _ h => (noO i ds h).elim, tk, .refl⟩
  · by_cases hf : fu = none
    · simp [hf] at h
    · simp [hf] at h
      exact ⟨h, hf⟩
  · have h' : fu = none := Option.isNone_iff_eq_none.mp h
    exact if_pos h'
  · have h' : fu = some n := h
    exact ⟨(hs n h').1, .inl (if_neg (ne_none h')), (hs n h').2⟩
  · unfold L2.start ent
    rw [List.length_append, List.length_append, List.length_map, List.length_map, t.len, List.length_replicate, List.length_replicate]
  · obtain ⟨r, h1, rfl⟩ := atS i s h
    obtain ⟨v, h2, h3⟩ := t.get h1
    have hi : i < vs.length := (List.getElem?_eq_some_iff.mp h2).1
    refine ⟨v, ?_, ?_⟩
    · unfold L2.start
      rw [List.getElem?_append_left (by simpa using hi), List.getElem?_map, h2]
      rfl
    · cases r <;> exact h3
/-- any wish: no rule of the body asks for one -/
def W0 : WX := fun _ _ _ _ => True
theorem fn_data {x qual : Str} {st : Stmt} {f : Addr} {fd : FuncData} {N ps : List Str} {k : Nat} {fs : FSp} (Fu : Fun K x qual st f fd) (S : FnScope N ps (defScope st)) (tb : DS)
    (hd : ∀ (cdv : Value) (A : Around) (outer : List Env) (s : Shared) (H : Hp) (E : XK), Room k (A.deeper (envOfC qual (defScope st) s.heap.objs.size f cdv)) → (A.deeper (envOfC qual (defScope st) s.heap.objs.size f cdv)).guards = some [] →
      PSs (cxOf CX P w K mg base N qual (defScope st) f cdv A outer s H E).nox (defBody st) (upS K W0 tb))
    (hb : ∀ rs fu post, rs.length = ps.length → fs rs fu post → tb ⟨fun g => post (.val .none) g.fu, fun r g => post r g.fu, fun _ => False, fun _ => False⟩ (ent N rs fu)) : Fn P w K mg base CX (k + 1) f fd ps (lift K ps.length fs) := by
  refine fn_by Fu S lift_len fun cdv A outer s H vs Q E hr hg h => ⟨_, (hd cdv A outer s H E hr hg).nox, ?_⟩
  obtain ⟨F, a, rs, fu, post, e, t, hl, hs, tk, hf, hq⟩ := h
  have st0 := sta_ent (N := N) e t hs tk
  have fin : ∀ {g : Gs} {σ : L2.St} {H' F' : Hp} {tv : List V} {tr : List Rv} {a' : Addr} {v : V} {r : Rr}, Sta K ⟨F, H, if fu = none then none else some a, anyM⟩ g σ H' tv tr F' a' → RrOk K F' H H' v r → Out K F H a fu g.fu F' H' v r := fun {g σ H' F' tv tr a' v r} s hr => by
    refine ⟨s.e0, s.eh, fun b o hb hn h => s.keep b o (fun z => ?_) hn h, s.new, fun hf => ?_, hr, s.tab, s.t0⟩
    · by_cases hf : fu = none
      · simp [hf] at z
      · simp [hf] at z
        exact hb hf z.symm
    · obtain ⟨e1, e2⟩ := s.ex a (if_neg hf)
      subst e1
      cases q : g.fu with
      | none => exact absurd q e2
      | some n => exact ⟨n, rfl, (s.src n q).1, (s.src n q).2.2⟩
  refine ⟨_, _, [], [], F, a, _, st0, rfl, hb rs fu post (by rw [← t.len]; exact hl) hf, ⟨fun g σ H' F' a' h s => ?_, fun g σ H' F' a' h s => h, fun g σ H' F' a' h s => h, fun x g σ v H' F' a' h s => ?_, fun ds g σ v H' F' a' h s n => ?_, fun nm z g σ H' F' a' cls dd h s ox => ?_⟩⟩
  · exact hq _ _ _ H' F' h (fin s (r := .val .none) Rp.non)
  · exact hq _ _ _ H' F' h (fin s (r := .val x) s.top)
  · obtain ⟨o, xs, q1, q2, q3, q4, q5, _⟩ := n.ex
    exact hq _ _ _ H' F' h (fin s (r := .own ds) ⟨o, xs, q1, q3, q2, q4, q5⟩)
  · exact True.intro
end
end Z
namespace Z
open L2 PySem PySem.Spec PyProof.Rows
open Evl (Ex ex_l ex_t ex_rd fresh_back)
/-- the table of the def that makes lambdas -/
def tabA (K : Fg) : List Addr := LAM.filterMap fun x => (PySem.W.tabIn K x).map Prod.snd
theorem tabA_of {K : Fg} {x : Str} {c P : Addr} (h1 : x ∈ LAM) (h2 : PySem.W.tabIn K x = some (c, P)) : P ∈ tabA K :=
  List.mem_filterMap.mpr ⟨x, h1, by rw [h2]; rfl⟩
theorem of_tabA {K : Fg} {P : Addr} (h : P ∈ tabA K) : ∃ x c, x ∈ LAM ∧ PySem.W.tabIn K x = some (c, P) := by
  obtain ⟨x, h1, h2⟩ := List.mem_filterMap.mp h
  cases r : PySem.W.tabIn K x with
  | none => rw [r] at h2; cases h2
  | some cp =>
    rw [r] at h2
    obtain ⟨c, P'⟩ := cp
    cases h2
    exact ⟨x, c, h1, r⟩
/-- what the making of lambdas asks of the base -/
def TbB (K : Fg) (mg : Str → Option Value) (base : Heap) : Prop := ∀ x c P, x ∈ LAM → PySem.W.tabIn K x = some (c, P) → LamX.TabB base mg c P
/-- what the end asks of the table -/
structure TbE (K : Fg) (mg : Str → Option Value) (h : Heap) : Prop where
  at' : ∀ x c P, x ∈ LAM → PySem.W.tabIn K x = some (c, P) → PySem.W.CodeHd h c P ∧ h.get? P = some (PySem.W.tabObj #[])
  no : ∀ x c P, x ∈ LAM → PySem.W.tabIn K x = some (c, P) → K.lookup P = none
  bm : ∃ (bm : Addr) (ob : Obj), mg "__builtins__" = some (.ref bm) ∧ bm ≠ builtinsNs ∧ h.get? bm = some ob ∧ ob.cls = .type "module" ∧ ob.dict = some builtinsNs ∧ ob.data = .plain
section
variable {P : Program} {w : World} {K : Fg} {mg mb : Str → Option Value} {k : Nat} {fa a : Addr} {fd : FuncData} {x : Str} {s₁ : Shared} {vs : List Value} {ns : List Int} {fs : FSp}
theorem end_at {F H : Hp} (KX : K.In s₁.heap) (hns : s₁.heap.Ns mainGlobals mg) (hb : s₁.heap.Ns builtinsNs mb) (hbb : ∀ x : Str, x ≠ "__name__" → mb x = bootBuiltins x) (hlim : s₁.heap.NoLimit) (hg : s₁.gens = #[])
    (ha : s₁.heap.get? a = some { cls := .type "list", data := .seq vs.toArray }) (hr : Room k callerA) (T : TbE K mg s₁.heap)
    (Fu : ∀ base : Heap, K.In base → base.Ns mainGlobals mg → TbB K mg base → Fn P w K mg base CX0 k fa fd [x] (lift K 1 fs)) (hbind : ∀ (s : Shared) (u : Value), BindsTo s fd ⟨[u], []⟩ [(x, u)])
    (hsp : fs [.scr ns] none fun r _ => r = .val (.bool true)) (hO : ∀ b, H b = none ∨ (b ∈ tabA K ∧ H b = some (.tbl #[])) ∨ ∃ ob xs, H b = some (.frz ob (.lst xs))) (hFH : Ex F H) (hFn : ∀ b, b ∈ tabA K → F b = none) (hH : ∀ b, b ∈ tabA K → H b = some (.tbl #[]))
    (hS : SqL K F a (ns.map V.int)) (hok : HOk P w H s₁.heap) (hA : ∀ b, H b ≠ none → b = a ∨ b ∈ tabA K) (hK : a ∉ tabA K → H a ≠ none → K.lookup a = none) :
    codeAny (model P w) callerA (.call (.ref fa) ⟨[.ref a], []⟩) (fun r s' => r = .ok (.ret (.bool true)) ∧ OldK s₁.heap s'.heap ∧ s'.os = s₁.os ∧ AllBare s'.gens) s₁ := by
  have tabAt : ∀ b, b ∈ tabA K → ∃ c, PySem.W.CodeHd s₁.heap c b ∧ s₁.heap.get? b = some (PySem.W.tabObj #[]) := fun b h => by
    obtain ⟨x, c, h1, h2⟩ := of_tabA h
    exact ⟨c, T.at' x c b h1 h2⟩
  have hide : ∀ {b : Addr} {o : Obj}, s₁.heap.get? b = some o → o.cls ≠ .none → (∀ vs n, o.data ≠ .seq vs n) → H b = none := fun {b o} e n1 n2 => by
    cases q : H b with
    | none => rfl
    | some u =>
      rcases hA b (ne_none q) with rfl | z
      · rw [ha] at e
        cases e
        exact absurd rfl (n2 _ _)
      · obtain ⟨_, _, z2⟩ := tabAt b z
        rw [e] at z2
        cases z2
        exact absurd rfl n1
  have hideD : ∀ {b : Addr} {o : Obj} {es : Array DictEntry} {ep : Nat}, s₁.heap.get? b = some o → o.data = .dict es ep → H b = none := fun {b o es ep} e d => by
    cases q : H b with
    | none => rfl
    | some u =>
      rcases hA b (ne_none q) with rfl | z
      · rw [ha] at e
        cases e
        cases d
      · obtain ⟨_, _, z2⟩ := tabAt b z
        rw [e] at z2
        cases z2
        cases d
  have nsK : ∀ {b : Addr} {m : Str → Option Value}, s₁.heap.Ns b m → (hidT s₁.heap H).Ns b m := fun {b m} z => by
    obtain ⟨o, es, ep, e, d, r⟩ := z
    exact ⟨o, es, ep, hidT_get e (hideD e d), d, r⟩
  have hKb : K.In (hidT s₁.heap H) := fun b o e => hidT_get (KX b o e) (by
    cases q : H b with
    | none => rfl
    | some u =>
      rcases hA b (ne_none q) with rfl | z
      · by_cases hz : b ∈ tabA K
        · obtain ⟨x, c, h1, h2⟩ := of_tabA hz
          rw [T.no x c b h1 h2] at e
          cases e
        · rw [hK hz (ne_none q)] at e
          cases e
      · obtain ⟨x, c, h1, h2⟩ := of_tabA z
        rw [T.no x c b h1 h2] at e
        cases e)
  have TB : TbB K mg (hidT s₁.heap H) := fun x c P' h1 h2 => by
    obtain ⟨hc, hP⟩ := T.at' x c P' h1 h2
    have dG : ∀ {b : Addr} {m : Str → Option Value}, s₁.heap.Ns b m → b ≠ P' := fun {b m} z e => by
      obtain ⟨o, es, ep, e1, d, _⟩ := z
      rw [e, hP] at e1
      cases e1
      cases d
    refine ⟨?_, ?_, dG hns⟩
    · obtain ⟨o, us, file, tf, flags, tg, inF, text, tt, e1, r1, r2, r3⟩ := hc
      exact ⟨o, us, file, tf, flags, tg, inF, text, tt, hidT_get e1 (hide e1 (by rw [r1]; exact fun z => nomatch z) fun vs n z => by rw [r2] at z; cases z), r1, r2, r3⟩
    · obtain ⟨bm, ob, b1, b2, b3, b4, b5, b6⟩ := T.bm
      refine ⟨bm, ob, b1, b2, fun e => ?_, fun e => ?_, hidT_get b3 (hide b3 (by rw [b4]; exact fun z => nomatch z) fun vs n z => by rw [b6] at z; cases z), b4, b5, b6⟩
      · obtain ⟨o, es, ep, e1, d, _⟩ := hns
        rw [e, e1] at b3
        cases b3
        rw [b6] at d
        cases d
      · rw [e, hP] at b3
        cases b3
        cases b4
  obtain ⟨mc, h1, h2⟩ := hlim
  have e0 : Env0 P w K mg (hidT s₁.heap H) callerA [] s₁ H :=
    { frames := rfl, mod := ⟨hKb, nsK hns, ⟨mb, nsK hb, hbb⟩, ⟨mc, nsK h1, h2⟩⟩, bs := fun b o e => of_hidT e, bsz := Nat.le_of_eq (hidT_size _ _), funs := trivial
      frf := fun b hb => absurd (show b ∈ ([] : List Addr) from hb) (by simp), hok := hok, bare := .of_eq hg }
  have pr : lift K 1 fs [.ref a] H (fun v _ => v = .bl true) fun _ _ _ => False :=
    ⟨F, a, [.scr ns], none, _, hFH, .cons ⟨a, rfl, hS⟩ .nil, rfl, fun n z => (by cases z), fun x c P' h1 h2 => ⟨⟨#[], hH P' (tabA_of h1 h2), trivial, fun pos cv hc => by have z : PySem.codeAmong pos [] = some cv := hc; simp [PySem.codeAmong] at z⟩, hFn P' (tabA_of h1 h2)⟩, hsp, fun r fu' v H' F' e o => by
      subst e
      have q : Rp K F' v (.bool true) := o.rep
      cases q
      rfl⟩
  refine codeAny_mono ((Fu _ hKb (nsK hns) TB).run callerA [] s₁ H ⟨[.ref a], []⟩ [.ref a] [.ref a] _ _ hr rfl e0 (hbind s₁ (.ref a)) (.cons rfl .nil) pr) fun r s' h => ?_
  match r, h with
  | .error e, h => exact False.elim h
  | .ok .next, h => exact False.elim h
  | .ok .brk, h => exact False.elim h
  | .ok .cont, h => exact False.elim h
  | .ok (.ret u), ⟨v, H', os, bare, un, hok', rv, q⟩ =>
    have q' : v = .bl true := q
    subst q'
    have ru : u = Value.bool true := rv
    subst ru
    have stay : ∀ b o, b ∉ tabA K → s₁.heap.get? b = some o → s'.heap.get? b = some o := fun b o nb e => by
      rcases hO b with z | ⟨z, _⟩ | ⟨ob, xs, z⟩
      · exact un.keep b o e z (fun z => absurd (show b ∈ ([] : List Addr) from z) (by simp)) (by simp)
      · exact absurd z nb
      · obtain ⟨e1, _⟩ := hok b _ z
        obtain ⟨e2, _⟩ := hok' b _ (un.frzs b ob _ z)
        rw [e] at e1
        cases e1
        exact e2
    have grew : ∀ b, b ∈ tabA K → ∃ more : Array Value, s'.heap.get? b = some { cls := .none, data := .fields more } := fun b hb => by
      obtain ⟨more, z⟩ := un.tbls b #[] (hH b hb)
      exact ⟨_, hok' b _ z⟩
    refine ⟨rfl, ⟨fun b o e => ?_, fun b o e => ?_⟩, os, bare⟩
    · by_cases hb : b ∈ tabA K
      · obtain ⟨c, z1, z2⟩ := tabAt b hb
        obtain ⟨more, z3⟩ := grew b hb
        rw [e] at z2
        cases z2
        exact .inr (.inl ⟨(z1.tab e).isCodeTable, rfl, #[], more, rfl, by rw [Array.empty_append]; exact z3⟩)
      · exact .inl (stay b o hb e)
    · by_cases hb : b ∈ tabA K
      · obtain ⟨more, z3⟩ := grew b hb
        exact ⟨_, z3⟩
      · exact ⟨o, stay b o hb e⟩
theorem end_call (KX : K.In s₁.heap) (hns : s₁.heap.Ns mainGlobals mg) (hb : s₁.heap.Ns builtinsNs mb) (hbb : ∀ x : Str, x ≠ "__name__" → mb x = bootBuiltins x) (hlim : s₁.heap.NoLimit) (hg : s₁.gens = #[])
    (ha : s₁.heap.get? a = some { cls := .type "list", data := .seq vs.toArray }) (hi : IntsAre vs ns) (hl : ns.length ≤ sizeLine) (hr : Room k callerA) (T : TbE K mg s₁.heap)
    (Fu : ∀ base : Heap, K.In base → base.Ns mainGlobals mg → TbB K mg base → Fn P w K mg base CX0 k fa fd [x] (lift K 1 fs)) (hbind : ∀ (s : Shared) (u : Value), BindsTo s fd ⟨[u], []⟩ [(x, u)])
    (hsp : fs [.scr ns] none fun r _ => r = .val (.bool true)) :
    codeAny (model P w) callerA (.call (.ref fa) ⟨[.ref a], []⟩) (fun r s' => r = .ok (.ret (.bool true)) ∧ OldK s₁.heap s'.heap ∧ s'.os = s₁.os ∧ AllBare s'.gens) s₁ := by
  have rv := vals_ints hi
  have aT : a ∉ tabA K := fun z => by
    obtain ⟨x, c, h1, h2⟩ := of_tabA z
    have := (T.at' x c a h1 h2).2
    rw [ha] at this
    cases this
  have tO : ∀ b, b ∈ tabA K → s₁.heap.get? b = some (PySem.W.tabObj #[]) := fun b z => by
    obtain ⟨x, c, h1, h2⟩ := of_tabA z
    exact (T.at' x c b h1 h2).2
  let tb : Hp := fun b => if b ∈ tabA K then some (.tbl #[]) else none
  have tbY : ∀ {b}, b ∈ tabA K → tb b = some (.tbl #[]) := fun h => if_pos h
  have tbN : ∀ {b}, b ∉ tabA K → tb b = none := fun h => if_neg h
  have tb_of : ∀ {b u}, tb b = some u → b ∈ tabA K ∧ u = .tbl #[] := fun {b u} h => by
    by_cases z : b ∈ tabA K
    · rw [tbY z] at h
      exact ⟨z, (Option.some.inj h).symm⟩
    · rw [tbN z] at h
      cases h
  cases hk : K.lookup a with
  | some o =>
    have e := KX a o hk
    rw [ha] at e
    cases e
    have sz : vs.toArray.size ≤ sizeLine := by rw [List.size_toArray, hi.length]; exact hl
    refine end_at (F := fun _ => none) (H := tb) KX hns hb hbb hlim hg ha hr T Fu hbind hsp (fun b => ?_) (fun b u z => by cases (show (none : Option HO) = some u from z)) (fun _ _ => rfl) (fun b z => tbY z) (.inr ⟨_, vs.toArray, _, hk, rfl, rfl, rfl, sz, by simpa using rv⟩) (fun b u z => ?_) (fun b z => ?_) fun _ z => absurd (tbN aT) z
    · by_cases z : b ∈ tabA K
      · exact .inr (.inl ⟨z, tbY z⟩)
      · exact .inl (tbN z)
    · obtain ⟨z1, rfl⟩ := tb_of z
      exact tO b z1
    · cases q : tb b with
      | none => exact absurd q z
      | some u => exact .inr (tb_of q).1
  | none =>
    let ob : Obj := { cls := .type "list", data := .seq vs.toArray }
    let sc : Hp := fun b => if b = a then some (HO.frz ob (.lst (ns.map V.int))) else none
    have scY : sc a = some (HO.frz ob (.lst (ns.map V.int))) := if_pos rfl
    have scN : ∀ {b}, b ≠ a → sc b = none := fun h => if_neg h
    have at_a : ∀ {b : Addr} {u : HO}, sc b = some u → b = a ∧ u = .frz ob (.lst (ns.map V.int)) := fun {b u} z => by
      by_cases h : b = a
      · rw [h, scY] at z
        exact ⟨h, (Option.some.inj z).symm⟩
      · rw [scN h] at z
        cases z
    have ne : ∀ {b}, b ∈ tabA K → b ≠ a := fun {b} z e => aT (by rw [← e]; exact z)
    let H : Hp := fun b => if b ∈ tabA K then some (.tbl #[]) else sc b
    have HY : ∀ {b}, b ∈ tabA K → H b = some (.tbl #[]) := fun h => if_pos h
    have HN : ∀ {b}, b ∉ tabA K → H b = sc b := fun h => if_neg h
    refine end_at (F := sc) (H := H) KX hns hb hbb hlim hg ha hr T Fu hbind hsp (fun b => ?_) (fun b u z => ?_) (fun b z => scN (ne z)) (fun b z => HY z) (.inl (.inr ⟨ob, scY⟩)) (fun b u z => ?_) (fun b z => ?_) fun _ _ => hk
    · by_cases z : b ∈ tabA K
      · exact .inr (.inl ⟨z, HY z⟩)
      · rw [HN z]
        by_cases h : b = a
        · exact .inr (.inr ⟨ob, _, by rw [h]; exact scY⟩)
        · exact .inl (scN h)
    · obtain ⟨rfl, rfl⟩ := at_a z
      rw [HN aT]
      exact z
    · by_cases z1 : b ∈ tabA K
      · rw [HY z1] at z
        cases z
        exact tO b z1
      · rw [HN z1] at z
        obtain ⟨rfl, rfl⟩ := at_a z
        exact ⟨ha, by rw [List.length_map]; exact hl, vs, _, rv, ha⟩
    · by_cases z1 : b ∈ tabA K
      · exact .inr z1
      · rw [HN z1] at z
        exact .inl (Classical.byContradiction fun h => z (scN h))
end
/-- the maker's table as the head leaves it -/
def TbH (K : Fg) (h : Heap) : Prop := ∀ x c P, x ∈ LAM → PySem.W.tabIn K x = some (c, P) → (PySem.W.CodeHd h c P ∧ h.get? P = some (PySem.W.tabObj #[])) ∧ K.lookup P = none
theorem tbH_no {K : Fg} {h : Heap} (e : LAM = []) : TbH K h := fun x c P e1 => by rw [e] at e1; cases e1
theorem end_of {l : PySem.W.OpenLaw} {n k : Nat} {q : Program} {loose : List Str} {XP : (Str → Option Value) → Heap → Prop} {YP : World → Heap → Prop} {d : DefRec} {K : Params → PySem.W.Frag} {fs : FSp} {x : Str}
    (hn : l.most = some n) (hn2 : n ≤ sizeLine) (hdf : d.params.defaults = []) (hr : Room k callerA) (hY : ∀ (w : World) (h : Heap), YP w h → (K w.params).In h)
    (Fu : ∀ (w : World) (mg : Str → Option Value) (fa : Addr) (h : Heap), YP w h → (K w.params).In h → h.Ns mainGlobals mg → mg d.name = some (.ref fa) →
      ∃ fd : FuncData, (∀ (s : Shared) (u : Value), BindsTo s fd ⟨[u], []⟩ [(x, u)]) ∧ TbH (K w.params) h ∧ ∀ base : Heap, (K w.params).In base → base.Ns mainGlobals mg → TbB (K w.params) mg base → Fn l.prog w (K w.params) mg base CX0 k fa fd [x] (lift (K w.params) 1 fs))
    (hsp : ∀ ns : List Int, ns.length ≤ n → fs [.scr ns] none fun r _ => r = .val (.bool true)) : PySem.W.WalkO q loose XP YP l.row.toRowW d [] (fun f vs => PySem.call f vs) := by
  refine Att.attach_call hn hdf fun w s₀ s₁ mg mb fa o pm cd doc a vs ns G Y ho hd hcd hmg hobj hints hlen hg => ?_
  obtain ⟨fd, hb, hT, hF⟩ := Fu w mg fa _ Y (hY w _ Y) G.T.g hmg
  exact end_call (hY w _ Y) G.T.g G.T.b G.T.builtins G.T.nolimit hg hobj hints (Nat.le_trans hlen hn2) hr ⟨fun x c P e1 e2 => (hT x c P e1 e2).1, fun x c P e1 e2 => (hT x c P e1 e2).2, G.T.bmain⟩ hF hb (hsp ns hlen)
end Z
namespace Z
open L2 PySem PySem.Spec PyProof.Rows
open Evl (Ex ex_l ex_t ex_rd fresh_back)
variable {Wx : WX}
def SrcD (ds : List Da) (n : Nat) : Prop := ∃ x y z : Int, ds = [.int x, .int y, .int z] ∧ 0 ≤ x ∧ x < 2 ^ 1000 ∧ 0 ≤ y ∧ y < modS ∧ 0 ≤ z ∧ z + n ≤ 2 ^ 40
def noSrc : Option Sv → Option Sv
  | some .src => none
  | some (.mem _ _ _) => none
  | x => x
/-- f(a new source, constants ..) -/
def dCallS (np n : Nat) (fs : FSp) (tl : DL) (rs : List Rv) : DE := fun g Q => tl g fun ds g1 => SrcD ds n ∧ rs.length + 1 = np ∧ fs (.src :: rs) (some n) fun r _ => Q (rrv r) g1
section
variable {K : Fg} {c : Con} {g : Gs} {σ : L2.St} {H F H' F' : Hp} {tv : List V} {tr : List Rv} {a : Addr}
theorem Rps.three {xs : List V} {x y z : Int} (h : Rps K F xs [.int x, .int y, .int z]) : xs = [.int x, .int y, .int z] := by
  cases h with
  | cons h1 h =>
    cases h with
    | cons h2 h =>
      cases h with
      | cons h3 h =>
        cases h
        cases h1
        cases h2
        cases h3
        rfl
theorem SrcD.at {ds : List Da} {n : Nat} (h : SrcD ds n) {o : Addr} {xs : List V} (hH : H o = some (.lst xs)) (m : Rps K F xs ds) : SrcAt H o n := by
  obtain ⟨x, y, z, rfl, h⟩ := h
  rw [m.three] at hH
  exact ⟨x, y, z, hH, h⟩
/-- behind a call that had a source of its own -/
theorem Sta.after2 (s : Sta K c g σ H tv tr F a) {v u : V} {r : Rr} {ds : List Da} {n : Nat} {fu' : Option Nat} {o : Addr} (h : NewL K c g σ H F a (.ref o) ds) (ou : Out K F H o (some n) fu' F' H' u r) : Sta K c g σ H' tv tr F' a := by
  obtain ⟨o', xs, eo, q2, q3, q4, q5, q6, q7⟩ := h.ex
  cases eo
  have keepN : ∀ b x, b ≠ o → NT x → H b = some x → H' b = some x := fun b x hb hn e => ou.keep b x (fun _ => hb) hn e
  have oldF : ∀ b, H b ≠ none → F b = none → F' b = none := fun b h1 h2 => by
    cases q : F' b with
    | none => rfl
    | some u =>
      rcases ou.new b (ne_none q) with z | z
      · exact absurd h2 z
      · exact absurd z h1
  refine ⟨s.e0.trans ou.f, ou.s, fun b x z1 hn z2 => keepN b x (fun z => by rw [z, q3] at z2; cases z2) hn (s.keep b x z1 hn z2), fun b q => ?_, s.ex, s.ow, fun m hm => ?_, s.tmp.up ou.f, s.len, fun j sv hj => ?_, s.dis, ou.tk, s.tab.trans ou.tab⟩
  · rcases ou.new b q with z | z
    · exact s.new b z
    · exact .inr (s.fresh z)
  · obtain ⟨z1, z2, x, y, z, e, z3⟩ := s.src m hm
    exact ⟨oldF a (ne_none e) z1, z2, x, y, z, keepN a _ (fun w => q6 (ne_none hm) w.symm) (fun _ z => by cases z) e, z3⟩
  · obtain ⟨w, h1, h2⟩ := s.slot j sv hj
    refine ⟨w, h1, ?_⟩
    cases sv with
    | val d => exact Rp.up h2 ou.f
    | src => exact h2
    | scr ns => obtain ⟨b, z1, z2⟩ := h2; exact ⟨b, z1, ex_l ou.f z2⟩
    | ob k => exact ObOk.up ou.f h2
    | mem bm hs gd =>
      obtain ⟨z1, z2, z3, z4, z5, z6⟩ := h2
      exact ⟨z1, z2, z3, z6.no z4 ou.new, z5, z6.keep ou.f fun u n e => keepN a u (z6.ne q4) n e⟩
    | own es =>
      obtain ⟨p, ys, r1, r2, r3, r4, r5, r6⟩ := h2
      exact ⟨p, ys, r1, oldF p (ne_none r4) r2, r3, keepN p _ (fun z => q7 j es hj (by rw [h1, r1, z])) (fun _ z => by cases z) r4, r5.up ou.f, r6⟩
end
section
variable {X : Cx} {e : Expr} {tl : DL} {pos : Pos}
variable {CX : CXT} {k : Nat} {f : Addr} {fd : FuncData} {ps : List Str} {fs : FSp} {x : Str} {p : Pos} {es : List Expr} {np : Nat} {E : XK} {vs : List V} {rs : List Rv}
theorem e_callS (n : Nat) (G : Fn X.prog X.w X.K X.mg X.base CX k f fd ps (lift X.K np fs)) (hr : Room k X.A) (hgd : X.A.guards = some []) (hg : Gl X x) (hm : X.mg x = some (.ref f)) (hk : PySem.W.keepIn X.K (.ref f) = true) (hb : Binds X.K fd ps []) (hx : Passes CX X E)
    (he : PE X e (upL X.K tl)) (hes : PA X es fun _ H Q => Q vs H) (hvs : ∀ F a fu, Tm X.K F a fu vs rs) (hdb : (x == ("__debug__" : Str)) = false := by decide) (hs : starEach (e :: es) X.env = (false, eval e X.env) :: starEach es X.env := by rfl)
    (hpl : (backTo pos (starEach es X.env)).any (·.1) = false := by rfl) : PE X (.Call (.Name x p) (e :: es) [] pos) (up X.K (dCallS np n fs tl rs)) := pe_to (pe_fn G hr hgd hg hm hk hb hx (pa_cons he hes hs) hdb hs hpl) fun σ H Q q => by
  obtain ⟨c, g, tv, tr, F, a, post, s, t, k⟩ := q
  refine ⟨c, g, tv, tr, F, a, _, s, t, fun ds g1 v H1 F1 a1 t1 s1 n1 => ?_⟩
  obtain ⟨o, xs, rfl, q2, q3, q4, q5, q6, q7⟩ := n1.ex
  refine ⟨F1, o, .src :: rs, some n, _, s1.eh, .cons ⟨rfl, fun z => nomatch z⟩ (hvs F1 o _), ?_, fun m hm => ?_, s1.tabk, t1.2.2, fun r fu' v H' F' hp ou => ?_⟩
  · have := (hvs F1 o none).len
    rw [List.length_cons, this]; exact t1.2.1
  · cases hm
    exact ⟨q2, t1.1.at q4 q5⟩
  · have s2 := s1.after2 (v := v) n1 ou
    cases r with
    | val d => exact k _ _ v H' F' a1 hp (s2.push (r := .val d) ou.rep)
    | exc _ _ => exact ou.rep.elim
    | own es =>
      obtain ⟨F'', s4⟩ := s2.still (NewL.of s1 rfl id ou.rep)
      exact k _ _ v H' F'' a1 hp s4
theorem as_nil : PA X [] fun _ H Q => Q [] H := pa_nil
end
section
variable {X : Cx} {x : Str} {p pos : Pos} {e e2 : Expr} {tr : DA}
theorem e_len (hg : Gl X "len") (hm : X.mg "len" = none) (ha : PA X [e] (upA X.K tr)) (he : starEach [e] X.env = (false, eval e X.env) :: starEach [] X.env := by rfl) : PE X (.Call (.Name "len" p) [e] [] pos) (up X.K (dCB cLen tr)) := e_callB call_len ok_len hg hm PySem.boot_len ha (by decide) (by decide) he rfl
theorem e_abs (hg : Gl X "abs") (hm : X.mg "abs" = none) (ha : PA X [e] (upA X.K tr)) (he : starEach [e] X.env = (false, eval e X.env) :: starEach [] X.env := by rfl) : PE X (.Call (.Name "abs" p) [e] [] pos) (up X.K (dCB (cInt1 fun i => if i < 0 then -i else i) tr)) := e_callB call_abs ok_int1 hg hm (by decide +kernel) ha (by decide) (by decide) he rfl
theorem e_max (hc : X.calm = true) (hg : Gl X "max") (hm : X.mg "max" = none) (ha : PA X [e, e2] (upA X.K tr)) (he : starEach [e, e2] X.env = (false, eval e X.env) :: starEach [e2] X.env := by rfl) (hpl : (backTo pos (starEach [e2] X.env)).any (·.1) = false := by rfl) :
    PE X (.Call (.Name "max" p) [e, e2] [] pos) (up X.K (dCB (cInt2 fun i j => if j > i then j else i) tr)) := e_callB (call_max2 hc) ok_int2 hg hm (by decide +kernel) ha (by decide) (by decide) he hpl
theorem e_min (hc : X.calm = true) (hg : Gl X "min") (hm : X.mg "min" = none) (ha : PA X [e, e2] (upA X.K tr)) (he : starEach [e, e2] X.env = (false, eval e X.env) :: starEach [e2] X.env := by rfl) (hpl : (backTo pos (starEach [e2] X.env)).any (·.1) = false := by rfl) :
    PE X (.Call (.Name "min" p) [e, e2] [] pos) (up X.K (dCB (cInt2 fun i j => if j < i then j else i) tr)) := e_callB (call_min2 hc) ok_int2 hg hm (by decide +kernel) ha (by decide) (by decide) he hpl
theorem e_all (hc : X.calm = true) (hg : Gl X "all") (hm : X.mg "all" = none) (ha : PA X [e] (upA X.K tr)) (he : starEach [e] X.env = (false, eval e X.env) :: starEach [] X.env := by rfl) : PE X (.Call (.Name "all" p) [e] [] pos) (up X.K (dCB cAll tr)) := e_callB (cr_all hc) ok_all hg hm (by decide +kernel) ha (by decide) (by decide) he rfl
theorem e_tuple (hg : Gl X "tuple") (hm : X.mg "tuple" = none) (ha : PA X [e] (upA X.K tr)) (he : starEach [e] X.env = (false, eval e X.env) :: starEach [] X.env := by rfl) : PE X (.Call (.Name "tuple" p) [e] [] pos) (up X.K (dCB cTuple tr)) := e_callTy call_tuple_of ok_tuple hg hm (by decide +kernel) ha (by decide) (by decide) he rfl
theorem e_glob {v : V} {u : Value} {d : Da} (hg : Gl X x) (hm : X.mg x = some u) (r : RelV v u) (hr : ∀ F, Rp X.K F v d) (hd : (x == ("__debug__" : Str)) = false := by decide) : PE X (.Name x pos) (up X.K (dC d)) := e_c (pe_glob hg hm r hd) hr
theorem c_ty {T : String} (hg : Gl X x) (hm : X.mg x = none) (hv : bootBuiltins x = some (.type T)) (hn : x ≠ "__name__" := by decide) (hd : (x == ("__debug__" : Str)) = false := by decide) : PE X (.Name x pos) (tC (.ty T)) := pe_bltn hg hm hv rfl hn hd
end
end Z
namespace Z
open L2 PySem PySem.Spec PyProof.Rows
open Evl (Ex ex_l ex_t ex_rd fresh_back)
abbrev oSub : BinF := fI0 fun i j => .int (i - j)
abbrev oAddI : BinF := fI0 fun i j => .int (i + j)
abbrev oMul : BinF := fI CMulX fun i j => .int (i * j)
abbrev oDiv : BinF := fI CDivW fun i j => .int (i / j)
abbrev oMod : BinF := fI (fun _ j => 0 < j) fun i j => .int (i % j)
abbrev oShl : BinF := fI CShl fun i j => .int (i * 2 ^ j.toNat)
abbrev oPow : BinF := fI CPowX fun i j => .int (i ^ j.toNat)
abbrev oLt : BinF := fI0 fun i j => .bool (decide (i < j))
abbrev oLe : BinF := fI0 fun i j => .bool (decide (i ≤ j))
abbrev oGt : BinF := fI0 fun i j => .bool (decide (j < i))
abbrev oGe : BinF := fI0 fun i j => .bool (decide (j ≤ i))
abbrev oAbs : CF := cInt1 fun i => if i < 0 then -i else i
abbrev oMax : CF := cInt2 fun i j => if j > i then j else i
abbrev oMin : CF := cInt2 fun i j => if j < i then j else i
theorem test_core {K : Fg} {t : DE} {σ : L2.St} {H : Hp} {Q : Bool → Hp → Prop} (q : upT K (dTest t) σ H Q) : up K t σ H fun x H1 => ∃ k, x = .bl k ∧ Q k H1 := by
  obtain ⟨c, g, tv, tr, F, ad, post, s, t1, k⟩ := q
  refine ⟨c, g, tv, tr, F, ad, _, s, t1, fun r g1 v1 H1 F1 a1 h1 s1 => ?_⟩
  cases r with
  | val d =>
    cases d with
    | bool b => exact ⟨b, s1.top.bl rfl, k b g1 H1 F1 a1 h1 s1.pop1⟩
    | _ => exact h1.elim
  | _ => exact h1.elim
section
variable {X : Cx} {a b c : Expr} {ta tb tc : DE} {pos : Pos}
theorem t_cmp {op : CmpOp} {r : R2} {f : BinF} (ho : OpR X (compareOp op) r) (hf : BinOk X.K r f) (ha : PE X a (up X.K ta)) (hb : PE X b (up X.K tb)) (hm : behindInMarks op b = false) : PT X (.Compare a [op] [b] pos) (upT X.K (dTest (dBin f ta tb))) :=
  pt_to (pt_cmpR ho ha hb hm) fun σ H Q q => bin_core hf σ H _ (test_core q)
theorem t_lt (ha : PE X a (up X.K ta)) (hb : PE X b (up X.K tb)) : PT X (.Compare a [.Lt] [b] pos) (upT X.K (dTest (dBin oLt ta tb))) := t_cmp op_lt ok_I0b ha hb (nomark _)
theorem t_le (ha : PE X a (up X.K ta)) (hb : PE X b (up X.K tb)) : PT X (.Compare a [.LtE] [b] pos) (upT X.K (dTest (dBin oLe ta tb))) := t_cmp op_le ok_I0b ha hb (nomark _)
theorem t_gt (ha : PE X a (up X.K ta)) (hb : PE X b (up X.K tb)) : PT X (.Compare a [.Gt] [b] pos) (upT X.K (dTest (dBin oGt ta tb))) := t_cmp op_gt ok_I0b ha hb (nomark _)
theorem t_ge (ha : PE X a (up X.K ta)) (hb : PE X b (up X.K tb)) : PT X (.Compare a [.GtE] [b] pos) (upT X.K (dTest (dBin oGe ta tb))) := t_cmp op_ge ok_I0b ha hb (nomark _)
theorem t_eq (hu : X.A.units + 64 < cLine) (ha : PE X a (up X.K ta)) (hb : PE X b (up X.K tb)) : PT X (.Compare a [.Eq] [b] pos) (upT X.K (dTest (dBin fEq ta tb))) :=
  t_cmp (op_eqD hu) (fun F H x y d e post Q hx r1 r2 hf k => ⟨d, e, r1.dp hx d x (shaped_lay hf.1), r2.dp hx e y (shaped_lay hf.2.1), hf.1, hf.2.1, k _ _ H F hf.2.2 (Gr.refl hx) (.bl _)⟩) ha hb (nomark _)
theorem t_ne (hu : X.A.units + 64 < cLine) (ha : PE X a (up X.K ta)) (hb : PE X b (up X.K tb)) : PT X (.Compare a [.NotEq] [b] pos) (upT X.K (dTest (dBin fNe ta tb))) :=
  t_cmp (op_neD hu) (fun F H x y d e post Q hx r1 r2 hf k => ⟨d, e, r1.dp hx d x (shaped_lay hf.1), r2.dp hx e y (shaped_lay hf.2.1), hf.1, hf.2.1, k _ _ H F hf.2.2 (Gr.refl hx) (.bl _)⟩) ha hb (nomark _)
theorem t_in (ha : PE X a (up X.K ta)) (hb : PE X b (up X.K tb)) (hm : behindInMarks .In b = false := by rfl) : PT X (.Compare a [.In] [b] pos) (upT X.K (dTest (dBin (fIn false) ta tb))) := t_cmp op_in_seq ok_in ha hb hm
theorem isn_core {neg : Bool} {σ : L2.St} {H : Hp} {Q : VK} (q : up X.K (dIsN neg ta) σ H Q) : up X.K ta σ H fun x H1 => Q (.bl (if neg then !decide (x = .non) else decide (x = .non))) H1 := by
  obtain ⟨c, g, tv, tr, F, ad, post, s, t1, k⟩ := q
  refine ⟨c, g, tv, tr, F, ad, _, s, t1, fun r g1 v1 H1 F1 a1 h1 s1 => ?_⟩
  cases r with
  | val d =>
    have hr : Rp X.K F1 v1 d := s1.top
    rw [non_v hr]
    exact k _ g1 _ H1 F1 a1 h1 (s1.pop1.push (r := .val (.bool _)) (Rp.bl _))
  | _ => exact h1.elim
theorem t_isN {j : Nat} {pos' : Pos} (ha : PE X a (up X.K ta)) : PT X (.Compare a [.Is] [.Constant .none j pos'] pos) (upT X.K (dTest (dIsN false ta))) := pt_to (pt_cmpR op_isN ha pe_non (nomark _)) fun σ H Q q => by
  obtain ⟨c, g, tv, tr, F, ad, post, s, t1, k⟩ := isn_core (test_core q)
  exact ⟨c, g, tv, tr, F, ad, post, s, t1, fun r g1 v1 H1 F1 a1 h1 s1 => ⟨rfl, k r g1 v1 H1 F1 a1 h1 s1⟩⟩
theorem t_notN {j : Nat} {pos' : Pos} (ha : PE X a (up X.K ta)) : PT X (.Compare a [.IsNot] [.Constant .none j pos'] pos) (upT X.K (dTest (dIsN true ta))) := pt_to (pt_cmpR op_notN ha pe_non (nomark _)) fun σ H Q q => by
  obtain ⟨c, g, tv, tr, F, ad, post, s, t1, k⟩ := isn_core (test_core q)
  exact ⟨c, g, tv, tr, F, ad, post, s, t1, fun r g1 v1 H1 F1 a1 h1 s1 => ⟨rfl, k r g1 v1 H1 F1 a1 h1 s1⟩⟩
end
/-- a pair of ints -/
abbrev num (n d : Int) : Da := .tuple [.int n, .int d]
theorem atI_0 {α : Type} {x0 : α} {xs : List α} : atI (x0 :: xs) 0 = some x0 := by
  unfold atI ixN
  rw [if_pos (by decide), if_pos (by simp only [List.length_cons]; omega)]
  rfl
theorem atI_1 {α : Type} {x0 x1 : α} {xs : List α} : atI (x0 :: x1 :: xs) 1 = some x1 := by
  unfold atI ixN
  rw [if_pos (by decide), if_pos (by simp only [List.length_cons]; omega)]
  rfl
theorem atI_2 {α : Type} {x0 x1 x2 : α} {xs : List α} : atI (x0 :: x1 :: x2 :: xs) 2 = some x2 := by
  unfold atI ixN
  rw [if_pos (by decide), if_pos (by simp only [List.length_cons]; omega)]
  rfl
theorem atI_3 {α : Type} {x0 x1 x2 x3 : α} {xs : List α} : atI (x0 :: x1 :: x2 :: x3 :: xs) 3 = some x3 := by
  unfold atI ixN
  rw [if_pos (by decide), if_pos (by simp only [List.length_cons]; omega)]
  rfl
theorem atI_4 {α : Type} {x0 x1 x2 x3 x4 : α} {xs : List α} : atI (x0 :: x1 :: x2 :: x3 :: x4 :: xs) 4 = some x4 := by
  unfold atI ixN
  rw [if_pos (by decide), if_pos (by simp only [List.length_cons]; omega)]
  rfl
theorem atI_5 {α : Type} {x0 x1 x2 x3 x4 x5 : α} {xs : List α} : atI (x0 :: x1 :: x2 :: x3 :: x4 :: x5 :: xs) 5 = some x5 := by
  unfold atI ixN
  rw [if_pos (by decide), if_pos (by simp only [List.length_cons]; omega)]
  rfl
theorem eqv_ii (i j : Int) : (PyData.int i).eqv (.int j) = decide (i = j) := by
  simp only [PyData.eqv]
  rw [Bool.eq_iff_iff]
  simp
theorem eqv_ss (x y : Str) : (PyData.str x).eqv (.str y) = decide (x = y) := by
  simp only [PyData.eqv]
  rw [Bool.eq_iff_iff]
  simp
theorem eqv_num (a b c d : Int) : (PyData.tuple [.int a, .int b]).eqv (.tuple [.int c, .int d]) = (decide (a = c) && decide (b = d)) := by
  simp only [PyData.eqv, PyData.eqvAll]
  rw [Bool.eq_iff_iff]
  simp
theorem shaped_int (i : Int) : SeqAt.shaped (.int i) = true := rfl
theorem shaped_num (i j : Int) : SeqAt.shaped (.tuple [.int i, .int j]) = true := rfl
theorem shaped_none : SeqAt.shaped .none = true := rfl
theorem flat_str (x : Str) : flatD (.str x) = true := rfl
theorem flat_int (x : Int) : flatD (.int x) = true := rfl
theorem flat_none : flatD .none = true := rfl
/-- less than n bits -/
structure Bn (n : Nat) (i : Int) : Prop where
  lt : i.natAbs < 2 ^ n
theorem bits_lt {i : Int} {n : Nat} (h : Bn n i) : Builtin.Int.intBits i ≤ n := by
  unfold Builtin.Int.intBits
  split
  · exact Nat.zero_le _
  · rename_i h0
    have h1 : i ≠ 0 := fun z => h0 (by rw [z]; rfl)
    have : i.natAbs.log2 < n := (Nat.log2_lt (by omega)).mpr h.lt
    omega
theorem Bn.mono {n m : Nat} {i : Int} (h : Bn n i) (hm : n ≤ m) : Bn m i := ⟨Nat.lt_of_lt_of_le h.lt (Nat.pow_le_pow_right (by decide) hm)⟩
theorem Bn.le {n : Nat} {i j : Int} (h : Bn n j) (h0 : 0 ≤ i) (h1 : i ≤ j) : Bn n i := ⟨by have := h.lt; omega⟩
theorem Bn.mul {a b : Nat} {i j : Int} (ha : Bn a i) (hb : Bn b j) : Bn (a + b) (i * j) := ⟨by
  rw [Int.natAbs_mul, Nat.pow_add]
  exact Nat.mul_lt_mul'' ha.lt hb.lt⟩
theorem Bn.add {a : Nat} {i j : Int} (ha : Bn a i) (hb : Bn a j) : Bn (a + 1) (i + j) := ⟨by
  have h1 := ha.lt
  have h2 := hb.lt
  have h3 := Int.natAbs_add_le i j
  rw [Nat.pow_succ]
  omega⟩
theorem Bn.pow2 {n m : Nat} (h : n < m) : Bn m ((2 : Int) ^ n) := ⟨by
  rw [Int.natAbs_pow]
  exact Nat.pow_lt_pow_right (by decide) h⟩
theorem Bn.small {m : Nat} {i : Int} (h1 : -18446744073709551616 < i) (h2 : i < 18446744073709551616) (hm : 64 ≤ m) : Bn m i := by
  have e : (2 : Nat) ^ 64 = 18446744073709551616 := by decide
  exact Bn.mono (n := 64) ⟨by rw [e]; omega⟩ hm
theorem Bn.modR {n : Nat} {i j : Int} (h : Bn n j) (hj : 0 < j) : Bn n (i % j) := h.le (Int.emod_nonneg _ (by omega)) (Int.le_of_lt (Int.emod_lt_of_pos _ hj))
theorem mulX {i j : Int} (a b : Nat) (ha : Bn a i) (hb : Bn b j) (h : a + b ≤ 134217728) : CMulX i j := by
  have h1 := bits_lt ha
  have h2 := bits_lt hb
  unfold CMulX
  omega
theorem shlX {i j : Int} (a : Nat) (ha : Bn a i) (h0 : 0 ≤ j) (h : (a : Int) + j ≤ 134217728) : CShl i j := by
  have h1 := bits_lt ha
  refine ⟨h0, ?_⟩
  have e : (2 : Int) ^ 27 = 134217728 := by decide
  rw [e]
  omega
theorem divX {i j : Int} (b : Nat) (h0 : 0 < j) (hb : Bn b j) (h9 : b ≤ 9000) : CDivW i j := wide_div h0 (Bn.mono hb h9).lt (by decide) (Nat.le_refl _)
theorem pow2_pos (n : Nat) : (0 : Int) < 2 ^ n := Int.pow_pos (by decide)
theorem shlB {i : Int} {a n : Nat} (ha : Bn a i) : Bn (a + n + 1) (i * 2 ^ n) := by
  have := ha.mul (Bn.pow2 (n := n) (m := n + 1) (by omega))
  exact this.mono (by omega)
end Z
namespace Z
open L2 PySem PySem.Spec PyProof.Rows
/-- by the number of turns gone -/
theorem forD_ix {t : DG} {tb : DS} {d : DEnds} (I : Nat → Gs → Prop) : ∀ {ds : List Da} {g : Gs} {k : Nat}, (∀ (i : Nat) x, ds[i]? = some x → ∀ g, I (k + i) g → ∀ N : Gs → Prop, (∀ g', I (k + i + 1) g' → N g') → t (.val x) g fun g1 => tb { d with nx := N, ct := N, bk := d.nx } g1) →
    (∀ g, I (k + ds.length) g → d.nx g) → I k g → forD t tb ds d g
  | [], g, k, _, hd, h => hd g h
  | x :: xs, g, k, hs, hd, h => hs 0 x rfl g h (forD t tb xs d) fun g' h' => forD_ix I (k := k + 1) (fun i y hy g2 h2 N hN => hs (i + 1) y (by simpa using hy) g2 (by rw [show k + (i + 1) = k + 1 + i by omega]; exact h2) N (fun g3 h3 => hN g3 (by rw [show k + 1 + i + 1 = k + (i + 1) + 1 by omega]; exact h3)))
      (fun g2 h2 => hd g2 (by rw [List.length_cons, show k + (xs.length + 1) = k + 1 + xs.length by omega]; exact h2)) h'
theorem fuN_self (fu : Option Nat) : fuN fu fu = fu := by cases fu <;> rfl
/-- a comprehension whose element is a plain function of the item -/
theorem lc_map {sl : List (Option Sv)} {i : Nat} {te : DE} (f : Da → Da) {Q : List Da → Option Nat → Prop} {fu : Option Nat} : ∀ {ds acc : List Da},
    (∀ x ∈ ds, ∀ R : Rv → Gs → Prop, (∀ g3 : Gs, g3.fu = fu → R (.val (f x)) g3) → te (Gs.set ⟨sl, fu, false⟩ i (.val x)) R) → acc.length + ds.length ≤ 1000000 → Q (acc ++ ds.map f) fu → lcD sl (dN i) dYes te ds acc fu Q
  | [], acc, _, _, h => by rw [List.map_nil, List.append_nil] at h; exact h
  | x :: xs, acc, hs, hl, h => by
    refine ⟨fun _ => hs x List.mem_cons_self _ fun g3 e => ⟨?_, ?_⟩, fun z => nomatch z⟩
    · rw [List.length_cons] at hl; omega
    · rw [e, fuN_self]
      refine lc_map f (fun y hy => hs y (List.mem_cons_of_mem _ hy)) ?_ ?_
      · rw [List.length_cons] at hl
        rw [List.length_append, List.length_cons, List.length_nil]
        omega
      · rw [List.append_assoc]
        exact h
theorem gcd_step {a b : Int} (ha : 0 ≤ a) (hb : 0 < b) : Int.gcd b (a % b) = Int.gcd a b := by
  obtain ⟨n, rfl⟩ := Int.eq_ofNat_of_zero_le ha
  obtain ⟨m, rfl⟩ := Int.eq_ofNat_of_zero_le (Int.le_of_lt hb)
  rw [← Int.natCast_emod, Int.gcd_natCast_natCast, Int.gcd_natCast_natCast, Nat.gcd_comm n m, Nat.gcd_rec m n, Nat.gcd_comm]
theorem gcd_pos {a b : Int} (hb : 0 < b) : 0 < (Int.gcd a b : Int) := by
  have := Int.gcd_pos_of_ne_zero_right a (show b ≠ 0 by omega)
  omega
theorem gcd_le {a b : Int} (hb : 0 < b) : (Int.gcd a b : Int) ≤ b := by
  have h : (Int.gcd a b : Int) ∣ b := Int.gcd_dvd_right a b
  exact Int.le_of_dvd hb h
def low (n d : Int) : Int × Int := (n / Int.gcd n d, d / Int.gcd n d)
def lowD (n d : Int) : Da := num (low n d).1 (low n d).2
def bl (i : Int) : Int := (Builtin.Int.intBits i : Nat)
/-- times 2 ** f, as two ints -/
def scI (n d f : Int) : Int × Int := (n * 2 ^ f.toNat, d * 2 ^ (-f).toNat)
def powI (k e : Int) : Int × Int := low (scI k 1 e).1 (scI k 1 e).2
def cellI (n d w : Int) : Int × Int :=
  if 2 ^ w.toNat ≤ (scI n d (0 - (bl n - bl d - w))).1 / (scI n d (0 - (bl n - bl d - w))).2 then ((scI n d (0 - (bl n - bl d - w + 1))).1 / (scI n d (0 - (bl n - bl d - w + 1))).2, bl n - bl d - w + 1)
  else ((scI n d (0 - (bl n - bl d - w))).1 / (scI n d (0 - (bl n - bl d - w))).2, bl n - bl d - w)
def posI (n d w : Int) : Int × Int :=
  low ((scI n d (0 - (cellI n d w).2)).1 - (cellI n d w).1 * (scI n d (0 - (cellI n d w).2)).2) (scI n d (0 - (cellI n d w).2)).2
/-- the six rules -/
inductive Ru where | dn | hd | he | hu | od | up
  deriving DecidableEq
def Ru.s : Ru → Str
  | .dn => "down"
  | .hd => "half_down"
  | .he => "half_even"
  | .hu => "half_up"
  | .od => "odd"
  | .up => "up"
theorem shaped_ru (r : Ru) : SeqAt.shaped (.str r.s) = true := by cases r <;> decide +kernel
def goesUp (k n d : Int) : Ru → Bool
  | .dn => false
  | .up => true
  | .od => decide (k % 2 = 0)
  | .hd => decide (d < 2 * n)
  | .hu => decide (d ≤ 2 * n)
  | .he => if 2 * n = d then decide (k % 2 = 1) else decide (d < 2 * n)
def endsI (n d w : Int) : (Int × Int) × (Int × Int) :=
  if (posI n d w).1 = 0 then ((n, d), (n, d)) else (powI (cellI n d w).1 (cellI n d w).2, powI ((cellI n d w).1 + 1) (cellI n d w).2)
def roundI (n d w : Int) (r : Ru) : Int × Int := if goesUp (cellI n d w).1 (posI n d w).1 (posI n d w).2 r then (endsI n d w).2 else (endsI n d w).1
abbrev nm (p : Int × Int) : Da := num p.1 p.2
end Z
namespace Z
open L2 PySem PySem.Spec PyProof.Rows
theorem bl_pos {n : Int} (h : 0 < n) : ∃ m : Nat, bl n = (m : Int) + 1 ∧ (2 : Int) ^ m ≤ n ∧ n < 2 ^ (m + 1) := by
  obtain ⟨k, rfl⟩ := Int.eq_ofNat_of_zero_le (Int.le_of_lt h)
  have hk : k ≠ 0 := by omega
  refine ⟨k.log2, ?_, ?_, ?_⟩
  · unfold bl Builtin.Int.intBits
    rw [if_neg (by simp; omega), Int.natAbs_natCast]
    omega
  · have := Nat.log2_self_le hk
    have e : ((2 ^ k.log2 : Nat) : Int) = (2 : Int) ^ k.log2 := by norm_cast
    omega
  · have := Nat.lt_log2_self (n := k)
    have e : ((2 ^ (k.log2 + 1) : Nat) : Int) = (2 : Int) ^ (k.log2 + 1) := by norm_cast
    omega
/-- the first guess: between 2 ^ (w - 1) and 2 ^ (w + 1) -/
theorem guess {n d w e : Int} (hn : 0 < n) (hd : 0 < d) (hw : 1 ≤ w) (he : e = bl n - bl d - w) :
    (scI n d (0 - e)).2 * 2 ^ (w - 1).toNat ≤ (scI n d (0 - e)).1 ∧ (scI n d (0 - e)).1 < (scI n d (0 - e)).2 * 2 ^ (w + 1).toNat := by
  obtain ⟨p, ep, p1, p2⟩ := bl_pos hn
  obtain ⟨q, eq, q1, q2⟩ := bl_pos hd
  obtain ⟨v, ev⟩ : ∃ v : Nat, w = (v : Int) + 1 := ⟨(w - 1).toNat, by omega⟩
  have e1 : (w - 1).toNat = v := by omega
  have e2 : (w + 1).toNat = v + 2 := by omega
  rw [e1, e2]
  unfold scI
  generalize hA : (0 - e).toNat = A
  generalize hB : (-(0 - e)).toNat = B
  have hAB : q + 1 + B + v = p + A := by omega
  show d * 2 ^ B * 2 ^ v ≤ n * 2 ^ A ∧ n * 2 ^ A < d * 2 ^ B * 2 ^ (v + 2)
  have h2A := pow2_pos A
  have h2B := pow2_pos B
  have h2v := pow2_pos v
  constructor
  · have s1 : d * 2 ^ B * 2 ^ v ≤ 2 ^ (q + 1) * 2 ^ B * 2 ^ v := Int.mul_le_mul_of_nonneg_right (Int.mul_le_mul_of_nonneg_right (Int.le_of_lt q2) (Int.le_of_lt h2B)) (Int.le_of_lt h2v)
    have s2 : (2 : Int) ^ (q + 1) * 2 ^ B * 2 ^ v = 2 ^ p * 2 ^ A := by rw [← Int.pow_add, ← Int.pow_add, ← Int.pow_add, hAB]
    have s3 : (2 : Int) ^ p * 2 ^ A ≤ n * 2 ^ A := Int.mul_le_mul_of_nonneg_right p1 (Int.le_of_lt h2A)
    omega
  · have s1 : n * 2 ^ A < 2 ^ (p + 1) * 2 ^ A := Int.mul_lt_mul_of_pos_right p2 h2A
    have s2 : (2 : Int) ^ (p + 1) * 2 ^ A = 2 ^ q * 2 ^ B * 2 ^ (v + 2) := by
      rw [← Int.pow_add, ← Int.pow_add, ← Int.pow_add]
      congr 1
      omega
    have s3 : (2 : Int) ^ q * 2 ^ B * 2 ^ (v + 2) ≤ d * 2 ^ B * 2 ^ (v + 2) := Int.mul_le_mul_of_nonneg_right (Int.mul_le_mul_of_nonneg_right q1 (Int.le_of_lt h2B)) (Int.le_of_lt (pow2_pos _))
    omega
theorem scI_pos {n d f : Int} (hn : 0 < n) (hd : 0 < d) : 0 < (scI n d f).1 ∧ 0 < (scI n d f).2 := ⟨Int.mul_pos hn (pow2_pos _), Int.mul_pos hd (pow2_pos _)⟩
/-- one exponent more: half of it -/
theorem scI_half (n d e : Int) : (scI n d (0 - (e + 1))).1 * (scI n d (0 - e)).2 * 2 = (scI n d (0 - e)).1 * (scI n d (0 - (e + 1))).2 := by
  unfold scI
  generalize hA : (0 - (e + 1)).toNat = A
  generalize hB : (-(0 - (e + 1))).toNat = B
  generalize hA' : (0 - e).toNat = A'
  generalize hB' : (-(0 - e)).toNat = B'
  have h : A + B' + 1 = A' + B := by omega
  show n * 2 ^ A * (d * 2 ^ B') * 2 = n * 2 ^ A' * (d * 2 ^ B)
  have s : (2 : Int) ^ A * 2 ^ B' * 2 = 2 ^ A' * 2 ^ B := by
    rw [← Int.pow_add, ← Int.pow_add, ← h, Int.pow_succ]
  calc n * 2 ^ A * (d * 2 ^ B') * 2 = n * d * (2 ^ A * 2 ^ B' * 2) := by grind
    _ = n * d * (2 ^ A' * 2 ^ B) := by rw [s]
    _ = n * 2 ^ A' * (d * 2 ^ B) := by grind
/-- the cell: its k has just w bits, and is the whole part -/
theorem cellI_spec {n d w : Int} (hn : 0 < n) (hd : 0 < d) (hw : 1 ≤ w) :
    (cellI n d w).1 = (scI n d (0 - (cellI n d w).2)).1 / (scI n d (0 - (cellI n d w).2)).2 ∧ 2 ^ (w - 1).toNat ≤ (cellI n d w).1 ∧ (cellI n d w).1 < 2 ^ w.toNat ∧ bl n - bl d - w ≤ (cellI n d w).2 ∧ (cellI n d w).2 ≤ bl n - bl d - w + 1 := by
  obtain ⟨g1, g2⟩ := guess hn hd hw rfl
  have ew : w.toNat = (w - 1).toNat + 1 := by omega
  have ew2 : (w + 1).toNat = w.toNat + 1 := by omega
  generalize he : bl n - bl d - w = e at g1 g2
  obtain ⟨a0, b0⟩ := scI_pos (f := 0 - e) hn hd
  obtain ⟨a1, b1⟩ := scI_pos (f := 0 - (e + 1)) hn hd
  by_cases hc : 2 ^ w.toNat ≤ (scI n d (0 - e)).1 / (scI n d (0 - e)).2
  · have ec : cellI n d w = ((scI n d (0 - (e + 1))).1 / (scI n d (0 - (e + 1))).2, e + 1) := by
      unfold cellI
      rw [he, if_pos hc]
    rw [ec]
    have hh := scI_half n d e
    have hc' := (Int.le_ediv_iff_mul_le b0).mp hc
    refine ⟨rfl, (Int.le_ediv_iff_mul_le b1).mpr ?_, (Int.ediv_lt_iff_lt_mul b1).mpr ?_, by omega, by omega⟩
    · apply Int.le_of_mul_le_mul_right (a := (scI n d (0 - e)).2 * 2) _ (by omega)
      rw [show (scI n d (0 - (e + 1))).1 * ((scI n d (0 - e)).2 * 2) = (scI n d (0 - e)).1 * (scI n d (0 - (e + 1))).2 by rw [← hh]; grind]
      have := Int.mul_le_mul_of_nonneg_right hc' (Int.le_of_lt b1)
      rw [ew, Int.pow_succ] at this
      grind
    · apply Int.lt_of_mul_lt_mul_right (a := (scI n d (0 - e)).2 * 2) _ (by omega)
      rw [show (scI n d (0 - (e + 1))).1 * ((scI n d (0 - e)).2 * 2) = (scI n d (0 - e)).1 * (scI n d (0 - (e + 1))).2 by rw [← hh]; grind]
      have := Int.mul_lt_mul_of_pos_right g2 b1
      rw [ew2, Int.pow_succ] at this
      grind
  · have ec : cellI n d w = ((scI n d (0 - e)).1 / (scI n d (0 - e)).2, e) := by
      unfold cellI
      rw [he, if_neg hc]
    rw [ec]
    exact ⟨rfl, (Int.le_ediv_iff_mul_le b0).mpr (by rw [Int.mul_comm]; exact g1), by omega, by omega, by omega⟩
end Z
namespace Z
open L2 PySem PySem.Spec PyProof.Rows
open Evl (Ex ex_l ex_t ex_rd fresh_back)
mutual
/-- at most so long is its text -/
def szD : Da → Nat
  | .none => 4
  | .bool _ => 5
  | .int _ => 1921
  | .str x => 10 * x.length + 2
  | .list xs => szAll xs + 3
  | .tuple xs => szAll xs + 3
  | .dict _ => 0
def szAll : List Da → Nat
  | [] => 0
  | x :: xs => szD x + 2 + szAll xs
end
theorem strOk_small {x : Str} (h : PyData.strOk x = true) : ∀ c ∈ x.cps.toList, c < 16 ^ 8 := fun c hc => by
  unfold PyData.strOk at h
  rw [Array.all_eq_true_iff_forall_mem] at h
  have h1 := h c (by simpa using hc)
  have h2 : c < 0x110000 := of_decide_eq_true h1
  exact Nat.lt_trans h2 (by decide)
mutual
theorem szD_ok : ∀ d : Da, d.canLay0 = true → d.showable = true → d.shown.length ≤ szD d
  | .none, _, _ => by decide +kernel
  | .bool true, _, _ => by decide +kernel
  | .bool false, _, _ => by decide +kernel
  | .int i, _, h => int_text_len_1921 (of_decide_eq_true (show decide (i.natAbs.log2 < 1920) = true from h))
  | .str x, h, _ => StrLaws.reprText_len x (strOk_small h)
  | .list xs, h, h' => by
    have h1 := szAll_ok xs (by simpa [PyData.canLay0] using h) (by simpa [PyData.showable] using h')
    have h2 := listText_len_le (PyData.shownAll xs)
    show (listText (PyData.shownAll xs)).length ≤ szAll xs + 3
    omega
  | .tuple xs, h, h' => by
    have h1 := szAll_ok xs (by simpa [PyData.canLay0] using h) (by simpa [PyData.showable] using h')
    have h2 := tupleText_len_le (PyData.shownAll xs)
    show (tupleText (PyData.shownAll xs)).length ≤ szAll xs + 3
    omega
  | .dict _, h, _ => by simp [PyData.canLay0] at h
theorem szAll_ok : ∀ xs : List Da, PyData.canLayAll0 xs = true → PyData.showableAll xs = true → ((PyData.shownAll xs).map (·.length)).sum + 2 * (PyData.shownAll xs).length ≤ szAll xs
  | [], _, _ => by simp [PyData.shownAll, szAll]
  | x :: xs, h, h' => by
    have q : x.canLay0 = true ∧ PyData.canLayAll0 xs = true := by simpa [PyData.canLayAll0] using h
    have q' : x.showable = true ∧ PyData.showableAll xs = true := by simpa [PyData.showableAll] using h'
    have h1 := szD_ok x q.1 q'.1
    have h2 := szAll_ok xs q.2 q'.2
    simp only [PyData.shownAll, szAll, List.map_cons, List.sum_cons, List.length_cons]
    omega
end
/-- may be shown -/
def Sh (d : Da) : Prop := d.canLay0 = true ∧ d.showable = true ∧ d.depth ≤ 60 ∧ szD d ≤ 16000000
theorem Sh.len {d : Da} (h : Sh d) : d.shown.length ≤ sizeLine := Nat.le_trans (szD_ok d h.1 h.2.1) (Nat.le_trans h.2.2.2 (by decide))
def pick {α : Type} (perm : List Nat) (ws : List α) : List α := perm.filterMap fun i => ws[i]?
end Z
namespace Z
open L2 PySem PySem.Spec PyProof.Rows
open Evl (Ex ex_l ex_t ex_rd fresh_back)
def Cps (x : Str) : Prop := ∀ c ∈ x.cps.toList, c < 0x110000
theorem cps_ok {x : Str} : PyData.strOk x = true ↔ Cps x := by
  unfold PyData.strOk Cps
  rw [Array.all_eq_true_iff_forall_mem]
  simp
theorem cps_of (s : String) : Cps (Str.ofString s) := by
  rw [Str.ofString_eq_toList]
  intro c hc
  simp only [List.mem_map] at hc
  obtain ⟨ch, _, rfl⟩ := hc
  have := ch.valid
  show ch.val.toNat < _
  rcases this with h | h
  · exact Nat.lt_trans h (by decide)
  · exact h.2
theorem cps_app {x y : Str} (hx : Cps x) (hy : Cps y) : Cps (x ++ y) := by
  intro c hc
  have : c ∈ (x.cps ++ y.cps).toList := hc
  rw [Array.toList_append, List.mem_append] at this
  exact this.elim (hx c) (hy c)
theorem cps_char {q c : Nat} (hq : q < 0x110000) (hc : c < 0x110000) : ∀ k ∈ Builtin.Str.reprChar q c, k < 0x110000 := by
  have hh : ∀ (w : Nat), ∀ k ∈ List.replicate (w - ((Nat.toDigits 16 c).map Char.toNat).length) 48 ++ (Nat.toDigits 16 c).map Char.toNat, k < 0x110000 := fun w k hk => by
    rw [List.mem_append] at hk
    rcases hk with h | h
    · have := (List.mem_replicate.mp h).2; omega
    · obtain ⟨ch, _, rfl⟩ := List.mem_map.mp h
      have := ch.valid
      show ch.val.toNat < _
      rcases this with h | h
      · exact Nat.lt_trans h (by decide)
      · exact h.2
  intro k hk
  unfold Builtin.Str.reprChar at hk
  dsimp only at hk
  repeat' split at hk
  all_goals first
    | (simp only [List.mem_append, List.mem_cons, List.not_mem_nil, or_false] at hk; omega)
    | (rw [List.mem_append] at hk
       rcases hk with h | h
       · (simp only [List.mem_cons, List.not_mem_nil, or_false] at h; omega)
       · exact hh _ k h)
theorem cps_fold {q : Nat} (hq : q < 0x110000) : ∀ (l : List Nat) (acc : Array Nat), (∀ c ∈ l, c < 0x110000) → (∀ c ∈ acc.toList, c < 0x110000) → ∀ c ∈ (l.foldl (fun out c => out ++ (Builtin.Str.reprChar q c).toArray) acc).toList, c < 0x110000
  | [], _, _, ha => ha
  | x :: l, acc, hl, ha => by
    rw [List.foldl_cons]
    refine cps_fold hq l _ (fun c hc => hl c (List.mem_cons_of_mem _ hc)) fun c hc => ?_
    rw [Array.toList_append, List.mem_append] at hc
    rcases hc with h | h
    · exact ha c h
    · exact cps_char hq (hl x List.mem_cons_self) c (by simpa using h)
theorem cps_repr {x : Str} (h : Cps x) : Cps (reprText x) := by
  have hq : reprQuote x < 0x110000 := by unfold reprQuote; split <;> decide
  intro c hc
  unfold reprText at hc
  rw [Array.toList_push, List.mem_append, ← Array.foldl_toList] at hc
  rcases hc with hc | hc
  · refine cps_fold hq _ _ h (fun d hd => ?_) c hc
    have : d = reprQuote x := by simpa using hd
    omega
  · have : c = reprQuote x := by simpa using hc
    omega
theorem cps_text : ∀ (ts : List Str) (k : Nat) (acc : Str), Cps acc → (∀ t ∈ ts, Cps t) → Cps (textFrom k acc ts)
  | [], _, _, ha, _ => ha
  | t :: ts, k, acc, ha, h => cps_text ts (k + 1) _ (cps_app (cps_app ha (cps_of _)) (h t List.mem_cons_self)) fun u hu => h u (List.mem_cons_of_mem _ hu)
theorem cps_join {sep : Str} (hs : Cps sep) : ∀ ts : List Str, (∀ t ∈ ts, Cps t) → Cps (Str.join sep ts)
  | [], _ => fun c hc => by simp [Str.join, Str.empty] at hc
  | [x], h => h x List.mem_cons_self
  | x :: y :: r, h => cps_app (cps_app (h x List.mem_cons_self) hs) (cps_join hs (y :: r) fun t ht => h t (List.mem_cons_of_mem _ ht))
mutual
theorem cps_shown : ∀ d : Da, d.canLay0 = true → Cps d.shown
  | .none, _ => cps_of _
  | .bool b, _ => by cases b <;> exact cps_of _
  | .int i, _ => cps_of _
  | .str x, h => cps_repr (cps_ok.mp (by simpa [PyData.canLay0] using h))
  | .list xs, h => cps_app (cps_text _ _ _ (cps_of _) (cps_all xs (by simpa [PyData.canLay0] using h))) (cps_of _)
  | .tuple xs, h => cps_app (cps_app (cps_of _) (cps_join (cps_of _) _ (cps_all xs (by simpa [PyData.canLay0] using h)))) (cps_of _)
  | .dict _, h => by simp [PyData.canLay0] at h
theorem cps_all : ∀ xs : List Da, PyData.canLayAll0 xs = true → ∀ t ∈ PyData.shownAll xs, Cps t
  | [], _, t, ht => by simp [PyData.shownAll] at ht
  | x :: xs, h, t, ht => by
    have q : x.canLay0 = true ∧ PyData.canLayAll0 xs = true := by simpa [PyData.canLayAll0] using h
    rcases List.mem_cons.mp (show t ∈ x.shown :: PyData.shownAll xs from ht) with rfl | ht
    · exact cps_shown x q.1
    · exact cps_all xs q.2 t ht
end
theorem eqv_strs (a b c d : Str) : (PyData.list [.str a, .str b]).eqv (.list [.str c, .str d]) = (decide (a = c) && decide (b = d)) := by
  simp [PyData.eqv, PyData.eqvAll]
  by_cases h1 : a = c <;> by_cases h2 : b = d <;> simp [h1, h2]
theorem showI {n : Int} (h : Bn 1900 n) : n.natAbs.log2 < 1920 := by
  by_cases h0 : n.natAbs = 0
  · rw [h0]; decide
  · exact (Nat.log2_lt h0).mpr (Nat.lt_trans h.lt (Nat.pow_lt_pow_right (by decide) (by decide)))
theorem Sh.num {n d : Int} (hn : Bn 1900 n) (hd : Bn 1900 d) : Sh (Z.num n d) := by
  refine ⟨rfl, ?_, by show 1 ≤ 60; decide, by show 1921 + 2 + (1921 + 2 + 0) + 3 ≤ 16000000; decide⟩
  have := showI hn
  have := showI hd
  simp [PyData.showable, PyData.showableAll, *]
theorem Sh.int {n : Int} (hn : Bn 1900 n) : Sh (.int n) := by
  refine ⟨rfl, ?_, by show 0 ≤ 60; decide, by show 1921 ≤ 16000000; decide⟩
  have := showI hn
  simp [PyData.showable, *]
theorem Sh.none : Sh .none := ⟨rfl, rfl, by decide, by decide⟩
theorem Sh.bool (b : Bool) : Sh (.bool b) := ⟨rfl, rfl, by show 0 ≤ 60; decide, by show 5 ≤ 16000000; decide⟩
theorem pick_0 {α : Type} (a : α) : pick [0] [a] = [a] := rfl
theorem pick_01 {α : Type} (a b : α) : pick [0, 1] [a, b] = [a, b] := rfl
theorem pick_10 {α : Type} (a b : α) : pick [1, 0] [a, b] = [b, a] := rfl
theorem pick_012 {α : Type} (a b c : α) : pick [0, 1, 2] [a, b, c] = [a, b, c] := rfl
theorem pick_021 {α : Type} (a b c : α) : pick [0, 2, 1] [a, b, c] = [a, c, b] := rfl
theorem pick_102 {α : Type} (a b c : α) : pick [1, 0, 2] [a, b, c] = [b, a, c] := rfl
theorem pick_120 {α : Type} (a b c : α) : pick [1, 2, 0] [a, b, c] = [b, c, a] := rfl
theorem pick_201 {α : Type} (a b c : α) : pick [2, 0, 1] [a, b, c] = [c, a, b] := rfl
theorem pick_210 {α : Type} (a b c : α) : pick [2, 1, 0] [a, b, c] = [c, b, a] := rfl
theorem boolsD_true : ∀ ds : List Da, boolsD (ds.map fun _ => .bool true) = some (ds.map fun _ => true)
  | [] => rfl
  | d :: ds => by
    have := boolsD_true ds
    simp [boolsD, this]
theorem rangeD_mem {lo : Int} {n : Nat} {x : Da} (h : x ∈ rangeD lo n) : ∃ i : Int, x = .int i ∧ lo ≤ i ∧ i < lo + n := by
  unfold rangeD at h
  obtain ⟨i, hi, rfl⟩ := List.mem_map.mp h
  have := List.mem_range.mp hi
  exact ⟨_, rfl, by omega, by omega⟩
theorem all_true (ds : List Da) : (ds.map fun _ => true).all id = true := by
  induction ds with
  | nil => rfl
  | cons d ds ih => simpa using ih
theorem low_pos {n d : Int} (hn : 0 < n) (hd : 0 < d) : 0 < (low n d).1 ∧ 0 < (low n d).2 ∧ Int.gcd (low n d).1 (low n d).2 = 1 ∧ (low n d).1 ≤ n ∧ (low n d).2 ≤ d := by
  have g0 := gcd_pos (a := n) hd
  have d1 : (Int.gcd n d : Int) ∣ n := Int.gcd_dvd_left n d
  have d2 : (Int.gcd n d : Int) ∣ d := Int.gcd_dvd_right n d
  refine ⟨Int.ediv_pos_of_pos_of_dvd hn (Int.le_of_lt g0) d1, Int.ediv_pos_of_pos_of_dvd hd (Int.le_of_lt g0) d2, ?_, Int.ediv_le_self _ (Int.le_of_lt hn), Int.ediv_le_self _ (Int.le_of_lt hd)⟩
  show Int.gcd (n / Int.gcd n d) (d / Int.gcd n d) = 1
  exact Int.gcd_ediv_gcd_ediv_gcd (by omega)
end Z
namespace Z
open L2 PySem PySem.Spec PyProof.Rows
theorem bl_le {n : Int} {a : Nat} (h : Bn a n) : bl n ≤ a := by
  unfold bl
  have := bits_lt h
  omega
theorem bl_nn (n : Int) : 0 ≤ bl n := by unfold bl; omega
def oddN (n : Nat) : Nat := if h : n = 0 then 0 else if n % 2 = 0 then oddN (n / 2) else n
termination_by n
decreasing_by omega
theorem oddN_even {n : Nat} (h : 0 < n) (h2 : n % 2 = 0) : oddN n = oddN (n / 2) := by
  rw [oddN]
  rw [dif_neg (by omega), if_pos h2]
theorem oddN_odd {n : Nat} (h2 : n % 2 = 1) : oddN n = n := by
  rw [oddN]
  rw [dif_neg (by omega), if_neg (by omega)]
theorem oddN_spec (n : Nat) : 0 < n → oddN n % 2 = 1 ∧ ∃ b, n = oddN n * 2 ^ b := by
  induction n using Nat.strongRecOn with
  | ind n ih =>
    intro h
    by_cases h2 : n % 2 = 0
    · rw [oddN_even h h2]
      obtain ⟨o, b, e⟩ := ih (n / 2) (by omega) (by omega)
      refine ⟨o, b + 1, ?_⟩
      rw [Nat.pow_succ, ← Nat.mul_assoc, ← e]
      omega
    · rw [oddN_odd (by omega)]
      exact ⟨by omega, 0, by simp⟩
theorem odd_uniq {o p x y : Nat} (ho : o % 2 = 1) (hp : p % 2 = 1) (h : o * 2 ^ x = p * 2 ^ y) : o = p ∧ x = y := by
  induction x generalizing y with
  | zero =>
    cases y with
    | zero => simpa using h
    | succ y =>
      rw [Nat.pow_succ, ← Nat.mul_assoc] at h
      simp at h
      omega
  | succ x ih =>
    cases y with
    | zero =>
      rw [Nat.pow_succ, ← Nat.mul_assoc] at h
      simp at h
      omega
    | succ y =>
      rw [Nat.pow_succ, Nat.pow_succ, ← Nat.mul_assoc, ← Nat.mul_assoc] at h
      have := ih (y := y) (Nat.eq_of_mul_eq_mul_right (by decide) h)
      omega
theorem oddN_pos {n : Nat} (h : 0 < n) : 0 < oddN n := by have := (oddN_spec n h).1; omega
theorem oddN_le {n : Nat} (h : 0 < n) : oddN n ≤ n := by
  obtain ⟨_, b, e⟩ := oddN_spec n h
  have : oddN n * 1 ≤ oddN n * 2 ^ b := Nat.mul_le_mul_left _ (Nat.pow_pos (by decide))
  omega
theorem cop_two {p : Nat} (h : p % 2 = 1) (k : Nat) : Nat.Coprime p (2 ^ k) := by
  refine Nat.Coprime.pow_right k ?_
  have h1 : Nat.gcd p 2 ∣ 2 := Nat.gcd_dvd_right p 2
  have h2 : Nat.gcd p 2 ∣ p := Nat.gcd_dvd_left p 2
  have h3 : Nat.gcd p 2 ≤ 2 := Nat.le_of_dvd (by decide) h1
  have h4 : 0 < Nat.gcd p 2 := Nat.gcd_pos_of_pos_right _ (by decide)
  rcases Nat.lt_or_ge (Nat.gcd p 2) 2 with h5 | h5
  · show Nat.gcd p 2 = 1; omega
  · have h6 : Nat.gcd p 2 = 2 := by omega
    rw [h6] at h2
    omega
theorem oddN_pow2 {d k : Nat} (h : d ∣ 2 ^ k) : oddN d = 1 := by
  have hd : 0 < d := Nat.pos_of_dvd_of_pos h (Nat.pow_pos (by decide))
  obtain ⟨h1, b, e⟩ := oddN_spec d hd
  have : oddN d ∣ 2 ^ k := Nat.dvd_trans ⟨2 ^ b, e⟩ h
  exact Nat.Coprime.eq_one_of_dvd (cop_two h1 k) this
theorem lowZ {x y : Int} (hy : 0 < y) : (low x y).1 = 0 ↔ x = 0 := by
  have g0 := gcd_pos (a := x) hy
  have d1 : (Int.gcd x y : Int) ∣ x := Int.gcd_dvd_left x y
  constructor
  · intro h
    have h' : x / Int.gcd x y = 0 := h
    have := Int.ediv_mul_cancel d1
    rw [h'] at this
    omega
  · rintro rfl
    exact Int.zero_ediv _
theorem bl_le_iff {x : Nat} (hx : 0 < x) {w : Nat} : bl (x : Int) ≤ w ↔ x < 2 ^ w := by
  obtain ⟨m, e, h1, h2⟩ := bl_pos (n := (x : Int)) (by omega)
  have h1' : 2 ^ m ≤ x := by exact_mod_cast h1
  have h2' : x < 2 ^ (m + 1) := by exact_mod_cast h2
  rw [e]
  constructor
  · intro h
    exact Nat.lt_of_lt_of_le h2' (Nat.pow_le_pow_right (by decide) (by omega))
  · intro h
    have := (Nat.pow_lt_pow_iff_right (a := 2) (by decide)).mp (Nat.lt_of_le_of_lt h1' h)
    omega
/-- a rest of zero: only numbers of this width have it -/
theorem rest_zero {n d A B w : Nat} (hn : 0 < n) (hd : 0 < d) (hg : Nat.Coprime n d) (h1 : 2 ^ w ≤ n * 2 ^ A / (d * 2 ^ B)) (h2 : n * 2 ^ A / (d * 2 ^ B) < 2 ^ (w + 1)) :
    n * 2 ^ A % (d * 2 ^ B) = 0 ↔ oddN d = 1 ∧ oddN n < 2 ^ (w + 1) := by
  obtain ⟨o1, b, e1⟩ := oddN_spec n hn
  obtain ⟨o2, a, e2⟩ := oddN_spec d hd
  have hD : 0 < d * 2 ^ B := Nat.mul_pos hd (Nat.pow_pos (by decide))
  constructor
  · intro h
    have hv : d * 2 ^ B ∣ n * 2 ^ A := Nat.dvd_of_mod_eq_zero h
    have hd1 : d ∣ 2 ^ A := Nat.Coprime.dvd_of_dvd_mul_left (Nat.Coprime.symm hg) (Nat.dvd_trans ⟨2 ^ B, rfl⟩ hv)
    have p1 := oddN_pow2 hd1
    refine ⟨p1, ?_⟩
    generalize hk : n * 2 ^ A / (d * 2 ^ B) = k at h1 h2
    have hk0 : 0 < k := Nat.lt_of_lt_of_le (Nat.pow_pos (by decide)) h1
    have e3 : n * 2 ^ A = k * (d * 2 ^ B) := by rw [← hk]; exact (Nat.div_mul_cancel hv).symm
    obtain ⟨o3, c, e4⟩ := oddN_spec k hk0
    have e5 : oddN n * 2 ^ (b + A) = oddN k * 2 ^ (c + (a + B)) := by
      rw [p1, Nat.one_mul] at e2
      rw [Nat.pow_add, ← Nat.mul_assoc, ← e1, Nat.pow_add, ← Nat.mul_assoc, ← e4, Nat.pow_add, ← e2]
      exact e3
    have := (odd_uniq o1 o3 e5).1
    have := oddN_le hk0
    omega
  · rintro ⟨p1, p2⟩
    rw [p1, Nat.one_mul] at e2
    have eN : n * 2 ^ A = oddN n * 2 ^ (b + A) := by rw [Nat.pow_add, ← Nat.mul_assoc, ← e1]
    have eD : d * 2 ^ B = 2 ^ (a + B) := by rw [Nat.pow_add, ← e2]
    rw [eN, eD] at h1 ⊢
    by_cases hc : a + B ≤ b + A
    · refine Nat.mod_eq_zero_of_dvd (Nat.dvd_trans (Nat.pow_dvd_pow 2 hc) ⟨oddN n, Nat.mul_comm _ _⟩)
    · exfalso
      obtain ⟨t, ht⟩ : ∃ t, a + B = t + 1 + (b + A) := ⟨a + B - (b + A) - 1, by omega⟩
      rw [ht, Nat.pow_add 2 (t + 1) (b + A), Nat.mul_comm (2 ^ (t + 1)), Nat.mul_comm (oddN n), Nat.mul_div_mul_left _ _ (Nat.pow_pos (by decide))] at h1
      have h3 := (Nat.le_div_iff_mul_le (Nat.pow_pos (by decide))).mp h1
      have h4 : 2 ^ w * 2 ≤ 2 ^ w * 2 ^ (t + 1) := Nat.mul_le_mul_left _ (by rw [Nat.pow_succ]; have := Nat.pow_pos (n := t) (show 0 < 2 by decide); omega)
      rw [Nat.pow_succ] at p2
      omega
theorem natI {n : Int} (h : 0 < n) : ∃ m : Nat, n = (m : Int) ∧ 0 < m := ⟨n.toNat, by omega, by omega⟩
theorem pos_lw {n d w : Int} (hn : 0 < n) (hd : 0 < d) (hg : Int.gcd n d = 1) (hw : 1 ≤ w) : (posI n d w).1 = 0 ↔ oddN d.toNat = 1 ∧ bl (oddN n.toNat) ≤ w := by
  obtain ⟨c0, c1, c2, _⟩ := cellI_spec hn hd hw
  obtain ⟨a0, b0⟩ := scI_pos (f := 0 - (cellI n d w).2) hn hd
  unfold posI
  rw [lowZ b0]
  generalize (cellI n d w).1 = k at c0 c1 c2 ⊢
  generalize (cellI n d w).2 = e at c0 a0 b0 ⊢
  have e1 : (scI n d (0 - e)).1 - k * (scI n d (0 - e)).2 = (scI n d (0 - e)).1 % (scI n d (0 - e)).2 := by rw [c0, Int.emod_def, Int.mul_comm]
  rw [e1]
  unfold scI at c0 ⊢
  obtain ⟨n', rfl, hn'⟩ := natI hn
  obtain ⟨d', rfl, hd'⟩ := natI hd
  obtain ⟨w', rfl⟩ : ∃ w' : Nat, w = (w' : Int) + 1 := ⟨(w - 1).toNat, by omega⟩
  have ew : ((w' : Int) + 1).toNat = w' + 1 := by omega
  have ew2 : ((w' : Int) + 1 - 1).toNat = w' := by omega
  rw [ew] at c2
  rw [ew2] at c1
  dsimp only at c0 ⊢
  generalize (0 - e).toNat = A at c0 ⊢
  generalize (-(0 - e)).toNat = B at c0 ⊢
  have cast1 : (n' : Int) * 2 ^ A = ((n' * 2 ^ A : Nat) : Int) := by push_cast; rfl
  have cast2 : (d' : Int) * 2 ^ B = ((d' * 2 ^ B : Nat) : Int) := by push_cast; rfl
  rw [cast1, cast2] at c0 ⊢
  rw [← Int.natCast_ediv] at c0
  rw [c0] at c1 c2
  have r := rest_zero (A := A) (B := B) (w := w') hn' hd' (by simpa [Nat.Coprime, Int.gcd] using hg) (by exact_mod_cast c1) (by exact_mod_cast c2)
  rw [← Int.natCast_emod, Int.ofNat_eq_zero, r]
  show _ ↔ oddN d' = 1 ∧ bl (oddN n' : Int) ≤ ((w' + 1 : Nat) : Int)
  rw [bl_le_iff (oddN_pos hn')]
end Z
namespace Z
open L2 PySem PySem.Spec PyProof.Rows
open Evl (Ex ex_l ex_t ex_rd fresh_back)
/-- the remainder of a * x lies between l and h -/
def Hit (a m l h x : Int) : Prop := l ≤ a * x % m ∧ a * x % m ≤ h
/-- the least int from 0 on that hits -/
def LM (a m l h : Int) : Option Int → Prop
  | some x => 0 ≤ x ∧ Hit a m l h x ∧ ∀ y, 0 ≤ y → Hit a m l h y → x ≤ y
  | none => ∀ y, 0 ≤ y → ¬Hit a m l h y
/-- rounded up -/
def upI' (n d : Int) : Int := -(-n / d)
theorem up_iff {n d x : Int} (hd : 0 < d) : upI' n d ≤ x ↔ n ≤ d * x := by
  unfold upI'
  have h1 := Int.ediv_mul_le (-n) (show d ≠ 0 by omega)
  have h2 := Int.lt_ediv_add_one_mul_self (-n) hd
  generalize -n / d = q at h1 h2 ⊢
  have e1 : (q + 1) * d = q * d + d := by grind
  rw [e1] at h2
  constructor
  · intro h
    have : (-q) * d ≤ x * d := Int.mul_le_mul_of_nonneg_right h (by omega)
    have e2 : (-q) * d = -(q * d) := by grind
    have e3 : x * d = d * x := by grind
    omega
  · intro h
    apply Int.not_lt.mp
    intro hc
    have : (x + 1) * d ≤ (-q) * d := Int.mul_le_mul_of_nonneg_right (by omega) (by omega)
    have e2 : (-q) * d = -(q * d) := by grind
    have e3 : (x + 1) * d = d * x + d := by grind
    omega
theorem up_lt {n d : Int} (hd : 0 < d) : d * (upI' n d - 1) < n ∧ n ≤ d * upI' n d := by
  refine ⟨?_, (up_iff hd).mp (Int.le_refl _)⟩
  apply Int.not_le.mp
  intro h
  have := (up_iff (x := upI' n d - 1) hd).mpr h
  omega
theorem up_eq {n d x : Int} (hd : 0 < d) (h1 : d * (x - 1) < n) (h2 : n ≤ d * x) : upI' n d = x := by
  have a := (up_iff hd).mpr h2
  have b : ¬upI' n d ≤ x - 1 := fun h => absurd ((up_iff hd).mp h) (by omega)
  omega
theorem mod_of {t q r m : Int} (h : t = m * q + r) (h0 : 0 ≤ r) (h1 : r < m) : t % m = r ∧ t / m = q := by
  have hm : 0 < m := by omega
  have e : t % m = r := by
    rw [h, Int.add_comm, Int.add_mul_emod_self_left, Int.emod_eq_of_lt h0 h1]
  refine ⟨e, ?_⟩
  have := Int.mul_ediv_add_emod t m
  rw [e] at this
  have h3 : m * (t / m) = m * q := by omega
  exact Int.eq_of_mul_eq_mul_left (by omega) h3
theorem hit_of {a m l h x y : Int} (h0 : 0 < l) (hm : h < m) (h1 : l ≤ a * x - m * y) (h2 : a * x - m * y ≤ h) : Hit a m l h x := by
  have := (mod_of (t := a * x) (q := y) (r := a * x - m * y) (m := m) (by omega) (by omega) (by omega)).1
  unfold Hit
  rw [this]
  exact ⟨h1, h2⟩
theorem hit_to {a m l h x : Int} (H : Hit a m l h x) : l ≤ a * x - m * (a * x / m) ∧ a * x - m * (a * x / m) ≤ h := by
  have := Int.mul_ediv_add_emod (a * x) m
  unfold Hit at H
  omega
/-- no multiple lies in it: what is left for the smaller problem -/
theorem lm_step {a m l h : Int} (ha : 0 < a) (h0 : 0 < l) (hl : l ≤ h) (hm : h < m) (hf : h < a * upI' l a) :
    (0 < -h % a ∧ -h % a ≤ -l % a ∧ -l % a < a) ∧ (∀ r, LM (m % a) a (-h % a) (-l % a) r → LM a m l h (r.map fun y => upI' (l + m * y) a)) := by
  obtain ⟨u1, u2⟩ := up_lt (n := l) ha
  generalize hc : upI' l a = c at u1 u2 hf
  have e1 : a * (c - 1) = a * c - a := by grind
  rw [e1] at u1
  -- the interval, from the multiple above it
  have m1 : -l % a = a * c - l := (mod_of (q := -c) (by grind) (by omega) (by omega)).1
  have m2 : -h % a = a * c - h := (mod_of (q := -c) (by grind) (by omega) (by omega)).1
  rw [m1, m2]
  have b1 : 0 < a * c - h := by omega
  have b2 : a * c - h ≤ a * c - l := by omega
  have b3 : a * c - l < a := by omega
  refine ⟨⟨b1, b2, b3⟩, ?_⟩
  have hm' := Int.mul_ediv_add_emod m a
  generalize hq : m / a = q at hm'
  generalize hk : m % a = k at hm'
  have k0 : 0 ≤ k := by rw [← hk]; exact Int.emod_nonneg _ (by omega)
  -- from a hit of the smaller problem
  have up1 : ∀ y, 0 ≤ y → Hit k a (a * c - h) (a * c - l) y → ∃ x, 0 ≤ x ∧ l ≤ a * x - m * y ∧ a * x - m * y ≤ h := fun y y0 hy => by
    obtain ⟨t1, t2⟩ := hit_to hy
    generalize hu : k * y / a = u at t1 t2
    have u0 : 0 ≤ u := by rw [← hu]; exact Int.ediv_nonneg (Int.mul_nonneg k0 y0) (by omega)
    have q0 : 0 ≤ q := by rw [← hq]; exact Int.ediv_nonneg (by omega) (by omega)
    have c0 : 0 ≤ c := by
      apply Int.not_lt.mp
      intro hc
      have : a * c ≤ a * 0 := Int.mul_le_mul_of_nonneg_left (by omega) (by omega)
      omega
    have x0 : 0 ≤ q * y := Int.mul_nonneg q0 y0
    have ex : a * (u + q * y + c) - m * y = a * u + a * c - k * y := by rw [← hm']; grind
    exact ⟨u + q * y + c, by omega, by omega, by omega⟩
  have down : ∀ x y, l ≤ a * x - m * y → a * x - m * y ≤ h → Hit k a (a * c - h) (a * c - l) y := fun x y t1 t2 => by
    have ex : a * x - m * y = a * (x - q * y) - k * y := by rw [← hm']; grind
    have ez : k * y - a * (x - q * y - c) = k * y - a * (x - q * y) + a * c := by grind
    exact hit_of (y := x - q * y - c) b1 (by omega) (by omega) (by omega)
  intro r hr
  cases r with
  | none =>
    intro x x0 hx
    obtain ⟨t1, t2⟩ := hit_to hx
    by_cases hy : 0 ≤ a * x / m
    · exact hr _ hy (down _ _ t1 t2)
    · exact absurd (Int.ediv_nonneg (Int.mul_nonneg (Int.le_of_lt ha) x0) (by omega)) hy
  | some y =>
    obtain ⟨y0, hy, hmin⟩ := hr
    obtain ⟨x, x0, t1, t2⟩ := up1 y y0 hy
    have ee : upI' (l + m * y) a = x := by
      have e3 : a * (x - 1) = a * x - a := by grind
      exact up_eq ha (by omega) (by omega)
    show LM a m l h (some (upI' (l + m * y) a))
    rw [ee]
    refine ⟨x0, hit_of h0 hm t1 t2, fun x' x0' hx' => ?_⟩
    obtain ⟨s1, s2⟩ := hit_to hx'
    have y0' : 0 ≤ a * x' / m := Int.ediv_nonneg (Int.mul_nonneg (Int.le_of_lt ha) x0') (by omega)
    have hle := hmin _ y0' (down _ _ s1 s2)
    rw [← ee]
    rw [up_iff ha]
    have : m * y ≤ m * (a * x' / m) := Int.mul_le_mul_of_nonneg_left hle (by omega)
    omega
/-- the steps put aside -/
inductive Chn (A M L H : Int) : List (Int × Int × Int) → Int → Int → Int → Int → Prop
  | nil : Chn A M L H [] A M L H
  | snoc {os : List (Int × Int × Int)} {a m l h : Int} (c : Chn A M L H os a m l h) (ha : 0 < a) (hf : h < a * upI' l a) : Chn A M L H (os ++ [(a, m, l)]) (m % a) a (-h % a) (-l % a)
theorem Chn.ok {A M L H : Int} (hA : 0 ≤ A) (hAM : A < M) (hL : 0 < L) (hLH : L ≤ H) (hM : H < M) {os : List (Int × Int × Int)} {a m l h : Int} (c : Chn A M L H os a m l h) : 0 ≤ a ∧ a < m ∧ 0 < l ∧ l ≤ h ∧ h < m ∧ m ≤ M ∧ a * m * 2 ^ os.length ≤ A * M := by
  induction c with
  | nil => exact ⟨hA, hAM, hL, hLH, hM, Int.le_refl _, by simp⟩
  | snoc c ha hf ih =>
    rename_i os a m l h
    obtain ⟨i1, i2, i3, i4, i5, i6, i7⟩ := ih
    obtain ⟨⟨s1, s2, s3⟩, _⟩ := lm_step (m := m) ha i3 i4 i5 hf
    have r0 := Int.emod_nonneg m (show a ≠ 0 by omega)
    have r1 := Int.emod_lt_of_pos m ha
    refine ⟨r0, r1, s1, s2, s3, by omega, ?_⟩
    refine Int.le_trans ?_ i7
    rw [List.length_append, List.length_cons, List.length_nil, Int.pow_succ]
    have q1 := Int.mul_ediv_add_emod m a
    have q2 : 1 ≤ m / a := by
      have := (Int.le_ediv_iff_mul_le ha (a := 1) (b := m)).mpr (by omega)
      exact this
    have q3 : a * 1 ≤ a * (m / a) := Int.mul_le_mul_of_nonneg_left q2 (by omega)
    have q4 : 2 * (m % a) ≤ m := by omega
    have p := pow2_pos os.length
    have e : m % a * a * (2 ^ os.length * 2) = 2 * (m % a) * (a * 2 ^ os.length) := by grind
    have e2 : a * m * 2 ^ os.length = m * (a * 2 ^ os.length) := by grind
    rw [e, e2]
    exact Int.mul_le_mul_of_nonneg_right q4 (Int.mul_nonneg (by omega) (Int.le_of_lt p))
end Z
namespace Z
open L2 PySem PySem.Spec PyProof.Rows
end Z
namespace Z
open L2 PySem PySem.Spec PyProof.Rows
def headD : List Da → Da
  | [] => .none
  | x :: _ => x
theorem eqv_nil (ds : List Da) : (PyData.list ds).eqv (.list []) = ds.isEmpty := by
  cases ds <;> simp [PyData.eqv, PyData.eqvAll]
end Z
namespace Z
open L2 PySem PySem.Spec PyProof.Rows
open Evl (Ex ex_l ex_t ex_rd fresh_back)
def intsD : List Da → Option (List Int)
  | [] => some []
  | .int i :: ds => (intsD ds).map (i :: ·)
  | _ => none
theorem ints_v {K : Fg} {F : Hp} : ∀ {vs : List V} {ds : List Da} {ns : List Int}, Rps K F vs ds → intsD ds = some ns → vs = ns.map V.int
  | _, _, _, .nil, h => by cases h; rfl
  | _, d :: ds, ns, .cons r t, h => by
    cases d with
    | int i =>
      unfold intsD at h
      cases q : intsD ds with
      | none => rw [q] at h; cases h
      | some cs =>
        rw [q] at h
        cases h
        cases r
        rw [ints_v t q]
        rfl
    | _ => cases h
theorem intsD_map (ns : List Int) : intsD (ns.map PyData.int) = some ns := by
  induction ns with
  | nil => rfl
  | cons n ns ih => simp [intsD, ih]
def cMinL : CF := fun rs post => match rs with
  | [.val (.list ds)] => (match intsD ds with | some ns => 0 < ns.length ∧ ∀ m, m ∈ ns → (∀ y, y ∈ ns → m ≤ y) → post (.int m) | none => False)
  | _ => False
section
variable {K : Fg}
theorem ok_minL : CallOk K (rMin K) cMinL := fun F H a fu vs rs post Q e t hf k => by
  unfold cMinL at hf
  split at hf
  · rename_i ds
    split at hf
    · rename_i ns q
      obtain ⟨v, rfl, r⟩ := t.v1
      cases r with
      | lst sq m =>
        rw [ints_v m q] at sq
        exact ⟨_, ns, rfl, .inl (.inl (e _ _ sq)), hf.1, fun m h1 h2 => k _ _ H F (hf.2 m h1 h2) (Gr.refl e) (.int _)⟩
    · exact hf.elim
  · exact hf.elim
end
section
variable {X : Cx} {p pos : Pos} {e : Expr} {tr : DA}
theorem e_minL (hc : X.calm = true) (hg : Gl X "min") (hm : X.mg "min" = none) (ha : PA X [e] (upA X.K tr)) (he : starEach [e] X.env = (false, eval e X.env) :: starEach [] X.env := by rfl) : PE X (.Call (.Name "min" p) [e] [] pos) (up X.K (dCB cMinL tr)) := e_callB (cr_min hc) ok_minL hg hm (by decide +kernel) ha (by decide) (by decide) he rfl
end
end Z
namespace Z
open L2 PySem PySem.Spec PyProof.Rows
open Evl (Ex ex_l ex_t ex_rd fresh_back)
end Z
namespace Z
open L2 PySem PySem.Spec PyProof.Rows
open Evl (Ex ex_l ex_t ex_rd fresh_back)
abbrev DO := Gs → (Option Int → Gs → Prop) → Prop
def oNo : DO := fun g Q => Q none g
def oSo (te : DE) : DO := fun g Q => te g fun r g1 => match r with
  | .val (.int i) => Q (some i) g1
  | _ => False
def upO (K : Fg) (t : DO) : TO := fun σ H Q => ∃ c g tv tr F a post, Sta K c g σ H tv tr F a ∧ t g post ∧
  ∀ o g' H' F' a', post o g' → Sta K c g' σ H' tv tr F' a' → Q o H'
def cutD (ds : List Da) (lo hi : Option Int) : List Da := (ds.drop (HT.sIx ds.length 0 lo)).take (HT.sIx ds.length ds.length hi - HT.sIx ds.length 0 lo)
def dSl (ta : DE) (tl th : DO) : DE := fun g Q => ta g fun x g1 => tl g1 fun lo g2 => th g2 fun hi g3 => match x with
  | .val (.list ds) => Q (.val (.list (cutD ds lo hi))) g3
  | .val (.tuple ds) => ¬(HT.sIx ds.length 0 lo = 0 ∧ HT.sIx ds.length ds.length hi = ds.length) ∧ Q (.val (.tuple (cutD ds lo hi))) g3
  | _ => False
theorem Rps.drop {K : Fg} {F : Hp} : ∀ {vs : List V} {ds : List Da} (n : Nat), Rps K F vs ds → Rps K F (vs.drop n) (ds.drop n)
  | _, _, 0, h => h
  | _, _, n + 1, .nil => .nil
  | _, _, n + 1, .cons _ t => Rps.drop n t
theorem Rps.take {K : Fg} {F : Hp} : ∀ {vs : List V} {ds : List Da} (n : Nat), Rps K F vs ds → Rps K F (vs.take n) (ds.take n)
  | _, _, 0, _ => .nil
  | _, _, n + 1, .nil => .nil
  | _, _, n + 1, .cons r t => .cons r (Rps.take n t)
theorem Rps.cut {K : Fg} {F : Hp} {vs : List V} {ds : List Da} (h : Rps K F vs ds) (lo hi : Option Int) : Rps K F (cutV vs lo hi) (cutD ds lo hi) := by
  unfold cutV cutD
  rw [h.len]
  exact (h.drop _).take _
section
variable {X : Cx} {e : Expr} {te : DE}
theorem po_to {o : Option Expr} {t t' : TO} (h : PO X o t) (i : ∀ σ H Q, t' σ H Q → t σ H Q) : PO X o t' := ⟨fun pins s σ H Q I q => h.run pins s σ H Q I (i σ H Q q)⟩
theorem o_none : PO X none (upO X.K oNo) := po_to po_none fun σ H Q q => by
  obtain ⟨c, g, tv, tr, F, ad, post, s, t, k⟩ := q
  exact k none g H F ad t s
theorem o_some (h : PE X e (up X.K te)) : PO X (some e) (upO X.K (oSo te)) := po_to (po_some h) fun σ H Q q => by
  obtain ⟨c, g, tv, tr, F, ad, post, s, t, k⟩ := q
  refine ⟨c, g, tv, tr, F, ad, _, s, t, fun r g1 v H1 F1 a1 t1 s1 => ?_⟩
  cases r with
  | val d =>
    cases d with
    | int i =>
      have hr : Rp X.K F1 v (.int i) := s1.top
      cases hr
      exact ⟨i, rfl, k _ g1 H1 F1 a1 t1 s1.pop1⟩
    | _ => exact t1.elim
  | _ => exact t1.elim
variable {lo hi : Option Expr} {tl th : DO} {ta : DE} {a : Expr} {p2 pos : Pos}
theorem e_sl (ha : PE X a (up X.K ta)) (hl : PO X lo (upO X.K tl)) (hu : PO X hi (upO X.K th)) : PE X (.Subscript a (.Slice lo hi none p2) pos) (up X.K (dSl ta tl th)) := pe_to (pe_slice (sl_list.or sl_tup) ha hl hu) fun σ H Q q => by
  obtain ⟨c, g, tv, tr, F, ad, post, s, t, k⟩ := q
  refine ⟨c, g, tv, tr, F, ad, _, s, t, fun x g1 v1 H1 F1 a1 t1 s1 => ?_⟩
  refine ⟨c, g1, _, _, F1, a1, _, s1, t1, fun l g2 H2 F2 a2 t2 s2 => ?_⟩
  refine ⟨c, g2, _, _, F2, a2, _, s2, t2, fun u g3 H3 F3 a3 t3 s3 => ?_⟩
  cases x with
  | val d =>
    cases d with
    | list ds =>
      have hr : Rp X.K F3 v1 (.list ds) := s3.top
      cases hr with
      | lst sq m =>
        rename_i pp xs
        refine .inl ⟨_, _, rfl, .inl (.inl (s3.eh _ _ sq)), fun q hq => ?_⟩
        have gr := Gr.new (o := .lst (cutV xs l u)) s3.eh hq
        exact k _ g3 _ _ _ a3 t3 ((s3.pop1.grow gr).push (r := .val (.list (cutD ds l u))) (.lst upd_same ((m.cut l u).up gr.f)))
    | tuple ds =>
      have hr : Rp X.K F3 v1 (.tuple ds) := s3.top
      cases hr with
      | tup sq m =>
        rename_i pp xs
        refine .inr ⟨_, _, rfl, ex_t s3.eh sq, by rw [m.len]; exact t3.1, fun q hq => ?_⟩
        have gr := Gr.new (o := .tup (cutV xs l u)) s3.eh hq
        exact k _ g3 _ _ _ a3 t3.2 ((s3.pop1.grow gr).push (r := .val (.tuple (cutD ds l u))) (.tup (.inl (.inl upd_same)) ((m.cut l u).up gr.f)))
    | _ => exact t3.elim
  | _ => exact t3.elim
end
end Z
namespace Z
open L2 PySem PySem.Spec PyProof.Rows
open Evl (Ex ex_l ex_t ex_rd fresh_back)
def dBy (tab : Ru → Da) (te : DE) : DE := fun g Q => te g fun r g1 => match r with
  | .val (.str x) => ∃ ru : Ru, x = ru.s ∧ Q (.val (tab ru)) g1
  | _ => False
section
variable {X : Cx} {b : Expr} {te : DE} {p pos : Pos} {x : Str}
theorem e_by {ra : Addr} {tab : Ru → Da} (hg : Gl X x) (hm : X.mg x = some (.ref ra)) (hk : ∀ ru : Ru, ∃ v, KDct X.K X.w ra ru.s v ∧ ∀ F, Rp X.K F v (tab ru)) (hb : PE X b (up X.K te)) (hd : (x == ("__debug__" : Str)) = false := by decide) (hs : PlainIx b := by exact fun _ _ => rfl) :
    PE X (.Subscript (.Name x p) b pos) (up X.K (dBy tab te)) := pe_to (pe_ix ix_kdict (pe_glob hg hm (show RelV (.ref ra) (.ref ra) from rfl) hd) hb hs) fun σ H Q q => by
  obtain ⟨c, g, tv, tr, F, ad, post, s, t, k⟩ := q
  refine ⟨c, g, tv, tr, F, ad, _, s, t, fun r g1 v1 H1 F1 a1 t1 s1 => ?_⟩
  cases r with
  | val d =>
    cases d with
    | str z =>
      have hr : Rp X.K F1 v1 (.str z) := s1.top
      cases hr
      obtain ⟨ru, rfl, t1⟩ := t1
      obtain ⟨v, h1, h2⟩ := hk ru
      exact ⟨ra, ru.s, v, rfl, rfl, h1, k _ g1 v H1 F1 a1 t1 (s1.pop1.push (r := .val (tab ru)) (h2 F1))⟩
    | _ => exact t1.elim
  | _ => exact t1.elim
end
end Z
namespace Z
open L2 PySem PySem.Spec PyProof.Rows
end Z
namespace Z
open L2 PySem PySem.Spec PyProof.Rows
open Evl (Ex ex_l ex_t ex_rd fresh_back)
theorem rps_zip {K : Fg} {F : Hp} : ∀ {xs : List V} {ds : List Da}, Rps K F xs ds → ∃ bs : List (V × Da), bs.map Prod.fst = xs ∧ bs.map Prod.snd = ds ∧ ∀ b ∈ bs, Rp K F b.1 b.2
  | _, _, .nil => ⟨[], rfl, rfl, fun b hb => nomatch hb⟩
  | _, _, .cons h t => by
    obtain ⟨bs, rfl, rfl, h3⟩ := rps_zip t
    refine ⟨(_, _) :: bs, rfl, rfl, fun b hb => ?_⟩
    rcases List.mem_cons.mp hb with rfl | hb
    · exact h
    · exact h3 b hb
end Z
namespace Z
open L2 PySem PySem.Spec PyProof.Rows
open Evl (Ex ex_l ex_t ex_rd fresh_back)
theorem div_cross {a b a' b' : Int} (hb : 0 < b) (hb' : 0 < b') (h : a * b' = a' * b) : a / b = a' / b' := by
  have e1 : a / b = (a * b') / (b * b') := (Int.mul_ediv_mul_of_pos_left a b hb').symm
  have e2 : a' / b' = (a' * b) / (b' * b) := (Int.mul_ediv_mul_of_pos_left a' b' hb).symm
  rw [e1, e2, h, Int.mul_comm b b']
theorem low_mul {x y c : Int} (hc : 0 < c) : low (x * c) (y * c) = low x y := by
  unfold low
  rw [Int.gcd_mul_right, Int.natCast_mul]
  have e : ((c.natAbs : Nat) : Int) = c := by omega
  rw [e, Int.mul_ediv_mul_of_pos_left _ _ hc, Int.mul_ediv_mul_of_pos_left _ _ hc]
theorem low_cross {x y x' y' : Int} (hy : 0 < y) (hy' : 0 < y') (h : x * y' = x' * y) : low x y = low x' y' := by
  rw [← low_mul (x := x) (y := y) hy', ← low_mul (x := x') (y := y') hy, h, Int.mul_comm y y']
theorem low_self {n d : Int} (h : Int.gcd n d = 1) : low n d = (n, d) := by
  unfold low
  rw [h]
  simp
theorem mod_cross {a b a' b' : Int} (hb : 0 < b) (hb' : 0 < b') (h : a * b' = a' * b) : (a % b) * b' = (a' % b') * b := by
  have e := div_cross hb hb' h
  rw [Int.emod_def, Int.emod_def, ← e, Int.sub_mul, Int.sub_mul, h]
  grind
theorem low_val {x y : Int} (hy : 0 < y) : (low x y).1 * y = x * (low x y).2 := by
  unfold low
  obtain ⟨u, hu⟩ : (Int.gcd x y : Int) ∣ x := Int.gcd_dvd_left x y
  obtain ⟨v, hv⟩ : (Int.gcd x y : Int) ∣ y := Int.gcd_dvd_right x y
  have g0 := gcd_pos (a := x) hy
  generalize (Int.gcd x y : Int) = g at *
  subst hu hv
  rw [Int.mul_ediv_cancel_left _ (by omega), Int.mul_ediv_cancel_left _ (by omega)]
  grind
theorem pow_lt_pow2 {a b : Nat} (h : (2 : Int) ^ a < 2 ^ b) : a < b := by
  by_cases q : a < b
  · exact q
  · have : (2 : Int) ^ b ≤ 2 ^ a := by
      obtain ⟨c, rfl⟩ : ∃ c, a = b + c := ⟨a - b, by omega⟩
      rw [Int.pow_add]
      have h1 := pow2_pos b
      have h2 := pow2_pos c
      have := Int.mul_le_mul_of_nonneg_left (show (1 : Int) ≤ 2 ^ c by omega) (Int.le_of_lt h1)
      omega
    omega
theorem pow_le2 {a b : Nat} (h : a ≤ b) : (2 : Int) ^ a ≤ 2 ^ b := by
  obtain ⟨c, rfl⟩ : ∃ c, b = a + c := ⟨b - a, by omega⟩
  rw [Int.pow_add]
  have h1 := pow2_pos a
  have h2 := pow2_pos c
  have := Int.mul_le_mul_of_nonneg_left (show (1 : Int) ≤ 2 ^ c by omega) (Int.le_of_lt h1)
  omega
/-- a cell told by any exponent p - q -/
theorem cell_at {n d w : Int} (hn : 0 < n) (hd : 0 < d) (hw : 1 ≤ w) {p q : Nat} (h1 : 2 ^ (w - 1).toNat ≤ n * 2 ^ q / (d * 2 ^ p)) (h2 : n * 2 ^ q / (d * 2 ^ p) < 2 ^ w.toNat) :
    cellI n d w = (n * 2 ^ q / (d * 2 ^ p), (p : Int) - q) ∧ posI n d w = low (n * 2 ^ q % (d * 2 ^ p)) (d * 2 ^ p) := by
  obtain ⟨c1, c2, c3, _⟩ := cellI_spec hn hd hw
  have hp : 0 < d * 2 ^ p := Int.mul_pos hd (pow2_pos p)
  generalize hk : (cellI n d w).1 = k at c1 c2 c3
  generalize he : (cellI n d w).2 = e at c1
  unfold scI at c1
  generalize hA : (0 - e).toNat = A at c1
  generalize hB : (-(0 - e)).toNat = B at c1
  have hP : 0 < d * 2 ^ B := Int.mul_pos hd (pow2_pos B)
  replace c1 : k = n * 2 ^ A / (d * 2 ^ B) := c1
  rw [c1] at c2 c3
  have ew : w.toNat = (w - 1).toNat + 1 := by omega
  have x1 := (Int.le_ediv_iff_mul_le hp).mp h1
  have x2 := (Int.ediv_lt_iff_lt_mul hp).mp h2
  have y1 := (Int.le_ediv_iff_mul_le hP).mp c2
  have y2 := (Int.ediv_lt_iff_lt_mul hP).mp c3
  have mono : ∀ {a b : Int} (j : Nat), a ≤ b → a * 2 ^ j ≤ b * 2 ^ j := fun j h => Int.mul_le_mul_of_nonneg_right h (Int.le_of_lt (pow2_pos j))
  have mono' : ∀ {a b : Int} (j : Nat), a < b → a * 2 ^ j < b * 2 ^ j := fun j h => Int.mul_lt_mul_of_pos_right h (pow2_pos j)
  have key : ∀ {s t u v : Nat}, 2 ^ s * (d * 2 ^ t) < 2 ^ u * (d * 2 ^ v) → s + t < u + v := fun {s t u v} h => by
    refine pow_lt_pow2 ?_
    rw [Int.pow_add, Int.pow_add]
    refine Int.lt_of_mul_lt_mul_left (a := d) ?_ (Int.le_of_lt hd)
    grind
  have hpq : B + q = p + A := by
    have z1 : (w - 1).toNat + (p + A) < w.toNat + (B + q) := by
      refine key ?_
      have := mono A x1
      have := mono' q y2
      rw [Int.pow_add, Int.pow_add]
      grind
    have z2 : (w - 1).toNat + (B + q) < w.toNat + (p + A) := by
      refine key ?_
      have := mono q y1
      have := mono' A x2
      rw [Int.pow_add, Int.pow_add]
      grind
    omega
  have hx : n * 2 ^ A * (d * 2 ^ p) = n * 2 ^ q * (d * 2 ^ B) := by
    have : (2 : Int) ^ A * 2 ^ p = 2 ^ q * 2 ^ B := by rw [← Int.pow_add, ← Int.pow_add]; congr 1; omega
    grind
  have e1 := div_cross hP hp hx
  have ec : cellI n d w = (n * 2 ^ q / (d * 2 ^ p), (p : Int) - q) := by
    refine Prod.ext ?_ ?_
    · rw [hk, c1, e1]
    · rw [he]
      show e = (p : Int) - q
      omega
  refine ⟨ec, ?_⟩
  unfold posI
  rw [hk, he]
  unfold scI
  rw [hA, hB, c1]
  show low (n * 2 ^ A - n * 2 ^ A / (d * 2 ^ B) * (d * 2 ^ B)) (d * 2 ^ B) = _
  have em : n * 2 ^ A - n * 2 ^ A / (d * 2 ^ B) * (d * 2 ^ B) = n * 2 ^ A % (d * 2 ^ B) := by
    rw [Int.emod_def]
    grind
  rw [em]
  exact low_cross hP hp (mod_cross hP hp hx)
/-- what a power number is -/
theorem pow_val {k e : Int} {p q : Nat} (he : e = (p : Int) - q) : (powI k e).1 * 2 ^ q = k * 2 ^ p * (powI k e).2 := by
  unfold powI scI
  generalize hA : e.toNat = A
  generalize hB : (-e).toNat = B
  have h := low_val (x := k * 2 ^ A) (y := 1 * 2 ^ B) (Int.mul_pos (by decide) (pow2_pos B))
  show (low (k * 2 ^ A) (1 * 2 ^ B)).1 * 2 ^ q = k * 2 ^ p * (low (k * 2 ^ A) (1 * 2 ^ B)).2
  generalize low (k * 2 ^ A) (1 * 2 ^ B) = y at h ⊢
  have s : (2 : Int) ^ A * 2 ^ q = 2 ^ p * 2 ^ B := by rw [← Int.pow_add, ← Int.pow_add]; congr 1; omega
  refine Int.eq_of_mul_eq_mul_right (a := 2 ^ B) (by have := pow2_pos B; omega) ?_
  calc y.1 * 2 ^ q * 2 ^ B = y.1 * (1 * 2 ^ B) * 2 ^ q := by grind
    _ = k * 2 ^ A * y.2 * 2 ^ q := by rw [h]
    _ = k * y.2 * (2 ^ A * 2 ^ q) := by grind
    _ = k * y.2 * (2 ^ p * 2 ^ B) := by rw [s]
    _ = k * 2 ^ p * y.2 * 2 ^ B := by grind
theorem pow_pos {k e : Int} (hk : 0 < k) : 0 < (powI k e).1 ∧ 0 < (powI k e).2 ∧ Int.gcd (powI k e).1 (powI k e).2 = 1 := by
  unfold powI
  obtain ⟨a, b⟩ := scI_pos (n := k) (d := 1) (f := e) hk (by decide)
  obtain ⟨h1, h2, h3, _⟩ := low_pos a b
  exact ⟨h1, h2, h3⟩
/-- equal in value, both in lowest terms -/
theorem low_uniq {n d n' d' : Int} (hd : 0 < d) (hd' : 0 < d') (hg : Int.gcd n d = 1) (hg' : Int.gcd n' d' = 1) (h : n * d' = n' * d) : (n, d) = (n', d') := by
  rw [← low_self hg, ← low_self hg', low_cross hd hd' h]
theorem pow_is {n d k e : Int} {p q : Nat} (he : e = (p : Int) - q) (hk : 0 < k) (hd : 0 < d) (hg : Int.gcd n d = 1) (h : n * 2 ^ q = k * 2 ^ p * d) : powI k e = (n, d) := by
  obtain ⟨_, h2, h3⟩ := pow_pos (k := k) (e := e) hk
  have hv := pow_val (k := k) he
  refine low_uniq (n := (powI k e).1) (d := (powI k e).2) h2 hd h3 hg ?_
  refine Int.eq_of_mul_eq_mul_right (a := 2 ^ q) (by have := pow2_pos q; omega) ?_
  calc (powI k e).1 * d * 2 ^ q = (powI k e).1 * 2 ^ q * d := by grind
    _ = k * 2 ^ p * (powI k e).2 * d := by rw [hv]
    _ = n * 2 ^ q * (powI k e).2 := by rw [h]; grind
    _ = n * (powI k e).2 * 2 ^ q := by grind
/-- a threshold: a fraction, and to which side it goes there -/
structure Th where
  n : Int
  d : Int
  up : Bool
structure Th.Ok (t : Th) : Prop where
  n0 : 0 ≤ t.n
  nd : t.n ≤ t.d
  d0 : 0 < t.d
  z : t.n = 0 → t.up = false
  o : t.n = t.d → t.up = true
def Abv (x y : Int) (t : Th) : Prop := t.n * y < x * t.d ∨ (t.n * y = x * t.d ∧ t.up = true)
instance (x y : Int) (t : Th) : Decidable (Abv x y t) := by unfold Abv; infer_instance
theorem abv_zero {y : Int} {t : Th} (h : t.Ok) (hy : 0 < y) : ¬ Abv 0 y t := by
  unfold Abv
  rw [Int.zero_mul]
  rintro (q | ⟨q1, q2⟩)
  · have := Int.mul_nonneg h.n0 (Int.le_of_lt hy)
    omega
  · have : t.n = 0 := by
      rcases Int.mul_eq_zero.mp q1 with z | z
      · exact z
      · omega
    rw [h.z this] at q2
    cases q2
/-- rounding at width w by thresholds for even (false) and odd (true) cells -/
def thrI (n d w : Int) (T : Bool → Th) : Int × Int :=
  powI ((cellI n d w).1 + (if Abv (posI n d w).1 (posI n d w).2 (T (decide ((cellI n d w).1 % 2 = 1))) then 1 else 0)) (cellI n d w).2
def nev : Th := ⟨1, 1, true⟩
def alw : Th := ⟨0, 1, false⟩
def tieD : Th := ⟨1, 2, false⟩
def tieU : Th := ⟨1, 2, true⟩
def byR : Ru → Bool → Th
  | .dn, _ => nev
  | .hd, _ => tieD
  | .he, false => tieD
  | .he, true => tieU
  | .hu, _ => tieU
  | .od, false => alw
  | .od, true => nev
  | .up, _ => alw
theorem byR_ok (r : Ru) (b : Bool) : (byR r b).Ok := by
  cases r <;> cases b <;> exact ⟨by decide, by decide, by decide, by decide, by decide⟩
/-- the cell's own: p, q with e = p - q -/
theorem cell_pq {n d w : Int} (hn : 0 < n) (hd : 0 < d) (hw : 1 ≤ w) (p q : Nat) (h : (cellI n d w).2 = (p : Int) - q) :
    (cellI n d w).1 = n * 2 ^ q / (d * 2 ^ p) ∧ 2 ^ (w - 1).toNat ≤ (cellI n d w).1 ∧ (cellI n d w).1 < 2 ^ w.toNat ∧ posI n d w = low (n * 2 ^ q % (d * 2 ^ p)) (d * 2 ^ p) := by
  obtain ⟨c1, c2, c3, _⟩ := cellI_spec hn hd hw
  have e1 : (cellI n d w).1 = n * 2 ^ q / (d * 2 ^ p) := by
    rw [c1]
    generalize (cellI n d w).2 = e at h
    unfold scI
    generalize hA : (0 - e).toNat = A
    generalize hB : (-(0 - e)).toNat = B
    show n * 2 ^ A / (d * 2 ^ B) = _
    refine div_cross (Int.mul_pos hd (pow2_pos B)) (Int.mul_pos hd (pow2_pos p)) ?_
    have : (2 : Int) ^ A * 2 ^ p = 2 ^ q * 2 ^ B := by rw [← Int.pow_add, ← Int.pow_add]; congr 1; omega
    grind
  rw [e1] at c2 c3
  exact ⟨e1, by rw [e1]; exact c2, by rw [e1]; exact c3, (cell_at hn hd hw c2 c3).2⟩
theorem lowZ' {x y : Int} (hy : 0 < y) : (low x y).1 = 0 ↔ x = 0 := by
  have h := low_val (x := x) hy
  constructor
  · intro z
    rw [z, Int.zero_mul] at h
    rcases Int.mul_eq_zero.mp h.symm with q | q
    · exact q
    · exfalso
      have g0 := gcd_pos (a := x) hy
      have : (low x y).2 = y / (Int.gcd x y : Int) := rfl
      obtain ⟨v, hv⟩ : (Int.gcd x y : Int) ∣ y := Int.gcd_dvd_right x y
      rw [this] at q
      generalize (Int.gcd x y : Int) = g at *
      rw [hv, Int.mul_ediv_cancel_left _ (by omega)] at q
      subst q
      omega
  · rintro rfl
    show 0 / _ = _
    exact Int.zero_ediv _
/-- where the position is 0, it is the number itself -/
theorem pow_self {n d w : Int} (hn : 0 < n) (hd : 0 < d) (hg : Int.gcd n d = 1) (hw : 1 ≤ w) (h : (posI n d w).1 = 0) : powI (cellI n d w).1 (cellI n d w).2 = (n, d) := by
  obtain ⟨p, q, he⟩ : ∃ p q : Nat, (cellI n d w).2 = (p : Int) - q := ⟨((cellI n d w).2).toNat, (-(cellI n d w).2).toNat, by omega⟩
  obtain ⟨c1, c2, c3, c4⟩ := cell_pq hn hd hw p q he
  have hb := Int.mul_pos hd (pow2_pos p)
  rw [c4, lowZ' hb] at h
  refine pow_is he (Int.lt_of_lt_of_le (pow2_pos _) c2) hd hg ?_
  have := Int.emod_def (n * 2 ^ q) (d * 2 ^ p)
  rw [h, ← c1] at this
  grind
theorem thr_self {n d w : Int} {T : Bool → Th} (hT : ∀ b, (T b).Ok) (hn : 0 < n) (hd : 0 < d) (hg : Int.gcd n d = 1) (hw : 1 ≤ w) (h : (posI n d w).1 = 0) : thrI n d w T = (n, d) := by
  unfold thrI
  have y0 : 0 < (posI n d w).2 := by
    have q : ∃ x y : Int, 0 ≤ x ∧ 0 < y ∧ posI n d w = low x y := by
      obtain ⟨p, q, he⟩ : ∃ p q : Nat, (cellI n d w).2 = (p : Int) - q := ⟨((cellI n d w).2).toNat, (-(cellI n d w).2).toNat, by omega⟩
      obtain ⟨c1, c2, c3, c4⟩ := cell_pq hn hd hw p q he
      have hb := Int.mul_pos hd (pow2_pos p)
      exact ⟨_, _, Int.emod_nonneg _ (by omega), hb, c4⟩
    obtain ⟨x, y, hx, hy, e⟩ := q
    rw [e, lowZ' hy] at h
    subst h
    rw [e]
    show 0 < y / (Int.gcd 0 y : Int)
    rw [Int.gcd_zero_left]
    have : ((y.natAbs : Nat) : Int) = y := by omega
    rw [this, Int.ediv_self (by omega)]
    decide
  rw [h, if_neg (abv_zero (hT _) y0), Int.add_zero]
  exact pow_self hn hd hg hw h
/-- position: between 0 and 1 -/
theorem pos_rng {n d w : Int} (hn : 0 < n) (hd : 0 < d) (hw : 1 ≤ w) (h : (posI n d w).1 ≠ 0) : 0 < (posI n d w).1 ∧ (posI n d w).1 < (posI n d w).2 := by
  obtain ⟨p, q, he⟩ : ∃ p q : Nat, (cellI n d w).2 = (p : Int) - q := ⟨((cellI n d w).2).toNat, (-(cellI n d w).2).toNat, by omega⟩
  obtain ⟨c1, c2, c3, c4⟩ := cell_pq hn hd hw p q he
  have hb := Int.mul_pos hd (pow2_pos p)
  have m0 := Int.emod_nonneg (n * 2 ^ q) (show d * 2 ^ p ≠ 0 by omega)
  have m1 := Int.emod_lt_of_pos (n * 2 ^ q) hb
  rw [c4] at h ⊢
  have x0 : n * 2 ^ q % (d * 2 ^ p) ≠ 0 := fun z => h ((lowZ' hb).mpr z)
  generalize n * 2 ^ q % (d * 2 ^ p) = x at *
  generalize d * 2 ^ p = y at *
  obtain ⟨h1, h2, _⟩ := low_pos (n := x) (d := y) (by omega) hb
  have hv := low_val (x := x) hb
  refine ⟨h1, ?_⟩
  generalize low x y = z at *
  refine Int.lt_of_mul_lt_mul_right (a := y) ?_ (Int.le_of_lt hb)
  rw [hv, Int.mul_comm x]
  exact Int.mul_lt_mul_of_pos_left m1 h2
theorem goes_abv {k x y : Int} (r : Ru) (hx : 0 < x) (hy : x < y) : goesUp k x y r = true ↔ Abv x y (byR r (decide (k % 2 = 1))) := by
  have h2 : k % 2 = 0 ∨ k % 2 = 1 := by omega
  rcases h2 with h2 | h2 <;> cases r <;> simp only [goesUp, byR, h2, Abv, nev, alw, tieD, tieU] <;> simp <;> first | omega | (split <;> simp <;> omega) | skip
theorem thr_round {n d w : Int} (r : Ru) (hn : 0 < n) (hd : 0 < d) (hg : Int.gcd n d = 1) (hw : 1 ≤ w) : roundI n d w r = thrI n d w (byR r) := by
  by_cases h : (posI n d w).1 = 0
  · rw [thr_self (byR_ok r) hn hd hg hw h]
    unfold roundI endsI
    rw [if_pos h]
    split <;> rfl
  · obtain ⟨p1, p2⟩ := pos_rng hn hd hw h
    have ga := goes_abv (k := (cellI n d w).1) r p1 p2
    unfold roundI endsI thrI
    rw [if_neg h]
    by_cases hu : goesUp (cellI n d w).1 (posI n d w).1 (posI n d w).2 r = true
    · rw [if_pos hu, if_pos (ga.mp hu)]
    · rw [if_neg hu, if_neg (fun z => hu (ga.mpr z)), Int.add_zero]
/-- the last index that stays down -/
def lastI (r : Ru) (far : Nat) (b : Bool) : Int :=
  if (byR r b).up = false then (byR r b).n * 2 ^ far / (byR r b).d else (byR r b).n * 2 ^ far / (byR r b).d - 1
def combI (T : Bool → Th) (r : Ru) (far : Nat) (b : Bool) : Th :=
  ⟨(low (lastI r far b * (T (decide (lastI r far b % 2 = 1))).d + (T (decide (lastI r far b % 2 = 1))).n) ((T (decide (lastI r far b % 2 = 1))).d * 2 ^ far)).1,
   (low (lastI r far b * (T (decide (lastI r far b % 2 = 1))).d + (T (decide (lastI r far b % 2 = 1))).n) ((T (decide (lastI r far b % 2 = 1))).d * 2 ^ far)).2,
   (T (decide (lastI r far b % 2 = 1))).up⟩
theorem last_rng {r : Ru} {far : Nat} {b : Bool} (hf : 1 ≤ far) : 0 ≤ lastI r far b ∧ lastI r far b < 2 ^ far := by
  obtain ⟨f, rfl⟩ : ∃ f, far = f + 1 := ⟨far - 1, by omega⟩
  have e : (2 : Int) ^ (f + 1) = 2 * 2 ^ f := by rw [Int.pow_succ, Int.mul_comm]
  have p := pow2_pos f
  unfold lastI
  rw [e]
  generalize (2 : Int) ^ f = F at *
  cases r <;> cases b <;> simp only [byR, nev, alw, tieD, tieU] <;> simp <;> omega
theorem th_ok_low {n d : Int} {up : Bool} (hd : 0 < d) (h0 : 0 ≤ n) (h1 : n ≤ d) (z : n = 0 → up = false) (o : n = d → up = true) : Th.Ok ⟨(low n d).1, (low n d).2, up⟩ := by
  have h := low_val (x := n) hd
  obtain ⟨v, hv⟩ : (Int.gcd n d : Int) ∣ d := Int.gcd_dvd_right n d
  have g0 := gcd_pos (a := n) hd
  have l2 : 0 < (low n d).2 := by
    show 0 < d / (Int.gcd n d : Int)
    generalize (Int.gcd n d : Int) = g at *
    rw [hv, Int.mul_ediv_cancel_left _ (by omega)]
    rw [hv] at hd
    exact Int.pos_of_mul_pos_right hd g0
  have l1 : 0 ≤ (low n d).1 := Int.ediv_nonneg h0 (Int.le_of_lt g0)
  refine ⟨l1, ?_, l2, ?_, ?_⟩
  · show (low n d).1 ≤ (low n d).2
    refine Int.le_of_mul_le_mul_right (a := d) ?_ hd
    rw [h, Int.mul_comm (low n d).2]
    exact Int.mul_le_mul_of_nonneg_right h1 (Int.le_of_lt l2)
  · intro q
    replace q : (low n d).1 = 0 := q
    exact z ((lowZ' hd).mp q)
  · intro q
    replace q : (low n d).1 = (low n d).2 := q
    refine o ?_
    rw [q, Int.mul_comm] at h
    exact (Int.eq_of_mul_eq_mul_right (by omega) h).symm
theorem comb_ok {T : Bool → Th} (hT : ∀ b, (T b).Ok) {r : Ru} {far : Nat} (hf : 1 ≤ far) (bo : Bool) : (combI T r far bo).Ok := by
  have F0 := pow2_pos far
  obtain ⟨i0, i1⟩ := last_rng (r := r) (b := bo) hf
  unfold combI
  generalize hi : lastI r far bo = i at *
  have ht := hT (decide (i % 2 = 1))
  generalize hTi : T (decide (i % 2 = 1)) = t at ht
  have hd := ht.d0
  have hn := ht.n0
  have x := Int.mul_nonneg i0 (Int.le_of_lt hd)
  have y : i * t.d + t.d ≤ t.d * 2 ^ far := by
    have := Int.mul_le_mul_of_nonneg_right (show i + 1 ≤ 2 ^ far by omega) (Int.le_of_lt hd)
    rw [Int.add_mul, Int.mul_comm (2 ^ far)] at this
    omega
  have hnd := ht.nd
  refine th_ok_low (Int.mul_pos hd F0) (by omega) (by omega) (fun z => ht.z (by omega)) (fun z => ht.o (by omega))
structure Nu (n d : Int) : Prop where
  n0 : 0 < n
  d0 : 0 < d
  g : Int.gcd n d = 1
/-- (k 2^e), k from 2^(w-1) to 2^w: of width w -/
theorem pow_fits {s e w : Int} (hw : 1 ≤ w) (h1 : 2 ^ (w - 1).toNat ≤ s) (h2 : s ≤ 2 ^ w.toNat) : (posI (powI s e).1 (powI s e).2 w).1 = 0 := by
  obtain ⟨p, q, he⟩ : ∃ p q : Nat, e = (p : Int) - q := ⟨e.toNat, (-e).toNat, by omega⟩
  have s0 : 0 < s := Int.lt_of_lt_of_le (pow2_pos _) h1
  obtain ⟨y1, y2, y3⟩ := pow_pos (k := s) (e := e) s0
  have yv := pow_val (k := s) he
  generalize powI s e = y at *
  have dd : 0 < y.2 * 2 ^ p := Int.mul_pos y2 (pow2_pos _)
  by_cases hk1 : s < 2 ^ w.toNat
  · have d1 : y.1 * 2 ^ q / (y.2 * 2 ^ p) = s := by
      rw [yv, show s * 2 ^ p * y.2 = s * (y.2 * 2 ^ p) by grind, Int.mul_ediv_cancel _ (by omega)]
    have d2 : y.1 * 2 ^ q % (y.2 * 2 ^ p) = 0 := by
      rw [Int.emod_def, d1, yv]
      grind
    obtain ⟨u1, u2⟩ := cell_at (n := y.1) (d := y.2) (w := w) (p := p) (q := q) y1 y2 hw (by rw [d1]; omega) (by rw [d1]; exact hk1)
    rw [u2, d2]
    exact (lowZ' dd).mpr rfl
  · have hk2 : s = 2 ^ w.toNat := by omega
    have ew : w.toNat = (w - 1).toNat + 1 := by omega
    have dd2 : 0 < y.2 * 2 ^ (p + 1) := Int.mul_pos y2 (pow2_pos _)
    have yv3 : y.1 * 2 ^ q = 2 ^ (w - 1).toNat * (y.2 * 2 ^ (p + 1)) := by
      rw [yv, hk2, ew, Int.pow_succ, Int.pow_succ]
      grind
    have d1 : y.1 * 2 ^ q / (y.2 * 2 ^ (p + 1)) = 2 ^ (w - 1).toNat := by
      rw [yv3, Int.mul_ediv_cancel _ (by omega)]
    have d2 : y.1 * 2 ^ q % (y.2 * 2 ^ (p + 1)) = 0 := by
      rw [Int.emod_def, d1, yv3]
      grind
    obtain ⟨u1, u2⟩ := cell_at (n := y.1) (d := y.2) (w := w) (p := p + 1) (q := q) y1 y2 hw (by rw [d1]; omega) (by rw [d1, ew, Int.pow_succ]; have := pow2_pos (w - 1).toNat; omega)
    rw [u2, d2]
    exact (lowZ' dd2).mpr rfl
theorem thr_step {n d w : Int} (T : Bool → Th) (h : Nu n d) (hw : 1 ≤ w) : ∃ s, thrI n d w T = powI s (cellI n d w).2 ∧ 2 ^ (w - 1).toNat ≤ s ∧ s ≤ 2 ^ w.toNat ∧ (s = (cellI n d w).1 ∨ s = (cellI n d w).1 + 1) := by
  obtain ⟨_, c2, c3, _⟩ := cellI_spec h.n0 h.d0 hw
  refine ⟨_, rfl, ?_, ?_, ?_⟩ <;> split <;> omega
theorem thr_nu {n d w : Int} (T : Bool → Th) (h : Nu n d) (hw : 1 ≤ w) : Nu (thrI n d w T).1 (thrI n d w T).2 ∧ (posI (thrI n d w T).1 (thrI n d w T).2 w).1 = 0 := by
  obtain ⟨s, e, h1, h2, _⟩ := thr_step T h hw
  rw [e]
  obtain ⟨y1, y2, y3⟩ := pow_pos (k := s) (e := (cellI n d w).2) (Int.lt_of_lt_of_le (pow2_pos _) h1)
  exact ⟨⟨y1, y2, y3⟩, pow_fits hw h1 h2⟩
theorem round_nu {n d w : Int} (r : Ru) (h : Nu n d) (hw : 1 ≤ w) : Nu (roundI n d w r).1 (roundI n d w r).2 ∧ (posI (roundI n d w r).1 (roundI n d w r).2 w).1 = 0 := by
  rw [thr_round r h.n0 h.d0 h.g hw]
  exact thr_nu _ h hw
theorem fits_mono {n d w w' : Int} (h : Nu n d) (hw : 1 ≤ w) (hl : w ≤ w') (f : (posI n d w).1 = 0) : (posI n d w').1 = 0 := by
  rw [pos_lw h.n0 h.d0 h.g hw] at f
  rw [pos_lw h.n0 h.d0 h.g (by omega)]
  exact ⟨f.1, by omega⟩
theorem round_self {n d w : Int} (r : Ru) (f : (posI n d w).1 = 0) : roundI n d w r = (n, d) := by
  unfold roundI endsI
  rw [if_pos f]
  split <;> rfl
def applI (n d : Int) : List (Int × Ru) → Int × Int
  | [] => (n, d)
  | s :: c => applI (roundI n d s.1 s.2).1 (roundI n d s.1 s.2).2 c
def stagI (n d : Int) : List (Int × Ru) → List (Int × Int)
  | [] => []
  | s :: c => roundI n d s.1 s.2 :: stagI (roundI n d s.1 s.2).1 (roundI n d s.1 s.2).2 c
def trimI : Option Int → List (Int × Ru) → List (Int × Ru)
  | _, [] => []
  | none, s :: c => s :: trimI (some s.1) c
  | some l, s :: c => if s.1 < l then s :: trimI (some s.1) c else trimI (some l) c
/-- a chain's widths -/
def Wds (c : List (Int × Ru)) : Prop := ∀ s ∈ c, 1 ≤ s.1 ∧ s.1 ≤ 100
theorem Wds.hd {s : Int × Ru} {c : List (Int × Ru)} (h : Wds (s :: c)) : 1 ≤ s.1 ∧ s.1 ≤ 100 := h s (List.mem_cons_self ..)
theorem Wds.tl {s : Int × Ru} {c : List (Int × Ru)} (h : Wds (s :: c)) : Wds c := fun t ht => h t (List.mem_cons_of_mem _ ht)
theorem trim_some {l : Int} (hl : 1 ≤ l) : ∀ {c : List (Int × Ru)} {n d : Int}, Wds c → Nu n d → (posI n d l).1 = 0 → applI n d c = applI n d (trimI (some l) c)
  | [], _, _, _, _, _ => rfl
  | s :: c, n, d, hw, h, f => by
    obtain ⟨r1, r2⟩ := round_nu s.2 h hw.hd.1
    unfold trimI
    by_cases q : s.1 < l
    · rw [if_pos q]
      show applI _ _ c = applI _ _ (trimI (some s.1) c)
      exact trim_some hw.hd.1 hw.tl r1 r2
    · rw [if_neg q]
      show applI (roundI n d s.1 s.2).1 (roundI n d s.1 s.2).2 c = _
      rw [round_self s.2 (fits_mono h hl (by omega) f)]
      exact trim_some hl hw.tl h f
theorem trim_law {c : List (Int × Ru)} {n d : Int} (hw : Wds c) (h : Nu n d) : applI n d c = applI n d (trimI none c) := by
  cases c with
  | nil => rfl
  | cons s c =>
    obtain ⟨r1, r2⟩ := round_nu s.2 h hw.hd.1
    exact trim_some hw.hd.1 hw.tl r1 r2
def Fall (w : Int) : List (Int × Ru) → Prop
  | [] => True
  | s :: c => 1 ≤ s.1 ∧ s.1 < w ∧ Fall s.1 c
theorem trim_fall : ∀ {c : List (Int × Ru)} {l : Int}, Wds c → Fall l (trimI (some l) c)
  | [], _, _ => trivial
  | s :: c, l, hw => by
    unfold trimI
    by_cases q : s.1 < l
    · rw [if_pos q]
      exact ⟨hw.hd.1, q, trim_fall hw.tl⟩
    · rw [if_neg q]
      exact trim_fall hw.tl
def thF (w : Int) (T : Bool → Th) : List (Int × Ru) → Int × (Bool → Th)
  | [] => (w, T)
  | s :: c => thF s.1 (combI T s.2 (w - s.1).toNat) c
/-- the whole chain by thresholds -/
def chT : List (Int × Ru) → Int × (Bool → Th)
  | [] => (1, byR .dn)
  | s :: c => thF s.1 (byR s.2) (trimI (some s.1) c)
/-- its width: the least -/
theorem thF_min : ∀ {c : List (Int × Ru)} {w : Int} {T : Bool → Th}, (thF w T (trimI (some w) c)).1 ≤ w ∧ (∀ s ∈ c, (thF w T (trimI (some w) c)).1 ≤ s.1) ∧ ((thF w T (trimI (some w) c)).1 = w ∨ ∃ s ∈ c, (thF w T (trimI (some w) c)).1 = s.1)
  | [], w, T => by
    have e : (thF w T (trimI (some w) [])).1 = w := rfl
    refine ⟨by omega, fun s hs => absurd hs (by simp), .inl e⟩
  | s :: c, w, T => by
    unfold trimI
    by_cases q : s.1 < w
    · rw [if_pos q]
      show (thF s.1 _ _).1 ≤ w ∧ (∀ s' ∈ s :: c, (thF s.1 _ _).1 ≤ s'.1) ∧ ((thF s.1 _ _).1 = w ∨ ∃ s' ∈ s :: c, (thF s.1 _ _).1 = s'.1)
      obtain ⟨h1, h2, h3⟩ := thF_min (c := c) (w := s.1) (T := combI T s.2 (w - s.1).toNat)
      refine ⟨by omega, fun s' hs' => ?_, .inr ?_⟩
      · rcases List.mem_cons.mp hs' with rfl | hs'
        · exact h1
        · exact h2 _ hs'
      · rcases h3 with h3 | ⟨s', hs', h3⟩
        · exact ⟨s, List.mem_cons_self .., h3⟩
        · exact ⟨s', List.mem_cons_of_mem _ hs', h3⟩
    · rw [if_neg q]
      obtain ⟨h1, h2, h3⟩ := thF_min (c := c) (w := w) (T := T)
      refine ⟨h1, fun s' hs' => ?_, ?_⟩
      · rcases List.mem_cons.mp hs' with rfl | hs'
        · omega
        · exact h2 _ hs'
      · rcases h3 with h3 | ⟨s', hs', h3⟩
        · exact .inl h3
        · exact .inr ⟨s', List.mem_cons_of_mem _ hs', h3⟩
theorem chT_min {c : List (Int × Ru)} (hc : c ≠ []) : (∀ s ∈ c, (chT c).1 ≤ s.1) ∧ ∃ s ∈ c, (chT c).1 = s.1 := by
  cases c with
  | nil => exact absurd rfl hc
  | cons s c =>
    obtain ⟨h1, h2, h3⟩ := thF_min (c := c) (w := s.1) (T := byR s.2)
    refine ⟨fun s' hs' => ?_, ?_⟩
    · rcases List.mem_cons.mp hs' with rfl | hs'
      · exact h1
      · exact h2 _ hs'
    · rcases h3 with h3 | ⟨s', hs', h3⟩
      · exact ⟨s, List.mem_cons_self .., h3⟩
      · exact ⟨s', List.mem_cons_of_mem _ hs', h3⟩
/-- how great a threshold's denominator is; in lowest terms -/
theorem low_gcd {n d : Int} (hd : 0 < d) : Int.gcd (low n d).1 (low n d).2 = 1 ∧ 0 < (low n d).2 ∧ (low n d).2 ≤ d := by
  obtain ⟨u, hu⟩ : (Int.gcd n d : Int) ∣ n := Int.gcd_dvd_left n d
  obtain ⟨v, hv⟩ : (Int.gcd n d : Int) ∣ d := Int.gcd_dvd_right n d
  have g0 := gcd_pos (a := n) hd
  have e : low n d = (u, v) := by
    unfold low
    refine Prod.ext ?_ ?_
    · show n / (Int.gcd n d : Int) = u
      generalize (Int.gcd n d : Int) = g at *
      rw [hu, Int.mul_ediv_cancel_left _ (by omega)]
    · show d / (Int.gcd n d : Int) = v
      generalize (Int.gcd n d : Int) = g at *
      rw [hv, Int.mul_ediv_cancel_left _ (by omega)]
  have g1 : (Int.gcd n d) = (Int.gcd n d) * Int.gcd u v := by
    have h := Int.gcd_mul_left (Int.gcd n d : Int) u v
    rw [← hu, ← hv] at h
    simpa using h
  rw [e]
  refine ⟨?_, ?_, ?_⟩
  · have : 0 < Int.gcd n d := by omega
    show Int.gcd u v = 1
    have h2 : Int.gcd n d * 1 = Int.gcd n d * Int.gcd u v := by rw [Nat.mul_one]; exact g1
    exact (Nat.eq_of_mul_eq_mul_left this h2).symm
  · show 0 < v
    generalize (Int.gcd n d : Int) = g at *
    rw [hv] at hd
    exact Int.pos_of_mul_pos_right hd g0
  · show v ≤ d
    have v0 : 0 < v := by
      generalize (Int.gcd n d : Int) = g at *
      rw [hv] at hd
      exact Int.pos_of_mul_pos_right hd g0
    have : 1 * v ≤ (Int.gcd n d : Int) * v := Int.mul_le_mul_of_nonneg_right (by omega) (Int.le_of_lt v0)
    rw [← hv] at this
    omega
structure ThB (m : Nat) (T : Bool → Th) : Prop where
  ok : ∀ b, (T b).Ok
  g : ∀ b, Int.gcd (T b).n (T b).d = 1
  l : ∀ b, (T b).d ≤ 2 ^ m
theorem byR_B (r : Ru) : ThB 1 (byR r) := ⟨byR_ok r, fun b => by cases r <;> cases b <;> decide, fun b => by cases r <;> cases b <;> decide⟩
theorem comb_B {m far : Nat} {T : Bool → Th} {r : Ru} (h : ThB m T) (hf : 1 ≤ far) : ThB (m + far) (combI T r far) := by
  refine ⟨comb_ok h.ok hf, fun b => ?_, fun b => ?_⟩
  · exact (low_gcd (Int.mul_pos (h.ok _).d0 (pow2_pos far))).1
  · refine Int.le_trans (low_gcd (Int.mul_pos (h.ok _).d0 (pow2_pos far))).2.2 ?_
    rw [Int.pow_add]
    exact Int.mul_le_mul_of_nonneg_right (h.l _) (Int.le_of_lt (pow2_pos far))
theorem thF_B : ∀ {c : List (Int × Ru)} {w : Int} {m : Nat} {T : Bool → Th}, ThB m T → Fall w c → 1 ≤ w → ∃ m' : Nat, ThB m' (thF w T c).2 ∧ (m' : Int) ≤ m + w ∧ 1 ≤ (thF w T c).1 ∧ (thF w T c).1 ≤ w
  | [], w, m, T, h, _, hw => ⟨m, h, by omega, hw, Int.le_refl _⟩
  | s :: c, w, m, T, h, hf, hw => by
    obtain ⟨f1, f2, f3⟩ := hf
    obtain ⟨m', h1, h2, h3, h4⟩ := thF_B (c := c) (comb_B (r := s.2) (far := (w - s.1).toNat) h (by omega)) f3 f1
    exact ⟨m', h1, by omega, h3, by show (thF s.1 _ c).1 ≤ w; omega⟩
theorem ThB.mono {m m' : Nat} {T : Bool → Th} (h : ThB m T) (hm : m ≤ m') : ThB m' T := ⟨h.ok, h.g, fun b => Int.le_trans (h.l b) (pow_le2 hm)⟩
theorem chT_B {c : List (Int × Ru)} (hc : c ≠ []) (hw : Wds c) : ThB 101 (chT c).2 ∧ 1 ≤ (chT c).1 ∧ (chT c).1 ≤ 100 := by
  cases c with
  | nil => exact absurd rfl hc
  | cons s c =>
    obtain ⟨h1, h2⟩ := hw.hd
    obtain ⟨m, k1, k2, k3, k4⟩ := thF_B (byR_B s.2) (trim_fall (l := s.1) hw.tl) h1
    exact ⟨k1.mono (by omega), k3, by show (thF s.1 _ _).1 ≤ 100; omega⟩
structure Vb (a : Nat) (n d : Int) : Prop where
  hi : n ≤ d * 2 ^ a
  lo : d ≤ n * 2 ^ a
theorem vb_e {n d w : Int} {a : Nat} (h : Nu n d) (v : Vb a n d) (h1 : 1 ≤ w) (h2 : w ≤ 100) : -(a : Int) - 100 ≤ (cellI n d w).2 ∧ (cellI n d w).2 ≤ a := by
  obtain ⟨p, q, he⟩ : ∃ p q : Nat, (cellI n d w).2 = (p : Int) - q := ⟨((cellI n d w).2).toNat, (-(cellI n d w).2).toNat, by omega⟩
  obtain ⟨c1, c2, c3, c4⟩ := cell_pq h.n0 h.d0 h1 p q he
  have hb := Int.mul_pos h.d0 (pow2_pos p)
  have hd := h.d0
  rw [c1] at c2 c3
  have x1 := (Int.le_ediv_iff_mul_le hb).mp c2
  have x2 := (Int.ediv_lt_iff_lt_mul hb).mp c3
  have y1 : (w - 1).toNat + p < a + q + 1 := by
    refine pow_lt_pow2 ?_
    refine Int.lt_of_mul_lt_mul_left (a := d) ?_ (Int.le_of_lt hd)
    have := Int.mul_le_mul_of_nonneg_right v.hi (Int.le_of_lt (pow2_pos q))
    have z := Int.mul_pos hd (pow2_pos (a + q))
    rw [Int.pow_succ, Int.pow_add]
    rw [Int.pow_add] at z ⊢
    grind
  have y2 : q < w.toNat + p + a := by
    refine pow_lt_pow2 ?_
    refine Int.lt_of_mul_lt_mul_left (a := d) ?_ (Int.le_of_lt hd)
    have := Int.mul_le_mul_of_nonneg_right v.lo (Int.le_of_lt (pow2_pos q))
    have z := Int.mul_lt_mul_of_pos_right x2 (pow2_pos a)
    rw [Int.pow_add, Int.pow_add]
    grind
  omega
theorem vb_round {n d w : Int} {a : Nat} (r : Ru) (h : Nu n d) (v : Vb a n d) (h1 : 1 ≤ w) : Vb a (roundI n d w r).1 (roundI n d w r).2 := by
  by_cases f : (posI n d w).1 = 0
  · rw [round_self r f]
    exact v
  rw [thr_round r h.n0 h.d0 h.g h1]
  obtain ⟨s, e, s1, s2, s3⟩ := thr_step (byR r) h h1
  obtain ⟨p, q, he⟩ : ∃ p q : Nat, (cellI n d w).2 = (p : Int) - q := ⟨((cellI n d w).2).toNat, (-(cellI n d w).2).toNat, by omega⟩
  obtain ⟨c1, c2, c3, c4⟩ := cell_pq h.n0 h.d0 h1 p q he
  have hb := Int.mul_pos h.d0 (pow2_pos p)
  have hd := h.d0
  have P0 := pow2_pos p
  have Q0 := pow2_pos q
  obtain ⟨y1, y2, y3⟩ := pow_pos (k := s) (e := (cellI n d w).2) (Int.lt_of_lt_of_le (pow2_pos _) s1)
  have yv := pow_val (k := s) he
  rw [e]
  generalize powI s (cellI n d w).2 = y at *
  rw [c4, lowZ' hb] at f
  have m0 := Int.emod_nonneg (n * 2 ^ q) (show d * 2 ^ p ≠ 0 by omega)
  have hm := Int.emod_def (n * 2 ^ q) (d * 2 ^ p)
  rw [← c1] at hm
  have x2 := (Int.ediv_lt_iff_lt_mul hb).mp (by rw [← c1]; exact c3)
  generalize hk : (cellI n d w).1 = k at *
  have ew : w.toNat = (w - 1).toNat + 1 := by omega
  constructor
  · have u1 : (w - 1).toNat + p < a + q := by
      refine pow_lt_pow2 ?_
      refine Int.lt_of_mul_lt_mul_left (a := d) ?_ (Int.le_of_lt hd)
      have z1 := Int.mul_le_mul_of_nonneg_right v.hi (Int.le_of_lt Q0)
      have z2 := Int.mul_le_mul_of_nonneg_right c2 (Int.le_of_lt hb)
      rw [Int.pow_add, Int.pow_add]
      grind
    have u2 : (2 : Int) ^ w.toNat * 2 ^ p ≤ 2 ^ a * 2 ^ q := by
      rw [← Int.pow_add, ← Int.pow_add]
      exact pow_le2 (by omega)
    have u3 := Int.mul_le_mul_of_nonneg_right s2 (Int.le_of_lt P0)
    have u4 := Int.mul_le_mul_of_nonneg_right (Int.le_trans u3 u2) (Int.le_of_lt y2)
    refine Int.le_of_mul_le_mul_right (a := 2 ^ q) ?_ Q0
    rw [yv]
    grind
  · have u1 : q < w.toNat + p + a := by
      refine pow_lt_pow2 ?_
      refine Int.lt_of_mul_lt_mul_left (a := d) ?_ (Int.le_of_lt hd)
      have := Int.mul_le_mul_of_nonneg_right v.lo (Int.le_of_lt Q0)
      have z := Int.mul_lt_mul_of_pos_right x2 (pow2_pos a)
      rw [Int.pow_add, Int.pow_add]
      grind
    have u2 : (2 : Int) ^ q ≤ 2 ^ (w - 1).toNat * 2 ^ p * 2 ^ a := by
      rw [← Int.pow_add, ← Int.pow_add]
      exact pow_le2 (by omega)
    have u3 := Int.mul_le_mul_of_nonneg_right (Int.mul_le_mul_of_nonneg_right s1 (Int.le_of_lt P0)) (Int.le_of_lt (pow2_pos a))
    have u4 := Int.mul_le_mul_of_nonneg_right (Int.le_trans u2 u3) (Int.le_of_lt y2)
    refine Int.le_of_mul_le_mul_right (a := 2 ^ q) ?_ Q0
    rw [show y.1 * 2 ^ a * 2 ^ q = y.1 * 2 ^ q * 2 ^ a by grind, yv]
    grind
end Z
namespace Z
open L2 PySem PySem.Spec PyProof.Rows
open Evl (Ex ex_l ex_t ex_rd fresh_back)
def fInD (neg : Bool) : BinF := fun d e post => match e with
  | .tuple es => SeqAt.shaped d = true ∧ SeqAt.shaped (.tuple es) = true ∧ post (.bool (if neg then !inD d es else inD d es))
  | .list es => SeqAt.shaped d = true ∧ SeqAt.shaped (.list es) = true ∧ post (.bool (if neg then !inD d es else inD d es))
  | _ => False
def rInX (K : Fg) (neg : Bool) : R2 := fun x y H Q => ∃ d e es, Dp K H x d ∧ Dp K H y e ∧ (e = .list es ∨ e = .tuple es) ∧ SeqAt.shaped d = true ∧ SeqAt.shaped e = true ∧ Q (.bl (if neg then !inD d es else inD d es)) H
section
variable {X : Cx} {a b : Expr} {ta tb : DE} {pos : Pos}
theorem op_notInX (hu : X.A.units + 65 < cLine) : OpR X (compareOp .NotIn) (rInX X.K true) := by
  intro pins s σ H x y v u Q I rx ry h
  obtain ⟨d, e, es, hd, he, ht, sd, se, q⟩ := h
  obtain ⟨as, r1⟩ := Dp.reads I d x v hd rx
  obtain ⟨bs, r2⟩ := Dp.reads I e y u he ry
  rcases ht with rfl | rfl
  · exact SeqAt.notIn_list_reads r2 r1 (SeqAt.canLay_of_shaped se) (SeqAt.canLay_of_shaped sd) (room_in_shaped sd hu) ⟨.bl _, H, I, rfl, q⟩
  · exact SeqAt.notIn_tuple_reads r2 r1 (SeqAt.canLay_of_shaped se) (SeqAt.canLay_of_shaped sd) (room_in_shaped sd hu) ⟨.bl _, H, I, rfl, q⟩
theorem ok_inX {K : Fg} {neg : Bool} : BinOk K (rInX K neg) (fInD neg) := fun F H x y d e post Q hx r1 r2 hf k => by
  cases e with
  | tuple es =>
    obtain ⟨h1, h2, h3⟩ := hf
    exact ⟨d, _, es, r1.dp hx d x (shaped_lay h1), r2.dp hx _ y (shaped_lay h2), .inr rfl, h1, h2, k _ _ H F h3 (Gr.refl hx) (.bl _)⟩
  | list es =>
    obtain ⟨h1, h2, h3⟩ := hf
    exact ⟨d, _, es, r1.dp hx d x (shaped_lay h1), r2.dp hx _ y (shaped_lay h2), .inl rfl, h1, h2, k _ _ H F h3 (Gr.refl hx) (.bl _)⟩
  | _ => exact hf.elim
theorem Room.units1 {k : Nat} {A : Around} (r : Room k A) : A.units + 65 < cLine := by have := r.un; omega
theorem t_notinX {k : Nat} (hr : Room k X.A) (ha : PE X a (up X.K ta)) (hb : PE X b (up X.K tb)) (hm : behindInMarks .NotIn b = false := by rfl) : PT X (.Compare a [.NotIn] [b] pos) (upT X.K (dTest (dBin (fInD true) ta tb))) := t_cmp (op_notInX (Room.units1 hr)) ok_inX ha hb hm
end
theorem lc_mapT {sl : List (Option Sv)} {t : DG} {te : DE} (f : Da → Da) {Q : List Da → Option Nat → Prop} {fu : Option Nat} : ∀ {ds acc : List Da},
    (∀ x ∈ ds, ∀ (R : Rv → Gs → Prop) (N : Gs → Prop), (∀ g3 : Gs, g3.fu = fu → R (.val (f x)) g3) → t (.val x) ⟨sl, fu, false⟩ fun g1 => (true = true → te g1 R) ∧ (true = false → N g1)) → acc.length + ds.length ≤ 1000000 → Q (acc ++ ds.map f) fu → lcD sl t dYes te ds acc fu Q
  | [], acc, _, _, h => by rw [List.map_nil, List.append_nil] at h; exact h
  | x :: xs, acc, hs, hl, h => by
    have ih : lcD sl t dYes te xs (acc ++ [f x]) fu Q := lc_mapT f (fun y hy => hs y (List.mem_cons_of_mem _ hy)) (by rw [List.length_cons] at hl; rw [List.length_append, List.length_cons, List.length_nil]; omega) (by rw [List.append_assoc]; exact h)
    exact hs x List.mem_cons_self (fun r g3 => match r with
      | .val d => acc.length < 1000000 ∧ lcD sl t dYes te xs (acc ++ [d]) (fuN fu g3.fu) Q
      | _ => False) (fun g2 => lcD sl t dYes te xs acc (fuN fu g2.fu) Q) (fun g3 e => ⟨by rw [List.length_cons] at hl; omega, by rw [e, fuN_self]; exact ih⟩)
def stD (s : Int × Ru) : Da := .tuple [.int s.1, .str s.2.s]
def chD (c : List (Int × Ru)) : Da := .tuple (c.map stD)
theorem ru_ok (r : Ru) : PyData.strOk r.s = true := by cases r <;> decide +kernel
end Z
namespace Z
open L2 PySem PySem.Spec PyProof.Rows
open Evl (Ex ex_l ex_t ex_rd fresh_back)
theorem powB2 {k e : Int} {a : Nat} (hk : 0 < k) (bk : Bn 102 k) (h1 : -(a : Int) - 100 ≤ e) (h2 : e ≤ a) : 0 < (powI k e).1 ∧ 0 < (powI k e).2 ∧ Int.gcd (powI k e).1 (powI k e).2 = 1 ∧ Bn (a + 300) (powI k e).1 ∧ Bn (a + 300) (powI k e).2 := by
  obtain ⟨p, q⟩ := scI_pos (f := e) hk (show (0 : Int) < 1 by decide)
  obtain ⟨h3, h4, h5, h6, h7⟩ := low_pos p q
  have b1 : Bn (a + 300) (scI k 1 e).1 := (shlB bk).mono (by omega)
  have b2 : Bn (a + 300) (scI k 1 e).2 := (shlB (Bn.small (m := 64) (i := 1) (by decide) (by decide) (by decide))).mono (by omega)
  exact ⟨h3, h4, h5, b1.le (Int.le_of_lt h3) h6, b2.le (Int.le_of_lt h4) h7⟩
/-- a number of values from 2^-a to 2^a -/
structure NuB (a : Nat) (n d : Int) : Prop where
  nu : Nu n d
  v : Vb a n d
  bn : Bn (a + 300) n
  bd : Bn (a + 300) d
theorem bn_le {a : Nat} {n : Int} (h : Bn a n) (h0 : 0 < n) : n ≤ 2 ^ a := by
  have h1 := h.lt
  have e : ((2 ^ a : Nat) : Int) = (2 : Int) ^ a := by norm_cast
  omega
theorem NuB.of {a : Nat} {n d : Int} (hn : 0 < n) (hd : 0 < d) (hg : Int.gcd n d = 1) (bn : Bn a n) (bd : Bn a d) : NuB a n d := by
  have x := bn_le bn hn
  have y := bn_le bd hd
  have p := pow2_pos a
  refine ⟨⟨hn, hd, hg⟩, ⟨?_, ?_⟩, bn.mono (by omega), bd.mono (by omega)⟩
  · have := Int.mul_le_mul_of_nonneg_right (show 1 ≤ d by omega) (Int.le_of_lt p)
    omega
  · have := Int.mul_le_mul_of_nonneg_right (show 1 ≤ n by omega) (Int.le_of_lt p)
    omega
theorem NuB.mono {a b : Nat} {n d : Int} (h : NuB a n d) (hab : a ≤ b) : NuB b n d := by
  have p := pow_le2 hab
  have x := Int.mul_le_mul_of_nonneg_left p (Int.le_of_lt h.nu.d0)
  have y := Int.mul_le_mul_of_nonneg_left p (Int.le_of_lt h.nu.n0)
  have := h.v.hi
  have := h.v.lo
  exact ⟨h.nu, ⟨by omega, by omega⟩, h.bn.mono (by omega), h.bd.mono (by omega)⟩
theorem NuB.round {a : Nat} {n d w : Int} (h : NuB a n d) (r : Ru) (h1 : 1 ≤ w) (h2 : w ≤ 100) : NuB a (roundI n d w r).1 (roundI n d w r).2 := by
  have hv := vb_round r h.nu h.v h1
  have hn := (round_nu r h.nu h1).1
  by_cases f : (posI n d w).1 = 0
  · rw [round_self r f]
    exact h
  obtain ⟨e1, e2⟩ := vb_e h.nu h.v h1 h2
  obtain ⟨s, e, s1, s2, s3⟩ := thr_step (byR r) h.nu h1
  refine ⟨hn, hv, ?_, ?_⟩ <;> rw [thr_round r h.nu.n0 h.nu.d0 h.nu.g h1, e]
  all_goals
    have s0 : 0 < s := Int.lt_of_lt_of_le (pow2_pos _) s1
    have bs : Bn 102 s := (Bn.pow2 (n := w.toNat) (m := 102) (by omega)).le (Int.le_of_lt s0) s2
    obtain ⟨_, _, _, b1, b2⟩ := powB2 s0 bs e1 e2
  · exact b1
  · exact b2
structure Chn1 (c : List (Int × Ru)) : Prop where
  ne : c ≠ []
  len : c.length ≤ 12
  w : Wds c
end Z
namespace Z
open L2 PySem PySem.Spec PyProof.Rows
open Evl (Ex ex_l ex_t ex_rd fresh_back)
def sdS : Bool → Str
  | true => "up"
  | false => "down"
def thD (t : Th) : Da := .tuple [num t.n t.d, .str (sdS t.up)]
def prF (T : Bool → Th) : Da := .tuple [thD (T false), thD (T true)]
def prD (w : Int) (T : Bool → Th) : Da := .tuple [if w = 1 then .none else thD (T false), thD (T true)]
theorem sd_ok (b : Bool) : PyData.strOk (sdS b) = true := by cases b <;> decide +kernel
theorem shaped_sd (b : Bool) : SeqAt.shaped (.str (sdS b)) = true := by cases b <;> decide +kernel
theorem shaped_up : SeqAt.shaped (.str "up") = true := shaped_sd true
theorem shaped_dn : SeqAt.shaped (.str "down") = true := shaped_sd false
theorem eqv_up (b : Bool) : (PyData.str (sdS b)).eqv (.str "up") = b := by cases b <;> decide +kernel
theorem eqv_dn (b : Bool) : (PyData.str (sdS b)).eqv (.str "down") = !b := by cases b <;> decide +kernel
theorem dec_up (b : Bool) : (sdS b = ("up" : Str)) ↔ b = true := by cases b <;> decide +kernel
theorem dec_dn (b : Bool) : (sdS b = ("down" : Str)) ↔ b = false := by cases b <;> decide +kernel
theorem atI_par {α : Type} {x y : α} {i : Int} (h0 : 0 ≤ i) (h1 : i ≤ 1) : atI [x, y] i = some (if i = 1 then y else x) := by
  by_cases h : i = 1
  · subst h; rfl
  · have : i = 0 := by omega
    subst this; rfl
theorem mod2 (k : Int) : 0 ≤ k % 2 ∧ k % 2 ≤ 1 := by omega
theorem pick_par {T : Bool → Th} {k : Int} : atI [thD (T false), thD (T true)] (k % 2) = some (thD (T (decide (k % 2 = 1)))) := by
  rw [atI_par (mod2 k).1 (mod2 k).2]
  by_cases h : k % 2 = 1
  · rw [if_pos h, decide_eq_true h]
  · rw [if_neg h, decide_eq_false h]
theorem Bn.leP {m : Nat} {i : Int} (h0 : 0 ≤ i) (h : i ≤ 2 ^ m) : Bn (m + 1) i := (Bn.pow2 (n := m) (m := m + 1) (by omega)).le h0 h
theorem ThB.bn {m : Nat} {T : Bool → Th} (h : ThB m T) (b : Bool) : Bn (m + 1) (T b).n ∧ Bn (m + 1) (T b).d :=
  ⟨Bn.leP (h.ok b).n0 (Int.le_trans (h.ok b).nd (h.l b)), Bn.leP (Int.le_of_lt (h.ok b).d0) (h.l b)⟩
end Z
namespace Z
open L2 PySem PySem.Spec PyProof.Rows
open Evl (Ex ex_l ex_t ex_rd fresh_back)
theorem kdct_of2 {K : Fg} {w : World} {a : Addr} {es : Array DictEntry} {n : Nat} {x : Str} {u : Value} {v : V} (h : K.lookup a = some ⟨.type "dict", none, .dict es n, #[]⟩) (hk : PySem.W.KeysLit w.params es.toList) (hx : PySem.W.nsIn K a x = some (some u)) (r : RelV v u) : KDct K w a x v :=
  ⟨es, n, u, h, hk, hx, r⟩
end Z
namespace Z
open L2 PySem PySem.Spec PyProof.Rows
open Evl (Ex ex_l ex_t ex_rd fresh_back)
end Z
namespace Z
open L2 PySem PySem.Spec PyProof.Rows
open Evl (Ex ex_l ex_t ex_rd fresh_back)
variable {Wx : WX}
def fAddT : BinF := fun d e post => match d, e with
  | .tuple xs, .tuple ys => xs.length + ys.length ≤ sizeLine ∧ post (.tuple (xs ++ ys))
  | _, _ => False
def dSlT (ta : DE) (tl th : DO) : DE := fun g Q => ta g fun x g1 => tl g1 fun lo g2 => th g2 fun hi g3 => match x with
  | .val (.tuple ds) => Q (.val (.tuple (cutD ds lo hi))) g3
  | _ => False
def dParR (i j : Nat) (te : DE) (tl : DL) : DS := fun d g => te g fun r g1 => tl g1 fun ds g2 => d.nx ((g2.set j (.own ds)).set i (rsv r))
section
variable {X : Cx} {a b : Expr} {ta tb : DE} {pos : Pos}
theorem e_addT (ha : PE X a (up X.K ta)) (hb : PE X b (up X.K tb)) : PE X (.BinOp a .Add b pos) (up X.K (dBin fAddT ta tb)) := by
  refine e_bin op_catA ?_ ha hb
  intro F H x y d e post Q hx r1 r2 hf k
  cases d with
  | tuple ds =>
    cases e with
    | tuple es =>
      cases r1 with
      | tup s1 m1 =>
        cases r2 with
        | tup s2 m2 =>
          rename_i p1 xs p2 ys
          obtain ⟨h2, h3⟩ := hf
          refine ⟨p1, p2, xs, ys, rfl, rfl, ex_t hx s1, ex_t hx s2, by rw [m1.len, m2.len]; exact h2, fun z => ?_, fun _ z => ?_, fun _ _ p hp => ?_⟩
          · have : ds = [] := m1.nil_iff.mp z
            subst this
            rw [List.nil_append] at h3
            exact k _ _ H F h3 (Gr.refl hx) (.tup s2 m2)
          · have : es = [] := m2.nil_iff.mp z
            subst this
            rw [List.append_nil] at h3
            exact k _ _ H F h3 (Gr.refl hx) (.tup s1 m1)
          · have gr := Gr.new (o := .tup (xs ++ ys)) hx hp
            exact k _ _ _ _ h3 gr (.tup (.inl (.inl upd_same)) ((m1.up gr.f).app (m2.up gr.f)))
    | _ => exact hf.elim
  | _ => exact hf.elim
variable {lo hi : Option Expr} {tl th : DO} {p2 : Pos}
theorem e_slT (ha : PE X a (up X.K ta)) (hl : PO X lo (upO X.K tl)) (hu : PO X hi (upO X.K th)) : PE X (.Subscript a (.Slice lo hi none p2) pos) (up X.K (dSlT ta tl th)) := pe_to (pe_slice sl_tupA ha hl hu) fun σ H Q q => by
  obtain ⟨c, g, tv, tr, F, ad, post, s, t, k⟩ := q
  refine ⟨c, g, tv, tr, F, ad, _, s, t, fun x g1 v1 H1 F1 a1 t1 s1 => ?_⟩
  refine ⟨c, g1, _, _, F1, a1, _, s1, t1, fun l g2 H2 F2 a2 t2 s2 => ?_⟩
  refine ⟨c, g2, _, _, F2, a2, _, s2, t2, fun u g3 H3 F3 a3 t3 s3 => ?_⟩
  cases x with
  | val d =>
    cases d with
    | tuple ds =>
      have hr : Rp X.K F3 v1 (.tuple ds) := s3.top
      cases hr with
      | tup sq m =>
        rename_i pp xs
        refine ⟨_, _, rfl, ex_t s3.eh sq, fun z => ?_, fun _ q hq => ?_⟩
        · have e : cutD ds l u = ds := by
            unfold cutD
            rw [← m.len, z.1, z.2, List.drop_zero, Nat.sub_zero, m.len, List.take_length]
          replace t3 : post (.val (.tuple (cutD ds l u))) g3 := t3
          rw [e] at t3
          exact k _ g3 _ _ _ a3 t3 (s3.pop1.push (r := .val (.tuple ds)) (.tup sq m))
        · have gr := Gr.new (o := .tup (cutV xs l u)) s3.eh hq
          exact k _ g3 _ _ _ a3 t3 ((s3.pop1.grow gr).push (r := .val (.tuple (cutD ds l u))) (.tup (.inl (.inl upd_same)) ((m.cut l u).up gr.f)))
    | _ => exact t3.elim
  | _ => exact t3.elim
theorem s_parR {i j : Nat} {x y : Str} {te : DE} {tl : DL} {px py pt : Pos} {kt k2 : Nat} {pt2 : Pos} (hc : X.calm = true) (hN : X.N.Nodup) (hi : X.N[i]? = some x) (hj : X.N[j]? = some y) (hij : i ≠ j)
    (hx : X.env.scope.names.lookup x = some .local) (hy : X.env.scope.names.lookup y = some .local) (ha : PE X a (up X.K te)) (hb : PE X b (upL X.K tl))
    (hsw : swappedStores [.Tuple [.Name x px, .Name y py] kt pt] (.Tuple [a, b] k2 pt2) X.env = pure (some [x, y]) := by rfl) (h1 : swapsWithSole [.Tuple [.Name x px, .Name y py] kt pt] (.Tuple [a, b] k2 pt2) pos.line X.env = pure false := by rfl)
    (n1 : starEach [a, b] X.env = (false, eval a X.env) :: starEach [b] X.env := by rfl) (n2 : starEach [b] X.env = (false, eval b X.env) :: starEach [] X.env := by rfl) :
    PS X (.Assign [.Tuple [.Name x px, .Name y py] kt pt] (.Tuple [a, b] k2 pt2) pos) (upS X.K Wx (dParR i j te tl)) := ps_to (ps_par hc hN hi hj hij hx hy (pa_cons ha (pa_cons hb pa_nil n2) n1) hsw h1) fun D σ H q => by
  obtain ⟨c, g, tv, tr, F, a, d, s, hn, t, k⟩ := q
  refine ⟨c, g, tv, tr, F, a, _, s, t, fun r g1 v H1 F1 a1 t1 s1 => ?_⟩
  refine ⟨c, g1, _, _, F1, a1, _, s1, t1, fun ds g2 w H2 F2 a2 t2 s2 n2 => ?_⟩
  refine ⟨v, w, rfl, ?_⟩
  rw [List.set_comm _ _ hij]
  exact k.nx _ _ H2 F2 a2 t2 ((s2.setOwn n2 j).set i)
end
end Z
namespace Z
open L2 PySem PySem.Spec PyProof.Rows
open Evl (Ex ex_l ex_t ex_rd fresh_back)
theorem low_dvd {n d m : Int} (hd : 0 < d) (h : d ∣ m) : (low n d).2 ∣ m := by
  obtain ⟨v, hv⟩ : (Int.gcd n d : Int) ∣ d := Int.gcd_dvd_right n d
  have g0 := gcd_pos (a := n) hd
  have e : (low n d).2 = v := by
    show d / (Int.gcd n d : Int) = v
    generalize (Int.gcd n d : Int) = g at *
    rw [hv, Int.mul_ediv_cancel_left _ (by omega)]
  rw [e]
  refine Int.dvd_trans ?_ h
  exact ⟨(Int.gcd n d : Int), by rw [Int.mul_comm]; exact hv⟩
def ThDv (m : Nat) (T : Bool → Th) : Prop := ∀ b, (T b).d ∣ 2 ^ m
theorem byR_dv (r : Ru) : ThDv 1 (byR r) := fun b => by cases r <;> cases b <;> decide
theorem comb_dv {m far : Nat} {T : Bool → Th} {r : Ru} (h : ThDv m T) (hT : ∀ b, (T b).Ok) : ThDv (m + far) (combI T r far) := fun b => by
  refine low_dvd (Int.mul_pos (hT _).d0 (pow2_pos far)) ?_
  rw [Int.pow_add]
  exact Int.mul_dvd_mul (h _) (Int.dvd_refl _)
end Z
namespace Z
open L2 PySem PySem.Spec PyProof.Rows
open Evl (Ex ex_l ex_t ex_rd fresh_back)
theorem gcd_divW {n d x : Int} (hd : 0 < d) (hs : Bn 9000 d) : CDivW x (Int.gcd n d) := divX 9000 (gcd_pos hd) (hs.le (Int.le_of_lt (gcd_pos hd)) (gcd_le hd)) (Nat.le_refl _)
theorem max0 (e : Int) : (if (0 : Int) > e then 0 else e).toNat = e.toNat := by
  split <;> omega
theorem max0n (e : Int) : (if (0 : Int) > 0 - e then 0 else 0 - e).toNat = (-e).toNat := by
  split <;> omega
theorem max0nn (e : Int) : 0 ≤ (if (0 : Int) > e then 0 else e) := by
  split <;> omega
theorem max0le {e b : Int} (h : e ≤ b) (hb : 0 ≤ b) : (if (0 : Int) > e then 0 else e) ≤ b := by
  split <;> omega
theorem scI_div {n d f : Int} {b : Nat} (hd : 0 < d) (bd : Bn b d) (h : (b : Int) + -f ≤ 8998) (hb : b ≤ 8998) : CDivW (scI n d f).1 (scI n d f).2 :=
  divX 9000 (Int.mul_pos hd (pow2_pos _)) ((shlB bd).mono (by omega)) (Nat.le_refl _)
theorem cell_e {n d w : Int} (hn : 0 < n) (bn : Bn 4000 n) (hd : 0 < d) (bd : Bn 4000 d) (h1 : 1 ≤ w) (h2 : w ≤ 100) : -4100 ≤ (cellI n d w).2 ∧ (cellI n d w).2 ≤ 4000 := by
  obtain ⟨_, _, _, c1, c2⟩ := cellI_spec hn hd h1
  have e1 := bl_le bn
  have e2 := bl_le bd
  have e3 := bl_nn n
  have e4 := bl_nn d
  obtain ⟨p, ep, _⟩ := bl_pos hn
  obtain ⟨q, eq, _⟩ := bl_pos hd
  omega
theorem cell_kB {n d w : Int} (hn : 0 < n) (hd : 0 < d) (h1 : 1 ≤ w) (h2 : w ≤ 100) : 0 < (cellI n d w).1 ∧ Bn 101 (cellI n d w).1 := by
  obtain ⟨_, c1, c2, _⟩ := cellI_spec hn hd h1
  have := pow2_pos (w - 1).toNat
  exact ⟨by omega, (Bn.pow2 (n := w.toNat) (m := 101) (by omega)).le (by omega) (Int.le_of_lt c2)⟩
theorem pos_rest {n d w : Int} (hn : 0 < n) (hd : 0 < d) (h1 : 1 ≤ w) : (scI n d (0 - (cellI n d w).2)).1 - (cellI n d w).1 * (scI n d (0 - (cellI n d w).2)).2 = (scI n d (0 - (cellI n d w).2)).1 % (scI n d (0 - (cellI n d w).2)).2 := by
  obtain ⟨c, _⟩ := cellI_spec hn hd h1
  generalize ha : (scI n d (0 - (cellI n d w).2)).1 = a at c ⊢
  generalize hb : (scI n d (0 - (cellI n d w).2)).2 = b at c ⊢
  rw [c, Int.emod_def, Int.mul_comm]
theorem low_le {n d : Int} (hn : 0 ≤ n) (hd : 0 < d) : 0 ≤ (low n d).1 ∧ (low n d).1 ≤ n := ⟨Int.ediv_nonneg hn (Int.le_of_lt (gcd_pos hd)), Int.ediv_le_self _ hn⟩
theorem pos_B {n d w : Int} (hn : 0 < n) (bn : Bn 4000 n) (hd : 0 < d) (bd : Bn 4000 d) (h1 : 1 ≤ w) (h2 : w ≤ 100) : 0 ≤ (posI n d w).1 ∧ Bn 9000 (posI n d w).1 := by
  obtain ⟨c1, c2⟩ := cell_e hn bn hd bd h1 h2
  obtain ⟨a0, b0⟩ := scI_pos (f := 0 - (cellI n d w).2) hn hd
  have bb : Bn 9000 (scI n d (0 - (cellI n d w).2)).2 := (shlB bd).mono (by omega)
  unfold posI
  rw [pos_rest hn hd h1]
  have r0 := Int.emod_nonneg (scI n d (0 - (cellI n d w).2)).1 (show (scI n d (0 - (cellI n d w).2)).2 ≠ 0 by omega)
  obtain ⟨l1, l2⟩ := low_le r0 b0
  exact ⟨l1, (Bn.modR bb b0).le l1 l2⟩
end Z
namespace Z
open L2 PySem PySem.Spec PyProof.Rows
open Evl (Ex ex_l ex_t ex_rd fresh_back)
end Z
namespace LZ
open PySem
open PySem.Sem (wp)
section
variable {prog : Program} {w : World} {A : Around} {s : Shared} {R : Result → Shared → Prop} {q TI TO u1 u2 t1 t2 S : Addr} {x0 x1 y0 y1 a b : Value}
/-- what the zip stands for, ahead of the first pair -/
structure Fresh (h : Heap) (q TI TO u1 u2 t1 t2 : Addr) (x0 x1 y0 y1 a b : Value) : Prop where
  D : ZipApart q TI TO u1 u2 t1 t2
  z : IsZip h q TI TO .none
  i : IsPair h TI (.ref u1) (.ref u2)
  o : IsPair h TO a b
  g1 : h.IsTupleIter u1 t1 0
  g2 : h.IsTupleIter u2 t2 0
  m1 : h.IsTuple t1 #[x0, x1]
  m2 : h.IsTuple t2 #[y0, y1]
theorem Fresh.keep {h h' : Heap} (F : Fresh h q TI TO u1 u2 t1 t2 x0 x1 y0 y1 a b) (hS : S ≠ q ∧ S ≠ TI ∧ S ≠ TO ∧ S ≠ u1 ∧ S ≠ u2 ∧ S ≠ t1 ∧ S ≠ t2) (hk : ∀ c o, c ≠ S → h.get? c = some o → h'.get? c = some o) : Fresh h' q TI TO u1 u2 t1 t2 x0 x1 y0 y1 a b := by
  obtain ⟨s1, s2, s3, s4, s5, s6, s7⟩ := hS
  exact ⟨F.D, hk _ _ s1.symm F.z, hk _ _ s2.symm F.i, hk _ _ s3.symm F.o, F.g1.at fun o e => hk _ o s4.symm e, F.g2.at fun o e => hk _ o s5.symm e, F.m1.at fun o e => hk _ o s6.symm e, F.m2.at fun o e => hk _ o s7.symm e⟩
end
end LZ
namespace Z
open L2 PySem PySem.Spec PyProof.Rows
open Evl (Ex ex_l ex_t ex_rd fresh_back)
end Z
namespace Z
open L2 PySem PySem.Spec PyProof.Rows
open Evl (Ex ex_l ex_t ex_rd fresh_back)
instance : DecidableEq Th := fun a b => decidable_of_iff (a.n = b.n ∧ a.d = b.d ∧ a.up = b.up) ⟨fun h => by cases a; cases b; simp_all, fun h => by subst h; exact ⟨rfl, rfl, rfl⟩⟩
def Bef (t u : Th) : Prop := t.n * u.d < u.n * t.d ∨ (t.n * u.d = u.n * t.d ∧ t.up = true ∧ u.up = false)
instance (t u : Th) : Decidable (Bef t u) := by unfold Bef; infer_instance
theorem eqv_th (t u : Th) : (thD t).eqv (thD u) = decide (t = u) := by
  unfold thD
  simp only [PyData.eqv, PyData.eqvAll]
  rw [Bool.eq_iff_iff]
  simp only [Bool.and_eq_true, Bool.and_true, decide_eq_true_eq, beq_iff_eq]
  constructor
  · rintro ⟨⟨h1, h2⟩, h3⟩
    have h4 : t.up = u.up := by
      revert h3
      cases t.up <;> cases u.up <;> first | (intro _; rfl) | (intro h; exact absurd h (by decide +kernel))
    cases t
    cases u
    simp_all
  · rintro rfl
    exact ⟨⟨rfl, rfl⟩, rfl⟩
end Z
namespace LZ
open L2 PySem PySem.Spec PyProof.Rows
theorem enum_new1 {v : Value} {ob : Obj} {Hv : Heap → Prop} (B : Begins v ob Hv) :
    Meets (Builtin.«enumerate.__new__» ⟨[.type "enumerate", v], []⟩) (fun _ R s => Hv s.heap ∧
      R (.ok (.ret (.ref (s.heap.push ob).objs.size))) { s with heap := (s.heap.push ob).push { cls := .type "enumerate", data := .fields #[.none, .bool false, .ref s.heap.objs.size, rawInt 0, .none, .none] } }) := by
  refine .of_wp fun prog w A R s ⟨hv, h⟩ => ?_
  obtain ⟨hp, g, d, tk, os⟩ := s
  have hsub := sub_enumerate
  have go : ∀ {A' : Around} {E' : Value → Shared → Prop} {Q' : Value → Shared → Prop}, Q' (.ref hp.objs.size) ⟨hp.push ob, g, d, tk, os⟩ → wpAny (model prog w) A' (pyIter v) Q' E' ⟨hp, g, d, tk, os⟩ :=
    fun q => B.iter prog w _ _ ⟨hp, g, d, tk, os⟩ _ hv q
  wp_walk using go
  refine wpAny_stack_any fun st => wpAny_pure ?_
  split
  · rename_i c _ _ _ _ _
    cases (c == Value.type "enumerate") <;> (wp_walk using go; exact ⟨_, rfl, h⟩)
  · wp_walk using go
    exact ⟨_, rfl, h⟩
section
variable {prog : Program} {w : World} {A : Around} {E : Value → Shared → Prop} {s : Shared}
theorem call_enumB {v : Value} {ob : Obj} {Hv : Heap → Prop} {Q : Value → Shared → Prop} (B : Begins v ob Hv) (hv : Hv s.heap)
    (h : ∀ h', IsEnum h' (s.heap.objs.size + 1) s.heap.objs.size 0 .none → h'.get? s.heap.objs.size = some ob → (∀ b o, s.heap.get? b = some o → h'.get? b = some o) → Q (.ref (s.heap.objs.size + 1)) { s with heap := h' }) :
    wpAny (model prog w) A (call (.type "enumerate") [v]) Q E s := by
  refine callType_new F.called_enumerate (by decide) (F.typeCall_enumerate_1 _) (F.newCall_enumerate_1 _) (fun obj => F.args_object_init_2 obj _) F.entry_enumerate_new (enum_new1 B) ⟨hv, ?_⟩
  have z1 : (s.heap.push ob).objs.size = s.heap.objs.size + 1 := Heap.size_push ..
  show _ ∧ _
  rw [z1]
  have en := Heap.get?_push_size (s.heap.push ob) (o := { cls := .type "enumerate", data := .fields #[.none, .bool false, .ref s.heap.objs.size, rawInt 0, .none, .none] }) rfl
  rw [z1] at en
  exact ⟨⟨_, en, rfl⟩, h _ en (Heap.get?_push_of_some _ (Heap.get?_push_size _ B.free)) fun b o x => Heap.get?_push_of_some _ (Heap.get?_push_of_some _ x)⟩
end
def ItEn (K : PySem.W.Frag) (a : Addr) : It :=
  ⟨fun i H => ∃ (xs : List V) (x : V), SqT K H a xs ∧ xs[i]? = some x, fun i H v H' => ∃ T x, v = .ref T ∧ H T = none ∧ H' = upd H T (.tup [.int (i : Nat), x]) ∧ ∀ xs, SqT K H a xs → xs[i]? = some x, fun i H => ∃ xs : List V, SqT K H a xs ∧ xs.length = i⟩
theorem turn_en {P : Program} {w : World} {K : PySem.W.Frag} {elts : List Expr} {kk : Nat} {tpos : Pos} (a e it : Addr) (hae : a ≠ e) (hai : a ≠ it) :
    Turn P w K (.Tuple elts kk tpos) (ItEn K a) [e, it] e (fun i h => (∃ old, IsEnum h e it ((i : Nat) : Int) old) ∧ h.IsTupleIter it a i ∧ e ≠ it) where
  mem := List.mem_cons_self ..
  obj := fun i h st b hb => by
    obtain ⟨⟨old, he⟩, ⟨o, ho, hc, hd⟩, _⟩ := st
    rcases List.mem_cons.mp hb with rfl | hb
    · exact ⟨_, he, fun v q => nomatch q⟩
    · rw [List.mem_singleton.mp hb]
      exact ⟨o, ho, fun v q => by rw [hd] at q; cases q⟩
  keep := fun i h h' st k => ⟨st.1.imp fun old he => k e (List.mem_cons_self ..) _ he, st.2.1.at fun o q => k it (List.mem_cons_of_mem _ (List.mem_singleton.mpr rfl)) o q, st.2.2⟩
  item := by
    intro X hP hw hK hc i pins s σ H E I hf st hg
    subst hP hw hK
    obtain ⟨⟨old, he⟩, hit, hne⟩ := st
    obtain ⟨xs, x, hq, hx⟩ := hg
    obtain ⟨its, rv, p, hz⟩ := I.tuple hq
    obtain ⟨u, hu, ru⟩ := rv.get hx
    have hel : e < s.heap.objs.size := Heap.lt_size he
    have hil : it < s.heap.objs.size := by obtain ⟨_, q, _⟩ := hit; exact Heap.lt_size q
    have D := Draws.tuple (prog := X.prog) (w := X.w) (A := X.A.in1) (I.ok.hd hc) it a hai its.toArray
    have hlt : i < its.toArray.size := by
      have := (List.getElem?_eq_some_iff.mp hu).1
      simpa using this
    refine wpAny_pyNext_enum_itemD D he ⟨hit, p⟩ hlt hne (by simp [hne, Ne.symm hae]) fun y h' tk hy ho hst hT hsz hk => ?_
    obtain rfl : u = y := by
      have e1 : its.toArray[i]? = some u := by simpa using hu
      rw [e1] at hy
      exact Option.some.inj hy
    refine ⟨_, rfl, wpAny_letOwnedTupleGo_enum (s := { s with heap := h', toks := tk + 1 }) ho fun h'' he' sb => ?_⟩
    have hT2 := (sb.2 _ (Nat.ne_of_gt hel)).trans hT
    have new : ObjOk X.prog X.w (upd H s.heap.objs.size (.tup [.int (i : Nat), x])) h'' s.heap.objs.size (.tup [.int (i : Nat), x]) :=
      ⟨by show 2 ≤ sizeLine; decide, [.int i tk, u], .cons ⟨_, rfl⟩ (.cons ru .nil), ⟨_, hT2, rfl, _, rfl⟩⟩
    have I1 : Inv X pins σ (upd H s.heap.objs.size (.tup [.int (i : Nat), x])) { s with heap := h'', toks := tk + 1 } :=
      I.turnedNew (ch := [e, it]) (fun b ob hb q => (sb.2 b (fun z => hb (by simp [z]))).trans (hk b ob (fun z => hb (by simp [z])) (fun z => hb (by simp [z])) q)) hf (Nat.le_refl _) new
    refine ⟨.ref s.heap.objs.size, _, I1, rfl, ⟨_, x, rfl, I.hok.fresh (Nat.le_refl _), rfl, fun ys hy => by rw [I.tuple_inj hy hq]; exact hx⟩, ⟨⟨u, ?_⟩, hst.1.at fun o q => (sb.2 it (Ne.symm hne)).trans q, hne⟩, fun b hb => ?_⟩
    · rw [show ((i + 1 : Nat) : Int) = (i : Int) + 1 by omega]
      exact he'
    · have hb' : b < s.heap.objs.size := by
        rcases List.mem_cons.mp hb with rfl | hb
        · exact hel
        · rw [List.mem_singleton.mp hb]
          exact hil
      rw [upd_ne (Nat.ne_of_lt hb')]
      exact (hf b hb).1
  done := by
    intro X hP hw hK hc i pins s σ H E I hf st hg
    subst hP hw hK
    obtain ⟨⟨old, he⟩, hit, hne⟩ := st
    obtain ⟨xs, hq, hx⟩ := hg
    obtain ⟨its, rv, p, hz⟩ := I.tuple hq
    obtain ⟨f0, f1, f2, f3, f4, f5⟩ := hf it (by simp)
    have hl := rv.length
    have D := Draws.tuple (prog := X.prog) (w := X.w) (A := X.A.in1) (I.ok.hd hc) it a hai its.toArray
    have hn : i = its.toArray.size := by simp; omega
    subst hn
    exact wpAny_pyNext_enum_endD D he ⟨hit, p⟩ fun h' eb => ⟨rfl, I.turned (t' := s.toks) (fun b o hb q => eb b o hb q) f0 f1 f3 f4 f5⟩
  self := fun A i s Q E st h => by
    obtain ⟨⟨_, he⟩, _⟩ := st
    exact wpAny_pyIter_enum he h
def iEn (K : PySem.W.Frag) (ta : TA) : TI := fun σ H R => ta σ H fun vs H1 => ∃ a xs, vs = [.ref a] ∧ ((SqL K H1 a xs ∧ R (Ite K a) H1) ∨ (SqT K H1 a xs ∧ R (ItEn K a) H1))
theorem pi_en {X : Cx} {e : Expr} {ta : TA} {p pos tpos : Pos} {elts : List Expr} {kk : Nat} (hg : Gl X "enumerate") (hm : X.mg "enumerate" = none) (ha : PA X [e] ta) (hs : starEach [e] X.env = (false, eval e X.env) :: starEach [] X.env := by rfl) :
    PI X (.Tuple elts kk tpos) (.Call (.Name "enumerate" p) [e] [] pos) (iEn X.K ta) := by
  refine ⟨fun pins s σ H R I h => ?_⟩
  refine Call_ (ld_blt I hg hm boot_enumerate (PyProof.Rows.callWith_type1 (thn (ha.run pos pins s σ H _ I h) fun us s1 ⟨vs, H1, I1, r1, q1⟩ => ?_) hs rfl))
  obtain ⟨a, xs, rfl, q1⟩ := q1
  cases r1 with
  | cons r rr =>
    cases rr
    cases r
    have fp : ∀ b ∈ [s1.heap.objs.size + 1, s1.heap.objs.size], FpOk X pins H1 b := fun b hb => by
      have hle : s1.heap.objs.size ≤ b := by
        rcases List.mem_cons.mp hb with rfl | hb
        · exact Nat.le_add_right _ _
        · rw [List.mem_singleton.mp hb]
          exact Nat.le_refl _
      exact I1.fpOk hle (I1.hok.fresh hle)
    rcases q1 with ⟨hq, q⟩ | ⟨hq, q⟩
    · obtain ⟨its, rv, p', hz⟩ := I1.list hq
      refine call_enumB (begins_list a its.toArray) p'.isList fun h' he hit hk => wpAny_pyIter_enum he ?_
      have I2 : Inv X pins σ H1 { s1 with heap := h' } := I1.kept (t' := s1.toks) hk
      exact ⟨s1.heap.objs.size + 1, [s1.heap.objs.size + 1, s1.heap.objs.size], _, _, H1, rfl, I2, turn_enum a (s1.heap.objs.size + 1) s1.heap.objs.size, ⟨⟨.none, he⟩, ⟨_, hit, rfl, rfl⟩, Nat.succ_ne_self _⟩, fp, q⟩
    · obtain ⟨its, rv, p', hz⟩ := I1.tuple hq
      have pl : a < s1.heap.objs.size := by obtain ⟨_, q, _⟩ := id p'; exact Heap.lt_size q
      refine call_enumB (begins_tuple a its.toArray) p' fun h' he hit hk => wpAny_pyIter_enum he ?_
      have I2 : Inv X pins σ H1 { s1 with heap := h' } := I1.kept (t' := s1.toks) hk
      exact ⟨s1.heap.objs.size + 1, [s1.heap.objs.size + 1, s1.heap.objs.size], _, _, H1, rfl, I2, turn_en a (s1.heap.objs.size + 1) s1.heap.objs.size (Nat.ne_of_lt (Nat.lt_succ_of_lt pl)) (Nat.ne_of_lt pl), ⟨⟨.none, he⟩, ⟨_, hit, rfl, rfl⟩, Nat.succ_ne_self _⟩, fp, q⟩
end LZ
namespace Z
open L2 PySem PySem.Spec PyProof.Rows
open Evl (Ex ex_l ex_t ex_rd fresh_back)
def enD : Int → List Da → List Da
  | _, [] => []
  | i, x :: xs => .tuple [.int i, x] :: enD (i + 1) xs
theorem enD_len : ∀ {xs : List Da} {k : Int}, (enD k xs).length = xs.length
  | [], _ => rfl
  | x :: xs, k => by
    show (enD (k + 1) xs).length + 1 = xs.length + 1
    rw [enD_len]
theorem enD_get : ∀ {xs : List Da} {k : Int} {i : Nat} {x : Da}, xs[i]? = some x → (enD k xs)[i]? = some (.tuple [.int (k + (i : Nat)), x])
  | [], _, _, _, h => by simp at h
  | y :: xs, k, 0, x, h => by
    simp at h
    subst h
    show some (PyData.tuple [.int k, y]) = _
    rw [show k + ((0 : Nat) : Int) = k by omega]
  | y :: xs, k, i + 1, x, h => by
    have e := enD_get (k := k + 1) (show xs[i]? = some x by simpa using h)
    show (enD (k + 1) xs)[i]? = _
    rw [e, show k + 1 + (i : Int) = k + ((i + 1 : Nat) : Int) by omega]
def dEnum (te : DE) : DW := fun g Q => te g fun r g1 => match r with
  | .val (.list ds) => Q (enD 0 ds) g1
  | .val (.tuple ds) => Q (enD 0 ds) g1
  | _ => False
section
variable {K : Fg}
theorem walkD_enT {p : Addr} {ds : List Da} : WalkD K (LZ.ItEn K p) (enD 0 ds) [.ref p] [.val (.tuple ds)] := by
  have get : ∀ {F H : Hp} {a : Addr} {fu : Option Nat}, Ex F H → Tm K F a fu [.ref p] [.val (.tuple ds)] → ∃ xs, SqT K H p xs ∧ Rps K F xs ds := fun {F H a fu} e t => by
    obtain ⟨v, e1, h2⟩ := t.v1
    cases e1
    cases h2 with
    | tup sq m => exact ⟨_, ex_t e sq, m⟩
  refine ⟨fun i F H a fu e t hi => ?_, fun F H a fu e t => ?_, fun i F H a fu x H' e t hi y => ?_⟩
  · obtain ⟨xs, s1, m1⟩ := get e t
    rw [enD_len] at hi
    obtain ⟨v, h1, _⟩ := m1.get (List.getElem?_eq_getElem (show i < ds.length by omega))
    exact ⟨xs, v, s1, h1⟩
  · obtain ⟨xs, s1, m1⟩ := get e t
    refine ⟨xs, s1, ?_⟩
    rw [enD_len, m1.len]
  · obtain ⟨xs, s1, m1⟩ := get e t
    obtain ⟨T, u, rfl, nT, rfl, h1⟩ := y
    rw [enD_len] at hi
    have g1 : ds[i]? = some ds[i] := List.getElem?_eq_getElem (by omega)
    obtain ⟨u', e1, r1⟩ := m1.get g1
    rw [h1 xs s1] at e1
    cases e1
    have gr := Gr.new (o := .tup [.int (i : Nat), u]) e nT
    refine ⟨_, _, enD_get g1, gr, ?_⟩
    rw [Int.zero_add]
    exact .tup (.inl (.inl upd_same)) (.cons (.int _) (.cons (r1.up gr.f) .nil))
theorem walkD_enL {p : Addr} {ds : List Da} : WalkD K (Ite K p) (enD 0 ds) [.ref p] [.val (.list ds)] := by
  have get : ∀ {F H : Hp} {a : Addr} {fu : Option Nat}, Ex F H → Tm K F a fu [.ref p] [.val (.list ds)] → ∃ xs, SqL K H p xs ∧ Rps K F xs ds := fun {F H a fu} e t => by
    obtain ⟨v, e1, h2⟩ := t.v1
    cases e1
    cases h2 with
    | lst sq m => exact ⟨_, .inl (.inl (e _ _ sq)), m⟩
  refine ⟨fun i F H a fu e t hi => ?_, fun F H a fu e t => ?_, fun i F H a fu x H' e t hi y => ?_⟩
  · obtain ⟨xs, s1, m1⟩ := get e t
    rw [enD_len] at hi
    obtain ⟨v, h1, _⟩ := m1.get (List.getElem?_eq_getElem (show i < ds.length by omega))
    exact ⟨xs, v, s1, h1⟩
  · obtain ⟨xs, s1, m1⟩ := get e t
    refine ⟨xs, s1, ?_⟩
    rw [enD_len, m1.len]
    exact Nat.le_refl _
  · obtain ⟨xs, s1, m1⟩ := get e t
    obtain ⟨T, u, rfl, nT, rfl, h1⟩ := y
    rw [enD_len] at hi
    have g1 : ds[i]? = some ds[i] := List.getElem?_eq_getElem (by omega)
    obtain ⟨u', e1, r1⟩ := m1.get g1
    rw [h1 xs s1] at e1
    cases e1
    have gr := Gr.new (o := .tup [.int (i : Nat), u]) e nT
    refine ⟨_, _, enD_get g1, gr, ?_⟩
    rw [Int.zero_add]
    exact .tup (.inl (.inl upd_same)) (.cons (.int _) (.cons (r1.up gr.f) .nil))
end
theorem i_enum {X : Cx} {a : Expr} {ta : DE} {p pos tpos : Pos} {elts : List Expr} {kk : Nat} (hg : Gl X "enumerate") (hm : X.mg "enumerate" = none) (ha : PE X a (up X.K ta)) (hs : starEach [a] X.env = (false, eval a X.env) :: starEach [] X.env := by rfl) :
    PI X (.Tuple elts kk tpos) (.Call (.Name "enumerate" p) [a] [] pos) (upI X.K (dEnum ta)) := pi_to (LZ.pi_en hg hm (pa_cons ha pa_nil hs) hs) fun σ H R q => by
  obtain ⟨c, g, tv, tr, F, a, post, s, t, k⟩ := q
  refine ⟨c, g, tv, tr, F, a, _, s, t, fun r g1 v H1 F1 a1 t1 s1 => ?_⟩
  split at t1
  · rename_i xs
    have hr : Rp X.K F1 v (.list xs) := s1.top
    cases hr with
    | lst q1 m1 => exact ⟨_, _, rfl, .inl ⟨.inl (.inl (s1.eh _ _ q1)), k _ g1 H1 F1 a1 _ [_] [_] t1 s1 rfl rfl walkD_enL⟩⟩
  · rename_i xs
    have hr : Rp X.K F1 v (.tuple xs) := s1.top
    cases hr with
    | tup q1 m1 => exact ⟨_, _, rfl, .inr ⟨ex_t s1.eh q1, k _ g1 H1 F1 a1 _ [_] [_] t1 s1 rfl rfl walkD_enT⟩⟩
  · exact t1.elim
end Z
namespace Z
open L2 PySem PySem.Spec PyProof.Rows
theorem sIx_k {n k : Nat} {d : Nat} (h : k ≤ n) : HT.sIx n d (some (k : Int)) = k := by
  rw [HT.sIx_nat]
  omega
theorem cut_to {ds : List Da} {k : Nat} (h : k ≤ ds.length) : Z.cutD ds none (some (k : Int)) = ds.take k := by
  unfold Z.cutD
  rw [sIx_k h, HT.sIx_none]
  rfl
theorem cut_from {ds : List Da} {k : Nat} (h : k ≤ ds.length) : Z.cutD ds (some (k : Int)) none = ds.drop k := by
  unfold Z.cutD
  rw [sIx_k h, HT.sIx_none, List.take_of_length_le (by rw [List.length_drop]; omega)]
structure ShB (k z : Nat) (d : Da) : Prop where
  lay : d.canLay0 = true
  sh : d.showable = true
  dp : d.depth ≤ k
  sz : szD d ≤ z
theorem ShB.cps {k z : Nat} {d : Da} (h : ShB k z d) : Cps d.shown := cps_shown d h.lay
theorem ShB.shaped {k z : Nat} {d : Da} (h : ShB k z d) (hk : k ≤ 64) : SeqAt.shaped d = true := by
  unfold SeqAt.shaped
  rw [h.lay, Bool.true_and]
  exact decide_eq_true (Nat.le_trans h.dp hk)
theorem ShB.refl {k z : Nat} {d : Da} (h : ShB k z d) : d.eqv d = true := SeqAt.eqv_refl d h.lay
theorem ShB.mono {k z k' z' : Nat} {d : Da} (h : ShB k z d) (hk : k ≤ k') (hz : z ≤ z') : ShB k' z' d := ⟨h.lay, h.sh, Nat.le_trans h.dp hk, Nat.le_trans h.sz hz⟩
theorem ShB.int {i : Int} (h : Bn 1900 i) : ShB 0 1921 (.int i) := ⟨rfl, decide_eq_true (showI h), Nat.le_refl _, Nat.le_refl _⟩
theorem ShB.none : ShB 0 1921 .none := ⟨rfl, rfl, Nat.le_refl _, by show 4 ≤ 1921; decide⟩
theorem ShB.bool (b : Bool) : ShB 0 1921 (.bool b) := ⟨rfl, rfl, Nat.le_refl _, by show 5 ≤ 1921; decide⟩
theorem ShB.str {x : Str} (h : PyData.strOk x = true) (hl : x.length ≤ 100) : ShB 0 1921 (.str x) := ⟨h, rfl, Nat.le_refl _, by show 10 * x.length + 2 ≤ 1921; omega⟩
theorem ShB.all {k z : Nat} : ∀ {ds : List Da}, (∀ d ∈ ds, ShB k z d) → PyData.canLayAll0 ds = true ∧ PyData.showableAll ds = true ∧ PyData.depthAll ds ≤ k ∧ szAll ds ≤ ds.length * (z + 2)
  | [], _ => ⟨rfl, rfl, Nat.zero_le _, Nat.zero_le _⟩
  | d :: ds, h => by
    obtain ⟨i1, i2, i3, i4⟩ := ShB.all (ds := ds) fun e he => h e (List.mem_cons_of_mem _ he)
    have h0 := h d (List.mem_cons_self ..)
    have h1 := h0.dp
    have h2 := h0.sz
    refine ⟨by simp [PyData.canLayAll0, h0.lay, i1], by simp [PyData.showableAll, h0.sh, i2], ?_, ?_⟩
    · simp only [PyData.depthAll]
      omega
    · rw [List.length_cons, Nat.succ_mul]
      simp only [szAll]
      omega
theorem ShB.tup {k z n : Nat} {ds : List Da} (h : ∀ d ∈ ds, ShB k z d) (hn : ds.length ≤ n) : ShB (k + 1) (n * (z + 2) + 3) (.tuple ds) := by
  obtain ⟨i1, i2, i3, i4⟩ := ShB.all h
  have := Nat.mul_le_mul_right (z + 2) hn
  refine ⟨by simpa [PyData.canLay0] using i1, by simpa [PyData.showable] using i2, ?_, ?_⟩
  · simp only [PyData.depth]
    omega
  · simp only [szD]
    omega
theorem ShB.lst {k z n : Nat} {ds : List Da} (h : ∀ d ∈ ds, ShB k z d) (hn : ds.length ≤ n) : ShB (k + 1) (n * (z + 2) + 3) (.list ds) := by
  obtain ⟨i1, i2, i3, i4⟩ := ShB.all h
  have := Nat.mul_le_mul_right (z + 2) hn
  refine ⟨by simpa [PyData.canLay0] using i1, by simpa [PyData.showable] using i2, ?_, ?_⟩
  · simp only [PyData.depth]
    omega
  · simp only [szD]
    omega
theorem ShB.two {k z : Nat} {a b : Da} (ha : ShB k z a) (hb : ShB k z b) : ∀ d ∈ [a, b], ShB k z d := fun d hd => by
  simp only [List.mem_cons, List.not_mem_nil, or_false] at hd
  rcases hd with rfl | rfl
  · exact ha
  · exact hb
theorem ShB.num {n d : Int} (hn : Bn 1900 n) (hd : Bn 1900 d) : ShB 1 4000 (num n d) := (ShB.tup (ShB.two (ShB.int hn) (ShB.int hd)) (n := 2) (Nat.le_refl 2)).mono (by decide) (by decide)
theorem ru_len (r : Ru) : r.s.length ≤ 100 := by cases r <;> decide +kernel
theorem ShB.st (s : Int × Ru) (h1 : 1 ≤ s.1) (h2 : s.1 ≤ 100) : ShB 1 4000 (stD s) := (ShB.tup (ShB.two (ShB.int (Bn.small (by omega) (by omega) (by decide))) (ShB.str (ru_ok s.2) (ru_len s.2))) (n := 2) (Nat.le_refl 2)).mono (by decide) (by decide)
theorem shaped_th (t : Th) : SeqAt.shaped (thD t) = true := by
  have h := sd_ok t.up
  unfold SeqAt.shaped thD
  simp [PyData.canLay0, PyData.canLayAll0, h, PyData.depth, PyData.depthAll]
theorem shaped_prD (w : Int) (T : Bool → Th) : SeqAt.shaped (Z.prD w T) = true := by
  have h1 := sd_ok (T true).up
  have h0 := sd_ok (T false).up
  unfold SeqAt.shaped Z.prD thD
  by_cases q : w = 1
  · rw [if_pos q]
    simp [PyData.canLay0, PyData.canLayAll0, h1, PyData.depth, PyData.depthAll]
  · rw [if_neg q]
    simp [PyData.canLay0, PyData.canLayAll0, h1, h0, PyData.depth, PyData.depthAll]
end Z
namespace Z
open L2 PySem PySem.Spec PyProof.Rows
def Dif (T U : Bool → Th) (b : Bool) (i p : Int) : Prop := ¬(Abv i p (T b) ↔ Abv i p (U b))
/-- the first place where two chains part: a grid of 2 ^ t, the parity of the cell, the index -/
structure SdAt (w : Int) (T U : Bool → Th) (t : Nat) (b : Bool) (j : Int) : Prop where
  b1 : w = 1 → b = true
  dif : Dif T U b j (2 ^ t)
  lo : 0 < j
  hi : j < 2 ^ t
  min : ∀ i, Dif T U b i (2 ^ t) → j ≤ i
  par : b = true → w ≠ 1 → ∀ i, ¬Dif T U false i (2 ^ t)
  pre : ∀ t', t' < t → ∀ b', (w = 1 → b' = true) → ∀ i, ¬Dif T U b' i (2 ^ t')
  tb : t ≤ 101
theorem SdAt.ne {w : Int} {T U : Bool → Th} {t : Nat} {b : Bool} {j : Int} (h : SdAt w T U t b j) : T b ≠ U b := fun e => h.dif (by rw [e])
end Z
namespace Z
open L2 PySem PySem.Spec PyProof.Rows
open Evl (Ex ex_l ex_t ex_rd fresh_back)
end Z
namespace Z
open L2 PySem PySem.Spec PyProof.Rows
instance (T U : Bool → Th) (b : Bool) (x y : Int) : Decidable (Dif T U b x y) := by unfold Dif; infer_instance
/-- x * f / d is a place where the two part -/
def DfX (w : Int) (T U : Bool → Th) (f d x : Int) : Prop := Dif T U (decide ((cellI (x * f) d w).1 % 2 = 1)) (posI (x * f) d w).1 (posI (x * f) d w).2
instance (w : Int) (T U : Bool → Th) (f d x : Int) : Decidable (DfX w T U f d x) := by unfold DfX; infer_instance
end Z
namespace Z
open L2 PySem PySem.Spec PyProof.Rows
/-- arguments of a search among operands -/
structure LoOk (w : Int) (T U : Bool → Th) (f d p : Int) : Prop where
  w1 : 1 ≤ w
  w2 : w ≤ 100
  T : ThB 101 T
  U : ThB 101 U
  f0 : 0 < f
  bf : Bn 300 f
  d0 : 0 < d
  bd : Bn 300 d
  p1 : 1 ≤ p
  p2 : p ≤ 100
/-- two chains that may be compared -/
structure Two (c c' : List (Int × Ru)) : Prop where
  a : Chn1 c
  b : Chn1 c'
  w : (chT c).1 = (chT c').1
theorem Two.lo {c c' : List (Int × Ru)} {f d p : Int} (h : Two c c') (f0 : 0 < f) (bf : Bn 300 f) (d0 : 0 < d) (bd : Bn 300 d) (p1 : 1 ≤ p) (p2 : p ≤ 100) : LoOk (chT c).1 (chT c).2 (chT c').2 f d p := by
  obtain ⟨hT, w1, w2⟩ := chT_B h.a.ne h.a.w
  obtain ⟨hU, _, _⟩ := chT_B h.b.ne h.b.w
  exact ⟨w1, w2, hT, hU, f0, bf, d0, bd, p1, p2⟩
end Z
namespace Z
open L2 PySem PySem.Spec PyProof.Rows
open Evl (Ex ex_l ex_t ex_rd fresh_back)
/-- chains differ at a product, at a quotient -/
def prP (c c' : List (Int × Ru)) (a b : Int) : Prop := DfX (chT c).1 (chT c).2 (chT c').2 a 1 b
def quP (c c' : List (Int × Ru)) (a b : Int) : Prop := DfX (chT c).1 (chT c).2 (chT c').2 1 b a
instance (c c' : List (Int × Ru)) (a b : Int) : Decidable (prP c c' a b) := by unfold prP; infer_instance
instance (c c' : List (Int × Ru)) (a b : Int) : Decidable (quP c c' a b) := by unfold quP; infer_instance
end Z
namespace Z
open L2 PySem PySem.Spec PyProof.Rows
open Evl (Ex ex_l ex_t ex_rd fresh_back)
end Z
namespace Z
open L2 PySem PySem.Spec PyProof.Rows
end Z
namespace L2
open PySem PySem.Spec PyProof.Rows
end L2
namespace Z
open L2 PySem PySem.Spec PyProof.Rows
open Evl (Ex ex_l ex_t ex_rd fresh_back)
end Z
namespace Z
open L2 PySem PySem.Spec PyProof.Rows
open Evl (Ex ex_l ex_t ex_rd fresh_back)
end Z
namespace Z
open L2 PySem PySem.Spec PyProof.Rows
end Z
namespace Z
open L2 PySem PySem.Spec PyProof.Rows
open Evl (Ex ex_l ex_t ex_rd fresh_back)
end Z
namespace Z
open L2 PySem PySem.Spec PyProof.Rows
end Z
namespace Z
open L2 PySem PySem.Spec PyProof.Rows
open Evl (Ex ex_l ex_t ex_rd fresh_back)
theorem Rps.at {K : Fg} {F : Hp} : ∀ {vs : List V} {ds : List Da}, Rps K F vs ds → ∀ (i : Nat) v d, vs[i]? = some v → ds[i]? = some d → Rp K F v d
  | _, _, .nil, i, v, d, h, _ => by simp at h
  | _, _, .cons r t, 0, v, d, h1, h2 => by simp at h1 h2; subst h1; subst h2; exact r
  | _, _, .cons r t, i + 1, v, d, h1, h2 => Rps.at t i v d (by simpa using h1) (by simpa using h2)
end Z
namespace Z
open L2 PySem PySem.Spec PyProof.Rows
open Evl (Ex ex_l ex_t ex_rd fresh_back)
variable {Wx : WX}
def isOwn : Option Sv → Bool
  | some (.own _) => true
  | some (.mem _ _ _) => true
  | _ => false
structure StI (K : Fg) (p C dx : Addr) (F0 H0 : Hp) (g : Gs) (σ : L2.St) (H F : Hp) (a : Addr) (us : List (Str × V)) (fs : List (Str × Da)) : Prop where
  st : Sta K ⟨F, H, none, anyM⟩ g σ H [] [] F a
  fu : g.fu = none
  sl0 : g.sl[0]? = some (some (.ob (.at p)))
  ins : H p = some (.ins C dx us)
  fp : F p = none
  nm : us.map Prod.fst = fs.map Prod.fst
  rp : Rps K F (us.map Prod.snd) (fs.map Prod.snd)
  e0 : Ex F0 F
  kp : ∀ b o, b ≠ p → NT o → H0 b = some o → H b = some o
  nw : ∀ b, F b ≠ none → F0 b ≠ none ∨ H0 b = none
  tb : TbS H0 H
section
variable {K : Fg} {p C dx : Addr} {F0 H0 : Hp} {g g' : Gs} {σ σ' : L2.St} {H F H' F' : Hp} {a a' : Addr} {us : List (Str × V)} {fs : List (Str × Da)}
theorem no_own (h : g'.sl.any isOwn = false) {i : Nat} {ds : List Da} : g'.sl[i]? ≠ some (some (.own ds)) := fun z => by
  have h1 := List.mem_of_getElem? z
  rw [List.any_eq_false] at h
  exact h _ h1 rfl
theorem no_mem (h : g'.sl.any isOwn = false) {i : Nat} {bm : Bool} {hs : PySem.NestedKey → Int} {gd : Da → Da → Prop} : g'.sl[i]? ≠ some (some (.mem bm hs gd)) := fun z => by
  have h1 := List.mem_of_getElem? z
  rw [List.any_eq_false] at h
  exact h _ h1 rfl
/-- the state from now on -/
theorem Sta.rebase {c : Con} (s : Sta K c g' σ' H' [] [] F' a') (fu : g'.fu = none) (no : g'.sl.any isOwn = false) : Sta K ⟨F', H', none, anyM⟩ g' σ' H' [] [] F' a' :=
  ⟨Ex.refl _, s.eh, fun b o _ _ h => h, fun b h => .inl h, fun b h => (by cases h), fun _ => rfl, fun n h => (by rw [fu] at h; cases h), s.tmp, s.len, fun i sv h => by
    obtain ⟨v, h1, h2⟩ := s.slot i sv h
    refine ⟨v, h1, ?_⟩
    cases sv with
    | own ds => exact absurd h (no_own no)
    | mem bm hs gd => exact absurd h (no_mem no)
    | _ => exact h2, s.dis, s.tabk, .refl⟩
theorem StI.next (t : StI K p C dx F0 H0 g σ H F a us fs) (s : Sta K ⟨F, H, none, anyM⟩ g' σ' H' [] [] F' a') (fu : g'.fu = none) (no : g'.sl.any isOwn = false) (sl0 : g'.sl[0]? = some (some (.ob (.at p)))) : StI K p C dx F0 H0 g' σ' H' F' a' us fs := by
  have kp : ∀ b o, NT o → H b = some o → H' b = some o := fun b o hn h => s.keep b o (fun z => by cases z) hn h
  have fp : F' p = none := by
    cases q : F' p with
    | none => rfl
    | some u =>
      rcases s.new p (ne_none q) with z | z
      · exact absurd t.fp z
      · have : H p = none := z
        rw [t.ins] at this
        cases this
  refine ⟨s.rebase fu no, fu, sl0, kp _ _ (fun _ z => by cases z) t.ins, fp, t.nm, t.rp.up s.e0, t.e0.trans s.e0, fun b o n hn h => kp b o hn (t.kp b o n hn h), fun b h => ?_, t.tb.trans s.tab⟩
  rcases s.new b h with z | z
  · exact t.nw b z
  · by_cases q : b = p
    · subst q; exact absurd fp h
    · refine .inr ?_
      cases w : H0 b with
      | none => rfl
      | some o =>
        have z : H b = none := z
        cases o with
        | tbl ps =>
          obtain ⟨ps', w'⟩ := t.tb b ps w
          rw [w'] at z; cases z
        | _ => rw [t.kp b _ q (fun _ z => by cases z) w] at z; cases z
end
end Z
namespace Z
open L2 PySem PySem.Spec PyProof.Rows
open Evl (Ex ex_l ex_t ex_rd fresh_back)
end Z
namespace Z
open L2 PySem PySem.Spec PyProof.Rows
theorem dvd_pow2 : ∀ {n : Nat} {d : Nat}, d ∣ 2 ^ n → ∃ i, i ≤ n ∧ d = 2 ^ i
  | 0, d, h => ⟨0, Nat.le_refl _, by simpa using h⟩
  | n + 1, d, h => by
    rcases (show d % 2 = 0 ∨ d % 2 = 1 by omega) with e | e
    · obtain ⟨k, rfl⟩ : ∃ k, d = 2 * k := ⟨d / 2, by omega⟩
      rw [Nat.pow_succ, Nat.mul_comm (2 ^ n)] at h
      obtain ⟨i, h1, h2⟩ := dvd_pow2 (Nat.dvd_of_mul_dvd_mul_left (by decide) h)
      exact ⟨i + 1, by omega, by rw [h2, Nat.pow_succ, Nat.mul_comm]⟩
    · have co : Nat.Coprime d 2 := by
        unfold Nat.Coprime
        rw [Nat.gcd_comm, Nat.gcd_rec, e]; rfl
      rw [Nat.pow_succ] at h
      obtain ⟨i, h1, h2⟩ := dvd_pow2 (Nat.Coprime.dvd_of_dvd_mul_right co h)
      exact ⟨i, by omega, h2⟩
end Z
namespace Z
open L2 PySem PySem.Spec PyProof.Rows
open Evl (Ex ex_l ex_t ex_rd fresh_back)
variable {Wx : WX}
def plainS : Option Sv → Bool
  | none => true
  | some (.val _) => true
  | _ => false
section
variable {K : Fg} {F F' : Hp}
theorem rd_off (e : ∀ b o, (∀ C dx us, o ≠ .ins C dx us) → F b = some o → F' b = some o) {a : Addr} {u : HO} (hu : ∀ C dx us, u ≠ .ins C dx us) (h : Rd F a u) : Rd F' a u := by
  rcases h with h | ⟨o, h⟩
  · exact .inl (e a _ hu h)
  · exact .inr ⟨o, e a _ (fun _ _ _ z => by cases z) h⟩
mutual
theorem Rp.off (e : ∀ b o, (∀ C dx us, o ≠ .ins C dx us) → F b = some o → F' b = some o) : ∀ (d : Da) (v : V), Rp K F v d → Rp K F' v d
  | .none, _, h => by cases h; exact .non
  | .bool b, _, h => by cases h; exact .bl b
  | .int i, _, h => by cases h; exact .int i
  | .str x, _, h => by cases h; exact .str x
  | .list ds, _, h => by cases h with | lst hs ha => exact .lst (e _ _ (fun _ _ _ z => by cases z) hs) (Rps.off e ds _ ha)
  | .tuple ds, _, h => by cases h with | tup hs ha => exact .tup (hs.imp (rd_off e fun _ _ _ z => by cases z) id) (Rps.off e ds _ ha)
  | .dict es, _, h => by cases h with | dct hs ha => exact .dct (rd_off e (fun _ _ _ z => by cases z) hs) (RpK.off e es _ ha)
theorem Rps.off (e : ∀ b o, (∀ C dx us, o ≠ .ins C dx us) → F b = some o → F' b = some o) : ∀ (ds : List Da) (vs : List V), Rps K F vs ds → Rps K F' vs ds
  | [], _, h => by cases h; exact .nil
  | d :: ds, _, h => by cases h with | cons h1 h2 => exact .cons (Rp.off e d _ h1) (Rps.off e ds _ h2)
theorem RpK.off (e : ∀ b o, (∀ C dx us, o ≠ .ins C dx us) → F b = some o → F' b = some o) : ∀ (ds : List (Da × Da)) (vs : List (Key × V)), RpK K F vs ds → RpK K F' vs ds
  | [], _, h => by cases h; exact .nil
  | (_, d) :: ds, _, h => by cases h with | cons h1 h2 => exact .cons (Rp.off e d _ h1) (RpK.off e ds _ h2)
end
end
structure StJ (K : Fg) (nm : Str) (p C dx : Addr) (F0 H0 : Hp) (g : Gs) (σ : L2.St) (H F : Hp) (a : Addr) (us : List (Str × V)) (fs : List (Str × Da)) : Prop where
  st : Sta K ⟨F, H, none, anyM⟩ g σ H [] [] F a
  fu : g.fu = none
  sl0 : g.sl[0]? = some (some (.ob (.insAt p nm fs)))
  pl : g.sl.tail.all plainS = true
  nsC : PySem.W.nsIn K mainGlobals nm = some (some (.ref C))
  ins : F p = some (.ins C dx us)
  fp : F0 p = none
  nm : us.map Prod.fst = fs.map Prod.fst
  rp : Rps K F (us.map Prod.snd) (fs.map Prod.snd)
  e0 : Ex F0 F
  kp : ∀ b o, b ≠ p → NT o → H0 b = some o → H b = some o
  nw : ∀ b, b ≠ p → F b ≠ none → F0 b ≠ none ∨ H0 b = none
  tb : TbS H0 H
/-- the new instance is as it was, nothing is own -/
def okJ (g g' : Gs) : Prop := g'.fu = none ∧ g'.sl[0]? = g.sl[0]? ∧ g'.sl.tail.all plainS = true
def putD (f : Str) (d : Da) : List (Str × Da) → List (Str × Da)
  | [] => [(f, d)]
  | (n, x) :: r => if n = f then (n, d) :: r else (n, x) :: putD f d r
theorem put_rel {K : Fg} {F : Hp} {f : Str} {v : V} {d : Da} (rv : Rp K F v d) : ∀ {us : List (Str × V)} {fs : List (Str × Da)}, us.map Prod.fst = fs.map Prod.fst → Rps K F (us.map Prod.snd) (fs.map Prod.snd) →
    (putF f v us).map Prod.fst = (putD f d fs).map Prod.fst ∧ Rps K F ((putF f v us).map Prod.snd) ((putD f d fs).map Prod.snd)
  | [], [], _, _ => ⟨rfl, .cons rv .nil⟩
  | [], _ :: _, h, _ => by cases h
  | _ :: _, [], h, _ => by cases h
  | (n, x) :: us, (n', y) :: fs, h, hr => by
    rw [List.map_cons, List.map_cons] at h hr
    injection h with h1 h2
    have h1 : n = n' := h1
    subst h1
    cases hr with
    | cons r1 r2 =>
      obtain ⟨e1, e2⟩ := put_rel rv h2 r2
      unfold putF putD
      by_cases e : n = f
      · rw [if_pos e, if_pos e]
        exact ⟨by rw [List.map_cons, List.map_cons, h2], .cons rv r2⟩
      · rw [if_neg e, if_neg e]
        exact ⟨by rw [List.map_cons, List.map_cons, e1], .cons r1 e2⟩
section
variable {K : Fg} {nm : Str} {p C dx : Addr} {F0 H0 : Hp} {g g' : Gs} {σ σ' : L2.St} {H F H' F' : Hp} {a a' : Addr} {us : List (Str × V)} {fs : List (Str × Da)}
theorem no_ownJ {k : Kd} (h0 : g.sl[0]? = some (some (.ob k))) (ht : g.sl.tail.all plainS = true) {i : Nat} {ds : List Da} : g.sl[i]? ≠ some (some (.own ds)) := fun z => by
  cases i with
  | zero => rw [h0] at z; cases z
  | succ i =>
    have h1 : g.sl.tail[i]? = some (some (.own ds)) := by rw [List.getElem?_tail]; exact z
    have := List.all_eq_true.mp ht _ (List.mem_of_getElem? h1)
    cases this
theorem no_memJ {k : Kd} (h0 : g.sl[0]? = some (some (.ob k))) (ht : g.sl.tail.all plainS = true) {i : Nat} {bm : Bool} {hs : PySem.NestedKey → Int} {gd : Da → Da → Prop} : g.sl[i]? ≠ some (some (.mem bm hs gd)) := fun z => by
  cases i with
  | zero => rw [h0] at z; cases z
  | succ i =>
    have h1 : g.sl.tail[i]? = some (some (.mem bm hs gd)) := by rw [List.getElem?_tail]; exact z
    have := List.all_eq_true.mp ht _ (List.mem_of_getElem? h1)
    cases this
theorem StJ.next (t : StJ K nm p C dx F0 H0 g σ H F a us fs) (s : Sta K ⟨F, H, none, anyM⟩ g' σ' H' [] [] F' a') (ok : okJ g g') : StJ K nm p C dx F0 H0 g' σ' H' F' a' us fs := by
  obtain ⟨fu, o0, pl⟩ := ok
  have sl0 : g'.sl[0]? = some (some (.ob (.insAt p nm fs))) := o0.trans t.sl0
  have kp : ∀ b o, NT o → H b = some o → H' b = some o := fun b o hn h => s.keep b o (fun z => by cases z) hn h
  refine ⟨⟨Ex.refl _, s.eh, fun b o _ _ h => h, fun b h => .inl h, fun b h => (by cases h), fun _ => rfl, fun n h => (by rw [fu] at h; cases h), s.tmp, s.len, fun i sv h => ?_, s.dis, s.tabk, .refl⟩, fu, sl0, pl, t.nsC, s.e0 _ _ t.ins, t.fp, t.nm, t.rp.up s.e0, t.e0.trans s.e0, fun b o n hn h => kp b o hn (t.kp b o n hn h), fun b n h => ?_, t.tb.trans s.tab⟩
  · obtain ⟨v, h1, h2⟩ := s.slot i sv h
    refine ⟨v, h1, ?_⟩
    cases sv with
    | own ds => exact absurd h (no_ownJ sl0 pl)
    | mem bm hs gd => exact absurd h (no_memJ sl0 pl)
    | _ => exact h2
  · rcases s.new b h with z | z
    · exact t.nw b n z
    · refine .inr ?_
      cases w : H0 b with
      | none => rfl
      | some o =>
        have z : H b = none := z
        cases o with
        | tbl ps =>
          obtain ⟨ps', w'⟩ := t.tb b ps w
          rw [w'] at z; cases z
        | _ => rw [t.kp b _ n (fun _ z => by cases z) w] at z; cases z
theorem StJ.put (t : StJ K nm p C dx F0 H0 g σ H F a us fs) {f : Str} {v : V} {d : Da} (rv : Rp K F v d) :
    StJ K nm p C dx F0 H0 (g.set 0 (.ob (.insAt p nm (putD f d fs)))) σ (upd H p (.ins C dx (putF f v us))) (upd F p (.ins C dx (putF f v us))) a (putF f v us) (putD f d fs) := by
  obtain ⟨r1, r2⟩ := put_rel (f := f) rv t.nm t.rp
  have off : ∀ b o, (∀ C dx us, o ≠ HO.ins C dx us) → F b = some o → (upd F p (.ins C dx (putF f v us))) b = some o := fun b o n h => by
    rw [upd_ne fun z => by subst z; rw [t.ins] at h; cases h; exact n _ _ _ rfl]
    exact h
  have r3 := Rps.off (K := K) off _ _ r2
  have l0 : 0 < g.sl.length := by
    have := t.sl0
    rcases Nat.eq_zero_or_pos g.sl.length with z | z
    · rw [List.getElem?_eq_none (by omega)] at this; cases this
    · exact z
  have sl0 : (g.set 0 (.ob (.insAt p nm (putD f d fs)))).sl[0]? = some (some (.ob (.insAt p nm (putD f d fs)))) := by
    show (g.sl.set 0 _)[0]? = _
    rw [List.getElem?_set_self l0]
  have pl : (g.set 0 (.ob (.insAt p nm (putD f d fs)))).sl.tail.all plainS = true := by
    show (g.sl.set 0 _).tail.all plainS = true
    have := t.pl
    cases h : g.sl with
    | nil => rfl
    | cons x xs => rw [h] at this; exact this
  obtain ⟨v0, w1, w2⟩ := t.st.slot 0 _ t.sl0
  have up := TbS.but (H' := upd H p (.ins C dx (putF f v us))) (t.st.eh _ _ t.ins) (fun _ z => by cases z) fun b u nb h => by rw [upd_ne nb]; exact h
  refine ⟨⟨Ex.refl _, fun b o h => ?_, fun b o _ _ h => h, fun b h => .inl h, fun b h => (by cases h), fun _ => rfl, fun n h => (by rw [show (g.set 0 (.ob (.insAt p nm (putD f d fs)))).fu = g.fu from rfl, t.fu] at h; cases h), .nil, ?_, fun i sv h => ?_, fun i j ds es _ h => absurd h (no_ownJ sl0 pl), fun y cd P e1 e2 => ?_, .refl⟩, t.fu, sl0, pl, t.nsC, upd_same, t.fp, r1, r3, fun b o h => ?_, fun b o n hn h => ?_, fun b n h => ?_, t.tb.trans up⟩
  rotate_left 3
  · obtain ⟨⟨ps, a1, a2, a3⟩, a4⟩ := t.st.t0 y cd P e1 e2
    have nP : P ≠ p := fun z => by rw [z, t.ins] at a4; cases a4
    refine ⟨⟨ps, (upd_ne nP).trans a1, a2, fun pos cv hc => ?_⟩, (upd_ne nP).trans a4⟩
    obtain ⟨c, w1, w2⟩ := a3 pos cv hc
    exact ⟨c, w1, (upd_ne fun z => by rw [z, t.ins] at w2; unfold LamX.CodeO at w2; cases w2).trans w2⟩
  rotate_right 3
  · by_cases e : b = p
    · subst e; rw [upd_same] at h ⊢; exact h
    · rw [upd_ne e] at h ⊢; exact t.st.eh b o h
  · show σ.length = (g.sl.set 0 _).length
    rw [List.length_set]; exact t.st.len
  · cases i with
    | zero =>
      rw [sl0] at h
      cases h
      refine ⟨v0, w1, ?_⟩
      obtain ⟨_, _, _, e1, _⟩ := w2
      exact ⟨C, dx, _, e1, t.nsC, upd_same, r1, r3⟩
    | succ i =>
      have h' : g.sl[i + 1]? = some (some sv) := by
        rw [← h]
        show _ = (g.sl.set 0 _)[i + 1]?
        rw [List.getElem?_set_ne (by omega)]
      obtain ⟨v, q1, q2⟩ := t.st.slot (i + 1) sv h'
      refine ⟨v, q1, ?_⟩
      have pp : plainS (some sv) = true := List.all_eq_true.mp t.pl _ (List.mem_of_getElem? (i := i) (by rw [List.getElem?_tail]; exact h'))
      cases sv with
      | val d => exact Rp.off off d v q2
      | _ => cases pp
  · rw [upd_ne fun z => by subst z; rw [t.fp] at h; cases h]
    exact t.e0 b o h
  · rw [upd_ne n]; exact t.kp b o n hn h
  · rw [upd_ne n] at h; exact t.nw b n h
end
end Z
namespace Z
open L2 PySem PySem.Spec PyProof.Rows
/-- the sign of the root of n / d minus t / b * 2 ^ e -/
def cmR (n d e t b : Int) : Int :=
  (if d * t * t * 2 ^ (2 * e).toNat < n * b * b * 2 ^ (0 - 2 * e).toNat then 1 else 0) - (if n * b * b * 2 ^ (0 - 2 * e).toNat < d * t * t * 2 ^ (2 * e).toNat then 1 else 0)
theorem cmR_pos {n d e t b : Int} : 0 < cmR n d e t b ↔ d * t * t * 2 ^ (2 * e).toNat < n * b * b * 2 ^ (0 - 2 * e).toNat := by
  unfold cmR
  split <;> split <;> omega
theorem sq_le {x y : Int} (h0 : 0 ≤ x) (h : x ≤ y) : x * x ≤ y * y := Int.mul_le_mul h h h0 (Int.le_trans h0 h)
theorem p4 (m : Nat) : (2 : Int) ^ m * 2 ^ m = 4 ^ m := by rw [← Int.mul_pow]; rfl
/-- whether the root's position is above the threshold -/
def UpR (n d e k : Int) (T : Bool → Th) : Prop :=
  cmR n d e k 1 ≠ 0 ∧ (0 < cmR n d e (k * (T (decide (k % 2 = 1))).d + (T (decide (k % 2 = 1))).n) (T (decide (k % 2 = 1))).d ∨ (cmR n d e (k * (T (decide (k % 2 = 1))).d + (T (decide (k % 2 = 1))).n) (T (decide (k % 2 = 1))).d = 0 ∧ (T (decide (k % 2 = 1))).up = true))
instance (n d e k : Int) (T : Bool → Th) : Decidable (UpR n d e k T) := by unfold UpR; infer_instance
end Z
namespace Z
open L2 PySem PySem.Spec PyProof.Rows
open Evl (Ex ex_l ex_t ex_rd fresh_back)
end Z
namespace Z
open L2 PySem PySem.Spec PyProof.Rows
open Evl (Ex ex_l ex_t ex_rd fresh_back)
mutual
def layX : Da → Bool
  | .none => true
  | .bool _ => true
  | .int _ => true
  | .str x => PyData.strOk x
  | .list xs => layXs xs
  | .tuple xs => layXs xs
  | .dict kvs => layKv kvs
def layXs : List Da → Bool
  | [] => true
  | x :: xs => layX x && layXs xs
def layKv : List (Da × Da) → Bool
  | [] => true
  | (k, v) :: r => layX k && layX v && layKv r
end
mutual
def szX : Da → Nat
  | .none => 4
  | .bool _ => 5
  | .int _ => 1921
  | .str x => 10 * x.length + 2
  | .list xs => szXs xs + 3
  | .tuple xs => szXs xs + 3
  | .dict kvs => szKv kvs + 3
def szXs : List Da → Nat
  | [] => 0
  | x :: xs => szX x + 2 + szXs xs
def szKv : List (Da × Da) → Nat
  | [] => 0
  | (k, v) :: r => szX k + szX v + 4 + szKv r
end
theorem dictText_len_le (ps : List Str) : (dictText ps).length ≤ (ps.map (·.length)).sum + 2 * ps.length + 2 := by
  have h : (Str.join ", " ps).length ≤ (ps.map (·.length)).sum + ps.length * 2 := StrLaws.join_length_le ", " ps
  unfold dictText
  rw [strLen_append, strLen_append]
  show 1 + (Str.join ", " ps).length + 1 ≤ _
  omega
mutual
theorem szX_ok : ∀ d : Da, layX d = true → d.showable = true → d.shown.length ≤ szX d
  | .none, _, _ => by decide +kernel
  | .bool true, _, _ => by decide +kernel
  | .bool false, _, _ => by decide +kernel
  | .int i, _, h => int_text_len_1921 (of_decide_eq_true (show decide (i.natAbs.log2 < 1920) = true from h))
  | .str x, h, _ => StrLaws.reprText_len x (strOk_small h)
  | .list xs, h, h' => by
    have h1 := szXs_ok xs h (by simpa [PyData.showable] using h')
    have h2 := listText_len_le (PyData.shownAll xs)
    show (listText (PyData.shownAll xs)).length ≤ szXs xs + 3
    omega
  | .tuple xs, h, h' => by
    have h1 := szXs_ok xs h (by simpa [PyData.showable] using h')
    have h2 := tupleText_len_le (PyData.shownAll xs)
    show (tupleText (PyData.shownAll xs)).length ≤ szXs xs + 3
    omega
  | .dict kvs, h, h' => by
    have h1 := szKv_ok kvs h (by simpa [PyData.showable] using h')
    have h2 := dictText_len_le (PyData.shownKv kvs)
    show (dictText (PyData.shownKv kvs)).length ≤ szKv kvs + 3
    omega
theorem szXs_ok : ∀ xs : List Da, layXs xs = true → PyData.showableAll xs = true → ((PyData.shownAll xs).map (·.length)).sum + 2 * (PyData.shownAll xs).length ≤ szXs xs
  | [], _, _ => by simp [PyData.shownAll, szXs]
  | x :: xs, h, h' => by
    have q : layX x = true ∧ layXs xs = true := by simpa [layXs] using h
    have q' : x.showable = true ∧ PyData.showableAll xs = true := by simpa [PyData.showableAll] using h'
    have h1 := szX_ok x q.1 q'.1
    have h2 := szXs_ok xs q.2 q'.2
    simp only [PyData.shownAll, szXs, List.map_cons, List.sum_cons, List.length_cons]
    omega
theorem szKv_ok : ∀ kvs : List (Da × Da), layKv kvs = true → PyData.showableKv kvs = true → ((PyData.shownKv kvs).map (·.length)).sum + 2 * (PyData.shownKv kvs).length ≤ szKv kvs
  | [], _, _ => by simp [PyData.shownKv, szKv]
  | (k, v) :: r, h, h' => by
    have q : (layX k = true ∧ layX v = true) ∧ layKv r = true := by simpa [layKv] using h
    have q' : (k.showable = true ∧ v.showable = true) ∧ PyData.showableKv r = true := by simpa [PyData.showableKv] using h'
    have h1 := szX_ok k q.1.1 q'.1.1
    have h2 := szX_ok v q.1.2 q'.1.2
    have h3 := szKv_ok r q.2 q'.2
    have e : (k.shown ++ ": " ++ v.shown).length = k.shown.length + 2 + v.shown.length := by
      rw [strLen_append, strLen_append]; rfl
    simp only [PyData.shownKv, szKv, List.map_cons, List.sum_cons, List.length_cons, e]
    omega
end
mutual
theorem cps_shownX : ∀ d : Da, layX d = true → Cps d.shown
  | .none, _ => cps_of _
  | .bool b, _ => by cases b <;> exact cps_of _
  | .int i, _ => cps_of _
  | .str x, h => cps_repr (cps_ok.mp h)
  | .list xs, h => cps_app (cps_text _ _ _ (cps_of _) (cps_allX xs h)) (cps_of _)
  | .tuple xs, h => cps_app (cps_app (cps_of _) (cps_join (cps_of _) _ (cps_allX xs h))) (cps_of _)
  | .dict kvs, h => cps_app (cps_app (cps_of _) (cps_join (cps_of _) _ (cps_allKv kvs h))) (cps_of _)
theorem cps_allX : ∀ xs : List Da, layXs xs = true → ∀ t ∈ PyData.shownAll xs, Cps t
  | [], _, t, ht => by simp [PyData.shownAll] at ht
  | x :: xs, h, t, ht => by
    have q : layX x = true ∧ layXs xs = true := by simpa [layXs] using h
    rcases List.mem_cons.mp (show t ∈ x.shown :: PyData.shownAll xs from ht) with rfl | ht
    · exact cps_shownX x q.1
    · exact cps_allX xs q.2 t ht
theorem cps_allKv : ∀ kvs : List (Da × Da), layKv kvs = true → ∀ t ∈ PyData.shownKv kvs, Cps t
  | [], _, t, ht => by simp [PyData.shownKv] at ht
  | (k, v) :: r, h, t, ht => by
    have q : (layX k = true ∧ layX v = true) ∧ layKv r = true := by simpa [layKv] using h
    rcases List.mem_cons.mp (show t ∈ (k.shown ++ ": " ++ v.shown) :: PyData.shownKv r from ht) with rfl | ht
    · exact cps_app (cps_app (cps_shownX k q.1.1) (cps_of _)) (cps_shownX v q.1.2)
    · exact cps_allKv r q.2 t ht
end
/-- may be shown, dicts among them -/
structure ShX (d : Da) : Prop where
  lay : layX d = true
  sh : d.showable = true
  dp : d.depth ≤ 60
  sz : szX d ≤ 16000000
theorem ShX.len {d : Da} (h : ShX d) : d.shown.length ≤ sizeLine := Nat.le_trans (szX_ok d h.lay h.sh) (Nat.le_trans h.sz (by decide))
theorem ShX.cps {d : Da} (h : ShX d) : Cps d.shown := cps_shownX d h.lay
end Z
namespace Z
open L2 PySem PySem.Spec PyProof.Rows
theorem sq_lt' {x y : Int} (hx : 0 ≤ x) (hy : 0 ≤ y) (h : x * x < y * y) : x < y := by
  rcases Int.lt_or_le x y with z | z
  · exact z
  · have := sq_le hy z
    omega
theorem sq_le' {x y : Int} (hx : 0 ≤ x) (hy : 0 ≤ y) (h : x * x ≤ y * y) : x ≤ y := by
  rcases Int.lt_or_le y x with z | z
  · have := Int.mul_le_mul z z (by omega) hx
    have e : (y + 1) * (y + 1) = y * y + 2 * y + 1 := by grind
    omega
  · exact z
theorem p4n (e : Int) : (2 : Int) ^ (2 * e).toNat = 2 ^ e.toNat * 2 ^ e.toNat ∧ (2 : Int) ^ (0 - 2 * e).toNat = 2 ^ (-e).toNat * 2 ^ (-e).toNat := by
  rw [← Int.pow_add, ← Int.pow_add]
  constructor <;> congr 1 <;> omega
/-- t / u at the root's side, told by a fraction a / b: A = a * 2 ^ -e, B = b * 2 ^ e -/
structure Side (n d a b A B e : Int) : Prop where
  hA : A = a * 2 ^ (-e).toNat
  hB : B = b * 2 ^ e.toNat
  n0 : 0 < n
  d0 : 0 < d
  a0 : 0 ≤ a
  b0 : 0 < b
section
variable {n d a b A B e t u : Int}
theorem Side.A0 (s : Side n d a b A B e) : 0 ≤ A := by rw [s.hA]; exact Int.mul_nonneg s.a0 (Int.le_of_lt (pow2_pos _))
theorem Side.B0 (s : Side n d a b A B e) : 0 < B := by rw [s.hB]; exact Int.mul_pos s.b0 (pow2_pos _)
/-- the two squares, told by cmR's two sides -/
theorem Side.sq (s : Side n d a b A B e) : (t * B) * (t * B) * d = (d * t * t * 2 ^ (2 * e).toNat) * (b * b) ∧ (u * A) * (u * A) * d = (u * u * 2 ^ (0 - 2 * e).toNat) * (a * a * d) := by
  rw [s.hA, s.hB, (p4n e).1, (p4n e).2]
  constructor <;> grind
/-- the fraction is not above the root -/
theorem Side.le (s : Side n d a b A B e) (h : a * a * d ≤ n * (b * b)) (u0 : 0 < u) (t0 : 0 ≤ t) (c : cmR n d e t u ≤ 0) : u * A ≤ t * B := by
  have c : n * u * u * 2 ^ (0 - 2 * e).toNat ≤ d * t * t * 2 ^ (2 * e).toNat := by
    have := cmR_pos (n := n) (d := d) (e := e) (t := t) (b := u)
    omega
  have hd := s.d0
  have bb := Int.mul_pos s.b0 s.b0
  refine sq_le' (Int.mul_nonneg (Int.le_of_lt u0) s.A0) (Int.mul_nonneg t0 (Int.le_of_lt s.B0)) (Int.le_of_mul_le_mul_right (a := d) ?_ hd)
  rw [(s.sq (t := t) (u := u)).1, (s.sq (t := t) (u := u)).2]
  have p := Int.mul_pos (Int.mul_pos u0 u0) (pow2_pos (0 - 2 * e).toNat)
  have q1 := Int.mul_le_mul_of_nonneg_right c (Int.le_of_lt bb)
  have q2 := Int.mul_le_mul_of_nonneg_left h (Int.le_of_lt p)
  have e1 : n * u * u * 2 ^ (0 - 2 * e).toNat * (b * b) = u * u * 2 ^ (0 - 2 * e).toNat * (n * (b * b)) := by grind
  omega
/-- the fraction is below the root -/
theorem Side.lt (s : Side n d a b A B e) (h : a * a * d < n * (b * b)) (u0 : 0 < u) (t0 : 0 ≤ t) (c : cmR n d e t u ≤ 0) : u * A < t * B := by
  have c : n * u * u * 2 ^ (0 - 2 * e).toNat ≤ d * t * t * 2 ^ (2 * e).toNat := by
    have := cmR_pos (n := n) (d := d) (e := e) (t := t) (b := u)
    omega
  have hd := s.d0
  have bb := Int.mul_pos s.b0 s.b0
  refine sq_lt' (Int.mul_nonneg (Int.le_of_lt u0) s.A0) (Int.mul_nonneg t0 (Int.le_of_lt s.B0)) (Int.lt_of_mul_lt_mul_right (a := d) ?_ (Int.le_of_lt hd))
  rw [(s.sq (t := t) (u := u)).1, (s.sq (t := t) (u := u)).2]
  have p := Int.mul_pos (Int.mul_pos u0 u0) (pow2_pos (0 - 2 * e).toNat)
  have q1 := Int.mul_le_mul_of_nonneg_right c (Int.le_of_lt bb)
  have q2 := Int.mul_lt_mul_of_pos_left h p
  have e1 : n * u * u * 2 ^ (0 - 2 * e).toNat * (b * b) = u * u * 2 ^ (0 - 2 * e).toNat * (n * (b * b)) := by grind
  omega
end
end Z
namespace Z
open L2 PySem PySem.Spec PyProof.Rows
open Evl (Ex ex_l ex_t ex_rd fresh_back)
variable {Wx : WX}
def dRevL (ta : DE) : DE := fun g Q => ta g fun x g1 => match x with
  | .val (.list ds) => Q (.val (.list ds.reverse)) g1
  | _ => False
theorem Rps.app2 {K : Fg} {F : Hp} : ∀ {vs : List V} {ds : List Da} {v : V} {d : Da}, Rps K F vs ds → Rp K F v d → Rps K F (vs ++ [v]) (ds ++ [d])
  | _, _, _, _, .nil, r => .cons r .nil
  | _, _, _, _, .cons a t, r => .cons a (Rps.app2 t r)
theorem Rps.rev {K : Fg} {F : Hp} : ∀ {vs : List V} {ds : List Da}, Rps K F vs ds → Rps K F vs.reverse ds.reverse
  | _, _, .nil => .nil
  | _, _, .cons a t => by
    rw [List.reverse_cons, List.reverse_cons]
    exact Rps.app2 (Rps.rev t) a
section
variable {X : Cx} {e : Expr} {ta : DE} {k : Nat} {p1 p2 p3 pos : Pos}
theorem e_revL (ha : PE X e (up X.K ta)) : PE X (.Subscript e (.Slice none none (some (.UnaryOp .USub (.Constant (.int 1) k p1) p2)) p3) pos) (up X.K (dRevL ta)) := pe_to (pe_revL ha) fun σ H Q q => by
  obtain ⟨c, g, tv, tr, F, ad, post, s, t, k⟩ := q
  refine ⟨c, g, tv, tr, F, ad, _, s, t, fun x g1 v1 H1 F1 a1 t1 s1 => ?_⟩
  cases x with
  | val d =>
    cases d with
    | list ds =>
      have hr : Rp X.K F1 v1 (.list ds) := s1.top
      cases hr with
      | lst sq m =>
        rename_i pp xs
        refine ⟨_, _, rfl, .inl (.inl (s1.eh _ _ sq)), fun q hq => ?_⟩
        have gr := Gr.new (o := .lst xs.reverse) s1.eh hq
        exact k _ g1 _ _ _ a1 t1 ((s1.pop1.grow gr).push (r := .val (.list ds.reverse)) (.lst upd_same (m.rev.up gr.f)))
    | _ => exact t1.elim
  | _ => exact t1.elim
end
structure Tri (x y z : Int) : Prop where
  x0 : 0 ≤ x
  y0 : 0 ≤ y
  z0 : 0 ≤ z
  ev : (x + y + z) % 2 = 0
  a : x ≤ y + z
  b : y ≤ x + z
  c : z ≤ x + y
theorem Tri.add {x y z x' y' z' : Int} (h : Tri x y z) (h' : Tri x' y' z') : Tri (x + x') (y + y') (z + z') := by
  obtain ⟨a1, a2, a3, a4, a5, a6, a7⟩ := h
  obtain ⟨b1, b2, b3, b4, b5, b6, b7⟩ := h'
  exact ⟨by omega, by omega, by omega, by omega, by omega, by omega, by omega⟩
end Z
namespace Z
open L2 PySem PySem.Spec PyProof.Rows
open Evl (Ex ex_l ex_t ex_rd fresh_back)
variable {Wx : WX}
theorem NewL.grow {K : Fg} {c : Con} {g : Gs} {σ : L2.St} {H F : Hp} {a p : Addr} {v : V} {ds : List Da} {ot : HO} (h : NewL K c g σ H F a v ds) (e : Ex F H) (hp : H p = none) : NewL K c g σ (upd H p ot) (upd F p ot) a v ds := by
  obtain ⟨o, xs, rfl, q2, q3, q4, q5, q6, q7⟩ := h.ex
  have ne : o ≠ p := fun z => by rw [z, hp] at q4; cases q4
  exact ⟨o, xs, rfl, by rw [upd_ne ne]; exact q2, q3, by rw [upd_ne ne]; exact q4, q5.up (Gr.new e hp).f, q6, q7⟩
end Z
namespace LZN
open PySem
open PySem.Sem (wp)
/-- a zip ahead of an item: fresh, or its first tuple still held -/
def ZSt (h : Heap) (q TI TO u1 u2 S : Addr) : Prop := IsZip h q TI TO .none ∨ ∃ (T : Addr) (f : Bool) (oT : Obj), IsZipHeld h q TI TO T f ∧ h.get? T = some oT ∧ T ≠ q ∧ T ≠ u1 ∧ T ≠ u2 ∧ T ≠ S
structure Run (h : Heap) (q TI TO u1 u2 l1 l2 S : Addr) (xs ys : Array Value) (k : Nat) : Prop where
  D : ZipApart q TI TO u1 u2 l1 l2
  z : ZSt h q TI TO u1 u2 S
  o : ∃ a b, IsPair h TO a b
  i : IsPair h TI (.ref u1) (.ref u2)
  g1 : h.IsListIter u1 l1 k
  g2 : h.IsListIter u2 l2 k
  m1 : h.IsList l1 xs
  m2 : h.IsList l2 ys
structure Off (S q TI TO u1 u2 l1 l2 : Addr) : Prop where
  q : S ≠ q
  TI : S ≠ TI
  TO : S ≠ TO
  u1 : S ≠ u1
  u2 : S ≠ u2
  l1 : S ≠ l1
  l2 : S ≠ l2
section
variable {h h' : Heap} {q TI TO u1 u2 l1 l2 S : Addr} {xs ys : Array Value} {k : Nat}
theorem Run.keep (R : Run h q TI TO u1 u2 l1 l2 S xs ys k) (o : Off S q TI TO u1 u2 l1 l2) (hk : ∀ c ob, c ≠ S → h.get? c = some ob → h'.get? c = some ob) : Run h' q TI TO u1 u2 l1 l2 S xs ys k := by
  obtain ⟨a, b, z2⟩ := R.o
  refine ⟨R.D, ?_, ⟨a, b, hk _ _ o.TO.symm z2⟩, hk _ _ o.TI.symm R.i, R.g1.at fun ob e => hk _ ob o.u1.symm e, R.g2.at fun ob e => hk _ ob o.u2.symm e, R.m1.at fun ob e => hk _ ob o.l1.symm e, R.m2.at fun ob e => hk _ ob o.l2.symm e⟩
  rcases R.z with z1 | ⟨T, f, oT, z1, z2, n1, n2, n3, n4⟩
  · exact .inl (hk _ _ o.q.symm z1)
  · exact .inr ⟨T, f, oT, hk _ _ o.q.symm z1, hk _ _ n4 z2, n1, n2, n3, n4⟩
end
end LZN
namespace Z
open L2 PySem PySem.Spec PyProof.Rows
open Evl (Ex ex_l ex_t ex_rd fresh_back)
end Z
namespace L2
open PySem PySem.Spec PyProof.Rows
end L2
namespace Z
open L2 PySem PySem.Spec PyProof.Rows
open Evl (Ex ex_l ex_t ex_rd fresh_back)
end Z
namespace Z
open L2 PySem PySem.Spec PyProof.Rows
end Z
namespace Z
open L2 PySem PySem.Spec PyProof.Rows
end Z
namespace Z
open L2 PySem PySem.Spec PyProof.Rows
open Evl (Ex ex_l ex_t ex_rd fresh_back)
end Z
namespace Z
open L2 PySem PySem.Spec PyProof.Rows
open Evl (Ex ex_l ex_t ex_rd fresh_back)
end Z
namespace Z
open L2 PySem PySem.Spec PyProof.Rows
open Evl (Ex ex_l ex_t ex_rd fresh_back)
end Z
namespace Z
open L2 PySem PySem.Spec PyProof.Rows
open Evl (Ex ex_l ex_t ex_rd fresh_back)
end Z
namespace Z
open L2 PySem PySem.Spec PyProof.Rows
open Evl (Ex ex_l ex_t ex_rd fresh_back)
variable {Wx : WX}
/-- an expression that may raise: it gives what a def gives -/
abbrev DX := Gs → (Rr → Gs → Prop) → Prop
def Gs.unset (g : Gs) (i : Nat) : Gs := { g with sl := g.sl.set i none }
def gAs (g : Gs) (nm : Str) (z : Option Da) : Option Nat → Gs
  | none => g
  | some i => g.set i (.ob (.exc nm z))
def rtN (post : Rr → Option Nat → Prop) : Rr → Gs → Prop := fun r g => match r with
  | .exc _ _ => False
  | .val x => post (.val x) g.fu
  | .own ds => post (.own ds) g.fu
end Z
namespace Z
open L2 PySem PySem.Spec PyProof.Rows
open Evl (Ex ex_l ex_t ex_rd fresh_back)
open LamX (LamS lamEnv lamCx lam_start2 inv_table CodeO)
variable {Wx : WX}
/-- what a lambda's body may see: no own list, no source -/
def plainO : Option Sv → Option Sv
  | some (.own _) => none
  | some (.mem _ _ _) => none
  | some .src => none
  | x => x
def gLam (g : Gs) : Gs := ⟨g.sl.map plainO, none, true⟩
/-- the lambda as a def's promise -/
def lamF (t : DX) (g : Gs) : FSp := fun rs fu post => rs = [] ∧ fu = none ∧ t (gLam g) fun r _ => post r none
section
variable {K : Fg} {c : Con} {g : Gs} {σ : L2.St} {H H' F F' : Hp} {tv : List V} {tr : List Rv} {a a' : Addr}
theorem Sta.lam (s : Sta K c g σ H tv tr F a) (ef : Ex F F') (eh : Ex F' H') (tk : TabK K F' H') : Sta K ⟨F', H', none, anyM⟩ (gLam g) σ H' [] [] F' a' := by
  have back : ∀ {i : Nat} {sv : Sv}, (gLam g).sl[i]? = some (some sv) → g.sl[i]? = some (some sv) ∧ (∀ ds, sv ≠ .own ds) ∧ sv ≠ .src ∧ ∀ bm hs gd, sv ≠ .mem bm hs gd := fun {i sv} h => by
    have h' : (g.sl.map plainO)[i]? = some (some sv) := h
    rw [List.getElem?_map] at h'
    cases q : g.sl[i]? with
    | none => rw [q] at h'; cases h'
    | some x =>
      rw [q] at h'
      have h2 : plainO x = some sv := Option.some.inj h'
      cases x with
      | none => cases h2
      | some y =>
        cases y with
        | own ds => cases h2
        | src => cases h2
        | mem bm hs gd => cases h2
        | val d => cases h2; exact ⟨rfl, fun _ z => (by cases z), fun z => (by cases z), fun _ _ _ z => (by cases z)⟩
        | scr d => cases h2; exact ⟨rfl, fun _ z => (by cases z), fun z => (by cases z), fun _ _ _ z => (by cases z)⟩
        | ob d => cases h2; exact ⟨rfl, fun _ z => (by cases z), fun z => (by cases z), fun _ _ _ z => (by cases z)⟩
  refine ⟨Ex.refl _, eh, fun b o _ _ h => h, fun b h => .inl h, fun b h => (by cases h), fun _ => rfl, fun n h => (by cases h), .nil, ?_, fun i sv h => ?_, fun i j ds es _ h => absurd rfl ((back h).2.1 ds), tk, .refl⟩
  · show σ.length = (g.sl.map plainO).length
    rw [List.length_map]; exact s.len
  · obtain ⟨h1, h2, h3, h4⟩ := back h
    obtain ⟨v, w1, w2⟩ := s.slot i sv h1
    refine ⟨v, w1, ?_⟩
    cases sv with
    | val d => exact Rp.up w2 ef
    | src => exact absurd rfl h3
    | scr ns => obtain ⟨b, z1, z2⟩ := w2; exact ⟨b, z1, ex_l ef z2⟩
    | ob k => exact ObOk.up ef w2
    | own ds => exact absurd rfl (h2 ds)
    | mem bm hs gd => exact absurd rfl (h4 bm hs gd)
end
end Z
namespace Z
open L2 PySem PySem.Spec PyProof.Rows
open Evl (Ex ex_l ex_t ex_rd fresh_back)
variable {Wx : WX}
/-- the classes, as values -/
inductive Cvs : List V → List Value → Prop
  | nil : Cvs [] []
  | cons {v : V} {u : Value} {vs : List V} {us : List Value} : (∀ w, RelV v w → w = u) → Cvs vs us → Cvs (v :: vs) (u :: us)
theorem Cvs.all {vs : List V} {us ws : List Value} (h : Cvs vs us) (r : Vals vs ws) : ws = us := by
  induction h generalizing ws with
  | nil => cases r; rfl
  | cons h1 _ ih =>
    cases r with
    | cons r1 r2 => rw [h1 _ r1, ih r2]
def dGIx (i : Nat) (ti : DE) : DG := fun r g Q => (∃ ds, g.sl[i]? = some (some (.own ds))) ∧ ti g fun x g1 => match x, r, g1.sl[i]? with
  | .val (.int k), .val d, some (some (.own ds)) => 0 ≤ k ∧ k < ds.length ∧ Q (g1.set i (.own (ds.set k.toNat d)))
  | _, _, _ => False
theorem g_ix {X : Cx} {i : Nat} {o e : Expr} {ti : DE} {pos : Pos} (ho : PE X o (tVar i)) (hi : PE X e (up X.K ti))
    (ha : ∀ v, assign (.Subscript o e pos) X.env v = (do
      let ov ← holding [v] (eval o X.env)
      let iv ← holding [v, ov] (eval e X.env)
      standAt pos
      holding [v, ov, iv] (setItem ov iv v)
      release [v, ov, iv] []) := by intro _; rfl) : PG X (.Subscript o e pos) (upG X.K (dGIx i ti)) := by
  refine ⟨fun pins s σ H v u Q I r h => (pg_sub ho hi set_list ha).run pins s σ H v u Q I r ?_⟩
  obtain ⟨c, g, tv, tr, F, a, r, post, s, ⟨⟨ds0, h0⟩, t⟩, kk⟩ := h
  obtain ⟨v0, w0, o0, xs0, rfl, _⟩ := s.slot i _ h0
  refine ⟨.ref o0, w0, c, g, v :: tv, r :: tr, F, a, _, s, t, fun x g1 y H1 F1 a1 t1 s1 => ?_⟩
  split at t1
  · rename_i k d ds hk
    obtain ⟨v1, w1, o1, xs, rfl, q2, q3, q4, q5, q6⟩ := s1.slot i _ hk
    rw [w0] at w1
    cases w1
    have ry : Rp X.K F1 y (.int k) := s1.top
    cases ry
    have rv : Rp X.K F1 v d := s1.pop1.top
    have hl : k.toNat < xs.length := by rw [q5.len]; omega
    refine ⟨o0, xs, k, k.toNat, rfl, rfl, q4, ?_, kk _ _ _ _ a1 t1.2.2 ((s1.pop1.pop1).mut hk w0 (q5.st rv k.toNat))⟩
    have := Evl.ixN_nat hl
    rw [show ((k.toNat : Nat) : Int) = k by omega] at this
    exact this
  · exact t1.elim
def dIxO (i : Nat) (ti : DE) : DE := fun g Q => (∃ ds, g.sl[i]? = some (some (.own ds))) ∧ ti g fun x g1 => match x, g1.sl[i]? with
  | .val (.int k), some (some (.own ds)) => (match atI ds k with
    | some z => Q (.val z) g1
    | none => False)
  | _, _ => False
theorem e_ixO {X : Cx} {i : Nat} {o e : Expr} {ti : DE} {pos : Pos} (ho : PE X o (tVar i)) (hi : PE X e (up X.K ti)) (hs : PlainIx e := by exact fun _ _ => rfl) : PE X (.Subscript o e pos) (up X.K (dIxO i ti)) := pe_to (pe_ix ix_seq ho hi hs) fun σ H Q q => by
  obtain ⟨c, g, tv, tr, F, a, post, s, ⟨⟨ds0, h0⟩, t⟩, k⟩ := q
  obtain ⟨v0, w0, o0, xs0, rfl, _⟩ := s.slot i _ h0
  refine ⟨.ref o0, w0, c, g, _, _, F, a, _, s, t, fun x g1 y H1 F1 a1 t1 s1 => ?_⟩
  split at t1
  · rename_i k' ds hk
    split at t1
    · rename_i z e
      obtain ⟨v1, w1, o1, xs, rfl, q2, q3, q4, q5, q6⟩ := s1.slot i _ hk
      rw [w0] at w1
      cases w1
      have ry : Rp X.K F1 y (.int k') := s1.top
      cases ry
      obtain ⟨w, e1, e2⟩ := atI_get q5 e
      exact .inl ⟨_, _, k', w, rfl, rfl, .inl (.inl q4), e1, k _ g1 w H1 F1 a1 t1 (s1.pop1.push (r := .val z) e2)⟩
    · exact t1.elim
  · exact t1.elim
end Z
namespace Z
open L2 PySem PySem.Spec PyProof.Rows
open Evl (Ex ex_l ex_t ex_rd fresh_back)
end Z
namespace L2
open PySem PySem.Spec PyProof.Rows
end L2
namespace Z
open L2 PySem PySem.Spec PyProof.Rows
open Evl (Ex ex_l ex_t ex_rd fresh_back)
end Z
namespace Z
open L2 PySem PySem.Spec PyProof.Rows
open Evl (Ex ex_l ex_t ex_rd fresh_back)
def lkS (kvs : List (Str × Da)) (x : Str) : Option Da := (kvs.find? fun p => decide (p.1 = x)).map (·.2)
structure KDi (K : Fg) (w : World) (a : Addr) (kvs : List (Str × Da)) : Prop where
  d : ∃ es n, K.lookup a = some ⟨.type "dict", none, .dict es n, #[]⟩ ∧ PySem.W.KeysLit w.params es.toList
  low : (a == sysModules) = false
  get : ∀ x, (lkS kvs x = none ∧ PySem.W.nsIn K a x = some none) ∨ ∃ d v u, lkS kvs x = some d ∧ PySem.W.nsIn K a x = some (some u) ∧ RelV v u ∧ ∀ F, Rp K F v d
def KHas (K : Fg) (w : World) (p : Addr) (z : Str) (b : Bool) : Prop := ∃ es n r, K.lookup p = some ⟨.type "dict", none, .dict es n, #[]⟩ ∧ PySem.W.KeysLit w.params es.toList ∧ (p == sysModules) = false ∧ PySem.W.nsIn K p z = some r ∧ r.isSome = b
section
variable {X : Cx} {b : Expr} {te : DE} {p pos : Pos} {x : Str} {ra : Addr} {kvs : List (Str × Da)} {pins : List (Addr × Obj)} {s : Shared} {σ : L2.St} {H : Hp}
theorem KDi.has {K : Fg} {w : World} {a : Addr} (h : KDi K w a kvs) (z : Str) : KHas K w a z (lkS kvs z).isSome := by
  obtain ⟨es, n, h1, h2⟩ := h.d
  rcases h.get z with ⟨e1, e2⟩ | ⟨d, v, u, e1, e2, _⟩
  · exact ⟨es, n, _, h1, h2, h.low, e2, by rw [e1]; rfl⟩
  · exact ⟨es, n, _, h1, h2, h.low, e2, by rw [e1]; rfl⟩
end
end Z
namespace Z
open L2 PySem PySem.Spec PyProof.Rows
open Evl (Ex ex_l ex_t ex_rd fresh_back)
end Z
namespace Z
open L2 PySem PySem.Spec PyProof.Rows
open Evl (Ex ex_l ex_t ex_rd fresh_back)
end Z
namespace Z
open L2 PySem PySem.Spec PyProof.Rows
open Evl (Ex ex_l ex_t ex_rd fresh_back)
end Z
namespace Z
open L2 PySem PySem.Spec PyProof.Rows
end Z
namespace Z
open L2 PySem PySem.Spec PyProof.Rows
open Evl (Ex ex_l ex_t ex_rd fresh_back)
variable {Wx : WX}
section
variable {X : Cx} {pins : List (Addr × Obj)} {σ : L2.St} {H F : Hp} {s : Shared}
mutual
theorem nested_of (I : Inv X pins σ H s) (e : Ex F H) : ∀ (k : NestedKey) (v : V) (u : Value), Rp X.K F v k.data → RelV v u → NestedIs s.heap k u
  | .none, v, u, h, r => by
    rw [NestedKey.data] at h
    cases h
    cases (show u = Value.none from r)
    exact .none
  | .num i, v, u, h, r => by
    rw [NestedKey.data] at h
    cases h
    obtain ⟨t, rfl⟩ := (show ∃ t, u = Value.int i t from r)
    exact .int i t
  | .text x, v, u, h, r => by
    rw [NestedKey.data] at h
    cases h
    obtain ⟨t, rfl⟩ := (show ∃ t, u = Value.str x t from r)
    exact .text x t
  | .tup ks, v, u, h, r => by
    rw [NestedKey.data] at h
    cases h with
    | tup sq m =>
      rename_i b xs
      obtain ⟨its, rv, ⟨o, h1, h2, n, h3⟩, _⟩ := I.tuple (ex_t e sq)
      cases (show u = Value.ref b from r)
      exact .tup h1 h2 h3 (by simpa using nesteds_of I e ks xs its m rv)
theorem nesteds_of (I : Inv X pins σ H s) (e : Ex F H) : ∀ (ks : List NestedKey) (vs : List V) (us : List Value), Rps X.K F vs (NestedKey.datas ks) → Vals vs us → NestedAll s.heap ks us
  | [], vs, us, h, r => by
    rw [NestedKey.datas] at h
    cases h
    cases r
    exact .nil
  | k :: ks, vs, us, h, r => by
    rw [NestedKey.datas] at h
    cases h with
    | cons h1 h2 =>
      cases r with
      | cons r1 r2 => exact .cons (nested_of I e k _ _ h1 r1) (nesteds_of I e ks _ _ h2 r2)
end
end
abbrev ML := List (NestedKey × Addr × Option Addr)
def oV : Option Addr → V
  | none => .non
  | some b => .ref b
theorem oV_rel : ∀ o : Option Addr, RelV (oV o) (oVal o)
  | none => rfl
  | some _ => rfl
def conv (L : ML) : List (NestedKey × Addr × Value) := L.map fun e => (e.1, e.2.1, oVal e.2.2)
def getM (L : ML) (k : NestedKey) : Option (Addr × Option Addr) := (L.find? fun x => decide (x.1 = k)).map (·.2)
def putM (L : ML) (k : NestedKey) (b : Addr) (z : Option Addr) : ML := if (getM L k).isSome = true then L.map (fun x => if x.1 = k then (x.1, x.2.1, z) else x) else L ++ [(k, b, z)]
theorem atKey_conv (k : NestedKey) : ∀ L : ML, atKey (conv L) k = (getM L k).map fun p => (p.1, oVal p.2)
  | [] => rfl
  | x :: L => by
    have ih := atKey_conv k L
    unfold atKey conv getM at ih ⊢
    rw [List.map_cons, List.find?_cons, List.find?_cons]
    by_cases e : x.1 = k
    · simp [e]
    · simp only [e, decide_false]
      exact ih
theorem stored_conv (L : ML) (k : NestedKey) (b : Addr) (z : Option Addr) : storedH (conv L) k b (oVal z) = conv (putM L k b z) := by
  unfold storedH putM
  rw [atKey_conv, Option.isSome_map]
  by_cases e : (getM L k).isSome = true
  · rw [if_pos e, if_pos e]
    unfold conv
    rw [List.map_map, List.map_map]
    refine List.map_congr_left fun x _ => ?_
    show putAt k (oVal z) (x.1, x.2.1, oVal x.2.2) = _
    unfold putAt
    by_cases h : x.1 = k
    · simp [h]
    · simp [h]
  · rw [if_neg e, if_neg e]
    unfold conv
    rw [List.map_append]
    rfl
theorem getM_mem {L : ML} {k : NestedKey} {p : Addr × Option Addr} (h : getM L k = some p) : (k, p.1, p.2) ∈ L := by
  unfold getM at h
  obtain ⟨x, h1, h2⟩ := Option.map_eq_some_iff.mp h
  have e := List.find?_some h1
  have m := List.mem_of_find?_eq_some h1
  have e' : x.1 = k := of_decide_eq_true e
  subst h2
  rw [← e']
  exact m
theorem mem_putM {L : ML} {k : NestedKey} {b : Addr} {z : Option Addr} {x : NestedKey × Addr × Option Addr} (h : x ∈ putM L k b z) : x ∈ L ∨ (x.1 = k ∧ x.2.2 = z ∧ (x.2.1 = b ∨ ∃ y, (k, x.2.1, y) ∈ L)) := by
  unfold putM at h
  split at h
  · obtain ⟨y, h1, h2⟩ := List.mem_map.mp h
    by_cases e : y.1 = k
    · rw [if_pos e] at h2
      subst h2
      exact .inr ⟨e, rfl, .inr ⟨y.2.2, by rw [← e]; exact h1⟩⟩
    · rw [if_neg e] at h2
      subst h2
      exact .inl h1
  · rcases List.mem_append.mp h with h | h
    · exact .inl h
    · rw [List.mem_singleton.mp h]
      exact .inr ⟨rfl, rfl, .inl rfl⟩
theorem keys_putM {L : ML} {k : NestedKey} {b : Addr} {z : Option Addr} (h : (L.map (·.1)).Nodup) : ((putM L k b z).map (·.1)).Nodup := by
  unfold putM
  split
  · rw [List.map_map]
    have : ((fun x : NestedKey × Addr × Option Addr => x.1) ∘ fun x => if x.1 = k then (x.1, x.2.1, z) else x) = fun x => x.1 := by
      funext x
      show (if x.1 = k then (x.1, x.2.1, z) else x).1 = x.1
      split <;> rfl
    rw [this]
    exact h
  · rename_i q
    rw [List.map_append, List.nodup_append]
    refine ⟨h, by simp, fun x hx y hy => ?_⟩
    rw [List.map_cons, List.map_nil, List.mem_singleton] at hy
    subst hy
    intro e
    obtain ⟨w, h1, h2⟩ := List.mem_map.mp hx
    apply q
    unfold getM
    rw [Option.isSome_map, List.find?_isSome]
    exact ⟨w, h1, decide_eq_true (h2.trans e)⟩
theorem nodup_len {α : Type} [DecidableEq α] : ∀ (l S : List α), l.Nodup → (∀ x ∈ l, x ∈ S) → l.length ≤ S.length
  | [], _, _, _ => Nat.zero_le _
  | x :: l, S, hn, h => by
    rw [List.nodup_cons] at hn
    have hx := h x (List.mem_cons_self ..)
    have ih := nodup_len l (S.erase x) hn.2 fun y hy => by
      have ne : y ≠ x := fun z => hn.1 (z ▸ hy)
      exact (List.mem_erase_of_ne ne).mpr (h y (List.mem_cons_of_mem _ hy))
    rw [List.length_erase_of_mem hx] at ih
    have := List.length_pos_of_mem hx
    rw [List.length_cons]
    omega
/-- keys from a list of keys -/
theorem len_of_keys {S : List NestedKey} {L : ML} (hn : (L.map (·.1)).Nodup) (h : ∀ x ∈ L, x.1 ∈ S) : L.length ≤ S.length := by
  have : (L.map (·.1)).length ≤ S.length := nodup_len _ _ hn fun k hk => by
    obtain ⟨x, h1, rfl⟩ := List.mem_map.mp hk
    exact h x h1
  rwa [List.length_map] at this
/-- the datum at b is the key k -/
structure KeyAt (K : Fg) (H : Hp) (b : Addr) (k : NestedKey) : Prop where
  dep : k.depth ≤ 8
  ex : ∃ F, Ex F H ∧ Rp K F (.ref b) k.data
def KeysAt (K : Fg) (H : Hp) (L : ML) : Prop := ∀ x ∈ L, KeyAt K H x.2.1 x.1
abbrev hsX (X : Cx) : NestedKey → Int := NestedKey.hash X.w
section
variable {X : Cx} {pins : List (Addr × Obj)} {σ : L2.St} {H F : Hp} {s : Shared} {a b : Addr} {k : NestedKey} {L : ML}
theorem KeyAt.is (h : KeyAt X.K H b k) (I : Inv X pins σ H s) : (nestedKind X.prog X.w).is s.heap k b := by
  obtain ⟨F, e, r⟩ := h.ex
  exact ⟨nested_of I e k _ _ r rfl, h.dep⟩
theorem mem_dict (I : Inv X pins σ H s) (e : H a = some (memO a (hsX X) L)) (hk : KeysAt X.K H L) : s.heap.DictOfH (nestedKind X.prog X.w) a (conv L) ∧ (a == sysModules) = false ∧ L.length ≤ 16000000 ∧ (L.map (·.1)).Nodup := by
  obtain ⟨⟨o, es, ep, h1, h2, h3, h4, h5, h6, h7⟩, _, _⟩ := (show ObjOk X.prog X.w H s.heap a (memO a (hsX X) L) from I.hok a _ e)
  refine ⟨⟨o, es, ep, h1, h2, h3, ?_, fun x hx => ?_, ?_⟩, h6, h7, h5⟩
  · rw [h4]
    unfold conv
    rw [List.map_map]
    rfl
  · obtain ⟨y, hy, rfl⟩ := List.mem_map.mp hx
    exact (hk y hy).is I
  · unfold conv
    rw [List.map_map]
    exact h5
end
/-- what the memo at a holds at y -/
def MGet (K : Fg) (hs : NestedKey → Int) (H : Hp) (a : Addr) (y : V) (r : Option (Option Addr)) : Prop := ∃ L k b, H a = some (memO a hs L) ∧ KeysAt K H L ∧ y = .ref b ∧ KeyAt K H b k ∧ r = (getM L k).map (·.2)
def rMIn (K : Fg) (hs : NestedKey → Int) : R2 := fun y x H Q => ∃ a r, x = .ref a ∧ MGet K hs H a y r ∧ Q (.bl r.isSome) H
def tMGet (K : Fg) (hs : NestedKey → Int) (td ty : TE) : TE := fun σ H Q => td σ H fun x H1 => ty σ H1 fun y H2 => ∃ a v, x = .ref a ∧ MGet K hs H2 a y (some v) ∧ Q (oV v) H2
def sMPut (K : Fg) (hs : NestedKey → Int) (td ty tv : TE) : TS := fun D σ H => tv σ H fun v H1 => td σ H1 fun x H2 => ty σ H2 fun y H3 => ∃ a L k b z, x = .ref a ∧ H3 a = some (memO a hs L) ∧ KeysAt K H3 L ∧ y = .ref b ∧ KeyAt K H3 b k ∧ v = oV z ∧
  (∃ S : List NestedKey, S.length ≤ 16000000 ∧ ∀ x ∈ putM L k b z, x.1 ∈ S) ∧ D.nx σ (upd H3 a (memO a hs (putM L k b z)))
section
variable {X : Cx} {o i value : Expr} {pos pos' : Pos} {td ty tv : TE}
theorem op_mIn (hu : X.A.units + 10 < cLine) : OpR X (compareOp .In) (rMIn X.K (hsX X)) := by
  intro pins s σ H y x u v Q I ry rx h
  obtain ⟨a, r, rfl, ⟨L, k, b, e, hk, rfl, hb, rfl⟩, q⟩ := h
  obtain rfl : v = Value.ref a := rx
  obtain rfl : u = Value.ref b := ry
  obtain ⟨dd, hd, _⟩ := mem_dict I e hk
  refine wpAny_in_heap (knd := nestedKind X.prog X.w) (show X.A.in1.units + 8 < cLine by rw [Around.in1_units]; omega) (hb.is I) hd dd ?_
  rw [atKey_conv, Option.isSome_map]
  rw [Option.isSome_map] at q
  exact ⟨.bl _, H, I.tok _, rfl, q⟩
theorem pe_mget (hu : X.A.units + 10 < cLine) (ho : PE X o td) (hi : PE X i ty) (hs : NoSl i) : PE X (.Subscript o i pos) (tMGet X.K (hsX X) td ty) := by
  refine ⟨fun pins s σ H Q I h => ?_⟩
  refine subD_of PySem.F.slot_dict_getitem.lookup hs (thn (ho.run pins s σ H _ I h) fun u s1 ⟨x, H1, I1, rx, q1⟩ => thn (hi.run pins s1 σ H1 _ I1 q1) fun iv s2 ⟨y, H2, I2, ry, a, v, ex, ⟨L, k, b, e, hk, ey, hb, g⟩, q2⟩ => ?_)
  subst ex
  subst ey
  obtain rfl : u = Value.ref a := rx
  obtain rfl : iv = Value.ref b := ry
  obtain ⟨dd, hd, _⟩ := mem_dict I2 e hk
  obtain ⟨p, hp, rfl⟩ := Option.map_eq_some_iff.mp g.symm
  refine ⟨dd.typeIs, wpAny_getItem_heap (knd := nestedKind X.prog X.w) (p := (p.1, oVal p.2)) (show X.A.in1.units + 8 < cLine by rw [Around.in1_units]; omega) (hb.is I2) dd (by rw [atKey_conv, hp]; rfl) ?_⟩
  exact ⟨oV p.2, H2, I2.tok _, oV_rel _, q2⟩
theorem oV_val {z : Option Addr} {r : Value} (h : RelV (oV z) r) : r = oVal z := by
  cases z with
  | none => exact h
  | some b => exact h
theorem ps_mput (hu : X.A.units + 10 < cLine) (ho : PE X o td) (hi : PE X i ty) (hv : PE X value tv) (hs : swapsWith value (some (.Subscript o i pos')) pos.line X.env = pure false) :
    PS X (.Assign [.Subscript o i pos'] value pos) (sMPut X.K (hsX X) td ty tv) := by
  refine ⟨fun pins s σ H D I h => ?_⟩
  refine wpAny_Assign_Subscript (thn (hv.run pins s σ H _ I h) fun r s1 ⟨v, H1, I1, rv, q1⟩ => thn (ho.run pins s1 σ H1 _ I1 q1) fun u s2 ⟨x, H2, I2, rx, q2⟩ => thn (hi.run pins s2 σ H2 _ I2 q2) fun iv s3 ⟨y, H3, I3, ry, a, L, k, b, z, ex, e, hk, ey, hb, ez, ⟨S, hS, hin⟩, q3⟩ => ?_) hs
  subst ex
  subst ey
  subst ez
  obtain rfl : u = Value.ref a := rx
  obtain rfl : iv = Value.ref b := ry
  obtain rfl : r = oVal z := oV_val rv
  obtain ⟨dd, hd, hz, hn⟩ := mem_dict I3 e hk
  refine wpAny_setItem_heap (knd := nestedKind X.prog X.w) (hsz := by unfold conv; rw [List.length_map, sizeLine_eq]; omega) (show X.A.in1.units + 8 < cLine by rw [Around.in1_units]; omega) (hb.is I3) dd fun h' dd' hs' => ?_
  rw [stored_conv] at dd'
  obtain ⟨q, es, ep, h1, h2, h3, h4, h5, h6⟩ := dd'
  refine ⟨σ, _, d_write (ob := memO a (hsX X) (putM L k b z)) I3 (by rw [e]; exact True.intro) hs' ⟨q, h1⟩ (show ObjOk X.prog X.w _ h' a (memO a (hsX X) (putM L k b z)) from ⟨⟨q, es, ep, h1, h2, h3, ?_, keys_putM hn, hd, Nat.le_trans (len_of_keys (keys_putM hn) hin) hS⟩, ⟨q, h1⟩, fun g1 g2 ⟨o', es', ep', z1, z2, z3, z4, z5, z6, z7⟩ kk => ⟨o', es', ep', kk _ z1, z2, z3, z4, z5, z6, z7⟩⟩), q3⟩
  rw [h4]
  unfold conv
  rw [List.map_map]
  rfl
/-- a dict that was just made is a memo -/
def tRe (hs : NestedKey → Int) (t : TE) : TE := fun σ H Q => t σ H fun v H1 => Q v H1 ∨ ∃ p, H1 p = some (.dK []) ∧ Q v (upd H1 p (memO p hs []))
theorem pe_re {e : Expr} {t : TE} (h : PE X e t) : PE X e (tRe (hsX X) t) := by
  refine ⟨fun pins s σ H Q I q => thn (h.run pins s σ H _ I q) fun u s1 ⟨v, H1, I1, rv, q1⟩ => ?_⟩
  rcases q1 with q1 | ⟨p, e, q1⟩
  · exact ⟨v, H1, I1, rv, q1⟩
  · obtain ⟨_, hd, vs, rel, o, es, ep, h1, h2, h3, h4⟩ := dk_of I1.hok e
    cases rel
    have he : es.toList = [] := by
      have := h4.2.1
      generalize es.toList = l at this
      cases this
      rfl
    refine ⟨v, _, I1.write (x := p) (e := p) (t' := s1.toks) (h' := s1.heap) (by rw [e]; exact True.intro) (.inl rfl) (fun b u _ z => z) ⟨o, h1⟩ (show ObjOk X.prog X.w _ s1.heap p (memO p (hsX X) []) from ⟨⟨o, es, ep, h1, h2, h3, he, List.nodup_nil, hd, Nat.zero_le _⟩, ⟨o, h1⟩, fun g1 g2 ⟨o', es', ep', z1, z2, z3, z4, z5, z6, z7⟩ kk => ⟨o', es', ep', kk _ z1, z2, z3, z4, z5, z6, z7⟩⟩), rv, q1⟩
end
def isMem : Option Sv → Bool
  | some (.mem _ _ _) => true
  | _ => false
/-- the memo at im, and no other one -/
def MemIn (g : Gs) (im : Nat) (bm : Bool) (hs : NestedKey → Int) (gd : Da → Da → Prop) : Prop := g.sl[im]? = some (some (.mem bm hs gd)) ∧ (g.sl.set im none).any isMem = false
theorem MemIn.only {g : Gs} {im j : Nat} {bm b2 : Bool} {hs h2 : NestedKey → Int} {gd g2 : Da → Da → Prop} (h : MemIn g im bm hs gd) (hj : g.sl[j]? = some (some (.mem b2 h2 g2))) : j = im := by
  by_cases e : j = im
  · exact e
  · have h1 : (g.sl.set im none)[j]? = some (some (.mem b2 h2 g2)) := by rw [List.getElem?_set_ne (Ne.symm e)]; exact hj
    have h3 := List.mem_of_getElem? h1
    have h4 := h.2
    rw [List.any_eq_false] at h4
    exact absurd rfl (h4 _ h3)
def refish : Da → Bool
  | .none => true
  | .tuple _ => true
  | .list _ => true
  | .dict _ => true
  | _ => false
theorem refish_v {K : Fg} {F : Hp} {v : V} {d : Da} (h : Rp K F v d) (r : refish d = true) : ∃ z, v = oV z ∧ ValM K F z d := by
  cases h with
  | non => exact ⟨none, rfl, rfl⟩
  | lst a b => exact ⟨some _, rfl, .lst a b⟩
  | tup a b => exact ⟨some _, rfl, .tup a b⟩
  | dct a b => exact ⟨some _, rfl, .dct a b⟩
  | _ => cases r
theorem ValM.rp {K : Fg} {F : Hp} {d : Da} : ∀ {z : Option Addr}, ValM K F z d → Rp K F (oV z) d
  | none, h => by
    have h' : d = .none := h
    rw [h']
    exact .non
  | some _, h => h
theorem getM_putM (L : ML) (k : NestedKey) (b : Addr) (z : Option Addr) : ∃ p, getM (putM L k b z) k = some p := by
  have h : (getM (putM L k b z) k).isSome = true := by
    unfold putM
    split
    · rename_i q
      unfold getM at q ⊢
      rw [Option.isSome_map, List.find?_isSome] at q ⊢
      obtain ⟨x, h1, h2⟩ := q
      refine ⟨_, List.mem_map.mpr ⟨x, h1, rfl⟩, ?_⟩
      rw [if_pos (of_decide_eq_true h2)]
      exact h2
    · unfold getM
      rw [Option.isSome_map, List.find?_isSome]
      exact ⟨(k, b, z), by simp, by simp⟩
  exact Option.isSome_iff_exists.mp h
section
variable {K : Fg} {c : Con} {g : Gs} {σ : L2.St} {H F H' F' : Hp} {tv : List V} {tr : List Rv} {a : Addr} {im : Nat} {bm : Bool} {hs : NestedKey → Int} {gd : Da → Da → Prop}
/-- the memo is written -/
theorem Sta.putMem (s : Sta K c g σ H tv tr F a) (hM : MemIn g im bm hs gd) {L : ML} (hL : ∀ e ∈ L, e.1.depth ≤ 8 ∧ Rp K F (.ref e.2.1) e.1.data ∧ ∃ dv, ValM K F e.2.2 dv ∧ gd e.1.data dv) :
    Sta K c g σ (upd H a (memO a hs L)) tv tr F a := by
  obtain ⟨v, h1, rfl, q2, q3, q4, q5, q6⟩ := s.slot im _ hM.1
  obtain ⟨u, ha, nt, nl⟩ := q6.at
  refine ⟨s.e0, fun b u q => ?_, fun b u z1 hn z2 => ?_, s.new, s.ex, s.ow, fun n hn => ?_, s.tmp, s.len, fun j sv hj => ?_, s.dis, s.t0.but ha nt fun b u ne h => by rw [upd_ne ne]; exact h, s.tab.trans (.but ha nt fun b u ne h => by rw [upd_ne ne]; exact h)⟩
  · have nb : b ≠ a := fun z => by rw [z, q4] at q; cases q
    rw [upd_ne nb]; exact s.eh b u q
  · have nb : b ≠ a := fun z => by rw [z, q5] at z2; cases z2
    rw [upd_ne nb]; exact s.keep b u z1 hn z2
  · rw [q2] at hn; cases hn
  · obtain ⟨w, h1', h2⟩ := s.slot j sv hj
    refine ⟨w, h1', ?_⟩
    cases sv with
    | val d => exact h2
    | src => exact h2
    | scr ns => exact h2
    | ob k => exact h2
    | mem b2 hs2 gd2 =>
      have e := hM.only hj
      subst e
      rw [hM.1] at hj
      cases hj
      exact ⟨h2.1, h2.2.1, h2.2.2.1, h2.2.2.2.1, h2.2.2.2.2.1, L, upd_same, hL⟩
    | own fs =>
      obtain ⟨p, zs, r1, r2, r3, r4, r5, r6⟩ := h2
      have np : p ≠ a := fun z => by
        rw [z, ha] at r4
        cases r4
        exact nl _ rfl
      exact ⟨p, zs, r1, r2, r3, by rw [upd_ne np]; exact r4, r5, r6⟩
end
abbrev FSpM := (Da → Da → Prop) → List Rv → (Rr → Prop) → Prop
structure OutM (K : Fg) (F H : Hp) (a : Addr) (hs : NestedKey → Int) (gd : Da → Da → Prop) (F' H' : Hp) (v : V) (r : Rr) : Prop where
  f : Ex F F'
  s : Ex F' H'
  keep : ∀ b o, b ≠ a → NT o → H b = some o → H' b = some o
  new : ∀ b, F' b ≠ none → F b ≠ none ∨ H b = none
  rep : RrOk K F' H H' v r
  tab : TbS H H'
  tk : TabK K F' H'
  no : F' a = none
  mem : MemAt K F' H' a hs gd
/-- a promise by data of a def whose last argument is a memo -/
def liftM (K : Fg) (np : Nat) (hs : NestedKey → Int) (fs : FSpM) : Sp := fun vs H Q _ => ∃ F a rs vs' gd post, vs = vs' ++ [V.ref a] ∧ Ex F H ∧ Tm K F a none vs' rs ∧ vs'.length + 1 = np ∧ F a = none ∧ MemAt K F H a hs gd ∧ TabK K F H ∧ fs gd rs post ∧
  ∀ r v H' F', post r → OutM K F H a hs gd F' H' v r → Q v H'
theorem liftM_len {K : Fg} {np : Nat} {hs : NestedKey → Int} {fs : FSpM} (vs : List V) (H : Hp) (Q : VK) (E : XK) (h : liftM K np hs fs vs H Q E) : vs.length = np := by
  obtain ⟨F, a, rs, vs', gd, post, rfl, _, _, h, _⟩ := h
  rw [List.length_append]
  exact h
section
variable {K : Fg} {c : Con} {g : Gs} {σ : L2.St} {H F H' F' : Hp} {tv : List V} {tr : List Rv} {a : Addr} {im : Nat} {bm : Bool} {hs : NestedKey → Int} {gd : Da → Da → Prop}
/-- behind a call that had the memo -/
theorem Sta.afterM (s : Sta K c g σ H tv tr F a) (hM : MemIn g im bm hs gd) {v : V} {r : Rr} (o : OutM K F H a hs gd F' H' v r) : Sta K c g σ H' tv tr F' a := by
  obtain ⟨_, h1, rfl, q2, q3, q4, q5, q6⟩ := s.slot im _ hM.1
  have oldF : ∀ b, H b ≠ none → F b = none → F' b = none := fun b h1 h2 => by
    cases q : F' b with
    | none => rfl
    | some u =>
      rcases o.new b (ne_none q) with z | z
      · exact absurd h2 z
      · exact absurd z h1
  refine ⟨s.e0.trans o.f, o.s, fun b u h1 hn h2 => ?_, fun b q => ?_, s.ex, s.ow, fun n h => ?_, s.tmp.up o.f, s.len, fun i sv h => ?_, s.dis, o.tk, s.tab.trans o.tab⟩
  · exact o.keep b u (fun z => by rw [z, q5] at h2; cases h2) hn (s.keep b u h1 hn h2)
  · rcases o.new b q with z | z
    · exact s.new b z
    · exact .inr (s.fresh z)
  · rw [q2] at h; cases h
  · obtain ⟨w, w1, w2⟩ := s.slot i sv h
    refine ⟨w, w1, ?_⟩
    cases sv with
    | val d => exact Rp.up w2 o.f
    | src => exact w2
    | scr ns => obtain ⟨b, z1, z2⟩ := w2; exact ⟨b, z1, ex_l o.f z2⟩
    | ob k => exact ObOk.up o.f w2
    | mem b2 hs2 gd2 =>
      have e := hM.only h
      subst e
      rw [hM.1] at h
      cases h
      exact ⟨w2.1, w2.2.1, w2.2.2.1, o.no, w2.2.2.2.2.1, o.mem⟩
    | own ds =>
      obtain ⟨p, xs, r1, r2, r3, r4, r5, r6⟩ := w2
      have np : p ≠ a := fun z => q6.ne r4 z.symm
      exact ⟨p, xs, r1, oldF p (ne_none r4) r2, r3, o.keep p _ np (fun _ z => by cases z) r4, r5.up o.f, r6⟩
end
/-- if key in known: return known[key] -/
def dMHit (hs : NestedKey → Int) (im ik : Nat) : DS := fun d g => ∃ (bm : Bool) (gd : Da → Da → Prop) (ks : List NestedKey), MemIn g im bm hs gd ∧ g.sl[ik]? = some (some (.val (NestedKey.tup ks).data)) ∧ (NestedKey.tup ks).depth ≤ 8 ∧ d.nx g ∧ ∀ dv, gd (NestedKey.tup ks).data dv → d.rt (.val dv) g
/-- known[key] = e; return known[key] -/
def dMPutRet (hs : NestedKey → Int) (im ik : Nat) (te : DE) : DS := fun d g => te g fun r g1 => match r with
  | .val x => ∃ (bm : Bool) (gd : Da → Da → Prop) (ks S : List NestedKey), MemIn g1 im bm hs gd ∧ g1.sl[ik]? = some (some (.val (NestedKey.tup ks).data)) ∧ (NestedKey.tup ks).depth ≤ 8 ∧ refish x = true ∧ gd (NestedKey.tup ks).data x ∧
    S.length ≤ 16000000 ∧ (∀ (k' : NestedKey) dv, gd k'.data dv → k' ∈ S) ∧ ∀ dv, gd (NestedKey.tup ks).data dv → d.rt (.val dv) g1
  | _ => False
def dCallM (hs : NestedKey → Int) (im : Nat) (fs : FSpM) (t1 t2 : DE) : DE := fun g Q => t1 g fun r1 g1 => t2 g1 fun r2 g2 => ∃ (bm : Bool) (gd : Da → Da → Prop), MemIn g2 im bm hs gd ∧ fs gd [r1, r2] fun r => ∃ d, r = .val d ∧ Q (.val d) g2
/-- x, y, z = e, {}, f: y a memo -/
def dPar3D (hs : NestedKey → Int) (i j l : Nat) (ta tc : DE) : DS := fun d g => ta g fun r g1 => g1.fu = none ∧ g1.sl.any isOwn = false ∧ tc g1 fun q g2 => g2.fu = none ∧ g2.sl.any isOwn = false ∧ ∃ gd, d.nx (((g2.set l (rsv q)).set j (.mem false hs gd)).set i (rsv r))
section
variable {X : Cx} {m1 k1 m2 k2 e : Expr} {p1 p2 p3 p4 pos : Pos} {im ik : Nat} {te : DE}
theorem keyref {K : Fg} {F : Hp} {v : V} {ks : List NestedKey} (r : Rp K F v (NestedKey.tup ks).data) : ∃ b, v = .ref b := by
  rw [NestedKey.data] at r
  cases r
  exact ⟨_, rfl⟩
theorem s_mhit (hu : X.A.units + 10 < cLine) (hm1 : PE X m1 (tVar im)) (hk1 : PE X k1 (tVar ik)) (hm2 : PE X m2 (tVar im)) (hk2 : PE X k2 (tVar ik)) (hs : NoSl k2) (hmk : behindInMarks .In m1 = false := by rfl) :
    PS X (.If (.Compare k1 [.In] [m1] p1) [.Return (some (.Subscript m2 k2 p2)) p3] [] pos) (upS X.K Wx (dMHit (hsX X) im ik)) := ps_to (ps_if (pt_cmpR (op_mIn hu) hk1 hm1 hmk) (pss_one (ps_ret (pe_mget hu hm2 hk2 hs))) pss_nil) fun D σ H q => by
  obtain ⟨c, g, tv, tr, F, a, d, s, hn, ⟨bm, gd, ks, hM, hk, hd, t1, t2⟩, kk⟩ := q
  obtain ⟨vm, w1, rfl, w2, w3, w4, w5, L, e, hL⟩ := s.slot im _ hM.1
  obtain ⟨vk, k1, r⟩ := s.slot ik _ hk
  have r : Rp X.K F vk (NestedKey.tup ks).data := r
  obtain ⟨b, rfl⟩ := keyref r
  have hb : KeyAt X.K H b (.tup ks) := ⟨hd, F, s.eh, r⟩
  have hK : KeysAt X.K H L := fun x hx => let ⟨q1, q2, _⟩ := hL x hx; ⟨q1, F, s.eh, q2⟩
  refine ⟨_, k1, _, w1, a, _, rfl, ⟨L, _, b, e, hK, rfl, hb, rfl⟩, _, rfl, ?_⟩
  cases q : getM L (.tup ks) with
  | none => exact kk.nx g σ H F a t1 s
  | some p =>
    obtain ⟨_, _, dv, hv, hg⟩ := hL _ (getM_mem q)
    exact ⟨_, w1, _, k1, a, p.2, rfl, ⟨L, _, b, e, hK, rfl, hb, by rw [q]; rfl⟩, kk.rv dv g σ _ H F a (t2 dv hg) (s.push (r := .val dv) hv.rp)⟩
theorem ss_mput (hu : X.A.units + 10 < cLine) (he : PE X e (up X.K te)) (hm1 : PE X m1 (tVar im)) (hk1 : PE X k1 (tVar ik)) (hm2 : PE X m2 (tVar im)) (hk2 : PE X k2 (tVar ik)) (hs : NoSl k2) (hsw : swapsWith e (some (.Subscript m1 k1 p1)) p2.line X.env = pure false := by rfl) :
    PSs X [.Assign [.Subscript m1 k1 p1] e p2, .Return (some (.Subscript m2 k2 p3)) p4] (upS X.K Wx (dMPutRet (hsX X) im ik te)) := pss_to (pss_cons (ps_mput hu hm1 hk1 he hsw) (pss_one (ps_ret (pe_mget hu hm2 hk2 hs)))) fun D σ H q => by
  obtain ⟨c, g, tv, tr, F, a, d, s, hn, t, kk⟩ := q
  refine ⟨c, g, tv, tr, F, a, _, s, t, fun r g1 v H1 F1 a1 t1 s1 => ?_⟩
  cases r with
  | val x =>
    obtain ⟨bm, gd, ks, S, hM, hk, hd, hx, hg, hS, hin, t2⟩ := t1
    have s2 := s1.pop1
    obtain ⟨z, rfl, hz⟩ := refish_v (show Rp X.K F1 v x from s1.top) hx
    obtain ⟨vm, w1, rfl, w2, w3, w4, w5, L, e, hL⟩ := s2.slot im _ hM.1
    obtain ⟨vk, k1, r⟩ := s2.slot ik _ hk
    have r : Rp X.K F1 vk (NestedKey.tup ks).data := r
    obtain ⟨b, rfl⟩ := keyref r
    have hb : ∀ H2, Ex F1 H2 → KeyAt X.K H2 b (.tup ks) := fun H2 ex => ⟨hd, F1, ex, r⟩
    have hK : KeysAt X.K H1 L := fun x hx => let ⟨q1, q2, _⟩ := hL x hx; ⟨q1, F1, s2.eh, q2⟩
    have hL' : ∀ e ∈ putM L (.tup ks) b z, e.1.depth ≤ 8 ∧ Rp X.K F1 (.ref e.2.1) e.1.data ∧ ∃ dv, ValM X.K F1 e.2.2 dv ∧ gd e.1.data dv := fun y hy => by
      rcases mem_putM hy with h | ⟨h1, h2, h3⟩
      · exact hL y h
      · rw [h1, h2]
        refine ⟨hd, ?_, x, hz, hg⟩
        rcases h3 with h3 | ⟨y', h3⟩
        · rw [h3]; exact r
        · exact (hL _ h3).2.1
    have s3 := s2.putMem hM hL'
    have hK' : KeysAt X.K (upd H1 a1 (memO a1 (hsX X) (putM L (.tup ks) b z))) (putM L (.tup ks) b z) := fun x hx => let ⟨q1, q2, _⟩ := hL' x hx; ⟨q1, F1, s3.eh, q2⟩
    obtain ⟨p, hp⟩ := getM_putM L (.tup ks) b z
    obtain ⟨_, _, dv, hv, hg'⟩ := hL' _ (getM_mem hp)
    exact ⟨_, w1, _, k1, a1, L, .tup ks, b, z, rfl, e, hK, rfl, hb _ s2.eh, rfl, ⟨S, hS, fun x hx => let ⟨_, _, dv, _, g⟩ := hL' x hx; hin _ dv g⟩, _, w1, _, k1, a1, p.2, rfl, ⟨_, _, b, upd_same, hK', rfl, hb _ s3.eh, by rw [hp]; rfl⟩,
      kk.rv dv g1 σ _ _ F1 a1 (t2 dv hg') (s3.push (r := .val dv) hv.rp)⟩
  | _ => exact t1.elim
end
section
variable {X : Cx} {k : Nat} {f : Addr} {fd : FuncData} {ps : List Str} {fs : FSpM} {x : Str} {p pos : Pos} {e1 e2 e3 : Expr} {t1 t2 : DE} {E : XK} {CX : CXT} {im : Nat}
theorem e_callM (G : Fn X.prog X.w X.K X.mg X.base CX k f fd ps (liftM X.K 3 (hsX X) fs)) (hr : Room k X.A) (hgd : X.A.guards = some []) (hg : Gl X x) (hm : X.mg x = some (.ref f)) (hk : PySem.W.keepIn X.K (.ref f) = true) (hb : Binds X.K fd ps []) (hx : Passes CX X E)
    (h1 : PE X e1 (up X.K t1)) (h2 : PE X e2 (up X.K t2)) (h3 : PE X e3 (tVar im)) (hdb : (x == ("__debug__" : Str)) = false := by decide)
    (n1 : starEach [e1, e2, e3] X.env = (false, eval e1 X.env) :: starEach [e2, e3] X.env := by rfl) (n2 : starEach [e2, e3] X.env = (false, eval e2 X.env) :: starEach [e3] X.env := by rfl) (n3 : starEach [e3] X.env = (false, eval e3 X.env) :: starEach [] X.env := by rfl)
    (hpl : (backTo pos (starEach [e2, e3] X.env)).any (·.1) = false := by rfl) :
    PE X (.Call (.Name x p) [e1, e2, e3] [] pos) (up X.K (dCallM (hsX X) im fs t1 t2)) := pe_to (pe_fn G hr hgd hg hm hk hb hx (pa_cons h1 (pa_cons h2 (pa_cons h3 pa_nil n3) n2) n1) hdb n1 hpl) fun σ H Q q => by
  obtain ⟨c, g, tv, tr, F, ad, post, s, t, k⟩ := q
  refine ⟨c, g, tv, tr, F, ad, _, s, t, fun r1 g1 v1 H1 F1 a1 t1 s1 => ?_⟩
  refine ⟨c, g1, _, _, F1, a1, _, s1, t1, fun r2 g2 v2 H2 F2 a2 t2 s2 => ?_⟩
  obtain ⟨bm, gd, hM, t2⟩ := t2
  obtain ⟨vm, w1, rfl, w2, w3, w4, w5, w6⟩ := s2.slot im _ hM.1
  refine ⟨_, w1, F2, a2, [r1, r2], [v1, v2], gd, _, rfl, s2.eh, ?_, rfl, w4, w6, s2.tabk, t2, fun r v H' F' hp o => ?_⟩
  · have tm := s2.tmp
    rw [w2] at tm
    cases tm with
    | cons q1 tm =>
      cases tm with
      | cons q2 tm => exact .cons q2 (.cons q1 .nil)
  · obtain ⟨d, rfl, hp⟩ := hp
    exact k _ _ v H' F' a2 hp ((s2.pop1.pop1.afterM hM o).push (r := .val d) o.rep)
end
def entM (N : List Str) (rs : List Rv) (hs : NestedKey → Int) (gd : Da → Da → Prop) : Gs := ⟨rs.map svOf ++ (some (.mem true hs gd) :: List.replicate (N.length - (rs.length + 1)) none), none, true⟩
def conM (F H : Hp) (a : Addr) (hs : NestedKey → Int) (gd : Da → Da → Prop) : Con := ⟨F, fun b => if b = a then none else H b, none, fun a' hs' gd' => a' = a ∧ hs' = hs ∧ gd' = gd⟩
section
variable {P : Program} {w : World} {K : Fg} {mg : Str → Option Value} {base : Heap} {CX : CXT}
theorem sta_entM {N : List Str} {F H : Hp} {a : Addr} {vs : List V} {rs : List Rv} {hs : NestedKey → Int} {gd : Da → Da → Prop} (e : Ex F H) (t : Tm K F a none vs rs) (hl : rs.length + 1 ≤ N.length) (hf : F a = none) (hm : MemAt K F H a hs gd) (tk : TabK K F H) :
    Sta K (conM F H a hs gd) (entM N rs hs gd) (L2.start N (vs ++ [.ref a])) H [] [] F a := by
  have lv := t.len
  have atS : ∀ (i : Nat) s, (entM N rs hs gd).sl[i]? = some (some s) → (∃ r, rs[i]? = some r ∧ s = rsv r) ∨ (i = rs.length ∧ s = .mem true hs gd) := fun i s h => by
    have h' : (rs.map svOf ++ (some (.mem true hs gd) :: List.replicate (N.length - (rs.length + 1)) none))[i]? = some (some s) := h
    by_cases hi : i < rs.length
    · rw [List.getElem?_append_left (by simpa using hi), List.getElem?_map, List.getElem?_eq_getElem hi] at h'
      cases h'
      exact .inl ⟨_, List.getElem?_eq_getElem hi, rfl⟩
    · rw [List.getElem?_append_right (by simpa using hi), List.length_map] at h'
      cases q : i - rs.length with
      | zero =>
        rw [q] at h'
        cases h'
        exact .inr ⟨by omega, rfl⟩
      | succ j =>
        rw [q, List.getElem?_cons_succ, List.getElem?_replicate] at h'
        split at h' <;> cases h'
  have noO : ∀ (i : Nat) ds, (entM N rs hs gd).sl[i]? = some (some (.own ds)) → False := fun i ds h => by
    rcases atS i _ h with ⟨r, _, e⟩ | ⟨_, e⟩
    · cases r <;> cases e
    · cases e
  have old : ∀ b o, (conM F H a hs gd).H b = some o → H b = some o := fun b o h => by
    have h' : (if b = a then none else H b) = some o := h
    by_cases z : b = a
    · rw [if_pos z] at h'; cases h'
    · rw [if_neg z] at h'; exact h'
  refine ⟨Ex.refl F, e, fun b o _ _ h => old b o h, fun b h => .inl h, fun b h => (nomatch (show (none : Option Addr) = some b from h)), fun h => rfl, fun n h => (nomatch (show (none : Option Nat) = some n from h)), .nil, ?_, fun i s h => ?_, fun i j ds es _ h => (noO i ds h).elim, tk, fun b ps h => ⟨ps, old b _ h⟩⟩
  · unfold L2.start entM
    simp only [List.length_append, List.length_map, List.length_cons, List.length_replicate, List.length_nil, lv]
    try omega
  · rcases atS i s h with ⟨r, h1, rfl⟩ | ⟨h1, rfl⟩
    · obtain ⟨v, h2, h3⟩ := t.get h1
      have hi : i < vs.length := (List.getElem?_eq_some_iff.mp h2).1
      refine ⟨v, ?_, ?_⟩
      · unfold L2.start
        rw [List.getElem?_append_left (by simp; omega), List.getElem?_map, List.getElem?_append_left hi, h2]
        rfl
      · cases r <;> exact h3
    · refine ⟨.ref a, ?_, rfl, rfl, fun _ => ⟨rfl, rfl, rfl⟩, hf, if_pos rfl, hm⟩
      subst h1
      unfold L2.start
      rw [List.getElem?_append_left (by simp; omega), List.getElem?_map, List.getElem?_append_right (by omega), lv]
      simp
theorem fn_memM {x qual : Str} {st : Stmt} {f : Addr} {fd : FuncData} {N ps : List Str} {k : Nat} {fs : FSpM} (Fu : Fun K x qual st f fd) (S : FnScope N ps (defScope st)) (hN : ps.length ≤ N.length) (tb : DS)
    (hd : ∀ (cdv : Value) (A : Around) (outer : List Env) (s : Shared) (H : Hp) (E : XK), Room k (A.deeper (envOfC qual (defScope st) s.heap.objs.size f cdv)) → (A.deeper (envOfC qual (defScope st) s.heap.objs.size f cdv)).guards = some [] →
      PSs (cxOf CX P w K mg base N qual (defScope st) f cdv A outer s H E).nox (defBody st) (upS K W0 tb))
    (hb : ∀ gd rs post, rs.length + 1 = ps.length → fs gd rs post → tb ⟨fun _ => False, fun r g => (∃ d, r = .val d) ∧ g.sl[rs.length]? = some (some (.mem true (NestedKey.hash w) gd)) ∧ post r, fun _ => False, fun _ => False⟩ (entM N rs (NestedKey.hash w) gd)) :
    Fn P w K mg base CX (k + 1) f fd ps (liftM K ps.length (NestedKey.hash w) fs) := by
  refine fn_by Fu S liftM_len fun cdv A outer s H vs Q E hr hg h => ⟨_, (hd cdv A outer s H E hr hg).nox, ?_⟩
  obtain ⟨F, a, rs, vs', gd, post, rfl, e, t, hl, hf, hm, tk, hfs, hq⟩ := h
  have lv := t.len
  have st0 := sta_entM (N := N) e t (by omega) hf hm tk
  have fin : ∀ {g : Gs} {σ : L2.St} {H' F' : Hp} {tv : List V} {tr : List Rv} {a' : Addr} {v : V} {r : Rr}, g.sl[rs.length]? = some (some (.mem true (NestedKey.hash w) gd)) → Sta K (conM F H a (NestedKey.hash w) gd) g σ H' tv tr F' a' → RrOk K F' H H' v r → OutM K F H a (NestedKey.hash w) gd F' H' v r := fun {g σ H' F' tv tr a' v r} hs s hr => by
    obtain ⟨_, _, _, _, w3, w4, _, w6⟩ := s.slot _ _ hs
    obtain ⟨ea, _, _⟩ := w3 rfl
    subst ea
    obtain ⟨u, ha, nt, _⟩ := hm.at
    have new : ∀ b o, b ≠ a' → H b = some o → (conM F H a' (NestedKey.hash w) gd).H b = some o := fun b o n h => by
      show (if b = a' then none else H b) = some o
      rw [if_neg n]; exact h
    refine ⟨s.e0, s.eh, fun b o hb hn h => s.keep b o (fun z => nomatch z) hn (new b o hb h), fun b q => ?_, hr, fun b ps h => s.tab b ps (new b _ (fun z => ?_) h), s.t0, w4, w6⟩
    · rcases s.new b q with z | z
      · exact .inl z
      · refine .inr ?_
        have z' : (if b = a' then none else H b) = none := z
        by_cases nb : b = a'
        · rw [nb] at q; exact absurd w4 q
        · rwa [if_neg nb] at z'
    · rw [z, ha] at h
      cases h
      exact nt _ rfl
  refine ⟨_, _, [], [], F, a, _, st0, rfl, hb gd rs post (by rw [← t.len]; exact hl) hfs, ⟨fun g σ H' F' a' h s => h.elim, fun g σ H' F' a' h s => h, fun g σ H' F' a' h s => h, fun x g σ v H' F' a' h s => ?_, fun ds g σ v H' F' a' h s n => ?_, fun nm z g σ H' F' a' cls dd h s ox => True.intro⟩⟩
  · exact hq _ _ H' F' h.2.2 (fin h.2.1 s (r := .val x) s.top)
  · obtain ⟨⟨_, z⟩, _⟩ := h
    cases z
end
section
variable {X : Cx} {pos : Pos}
theorem Sta.setMem {K : Fg} {c : Con} {g : Gs} {σ : L2.St} {H F : Hp} {tv : List V} {tr : List Rv} {a : Addr} {hs : NestedKey → Int} {gd : Da → Da → Prop} (s : Sta K c g σ H tv tr F a) (h1 : g.fu = none) (h2 : F a = none) (h3 : c.H a = none) (h4 : MemAt K F H a hs gd) (i : Nat) :
    Sta K c (g.set i (.mem false hs gd)) (σ.set i (some (.ref a))) H tv tr F a := by
  refine ⟨s.e0, s.eh, s.keep, s.new, s.ex, s.ow, s.src, s.tmp, ?_, fun j sv hj => ?_, fun j k ds es hjk hj hk => ?_, s.t0, s.tab⟩
  · show (σ.set i _).length = (g.sl.set i _).length
    rw [List.length_set, List.length_set]; exact s.len
  · rcases set_some (show (g.sl.set i (some (Sv.mem false hs gd)))[j]? = some (some sv) from hj) with ⟨rfl, hl, e⟩ | ⟨ne, e⟩
    · cases e
      exact ⟨.ref a, List.getElem?_set_self (by rw [s.len]; exact hl), rfl, h1, (fun z => nomatch z), h2, h3, h4⟩
    · obtain ⟨w, w1, w2⟩ := s.slot j sv e
      exact ⟨w, by rw [List.getElem?_set_ne (Ne.symm ne)]; exact w1, w2⟩
  · have no : ∀ k fs, (g.sl.set i (some (Sv.mem false hs gd)))[k]? = some (some (Sv.own fs)) → k ≠ i ∧ g.sl[k]? = some (some (Sv.own fs)) := fun k fs h => by
      rcases set_some h with ⟨_, _, e⟩ | z
      · cases e
      · exact z
    obtain ⟨n1, e1⟩ := no j ds hj
    obtain ⟨n2, e2⟩ := no k es hk
    rw [List.getElem?_set_ne (Ne.symm n1), List.getElem?_set_ne (Ne.symm n2)]
    exact s.dis j k ds es hjk e1 e2
theorem Tm.any {K : Fg} {F : Hp} {a b : Addr} : ∀ {vs : List V} {rs : List Rv}, Tm K F a none vs rs → Tm K F b none vs rs
  | _, _, .nil => .nil
  | _, .val d :: rs, .cons r t => .cons (show Rp K F _ d from r) t.any
  | _, .scr d :: rs, .cons r t => .cons r t.any
  | _, .ob d :: rs, .cons r t => .cons r t.any
  | _, .src :: rs, .cons r t => absurd rfl r.2
theorem s_par3D {i j l : Nat} {x y z : Str} {a b : Expr} {ta tb : DE} {px py pz pt pd : Pos} {kt k2 : Nat} {pt2 : Pos} (hc : X.calm = true) (hN : X.N.Nodup) (hi : X.N[i]? = some x) (hj : X.N[j]? = some y) (hl : X.N[l]? = some z) (hij : i ≠ j) (hil : i ≠ l) (hjl : j ≠ l)
    (hx : X.env.scope.names.lookup x = some .local) (hy : X.env.scope.names.lookup y = some .local) (hz : X.env.scope.names.lookup z = some .local) (ha : PE X a (up X.K ta)) (hb : PE X b (up X.K tb))
    (hsw : swappedStores [.Tuple [.Name x px, .Name y py, .Name z pz] kt pt] (.Tuple [a, .Dict [] [] pd, b] k2 pt2) X.env = pure (some [x, y, z]) := by rfl)
    (h1 : swapsWithSole [.Tuple [.Name x px, .Name y py, .Name z pz] kt pt] (.Tuple [a, .Dict [] [] pd, b] k2 pt2) pos.line X.env = pure false := by rfl)
    (n1 : starEach [a, .Dict [] [] pd, b] X.env = (false, eval a X.env) :: starEach [.Dict [] [] pd, b] X.env := by rfl) (n2 : starEach [.Dict [] [] pd, b] X.env = (false, eval (.Dict [] [] pd) X.env) :: starEach [b] X.env := by rfl) (n3 : starEach [b] X.env = (false, eval b X.env) :: starEach [] X.env := by rfl) :
    PS X (.Assign [.Tuple [.Name x px, .Name y py, .Name z pz] kt pt] (.Tuple [a, .Dict [] [] pd, b] k2 pt2) pos) (upS X.K Wx (dPar3D (hsX X) i j l ta tb)) := ps_to (ps_par3 hc hN hi hj hl hij hil hjl hx hy hz (pa_cons ha (pa_cons pe_dnewK (pa_cons (pe_re hb) pa_nil n3) n2) n1) hsw h1) fun D σ H q => by
  obtain ⟨c, g, tv, tr, F, a, d, s, hn, t, k⟩ := q
  refine ⟨c, g, tv, tr, F, a, _, s, t, fun r g1 u H1 F1 a1 t1 s1 => ?_⟩
  obtain ⟨f1, o1, t1⟩ := t1
  intro p hp
  have ex0 : c.ext = none := by
    cases q : c.ext with
    | none => rfl
    | some b => exact absurd f1 (s1.ex b q).2
  have fp : F1 p = none := fresh_back s1.eh hp
  have eH : Ex H1 (upd H1 p (.dK [])) := Ex.new hp
  have s1' : Sta X.K ⟨F1, upd H1 p (.dK []), none, anyM⟩ g1 σ (upd H1 p (.dK [])) (u :: tv) (r :: tr) F1 a1 := by
    have noO : ∀ i ds, g1.sl[i]? ≠ some (some (Sv.own ds)) := fun i ds => no_own o1
    refine ⟨Ex.refl _, s1.eh.trans eH, fun b o _ _ h => h, fun b h => .inl h, fun b h => (nomatch (show (none : Option Addr) = some b from h)), fun _ => rfl, fun n h => (by rw [f1] at h; cases h), s1.tmp, s1.len, fun i sv h => ?_, fun i j ds es _ h => absurd h (noO i ds), s1.t0.up (Ex.refl _) (fun b ps h => eH b _ h) (fun b h => .inl h), .refl⟩
    obtain ⟨v, w1, w2⟩ := s1.slot i sv h
    refine ⟨v, w1, ?_⟩
    cases sv with
    | val d => exact w2
    | src => exact w2
    | scr ns => exact w2
    | ob k => exact w2
    | own ds => exact absurd h (noO i ds)
    | mem bm hs gd => exact absurd h (no_mem o1)
  refine ⟨_, g1, _, _, F1, a1, _, s1', t1, fun q g2 y H3 F3 a3 t3 s3 => ?_⟩
  obtain ⟨f2, o2, gd, t3⟩ := t3
  have hp3 : H3 p = some (.dK []) := s3.keep p _ (fun z => nomatch z) (fun _ z => by cases z) upd_same
  refine .inr ⟨p, hp3, u, .ref p, y, rfl, ?_⟩
  have fp3 : F3 p = none := by
    cases q : F3 p with
    | none => rfl
    | some o =>
      rcases s3.new p (ne_none q) with z | z
      · exact absurd fp z
      · rw [show (⟨F1, upd H1 p (.dK []), none, anyM⟩ : Con).H p = some (.dK []) from upd_same] at z; cases z
  have ext3 : ∀ b o, H1 b = some o → NT o → H3 b = some o := fun b o h n => s3.keep b o (fun z => nomatch z) n (eH b o h)
  have s4 : Sta X.K c g2 σ (upd H3 p (memO p (hsX X) [])) (y :: u :: tv) (q :: r :: tr) F3 p := by
    have noO : ∀ i ds, g2.sl[i]? ≠ some (some (Sv.own ds)) := fun i ds => no_own o2
    have cp : ∀ b o, c.H b = some o → b ≠ p := fun b o h z => by
      have := s1.fresh hp
      rw [z, this] at h
      cases h
    refine ⟨s1.e0.trans s3.e0, fun b o h => ?_, fun b o h1 hn h2 => ?_, fun b h => ?_, fun b h => (by rw [ex0] at h; cases h), fun _ => ex0, fun n h => (by rw [f2] at h; cases h), ?_, s3.len, fun i sv h => ?_, fun i j ds es _ h => absurd h (noO i ds), s3.t0.but hp3 (fun _ z => by cases z) (fun b u ne h => by rw [upd_ne ne]; exact h), fun b ps h => ?_⟩
    · rw [upd_ne (fun z => by rw [z, fp3] at h; cases h)]
      exact s3.eh b o h
    · rw [upd_ne (cp b o h2)]
      exact ext3 b o (s1.keep b o h1 hn h2) hn
    · rcases s3.new b h with z | z
      · exact s1.new b z
      · refine .inr (s1.fresh ?_)
        by_cases nb : b = p
        · rw [nb]; exact hp
        · have z' : upd H1 p (.dK []) b = none := z
          rwa [upd_ne nb] at z'
    · have tm := s3.tmp
      rw [f2] at tm ⊢
      exact tm.any
    · obtain ⟨v, w1, w2⟩ := s3.slot i sv h
      refine ⟨v, w1, ?_⟩
      cases sv with
      | val d => exact w2
      | src => exact absurd f2 w2.2
      | scr ns => exact w2
      | ob k => exact w2
      | own ds => exact absurd h (noO i ds)
      | mem bm hs gd => exact absurd h (no_mem o2)
    · obtain ⟨ps1, h1⟩ := s1.tab b ps h
      obtain ⟨ps3, h3⟩ := s3.tab b ps1 (eH b _ h1)
      exact ⟨ps3, by rw [upd_ne (cp b _ h)]; exact h3⟩
  have s5 := ((s4.set l).setMem (hs := hsX X) (gd := gd) f2 fp3 (s1.fresh hp) ⟨[], upd_same, fun e he => (nomatch he)⟩ j).set i
  rw [List.set_comm _ _ hjl, List.set_comm _ _ hil, List.set_comm _ _ hij]
  exact k.nx _ _ _ F3 p t3 s5
end
end Z
namespace Z
open L2 PySem PySem.Spec PyProof.Rows
open Evl (Ex ex_l ex_t ex_rd fresh_back)
variable {Wx : WX}
abbrev AlikeA := PySem.W.AlikeAll
abbrev minDA := PySem.W.minD
section
variable {prog : Program} {w : World} {A : Around} {E : Value → Shared → Prop} {s : Shared}
theorem min_list_ix {l : Addr} {vs : Array Value} {x : PyData} {xs : List PyData} {as : List Addr} {Q : Value → Shared → Prop} (hh : A.handled = none) (hl : s.heap.IsList l vs) (hr : ReadsAll s.heap vs.toList (x :: xs) as) (ha : AlikeA (x :: xs)) (hu : A.units + 1 + PyData.depthAll (x :: xs) < cLine)
    (h : ∀ (i : Nat) v h' tk, vs[i]? = some v → i < xs.length + 1 → (x :: xs).getD i .none = minDA x xs → (∀ b o, s.heap.get? b = some o → h'.get? b = some o) → Q v { s with heap := h', toks := tk }) :
    wpAny (model prog w) A (call (.builtin "min") [.ref l]) Q E s := by
  have hn : vs.size = xs.length + 1 := PySem.W.readsAll_len hr
  refine PySem.call_min_walkH (PySem.W.iter_listW (A := A.in1) hh hl fun s₂ e W st hfp hw hk => ?_)
  refine ⟨_, _, _, _, _, _, _, s.heap, _, rfl, W, st, hfp, by omega, hw, hk, PySem.W.cmpIn_lt (A := A.in1) hr ha (by show A.units + 1 + _ < _; exact hu), fun v s' hP m => ?_⟩
  obtain ⟨h', tk, rfl, hk'⟩ := PySem.W.moved_old e rfl m
  obtain ⟨_, _, hi, _, _⟩ := PySem.W.readsAll_atA hr _ v hP
  have e1 : vs.size - 1 = xs.length := by omega
  have e2 := (PySem.W.argBest_fold PySem.W.dataLt PyData.none x xs xs.length (Nat.le_refl _)).2
  rw [List.take_length] at e2
  refine h _ v h' tk hP (by rw [List.length_cons] at hi; exact hi) ?_ hk'
  rw [e1]
  exact e2
end
def rMinD (K : Fg) : List V → Hp → VK → Prop := fun vs H Q => ∃ (a : Addr) (b : V × Da) (bs : List (V × Da)), vs = [V.ref a] ∧ SqL K H a ((b :: bs).map Prod.fst) ∧ DpAll K H ((b :: bs).map Prod.fst) ((b :: bs).map Prod.snd) ∧ AlikeA ((b :: bs).map Prod.snd) ∧ PyData.depthAll ((b :: bs).map Prod.snd) ≤ 50 ∧
  ∀ p ∈ b :: bs, p.2 = minDA b.2 (bs.map Prod.snd) → Q p.1 H
theorem cr_minD {X : Cx} (hc : X.calm = true) (hu : X.A.units + 64 < cLine) : CallR X (.builtin "min") (rMinD X.K) := by
  intro pins s σ H vs us Q I r h
  obtain ⟨a, b, bs, rfl, hs, hd, ha, hdp, q⟩ := h
  obtain ⟨its, rv, hl, hz⟩ := I.list hs
  rw [Vals.ref1 r]
  obtain ⟨as, hr⟩ := Dp.readsAll I _ _ its hd rv
  refine min_list_ix (I.ok.hd hc) hl.isList (vs := its.toArray) hr ha (by show X.A.units + 1 + _ < _; have : PyData.depthAll (b.2 :: bs.map Prod.snd) ≤ 50 := hdp; omega) fun i v h' tk hv hi hm hk => ?_
  have hi' : i < (b :: bs).length := by simpa using hi
  have hv' : its[i]? = some v := by simpa using hv
  have hb : (b :: bs)[i]? = some (b :: bs)[i] := List.getElem?_eq_getElem hi'
  have e1 : ((b :: bs).map Prod.fst)[i]? = some ((b :: bs)[i]).1 := by rw [List.getElem?_map, hb]; rfl
  have e2 : ((b :: bs).map Prod.snd)[i]? = some ((b :: bs)[i]).2 := by rw [List.getElem?_map, hb]; rfl
  obtain ⟨u, hu', hru⟩ := rv.get e1
  rw [hu'] at hv'
  cases hv'
  refine ⟨_, H, I.kept hk, hru, q _ (List.getElem_mem hi') ?_⟩
  have hm' : (((b :: bs).map Prod.snd)).getD i .none = minDA b.2 (bs.map Prod.snd) := hm
  rw [List.getD_eq_getElem?_getD, e2] at hm'
  exact hm'
def cMinDa : CF := fun rs post => match rs with
  | [.val (.list (d :: ds))] => AlikeA (d :: ds) ∧ PyData.canLayAll0 (d :: ds) = true ∧ PyData.depthAll (d :: ds) ≤ 50 ∧ post (minDA d ds)
  | _ => False
theorem ok_minDa {K : Fg} : CallOk K (rMinD K) cMinDa := fun F H a fu vs rs post Q e t hf k => by
  unfold cMinDa at hf
  split at hf
  · rename_i d ds
    obtain ⟨v, rfl, r⟩ := t.v1
    obtain ⟨h1, h2, h3, h4⟩ := hf
    cases r with
    | lst sq m =>
      obtain ⟨bs, rfl, hb2, hb⟩ := rps_zip m
      cases bs with
      | nil => cases hb2
      | cons b bs =>
        rw [List.map_cons] at hb2
        injection hb2 with q1 q2
        subst q1 q2
        refine ⟨_, b, bs, rfl, .inl (.inl (e _ _ sq)), Rps.dp e _ _ m h2, h1, h3, fun p hp hq => ?_⟩
        refine k _ _ _ _ h4 (Gr.refl e) ?_
        rw [← hq]
        exact hb p hp
  · exact hf.elim
/-- max of ints, with a default -/
def maxK (dv : Int) : List Int → Int
  | [] => dv
  | n :: ns => ns.foldl max n
def rMaxK (K : Fg) : List V → List V → Hp → VK → Prop := fun vs zs H Q => ∃ (a : Addr) (ns : List Int) (dv : Int), vs = [V.ref a] ∧ zs = [.int dv] ∧ SqL K H a (ns.map V.int) ∧ Q (.int (maxK dv ns)) H
theorem ints_alike (ns : List Int) : AlikeA (ns.map PyData.int) := ⟨fun x hx y hy => by
  obtain ⟨a, _, rfl⟩ := List.mem_map.mp hx
  obtain ⟨b, _, rfl⟩ := List.mem_map.mp hy
  rfl, fun x hx => by
  obtain ⟨a, _, rfl⟩ := List.mem_map.mp hx
  exact fun z => nomatch z⟩
theorem dpAll_ints {K : Fg} {H : Hp} : ∀ ns : List Int, DpAll K H (ns.map V.int) (ns.map PyData.int)
  | [] => .nil
  | n :: ns => .cons (.int n) (dpAll_ints ns)
theorem depth_ints : ∀ ns : List Int, PyData.depthAll (ns.map PyData.int) = 0
  | [] => rfl
  | n :: ns => by simp [PyData.depthAll, PyData.depth, depth_ints ns]
theorem cr_maxK {X : Cx} (hc : X.calm = true) (hu : X.A.units + 64 < cLine) : CallRK X (.builtin "max") [Str.ofString "default"] (rMaxK X.K) := by
  intro pins s σ H vs zs us ws Q I r rz h
  obtain ⟨a, ns, dv, rfl, rfl, hs, q⟩ := h
  obtain ⟨its, rv, hl, hz⟩ := I.list hs
  rw [Vals.ref1 r]
  obtain ⟨w1, rfl, e1⟩ := vals1 rz
  obtain ⟨as, hr⟩ := Dp.readsAll I _ _ its (dpAll_ints ns) rv
  refine PySem.W.max_list_default (I.ok.hd hc) hl.isList (vs := its.toArray) hr (ints_alike ns) (by rw [depth_ints]; omega) (fun h0 h' tk hk => ?_) fun y ys i v h' tk bs e hv hrd hk => ?_
  · refine ⟨.int dv, H, I.kept hk, e1, ?_⟩
    cases ns with
    | nil => exact q
    | cons n ns => cases h0
  · cases ns with
    | nil => cases e
    | cons n ns =>
      rw [List.map_cons] at e
      injection e with q1 q2
      subst q1 q2
      rw [PySem.W.maxD_ints] at hrd
      refine ⟨.int (ns.foldl max n), H, I.kept hk, ?_, q⟩
      cases hrd
      exact ⟨_, rfl⟩
/-- max(e, default=n) -/
def dMaxK (n : Int) (te : DE) : DE := fun g Q => te g fun r g1 => ∃ ns : List Int, r = .val (.list (ns.map PyData.int)) ∧ Q (.val (.int (maxK n ns))) g1
section
variable {X : Cx} {p pos p2 kpos : Pos} {e : Expr} {tr : DA} {te : DE} {k : Nat} {n : Int} {j : Option Str}
theorem e_minDa (hc : X.calm = true) (hr : Room k X.A) (hg : Gl X "min") (hm : X.mg "min" = none) (ha : PA X [e] (upA X.K tr)) (he : starEach [e] X.env = (false, eval e X.env) :: starEach [] X.env := by rfl) : PE X (.Call (.Name "min" p) [e] [] pos) (up X.K (dCB cMinDa tr)) := e_callB (cr_minD hc hr.units) ok_minDa hg hm (by decide +kernel) ha (by decide) (by decide) he rfl
theorem rps_intsV {K : Fg} {F : Hp} : ∀ {ns : List Int} {xs : List V}, Rps K F xs (ns.map PyData.int) → xs = ns.map V.int
  | [], _, .nil => rfl
  | n :: ns, _, h => by
    rw [List.map_cons] at h
    cases h with
    | cons h t =>
      cases h
      rw [rps_intsV t]
      rfl
theorem e_maxK {j} (hc : X.calm = true) (hr : Room k X.A) (hg : Gl X "max") (hm : X.mg "max" = none) (h1 : PE X e (up X.K te)) (n1 : starEach [e] X.env = (false, eval e X.env) :: starEach [] X.env := by rfl)
    (hall : (backToKw pos (keywordEach [⟨some "default", .Constant (.int n) j p2, kpos⟩] X.env)).all (·.1.isSome) = true := by rfl) (hnone : (backToKw pos (keywordEach [⟨some "default", .Constant (.int n) j p2, kpos⟩] X.env)).any (·.1.isNone) = false := by rfl) (hks : (backToKw pos (keywordEach [⟨some "default", .Constant (.int n) j p2, kpos⟩] X.env)).filterMap (·.1) = [Str.ofString "default"] := by rfl) :
    PE X (.Call (.Name "max" p) [e] [⟨some "default", .Constant (.int n) j p2, kpos⟩] pos) (up X.K (dMaxK n te)) :=
  pe_to (pe_callBK (cr_maxK hc hr.units) hg hm (by decide +kernel) (pa_cons h1 pa_nil n1) (pk_cons pe_int pk_nil) (by decide) (by decide) (by rw [n1]; rfl) (by rw [n1]; rfl) hall hnone hks) fun σ H Q q => by
    obtain ⟨c, g, tv, tr, F, ad, post, s, t, k⟩ := q
    refine ⟨c, g, tv, tr, F, ad, _, s, t, fun r g1 v H1 F1 a1 t1 s1 => ?_⟩
    obtain ⟨ns, rfl, t2⟩ := t1
    have rp : Rp X.K F1 v (.list (ns.map PyData.int)) := s1.top
    cases rp with
    | lst sq m =>
      rw [rps_intsV m] at sq
      exact ⟨_, ns, n, rfl, rfl, .inl (.inl (s1.eh _ _ sq)), k _ _ _ H1 F1 a1 t2 (s1.pop1.push (r := .val (.int _)) (.int _))⟩
theorem fn_neverM {P : Program} {w : World} {K : Fg} {mg : Str → Option Value} {base : Heap} {CX : CXT} {k : Nat} {f : Addr} {fd : FuncData} {ps : List Str} {n : Nat} {hs : NestedKey → Int} {fs : FSpM} (h : ps.length = n) (hf : ∀ gd rs post, fs gd rs post → False) : Fn P w K mg base CX k f fd ps (liftM K n hs fs) :=
  ⟨fun vs H Q E q => by rw [liftM_len vs H Q E q, h], fun _ _ _ _ _ _ _ _ _ _ _ _ _ _ q => by
    obtain ⟨_, _, _, _, _, _, _, _, _, _, _, _, _, q, _⟩ := q
    exact (hf _ _ _ q).elim⟩
end
end Z
namespace Z
open L2 PySem PySem.Spec PyProof.Rows
open Evl (Ex ex_l ex_t ex_rd fresh_back)
/-- wanted thresholds, for even and for odd cells; none where free -/
abbrev Wt := Option Th × Option Th
def Wt.at (W : Wt) : Bool → Option Th
  | false => W.1
  | true => W.2
def Wt.put (W : Wt) (b : Bool) (t : Th) : Wt := match b with
  | false => (some t, W.2)
  | true => (W.1, some t)
def partI (t : Th) (r : Ru) (far : Nat) (b : Bool) : Int := t.n * 2 ^ far - lastI r far b * t.d
def outP (t : Th) (p : Int) : Prop := p < 0 ∨ t.d < p ∨ (p = 0 ∧ t.up = true) ∨ (p = t.d ∧ t.up = false)
instance (t : Th) (p : Int) : Decidable (outP t p) := by unfold outP; infer_instance
def befI (t : Th) (r : Ru) (far : Nat) (b : Bool) : Option (Bool × Th) :=
  if outP t (partI t r far b) then none else some (decide (lastI r far b % 2 = 1), ⟨(low (partI t r far b) t.d).1, (low (partI t r far b) t.d).2, t.up⟩)
def oneI (o : Option Th) (r : Ru) (far : Nat) (b : Bool) : Option (List (Bool × Th)) := match o with
  | none => some []
  | some t => match befI t r far b with
    | none => none
    | some q => some [q]
theorem oneI_some {t : Th} {r : Ru} {f : Nat} {b : Bool} : oneI (some t) r f b = (match befI t r f b with | none => none | some q => some [q]) := rfl
def allI (W : Wt) (r : Ru) (far : Nat) : Option (List (Bool × Th)) := match oneI W.1 r far false with
  | none => none
  | some l => match oneI W.2 r far true with
    | none => none
    | some m => some (l ++ m)
def mergI : List (Bool × Th) → Wt → Option Wt
  | [], W => some W
  | q :: l, W => if W.at q.1 = none ∨ W.at q.1 = some q.2 then mergI l (W.put q.1 q.2) else none
def matI (W : Wt) (r : Ru) : Bool := decide (W.1 = none ∨ W.1 = some (byR r false)) && decide (W.2 = none ∨ W.2 = some (byR r true))
def mfI (W : Wt) : Int := maxK 1 ((W.1.toList ++ W.2.toList).map fun t => bl t.d) + 1
def widI (s : List (Int × Ru)) (by_ : Int) : List (Int × Ru) := s.map fun x => (x.1 + by_, x.2)
def rulesL : List Ru := [.dn, .hd, .he, .hu, .od, .up]
def minL : List (List (Int × Ru)) → Option (List (Int × Ru))
  | [] => none
  | x :: xs => some (xs.foldl (fun a y => if PySem.W.dataLt (chD y) (chD a) then y else a) x)
def stepL (rec : Wt → Option (List (Int × Ru))) (r : Ru) (f : Nat) (l : List (Bool × Th)) : List (List (Int × Ru)) := match mergI l (none, none) with
  | none => []
  | some W' => match rec W' with
    | none => []
    | some s => [widI s f ++ [((0 : Int), r)]]
def farL (rec : Wt → Option (List (Int × Ru))) (W : Wt) (r : Ru) : List Nat → List (List (Int × Ru))
  | [] => []
  | f :: fs => match allI W r f with
    | none => []
    | some l => stepL rec r f l ++ farL rec W r fs
def farsL (W : Wt) (c : Nat) : List Nat := if c = 0 then [] else List.range' 1 (mfI W).toNat
def ruleL (rec : Wt → Option (List (Int × Ru))) (c : Nat) (W : Wt) (r : Ru) : List (List (Int × Ru)) :=
  (if c = 0 ∧ matI W r = true then [[((0 : Int), r)]] else []) ++ farL rec W r (farsL W c)
def LS : Nat → Wt → Option (List (Int × Ru))
  | 0, _ => none
  | c + 1, W => minL (rulesL.flatMap (ruleL (LS c) c W))
theorem two_pow_succ (f : Nat) : (2 : Int) ^ (f + 1) = 2 * 2 ^ f := by rw [Int.pow_succ, Int.mul_comm]
def upB (r : Ru) (b : Bool) : Int := if (byR r b).up = true then 1 else 0
theorem upB_01 (r : Ru) (b : Bool) : upB r b = 0 ∨ upB r b = 1 := by unfold upB; split <;> simp
theorem last_succ {r : Ru} {b : Bool} {f : Nat} (hf : 1 ≤ f) : lastI r (f + 1) b = 2 * lastI r f b + upB r b := by
  obtain ⟨g, rfl⟩ : ∃ g, f = g + 1 := ⟨f - 1, by omega⟩
  unfold lastI upB
  rw [two_pow_succ (g + 1), two_pow_succ g]
  generalize (2 : Int) ^ g = F
  cases r <;> cases b <;> simp [byR, nev, alw, tieD, tieU] <;> omega
theorem last_par {r : Ru} {b : Bool} {f : Nat} (hf : 2 ≤ f) : lastI r f b % 2 = upB r b := by
  obtain ⟨g, rfl⟩ : ∃ g, f = g + 1 := ⟨f - 1, by omega⟩
  rw [last_succ (by omega)]
  rcases upB_01 r b with h | h <;> rw [h] <;> omega
theorem part_succ {t : Th} {r : Ru} {b : Bool} {f : Nat} (hf : 1 ≤ f) : partI t r (f + 1) b = 2 * partI t r f b - upB r b * t.d := by
  unfold partI
  rw [last_succ hf, two_pow_succ]
  grind
theorem out_down {t : Th} {r : Ru} {b : Bool} {f : Nat} (hd : 0 < t.d) (hf : 1 ≤ f) (h : outP t (partI t r f b)) : outP t (partI t r (f + 1) b) := by
  rw [part_succ hf]
  unfold outP at h ⊢
  rcases upB_01 r b with e | e <;> rw [e] <;> simp only [Int.zero_mul, Int.one_mul] <;> cases hu : t.up <;> simp [hu] at h ⊢ <;> omega
theorem bef_down {t : Th} {r : Ru} {b : Bool} {f : Nat} (hd : 0 < t.d) (hf : 1 ≤ f) (h : befI t r (f + 1) b ≠ none) : befI t r f b ≠ none := by
  unfold befI at h ⊢
  by_cases q : outP t (partI t r f b)
  · rw [if_pos (out_down hd hf q)] at h
    exact absurd rfl h
  · rw [if_neg q]
    exact fun z => nomatch z
theorem bef_still {t : Th} {r : Ru} {b : Bool} {f j : Nat} (hd : t.d = 2 ^ j) (hf : j + 2 ≤ f) : befI t r (f + 1) b = befI t r f b := by
  have d0 : 0 < t.d := by rw [hd]; exact pow2_pos j
  have hp : ∃ N : Int, partI t r f b = (4 * N - lastI r f b) * t.d := by
    refine ⟨t.n * 2 ^ (f - j - 2), ?_⟩
    unfold partI
    have e : (2 : Int) ^ f = 4 * 2 ^ (f - j - 2) * 2 ^ j := by
      rw [Int.mul_assoc, ← Int.pow_add, show f - j - 2 + j = f - 2 by omega]
      obtain ⟨g, rfl⟩ : ∃ g, f = g + 2 := ⟨f - 2, by omega⟩
      rw [two_pow_succ (g + 1), two_pow_succ g, show g + 2 - 2 = g by omega]
      omega
    rw [e, ← hd]
    grind
  obtain ⟨N, hp⟩ := hp
  have par := last_par (r := r) (b := b) (show 2 ≤ f by omega)
  have par' := last_par (r := r) (b := b) (show 2 ≤ f + 1 by omega)
  have hx : (4 * N - lastI r f b) % 2 = upB r b := by rcases upB_01 r b with e | e <;> rw [e] at par ⊢ <;> omega
  have hs := part_succ (t := t) (r := r) (b := b) (show 1 ≤ f by omega)
  generalize 4 * N - lastI r f b = x at hp hx
  have key : partI t r (f + 1) b = partI t r f b ∨ (outP t (partI t r (f + 1) b) ∧ outP t (partI t r f b)) := by
    rw [hs, hp]
    have hu := upB_01 r b
    generalize upB r b = u at *
    rcases Int.lt_or_le x 0 with q | q
    · refine .inr ⟨.inl ?_, .inl ?_⟩
      · have : x * t.d ≤ -1 * t.d := Int.mul_le_mul_of_nonneg_right (by omega) (Int.le_of_lt d0)
        rcases hu with rfl | rfl <;> simp only [Int.zero_mul, Int.one_mul] <;> omega
      · have : x * t.d ≤ -1 * t.d := Int.mul_le_mul_of_nonneg_right (by omega) (Int.le_of_lt d0)
        omega
    · rcases Int.lt_or_le x 2 with q2 | q2
      · refine .inl ?_
        have : x = 0 ∨ x = 1 := by omega
        rcases this with rfl | rfl <;> rcases hu with rfl | rfl <;> simp at hx ⊢
        omega
      · have : 2 * t.d ≤ x * t.d := Int.mul_le_mul_of_nonneg_right q2 (Int.le_of_lt d0)
        refine .inr ⟨.inr (.inl ?_), .inr (.inl ?_)⟩
        · rcases hu with rfl | rfl <;> simp only [Int.zero_mul, Int.one_mul] <;> omega
        · omega
  unfold befI
  rw [par, par']
  rcases key with e | ⟨e1, e2⟩
  · rw [e]
  · rw [if_pos e1, if_pos e2]
theorem bef_far {t : Th} {r : Ru} {b : Bool} {f j : Nat} (hd : t.d = 2 ^ j) (hf : j + 2 ≤ f) : ∀ k : Nat, befI t r (f + k) b = befI t r f b
  | 0 => rfl
  | k + 1 => (bef_still hd (show j + 2 ≤ f + k from Nat.le_trans hf (Nat.le_add_right f k))).trans (bef_far hd hf k)
theorem bef_comb {T : Bool → Th} {r : Ru} {f : Nat} {b : Bool} (hT : ∀ b, (T b).Ok) (hg : ∀ b, Int.gcd (T b).n (T b).d = 1) :
    befI (combI T r f b) r f b = some (decide (lastI r f b % 2 = 1), T (decide (lastI r f b % 2 = 1))) := by
  have ht := hT (decide (lastI r f b % 2 = 1))
  have gt := hg (decide (lastI r f b % 2 = 1))
  have ec : combI T r f b = ⟨(low (lastI r f b * (T (decide (lastI r f b % 2 = 1))).d + (T (decide (lastI r f b % 2 = 1))).n) ((T (decide (lastI r f b % 2 = 1))).d * 2 ^ f)).1, (low (lastI r f b * (T (decide (lastI r f b % 2 = 1))).d + (T (decide (lastI r f b % 2 = 1))).n) ((T (decide (lastI r f b % 2 = 1))).d * 2 ^ f)).2, (T (decide (lastI r f b % 2 = 1))).up⟩ := rfl
  generalize T (decide (lastI r f b % 2 = 1)) = u at *
  have hD : 0 < u.d * 2 ^ f := Int.mul_pos ht.d0 (pow2_pos f)
  have hv := low_val (x := lastI r f b * u.d + u.n) hD
  have hl := (low_gcd (n := lastI r f b * u.d + u.n) hD).2.1
  generalize hi : lastI r f b = i at *
  have et : (combI T r f b).n = (low (i * u.d + u.n) (u.d * 2 ^ f)).1 ∧ (combI T r f b).d = (low (i * u.d + u.n) (u.d * 2 ^ f)).2 ∧ (combI T r f b).up = u.up := by rw [ec]; exact ⟨rfl, rfl, rfl⟩
  generalize combI T r f b = t at *
  generalize low (i * u.d + u.n) (u.d * 2 ^ f) = z at *
  obtain ⟨e1, e2, e3⟩ := et
  have hp : partI t r f b * u.d = u.n * t.d := by
    unfold partI
    rw [hi, e1, e2]
    have : z.1 * 2 ^ f * u.d = (i * u.d + u.n) * z.2 := by rw [← hv]; grind
    grind
  have d0 : 0 < t.d := by rw [e2]; exact hl
  have u0 := ht.d0
  have no : ¬outP t (partI t r f b) := by
    unfold outP
    generalize partI t r f b = p at hp
    rintro (q | q | ⟨q, s⟩ | ⟨q, s⟩)
    · have h1 : p * u.d < 0 := Int.mul_neg_of_neg_of_pos q u0
      have h2 := Int.mul_nonneg ht.n0 (Int.le_of_lt d0)
      omega
    · have h1 : t.d * u.d < p * u.d := Int.mul_lt_mul_of_pos_right q u0
      have h2 : u.n * t.d ≤ u.d * t.d := Int.mul_le_mul_of_nonneg_right ht.nd (Int.le_of_lt d0)
      rw [Int.mul_comm u.d] at h2
      omega
    · rw [q, Int.zero_mul] at hp
      have : u.n = 0 := by
        rcases Int.mul_eq_zero.mp hp.symm with h | h
        · exact h
        · omega
      rw [e3, ht.z this] at s
      cases s
    · rw [q, Int.mul_comm] at hp
      have : u.d = u.n := Int.eq_of_mul_eq_mul_right (by omega) hp
      rw [e3, ht.o this.symm] at s
      cases s
  have el : low (partI t r f b) t.d = (u.n, u.d) := by
    rw [low_cross d0 u0 hp, low_self gt]
  unfold befI
  rw [if_neg no, hi, el, e3]
def Sub (W : Wt) (T : Bool → Th) : Prop := ∀ b, W.at b = none ∨ W.at b = some (T b)
theorem sub_none (T : Bool → Th) : Sub (none, none) T := fun b => by cases b <;> exact .inl rfl
theorem Sub.put {W : Wt} {T : Bool → Th} (h : Sub W T) (b : Bool) : Sub (W.put b (T b)) T := fun c => by
  cases b <;> cases c
  · exact .inr rfl
  · exact h true
  · exact h false
  · exact .inr rfl
theorem merg_sub {T : Bool → Th} : ∀ (l : List (Bool × Th)) (W : Wt), Sub W T → (∀ q ∈ l, q.2 = T q.1) → ∃ W', mergI l W = some W' ∧ Sub W' T
  | [], W, h, _ => ⟨W, rfl, h⟩
  | q :: l, W, h, hq => by
    have e := hq q (List.mem_cons_self ..)
    have c : W.at q.1 = none ∨ W.at q.1 = some q.2 := by rw [e]; exact h q.1
    obtain ⟨W', h1, h2⟩ := merg_sub l (W.put q.1 q.2) (by rw [e]; exact h.put q.1) fun x hx => hq x (List.mem_cons_of_mem _ hx)
    exact ⟨W', by rw [mergI, if_pos c]; exact h1, h2⟩
theorem one_sub {W : Wt} {T : Bool → Th} {r : Ru} {f : Nat} (hT : ∀ b, (T b).Ok) (hg : ∀ b, Int.gcd (T b).n (T b).d = 1) (h : Sub W (combI T r f)) (b : Bool) :
    ∃ l, oneI (W.at b) r f b = some l ∧ ∀ q ∈ l, q.2 = T q.1 := by
  rcases h b with e | e
  · rw [e]; exact ⟨[], rfl, fun q hq => nomatch hq⟩
  · rw [e]
    refine ⟨[(decide (lastI r f b % 2 = 1), T (decide (lastI r f b % 2 = 1)))], by rw [oneI_some, bef_comb hT hg], fun q hq => ?_⟩
    rw [List.mem_singleton.mp hq]
theorem all_sub {W : Wt} {T : Bool → Th} {r : Ru} {f : Nat} (hT : ∀ b, (T b).Ok) (hg : ∀ b, Int.gcd (T b).n (T b).d = 1) (h : Sub W (combI T r f)) :
    ∃ l, allI W r f = some l ∧ ∀ q ∈ l, q.2 = T q.1 := by
  obtain ⟨l, a1, a2⟩ := one_sub hT hg h false
  obtain ⟨m, b1, b2⟩ := one_sub hT hg h true
  have a1' : oneI W.1 r f false = some l := a1
  have b1' : oneI W.2 r f true = some m := b1
  refine ⟨l ++ m, by unfold allI; rw [a1', b1'], fun q hq => ?_⟩
  rcases List.mem_append.mp hq with q1 | q1
  · exact a2 q q1
  · exact b2 q q1
theorem max_le {n : Int} : ∀ (ns : List Int) (m : Int), m ≤ ns.foldl max m ∧ ∀ x ∈ ns, x ≤ ns.foldl max m
  | [], m => ⟨Int.le_refl _, fun x hx => nomatch hx⟩
  | y :: ns, m => by
    obtain ⟨h1, h2⟩ := max_le (n := n) ns (max m y)
    refine ⟨Int.le_trans (Int.le_max_left ..) h1, fun x hx => ?_⟩
    rcases List.mem_cons.mp hx with rfl | hx
    · exact Int.le_trans (Int.le_max_right ..) h1
    · exact h2 x hx
theorem maxK_le {ns : List Int} {x : Int} (h : x ∈ ns) (d : Int) : x ≤ maxK d ns := by
  cases ns with
  | nil => cases h
  | cons y ns =>
    obtain ⟨h1, h2⟩ := max_le (n := 0) ns y
    rcases List.mem_cons.mp h with rfl | h
    · exact h1
    · exact h2 x h
theorem fold_max_le {B : Int} : ∀ (ns : List Int) (m : Int), m ≤ B → (∀ x ∈ ns, x ≤ B) → ns.foldl max m ≤ B
  | [], m, h, _ => h
  | y :: ns, m, h, k => fold_max_le ns (max m y) (Int.max_le.mpr ⟨h, k y (List.mem_cons_self ..)⟩) fun x hx => k x (List.mem_cons_of_mem _ hx)
theorem maxK_ub {ns : List Int} {d B : Int} (hd : d ≤ B) (h : ∀ x ∈ ns, x ≤ B) : maxK d ns ≤ B := by
  cases ns with
  | nil => exact hd
  | cons y ns => exact fold_max_le ns y (h y (List.mem_cons_self ..)) fun x hx => h x (List.mem_cons_of_mem _ hx)
theorem mem_wt {W : Wt} {t : Th} : t ∈ W.1.toList ++ W.2.toList ↔ ∃ b, W.at b = some t := by
  rw [List.mem_append, Option.mem_toList, Option.mem_toList]
  constructor
  · rintro (h | h)
    · exact ⟨false, h⟩
    · exact ⟨true, h⟩
  · rintro ⟨b, h⟩
    cases b
    · exact .inl h
    · exact .inr h
theorem mf_ge {W : Wt} {b : Bool} {t : Th} (h : W.at b = some t) : bl t.d + 1 ≤ mfI W := by
  unfold mfI
  have := maxK_le (List.mem_map_of_mem (f := fun t : Th => bl t.d) (mem_wt.mpr ⟨b, h⟩)) 1
  omega
theorem maxK_ge1 {ns : List Int} (h : ∀ x ∈ ns, 1 ≤ x) : 1 ≤ maxK 1 ns := by
  cases ns with
  | nil => exact Int.le_refl _
  | cons y ns => exact Int.le_trans (h y (List.mem_cons_self ..)) (max_le (n := 0) ns y).1
/-- a wanted threshold, sizes -/
structure ThK (m : Nat) (t : Th) : Prop where
  ok : t.Ok
  g : Int.gcd t.n t.d = 1
  dv : t.d ∣ 2 ^ m
def WK (m : Nat) (W : Wt) : Prop := ∀ b t, W.at b = some t → ThK m t
theorem ThK.pow {m : Nat} {t : Th} (h : ThK m t) : ∃ j : Nat, j ≤ m ∧ t.d = 2 ^ j := by
  have d0 := h.ok.d0
  have : t.d.natAbs ∣ 2 ^ m := by
    have := Int.natAbs_dvd_natAbs.mpr h.dv
    rwa [Int.natAbs_pow] at this
  obtain ⟨j, h1, h2⟩ := dvd_pow2 this
  refine ⟨j, h1, ?_⟩
  have : ((t.d.natAbs : Nat) : Int) = t.d := by omega
  rw [← this, h2, Int.natCast_pow]
  rfl
theorem bl_pow (j : Nat) : bl (2 ^ j) = (j : Int) + 1 := by
  obtain ⟨k, h1, h2, h3⟩ := bl_pos (pow2_pos j)
  have a : k < j + 1 := pow_lt_pow2 (by have := two_pow_succ j; have := pow2_pos j; omega)
  have b : j < k + 1 := pow_lt_pow2 h3
  rw [h1]
  omega
theorem ThK.bl {m : Nat} {t : Th} (h : ThK m t) : 1 ≤ Z.bl t.d ∧ Z.bl t.d ≤ m + 1 := by
  obtain ⟨j, h1, h2⟩ := h.pow
  rw [h2, bl_pow]
  omega
theorem mf_rng {m : Nat} {W : Wt} (h : WK m W) : 2 ≤ mfI W ∧ mfI W ≤ m + 2 := by
  have h1 : ∀ x ∈ (W.1.toList ++ W.2.toList).map fun t => bl t.d, 1 ≤ x ∧ x ≤ m + 1 := fun x hx => by
    obtain ⟨t, ht, rfl⟩ := List.mem_map.mp hx
    obtain ⟨b, hb⟩ := mem_wt.mp ht
    exact (h b t hb).bl
  unfold mfI
  have := maxK_ge1 fun x hx => (h1 x hx).1
  have := maxK_ub (d := 1) (B := (m : Int) + 1) (by omega) fun x hx => (h1 x hx).2
  omega
/-- beyond the farthest step nothing new -/
theorem all_far {m : Nat} {W : Wt} {r : Ru} (h : WK m W) (k : Nat) : allI W r ((mfI W).toNat + k) = allI W r (mfI W).toNat := by
  have one : ∀ b, oneI (W.at b) r ((mfI W).toNat + k) b = oneI (W.at b) r (mfI W).toNat b := fun b => by
    cases q : W.at b with
    | none => rfl
    | some t =>
      obtain ⟨j, _, hj⟩ := (h b t q).pow
      have := mf_ge q
      rw [hj, bl_pow] at this
      rw [oneI_some, oneI_some, bef_far hj (by omega) k]
  have o1 : oneI W.1 r _ false = oneI W.1 r _ false := one false
  have o2 : oneI W.2 r _ true = oneI W.2 r _ true := one true
  unfold allI
  rw [o1, o2]
theorem all_down {m : Nat} {W : Wt} {r : Ru} {f : Nat} (h : WK m W) (hf : 1 ≤ f) (hn : allI W r (f + 1) ≠ none) : allI W r f ≠ none := by
  have one : ∀ b, oneI (W.at b) r (f + 1) b ≠ none → oneI (W.at b) r f b ≠ none := fun b => by
    cases q : W.at b with
    | none => exact fun _ z => nomatch z
    | some t =>
      rw [oneI_some, oneI_some]
      intro z y
      have e : befI t r f b ≠ none := bef_down (h b t q).ok.d0 hf fun e => by rw [e] at z; exact z rfl
      cases w : befI t r f b with
      | none => exact e w
      | some x => rw [w] at y; cases y
  have h1 : oneI W.1 r (f + 1) false ≠ none := fun z => hn (by unfold allI; rw [z])
  have h2 : oneI W.2 r (f + 1) true ≠ none := fun z => hn (by
    unfold allI
    cases q : oneI W.1 r (f + 1) false with
    | none => rfl
    | some l => rw [z])
  have g1 : oneI W.1 r f false ≠ none := one false h1
  have g2 : oneI W.2 r f true ≠ none := one true h2
  unfold allI
  cases q1 : oneI W.1 r f false with
  | none => exact absurd q1 g1
  | some l =>
    cases q2 : oneI W.2 r f true with
    | none => exact absurd q2 g2
    | some l => exact fun z => nomatch z
theorem all_downs {m : Nat} {W : Wt} {r : Ru} (h : WK m W) : ∀ (k f : Nat), 1 ≤ f → allI W r (f + k) ≠ none → allI W r f ≠ none
  | 0, _, _, hn => hn
  | k + 1, f, hf, hn => all_downs h k f hf (all_down h (by omega) hn)
theorem far_mem {rec : Wt → Option (List (Int × Ru))} {W W' : Wt} {r : Ru} {f : Nat} {l : List (Bool × Th)} {s : List (Int × Ru)} (hl : allI W r f = some l) (hm : mergI l (none, none) = some W') (hr : rec W' = some s) :
    ∀ fs : List Nat, f ∈ fs → (∀ g ∈ fs, g ≤ f → allI W r g ≠ none) → fs.Pairwise (· ≤ ·) → widI s f ++ [((0 : Int), r)] ∈ farL rec W r fs
  | g :: fs, hf, hn, hs => by
    unfold farL
    rw [List.pairwise_cons] at hs
    have hg : g ≤ f := by
      rcases List.mem_cons.mp hf with e | e
      · omega
      · exact hs.1 f e
    cases q : allI W r g with
    | none => exact absurd q (hn g (List.mem_cons_self ..) hg)
    | some l' =>
      rcases List.mem_cons.mp hf with e | e
      · subst e
        rw [hl] at q
        cases q
        refine List.mem_append_left _ ?_
        unfold stepL
        rw [hm]
        show _ ∈ (match rec W' with | none => [] | some s => _)
        rw [hr]
        exact List.mem_singleton.mpr rfl
      · exact List.mem_append_right _ (far_mem hl hm hr fs e (fun g hg => hn g (List.mem_cons_of_mem _ hg)) hs.2)
theorem minL_some {l : List (List (Int × Ru))} {x : List (Int × Ru)} (h : x ∈ l) : ∃ y, minL l = some y := by
  cases l with
  | nil => cases h
  | cons a l => exact ⟨_, rfl⟩
theorem minL_mem {l : List (List (Int × Ru))} {x : List (Int × Ru)} (h : minL l = some x) : x ∈ l := by
  cases l with
  | nil => cases h
  | cons a l =>
    have key : ∀ (l : List (List (Int × Ru))) a, l.foldl (fun a y => if PySem.W.dataLt (chD y) (chD a) then y else a) a ∈ a :: l := fun l => by
      induction l with
      | nil => exact fun a => List.mem_singleton.mpr rfl
      | cons b l ih =>
        intro a
        rw [List.foldl_cons]
        split
        · exact List.mem_cons_of_mem _ (ih b)
        · rcases List.mem_cons.mp (ih a) with e | e
          · rw [e]; exact List.mem_cons_self ..
          · exact List.mem_cons_of_mem _ (List.mem_cons_of_mem _ e)
    cases h
    exact key l a
theorem mem_rules (r : Ru) : r ∈ rulesL := by cases r <;> simp [rulesL]
/-- pairs of thresholds that chains of n steps have -/
def Reach (n : Nat) (T : Bool → Th) : Prop := ∀ W, Sub W T → ∃ s, LS n W = some s
theorem reach_one (r : Ru) : Reach 1 (byR r) := fun W h => by
  refine minL_some (x := [((0 : Int), r)]) (List.mem_flatMap.mpr ⟨r, mem_rules r, ?_⟩)
  have hm : matI W r = true := by
    unfold matI
    rw [Bool.and_eq_true, decide_eq_true_eq, decide_eq_true_eq]
    exact ⟨h false, h true⟩
  have e : (if (0 : Nat) = 0 ∧ matI W r = true then [[((0 : Int), r)]] else []) = [[((0 : Int), r)]] := if_pos ⟨rfl, hm⟩
  unfold ruleL
  rw [e]
  exact List.mem_append_left _ (List.mem_singleton.mpr rfl)
theorem sub_wk {m : Nat} {W : Wt} {T : Bool → Th} (h : Sub W T) (hB : ∀ b, ThK m (T b)) : WK m W := fun b t e => by
  rcases h b with q | q
  · rw [q] at e; cases e
  · rw [q] at e
    cases e
    exact hB b
theorem reach_step {n m : Nat} {T : Bool → Th} {r : Ru} {f : Nat} (hn : 1 ≤ n) (hf : 1 ≤ f) (hB : ∀ b, ThK m (T b)) (hC : ∀ b, ThK (m + f) (combI T r f b)) (h : Reach n T) : Reach (n + 1) (combI T r f) := fun W hW => by
  obtain ⟨l, h1, h2⟩ := all_sub (fun b => (hB b).ok) (fun b => (hB b).g) hW
  obtain ⟨W', h3, h4⟩ := merg_sub l (none, none) (sub_none T) h2
  obtain ⟨s, h5⟩ := h W' h4
  have wk := sub_wk hW hC
  obtain ⟨m1, m2⟩ := mf_rng wk
  obtain ⟨g, g1, g2, g3⟩ : ∃ g : Nat, 1 ≤ g ∧ g ≤ (mfI W).toNat ∧ allI W r g = some l := by
    by_cases q : f ≤ (mfI W).toNat
    · exact ⟨f, hf, q, h1⟩
    · refine ⟨(mfI W).toNat, by omega, Nat.le_refl _, ?_⟩
      have := all_far (r := r) wk (f - (mfI W).toNat)
      rw [show (mfI W).toNat + (f - (mfI W).toNat) = f by omega, h1] at this
      exact this.symm
  refine minL_some (x := widI s g ++ [((0 : Int), r)]) (List.mem_flatMap.mpr ⟨r, mem_rules r, List.mem_append_right _ ?_⟩)
  unfold farsL
  rw [if_neg (by omega)]
  refine far_mem g3 h3 h5 _ (List.mem_range'_1.mpr (by omega)) (fun k hk hk2 => ?_) (List.pairwise_le_range' ..)
  have := (List.mem_range'_1.mp hk).1
  refine all_downs wk (g - k) k this ?_
  rw [show k + (g - k) = g by omega, g3]
  exact fun z => nomatch z
theorem comb_K {T : Bool → Th} {m f : Nat} {r : Ru} (hf : 1 ≤ f) (h : ∀ b, ThK m (T b)) (b : Bool) : ThK (m + f) (combI T r f b) :=
  ⟨comb_ok (fun b => (h b).ok) hf b, (low_gcd (Int.mul_pos (h _).ok.d0 (pow2_pos f))).1, comb_dv (T := T) (fun b => (h b).dv) (fun b => (h b).ok) b⟩
theorem byR_K (r : Ru) (b : Bool) : ThK 1 (byR r b) := ⟨byR_ok r b, (byR_B r).g b, byR_dv r b⟩
theorem reach_all : ∀ {c : List (Int × Ru)} {w : Int} {T : Bool → Th} {n m : Nat}, 1 ≤ n → (∀ b, ThK m (T b)) → Fall w c → Reach n T → Reach (n + c.length) (thF w T c).2 ∧ ∃ m' : Nat, (∀ b, ThK m' ((thF w T c).2 b)) ∧ (m' : Int) + (thF w T c).1 = m + w
  | [], w, T, n, m, _, hB, _, h => ⟨h, m, hB, rfl⟩
  | s :: c, w, T, n, m, hn, hB, hf, h => by
    obtain ⟨f1, f2, f3⟩ := hf
    have hC := comb_K (T := T) (m := m) (r := s.2) (f := (w - s.1).toNat) (by omega) hB
    obtain ⟨h1, m', h2, h3⟩ := reach_all (c := c) (w := s.1) (T := combI T s.2 (w - s.1).toNat) (n := n + 1) (by omega) hC f3 (reach_step hn (by omega) hB hC h)
    refine ⟨?_, m', h2, ?_⟩
    · rw [List.length_cons, show n + (c.length + 1) = n + 1 + c.length by omega]
      exact h1
    · show (m' : Int) + (thF s.1 _ c).1 = _
      omega
/-- what a chain wants -/
def wtI (c : List (Int × Ru)) : Wt := (if (chT c).1 = 1 then none else some ((chT c).2 false), some ((chT c).2 true))
theorem wt_sub (c : List (Int × Ru)) : Sub (wtI c) (chT c).2 := fun b => by
  cases b
  · show (if (chT c).1 = 1 then none else some ((chT c).2 false)) = none ∨ _ = _
    by_cases e : (chT c).1 = 1
    · rw [if_pos e]; exact .inl rfl
    · right
      show (if (chT c).1 = 1 then none else some ((chT c).2 false)) = _
      rw [if_neg e]
  · exact .inr rfl
/-- the chain is found at its own length -/
theorem reach_chain {c : List (Int × Ru)} (hc : c ≠ []) (hw : Wds c) : (∃ s, LS (trimI none c).length (wtI c) = some s) ∧ ∃ m : Nat, WK m (wtI c) ∧ ∀ x ∈ c.head?, (m : Int) + (chT c).1 = x.1 + 1 := by
  cases c with
  | nil => exact absurd rfl hc
  | cons s c =>
    have e : chT (s :: c) = thF s.1 (byR s.2) (trimI (some s.1) c) := rfl
    obtain ⟨h1, m, h2, h3⟩ := reach_all (c := trimI (some s.1) c) (w := s.1) (T := byR s.2) (n := 1) (m := 1) (Nat.le_refl _) (byR_K s.2) (trim_fall hw.tl) (reach_one s.2)
    refine ⟨?_, m, ?_, ?_⟩
    · have := h1 (wtI (s :: c)) (by rw [← e]; exact wt_sub _)
      rw [show (trimI none (s :: c)).length = 1 + (trimI (some s.1) c).length by rw [trimI, List.length_cons, Nat.add_comm]]
      exact this
    · exact sub_wk (wt_sub _) (by rw [e]; exact h2)
    · intro x hx
      cases hx
      rw [e]
      omega
theorem wid_len (s : List (Int × Ru)) (k : Int) : (widI s k).length = s.length := by unfold widI; rw [List.length_map]
theorem far_sub {rec : Wt → Option (List (Int × Ru))} {W : Wt} {r : Ru} {x : List (Int × Ru)} : ∀ {fs : List Nat}, x ∈ farL rec W r fs → ∃ f ∈ fs, ∃ l W' s, allI W r f = some l ∧ mergI l (none, none) = some W' ∧ rec W' = some s ∧ x = widI s f ++ [((0 : Int), r)]
  | [], h => by cases h
  | f :: fs, h => by
    unfold farL at h
    cases q : allI W r f with
    | none => rw [q] at h; cases h
    | some l =>
      rw [q] at h
      rcases List.mem_append.mp h with h | h
      · unfold stepL at h
        cases q1 : mergI l (none, none) with
        | none => rw [q1] at h; cases h
        | some W' =>
          rw [q1] at h
          have h' : x ∈ (match rec W' with | none => [] | some s => [widI s f ++ [((0 : Int), r)]]) := h
          cases q2 : rec W' with
          | none => rw [q2] at h'; cases h'
          | some s =>
            rw [q2] at h'
            exact ⟨f, List.mem_cons_self .., l, W', s, q, q1, q2, List.mem_singleton.mp h'⟩
      · obtain ⟨g, hg, z⟩ := far_sub h
        exact ⟨g, List.mem_cons_of_mem _ hg, z⟩
theorem ls_len : ∀ {c : Nat} {W : Wt} {s : List (Int × Ru)}, LS c W = some s → s.length = c
  | 0, _, _, h => nomatch h
  | c + 1, W, s, h => by
    have hm := minL_mem (show minL _ = some s from h)
    obtain ⟨r, _, hr⟩ := List.mem_flatMap.mp hm
    unfold ruleL at hr
    rcases List.mem_append.mp hr with hr | hr
    · split at hr
      · rename_i q
        rw [List.mem_singleton.mp hr, q.1]
        rfl
      · cases hr
    · obtain ⟨f, _, l, W', s', _, _, h3, rfl⟩ := far_sub hr
      rw [List.length_append, wid_len, ls_len h3]
      rfl
theorem farL_len (rec : Wt → Option (List (Int × Ru))) (W : Wt) (r : Ru) : ∀ fs : List Nat, (farL rec W r fs).length ≤ fs.length
  | [] => Nat.le_refl _
  | f :: fs => by
    unfold farL
    cases allI W r f with
    | none => exact Nat.zero_le _
    | some l =>
      have ih := farL_len rec W r fs
      have : (stepL rec r f l).length ≤ 1 := by
        unfold stepL
        split
        · exact Nat.zero_le _
        · split <;> simp
      show (_ ++ _ : List _).length ≤ _
      rw [List.length_append, List.length_cons]
      omega
theorem bef_K {m : Nat} {t : Th} {r : Ru} {f : Nat} {b : Bool} {q : Bool × Th} (h : ThK m t) (e : befI t r f b = some q) : ThK m q.2 := by
  unfold befI at e
  split at e
  · cases e
  · rename_i no
    cases e
    have d0 := h.ok.d0
    generalize partI t r f b = p at no
    have p0 : 0 ≤ p := Int.not_lt.mp fun z => no (.inl z)
    have p1 : p ≤ t.d := Int.not_lt.mp fun z => no (.inr (.inl z))
    obtain ⟨g1, g2, _⟩ := low_gcd (n := p) d0
    have hv := low_val (x := p) d0
    have dv := low_dvd (n := p) d0 h.dv
    generalize low p t.d = z at *
    refine ⟨⟨?_, ?_, g2, fun y => ?_, fun y => ?_⟩, g1, dv⟩
    · refine Int.not_lt.mp fun y => ?_
      have h1 : z.1 * t.d < 0 := Int.mul_neg_of_neg_of_pos y d0
      have h2 := Int.mul_nonneg p0 (Int.le_of_lt g2)
      omega
    · refine Int.le_of_mul_le_mul_right (a := t.d) ?_ d0
      show z.1 * t.d ≤ z.2 * t.d
      rw [hv, Int.mul_comm z.2]
      exact Int.mul_le_mul_of_nonneg_right p1 (Int.le_of_lt g2)
    · have y' : z.1 = 0 := y
      rw [y', Int.zero_mul] at hv
      have : p = 0 := by
        rcases Int.mul_eq_zero.mp hv.symm with w | w
        · exact w
        · omega
      show t.up = false
      cases q : t.up
      · rfl
      · exact absurd (.inr (.inr (.inl ⟨this, q⟩))) no
    · have y' : z.1 = z.2 := y
      rw [y', Int.mul_comm] at hv
      have : t.d = p := Int.eq_of_mul_eq_mul_right (by omega) hv
      show t.up = true
      cases q : t.up
      · exact absurd (.inr (.inr (.inr ⟨this.symm, q⟩))) no
      · rfl
theorem all_K {m : Nat} {W : Wt} {r : Ru} {f : Nat} {l : List (Bool × Th)} (h : WK m W) (e : allI W r f = some l) : l.length ≤ 2 ∧ ∀ q ∈ l, ThK m q.2 := by
  have one : ∀ b l, oneI (W.at b) r f b = some l → l.length ≤ 1 ∧ ∀ q ∈ l, ThK m q.2 := fun b l e => by
    unfold oneI at e
    cases q : W.at b with
    | none => rw [q] at e; cases e; exact ⟨Nat.zero_le _, fun q hq => nomatch hq⟩
    | some t =>
      rw [q] at e
      have e' : (match befI t r f b with | none => none | some q => some [q]) = some l := e
      cases w : befI t r f b with
      | none => rw [w] at e'; cases e'
      | some x =>
        rw [w] at e'
        cases e'
        refine ⟨Nat.le_refl _, fun y hy => ?_⟩
        rw [List.mem_singleton.mp hy]
        exact bef_K (h b t q) w
  unfold allI at e
  cases q1 : oneI W.1 r f false with
  | none => rw [q1] at e; cases e
  | some l1 =>
    rw [q1] at e
    have e' : (match oneI W.2 r f true with | none => none | some m => some (l1 ++ m)) = some l := e
    cases q2 : oneI W.2 r f true with
    | none => rw [q2] at e'; cases e'
    | some l2 =>
      rw [q2] at e'
      cases e'
      obtain ⟨a1, a2⟩ := one false l1 q1
      obtain ⟨b1, b2⟩ := one true l2 q2
      refine ⟨by rw [List.length_append]; omega, fun q hq => ?_⟩
      rcases List.mem_append.mp hq with z | z
      · exact a2 q z
      · exact b2 q z
theorem WK.put {m : Nat} {W : Wt} (h : WK m W) {b : Bool} {t : Th} (ht : ThK m t) : WK m (W.put b t) := fun c u e => by
  cases b <;> cases c
  · cases e; exact ht
  · exact h true u e
  · exact h false u e
  · cases e; exact ht
theorem merg_K {m : Nat} : ∀ {l : List (Bool × Th)} {W W' : Wt}, WK m W → (∀ q ∈ l, ThK m q.2) → mergI l W = some W' → WK m W'
  | [], W, W', h, _, e => by cases e; exact h
  | q :: l, W, W', h, hq, e => by
    unfold mergI at e
    split at e
    · exact merg_K (h.put (hq q (List.mem_cons_self ..))) (fun x hx => hq x (List.mem_cons_of_mem _ hx)) e
    · cases e
theorem wk_none (m : Nat) : WK m (none, none) := fun b t e => by cases b <;> cases e
def Clo (S : List (Wt × Nat)) : Prop := ∀ (W : Wt) (c : Nat), (W, c + 1) ∈ S → 1 ≤ c → ∀ (r : Ru) (f : Nat) (l : List (Bool × Th)) (W' : Wt), f ∈ farsL W c → allI W r f = some l → mergI l (none, none) = some W' → (W', c) ∈ S
def goL (W : Wt) (r : Ru) (f : Nat) (k : Wt → List (Wt × Nat)) : List (Wt × Nat) := match allI W r f with
  | none => []
  | some l => match mergI l (none, none) with
    | none => []
    | some W' => k W'
def reachL : Nat → Wt → List (Wt × Nat)
  | 0, _ => []
  | c + 1, W => (W, c + 1) :: rulesL.flatMap fun r => (farsL W c).flatMap fun f => goL W r f (reachL c)
theorem go_at {W W' : Wt} {r : Ru} {f : Nat} {k : Wt → List (Wt × Nat)} {l : List (Bool × Th)} (h1 : allI W r f = some l) (h2 : mergI l (none, none) = some W') : goL W r f k = k W' := by
  unfold goL
  rw [h1]
  show (match mergI l (none, none) with | none => [] | some W' => k W') = _
  rw [h2]
theorem reachL_hd {c : Nat} (h : 1 ≤ c) (W : Wt) : (W, c) ∈ reachL c W := by
  obtain ⟨d, rfl⟩ : ∃ d, c = d + 1 := ⟨c - 1, by omega⟩
  exact List.mem_cons_self ..
theorem reachL_clo : ∀ (n : Nat) (V : Wt), Clo (reachL n V)
  | 0, V => fun W c h => nomatch h
  | n + 1, V => fun W c h h1 r f l W' hf hl hm => by
    rcases List.mem_cons.mp h with e | h
    · have e1 : W = V := congrArg Prod.fst e
      have e2 : c + 1 = n + 1 := congrArg Prod.snd e
      have e2 : c = n := by omega
      subst e1 e2
      refine List.mem_cons_of_mem _ (List.mem_flatMap.mpr ⟨r, mem_rules r, List.mem_flatMap.mpr ⟨f, hf, ?_⟩⟩)
      rw [go_at hl hm]
      exact reachL_hd h1 W'
    · obtain ⟨r', hr', h⟩ := List.mem_flatMap.mp h
      obtain ⟨f', hf', h⟩ := List.mem_flatMap.mp h
      have h0 := h
      unfold goL at h
      cases q1 : allI V r' f' with
      | none => rw [q1] at h; cases h
      | some l' =>
        rw [q1] at h
        have h' : (W, c + 1) ∈ (match mergI l' (none, none) with | none => [] | some W' => reachL n W') := h
        cases q2 : mergI l' (none, none) with
        | none => rw [q2] at h'; cases h'
        | some V' =>
          rw [q2] at h'
          refine List.mem_cons_of_mem _ (List.mem_flatMap.mpr ⟨r', hr', List.mem_flatMap.mpr ⟨f', hf', ?_⟩⟩)
          rw [go_at q1 q2]
          exact reachL_clo n V' W c h' h1 r f l W' hf hl hm
theorem flat_len {α β : Type} {f : α → List β} {B : Nat} : ∀ {l : List α}, (∀ x ∈ l, (f x).length ≤ B) → (l.flatMap f).length ≤ l.length * B
  | [], _ => by simp
  | x :: l, h => by
    have ih := flat_len (f := f) (B := B) (l := l) fun y hy => h y (List.mem_cons_of_mem _ hy)
    have := h x (List.mem_cons_self ..)
    rw [List.flatMap_cons, List.length_append, List.length_cons, Nat.add_mul, Nat.one_mul]
    omega
def bndL (M : Nat) : Nat → Nat
  | 0 => 0
  | c + 1 => 1 + 6 * (M * bndL M c)
theorem reachL_len {m M : Nat} (hM : m + 2 ≤ M) : ∀ (n : Nat) (V : Wt), WK m V → (reachL n V).length ≤ bndL M n
  | 0, V, _ => Nat.le_refl _
  | n + 1, V, h => by
    have e : (rulesL.flatMap fun r => (farsL V n).flatMap fun f => goL V r f (reachL n)).length ≤ 6 * (M * bndL M n) := by
      refine flat_len (B := M * bndL M n) fun r hr => ?_
      refine Nat.le_trans (flat_len (B := bndL M n) fun f hf => ?_) ?_
      · unfold goL
        cases q1 : allI V r f with
        | none => exact Nat.zero_le _
        | some l =>
          show (match mergI l (none, none) with | none => [] | some W' => reachL n W').length ≤ _
          cases q2 : mergI l (none, none) with
          | none => exact Nat.zero_le _
          | some W' => exact reachL_len hM n W' (merg_K (wk_none m) (all_K h q1).2 q2)
      · refine Nat.mul_le_mul_right _ ?_
        unfold farsL
        split
        · exact Nat.zero_le _
        · rw [List.length_range']
          have := (mf_rng h).2
          omega
    show _ + 1 ≤ _
    unfold bndL
    omega
theorem Clo.app {S S' : List (Wt × Nat)} (h : Clo S) (h' : Clo S') : Clo (S ++ S') := fun W c hm h1 r f l W' hf hl hg => by
  rcases List.mem_append.mp hm with z | z
  · exact List.mem_append_left _ (h W c z h1 r f l W' hf hl hg)
  · exact List.mem_append_right _ (h' W c z h1 r f l W' hf hl hg)
def reachTo (W : Wt) : Nat → List (Wt × Nat)
  | 0 => []
  | n + 1 => reachTo W n ++ reachL (n + 1) W
theorem reachTo_clo (W : Wt) : ∀ n, Clo (reachTo W n)
  | 0 => fun _ _ h => nomatch h
  | n + 1 => (reachTo_clo W n).app (reachL_clo _ _)
theorem reachTo_mem (W : Wt) : ∀ {n c : Nat}, 1 ≤ c → c ≤ n → (W, c) ∈ reachTo W n
  | 0, c, h1, h2 => by omega
  | n + 1, c, h1, h2 => by
    by_cases e : c = n + 1
    · subst e
      exact List.mem_append_right _ (reachL_hd h1 W)
    · exact List.mem_append_left _ (reachTo_mem W h1 (by omega))
def bndTo (M : Nat) : Nat → Nat
  | 0 => 0
  | n + 1 => bndTo M n + bndL M (n + 1)
theorem reachTo_len {m M : Nat} (hM : m + 2 ≤ M) (W : Wt) (h : WK m W) : ∀ n, (reachTo W n).length ≤ bndTo M n
  | 0 => Nat.le_refl _
  | n + 1 => by
    have := reachTo_len hM W h n
    have := reachL_len hM (n + 1) W h
    show (_ ++ _ : List _).length ≤ _
    rw [List.length_append]
    unfold bndTo
    omega
end Z
namespace LAW
open Z L2 PySem PySem.Spec PyProof.Rows
open Evl (Ex ex_l ex_t ex_rd fresh_back)
def topS (i : Nat) : Stmt := PySem.Challenge.pw_stagedrounding_k63_whole_steps_that_are.main.body.getD i (.Pass ⟨0, 0, 0, 0⟩)
abbrev st_is_int : Stmt := topS 7
abbrev N_is_int : List Str := ["value", "least"]
theorem sc_is_int : FnScope N_is_int ["value", "least"] (defScope st_is_int) := ⟨rfl, rfl, rfl, by decide +kernel, rfl, by decide +kernel, by decide +kernel⟩
abbrev st_common_divisor : Stmt := topS 8
abbrev N_common_divisor : List Str := ["one", "other"]
theorem sc_common_divisor : FnScope N_common_divisor ["one", "other"] (defScope st_common_divisor) := ⟨rfl, rfl, rfl, by decide +kernel, rfl, by decide +kernel, by decide +kernel⟩
abbrev st_lowest : Stmt := topS 9
abbrev N_lowest : List Str := ["n", "d", "divisor"]
theorem sc_lowest : FnScope N_lowest ["n", "d"] (defScope st_lowest) := ⟨rfl, rfl, rfl, by decide +kernel, rfl, by decide +kernel, by decide +kernel⟩
abbrev st_is_number : Stmt := topS 10
abbrev N_is_number : List Str := ["value", "part"]
theorem sc_is_number : FnScope N_is_number ["value"] (defScope st_is_number) := ⟨rfl, rfl, rfl, by decide +kernel, rfl, by decide +kernel, by decide +kernel⟩
abbrev st_is_width : Stmt := topS 11
abbrev N_is_width : List Str := ["value"]
theorem sc_is_width : FnScope N_is_width ["value"] (defScope st_is_width) := ⟨rfl, rfl, rfl, by decide +kernel, rfl, by decide +kernel, by decide +kernel⟩
abbrev st_check_number : Stmt := topS 12
abbrev N_check_number : List Str := ["value"]
theorem sc_check_number : FnScope N_check_number ["value"] (defScope st_check_number) := ⟨rfl, rfl, rfl, by decide +kernel, rfl, by decide +kernel, by decide +kernel⟩
abbrev st_scaled : Stmt := topS 13
abbrev N_scaled : List Str := ["number", "e", "n", "d"]
theorem sc_scaled : FnScope N_scaled ["number", "e"] (defScope st_scaled) := ⟨rfl, rfl, rfl, by decide +kernel, rfl, by decide +kernel, by decide +kernel⟩
abbrev st_power_number : Stmt := topS 14
abbrev N_power_number : List Str := ["k", "e", "n", "d"]
theorem sc_power_number : FnScope N_power_number ["k", "e"] (defScope st_power_number) := ⟨rfl, rfl, rfl, by decide +kernel, rfl, by decide +kernel, by decide +kernel⟩
abbrev st_cell_of : Stmt := topS 15
abbrev N_cell_of : List Str := ["number", "width", "e", "n", "d"]
theorem sc_cell_of : FnScope N_cell_of ["number", "width"] (defScope st_cell_of) := ⟨rfl, rfl, rfl, by decide +kernel, rfl, by decide +kernel, by decide +kernel⟩
abbrev st_position_of : Stmt := topS 16
abbrev N_position_of : List Str := ["number", "width", "k", "e", "n", "d"]
theorem sc_position_of : FnScope N_position_of ["number", "width"] (defScope st_position_of) := ⟨rfl, rfl, rfl, by decide +kernel, rfl, by decide +kernel, by decide +kernel⟩
abbrev st_is_rule : Stmt := topS 25
abbrev N_is_rule : List Str := ["value"]
theorem sc_is_rule : FnScope N_is_rule ["value"] (defScope st_is_rule) := ⟨rfl, rfl, rfl, by decide +kernel, rfl, by decide +kernel, by decide +kernel⟩
abbrev st_ends_of : Stmt := topS 26
abbrev N_ends_of : List Str := ["number", "width", "k", "e"]
theorem sc_ends_of : FnScope N_ends_of ["number", "width"] (defScope st_ends_of) := ⟨rfl, rfl, rfl, by decide +kernel, rfl, by decide +kernel, by decide +kernel⟩
abbrev st_goes_up : Stmt := topS 27
abbrev N_goes_up : List Str := ["k", "place", "rule", "n", "d"]
theorem sc_goes_up : FnScope N_goes_up ["k", "place", "rule"] (defScope st_goes_up) := ⟨rfl, rfl, rfl, by decide +kernel, rfl, by decide +kernel, by decide +kernel⟩
abbrev st_round_once : Stmt := topS 28
abbrev N_round_once : List Str := ["number", "width", "rule", "lower", "upper", "k"]
theorem sc_round_once : FnScope N_round_once ["number", "width", "rule"] (defScope st_round_once) := ⟨rfl, rfl, rfl, by decide +kernel, rfl, by decide +kernel, by decide +kernel⟩
abbrev st_is_step : Stmt := topS 32
abbrev N_is_step : List Str := ["value"]
theorem sc_is_step : FnScope N_is_step ["value"] (defScope st_is_step) := ⟨rfl, rfl, rfl, by decide +kernel, rfl, by decide +kernel, by decide +kernel⟩
abbrev st_is_chain : Stmt := topS 33
abbrev N_is_chain : List Str := ["value", "step"]
theorem sc_is_chain : FnScope N_is_chain ["value"] (defScope st_is_chain) := ⟨rfl, rfl, rfl, by decide +kernel, rfl, by decide +kernel, by decide +kernel⟩
abbrev st_check_chain : Stmt := topS 34
abbrev N_check_chain : List Str := ["value"]
theorem sc_check_chain : FnScope N_check_chain ["value"] (defScope st_check_chain) := ⟨rfl, rfl, rfl, by decide +kernel, rfl, by decide +kernel, by decide +kernel⟩
abbrev st_last_width : Stmt := topS 35
abbrev N_last_width : List Str := ["chain", "width", "rule"]
theorem sc_last_width : FnScope N_last_width ["chain"] (defScope st_last_width) := ⟨rfl, rfl, rfl, by decide +kernel, rfl, by decide +kernel, by decide +kernel⟩
abbrev st_stages : Stmt := topS 36
abbrev N_stages : List Str := ["number", "chain", "found", "width", "rule"]
theorem sc_stages : FnScope N_stages ["number", "chain"] (defScope st_stages) := ⟨rfl, rfl, rfl, by decide +kernel, rfl, by decide +kernel, by decide +kernel⟩
abbrev st_applied : Stmt := topS 37
abbrev N_applied : List Str := ["number", "chain"]
theorem sc_applied : FnScope N_applied ["number", "chain"] (defScope st_applied) := ⟨rfl, rfl, rfl, by decide +kernel, rfl, by decide +kernel, by decide +kernel⟩
abbrev st_trimmed : Stmt := topS 38
abbrev N_trimmed : List Str := ["chain", "found", "least", "width", "rule"]
theorem sc_trimmed : FnScope N_trimmed ["chain"] (defScope st_trimmed) := ⟨rfl, rfl, rfl, by decide +kernel, rfl, by decide +kernel, by decide +kernel⟩
abbrev st_last_down : Stmt := topS 45
abbrev N_last_down : List Str := ["rule", "far", "parity", "t", "side", "parts", "index"]
theorem sc_last_down : FnScope N_last_down ["rule", "far", "parity"] (defScope st_last_down) := ⟨rfl, rfl, rfl, by decide +kernel, rfl, by decide +kernel, by decide +kernel⟩
abbrev st_combined : Stmt := topS 46
abbrev N_combined : List Str := ["pair", "rule", "far", "found", "parity", "index", "n", "d", "side"]
theorem sc_combined : FnScope N_combined ["pair", "rule", "far"] (defScope st_combined) := ⟨rfl, rfl, rfl, by decide +kernel, rfl, by decide +kernel, by decide +kernel⟩
abbrev st_thresholds : Stmt := topS 47
abbrev N_thresholds : List Str := ["chain", "steps", "width", "rule", "found", "narrower"]
theorem sc_thresholds : FnScope N_thresholds ["chain"] (defScope st_thresholds) := ⟨rfl, rfl, rfl, by decide +kernel, rfl, by decide +kernel, by decide +kernel⟩
abbrev st_check_chains : Stmt := topS 49
abbrev N_check_chains : List Str := ["one", "other"]
theorem sc_check_chains : FnScope N_check_chains ["one", "other"] (defScope st_check_chains) := ⟨rfl, rfl, rfl, by decide +kernel, rfl, by decide +kernel, by decide +kernel⟩
abbrev st_same : Stmt := topS 50
abbrev N_same : List Str := ["one", "other"]
theorem sc_same : FnScope N_same ["one", "other"] (defScope st_same) := ⟨rfl, rfl, rfl, by decide +kernel, rfl, by decide +kernel, by decide +kernel⟩
abbrev st_before_step : Stmt := topS 52
abbrev N_before_step : List Str := ["threshold", "rule", "far", "parity", "n", "d", "side", "index", "part"]
theorem sc_before_step : FnScope N_before_step ["threshold", "rule", "far", "parity"] (defScope st_before_step) := ⟨rfl, rfl, rfl, by decide +kernel, rfl, by decide +kernel, by decide +kernel⟩
abbrev st_all_before : Stmt := topS 53
abbrev N_all_before : List Str := ["wanted", "rule", "far", "found", "parity", "threshold", "told"]
theorem sc_all_before : FnScope N_all_before ["wanted", "rule", "far"] (defScope st_all_before) := ⟨rfl, rfl, rfl, by decide +kernel, rfl, by decide +kernel, by decide +kernel⟩
abbrev st_merged : Stmt := topS 54
abbrev N_merged : List Str := ["some", "found", "parity", "threshold"]
theorem sc_merged : FnScope N_merged ["some"] (defScope st_merged) := ⟨rfl, rfl, rfl, by decide +kernel, rfl, by decide +kernel, by decide +kernel⟩
abbrev st_matches : Stmt := topS 55
abbrev N_matches : List Str := ["wanted", "rule", "threshold", "own"]
theorem sc_matches : FnScope N_matches ["wanted", "rule"] (defScope st_matches) := ⟨rfl, rfl, rfl, by decide +kernel, rfl, by decide +kernel, by decide +kernel⟩
abbrev st_most_far : Stmt := topS 56
abbrev N_most_far : List Str := ["wanted", "threshold"]
theorem sc_most_far : FnScope N_most_far ["wanted"] (defScope st_most_far) := ⟨rfl, rfl, rfl, by decide +kernel, rfl, by decide +kernel, by decide +kernel⟩
abbrev st_widened : Stmt := topS 57
abbrev N_widened : List Str := ["steps", "by", "width", "rule"]
theorem sc_widened : FnScope N_widened ["steps", "by"] (defScope st_widened) := ⟨rfl, rfl, rfl, by decide +kernel, rfl, by decide +kernel, by decide +kernel⟩
abbrev st_least_steps : Stmt := topS 58
abbrev N_least_steps : List Str := ["wanted", "count", "known", "key", "found", "rule", "far", "some", "earlier", "steps"]
theorem sc_least_steps : FnScope N_least_steps ["wanted", "count", "known"] (defScope st_least_steps) := ⟨rfl, rfl, rfl, by decide +kernel, rfl, by decide +kernel, by decide +kernel⟩
abbrev st_shortest : Stmt := topS 59
abbrev N_shortest : List Str := ["chain", "width", "known", "wanted", "found", "count", "steps"]
theorem sc_shortest : FnScope N_shortest ["chain"] (defScope st_shortest) := ⟨rfl, rfl, rfl, by decide +kernel, rfl, by decide +kernel, by decide +kernel⟩
abbrev st__law_source : Stmt := topS 61
abbrev N__law_source : List Str := ["_law_script", "_law_k", "_law_given", "_law_digits"]
theorem sc__law_source : FnScope N__law_source ["_law_script", "_law_k"] (defScope st__law_source) := ⟨rfl, rfl, rfl, by decide +kernel, rfl, by decide +kernel, by decide +kernel⟩
abbrev st__law_draw : Stmt := topS 62
abbrev N__law_draw : List Str := ["_law_source_here", "_law_size", "_law_digit", "_law_turn", "_law_mixed"]
theorem sc__law_draw : FnScope N__law_draw ["_law_source_here", "_law_size"] (defScope st__law_draw) := ⟨rfl, rfl, rfl, by decide +kernel, rfl, by decide +kernel, by decide +kernel⟩
abbrev st__law_pick : Stmt := topS 63
abbrev N__law_pick : List Str := ["_law_source_here", "_law_some"]
theorem sc__law_pick : FnScope N__law_pick ["_law_source_here", "_law_some"] (defScope st__law_pick) := ⟨rfl, rfl, rfl, by decide +kernel, rfl, by decide +kernel, by decide +kernel⟩
abbrev st__law_divisor : Stmt := topS 64
abbrev N__law_divisor : List Str := ["_law_one", "_law_other"]
theorem sc__law_divisor : FnScope N__law_divisor ["_law_one", "_law_other"] (defScope st__law_divisor) := ⟨rfl, rfl, rfl, by decide +kernel, rfl, by decide +kernel, by decide +kernel⟩
abbrev st__law_low : Stmt := topS 65
abbrev N__law_low : List Str := ["_law_n", "_law_d", "_law_by"]
theorem sc__law_low : FnScope N__law_low ["_law_n", "_law_d"] (defScope st__law_low) := ⟨rfl, rfl, rfl, by decide +kernel, rfl, by decide +kernel, by decide +kernel⟩
abbrev st__law_scaled : Stmt := topS 66
abbrev N__law_scaled : List Str := ["_law_number_here", "_law_e", "_law_n", "_law_d"]
theorem sc__law_scaled : FnScope N__law_scaled ["_law_number_here", "_law_e"] (defScope st__law_scaled) := ⟨rfl, rfl, rfl, by decide +kernel, rfl, by decide +kernel, by decide +kernel⟩
abbrev st__law_number : Stmt := topS 67
abbrev N__law_number : List Str := ["_law_source_here", "_law_most", "_law_n", "_law_d"]
theorem sc__law_number : FnScope N__law_number ["_law_source_here", "_law_most"] (defScope st__law_number) := ⟨rfl, rfl, rfl, by decide +kernel, rfl, by decide +kernel, by decide +kernel⟩
abbrev st__law_rule : Stmt := topS 68
abbrev N__law_rule : List Str := ["_law_source_here"]
theorem sc__law_rule : FnScope N__law_rule ["_law_source_here"] (defScope st__law_rule) := ⟨rfl, rfl, rfl, by decide +kernel, rfl, by decide +kernel, by decide +kernel⟩
abbrev st__law_falling : Stmt := topS 69
abbrev N__law_falling : List Str := ["_law_source_here", "_law_wide", "_law_found", "_law_turn"]
theorem sc__law_falling : FnScope N__law_falling ["_law_source_here"] (defScope st__law_falling) := ⟨rfl, rfl, rfl, by decide +kernel, rfl, by decide +kernel, by decide +kernel⟩
abbrev st__law_longer : Stmt := topS 70
abbrev N__law_longer : List Str := ["_law_source_here", "_law_steps", "_law_turn", "_law_at", "_law_least", "_law_wide", "_law_mode"]
theorem sc__law_longer : FnScope N__law_longer ["_law_source_here", "_law_steps"] (defScope st__law_longer) := ⟨rfl, rfl, rfl, by decide +kernel, rfl, by decide +kernel, by decide +kernel⟩
abbrev st__law_right : Stmt := topS 71
abbrev N__law_right : List Str := ["_law_source_here", "_law_turn", "_law_steps", "_law_longer_here", "_law_again", "_law_one"]
theorem sc__law_right : FnScope N__law_right ["_law_source_here"] (defScope st__law_right) := ⟨rfl, rfl, rfl, by decide +kernel, rfl, by decide +kernel, by decide +kernel⟩
abbrev st_law : Stmt := topS 72
abbrev N_law : List Str := ["_law_script", "_law_k"]
theorem sc_law : FnScope N_law ["_law_script"] (defScope st_law) := ⟨rfl, rfl, rfl, by decide +kernel, rfl, by decide +kernel, by decide +kernel⟩
def tab_BY_RULE : Ru → Da
  | .dn => (.tuple [(.tuple [(.tuple [(.int 1), (.int 1)]), (.str "up")]), (.tuple [(.tuple [(.int 1), (.int 1)]), (.str "up")])])
  | .hd => (.tuple [(.tuple [(.tuple [(.int 1), (.int 2)]), (.str "down")]), (.tuple [(.tuple [(.int 1), (.int 2)]), (.str "down")])])
  | .he => (.tuple [(.tuple [(.tuple [(.int 1), (.int 2)]), (.str "down")]), (.tuple [(.tuple [(.int 1), (.int 2)]), (.str "up")])])
  | .hu => (.tuple [(.tuple [(.tuple [(.int 1), (.int 2)]), (.str "up")]), (.tuple [(.tuple [(.int 1), (.int 2)]), (.str "up")])])
  | .od => (.tuple [(.tuple [(.tuple [(.int 0), (.int 1)]), (.str "down")]), (.tuple [(.tuple [(.int 1), (.int 1)]), (.str "up")])])
  | .up => (.tuple [(.tuple [(.tuple [(.int 0), (.int 1)]), (.str "down")]), (.tuple [(.tuple [(.int 0), (.int 1)]), (.str "down")])])
structure Tx (w : World) (K : Fg) (mg : Str → Option Value) where
  f_is_int : Addr
  fd_is_int : FuncData
  F_is_int : Fun K "is_int" "is_int" st_is_int f_is_int fd_is_int
  b_is_int : Binds K fd_is_int ["value", "least"] []
  g_is_int : mg "is_int" = some (.ref f_is_int)
  f_common_divisor : Addr
  fd_common_divisor : FuncData
  F_common_divisor : Fun K "common_divisor" "common_divisor" st_common_divisor f_common_divisor fd_common_divisor
  b_common_divisor : Binds K fd_common_divisor ["one", "other"] []
  g_common_divisor : mg "common_divisor" = some (.ref f_common_divisor)
  f_lowest : Addr
  fd_lowest : FuncData
  F_lowest : Fun K "lowest" "lowest" st_lowest f_lowest fd_lowest
  b_lowest : Binds K fd_lowest ["n", "d"] []
  g_lowest : mg "lowest" = some (.ref f_lowest)
  f_is_number : Addr
  fd_is_number : FuncData
  F_is_number : Fun K "is_number" "is_number" st_is_number f_is_number fd_is_number
  b_is_number : Binds K fd_is_number ["value"] []
  g_is_number : mg "is_number" = some (.ref f_is_number)
  f_is_width : Addr
  fd_is_width : FuncData
  F_is_width : Fun K "is_width" "is_width" st_is_width f_is_width fd_is_width
  b_is_width : Binds K fd_is_width ["value"] []
  g_is_width : mg "is_width" = some (.ref f_is_width)
  f_check_number : Addr
  fd_check_number : FuncData
  F_check_number : Fun K "check_number" "check_number" st_check_number f_check_number fd_check_number
  b_check_number : Binds K fd_check_number ["value"] []
  g_check_number : mg "check_number" = some (.ref f_check_number)
  f_scaled : Addr
  fd_scaled : FuncData
  F_scaled : Fun K "scaled" "scaled" st_scaled f_scaled fd_scaled
  b_scaled : Binds K fd_scaled ["number", "e"] []
  g_scaled : mg "scaled" = some (.ref f_scaled)
  f_power_number : Addr
  fd_power_number : FuncData
  F_power_number : Fun K "power_number" "power_number" st_power_number f_power_number fd_power_number
  b_power_number : Binds K fd_power_number ["k", "e"] []
  g_power_number : mg "power_number" = some (.ref f_power_number)
  f_cell_of : Addr
  fd_cell_of : FuncData
  F_cell_of : Fun K "cell_of" "cell_of" st_cell_of f_cell_of fd_cell_of
  b_cell_of : Binds K fd_cell_of ["number", "width"] []
  g_cell_of : mg "cell_of" = some (.ref f_cell_of)
  f_position_of : Addr
  fd_position_of : FuncData
  F_position_of : Fun K "position_of" "position_of" st_position_of f_position_of fd_position_of
  b_position_of : Binds K fd_position_of ["number", "width"] []
  g_position_of : mg "position_of" = some (.ref f_position_of)
  f_is_rule : Addr
  fd_is_rule : FuncData
  F_is_rule : Fun K "is_rule" "is_rule" st_is_rule f_is_rule fd_is_rule
  b_is_rule : Binds K fd_is_rule ["value"] []
  g_is_rule : mg "is_rule" = some (.ref f_is_rule)
  f_ends_of : Addr
  fd_ends_of : FuncData
  F_ends_of : Fun K "ends_of" "ends_of" st_ends_of f_ends_of fd_ends_of
  b_ends_of : Binds K fd_ends_of ["number", "width"] []
  g_ends_of : mg "ends_of" = some (.ref f_ends_of)
  f_goes_up : Addr
  fd_goes_up : FuncData
  F_goes_up : Fun K "goes_up" "goes_up" st_goes_up f_goes_up fd_goes_up
  b_goes_up : Binds K fd_goes_up ["k", "place", "rule"] []
  g_goes_up : mg "goes_up" = some (.ref f_goes_up)
  f_round_once : Addr
  fd_round_once : FuncData
  F_round_once : Fun K "round_once" "round_once" st_round_once f_round_once fd_round_once
  b_round_once : Binds K fd_round_once ["number", "width", "rule"] []
  g_round_once : mg "round_once" = some (.ref f_round_once)
  f_is_step : Addr
  fd_is_step : FuncData
  F_is_step : Fun K "is_step" "is_step" st_is_step f_is_step fd_is_step
  b_is_step : Binds K fd_is_step ["value"] []
  g_is_step : mg "is_step" = some (.ref f_is_step)
  f_is_chain : Addr
  fd_is_chain : FuncData
  F_is_chain : Fun K "is_chain" "is_chain" st_is_chain f_is_chain fd_is_chain
  b_is_chain : Binds K fd_is_chain ["value"] []
  g_is_chain : mg "is_chain" = some (.ref f_is_chain)
  f_check_chain : Addr
  fd_check_chain : FuncData
  F_check_chain : Fun K "check_chain" "check_chain" st_check_chain f_check_chain fd_check_chain
  b_check_chain : Binds K fd_check_chain ["value"] []
  g_check_chain : mg "check_chain" = some (.ref f_check_chain)
  f_last_width : Addr
  fd_last_width : FuncData
  F_last_width : Fun K "last_width" "last_width" st_last_width f_last_width fd_last_width
  b_last_width : Binds K fd_last_width ["chain"] []
  g_last_width : mg "last_width" = some (.ref f_last_width)
  f_stages : Addr
  fd_stages : FuncData
  F_stages : Fun K "stages" "stages" st_stages f_stages fd_stages
  b_stages : Binds K fd_stages ["number", "chain"] []
  g_stages : mg "stages" = some (.ref f_stages)
  f_applied : Addr
  fd_applied : FuncData
  F_applied : Fun K "applied" "applied" st_applied f_applied fd_applied
  b_applied : Binds K fd_applied ["number", "chain"] []
  g_applied : mg "applied" = some (.ref f_applied)
  f_trimmed : Addr
  fd_trimmed : FuncData
  F_trimmed : Fun K "trimmed" "trimmed" st_trimmed f_trimmed fd_trimmed
  b_trimmed : Binds K fd_trimmed ["chain"] []
  g_trimmed : mg "trimmed" = some (.ref f_trimmed)
  f_last_down : Addr
  fd_last_down : FuncData
  F_last_down : Fun K "last_down" "last_down" st_last_down f_last_down fd_last_down
  b_last_down : Binds K fd_last_down ["rule", "far", "parity"] []
  g_last_down : mg "last_down" = some (.ref f_last_down)
  f_combined : Addr
  fd_combined : FuncData
  F_combined : Fun K "combined" "combined" st_combined f_combined fd_combined
  b_combined : Binds K fd_combined ["pair", "rule", "far"] []
  g_combined : mg "combined" = some (.ref f_combined)
  f_thresholds : Addr
  fd_thresholds : FuncData
  F_thresholds : Fun K "thresholds" "thresholds" st_thresholds f_thresholds fd_thresholds
  b_thresholds : Binds K fd_thresholds ["chain"] []
  g_thresholds : mg "thresholds" = some (.ref f_thresholds)
  f_check_chains : Addr
  fd_check_chains : FuncData
  F_check_chains : Fun K "check_chains" "check_chains" st_check_chains f_check_chains fd_check_chains
  b_check_chains : Binds K fd_check_chains ["one", "other"] []
  g_check_chains : mg "check_chains" = some (.ref f_check_chains)
  f_same : Addr
  fd_same : FuncData
  F_same : Fun K "same" "same" st_same f_same fd_same
  b_same : Binds K fd_same ["one", "other"] []
  g_same : mg "same" = some (.ref f_same)
  f_before_step : Addr
  fd_before_step : FuncData
  F_before_step : Fun K "before_step" "before_step" st_before_step f_before_step fd_before_step
  b_before_step : Binds K fd_before_step ["threshold", "rule", "far", "parity"] []
  g_before_step : mg "before_step" = some (.ref f_before_step)
  f_all_before : Addr
  fd_all_before : FuncData
  F_all_before : Fun K "all_before" "all_before" st_all_before f_all_before fd_all_before
  b_all_before : Binds K fd_all_before ["wanted", "rule", "far"] []
  g_all_before : mg "all_before" = some (.ref f_all_before)
  f_merged : Addr
  fd_merged : FuncData
  F_merged : Fun K "merged" "merged" st_merged f_merged fd_merged
  b_merged : Binds K fd_merged ["some"] []
  g_merged : mg "merged" = some (.ref f_merged)
  f_matches : Addr
  fd_matches : FuncData
  F_matches : Fun K "matches" "matches" st_matches f_matches fd_matches
  b_matches : Binds K fd_matches ["wanted", "rule"] []
  g_matches : mg "matches" = some (.ref f_matches)
  f_most_far : Addr
  fd_most_far : FuncData
  F_most_far : Fun K "most_far" "most_far" st_most_far f_most_far fd_most_far
  b_most_far : Binds K fd_most_far ["wanted"] []
  g_most_far : mg "most_far" = some (.ref f_most_far)
  f_widened : Addr
  fd_widened : FuncData
  F_widened : Fun K "widened" "widened" st_widened f_widened fd_widened
  b_widened : Binds K fd_widened ["steps", "by"] []
  g_widened : mg "widened" = some (.ref f_widened)
  f_least_steps : Addr
  fd_least_steps : FuncData
  F_least_steps : Fun K "least_steps" "least_steps" st_least_steps f_least_steps fd_least_steps
  b_least_steps : Binds K fd_least_steps ["wanted", "count", "known"] []
  g_least_steps : mg "least_steps" = some (.ref f_least_steps)
  f_shortest : Addr
  fd_shortest : FuncData
  F_shortest : Fun K "shortest" "shortest" st_shortest f_shortest fd_shortest
  b_shortest : Binds K fd_shortest ["chain"] []
  g_shortest : mg "shortest" = some (.ref f_shortest)
  f__law_source : Addr
  fd__law_source : FuncData
  F__law_source : Fun K "_law_source" "_law_source" st__law_source f__law_source fd__law_source
  b__law_source : Binds K fd__law_source ["_law_script", "_law_k"] []
  g__law_source : mg "_law_source" = some (.ref f__law_source)
  f__law_draw : Addr
  fd__law_draw : FuncData
  F__law_draw : Fun K "_law_draw" "_law_draw" st__law_draw f__law_draw fd__law_draw
  b__law_draw : Binds K fd__law_draw ["_law_source_here", "_law_size"] []
  g__law_draw : mg "_law_draw" = some (.ref f__law_draw)
  f__law_pick : Addr
  fd__law_pick : FuncData
  F__law_pick : Fun K "_law_pick" "_law_pick" st__law_pick f__law_pick fd__law_pick
  b__law_pick : Binds K fd__law_pick ["_law_source_here", "_law_some"] []
  g__law_pick : mg "_law_pick" = some (.ref f__law_pick)
  f__law_divisor : Addr
  fd__law_divisor : FuncData
  F__law_divisor : Fun K "_law_divisor" "_law_divisor" st__law_divisor f__law_divisor fd__law_divisor
  b__law_divisor : Binds K fd__law_divisor ["_law_one", "_law_other"] []
  g__law_divisor : mg "_law_divisor" = some (.ref f__law_divisor)
  f__law_low : Addr
  fd__law_low : FuncData
  F__law_low : Fun K "_law_low" "_law_low" st__law_low f__law_low fd__law_low
  b__law_low : Binds K fd__law_low ["_law_n", "_law_d"] []
  g__law_low : mg "_law_low" = some (.ref f__law_low)
  f__law_scaled : Addr
  fd__law_scaled : FuncData
  F__law_scaled : Fun K "_law_scaled" "_law_scaled" st__law_scaled f__law_scaled fd__law_scaled
  b__law_scaled : Binds K fd__law_scaled ["_law_number_here", "_law_e"] []
  g__law_scaled : mg "_law_scaled" = some (.ref f__law_scaled)
  f__law_number : Addr
  fd__law_number : FuncData
  F__law_number : Fun K "_law_number" "_law_number" st__law_number f__law_number fd__law_number
  b__law_number : Binds K fd__law_number ["_law_source_here", "_law_most"] []
  g__law_number : mg "_law_number" = some (.ref f__law_number)
  f__law_rule : Addr
  fd__law_rule : FuncData
  F__law_rule : Fun K "_law_rule" "_law_rule" st__law_rule f__law_rule fd__law_rule
  b__law_rule : Binds K fd__law_rule ["_law_source_here"] []
  g__law_rule : mg "_law_rule" = some (.ref f__law_rule)
  f__law_falling : Addr
  fd__law_falling : FuncData
  F__law_falling : Fun K "_law_falling" "_law_falling" st__law_falling f__law_falling fd__law_falling
  b__law_falling : Binds K fd__law_falling ["_law_source_here"] []
  g__law_falling : mg "_law_falling" = some (.ref f__law_falling)
  f__law_longer : Addr
  fd__law_longer : FuncData
  F__law_longer : Fun K "_law_longer" "_law_longer" st__law_longer f__law_longer fd__law_longer
  b__law_longer : Binds K fd__law_longer ["_law_source_here", "_law_steps"] []
  g__law_longer : mg "_law_longer" = some (.ref f__law_longer)
  f__law_right : Addr
  fd__law_right : FuncData
  F__law_right : Fun K "_law_right" "_law_right" st__law_right f__law_right fd__law_right
  b__law_right : Binds K fd__law_right ["_law_source_here"] []
  g__law_right : mg "_law_right" = some (.ref f__law_right)
  f_law : Addr
  fd_law : FuncData
  F_law : Fun K "law" "law" st_law f_law fd_law
  b_law : Binds K fd_law ["_law_script"] []
  g_law : mg "law" = some (.ref f_law)
  n_abs : mg "abs" = none
  n_all : mg "all" = none
  n_bool : mg "bool" = none
  n_enumerate : mg "enumerate" = none
  n_int : mg "int" = none
  n_isinstance : mg "isinstance" = none
  n_len : mg "len" = none
  n_max : mg "max" = none
  n_min : mg "min" = none
  n_range : mg "range" = none
  n_str : mg "str" = none
  n_tuple : mg "tuple" = none
  n_zip : mg "zip" = none
  ra_BY_RULE : Addr
  c_BY_RULE : mg "BY_RULE" = some (.ref ra_BY_RULE)
  k_BY_RULE : ∀ ru : Ru, ∃ v, KDct K w ra_BY_RULE ru.s v ∧ ∀ F, Rp K F v (tab_BY_RULE ru)
  u_DOWN : Value
  w_DOWN : V
  c_DOWN : mg "DOWN" = some u_DOWN
  v_DOWN : RelV w_DOWN u_DOWN
  r_DOWN : ∀ F, Rp K F w_DOWN (.str "down")
  u_HALF_EVEN : Value
  w_HALF_EVEN : V
  c_HALF_EVEN : mg "HALF_EVEN" = some u_HALF_EVEN
  v_HALF_EVEN : RelV w_HALF_EVEN u_HALF_EVEN
  r_HALF_EVEN : ∀ F, Rp K F w_HALF_EVEN (.str "half_even")
  u_HALF_UP : Value
  w_HALF_UP : V
  c_HALF_UP : mg "HALF_UP" = some u_HALF_UP
  v_HALF_UP : RelV w_HALF_UP u_HALF_UP
  r_HALF_UP : ∀ F, Rp K F w_HALF_UP (.str "half_up")
  u_MOST_STEPS : Value
  w_MOST_STEPS : V
  c_MOST_STEPS : mg "MOST_STEPS" = some u_MOST_STEPS
  v_MOST_STEPS : RelV w_MOST_STEPS u_MOST_STEPS
  r_MOST_STEPS : ∀ F, Rp K F w_MOST_STEPS (.int 12)
  u_MOST_WIDTH : Value
  w_MOST_WIDTH : V
  c_MOST_WIDTH : mg "MOST_WIDTH" = some u_MOST_WIDTH
  v_MOST_WIDTH : RelV w_MOST_WIDTH u_MOST_WIDTH
  r_MOST_WIDTH : ∀ F, Rp K F w_MOST_WIDTH (.int 100)
  u_ODD : Value
  w_ODD : V
  c_ODD : mg "ODD" = some u_ODD
  v_ODD : RelV w_ODD u_ODD
  r_ODD : ∀ F, Rp K F w_ODD (.str "odd")
  u_PAIR_cells : Value
  w_PAIR_cells : V
  c_PAIR_cells : mg "PAIR_cells" = some u_PAIR_cells
  v_PAIR_cells : RelV w_PAIR_cells u_PAIR_cells
  r_PAIR_cells : ∀ F, Rp K F w_PAIR_cells (.int 2)
  u_PAIR_chains : Value
  w_PAIR_chains : V
  c_PAIR_chains : mg "PAIR_chains" = some u_PAIR_chains
  v_PAIR_chains : RelV w_PAIR_chains u_PAIR_chains
  r_PAIR_chains : ∀ F, Rp K F w_PAIR_chains (.int 2)
  u_RULES : Value
  w_RULES : V
  c_RULES : mg "RULES" = some u_RULES
  v_RULES : RelV w_RULES u_RULES
  r_RULES : ∀ F, Rp K F w_RULES (.tuple [(.str "down"), (.str "half_down"), (.str "half_even"), (.str "half_up"), (.str "odd"), (.str "up")])
  u_UP : Value
  w_UP : V
  c_UP : mg "UP" = some u_UP
  v_UP : RelV w_UP u_UP
  r_UP : ∀ F, Rp K F w_UP (.str "up")
def b_is_int : DS :=
  (dRet (dAndV (dIsi "int" (dVar 0)) (dAndV (dNotV (dIsi "bool" (dVar 0))) (dBin oGe (dVar 0) (dVar 1)))))
/-- value is an int, no bool, at least m -/
def isInt (d : Da) (m : Int) : Bool := match d with
  | .int i => decide (m ≤ i)
  | _ => false
def fs_is_int : FSp := fun rs fu post => ∃ d m, rs = [.val d, .val (.int m)] ∧ post (.val (.bool (isInt d m))) fu
theorem p_is_int (rs : List Rv) (fu : Option Nat) (post : Rr → Option Nat → Prop) (hl : rs.length = 2) (h : fs_is_int rs fu post) : b_is_int ⟨fun g => post (.val .none) g.fu, fun r g => post r g.fu, fun _ => False, fun _ => False⟩ (ent N_is_int rs fu) := by
  obtain ⟨d, m, rfl, h⟩ := h
  cases d <;> (simp only [↓dMHit,↓dMPutRet,↓dCallM,↓dPar3D,↓dMaxK,↓cMinDa,↓entM,↓dSeq,↓dAsg,↓dSetL,↓dNext,↓dIfS,↓dRet,↓dRetL,↓dDrop,↓dNever,↓dBrk,↓dAug,↓dPar,↓dParL,↓dApp,↓dVar,↓dC,↓dBin,↓fI,↓fI0,↓fAdd,↓fEq,↓fNe,↓fIn,↓dTest,↓dAndT,↓dOrT,↓dNotT,↓dAndV,↓dOrV,↓dNotV,↓dIf,↓dNeg,↓dIsN,↓dChain,↓dNil,↓dCons,↓dTup,↓dLst,↓dFz,↓valsD,↓dIx,↓dCall,↓dCallL,↓hasSrc,↓rrv,↓dN,↓dT,↓dTn,↓dTc,↓rsv,↓Gs.set,↓dFor,↓dItems,↓dRange1,↓dRange2,↓dZip,↓dLc,↓dCB,↓cLen,↓cAll,↓cTuple,↓cInt1,↓cInt2,↓dIsi,↓dBits,↓dCallS,↓oSub,↓oAddI,↓oMul,↓oDiv,↓oMod,↓oShl,↓oPow,↓oLt,↓oLe,↓oGt,↓oGe,↓oAbs,↓oMax,↓oMin,↓cMinL,↓fInD,↓dSl,↓oNo,↓oSo,↓dBy,↓fAddT,↓dSlT,↓dParR,↓dEnum,↓dRevL,↓gAs,↓Gs.unset,↓rtN,↓lamF,↓gLam,↓plainO,↓dGIx,↓dIxO,↓Z.isNon,b_is_int,ent,svOf,List.map_cons,List.map_nil,List.cons_append,List.nil_append,List.append_nil,List.replicate,List.length_cons,List.length_nil,List.getElem?_cons_zero,List.getElem?_cons_succ,List.getElem?_nil,List.set_cons_zero,List.set_cons_succ,Option.map_some,Option.map_none,Option.isNone_some,Option.isNone_none,forall_const,true_implies,false_implies,and_true,true_and,Bool.true_eq_false,Bool.false_eq_true,reduceCtorEq,noOwn,wipeS,hide,fuN_self,lcD,dYes,Nat.zero_add,Nat.reduceAdd,Nat.reduceLeDiff,Nat.reduceSub,atI_0,atI_1,atI_2,atI_3,atI_4,atI_5,Int.one_mul,eqv_ii,eqv_ss,eqv_num,shaped_int,shaped_num,shaped_none,shaped_ru,flat_str,flat_int,flat_none,List.all_cons,List.all_nil,Bool.and_true,decide_eq_true_eq,decide_eq_false_iff_not,Bool.not_eq_true',Bool.not_eq_false',Decidable.not_not,↓reduceIte,Bool.false_eq_true,Int.reduceLT,eqv_strs,pick_0,pick_01,pick_10,pick_012,pick_021,pick_102,pick_120,pick_201,pick_210]; simp_all [isInt, isTy])
theorem isInt_some {d : Da} {m : Int} (h : isInt d m = true) : ∃ i, d = .int i ∧ m ≤ i := by
  cases d with
  | int i => exact ⟨i, rfl, of_decide_eq_true h⟩
  | _ => cases h
section
variable {P : Program} {w : World} {K : Fg} {mg : Str → Option Value} {base : Heap}
theorem d_is_int (T : Tx w K mg) {cdv : Value} {A : Around} {outer : List Env} {s : Shared} {H : Hp} {E : XK} (hr : Room 0 (A.deeper (envOfC "is_int" (defScope st_is_int) s.heap.objs.size T.f_is_int cdv))) (hgd : (A.deeper (envOfC "is_int" (defScope st_is_int) s.heap.objs.size T.f_is_int cdv)).guards = some []) :
    PSs (cxOf CX0 P w K mg base N_is_int "is_int" (defScope st_is_int) T.f_is_int cdv A outer s H E).nox (defBody st_is_int) (upS K W0 b_is_int) :=
  (ss_one (s_ret (e_and (e_isi kit_int (by rfl) T.n_isinstance (e_var 0 (pv 0)) (c_ty (by rfl) T.n_int (by decide +kernel))) (e_and (e_not (e_isi kit_bool (by rfl) T.n_isinstance (e_var 0 (pv 0)) (c_ty (by rfl) T.n_bool (by decide +kernel)))) (e_one (e_ge (e_var 0 (pv 0)) (e_var 1 (pv 1))))))))
theorem ok_is_int (T : Tx w K mg) : Fn P w K mg base CX0 1 T.f_is_int T.fd_is_int ["value", "least"] (lift K 2 fs_is_int) := fn_data T.F_is_int sc_is_int b_is_int (fun _ _ _ _ _ _ hr hgd => d_is_int T hr hgd) p_is_int
end
def b_common_divisor : DS :=
  (dSeq (dWhile (dTest (dBin fNe (dVar 1) (dC (.int 0))))
    (dPar 0 1 (dVar 1) (dBin oMod (dVar 0) (dVar 1))))
  (dRet (dVar 0)))
def fs_common_divisor : FSp := fun rs fu post => ∃ a b : Int, rs = [.val (.int a), .val (.int b)] ∧ 0 ≤ a ∧ 0 ≤ b ∧ post (.val (.int (Int.gcd a b))) fu
theorem p_common_divisor (rs : List Rv) (fu : Option Nat) (post : Rr → Option Nat → Prop) (hl : rs.length = 2) (h : fs_common_divisor rs fu post) : b_common_divisor ⟨fun g => post (.val .none) g.fu, fun r g => post r g.fu, fun _ => False, fun _ => False⟩ (ent N_common_divisor rs fu) := by
  obtain ⟨a, b, rfl, ha, hb, h⟩ := h
  simp only [↓dMHit,↓dMPutRet,↓dCallM,↓dPar3D,↓dMaxK,↓cMinDa,↓entM,↓dSeq,↓dAsg,↓dSetL,↓dNext,↓dIfS,↓dRet,↓dRetL,↓dDrop,↓dNever,↓dBrk,↓dAug,↓dPar,↓dParL,↓dApp,↓dVar,↓dC,↓dBin,↓fI,↓fI0,↓fAdd,↓fEq,↓fNe,↓fIn,↓dTest,↓dAndT,↓dOrT,↓dNotT,↓dAndV,↓dOrV,↓dNotV,↓dIf,↓dNeg,↓dIsN,↓dChain,↓dNil,↓dCons,↓dTup,↓dLst,↓dFz,↓valsD,↓dIx,↓dCall,↓dCallL,↓hasSrc,↓rrv,↓dN,↓dT,↓dTn,↓dTc,↓rsv,↓Gs.set,↓dFor,↓dItems,↓dRange1,↓dRange2,↓dZip,↓dLc,↓dCB,↓cLen,↓cAll,↓cTuple,↓cInt1,↓cInt2,↓dIsi,↓dBits,↓dCallS,↓oSub,↓oAddI,↓oMul,↓oDiv,↓oMod,↓oShl,↓oPow,↓oLt,↓oLe,↓oGt,↓oGe,↓oAbs,↓oMax,↓oMin,↓cMinL,↓fInD,↓dSl,↓oNo,↓oSo,↓dBy,↓fAddT,↓dSlT,↓dParR,↓dEnum,↓dRevL,↓gAs,↓Gs.unset,↓rtN,↓lamF,↓gLam,↓plainO,↓dGIx,↓dIxO,↓Z.isNon,b_common_divisor,ent,svOf,List.map_cons,List.map_nil,List.cons_append,List.nil_append,List.append_nil,List.replicate,List.length_cons,List.length_nil,List.getElem?_cons_zero,List.getElem?_cons_succ,List.getElem?_nil,List.set_cons_zero,List.set_cons_succ,Option.map_some,Option.map_none,Option.isNone_some,Option.isNone_none,forall_const,true_implies,false_implies,and_true,true_and,Bool.true_eq_false,Bool.false_eq_true,reduceCtorEq,noOwn,wipeS,hide,fuN_self,lcD,dYes,Nat.zero_add,Nat.reduceAdd,Nat.reduceLeDiff,Nat.reduceSub,atI_0,atI_1,atI_2,atI_3,atI_4,atI_5,Int.one_mul,eqv_ii,eqv_ss,eqv_num,shaped_int,shaped_num,shaped_none,shaped_ru,flat_str,flat_int,flat_none,List.all_cons,List.all_nil,Bool.and_true,decide_eq_true_eq,decide_eq_false_iff_not,Bool.not_eq_true',Bool.not_eq_false',Decidable.not_not,↓reduceIte,Bool.false_eq_true,Int.reduceLT,eqv_strs,pick_0,pick_01,pick_10,pick_012,pick_021,pick_102,pick_120,pick_201,pick_210]
  refine ⟨fun m g => ∃ x y : Int, g = ⟨[some (.val (.int x)), some (.val (.int y))], fu, fu.isNone⟩ ∧ 0 ≤ x ∧ 0 ≤ y ∧ y.toNat = m ∧ Int.gcd x y = Int.gcd a b, ⟨b.toNat, a, b, rfl, ha, hb, rfl, rfl⟩, fun m g hg => ?_⟩
  obtain ⟨x, y, rfl, hx, hy, rfl, e⟩ := hg
  simp only [↓dMHit,↓dMPutRet,↓dCallM,↓dPar3D,↓dMaxK,↓cMinDa,↓entM,↓dSeq,↓dAsg,↓dSetL,↓dNext,↓dIfS,↓dRet,↓dRetL,↓dDrop,↓dNever,↓dBrk,↓dAug,↓dPar,↓dParL,↓dApp,↓dVar,↓dC,↓dBin,↓fI,↓fI0,↓fAdd,↓fEq,↓fNe,↓fIn,↓dTest,↓dAndT,↓dOrT,↓dNotT,↓dAndV,↓dOrV,↓dNotV,↓dIf,↓dNeg,↓dIsN,↓dChain,↓dNil,↓dCons,↓dTup,↓dLst,↓dFz,↓valsD,↓dIx,↓dCall,↓dCallL,↓hasSrc,↓rrv,↓dN,↓dT,↓dTn,↓dTc,↓rsv,↓Gs.set,↓dFor,↓dItems,↓dRange1,↓dRange2,↓dZip,↓dLc,↓dCB,↓cLen,↓cAll,↓cTuple,↓cInt1,↓cInt2,↓dIsi,↓dBits,↓dCallS,↓oSub,↓oAddI,↓oMul,↓oDiv,↓oMod,↓oShl,↓oPow,↓oLt,↓oLe,↓oGt,↓oGe,↓oAbs,↓oMax,↓oMin,↓cMinL,↓fInD,↓dSl,↓oNo,↓oSo,↓dBy,↓fAddT,↓dSlT,↓dParR,↓dEnum,↓dRevL,↓gAs,↓Gs.unset,↓rtN,↓lamF,↓gLam,↓plainO,↓dGIx,↓dIxO,↓Z.isNon,ent,svOf,List.map_cons,List.map_nil,List.cons_append,List.nil_append,List.append_nil,List.replicate,List.length_cons,List.length_nil,List.getElem?_cons_zero,List.getElem?_cons_succ,List.getElem?_nil,List.set_cons_zero,List.set_cons_succ,Option.map_some,Option.map_none,Option.isNone_some,Option.isNone_none,forall_const,true_implies,false_implies,and_true,true_and,Bool.true_eq_false,Bool.false_eq_true,reduceCtorEq,noOwn,wipeS,hide,fuN_self,lcD,dYes,Nat.zero_add,Nat.reduceAdd,Nat.reduceLeDiff,Nat.reduceSub,atI_0,atI_1,atI_2,atI_3,atI_4,atI_5,Int.one_mul,eqv_ii,eqv_ss,eqv_num,shaped_int,shaped_num,shaped_none,shaped_ru,flat_str,flat_int,flat_none,List.all_cons,List.all_nil,Bool.and_true,decide_eq_true_eq,decide_eq_false_iff_not,Bool.not_eq_true',Bool.not_eq_false',Decidable.not_not,↓reduceIte,Bool.false_eq_true,Int.reduceLT,eqv_strs,pick_0,pick_01,pick_10,pick_012,pick_021,pick_102,pick_120,pick_201,pick_210]
  refine ⟨fun hne => ?_, fun heq => ?_⟩
  · have hy0 : 0 < y := by omega
    refine ⟨hy0, (x % y).toNat, ?_, y, x % y, rfl, hy, Int.emod_nonneg _ (by omega), rfl, by rw [gcd_step hx hy0, e]⟩
    have := Int.emod_lt_of_pos x hy0
    have := Int.emod_nonneg x (show y ≠ 0 by omega)
    omega
  · subst heq
    rw [Int.gcd_zero_right] at e
    have : x = ((Int.gcd a b : Nat) : Int) := by omega
    rw [this]
    exact h
section
variable {P : Program} {w : World} {K : Fg} {mg : Str → Option Value} {base : Heap}
theorem d_common_divisor (T : Tx w K mg) {cdv : Value} {A : Around} {outer : List Env} {s : Shared} {H : Hp} {E : XK} (hr : Room 0 (A.deeper (envOfC "common_divisor" (defScope st_common_divisor) s.heap.objs.size T.f_common_divisor cdv))) (hgd : (A.deeper (envOfC "common_divisor" (defScope st_common_divisor) s.heap.objs.size T.f_common_divisor cdv)).guards = some []) :
    PSs (cxOf CX0 P w K mg base N_common_divisor "common_divisor" (defScope st_common_divisor) T.f_common_divisor cdv A outer s H E).nox (defBody st_common_divisor) (upS K W0 b_common_divisor) :=
  (ss_cons (s_while PassesOwn.never (t_ne hr.units (e_var 1 (pv 1)) e_int) (ss_one (s_par (i := 0) (j := 1) rfl sc_common_divisor.nd rfl rfl (by decide) rfl rfl (e_var 1 (pv 1)) (e_mod (e_var 0 (pv 0)) (e_var 1 (pv 1))))))
    (ss_one (s_ret (e_var 0 (pv 0)))))
theorem ok_common_divisor (T : Tx w K mg) : Fn P w K mg base CX0 1 T.f_common_divisor T.fd_common_divisor ["one", "other"] (lift K 2 fs_common_divisor) := fn_data T.F_common_divisor sc_common_divisor b_common_divisor (fun _ _ _ _ _ _ hr hgd => d_common_divisor T hr hgd) p_common_divisor
end
def b_lowest : DS :=
  (dSeq (dAsg (dCall 2 fs_common_divisor (dCons (dVar 0) (dCons (dVar 1) dNil))) (dN 2))
  (dRet (dTup (dCons (dBin oDiv (dVar 0) (dVar 2)) (dCons (dBin oDiv (dVar 1) (dVar 2)) dNil)))))
def fs_lowest : FSp := fun rs fu post => ∃ n d : Int, rs = [.val (.int n), .val (.int d)] ∧ 0 ≤ n ∧ 0 < d ∧ Bn 9000 d ∧ post (.val (lowD n d)) fu
theorem p_lowest (rs : List Rv) (fu : Option Nat) (post : Rr → Option Nat → Prop) (hl : rs.length = 2) (h : fs_lowest rs fu post) : b_lowest ⟨fun g => post (.val .none) g.fu, fun r g => post r g.fu, fun _ => False, fun _ => False⟩ (ent N_lowest rs fu) := by
  obtain ⟨n, d, rfl, hn, hd, hs, h⟩ := h
  simp only [↓dMHit,↓dMPutRet,↓dCallM,↓dPar3D,↓dMaxK,↓cMinDa,↓entM,↓dSeq,↓dAsg,↓dSetL,↓dNext,↓dIfS,↓dRet,↓dRetL,↓dDrop,↓dNever,↓dBrk,↓dAug,↓dPar,↓dParL,↓dApp,↓dVar,↓dC,↓dBin,↓fI,↓fI0,↓fAdd,↓fEq,↓fNe,↓fIn,↓dTest,↓dAndT,↓dOrT,↓dNotT,↓dAndV,↓dOrV,↓dNotV,↓dIf,↓dNeg,↓dIsN,↓dChain,↓dNil,↓dCons,↓dTup,↓dLst,↓dFz,↓valsD,↓dIx,↓dCall,↓dCallL,↓hasSrc,↓rrv,↓dN,↓dT,↓dTn,↓dTc,↓rsv,↓Gs.set,↓dFor,↓dItems,↓dRange1,↓dRange2,↓dZip,↓dLc,↓dCB,↓cLen,↓cAll,↓cTuple,↓cInt1,↓cInt2,↓dIsi,↓dBits,↓dCallS,↓oSub,↓oAddI,↓oMul,↓oDiv,↓oMod,↓oShl,↓oPow,↓oLt,↓oLe,↓oGt,↓oGe,↓oAbs,↓oMax,↓oMin,↓cMinL,↓fInD,↓dSl,↓oNo,↓oSo,↓dBy,↓fAddT,↓dSlT,↓dParR,↓dEnum,↓dRevL,↓gAs,↓Gs.unset,↓rtN,↓lamF,↓gLam,↓plainO,↓dGIx,↓dIxO,↓Z.isNon,b_lowest,fs_common_divisor,ent,svOf,List.map_cons,List.map_nil,List.cons_append,List.nil_append,List.append_nil,List.replicate,List.length_cons,List.length_nil,List.getElem?_cons_zero,List.getElem?_cons_succ,List.getElem?_nil,List.set_cons_zero,List.set_cons_succ,Option.map_some,Option.map_none,Option.isNone_some,Option.isNone_none,forall_const,true_implies,false_implies,and_true,true_and,Bool.true_eq_false,Bool.false_eq_true,reduceCtorEq,noOwn,wipeS,hide,fuN_self,lcD,dYes,Nat.zero_add,Nat.reduceAdd,Nat.reduceLeDiff,Nat.reduceSub,atI_0,atI_1,atI_2,atI_3,atI_4,atI_5,Int.one_mul,eqv_ii,eqv_ss,eqv_num,shaped_int,shaped_num,shaped_none,shaped_ru,flat_str,flat_int,flat_none,List.all_cons,List.all_nil,Bool.and_true,decide_eq_true_eq,decide_eq_false_iff_not,Bool.not_eq_true',Bool.not_eq_false',Decidable.not_not,↓reduceIte,Bool.false_eq_true,Int.reduceLT,eqv_strs,pick_0,pick_01,pick_10,pick_012,pick_021,pick_102,pick_120,pick_201,pick_210]
  refine ⟨n, d, rfl, hn, by omega, gcd_divW hd hs, gcd_divW hd hs, h⟩
section
variable {P : Program} {w : World} {K : Fg} {mg : Str → Option Value} {base : Heap}
theorem d_lowest (T : Tx w K mg) {cdv : Value} {A : Around} {outer : List Env} {s : Shared} {H : Hp} {E : XK} (hr : Room 1 (A.deeper (envOfC "lowest" (defScope st_lowest) s.heap.objs.size T.f_lowest cdv))) (hgd : (A.deeper (envOfC "lowest" (defScope st_lowest) s.heap.objs.size T.f_lowest cdv)).guards = some []) :
    PSs (cxOf CX0 P w K mg base N_lowest "lowest" (defScope st_lowest) T.f_lowest cdv A outer s H E).nox (defBody st_lowest) (upS K W0 b_lowest) :=
  (ss_cons (s_set (i := 2) sc_lowest.nd rfl (.inl rfl) (e_call (ok_common_divisor T) (hr.mono (by decide)) hgd (by rfl) T.g_common_divisor T.F_common_divisor.kp T.b_common_divisor pass0 (a_cons (e_var 0 (pv 0)) (a_cons (e_var 1 (pv 1)) a_nil))))
    (ss_one (s_ret (e_tup (a_cons (e_div (e_var 0 (pv 0)) (e_var 2 (pv 2))) (a_cons (e_div (e_var 1 (pv 1)) (e_var 2 (pv 2))) a_nil))))))
theorem ok_lowest (T : Tx w K mg) : Fn P w K mg base CX0 2 T.f_lowest T.fd_lowest ["n", "d"] (lift K 2 fs_lowest) := fn_data T.F_lowest sc_lowest b_lowest (fun _ _ _ _ _ _ hr hgd => d_lowest T hr hgd) p_lowest
end
def b_is_number : DS :=
  (dSeq (dIfS (dOrT (dNotT (dTest (dIsi "tuple" (dVar 0)))) (dOrT (dTest (dBin fNe (dCB cLen (dCons (dVar 0) dNil)) (dC (.int 2)))) (dNotT (dTest (dCB cAll (dCons (dFz (dLc [1] (dItems (dVar 0)) (dN 1) dYes (dCall 2 fs_is_int (dCons (dVar 1) (dCons (dC (.int 1)) dNil))))) dNil))))))
    (dRet (dC (.bool false)))
    dNext)
  (dRet (dBin fEq (dCall 2 fs_common_divisor (dCons (dIx (dVar 0) (dC (.int 0))) (dCons (dIx (dVar 0) (dC (.int 1))) dNil))) (dC (.int 1)))))
/-- a number: two ints from 1 on without a common divisor -/
def isNum : Da → Bool
  | .tuple [x, y] => isInt x 1 && isInt y 1 && (match x, y with | .int n, .int d => decide (Int.gcd n d = 1) | _, _ => false)
  | _ => false
theorem isNum_ne {xs : List Da} (h : xs.length ≠ 2) : isNum (.tuple xs) = false := by
  match xs with
  | [] => rfl
  | [_] => rfl
  | [_, _] => exact absurd rfl h
  | _ :: _ :: _ :: _ => rfl
theorem isNum_num {n d : Int} (hn : 1 ≤ n) (hd : 1 ≤ d) (h : Int.gcd n d = 1) : isNum (num n d) = true := by
  simp [isNum, isInt, hn, hd, h]
def fs_is_number : FSp := fun rs fu post => ∃ v, rs = [.val v] ∧ post (.val (.bool (isNum v))) fu
theorem p_is_number (rs : List Rv) (fu : Option Nat) (post : Rr → Option Nat → Prop) (hl : rs.length = 1) (h : fs_is_number rs fu post) : b_is_number ⟨fun g => post (.val .none) g.fu, fun r g => post r g.fu, fun _ => False, fun _ => False⟩ (ent N_is_number rs fu) := by
  obtain ⟨v, rfl, h⟩ := h
  cases v with
  | tuple xs =>
    simp only [↓dMHit,↓dMPutRet,↓dCallM,↓dPar3D,↓dMaxK,↓cMinDa,↓entM,↓dSeq,↓dAsg,↓dSetL,↓dNext,↓dIfS,↓dRet,↓dRetL,↓dDrop,↓dNever,↓dBrk,↓dAug,↓dPar,↓dParL,↓dApp,↓dVar,↓dC,↓dBin,↓fI,↓fI0,↓fAdd,↓fEq,↓fNe,↓fIn,↓dTest,↓dAndT,↓dOrT,↓dNotT,↓dAndV,↓dOrV,↓dNotV,↓dIf,↓dNeg,↓dIsN,↓dChain,↓dNil,↓dCons,↓dTup,↓dLst,↓dFz,↓valsD,↓dIx,↓dCall,↓dCallL,↓hasSrc,↓rrv,↓dN,↓dT,↓dTn,↓dTc,↓rsv,↓Gs.set,↓dFor,↓dItems,↓dRange1,↓dRange2,↓dZip,↓dLc,↓dCB,↓cLen,↓cAll,↓cTuple,↓cInt1,↓cInt2,↓dIsi,↓dBits,↓dCallS,↓oSub,↓oAddI,↓oMul,↓oDiv,↓oMod,↓oShl,↓oPow,↓oLt,↓oLe,↓oGt,↓oGe,↓oAbs,↓oMax,↓oMin,↓cMinL,↓fInD,↓dSl,↓oNo,↓oSo,↓dBy,↓fAddT,↓dSlT,↓dParR,↓dEnum,↓dRevL,↓gAs,↓Gs.unset,↓rtN,↓lamF,↓gLam,↓plainO,↓dGIx,↓dIxO,↓Z.isNon,b_is_number,ent,svOf,List.map_cons,List.map_nil,List.cons_append,List.nil_append,List.append_nil,List.replicate,List.length_cons,List.length_nil,List.getElem?_cons_zero,List.getElem?_cons_succ,List.getElem?_nil,List.set_cons_zero,List.set_cons_succ,Option.map_some,Option.map_none,Option.isNone_some,Option.isNone_none,forall_const,true_implies,false_implies,and_true,true_and,Bool.true_eq_false,Bool.false_eq_true,reduceCtorEq,noOwn,wipeS,hide,fuN_self,lcD,dYes,Nat.zero_add,Nat.reduceAdd,Nat.reduceLeDiff,Nat.reduceSub,atI_0,atI_1,atI_2,atI_3,atI_4,atI_5,Int.one_mul,eqv_ii,eqv_ss,eqv_num,shaped_int,shaped_num,shaped_none,shaped_ru,flat_str,flat_int,flat_none,List.all_cons,List.all_nil,Bool.and_true,decide_eq_true_eq,decide_eq_false_iff_not,Bool.not_eq_true',Bool.not_eq_false',Decidable.not_not,↓reduceIte,Bool.false_eq_true,Int.reduceLT,eqv_strs,pick_0,pick_01,pick_10,pick_012,pick_021,pick_102,pick_120,pick_201,pick_210]
    refine ⟨fun z => (by simp [isTy] at z), fun _ => ⟨fun z => ?_, fun z => ?_⟩⟩
    · have e : xs.length ≠ 2 := by omega
      rw [isNum_ne e] at h
      exact h
    · have e : xs.length = 2 := by omega
      match xs, e with
      | [x, y], _ =>
        simp only [↓dMHit,↓dMPutRet,↓dCallM,↓dPar3D,↓dMaxK,↓cMinDa,↓entM,↓dSeq,↓dAsg,↓dSetL,↓dNext,↓dIfS,↓dRet,↓dRetL,↓dDrop,↓dNever,↓dBrk,↓dAug,↓dPar,↓dParL,↓dApp,↓dVar,↓dC,↓dBin,↓fI,↓fI0,↓fAdd,↓fEq,↓fNe,↓fIn,↓dTest,↓dAndT,↓dOrT,↓dNotT,↓dAndV,↓dOrV,↓dNotV,↓dIf,↓dNeg,↓dIsN,↓dChain,↓dNil,↓dCons,↓dTup,↓dLst,↓dFz,↓valsD,↓dIx,↓dCall,↓dCallL,↓hasSrc,↓rrv,↓dN,↓dT,↓dTn,↓dTc,↓rsv,↓Gs.set,↓dFor,↓dItems,↓dRange1,↓dRange2,↓dZip,↓dLc,↓dCB,↓cLen,↓cAll,↓cTuple,↓cInt1,↓cInt2,↓dIsi,↓dBits,↓dCallS,↓oSub,↓oAddI,↓oMul,↓oDiv,↓oMod,↓oShl,↓oPow,↓oLt,↓oLe,↓oGt,↓oGe,↓oAbs,↓oMax,↓oMin,↓cMinL,↓fInD,↓dSl,↓oNo,↓oSo,↓dBy,↓fAddT,↓dSlT,↓dParR,↓dEnum,↓dRevL,↓gAs,↓Gs.unset,↓rtN,↓lamF,↓gLam,↓plainO,↓dGIx,↓dIxO,↓Z.isNon,fs_is_int,ent,svOf,List.map_cons,List.map_nil,List.cons_append,List.nil_append,List.append_nil,List.replicate,List.length_cons,List.length_nil,List.getElem?_cons_zero,List.getElem?_cons_succ,List.getElem?_nil,List.set_cons_zero,List.set_cons_succ,Option.map_some,Option.map_none,Option.isNone_some,Option.isNone_none,forall_const,true_implies,false_implies,and_true,true_and,Bool.true_eq_false,Bool.false_eq_true,reduceCtorEq,noOwn,wipeS,hide,fuN_self,lcD,dYes,Nat.zero_add,Nat.reduceAdd,Nat.reduceLeDiff,Nat.reduceSub,atI_0,atI_1,atI_2,atI_3,atI_4,atI_5,Int.one_mul,eqv_ii,eqv_ss,eqv_num,shaped_int,shaped_num,shaped_none,shaped_ru,flat_str,flat_int,flat_none,List.all_cons,List.all_nil,Bool.and_true,decide_eq_true_eq,decide_eq_false_iff_not,Bool.not_eq_true',Bool.not_eq_false',Decidable.not_not,↓reduceIte,Bool.false_eq_true,Int.reduceLT,eqv_strs,pick_0,pick_01,pick_10,pick_012,pick_021,pick_102,pick_120,pick_201,pick_210]
        refine ⟨x, 1, rfl, by decide, y, 1, rfl, by decide, ?_⟩
        simp only [boolsD, Option.map_some]
        simp only [isNum] at h
        refine ⟨fun hf => ?_, fun ht => ?_⟩
        · have : (isInt x 1 && isInt y 1) = false := by
            revert hf
            cases isInt x 1 <;> cases isInt y 1 <;> simp
          rw [this, Bool.false_and] at h
          exact h
        · have h12 : isInt x 1 = true ∧ isInt y 1 = true := by simpa using ht
          obtain ⟨n, rfl, hn⟩ := isInt_some h12.1
          obtain ⟨d, rfl, hd⟩ := isInt_some h12.2
          refine ⟨n, d, rfl, by omega, by omega, rfl, rfl, ?_⟩
          have e : ((PyData.int ((Int.gcd n d : Nat) : Int)).eqv (PyData.int 1)) = decide (Int.gcd n d = 1) := by
            simp only [PyData.eqv]
            rw [Bool.eq_iff_iff]
            simp
            omega
          rw [e]
          rw [h12.1, h12.2] at h
          simpa using h
  | _ => simp only [↓dMHit,↓dMPutRet,↓dCallM,↓dPar3D,↓dMaxK,↓cMinDa,↓entM,↓dSeq,↓dAsg,↓dSetL,↓dNext,↓dIfS,↓dRet,↓dRetL,↓dDrop,↓dNever,↓dBrk,↓dAug,↓dPar,↓dParL,↓dApp,↓dVar,↓dC,↓dBin,↓fI,↓fI0,↓fAdd,↓fEq,↓fNe,↓fIn,↓dTest,↓dAndT,↓dOrT,↓dNotT,↓dAndV,↓dOrV,↓dNotV,↓dIf,↓dNeg,↓dIsN,↓dChain,↓dNil,↓dCons,↓dTup,↓dLst,↓dFz,↓valsD,↓dIx,↓dCall,↓dCallL,↓hasSrc,↓rrv,↓dN,↓dT,↓dTn,↓dTc,↓rsv,↓Gs.set,↓dFor,↓dItems,↓dRange1,↓dRange2,↓dZip,↓dLc,↓dCB,↓cLen,↓cAll,↓cTuple,↓cInt1,↓cInt2,↓dIsi,↓dBits,↓dCallS,↓oSub,↓oAddI,↓oMul,↓oDiv,↓oMod,↓oShl,↓oPow,↓oLt,↓oLe,↓oGt,↓oGe,↓oAbs,↓oMax,↓oMin,↓cMinL,↓fInD,↓dSl,↓oNo,↓oSo,↓dBy,↓fAddT,↓dSlT,↓dParR,↓dEnum,↓dRevL,↓gAs,↓Gs.unset,↓rtN,↓lamF,↓gLam,↓plainO,↓dGIx,↓dIxO,↓Z.isNon,b_is_number,ent,svOf,List.map_cons,List.map_nil,List.cons_append,List.nil_append,List.append_nil,List.replicate,List.length_cons,List.length_nil,List.getElem?_cons_zero,List.getElem?_cons_succ,List.getElem?_nil,List.set_cons_zero,List.set_cons_succ,Option.map_some,Option.map_none,Option.isNone_some,Option.isNone_none,forall_const,true_implies,false_implies,and_true,true_and,Bool.true_eq_false,Bool.false_eq_true,reduceCtorEq,noOwn,wipeS,hide,fuN_self,lcD,dYes,Nat.zero_add,Nat.reduceAdd,Nat.reduceLeDiff,Nat.reduceSub,atI_0,atI_1,atI_2,atI_3,atI_4,atI_5,Int.one_mul,eqv_ii,eqv_ss,eqv_num,shaped_int,shaped_num,shaped_none,shaped_ru,flat_str,flat_int,flat_none,List.all_cons,List.all_nil,Bool.and_true,decide_eq_true_eq,decide_eq_false_iff_not,Bool.not_eq_true',Bool.not_eq_false',Decidable.not_not,↓reduceIte,Bool.false_eq_true,Int.reduceLT,eqv_strs,pick_0,pick_01,pick_10,pick_012,pick_021,pick_102,pick_120,pick_201,pick_210]; simpa [isTy, isNum] using h
section
variable {P : Program} {w : World} {K : Fg} {mg : Str → Option Value} {base : Heap}
theorem d_is_number (T : Tx w K mg) {cdv : Value} {A : Around} {outer : List Env} {s : Shared} {H : Hp} {E : XK} (hr : Room 1 (A.deeper (envOfC "is_number" (defScope st_is_number) s.heap.objs.size T.f_is_number cdv))) (hgd : (A.deeper (envOfC "is_number" (defScope st_is_number) s.heap.objs.size T.f_is_number cdv)).guards = some []) :
    PSs (cxOf CX0 P w K mg base N_is_number "is_number" (defScope st_is_number) T.f_is_number cdv A outer s H E).nox (defBody st_is_number) (upS K W0 b_is_number) :=
  (ss_cons (s_if (PW.pt (w_or (t_not (t_val (e_isi kit_tuple (by rfl) T.n_isinstance (e_var 0 (pv 0)) (c_ty (by rfl) T.n_tuple (by decide +kernel))))) (w_or (t_ne hr.units (e_len (by rfl) T.n_len (a_cons (e_var 0 (pv 0)) a_nil)) (e_glob (by rfl) T.c_PAIR_cells T.v_PAIR_cells T.r_PAIR_cells)) (w_or1 (t_not (t_val (e_all rfl (by rfl) T.n_all (a_cons (e_fz (e_lc (own := [("part", 1)]) rfl sc_is_number.nd (i_items (e_var 0 (pv 0))) (blkOk_by (own := [("part", 1)]) (N := N_is_number) (sc := defScope st_is_number) (by decide +kernel)) (fun _ _ _ _ _ => (gw_name rfl (pg_name (i := 1) sc_is_number.nd rfl (.inl rfl)) (by decide))) (fun _ _ _ _ _ => ts_yes) (fun _ _ _ _ _ => (e_call (ok_is_int T) (hr.mono (by decide)) hgd (by rfl) T.g_is_int T.F_is_int.kp T.b_is_int pass0 (a_cons (e_var 1 (pv 1)) (a_cons e_int a_nil)))))) a_nil)))))))) (ss_one (s_ret e_bl)) ss_nil)
    (ss_one (s_ret (e_eq hr.units (e_call (ok_common_divisor T) (hr.mono (by decide)) hgd (by rfl) T.g_common_divisor T.F_common_divisor.kp T.b_common_divisor pass0 (a_cons (e_ix (e_var 0 (pv 0)) e_int) (a_cons (e_ix (e_var 0 (pv 0)) e_int) a_nil))) e_int))))
theorem ok_is_number (T : Tx w K mg) : Fn P w K mg base CX0 2 T.f_is_number T.fd_is_number ["value"] (lift K 1 fs_is_number) := fn_data T.F_is_number sc_is_number b_is_number (fun _ _ _ _ _ _ hr hgd => d_is_number T hr hgd) p_is_number
end
def b_is_width : DS :=
  (dRet (dAndV (dCall 2 fs_is_int (dCons (dVar 0) (dCons (dC (.int 1)) dNil))) (dBin oLe (dVar 0) (dC (.int 100)))))
def isWid (v : Da) : Bool := isInt v 1 && (match v with | .int i => decide (i ≤ 100) | _ => false)
theorem isWid_int {w : Int} (h1 : 1 ≤ w) (h2 : w ≤ 100) : isWid (.int w) = true := by simp [isWid, isInt, h1, h2]
def fs_is_width : FSp := fun rs fu post => ∃ v, rs = [.val v] ∧ post (.val (.bool (isWid v))) fu
theorem p_is_width (rs : List Rv) (fu : Option Nat) (post : Rr → Option Nat → Prop) (hl : rs.length = 1) (h : fs_is_width rs fu post) : b_is_width ⟨fun g => post (.val .none) g.fu, fun r g => post r g.fu, fun _ => False, fun _ => False⟩ (ent N_is_width rs fu) := by
  obtain ⟨v, rfl, h⟩ := h
  simp only [↓dMHit,↓dMPutRet,↓dCallM,↓dPar3D,↓dMaxK,↓cMinDa,↓entM,↓dSeq,↓dAsg,↓dSetL,↓dNext,↓dIfS,↓dRet,↓dRetL,↓dDrop,↓dNever,↓dBrk,↓dAug,↓dPar,↓dParL,↓dApp,↓dVar,↓dC,↓dBin,↓fI,↓fI0,↓fAdd,↓fEq,↓fNe,↓fIn,↓dTest,↓dAndT,↓dOrT,↓dNotT,↓dAndV,↓dOrV,↓dNotV,↓dIf,↓dNeg,↓dIsN,↓dChain,↓dNil,↓dCons,↓dTup,↓dLst,↓dFz,↓valsD,↓dIx,↓dCall,↓dCallL,↓hasSrc,↓rrv,↓dN,↓dT,↓dTn,↓dTc,↓rsv,↓Gs.set,↓dFor,↓dItems,↓dRange1,↓dRange2,↓dZip,↓dLc,↓dCB,↓cLen,↓cAll,↓cTuple,↓cInt1,↓cInt2,↓dIsi,↓dBits,↓dCallS,↓oSub,↓oAddI,↓oMul,↓oDiv,↓oMod,↓oShl,↓oPow,↓oLt,↓oLe,↓oGt,↓oGe,↓oAbs,↓oMax,↓oMin,↓cMinL,↓fInD,↓dSl,↓oNo,↓oSo,↓dBy,↓fAddT,↓dSlT,↓dParR,↓dEnum,↓dRevL,↓gAs,↓Gs.unset,↓rtN,↓lamF,↓gLam,↓plainO,↓dGIx,↓dIxO,↓Z.isNon,b_is_width,fs_is_int,ent,svOf,List.map_cons,List.map_nil,List.cons_append,List.nil_append,List.append_nil,List.replicate,List.length_cons,List.length_nil,List.getElem?_cons_zero,List.getElem?_cons_succ,List.getElem?_nil,List.set_cons_zero,List.set_cons_succ,Option.map_some,Option.map_none,Option.isNone_some,Option.isNone_none,forall_const,true_implies,false_implies,and_true,true_and,Bool.true_eq_false,Bool.false_eq_true,reduceCtorEq,noOwn,wipeS,hide,fuN_self,lcD,dYes,Nat.zero_add,Nat.reduceAdd,Nat.reduceLeDiff,Nat.reduceSub,atI_0,atI_1,atI_2,atI_3,atI_4,atI_5,Int.one_mul,eqv_ii,eqv_ss,eqv_num,shaped_int,shaped_num,shaped_none,shaped_ru,flat_str,flat_int,flat_none,List.all_cons,List.all_nil,Bool.and_true,decide_eq_true_eq,decide_eq_false_iff_not,Bool.not_eq_true',Bool.not_eq_false',Decidable.not_not,↓reduceIte,Bool.false_eq_true,Int.reduceLT,eqv_strs,pick_0,pick_01,pick_10,pick_012,pick_021,pick_102,pick_120,pick_201,pick_210]
  refine ⟨v, 1, rfl, fun ht => ?_, fun hf => ?_⟩
  · obtain ⟨n, rfl, hn⟩ := isInt_some ht
    simpa [isWid, ht] using h
  · simpa [isWid, hf] using h
section
variable {P : Program} {w : World} {K : Fg} {mg : Str → Option Value} {base : Heap}
theorem d_is_width (T : Tx w K mg) {cdv : Value} {A : Around} {outer : List Env} {s : Shared} {H : Hp} {E : XK} (hr : Room 1 (A.deeper (envOfC "is_width" (defScope st_is_width) s.heap.objs.size T.f_is_width cdv))) (hgd : (A.deeper (envOfC "is_width" (defScope st_is_width) s.heap.objs.size T.f_is_width cdv)).guards = some []) :
    PSs (cxOf CX0 P w K mg base N_is_width "is_width" (defScope st_is_width) T.f_is_width cdv A outer s H E).nox (defBody st_is_width) (upS K W0 b_is_width) :=
  (ss_one (s_ret (e_and (e_call (ok_is_int T) (hr.mono (by decide)) hgd (by rfl) T.g_is_int T.F_is_int.kp T.b_is_int pass0 (a_cons (e_var 0 (pv 0)) (a_cons e_int a_nil))) (e_one (e_le (e_var 0 (pv 0)) (e_glob (by rfl) T.c_MOST_WIDTH T.v_MOST_WIDTH T.r_MOST_WIDTH))))))
theorem ok_is_width (T : Tx w K mg) : Fn P w K mg base CX0 2 T.f_is_width T.fd_is_width ["value"] (lift K 1 fs_is_width) := fn_data T.F_is_width sc_is_width b_is_width (fun _ _ _ _ _ _ hr hgd => d_is_width T hr hgd) p_is_width
end
def b_check_number : DS :=
  (dIfS (dNotT (dTest (dCall 1 fs_is_number (dCons (dVar 0) dNil))))
    dNever
    dNext)
theorem _root_.Z.NuB.is {a : Nat} {n d : Int} (h : NuB a n d) : isNum (num n d) = true := isNum_num (by have := h.nu.n0; omega) (by have := h.nu.d0; omega) h.nu.g
def fs_check_number : FSp := fun rs fu post => ∃ v, rs = [.val v] ∧ isNum v = true ∧ post (.val .none) fu
theorem p_check_number (rs : List Rv) (fu : Option Nat) (post : Rr → Option Nat → Prop) (hl : rs.length = 1) (h : fs_check_number rs fu post) : b_check_number ⟨fun g => post (.val .none) g.fu, fun r g => post r g.fu, fun _ => False, fun _ => False⟩ (ent N_check_number rs fu) := by
  obtain ⟨v, rfl, hv, h⟩ := h
  simp only [↓dMHit,↓dMPutRet,↓dCallM,↓dPar3D,↓dMaxK,↓cMinDa,↓entM,↓dSeq,↓dAsg,↓dSetL,↓dNext,↓dIfS,↓dRet,↓dRetL,↓dDrop,↓dNever,↓dBrk,↓dAug,↓dPar,↓dParL,↓dApp,↓dVar,↓dC,↓dBin,↓fI,↓fI0,↓fAdd,↓fEq,↓fNe,↓fIn,↓dTest,↓dAndT,↓dOrT,↓dNotT,↓dAndV,↓dOrV,↓dNotV,↓dIf,↓dNeg,↓dIsN,↓dChain,↓dNil,↓dCons,↓dTup,↓dLst,↓dFz,↓valsD,↓dIx,↓dCall,↓dCallL,↓hasSrc,↓rrv,↓dN,↓dT,↓dTn,↓dTc,↓rsv,↓Gs.set,↓dFor,↓dItems,↓dRange1,↓dRange2,↓dZip,↓dLc,↓dCB,↓cLen,↓cAll,↓cTuple,↓cInt1,↓cInt2,↓dIsi,↓dBits,↓dCallS,↓oSub,↓oAddI,↓oMul,↓oDiv,↓oMod,↓oShl,↓oPow,↓oLt,↓oLe,↓oGt,↓oGe,↓oAbs,↓oMax,↓oMin,↓cMinL,↓fInD,↓dSl,↓oNo,↓oSo,↓dBy,↓fAddT,↓dSlT,↓dParR,↓dEnum,↓dRevL,↓gAs,↓Gs.unset,↓rtN,↓lamF,↓gLam,↓plainO,↓dGIx,↓dIxO,↓Z.isNon,b_check_number,fs_is_number,ent,svOf,List.map_cons,List.map_nil,List.cons_append,List.nil_append,List.append_nil,List.replicate,List.length_cons,List.length_nil,List.getElem?_cons_zero,List.getElem?_cons_succ,List.getElem?_nil,List.set_cons_zero,List.set_cons_succ,Option.map_some,Option.map_none,Option.isNone_some,Option.isNone_none,forall_const,true_implies,false_implies,and_true,true_and,Bool.true_eq_false,Bool.false_eq_true,reduceCtorEq,noOwn,wipeS,hide,fuN_self,lcD,dYes,Nat.zero_add,Nat.reduceAdd,Nat.reduceLeDiff,Nat.reduceSub,atI_0,atI_1,atI_2,atI_3,atI_4,atI_5,Int.one_mul,eqv_ii,eqv_ss,eqv_num,shaped_int,shaped_num,shaped_none,shaped_ru,flat_str,flat_int,flat_none,List.all_cons,List.all_nil,Bool.and_true,decide_eq_true_eq,decide_eq_false_iff_not,Bool.not_eq_true',Bool.not_eq_false',Decidable.not_not,↓reduceIte,Bool.false_eq_true,Int.reduceLT,eqv_strs,pick_0,pick_01,pick_10,pick_012,pick_021,pick_102,pick_120,pick_201,pick_210]
  refine ⟨v, rfl, fun z => ?_, fun _ => h⟩
  rw [hv] at z
  exact absurd z (by decide)
section
variable {P : Program} {w : World} {K : Fg} {mg : Str → Option Value} {base : Heap}
theorem d_check_number (T : Tx w K mg) {cdv : Value} {A : Around} {outer : List Env} {s : Shared} {H : Hp} {E : XK} (hr : Room 2 (A.deeper (envOfC "check_number" (defScope st_check_number) s.heap.objs.size T.f_check_number cdv))) (hgd : (A.deeper (envOfC "check_number" (defScope st_check_number) s.heap.objs.size T.f_check_number cdv)).guards = some []) :
    PSs (cxOf CX0 P w K mg base N_check_number "check_number" (defScope st_check_number) T.f_check_number cdv A outer s H E).nox (defBody st_check_number) (upS K W0 b_check_number) :=
  (ss_one (s_if (t_not (t_val (e_call (ok_is_number T) (hr.mono (by decide)) hgd (by rfl) T.g_is_number T.F_is_number.kp T.b_is_number pass0 (a_cons (e_var 0 (pv 0)) a_nil)))) (ss_one s_never) ss_nil))
theorem ok_check_number (T : Tx w K mg) : Fn P w K mg base CX0 3 T.f_check_number T.fd_check_number ["value"] (lift K 1 fs_check_number) := fn_data T.F_check_number sc_check_number b_check_number (fun _ _ _ _ _ _ hr hgd => d_check_number T hr hgd) p_check_number
end
def b_scaled : DS :=
  (dSeq (dAsg (dVar 0) (dT 2 (dTc (dN 2) (dTc (dN 3) dTn))))
  (dRet (dTup (dCons (dBin oShl (dVar 2) (dCB oMax (dCons (dVar 1) (dCons (dC (.int 0)) dNil)))) (dCons (dBin oShl (dVar 3) (dCB oMax (dCons (dBin oSub (dC (.int 0)) (dVar 1)) (dCons (dC (.int 0)) dNil)))) dNil)))))
def fs_scaled : FSp := fun rs fu post => ∃ n d e : Int, rs = [.val (num n d), .val (.int e)] ∧ Bn 100000 n ∧ Bn 100000 d ∧ -100000 ≤ e ∧ e ≤ 100000 ∧ post (.val (nm (scI n d e))) fu
theorem p_scaled (rs : List Rv) (fu : Option Nat) (post : Rr → Option Nat → Prop) (hl : rs.length = 2) (h : fs_scaled rs fu post) : b_scaled ⟨fun g => post (.val .none) g.fu, fun r g => post r g.fu, fun _ => False, fun _ => False⟩ (ent N_scaled rs fu) := by
  obtain ⟨n, d, e, rfl, hn, hd, h1, h2, h⟩ := h
  simp only [↓dMHit,↓dMPutRet,↓dCallM,↓dPar3D,↓dMaxK,↓cMinDa,↓entM,↓dSeq,↓dAsg,↓dSetL,↓dNext,↓dIfS,↓dRet,↓dRetL,↓dDrop,↓dNever,↓dBrk,↓dAug,↓dPar,↓dParL,↓dApp,↓dVar,↓dC,↓dBin,↓fI,↓fI0,↓fAdd,↓fEq,↓fNe,↓fIn,↓dTest,↓dAndT,↓dOrT,↓dNotT,↓dAndV,↓dOrV,↓dNotV,↓dIf,↓dNeg,↓dIsN,↓dChain,↓dNil,↓dCons,↓dTup,↓dLst,↓dFz,↓valsD,↓dIx,↓dCall,↓dCallL,↓hasSrc,↓rrv,↓dN,↓dT,↓dTn,↓dTc,↓rsv,↓Gs.set,↓dFor,↓dItems,↓dRange1,↓dRange2,↓dZip,↓dLc,↓dCB,↓cLen,↓cAll,↓cTuple,↓cInt1,↓cInt2,↓dIsi,↓dBits,↓dCallS,↓oSub,↓oAddI,↓oMul,↓oDiv,↓oMod,↓oShl,↓oPow,↓oLt,↓oLe,↓oGt,↓oGe,↓oAbs,↓oMax,↓oMin,↓cMinL,↓fInD,↓dSl,↓oNo,↓oSo,↓dBy,↓fAddT,↓dSlT,↓dParR,↓dEnum,↓dRevL,↓gAs,↓Gs.unset,↓rtN,↓lamF,↓gLam,↓plainO,↓dGIx,↓dIxO,↓Z.isNon,b_scaled,ent,svOf,List.map_cons,List.map_nil,List.cons_append,List.nil_append,List.append_nil,List.replicate,List.length_cons,List.length_nil,List.getElem?_cons_zero,List.getElem?_cons_succ,List.getElem?_nil,List.set_cons_zero,List.set_cons_succ,Option.map_some,Option.map_none,Option.isNone_some,Option.isNone_none,forall_const,true_implies,false_implies,and_true,true_and,Bool.true_eq_false,Bool.false_eq_true,reduceCtorEq,noOwn,wipeS,hide,fuN_self,lcD,dYes,Nat.zero_add,Nat.reduceAdd,Nat.reduceLeDiff,Nat.reduceSub,atI_0,atI_1,atI_2,atI_3,atI_4,atI_5,Int.one_mul,eqv_ii,eqv_ss,eqv_num,shaped_int,shaped_num,shaped_none,shaped_ru,flat_str,flat_int,flat_none,List.all_cons,List.all_nil,Bool.and_true,decide_eq_true_eq,decide_eq_false_iff_not,Bool.not_eq_true',Bool.not_eq_false',Decidable.not_not,↓reduceIte,Bool.false_eq_true,Int.reduceLT,eqv_strs,pick_0,pick_01,pick_10,pick_012,pick_021,pick_102,pick_120,pick_201,pick_210]
  have b1 := max0le (e := e) (b := 100000) h2 (by decide)
  have b2 := max0le (e := 0 - e) (b := 100000) (by omega) (by decide)
  refine ⟨shlX 100000 hn (max0nn _) (by omega), shlX 100000 hd (max0nn _) (by omega), ?_⟩
  rw [max0, max0n]
  exact h
section
variable {P : Program} {w : World} {K : Fg} {mg : Str → Option Value} {base : Heap}
theorem d_scaled (T : Tx w K mg) {cdv : Value} {A : Around} {outer : List Env} {s : Shared} {H : Hp} {E : XK} (hr : Room 0 (A.deeper (envOfC "scaled" (defScope st_scaled) s.heap.objs.size T.f_scaled cdv))) (hgd : (A.deeper (envOfC "scaled" (defScope st_scaled) s.heap.objs.size T.f_scaled cdv)).guards = some []) :
    PSs (cxOf CX0 P w K mg base N_scaled "scaled" (defScope st_scaled) T.f_scaled cdv A outer s H E).nox (defBody st_scaled) (upS K W0 b_scaled) :=
  (ss_cons (s_asg (e_var 0 (pv 0)) (g_tup rfl (gs_cons (g_name (pg_name (i := 2) sc_scaled.nd rfl (.inl rfl))) (gs_cons (g_name (pg_name (i := 3) sc_scaled.nd rfl (.inl rfl))) gs_nil))))
    (ss_one (s_ret (e_tup (a_cons (e_shl (e_var 2 (pv 2)) (e_max rfl (by rfl) T.n_max (a_cons (e_var 1 (pv 1)) (a_cons e_int a_nil)))) (a_cons (e_shl (e_var 3 (pv 3)) (e_max rfl (by rfl) T.n_max (a_cons (e_sub e_int (e_var 1 (pv 1))) (a_cons e_int a_nil)))) a_nil))))))
theorem ok_scaled (T : Tx w K mg) : Fn P w K mg base CX0 1 T.f_scaled T.fd_scaled ["number", "e"] (lift K 2 fs_scaled) := fn_data T.F_scaled sc_scaled b_scaled (fun _ _ _ _ _ _ hr hgd => d_scaled T hr hgd) p_scaled
end
def b_power_number : DS :=
  (dSeq (dAsg (dCall 2 fs_scaled (dCons (dTup (dCons (dVar 0) (dCons (dC (.int 1)) dNil))) (dCons (dVar 1) dNil))) (dT 2 (dTc (dN 2) (dTc (dN 3) dTn))))
  (dRet (dCall 2 fs_lowest (dCons (dVar 2) (dCons (dVar 3) dNil)))))
def fs_power_number : FSp := fun rs fu post => ∃ k e : Int, rs = [.val (.int k), .val (.int e)] ∧ 0 ≤ k ∧ Bn 5000 k ∧ -8000 ≤ e ∧ e ≤ 8000 ∧ post (.val (nm (powI k e))) fu
theorem p_power_number (rs : List Rv) (fu : Option Nat) (post : Rr → Option Nat → Prop) (hl : rs.length = 2) (h : fs_power_number rs fu post) : b_power_number ⟨fun g => post (.val .none) g.fu, fun r g => post r g.fu, fun _ => False, fun _ => False⟩ (ent N_power_number rs fu) := by
  obtain ⟨k, e, rfl, h0, hk, h1, h2, h⟩ := h
  simp only [↓dMHit,↓dMPutRet,↓dCallM,↓dPar3D,↓dMaxK,↓cMinDa,↓entM,↓dSeq,↓dAsg,↓dSetL,↓dNext,↓dIfS,↓dRet,↓dRetL,↓dDrop,↓dNever,↓dBrk,↓dAug,↓dPar,↓dParL,↓dApp,↓dVar,↓dC,↓dBin,↓fI,↓fI0,↓fAdd,↓fEq,↓fNe,↓fIn,↓dTest,↓dAndT,↓dOrT,↓dNotT,↓dAndV,↓dOrV,↓dNotV,↓dIf,↓dNeg,↓dIsN,↓dChain,↓dNil,↓dCons,↓dTup,↓dLst,↓dFz,↓valsD,↓dIx,↓dCall,↓dCallL,↓hasSrc,↓rrv,↓dN,↓dT,↓dTn,↓dTc,↓rsv,↓Gs.set,↓dFor,↓dItems,↓dRange1,↓dRange2,↓dZip,↓dLc,↓dCB,↓cLen,↓cAll,↓cTuple,↓cInt1,↓cInt2,↓dIsi,↓dBits,↓dCallS,↓oSub,↓oAddI,↓oMul,↓oDiv,↓oMod,↓oShl,↓oPow,↓oLt,↓oLe,↓oGt,↓oGe,↓oAbs,↓oMax,↓oMin,↓cMinL,↓fInD,↓dSl,↓oNo,↓oSo,↓dBy,↓fAddT,↓dSlT,↓dParR,↓dEnum,↓dRevL,↓gAs,↓Gs.unset,↓rtN,↓lamF,↓gLam,↓plainO,↓dGIx,↓dIxO,↓Z.isNon,b_power_number,fs_scaled,fs_lowest,ent,svOf,List.map_cons,List.map_nil,List.cons_append,List.nil_append,List.append_nil,List.replicate,List.length_cons,List.length_nil,List.getElem?_cons_zero,List.getElem?_cons_succ,List.getElem?_nil,List.set_cons_zero,List.set_cons_succ,Option.map_some,Option.map_none,Option.isNone_some,Option.isNone_none,forall_const,true_implies,false_implies,and_true,true_and,Bool.true_eq_false,Bool.false_eq_true,reduceCtorEq,noOwn,wipeS,hide,fuN_self,lcD,dYes,Nat.zero_add,Nat.reduceAdd,Nat.reduceLeDiff,Nat.reduceSub,atI_0,atI_1,atI_2,atI_3,atI_4,atI_5,Int.one_mul,eqv_ii,eqv_ss,eqv_num,shaped_int,shaped_num,shaped_none,shaped_ru,flat_str,flat_int,flat_none,List.all_cons,List.all_nil,Bool.and_true,decide_eq_true_eq,decide_eq_false_iff_not,Bool.not_eq_true',Bool.not_eq_false',Decidable.not_not,↓reduceIte,Bool.false_eq_true,Int.reduceLT,eqv_strs,pick_0,pick_01,pick_10,pick_012,pick_021,pick_102,pick_120,pick_201,pick_210]
  refine ⟨k, 1, e, rfl, hk.mono (by decide), Bn.small (by decide) (by decide) (by decide), by omega, by omega, ?_⟩
  refine ⟨_, _, rfl, Int.mul_nonneg h0 (Int.le_of_lt (pow2_pos _)), ?_, ?_, h⟩
  · rw [scI, Int.one_mul]; exact pow2_pos _
  · rw [scI, Int.one_mul]
    exact Bn.pow2 (by omega)
section
variable {P : Program} {w : World} {K : Fg} {mg : Str → Option Value} {base : Heap}
theorem d_power_number (T : Tx w K mg) {cdv : Value} {A : Around} {outer : List Env} {s : Shared} {H : Hp} {E : XK} (hr : Room 2 (A.deeper (envOfC "power_number" (defScope st_power_number) s.heap.objs.size T.f_power_number cdv))) (hgd : (A.deeper (envOfC "power_number" (defScope st_power_number) s.heap.objs.size T.f_power_number cdv)).guards = some []) :
    PSs (cxOf CX0 P w K mg base N_power_number "power_number" (defScope st_power_number) T.f_power_number cdv A outer s H E).nox (defBody st_power_number) (upS K W0 b_power_number) :=
  (ss_cons (s_asg (e_call (ok_scaled T) (hr.mono (by decide)) hgd (by rfl) T.g_scaled T.F_scaled.kp T.b_scaled pass0 (a_cons (e_tup (a_cons (e_var 0 (pv 0)) (a_cons e_int a_nil))) (a_cons (e_var 1 (pv 1)) a_nil))) (g_tup rfl (gs_cons (g_name (pg_name (i := 2) sc_power_number.nd rfl (.inl rfl))) (gs_cons (g_name (pg_name (i := 3) sc_power_number.nd rfl (.inl rfl))) gs_nil))))
    (ss_one (s_ret (e_call (ok_lowest T) (hr.mono (by decide)) hgd (by rfl) T.g_lowest T.F_lowest.kp T.b_lowest pass0 (a_cons (e_var 2 (pv 2)) (a_cons (e_var 3 (pv 3)) a_nil))))))
theorem ok_power_number (T : Tx w K mg) : Fn P w K mg base CX0 3 T.f_power_number T.fd_power_number ["k", "e"] (lift K 2 fs_power_number) := fn_data T.F_power_number sc_power_number b_power_number (fun _ _ _ _ _ _ hr hgd => d_power_number T hr hgd) p_power_number
end
def b_cell_of : DS :=
  (dSeq (dAsg (dBin oSub (dBin oSub (dBits (dIx (dVar 0) (dC (.int 0)))) (dBits (dIx (dVar 0) (dC (.int 1))))) (dVar 1)) (dN 2))
  (dSeq (dAsg (dCall 2 fs_scaled (dCons (dVar 0) (dCons (dBin oSub (dC (.int 0)) (dVar 2)) dNil))) (dT 2 (dTc (dN 3) (dTc (dN 4) dTn))))
  (dSeq (dIfS (dTest (dBin oGe (dBin oDiv (dVar 3) (dVar 4)) (dBin oShl (dC (.int 1)) (dVar 1))))
    (dSeq (dAug 2 oAddI (dC (.int 1)))
  (dAsg (dCall 2 fs_scaled (dCons (dVar 0) (dCons (dBin oSub (dC (.int 0)) (dVar 2)) dNil))) (dT 2 (dTc (dN 3) (dTc (dN 4) dTn)))))
    dNext)
  (dRet (dTup (dCons (dBin oDiv (dVar 3) (dVar 4)) (dCons (dVar 2) dNil)))))))
def fs_cell_of : FSp := fun rs fu post => ∃ n d w : Int, rs = [.val (num n d), .val (.int w)] ∧ 0 < n ∧ Bn 4000 n ∧ 0 < d ∧ Bn 4000 d ∧ 1 ≤ w ∧ w ≤ 100 ∧ post (.val (nm (cellI n d w))) fu
theorem p_cell_of (rs : List Rv) (fu : Option Nat) (post : Rr → Option Nat → Prop) (hl : rs.length = 2) (h : fs_cell_of rs fu post) : b_cell_of ⟨fun g => post (.val .none) g.fu, fun r g => post r g.fu, fun _ => False, fun _ => False⟩ (ent N_cell_of rs fu) := by
  obtain ⟨n, d, w, rfl, hn, bn, hd, bd, h1, h2, h⟩ := h
  have e1 := bl_le bn
  have e2 := bl_le bd
  have e3 := bl_nn n
  have e4 := bl_nn d
  simp only [↓dMHit,↓dMPutRet,↓dCallM,↓dPar3D,↓dMaxK,↓cMinDa,↓entM,↓dSeq,↓dAsg,↓dSetL,↓dNext,↓dIfS,↓dRet,↓dRetL,↓dDrop,↓dNever,↓dBrk,↓dAug,↓dPar,↓dParL,↓dApp,↓dVar,↓dC,↓dBin,↓fI,↓fI0,↓fAdd,↓fEq,↓fNe,↓fIn,↓dTest,↓dAndT,↓dOrT,↓dNotT,↓dAndV,↓dOrV,↓dNotV,↓dIf,↓dNeg,↓dIsN,↓dChain,↓dNil,↓dCons,↓dTup,↓dLst,↓dFz,↓valsD,↓dIx,↓dCall,↓dCallL,↓hasSrc,↓rrv,↓dN,↓dT,↓dTn,↓dTc,↓rsv,↓Gs.set,↓dFor,↓dItems,↓dRange1,↓dRange2,↓dZip,↓dLc,↓dCB,↓cLen,↓cAll,↓cTuple,↓cInt1,↓cInt2,↓dIsi,↓dBits,↓dCallS,↓oSub,↓oAddI,↓oMul,↓oDiv,↓oMod,↓oShl,↓oPow,↓oLt,↓oLe,↓oGt,↓oGe,↓oAbs,↓oMax,↓oMin,↓cMinL,↓fInD,↓dSl,↓oNo,↓oSo,↓dBy,↓fAddT,↓dSlT,↓dParR,↓dEnum,↓dRevL,↓gAs,↓Gs.unset,↓rtN,↓lamF,↓gLam,↓plainO,↓dGIx,↓dIxO,↓Z.isNon,b_cell_of,fs_scaled,ent,svOf,List.map_cons,List.map_nil,List.cons_append,List.nil_append,List.append_nil,List.replicate,List.length_cons,List.length_nil,List.getElem?_cons_zero,List.getElem?_cons_succ,List.getElem?_nil,List.set_cons_zero,List.set_cons_succ,Option.map_some,Option.map_none,Option.isNone_some,Option.isNone_none,forall_const,true_implies,false_implies,and_true,true_and,Bool.true_eq_false,Bool.false_eq_true,reduceCtorEq,noOwn,wipeS,hide,fuN_self,lcD,dYes,Nat.zero_add,Nat.reduceAdd,Nat.reduceLeDiff,Nat.reduceSub,atI_0,atI_1,atI_2,atI_3,atI_4,atI_5,Int.one_mul,eqv_ii,eqv_ss,eqv_num,shaped_int,shaped_num,shaped_none,shaped_ru,flat_str,flat_int,flat_none,List.all_cons,List.all_nil,Bool.and_true,decide_eq_true_eq,decide_eq_false_iff_not,Bool.not_eq_true',Bool.not_eq_false',Decidable.not_not,↓reduceIte,Bool.false_eq_true,Int.reduceLT,eqv_strs,pick_0,pick_01,pick_10,pick_012,pick_021,pick_102,pick_120,pick_201,pick_210]
  change ∃ n_1 d_1 e, [Rv.val (num n d), Rv.val (PyData.int (0 - (bl n - bl d - w)))] = _ ∧ _
  refine ⟨n, d, _, rfl, bn.mono (by decide), bd.mono (by decide), by omega, by omega, scI_div hd bd (by omega) (by decide), shlX 64 (Bn.small (by decide) (by decide) (by decide)) (by omega) (by omega), fun ht => ?_, fun hf => ?_⟩
  · change ∃ n_1 d_1 e, [Rv.val (num n d), Rv.val (PyData.int (0 - (bl n - bl d - w + 1)))] = _ ∧ _
    refine ⟨n, d, _, rfl, bn.mono (by decide), bd.mono (by decide), by omega, by omega, scI_div hd bd (by omega) (by decide), ?_⟩
    have e : cellI n d w = ((scI n d (0 - (bl n - bl d - w + 1))).1 / (scI n d (0 - (bl n - bl d - w + 1))).2, bl n - bl d - w + 1) := if_pos ht
    rw [e] at h
    exact h
  · refine ⟨scI_div hd bd (by omega) (by decide), ?_⟩
    have e : cellI n d w = ((scI n d (0 - (bl n - bl d - w))).1 / (scI n d (0 - (bl n - bl d - w))).2, bl n - bl d - w) := if_neg hf
    rw [e] at h
    exact h
section
variable {P : Program} {w : World} {K : Fg} {mg : Str → Option Value} {base : Heap}
theorem d_cell_of (T : Tx w K mg) {cdv : Value} {A : Around} {outer : List Env} {s : Shared} {H : Hp} {E : XK} (hr : Room 1 (A.deeper (envOfC "cell_of" (defScope st_cell_of) s.heap.objs.size T.f_cell_of cdv))) (hgd : (A.deeper (envOfC "cell_of" (defScope st_cell_of) s.heap.objs.size T.f_cell_of cdv)).guards = some []) :
    PSs (cxOf CX0 P w K mg base N_cell_of "cell_of" (defScope st_cell_of) T.f_cell_of cdv A outer s H E).nox (defBody st_cell_of) (upS K W0 b_cell_of) :=
  (ss_cons (s_set (i := 2) sc_cell_of.nd rfl (.inl rfl) (e_sub (e_sub (e_bits (e_ix (e_var 0 (pv 0)) e_int)) (e_bits (e_ix (e_var 0 (pv 0)) e_int))) (e_var 1 (pv 1))))
    (ss_cons (s_asg (e_call (ok_scaled T) (hr.mono (by decide)) hgd (by rfl) T.g_scaled T.F_scaled.kp T.b_scaled pass0 (a_cons (e_var 0 (pv 0)) (a_cons (e_sub e_int (e_var 2 (pv 2))) a_nil))) (g_tup rfl (gs_cons (g_name (pg_name (i := 3) sc_cell_of.nd rfl (.inl rfl))) (gs_cons (g_name (pg_name (i := 4) sc_cell_of.nd rfl (.inl rfl))) gs_nil))))
    (ss_cons (s_if (t_ge (e_div (e_var 3 (pv 3)) (e_var 4 (pv 4))) (e_shl e_int (e_var 1 (pv 1)))) (ss_cons (s_aug (i := 2) sc_cell_of.nd rfl (.inl rfl) e_int iop_add ok_I0)
    (ss_one (s_asg (e_call (ok_scaled T) (hr.mono (by decide)) hgd (by rfl) T.g_scaled T.F_scaled.kp T.b_scaled pass0 (a_cons (e_var 0 (pv 0)) (a_cons (e_sub e_int (e_var 2 (pv 2))) a_nil))) (g_tup rfl (gs_cons (g_name (pg_name (i := 3) sc_cell_of.nd rfl (.inl rfl))) (gs_cons (g_name (pg_name (i := 4) sc_cell_of.nd rfl (.inl rfl))) gs_nil)))))) ss_nil)
    (ss_one (s_ret (e_tup (a_cons (e_div (e_var 3 (pv 3)) (e_var 4 (pv 4))) (a_cons (e_var 2 (pv 2)) a_nil))))))))
theorem ok_cell_of (T : Tx w K mg) : Fn P w K mg base CX0 2 T.f_cell_of T.fd_cell_of ["number", "width"] (lift K 2 fs_cell_of) := fn_data T.F_cell_of sc_cell_of b_cell_of (fun _ _ _ _ _ _ hr hgd => d_cell_of T hr hgd) p_cell_of
end
def b_position_of : DS :=
  (dSeq (dAsg (dCall 2 fs_cell_of (dCons (dVar 0) (dCons (dVar 1) dNil))) (dT 2 (dTc (dN 2) (dTc (dN 3) dTn))))
  (dSeq (dAsg (dCall 2 fs_scaled (dCons (dVar 0) (dCons (dBin oSub (dC (.int 0)) (dVar 3)) dNil))) (dT 2 (dTc (dN 4) (dTc (dN 5) dTn))))
  (dRet (dCall 2 fs_lowest (dCons (dBin oSub (dVar 4) (dBin oMul (dVar 2) (dVar 5))) (dCons (dVar 5) dNil))))))
def fs_position_of : FSp := fun rs fu post => ∃ n d w : Int, rs = [.val (num n d), .val (.int w)] ∧ 0 < n ∧ Bn 4000 n ∧ 0 < d ∧ Bn 4000 d ∧ 1 ≤ w ∧ w ≤ 100 ∧ post (.val (nm (posI n d w))) fu
theorem p_position_of (rs : List Rv) (fu : Option Nat) (post : Rr → Option Nat → Prop) (hl : rs.length = 2) (h : fs_position_of rs fu post) : b_position_of ⟨fun g => post (.val .none) g.fu, fun r g => post r g.fu, fun _ => False, fun _ => False⟩ (ent N_position_of rs fu) := by
  obtain ⟨n, d, w, rfl, hn, bn, hd, bd, h1, h2, h⟩ := h
  simp only [↓dMHit,↓dMPutRet,↓dCallM,↓dPar3D,↓dMaxK,↓cMinDa,↓entM,↓dSeq,↓dAsg,↓dSetL,↓dNext,↓dIfS,↓dRet,↓dRetL,↓dDrop,↓dNever,↓dBrk,↓dAug,↓dPar,↓dParL,↓dApp,↓dVar,↓dC,↓dBin,↓fI,↓fI0,↓fAdd,↓fEq,↓fNe,↓fIn,↓dTest,↓dAndT,↓dOrT,↓dNotT,↓dAndV,↓dOrV,↓dNotV,↓dIf,↓dNeg,↓dIsN,↓dChain,↓dNil,↓dCons,↓dTup,↓dLst,↓dFz,↓valsD,↓dIx,↓dCall,↓dCallL,↓hasSrc,↓rrv,↓dN,↓dT,↓dTn,↓dTc,↓rsv,↓Gs.set,↓dFor,↓dItems,↓dRange1,↓dRange2,↓dZip,↓dLc,↓dCB,↓cLen,↓cAll,↓cTuple,↓cInt1,↓cInt2,↓dIsi,↓dBits,↓dCallS,↓oSub,↓oAddI,↓oMul,↓oDiv,↓oMod,↓oShl,↓oPow,↓oLt,↓oLe,↓oGt,↓oGe,↓oAbs,↓oMax,↓oMin,↓cMinL,↓fInD,↓dSl,↓oNo,↓oSo,↓dBy,↓fAddT,↓dSlT,↓dParR,↓dEnum,↓dRevL,↓gAs,↓Gs.unset,↓rtN,↓lamF,↓gLam,↓plainO,↓dGIx,↓dIxO,↓Z.isNon,b_position_of,fs_cell_of,fs_scaled,fs_lowest,ent,svOf,List.map_cons,List.map_nil,List.cons_append,List.nil_append,List.append_nil,List.replicate,List.length_cons,List.length_nil,List.getElem?_cons_zero,List.getElem?_cons_succ,List.getElem?_nil,List.set_cons_zero,List.set_cons_succ,Option.map_some,Option.map_none,Option.isNone_some,Option.isNone_none,forall_const,true_implies,false_implies,and_true,true_and,Bool.true_eq_false,Bool.false_eq_true,reduceCtorEq,noOwn,wipeS,hide,fuN_self,lcD,dYes,Nat.zero_add,Nat.reduceAdd,Nat.reduceLeDiff,Nat.reduceSub,atI_0,atI_1,atI_2,atI_3,atI_4,atI_5,Int.one_mul,eqv_ii,eqv_ss,eqv_num,shaped_int,shaped_num,shaped_none,shaped_ru,flat_str,flat_int,flat_none,List.all_cons,List.all_nil,Bool.and_true,decide_eq_true_eq,decide_eq_false_iff_not,Bool.not_eq_true',Bool.not_eq_false',Decidable.not_not,↓reduceIte,Bool.false_eq_true,Int.reduceLT,eqv_strs,pick_0,pick_01,pick_10,pick_012,pick_021,pick_102,pick_120,pick_201,pick_210]
  obtain ⟨c1, c2⟩ := cell_e hn bn hd bd h1 h2
  obtain ⟨k1, k2⟩ := cell_kB hn hd h1 h2
  obtain ⟨a0, b0⟩ := scI_pos (f := 0 - (cellI n d w).2) hn hd
  have bb : Bn 9000 (scI n d (0 - (cellI n d w).2)).2 := (shlB bd).mono (by omega)
  refine ⟨n, d, w, rfl, hn, bn, hd, bd, h1, h2, n, d, _, rfl, bn.mono (by decide), bd.mono (by decide), by omega, by omega, mulX 101 9000 k2 bb (by decide), _, _, rfl, ?_, b0, bb, h⟩
  rw [pos_rest hn hd h1]
  exact Int.emod_nonneg _ (by omega)
section
variable {P : Program} {w : World} {K : Fg} {mg : Str → Option Value} {base : Heap}
theorem d_position_of (T : Tx w K mg) {cdv : Value} {A : Around} {outer : List Env} {s : Shared} {H : Hp} {E : XK} (hr : Room 2 (A.deeper (envOfC "position_of" (defScope st_position_of) s.heap.objs.size T.f_position_of cdv))) (hgd : (A.deeper (envOfC "position_of" (defScope st_position_of) s.heap.objs.size T.f_position_of cdv)).guards = some []) :
    PSs (cxOf CX0 P w K mg base N_position_of "position_of" (defScope st_position_of) T.f_position_of cdv A outer s H E).nox (defBody st_position_of) (upS K W0 b_position_of) :=
  (ss_cons (s_asg (e_call (ok_cell_of T) (hr.mono (by decide)) hgd (by rfl) T.g_cell_of T.F_cell_of.kp T.b_cell_of pass0 (a_cons (e_var 0 (pv 0)) (a_cons (e_var 1 (pv 1)) a_nil))) (g_tup rfl (gs_cons (g_name (pg_name (i := 2) sc_position_of.nd rfl (.inl rfl))) (gs_cons (g_name (pg_name (i := 3) sc_position_of.nd rfl (.inl rfl))) gs_nil))))
    (ss_cons (s_asg (e_call (ok_scaled T) (hr.mono (by decide)) hgd (by rfl) T.g_scaled T.F_scaled.kp T.b_scaled pass0 (a_cons (e_var 0 (pv 0)) (a_cons (e_sub e_int (e_var 3 (pv 3))) a_nil))) (g_tup rfl (gs_cons (g_name (pg_name (i := 4) sc_position_of.nd rfl (.inl rfl))) (gs_cons (g_name (pg_name (i := 5) sc_position_of.nd rfl (.inl rfl))) gs_nil))))
    (ss_one (s_ret (e_call (ok_lowest T) (hr.mono (by decide)) hgd (by rfl) T.g_lowest T.F_lowest.kp T.b_lowest pass0 (a_cons (e_sub (e_var 4 (pv 4)) (e_mul (e_var 2 (pv 2)) (e_var 5 (pv 5)))) (a_cons (e_var 5 (pv 5)) a_nil)))))))
theorem ok_position_of (T : Tx w K mg) : Fn P w K mg base CX0 3 T.f_position_of T.fd_position_of ["number", "width"] (lift K 2 fs_position_of) := fn_data T.F_position_of sc_position_of b_position_of (fun _ _ _ _ _ _ hr hgd => d_position_of T hr hgd) p_position_of
end
def b_is_rule : DS :=
  (dRet (dAndV (dIsi "str" (dVar 0)) (dBin (fIn false) (dVar 0) (dC (.tuple [(.str "down"), (.str "half_down"), (.str "half_even"), (.str "half_up"), (.str "odd"), (.str "up")])))))
abbrev rulesD : List Da := [.str "down", .str "half_down", .str "half_even", .str "half_up", .str "odd", .str "up"]
def isRul (v : Da) : Bool := match v with
  | .str r => inD (.str r) rulesD
  | _ => false
theorem isRul_s (r : Ru) : isRul (.str r.s) = true := by cases r <;> decide +kernel
def fs_is_rule : FSp := fun rs fu post => ∃ v, rs = [.val v] ∧ post (.val (.bool (isRul v))) fu
theorem p_is_rule (rs : List Rv) (fu : Option Nat) (post : Rr → Option Nat → Prop) (hl : rs.length = 1) (h : fs_is_rule rs fu post) : b_is_rule ⟨fun g => post (.val .none) g.fu, fun r g => post r g.fu, fun _ => False, fun _ => False⟩ (ent N_is_rule rs fu) := by
  obtain ⟨v, rfl, h⟩ := h
  cases v with
  | str r =>
    simp only [↓dMHit,↓dMPutRet,↓dCallM,↓dPar3D,↓dMaxK,↓cMinDa,↓entM,↓dSeq,↓dAsg,↓dSetL,↓dNext,↓dIfS,↓dRet,↓dRetL,↓dDrop,↓dNever,↓dBrk,↓dAug,↓dPar,↓dParL,↓dApp,↓dVar,↓dC,↓dBin,↓fI,↓fI0,↓fAdd,↓fEq,↓fNe,↓fIn,↓dTest,↓dAndT,↓dOrT,↓dNotT,↓dAndV,↓dOrV,↓dNotV,↓dIf,↓dNeg,↓dIsN,↓dChain,↓dNil,↓dCons,↓dTup,↓dLst,↓dFz,↓valsD,↓dIx,↓dCall,↓dCallL,↓hasSrc,↓rrv,↓dN,↓dT,↓dTn,↓dTc,↓rsv,↓Gs.set,↓dFor,↓dItems,↓dRange1,↓dRange2,↓dZip,↓dLc,↓dCB,↓cLen,↓cAll,↓cTuple,↓cInt1,↓cInt2,↓dIsi,↓dBits,↓dCallS,↓oSub,↓oAddI,↓oMul,↓oDiv,↓oMod,↓oShl,↓oPow,↓oLt,↓oLe,↓oGt,↓oGe,↓oAbs,↓oMax,↓oMin,↓cMinL,↓fInD,↓dSl,↓oNo,↓oSo,↓dBy,↓fAddT,↓dSlT,↓dParR,↓dEnum,↓dRevL,↓gAs,↓Gs.unset,↓rtN,↓lamF,↓gLam,↓plainO,↓dGIx,↓dIxO,↓Z.isNon,b_is_rule,ent,svOf,List.map_cons,List.map_nil,List.cons_append,List.nil_append,List.append_nil,List.replicate,List.length_cons,List.length_nil,List.getElem?_cons_zero,List.getElem?_cons_succ,List.getElem?_nil,List.set_cons_zero,List.set_cons_succ,Option.map_some,Option.map_none,Option.isNone_some,Option.isNone_none,forall_const,true_implies,false_implies,and_true,true_and,Bool.true_eq_false,Bool.false_eq_true,reduceCtorEq,noOwn,wipeS,hide,fuN_self,lcD,dYes,Nat.zero_add,Nat.reduceAdd,Nat.reduceLeDiff,Nat.reduceSub,atI_0,atI_1,atI_2,atI_3,atI_4,atI_5,Int.one_mul,eqv_ii,eqv_ss,eqv_num,shaped_int,shaped_num,shaped_none,shaped_ru,flat_str,flat_int,flat_none,List.all_cons,List.all_nil,Bool.and_true,decide_eq_true_eq,decide_eq_false_iff_not,Bool.not_eq_true',Bool.not_eq_false',Decidable.not_not,↓reduceIte,Bool.false_eq_true,Int.reduceLT,eqv_strs,pick_0,pick_01,pick_10,pick_012,pick_021,pick_102,pick_120,pick_201,pick_210]
    refine ⟨fun _ => h, fun z => (by simp [isTy] at z)⟩
  | _ => simp only [↓dMHit,↓dMPutRet,↓dCallM,↓dPar3D,↓dMaxK,↓cMinDa,↓entM,↓dSeq,↓dAsg,↓dSetL,↓dNext,↓dIfS,↓dRet,↓dRetL,↓dDrop,↓dNever,↓dBrk,↓dAug,↓dPar,↓dParL,↓dApp,↓dVar,↓dC,↓dBin,↓fI,↓fI0,↓fAdd,↓fEq,↓fNe,↓fIn,↓dTest,↓dAndT,↓dOrT,↓dNotT,↓dAndV,↓dOrV,↓dNotV,↓dIf,↓dNeg,↓dIsN,↓dChain,↓dNil,↓dCons,↓dTup,↓dLst,↓dFz,↓valsD,↓dIx,↓dCall,↓dCallL,↓hasSrc,↓rrv,↓dN,↓dT,↓dTn,↓dTc,↓rsv,↓Gs.set,↓dFor,↓dItems,↓dRange1,↓dRange2,↓dZip,↓dLc,↓dCB,↓cLen,↓cAll,↓cTuple,↓cInt1,↓cInt2,↓dIsi,↓dBits,↓dCallS,↓oSub,↓oAddI,↓oMul,↓oDiv,↓oMod,↓oShl,↓oPow,↓oLt,↓oLe,↓oGt,↓oGe,↓oAbs,↓oMax,↓oMin,↓cMinL,↓fInD,↓dSl,↓oNo,↓oSo,↓dBy,↓fAddT,↓dSlT,↓dParR,↓dEnum,↓dRevL,↓gAs,↓Gs.unset,↓rtN,↓lamF,↓gLam,↓plainO,↓dGIx,↓dIxO,↓Z.isNon,b_is_rule,ent,svOf,List.map_cons,List.map_nil,List.cons_append,List.nil_append,List.append_nil,List.replicate,List.length_cons,List.length_nil,List.getElem?_cons_zero,List.getElem?_cons_succ,List.getElem?_nil,List.set_cons_zero,List.set_cons_succ,Option.map_some,Option.map_none,Option.isNone_some,Option.isNone_none,forall_const,true_implies,false_implies,and_true,true_and,Bool.true_eq_false,Bool.false_eq_true,reduceCtorEq,noOwn,wipeS,hide,fuN_self,lcD,dYes,Nat.zero_add,Nat.reduceAdd,Nat.reduceLeDiff,Nat.reduceSub,atI_0,atI_1,atI_2,atI_3,atI_4,atI_5,Int.one_mul,eqv_ii,eqv_ss,eqv_num,shaped_int,shaped_num,shaped_none,shaped_ru,flat_str,flat_int,flat_none,List.all_cons,List.all_nil,Bool.and_true,decide_eq_true_eq,decide_eq_false_iff_not,Bool.not_eq_true',Bool.not_eq_false',Decidable.not_not,↓reduceIte,Bool.false_eq_true,Int.reduceLT,eqv_strs,pick_0,pick_01,pick_10,pick_012,pick_021,pick_102,pick_120,pick_201,pick_210]; simpa [isTy, isRul] using h
section
variable {P : Program} {w : World} {K : Fg} {mg : Str → Option Value} {base : Heap}
theorem d_is_rule (T : Tx w K mg) {cdv : Value} {A : Around} {outer : List Env} {s : Shared} {H : Hp} {E : XK} (hr : Room 0 (A.deeper (envOfC "is_rule" (defScope st_is_rule) s.heap.objs.size T.f_is_rule cdv))) (hgd : (A.deeper (envOfC "is_rule" (defScope st_is_rule) s.heap.objs.size T.f_is_rule cdv)).guards = some []) :
    PSs (cxOf CX0 P w K mg base N_is_rule "is_rule" (defScope st_is_rule) T.f_is_rule cdv A outer s H E).nox (defBody st_is_rule) (upS K W0 b_is_rule) :=
  (ss_one (s_ret (e_and (e_isi kit_str (by rfl) T.n_isinstance (e_var 0 (pv 0)) (c_ty (by rfl) T.n_str (by decide +kernel))) (e_one (e_in (e_var 0 (pv 0)) (e_glob (by rfl) T.c_RULES T.v_RULES T.r_RULES))))))
theorem ok_is_rule (T : Tx w K mg) : Fn P w K mg base CX0 1 T.f_is_rule T.fd_is_rule ["value"] (lift K 1 fs_is_rule) := fn_data T.F_is_rule sc_is_rule b_is_rule (fun _ _ _ _ _ _ hr hgd => d_is_rule T hr hgd) p_is_rule
end
def b_ends_of : DS :=
  (dSeq (dIfS (dTest (dBin fEq (dIx (dCall 2 fs_position_of (dCons (dVar 0) (dCons (dVar 1) dNil))) (dC (.int 0))) (dC (.int 0))))
    (dRet (dTup (dCons (dVar 0) (dCons (dVar 0) dNil))))
    dNext)
  (dSeq (dAsg (dCall 2 fs_cell_of (dCons (dVar 0) (dCons (dVar 1) dNil))) (dT 2 (dTc (dN 2) (dTc (dN 3) dTn))))
  (dRet (dTup (dCons (dCall 2 fs_power_number (dCons (dVar 2) (dCons (dVar 3) dNil))) (dCons (dCall 2 fs_power_number (dCons (dBin fAdd (dVar 2) (dC (.int 1))) (dCons (dVar 3) dNil))) dNil))))))
def fs_ends_of : FSp := fun rs fu post => ∃ n d w : Int, rs = [.val (num n d), .val (.int w)] ∧ 0 < n ∧ Bn 4000 n ∧ 0 < d ∧ Bn 4000 d ∧ 1 ≤ w ∧ w ≤ 100 ∧ post (.val (.tuple [nm (endsI n d w).1, nm (endsI n d w).2])) fu
theorem p_ends_of (rs : List Rv) (fu : Option Nat) (post : Rr → Option Nat → Prop) (hl : rs.length = 2) (h : fs_ends_of rs fu post) : b_ends_of ⟨fun g => post (.val .none) g.fu, fun r g => post r g.fu, fun _ => False, fun _ => False⟩ (ent N_ends_of rs fu) := by
  obtain ⟨n, d, w, rfl, hn, bn, hd, bd, h1, h2, h⟩ := h
  simp only [↓dMHit,↓dMPutRet,↓dCallM,↓dPar3D,↓dMaxK,↓cMinDa,↓entM,↓dSeq,↓dAsg,↓dSetL,↓dNext,↓dIfS,↓dRet,↓dRetL,↓dDrop,↓dNever,↓dBrk,↓dAug,↓dPar,↓dParL,↓dApp,↓dVar,↓dC,↓dBin,↓fI,↓fI0,↓fAdd,↓fEq,↓fNe,↓fIn,↓dTest,↓dAndT,↓dOrT,↓dNotT,↓dAndV,↓dOrV,↓dNotV,↓dIf,↓dNeg,↓dIsN,↓dChain,↓dNil,↓dCons,↓dTup,↓dLst,↓dFz,↓valsD,↓dIx,↓dCall,↓dCallL,↓hasSrc,↓rrv,↓dN,↓dT,↓dTn,↓dTc,↓rsv,↓Gs.set,↓dFor,↓dItems,↓dRange1,↓dRange2,↓dZip,↓dLc,↓dCB,↓cLen,↓cAll,↓cTuple,↓cInt1,↓cInt2,↓dIsi,↓dBits,↓dCallS,↓oSub,↓oAddI,↓oMul,↓oDiv,↓oMod,↓oShl,↓oPow,↓oLt,↓oLe,↓oGt,↓oGe,↓oAbs,↓oMax,↓oMin,↓cMinL,↓fInD,↓dSl,↓oNo,↓oSo,↓dBy,↓fAddT,↓dSlT,↓dParR,↓dEnum,↓dRevL,↓gAs,↓Gs.unset,↓rtN,↓lamF,↓gLam,↓plainO,↓dGIx,↓dIxO,↓Z.isNon,b_ends_of,fs_cell_of,fs_position_of,fs_power_number,ent,svOf,List.map_cons,List.map_nil,List.cons_append,List.nil_append,List.append_nil,List.replicate,List.length_cons,List.length_nil,List.getElem?_cons_zero,List.getElem?_cons_succ,List.getElem?_nil,List.set_cons_zero,List.set_cons_succ,Option.map_some,Option.map_none,Option.isNone_some,Option.isNone_none,forall_const,true_implies,false_implies,and_true,true_and,Bool.true_eq_false,Bool.false_eq_true,reduceCtorEq,noOwn,wipeS,hide,fuN_self,lcD,dYes,Nat.zero_add,Nat.reduceAdd,Nat.reduceLeDiff,Nat.reduceSub,atI_0,atI_1,atI_2,atI_3,atI_4,atI_5,Int.one_mul,eqv_ii,eqv_ss,eqv_num,shaped_int,shaped_num,shaped_none,shaped_ru,flat_str,flat_int,flat_none,List.all_cons,List.all_nil,Bool.and_true,decide_eq_true_eq,decide_eq_false_iff_not,Bool.not_eq_true',Bool.not_eq_false',Decidable.not_not,↓reduceIte,Bool.false_eq_true,Int.reduceLT,eqv_strs,pick_0,pick_01,pick_10,pick_012,pick_021,pick_102,pick_120,pick_201,pick_210]
  obtain ⟨c1, c2⟩ := cell_e hn bn hd bd h1 h2
  obtain ⟨k1, k2⟩ := cell_kB hn hd h1 h2
  refine ⟨n, d, w, rfl, hn, bn, hd, bd, h1, h2, fun hz => ?_, fun hz => ?_⟩
  · have e : endsI n d w = ((n, d), (n, d)) := if_pos hz
    rw [e] at h
    exact h
  · have e : endsI n d w = (powI (cellI n d w).1 (cellI n d w).2, powI ((cellI n d w).1 + 1) (cellI n d w).2) := if_neg hz
    rw [e] at h
    exact ⟨n, d, w, rfl, hn, bn, hd, bd, h1, h2, _, _, rfl, by omega, k2.mono (by decide), by omega, by omega, _, _, rfl, by omega, ((k2.add (Bn.small (by decide) (by decide) (by decide))).mono (by decide)), by omega, by omega, h⟩
section
variable {P : Program} {w : World} {K : Fg} {mg : Str → Option Value} {base : Heap}
theorem d_ends_of (T : Tx w K mg) {cdv : Value} {A : Around} {outer : List Env} {s : Shared} {H : Hp} {E : XK} (hr : Room 3 (A.deeper (envOfC "ends_of" (defScope st_ends_of) s.heap.objs.size T.f_ends_of cdv))) (hgd : (A.deeper (envOfC "ends_of" (defScope st_ends_of) s.heap.objs.size T.f_ends_of cdv)).guards = some []) :
    PSs (cxOf CX0 P w K mg base N_ends_of "ends_of" (defScope st_ends_of) T.f_ends_of cdv A outer s H E).nox (defBody st_ends_of) (upS K W0 b_ends_of) :=
  (ss_cons (s_if (t_eq hr.units (e_ix (e_call (ok_position_of T) (hr.mono (by decide)) hgd (by rfl) T.g_position_of T.F_position_of.kp T.b_position_of pass0 (a_cons (e_var 0 (pv 0)) (a_cons (e_var 1 (pv 1)) a_nil))) e_int) e_int) (ss_one (s_ret (e_tup (a_cons (e_var 0 (pv 0)) (a_cons (e_var 0 (pv 0)) a_nil))))) ss_nil)
    (ss_cons (s_asg (e_call (ok_cell_of T) (hr.mono (by decide)) hgd (by rfl) T.g_cell_of T.F_cell_of.kp T.b_cell_of pass0 (a_cons (e_var 0 (pv 0)) (a_cons (e_var 1 (pv 1)) a_nil))) (g_tup rfl (gs_cons (g_name (pg_name (i := 2) sc_ends_of.nd rfl (.inl rfl))) (gs_cons (g_name (pg_name (i := 3) sc_ends_of.nd rfl (.inl rfl))) gs_nil))))
    (ss_one (s_ret (e_tup (a_cons (e_call (ok_power_number T) (hr.mono (by decide)) hgd (by rfl) T.g_power_number T.F_power_number.kp T.b_power_number pass0 (a_cons (e_var 2 (pv 2)) (a_cons (e_var 3 (pv 3)) a_nil))) (a_cons (e_call (ok_power_number T) (hr.mono (by decide)) hgd (by rfl) T.g_power_number T.F_power_number.kp T.b_power_number pass0 (a_cons (e_add (e_var 2 (pv 2)) e_int) (a_cons (e_var 3 (pv 3)) a_nil))) a_nil)))))))
theorem ok_ends_of (T : Tx w K mg) : Fn P w K mg base CX0 4 T.f_ends_of T.fd_ends_of ["number", "width"] (lift K 2 fs_ends_of) := fn_data T.F_ends_of sc_ends_of b_ends_of (fun _ _ _ _ _ _ hr hgd => d_ends_of T hr hgd) p_ends_of
end
def b_goes_up : DS :=
  (dSeq (dAsg (dVar 1) (dT 2 (dTc (dN 3) (dTc (dN 4) dTn))))
  (dSeq (dIfS (dTest (dBin (fIn false) (dVar 2) (dTup (dCons (dC (.str "down")) (dCons (dC (.str "up")) dNil)))))
    (dRet (dBin fEq (dVar 2) (dC (.str "up"))))
    dNext)
  (dSeq (dIfS (dTest (dBin fEq (dVar 2) (dC (.str "odd"))))
    (dRet (dBin fEq (dBin oMod (dVar 0) (dC (.int 2))) (dC (.int 0))))
    dNext)
  (dSeq (dIfS (dTest (dBin fNe (dBin oMul (dC (.int 2)) (dVar 3)) (dVar 4)))
    (dRet (dBin oGt (dBin oMul (dC (.int 2)) (dVar 3)) (dVar 4)))
    dNext)
  (dRet (dOrV (dBin fEq (dVar 2) (dC (.str "half_up"))) (dAndV (dBin fEq (dVar 2) (dC (.str "half_even"))) (dBin fEq (dBin oMod (dVar 0) (dC (.int 2))) (dC (.int 1))))))))))
def fs_goes_up : FSp := fun rs fu post => ∃ (k n d : Int) (r : Ru), rs = [.val (.int k), .val (num n d), .val (.str r.s)] ∧ Bn 10000 n ∧ post (.val (.bool (goesUp k n d r))) fu
theorem p_goes_up (rs : List Rv) (fu : Option Nat) (post : Rr → Option Nat → Prop) (hl : rs.length = 3) (h : fs_goes_up rs fu post) : b_goes_up ⟨fun g => post (.val .none) g.fu, fun r g => post r g.fu, fun _ => False, fun _ => False⟩ (ent N_goes_up rs fu) := by
  obtain ⟨k, n, d, r, rfl, bn, h⟩ := h
  have hm : CMulX 2 n := mulX 64 10000 (Bn.small (by decide) (by decide) (by decide)) bn (by decide)
  have sh : ∀ r : Ru, SeqAt.shaped (.str r.s) = true := shaped_ru
  have s1 := sh .dn
  have s2 := sh .hd
  have s3 := sh .he
  have s4 := sh .hu
  have s5 := sh .od
  have s6 := sh .up
  simp only [Ru.s] at s1 s2 s3 s4 s5 s6
  cases r <;> simp only [Ru.s, goesUp] at h ⊢ <;> (simp (decide := true) only [↓dMHit,↓dMPutRet,↓dCallM,↓dPar3D,↓dMaxK,↓cMinDa,↓entM,↓dSeq,↓dAsg,↓dSetL,↓dNext,↓dIfS,↓dRet,↓dRetL,↓dDrop,↓dNever,↓dBrk,↓dAug,↓dPar,↓dParL,↓dApp,↓dVar,↓dC,↓dBin,↓fI,↓fI0,↓fAdd,↓fEq,↓fNe,↓fIn,↓dTest,↓dAndT,↓dOrT,↓dNotT,↓dAndV,↓dOrV,↓dNotV,↓dIf,↓dNeg,↓dIsN,↓dChain,↓dNil,↓dCons,↓dTup,↓dLst,↓dFz,↓valsD,↓dIx,↓dCall,↓dCallL,↓hasSrc,↓rrv,↓dN,↓dT,↓dTn,↓dTc,↓rsv,↓Gs.set,↓dFor,↓dItems,↓dRange1,↓dRange2,↓dZip,↓dLc,↓dCB,↓cLen,↓cAll,↓cTuple,↓cInt1,↓cInt2,↓dIsi,↓dBits,↓dCallS,↓oSub,↓oAddI,↓oMul,↓oDiv,↓oMod,↓oShl,↓oPow,↓oLt,↓oLe,↓oGt,↓oGe,↓oAbs,↓oMax,↓oMin,↓cMinL,↓fInD,↓dSl,↓oNo,↓oSo,↓dBy,↓fAddT,↓dSlT,↓dParR,↓dEnum,↓dRevL,↓gAs,↓Gs.unset,↓rtN,↓lamF,↓gLam,↓plainO,↓dGIx,↓dIxO,↓Z.isNon,b_goes_up,s1,s2,s3,s4,s5,s6,inD,List.any_cons,List.any_nil,Bool.or_false,Bool.or_true,Bool.false_or,decide_true,decide_false,ent,svOf,List.map_cons,List.map_nil,List.cons_append,List.nil_append,List.append_nil,List.replicate,List.length_cons,List.length_nil,List.getElem?_cons_zero,List.getElem?_cons_succ,List.getElem?_nil,List.set_cons_zero,List.set_cons_succ,Option.map_some,Option.map_none,Option.isNone_some,Option.isNone_none,forall_const,true_implies,false_implies,and_true,true_and,Bool.true_eq_false,Bool.false_eq_true,reduceCtorEq,noOwn,wipeS,hide,fuN_self,lcD,dYes,Nat.zero_add,Nat.reduceAdd,Nat.reduceLeDiff,Nat.reduceSub,atI_0,atI_1,atI_2,atI_3,atI_4,atI_5,Int.one_mul,eqv_ii,eqv_ss,eqv_num,shaped_int,shaped_num,shaped_none,shaped_ru,flat_str,flat_int,flat_none,List.all_cons,List.all_nil,Bool.and_true,decide_eq_true_eq,decide_eq_false_iff_not,Bool.not_eq_true',Bool.not_eq_false',Decidable.not_not,↓reduceIte,Bool.false_eq_true,Int.reduceLT,eqv_strs,pick_0,pick_01,pick_10,pick_012,pick_021,pick_102,pick_120,pick_201,pick_210])
  · exact h
  · refine ⟨hm, fun _ => ⟨hm, h⟩, fun z => ?_⟩
    rw [decide_eq_false (by omega)] at h
    exact h
  · refine ⟨hm, fun z => ⟨hm, ?_⟩, fun z => ?_⟩
    · rw [if_neg z] at h; exact h
    · rw [if_pos z] at h; exact h
  · refine ⟨hm, fun z => ⟨hm, ?_⟩, fun z => ?_⟩
    · rw [show decide (d ≤ 2 * n) = decide (d < 2 * n) by rw [decide_eq_decide]; omega] at h
      exact h
    · rw [decide_eq_true (by omega)] at h
      exact h
  · exact h
  · exact h
section
variable {P : Program} {w : World} {K : Fg} {mg : Str → Option Value} {base : Heap}
theorem d_goes_up (T : Tx w K mg) {cdv : Value} {A : Around} {outer : List Env} {s : Shared} {H : Hp} {E : XK} (hr : Room 0 (A.deeper (envOfC "goes_up" (defScope st_goes_up) s.heap.objs.size T.f_goes_up cdv))) (hgd : (A.deeper (envOfC "goes_up" (defScope st_goes_up) s.heap.objs.size T.f_goes_up cdv)).guards = some []) :
    PSs (cxOf CX0 P w K mg base N_goes_up "goes_up" (defScope st_goes_up) T.f_goes_up cdv A outer s H E).nox (defBody st_goes_up) (upS K W0 b_goes_up) :=
  (ss_cons (s_asg (e_var 1 (pv 1)) (g_tup rfl (gs_cons (g_name (pg_name (i := 3) sc_goes_up.nd rfl (.inl rfl))) (gs_cons (g_name (pg_name (i := 4) sc_goes_up.nd rfl (.inl rfl))) gs_nil))))
    (ss_cons (s_if (t_in (e_var 2 (pv 2)) (e_tup (a_cons (e_glob (by rfl) T.c_DOWN T.v_DOWN T.r_DOWN) (a_cons (e_glob (by rfl) T.c_UP T.v_UP T.r_UP) a_nil)))) (ss_one (s_ret (e_eq hr.units (e_var 2 (pv 2)) (e_glob (by rfl) T.c_UP T.v_UP T.r_UP)))) ss_nil)
    (ss_cons (s_if (t_eq hr.units (e_var 2 (pv 2)) (e_glob (by rfl) T.c_ODD T.v_ODD T.r_ODD)) (ss_one (s_ret (e_eq hr.units (e_mod (e_var 0 (pv 0)) e_int) e_int))) ss_nil)
    (ss_cons (s_if (t_ne hr.units (e_mul e_int (e_var 3 (pv 3))) (e_var 4 (pv 4))) (ss_one (s_ret (e_gt (e_mul e_int (e_var 3 (pv 3))) (e_var 4 (pv 4))))) ss_nil)
    (ss_one (s_ret (e_or (e_eq hr.units (e_var 2 (pv 2)) (e_glob (by rfl) T.c_HALF_UP T.v_HALF_UP T.r_HALF_UP)) (e_one (e_and (e_eq hr.units (e_var 2 (pv 2)) (e_glob (by rfl) T.c_HALF_EVEN T.v_HALF_EVEN T.r_HALF_EVEN)) (e_one (e_eq hr.units (e_mod (e_var 0 (pv 0)) e_int) e_int)))))))))))
theorem ok_goes_up (T : Tx w K mg) : Fn P w K mg base CX0 1 T.f_goes_up T.fd_goes_up ["k", "place", "rule"] (lift K 3 fs_goes_up) := fn_data T.F_goes_up sc_goes_up b_goes_up (fun _ _ _ _ _ _ hr hgd => d_goes_up T hr hgd) p_goes_up
end
def b_round_once : DS :=
  (dSeq (dAsg (dCall 2 fs_ends_of (dCons (dVar 0) (dCons (dVar 1) dNil))) (dT 2 (dTc (dN 3) (dTc (dN 4) dTn))))
  (dSeq (dAsg (dIx (dCall 2 fs_cell_of (dCons (dVar 0) (dCons (dVar 1) dNil))) (dC (.int 0))) (dN 5))
  (dRet (dIf (dTest (dCall 3 fs_goes_up (dCons (dVar 5) (dCons (dCall 2 fs_position_of (dCons (dVar 0) (dCons (dVar 1) dNil))) (dCons (dVar 2) dNil))))) (dVar 4) (dVar 3)))))
def fs_round_once : FSp := fun rs fu post => ∃ (n d w : Int) (r : Ru), rs = [.val (num n d), .val (.int w), .val (.str r.s)] ∧ 0 < n ∧ Bn 4000 n ∧ 0 < d ∧ Bn 4000 d ∧ 1 ≤ w ∧ w ≤ 100 ∧ post (.val (nm (roundI n d w r))) fu
theorem p_round_once (rs : List Rv) (fu : Option Nat) (post : Rr → Option Nat → Prop) (hl : rs.length = 3) (h : fs_round_once rs fu post) : b_round_once ⟨fun g => post (.val .none) g.fu, fun r g => post r g.fu, fun _ => False, fun _ => False⟩ (ent N_round_once rs fu) := by
  obtain ⟨n, d, w, r, rfl, hn, bn, hd, bd, h1, h2, h⟩ := h
  simp only [↓dMHit,↓dMPutRet,↓dCallM,↓dPar3D,↓dMaxK,↓cMinDa,↓entM,↓dSeq,↓dAsg,↓dSetL,↓dNext,↓dIfS,↓dRet,↓dRetL,↓dDrop,↓dNever,↓dBrk,↓dAug,↓dPar,↓dParL,↓dApp,↓dVar,↓dC,↓dBin,↓fI,↓fI0,↓fAdd,↓fEq,↓fNe,↓fIn,↓dTest,↓dAndT,↓dOrT,↓dNotT,↓dAndV,↓dOrV,↓dNotV,↓dIf,↓dNeg,↓dIsN,↓dChain,↓dNil,↓dCons,↓dTup,↓dLst,↓dFz,↓valsD,↓dIx,↓dCall,↓dCallL,↓hasSrc,↓rrv,↓dN,↓dT,↓dTn,↓dTc,↓rsv,↓Gs.set,↓dFor,↓dItems,↓dRange1,↓dRange2,↓dZip,↓dLc,↓dCB,↓cLen,↓cAll,↓cTuple,↓cInt1,↓cInt2,↓dIsi,↓dBits,↓dCallS,↓oSub,↓oAddI,↓oMul,↓oDiv,↓oMod,↓oShl,↓oPow,↓oLt,↓oLe,↓oGt,↓oGe,↓oAbs,↓oMax,↓oMin,↓cMinL,↓fInD,↓dSl,↓oNo,↓oSo,↓dBy,↓fAddT,↓dSlT,↓dParR,↓dEnum,↓dRevL,↓gAs,↓Gs.unset,↓rtN,↓lamF,↓gLam,↓plainO,↓dGIx,↓dIxO,↓Z.isNon,b_round_once,fs_ends_of,fs_cell_of,fs_position_of,fs_goes_up,ent,svOf,List.map_cons,List.map_nil,List.cons_append,List.nil_append,List.append_nil,List.replicate,List.length_cons,List.length_nil,List.getElem?_cons_zero,List.getElem?_cons_succ,List.getElem?_nil,List.set_cons_zero,List.set_cons_succ,Option.map_some,Option.map_none,Option.isNone_some,Option.isNone_none,forall_const,true_implies,false_implies,and_true,true_and,Bool.true_eq_false,Bool.false_eq_true,reduceCtorEq,noOwn,wipeS,hide,fuN_self,lcD,dYes,Nat.zero_add,Nat.reduceAdd,Nat.reduceLeDiff,Nat.reduceSub,atI_0,atI_1,atI_2,atI_3,atI_4,atI_5,Int.one_mul,eqv_ii,eqv_ss,eqv_num,shaped_int,shaped_num,shaped_none,shaped_ru,flat_str,flat_int,flat_none,List.all_cons,List.all_nil,Bool.and_true,decide_eq_true_eq,decide_eq_false_iff_not,Bool.not_eq_true',Bool.not_eq_false',Decidable.not_not,↓reduceIte,Bool.false_eq_true,Int.reduceLT,eqv_strs,pick_0,pick_01,pick_10,pick_012,pick_021,pick_102,pick_120,pick_201,pick_210]
  refine ⟨n, d, w, rfl, hn, bn, hd, bd, h1, h2, n, d, w, rfl, hn, bn, hd, bd, h1, h2, n, d, w, rfl, hn, bn, hd, bd, h1, h2, _, _, _, r, rfl, (pos_B hn bn hd bd h1 h2).2.mono (by decide), fun hu => ?_, fun hu => ?_⟩
  · have e : roundI n d w r = (endsI n d w).2 := if_pos hu
    rw [e] at h
    exact h
  · have e : roundI n d w r = (endsI n d w).1 := if_neg (by rw [hu]; decide)
    rw [e] at h
    exact h
section
variable {P : Program} {w : World} {K : Fg} {mg : Str → Option Value} {base : Heap}
theorem d_round_once (T : Tx w K mg) {cdv : Value} {A : Around} {outer : List Env} {s : Shared} {H : Hp} {E : XK} (hr : Room 4 (A.deeper (envOfC "round_once" (defScope st_round_once) s.heap.objs.size T.f_round_once cdv))) (hgd : (A.deeper (envOfC "round_once" (defScope st_round_once) s.heap.objs.size T.f_round_once cdv)).guards = some []) :
    PSs (cxOf CX0 P w K mg base N_round_once "round_once" (defScope st_round_once) T.f_round_once cdv A outer s H E).nox (defBody st_round_once) (upS K W0 b_round_once) :=
  (ss_cons (s_asg (e_call (ok_ends_of T) (hr.mono (by decide)) hgd (by rfl) T.g_ends_of T.F_ends_of.kp T.b_ends_of pass0 (a_cons (e_var 0 (pv 0)) (a_cons (e_var 1 (pv 1)) a_nil))) (g_tup rfl (gs_cons (g_name (pg_name (i := 3) sc_round_once.nd rfl (.inl rfl))) (gs_cons (g_name (pg_name (i := 4) sc_round_once.nd rfl (.inl rfl))) gs_nil))))
    (ss_cons (s_set (i := 5) sc_round_once.nd rfl (.inl rfl) (e_ix (e_call (ok_cell_of T) (hr.mono (by decide)) hgd (by rfl) T.g_cell_of T.F_cell_of.kp T.b_cell_of pass0 (a_cons (e_var 0 (pv 0)) (a_cons (e_var 1 (pv 1)) a_nil))) e_int))
    (ss_one (s_ret (e_if (t_val (e_call (ok_goes_up T) (hr.mono (by decide)) hgd (by rfl) T.g_goes_up T.F_goes_up.kp T.b_goes_up pass0 (a_cons (e_var 5 (pv 5)) (a_cons (e_call (ok_position_of T) (hr.mono (by decide)) hgd (by rfl) T.g_position_of T.F_position_of.kp T.b_position_of pass0 (a_cons (e_var 0 (pv 0)) (a_cons (e_var 1 (pv 1)) a_nil))) (a_cons (e_var 2 (pv 2)) a_nil))))) (e_var 4 (pv 4)) (e_var 3 (pv 3)))))))
theorem ok_round_once (T : Tx w K mg) : Fn P w K mg base CX0 5 T.f_round_once T.fd_round_once ["number", "width", "rule"] (lift K 3 fs_round_once) := fn_data T.F_round_once sc_round_once b_round_once (fun _ _ _ _ _ _ hr hgd => d_round_once T hr hgd) p_round_once
end
def b_is_step : DS :=
  (dRet (dAndV (dIsi "tuple" (dVar 0)) (dAndV (dBin fEq (dCB cLen (dCons (dVar 0) dNil)) (dC (.int 2))) (dAndV (dCall 1 fs_is_width (dCons (dIx (dVar 0) (dC (.int 0))) dNil)) (dCall 1 fs_is_rule (dCons (dIx (dVar 0) (dC (.int 1))) dNil))))))
def isStp : Da → Bool
  | .tuple [x, y] => isWid x && isRul y
  | _ => false
theorem isStp_ne {xs : List Da} (h : xs.length ≠ 2) : isStp (.tuple xs) = false := by
  match xs with
  | [] => rfl
  | [_] => rfl
  | [_, _] => exact absurd rfl h
  | _ :: _ :: _ :: _ => rfl
theorem isStp_st {s : Int × Ru} (h : 1 ≤ s.1 ∧ s.1 ≤ 100) : isStp (stD s) = true := by
  show (isWid (.int s.1) && isRul (.str s.2.s)) = true
  rw [isWid_int h.1 h.2, isRul_s]
  rfl
def fs_is_step : FSp := fun rs fu post => ∃ v, rs = [.val v] ∧ post (.val (.bool (isStp v))) fu
theorem p_is_step (rs : List Rv) (fu : Option Nat) (post : Rr → Option Nat → Prop) (hl : rs.length = 1) (h : fs_is_step rs fu post) : b_is_step ⟨fun g => post (.val .none) g.fu, fun r g => post r g.fu, fun _ => False, fun _ => False⟩ (ent N_is_step rs fu) := by
  obtain ⟨v, rfl, h⟩ := h
  cases v with
  | tuple xs =>
    simp only [↓dMHit,↓dMPutRet,↓dCallM,↓dPar3D,↓dMaxK,↓cMinDa,↓entM,↓dSeq,↓dAsg,↓dSetL,↓dNext,↓dIfS,↓dRet,↓dRetL,↓dDrop,↓dNever,↓dBrk,↓dAug,↓dPar,↓dParL,↓dApp,↓dVar,↓dC,↓dBin,↓fI,↓fI0,↓fAdd,↓fEq,↓fNe,↓fIn,↓dTest,↓dAndT,↓dOrT,↓dNotT,↓dAndV,↓dOrV,↓dNotV,↓dIf,↓dNeg,↓dIsN,↓dChain,↓dNil,↓dCons,↓dTup,↓dLst,↓dFz,↓valsD,↓dIx,↓dCall,↓dCallL,↓hasSrc,↓rrv,↓dN,↓dT,↓dTn,↓dTc,↓rsv,↓Gs.set,↓dFor,↓dItems,↓dRange1,↓dRange2,↓dZip,↓dLc,↓dCB,↓cLen,↓cAll,↓cTuple,↓cInt1,↓cInt2,↓dIsi,↓dBits,↓dCallS,↓oSub,↓oAddI,↓oMul,↓oDiv,↓oMod,↓oShl,↓oPow,↓oLt,↓oLe,↓oGt,↓oGe,↓oAbs,↓oMax,↓oMin,↓cMinL,↓fInD,↓dSl,↓oNo,↓oSo,↓dBy,↓fAddT,↓dSlT,↓dParR,↓dEnum,↓dRevL,↓gAs,↓Gs.unset,↓rtN,↓lamF,↓gLam,↓plainO,↓dGIx,↓dIxO,↓Z.isNon,b_is_step,ent,svOf,List.map_cons,List.map_nil,List.cons_append,List.nil_append,List.append_nil,List.replicate,List.length_cons,List.length_nil,List.getElem?_cons_zero,List.getElem?_cons_succ,List.getElem?_nil,List.set_cons_zero,List.set_cons_succ,Option.map_some,Option.map_none,Option.isNone_some,Option.isNone_none,forall_const,true_implies,false_implies,and_true,true_and,Bool.true_eq_false,Bool.false_eq_true,reduceCtorEq,noOwn,wipeS,hide,fuN_self,lcD,dYes,Nat.zero_add,Nat.reduceAdd,Nat.reduceLeDiff,Nat.reduceSub,atI_0,atI_1,atI_2,atI_3,atI_4,atI_5,Int.one_mul,eqv_ii,eqv_ss,eqv_num,shaped_int,shaped_num,shaped_none,shaped_ru,flat_str,flat_int,flat_none,List.all_cons,List.all_nil,Bool.and_true,decide_eq_true_eq,decide_eq_false_iff_not,Bool.not_eq_true',Bool.not_eq_false',Decidable.not_not,↓reduceIte,Bool.false_eq_true,Int.reduceLT,eqv_strs,pick_0,pick_01,pick_10,pick_012,pick_021,pick_102,pick_120,pick_201,pick_210]
    refine ⟨fun _ => ⟨fun z => ?_, fun z => ?_⟩, fun z => (by simp [isTy] at z)⟩
    · have e : xs.length = 2 := by omega
      match xs, e with
      | [x, y], _ =>
        simp only [↓dMHit,↓dMPutRet,↓dCallM,↓dPar3D,↓dMaxK,↓cMinDa,↓entM,↓dSeq,↓dAsg,↓dSetL,↓dNext,↓dIfS,↓dRet,↓dRetL,↓dDrop,↓dNever,↓dBrk,↓dAug,↓dPar,↓dParL,↓dApp,↓dVar,↓dC,↓dBin,↓fI,↓fI0,↓fAdd,↓fEq,↓fNe,↓fIn,↓dTest,↓dAndT,↓dOrT,↓dNotT,↓dAndV,↓dOrV,↓dNotV,↓dIf,↓dNeg,↓dIsN,↓dChain,↓dNil,↓dCons,↓dTup,↓dLst,↓dFz,↓valsD,↓dIx,↓dCall,↓dCallL,↓hasSrc,↓rrv,↓dN,↓dT,↓dTn,↓dTc,↓rsv,↓Gs.set,↓dFor,↓dItems,↓dRange1,↓dRange2,↓dZip,↓dLc,↓dCB,↓cLen,↓cAll,↓cTuple,↓cInt1,↓cInt2,↓dIsi,↓dBits,↓dCallS,↓oSub,↓oAddI,↓oMul,↓oDiv,↓oMod,↓oShl,↓oPow,↓oLt,↓oLe,↓oGt,↓oGe,↓oAbs,↓oMax,↓oMin,↓cMinL,↓fInD,↓dSl,↓oNo,↓oSo,↓dBy,↓fAddT,↓dSlT,↓dParR,↓dEnum,↓dRevL,↓gAs,↓Gs.unset,↓rtN,↓lamF,↓gLam,↓plainO,↓dGIx,↓dIxO,↓Z.isNon,fs_is_width,fs_is_rule,ent,svOf,List.map_cons,List.map_nil,List.cons_append,List.nil_append,List.append_nil,List.replicate,List.length_cons,List.length_nil,List.getElem?_cons_zero,List.getElem?_cons_succ,List.getElem?_nil,List.set_cons_zero,List.set_cons_succ,Option.map_some,Option.map_none,Option.isNone_some,Option.isNone_none,forall_const,true_implies,false_implies,and_true,true_and,Bool.true_eq_false,Bool.false_eq_true,reduceCtorEq,noOwn,wipeS,hide,fuN_self,lcD,dYes,Nat.zero_add,Nat.reduceAdd,Nat.reduceLeDiff,Nat.reduceSub,atI_0,atI_1,atI_2,atI_3,atI_4,atI_5,Int.one_mul,eqv_ii,eqv_ss,eqv_num,shaped_int,shaped_num,shaped_none,shaped_ru,flat_str,flat_int,flat_none,List.all_cons,List.all_nil,Bool.and_true,decide_eq_true_eq,decide_eq_false_iff_not,Bool.not_eq_true',Bool.not_eq_false',Decidable.not_not,↓reduceIte,Bool.false_eq_true,Int.reduceLT,eqv_strs,pick_0,pick_01,pick_10,pick_012,pick_021,pick_102,pick_120,pick_201,pick_210]
        refine ⟨x, rfl, fun ht => ⟨y, rfl, ?_⟩, fun hf => ?_⟩
        · simp only [isStp, ht, Bool.true_and] at h
          exact h
        · simp only [isStp, hf, Bool.false_and] at h
          exact h
    · have e : xs.length ≠ 2 := by omega
      rw [isStp_ne e] at h
      exact h
  | _ => simp only [↓dMHit,↓dMPutRet,↓dCallM,↓dPar3D,↓dMaxK,↓cMinDa,↓entM,↓dSeq,↓dAsg,↓dSetL,↓dNext,↓dIfS,↓dRet,↓dRetL,↓dDrop,↓dNever,↓dBrk,↓dAug,↓dPar,↓dParL,↓dApp,↓dVar,↓dC,↓dBin,↓fI,↓fI0,↓fAdd,↓fEq,↓fNe,↓fIn,↓dTest,↓dAndT,↓dOrT,↓dNotT,↓dAndV,↓dOrV,↓dNotV,↓dIf,↓dNeg,↓dIsN,↓dChain,↓dNil,↓dCons,↓dTup,↓dLst,↓dFz,↓valsD,↓dIx,↓dCall,↓dCallL,↓hasSrc,↓rrv,↓dN,↓dT,↓dTn,↓dTc,↓rsv,↓Gs.set,↓dFor,↓dItems,↓dRange1,↓dRange2,↓dZip,↓dLc,↓dCB,↓cLen,↓cAll,↓cTuple,↓cInt1,↓cInt2,↓dIsi,↓dBits,↓dCallS,↓oSub,↓oAddI,↓oMul,↓oDiv,↓oMod,↓oShl,↓oPow,↓oLt,↓oLe,↓oGt,↓oGe,↓oAbs,↓oMax,↓oMin,↓cMinL,↓fInD,↓dSl,↓oNo,↓oSo,↓dBy,↓fAddT,↓dSlT,↓dParR,↓dEnum,↓dRevL,↓gAs,↓Gs.unset,↓rtN,↓lamF,↓gLam,↓plainO,↓dGIx,↓dIxO,↓Z.isNon,b_is_step,ent,svOf,List.map_cons,List.map_nil,List.cons_append,List.nil_append,List.append_nil,List.replicate,List.length_cons,List.length_nil,List.getElem?_cons_zero,List.getElem?_cons_succ,List.getElem?_nil,List.set_cons_zero,List.set_cons_succ,Option.map_some,Option.map_none,Option.isNone_some,Option.isNone_none,forall_const,true_implies,false_implies,and_true,true_and,Bool.true_eq_false,Bool.false_eq_true,reduceCtorEq,noOwn,wipeS,hide,fuN_self,lcD,dYes,Nat.zero_add,Nat.reduceAdd,Nat.reduceLeDiff,Nat.reduceSub,atI_0,atI_1,atI_2,atI_3,atI_4,atI_5,Int.one_mul,eqv_ii,eqv_ss,eqv_num,shaped_int,shaped_num,shaped_none,shaped_ru,flat_str,flat_int,flat_none,List.all_cons,List.all_nil,Bool.and_true,decide_eq_true_eq,decide_eq_false_iff_not,Bool.not_eq_true',Bool.not_eq_false',Decidable.not_not,↓reduceIte,Bool.false_eq_true,Int.reduceLT,eqv_strs,pick_0,pick_01,pick_10,pick_012,pick_021,pick_102,pick_120,pick_201,pick_210]; simpa [isTy, isStp] using h
section
variable {P : Program} {w : World} {K : Fg} {mg : Str → Option Value} {base : Heap}
theorem d_is_step (T : Tx w K mg) {cdv : Value} {A : Around} {outer : List Env} {s : Shared} {H : Hp} {E : XK} (hr : Room 2 (A.deeper (envOfC "is_step" (defScope st_is_step) s.heap.objs.size T.f_is_step cdv))) (hgd : (A.deeper (envOfC "is_step" (defScope st_is_step) s.heap.objs.size T.f_is_step cdv)).guards = some []) :
    PSs (cxOf CX0 P w K mg base N_is_step "is_step" (defScope st_is_step) T.f_is_step cdv A outer s H E).nox (defBody st_is_step) (upS K W0 b_is_step) :=
  (ss_one (s_ret (e_and (e_isi kit_tuple (by rfl) T.n_isinstance (e_var 0 (pv 0)) (c_ty (by rfl) T.n_tuple (by decide +kernel))) (e_and (e_eq hr.units (e_len (by rfl) T.n_len (a_cons (e_var 0 (pv 0)) a_nil)) (e_glob (by rfl) T.c_PAIR_chains T.v_PAIR_chains T.r_PAIR_chains)) (e_and (e_call (ok_is_width T) (hr.mono (by decide)) hgd (by rfl) T.g_is_width T.F_is_width.kp T.b_is_width pass0 (a_cons (e_ix (e_var 0 (pv 0)) e_int) a_nil)) (e_one (e_call (ok_is_rule T) (hr.mono (by decide)) hgd (by rfl) T.g_is_rule T.F_is_rule.kp T.b_is_rule pass0 (a_cons (e_ix (e_var 0 (pv 0)) e_int) a_nil))))))))
theorem ok_is_step (T : Tx w K mg) : Fn P w K mg base CX0 3 T.f_is_step T.fd_is_step ["value"] (lift K 1 fs_is_step) := fn_data T.F_is_step sc_is_step b_is_step (fun _ _ _ _ _ _ hr hgd => d_is_step T hr hgd) p_is_step
end
def b_is_chain : DS :=
  (dRet (dAndV (dIsi "tuple" (dVar 0)) (dAndV (dChain oLe oLe (dC (.int 1)) (dCB cLen (dCons (dVar 0) dNil)) (dC (.int 12))) (dCB cAll (dCons (dFz (dLc [1] (dItems (dVar 0)) (dN 1) dYes (dCall 1 fs_is_step (dCons (dVar 1) dNil)))) dNil)))))
def isChn : Da → Bool
  | .tuple xs => decide (1 ≤ (xs.length : Int)) && decide ((xs.length : Int) ≤ 12) && xs.all isStp
  | _ => false
theorem isChn_ch {c : List (Int × Ru)} (h : c ≠ []) (hl : c.length ≤ 12) (hw : Wds c) : isChn (chD c) = true := by
  have h0 : 0 < c.length := List.length_pos_iff.mpr h
  simp only [isChn, chD, Bool.and_eq_true, decide_eq_true_eq, List.length_map]
  refine ⟨⟨by omega, by omega⟩, ?_⟩
  rw [List.all_map, List.all_eq_true]
  exact fun s hs => isStp_st (hw s hs)
theorem boolsD_map (f : Da → Bool) : ∀ ds : List Da, boolsD (ds.map fun d => .bool (f d)) = some (ds.map f)
  | [] => rfl
  | d :: ds => by
    have := boolsD_map f ds
    simp [boolsD, this]
def fs_is_chain : FSp := fun rs fu post => ∃ v, rs = [.val v] ∧ post (.val (.bool (isChn v))) fu
theorem p_is_chain (rs : List Rv) (fu : Option Nat) (post : Rr → Option Nat → Prop) (hl : rs.length = 1) (h : fs_is_chain rs fu post) : b_is_chain ⟨fun g => post (.val .none) g.fu, fun r g => post r g.fu, fun _ => False, fun _ => False⟩ (ent N_is_chain rs fu) := by
  obtain ⟨v, rfl, h⟩ := h
  cases v with
  | tuple xs =>
    simp only [↓dMHit,↓dMPutRet,↓dCallM,↓dPar3D,↓dMaxK,↓cMinDa,↓entM,↓dSeq,↓dAsg,↓dSetL,↓dNext,↓dIfS,↓dRet,↓dRetL,↓dDrop,↓dNever,↓dBrk,↓dAug,↓dPar,↓dParL,↓dApp,↓dVar,↓dC,↓dBin,↓fI,↓fI0,↓fAdd,↓fEq,↓fNe,↓fIn,↓dTest,↓dAndT,↓dOrT,↓dNotT,↓dAndV,↓dOrV,↓dNotV,↓dIf,↓dNeg,↓dIsN,↓dChain,↓dNil,↓dCons,↓dTup,↓dLst,↓dFz,↓valsD,↓dIx,↓dCall,↓dCallL,↓hasSrc,↓rrv,↓dN,↓dT,↓dTn,↓dTc,↓rsv,↓Gs.set,↓dFor,↓dItems,↓dRange1,↓dRange2,↓dZip,↓dLc,↓dCB,↓cLen,↓cAll,↓cTuple,↓cInt1,↓cInt2,↓dIsi,↓dBits,↓dCallS,↓oSub,↓oAddI,↓oMul,↓oDiv,↓oMod,↓oShl,↓oPow,↓oLt,↓oLe,↓oGt,↓oGe,↓oAbs,↓oMax,↓oMin,↓cMinL,↓fInD,↓dSl,↓oNo,↓oSo,↓dBy,↓fAddT,↓dSlT,↓dParR,↓dEnum,↓dRevL,↓gAs,↓Gs.unset,↓rtN,↓lamF,↓gLam,↓plainO,↓dGIx,↓dIxO,↓Z.isNon,b_is_chain,ent,svOf,List.map_cons,List.map_nil,List.cons_append,List.nil_append,List.append_nil,List.replicate,List.length_cons,List.length_nil,List.getElem?_cons_zero,List.getElem?_cons_succ,List.getElem?_nil,List.set_cons_zero,List.set_cons_succ,Option.map_some,Option.map_none,Option.isNone_some,Option.isNone_none,forall_const,true_implies,false_implies,and_true,true_and,Bool.true_eq_false,Bool.false_eq_true,reduceCtorEq,noOwn,wipeS,hide,fuN_self,lcD,dYes,Nat.zero_add,Nat.reduceAdd,Nat.reduceLeDiff,Nat.reduceSub,atI_0,atI_1,atI_2,atI_3,atI_4,atI_5,Int.one_mul,eqv_ii,eqv_ss,eqv_num,shaped_int,shaped_num,shaped_none,shaped_ru,flat_str,flat_int,flat_none,List.all_cons,List.all_nil,Bool.and_true,decide_eq_true_eq,decide_eq_false_iff_not,Bool.not_eq_true',Bool.not_eq_false',Decidable.not_not,↓reduceIte,Bool.false_eq_true,Int.reduceLT,eqv_strs,pick_0,pick_01,pick_10,pick_012,pick_021,pick_102,pick_120,pick_201,pick_210]
    refine ⟨fun _ => ?_, fun z => (by simp [isTy] at z)⟩
    by_cases h1 : 1 ≤ (xs.length : Int)
    · by_cases h2 : (xs.length : Int) ≤ 12
      · rw [decide_eq_true h1]
        refine ⟨fun _ => ?_, fun z => absurd h2 (by simpa using z)⟩
        refine lc_map (fun x => .bool (isStp x)) (fun x hx R hR => ?_) (by simp only [List.length_nil]; omega) ?_
        · simp only [↓dMHit,↓dMPutRet,↓dCallM,↓dPar3D,↓dMaxK,↓cMinDa,↓entM,↓dSeq,↓dAsg,↓dSetL,↓dNext,↓dIfS,↓dRet,↓dRetL,↓dDrop,↓dNever,↓dBrk,↓dAug,↓dPar,↓dParL,↓dApp,↓dVar,↓dC,↓dBin,↓fI,↓fI0,↓fAdd,↓fEq,↓fNe,↓fIn,↓dTest,↓dAndT,↓dOrT,↓dNotT,↓dAndV,↓dOrV,↓dNotV,↓dIf,↓dNeg,↓dIsN,↓dChain,↓dNil,↓dCons,↓dTup,↓dLst,↓dFz,↓valsD,↓dIx,↓dCall,↓dCallL,↓hasSrc,↓rrv,↓dN,↓dT,↓dTn,↓dTc,↓rsv,↓Gs.set,↓dFor,↓dItems,↓dRange1,↓dRange2,↓dZip,↓dLc,↓dCB,↓cLen,↓cAll,↓cTuple,↓cInt1,↓cInt2,↓dIsi,↓dBits,↓dCallS,↓oSub,↓oAddI,↓oMul,↓oDiv,↓oMod,↓oShl,↓oPow,↓oLt,↓oLe,↓oGt,↓oGe,↓oAbs,↓oMax,↓oMin,↓cMinL,↓fInD,↓dSl,↓oNo,↓oSo,↓dBy,↓fAddT,↓dSlT,↓dParR,↓dEnum,↓dRevL,↓gAs,↓Gs.unset,↓rtN,↓lamF,↓gLam,↓plainO,↓dGIx,↓dIxO,↓Z.isNon,fs_is_step,ent,svOf,List.map_cons,List.map_nil,List.cons_append,List.nil_append,List.append_nil,List.replicate,List.length_cons,List.length_nil,List.getElem?_cons_zero,List.getElem?_cons_succ,List.getElem?_nil,List.set_cons_zero,List.set_cons_succ,Option.map_some,Option.map_none,Option.isNone_some,Option.isNone_none,forall_const,true_implies,false_implies,and_true,true_and,Bool.true_eq_false,Bool.false_eq_true,reduceCtorEq,noOwn,wipeS,hide,fuN_self,lcD,dYes,Nat.zero_add,Nat.reduceAdd,Nat.reduceLeDiff,Nat.reduceSub,atI_0,atI_1,atI_2,atI_3,atI_4,atI_5,Int.one_mul,eqv_ii,eqv_ss,eqv_num,shaped_int,shaped_num,shaped_none,shaped_ru,flat_str,flat_int,flat_none,List.all_cons,List.all_nil,Bool.and_true,decide_eq_true_eq,decide_eq_false_iff_not,Bool.not_eq_true',Bool.not_eq_false',Decidable.not_not,↓reduceIte,Bool.false_eq_true,Int.reduceLT,eqv_strs,pick_0,pick_01,pick_10,pick_012,pick_021,pick_102,pick_120,pick_201,pick_210]
          exact ⟨x, rfl, hR _ rfl⟩
        · rw [List.nil_append, boolsD_map]
          simp only [isChn, h1, h2, decide_true, Bool.true_and] at h
          show post (.val (.bool ((List.map isStp xs).all id))) fu
          rw [List.all_map]
          exact h
      · rw [decide_eq_true h1]
        refine ⟨fun z => absurd (by simpa using z) h2, fun _ => ?_⟩
        simp only [isChn, h2, decide_false, Bool.and_false, Bool.false_and] at h
        exact h
    · rw [decide_eq_false h1]
      simp only [↓dMHit,↓dMPutRet,↓dCallM,↓dPar3D,↓dMaxK,↓cMinDa,↓entM,↓dSeq,↓dAsg,↓dSetL,↓dNext,↓dIfS,↓dRet,↓dRetL,↓dDrop,↓dNever,↓dBrk,↓dAug,↓dPar,↓dParL,↓dApp,↓dVar,↓dC,↓dBin,↓fI,↓fI0,↓fAdd,↓fEq,↓fNe,↓fIn,↓dTest,↓dAndT,↓dOrT,↓dNotT,↓dAndV,↓dOrV,↓dNotV,↓dIf,↓dNeg,↓dIsN,↓dChain,↓dNil,↓dCons,↓dTup,↓dLst,↓dFz,↓valsD,↓dIx,↓dCall,↓dCallL,↓hasSrc,↓rrv,↓dN,↓dT,↓dTn,↓dTc,↓rsv,↓Gs.set,↓dFor,↓dItems,↓dRange1,↓dRange2,↓dZip,↓dLc,↓dCB,↓cLen,↓cAll,↓cTuple,↓cInt1,↓cInt2,↓dIsi,↓dBits,↓dCallS,↓oSub,↓oAddI,↓oMul,↓oDiv,↓oMod,↓oShl,↓oPow,↓oLt,↓oLe,↓oGt,↓oGe,↓oAbs,↓oMax,↓oMin,↓cMinL,↓fInD,↓dSl,↓oNo,↓oSo,↓dBy,↓fAddT,↓dSlT,↓dParR,↓dEnum,↓dRevL,↓gAs,↓Gs.unset,↓rtN,↓lamF,↓gLam,↓plainO,↓dGIx,↓dIxO,↓Z.isNon,ent,svOf,List.map_cons,List.map_nil,List.cons_append,List.nil_append,List.append_nil,List.replicate,List.length_cons,List.length_nil,List.getElem?_cons_zero,List.getElem?_cons_succ,List.getElem?_nil,List.set_cons_zero,List.set_cons_succ,Option.map_some,Option.map_none,Option.isNone_some,Option.isNone_none,forall_const,true_implies,false_implies,and_true,true_and,Bool.true_eq_false,Bool.false_eq_true,reduceCtorEq,noOwn,wipeS,hide,fuN_self,lcD,dYes,Nat.zero_add,Nat.reduceAdd,Nat.reduceLeDiff,Nat.reduceSub,atI_0,atI_1,atI_2,atI_3,atI_4,atI_5,Int.one_mul,eqv_ii,eqv_ss,eqv_num,shaped_int,shaped_num,shaped_none,shaped_ru,flat_str,flat_int,flat_none,List.all_cons,List.all_nil,Bool.and_true,decide_eq_true_eq,decide_eq_false_iff_not,Bool.not_eq_true',Bool.not_eq_false',Decidable.not_not,↓reduceIte,Bool.false_eq_true,Int.reduceLT,eqv_strs,pick_0,pick_01,pick_10,pick_012,pick_021,pick_102,pick_120,pick_201,pick_210]
      simp only [isChn, h1, decide_false, Bool.and_false, Bool.false_and] at h
      exact h
  | _ => simp only [↓dMHit,↓dMPutRet,↓dCallM,↓dPar3D,↓dMaxK,↓cMinDa,↓entM,↓dSeq,↓dAsg,↓dSetL,↓dNext,↓dIfS,↓dRet,↓dRetL,↓dDrop,↓dNever,↓dBrk,↓dAug,↓dPar,↓dParL,↓dApp,↓dVar,↓dC,↓dBin,↓fI,↓fI0,↓fAdd,↓fEq,↓fNe,↓fIn,↓dTest,↓dAndT,↓dOrT,↓dNotT,↓dAndV,↓dOrV,↓dNotV,↓dIf,↓dNeg,↓dIsN,↓dChain,↓dNil,↓dCons,↓dTup,↓dLst,↓dFz,↓valsD,↓dIx,↓dCall,↓dCallL,↓hasSrc,↓rrv,↓dN,↓dT,↓dTn,↓dTc,↓rsv,↓Gs.set,↓dFor,↓dItems,↓dRange1,↓dRange2,↓dZip,↓dLc,↓dCB,↓cLen,↓cAll,↓cTuple,↓cInt1,↓cInt2,↓dIsi,↓dBits,↓dCallS,↓oSub,↓oAddI,↓oMul,↓oDiv,↓oMod,↓oShl,↓oPow,↓oLt,↓oLe,↓oGt,↓oGe,↓oAbs,↓oMax,↓oMin,↓cMinL,↓fInD,↓dSl,↓oNo,↓oSo,↓dBy,↓fAddT,↓dSlT,↓dParR,↓dEnum,↓dRevL,↓gAs,↓Gs.unset,↓rtN,↓lamF,↓gLam,↓plainO,↓dGIx,↓dIxO,↓Z.isNon,b_is_chain,ent,svOf,List.map_cons,List.map_nil,List.cons_append,List.nil_append,List.append_nil,List.replicate,List.length_cons,List.length_nil,List.getElem?_cons_zero,List.getElem?_cons_succ,List.getElem?_nil,List.set_cons_zero,List.set_cons_succ,Option.map_some,Option.map_none,Option.isNone_some,Option.isNone_none,forall_const,true_implies,false_implies,and_true,true_and,Bool.true_eq_false,Bool.false_eq_true,reduceCtorEq,noOwn,wipeS,hide,fuN_self,lcD,dYes,Nat.zero_add,Nat.reduceAdd,Nat.reduceLeDiff,Nat.reduceSub,atI_0,atI_1,atI_2,atI_3,atI_4,atI_5,Int.one_mul,eqv_ii,eqv_ss,eqv_num,shaped_int,shaped_num,shaped_none,shaped_ru,flat_str,flat_int,flat_none,List.all_cons,List.all_nil,Bool.and_true,decide_eq_true_eq,decide_eq_false_iff_not,Bool.not_eq_true',Bool.not_eq_false',Decidable.not_not,↓reduceIte,Bool.false_eq_true,Int.reduceLT,eqv_strs,pick_0,pick_01,pick_10,pick_012,pick_021,pick_102,pick_120,pick_201,pick_210]; simpa [isTy, isChn] using h
section
variable {P : Program} {w : World} {K : Fg} {mg : Str → Option Value} {base : Heap}
theorem d_is_chain (T : Tx w K mg) {cdv : Value} {A : Around} {outer : List Env} {s : Shared} {H : Hp} {E : XK} (hr : Room 3 (A.deeper (envOfC "is_chain" (defScope st_is_chain) s.heap.objs.size T.f_is_chain cdv))) (hgd : (A.deeper (envOfC "is_chain" (defScope st_is_chain) s.heap.objs.size T.f_is_chain cdv)).guards = some []) :
    PSs (cxOf CX0 P w K mg base N_is_chain "is_chain" (defScope st_is_chain) T.f_is_chain cdv A outer s H E).nox (defBody st_is_chain) (upS K W0 b_is_chain) :=
  (ss_one (s_ret (e_and (e_isi kit_tuple (by rfl) T.n_isinstance (e_var 0 (pv 0)) (c_ty (by rfl) T.n_tuple (by decide +kernel))) (e_and (e_lele e_int (e_len (by rfl) T.n_len (a_cons (e_var 0 (pv 0)) a_nil)) (e_glob (by rfl) T.c_MOST_STEPS T.v_MOST_STEPS T.r_MOST_STEPS)) (e_one (e_all rfl (by rfl) T.n_all (a_cons (e_fz (e_lc (own := [("step", 1)]) rfl sc_is_chain.nd (i_items (e_var 0 (pv 0))) (blkOk_by (own := [("step", 1)]) (N := N_is_chain) (sc := defScope st_is_chain) (by decide +kernel)) (fun _ _ _ _ _ => (gw_name rfl (pg_name (i := 1) sc_is_chain.nd rfl (.inl rfl)) (by decide))) (fun _ _ _ _ _ => ts_yes) (fun _ _ _ _ _ => (e_call (ok_is_step T) (hr.mono (by decide)) hgd (by rfl) T.g_is_step T.F_is_step.kp T.b_is_step pass0 (a_cons (e_var 1 (pv 1)) a_nil))))) a_nil)))))))
theorem ok_is_chain (T : Tx w K mg) : Fn P w K mg base CX0 4 T.f_is_chain T.fd_is_chain ["value"] (lift K 1 fs_is_chain) := fn_data T.F_is_chain sc_is_chain b_is_chain (fun _ _ _ _ _ _ hr hgd => d_is_chain T hr hgd) p_is_chain
end
def b_check_chain : DS :=
  (dIfS (dNotT (dTest (dCall 1 fs_is_chain (dCons (dVar 0) dNil))))
    dNever
    dNext)
theorem _root_.Z.Chn1.is {c : List (Int × Ru)} (h : Chn1 c) : isChn (chD c) = true := isChn_ch h.ne h.len h.w
def fs_check_chain : FSp := fun rs fu post => ∃ v, rs = [.val v] ∧ isChn v = true ∧ post (.val .none) fu
theorem p_check_chain (rs : List Rv) (fu : Option Nat) (post : Rr → Option Nat → Prop) (hl : rs.length = 1) (h : fs_check_chain rs fu post) : b_check_chain ⟨fun g => post (.val .none) g.fu, fun r g => post r g.fu, fun _ => False, fun _ => False⟩ (ent N_check_chain rs fu) := by
  obtain ⟨v, rfl, hv, h⟩ := h
  simp only [↓dMHit,↓dMPutRet,↓dCallM,↓dPar3D,↓dMaxK,↓cMinDa,↓entM,↓dSeq,↓dAsg,↓dSetL,↓dNext,↓dIfS,↓dRet,↓dRetL,↓dDrop,↓dNever,↓dBrk,↓dAug,↓dPar,↓dParL,↓dApp,↓dVar,↓dC,↓dBin,↓fI,↓fI0,↓fAdd,↓fEq,↓fNe,↓fIn,↓dTest,↓dAndT,↓dOrT,↓dNotT,↓dAndV,↓dOrV,↓dNotV,↓dIf,↓dNeg,↓dIsN,↓dChain,↓dNil,↓dCons,↓dTup,↓dLst,↓dFz,↓valsD,↓dIx,↓dCall,↓dCallL,↓hasSrc,↓rrv,↓dN,↓dT,↓dTn,↓dTc,↓rsv,↓Gs.set,↓dFor,↓dItems,↓dRange1,↓dRange2,↓dZip,↓dLc,↓dCB,↓cLen,↓cAll,↓cTuple,↓cInt1,↓cInt2,↓dIsi,↓dBits,↓dCallS,↓oSub,↓oAddI,↓oMul,↓oDiv,↓oMod,↓oShl,↓oPow,↓oLt,↓oLe,↓oGt,↓oGe,↓oAbs,↓oMax,↓oMin,↓cMinL,↓fInD,↓dSl,↓oNo,↓oSo,↓dBy,↓fAddT,↓dSlT,↓dParR,↓dEnum,↓dRevL,↓gAs,↓Gs.unset,↓rtN,↓lamF,↓gLam,↓plainO,↓dGIx,↓dIxO,↓Z.isNon,b_check_chain,fs_is_chain,ent,svOf,List.map_cons,List.map_nil,List.cons_append,List.nil_append,List.append_nil,List.replicate,List.length_cons,List.length_nil,List.getElem?_cons_zero,List.getElem?_cons_succ,List.getElem?_nil,List.set_cons_zero,List.set_cons_succ,Option.map_some,Option.map_none,Option.isNone_some,Option.isNone_none,forall_const,true_implies,false_implies,and_true,true_and,Bool.true_eq_false,Bool.false_eq_true,reduceCtorEq,noOwn,wipeS,hide,fuN_self,lcD,dYes,Nat.zero_add,Nat.reduceAdd,Nat.reduceLeDiff,Nat.reduceSub,atI_0,atI_1,atI_2,atI_3,atI_4,atI_5,Int.one_mul,eqv_ii,eqv_ss,eqv_num,shaped_int,shaped_num,shaped_none,shaped_ru,flat_str,flat_int,flat_none,List.all_cons,List.all_nil,Bool.and_true,decide_eq_true_eq,decide_eq_false_iff_not,Bool.not_eq_true',Bool.not_eq_false',Decidable.not_not,↓reduceIte,Bool.false_eq_true,Int.reduceLT,eqv_strs,pick_0,pick_01,pick_10,pick_012,pick_021,pick_102,pick_120,pick_201,pick_210]
  refine ⟨v, rfl, fun z => ?_, fun _ => h⟩
  rw [hv] at z
  exact absurd z (by decide)
section
variable {P : Program} {w : World} {K : Fg} {mg : Str → Option Value} {base : Heap}
theorem d_check_chain (T : Tx w K mg) {cdv : Value} {A : Around} {outer : List Env} {s : Shared} {H : Hp} {E : XK} (hr : Room 4 (A.deeper (envOfC "check_chain" (defScope st_check_chain) s.heap.objs.size T.f_check_chain cdv))) (hgd : (A.deeper (envOfC "check_chain" (defScope st_check_chain) s.heap.objs.size T.f_check_chain cdv)).guards = some []) :
    PSs (cxOf CX0 P w K mg base N_check_chain "check_chain" (defScope st_check_chain) T.f_check_chain cdv A outer s H E).nox (defBody st_check_chain) (upS K W0 b_check_chain) :=
  (ss_one (s_if (t_not (t_val (e_call (ok_is_chain T) (hr.mono (by decide)) hgd (by rfl) T.g_is_chain T.F_is_chain.kp T.b_is_chain pass0 (a_cons (e_var 0 (pv 0)) a_nil)))) (ss_one s_never) ss_nil))
theorem ok_check_chain (T : Tx w K mg) : Fn P w K mg base CX0 5 T.f_check_chain T.fd_check_chain ["value"] (lift K 1 fs_check_chain) := fn_data T.F_check_chain sc_check_chain b_check_chain (fun _ _ _ _ _ _ hr hgd => d_check_chain T hr hgd) p_check_chain
end
def b_last_width : DS :=
  (dSeq (dDrop (dCall 1 fs_check_chain (dCons (dVar 0) dNil)))
  (dRet (dCB cMinL (dCons (dFz (dLc [1, 2] (dItems (dVar 0)) (dT 2 (dTc (dN 1) (dTc (dN 2) dTn))) dYes (dVar 1))) dNil))))
def fs_last_width : FSp := fun rs fu post => ∃ c : List (Int × Ru), rs = [.val (chD c)] ∧ Chn1 c ∧ post (.val (.int (chT c).1)) fu
theorem p_last_width (rs : List Rv) (fu : Option Nat) (post : Rr → Option Nat → Prop) (hl : rs.length = 1) (h : fs_last_width rs fu post) : b_last_width ⟨fun g => post (.val .none) g.fu, fun r g => post r g.fu, fun _ => False, fun _ => False⟩ (ent N_last_width rs fu) := by
  obtain ⟨c, rfl, hc, h⟩ := h
  simp only [↓dMHit,↓dMPutRet,↓dCallM,↓dPar3D,↓dMaxK,↓cMinDa,↓entM,↓dSeq,↓dAsg,↓dSetL,↓dNext,↓dIfS,↓dRet,↓dRetL,↓dDrop,↓dNever,↓dBrk,↓dAug,↓dPar,↓dParL,↓dApp,↓dVar,↓dC,↓dBin,↓fI,↓fI0,↓fAdd,↓fEq,↓fNe,↓fIn,↓dTest,↓dAndT,↓dOrT,↓dNotT,↓dAndV,↓dOrV,↓dNotV,↓dIf,↓dNeg,↓dIsN,↓dChain,↓dNil,↓dCons,↓dTup,↓dLst,↓dFz,↓valsD,↓dIx,↓dCall,↓dCallL,↓hasSrc,↓rrv,↓dN,↓dT,↓dTn,↓dTc,↓rsv,↓Gs.set,↓dFor,↓dItems,↓dRange1,↓dRange2,↓dZip,↓dLc,↓dCB,↓cLen,↓cAll,↓cTuple,↓cInt1,↓cInt2,↓dIsi,↓dBits,↓dCallS,↓oSub,↓oAddI,↓oMul,↓oDiv,↓oMod,↓oShl,↓oPow,↓oLt,↓oLe,↓oGt,↓oGe,↓oAbs,↓oMax,↓oMin,↓cMinL,↓fInD,↓dSl,↓oNo,↓oSo,↓dBy,↓fAddT,↓dSlT,↓dParR,↓dEnum,↓dRevL,↓gAs,↓Gs.unset,↓rtN,↓lamF,↓gLam,↓plainO,↓dGIx,↓dIxO,↓Z.isNon,b_last_width,fs_check_chain,ent,svOf,List.map_cons,List.map_nil,List.cons_append,List.nil_append,List.append_nil,List.replicate,List.length_cons,List.length_nil,List.getElem?_cons_zero,List.getElem?_cons_succ,List.getElem?_nil,List.set_cons_zero,List.set_cons_succ,Option.map_some,Option.map_none,Option.isNone_some,Option.isNone_none,forall_const,true_implies,false_implies,and_true,true_and,Bool.true_eq_false,Bool.false_eq_true,reduceCtorEq,noOwn,wipeS,hide,fuN_self,lcD,dYes,Nat.zero_add,Nat.reduceAdd,Nat.reduceLeDiff,Nat.reduceSub,atI_0,atI_1,atI_2,atI_3,atI_4,atI_5,Int.one_mul,eqv_ii,eqv_ss,eqv_num,shaped_int,shaped_num,shaped_none,shaped_ru,flat_str,flat_int,flat_none,List.all_cons,List.all_nil,Bool.and_true,decide_eq_true_eq,decide_eq_false_iff_not,Bool.not_eq_true',Bool.not_eq_false',Decidable.not_not,↓reduceIte,Bool.false_eq_true,Int.reduceLT,eqv_strs,pick_0,pick_01,pick_10,pick_012,pick_021,pick_102,pick_120,pick_201,pick_210]
  refine ⟨_, rfl, hc.is, ?_⟩
  unfold chD
  simp only [↓dMHit,↓dMPutRet,↓dCallM,↓dPar3D,↓dMaxK,↓cMinDa,↓entM,↓dSeq,↓dAsg,↓dSetL,↓dNext,↓dIfS,↓dRet,↓dRetL,↓dDrop,↓dNever,↓dBrk,↓dAug,↓dPar,↓dParL,↓dApp,↓dVar,↓dC,↓dBin,↓fI,↓fI0,↓fAdd,↓fEq,↓fNe,↓fIn,↓dTest,↓dAndT,↓dOrT,↓dNotT,↓dAndV,↓dOrV,↓dNotV,↓dIf,↓dNeg,↓dIsN,↓dChain,↓dNil,↓dCons,↓dTup,↓dLst,↓dFz,↓valsD,↓dIx,↓dCall,↓dCallL,↓hasSrc,↓rrv,↓dN,↓dT,↓dTn,↓dTc,↓rsv,↓Gs.set,↓dFor,↓dItems,↓dRange1,↓dRange2,↓dZip,↓dLc,↓dCB,↓cLen,↓cAll,↓cTuple,↓cInt1,↓cInt2,↓dIsi,↓dBits,↓dCallS,↓oSub,↓oAddI,↓oMul,↓oDiv,↓oMod,↓oShl,↓oPow,↓oLt,↓oLe,↓oGt,↓oGe,↓oAbs,↓oMax,↓oMin,↓cMinL,↓fInD,↓dSl,↓oNo,↓oSo,↓dBy,↓fAddT,↓dSlT,↓dParR,↓dEnum,↓dRevL,↓gAs,↓Gs.unset,↓rtN,↓lamF,↓gLam,↓plainO,↓dGIx,↓dIxO,↓Z.isNon,ent,svOf,List.map_cons,List.map_nil,List.cons_append,List.nil_append,List.append_nil,List.replicate,List.length_cons,List.length_nil,List.getElem?_cons_zero,List.getElem?_cons_succ,List.getElem?_nil,List.set_cons_zero,List.set_cons_succ,Option.map_some,Option.map_none,Option.isNone_some,Option.isNone_none,forall_const,true_implies,false_implies,and_true,true_and,Bool.true_eq_false,Bool.false_eq_true,reduceCtorEq,noOwn,wipeS,hide,fuN_self,lcD,dYes,Nat.zero_add,Nat.reduceAdd,Nat.reduceLeDiff,Nat.reduceSub,atI_0,atI_1,atI_2,atI_3,atI_4,atI_5,Int.one_mul,eqv_ii,eqv_ss,eqv_num,shaped_int,shaped_num,shaped_none,shaped_ru,flat_str,flat_int,flat_none,List.all_cons,List.all_nil,Bool.and_true,decide_eq_true_eq,decide_eq_false_iff_not,Bool.not_eq_true',Bool.not_eq_false',Decidable.not_not,↓reduceIte,Bool.false_eq_true,Int.reduceLT,eqv_strs,pick_0,pick_01,pick_10,pick_012,pick_021,pick_102,pick_120,pick_201,pick_210]
  refine lc_mapT (fun d => match d with | .tuple (x :: _) => x | _ => .none) (fun x hx R N hR => ?_) (by have := hc.len; simp; omega) ?_
  · obtain ⟨s, hs, rfl⟩ := List.mem_map.mp hx
    unfold stD at hR ⊢
    simp only [↓dMHit,↓dMPutRet,↓dCallM,↓dPar3D,↓dMaxK,↓cMinDa,↓entM,↓dSeq,↓dAsg,↓dSetL,↓dNext,↓dIfS,↓dRet,↓dRetL,↓dDrop,↓dNever,↓dBrk,↓dAug,↓dPar,↓dParL,↓dApp,↓dVar,↓dC,↓dBin,↓fI,↓fI0,↓fAdd,↓fEq,↓fNe,↓fIn,↓dTest,↓dAndT,↓dOrT,↓dNotT,↓dAndV,↓dOrV,↓dNotV,↓dIf,↓dNeg,↓dIsN,↓dChain,↓dNil,↓dCons,↓dTup,↓dLst,↓dFz,↓valsD,↓dIx,↓dCall,↓dCallL,↓hasSrc,↓rrv,↓dN,↓dT,↓dTn,↓dTc,↓rsv,↓Gs.set,↓dFor,↓dItems,↓dRange1,↓dRange2,↓dZip,↓dLc,↓dCB,↓cLen,↓cAll,↓cTuple,↓cInt1,↓cInt2,↓dIsi,↓dBits,↓dCallS,↓oSub,↓oAddI,↓oMul,↓oDiv,↓oMod,↓oShl,↓oPow,↓oLt,↓oLe,↓oGt,↓oGe,↓oAbs,↓oMax,↓oMin,↓cMinL,↓fInD,↓dSl,↓oNo,↓oSo,↓dBy,↓fAddT,↓dSlT,↓dParR,↓dEnum,↓dRevL,↓gAs,↓Gs.unset,↓rtN,↓lamF,↓gLam,↓plainO,↓dGIx,↓dIxO,↓Z.isNon,ent,svOf,List.map_cons,List.map_nil,List.cons_append,List.nil_append,List.append_nil,List.replicate,List.length_cons,List.length_nil,List.getElem?_cons_zero,List.getElem?_cons_succ,List.getElem?_nil,List.set_cons_zero,List.set_cons_succ,Option.map_some,Option.map_none,Option.isNone_some,Option.isNone_none,forall_const,true_implies,false_implies,and_true,true_and,Bool.true_eq_false,Bool.false_eq_true,reduceCtorEq,noOwn,wipeS,hide,fuN_self,lcD,dYes,Nat.zero_add,Nat.reduceAdd,Nat.reduceLeDiff,Nat.reduceSub,atI_0,atI_1,atI_2,atI_3,atI_4,atI_5,Int.one_mul,eqv_ii,eqv_ss,eqv_num,shaped_int,shaped_num,shaped_none,shaped_ru,flat_str,flat_int,flat_none,List.all_cons,List.all_nil,Bool.and_true,decide_eq_true_eq,decide_eq_false_iff_not,Bool.not_eq_true',Bool.not_eq_false',Decidable.not_not,↓reduceIte,Bool.false_eq_true,Int.reduceLT,eqv_strs,pick_0,pick_01,pick_10,pick_012,pick_021,pick_102,pick_120,pick_201,pick_210]
    exact hR _ rfl
  · have e : List.map (fun d => match d with | .tuple (x :: _) => x | _ => .none) (c.map stD) = (c.map Prod.fst).map PyData.int := by
      rw [List.map_map, List.map_map]
      rfl
    rw [List.nil_append, e, intsD_map]
    obtain ⟨m1, s, hs, m2⟩ := chT_min hc.ne
    refine ⟨by rw [List.length_map]; exact List.length_pos_iff.mpr hc.ne, fun m hm hy => ?_⟩
    obtain ⟨t, ht, rfl⟩ := List.mem_map.mp hm
    have a := hy s.1 (List.mem_map_of_mem hs)
    have b := m1 t ht
    have : t.1 = (chT c).1 := by omega
    rw [this]
    exact h
section
variable {P : Program} {w : World} {K : Fg} {mg : Str → Option Value} {base : Heap}
theorem d_last_width (T : Tx w K mg) {cdv : Value} {A : Around} {outer : List Env} {s : Shared} {H : Hp} {E : XK} (hr : Room 5 (A.deeper (envOfC "last_width" (defScope st_last_width) s.heap.objs.size T.f_last_width cdv))) (hgd : (A.deeper (envOfC "last_width" (defScope st_last_width) s.heap.objs.size T.f_last_width cdv)).guards = some []) :
    PSs (cxOf CX0 P w K mg base N_last_width "last_width" (defScope st_last_width) T.f_last_width cdv A outer s H E).nox (defBody st_last_width) (upS K W0 b_last_width) :=
  (ss_cons (s_expr (e_call (ok_check_chain T) (hr.mono (by decide)) hgd (by rfl) T.g_check_chain T.F_check_chain.kp T.b_check_chain pass0 (a_cons (e_var 0 (pv 0)) a_nil)))
    (ss_one (s_ret (e_minL rfl (by rfl) T.n_min (a_cons (e_fz (e_lc (own := [("width", 1), ("rule", 2)]) rfl sc_last_width.nd (i_items (e_var 0 (pv 0))) (blkOk_by (own := [("width", 1), ("rule", 2)]) (N := N_last_width) (sc := defScope st_last_width) (by decide +kernel)) (fun _ _ _ _ _ => (gw_tup rfl rfl (gsw_cons (gw_name rfl (pg_name (i := 1) sc_last_width.nd rfl (.inl rfl)) (by decide)) (gsw_cons (gw_name rfl (pg_name (i := 2) sc_last_width.nd rfl (.inl rfl)) (by decide)) gsw_nil)))) (fun _ _ _ _ _ => ts_yes) (fun _ _ _ _ _ => (e_var 1 (pv 1))))) a_nil)))))
theorem ok_last_width (T : Tx w K mg) : Fn P w K mg base CX0 6 T.f_last_width T.fd_last_width ["chain"] (lift K 1 fs_last_width) := fn_data T.F_last_width sc_last_width b_last_width (fun _ _ _ _ _ _ hr hgd => d_last_width T hr hgd) p_last_width
end
def b_stages : DS :=
  (dSeq (dDrop (dCall 1 fs_check_number (dCons (dVar 0) dNil)))
  (dSeq (dDrop (dCall 1 fs_check_chain (dCons (dVar 1) dNil)))
  (dSeq (dSetL 2 (dLst dNil))
  (dSeq (dFor (dItems (dVar 1)) (dT 2 (dTc (dN 3) (dTc (dN 4) dTn)))
    (dSeq (dAsg (dCall 3 fs_round_once (dCons (dVar 0) (dCons (dVar 3) (dCons (dVar 4) dNil)))) (dN 0))
  (dApp 2 (dVar 0))))
  (dRet (dCB cTuple (dCons (dVar 2) dNil)))))))
def stagD (n d : Int) (c : List (Int × Ru)) : List Da := (stagI n d c).map nm
def fs_stages : FSp := fun rs fu post => ∃ (n d : Int) (c : List (Int × Ru)), rs = [.val (num n d), .val (chD c)] ∧ NuB 1000 n d ∧ Chn1 c ∧ post (.val (.tuple (stagD n d c))) fu
def stgB : DS := (dSeq (dAsg (dCall 3 fs_round_once (dCons (dVar 0) (dCons (dVar 3) (dCons (dVar 4) dNil)))) (dN 0))
  (dApp 2 (dVar 0)))
theorem p_stgB {D : DEnds} {x : Option Sv} {fu : Option Nat} : ∀ {c : List (Int × Ru)} {n d : Int} {acc : List Da} {y z : Option Sv}, Wds c → NuB 1000 n d → acc.length + c.length ≤ 100 →
    (∀ (n' d' : Int) (y z : Option Sv), D.nx ⟨[some (.val (num n' d')), x, some (.own (acc ++ stagD n d c)), y, z], fu, fu.isNone⟩) →
    forD (dT 2 (dTc (dN 3) (dTc (dN 4) dTn))) stgB (c.map stD) D ⟨[some (.val (num n d)), x, some (.own acc), y, z], fu, fu.isNone⟩
  | [], n, d, acc, y, z, _, _, _, h => by
    have := h n d y z
    rw [show stagD n d [] = [] from rfl, List.append_nil] at this
    exact this
  | s :: c, n, d, acc, y, z, hw, hn, hl, h => by
    obtain ⟨w1, w2⟩ := hw.hd
    have ih := p_stgB (D := D) (x := x) (fu := fu) (c := c) (n := (roundI n d s.1 s.2).1) (d := (roundI n d s.1 s.2).2) (acc := acc ++ [nm (roundI n d s.1 s.2)]) (y := some (.val (.int s.1))) (z := some (.val (.str s.2.s))) hw.tl (hn.round s.2 w1 w2) (by simp only [List.length_append, List.length_cons, List.length_nil] at hl ⊢; omega) (fun n' d' y z => by
      have := h n' d' y z
      rw [show stagD n d (s :: c) = nm (roundI n d s.1 s.2) :: stagD (roundI n d s.1 s.2).1 (roundI n d s.1 s.2).2 c from rfl] at this
      rw [List.append_assoc]
      exact this)
    show dT 2 _ (.val (stD s)) _ _
    unfold stD
    simp only [↓dMHit,↓dMPutRet,↓dCallM,↓dPar3D,↓dMaxK,↓cMinDa,↓entM,↓dSeq,↓dAsg,↓dSetL,↓dNext,↓dIfS,↓dRet,↓dRetL,↓dDrop,↓dNever,↓dBrk,↓dAug,↓dPar,↓dParL,↓dApp,↓dVar,↓dC,↓dBin,↓fI,↓fI0,↓fAdd,↓fEq,↓fNe,↓fIn,↓dTest,↓dAndT,↓dOrT,↓dNotT,↓dAndV,↓dOrV,↓dNotV,↓dIf,↓dNeg,↓dIsN,↓dChain,↓dNil,↓dCons,↓dTup,↓dLst,↓dFz,↓valsD,↓dIx,↓dCall,↓dCallL,↓hasSrc,↓rrv,↓dN,↓dT,↓dTn,↓dTc,↓rsv,↓Gs.set,↓dFor,↓dItems,↓dRange1,↓dRange2,↓dZip,↓dLc,↓dCB,↓cLen,↓cAll,↓cTuple,↓cInt1,↓cInt2,↓dIsi,↓dBits,↓dCallS,↓oSub,↓oAddI,↓oMul,↓oDiv,↓oMod,↓oShl,↓oPow,↓oLt,↓oLe,↓oGt,↓oGe,↓oAbs,↓oMax,↓oMin,↓cMinL,↓fInD,↓dSl,↓oNo,↓oSo,↓dBy,↓fAddT,↓dSlT,↓dParR,↓dEnum,↓dRevL,↓gAs,↓Gs.unset,↓rtN,↓lamF,↓gLam,↓plainO,↓dGIx,↓dIxO,↓Z.isNon,stgB,fs_round_once,ent,svOf,List.map_cons,List.map_nil,List.cons_append,List.nil_append,List.append_nil,List.replicate,List.length_cons,List.length_nil,List.getElem?_cons_zero,List.getElem?_cons_succ,List.getElem?_nil,List.set_cons_zero,List.set_cons_succ,Option.map_some,Option.map_none,Option.isNone_some,Option.isNone_none,forall_const,true_implies,false_implies,and_true,true_and,Bool.true_eq_false,Bool.false_eq_true,reduceCtorEq,noOwn,wipeS,hide,fuN_self,lcD,dYes,Nat.zero_add,Nat.reduceAdd,Nat.reduceLeDiff,Nat.reduceSub,atI_0,atI_1,atI_2,atI_3,atI_4,atI_5,Int.one_mul,eqv_ii,eqv_ss,eqv_num,shaped_int,shaped_num,shaped_none,shaped_ru,flat_str,flat_int,flat_none,List.all_cons,List.all_nil,Bool.and_true,decide_eq_true_eq,decide_eq_false_iff_not,Bool.not_eq_true',Bool.not_eq_false',Decidable.not_not,↓reduceIte,Bool.false_eq_true,Int.reduceLT,eqv_strs,pick_0,pick_01,pick_10,pick_012,pick_021,pick_102,pick_120,pick_201,pick_210]
    refine ⟨n, d, s.1, s.2, rfl, hn.nu.n0, hn.bn.mono (by decide), hn.nu.d0, hn.bd.mono (by decide), w1, w2, ⟨_, rfl⟩, by simp only [List.length_cons] at hl; omega, ?_⟩
    exact ih
theorem p_stages (rs : List Rv) (fu : Option Nat) (post : Rr → Option Nat → Prop) (hl : rs.length = 2) (h : fs_stages rs fu post) : b_stages ⟨fun g => post (.val .none) g.fu, fun r g => post r g.fu, fun _ => False, fun _ => False⟩ (ent N_stages rs fu) := by
  obtain ⟨n, d, c, rfl, hn, hc, h⟩ := h
  simp only [↓dMHit,↓dMPutRet,↓dCallM,↓dPar3D,↓dMaxK,↓cMinDa,↓entM,↓dSeq,↓dAsg,↓dSetL,↓dNext,↓dIfS,↓dRet,↓dRetL,↓dDrop,↓dNever,↓dBrk,↓dAug,↓dPar,↓dParL,↓dApp,↓dVar,↓dC,↓dBin,↓fI,↓fI0,↓fAdd,↓fEq,↓fNe,↓fIn,↓dTest,↓dAndT,↓dOrT,↓dNotT,↓dAndV,↓dOrV,↓dNotV,↓dIf,↓dNeg,↓dIsN,↓dChain,↓dNil,↓dCons,↓dTup,↓dLst,↓dFz,↓valsD,↓dIx,↓dCall,↓dCallL,↓hasSrc,↓rrv,↓dN,↓dT,↓dTn,↓dTc,↓rsv,↓Gs.set,↓dFor,↓dItems,↓dRange1,↓dRange2,↓dZip,↓dLc,↓dCB,↓cLen,↓cAll,↓cTuple,↓cInt1,↓cInt2,↓dIsi,↓dBits,↓dCallS,↓oSub,↓oAddI,↓oMul,↓oDiv,↓oMod,↓oShl,↓oPow,↓oLt,↓oLe,↓oGt,↓oGe,↓oAbs,↓oMax,↓oMin,↓cMinL,↓fInD,↓dSl,↓oNo,↓oSo,↓dBy,↓fAddT,↓dSlT,↓dParR,↓dEnum,↓dRevL,↓gAs,↓Gs.unset,↓rtN,↓lamF,↓gLam,↓plainO,↓dGIx,↓dIxO,↓Z.isNon,b_stages,fs_check_number,fs_check_chain,ent,svOf,List.map_cons,List.map_nil,List.cons_append,List.nil_append,List.append_nil,List.replicate,List.length_cons,List.length_nil,List.getElem?_cons_zero,List.getElem?_cons_succ,List.getElem?_nil,List.set_cons_zero,List.set_cons_succ,Option.map_some,Option.map_none,Option.isNone_some,Option.isNone_none,forall_const,true_implies,false_implies,and_true,true_and,Bool.true_eq_false,Bool.false_eq_true,reduceCtorEq,noOwn,wipeS,hide,fuN_self,lcD,dYes,Nat.zero_add,Nat.reduceAdd,Nat.reduceLeDiff,Nat.reduceSub,atI_0,atI_1,atI_2,atI_3,atI_4,atI_5,Int.one_mul,eqv_ii,eqv_ss,eqv_num,shaped_int,shaped_num,shaped_none,shaped_ru,flat_str,flat_int,flat_none,List.all_cons,List.all_nil,Bool.and_true,decide_eq_true_eq,decide_eq_false_iff_not,Bool.not_eq_true',Bool.not_eq_false',Decidable.not_not,↓reduceIte,Bool.false_eq_true,Int.reduceLT,eqv_strs,pick_0,pick_01,pick_10,pick_012,pick_021,pick_102,pick_120,pick_201,pick_210]
  refine ⟨_, rfl, hn.is, _, rfl, hc.is, ?_⟩
  unfold chD
  simp only [↓dMHit,↓dMPutRet,↓dCallM,↓dPar3D,↓dMaxK,↓cMinDa,↓entM,↓dSeq,↓dAsg,↓dSetL,↓dNext,↓dIfS,↓dRet,↓dRetL,↓dDrop,↓dNever,↓dBrk,↓dAug,↓dPar,↓dParL,↓dApp,↓dVar,↓dC,↓dBin,↓fI,↓fI0,↓fAdd,↓fEq,↓fNe,↓fIn,↓dTest,↓dAndT,↓dOrT,↓dNotT,↓dAndV,↓dOrV,↓dNotV,↓dIf,↓dNeg,↓dIsN,↓dChain,↓dNil,↓dCons,↓dTup,↓dLst,↓dFz,↓valsD,↓dIx,↓dCall,↓dCallL,↓hasSrc,↓rrv,↓dN,↓dT,↓dTn,↓dTc,↓rsv,↓Gs.set,↓dFor,↓dItems,↓dRange1,↓dRange2,↓dZip,↓dLc,↓dCB,↓cLen,↓cAll,↓cTuple,↓cInt1,↓cInt2,↓dIsi,↓dBits,↓dCallS,↓oSub,↓oAddI,↓oMul,↓oDiv,↓oMod,↓oShl,↓oPow,↓oLt,↓oLe,↓oGt,↓oGe,↓oAbs,↓oMax,↓oMin,↓cMinL,↓fInD,↓dSl,↓oNo,↓oSo,↓dBy,↓fAddT,↓dSlT,↓dParR,↓dEnum,↓dRevL,↓gAs,↓Gs.unset,↓rtN,↓lamF,↓gLam,↓plainO,↓dGIx,↓dIxO,↓Z.isNon,ent,svOf,List.map_cons,List.map_nil,List.cons_append,List.nil_append,List.append_nil,List.replicate,List.length_cons,List.length_nil,List.getElem?_cons_zero,List.getElem?_cons_succ,List.getElem?_nil,List.set_cons_zero,List.set_cons_succ,Option.map_some,Option.map_none,Option.isNone_some,Option.isNone_none,forall_const,true_implies,false_implies,and_true,true_and,Bool.true_eq_false,Bool.false_eq_true,reduceCtorEq,noOwn,wipeS,hide,fuN_self,lcD,dYes,Nat.zero_add,Nat.reduceAdd,Nat.reduceLeDiff,Nat.reduceSub,atI_0,atI_1,atI_2,atI_3,atI_4,atI_5,Int.one_mul,eqv_ii,eqv_ss,eqv_num,shaped_int,shaped_num,shaped_none,shaped_ru,flat_str,flat_int,flat_none,List.all_cons,List.all_nil,Bool.and_true,decide_eq_true_eq,decide_eq_false_iff_not,Bool.not_eq_true',Bool.not_eq_false',Decidable.not_not,↓reduceIte,Bool.false_eq_true,Int.reduceLT,eqv_strs,pick_0,pick_01,pick_10,pick_012,pick_021,pick_102,pick_120,pick_201,pick_210]
  refine p_stgB hc.w hn (by have := hc.len; simp; omega) fun n' d' y z => ?_
  simp only [↓dMHit,↓dMPutRet,↓dCallM,↓dPar3D,↓dMaxK,↓cMinDa,↓entM,↓dSeq,↓dAsg,↓dSetL,↓dNext,↓dIfS,↓dRet,↓dRetL,↓dDrop,↓dNever,↓dBrk,↓dAug,↓dPar,↓dParL,↓dApp,↓dVar,↓dC,↓dBin,↓fI,↓fI0,↓fAdd,↓fEq,↓fNe,↓fIn,↓dTest,↓dAndT,↓dOrT,↓dNotT,↓dAndV,↓dOrV,↓dNotV,↓dIf,↓dNeg,↓dIsN,↓dChain,↓dNil,↓dCons,↓dTup,↓dLst,↓dFz,↓valsD,↓dIx,↓dCall,↓dCallL,↓hasSrc,↓rrv,↓dN,↓dT,↓dTn,↓dTc,↓rsv,↓Gs.set,↓dFor,↓dItems,↓dRange1,↓dRange2,↓dZip,↓dLc,↓dCB,↓cLen,↓cAll,↓cTuple,↓cInt1,↓cInt2,↓dIsi,↓dBits,↓dCallS,↓oSub,↓oAddI,↓oMul,↓oDiv,↓oMod,↓oShl,↓oPow,↓oLt,↓oLe,↓oGt,↓oGe,↓oAbs,↓oMax,↓oMin,↓cMinL,↓fInD,↓dSl,↓oNo,↓oSo,↓dBy,↓fAddT,↓dSlT,↓dParR,↓dEnum,↓dRevL,↓gAs,↓Gs.unset,↓rtN,↓lamF,↓gLam,↓plainO,↓dGIx,↓dIxO,↓Z.isNon,ent,svOf,List.map_cons,List.map_nil,List.cons_append,List.nil_append,List.append_nil,List.replicate,List.length_cons,List.length_nil,List.getElem?_cons_zero,List.getElem?_cons_succ,List.getElem?_nil,List.set_cons_zero,List.set_cons_succ,Option.map_some,Option.map_none,Option.isNone_some,Option.isNone_none,forall_const,true_implies,false_implies,and_true,true_and,Bool.true_eq_false,Bool.false_eq_true,reduceCtorEq,noOwn,wipeS,hide,fuN_self,lcD,dYes,Nat.zero_add,Nat.reduceAdd,Nat.reduceLeDiff,Nat.reduceSub,atI_0,atI_1,atI_2,atI_3,atI_4,atI_5,Int.one_mul,eqv_ii,eqv_ss,eqv_num,shaped_int,shaped_num,shaped_none,shaped_ru,flat_str,flat_int,flat_none,List.all_cons,List.all_nil,Bool.and_true,decide_eq_true_eq,decide_eq_false_iff_not,Bool.not_eq_true',Bool.not_eq_false',Decidable.not_not,↓reduceIte,Bool.false_eq_true,Int.reduceLT,eqv_strs,pick_0,pick_01,pick_10,pick_012,pick_021,pick_102,pick_120,pick_201,pick_210]
  exact h
section
variable {P : Program} {w : World} {K : Fg} {mg : Str → Option Value} {base : Heap}
theorem d_stages (T : Tx w K mg) {cdv : Value} {A : Around} {outer : List Env} {s : Shared} {H : Hp} {E : XK} (hr : Room 5 (A.deeper (envOfC "stages" (defScope st_stages) s.heap.objs.size T.f_stages cdv))) (hgd : (A.deeper (envOfC "stages" (defScope st_stages) s.heap.objs.size T.f_stages cdv)).guards = some []) :
    PSs (cxOf CX0 P w K mg base N_stages "stages" (defScope st_stages) T.f_stages cdv A outer s H E).nox (defBody st_stages) (upS K W0 b_stages) :=
  (ss_cons (s_expr (e_call (ok_check_number T) (hr.mono (by decide)) hgd (by rfl) T.g_check_number T.F_check_number.kp T.b_check_number pass0 (a_cons (e_var 0 (pv 0)) a_nil)))
    (ss_cons (s_expr (e_call (ok_check_chain T) (hr.mono (by decide)) hgd (by rfl) T.g_check_chain T.F_check_chain.kp T.b_check_chain pass0 (a_cons (e_var 1 (pv 1)) a_nil)))
    (ss_cons (s_setL (i := 2) sc_stages.nd rfl (.inl rfl) (e_lstL a_nil))
    (ss_cons (s_for PassesOwn.never rfl (i_items (e_var 1 (pv 1))) (g_tup rfl (gs_cons (g_name (pg_name (i := 3) sc_stages.nd rfl (.inl rfl))) (gs_cons (g_name (pg_name (i := 4) sc_stages.nd rfl (.inl rfl))) gs_nil))) (ss_cons (s_set (i := 0) sc_stages.nd rfl (.inl rfl) (e_call (ok_round_once T) (hr.mono (by decide)) hgd (by rfl) T.g_round_once T.F_round_once.kp T.b_round_once pass0 (a_cons (e_var 0 (pv 0)) (a_cons (e_var 3 (pv 3)) (a_cons (e_var 4 (pv 4)) a_nil)))))
    (ss_one (s_app (name := "x") (pv 2) (e_var 0 (pv 0)) (fun h => pe_bm PySem.F.plainAttrs_list PySem.F.slot_list_append PySem.F.type_list_append mt_append (pv 2) h)))))
    (ss_one (s_ret (e_tuple (by rfl) T.n_tuple (a_cons (e_var 2 (pv 2)) a_nil))))))))
theorem ok_stages (T : Tx w K mg) : Fn P w K mg base CX0 6 T.f_stages T.fd_stages ["number", "chain"] (lift K 2 fs_stages) := fn_data T.F_stages sc_stages b_stages (fun _ _ _ _ _ _ hr hgd => d_stages T hr hgd) p_stages
end
def b_applied : DS :=
  (dRet (dIx (dCall 2 fs_stages (dCons (dVar 0) (dCons (dVar 1) dNil))) (dNeg (dC (.int 1)))))
theorem stag_last : ∀ {c : List (Int × Ru)} {n d : Int}, c ≠ [] → (stagI n d c).getLast? = some (applI n d c)
  | [], _, _, h => absurd rfl h
  | [s], n, d, _ => by
    rw [stagI, stagI, applI, applI]
    rfl
  | s :: t :: c, n, d, _ => by
    have := stag_last (c := t :: c) (n := (roundI n d s.1 s.2).1) (d := (roundI n d s.1 s.2).2) (by simp)
    rw [stagI, applI, ← this, stagI, List.getLast?_cons_cons]
theorem atI_last {α : Type} {xs : List α} {x : α} (h : xs.getLast? = some x) : atI xs (-1) = some x := by
  have h0 : xs ≠ [] := fun e => by subst e; cases h
  have hl : 0 < xs.length := List.length_pos_iff.mpr h0
  have e : ixN xs.length (-1) = some (xs.length - 1) := by
    unfold ixN
    rw [if_neg (by decide), if_pos (by omega)]
    congr 1
    omega
  unfold atI
  rw [e]
  rw [List.getLast?_eq_getElem?] at h
  exact h
def fs_applied : FSp := fun rs fu post => ∃ (n d : Int) (c : List (Int × Ru)), rs = [.val (num n d), .val (chD c)] ∧ NuB 1000 n d ∧ Chn1 c ∧ post (.val (nm (applI n d c))) fu
theorem p_applied (rs : List Rv) (fu : Option Nat) (post : Rr → Option Nat → Prop) (hl : rs.length = 2) (h : fs_applied rs fu post) : b_applied ⟨fun g => post (.val .none) g.fu, fun r g => post r g.fu, fun _ => False, fun _ => False⟩ (ent N_applied rs fu) := by
  obtain ⟨n, d, c, rfl, hn, hc, h⟩ := h
  simp only [↓dMHit,↓dMPutRet,↓dCallM,↓dPar3D,↓dMaxK,↓cMinDa,↓entM,↓dSeq,↓dAsg,↓dSetL,↓dNext,↓dIfS,↓dRet,↓dRetL,↓dDrop,↓dNever,↓dBrk,↓dAug,↓dPar,↓dParL,↓dApp,↓dVar,↓dC,↓dBin,↓fI,↓fI0,↓fAdd,↓fEq,↓fNe,↓fIn,↓dTest,↓dAndT,↓dOrT,↓dNotT,↓dAndV,↓dOrV,↓dNotV,↓dIf,↓dNeg,↓dIsN,↓dChain,↓dNil,↓dCons,↓dTup,↓dLst,↓dFz,↓valsD,↓dIx,↓dCall,↓dCallL,↓hasSrc,↓rrv,↓dN,↓dT,↓dTn,↓dTc,↓rsv,↓Gs.set,↓dFor,↓dItems,↓dRange1,↓dRange2,↓dZip,↓dLc,↓dCB,↓cLen,↓cAll,↓cTuple,↓cInt1,↓cInt2,↓dIsi,↓dBits,↓dCallS,↓oSub,↓oAddI,↓oMul,↓oDiv,↓oMod,↓oShl,↓oPow,↓oLt,↓oLe,↓oGt,↓oGe,↓oAbs,↓oMax,↓oMin,↓cMinL,↓fInD,↓dSl,↓oNo,↓oSo,↓dBy,↓fAddT,↓dSlT,↓dParR,↓dEnum,↓dRevL,↓gAs,↓Gs.unset,↓rtN,↓lamF,↓gLam,↓plainO,↓dGIx,↓dIxO,↓Z.isNon,b_applied,fs_stages,ent,svOf,List.map_cons,List.map_nil,List.cons_append,List.nil_append,List.append_nil,List.replicate,List.length_cons,List.length_nil,List.getElem?_cons_zero,List.getElem?_cons_succ,List.getElem?_nil,List.set_cons_zero,List.set_cons_succ,Option.map_some,Option.map_none,Option.isNone_some,Option.isNone_none,forall_const,true_implies,false_implies,and_true,true_and,Bool.true_eq_false,Bool.false_eq_true,reduceCtorEq,noOwn,wipeS,hide,fuN_self,lcD,dYes,Nat.zero_add,Nat.reduceAdd,Nat.reduceLeDiff,Nat.reduceSub,atI_0,atI_1,atI_2,atI_3,atI_4,atI_5,Int.one_mul,eqv_ii,eqv_ss,eqv_num,shaped_int,shaped_num,shaped_none,shaped_ru,flat_str,flat_int,flat_none,List.all_cons,List.all_nil,Bool.and_true,decide_eq_true_eq,decide_eq_false_iff_not,Bool.not_eq_true',Bool.not_eq_false',Decidable.not_not,↓reduceIte,Bool.false_eq_true,Int.reduceLT,eqv_strs,pick_0,pick_01,pick_10,pick_012,pick_021,pick_102,pick_120,pick_201,pick_210]
  refine ⟨n, d, c, rfl, hn, hc, ?_⟩
  have e : atI (stagD n d c) (-1) = some (nm (applI n d c)) := by
    refine atI_last ?_
    unfold stagD
    rw [List.getLast?_map, stag_last hc.ne]
    rfl
  show match atI (stagD n d c) (-1) with | some z => _ | none => _
  rw [e]
  exact h
section
variable {P : Program} {w : World} {K : Fg} {mg : Str → Option Value} {base : Heap}
theorem d_applied (T : Tx w K mg) {cdv : Value} {A : Around} {outer : List Env} {s : Shared} {H : Hp} {E : XK} (hr : Room 6 (A.deeper (envOfC "applied" (defScope st_applied) s.heap.objs.size T.f_applied cdv))) (hgd : (A.deeper (envOfC "applied" (defScope st_applied) s.heap.objs.size T.f_applied cdv)).guards = some []) :
    PSs (cxOf CX0 P w K mg base N_applied "applied" (defScope st_applied) T.f_applied cdv A outer s H E).nox (defBody st_applied) (upS K W0 b_applied) :=
  (ss_one (s_ret (e_ix (e_call (ok_stages T) (hr.mono (by decide)) hgd (by rfl) T.g_stages T.F_stages.kp T.b_stages pass0 (a_cons (e_var 0 (pv 0)) (a_cons (e_var 1 (pv 1)) a_nil))) (e_neg e_int))))
theorem ok_applied (T : Tx w K mg) : Fn P w K mg base CX0 7 T.f_applied T.fd_applied ["number", "chain"] (lift K 2 fs_applied) := fn_data T.F_applied sc_applied b_applied (fun _ _ _ _ _ _ hr hgd => d_applied T hr hgd) p_applied
end
def b_trimmed : DS :=
  (dSeq (dDrop (dCall 1 fs_check_chain (dCons (dVar 0) dNil)))
  (dSeq (dParL 1 2 (dLst dNil) .none)
  (dSeq (dFor (dItems (dVar 0)) (dT 2 (dTc (dN 3) (dTc (dN 4) dTn)))
    (dIfS (dOrT (dTest (dIsN false (dVar 2))) (dTest (dBin oLt (dVar 3) (dVar 2))))
    (dSeq (dApp 1 (dTup (dCons (dVar 3) (dCons (dVar 4) dNil))))
  (dAsg (dVar 3) (dN 2)))
    dNext))
  (dRet (dCB cTuple (dCons (dVar 1) dNil))))))
def fs_trimmed : FSp := fun rs fu post => ∃ c : List (Int × Ru), rs = [.val (chD c)] ∧ Chn1 c ∧ post (.val (chD (trimI none c))) fu
def trB : DS := (dIfS (dOrT (dTest (dIsN false (dVar 2))) (dTest (dBin oLt (dVar 3) (dVar 2))))
    (dSeq (dApp 1 (dTup (dCons (dVar 3) (dCons (dVar 4) dNil))))
  (dAsg (dVar 3) (dN 2)))
    dNext)
def optI : Option Int → Da
  | none => .none
  | some i => .int i
theorem p_trB {D : DEnds} {x : Option Sv} {fu : Option Nat} : ∀ {c : List (Int × Ru)} {l : Option Int} {acc : List (Int × Ru)} {y z : Option Sv}, acc.length + c.length ≤ 100 →
    (∀ (l' : Option Int) (y z : Option Sv), D.nx ⟨[x, some (.own ((acc ++ trimI l c).map stD)), some (.val (optI l')), y, z], fu, fu.isNone⟩) →
    forD (dT 2 (dTc (dN 3) (dTc (dN 4) dTn))) trB (c.map stD) D ⟨[x, some (.own (acc.map stD)), some (.val (optI l)), y, z], fu, fu.isNone⟩
  | [], l, acc, y, z, _, h => by
    have := h l y z
    have e2 : trimI l ([] : List (Int × Ru)) = [] := by cases l <;> rfl
    rw [e2, List.append_nil] at this
    exact this
  | s :: c, l, acc, y, z, hl, h => by
    have ih1 : (∀ (l' : Option Int) (y z : Option Sv), D.nx ⟨[x, some (.own ((acc ++ s :: trimI (some s.1) c).map stD)), some (.val (optI l')), y, z], fu, fu.isNone⟩) →
        forD (dT 2 (dTc (dN 3) (dTc (dN 4) dTn))) trB (c.map stD) D ⟨[x, some (.own (acc.map stD ++ [stD s])), some (.val (.int s.1)), some (.val (.int s.1)), some (.val (.str s.2.s))], fu, fu.isNone⟩ := fun h' => by
      have ih := p_trB (D := D) (x := x) (fu := fu) (c := c) (l := some s.1) (acc := acc ++ [s]) (y := some (.val (.int s.1))) (z := some (.val (.str s.2.s))) (by simp only [List.length_append, List.length_cons, List.length_nil] at hl ⊢; omega) (fun l' y z => by
        have := h' l' y z
        rw [List.append_assoc]
        exact this)
      rw [List.map_append] at ih
      exact ih
    have hlen : (acc.map stD).length < 1000000 := by rw [List.length_map]; simp only [List.length_cons] at hl; omega
    show dT 2 _ (.val (.tuple [.int s.1, .str s.2.s])) _ _
    cases l with
    | none =>
      simp only [↓dMHit,↓dMPutRet,↓dCallM,↓dPar3D,↓dMaxK,↓cMinDa,↓entM,↓dSeq,↓dAsg,↓dSetL,↓dNext,↓dIfS,↓dRet,↓dRetL,↓dDrop,↓dNever,↓dBrk,↓dAug,↓dPar,↓dParL,↓dApp,↓dVar,↓dC,↓dBin,↓fI,↓fI0,↓fAdd,↓fEq,↓fNe,↓fIn,↓dTest,↓dAndT,↓dOrT,↓dNotT,↓dAndV,↓dOrV,↓dNotV,↓dIf,↓dNeg,↓dIsN,↓dChain,↓dNil,↓dCons,↓dTup,↓dLst,↓dFz,↓valsD,↓dIx,↓dCall,↓dCallL,↓hasSrc,↓rrv,↓dN,↓dT,↓dTn,↓dTc,↓rsv,↓Gs.set,↓dFor,↓dItems,↓dRange1,↓dRange2,↓dZip,↓dLc,↓dCB,↓cLen,↓cAll,↓cTuple,↓cInt1,↓cInt2,↓dIsi,↓dBits,↓dCallS,↓oSub,↓oAddI,↓oMul,↓oDiv,↓oMod,↓oShl,↓oPow,↓oLt,↓oLe,↓oGt,↓oGe,↓oAbs,↓oMax,↓oMin,↓cMinL,↓fInD,↓dSl,↓oNo,↓oSo,↓dBy,↓fAddT,↓dSlT,↓dParR,↓dEnum,↓dRevL,↓gAs,↓Gs.unset,↓rtN,↓lamF,↓gLam,↓plainO,↓dGIx,↓dIxO,↓Z.isNon,trB,optI,Z.isNon,ent,svOf,List.map_cons,List.map_nil,List.cons_append,List.nil_append,List.append_nil,List.replicate,List.length_cons,List.length_nil,List.getElem?_cons_zero,List.getElem?_cons_succ,List.getElem?_nil,List.set_cons_zero,List.set_cons_succ,Option.map_some,Option.map_none,Option.isNone_some,Option.isNone_none,forall_const,true_implies,false_implies,and_true,true_and,Bool.true_eq_false,Bool.false_eq_true,reduceCtorEq,noOwn,wipeS,hide,fuN_self,lcD,dYes,Nat.zero_add,Nat.reduceAdd,Nat.reduceLeDiff,Nat.reduceSub,atI_0,atI_1,atI_2,atI_3,atI_4,atI_5,Int.one_mul,eqv_ii,eqv_ss,eqv_num,shaped_int,shaped_num,shaped_none,shaped_ru,flat_str,flat_int,flat_none,List.all_cons,List.all_nil,Bool.and_true,decide_eq_true_eq,decide_eq_false_iff_not,Bool.not_eq_true',Bool.not_eq_false',Decidable.not_not,↓reduceIte,Bool.false_eq_true,Int.reduceLT,eqv_strs,pick_0,pick_01,pick_10,pick_012,pick_021,pick_102,pick_120,pick_201,pick_210]
      exact ⟨⟨_, rfl⟩, hlen, ih1 fun l' y z => by have := h l' y z; rw [trimI] at this; exact this⟩
    | some l =>
      simp only [↓dMHit,↓dMPutRet,↓dCallM,↓dPar3D,↓dMaxK,↓cMinDa,↓entM,↓dSeq,↓dAsg,↓dSetL,↓dNext,↓dIfS,↓dRet,↓dRetL,↓dDrop,↓dNever,↓dBrk,↓dAug,↓dPar,↓dParL,↓dApp,↓dVar,↓dC,↓dBin,↓fI,↓fI0,↓fAdd,↓fEq,↓fNe,↓fIn,↓dTest,↓dAndT,↓dOrT,↓dNotT,↓dAndV,↓dOrV,↓dNotV,↓dIf,↓dNeg,↓dIsN,↓dChain,↓dNil,↓dCons,↓dTup,↓dLst,↓dFz,↓valsD,↓dIx,↓dCall,↓dCallL,↓hasSrc,↓rrv,↓dN,↓dT,↓dTn,↓dTc,↓rsv,↓Gs.set,↓dFor,↓dItems,↓dRange1,↓dRange2,↓dZip,↓dLc,↓dCB,↓cLen,↓cAll,↓cTuple,↓cInt1,↓cInt2,↓dIsi,↓dBits,↓dCallS,↓oSub,↓oAddI,↓oMul,↓oDiv,↓oMod,↓oShl,↓oPow,↓oLt,↓oLe,↓oGt,↓oGe,↓oAbs,↓oMax,↓oMin,↓cMinL,↓fInD,↓dSl,↓oNo,↓oSo,↓dBy,↓fAddT,↓dSlT,↓dParR,↓dEnum,↓dRevL,↓gAs,↓Gs.unset,↓rtN,↓lamF,↓gLam,↓plainO,↓dGIx,↓dIxO,↓Z.isNon,trB,optI,Z.isNon,ent,svOf,List.map_cons,List.map_nil,List.cons_append,List.nil_append,List.append_nil,List.replicate,List.length_cons,List.length_nil,List.getElem?_cons_zero,List.getElem?_cons_succ,List.getElem?_nil,List.set_cons_zero,List.set_cons_succ,Option.map_some,Option.map_none,Option.isNone_some,Option.isNone_none,forall_const,true_implies,false_implies,and_true,true_and,Bool.true_eq_false,Bool.false_eq_true,reduceCtorEq,noOwn,wipeS,hide,fuN_self,lcD,dYes,Nat.zero_add,Nat.reduceAdd,Nat.reduceLeDiff,Nat.reduceSub,atI_0,atI_1,atI_2,atI_3,atI_4,atI_5,Int.one_mul,eqv_ii,eqv_ss,eqv_num,shaped_int,shaped_num,shaped_none,shaped_ru,flat_str,flat_int,flat_none,List.all_cons,List.all_nil,Bool.and_true,decide_eq_true_eq,decide_eq_false_iff_not,Bool.not_eq_true',Bool.not_eq_false',Decidable.not_not,↓reduceIte,Bool.false_eq_true,Int.reduceLT,eqv_strs,pick_0,pick_01,pick_10,pick_012,pick_021,pick_102,pick_120,pick_201,pick_210]
      refine ⟨fun q => ⟨⟨_, rfl⟩, hlen, ih1 fun l' y z => by have := h l' y z; rw [trimI, if_pos q] at this; exact this⟩, fun q => ?_⟩
      have ih := p_trB (D := D) (x := x) (fu := fu) (c := c) (l := some l) (acc := acc) (y := some (.val (.int s.1))) (z := some (.val (.str s.2.s))) (by simp only [List.length_cons] at hl; omega) (fun l' y z => by
        have := h l' y z
        rw [trimI, if_neg q] at this
        exact this)
      exact ih
theorem p_trimmed (rs : List Rv) (fu : Option Nat) (post : Rr → Option Nat → Prop) (hl : rs.length = 1) (h : fs_trimmed rs fu post) : b_trimmed ⟨fun g => post (.val .none) g.fu, fun r g => post r g.fu, fun _ => False, fun _ => False⟩ (ent N_trimmed rs fu) := by
  obtain ⟨c, rfl, hc, h⟩ := h
  simp only [↓dMHit,↓dMPutRet,↓dCallM,↓dPar3D,↓dMaxK,↓cMinDa,↓entM,↓dSeq,↓dAsg,↓dSetL,↓dNext,↓dIfS,↓dRet,↓dRetL,↓dDrop,↓dNever,↓dBrk,↓dAug,↓dPar,↓dParL,↓dApp,↓dVar,↓dC,↓dBin,↓fI,↓fI0,↓fAdd,↓fEq,↓fNe,↓fIn,↓dTest,↓dAndT,↓dOrT,↓dNotT,↓dAndV,↓dOrV,↓dNotV,↓dIf,↓dNeg,↓dIsN,↓dChain,↓dNil,↓dCons,↓dTup,↓dLst,↓dFz,↓valsD,↓dIx,↓dCall,↓dCallL,↓hasSrc,↓rrv,↓dN,↓dT,↓dTn,↓dTc,↓rsv,↓Gs.set,↓dFor,↓dItems,↓dRange1,↓dRange2,↓dZip,↓dLc,↓dCB,↓cLen,↓cAll,↓cTuple,↓cInt1,↓cInt2,↓dIsi,↓dBits,↓dCallS,↓oSub,↓oAddI,↓oMul,↓oDiv,↓oMod,↓oShl,↓oPow,↓oLt,↓oLe,↓oGt,↓oGe,↓oAbs,↓oMax,↓oMin,↓cMinL,↓fInD,↓dSl,↓oNo,↓oSo,↓dBy,↓fAddT,↓dSlT,↓dParR,↓dEnum,↓dRevL,↓gAs,↓Gs.unset,↓rtN,↓lamF,↓gLam,↓plainO,↓dGIx,↓dIxO,↓Z.isNon,b_trimmed,fs_check_chain,ent,svOf,List.map_cons,List.map_nil,List.cons_append,List.nil_append,List.append_nil,List.replicate,List.length_cons,List.length_nil,List.getElem?_cons_zero,List.getElem?_cons_succ,List.getElem?_nil,List.set_cons_zero,List.set_cons_succ,Option.map_some,Option.map_none,Option.isNone_some,Option.isNone_none,forall_const,true_implies,false_implies,and_true,true_and,Bool.true_eq_false,Bool.false_eq_true,reduceCtorEq,noOwn,wipeS,hide,fuN_self,lcD,dYes,Nat.zero_add,Nat.reduceAdd,Nat.reduceLeDiff,Nat.reduceSub,atI_0,atI_1,atI_2,atI_3,atI_4,atI_5,Int.one_mul,eqv_ii,eqv_ss,eqv_num,shaped_int,shaped_num,shaped_none,shaped_ru,flat_str,flat_int,flat_none,List.all_cons,List.all_nil,Bool.and_true,decide_eq_true_eq,decide_eq_false_iff_not,Bool.not_eq_true',Bool.not_eq_false',Decidable.not_not,↓reduceIte,Bool.false_eq_true,Int.reduceLT,eqv_strs,pick_0,pick_01,pick_10,pick_012,pick_021,pick_102,pick_120,pick_201,pick_210]
  refine ⟨_, rfl, hc.is, ?_⟩
  unfold chD
  simp only [↓dMHit,↓dMPutRet,↓dCallM,↓dPar3D,↓dMaxK,↓cMinDa,↓entM,↓dSeq,↓dAsg,↓dSetL,↓dNext,↓dIfS,↓dRet,↓dRetL,↓dDrop,↓dNever,↓dBrk,↓dAug,↓dPar,↓dParL,↓dApp,↓dVar,↓dC,↓dBin,↓fI,↓fI0,↓fAdd,↓fEq,↓fNe,↓fIn,↓dTest,↓dAndT,↓dOrT,↓dNotT,↓dAndV,↓dOrV,↓dNotV,↓dIf,↓dNeg,↓dIsN,↓dChain,↓dNil,↓dCons,↓dTup,↓dLst,↓dFz,↓valsD,↓dIx,↓dCall,↓dCallL,↓hasSrc,↓rrv,↓dN,↓dT,↓dTn,↓dTc,↓rsv,↓Gs.set,↓dFor,↓dItems,↓dRange1,↓dRange2,↓dZip,↓dLc,↓dCB,↓cLen,↓cAll,↓cTuple,↓cInt1,↓cInt2,↓dIsi,↓dBits,↓dCallS,↓oSub,↓oAddI,↓oMul,↓oDiv,↓oMod,↓oShl,↓oPow,↓oLt,↓oLe,↓oGt,↓oGe,↓oAbs,↓oMax,↓oMin,↓cMinL,↓fInD,↓dSl,↓oNo,↓oSo,↓dBy,↓fAddT,↓dSlT,↓dParR,↓dEnum,↓dRevL,↓gAs,↓Gs.unset,↓rtN,↓lamF,↓gLam,↓plainO,↓dGIx,↓dIxO,↓Z.isNon,dParL,ent,svOf,List.map_cons,List.map_nil,List.cons_append,List.nil_append,List.append_nil,List.replicate,List.length_cons,List.length_nil,List.getElem?_cons_zero,List.getElem?_cons_succ,List.getElem?_nil,List.set_cons_zero,List.set_cons_succ,Option.map_some,Option.map_none,Option.isNone_some,Option.isNone_none,forall_const,true_implies,false_implies,and_true,true_and,Bool.true_eq_false,Bool.false_eq_true,reduceCtorEq,noOwn,wipeS,hide,fuN_self,lcD,dYes,Nat.zero_add,Nat.reduceAdd,Nat.reduceLeDiff,Nat.reduceSub,atI_0,atI_1,atI_2,atI_3,atI_4,atI_5,Int.one_mul,eqv_ii,eqv_ss,eqv_num,shaped_int,shaped_num,shaped_none,shaped_ru,flat_str,flat_int,flat_none,List.all_cons,List.all_nil,Bool.and_true,decide_eq_true_eq,decide_eq_false_iff_not,Bool.not_eq_true',Bool.not_eq_false',Decidable.not_not,↓reduceIte,Bool.false_eq_true,Int.reduceLT,eqv_strs,pick_0,pick_01,pick_10,pick_012,pick_021,pick_102,pick_120,pick_201,pick_210]
  refine p_trB (acc := []) (l := none) (by have := hc.len; simp; omega) (fun l y z => ?_)
  simp only [↓dMHit,↓dMPutRet,↓dCallM,↓dPar3D,↓dMaxK,↓cMinDa,↓entM,↓dSeq,↓dAsg,↓dSetL,↓dNext,↓dIfS,↓dRet,↓dRetL,↓dDrop,↓dNever,↓dBrk,↓dAug,↓dPar,↓dParL,↓dApp,↓dVar,↓dC,↓dBin,↓fI,↓fI0,↓fAdd,↓fEq,↓fNe,↓fIn,↓dTest,↓dAndT,↓dOrT,↓dNotT,↓dAndV,↓dOrV,↓dNotV,↓dIf,↓dNeg,↓dIsN,↓dChain,↓dNil,↓dCons,↓dTup,↓dLst,↓dFz,↓valsD,↓dIx,↓dCall,↓dCallL,↓hasSrc,↓rrv,↓dN,↓dT,↓dTn,↓dTc,↓rsv,↓Gs.set,↓dFor,↓dItems,↓dRange1,↓dRange2,↓dZip,↓dLc,↓dCB,↓cLen,↓cAll,↓cTuple,↓cInt1,↓cInt2,↓dIsi,↓dBits,↓dCallS,↓oSub,↓oAddI,↓oMul,↓oDiv,↓oMod,↓oShl,↓oPow,↓oLt,↓oLe,↓oGt,↓oGe,↓oAbs,↓oMax,↓oMin,↓cMinL,↓fInD,↓dSl,↓oNo,↓oSo,↓dBy,↓fAddT,↓dSlT,↓dParR,↓dEnum,↓dRevL,↓gAs,↓Gs.unset,↓rtN,↓lamF,↓gLam,↓plainO,↓dGIx,↓dIxO,↓Z.isNon,ent,svOf,List.map_cons,List.map_nil,List.cons_append,List.nil_append,List.append_nil,List.replicate,List.length_cons,List.length_nil,List.getElem?_cons_zero,List.getElem?_cons_succ,List.getElem?_nil,List.set_cons_zero,List.set_cons_succ,Option.map_some,Option.map_none,Option.isNone_some,Option.isNone_none,forall_const,true_implies,false_implies,and_true,true_and,Bool.true_eq_false,Bool.false_eq_true,reduceCtorEq,noOwn,wipeS,hide,fuN_self,lcD,dYes,Nat.zero_add,Nat.reduceAdd,Nat.reduceLeDiff,Nat.reduceSub,atI_0,atI_1,atI_2,atI_3,atI_4,atI_5,Int.one_mul,eqv_ii,eqv_ss,eqv_num,shaped_int,shaped_num,shaped_none,shaped_ru,flat_str,flat_int,flat_none,List.all_cons,List.all_nil,Bool.and_true,decide_eq_true_eq,decide_eq_false_iff_not,Bool.not_eq_true',Bool.not_eq_false',Decidable.not_not,↓reduceIte,Bool.false_eq_true,Int.reduceLT,eqv_strs,pick_0,pick_01,pick_10,pick_012,pick_021,pick_102,pick_120,pick_201,pick_210]
  exact h
section
variable {P : Program} {w : World} {K : Fg} {mg : Str → Option Value} {base : Heap}
theorem d_trimmed (T : Tx w K mg) {cdv : Value} {A : Around} {outer : List Env} {s : Shared} {H : Hp} {E : XK} (hr : Room 5 (A.deeper (envOfC "trimmed" (defScope st_trimmed) s.heap.objs.size T.f_trimmed cdv))) (hgd : (A.deeper (envOfC "trimmed" (defScope st_trimmed) s.heap.objs.size T.f_trimmed cdv)).guards = some []) :
    PSs (cxOf CX0 P w K mg base N_trimmed "trimmed" (defScope st_trimmed) T.f_trimmed cdv A outer s H E).nox (defBody st_trimmed) (upS K W0 b_trimmed) :=
  (ss_cons (s_expr (e_call (ok_check_chain T) (hr.mono (by decide)) hgd (by rfl) T.g_check_chain T.F_check_chain.kp T.b_check_chain pass0 (a_cons (e_var 0 (pv 0)) a_nil)))
    (ss_cons (s_parL (i := 1) (j := 2) rfl sc_trimmed.nd rfl rfl (by decide) rfl rfl (e_lstL a_nil) pe_non (fun _ => .non))
    (ss_cons (s_for PassesOwn.never rfl (i_items (e_var 0 (pv 0))) (g_tup rfl (gs_cons (g_name (pg_name (i := 3) sc_trimmed.nd rfl (.inl rfl))) (gs_cons (g_name (pg_name (i := 4) sc_trimmed.nd rfl (.inl rfl))) gs_nil))) (ss_one (s_if (PW.pt (w_or (t_isN (e_var 2 (pv 2))) (w_or1 (t_lt (e_var 3 (pv 3)) (e_var 2 (pv 2)))))) (ss_cons (s_app (name := "x") (pv 1) (e_tup (a_cons (e_var 3 (pv 3)) (a_cons (e_var 4 (pv 4)) a_nil))) (fun h => pe_bm PySem.F.plainAttrs_list PySem.F.slot_list_append PySem.F.type_list_append mt_append (pv 1) h))
    (ss_one (s_set (i := 2) sc_trimmed.nd rfl (.inl rfl) (e_var 3 (pv 3))))) ss_nil)))
    (ss_one (s_ret (e_tuple (by rfl) T.n_tuple (a_cons (e_var 1 (pv 1)) a_nil)))))))
theorem ok_trimmed (T : Tx w K mg) : Fn P w K mg base CX0 6 T.f_trimmed T.fd_trimmed ["chain"] (lift K 1 fs_trimmed) := fn_data T.F_trimmed sc_trimmed b_trimmed (fun _ _ _ _ _ _ hr hgd => d_trimmed T hr hgd) p_trimmed
end
def b_last_down : DS :=
  (dSeq (dAsg (dIx (dBy tab_BY_RULE (dVar 0)) (dVar 2)) (dT 2 (dTc (dN 3) (dTc (dN 4) dTn))))
  (dSeq (dAsg (dBin oShl (dC (.int 1)) (dVar 1)) (dN 5))
  (dSeq (dAsg (dBin oDiv (dBin oMul (dIx (dVar 3) (dC (.int 0))) (dVar 5)) (dIx (dVar 3) (dC (.int 1)))) (dN 6))
  (dRet (dIf (dTest (dBin fEq (dVar 4) (dC (.str "down")))) (dVar 6) (dBin oSub (dVar 6) (dC (.int 1))))))))
theorem tab_by (r : Ru) : tab_BY_RULE r = prF (byR r) := by cases r <;> rfl
def fs_last_down : FSp := fun rs fu post => ∃ (r : Ru) (far par : Int), rs = [.val (.str r.s), .val (.int far), .val (.int par)] ∧ 1 ≤ far ∧ far ≤ 200 ∧ 0 ≤ par ∧ par ≤ 1 ∧ post (.val (.int (lastI r far.toNat (decide (par = 1))))) fu
theorem p_last_down (rs : List Rv) (fu : Option Nat) (post : Rr → Option Nat → Prop) (hl : rs.length = 3) (h : fs_last_down rs fu post) : b_last_down ⟨fun g => post (.val .none) g.fu, fun r g => post r g.fu, fun _ => False, fun _ => False⟩ (ent N_last_down rs fu) := by
  obtain ⟨r, far, par, rfl, h1, h2, p0, p1, h⟩ := h
  simp only [↓dMHit,↓dMPutRet,↓dCallM,↓dPar3D,↓dMaxK,↓cMinDa,↓entM,↓dSeq,↓dAsg,↓dSetL,↓dNext,↓dIfS,↓dRet,↓dRetL,↓dDrop,↓dNever,↓dBrk,↓dAug,↓dPar,↓dParL,↓dApp,↓dVar,↓dC,↓dBin,↓fI,↓fI0,↓fAdd,↓fEq,↓fNe,↓fIn,↓dTest,↓dAndT,↓dOrT,↓dNotT,↓dAndV,↓dOrV,↓dNotV,↓dIf,↓dNeg,↓dIsN,↓dChain,↓dNil,↓dCons,↓dTup,↓dLst,↓dFz,↓valsD,↓dIx,↓dCall,↓dCallL,↓hasSrc,↓rrv,↓dN,↓dT,↓dTn,↓dTc,↓rsv,↓Gs.set,↓dFor,↓dItems,↓dRange1,↓dRange2,↓dZip,↓dLc,↓dCB,↓cLen,↓cAll,↓cTuple,↓cInt1,↓cInt2,↓dIsi,↓dBits,↓dCallS,↓oSub,↓oAddI,↓oMul,↓oDiv,↓oMod,↓oShl,↓oPow,↓oLt,↓oLe,↓oGt,↓oGe,↓oAbs,↓oMax,↓oMin,↓cMinL,↓fInD,↓dSl,↓oNo,↓oSo,↓dBy,↓fAddT,↓dSlT,↓dParR,↓dEnum,↓dRevL,↓gAs,↓Gs.unset,↓rtN,↓lamF,↓gLam,↓plainO,↓dGIx,↓dIxO,↓Z.isNon,b_last_down,ent,svOf,List.map_cons,List.map_nil,List.cons_append,List.nil_append,List.append_nil,List.replicate,List.length_cons,List.length_nil,List.getElem?_cons_zero,List.getElem?_cons_succ,List.getElem?_nil,List.set_cons_zero,List.set_cons_succ,Option.map_some,Option.map_none,Option.isNone_some,Option.isNone_none,forall_const,true_implies,false_implies,and_true,true_and,Bool.true_eq_false,Bool.false_eq_true,reduceCtorEq,noOwn,wipeS,hide,fuN_self,lcD,dYes,Nat.zero_add,Nat.reduceAdd,Nat.reduceLeDiff,Nat.reduceSub,atI_0,atI_1,atI_2,atI_3,atI_4,atI_5,Int.one_mul,eqv_ii,eqv_ss,eqv_num,shaped_int,shaped_num,shaped_none,shaped_ru,flat_str,flat_int,flat_none,List.all_cons,List.all_nil,Bool.and_true,decide_eq_true_eq,decide_eq_false_iff_not,Bool.not_eq_true',Bool.not_eq_false',Decidable.not_not,↓reduceIte,Bool.false_eq_true,Int.reduceLT,eqv_strs,pick_0,pick_01,pick_10,pick_012,pick_021,pick_102,pick_120,pick_201,pick_210]
  refine ⟨r, rfl, ?_⟩
  have e : (if par = 1 then thD (byR r true) else thD (byR r false)) = thD (byR r (decide (par = 1))) := by
    by_cases q : par = 1
    · rw [if_pos q, decide_eq_true q]
    · rw [if_neg q, decide_eq_false q]
  have b1 : Bn 64 (1 : Int) := Bn.small (by decide) (by decide) (by decide)
  have ok := byR_ok r (decide (par = 1))
  obtain ⟨t1, t2⟩ := (byR_B r).bn (decide (par = 1))
  have bp : Bn 202 ((2 : Int) ^ far.toNat) := Bn.pow2 (by omega)
  unfold lastI at h
  rw [tab_by]
  simp only [↓dMHit,↓dMPutRet,↓dCallM,↓dPar3D,↓dMaxK,↓cMinDa,↓entM,↓dSeq,↓dAsg,↓dSetL,↓dNext,↓dIfS,↓dRet,↓dRetL,↓dDrop,↓dNever,↓dBrk,↓dAug,↓dPar,↓dParL,↓dApp,↓dVar,↓dC,↓dBin,↓fI,↓fI0,↓fAdd,↓fEq,↓fNe,↓fIn,↓dTest,↓dAndT,↓dOrT,↓dNotT,↓dAndV,↓dOrV,↓dNotV,↓dIf,↓dNeg,↓dIsN,↓dChain,↓dNil,↓dCons,↓dTup,↓dLst,↓dFz,↓valsD,↓dIx,↓dCall,↓dCallL,↓hasSrc,↓rrv,↓dN,↓dT,↓dTn,↓dTc,↓rsv,↓Gs.set,↓dFor,↓dItems,↓dRange1,↓dRange2,↓dZip,↓dLc,↓dCB,↓cLen,↓cAll,↓cTuple,↓cInt1,↓cInt2,↓dIsi,↓dBits,↓dCallS,↓oSub,↓oAddI,↓oMul,↓oDiv,↓oMod,↓oShl,↓oPow,↓oLt,↓oLe,↓oGt,↓oGe,↓oAbs,↓oMax,↓oMin,↓cMinL,↓fInD,↓dSl,↓oNo,↓oSo,↓dBy,↓fAddT,↓dSlT,↓dParR,↓dEnum,↓dRevL,↓gAs,↓Gs.unset,↓rtN,↓lamF,↓gLam,↓plainO,↓dGIx,↓dIxO,↓Z.isNon,prF,ent,svOf,List.map_cons,List.map_nil,List.cons_append,List.nil_append,List.append_nil,List.replicate,List.length_cons,List.length_nil,List.getElem?_cons_zero,List.getElem?_cons_succ,List.getElem?_nil,List.set_cons_zero,List.set_cons_succ,Option.map_some,Option.map_none,Option.isNone_some,Option.isNone_none,forall_const,true_implies,false_implies,and_true,true_and,Bool.true_eq_false,Bool.false_eq_true,reduceCtorEq,noOwn,wipeS,hide,fuN_self,lcD,dYes,Nat.zero_add,Nat.reduceAdd,Nat.reduceLeDiff,Nat.reduceSub,atI_0,atI_1,atI_2,atI_3,atI_4,atI_5,Int.one_mul,eqv_ii,eqv_ss,eqv_num,shaped_int,shaped_num,shaped_none,shaped_ru,flat_str,flat_int,flat_none,List.all_cons,List.all_nil,Bool.and_true,decide_eq_true_eq,decide_eq_false_iff_not,Bool.not_eq_true',Bool.not_eq_false',Decidable.not_not,↓reduceIte,Bool.false_eq_true,Int.reduceLT,eqv_strs,pick_0,pick_01,pick_10,pick_012,pick_021,pick_102,pick_120,pick_201,pick_210]
  rw [atI_par p0 p1, e]
  generalize byR r (decide (par = 1)) = t at *
  simp only [↓dMHit,↓dMPutRet,↓dCallM,↓dPar3D,↓dMaxK,↓cMinDa,↓entM,↓dSeq,↓dAsg,↓dSetL,↓dNext,↓dIfS,↓dRet,↓dRetL,↓dDrop,↓dNever,↓dBrk,↓dAug,↓dPar,↓dParL,↓dApp,↓dVar,↓dC,↓dBin,↓fI,↓fI0,↓fAdd,↓fEq,↓fNe,↓fIn,↓dTest,↓dAndT,↓dOrT,↓dNotT,↓dAndV,↓dOrV,↓dNotV,↓dIf,↓dNeg,↓dIsN,↓dChain,↓dNil,↓dCons,↓dTup,↓dLst,↓dFz,↓valsD,↓dIx,↓dCall,↓dCallL,↓hasSrc,↓rrv,↓dN,↓dT,↓dTn,↓dTc,↓rsv,↓Gs.set,↓dFor,↓dItems,↓dRange1,↓dRange2,↓dZip,↓dLc,↓dCB,↓cLen,↓cAll,↓cTuple,↓cInt1,↓cInt2,↓dIsi,↓dBits,↓dCallS,↓oSub,↓oAddI,↓oMul,↓oDiv,↓oMod,↓oShl,↓oPow,↓oLt,↓oLe,↓oGt,↓oGe,↓oAbs,↓oMax,↓oMin,↓cMinL,↓fInD,↓dSl,↓oNo,↓oSo,↓dBy,↓fAddT,↓dSlT,↓dParR,↓dEnum,↓dRevL,↓gAs,↓Gs.unset,↓rtN,↓lamF,↓gLam,↓plainO,↓dGIx,↓dIxO,↓Z.isNon,thD,Int.one_mul,ent,svOf,List.map_cons,List.map_nil,List.cons_append,List.nil_append,List.append_nil,List.replicate,List.length_cons,List.length_nil,List.getElem?_cons_zero,List.getElem?_cons_succ,List.getElem?_nil,List.set_cons_zero,List.set_cons_succ,Option.map_some,Option.map_none,Option.isNone_some,Option.isNone_none,forall_const,true_implies,false_implies,and_true,true_and,Bool.true_eq_false,Bool.false_eq_true,reduceCtorEq,noOwn,wipeS,hide,fuN_self,lcD,dYes,Nat.zero_add,Nat.reduceAdd,Nat.reduceLeDiff,Nat.reduceSub,atI_0,atI_1,atI_2,atI_3,atI_4,atI_5,Int.one_mul,eqv_ii,eqv_ss,eqv_num,shaped_int,shaped_num,shaped_none,shaped_ru,flat_str,flat_int,flat_none,List.all_cons,List.all_nil,Bool.and_true,decide_eq_true_eq,decide_eq_false_iff_not,Bool.not_eq_true',Bool.not_eq_false',Decidable.not_not,↓reduceIte,Bool.false_eq_true,Int.reduceLT,eqv_strs,pick_0,pick_01,pick_10,pick_012,pick_021,pick_102,pick_120,pick_201,pick_210]
  refine ⟨shlX 64 b1 (by omega) (by omega), mulX 2 202 t1 bp (by decide), divX 2 ok.d0 t2 (by decide), shaped_sd _, shaped_dn, ?_⟩
  refine ⟨fun z => ?_, fun z => ?_⟩
  · rw [if_pos ((dec_dn _).mp z)] at h
    exact h
  · rw [if_neg (fun q => z ((dec_dn _).mpr q))] at h
    exact h
section
variable {P : Program} {w : World} {K : Fg} {mg : Str → Option Value} {base : Heap}
theorem d_last_down (T : Tx w K mg) {cdv : Value} {A : Around} {outer : List Env} {s : Shared} {H : Hp} {E : XK} (hr : Room 0 (A.deeper (envOfC "last_down" (defScope st_last_down) s.heap.objs.size T.f_last_down cdv))) (hgd : (A.deeper (envOfC "last_down" (defScope st_last_down) s.heap.objs.size T.f_last_down cdv)).guards = some []) :
    PSs (cxOf CX0 P w K mg base N_last_down "last_down" (defScope st_last_down) T.f_last_down cdv A outer s H E).nox (defBody st_last_down) (upS K W0 b_last_down) :=
  (ss_cons (s_asg (e_ix (e_by (by rfl) T.c_BY_RULE T.k_BY_RULE (e_var 0 (pv 0))) (e_var 2 (pv 2))) (g_tup rfl (gs_cons (g_name (pg_name (i := 3) sc_last_down.nd rfl (.inl rfl))) (gs_cons (g_name (pg_name (i := 4) sc_last_down.nd rfl (.inl rfl))) gs_nil))))
    (ss_cons (s_set (i := 5) sc_last_down.nd rfl (.inl rfl) (e_shl e_int (e_var 1 (pv 1))))
    (ss_cons (s_set (i := 6) sc_last_down.nd rfl (.inl rfl) (e_div (e_mul (e_ix (e_var 3 (pv 3)) e_int) (e_var 5 (pv 5))) (e_ix (e_var 3 (pv 3)) e_int)))
    (ss_one (s_ret (e_if (t_eq hr.units (e_var 4 (pv 4)) (e_glob (by rfl) T.c_DOWN T.v_DOWN T.r_DOWN)) (e_var 6 (pv 6)) (e_sub (e_var 6 (pv 6)) e_int)))))))
theorem ok_last_down (T : Tx w K mg) : Fn P w K mg base CX0 1 T.f_last_down T.fd_last_down ["rule", "far", "parity"] (lift K 3 fs_last_down) := fn_data T.F_last_down sc_last_down b_last_down (fun _ _ _ _ _ _ hr hgd => d_last_down T hr hgd) p_last_down
end
def b_combined : DS :=
  (dSeq (dSetL 3 (dLst dNil))
  (dSeq (dFor (dItems (dTup (dCons (dC (.int 0)) (dCons (dC (.int 1)) dNil)))) (dN 4)
    (dSeq (dAsg (dCall 3 fs_last_down (dCons (dVar 1) (dCons (dVar 2) (dCons (dVar 4) dNil)))) (dN 5))
  (dSeq (dAsg (dIx (dVar 0) (dBin oMod (dVar 5) (dC (.int 2)))) (dT 2 (dTc (dT 2 (dTc (dN 6) (dTc (dN 7) dTn))) (dTc (dN 8) dTn))))
  (dApp 3 (dTup (dCons (dCall 2 fs_lowest (dCons (dBin fAdd (dBin oMul (dVar 5) (dVar 7)) (dVar 6)) (dCons (dBin oShl (dVar 7) (dVar 2)) dNil))) (dCons (dVar 8) dNil)))))))
  (dRet (dCB cTuple (dCons (dVar 3) dNil)))))
def fs_combined : FSp := fun rs fu post => ∃ (T : Bool → Th) (m : Nat) (r : Ru) (far : Int), rs = [.val (prF T), .val (.str r.s), .val (.int far)] ∧ ThB m T ∧ m ≤ 400 ∧ 1 ≤ far ∧ far ≤ 200 ∧ post (.val (prF (combI T r far.toNat))) fu
theorem p_combined (rs : List Rv) (fu : Option Nat) (post : Rr → Option Nat → Prop) (hl : rs.length = 3) (h : fs_combined rs fu post) : b_combined ⟨fun g => post (.val .none) g.fu, fun r g => post r g.fu, fun _ => False, fun _ => False⟩ (ent N_combined rs fu) := by
  obtain ⟨T, m, r, far, rfl, hT, hm, h1, h2, h⟩ := h
  have bp : Bn 202 ((2 : Int) ^ far.toNat) := Bn.pow2 (by omega)
  have bi : ∀ b, 0 ≤ lastI r far.toNat b ∧ Bn 202 (lastI r far.toNat b) := fun b => by
    obtain ⟨l0, l1⟩ := last_rng (r := r) (b := b) (show 1 ≤ far.toNat by omega)
    exact ⟨l0, bp.le l0 (Int.le_of_lt l1)⟩
  have bd : ∀ b, Bn 401 (T b).n ∧ Bn 401 (T b).d := fun b => ⟨(hT.bn b).1.mono (by omega), (hT.bn b).2.mono (by omega)⟩
  have gd : ∀ b, 0 < (T b).d * 2 ^ far.toNat ∧ Bn 900 ((T b).d * 2 ^ far.toNat) := fun b => ⟨Int.mul_pos (hT.ok b).d0 (pow2_pos _), (shlB (bd b).2).mono (by omega)⟩
  have key : ∀ b i, lastI r far.toNat b = i → (T (decide (i % 2 = 1))).n = (T (decide (i % 2 = 1))).n := fun _ _ _ => rfl
  simp only [↓dMHit,↓dMPutRet,↓dCallM,↓dPar3D,↓dMaxK,↓cMinDa,↓entM,↓dSeq,↓dAsg,↓dSetL,↓dNext,↓dIfS,↓dRet,↓dRetL,↓dDrop,↓dNever,↓dBrk,↓dAug,↓dPar,↓dParL,↓dApp,↓dVar,↓dC,↓dBin,↓fI,↓fI0,↓fAdd,↓fEq,↓fNe,↓fIn,↓dTest,↓dAndT,↓dOrT,↓dNotT,↓dAndV,↓dOrV,↓dNotV,↓dIf,↓dNeg,↓dIsN,↓dChain,↓dNil,↓dCons,↓dTup,↓dLst,↓dFz,↓valsD,↓dIx,↓dCall,↓dCallL,↓hasSrc,↓rrv,↓dN,↓dT,↓dTn,↓dTc,↓rsv,↓Gs.set,↓dFor,↓dItems,↓dRange1,↓dRange2,↓dZip,↓dLc,↓dCB,↓cLen,↓cAll,↓cTuple,↓cInt1,↓cInt2,↓dIsi,↓dBits,↓dCallS,↓oSub,↓oAddI,↓oMul,↓oDiv,↓oMod,↓oShl,↓oPow,↓oLt,↓oLe,↓oGt,↓oGe,↓oAbs,↓oMax,↓oMin,↓cMinL,↓fInD,↓dSl,↓oNo,↓oSo,↓dBy,↓fAddT,↓dSlT,↓dParR,↓dEnum,↓dRevL,↓gAs,↓Gs.unset,↓rtN,↓lamF,↓gLam,↓plainO,↓dGIx,↓dIxO,↓Z.isNon,b_combined,forD,fs_last_down,ent,svOf,List.map_cons,List.map_nil,List.cons_append,List.nil_append,List.append_nil,List.replicate,List.length_cons,List.length_nil,List.getElem?_cons_zero,List.getElem?_cons_succ,List.getElem?_nil,List.set_cons_zero,List.set_cons_succ,Option.map_some,Option.map_none,Option.isNone_some,Option.isNone_none,forall_const,true_implies,false_implies,and_true,true_and,Bool.true_eq_false,Bool.false_eq_true,reduceCtorEq,noOwn,wipeS,hide,fuN_self,lcD,dYes,Nat.zero_add,Nat.reduceAdd,Nat.reduceLeDiff,Nat.reduceSub,atI_0,atI_1,atI_2,atI_3,atI_4,atI_5,Int.one_mul,eqv_ii,eqv_ss,eqv_num,shaped_int,shaped_num,shaped_none,shaped_ru,flat_str,flat_int,flat_none,List.all_cons,List.all_nil,Bool.and_true,decide_eq_true_eq,decide_eq_false_iff_not,Bool.not_eq_true',Bool.not_eq_false',Decidable.not_not,↓reduceIte,Bool.false_eq_true,Int.reduceLT,eqv_strs,pick_0,pick_01,pick_10,pick_012,pick_021,pick_102,pick_120,pick_201,pick_210]
  refine ⟨r, far, 0, rfl, h1, h2, by decide, by decide, ?_⟩
  rw [show (decide ((0 : Int) = 1)) = false from rfl]
  simp only [↓dMHit,↓dMPutRet,↓dCallM,↓dPar3D,↓dMaxK,↓cMinDa,↓entM,↓dSeq,↓dAsg,↓dSetL,↓dNext,↓dIfS,↓dRet,↓dRetL,↓dDrop,↓dNever,↓dBrk,↓dAug,↓dPar,↓dParL,↓dApp,↓dVar,↓dC,↓dBin,↓fI,↓fI0,↓fAdd,↓fEq,↓fNe,↓fIn,↓dTest,↓dAndT,↓dOrT,↓dNotT,↓dAndV,↓dOrV,↓dNotV,↓dIf,↓dNeg,↓dIsN,↓dChain,↓dNil,↓dCons,↓dTup,↓dLst,↓dFz,↓valsD,↓dIx,↓dCall,↓dCallL,↓hasSrc,↓rrv,↓dN,↓dT,↓dTn,↓dTc,↓rsv,↓Gs.set,↓dFor,↓dItems,↓dRange1,↓dRange2,↓dZip,↓dLc,↓dCB,↓cLen,↓cAll,↓cTuple,↓cInt1,↓cInt2,↓dIsi,↓dBits,↓dCallS,↓oSub,↓oAddI,↓oMul,↓oDiv,↓oMod,↓oShl,↓oPow,↓oLt,↓oLe,↓oGt,↓oGe,↓oAbs,↓oMax,↓oMin,↓cMinL,↓fInD,↓dSl,↓oNo,↓oSo,↓dBy,↓fAddT,↓dSlT,↓dParR,↓dEnum,↓dRevL,↓gAs,↓Gs.unset,↓rtN,↓lamF,↓gLam,↓plainO,↓dGIx,↓dIxO,↓Z.isNon,prF,ent,svOf,List.map_cons,List.map_nil,List.cons_append,List.nil_append,List.append_nil,List.replicate,List.length_cons,List.length_nil,List.getElem?_cons_zero,List.getElem?_cons_succ,List.getElem?_nil,List.set_cons_zero,List.set_cons_succ,Option.map_some,Option.map_none,Option.isNone_some,Option.isNone_none,forall_const,true_implies,false_implies,and_true,true_and,Bool.true_eq_false,Bool.false_eq_true,reduceCtorEq,noOwn,wipeS,hide,fuN_self,lcD,dYes,Nat.zero_add,Nat.reduceAdd,Nat.reduceLeDiff,Nat.reduceSub,atI_0,atI_1,atI_2,atI_3,atI_4,atI_5,Int.one_mul,eqv_ii,eqv_ss,eqv_num,shaped_int,shaped_num,shaped_none,shaped_ru,flat_str,flat_int,flat_none,List.all_cons,List.all_nil,Bool.and_true,decide_eq_true_eq,decide_eq_false_iff_not,Bool.not_eq_true',Bool.not_eq_false',Decidable.not_not,↓reduceIte,Bool.false_eq_true,Int.reduceLT,eqv_strs,pick_0,pick_01,pick_10,pick_012,pick_021,pick_102,pick_120,pick_201,pick_210]
  rw [pick_par]
  simp only [↓dMHit,↓dMPutRet,↓dCallM,↓dPar3D,↓dMaxK,↓cMinDa,↓entM,↓dSeq,↓dAsg,↓dSetL,↓dNext,↓dIfS,↓dRet,↓dRetL,↓dDrop,↓dNever,↓dBrk,↓dAug,↓dPar,↓dParL,↓dApp,↓dVar,↓dC,↓dBin,↓fI,↓fI0,↓fAdd,↓fEq,↓fNe,↓fIn,↓dTest,↓dAndT,↓dOrT,↓dNotT,↓dAndV,↓dOrV,↓dNotV,↓dIf,↓dNeg,↓dIsN,↓dChain,↓dNil,↓dCons,↓dTup,↓dLst,↓dFz,↓valsD,↓dIx,↓dCall,↓dCallL,↓hasSrc,↓rrv,↓dN,↓dT,↓dTn,↓dTc,↓rsv,↓Gs.set,↓dFor,↓dItems,↓dRange1,↓dRange2,↓dZip,↓dLc,↓dCB,↓cLen,↓cAll,↓cTuple,↓cInt1,↓cInt2,↓dIsi,↓dBits,↓dCallS,↓oSub,↓oAddI,↓oMul,↓oDiv,↓oMod,↓oShl,↓oPow,↓oLt,↓oLe,↓oGt,↓oGe,↓oAbs,↓oMax,↓oMin,↓cMinL,↓fInD,↓dSl,↓oNo,↓oSo,↓dBy,↓fAddT,↓dSlT,↓dParR,↓dEnum,↓dRevL,↓gAs,↓Gs.unset,↓rtN,↓lamF,↓gLam,↓plainO,↓dGIx,↓dIxO,↓Z.isNon,thD,fs_lowest,ent,svOf,List.map_cons,List.map_nil,List.cons_append,List.nil_append,List.append_nil,List.replicate,List.length_cons,List.length_nil,List.getElem?_cons_zero,List.getElem?_cons_succ,List.getElem?_nil,List.set_cons_zero,List.set_cons_succ,Option.map_some,Option.map_none,Option.isNone_some,Option.isNone_none,forall_const,true_implies,false_implies,and_true,true_and,Bool.true_eq_false,Bool.false_eq_true,reduceCtorEq,noOwn,wipeS,hide,fuN_self,lcD,dYes,Nat.zero_add,Nat.reduceAdd,Nat.reduceLeDiff,Nat.reduceSub,atI_0,atI_1,atI_2,atI_3,atI_4,atI_5,Int.one_mul,eqv_ii,eqv_ss,eqv_num,shaped_int,shaped_num,shaped_none,shaped_ru,flat_str,flat_int,flat_none,List.all_cons,List.all_nil,Bool.and_true,decide_eq_true_eq,decide_eq_false_iff_not,Bool.not_eq_true',Bool.not_eq_false',Decidable.not_not,↓reduceIte,Bool.false_eq_true,Int.reduceLT,eqv_strs,pick_0,pick_01,pick_10,pick_012,pick_021,pick_102,pick_120,pick_201,pick_210]
  refine ⟨⟨_, rfl⟩, mulX 202 401 (bi _).2 (bd _).2 (by decide), shlX 401 (bd _).2 (by omega) (by omega), _, _, rfl, ?_, (gd _).1, (gd _).2.mono (by decide), ?_⟩
  · have := Int.mul_nonneg (bi false).1 (Int.le_of_lt (hT.ok (decide (lastI r far.toNat false % 2 = 1))).d0)
    have := (hT.ok (decide (lastI r far.toNat false % 2 = 1))).n0
    omega
  refine ⟨by simp, r, far, 1, rfl, h1, h2, by decide, by decide, ?_⟩
  have pp := pick_par (T := T) (k := lastI r far.toNat true)
  simp only [thD] at pp
  rw [show (decide ((1 : Int) = 1)) = true from rfl, pp]
  simp only [↓dMHit,↓dMPutRet,↓dCallM,↓dPar3D,↓dMaxK,↓cMinDa,↓entM,↓dSeq,↓dAsg,↓dSetL,↓dNext,↓dIfS,↓dRet,↓dRetL,↓dDrop,↓dNever,↓dBrk,↓dAug,↓dPar,↓dParL,↓dApp,↓dVar,↓dC,↓dBin,↓fI,↓fI0,↓fAdd,↓fEq,↓fNe,↓fIn,↓dTest,↓dAndT,↓dOrT,↓dNotT,↓dAndV,↓dOrV,↓dNotV,↓dIf,↓dNeg,↓dIsN,↓dChain,↓dNil,↓dCons,↓dTup,↓dLst,↓dFz,↓valsD,↓dIx,↓dCall,↓dCallL,↓hasSrc,↓rrv,↓dN,↓dT,↓dTn,↓dTc,↓rsv,↓Gs.set,↓dFor,↓dItems,↓dRange1,↓dRange2,↓dZip,↓dLc,↓dCB,↓cLen,↓cAll,↓cTuple,↓cInt1,↓cInt2,↓dIsi,↓dBits,↓dCallS,↓oSub,↓oAddI,↓oMul,↓oDiv,↓oMod,↓oShl,↓oPow,↓oLt,↓oLe,↓oGt,↓oGe,↓oAbs,↓oMax,↓oMin,↓cMinL,↓fInD,↓dSl,↓oNo,↓oSo,↓dBy,↓fAddT,↓dSlT,↓dParR,↓dEnum,↓dRevL,↓gAs,↓Gs.unset,↓rtN,↓lamF,↓gLam,↓plainO,↓dGIx,↓dIxO,↓Z.isNon,thD,fs_lowest,ent,svOf,List.map_cons,List.map_nil,List.cons_append,List.nil_append,List.append_nil,List.replicate,List.length_cons,List.length_nil,List.getElem?_cons_zero,List.getElem?_cons_succ,List.getElem?_nil,List.set_cons_zero,List.set_cons_succ,Option.map_some,Option.map_none,Option.isNone_some,Option.isNone_none,forall_const,true_implies,false_implies,and_true,true_and,Bool.true_eq_false,Bool.false_eq_true,reduceCtorEq,noOwn,wipeS,hide,fuN_self,lcD,dYes,Nat.zero_add,Nat.reduceAdd,Nat.reduceLeDiff,Nat.reduceSub,atI_0,atI_1,atI_2,atI_3,atI_4,atI_5,Int.one_mul,eqv_ii,eqv_ss,eqv_num,shaped_int,shaped_num,shaped_none,shaped_ru,flat_str,flat_int,flat_none,List.all_cons,List.all_nil,Bool.and_true,decide_eq_true_eq,decide_eq_false_iff_not,Bool.not_eq_true',Bool.not_eq_false',Decidable.not_not,↓reduceIte,Bool.false_eq_true,Int.reduceLT,eqv_strs,pick_0,pick_01,pick_10,pick_012,pick_021,pick_102,pick_120,pick_201,pick_210]
  refine ⟨⟨_, rfl⟩, mulX 202 401 (bi _).2 (bd _).2 (by decide), shlX 401 (bd _).2 (by omega) (by omega), _, _, rfl, ?_, (gd _).1, (gd _).2.mono (by decide), ?_⟩
  · have := Int.mul_nonneg (bi true).1 (Int.le_of_lt (hT.ok (decide (lastI r far.toNat true % 2 = 1))).d0)
    have := (hT.ok (decide (lastI r far.toNat true % 2 = 1))).n0
    omega
  exact ⟨by decide, h⟩
section
variable {P : Program} {w : World} {K : Fg} {mg : Str → Option Value} {base : Heap}
theorem d_combined (T : Tx w K mg) {cdv : Value} {A : Around} {outer : List Env} {s : Shared} {H : Hp} {E : XK} (hr : Room 2 (A.deeper (envOfC "combined" (defScope st_combined) s.heap.objs.size T.f_combined cdv))) (hgd : (A.deeper (envOfC "combined" (defScope st_combined) s.heap.objs.size T.f_combined cdv)).guards = some []) :
    PSs (cxOf CX0 P w K mg base N_combined "combined" (defScope st_combined) T.f_combined cdv A outer s H E).nox (defBody st_combined) (upS K W0 b_combined) :=
  (ss_cons (s_setL (i := 3) sc_combined.nd rfl (.inl rfl) (e_lstL a_nil))
    (ss_cons (s_for PassesOwn.never rfl (i_items (e_tup (a_cons e_int (a_cons e_int a_nil)))) (g_name (pg_name (i := 4) sc_combined.nd rfl (.inl rfl))) (ss_cons (s_set (i := 5) sc_combined.nd rfl (.inl rfl) (e_call (ok_last_down T) (hr.mono (by decide)) hgd (by rfl) T.g_last_down T.F_last_down.kp T.b_last_down pass0 (a_cons (e_var 1 (pv 1)) (a_cons (e_var 2 (pv 2)) (a_cons (e_var 4 (pv 4)) a_nil)))))
    (ss_cons (s_asg (e_ix (e_var 0 (pv 0)) (e_mod (e_var 5 (pv 5)) e_int)) (g_tup rfl (gs_cons (g_tup rfl (gs_cons (g_name (pg_name (i := 6) sc_combined.nd rfl (.inl rfl))) (gs_cons (g_name (pg_name (i := 7) sc_combined.nd rfl (.inl rfl))) gs_nil))) (gs_cons (g_name (pg_name (i := 8) sc_combined.nd rfl (.inl rfl))) gs_nil))))
    (ss_one (s_app (name := "x") (pv 3) (e_tup (a_cons (e_call (ok_lowest T) (hr.mono (by decide)) hgd (by rfl) T.g_lowest T.F_lowest.kp T.b_lowest pass0 (a_cons (e_add (e_mul (e_var 5 (pv 5)) (e_var 7 (pv 7))) (e_var 6 (pv 6))) (a_cons (e_shl (e_var 7 (pv 7)) (e_var 2 (pv 2))) a_nil))) (a_cons (e_var 8 (pv 8)) a_nil))) (fun h => pe_bm PySem.F.plainAttrs_list PySem.F.slot_list_append PySem.F.type_list_append mt_append (pv 3) h))))))
    (ss_one (s_ret (e_tuple (by rfl) T.n_tuple (a_cons (e_var 3 (pv 3)) a_nil))))))
theorem ok_combined (T : Tx w K mg) : Fn P w K mg base CX0 3 T.f_combined T.fd_combined ["pair", "rule", "far"] (lift K 3 fs_combined) := fn_data T.F_combined sc_combined b_combined (fun _ _ _ _ _ _ hr hgd => d_combined T hr hgd) p_combined
end
def b_thresholds : DS :=
  (dSeq (dAsg (dCall 1 fs_trimmed (dCons (dVar 0) dNil)) (dN 1))
  (dSeq (dAsg (dIx (dVar 1) (dC (.int 0))) (dT 2 (dTc (dN 2) (dTc (dN 3) dTn))))
  (dSeq (dAsg (dBy tab_BY_RULE (dVar 3)) (dN 4))
  (dSeq (dFor (dItems (dSl (dVar 1) (oSo (dC (.int 1))) oNo)) (dT 2 (dTc (dN 5) (dTc (dN 3) dTn)))
    (dSeq (dAsg (dCall 3 fs_combined (dCons (dVar 4) (dCons (dVar 3) (dCons (dBin oSub (dVar 2) (dVar 5)) dNil)))) (dN 4))
  (dAsg (dVar 5) (dN 2))))
  (dRet (dIf (dTest (dBin oGt (dVar 2) (dC (.int 1)))) (dVar 4) (dTup (dCons (dC .none) (dCons (dIx (dVar 4) (dC (.int 1))) dNil)))))))))
def fs_thresholds : FSp := fun rs fu post => ∃ c : List (Int × Ru), rs = [.val (chD c)] ∧ Chn1 c ∧ post (.val (Z.prD (chT c).1 (chT c).2)) fu
def thB : DS := (dSeq (dAsg (dCall 3 fs_combined (dCons (dVar 4) (dCons (dVar 3) (dCons (dBin oSub (dVar 2) (dVar 5)) dNil)))) (dN 4))
  (dAsg (dVar 5) (dN 2)))
theorem p_thB {D : DEnds} {x y : Option Sv} {fu : Option Nat} : ∀ {c : List (Int × Ru)} {w : Int} {T : Bool → Th} {m : Nat} {u v : Option Sv}, Fall w c → 1 ≤ w → ThB m T → (m : Int) + w ≤ 101 →
    (∀ (u v : Option Sv), D.nx ⟨[x, y, some (.val (.int (thF w T c).1)), u, some (.val (prF (thF w T c).2)), v], fu, fu.isNone⟩) →
    forD (dT 2 (dTc (dN 5) (dTc (dN 3) dTn))) thB (c.map stD) D ⟨[x, y, some (.val (.int w)), u, some (.val (prF T)), v], fu, fu.isNone⟩
  | [], w, T, m, u, v, _, _, _, _, h => h u v
  | s :: c, w, T, m, u, v, hf, hw, hT, hm, h => by
    obtain ⟨f1, f2, f3⟩ := hf
    have e : ((w - s.1).toNat : Int) = w - s.1 := by omega
    have ih := p_thB (D := D) (x := x) (y := y) (fu := fu) (c := c) (w := s.1) (T := combI T s.2 (w - s.1).toNat) (m := m + (w - s.1).toNat) (u := some (.val (.str s.2.s))) (v := some (.val (.int s.1))) f3 f1 (comb_B hT (by omega)) (by omega) h
    show dT 2 _ (.val (.tuple [.int s.1, .str s.2.s])) _ _
    simp only [↓dMHit,↓dMPutRet,↓dCallM,↓dPar3D,↓dMaxK,↓cMinDa,↓entM,↓dSeq,↓dAsg,↓dSetL,↓dNext,↓dIfS,↓dRet,↓dRetL,↓dDrop,↓dNever,↓dBrk,↓dAug,↓dPar,↓dParL,↓dApp,↓dVar,↓dC,↓dBin,↓fI,↓fI0,↓fAdd,↓fEq,↓fNe,↓fIn,↓dTest,↓dAndT,↓dOrT,↓dNotT,↓dAndV,↓dOrV,↓dNotV,↓dIf,↓dNeg,↓dIsN,↓dChain,↓dNil,↓dCons,↓dTup,↓dLst,↓dFz,↓valsD,↓dIx,↓dCall,↓dCallL,↓hasSrc,↓rrv,↓dN,↓dT,↓dTn,↓dTc,↓rsv,↓Gs.set,↓dFor,↓dItems,↓dRange1,↓dRange2,↓dZip,↓dLc,↓dCB,↓cLen,↓cAll,↓cTuple,↓cInt1,↓cInt2,↓dIsi,↓dBits,↓dCallS,↓oSub,↓oAddI,↓oMul,↓oDiv,↓oMod,↓oShl,↓oPow,↓oLt,↓oLe,↓oGt,↓oGe,↓oAbs,↓oMax,↓oMin,↓cMinL,↓fInD,↓dSl,↓oNo,↓oSo,↓dBy,↓fAddT,↓dSlT,↓dParR,↓dEnum,↓dRevL,↓gAs,↓Gs.unset,↓rtN,↓lamF,↓gLam,↓plainO,↓dGIx,↓dIxO,↓Z.isNon,thB,fs_combined,ent,svOf,List.map_cons,List.map_nil,List.cons_append,List.nil_append,List.append_nil,List.replicate,List.length_cons,List.length_nil,List.getElem?_cons_zero,List.getElem?_cons_succ,List.getElem?_nil,List.set_cons_zero,List.set_cons_succ,Option.map_some,Option.map_none,Option.isNone_some,Option.isNone_none,forall_const,true_implies,false_implies,and_true,true_and,Bool.true_eq_false,Bool.false_eq_true,reduceCtorEq,noOwn,wipeS,hide,fuN_self,lcD,dYes,Nat.zero_add,Nat.reduceAdd,Nat.reduceLeDiff,Nat.reduceSub,atI_0,atI_1,atI_2,atI_3,atI_4,atI_5,Int.one_mul,eqv_ii,eqv_ss,eqv_num,shaped_int,shaped_num,shaped_none,shaped_ru,flat_str,flat_int,flat_none,List.all_cons,List.all_nil,Bool.and_true,decide_eq_true_eq,decide_eq_false_iff_not,Bool.not_eq_true',Bool.not_eq_false',Decidable.not_not,↓reduceIte,Bool.false_eq_true,Int.reduceLT,eqv_strs,pick_0,pick_01,pick_10,pick_012,pick_021,pick_102,pick_120,pick_201,pick_210]
    exact ⟨T, m, s.2, w - s.1, rfl, hT, by omega, by omega, by omega, ih⟩
theorem sIx_one {n : Nat} (h : 1 ≤ n) : HT.sIx n 0 (some 1) = 1 := by
  show (if (1 : Int) < 0 then ((1 : Int) + (n : Int)).toNat else min (1 : Int).toNat n) = 1
  rw [if_neg (by decide)]
  simp
  omega
theorem cut_tlT {ds : List Da} (h : 1 ≤ ds.length) : Z.cutD ds (some 1) none = ds.drop 1 := by
  unfold Z.cutD
  have e1 : HT.sIx ds.length 0 (some 1) = 1 := by
    show (if (1 : Int) < 0 then ((1 : Int) + (ds.length : Int)).toNat else min (1 : Int).toNat ds.length) = 1
    rw [if_neg (by decide)]
    simp
    omega
  rw [e1, HT.sIx_none, List.take_of_length_le (by rw [List.length_drop]; omega)]
theorem p_thresholds (rs : List Rv) (fu : Option Nat) (post : Rr → Option Nat → Prop) (hl : rs.length = 1) (h : fs_thresholds rs fu post) : b_thresholds ⟨fun g => post (.val .none) g.fu, fun r g => post r g.fu, fun _ => False, fun _ => False⟩ (ent N_thresholds rs fu) := by
  obtain ⟨c, rfl, hc, h⟩ := h
  obtain ⟨hB, w1, w2⟩ := chT_B hc.ne hc.w
  cases c with
  | nil => exact absurd rfl hc.ne
  | cons s c =>
    have hd := hc.w.hd
    simp only [↓dMHit,↓dMPutRet,↓dCallM,↓dPar3D,↓dMaxK,↓cMinDa,↓entM,↓dSeq,↓dAsg,↓dSetL,↓dNext,↓dIfS,↓dRet,↓dRetL,↓dDrop,↓dNever,↓dBrk,↓dAug,↓dPar,↓dParL,↓dApp,↓dVar,↓dC,↓dBin,↓fI,↓fI0,↓fAdd,↓fEq,↓fNe,↓fIn,↓dTest,↓dAndT,↓dOrT,↓dNotT,↓dAndV,↓dOrV,↓dNotV,↓dIf,↓dNeg,↓dIsN,↓dChain,↓dNil,↓dCons,↓dTup,↓dLst,↓dFz,↓valsD,↓dIx,↓dCall,↓dCallL,↓hasSrc,↓rrv,↓dN,↓dT,↓dTn,↓dTc,↓rsv,↓Gs.set,↓dFor,↓dItems,↓dRange1,↓dRange2,↓dZip,↓dLc,↓dCB,↓cLen,↓cAll,↓cTuple,↓cInt1,↓cInt2,↓dIsi,↓dBits,↓dCallS,↓oSub,↓oAddI,↓oMul,↓oDiv,↓oMod,↓oShl,↓oPow,↓oLt,↓oLe,↓oGt,↓oGe,↓oAbs,↓oMax,↓oMin,↓cMinL,↓fInD,↓dSl,↓oNo,↓oSo,↓dBy,↓fAddT,↓dSlT,↓dParR,↓dEnum,↓dRevL,↓gAs,↓Gs.unset,↓rtN,↓lamF,↓gLam,↓plainO,↓dGIx,↓dIxO,↓Z.isNon,b_thresholds,fs_trimmed,ent,svOf,List.map_cons,List.map_nil,List.cons_append,List.nil_append,List.append_nil,List.replicate,List.length_cons,List.length_nil,List.getElem?_cons_zero,List.getElem?_cons_succ,List.getElem?_nil,List.set_cons_zero,List.set_cons_succ,Option.map_some,Option.map_none,Option.isNone_some,Option.isNone_none,forall_const,true_implies,false_implies,and_true,true_and,Bool.true_eq_false,Bool.false_eq_true,reduceCtorEq,noOwn,wipeS,hide,fuN_self,lcD,dYes,Nat.zero_add,Nat.reduceAdd,Nat.reduceLeDiff,Nat.reduceSub,atI_0,atI_1,atI_2,atI_3,atI_4,atI_5,Int.one_mul,eqv_ii,eqv_ss,eqv_num,shaped_int,shaped_num,shaped_none,shaped_ru,flat_str,flat_int,flat_none,List.all_cons,List.all_nil,Bool.and_true,decide_eq_true_eq,decide_eq_false_iff_not,Bool.not_eq_true',Bool.not_eq_false',Decidable.not_not,↓reduceIte,Bool.false_eq_true,Int.reduceLT,eqv_strs,pick_0,pick_01,pick_10,pick_012,pick_021,pick_102,pick_120,pick_201,pick_210]
    refine ⟨_, rfl, hc, ?_⟩
    rw [trimI]
    have e1 : 1 ≤ ((s :: trimI (some s.1) c).map stD).length := by simp
    unfold chD
    rw [List.map_cons]
    have e2 : stD s = .tuple [.int s.1, .str s.2.s] := rfl
    rw [e2]
    simp only [↓dMHit,↓dMPutRet,↓dCallM,↓dPar3D,↓dMaxK,↓cMinDa,↓entM,↓dSeq,↓dAsg,↓dSetL,↓dNext,↓dIfS,↓dRet,↓dRetL,↓dDrop,↓dNever,↓dBrk,↓dAug,↓dPar,↓dParL,↓dApp,↓dVar,↓dC,↓dBin,↓fI,↓fI0,↓fAdd,↓fEq,↓fNe,↓fIn,↓dTest,↓dAndT,↓dOrT,↓dNotT,↓dAndV,↓dOrV,↓dNotV,↓dIf,↓dNeg,↓dIsN,↓dChain,↓dNil,↓dCons,↓dTup,↓dLst,↓dFz,↓valsD,↓dIx,↓dCall,↓dCallL,↓hasSrc,↓rrv,↓dN,↓dT,↓dTn,↓dTc,↓rsv,↓Gs.set,↓dFor,↓dItems,↓dRange1,↓dRange2,↓dZip,↓dLc,↓dCB,↓cLen,↓cAll,↓cTuple,↓cInt1,↓cInt2,↓dIsi,↓dBits,↓dCallS,↓oSub,↓oAddI,↓oMul,↓oDiv,↓oMod,↓oShl,↓oPow,↓oLt,↓oLe,↓oGt,↓oGe,↓oAbs,↓oMax,↓oMin,↓cMinL,↓fInD,↓dSl,↓oNo,↓oSo,↓dBy,↓fAddT,↓dSlT,↓dParR,↓dEnum,↓dRevL,↓gAs,↓Gs.unset,↓rtN,↓lamF,↓gLam,↓plainO,↓dGIx,↓dIxO,↓Z.isNon,ent,svOf,List.map_cons,List.map_nil,List.cons_append,List.nil_append,List.append_nil,List.replicate,List.length_cons,List.length_nil,List.getElem?_cons_zero,List.getElem?_cons_succ,List.getElem?_nil,List.set_cons_zero,List.set_cons_succ,Option.map_some,Option.map_none,Option.isNone_some,Option.isNone_none,forall_const,true_implies,false_implies,and_true,true_and,Bool.true_eq_false,Bool.false_eq_true,reduceCtorEq,noOwn,wipeS,hide,fuN_self,lcD,dYes,Nat.zero_add,Nat.reduceAdd,Nat.reduceLeDiff,Nat.reduceSub,atI_0,atI_1,atI_2,atI_3,atI_4,atI_5,Int.one_mul,eqv_ii,eqv_ss,eqv_num,shaped_int,shaped_num,shaped_none,shaped_ru,flat_str,flat_int,flat_none,List.all_cons,List.all_nil,Bool.and_true,decide_eq_true_eq,decide_eq_false_iff_not,Bool.not_eq_true',Bool.not_eq_false',Decidable.not_not,↓reduceIte,Bool.false_eq_true,Int.reduceLT,eqv_strs,pick_0,pick_01,pick_10,pick_012,pick_021,pick_102,pick_120,pick_201,pick_210]
    refine ⟨s.2, rfl, ?_⟩
    rw [tab_by]
    have ec : Z.cutD (PyData.tuple [PyData.int s.fst, PyData.str s.snd.s] :: List.map stD (trimI (some s.fst) c)) (some 1) none = List.map stD (trimI (some s.fst) c) := by
      rw [cut_tlT (by simp)]
      rfl
    rw [ec]
    refine ⟨fun q => absurd q.1 ?_, ?_⟩
    · rw [sIx_one (by omega)]
      decide
    have e3 : chT (s :: c) = thF s.1 (byR s.2) (trimI (some s.1) c) := rfl
    rw [e3] at h w1
    refine p_thB (m := 1) (trim_fall hc.w.tl) hd.1 (byR_B _) (by omega) fun u v => ?_
    generalize thF s.1 (byR s.2) (trimI (some s.1) c) = z at *
    simp only [↓dMHit,↓dMPutRet,↓dCallM,↓dPar3D,↓dMaxK,↓cMinDa,↓entM,↓dSeq,↓dAsg,↓dSetL,↓dNext,↓dIfS,↓dRet,↓dRetL,↓dDrop,↓dNever,↓dBrk,↓dAug,↓dPar,↓dParL,↓dApp,↓dVar,↓dC,↓dBin,↓fI,↓fI0,↓fAdd,↓fEq,↓fNe,↓fIn,↓dTest,↓dAndT,↓dOrT,↓dNotT,↓dAndV,↓dOrV,↓dNotV,↓dIf,↓dNeg,↓dIsN,↓dChain,↓dNil,↓dCons,↓dTup,↓dLst,↓dFz,↓valsD,↓dIx,↓dCall,↓dCallL,↓hasSrc,↓rrv,↓dN,↓dT,↓dTn,↓dTc,↓rsv,↓Gs.set,↓dFor,↓dItems,↓dRange1,↓dRange2,↓dZip,↓dLc,↓dCB,↓cLen,↓cAll,↓cTuple,↓cInt1,↓cInt2,↓dIsi,↓dBits,↓dCallS,↓oSub,↓oAddI,↓oMul,↓oDiv,↓oMod,↓oShl,↓oPow,↓oLt,↓oLe,↓oGt,↓oGe,↓oAbs,↓oMax,↓oMin,↓cMinL,↓fInD,↓dSl,↓oNo,↓oSo,↓dBy,↓fAddT,↓dSlT,↓dParR,↓dEnum,↓dRevL,↓gAs,↓Gs.unset,↓rtN,↓lamF,↓gLam,↓plainO,↓dGIx,↓dIxO,↓Z.isNon,prF,ent,svOf,List.map_cons,List.map_nil,List.cons_append,List.nil_append,List.append_nil,List.replicate,List.length_cons,List.length_nil,List.getElem?_cons_zero,List.getElem?_cons_succ,List.getElem?_nil,List.set_cons_zero,List.set_cons_succ,Option.map_some,Option.map_none,Option.isNone_some,Option.isNone_none,forall_const,true_implies,false_implies,and_true,true_and,Bool.true_eq_false,Bool.false_eq_true,reduceCtorEq,noOwn,wipeS,hide,fuN_self,lcD,dYes,Nat.zero_add,Nat.reduceAdd,Nat.reduceLeDiff,Nat.reduceSub,atI_0,atI_1,atI_2,atI_3,atI_4,atI_5,Int.one_mul,eqv_ii,eqv_ss,eqv_num,shaped_int,shaped_num,shaped_none,shaped_ru,flat_str,flat_int,flat_none,List.all_cons,List.all_nil,Bool.and_true,decide_eq_true_eq,decide_eq_false_iff_not,Bool.not_eq_true',Bool.not_eq_false',Decidable.not_not,↓reduceIte,Bool.false_eq_true,Int.reduceLT,eqv_strs,pick_0,pick_01,pick_10,pick_012,pick_021,pick_102,pick_120,pick_201,pick_210]
    refine ⟨fun q => ?_, fun q => ?_⟩
    · simp only [Z.prD] at h
      rw [if_neg (by omega)] at h
      exact h
    · simp only [Z.prD] at h
      rw [if_pos (by omega)] at h
      exact h
section
variable {P : Program} {w : World} {K : Fg} {mg : Str → Option Value} {base : Heap}
theorem d_thresholds (T : Tx w K mg) {cdv : Value} {A : Around} {outer : List Env} {s : Shared} {H : Hp} {E : XK} (hr : Room 6 (A.deeper (envOfC "thresholds" (defScope st_thresholds) s.heap.objs.size T.f_thresholds cdv))) (hgd : (A.deeper (envOfC "thresholds" (defScope st_thresholds) s.heap.objs.size T.f_thresholds cdv)).guards = some []) :
    PSs (cxOf CX0 P w K mg base N_thresholds "thresholds" (defScope st_thresholds) T.f_thresholds cdv A outer s H E).nox (defBody st_thresholds) (upS K W0 b_thresholds) :=
  (ss_cons (s_set (i := 1) sc_thresholds.nd rfl (.inl rfl) (e_call (ok_trimmed T) (hr.mono (by decide)) hgd (by rfl) T.g_trimmed T.F_trimmed.kp T.b_trimmed pass0 (a_cons (e_var 0 (pv 0)) a_nil)))
    (ss_cons (s_asg (e_ix (e_var 1 (pv 1)) e_int) (g_tup rfl (gs_cons (g_name (pg_name (i := 2) sc_thresholds.nd rfl (.inl rfl))) (gs_cons (g_name (pg_name (i := 3) sc_thresholds.nd rfl (.inl rfl))) gs_nil))))
    (ss_cons (s_set (i := 4) sc_thresholds.nd rfl (.inl rfl) (e_by (by rfl) T.c_BY_RULE T.k_BY_RULE (e_var 3 (pv 3))))
    (ss_cons (s_for PassesOwn.never rfl (i_items (e_sl (e_var 1 (pv 1)) (o_some e_int) o_none)) (g_tup rfl (gs_cons (g_name (pg_name (i := 5) sc_thresholds.nd rfl (.inl rfl))) (gs_cons (g_name (pg_name (i := 3) sc_thresholds.nd rfl (.inl rfl))) gs_nil))) (ss_cons (s_set (i := 4) sc_thresholds.nd rfl (.inl rfl) (e_call (ok_combined T) (hr.mono (by decide)) hgd (by rfl) T.g_combined T.F_combined.kp T.b_combined pass0 (a_cons (e_var 4 (pv 4)) (a_cons (e_var 3 (pv 3)) (a_cons (e_sub (e_var 2 (pv 2)) (e_var 5 (pv 5))) a_nil)))))
    (ss_one (s_set (i := 2) sc_thresholds.nd rfl (.inl rfl) (e_var 5 (pv 5))))))
    (ss_one (s_ret (e_if (t_gt (e_var 2 (pv 2)) e_int) (e_var 4 (pv 4)) (e_tup (a_cons e_non (a_cons (e_ix (e_var 4 (pv 4)) e_int) a_nil))))))))))
theorem ok_thresholds (T : Tx w K mg) : Fn P w K mg base CX0 7 T.f_thresholds T.fd_thresholds ["chain"] (lift K 1 fs_thresholds) := fn_data T.F_thresholds sc_thresholds b_thresholds (fun _ _ _ _ _ _ hr hgd => d_thresholds T hr hgd) p_thresholds
end
def b_check_chains : DS :=
  (dSeq (dDrop (dCall 1 fs_check_chain (dCons (dVar 0) dNil)))
  (dDrop (dCall 1 fs_check_chain (dCons (dVar 1) dNil))))
def fs_check_chains : FSp := fun rs fu post => ∃ v u, rs = [.val v, .val u] ∧ isChn v = true ∧ isChn u = true ∧ post (.val .none) fu
theorem p_check_chains (rs : List Rv) (fu : Option Nat) (post : Rr → Option Nat → Prop) (hl : rs.length = 2) (h : fs_check_chains rs fu post) : b_check_chains ⟨fun g => post (.val .none) g.fu, fun r g => post r g.fu, fun _ => False, fun _ => False⟩ (ent N_check_chains rs fu) := by
  obtain ⟨v, u, rfl, hv, hu, h⟩ := h
  simp only [↓dMHit,↓dMPutRet,↓dCallM,↓dPar3D,↓dMaxK,↓cMinDa,↓entM,↓dSeq,↓dAsg,↓dSetL,↓dNext,↓dIfS,↓dRet,↓dRetL,↓dDrop,↓dNever,↓dBrk,↓dAug,↓dPar,↓dParL,↓dApp,↓dVar,↓dC,↓dBin,↓fI,↓fI0,↓fAdd,↓fEq,↓fNe,↓fIn,↓dTest,↓dAndT,↓dOrT,↓dNotT,↓dAndV,↓dOrV,↓dNotV,↓dIf,↓dNeg,↓dIsN,↓dChain,↓dNil,↓dCons,↓dTup,↓dLst,↓dFz,↓valsD,↓dIx,↓dCall,↓dCallL,↓hasSrc,↓rrv,↓dN,↓dT,↓dTn,↓dTc,↓rsv,↓Gs.set,↓dFor,↓dItems,↓dRange1,↓dRange2,↓dZip,↓dLc,↓dCB,↓cLen,↓cAll,↓cTuple,↓cInt1,↓cInt2,↓dIsi,↓dBits,↓dCallS,↓oSub,↓oAddI,↓oMul,↓oDiv,↓oMod,↓oShl,↓oPow,↓oLt,↓oLe,↓oGt,↓oGe,↓oAbs,↓oMax,↓oMin,↓cMinL,↓fInD,↓dSl,↓oNo,↓oSo,↓dBy,↓fAddT,↓dSlT,↓dParR,↓dEnum,↓dRevL,↓gAs,↓Gs.unset,↓rtN,↓lamF,↓gLam,↓plainO,↓dGIx,↓dIxO,↓Z.isNon,b_check_chains,fs_check_chain,ent,svOf,List.map_cons,List.map_nil,List.cons_append,List.nil_append,List.append_nil,List.replicate,List.length_cons,List.length_nil,List.getElem?_cons_zero,List.getElem?_cons_succ,List.getElem?_nil,List.set_cons_zero,List.set_cons_succ,Option.map_some,Option.map_none,Option.isNone_some,Option.isNone_none,forall_const,true_implies,false_implies,and_true,true_and,Bool.true_eq_false,Bool.false_eq_true,reduceCtorEq,noOwn,wipeS,hide,fuN_self,lcD,dYes,Nat.zero_add,Nat.reduceAdd,Nat.reduceLeDiff,Nat.reduceSub,atI_0,atI_1,atI_2,atI_3,atI_4,atI_5,Int.one_mul,eqv_ii,eqv_ss,eqv_num,shaped_int,shaped_num,shaped_none,shaped_ru,flat_str,flat_int,flat_none,List.all_cons,List.all_nil,Bool.and_true,decide_eq_true_eq,decide_eq_false_iff_not,Bool.not_eq_true',Bool.not_eq_false',Decidable.not_not,↓reduceIte,Bool.false_eq_true,Int.reduceLT,eqv_strs,pick_0,pick_01,pick_10,pick_012,pick_021,pick_102,pick_120,pick_201,pick_210]
  exact ⟨v, rfl, hv, u, rfl, hu, h⟩
section
variable {P : Program} {w : World} {K : Fg} {mg : Str → Option Value} {base : Heap}
theorem d_check_chains (T : Tx w K mg) {cdv : Value} {A : Around} {outer : List Env} {s : Shared} {H : Hp} {E : XK} (hr : Room 5 (A.deeper (envOfC "check_chains" (defScope st_check_chains) s.heap.objs.size T.f_check_chains cdv))) (hgd : (A.deeper (envOfC "check_chains" (defScope st_check_chains) s.heap.objs.size T.f_check_chains cdv)).guards = some []) :
    PSs (cxOf CX0 P w K mg base N_check_chains "check_chains" (defScope st_check_chains) T.f_check_chains cdv A outer s H E).nox (defBody st_check_chains) (upS K W0 b_check_chains) :=
  (ss_cons (s_expr (e_call (ok_check_chain T) (hr.mono (by decide)) hgd (by rfl) T.g_check_chain T.F_check_chain.kp T.b_check_chain pass0 (a_cons (e_var 0 (pv 0)) a_nil)))
    (ss_one (s_expr (e_call (ok_check_chain T) (hr.mono (by decide)) hgd (by rfl) T.g_check_chain T.F_check_chain.kp T.b_check_chain pass0 (a_cons (e_var 1 (pv 1)) a_nil)))))
theorem ok_check_chains (T : Tx w K mg) : Fn P w K mg base CX0 6 T.f_check_chains T.fd_check_chains ["one", "other"] (lift K 2 fs_check_chains) := fn_data T.F_check_chains sc_check_chains b_check_chains (fun _ _ _ _ _ _ hr hgd => d_check_chains T hr hgd) p_check_chains
end
def b_same : DS :=
  (dSeq (dDrop (dCall 2 fs_check_chains (dCons (dVar 0) (dCons (dVar 1) dNil))))
  (dRet (dAndV (dBin fEq (dCall 1 fs_last_width (dCons (dVar 0) dNil)) (dCall 1 fs_last_width (dCons (dVar 1) dNil))) (dBin fEq (dCall 1 fs_thresholds (dCons (dVar 0) dNil)) (dCall 1 fs_thresholds (dCons (dVar 1) dNil))))))
def sameB (c c' : List (Int × Ru)) : Bool := decide ((chT c).1 = (chT c').1) && (Z.prD (chT c).1 (chT c).2).eqv (Z.prD (chT c').1 (chT c').2)
def fs_same : FSp := fun rs fu post => ∃ c c' : List (Int × Ru), rs = [.val (chD c), .val (chD c')] ∧ Chn1 c ∧ Chn1 c' ∧ post (.val (.bool (sameB c c'))) fu
theorem p_same (rs : List Rv) (fu : Option Nat) (post : Rr → Option Nat → Prop) (hl : rs.length = 2) (h : fs_same rs fu post) : b_same ⟨fun g => post (.val .none) g.fu, fun r g => post r g.fu, fun _ => False, fun _ => False⟩ (ent N_same rs fu) := by
  obtain ⟨c, c', rfl, hc, hc', h⟩ := h
  simp only [↓dMHit,↓dMPutRet,↓dCallM,↓dPar3D,↓dMaxK,↓cMinDa,↓entM,↓dSeq,↓dAsg,↓dSetL,↓dNext,↓dIfS,↓dRet,↓dRetL,↓dDrop,↓dNever,↓dBrk,↓dAug,↓dPar,↓dParL,↓dApp,↓dVar,↓dC,↓dBin,↓fI,↓fI0,↓fAdd,↓fEq,↓fNe,↓fIn,↓dTest,↓dAndT,↓dOrT,↓dNotT,↓dAndV,↓dOrV,↓dNotV,↓dIf,↓dNeg,↓dIsN,↓dChain,↓dNil,↓dCons,↓dTup,↓dLst,↓dFz,↓valsD,↓dIx,↓dCall,↓dCallL,↓hasSrc,↓rrv,↓dN,↓dT,↓dTn,↓dTc,↓rsv,↓Gs.set,↓dFor,↓dItems,↓dRange1,↓dRange2,↓dZip,↓dLc,↓dCB,↓cLen,↓cAll,↓cTuple,↓cInt1,↓cInt2,↓dIsi,↓dBits,↓dCallS,↓oSub,↓oAddI,↓oMul,↓oDiv,↓oMod,↓oShl,↓oPow,↓oLt,↓oLe,↓oGt,↓oGe,↓oAbs,↓oMax,↓oMin,↓cMinL,↓fInD,↓dSl,↓oNo,↓oSo,↓dBy,↓fAddT,↓dSlT,↓dParR,↓dEnum,↓dRevL,↓gAs,↓Gs.unset,↓rtN,↓lamF,↓gLam,↓plainO,↓dGIx,↓dIxO,↓Z.isNon,b_same,fs_check_chains,fs_last_width,fs_thresholds,ent,svOf,List.map_cons,List.map_nil,List.cons_append,List.nil_append,List.append_nil,List.replicate,List.length_cons,List.length_nil,List.getElem?_cons_zero,List.getElem?_cons_succ,List.getElem?_nil,List.set_cons_zero,List.set_cons_succ,Option.map_some,Option.map_none,Option.isNone_some,Option.isNone_none,forall_const,true_implies,false_implies,and_true,true_and,Bool.true_eq_false,Bool.false_eq_true,reduceCtorEq,noOwn,wipeS,hide,fuN_self,lcD,dYes,Nat.zero_add,Nat.reduceAdd,Nat.reduceLeDiff,Nat.reduceSub,atI_0,atI_1,atI_2,atI_3,atI_4,atI_5,Int.one_mul,eqv_ii,eqv_ss,eqv_num,shaped_int,shaped_num,shaped_none,shaped_ru,flat_str,flat_int,flat_none,List.all_cons,List.all_nil,Bool.and_true,decide_eq_true_eq,decide_eq_false_iff_not,Bool.not_eq_true',Bool.not_eq_false',Decidable.not_not,↓reduceIte,Bool.false_eq_true,Int.reduceLT,eqv_strs,pick_0,pick_01,pick_10,pick_012,pick_021,pick_102,pick_120,pick_201,pick_210]
  refine ⟨_, _, rfl, hc.is, hc'.is, c, rfl, hc, c', rfl, hc', fun q => ⟨c, rfl, hc, c', rfl, hc', shaped_prD _ _, shaped_prD _ _, ?_⟩, fun q => ?_⟩
  · unfold sameB at h
    rw [decide_eq_true q, Bool.true_and] at h
    exact h
  · unfold sameB at h
    rw [decide_eq_false q, Bool.false_and] at h
    exact h
section
variable {P : Program} {w : World} {K : Fg} {mg : Str → Option Value} {base : Heap}
theorem d_same (T : Tx w K mg) {cdv : Value} {A : Around} {outer : List Env} {s : Shared} {H : Hp} {E : XK} (hr : Room 7 (A.deeper (envOfC "same" (defScope st_same) s.heap.objs.size T.f_same cdv))) (hgd : (A.deeper (envOfC "same" (defScope st_same) s.heap.objs.size T.f_same cdv)).guards = some []) :
    PSs (cxOf CX0 P w K mg base N_same "same" (defScope st_same) T.f_same cdv A outer s H E).nox (defBody st_same) (upS K W0 b_same) :=
  (ss_cons (s_expr (e_call (ok_check_chains T) (hr.mono (by decide)) hgd (by rfl) T.g_check_chains T.F_check_chains.kp T.b_check_chains pass0 (a_cons (e_var 0 (pv 0)) (a_cons (e_var 1 (pv 1)) a_nil))))
    (ss_one (s_ret (e_and (e_eq hr.units (e_call (ok_last_width T) (hr.mono (by decide)) hgd (by rfl) T.g_last_width T.F_last_width.kp T.b_last_width pass0 (a_cons (e_var 0 (pv 0)) a_nil)) (e_call (ok_last_width T) (hr.mono (by decide)) hgd (by rfl) T.g_last_width T.F_last_width.kp T.b_last_width pass0 (a_cons (e_var 1 (pv 1)) a_nil))) (e_one (e_eq hr.units (e_call (ok_thresholds T) (hr.mono (by decide)) hgd (by rfl) T.g_thresholds T.F_thresholds.kp T.b_thresholds pass0 (a_cons (e_var 0 (pv 0)) a_nil)) (e_call (ok_thresholds T) (hr.mono (by decide)) hgd (by rfl) T.g_thresholds T.F_thresholds.kp T.b_thresholds pass0 (a_cons (e_var 1 (pv 1)) a_nil))))))))
theorem ok_same (T : Tx w K mg) : Fn P w K mg base CX0 8 T.f_same T.fd_same ["one", "other"] (lift K 2 fs_same) := fn_data T.F_same sc_same b_same (fun _ _ _ _ _ _ hr hgd => d_same T hr hgd) p_same
end
def b_before_step : DS :=
  (dSeq (dAsg (dVar 0) (dT 2 (dTc (dT 2 (dTc (dN 4) (dTc (dN 5) dTn))) (dTc (dN 6) dTn))))
  (dSeq (dAsg (dCall 3 fs_last_down (dCons (dVar 1) (dCons (dVar 2) (dCons (dVar 3) dNil)))) (dN 7))
  (dSeq (dAsg (dBin oSub (dBin oShl (dVar 4) (dVar 2)) (dBin oMul (dVar 7) (dVar 5))) (dN 8))
  (dSeq (dIfS (dOrT (dTest (dBin oLt (dVar 8) (dC (.int 0)))) (dOrT (dTest (dBin oGt (dVar 8) (dVar 5))) (dOrT (dAndT (dTest (dBin fEq (dVar 8) (dC (.int 0)))) (dTest (dBin fEq (dVar 6) (dC (.str "up"))))) (dAndT (dTest (dBin fEq (dVar 8) (dVar 5))) (dTest (dBin fEq (dVar 6) (dC (.str "down"))))))))
    (dRet (dC .none))
    dNext)
  (dRet (dTup (dCons (dBin oMod (dVar 7) (dC (.int 2))) (dCons (dTup (dCons (dCall 2 fs_lowest (dCons (dVar 8) (dCons (dVar 5) dNil))) (dCons (dVar 6) dNil))) dNil))))))))
def oTD : Option Th → Da
  | none => .none
  | some t => thD t
def wD (W : Wt) : Da := .tuple [oTD W.1, oTD W.2]
def bfD : Option (Bool × Th) → Da
  | none => .none
  | some q => .tuple [.int (if q.1 = true then 1 else 0), thD q.2]
def fs_before_step : FSp := fun rs fu post => ∃ (t : Th) (m : Nat) (r : Ru) (far par : Int), rs = [.val (thD t), .val (.str r.s), .val (.int far), .val (.int par)] ∧ ThK m t ∧ m ≤ 190 ∧ 1 ≤ far ∧ far ≤ 200 ∧ 0 ≤ par ∧ par ≤ 1 ∧ post (.val (bfD (befI t r far.toNat (decide (par = 1))))) fu
theorem p_before_step (rs : List Rv) (fu : Option Nat) (post : Rr → Option Nat → Prop) (hl : rs.length = 4) (h : fs_before_step rs fu post) : b_before_step ⟨fun g => post (.val .none) g.fu, fun r g => post r g.fu, fun _ => False, fun _ => False⟩ (ent N_before_step rs fu) := by
  obtain ⟨t, m, r, far, par, rfl, hT, hm, h1, h2, p0, p1, h⟩ := h
  have d0 := hT.ok.d0
  have dl : t.d ≤ 2 ^ m := Int.le_of_dvd (pow2_pos m) hT.dv
  have bn : Bn 401 t.n := (Bn.leP hT.ok.n0 (Int.le_trans hT.ok.nd dl)).mono (by omega)
  have bd : Bn 401 t.d := (Bn.leP (Int.le_of_lt d0) dl).mono (by omega)
  have bp : Bn 202 ((2 : Int) ^ far.toNat) := Bn.pow2 (by omega)
  obtain ⟨l0, l1⟩ := last_rng (r := r) (b := decide (par = 1)) (show 1 ≤ far.toNat by omega)
  have bi : Bn 202 (lastI r far.toNat (decide (par = 1))) := bp.le l0 (Int.le_of_lt l1)
  have hu := eqv_up t.up
  have hd := eqv_dn t.up
  have su := shaped_sd t.up
  unfold thD
  unfold befI partI at h
  simp only [↓dMHit,↓dMPutRet,↓dCallM,↓dPar3D,↓dMaxK,↓cMinDa,↓entM,↓dSeq,↓dAsg,↓dSetL,↓dNext,↓dIfS,↓dRet,↓dRetL,↓dDrop,↓dNever,↓dBrk,↓dAug,↓dPar,↓dParL,↓dApp,↓dVar,↓dC,↓dBin,↓fI,↓fI0,↓fAdd,↓fEq,↓fNe,↓fIn,↓dTest,↓dAndT,↓dOrT,↓dNotT,↓dAndV,↓dOrV,↓dNotV,↓dIf,↓dNeg,↓dIsN,↓dChain,↓dNil,↓dCons,↓dTup,↓dLst,↓dFz,↓valsD,↓dIx,↓dCall,↓dCallL,↓hasSrc,↓rrv,↓dN,↓dT,↓dTn,↓dTc,↓rsv,↓Gs.set,↓dFor,↓dItems,↓dRange1,↓dRange2,↓dZip,↓dLc,↓dCB,↓cLen,↓cAll,↓cTuple,↓cInt1,↓cInt2,↓dIsi,↓dBits,↓dCallS,↓oSub,↓oAddI,↓oMul,↓oDiv,↓oMod,↓oShl,↓oPow,↓oLt,↓oLe,↓oGt,↓oGe,↓oAbs,↓oMax,↓oMin,↓cMinL,↓fInD,↓dSl,↓oNo,↓oSo,↓dBy,↓fAddT,↓dSlT,↓dParR,↓dEnum,↓dRevL,↓gAs,↓Gs.unset,↓rtN,↓lamF,↓gLam,↓plainO,↓dGIx,↓dIxO,↓Z.isNon,b_before_step,fs_last_down,fs_lowest,num,ent,svOf,List.map_cons,List.map_nil,List.cons_append,List.nil_append,List.append_nil,List.replicate,List.length_cons,List.length_nil,List.getElem?_cons_zero,List.getElem?_cons_succ,List.getElem?_nil,List.set_cons_zero,List.set_cons_succ,Option.map_some,Option.map_none,Option.isNone_some,Option.isNone_none,forall_const,true_implies,false_implies,and_true,true_and,Bool.true_eq_false,Bool.false_eq_true,reduceCtorEq,noOwn,wipeS,hide,fuN_self,lcD,dYes,Nat.zero_add,Nat.reduceAdd,Nat.reduceLeDiff,Nat.reduceSub,atI_0,atI_1,atI_2,atI_3,atI_4,atI_5,Int.one_mul,eqv_ii,eqv_ss,eqv_num,shaped_int,shaped_num,shaped_none,shaped_ru,flat_str,flat_int,flat_none,List.all_cons,List.all_nil,Bool.and_true,decide_eq_true_eq,decide_eq_false_iff_not,Bool.not_eq_true',Bool.not_eq_false',Decidable.not_not,↓reduceIte,Bool.false_eq_true,Int.reduceLT,eqv_strs,pick_0,pick_01,pick_10,pick_012,pick_021,pick_102,pick_120,pick_201,pick_210]
  refine ⟨r, far, par, rfl, h1, h2, p0, p1, ?_⟩
  generalize lastI r far.toNat (decide (par = 1)) = i at *
  have sh := shlX 401 bn (show 0 ≤ far by omega) (by omega)
  generalize t.n * 2 ^ far.toNat - i * t.d = p at *
  have yes : outP t p → post (.val .none) fu := fun y => by
    rw [if_pos y] at h
    exact h
  have fin : ¬outP t p → ∃ n d : Int, [Rv.val (PyData.int p), Rv.val (PyData.int t.d)] = [Rv.val (PyData.int n), Rv.val (PyData.int d)] ∧ 0 ≤ n ∧ 0 < d ∧ Bn 9000 d ∧ post (.val (.tuple [.int (i % 2), .tuple [lowD n d, .str (sdS t.up)]])) fu := fun no => by
    refine ⟨p, t.d, rfl, Int.not_lt.mp fun z => no (.inl z), d0, bd.mono (by decide), ?_⟩
    rw [if_neg no] at h
    have e : i % 2 = if decide (i % 2 = 1) = true then 1 else 0 := by
      have := mod2 i
      by_cases q : i % 2 = 1
      · rw [q]; rfl
      · rw [decide_eq_false q]; show _ = (0 : Int); omega
    rw [e]
    exact h
  refine ⟨sh, mulX 202 401 bi bd (by decide), fun q => yes (.inl q), fun q1 => ⟨fun q => yes (.inr (.inl q)), fun q2 => ⟨fun q3 => ⟨su, shaped_up, fun q => yes (.inr (.inr (.inl ⟨q3, (dec_up _).mp q⟩))), fun q4 => ⟨fun q5 => ⟨su, shaped_dn, fun q6 => yes (.inr (.inr (.inr ⟨q5, (dec_dn _).mp q6⟩))), fun q6 => ?_⟩, fun q5 => ?_⟩⟩, fun q3 => ⟨fun q5 => ⟨su, shaped_dn, fun q6 => yes (.inr (.inr (.inr ⟨q5, (dec_dn _).mp q6⟩))), fun q6 => ?_⟩, fun q5 => ?_⟩⟩⟩⟩
  · exact fin fun z => by rcases z with z | z | ⟨z, z'⟩ | ⟨z, z'⟩; exact q1 z; exact q2 z; exact q4 ((dec_up _).mpr z'); exact q6 ((dec_dn _).mpr z')
  · exact fin fun z => by rcases z with z | z | ⟨z, z'⟩ | ⟨z, z'⟩; exact q1 z; exact q2 z; exact q4 ((dec_up _).mpr z'); exact q5 z
  · exact fin fun z => by rcases z with z | z | ⟨z, z'⟩ | ⟨z, z'⟩; exact q1 z; exact q2 z; exact q3 z; exact q6 ((dec_dn _).mpr z')
  · exact fin fun z => by rcases z with z | z | ⟨z, z'⟩ | ⟨z, z'⟩; exact q1 z; exact q2 z; exact q3 z; exact q5 z
section
variable {P : Program} {w : World} {K : Fg} {mg : Str → Option Value} {base : Heap}
theorem d_before_step (T : Tx w K mg) {cdv : Value} {A : Around} {outer : List Env} {s : Shared} {H : Hp} {E : XK} (hr : Room 2 (A.deeper (envOfC "before_step" (defScope st_before_step) s.heap.objs.size T.f_before_step cdv))) (hgd : (A.deeper (envOfC "before_step" (defScope st_before_step) s.heap.objs.size T.f_before_step cdv)).guards = some []) :
    PSs (cxOf CX0 P w K mg base N_before_step "before_step" (defScope st_before_step) T.f_before_step cdv A outer s H E).nox (defBody st_before_step) (upS K W0 b_before_step) :=
  (ss_cons (s_asg (e_var 0 (pv 0)) (g_tup rfl (gs_cons (g_tup rfl (gs_cons (g_name (pg_name (i := 4) sc_before_step.nd rfl (.inl rfl))) (gs_cons (g_name (pg_name (i := 5) sc_before_step.nd rfl (.inl rfl))) gs_nil))) (gs_cons (g_name (pg_name (i := 6) sc_before_step.nd rfl (.inl rfl))) gs_nil))))
    (ss_cons (s_set (i := 7) sc_before_step.nd rfl (.inl rfl) (e_call (ok_last_down T) (hr.mono (by decide)) hgd (by rfl) T.g_last_down T.F_last_down.kp T.b_last_down pass0 (a_cons (e_var 1 (pv 1)) (a_cons (e_var 2 (pv 2)) (a_cons (e_var 3 (pv 3)) a_nil)))))
    (ss_cons (s_set (i := 8) sc_before_step.nd rfl (.inl rfl) (e_sub (e_shl (e_var 4 (pv 4)) (e_var 2 (pv 2))) (e_mul (e_var 7 (pv 7)) (e_var 5 (pv 5)))))
    (ss_cons (s_if (PW.pt (w_or (t_lt (e_var 8 (pv 8)) e_int) (w_or (t_gt (e_var 8 (pv 8)) (e_var 5 (pv 5))) (w_or (PW.pt (w_and (t_eq hr.units (e_var 8 (pv 8)) e_int) (w_and1 (t_eq hr.units (e_var 6 (pv 6)) (e_glob (by rfl) T.c_UP T.v_UP T.r_UP))))) (w_or1 (PW.pt (w_and (t_eq hr.units (e_var 8 (pv 8)) (e_var 5 (pv 5))) (w_and1 (t_eq hr.units (e_var 6 (pv 6)) (e_glob (by rfl) T.c_DOWN T.v_DOWN T.r_DOWN)))))))))) (ss_one (s_ret e_non)) ss_nil)
    (ss_one (s_ret (e_tup (a_cons (e_mod (e_var 7 (pv 7)) e_int) (a_cons (e_tup (a_cons (e_call (ok_lowest T) (hr.mono (by decide)) hgd (by rfl) T.g_lowest T.F_lowest.kp T.b_lowest pass0 (a_cons (e_var 8 (pv 8)) (a_cons (e_var 5 (pv 5)) a_nil))) (a_cons (e_var 6 (pv 6)) a_nil))) a_nil)))))))))
theorem ok_before_step (T : Tx w K mg) : Fn P w K mg base CX0 3 T.f_before_step T.fd_before_step ["threshold", "rule", "far", "parity"] (lift K 4 fs_before_step) := fn_data T.F_before_step sc_before_step b_before_step (fun _ _ _ _ _ _ hr hgd => d_before_step T hr hgd) p_before_step
end
def b_all_before : DS :=
  (dSeq (dSetL 3 (dLst dNil))
  (dSeq (dFor (dEnum (dVar 0)) (dT 2 (dTc (dN 4) (dTc (dN 5) dTn)))
    (dIfS (dTest (dIsN true (dVar 5)))
    (dSeq (dAsg (dCall 4 fs_before_step (dCons (dVar 5) (dCons (dVar 1) (dCons (dVar 2) (dCons (dVar 4) dNil))))) (dN 6))
  (dSeq (dIfS (dTest (dIsN false (dVar 6)))
    (dRet (dC .none))
    dNext)
  (dApp 3 (dVar 6))))
    dNext))
  (dRet (dVar 3))))
def alD : Option (List (Bool × Th)) → Da
  | none => .none
  | some l => .list (l.map fun q => bfD (some q))
def fs_all_before : FSp := fun rs fu post => ∃ (W : Wt) (m : Nat) (r : Ru) (far : Int), rs = [.val (wD W), .val (.str r.s), .val (.int far)] ∧ WK m W ∧ m ≤ 190 ∧ 1 ≤ far ∧ far ≤ 200 ∧ post (.val (alD (allI W r far.toNat))) fu
def abB : DS := (dIfS (dTest (dIsN true (dVar 5)))
    (dSeq (dAsg (dCall 4 fs_before_step (dCons (dVar 5) (dCons (dVar 1) (dCons (dVar 2) (dCons (dVar 4) dNil))))) (dN 6))
  (dSeq (dIfS (dTest (dIsN false (dVar 6)))
    (dRet (dC .none))
    dNext)
  (dApp 3 (dVar 6))))
    dNext)
theorem non_th (t : Th) : Z.isNon (thD t) = false := rfl
theorem p_abB {D : DEnds} {x : Option Sv} {fu : Option Nat} {m : Nat} {r : Ru} {far : Int} {b : Bool} {o : Option Th} {acc : List Da} {u v w : Option Sv} (hk : ∀ t, o = some t → ThK m t) (hm : m ≤ 190) (h1 : 1 ≤ far) (h2 : far ≤ 200) (hl : acc.length ≤ 10)
    (hn : oneI o r far.toNat b = none → ∀ g : Gs, g.fu = fu → D.rt (.val .none) g)
    (hs : ∀ l, oneI o r far.toNat b = some l → ∀ u v w, D.nx ⟨[x, some (.val (.str r.s)), some (.val (.int far)), some (.own (acc ++ l.map fun q => bfD (some q))), u, v, w], fu, fu.isNone⟩) :
    dT 2 (dTc (dN 4) (dTc (dN 5) dTn)) (.val (.tuple [.int (if b = true then 1 else 0), oTD o])) ⟨[x, some (.val (.str r.s)), some (.val (.int far)), some (.own acc), u, v, w], fu, fu.isNone⟩ fun g1 => abB D g1 := by
  cases o with
  | none =>
    simp only [↓dMHit,↓dMPutRet,↓dCallM,↓dPar3D,↓dMaxK,↓cMinDa,↓entM,↓dSeq,↓dAsg,↓dSetL,↓dNext,↓dIfS,↓dRet,↓dRetL,↓dDrop,↓dNever,↓dBrk,↓dAug,↓dPar,↓dParL,↓dApp,↓dVar,↓dC,↓dBin,↓fI,↓fI0,↓fAdd,↓fEq,↓fNe,↓fIn,↓dTest,↓dAndT,↓dOrT,↓dNotT,↓dAndV,↓dOrV,↓dNotV,↓dIf,↓dNeg,↓dIsN,↓dChain,↓dNil,↓dCons,↓dTup,↓dLst,↓dFz,↓valsD,↓dIx,↓dCall,↓dCallL,↓hasSrc,↓rrv,↓dN,↓dT,↓dTn,↓dTc,↓rsv,↓Gs.set,↓dFor,↓dItems,↓dRange1,↓dRange2,↓dZip,↓dLc,↓dCB,↓cLen,↓cAll,↓cTuple,↓cInt1,↓cInt2,↓dIsi,↓dBits,↓dCallS,↓oSub,↓oAddI,↓oMul,↓oDiv,↓oMod,↓oShl,↓oPow,↓oLt,↓oLe,↓oGt,↓oGe,↓oAbs,↓oMax,↓oMin,↓cMinL,↓fInD,↓dSl,↓oNo,↓oSo,↓dBy,↓fAddT,↓dSlT,↓dParR,↓dEnum,↓dRevL,↓gAs,↓Gs.unset,↓rtN,↓lamF,↓gLam,↓plainO,↓dGIx,↓dIxO,↓Z.isNon,abB,oTD,Z.isNon,ent,svOf,List.map_cons,List.map_nil,List.cons_append,List.nil_append,List.append_nil,List.replicate,List.length_cons,List.length_nil,List.getElem?_cons_zero,List.getElem?_cons_succ,List.getElem?_nil,List.set_cons_zero,List.set_cons_succ,Option.map_some,Option.map_none,Option.isNone_some,Option.isNone_none,forall_const,true_implies,false_implies,and_true,true_and,Bool.true_eq_false,Bool.false_eq_true,reduceCtorEq,noOwn,wipeS,hide,fuN_self,lcD,dYes,Nat.zero_add,Nat.reduceAdd,Nat.reduceLeDiff,Nat.reduceSub,atI_0,atI_1,atI_2,atI_3,atI_4,atI_5,Int.one_mul,eqv_ii,eqv_ss,eqv_num,shaped_int,shaped_num,shaped_none,shaped_ru,flat_str,flat_int,flat_none,List.all_cons,List.all_nil,Bool.and_true,decide_eq_true_eq,decide_eq_false_iff_not,Bool.not_eq_true',Bool.not_eq_false',Decidable.not_not,↓reduceIte,Bool.false_eq_true,Int.reduceLT,eqv_strs,pick_0,pick_01,pick_10,pick_012,pick_021,pick_102,pick_120,pick_201,pick_210]
    have := hs [] rfl
    rw [List.map_nil, List.append_nil] at this
    exact this _ _ _
  | some t =>
    rw [oneI_some] at hn hs
    show dT 2 (dTc (dN 4) (dTc (dN 5) dTn)) (.val (.tuple [.int (if b = true then 1 else 0), thD t])) _ _
    simp only [↓dMHit,↓dMPutRet,↓dCallM,↓dPar3D,↓dMaxK,↓cMinDa,↓entM,↓dSeq,↓dAsg,↓dSetL,↓dNext,↓dIfS,↓dRet,↓dRetL,↓dDrop,↓dNever,↓dBrk,↓dAug,↓dPar,↓dParL,↓dApp,↓dVar,↓dC,↓dBin,↓fI,↓fI0,↓fAdd,↓fEq,↓fNe,↓fIn,↓dTest,↓dAndT,↓dOrT,↓dNotT,↓dAndV,↓dOrV,↓dNotV,↓dIf,↓dNeg,↓dIsN,↓dChain,↓dNil,↓dCons,↓dTup,↓dLst,↓dFz,↓valsD,↓dIx,↓dCall,↓dCallL,↓hasSrc,↓rrv,↓dN,↓dT,↓dTn,↓dTc,↓rsv,↓Gs.set,↓dFor,↓dItems,↓dRange1,↓dRange2,↓dZip,↓dLc,↓dCB,↓cLen,↓cAll,↓cTuple,↓cInt1,↓cInt2,↓dIsi,↓dBits,↓dCallS,↓oSub,↓oAddI,↓oMul,↓oDiv,↓oMod,↓oShl,↓oPow,↓oLt,↓oLe,↓oGt,↓oGe,↓oAbs,↓oMax,↓oMin,↓cMinL,↓fInD,↓dSl,↓oNo,↓oSo,↓dBy,↓fAddT,↓dSlT,↓dParR,↓dEnum,↓dRevL,↓gAs,↓Gs.unset,↓rtN,↓lamF,↓gLam,↓plainO,↓dGIx,↓dIxO,↓Z.isNon,abB,non_th,fs_before_step,ent,svOf,List.map_cons,List.map_nil,List.cons_append,List.nil_append,List.append_nil,List.replicate,List.length_cons,List.length_nil,List.getElem?_cons_zero,List.getElem?_cons_succ,List.getElem?_nil,List.set_cons_zero,List.set_cons_succ,Option.map_some,Option.map_none,Option.isNone_some,Option.isNone_none,forall_const,true_implies,false_implies,and_true,true_and,Bool.true_eq_false,Bool.false_eq_true,reduceCtorEq,noOwn,wipeS,hide,fuN_self,lcD,dYes,Nat.zero_add,Nat.reduceAdd,Nat.reduceLeDiff,Nat.reduceSub,atI_0,atI_1,atI_2,atI_3,atI_4,atI_5,Int.one_mul,eqv_ii,eqv_ss,eqv_num,shaped_int,shaped_num,shaped_none,shaped_ru,flat_str,flat_int,flat_none,List.all_cons,List.all_nil,Bool.and_true,decide_eq_true_eq,decide_eq_false_iff_not,Bool.not_eq_true',Bool.not_eq_false',Decidable.not_not,↓reduceIte,Bool.false_eq_true,Int.reduceLT,eqv_strs,pick_0,pick_01,pick_10,pick_012,pick_021,pick_102,pick_120,pick_201,pick_210]
    refine ⟨fun _ => ⟨t, m, r, far, if b = true then 1 else 0, rfl, hk t rfl, hm, h1, h2, by cases b <;> decide, by cases b <;> decide, ?_⟩, fun z => Bool.noConfusion (show false = true from z)⟩
    have e : decide ((if b = true then (1 : Int) else 0) = 1) = b := by cases b <;> rfl
    rw [e]
    cases q : befI t r far.toNat b with
    | none =>
      rw [q] at hn
      simp only [↓dMHit,↓dMPutRet,↓dCallM,↓dPar3D,↓dMaxK,↓cMinDa,↓entM,↓dSeq,↓dAsg,↓dSetL,↓dNext,↓dIfS,↓dRet,↓dRetL,↓dDrop,↓dNever,↓dBrk,↓dAug,↓dPar,↓dParL,↓dApp,↓dVar,↓dC,↓dBin,↓fI,↓fI0,↓fAdd,↓fEq,↓fNe,↓fIn,↓dTest,↓dAndT,↓dOrT,↓dNotT,↓dAndV,↓dOrV,↓dNotV,↓dIf,↓dNeg,↓dIsN,↓dChain,↓dNil,↓dCons,↓dTup,↓dLst,↓dFz,↓valsD,↓dIx,↓dCall,↓dCallL,↓hasSrc,↓rrv,↓dN,↓dT,↓dTn,↓dTc,↓rsv,↓Gs.set,↓dFor,↓dItems,↓dRange1,↓dRange2,↓dZip,↓dLc,↓dCB,↓cLen,↓cAll,↓cTuple,↓cInt1,↓cInt2,↓dIsi,↓dBits,↓dCallS,↓oSub,↓oAddI,↓oMul,↓oDiv,↓oMod,↓oShl,↓oPow,↓oLt,↓oLe,↓oGt,↓oGe,↓oAbs,↓oMax,↓oMin,↓cMinL,↓fInD,↓dSl,↓oNo,↓oSo,↓dBy,↓fAddT,↓dSlT,↓dParR,↓dEnum,↓dRevL,↓gAs,↓Gs.unset,↓rtN,↓lamF,↓gLam,↓plainO,↓dGIx,↓dIxO,↓Z.isNon,bfD,Z.isNon,ent,svOf,List.map_cons,List.map_nil,List.cons_append,List.nil_append,List.append_nil,List.replicate,List.length_cons,List.length_nil,List.getElem?_cons_zero,List.getElem?_cons_succ,List.getElem?_nil,List.set_cons_zero,List.set_cons_succ,Option.map_some,Option.map_none,Option.isNone_some,Option.isNone_none,forall_const,true_implies,false_implies,and_true,true_and,Bool.true_eq_false,Bool.false_eq_true,reduceCtorEq,noOwn,wipeS,hide,fuN_self,lcD,dYes,Nat.zero_add,Nat.reduceAdd,Nat.reduceLeDiff,Nat.reduceSub,atI_0,atI_1,atI_2,atI_3,atI_4,atI_5,Int.one_mul,eqv_ii,eqv_ss,eqv_num,shaped_int,shaped_num,shaped_none,shaped_ru,flat_str,flat_int,flat_none,List.all_cons,List.all_nil,Bool.and_true,decide_eq_true_eq,decide_eq_false_iff_not,Bool.not_eq_true',Bool.not_eq_false',Decidable.not_not,↓reduceIte,Bool.false_eq_true,Int.reduceLT,eqv_strs,pick_0,pick_01,pick_10,pick_012,pick_021,pick_102,pick_120,pick_201,pick_210]
      exact hn rfl _ rfl
    | some y =>
      rw [q] at hs
      simp only [↓dMHit,↓dMPutRet,↓dCallM,↓dPar3D,↓dMaxK,↓cMinDa,↓entM,↓dSeq,↓dAsg,↓dSetL,↓dNext,↓dIfS,↓dRet,↓dRetL,↓dDrop,↓dNever,↓dBrk,↓dAug,↓dPar,↓dParL,↓dApp,↓dVar,↓dC,↓dBin,↓fI,↓fI0,↓fAdd,↓fEq,↓fNe,↓fIn,↓dTest,↓dAndT,↓dOrT,↓dNotT,↓dAndV,↓dOrV,↓dNotV,↓dIf,↓dNeg,↓dIsN,↓dChain,↓dNil,↓dCons,↓dTup,↓dLst,↓dFz,↓valsD,↓dIx,↓dCall,↓dCallL,↓hasSrc,↓rrv,↓dN,↓dT,↓dTn,↓dTc,↓rsv,↓Gs.set,↓dFor,↓dItems,↓dRange1,↓dRange2,↓dZip,↓dLc,↓dCB,↓cLen,↓cAll,↓cTuple,↓cInt1,↓cInt2,↓dIsi,↓dBits,↓dCallS,↓oSub,↓oAddI,↓oMul,↓oDiv,↓oMod,↓oShl,↓oPow,↓oLt,↓oLe,↓oGt,↓oGe,↓oAbs,↓oMax,↓oMin,↓cMinL,↓fInD,↓dSl,↓oNo,↓oSo,↓dBy,↓fAddT,↓dSlT,↓dParR,↓dEnum,↓dRevL,↓gAs,↓Gs.unset,↓rtN,↓lamF,↓gLam,↓plainO,↓dGIx,↓dIxO,↓Z.isNon,bfD,Z.isNon,ent,svOf,List.map_cons,List.map_nil,List.cons_append,List.nil_append,List.append_nil,List.replicate,List.length_cons,List.length_nil,List.getElem?_cons_zero,List.getElem?_cons_succ,List.getElem?_nil,List.set_cons_zero,List.set_cons_succ,Option.map_some,Option.map_none,Option.isNone_some,Option.isNone_none,forall_const,true_implies,false_implies,and_true,true_and,Bool.true_eq_false,Bool.false_eq_true,reduceCtorEq,noOwn,wipeS,hide,fuN_self,lcD,dYes,Nat.zero_add,Nat.reduceAdd,Nat.reduceLeDiff,Nat.reduceSub,atI_0,atI_1,atI_2,atI_3,atI_4,atI_5,Int.one_mul,eqv_ii,eqv_ss,eqv_num,shaped_int,shaped_num,shaped_none,shaped_ru,flat_str,flat_int,flat_none,List.all_cons,List.all_nil,Bool.and_true,decide_eq_true_eq,decide_eq_false_iff_not,Bool.not_eq_true',Bool.not_eq_false',Decidable.not_not,↓reduceIte,Bool.false_eq_true,Int.reduceLT,eqv_strs,pick_0,pick_01,pick_10,pick_012,pick_021,pick_102,pick_120,pick_201,pick_210]
      exact ⟨⟨_, rfl⟩, by omega, hs [y] rfl _ _ _⟩
theorem p_all_before (rs : List Rv) (fu : Option Nat) (post : Rr → Option Nat → Prop) (hl : rs.length = 3) (h : fs_all_before rs fu post) : b_all_before ⟨fun g => post (.val .none) g.fu, fun r g => post r g.fu, fun _ => False, fun _ => False⟩ (ent N_all_before rs fu) := by
  obtain ⟨W, m, r, far, rfl, hW, hm, h1, h2, h⟩ := h
  have k1 : ∀ t, W.1 = some t → ThK m t := hW false
  have k2 : ∀ t, W.2 = some t → ThK m t := hW true
  unfold allI at h
  simp only [↓dMHit,↓dMPutRet,↓dCallM,↓dPar3D,↓dMaxK,↓cMinDa,↓entM,↓dSeq,↓dAsg,↓dSetL,↓dNext,↓dIfS,↓dRet,↓dRetL,↓dDrop,↓dNever,↓dBrk,↓dAug,↓dPar,↓dParL,↓dApp,↓dVar,↓dC,↓dBin,↓fI,↓fI0,↓fAdd,↓fEq,↓fNe,↓fIn,↓dTest,↓dAndT,↓dOrT,↓dNotT,↓dAndV,↓dOrV,↓dNotV,↓dIf,↓dNeg,↓dIsN,↓dChain,↓dNil,↓dCons,↓dTup,↓dLst,↓dFz,↓valsD,↓dIx,↓dCall,↓dCallL,↓hasSrc,↓rrv,↓dN,↓dT,↓dTn,↓dTc,↓rsv,↓Gs.set,↓dFor,↓dItems,↓dRange1,↓dRange2,↓dZip,↓dLc,↓dCB,↓cLen,↓cAll,↓cTuple,↓cInt1,↓cInt2,↓dIsi,↓dBits,↓dCallS,↓oSub,↓oAddI,↓oMul,↓oDiv,↓oMod,↓oShl,↓oPow,↓oLt,↓oLe,↓oGt,↓oGe,↓oAbs,↓oMax,↓oMin,↓cMinL,↓fInD,↓dSl,↓oNo,↓oSo,↓dBy,↓fAddT,↓dSlT,↓dParR,↓dEnum,↓dRevL,↓gAs,↓Gs.unset,↓rtN,↓lamF,↓gLam,↓plainO,↓dGIx,↓dIxO,↓Z.isNon,b_all_before,wD,ent,svOf,List.map_cons,List.map_nil,List.cons_append,List.nil_append,List.append_nil,List.replicate,List.length_cons,List.length_nil,List.getElem?_cons_zero,List.getElem?_cons_succ,List.getElem?_nil,List.set_cons_zero,List.set_cons_succ,Option.map_some,Option.map_none,Option.isNone_some,Option.isNone_none,forall_const,true_implies,false_implies,and_true,true_and,Bool.true_eq_false,Bool.false_eq_true,reduceCtorEq,noOwn,wipeS,hide,fuN_self,lcD,dYes,Nat.zero_add,Nat.reduceAdd,Nat.reduceLeDiff,Nat.reduceSub,atI_0,atI_1,atI_2,atI_3,atI_4,atI_5,Int.one_mul,eqv_ii,eqv_ss,eqv_num,shaped_int,shaped_num,shaped_none,shaped_ru,flat_str,flat_int,flat_none,List.all_cons,List.all_nil,Bool.and_true,decide_eq_true_eq,decide_eq_false_iff_not,Bool.not_eq_true',Bool.not_eq_false',Decidable.not_not,↓reduceIte,Bool.false_eq_true,Int.reduceLT,eqv_strs,pick_0,pick_01,pick_10,pick_012,pick_021,pick_102,pick_120,pick_201,pick_210]
  refine p_abB (b := false) (acc := []) (m := m) k1 hm h1 h2 (by simp) (fun e g hg => ?_) fun l e u v w => ?_
  · rw [e] at h
    show post _ g.fu
    rw [hg]
    exact h
  rw [e] at h
  refine p_abB (b := true) (m := m) k2 hm h1 h2 (by have := (all_K (r := r) (f := far.toNat) (l := l) (W := (W.1, none)) (m := m) (fun b t z => by cases b; exact hW false t z; cases z) (by unfold allI; rw [e]; simp [oneI])).1; simp; omega) (fun e' g hg => ?_) fun l' e' u v w => ?_
  · show post _ g.fu
    rw [hg]
    simp only [e'] at h
    exact h
  simp only [e'] at h
  simp only [↓dMHit,↓dMPutRet,↓dCallM,↓dPar3D,↓dMaxK,↓cMinDa,↓entM,↓dSeq,↓dAsg,↓dSetL,↓dNext,↓dIfS,↓dRet,↓dRetL,↓dDrop,↓dNever,↓dBrk,↓dAug,↓dPar,↓dParL,↓dApp,↓dVar,↓dC,↓dBin,↓fI,↓fI0,↓fAdd,↓fEq,↓fNe,↓fIn,↓dTest,↓dAndT,↓dOrT,↓dNotT,↓dAndV,↓dOrV,↓dNotV,↓dIf,↓dNeg,↓dIsN,↓dChain,↓dNil,↓dCons,↓dTup,↓dLst,↓dFz,↓valsD,↓dIx,↓dCall,↓dCallL,↓hasSrc,↓rrv,↓dN,↓dT,↓dTn,↓dTc,↓rsv,↓Gs.set,↓dFor,↓dItems,↓dRange1,↓dRange2,↓dZip,↓dLc,↓dCB,↓cLen,↓cAll,↓cTuple,↓cInt1,↓cInt2,↓dIsi,↓dBits,↓dCallS,↓oSub,↓oAddI,↓oMul,↓oDiv,↓oMod,↓oShl,↓oPow,↓oLt,↓oLe,↓oGt,↓oGe,↓oAbs,↓oMax,↓oMin,↓cMinL,↓fInD,↓dSl,↓oNo,↓oSo,↓dBy,↓fAddT,↓dSlT,↓dParR,↓dEnum,↓dRevL,↓gAs,↓Gs.unset,↓rtN,↓lamF,↓gLam,↓plainO,↓dGIx,↓dIxO,↓Z.isNon,ent,svOf,List.map_cons,List.map_nil,List.cons_append,List.nil_append,List.append_nil,List.replicate,List.length_cons,List.length_nil,List.getElem?_cons_zero,List.getElem?_cons_succ,List.getElem?_nil,List.set_cons_zero,List.set_cons_succ,Option.map_some,Option.map_none,Option.isNone_some,Option.isNone_none,forall_const,true_implies,false_implies,and_true,true_and,Bool.true_eq_false,Bool.false_eq_true,reduceCtorEq,noOwn,wipeS,hide,fuN_self,lcD,dYes,Nat.zero_add,Nat.reduceAdd,Nat.reduceLeDiff,Nat.reduceSub,atI_0,atI_1,atI_2,atI_3,atI_4,atI_5,Int.one_mul,eqv_ii,eqv_ss,eqv_num,shaped_int,shaped_num,shaped_none,shaped_ru,flat_str,flat_int,flat_none,List.all_cons,List.all_nil,Bool.and_true,decide_eq_true_eq,decide_eq_false_iff_not,Bool.not_eq_true',Bool.not_eq_false',Decidable.not_not,↓reduceIte,Bool.false_eq_true,Int.reduceLT,eqv_strs,pick_0,pick_01,pick_10,pick_012,pick_021,pick_102,pick_120,pick_201,pick_210]
  rw [show enD (0 + 1 + 1) ([] : List Da) = [] from rfl, forD]
  simp only [↓dMHit,↓dMPutRet,↓dCallM,↓dPar3D,↓dMaxK,↓cMinDa,↓entM,↓dSeq,↓dAsg,↓dSetL,↓dNext,↓dIfS,↓dRet,↓dRetL,↓dDrop,↓dNever,↓dBrk,↓dAug,↓dPar,↓dParL,↓dApp,↓dVar,↓dC,↓dBin,↓fI,↓fI0,↓fAdd,↓fEq,↓fNe,↓fIn,↓dTest,↓dAndT,↓dOrT,↓dNotT,↓dAndV,↓dOrV,↓dNotV,↓dIf,↓dNeg,↓dIsN,↓dChain,↓dNil,↓dCons,↓dTup,↓dLst,↓dFz,↓valsD,↓dIx,↓dCall,↓dCallL,↓hasSrc,↓rrv,↓dN,↓dT,↓dTn,↓dTc,↓rsv,↓Gs.set,↓dFor,↓dItems,↓dRange1,↓dRange2,↓dZip,↓dLc,↓dCB,↓cLen,↓cAll,↓cTuple,↓cInt1,↓cInt2,↓dIsi,↓dBits,↓dCallS,↓oSub,↓oAddI,↓oMul,↓oDiv,↓oMod,↓oShl,↓oPow,↓oLt,↓oLe,↓oGt,↓oGe,↓oAbs,↓oMax,↓oMin,↓cMinL,↓fInD,↓dSl,↓oNo,↓oSo,↓dBy,↓fAddT,↓dSlT,↓dParR,↓dEnum,↓dRevL,↓gAs,↓Gs.unset,↓rtN,↓lamF,↓gLam,↓plainO,↓dGIx,↓dIxO,↓Z.isNon,ent,svOf,List.map_cons,List.map_nil,List.cons_append,List.nil_append,List.append_nil,List.replicate,List.length_cons,List.length_nil,List.getElem?_cons_zero,List.getElem?_cons_succ,List.getElem?_nil,List.set_cons_zero,List.set_cons_succ,Option.map_some,Option.map_none,Option.isNone_some,Option.isNone_none,forall_const,true_implies,false_implies,and_true,true_and,Bool.true_eq_false,Bool.false_eq_true,reduceCtorEq,noOwn,wipeS,hide,fuN_self,lcD,dYes,Nat.zero_add,Nat.reduceAdd,Nat.reduceLeDiff,Nat.reduceSub,atI_0,atI_1,atI_2,atI_3,atI_4,atI_5,Int.one_mul,eqv_ii,eqv_ss,eqv_num,shaped_int,shaped_num,shaped_none,shaped_ru,flat_str,flat_int,flat_none,List.all_cons,List.all_nil,Bool.and_true,decide_eq_true_eq,decide_eq_false_iff_not,Bool.not_eq_true',Bool.not_eq_false',Decidable.not_not,↓reduceIte,Bool.false_eq_true,Int.reduceLT,eqv_strs,pick_0,pick_01,pick_10,pick_012,pick_021,pick_102,pick_120,pick_201,pick_210]
  rw [← List.map_append]
  exact h
section
variable {P : Program} {w : World} {K : Fg} {mg : Str → Option Value} {base : Heap}
theorem d_all_before (T : Tx w K mg) {cdv : Value} {A : Around} {outer : List Env} {s : Shared} {H : Hp} {E : XK} (hr : Room 3 (A.deeper (envOfC "all_before" (defScope st_all_before) s.heap.objs.size T.f_all_before cdv))) (hgd : (A.deeper (envOfC "all_before" (defScope st_all_before) s.heap.objs.size T.f_all_before cdv)).guards = some []) :
    PSs (cxOf CX0 P w K mg base N_all_before "all_before" (defScope st_all_before) T.f_all_before cdv A outer s H E).nox (defBody st_all_before) (upS K W0 b_all_before) :=
  (ss_cons (s_setL (i := 3) sc_all_before.nd rfl (.inl rfl) (e_lstL a_nil))
    (ss_cons (s_for PassesOwn.never rfl (i_enum (by rfl) T.n_enumerate (e_var 0 (pv 0))) (g_tup rfl (gs_cons (g_name (pg_name (i := 4) sc_all_before.nd rfl (.inl rfl))) (gs_cons (g_name (pg_name (i := 5) sc_all_before.nd rfl (.inl rfl))) gs_nil))) (ss_one (s_if (t_notN (e_var 5 (pv 5))) (ss_cons (s_set (i := 6) sc_all_before.nd rfl (.inl rfl) (e_call (ok_before_step T) (hr.mono (by decide)) hgd (by rfl) T.g_before_step T.F_before_step.kp T.b_before_step pass0 (a_cons (e_var 5 (pv 5)) (a_cons (e_var 1 (pv 1)) (a_cons (e_var 2 (pv 2)) (a_cons (e_var 4 (pv 4)) a_nil))))))
    (ss_cons (s_if (t_isN (e_var 6 (pv 6))) (ss_one (s_ret e_non)) ss_nil)
    (ss_one (s_app (name := "x") (pv 3) (e_var 6 (pv 6)) (fun h => pe_bm PySem.F.plainAttrs_list PySem.F.slot_list_append PySem.F.type_list_append mt_append (pv 3) h))))) ss_nil)))
    (ss_one (s_ret (e_var 3 (pv 3))))))
theorem ok_all_before (T : Tx w K mg) : Fn P w K mg base CX0 4 T.f_all_before T.fd_all_before ["wanted", "rule", "far"] (lift K 3 fs_all_before) := fn_data T.F_all_before sc_all_before b_all_before (fun _ _ _ _ _ _ hr hgd => d_all_before T hr hgd) p_all_before
end
def b_merged : DS :=
  (dSeq (dSetL 1 (dLst (dCons (dC .none) (dCons (dC .none) dNil))))
  (dSeq (dFor (dItems (dVar 0)) (dT 2 (dTc (dN 2) (dTc (dN 3) dTn)))
    (dSeq (dIfS (dTest (dBin (fInD true) (dIxO 1 (dVar 2)) (dTup (dCons (dC .none) (dCons (dVar 3) dNil)))))
    (dRet (dC .none))
    dNext)
  (dAsg (dVar 3) (dGIx 1 (dVar 2)))))
  (dRet (dCB cTuple (dCons (dVar 1) dNil)))))
def mgD : Option Wt → Da
  | none => .none
  | some W => wD W
def mgB : DS := (dSeq (dIfS (dTest (dBin (fInD true) (dIxO 1 (dVar 2)) (dTup (dCons (dC .none) (dCons (dVar 3) dNil)))))
    (dRet (dC .none))
    dNext)
  (dAsg (dVar 3) (dGIx 1 (dVar 2))))
theorem shaped_oT (o : Option Th) : SeqAt.shaped (oTD o) = true := by
  cases o with
  | none => rfl
  | some t => exact shaped_th t
theorem shaped_nt (t : Th) : SeqAt.shaped (.tuple [.none, thD t]) = true := shaped_prD 1 fun _ => t
theorem in_nt (o : Option Th) (t : Th) : inD (oTD o) [.none, thD t] = decide (o = none ∨ o = some t) := by
  unfold inD
  cases o with
  | none => rfl
  | some u =>
    show ((PyData.none).eqv (thD u) || ((thD t).eqv (thD u) || false)) = _
    rw [eqv_th]
    have : (PyData.none).eqv (thD u) = false := rfl
    rw [this, Bool.false_or, Bool.or_false, decide_eq_decide]
    constructor
    · rintro rfl; exact .inr rfl
    · rintro (z | z)
      · cases z
      · cases z; rfl
theorem p_mgB {D : DEnds} {x : Option Sv} {fu : Option Nat} : ∀ {l : List (Bool × Th)} {W : Wt} {u v : Option Sv}, 
    (mergI l W = none → D.rt (.val .none) ⟨[], fu, fu.isNone⟩) → (∀ r g g', g.fu = g'.fu → D.rt r g → D.rt r g') → (∀ W' u v, mergI l W = some W' → D.nx ⟨[x, some (.own [oTD W'.1, oTD W'.2]), u, v], fu, fu.isNone⟩) →
    forD (dT 2 (dTc (dN 2) (dTc (dN 3) dTn))) mgB (l.map fun q => bfD (some q)) D ⟨[x, some (.own [oTD W.1, oTD W.2]), u, v], fu, fu.isNone⟩
  | [], W, u, v, _, _, h => h W u v rfl
  | q :: l, W, u, v, hn, hr, h => by
    obtain ⟨b, t⟩ := q
    unfold mergI at hn h
    show dT 2 _ (.val (.tuple [.int (if b = true then 1 else 0), thD t])) _ _
    have key : ∀ o, (o = if b = true then W.2 else W.1) → atI [oTD W.1, oTD W.2] (if b = true then 1 else 0) = some (oTD o) := fun o e => by
      subst e
      cases b <;> rfl
    simp only [↓dMHit,↓dMPutRet,↓dCallM,↓dPar3D,↓dMaxK,↓cMinDa,↓entM,↓dSeq,↓dAsg,↓dSetL,↓dNext,↓dIfS,↓dRet,↓dRetL,↓dDrop,↓dNever,↓dBrk,↓dAug,↓dPar,↓dParL,↓dApp,↓dVar,↓dC,↓dBin,↓fI,↓fI0,↓fAdd,↓fEq,↓fNe,↓fIn,↓dTest,↓dAndT,↓dOrT,↓dNotT,↓dAndV,↓dOrV,↓dNotV,↓dIf,↓dNeg,↓dIsN,↓dChain,↓dNil,↓dCons,↓dTup,↓dLst,↓dFz,↓valsD,↓dIx,↓dCall,↓dCallL,↓hasSrc,↓rrv,↓dN,↓dT,↓dTn,↓dTc,↓rsv,↓Gs.set,↓dFor,↓dItems,↓dRange1,↓dRange2,↓dZip,↓dLc,↓dCB,↓cLen,↓cAll,↓cTuple,↓cInt1,↓cInt2,↓dIsi,↓dBits,↓dCallS,↓oSub,↓oAddI,↓oMul,↓oDiv,↓oMod,↓oShl,↓oPow,↓oLt,↓oLe,↓oGt,↓oGe,↓oAbs,↓oMax,↓oMin,↓cMinL,↓fInD,↓dSl,↓oNo,↓oSo,↓dBy,↓fAddT,↓dSlT,↓dParR,↓dEnum,↓dRevL,↓gAs,↓Gs.unset,↓rtN,↓lamF,↓gLam,↓plainO,↓dGIx,↓dIxO,↓Z.isNon,mgB,ent,svOf,List.map_cons,List.map_nil,List.cons_append,List.nil_append,List.append_nil,List.replicate,List.length_cons,List.length_nil,List.getElem?_cons_zero,List.getElem?_cons_succ,List.getElem?_nil,List.set_cons_zero,List.set_cons_succ,Option.map_some,Option.map_none,Option.isNone_some,Option.isNone_none,forall_const,true_implies,false_implies,and_true,true_and,Bool.true_eq_false,Bool.false_eq_true,reduceCtorEq,noOwn,wipeS,hide,fuN_self,lcD,dYes,Nat.zero_add,Nat.reduceAdd,Nat.reduceLeDiff,Nat.reduceSub,atI_0,atI_1,atI_2,atI_3,atI_4,atI_5,Int.one_mul,eqv_ii,eqv_ss,eqv_num,shaped_int,shaped_num,shaped_none,shaped_ru,flat_str,flat_int,flat_none,List.all_cons,List.all_nil,Bool.and_true,decide_eq_true_eq,decide_eq_false_iff_not,Bool.not_eq_true',Bool.not_eq_false',Decidable.not_not,↓reduceIte,Bool.false_eq_true,Int.reduceLT,eqv_strs,pick_0,pick_01,pick_10,pick_012,pick_021,pick_102,pick_120,pick_201,pick_210]
    refine ⟨by simp, ?_⟩
    rw [key _ rfl]
    simp only [↓dMHit,↓dMPutRet,↓dCallM,↓dPar3D,↓dMaxK,↓cMinDa,↓entM,↓dSeq,↓dAsg,↓dSetL,↓dNext,↓dIfS,↓dRet,↓dRetL,↓dDrop,↓dNever,↓dBrk,↓dAug,↓dPar,↓dParL,↓dApp,↓dVar,↓dC,↓dBin,↓fI,↓fI0,↓fAdd,↓fEq,↓fNe,↓fIn,↓dTest,↓dAndT,↓dOrT,↓dNotT,↓dAndV,↓dOrV,↓dNotV,↓dIf,↓dNeg,↓dIsN,↓dChain,↓dNil,↓dCons,↓dTup,↓dLst,↓dFz,↓valsD,↓dIx,↓dCall,↓dCallL,↓hasSrc,↓rrv,↓dN,↓dT,↓dTn,↓dTc,↓rsv,↓Gs.set,↓dFor,↓dItems,↓dRange1,↓dRange2,↓dZip,↓dLc,↓dCB,↓cLen,↓cAll,↓cTuple,↓cInt1,↓cInt2,↓dIsi,↓dBits,↓dCallS,↓oSub,↓oAddI,↓oMul,↓oDiv,↓oMod,↓oShl,↓oPow,↓oLt,↓oLe,↓oGt,↓oGe,↓oAbs,↓oMax,↓oMin,↓cMinL,↓fInD,↓dSl,↓oNo,↓oSo,↓dBy,↓fAddT,↓dSlT,↓dParR,↓dEnum,↓dRevL,↓gAs,↓Gs.unset,↓rtN,↓lamF,↓gLam,↓plainO,↓dGIx,↓dIxO,↓Z.isNon,ent,svOf,List.map_cons,List.map_nil,List.cons_append,List.nil_append,List.append_nil,List.replicate,List.length_cons,List.length_nil,List.getElem?_cons_zero,List.getElem?_cons_succ,List.getElem?_nil,List.set_cons_zero,List.set_cons_succ,Option.map_some,Option.map_none,Option.isNone_some,Option.isNone_none,forall_const,true_implies,false_implies,and_true,true_and,Bool.true_eq_false,Bool.false_eq_true,reduceCtorEq,noOwn,wipeS,hide,fuN_self,lcD,dYes,Nat.zero_add,Nat.reduceAdd,Nat.reduceLeDiff,Nat.reduceSub,atI_0,atI_1,atI_2,atI_3,atI_4,atI_5,Int.one_mul,eqv_ii,eqv_ss,eqv_num,shaped_int,shaped_num,shaped_none,shaped_ru,flat_str,flat_int,flat_none,List.all_cons,List.all_nil,Bool.and_true,decide_eq_true_eq,decide_eq_false_iff_not,Bool.not_eq_true',Bool.not_eq_false',Decidable.not_not,↓reduceIte,Bool.false_eq_true,Int.reduceLT,eqv_strs,pick_0,pick_01,pick_10,pick_012,pick_021,pick_102,pick_120,pick_201,pick_210]
    refine ⟨shaped_oT _, shaped_nt t, ?_⟩
    rw [in_nt]
    have ea : W.at b = if b = true then W.2 else W.1 := by cases b <;> rfl
    rw [← ea]
    by_cases c : W.at b = none ∨ W.at b = some t
    · rw [decide_eq_true c]
      have ih := p_mgB (D := D) (x := x) (fu := fu) (l := l) (W := W.put b t) (u := some (.val (.int (if b = true then 1 else 0)))) (v := some (.val (thD t))) (fun e => hn (by rw [if_pos c]; exact e)) hr (fun W' u v e => h W' u v (by rw [if_pos c]; exact e))
      simp only [↓dMHit,↓dMPutRet,↓dCallM,↓dPar3D,↓dMaxK,↓cMinDa,↓entM,↓dSeq,↓dAsg,↓dSetL,↓dNext,↓dIfS,↓dRet,↓dRetL,↓dDrop,↓dNever,↓dBrk,↓dAug,↓dPar,↓dParL,↓dApp,↓dVar,↓dC,↓dBin,↓fI,↓fI0,↓fAdd,↓fEq,↓fNe,↓fIn,↓dTest,↓dAndT,↓dOrT,↓dNotT,↓dAndV,↓dOrV,↓dNotV,↓dIf,↓dNeg,↓dIsN,↓dChain,↓dNil,↓dCons,↓dTup,↓dLst,↓dFz,↓valsD,↓dIx,↓dCall,↓dCallL,↓hasSrc,↓rrv,↓dN,↓dT,↓dTn,↓dTc,↓rsv,↓Gs.set,↓dFor,↓dItems,↓dRange1,↓dRange2,↓dZip,↓dLc,↓dCB,↓cLen,↓cAll,↓cTuple,↓cInt1,↓cInt2,↓dIsi,↓dBits,↓dCallS,↓oSub,↓oAddI,↓oMul,↓oDiv,↓oMod,↓oShl,↓oPow,↓oLt,↓oLe,↓oGt,↓oGe,↓oAbs,↓oMax,↓oMin,↓cMinL,↓fInD,↓dSl,↓oNo,↓oSo,↓dBy,↓fAddT,↓dSlT,↓dParR,↓dEnum,↓dRevL,↓gAs,↓Gs.unset,↓rtN,↓lamF,↓gLam,↓plainO,↓dGIx,↓dIxO,↓Z.isNon,ent,svOf,List.map_cons,List.map_nil,List.cons_append,List.nil_append,List.append_nil,List.replicate,List.length_cons,List.length_nil,List.getElem?_cons_zero,List.getElem?_cons_succ,List.getElem?_nil,List.set_cons_zero,List.set_cons_succ,Option.map_some,Option.map_none,Option.isNone_some,Option.isNone_none,forall_const,true_implies,false_implies,and_true,true_and,Bool.true_eq_false,Bool.false_eq_true,reduceCtorEq,noOwn,wipeS,hide,fuN_self,lcD,dYes,Nat.zero_add,Nat.reduceAdd,Nat.reduceLeDiff,Nat.reduceSub,atI_0,atI_1,atI_2,atI_3,atI_4,atI_5,Int.one_mul,eqv_ii,eqv_ss,eqv_num,shaped_int,shaped_num,shaped_none,shaped_ru,flat_str,flat_int,flat_none,List.all_cons,List.all_nil,Bool.and_true,decide_eq_true_eq,decide_eq_false_iff_not,Bool.not_eq_true',Bool.not_eq_false',Decidable.not_not,↓reduceIte,Bool.false_eq_true,Int.reduceLT,eqv_strs,pick_0,pick_01,pick_10,pick_012,pick_021,pick_102,pick_120,pick_201,pick_210]
      refine ⟨⟨_, rfl⟩, by cases b <;> decide, by cases b <;> decide, ?_⟩
      have es : [oTD W.1, oTD W.2].set (if b = true then (1 : Int) else 0).toNat (thD t) = [oTD (W.put b t).1, oTD (W.put b t).2] := by cases b <;> rfl
      rw [es]
      exact ih
    · rw [decide_eq_false c]
      simp only [↓dMHit,↓dMPutRet,↓dCallM,↓dPar3D,↓dMaxK,↓cMinDa,↓entM,↓dSeq,↓dAsg,↓dSetL,↓dNext,↓dIfS,↓dRet,↓dRetL,↓dDrop,↓dNever,↓dBrk,↓dAug,↓dPar,↓dParL,↓dApp,↓dVar,↓dC,↓dBin,↓fI,↓fI0,↓fAdd,↓fEq,↓fNe,↓fIn,↓dTest,↓dAndT,↓dOrT,↓dNotT,↓dAndV,↓dOrV,↓dNotV,↓dIf,↓dNeg,↓dIsN,↓dChain,↓dNil,↓dCons,↓dTup,↓dLst,↓dFz,↓valsD,↓dIx,↓dCall,↓dCallL,↓hasSrc,↓rrv,↓dN,↓dT,↓dTn,↓dTc,↓rsv,↓Gs.set,↓dFor,↓dItems,↓dRange1,↓dRange2,↓dZip,↓dLc,↓dCB,↓cLen,↓cAll,↓cTuple,↓cInt1,↓cInt2,↓dIsi,↓dBits,↓dCallS,↓oSub,↓oAddI,↓oMul,↓oDiv,↓oMod,↓oShl,↓oPow,↓oLt,↓oLe,↓oGt,↓oGe,↓oAbs,↓oMax,↓oMin,↓cMinL,↓fInD,↓dSl,↓oNo,↓oSo,↓dBy,↓fAddT,↓dSlT,↓dParR,↓dEnum,↓dRevL,↓gAs,↓Gs.unset,↓rtN,↓lamF,↓gLam,↓plainO,↓dGIx,↓dIxO,↓Z.isNon,ent,svOf,List.map_cons,List.map_nil,List.cons_append,List.nil_append,List.append_nil,List.replicate,List.length_cons,List.length_nil,List.getElem?_cons_zero,List.getElem?_cons_succ,List.getElem?_nil,List.set_cons_zero,List.set_cons_succ,Option.map_some,Option.map_none,Option.isNone_some,Option.isNone_none,forall_const,true_implies,false_implies,and_true,true_and,Bool.true_eq_false,Bool.false_eq_true,reduceCtorEq,noOwn,wipeS,hide,fuN_self,lcD,dYes,Nat.zero_add,Nat.reduceAdd,Nat.reduceLeDiff,Nat.reduceSub,atI_0,atI_1,atI_2,atI_3,atI_4,atI_5,Int.one_mul,eqv_ii,eqv_ss,eqv_num,shaped_int,shaped_num,shaped_none,shaped_ru,flat_str,flat_int,flat_none,List.all_cons,List.all_nil,Bool.and_true,decide_eq_true_eq,decide_eq_false_iff_not,Bool.not_eq_true',Bool.not_eq_false',Decidable.not_not,↓reduceIte,Bool.false_eq_true,Int.reduceLT,eqv_strs,pick_0,pick_01,pick_10,pick_012,pick_021,pick_102,pick_120,pick_201,pick_210]
      exact hr (.val .none) ⟨[], fu, fu.isNone⟩ _ rfl (hn (if_neg c))
def fs_merged : FSp := fun rs fu post => ∃ l : List (Bool × Th), rs = [.val (.list (l.map fun q => bfD (some q)))] ∧ post (.val (mgD (mergI l (none, none)))) fu
theorem p_merged (rs : List Rv) (fu : Option Nat) (post : Rr → Option Nat → Prop) (hl : rs.length = 1) (h : fs_merged rs fu post) : b_merged ⟨fun g => post (.val .none) g.fu, fun r g => post r g.fu, fun _ => False, fun _ => False⟩ (ent N_merged rs fu) := by
  obtain ⟨l, rfl, h⟩ := h
  simp only [↓dMHit,↓dMPutRet,↓dCallM,↓dPar3D,↓dMaxK,↓cMinDa,↓entM,↓dSeq,↓dAsg,↓dSetL,↓dNext,↓dIfS,↓dRet,↓dRetL,↓dDrop,↓dNever,↓dBrk,↓dAug,↓dPar,↓dParL,↓dApp,↓dVar,↓dC,↓dBin,↓fI,↓fI0,↓fAdd,↓fEq,↓fNe,↓fIn,↓dTest,↓dAndT,↓dOrT,↓dNotT,↓dAndV,↓dOrV,↓dNotV,↓dIf,↓dNeg,↓dIsN,↓dChain,↓dNil,↓dCons,↓dTup,↓dLst,↓dFz,↓valsD,↓dIx,↓dCall,↓dCallL,↓hasSrc,↓rrv,↓dN,↓dT,↓dTn,↓dTc,↓rsv,↓Gs.set,↓dFor,↓dItems,↓dRange1,↓dRange2,↓dZip,↓dLc,↓dCB,↓cLen,↓cAll,↓cTuple,↓cInt1,↓cInt2,↓dIsi,↓dBits,↓dCallS,↓oSub,↓oAddI,↓oMul,↓oDiv,↓oMod,↓oShl,↓oPow,↓oLt,↓oLe,↓oGt,↓oGe,↓oAbs,↓oMax,↓oMin,↓cMinL,↓fInD,↓dSl,↓oNo,↓oSo,↓dBy,↓fAddT,↓dSlT,↓dParR,↓dEnum,↓dRevL,↓gAs,↓Gs.unset,↓rtN,↓lamF,↓gLam,↓plainO,↓dGIx,↓dIxO,↓Z.isNon,b_merged,ent,svOf,List.map_cons,List.map_nil,List.cons_append,List.nil_append,List.append_nil,List.replicate,List.length_cons,List.length_nil,List.getElem?_cons_zero,List.getElem?_cons_succ,List.getElem?_nil,List.set_cons_zero,List.set_cons_succ,Option.map_some,Option.map_none,Option.isNone_some,Option.isNone_none,forall_const,true_implies,false_implies,and_true,true_and,Bool.true_eq_false,Bool.false_eq_true,reduceCtorEq,noOwn,wipeS,hide,fuN_self,lcD,dYes,Nat.zero_add,Nat.reduceAdd,Nat.reduceLeDiff,Nat.reduceSub,atI_0,atI_1,atI_2,atI_3,atI_4,atI_5,Int.one_mul,eqv_ii,eqv_ss,eqv_num,shaped_int,shaped_num,shaped_none,shaped_ru,flat_str,flat_int,flat_none,List.all_cons,List.all_nil,Bool.and_true,decide_eq_true_eq,decide_eq_false_iff_not,Bool.not_eq_true',Bool.not_eq_false',Decidable.not_not,↓reduceIte,Bool.false_eq_true,Int.reduceLT,eqv_strs,pick_0,pick_01,pick_10,pick_012,pick_021,pick_102,pick_120,pick_201,pick_210]
  refine p_mgB (W := (none, none)) (fun e => ?_) (fun r g g' e z => by show post r g'.fu; rw [← e]; exact z) (fun W' u v e => ?_)
  · rw [e] at h; exact h
  · rw [e] at h
    simp only [↓dMHit,↓dMPutRet,↓dCallM,↓dPar3D,↓dMaxK,↓cMinDa,↓entM,↓dSeq,↓dAsg,↓dSetL,↓dNext,↓dIfS,↓dRet,↓dRetL,↓dDrop,↓dNever,↓dBrk,↓dAug,↓dPar,↓dParL,↓dApp,↓dVar,↓dC,↓dBin,↓fI,↓fI0,↓fAdd,↓fEq,↓fNe,↓fIn,↓dTest,↓dAndT,↓dOrT,↓dNotT,↓dAndV,↓dOrV,↓dNotV,↓dIf,↓dNeg,↓dIsN,↓dChain,↓dNil,↓dCons,↓dTup,↓dLst,↓dFz,↓valsD,↓dIx,↓dCall,↓dCallL,↓hasSrc,↓rrv,↓dN,↓dT,↓dTn,↓dTc,↓rsv,↓Gs.set,↓dFor,↓dItems,↓dRange1,↓dRange2,↓dZip,↓dLc,↓dCB,↓cLen,↓cAll,↓cTuple,↓cInt1,↓cInt2,↓dIsi,↓dBits,↓dCallS,↓oSub,↓oAddI,↓oMul,↓oDiv,↓oMod,↓oShl,↓oPow,↓oLt,↓oLe,↓oGt,↓oGe,↓oAbs,↓oMax,↓oMin,↓cMinL,↓fInD,↓dSl,↓oNo,↓oSo,↓dBy,↓fAddT,↓dSlT,↓dParR,↓dEnum,↓dRevL,↓gAs,↓Gs.unset,↓rtN,↓lamF,↓gLam,↓plainO,↓dGIx,↓dIxO,↓Z.isNon,ent,svOf,List.map_cons,List.map_nil,List.cons_append,List.nil_append,List.append_nil,List.replicate,List.length_cons,List.length_nil,List.getElem?_cons_zero,List.getElem?_cons_succ,List.getElem?_nil,List.set_cons_zero,List.set_cons_succ,Option.map_some,Option.map_none,Option.isNone_some,Option.isNone_none,forall_const,true_implies,false_implies,and_true,true_and,Bool.true_eq_false,Bool.false_eq_true,reduceCtorEq,noOwn,wipeS,hide,fuN_self,lcD,dYes,Nat.zero_add,Nat.reduceAdd,Nat.reduceLeDiff,Nat.reduceSub,atI_0,atI_1,atI_2,atI_3,atI_4,atI_5,Int.one_mul,eqv_ii,eqv_ss,eqv_num,shaped_int,shaped_num,shaped_none,shaped_ru,flat_str,flat_int,flat_none,List.all_cons,List.all_nil,Bool.and_true,decide_eq_true_eq,decide_eq_false_iff_not,Bool.not_eq_true',Bool.not_eq_false',Decidable.not_not,↓reduceIte,Bool.false_eq_true,Int.reduceLT,eqv_strs,pick_0,pick_01,pick_10,pick_012,pick_021,pick_102,pick_120,pick_201,pick_210]
    exact h
section
variable {P : Program} {w : World} {K : Fg} {mg : Str → Option Value} {base : Heap}
theorem d_merged (T : Tx w K mg) {cdv : Value} {A : Around} {outer : List Env} {s : Shared} {H : Hp} {E : XK} (hr : Room 0 (A.deeper (envOfC "merged" (defScope st_merged) s.heap.objs.size T.f_merged cdv))) (hgd : (A.deeper (envOfC "merged" (defScope st_merged) s.heap.objs.size T.f_merged cdv)).guards = some []) :
    PSs (cxOf CX0 P w K mg base N_merged "merged" (defScope st_merged) T.f_merged cdv A outer s H E).nox (defBody st_merged) (upS K W0 b_merged) :=
  (ss_cons (s_setL (i := 1) sc_merged.nd rfl (.inl rfl) (e_lstL (a_cons e_non (a_cons e_non a_nil))))
    (ss_cons (s_for PassesOwn.never rfl (i_items (e_var 0 (pv 0))) (g_tup rfl (gs_cons (g_name (pg_name (i := 2) sc_merged.nd rfl (.inl rfl))) (gs_cons (g_name (pg_name (i := 3) sc_merged.nd rfl (.inl rfl))) gs_nil))) (ss_cons (s_if (t_notinX hr (e_ixO (i := 1) (pv 1) (e_var 2 (pv 2))) (e_tup (a_cons e_non (a_cons (e_var 3 (pv 3)) a_nil)))) (ss_one (s_ret e_non)) ss_nil)
    (ss_one (s_asg (e_var 3 (pv 3)) (g_ix (i := 1) (pv 1) (e_var 2 (pv 2)))))))
    (ss_one (s_ret (e_tuple (by rfl) T.n_tuple (a_cons (e_var 1 (pv 1)) a_nil))))))
theorem ok_merged (T : Tx w K mg) : Fn P w K mg base CX0 1 T.f_merged T.fd_merged ["some"] (lift K 1 fs_merged) := fn_data T.F_merged sc_merged b_merged (fun _ _ _ _ _ _ hr hgd => d_merged T hr hgd) p_merged
end
def b_matches : DS :=
  (dRet (dCB cAll (dCons (dFz (dLc [2, 3] (dZip (dVar 0) (dBy tab_BY_RULE (dVar 1))) (dT 2 (dTc (dN 2) (dTc (dN 3) dTn))) dYes (dOrV (dIsN false (dVar 2)) (dBin fEq (dVar 2) (dVar 3))))) dNil)))
theorem mat00 (r : Ru) : matI (none, none) r = true := by simp [matI]
theorem mat01 (t : Th) (r : Ru) : matI (none, some t) r = (thD t).eqv (thD (byR r true)) := by simp [matI, eqv_th]
theorem mat10 (t : Th) (r : Ru) : matI (some t, none) r = (thD t).eqv (thD (byR r false)) := by simp [matI, eqv_th]
theorem mat11 (u t : Th) (r : Ru) : matI (some u, some t) r = ((thD u).eqv (thD (byR r false)) && (thD t).eqv (thD (byR r true))) := by simp [matI, eqv_th]
def fs_matches : FSp := fun rs fu post => ∃ (W : Wt) (r : Ru), rs = [.val (wD W), .val (.str r.s)] ∧ post (.val (.bool (matI W r))) fu
theorem p_matches (rs : List Rv) (fu : Option Nat) (post : Rr → Option Nat → Prop) (hl : rs.length = 2) (h : fs_matches rs fu post) : b_matches ⟨fun g => post (.val .none) g.fu, fun r g => post r g.fu, fun _ => False, fun _ => False⟩ (ent N_matches rs fu) := by
  obtain ⟨W, r, rfl, h⟩ := h
  obtain ⟨o1, o2⟩ := W
  simp only [↓dMHit,↓dMPutRet,↓dCallM,↓dPar3D,↓dMaxK,↓cMinDa,↓entM,↓dSeq,↓dAsg,↓dSetL,↓dNext,↓dIfS,↓dRet,↓dRetL,↓dDrop,↓dNever,↓dBrk,↓dAug,↓dPar,↓dParL,↓dApp,↓dVar,↓dC,↓dBin,↓fI,↓fI0,↓fAdd,↓fEq,↓fNe,↓fIn,↓dTest,↓dAndT,↓dOrT,↓dNotT,↓dAndV,↓dOrV,↓dNotV,↓dIf,↓dNeg,↓dIsN,↓dChain,↓dNil,↓dCons,↓dTup,↓dLst,↓dFz,↓valsD,↓dIx,↓dCall,↓dCallL,↓hasSrc,↓rrv,↓dN,↓dT,↓dTn,↓dTc,↓rsv,↓Gs.set,↓dFor,↓dItems,↓dRange1,↓dRange2,↓dZip,↓dLc,↓dCB,↓cLen,↓cAll,↓cTuple,↓cInt1,↓cInt2,↓dIsi,↓dBits,↓dCallS,↓oSub,↓oAddI,↓oMul,↓oDiv,↓oMod,↓oShl,↓oPow,↓oLt,↓oLe,↓oGt,↓oGe,↓oAbs,↓oMax,↓oMin,↓cMinL,↓fInD,↓dSl,↓oNo,↓oSo,↓dBy,↓fAddT,↓dSlT,↓dParR,↓dEnum,↓dRevL,↓gAs,↓Gs.unset,↓rtN,↓lamF,↓gLam,↓plainO,↓dGIx,↓dIxO,↓Z.isNon,b_matches,wD,ent,svOf,List.map_cons,List.map_nil,List.cons_append,List.nil_append,List.append_nil,List.replicate,List.length_cons,List.length_nil,List.getElem?_cons_zero,List.getElem?_cons_succ,List.getElem?_nil,List.set_cons_zero,List.set_cons_succ,Option.map_some,Option.map_none,Option.isNone_some,Option.isNone_none,forall_const,true_implies,false_implies,and_true,true_and,Bool.true_eq_false,Bool.false_eq_true,reduceCtorEq,noOwn,wipeS,hide,fuN_self,lcD,dYes,Nat.zero_add,Nat.reduceAdd,Nat.reduceLeDiff,Nat.reduceSub,atI_0,atI_1,atI_2,atI_3,atI_4,atI_5,Int.one_mul,eqv_ii,eqv_ss,eqv_num,shaped_int,shaped_num,shaped_none,shaped_ru,flat_str,flat_int,flat_none,List.all_cons,List.all_nil,Bool.and_true,decide_eq_true_eq,decide_eq_false_iff_not,Bool.not_eq_true',Bool.not_eq_false',Decidable.not_not,↓reduceIte,Bool.false_eq_true,Int.reduceLT,eqv_strs,pick_0,pick_01,pick_10,pick_012,pick_021,pick_102,pick_120,pick_201,pick_210]
  refine ⟨r, rfl, ?_⟩
  rw [tab_by]
  unfold prF
  cases o1 with
  | none =>
    cases o2 with
    | none =>
      rw [mat00] at h
      simp only [↓dMHit,↓dMPutRet,↓dCallM,↓dPar3D,↓dMaxK,↓cMinDa,↓entM,↓dSeq,↓dAsg,↓dSetL,↓dNext,↓dIfS,↓dRet,↓dRetL,↓dDrop,↓dNever,↓dBrk,↓dAug,↓dPar,↓dParL,↓dApp,↓dVar,↓dC,↓dBin,↓fI,↓fI0,↓fAdd,↓fEq,↓fNe,↓fIn,↓dTest,↓dAndT,↓dOrT,↓dNotT,↓dAndV,↓dOrV,↓dNotV,↓dIf,↓dNeg,↓dIsN,↓dChain,↓dNil,↓dCons,↓dTup,↓dLst,↓dFz,↓valsD,↓dIx,↓dCall,↓dCallL,↓hasSrc,↓rrv,↓dN,↓dT,↓dTn,↓dTc,↓rsv,↓Gs.set,↓dFor,↓dItems,↓dRange1,↓dRange2,↓dZip,↓dLc,↓dCB,↓cLen,↓cAll,↓cTuple,↓cInt1,↓cInt2,↓dIsi,↓dBits,↓dCallS,↓oSub,↓oAddI,↓oMul,↓oDiv,↓oMod,↓oShl,↓oPow,↓oLt,↓oLe,↓oGt,↓oGe,↓oAbs,↓oMax,↓oMin,↓cMinL,↓fInD,↓dSl,↓oNo,↓oSo,↓dBy,↓fAddT,↓dSlT,↓dParR,↓dEnum,↓dRevL,↓gAs,↓Gs.unset,↓rtN,↓lamF,↓gLam,↓plainO,↓dGIx,↓dIxO,↓Z.isNon,oTD,Z.isNon,zipD,lcD,ent,svOf,List.map_cons,List.map_nil,List.cons_append,List.nil_append,List.append_nil,List.replicate,List.length_cons,List.length_nil,List.getElem?_cons_zero,List.getElem?_cons_succ,List.getElem?_nil,List.set_cons_zero,List.set_cons_succ,Option.map_some,Option.map_none,Option.isNone_some,Option.isNone_none,forall_const,true_implies,false_implies,and_true,true_and,Bool.true_eq_false,Bool.false_eq_true,reduceCtorEq,noOwn,wipeS,hide,fuN_self,lcD,dYes,Nat.zero_add,Nat.reduceAdd,Nat.reduceLeDiff,Nat.reduceSub,atI_0,atI_1,atI_2,atI_3,atI_4,atI_5,Int.one_mul,eqv_ii,eqv_ss,eqv_num,shaped_int,shaped_num,shaped_none,shaped_ru,flat_str,flat_int,flat_none,List.all_cons,List.all_nil,Bool.and_true,decide_eq_true_eq,decide_eq_false_iff_not,Bool.not_eq_true',Bool.not_eq_false',Decidable.not_not,↓reduceIte,Bool.false_eq_true,Int.reduceLT,eqv_strs,pick_0,pick_01,pick_10,pick_012,pick_021,pick_102,pick_120,pick_201,pick_210]
      exact ⟨by decide, by decide, h⟩
    | some t =>
      rw [mat01] at h
      simp only [↓dMHit,↓dMPutRet,↓dCallM,↓dPar3D,↓dMaxK,↓cMinDa,↓entM,↓dSeq,↓dAsg,↓dSetL,↓dNext,↓dIfS,↓dRet,↓dRetL,↓dDrop,↓dNever,↓dBrk,↓dAug,↓dPar,↓dParL,↓dApp,↓dVar,↓dC,↓dBin,↓fI,↓fI0,↓fAdd,↓fEq,↓fNe,↓fIn,↓dTest,↓dAndT,↓dOrT,↓dNotT,↓dAndV,↓dOrV,↓dNotV,↓dIf,↓dNeg,↓dIsN,↓dChain,↓dNil,↓dCons,↓dTup,↓dLst,↓dFz,↓valsD,↓dIx,↓dCall,↓dCallL,↓hasSrc,↓rrv,↓dN,↓dT,↓dTn,↓dTc,↓rsv,↓Gs.set,↓dFor,↓dItems,↓dRange1,↓dRange2,↓dZip,↓dLc,↓dCB,↓cLen,↓cAll,↓cTuple,↓cInt1,↓cInt2,↓dIsi,↓dBits,↓dCallS,↓oSub,↓oAddI,↓oMul,↓oDiv,↓oMod,↓oShl,↓oPow,↓oLt,↓oLe,↓oGt,↓oGe,↓oAbs,↓oMax,↓oMin,↓cMinL,↓fInD,↓dSl,↓oNo,↓oSo,↓dBy,↓fAddT,↓dSlT,↓dParR,↓dEnum,↓dRevL,↓gAs,↓Gs.unset,↓rtN,↓lamF,↓gLam,↓plainO,↓dGIx,↓dIxO,↓Z.isNon,oTD,zipD,lcD,ent,svOf,List.map_cons,List.map_nil,List.cons_append,List.nil_append,List.append_nil,List.replicate,List.length_cons,List.length_nil,List.getElem?_cons_zero,List.getElem?_cons_succ,List.getElem?_nil,List.set_cons_zero,List.set_cons_succ,Option.map_some,Option.map_none,Option.isNone_some,Option.isNone_none,forall_const,true_implies,false_implies,and_true,true_and,Bool.true_eq_false,Bool.false_eq_true,reduceCtorEq,noOwn,wipeS,hide,fuN_self,lcD,dYes,Nat.zero_add,Nat.reduceAdd,Nat.reduceLeDiff,Nat.reduceSub,atI_0,atI_1,atI_2,atI_3,atI_4,atI_5,Int.one_mul,eqv_ii,eqv_ss,eqv_num,shaped_int,shaped_num,shaped_none,shaped_ru,flat_str,flat_int,flat_none,List.all_cons,List.all_nil,Bool.and_true,decide_eq_true_eq,decide_eq_false_iff_not,Bool.not_eq_true',Bool.not_eq_false',Decidable.not_not,↓reduceIte,Bool.false_eq_true,Int.reduceLT,eqv_strs,pick_0,pick_01,pick_10,pick_012,pick_021,pick_102,pick_120,pick_201,pick_210]
      refine ⟨by decide, fun z => Bool.noConfusion (show false = true from z), fun _ => ⟨shaped_th _, shaped_th _, by decide, ?_⟩⟩
      revert h
      generalize (thD t).eqv (thD (byR r true)) = e
      cases e <;> exact fun h => h
  | some u =>
    cases o2 with
    | none =>
      rw [mat10] at h
      simp only [↓dMHit,↓dMPutRet,↓dCallM,↓dPar3D,↓dMaxK,↓cMinDa,↓entM,↓dSeq,↓dAsg,↓dSetL,↓dNext,↓dIfS,↓dRet,↓dRetL,↓dDrop,↓dNever,↓dBrk,↓dAug,↓dPar,↓dParL,↓dApp,↓dVar,↓dC,↓dBin,↓fI,↓fI0,↓fAdd,↓fEq,↓fNe,↓fIn,↓dTest,↓dAndT,↓dOrT,↓dNotT,↓dAndV,↓dOrV,↓dNotV,↓dIf,↓dNeg,↓dIsN,↓dChain,↓dNil,↓dCons,↓dTup,↓dLst,↓dFz,↓valsD,↓dIx,↓dCall,↓dCallL,↓hasSrc,↓rrv,↓dN,↓dT,↓dTn,↓dTc,↓rsv,↓Gs.set,↓dFor,↓dItems,↓dRange1,↓dRange2,↓dZip,↓dLc,↓dCB,↓cLen,↓cAll,↓cTuple,↓cInt1,↓cInt2,↓dIsi,↓dBits,↓dCallS,↓oSub,↓oAddI,↓oMul,↓oDiv,↓oMod,↓oShl,↓oPow,↓oLt,↓oLe,↓oGt,↓oGe,↓oAbs,↓oMax,↓oMin,↓cMinL,↓fInD,↓dSl,↓oNo,↓oSo,↓dBy,↓fAddT,↓dSlT,↓dParR,↓dEnum,↓dRevL,↓gAs,↓Gs.unset,↓rtN,↓lamF,↓gLam,↓plainO,↓dGIx,↓dIxO,↓Z.isNon,oTD,zipD,lcD,ent,svOf,List.map_cons,List.map_nil,List.cons_append,List.nil_append,List.append_nil,List.replicate,List.length_cons,List.length_nil,List.getElem?_cons_zero,List.getElem?_cons_succ,List.getElem?_nil,List.set_cons_zero,List.set_cons_succ,Option.map_some,Option.map_none,Option.isNone_some,Option.isNone_none,forall_const,true_implies,false_implies,and_true,true_and,Bool.true_eq_false,Bool.false_eq_true,reduceCtorEq,noOwn,wipeS,hide,fuN_self,lcD,dYes,Nat.zero_add,Nat.reduceAdd,Nat.reduceLeDiff,Nat.reduceSub,atI_0,atI_1,atI_2,atI_3,atI_4,atI_5,Int.one_mul,eqv_ii,eqv_ss,eqv_num,shaped_int,shaped_num,shaped_none,shaped_ru,flat_str,flat_int,flat_none,List.all_cons,List.all_nil,Bool.and_true,decide_eq_true_eq,decide_eq_false_iff_not,Bool.not_eq_true',Bool.not_eq_false',Decidable.not_not,↓reduceIte,Bool.false_eq_true,Int.reduceLT,eqv_strs,pick_0,pick_01,pick_10,pick_012,pick_021,pick_102,pick_120,pick_201,pick_210]
      refine ⟨fun z => Bool.noConfusion (show false = true from z), fun _ => ⟨shaped_th _, shaped_th _, by decide, by decide, ?_⟩⟩
      revert h
      generalize (thD u).eqv (thD (byR r false)) = e
      cases e <;> exact fun h => h
    | some t =>
      rw [mat11] at h
      simp only [↓dMHit,↓dMPutRet,↓dCallM,↓dPar3D,↓dMaxK,↓cMinDa,↓entM,↓dSeq,↓dAsg,↓dSetL,↓dNext,↓dIfS,↓dRet,↓dRetL,↓dDrop,↓dNever,↓dBrk,↓dAug,↓dPar,↓dParL,↓dApp,↓dVar,↓dC,↓dBin,↓fI,↓fI0,↓fAdd,↓fEq,↓fNe,↓fIn,↓dTest,↓dAndT,↓dOrT,↓dNotT,↓dAndV,↓dOrV,↓dNotV,↓dIf,↓dNeg,↓dIsN,↓dChain,↓dNil,↓dCons,↓dTup,↓dLst,↓dFz,↓valsD,↓dIx,↓dCall,↓dCallL,↓hasSrc,↓rrv,↓dN,↓dT,↓dTn,↓dTc,↓rsv,↓Gs.set,↓dFor,↓dItems,↓dRange1,↓dRange2,↓dZip,↓dLc,↓dCB,↓cLen,↓cAll,↓cTuple,↓cInt1,↓cInt2,↓dIsi,↓dBits,↓dCallS,↓oSub,↓oAddI,↓oMul,↓oDiv,↓oMod,↓oShl,↓oPow,↓oLt,↓oLe,↓oGt,↓oGe,↓oAbs,↓oMax,↓oMin,↓cMinL,↓fInD,↓dSl,↓oNo,↓oSo,↓dBy,↓fAddT,↓dSlT,↓dParR,↓dEnum,↓dRevL,↓gAs,↓Gs.unset,↓rtN,↓lamF,↓gLam,↓plainO,↓dGIx,↓dIxO,↓Z.isNon,oTD,zipD,lcD,ent,svOf,List.map_cons,List.map_nil,List.cons_append,List.nil_append,List.append_nil,List.replicate,List.length_cons,List.length_nil,List.getElem?_cons_zero,List.getElem?_cons_succ,List.getElem?_nil,List.set_cons_zero,List.set_cons_succ,Option.map_some,Option.map_none,Option.isNone_some,Option.isNone_none,forall_const,true_implies,false_implies,and_true,true_and,Bool.true_eq_false,Bool.false_eq_true,reduceCtorEq,noOwn,wipeS,hide,fuN_self,lcD,dYes,Nat.zero_add,Nat.reduceAdd,Nat.reduceLeDiff,Nat.reduceSub,atI_0,atI_1,atI_2,atI_3,atI_4,atI_5,Int.one_mul,eqv_ii,eqv_ss,eqv_num,shaped_int,shaped_num,shaped_none,shaped_ru,flat_str,flat_int,flat_none,List.all_cons,List.all_nil,Bool.and_true,decide_eq_true_eq,decide_eq_false_iff_not,Bool.not_eq_true',Bool.not_eq_false',Decidable.not_not,↓reduceIte,Bool.false_eq_true,Int.reduceLT,eqv_strs,pick_0,pick_01,pick_10,pick_012,pick_021,pick_102,pick_120,pick_201,pick_210]
      refine ⟨fun z => Bool.noConfusion (show false = true from z), fun _ => ⟨shaped_th _, shaped_th _, by decide, fun z => Bool.noConfusion (show false = true from z), fun _ => ⟨shaped_th _, shaped_th _, by decide, ?_⟩⟩⟩
      revert h
      generalize (thD u).eqv (thD (byR r false)) = e
      generalize (thD t).eqv (thD (byR r true)) = f
      cases e <;> cases f <;> exact fun h => h
section
variable {P : Program} {w : World} {K : Fg} {mg : Str → Option Value} {base : Heap}
theorem d_matches (T : Tx w K mg) {cdv : Value} {A : Around} {outer : List Env} {s : Shared} {H : Hp} {E : XK} (hr : Room 0 (A.deeper (envOfC "matches" (defScope st_matches) s.heap.objs.size T.f_matches cdv))) (hgd : (A.deeper (envOfC "matches" (defScope st_matches) s.heap.objs.size T.f_matches cdv)).guards = some []) :
    PSs (cxOf CX0 P w K mg base N_matches "matches" (defScope st_matches) T.f_matches cdv A outer s H E).nox (defBody st_matches) (upS K W0 b_matches) :=
  (ss_one (s_ret (e_all rfl (by rfl) T.n_all (a_cons (e_fz (e_lc (own := [("threshold", 2), ("own", 3)]) rfl sc_matches.nd (i_zip (by rfl) T.n_zip (e_var 0 (pv 0)) (e_by (by rfl) T.c_BY_RULE T.k_BY_RULE (e_var 1 (pv 1)))) (blkOk_by (own := [("threshold", 2), ("own", 3)]) (N := N_matches) (sc := defScope st_matches) (by decide +kernel)) (fun _ _ _ _ _ => (gw_tup rfl rfl (gsw_cons (gw_name rfl (pg_name (i := 2) sc_matches.nd rfl (.inl rfl)) (by decide)) (gsw_cons (gw_name rfl (pg_name (i := 3) sc_matches.nd rfl (.inl rfl)) (by decide)) gsw_nil)))) (fun _ _ _ _ _ => ts_yes) (fun _ _ _ _ _ => (e_or (e_isN (e_var 2 (pv 2))) (e_one (e_eq hr.units (e_var 2 (pv 2)) (e_var 3 (pv 3)))))))) a_nil))))
theorem ok_matches (T : Tx w K mg) : Fn P w K mg base CX0 1 T.f_matches T.fd_matches ["wanted", "rule"] (lift K 2 fs_matches) := fn_data T.F_matches sc_matches b_matches (fun _ _ _ _ _ _ hr hgd => d_matches T hr hgd) p_matches
end
def b_most_far : DS :=
  (dRet (dBin fAdd (dMaxK 1 (dFz (dLc [1] (dItems (dVar 0)) (dN 1) (dTest (dIsN true (dVar 1))) (dBits (dIx (dIx (dVar 1) (dC (.int 0))) (dC (.int 1))))))) (dC (.int 1))))
def fs_most_far : FSp := fun rs fu post => ∃ (W : Wt), rs = [.val (wD W)] ∧ post (.val (.int (mfI W))) fu
theorem p_most_far (rs : List Rv) (fu : Option Nat) (post : Rr → Option Nat → Prop) (hl : rs.length = 1) (h : fs_most_far rs fu post) : b_most_far ⟨fun g => post (.val .none) g.fu, fun r g => post r g.fu, fun _ => False, fun _ => False⟩ (ent N_most_far rs fu) := by
  obtain ⟨W, rfl, h⟩ := h
  obtain ⟨o1, o2⟩ := W
  unfold mfI at h
  simp only [↓dMHit,↓dMPutRet,↓dCallM,↓dPar3D,↓dMaxK,↓cMinDa,↓entM,↓dSeq,↓dAsg,↓dSetL,↓dNext,↓dIfS,↓dRet,↓dRetL,↓dDrop,↓dNever,↓dBrk,↓dAug,↓dPar,↓dParL,↓dApp,↓dVar,↓dC,↓dBin,↓fI,↓fI0,↓fAdd,↓fEq,↓fNe,↓fIn,↓dTest,↓dAndT,↓dOrT,↓dNotT,↓dAndV,↓dOrV,↓dNotV,↓dIf,↓dNeg,↓dIsN,↓dChain,↓dNil,↓dCons,↓dTup,↓dLst,↓dFz,↓valsD,↓dIx,↓dCall,↓dCallL,↓hasSrc,↓rrv,↓dN,↓dT,↓dTn,↓dTc,↓rsv,↓Gs.set,↓dFor,↓dItems,↓dRange1,↓dRange2,↓dZip,↓dLc,↓dCB,↓cLen,↓cAll,↓cTuple,↓cInt1,↓cInt2,↓dIsi,↓dBits,↓dCallS,↓oSub,↓oAddI,↓oMul,↓oDiv,↓oMod,↓oShl,↓oPow,↓oLt,↓oLe,↓oGt,↓oGe,↓oAbs,↓oMax,↓oMin,↓cMinL,↓fInD,↓dSl,↓oNo,↓oSo,↓dBy,↓fAddT,↓dSlT,↓dParR,↓dEnum,↓dRevL,↓gAs,↓Gs.unset,↓rtN,↓lamF,↓gLam,↓plainO,↓dGIx,↓dIxO,↓Z.isNon,b_most_far,wD,ent,svOf,List.map_cons,List.map_nil,List.cons_append,List.nil_append,List.append_nil,List.replicate,List.length_cons,List.length_nil,List.getElem?_cons_zero,List.getElem?_cons_succ,List.getElem?_nil,List.set_cons_zero,List.set_cons_succ,Option.map_some,Option.map_none,Option.isNone_some,Option.isNone_none,forall_const,true_implies,false_implies,and_true,true_and,Bool.true_eq_false,Bool.false_eq_true,reduceCtorEq,noOwn,wipeS,hide,fuN_self,lcD,dYes,Nat.zero_add,Nat.reduceAdd,Nat.reduceLeDiff,Nat.reduceSub,atI_0,atI_1,atI_2,atI_3,atI_4,atI_5,Int.one_mul,eqv_ii,eqv_ss,eqv_num,shaped_int,shaped_num,shaped_none,shaped_ru,flat_str,flat_int,flat_none,List.all_cons,List.all_nil,Bool.and_true,decide_eq_true_eq,decide_eq_false_iff_not,Bool.not_eq_true',Bool.not_eq_false',Decidable.not_not,↓reduceIte,Bool.false_eq_true,Int.reduceLT,eqv_strs,pick_0,pick_01,pick_10,pick_012,pick_021,pick_102,pick_120,pick_201,pick_210]
  cases o1 with
  | none =>
    cases o2 with
    | none =>
      simp only [↓dMHit,↓dMPutRet,↓dCallM,↓dPar3D,↓dMaxK,↓cMinDa,↓entM,↓dSeq,↓dAsg,↓dSetL,↓dNext,↓dIfS,↓dRet,↓dRetL,↓dDrop,↓dNever,↓dBrk,↓dAug,↓dPar,↓dParL,↓dApp,↓dVar,↓dC,↓dBin,↓fI,↓fI0,↓fAdd,↓fEq,↓fNe,↓fIn,↓dTest,↓dAndT,↓dOrT,↓dNotT,↓dAndV,↓dOrV,↓dNotV,↓dIf,↓dNeg,↓dIsN,↓dChain,↓dNil,↓dCons,↓dTup,↓dLst,↓dFz,↓valsD,↓dIx,↓dCall,↓dCallL,↓hasSrc,↓rrv,↓dN,↓dT,↓dTn,↓dTc,↓rsv,↓Gs.set,↓dFor,↓dItems,↓dRange1,↓dRange2,↓dZip,↓dLc,↓dCB,↓cLen,↓cAll,↓cTuple,↓cInt1,↓cInt2,↓dIsi,↓dBits,↓dCallS,↓oSub,↓oAddI,↓oMul,↓oDiv,↓oMod,↓oShl,↓oPow,↓oLt,↓oLe,↓oGt,↓oGe,↓oAbs,↓oMax,↓oMin,↓cMinL,↓fInD,↓dSl,↓oNo,↓oSo,↓dBy,↓fAddT,↓dSlT,↓dParR,↓dEnum,↓dRevL,↓gAs,↓Gs.unset,↓rtN,↓lamF,↓gLam,↓plainO,↓dGIx,↓dIxO,↓Z.isNon,oTD,Z.isNon,ent,svOf,List.map_cons,List.map_nil,List.cons_append,List.nil_append,List.append_nil,List.replicate,List.length_cons,List.length_nil,List.getElem?_cons_zero,List.getElem?_cons_succ,List.getElem?_nil,List.set_cons_zero,List.set_cons_succ,Option.map_some,Option.map_none,Option.isNone_some,Option.isNone_none,forall_const,true_implies,false_implies,and_true,true_and,Bool.true_eq_false,Bool.false_eq_true,reduceCtorEq,noOwn,wipeS,hide,fuN_self,lcD,dYes,Nat.zero_add,Nat.reduceAdd,Nat.reduceLeDiff,Nat.reduceSub,atI_0,atI_1,atI_2,atI_3,atI_4,atI_5,Int.one_mul,eqv_ii,eqv_ss,eqv_num,shaped_int,shaped_num,shaped_none,shaped_ru,flat_str,flat_int,flat_none,List.all_cons,List.all_nil,Bool.and_true,decide_eq_true_eq,decide_eq_false_iff_not,Bool.not_eq_true',Bool.not_eq_false',Decidable.not_not,↓reduceIte,Bool.false_eq_true,Int.reduceLT,eqv_strs,pick_0,pick_01,pick_10,pick_012,pick_021,pick_102,pick_120,pick_201,pick_210]
      exact ⟨[], rfl, h⟩
    | some t =>
      simp only [↓dMHit,↓dMPutRet,↓dCallM,↓dPar3D,↓dMaxK,↓cMinDa,↓entM,↓dSeq,↓dAsg,↓dSetL,↓dNext,↓dIfS,↓dRet,↓dRetL,↓dDrop,↓dNever,↓dBrk,↓dAug,↓dPar,↓dParL,↓dApp,↓dVar,↓dC,↓dBin,↓fI,↓fI0,↓fAdd,↓fEq,↓fNe,↓fIn,↓dTest,↓dAndT,↓dOrT,↓dNotT,↓dAndV,↓dOrV,↓dNotV,↓dIf,↓dNeg,↓dIsN,↓dChain,↓dNil,↓dCons,↓dTup,↓dLst,↓dFz,↓valsD,↓dIx,↓dCall,↓dCallL,↓hasSrc,↓rrv,↓dN,↓dT,↓dTn,↓dTc,↓rsv,↓Gs.set,↓dFor,↓dItems,↓dRange1,↓dRange2,↓dZip,↓dLc,↓dCB,↓cLen,↓cAll,↓cTuple,↓cInt1,↓cInt2,↓dIsi,↓dBits,↓dCallS,↓oSub,↓oAddI,↓oMul,↓oDiv,↓oMod,↓oShl,↓oPow,↓oLt,↓oLe,↓oGt,↓oGe,↓oAbs,↓oMax,↓oMin,↓cMinL,↓fInD,↓dSl,↓oNo,↓oSo,↓dBy,↓fAddT,↓dSlT,↓dParR,↓dEnum,↓dRevL,↓gAs,↓Gs.unset,↓rtN,↓lamF,↓gLam,↓plainO,↓dGIx,↓dIxO,↓Z.isNon,oTD,thD,num,Z.isNon,ent,svOf,List.map_cons,List.map_nil,List.cons_append,List.nil_append,List.append_nil,List.replicate,List.length_cons,List.length_nil,List.getElem?_cons_zero,List.getElem?_cons_succ,List.getElem?_nil,List.set_cons_zero,List.set_cons_succ,Option.map_some,Option.map_none,Option.isNone_some,Option.isNone_none,forall_const,true_implies,false_implies,and_true,true_and,Bool.true_eq_false,Bool.false_eq_true,reduceCtorEq,noOwn,wipeS,hide,fuN_self,lcD,dYes,Nat.zero_add,Nat.reduceAdd,Nat.reduceLeDiff,Nat.reduceSub,atI_0,atI_1,atI_2,atI_3,atI_4,atI_5,Int.one_mul,eqv_ii,eqv_ss,eqv_num,shaped_int,shaped_num,shaped_none,shaped_ru,flat_str,flat_int,flat_none,List.all_cons,List.all_nil,Bool.and_true,decide_eq_true_eq,decide_eq_false_iff_not,Bool.not_eq_true',Bool.not_eq_false',Decidable.not_not,↓reduceIte,Bool.false_eq_true,Int.reduceLT,eqv_strs,pick_0,pick_01,pick_10,pick_012,pick_021,pick_102,pick_120,pick_201,pick_210]
      exact ⟨by decide, [bl t.d], rfl, h⟩
  | some u =>
    cases o2 with
    | none =>
      simp only [↓dMHit,↓dMPutRet,↓dCallM,↓dPar3D,↓dMaxK,↓cMinDa,↓entM,↓dSeq,↓dAsg,↓dSetL,↓dNext,↓dIfS,↓dRet,↓dRetL,↓dDrop,↓dNever,↓dBrk,↓dAug,↓dPar,↓dParL,↓dApp,↓dVar,↓dC,↓dBin,↓fI,↓fI0,↓fAdd,↓fEq,↓fNe,↓fIn,↓dTest,↓dAndT,↓dOrT,↓dNotT,↓dAndV,↓dOrV,↓dNotV,↓dIf,↓dNeg,↓dIsN,↓dChain,↓dNil,↓dCons,↓dTup,↓dLst,↓dFz,↓valsD,↓dIx,↓dCall,↓dCallL,↓hasSrc,↓rrv,↓dN,↓dT,↓dTn,↓dTc,↓rsv,↓Gs.set,↓dFor,↓dItems,↓dRange1,↓dRange2,↓dZip,↓dLc,↓dCB,↓cLen,↓cAll,↓cTuple,↓cInt1,↓cInt2,↓dIsi,↓dBits,↓dCallS,↓oSub,↓oAddI,↓oMul,↓oDiv,↓oMod,↓oShl,↓oPow,↓oLt,↓oLe,↓oGt,↓oGe,↓oAbs,↓oMax,↓oMin,↓cMinL,↓fInD,↓dSl,↓oNo,↓oSo,↓dBy,↓fAddT,↓dSlT,↓dParR,↓dEnum,↓dRevL,↓gAs,↓Gs.unset,↓rtN,↓lamF,↓gLam,↓plainO,↓dGIx,↓dIxO,↓Z.isNon,oTD,thD,num,Z.isNon,ent,svOf,List.map_cons,List.map_nil,List.cons_append,List.nil_append,List.append_nil,List.replicate,List.length_cons,List.length_nil,List.getElem?_cons_zero,List.getElem?_cons_succ,List.getElem?_nil,List.set_cons_zero,List.set_cons_succ,Option.map_some,Option.map_none,Option.isNone_some,Option.isNone_none,forall_const,true_implies,false_implies,and_true,true_and,Bool.true_eq_false,Bool.false_eq_true,reduceCtorEq,noOwn,wipeS,hide,fuN_self,lcD,dYes,Nat.zero_add,Nat.reduceAdd,Nat.reduceLeDiff,Nat.reduceSub,atI_0,atI_1,atI_2,atI_3,atI_4,atI_5,Int.one_mul,eqv_ii,eqv_ss,eqv_num,shaped_int,shaped_num,shaped_none,shaped_ru,flat_str,flat_int,flat_none,List.all_cons,List.all_nil,Bool.and_true,decide_eq_true_eq,decide_eq_false_iff_not,Bool.not_eq_true',Bool.not_eq_false',Decidable.not_not,↓reduceIte,Bool.false_eq_true,Int.reduceLT,eqv_strs,pick_0,pick_01,pick_10,pick_012,pick_021,pick_102,pick_120,pick_201,pick_210]
      exact ⟨by decide, [bl u.d], rfl, h⟩
    | some t =>
      simp only [↓dMHit,↓dMPutRet,↓dCallM,↓dPar3D,↓dMaxK,↓cMinDa,↓entM,↓dSeq,↓dAsg,↓dSetL,↓dNext,↓dIfS,↓dRet,↓dRetL,↓dDrop,↓dNever,↓dBrk,↓dAug,↓dPar,↓dParL,↓dApp,↓dVar,↓dC,↓dBin,↓fI,↓fI0,↓fAdd,↓fEq,↓fNe,↓fIn,↓dTest,↓dAndT,↓dOrT,↓dNotT,↓dAndV,↓dOrV,↓dNotV,↓dIf,↓dNeg,↓dIsN,↓dChain,↓dNil,↓dCons,↓dTup,↓dLst,↓dFz,↓valsD,↓dIx,↓dCall,↓dCallL,↓hasSrc,↓rrv,↓dN,↓dT,↓dTn,↓dTc,↓rsv,↓Gs.set,↓dFor,↓dItems,↓dRange1,↓dRange2,↓dZip,↓dLc,↓dCB,↓cLen,↓cAll,↓cTuple,↓cInt1,↓cInt2,↓dIsi,↓dBits,↓dCallS,↓oSub,↓oAddI,↓oMul,↓oDiv,↓oMod,↓oShl,↓oPow,↓oLt,↓oLe,↓oGt,↓oGe,↓oAbs,↓oMax,↓oMin,↓cMinL,↓fInD,↓dSl,↓oNo,↓oSo,↓dBy,↓fAddT,↓dSlT,↓dParR,↓dEnum,↓dRevL,↓gAs,↓Gs.unset,↓rtN,↓lamF,↓gLam,↓plainO,↓dGIx,↓dIxO,↓Z.isNon,oTD,thD,num,Z.isNon,ent,svOf,List.map_cons,List.map_nil,List.cons_append,List.nil_append,List.append_nil,List.replicate,List.length_cons,List.length_nil,List.getElem?_cons_zero,List.getElem?_cons_succ,List.getElem?_nil,List.set_cons_zero,List.set_cons_succ,Option.map_some,Option.map_none,Option.isNone_some,Option.isNone_none,forall_const,true_implies,false_implies,and_true,true_and,Bool.true_eq_false,Bool.false_eq_true,reduceCtorEq,noOwn,wipeS,hide,fuN_self,lcD,dYes,Nat.zero_add,Nat.reduceAdd,Nat.reduceLeDiff,Nat.reduceSub,atI_0,atI_1,atI_2,atI_3,atI_4,atI_5,Int.one_mul,eqv_ii,eqv_ss,eqv_num,shaped_int,shaped_num,shaped_none,shaped_ru,flat_str,flat_int,flat_none,List.all_cons,List.all_nil,Bool.and_true,decide_eq_true_eq,decide_eq_false_iff_not,Bool.not_eq_true',Bool.not_eq_false',Decidable.not_not,↓reduceIte,Bool.false_eq_true,Int.reduceLT,eqv_strs,pick_0,pick_01,pick_10,pick_012,pick_021,pick_102,pick_120,pick_201,pick_210]
      exact ⟨by decide, by decide, [bl u.d, bl t.d], rfl, h⟩
section
variable {P : Program} {w : World} {K : Fg} {mg : Str → Option Value} {base : Heap}
theorem d_most_far (T : Tx w K mg) {cdv : Value} {A : Around} {outer : List Env} {s : Shared} {H : Hp} {E : XK} (hr : Room 0 (A.deeper (envOfC "most_far" (defScope st_most_far) s.heap.objs.size T.f_most_far cdv))) (hgd : (A.deeper (envOfC "most_far" (defScope st_most_far) s.heap.objs.size T.f_most_far cdv)).guards = some []) :
    PSs (cxOf CX0 P w K mg base N_most_far "most_far" (defScope st_most_far) T.f_most_far cdv A outer s H E).nox (defBody st_most_far) (upS K W0 b_most_far) :=
  (ss_one (s_ret (e_add (e_maxK rfl hr (by rfl) T.n_max (e_fz (e_lc (own := [("threshold", 1)]) rfl sc_most_far.nd (i_items (e_var 0 (pv 0))) (blkOk_by (own := [("threshold", 1)]) (N := N_most_far) (sc := defScope st_most_far) (by decide +kernel)) (fun _ _ _ _ _ => (gw_name rfl (pg_name (i := 1) sc_most_far.nd rfl (.inl rfl)) (by decide))) (fun _ _ _ _ _ => (pts_one (t_notN (e_var 1 (pv 1))))) (fun _ _ _ _ _ => (e_bits (e_ix (e_ix (e_var 1 (pv 1)) e_int) e_int)))))) e_int)))
theorem ok_most_far (T : Tx w K mg) : Fn P w K mg base CX0 1 T.f_most_far T.fd_most_far ["wanted"] (lift K 1 fs_most_far) := fn_data T.F_most_far sc_most_far b_most_far (fun _ _ _ _ _ _ hr hgd => d_most_far T hr hgd) p_most_far
end
def b_widened : DS :=
  (dRet (dCB cTuple (dCons (dFz (dLc [2, 3] (dItems (dVar 0)) (dT 2 (dTc (dN 2) (dTc (dN 3) dTn))) dYes (dTup (dCons (dBin fAdd (dVar 2) (dVar 1)) (dCons (dVar 3) dNil))))) dNil)))
def fs_widened : FSp := fun rs fu post => ∃ (s : List (Int × Ru)) (k : Int), rs = [.val (chD s), .val (.int k)] ∧ s.length ≤ 100 ∧ post (.val (chD (widI s k))) fu
theorem p_widened (rs : List Rv) (fu : Option Nat) (post : Rr → Option Nat → Prop) (hl : rs.length = 2) (h : fs_widened rs fu post) : b_widened ⟨fun g => post (.val .none) g.fu, fun r g => post r g.fu, fun _ => False, fun _ => False⟩ (ent N_widened rs fu) := by
  obtain ⟨s, k, rfl, hs, h⟩ := h
  unfold chD at h ⊢
  simp only [↓dMHit,↓dMPutRet,↓dCallM,↓dPar3D,↓dMaxK,↓cMinDa,↓entM,↓dSeq,↓dAsg,↓dSetL,↓dNext,↓dIfS,↓dRet,↓dRetL,↓dDrop,↓dNever,↓dBrk,↓dAug,↓dPar,↓dParL,↓dApp,↓dVar,↓dC,↓dBin,↓fI,↓fI0,↓fAdd,↓fEq,↓fNe,↓fIn,↓dTest,↓dAndT,↓dOrT,↓dNotT,↓dAndV,↓dOrV,↓dNotV,↓dIf,↓dNeg,↓dIsN,↓dChain,↓dNil,↓dCons,↓dTup,↓dLst,↓dFz,↓valsD,↓dIx,↓dCall,↓dCallL,↓hasSrc,↓rrv,↓dN,↓dT,↓dTn,↓dTc,↓rsv,↓Gs.set,↓dFor,↓dItems,↓dRange1,↓dRange2,↓dZip,↓dLc,↓dCB,↓cLen,↓cAll,↓cTuple,↓cInt1,↓cInt2,↓dIsi,↓dBits,↓dCallS,↓oSub,↓oAddI,↓oMul,↓oDiv,↓oMod,↓oShl,↓oPow,↓oLt,↓oLe,↓oGt,↓oGe,↓oAbs,↓oMax,↓oMin,↓cMinL,↓fInD,↓dSl,↓oNo,↓oSo,↓dBy,↓fAddT,↓dSlT,↓dParR,↓dEnum,↓dRevL,↓gAs,↓Gs.unset,↓rtN,↓lamF,↓gLam,↓plainO,↓dGIx,↓dIxO,↓Z.isNon,b_widened,ent,svOf,List.map_cons,List.map_nil,List.cons_append,List.nil_append,List.append_nil,List.replicate,List.length_cons,List.length_nil,List.getElem?_cons_zero,List.getElem?_cons_succ,List.getElem?_nil,List.set_cons_zero,List.set_cons_succ,Option.map_some,Option.map_none,Option.isNone_some,Option.isNone_none,forall_const,true_implies,false_implies,and_true,true_and,Bool.true_eq_false,Bool.false_eq_true,reduceCtorEq,noOwn,wipeS,hide,fuN_self,lcD,dYes,Nat.zero_add,Nat.reduceAdd,Nat.reduceLeDiff,Nat.reduceSub,atI_0,atI_1,atI_2,atI_3,atI_4,atI_5,Int.one_mul,eqv_ii,eqv_ss,eqv_num,shaped_int,shaped_num,shaped_none,shaped_ru,flat_str,flat_int,flat_none,List.all_cons,List.all_nil,Bool.and_true,decide_eq_true_eq,decide_eq_false_iff_not,Bool.not_eq_true',Bool.not_eq_false',Decidable.not_not,↓reduceIte,Bool.false_eq_true,Int.reduceLT,eqv_strs,pick_0,pick_01,pick_10,pick_012,pick_021,pick_102,pick_120,pick_201,pick_210]
  refine lc_mapT (fun d => match d with | .tuple [.int w, r] => .tuple [.int (w + k), r] | _ => .none) (fun x hx R N hR => ?_) (by simp; omega) ?_
  · obtain ⟨q, hq, rfl⟩ := List.mem_map.mp hx
    unfold stD at hR ⊢
    simp only [↓dMHit,↓dMPutRet,↓dCallM,↓dPar3D,↓dMaxK,↓cMinDa,↓entM,↓dSeq,↓dAsg,↓dSetL,↓dNext,↓dIfS,↓dRet,↓dRetL,↓dDrop,↓dNever,↓dBrk,↓dAug,↓dPar,↓dParL,↓dApp,↓dVar,↓dC,↓dBin,↓fI,↓fI0,↓fAdd,↓fEq,↓fNe,↓fIn,↓dTest,↓dAndT,↓dOrT,↓dNotT,↓dAndV,↓dOrV,↓dNotV,↓dIf,↓dNeg,↓dIsN,↓dChain,↓dNil,↓dCons,↓dTup,↓dLst,↓dFz,↓valsD,↓dIx,↓dCall,↓dCallL,↓hasSrc,↓rrv,↓dN,↓dT,↓dTn,↓dTc,↓rsv,↓Gs.set,↓dFor,↓dItems,↓dRange1,↓dRange2,↓dZip,↓dLc,↓dCB,↓cLen,↓cAll,↓cTuple,↓cInt1,↓cInt2,↓dIsi,↓dBits,↓dCallS,↓oSub,↓oAddI,↓oMul,↓oDiv,↓oMod,↓oShl,↓oPow,↓oLt,↓oLe,↓oGt,↓oGe,↓oAbs,↓oMax,↓oMin,↓cMinL,↓fInD,↓dSl,↓oNo,↓oSo,↓dBy,↓fAddT,↓dSlT,↓dParR,↓dEnum,↓dRevL,↓gAs,↓Gs.unset,↓rtN,↓lamF,↓gLam,↓plainO,↓dGIx,↓dIxO,↓Z.isNon,ent,svOf,List.map_cons,List.map_nil,List.cons_append,List.nil_append,List.append_nil,List.replicate,List.length_cons,List.length_nil,List.getElem?_cons_zero,List.getElem?_cons_succ,List.getElem?_nil,List.set_cons_zero,List.set_cons_succ,Option.map_some,Option.map_none,Option.isNone_some,Option.isNone_none,forall_const,true_implies,false_implies,and_true,true_and,Bool.true_eq_false,Bool.false_eq_true,reduceCtorEq,noOwn,wipeS,hide,fuN_self,lcD,dYes,Nat.zero_add,Nat.reduceAdd,Nat.reduceLeDiff,Nat.reduceSub,atI_0,atI_1,atI_2,atI_3,atI_4,atI_5,Int.one_mul,eqv_ii,eqv_ss,eqv_num,shaped_int,shaped_num,shaped_none,shaped_ru,flat_str,flat_int,flat_none,List.all_cons,List.all_nil,Bool.and_true,decide_eq_true_eq,decide_eq_false_iff_not,Bool.not_eq_true',Bool.not_eq_false',Decidable.not_not,↓reduceIte,Bool.false_eq_true,Int.reduceLT,eqv_strs,pick_0,pick_01,pick_10,pick_012,pick_021,pick_102,pick_120,pick_201,pick_210]
    exact hR _ rfl
  · have e : List.map (fun d => match d with | .tuple [.int w, r] => PyData.tuple [.int (w + k), r] | _ => .none) (s.map stD) = (widI s k).map stD := by
      unfold widI
      rw [List.map_map, List.map_map]
      rfl
    rw [List.nil_append, e]
    exact h
section
variable {P : Program} {w : World} {K : Fg} {mg : Str → Option Value} {base : Heap}
theorem d_widened (T : Tx w K mg) {cdv : Value} {A : Around} {outer : List Env} {s : Shared} {H : Hp} {E : XK} (hr : Room 0 (A.deeper (envOfC "widened" (defScope st_widened) s.heap.objs.size T.f_widened cdv))) (hgd : (A.deeper (envOfC "widened" (defScope st_widened) s.heap.objs.size T.f_widened cdv)).guards = some []) :
    PSs (cxOf CX0 P w K mg base N_widened "widened" (defScope st_widened) T.f_widened cdv A outer s H E).nox (defBody st_widened) (upS K W0 b_widened) :=
  (ss_one (s_ret (e_tuple (by rfl) T.n_tuple (a_cons (e_fz (e_lc (own := [("width", 2), ("rule", 3)]) rfl sc_widened.nd (i_items (e_var 0 (pv 0))) (blkOk_by (own := [("width", 2), ("rule", 3)]) (N := N_widened) (sc := defScope st_widened) (by decide +kernel)) (fun _ _ _ _ _ => (gw_tup rfl rfl (gsw_cons (gw_name rfl (pg_name (i := 2) sc_widened.nd rfl (.inl rfl)) (by decide)) (gsw_cons (gw_name rfl (pg_name (i := 3) sc_widened.nd rfl (.inl rfl)) (by decide)) gsw_nil)))) (fun _ _ _ _ _ => ts_yes) (fun _ _ _ _ _ => (e_tup (a_cons (e_add (e_var 2 (pv 2)) (e_var 1 (pv 1))) (a_cons (e_var 3 (pv 3)) a_nil)))))) a_nil))))
theorem ok_widened (T : Tx w K mg) : Fn P w K mg base CX0 1 T.f_widened T.fd_widened ["steps", "by"] (lift K 2 fs_widened) := fn_data T.F_widened sc_widened b_widened (fun _ _ _ _ _ _ hr hgd => d_widened T hr hgd) p_widened
end
def b_least_steps (HS : NestedKey → Int) (fR : FSpM) : DS :=
  (dSeq (dAsg (dTup (dCons (dVar 0) (dCons (dVar 1) dNil))) (dN 3))
  (dSeq (dMHit HS 2 3)
  (dSeq (dSetL 4 (dLst dNil))
  (dSeq (dFor (dItems (dC (.tuple [(.str "down"), (.str "half_down"), (.str "half_even"), (.str "half_up"), (.str "odd"), (.str "up")]))) (dN 5)
    (dSeq (dIfS (dAndT (dTest (dBin fEq (dVar 1) (dC (.int 1)))) (dTest (dCall 2 fs_matches (dCons (dVar 0) (dCons (dVar 5) dNil)))))
    (dApp 4 (dTup (dCons (dTup (dCons (dC (.int 0)) (dCons (dVar 5) dNil))) dNil)))
    dNext)
  (dFor (dRange2 (dC (.int 1)) (dIf (dTest (dBin oGt (dVar 1) (dC (.int 1)))) (dBin fAdd (dCall 1 fs_most_far (dCons (dVar 0) dNil)) (dC (.int 1))) (dC (.int 1)))) (dN 6)
    (dSeq (dAsg (dCall 3 fs_all_before (dCons (dVar 0) (dCons (dVar 5) (dCons (dVar 6) dNil)))) (dN 7))
  (dSeq (dIfS (dTest (dIsN false (dVar 7)))
    dBrk
    dNext)
  (dSeq (dAsg (dCall 1 fs_merged (dCons (dVar 7) dNil)) (dN 8))
  (dSeq (dAsg (dIf (dTest (dIsN true (dVar 8))) (dCallM HS 2 fR (dVar 8) (dBin oSub (dVar 1) (dC (.int 1)))) (dC .none)) (dN 9))
  (dIfS (dTest (dIsN true (dVar 9)))
    (dApp 4 (dBin fAddT (dCall 2 fs_widened (dCons (dVar 9) (dCons (dVar 6) dNil))) (dTup (dCons (dTup (dCons (dC (.int 0)) (dCons (dVar 5) dNil))) dNil))))
    dNext))))))))
  (dMPutRet HS 2 3 (dIf (dTest (dBin fNe (dVar 4) (dFz (dLst dNil)))) (dCB cMinDa (dCons (dVar 4) dNil)) (dC .none)))))))
mutual
theorem key_inj : ∀ a b : NestedKey, a.data = b.data → a = b
  | .none, .none, _ => rfl
  | .num a, .num b, h => by simp only [NestedKey.data, PyData.int.injEq] at h; rw [h]
  | .text a, .text b, h => by simp only [NestedKey.data, PyData.str.injEq] at h; rw [h]
  | .tup a, .tup b, h => by simp only [NestedKey.data, PyData.tuple.injEq] at h; rw [keys_inj a b h]
  | .none, .num _, h => by simp [NestedKey.data] at h
  | .none, .text _, h => by simp [NestedKey.data] at h
  | .none, .tup _, h => by simp [NestedKey.data] at h
  | .num _, .none, h => by simp [NestedKey.data] at h
  | .num _, .text _, h => by simp [NestedKey.data] at h
  | .num _, .tup _, h => by simp [NestedKey.data] at h
  | .text _, .none, h => by simp [NestedKey.data] at h
  | .text _, .num _, h => by simp [NestedKey.data] at h
  | .text _, .tup _, h => by simp [NestedKey.data] at h
  | .tup _, .none, h => by simp [NestedKey.data] at h
  | .tup _, .num _, h => by simp [NestedKey.data] at h
  | .tup _, .text _, h => by simp [NestedKey.data] at h
theorem keys_inj : ∀ a b : List NestedKey, NestedKey.datas a = NestedKey.datas b → a = b
  | [], [], _ => rfl
  | a :: as, b :: bs, h => by
    simp only [NestedKey.datas, List.cons.injEq] at h
    rw [key_inj a b h.1, keys_inj as bs h.2]
  | [], _ :: _, h => by simp [NestedKey.datas] at h
  | _ :: _, [], h => by simp [NestedKey.datas] at h
end
def oK : Option Th → NestedKey
  | none => .none
  | some t => .tup [.tup [.num t.n, .num t.d], .text (sdS t.up)]
def keyK (p : Wt × Nat) : List NestedKey := [.tup [oK p.1.1, oK p.1.2], .num p.2]
theorem oK_data (o : Option Th) : (oK o).data = oTD o := by
  cases o with
  | none => simp [oK, oTD, NestedKey.data]
  | some t => simp [oK, oTD, NestedKey.data, NestedKey.datas, thD, num]
theorem keyK_data (p : Wt × Nat) : (NestedKey.tup (keyK p)).data = .tuple [wD p.1, .int p.2] := by
  simp [keyK, NestedKey.data, NestedKey.datas, oK_data, wD]
theorem oK_dep (o : Option Th) : (oK o).depth ≤ 2 := by
  cases o with
  | none => simp [oK, NestedKey.depth]
  | some t => simp [oK, NestedKey.depth, NestedKey.depthAll]
theorem keyK_dep (p : Wt × Nat) : (NestedKey.tup (keyK p)).depth ≤ 8 := by
  have := oK_dep p.1.1
  have := oK_dep p.1.2
  simp only [keyK, NestedKey.depth, NestedKey.depthAll]
  omega
theorem sdS_inj {a b : Bool} (h : sdS a = sdS b) : a = b := by
  cases a <;> cases b <;> first | rfl | exact absurd h (by decide +kernel)
theorem thD_inj {t u : Th} (h : thD t = thD u) : t = u := by
  unfold thD num at h
  simp only [PyData.tuple.injEq, List.cons.injEq, PyData.int.injEq, PyData.str.injEq, and_true] at h
  have := sdS_inj h.2
  cases t; cases u
  simp_all
theorem oTD_inj {o p : Option Th} (h : oTD o = oTD p) : o = p := by
  cases o <;> cases p
  · rfl
  · cases h
  · cases h
  · rw [thD_inj h]
theorem keyD_inj {p q : Wt × Nat} (h : PyData.tuple [wD p.1, .int p.2] = .tuple [wD q.1, .int q.2]) : p = q := by
  unfold wD at h
  simp only [PyData.tuple.injEq, List.cons.injEq, PyData.int.injEq, and_true] at h
  obtain ⟨⟨h1, h2⟩, h3⟩ := h
  obtain ⟨⟨a, b⟩, c⟩ := p
  obtain ⟨⟨a', b'⟩, c'⟩ := q
  have e1 := oTD_inj h1
  have e2 := oTD_inj h2
  have e3 : c = c' := by have : (c : Int) = c' := h3; omega
  simp_all
def resD : Option (List (Int × Ru)) → Da
  | none => .none
  | some s => chD s
/-- what the memo holds -/
def gdM (S : List (Wt × Nat)) (k v : Da) : Prop := ∃ p ∈ S, k = .tuple [wD p.1, .int p.2] ∧ v = resD (LS p.2 p.1)
theorem gdM_at {S : List (Wt × Nat)} {p : Wt × Nat} {v : Da} (h : gdM S (NestedKey.tup (keyK p)).data v) : v = resD (LS p.2 p.1) := by
  obtain ⟨q, _, e, h⟩ := h
  rw [keyK_data] at e
  rw [keyD_inj e]
  exact h
theorem gdM_in {S : List (Wt × Nat)} {k : NestedKey} {v : Da} (h : gdM S k.data v) : k ∈ S.map fun p => NestedKey.tup (keyK p) := by
  obtain ⟨q, hq, e, _⟩ := h
  rw [← keyK_data] at e
  rw [key_inj _ _ e]
  exact List.mem_map_of_mem hq
def vS : Option Da → Option Sv
  | none => none
  | some d => some (.val d)
def fs_least_steps : Nat → FSpM
  | 0 => fun _ _ _ => False
  | n + 1 => fun gd rs post => ∃ (W : Wt) (c m : Nat) (S : List (Wt × Nat)), rs = [.val (wD W), .val (.int ((c + 1 : Nat) : Int))] ∧ c ≤ n ∧ c ≤ 50 ∧ WK m W ∧ m ≤ 190 ∧ (W, c + 1) ∈ S ∧ Clo S ∧ S.length ≤ 16000000 ∧ gd = gdM S ∧ post (.val (resD (LS (c + 1) W)))
def stLS (HS : NestedKey → Int) (S : List (Wt × Nat)) (W : Wt) (c : Nat) (acc : List (List (Int × Ru))) (u5 u6 u7 u8 u9 : Option Da) : Gs :=
  ⟨[some (.val (wD W)), some (.val (.int ((c + 1 : Nat) : Int))), some (.mem true HS (gdM S)), some (.val (.tuple [wD W, .int ((c + 1 : Nat) : Int)])), some (.own (acc.map chD)), vS u5, vS u6, vS u7, vS u8, vS u9], none, true⟩
def farB (HS : NestedKey → Int) (fR : FSpM) : DS := (dSeq (dAsg (dCall 3 fs_all_before (dCons (dVar 0) (dCons (dVar 5) (dCons (dVar 6) dNil)))) (dN 7))
  (dSeq (dIfS (dTest (dIsN false (dVar 7)))
    dBrk
    dNext)
  (dSeq (dAsg (dCall 1 fs_merged (dCons (dVar 7) dNil)) (dN 8))
  (dSeq (dAsg (dIf (dTest (dIsN true (dVar 8))) (dCallM HS 2 fR (dVar 8) (dBin oSub (dVar 1) (dC (.int 1)))) (dC .none)) (dN 9))
  (dIfS (dTest (dIsN true (dVar 9)))
    (dApp 4 (dBin fAddT (dCall 2 fs_widened (dCons (dVar 9) (dCons (dVar 6) dNil))) (dTup (dCons (dTup (dCons (dC (.int 0)) (dCons (dVar 5) dNil))) dNil))))
    dNext)))))
theorem wD_non (W : Wt) : Z.isNon (wD W) = false := rfl
theorem p_farB {D : DEnds} {HS : NestedKey → Int} {n : Nat} {S : List (Wt × Nat)} {W : Wt} {c m : Nat} {r : Ru} (hW : WK m W) (hm : m ≤ 190) (hc : c + 1 ≤ n) (hc2 : c + 1 ≤ 50) (hS : (W, c + 1 + 1) ∈ S) (hC : Clo S) (hz : S.length ≤ 16000000) :
    ∀ {fs : List Nat} {acc : List (List (Int × Ru))} {u6 u7 u8 u9 : Option Da}, (∀ f ∈ fs, f ∈ farsL W (c + 1)) → acc.length + fs.length ≤ 5000 →
      (∀ u6 u7 u8 u9, D.nx (stLS HS S W (c + 1) (acc ++ farL (LS (c + 1)) W r fs) (some (.str r.s)) u6 u7 u8 u9)) →
      forD (dN 6) (farB HS (fs_least_steps n)) (fs.map fun f : Nat => PyData.int f) D (stLS HS S W (c + 1) acc (some (.str r.s)) u6 u7 u8 u9)
  | [], acc, u6, u7, u8, u9, _, _, h => by
    have := h u6 u7 u8 u9
    rw [show farL (LS (c + 1)) W r [] = [] from rfl, List.append_nil] at this
    exact this
  | f :: fs, acc, u6, u7, u8, u9, hf, hl, h => by
    obtain ⟨f1, f2⟩ := (show 1 ≤ f ∧ f ≤ 192 by
      have := hf f (List.mem_cons_self ..)
      unfold farsL at this
      rw [if_neg (by omega)] at this
      have := List.mem_range'_1.mp this
      have := (mf_rng hW).2
      omega)
    show dN 6 (.val (.int f)) _ _
    unfold stLS
    simp only [↓dMHit,↓dMPutRet,↓dCallM,↓dPar3D,↓dMaxK,↓cMinDa,↓entM,↓dSeq,↓dAsg,↓dSetL,↓dNext,↓dIfS,↓dRet,↓dRetL,↓dDrop,↓dNever,↓dBrk,↓dAug,↓dPar,↓dParL,↓dApp,↓dVar,↓dC,↓dBin,↓fI,↓fI0,↓fAdd,↓fEq,↓fNe,↓fIn,↓dTest,↓dAndT,↓dOrT,↓dNotT,↓dAndV,↓dOrV,↓dNotV,↓dIf,↓dNeg,↓dIsN,↓dChain,↓dNil,↓dCons,↓dTup,↓dLst,↓dFz,↓valsD,↓dIx,↓dCall,↓dCallL,↓hasSrc,↓rrv,↓dN,↓dT,↓dTn,↓dTc,↓rsv,↓Gs.set,↓dFor,↓dItems,↓dRange1,↓dRange2,↓dZip,↓dLc,↓dCB,↓cLen,↓cAll,↓cTuple,↓cInt1,↓cInt2,↓dIsi,↓dBits,↓dCallS,↓oSub,↓oAddI,↓oMul,↓oDiv,↓oMod,↓oShl,↓oPow,↓oLt,↓oLe,↓oGt,↓oGe,↓oAbs,↓oMax,↓oMin,↓cMinL,↓fInD,↓dSl,↓oNo,↓oSo,↓dBy,↓fAddT,↓dSlT,↓dParR,↓dEnum,↓dRevL,↓gAs,↓Gs.unset,↓rtN,↓lamF,↓gLam,↓plainO,↓dGIx,↓dIxO,↓Z.isNon,farB,vS,fs_all_before,ent,svOf,List.map_cons,List.map_nil,List.cons_append,List.nil_append,List.append_nil,List.replicate,List.length_cons,List.length_nil,List.getElem?_cons_zero,List.getElem?_cons_succ,List.getElem?_nil,List.set_cons_zero,List.set_cons_succ,Option.map_some,Option.map_none,Option.isNone_some,Option.isNone_none,forall_const,true_implies,false_implies,and_true,true_and,Bool.true_eq_false,Bool.false_eq_true,reduceCtorEq,noOwn,wipeS,hide,fuN_self,lcD,dYes,Nat.zero_add,Nat.reduceAdd,Nat.reduceLeDiff,Nat.reduceSub,atI_0,atI_1,atI_2,atI_3,atI_4,atI_5,Int.one_mul,eqv_ii,eqv_ss,eqv_num,shaped_int,shaped_num,shaped_none,shaped_ru,flat_str,flat_int,flat_none,List.all_cons,List.all_nil,Bool.and_true,decide_eq_true_eq,decide_eq_false_iff_not,Bool.not_eq_true',Bool.not_eq_false',Decidable.not_not,↓reduceIte,Bool.false_eq_true,Int.reduceLT,eqv_strs,pick_0,pick_01,pick_10,pick_012,pick_021,pick_102,pick_120,pick_201,pick_210]
    refine ⟨W, m, r, f, rfl, hW, hm, by omega, by omega, ?_⟩
    rw [show ((f : Int)).toNat = f by omega]
    cases q : allI W r f with
    | none =>
      have e : farL (LS (c + 1)) W r (f :: fs) = [] := by unfold farL; rw [q]
      rw [e, List.append_nil] at h
      simp only [↓dMHit,↓dMPutRet,↓dCallM,↓dPar3D,↓dMaxK,↓cMinDa,↓entM,↓dSeq,↓dAsg,↓dSetL,↓dNext,↓dIfS,↓dRet,↓dRetL,↓dDrop,↓dNever,↓dBrk,↓dAug,↓dPar,↓dParL,↓dApp,↓dVar,↓dC,↓dBin,↓fI,↓fI0,↓fAdd,↓fEq,↓fNe,↓fIn,↓dTest,↓dAndT,↓dOrT,↓dNotT,↓dAndV,↓dOrV,↓dNotV,↓dIf,↓dNeg,↓dIsN,↓dChain,↓dNil,↓dCons,↓dTup,↓dLst,↓dFz,↓valsD,↓dIx,↓dCall,↓dCallL,↓hasSrc,↓rrv,↓dN,↓dT,↓dTn,↓dTc,↓rsv,↓Gs.set,↓dFor,↓dItems,↓dRange1,↓dRange2,↓dZip,↓dLc,↓dCB,↓cLen,↓cAll,↓cTuple,↓cInt1,↓cInt2,↓dIsi,↓dBits,↓dCallS,↓oSub,↓oAddI,↓oMul,↓oDiv,↓oMod,↓oShl,↓oPow,↓oLt,↓oLe,↓oGt,↓oGe,↓oAbs,↓oMax,↓oMin,↓cMinL,↓fInD,↓dSl,↓oNo,↓oSo,↓dBy,↓fAddT,↓dSlT,↓dParR,↓dEnum,↓dRevL,↓gAs,↓Gs.unset,↓rtN,↓lamF,↓gLam,↓plainO,↓dGIx,↓dIxO,↓Z.isNon,alD,Z.isNon,ent,svOf,List.map_cons,List.map_nil,List.cons_append,List.nil_append,List.append_nil,List.replicate,List.length_cons,List.length_nil,List.getElem?_cons_zero,List.getElem?_cons_succ,List.getElem?_nil,List.set_cons_zero,List.set_cons_succ,Option.map_some,Option.map_none,Option.isNone_some,Option.isNone_none,forall_const,true_implies,false_implies,and_true,true_and,Bool.true_eq_false,Bool.false_eq_true,reduceCtorEq,noOwn,wipeS,hide,fuN_self,lcD,dYes,Nat.zero_add,Nat.reduceAdd,Nat.reduceLeDiff,Nat.reduceSub,atI_0,atI_1,atI_2,atI_3,atI_4,atI_5,Int.one_mul,eqv_ii,eqv_ss,eqv_num,shaped_int,shaped_num,shaped_none,shaped_ru,flat_str,flat_int,flat_none,List.all_cons,List.all_nil,Bool.and_true,decide_eq_true_eq,decide_eq_false_iff_not,Bool.not_eq_true',Bool.not_eq_false',Decidable.not_not,↓reduceIte,Bool.false_eq_true,Int.reduceLT,eqv_strs,pick_0,pick_01,pick_10,pick_012,pick_021,pick_102,pick_120,pick_201,pick_210]
      have := h (some (.int f)) (some .none) u8 u9
      unfold stLS at this
      exact this
    | some l =>
      have e : farL (LS (c + 1)) W r (f :: fs) = stepL (LS (c + 1)) r f l ++ farL (LS (c + 1)) W r fs := by conv => lhs; unfold farL; rw [q]
      rw [e] at h
      simp only [↓dMHit,↓dMPutRet,↓dCallM,↓dPar3D,↓dMaxK,↓cMinDa,↓entM,↓dSeq,↓dAsg,↓dSetL,↓dNext,↓dIfS,↓dRet,↓dRetL,↓dDrop,↓dNever,↓dBrk,↓dAug,↓dPar,↓dParL,↓dApp,↓dVar,↓dC,↓dBin,↓fI,↓fI0,↓fAdd,↓fEq,↓fNe,↓fIn,↓dTest,↓dAndT,↓dOrT,↓dNotT,↓dAndV,↓dOrV,↓dNotV,↓dIf,↓dNeg,↓dIsN,↓dChain,↓dNil,↓dCons,↓dTup,↓dLst,↓dFz,↓valsD,↓dIx,↓dCall,↓dCallL,↓hasSrc,↓rrv,↓dN,↓dT,↓dTn,↓dTc,↓rsv,↓Gs.set,↓dFor,↓dItems,↓dRange1,↓dRange2,↓dZip,↓dLc,↓dCB,↓cLen,↓cAll,↓cTuple,↓cInt1,↓cInt2,↓dIsi,↓dBits,↓dCallS,↓oSub,↓oAddI,↓oMul,↓oDiv,↓oMod,↓oShl,↓oPow,↓oLt,↓oLe,↓oGt,↓oGe,↓oAbs,↓oMax,↓oMin,↓cMinL,↓fInD,↓dSl,↓oNo,↓oSo,↓dBy,↓fAddT,↓dSlT,↓dParR,↓dEnum,↓dRevL,↓gAs,↓Gs.unset,↓rtN,↓lamF,↓gLam,↓plainO,↓dGIx,↓dIxO,↓Z.isNon,alD,Z.isNon,fs_merged,ent,svOf,List.map_cons,List.map_nil,List.cons_append,List.nil_append,List.append_nil,List.replicate,List.length_cons,List.length_nil,List.getElem?_cons_zero,List.getElem?_cons_succ,List.getElem?_nil,List.set_cons_zero,List.set_cons_succ,Option.map_some,Option.map_none,Option.isNone_some,Option.isNone_none,forall_const,true_implies,false_implies,and_true,true_and,Bool.true_eq_false,Bool.false_eq_true,reduceCtorEq,noOwn,wipeS,hide,fuN_self,lcD,dYes,Nat.zero_add,Nat.reduceAdd,Nat.reduceLeDiff,Nat.reduceSub,atI_0,atI_1,atI_2,atI_3,atI_4,atI_5,Int.one_mul,eqv_ii,eqv_ss,eqv_num,shaped_int,shaped_num,shaped_none,shaped_ru,flat_str,flat_int,flat_none,List.all_cons,List.all_nil,Bool.and_true,decide_eq_true_eq,decide_eq_false_iff_not,Bool.not_eq_true',Bool.not_eq_false',Decidable.not_not,↓reduceIte,Bool.false_eq_true,Int.reduceLT,eqv_strs,pick_0,pick_01,pick_10,pick_012,pick_021,pick_102,pick_120,pick_201,pick_210]
      refine ⟨l, rfl, ?_⟩
      cases q2 : mergI l (none, none) with
      | none =>
        have e2 : stepL (LS (c + 1)) r f l = [] := by unfold stepL; rw [q2]
        rw [e2, List.nil_append] at h
        simp only [↓dMHit,↓dMPutRet,↓dCallM,↓dPar3D,↓dMaxK,↓cMinDa,↓entM,↓dSeq,↓dAsg,↓dSetL,↓dNext,↓dIfS,↓dRet,↓dRetL,↓dDrop,↓dNever,↓dBrk,↓dAug,↓dPar,↓dParL,↓dApp,↓dVar,↓dC,↓dBin,↓fI,↓fI0,↓fAdd,↓fEq,↓fNe,↓fIn,↓dTest,↓dAndT,↓dOrT,↓dNotT,↓dAndV,↓dOrV,↓dNotV,↓dIf,↓dNeg,↓dIsN,↓dChain,↓dNil,↓dCons,↓dTup,↓dLst,↓dFz,↓valsD,↓dIx,↓dCall,↓dCallL,↓hasSrc,↓rrv,↓dN,↓dT,↓dTn,↓dTc,↓rsv,↓Gs.set,↓dFor,↓dItems,↓dRange1,↓dRange2,↓dZip,↓dLc,↓dCB,↓cLen,↓cAll,↓cTuple,↓cInt1,↓cInt2,↓dIsi,↓dBits,↓dCallS,↓oSub,↓oAddI,↓oMul,↓oDiv,↓oMod,↓oShl,↓oPow,↓oLt,↓oLe,↓oGt,↓oGe,↓oAbs,↓oMax,↓oMin,↓cMinL,↓fInD,↓dSl,↓oNo,↓oSo,↓dBy,↓fAddT,↓dSlT,↓dParR,↓dEnum,↓dRevL,↓gAs,↓Gs.unset,↓rtN,↓lamF,↓gLam,↓plainO,↓dGIx,↓dIxO,↓Z.isNon,mgD,Z.isNon,ent,svOf,List.map_cons,List.map_nil,List.cons_append,List.nil_append,List.append_nil,List.replicate,List.length_cons,List.length_nil,List.getElem?_cons_zero,List.getElem?_cons_succ,List.getElem?_nil,List.set_cons_zero,List.set_cons_succ,Option.map_some,Option.map_none,Option.isNone_some,Option.isNone_none,forall_const,true_implies,false_implies,and_true,true_and,Bool.true_eq_false,Bool.false_eq_true,reduceCtorEq,noOwn,wipeS,hide,fuN_self,lcD,dYes,Nat.zero_add,Nat.reduceAdd,Nat.reduceLeDiff,Nat.reduceSub,atI_0,atI_1,atI_2,atI_3,atI_4,atI_5,Int.one_mul,eqv_ii,eqv_ss,eqv_num,shaped_int,shaped_num,shaped_none,shaped_ru,flat_str,flat_int,flat_none,List.all_cons,List.all_nil,Bool.and_true,decide_eq_true_eq,decide_eq_false_iff_not,Bool.not_eq_true',Bool.not_eq_false',Decidable.not_not,↓reduceIte,Bool.false_eq_true,Int.reduceLT,eqv_strs,pick_0,pick_01,pick_10,pick_012,pick_021,pick_102,pick_120,pick_201,pick_210]
        exact p_farB (D := D) (HS := HS) (n := n) hW hm hc hc2 hS hC hz (fs := fs) (acc := acc) (u6 := some (.int f)) (u7 := some _) (u8 := some .none) (u9 := some .none) (fun g hg => hf g (List.mem_cons_of_mem _ hg)) (by rw [List.length_cons] at hl; omega) h
      | some W' =>
        have e3 : stepL (LS (c + 1)) r f l = (match LS (c + 1) W' with | none => [] | some s => [widI s f ++ [((0 : Int), r)]]) := by (unfold stepL; rw [q2]) <;> rfl
        rw [e3] at h
        obtain ⟨n', rfl⟩ : ∃ n', n = n' + 1 := ⟨n - 1, by omega⟩
        simp only [↓dMHit,↓dMPutRet,↓dCallM,↓dPar3D,↓dMaxK,↓cMinDa,↓entM,↓dSeq,↓dAsg,↓dSetL,↓dNext,↓dIfS,↓dRet,↓dRetL,↓dDrop,↓dNever,↓dBrk,↓dAug,↓dPar,↓dParL,↓dApp,↓dVar,↓dC,↓dBin,↓fI,↓fI0,↓fAdd,↓fEq,↓fNe,↓fIn,↓dTest,↓dAndT,↓dOrT,↓dNotT,↓dAndV,↓dOrV,↓dNotV,↓dIf,↓dNeg,↓dIsN,↓dChain,↓dNil,↓dCons,↓dTup,↓dLst,↓dFz,↓valsD,↓dIx,↓dCall,↓dCallL,↓hasSrc,↓rrv,↓dN,↓dT,↓dTn,↓dTc,↓rsv,↓Gs.set,↓dFor,↓dItems,↓dRange1,↓dRange2,↓dZip,↓dLc,↓dCB,↓cLen,↓cAll,↓cTuple,↓cInt1,↓cInt2,↓dIsi,↓dBits,↓dCallS,↓oSub,↓oAddI,↓oMul,↓oDiv,↓oMod,↓oShl,↓oPow,↓oLt,↓oLe,↓oGt,↓oGe,↓oAbs,↓oMax,↓oMin,↓cMinL,↓fInD,↓dSl,↓oNo,↓oSo,↓dBy,↓fAddT,↓dSlT,↓dParR,↓dEnum,↓dRevL,↓gAs,↓Gs.unset,↓rtN,↓lamF,↓gLam,↓plainO,↓dGIx,↓dIxO,↓Z.isNon,mgD,Z.isNon,wD_non,ent,svOf,List.map_cons,List.map_nil,List.cons_append,List.nil_append,List.append_nil,List.replicate,List.length_cons,List.length_nil,List.getElem?_cons_zero,List.getElem?_cons_succ,List.getElem?_nil,List.set_cons_zero,List.set_cons_succ,Option.map_some,Option.map_none,Option.isNone_some,Option.isNone_none,forall_const,true_implies,false_implies,and_true,true_and,Bool.true_eq_false,Bool.false_eq_true,reduceCtorEq,noOwn,wipeS,hide,fuN_self,lcD,dYes,Nat.zero_add,Nat.reduceAdd,Nat.reduceLeDiff,Nat.reduceSub,atI_0,atI_1,atI_2,atI_3,atI_4,atI_5,Int.one_mul,eqv_ii,eqv_ss,eqv_num,shaped_int,shaped_num,shaped_none,shaped_ru,flat_str,flat_int,flat_none,List.all_cons,List.all_nil,Bool.and_true,decide_eq_true_eq,decide_eq_false_iff_not,Bool.not_eq_true',Bool.not_eq_false',Decidable.not_not,↓reduceIte,Bool.false_eq_true,Int.reduceLT,eqv_strs,pick_0,pick_01,pick_10,pick_012,pick_021,pick_102,pick_120,pick_201,pick_210]
        refine ⟨fun _ => ⟨true, gdM S, ⟨rfl, by cases u9 <;> rfl⟩, W', c, m, S, by rw [show ((c + 1 + 1 : Nat) : Int) - 1 = ((c + 1 : Nat) : Int) by omega], by omega, by omega, merg_K (wk_none m) (all_K hW q).2 q2, hm, hC W (c + 1) hS (by omega) r f l W' (hf f (List.mem_cons_self ..)) q q2, hC, hz, rfl, _, rfl, ?_⟩, fun z => Bool.noConfusion (show false = true from z)⟩
        cases q3 : LS (c + 1) W' with
        | none =>
          rw [q3] at h
          simp only [↓dMHit,↓dMPutRet,↓dCallM,↓dPar3D,↓dMaxK,↓cMinDa,↓entM,↓dSeq,↓dAsg,↓dSetL,↓dNext,↓dIfS,↓dRet,↓dRetL,↓dDrop,↓dNever,↓dBrk,↓dAug,↓dPar,↓dParL,↓dApp,↓dVar,↓dC,↓dBin,↓fI,↓fI0,↓fAdd,↓fEq,↓fNe,↓fIn,↓dTest,↓dAndT,↓dOrT,↓dNotT,↓dAndV,↓dOrV,↓dNotV,↓dIf,↓dNeg,↓dIsN,↓dChain,↓dNil,↓dCons,↓dTup,↓dLst,↓dFz,↓valsD,↓dIx,↓dCall,↓dCallL,↓hasSrc,↓rrv,↓dN,↓dT,↓dTn,↓dTc,↓rsv,↓Gs.set,↓dFor,↓dItems,↓dRange1,↓dRange2,↓dZip,↓dLc,↓dCB,↓cLen,↓cAll,↓cTuple,↓cInt1,↓cInt2,↓dIsi,↓dBits,↓dCallS,↓oSub,↓oAddI,↓oMul,↓oDiv,↓oMod,↓oShl,↓oPow,↓oLt,↓oLe,↓oGt,↓oGe,↓oAbs,↓oMax,↓oMin,↓cMinL,↓fInD,↓dSl,↓oNo,↓oSo,↓dBy,↓fAddT,↓dSlT,↓dParR,↓dEnum,↓dRevL,↓gAs,↓Gs.unset,↓rtN,↓lamF,↓gLam,↓plainO,↓dGIx,↓dIxO,↓Z.isNon,resD,Z.isNon,ent,svOf,List.map_cons,List.map_nil,List.cons_append,List.nil_append,List.append_nil,List.replicate,List.length_cons,List.length_nil,List.getElem?_cons_zero,List.getElem?_cons_succ,List.getElem?_nil,List.set_cons_zero,List.set_cons_succ,Option.map_some,Option.map_none,Option.isNone_some,Option.isNone_none,forall_const,true_implies,false_implies,and_true,true_and,Bool.true_eq_false,Bool.false_eq_true,reduceCtorEq,noOwn,wipeS,hide,fuN_self,lcD,dYes,Nat.zero_add,Nat.reduceAdd,Nat.reduceLeDiff,Nat.reduceSub,atI_0,atI_1,atI_2,atI_3,atI_4,atI_5,Int.one_mul,eqv_ii,eqv_ss,eqv_num,shaped_int,shaped_num,shaped_none,shaped_ru,flat_str,flat_int,flat_none,List.all_cons,List.all_nil,Bool.and_true,decide_eq_true_eq,decide_eq_false_iff_not,Bool.not_eq_true',Bool.not_eq_false',Decidable.not_not,↓reduceIte,Bool.false_eq_true,Int.reduceLT,eqv_strs,pick_0,pick_01,pick_10,pick_012,pick_021,pick_102,pick_120,pick_201,pick_210]
          exact p_farB (D := D) (HS := HS) (n := n' + 1) hW hm hc hc2 hS hC hz (fs := fs) (acc := acc) (u6 := some (.int f)) (u7 := some _) (u8 := some (wD W')) (u9 := some .none) (fun g hg => hf g (List.mem_cons_of_mem _ hg)) (by rw [List.length_cons] at hl; omega) h
        | some s =>
          rw [q3] at h
          have sl := ls_len q3
          simp only [↓dMHit,↓dMPutRet,↓dCallM,↓dPar3D,↓dMaxK,↓cMinDa,↓entM,↓dSeq,↓dAsg,↓dSetL,↓dNext,↓dIfS,↓dRet,↓dRetL,↓dDrop,↓dNever,↓dBrk,↓dAug,↓dPar,↓dParL,↓dApp,↓dVar,↓dC,↓dBin,↓fI,↓fI0,↓fAdd,↓fEq,↓fNe,↓fIn,↓dTest,↓dAndT,↓dOrT,↓dNotT,↓dAndV,↓dOrV,↓dNotV,↓dIf,↓dNeg,↓dIsN,↓dChain,↓dNil,↓dCons,↓dTup,↓dLst,↓dFz,↓valsD,↓dIx,↓dCall,↓dCallL,↓hasSrc,↓rrv,↓dN,↓dT,↓dTn,↓dTc,↓rsv,↓Gs.set,↓dFor,↓dItems,↓dRange1,↓dRange2,↓dZip,↓dLc,↓dCB,↓cLen,↓cAll,↓cTuple,↓cInt1,↓cInt2,↓dIsi,↓dBits,↓dCallS,↓oSub,↓oAddI,↓oMul,↓oDiv,↓oMod,↓oShl,↓oPow,↓oLt,↓oLe,↓oGt,↓oGe,↓oAbs,↓oMax,↓oMin,↓cMinL,↓fInD,↓dSl,↓oNo,↓oSo,↓dBy,↓fAddT,↓dSlT,↓dParR,↓dEnum,↓dRevL,↓gAs,↓Gs.unset,↓rtN,↓lamF,↓gLam,↓plainO,↓dGIx,↓dIxO,↓Z.isNon,resD,chD,Z.isNon,fs_widened,ent,svOf,List.map_cons,List.map_nil,List.cons_append,List.nil_append,List.append_nil,List.replicate,List.length_cons,List.length_nil,List.getElem?_cons_zero,List.getElem?_cons_succ,List.getElem?_nil,List.set_cons_zero,List.set_cons_succ,Option.map_some,Option.map_none,Option.isNone_some,Option.isNone_none,forall_const,true_implies,false_implies,and_true,true_and,Bool.true_eq_false,Bool.false_eq_true,reduceCtorEq,noOwn,wipeS,hide,fuN_self,lcD,dYes,Nat.zero_add,Nat.reduceAdd,Nat.reduceLeDiff,Nat.reduceSub,atI_0,atI_1,atI_2,atI_3,atI_4,atI_5,Int.one_mul,eqv_ii,eqv_ss,eqv_num,shaped_int,shaped_num,shaped_none,shaped_ru,flat_str,flat_int,flat_none,List.all_cons,List.all_nil,Bool.and_true,decide_eq_true_eq,decide_eq_false_iff_not,Bool.not_eq_true',Bool.not_eq_false',Decidable.not_not,↓reduceIte,Bool.false_eq_true,Int.reduceLT,eqv_strs,pick_0,pick_01,pick_10,pick_012,pick_021,pick_102,pick_120,pick_201,pick_210]
          refine ⟨⟨_, rfl⟩, s, f, rfl, by omega, ?_⟩
          refine ⟨by simp [wid_len, sizeLine_eq]; omega, by rw [List.length_map]; rw [List.length_cons] at hl; omega, ?_⟩
          have ih := p_farB (D := D) (HS := HS) (n := n' + 1) hW hm hc hc2 hS hC hz (fs := fs) (acc := acc ++ [widI s f ++ [((0 : Int), r)]]) (u6 := some (.int f)) (u7 := some (.list (l.map fun q => bfD (some q)))) (u8 := some (wD W')) (u9 := some (chD s)) (fun g hg => hf g (List.mem_cons_of_mem _ hg)) (by rw [List.length_append, List.length_cons, List.length_nil]; rw [List.length_cons] at hl; omega) (by rw [List.append_assoc]; exact h)
          unfold stLS at ih
          rw [List.map_append] at ih
          have ec : chD (widI s f ++ [((0 : Int), r)]) = .tuple ((widI s f).map stD ++ [.tuple [.int 0, .str r.s]]) := by unfold chD; rw [List.map_append]; rfl
          rw [List.map_cons, List.map_nil, ec] at ih
          exact ih
def ruB (HS : NestedKey → Int) (fR : FSpM) : DS := (dSeq (dIfS (dAndT (dTest (dBin fEq (dVar 1) (dC (.int 1)))) (dTest (dCall 2 fs_matches (dCons (dVar 0) (dCons (dVar 5) dNil)))))
    (dApp 4 (dTup (dCons (dTup (dCons (dC (.int 0)) (dCons (dVar 5) dNil))) dNil)))
    dNext)
  (dFor (dRange2 (dC (.int 1)) (dIf (dTest (dBin oGt (dVar 1) (dC (.int 1)))) (dBin fAdd (dCall 1 fs_most_far (dCons (dVar 0) dNil)) (dC (.int 1))) (dC (.int 1)))) (dN 6)
    (farB HS fR)))
theorem range_rg (n : Nat) : rangeD 1 n = (List.range' 1 n).map fun f : Nat => PyData.int f := by
  rw [List.range'_eq_map_range, List.map_map]
  unfold rangeD
  refine List.map_congr_left fun i _ => ?_
  show PyData.int _ = PyData.int _
  congr 1
theorem p_ruB {D : DEnds} {HS : NestedKey → Int} {n : Nat} {S : List (Wt × Nat)} {W : Wt} {c m : Nat} (hW : WK m W) (hm : m ≤ 190) (hc : c ≤ n) (hc2 : c ≤ 50) (hS : (W, c + 1) ∈ S) (hC : Clo S) (hz : S.length ≤ 16000000) :
    ∀ {rs : List Ru} {acc : List (List (Int × Ru))} {u5 u6 u7 u8 u9 : Option Da}, acc.length + 200 * rs.length ≤ 4000 →
      (∀ u5 u6 u7 u8 u9, D.nx (stLS HS S W c (acc ++ rs.flatMap (ruleL (LS c) c W)) u5 u6 u7 u8 u9)) →
      forD (dN 5) (ruB HS (fs_least_steps n)) (rs.map fun r => PyData.str r.s) D (stLS HS S W c acc u5 u6 u7 u8 u9)
  | [], acc, u5, u6, u7, u8, u9, _, h => by
    have := h u5 u6 u7 u8 u9
    rw [List.flatMap_nil, List.append_nil] at this
    exact this
  | r :: rs, acc, u5, u6, u7, u8, u9, hl, h => by
    rw [List.flatMap_cons] at h
    show dN 5 (.val (.str r.s)) _ _
    unfold stLS
    cases c with
    | zero =>
      simp only [↓dMHit,↓dMPutRet,↓dCallM,↓dPar3D,↓dMaxK,↓cMinDa,↓entM,↓dSeq,↓dAsg,↓dSetL,↓dNext,↓dIfS,↓dRet,↓dRetL,↓dDrop,↓dNever,↓dBrk,↓dAug,↓dPar,↓dParL,↓dApp,↓dVar,↓dC,↓dBin,↓fI,↓fI0,↓fAdd,↓fEq,↓fNe,↓fIn,↓dTest,↓dAndT,↓dOrT,↓dNotT,↓dAndV,↓dOrV,↓dNotV,↓dIf,↓dNeg,↓dIsN,↓dChain,↓dNil,↓dCons,↓dTup,↓dLst,↓dFz,↓valsD,↓dIx,↓dCall,↓dCallL,↓hasSrc,↓rrv,↓dN,↓dT,↓dTn,↓dTc,↓rsv,↓Gs.set,↓dFor,↓dItems,↓dRange1,↓dRange2,↓dZip,↓dLc,↓dCB,↓cLen,↓cAll,↓cTuple,↓cInt1,↓cInt2,↓dIsi,↓dBits,↓dCallS,↓oSub,↓oAddI,↓oMul,↓oDiv,↓oMod,↓oShl,↓oPow,↓oLt,↓oLe,↓oGt,↓oGe,↓oAbs,↓oMax,↓oMin,↓cMinL,↓fInD,↓dSl,↓oNo,↓oSo,↓dBy,↓fAddT,↓dSlT,↓dParR,↓dEnum,↓dRevL,↓gAs,↓Gs.unset,↓rtN,↓lamF,↓gLam,↓plainO,↓dGIx,↓dIxO,↓Z.isNon,ruB,vS,fs_matches,ent,svOf,List.map_cons,List.map_nil,List.cons_append,List.nil_append,List.append_nil,List.replicate,List.length_cons,List.length_nil,List.getElem?_cons_zero,List.getElem?_cons_succ,List.getElem?_nil,List.set_cons_zero,List.set_cons_succ,Option.map_some,Option.map_none,Option.isNone_some,Option.isNone_none,forall_const,true_implies,false_implies,and_true,true_and,Bool.true_eq_false,Bool.false_eq_true,reduceCtorEq,noOwn,wipeS,hide,fuN_self,lcD,dYes,Nat.zero_add,Nat.reduceAdd,Nat.reduceLeDiff,Nat.reduceSub,atI_0,atI_1,atI_2,atI_3,atI_4,atI_5,Int.one_mul,eqv_ii,eqv_ss,eqv_num,shaped_int,shaped_num,shaped_none,shaped_ru,flat_str,flat_int,flat_none,List.all_cons,List.all_nil,Bool.and_true,decide_eq_true_eq,decide_eq_false_iff_not,Bool.not_eq_true',Bool.not_eq_false',Decidable.not_not,↓reduceIte,Bool.false_eq_true,Int.reduceLT,eqv_strs,pick_0,pick_01,pick_10,pick_012,pick_021,pick_102,pick_120,pick_201,pick_210]
      refine ⟨fun _ => ⟨W, r, rfl, fun q => ⟨⟨_, rfl⟩, by rw [List.length_map]; omega, fun z => absurd z (by decide), fun _ => ⟨⟨by decide, by decide, by decide, by decide⟩, ?_⟩⟩, fun q => ⟨fun z => absurd z (by decide), fun _ => ⟨⟨by decide, by decide, by decide, by decide⟩, ?_⟩⟩⟩, fun z => absurd rfl z⟩
      · have er : ruleL (LS 0) 0 W r = [[((0 : Int), r)]] := by unfold ruleL; rw [if_pos ⟨rfl, q⟩]; rfl
        rw [er, ← List.append_assoc] at h
        have ih := p_ruB (D := D) (HS := HS) (n := n) hW hm hc hc2 hS hC hz (rs := rs) (acc := acc ++ [[((0 : Int), r)]]) (u5 := some (.str r.s)) (u6 := u6) (u7 := u7) (u8 := u8) (u9 := u9) (by rw [List.length_append, List.length_cons, List.length_nil]; rw [List.length_cons] at hl; omega) h
        unfold stLS at ih
        rw [List.map_append] at ih
        rw [show rangeD 1 ((1 : Int) - 1).toNat = [] from rfl, forD]
        exact ih
      · have er : ruleL (LS 0) 0 W r = [] := by unfold ruleL; rw [if_neg (fun z => by rw [q] at z; cases z.2)]; rfl
        rw [er, List.nil_append] at h
        have ih := p_ruB (D := D) (HS := HS) (n := n) hW hm hc hc2 hS hC hz (rs := rs) (acc := acc) (u5 := some (.str r.s)) (u6 := u6) (u7 := u7) (u8 := u8) (u9 := u9) (by rw [List.length_cons] at hl; omega) h
        rw [show rangeD 1 ((1 : Int) - 1).toNat = [] from rfl, forD]
        exact ih
    | succ c =>
      simp only [↓dMHit,↓dMPutRet,↓dCallM,↓dPar3D,↓dMaxK,↓cMinDa,↓entM,↓dSeq,↓dAsg,↓dSetL,↓dNext,↓dIfS,↓dRet,↓dRetL,↓dDrop,↓dNever,↓dBrk,↓dAug,↓dPar,↓dParL,↓dApp,↓dVar,↓dC,↓dBin,↓fI,↓fI0,↓fAdd,↓fEq,↓fNe,↓fIn,↓dTest,↓dAndT,↓dOrT,↓dNotT,↓dAndV,↓dOrV,↓dNotV,↓dIf,↓dNeg,↓dIsN,↓dChain,↓dNil,↓dCons,↓dTup,↓dLst,↓dFz,↓valsD,↓dIx,↓dCall,↓dCallL,↓hasSrc,↓rrv,↓dN,↓dT,↓dTn,↓dTc,↓rsv,↓Gs.set,↓dFor,↓dItems,↓dRange1,↓dRange2,↓dZip,↓dLc,↓dCB,↓cLen,↓cAll,↓cTuple,↓cInt1,↓cInt2,↓dIsi,↓dBits,↓dCallS,↓oSub,↓oAddI,↓oMul,↓oDiv,↓oMod,↓oShl,↓oPow,↓oLt,↓oLe,↓oGt,↓oGe,↓oAbs,↓oMax,↓oMin,↓cMinL,↓fInD,↓dSl,↓oNo,↓oSo,↓dBy,↓fAddT,↓dSlT,↓dParR,↓dEnum,↓dRevL,↓gAs,↓Gs.unset,↓rtN,↓lamF,↓gLam,↓plainO,↓dGIx,↓dIxO,↓Z.isNon,ruB,vS,fs_most_far,ent,svOf,List.map_cons,List.map_nil,List.cons_append,List.nil_append,List.append_nil,List.replicate,List.length_cons,List.length_nil,List.getElem?_cons_zero,List.getElem?_cons_succ,List.getElem?_nil,List.set_cons_zero,List.set_cons_succ,Option.map_some,Option.map_none,Option.isNone_some,Option.isNone_none,forall_const,true_implies,false_implies,and_true,true_and,Bool.true_eq_false,Bool.false_eq_true,reduceCtorEq,noOwn,wipeS,hide,fuN_self,lcD,dYes,Nat.zero_add,Nat.reduceAdd,Nat.reduceLeDiff,Nat.reduceSub,atI_0,atI_1,atI_2,atI_3,atI_4,atI_5,Int.one_mul,eqv_ii,eqv_ss,eqv_num,shaped_int,shaped_num,shaped_none,shaped_ru,flat_str,flat_int,flat_none,List.all_cons,List.all_nil,Bool.and_true,decide_eq_true_eq,decide_eq_false_iff_not,Bool.not_eq_true',Bool.not_eq_false',Decidable.not_not,↓reduceIte,Bool.false_eq_true,Int.reduceLT,eqv_strs,pick_0,pick_01,pick_10,pick_012,pick_021,pick_102,pick_120,pick_201,pick_210]
      obtain ⟨m1, m2⟩ := mf_rng hW
      refine ⟨fun z => absurd z (by omega), fun _ => ⟨fun _ => ⟨W, rfl, ⟨by decide, by decide, by omega, by omega⟩, ?_⟩, fun z => absurd (show 1 < ((c + 1 + 1 : Nat) : Int) by omega) z⟩⟩
      have ef : farsL W (c + 1) = List.range' 1 (mfI W).toNat := by unfold farsL; rw [if_neg (by omega)]
      have er : ruleL (LS (c + 1)) (c + 1) W r = farL (LS (c + 1)) W r (List.range' 1 (mfI W).toNat) := by
        unfold ruleL
        rw [if_neg (fun z => absurd z.1 (by omega)), ef]
        rfl
      have fl := farL_len (LS (c + 1)) W r (List.range' 1 (mfI W).toNat)
      rw [List.length_range'] at fl
      rw [List.length_cons] at hl
      rw [er] at h
      rw [show mfI W + 1 - 1 = mfI W by omega, range_rg]
      refine p_farB (HS := HS) (n := n) hW hm hc hc2 hS hC hz (fs := List.range' 1 (mfI W).toNat) (acc := acc) (u6 := u6) (u7 := u7) (u8 := u8) (u9 := u9) (fun f hf => by rw [ef]; exact hf) (by rw [List.length_range']; omega) fun u6 u7 u8 u9 => ?_
      exact p_ruB (D := D) (HS := HS) (n := n) hW hm hc hc2 hS hC hz (rs := rs) (acc := acc ++ farL (LS (c + 1)) W r (List.range' 1 (mfI W).toNat)) (u5 := some (.str r.s)) (u6 := u6) (u7 := u7) (u8 := u8) (u9 := u9) (by rw [List.length_append]; omega) (by rw [← List.append_assoc] at h; exact h)
theorem alike_st : ∀ a b : List (Int × Ru), PySem.W.alikeAll (a.map stD) (b.map stD) = true
  | [], _ => by simp [PySem.W.alikeAll]
  | _ :: _, [] => by simp [PySem.W.alikeAll]
  | x :: a, y :: b => by
    rw [List.map_cons, List.map_cons, PySem.W.alikeAll, alike_st a b, Bool.and_true]
    rfl
theorem alike_chs (l : List (List (Int × Ru))) : AlikeA (l.map chD) := ⟨fun x hx y hy => by
  obtain ⟨a, _, rfl⟩ := List.mem_map.mp hx
  obtain ⟨b, _, rfl⟩ := List.mem_map.mp hy
  exact alike_st a b, fun x hx => by
  obtain ⟨a, _, rfl⟩ := List.mem_map.mp hx
  exact fun z => nomatch z⟩
theorem lay_st : ∀ c : List (Int × Ru), PyData.canLayAll0 (c.map stD) = true ∧ PyData.depthAll (c.map stD) ≤ 1
  | [] => ⟨rfl, Nat.zero_le _⟩
  | s :: c => by
    have := ru_ok s.2
    have ih := lay_st c
    rw [List.map_cons]
    refine ⟨?_, ?_⟩
    · simp only [PyData.canLayAll0, ih.1, Bool.and_true]
      simp [stD, PyData.canLay0, PyData.canLayAll0, this]
    · simp only [PyData.depthAll]
      have := ih.2
      simp [stD, PyData.depth, PyData.depthAll]
      omega
theorem lay_chs : ∀ l : List (List (Int × Ru)), PyData.canLayAll0 (l.map chD) = true ∧ PyData.depthAll (l.map chD) ≤ 2
  | [] => ⟨rfl, Nat.zero_le _⟩
  | s :: l => by
    have h := lay_st s
    have ih := lay_chs l
    rw [List.map_cons]
    refine ⟨?_, ?_⟩
    · simp only [PyData.canLayAll0, ih.1, Bool.and_true]
      simp only [chD, PyData.canLay0, h.1]
    · simp only [PyData.depthAll]
      have h1 : (chD s).depth ≤ 2 := by simp only [chD, PyData.depth]; omega
      omega
theorem shaped_chs (l : List (List (Int × Ru))) : SeqAt.shaped (.list (l.map chD)) = true := by
  have h := lay_chs l
  refine Bool.and_eq_true_iff.mpr ⟨?_, decide_eq_true ?_⟩
  · rw [PyData.canLay0]
    exact h.1
  · rw [PyData.depth]
    omega
theorem min_chs : ∀ (l : List (List (Int × Ru))) (x : List (Int × Ru)), minDA (chD x) (l.map chD) = chD (l.foldl (fun a y => if PySem.W.dataLt (chD y) (chD a) then y else a) x)
  | [], x => rfl
  | y :: l, x => by
    have ih := min_chs l (if PySem.W.dataLt (chD y) (chD x) then y else x)
    rw [List.foldl_cons, ← ih]
    show ((y :: l).map chD).foldl _ _ = (l.map chD).foldl _ _
    rw [List.map_cons, List.foldl_cons]
    split <;> rfl
theorem p_least_steps (HS : NestedKey → Int) (j : Nat) (gd : Da → Da → Prop) (rs : List Rv) (post : Rr → Prop) (hl : rs.length + 1 = 3) (h : fs_least_steps (j + 1) gd rs post) :
    b_least_steps HS (fs_least_steps j) ⟨fun _ => False, fun r g => (∃ d, r = .val d) ∧ g.sl[rs.length]? = some (some (.mem true HS gd)) ∧ post r, fun _ => False, fun _ => False⟩ (entM N_least_steps rs HS gd) := by
  obtain ⟨W, c, m, S, rfl, hc, hc2, hW, hm, hS, hC, hz, rfl, h⟩ := h
  simp only [↓dMHit,↓dMPutRet,↓dCallM,↓dPar3D,↓dMaxK,↓cMinDa,↓entM,↓dSeq,↓dAsg,↓dSetL,↓dNext,↓dIfS,↓dRet,↓dRetL,↓dDrop,↓dNever,↓dBrk,↓dAug,↓dPar,↓dParL,↓dApp,↓dVar,↓dC,↓dBin,↓fI,↓fI0,↓fAdd,↓fEq,↓fNe,↓fIn,↓dTest,↓dAndT,↓dOrT,↓dNotT,↓dAndV,↓dOrV,↓dNotV,↓dIf,↓dNeg,↓dIsN,↓dChain,↓dNil,↓dCons,↓dTup,↓dLst,↓dFz,↓valsD,↓dIx,↓dCall,↓dCallL,↓hasSrc,↓rrv,↓dN,↓dT,↓dTn,↓dTc,↓rsv,↓Gs.set,↓dFor,↓dItems,↓dRange1,↓dRange2,↓dZip,↓dLc,↓dCB,↓cLen,↓cAll,↓cTuple,↓cInt1,↓cInt2,↓dIsi,↓dBits,↓dCallS,↓oSub,↓oAddI,↓oMul,↓oDiv,↓oMod,↓oShl,↓oPow,↓oLt,↓oLe,↓oGt,↓oGe,↓oAbs,↓oMax,↓oMin,↓cMinL,↓fInD,↓dSl,↓oNo,↓oSo,↓dBy,↓fAddT,↓dSlT,↓dParR,↓dEnum,↓dRevL,↓gAs,↓Gs.unset,↓rtN,↓lamF,↓gLam,↓plainO,↓dGIx,↓dIxO,↓Z.isNon,b_least_steps,ent,svOf,List.map_cons,List.map_nil,List.cons_append,List.nil_append,List.append_nil,List.replicate,List.length_cons,List.length_nil,List.getElem?_cons_zero,List.getElem?_cons_succ,List.getElem?_nil,List.set_cons_zero,List.set_cons_succ,Option.map_some,Option.map_none,Option.isNone_some,Option.isNone_none,forall_const,true_implies,false_implies,and_true,true_and,Bool.true_eq_false,Bool.false_eq_true,reduceCtorEq,noOwn,wipeS,hide,fuN_self,lcD,dYes,Nat.zero_add,Nat.reduceAdd,Nat.reduceLeDiff,Nat.reduceSub,atI_0,atI_1,atI_2,atI_3,atI_4,atI_5,Int.one_mul,eqv_ii,eqv_ss,eqv_num,shaped_int,shaped_num,shaped_none,shaped_ru,flat_str,flat_int,flat_none,List.all_cons,List.all_nil,Bool.and_true,decide_eq_true_eq,decide_eq_false_iff_not,Bool.not_eq_true',Bool.not_eq_false',Decidable.not_not,↓reduceIte,Bool.false_eq_true,Int.reduceLT,eqv_strs,pick_0,pick_01,pick_10,pick_012,pick_021,pick_102,pick_120,pick_201,pick_210]
  refine ⟨true, gdM S, keyK (W, c + 1), ⟨rfl, rfl⟩, by rw [keyK_data], keyK_dep _, ?_, fun dv hd => ⟨⟨dv, rfl⟩, by rw [gdM_at hd]; exact h⟩⟩
  refine p_ruB (n := j) (rs := rulesL) (acc := []) (u5 := none) (u6 := none) (u7 := none) (u8 := none) (u9 := none) hW hm hc hc2 hS hC hz (by decide) fun u5 u6 u7 u8 u9 => ?_
  unfold stLS
  simp only [↓dMHit,↓dMPutRet,↓dCallM,↓dPar3D,↓dMaxK,↓cMinDa,↓entM,↓dSeq,↓dAsg,↓dSetL,↓dNext,↓dIfS,↓dRet,↓dRetL,↓dDrop,↓dNever,↓dBrk,↓dAug,↓dPar,↓dParL,↓dApp,↓dVar,↓dC,↓dBin,↓fI,↓fI0,↓fAdd,↓fEq,↓fNe,↓fIn,↓dTest,↓dAndT,↓dOrT,↓dNotT,↓dAndV,↓dOrV,↓dNotV,↓dIf,↓dNeg,↓dIsN,↓dChain,↓dNil,↓dCons,↓dTup,↓dLst,↓dFz,↓valsD,↓dIx,↓dCall,↓dCallL,↓hasSrc,↓rrv,↓dN,↓dT,↓dTn,↓dTc,↓rsv,↓Gs.set,↓dFor,↓dItems,↓dRange1,↓dRange2,↓dZip,↓dLc,↓dCB,↓cLen,↓cAll,↓cTuple,↓cInt1,↓cInt2,↓dIsi,↓dBits,↓dCallS,↓oSub,↓oAddI,↓oMul,↓oDiv,↓oMod,↓oShl,↓oPow,↓oLt,↓oLe,↓oGt,↓oGe,↓oAbs,↓oMax,↓oMin,↓cMinL,↓fInD,↓dSl,↓oNo,↓oSo,↓dBy,↓fAddT,↓dSlT,↓dParR,↓dEnum,↓dRevL,↓gAs,↓Gs.unset,↓rtN,↓lamF,↓gLam,↓plainO,↓dGIx,↓dIxO,↓Z.isNon,ent,svOf,List.map_cons,List.map_nil,List.cons_append,List.nil_append,List.append_nil,List.replicate,List.length_cons,List.length_nil,List.getElem?_cons_zero,List.getElem?_cons_succ,List.getElem?_nil,List.set_cons_zero,List.set_cons_succ,Option.map_some,Option.map_none,Option.isNone_some,Option.isNone_none,forall_const,true_implies,false_implies,and_true,true_and,Bool.true_eq_false,Bool.false_eq_true,reduceCtorEq,noOwn,wipeS,hide,fuN_self,lcD,dYes,Nat.zero_add,Nat.reduceAdd,Nat.reduceLeDiff,Nat.reduceSub,atI_0,atI_1,atI_2,atI_3,atI_4,atI_5,Int.one_mul,eqv_ii,eqv_ss,eqv_num,shaped_int,shaped_num,shaped_none,shaped_ru,flat_str,flat_int,flat_none,List.all_cons,List.all_nil,Bool.and_true,decide_eq_true_eq,decide_eq_false_iff_not,Bool.not_eq_true',Bool.not_eq_false',Decidable.not_not,↓reduceIte,Bool.false_eq_true,Int.reduceLT,eqv_strs,pick_0,pick_01,pick_10,pick_012,pick_021,pick_102,pick_120,pick_201,pick_210]
  have hL : LS (c + 1) W = minL (rulesL.flatMap (ruleL (LS c) c W)) := rfl
  refine ⟨shaped_chs _, rfl, ?_⟩
  rw [eqv_nil]
  generalize rulesL.flatMap (ruleL (LS c) c W) = L at hL
  cases L with
  | nil =>
    refine ⟨fun z => (by cases z), fun _ => ⟨true, gdM S, keyK (W, c + 1), S.map fun p => NestedKey.tup (keyK p), ⟨rfl, by cases u5 <;> cases u6 <;> cases u7 <;> cases u8 <;> cases u9 <;> rfl⟩, by rw [keyK_data], keyK_dep _, rfl, ⟨(W, c + 1), hS, keyK_data _, by rw [hL]; rfl⟩, by rw [List.length_map]; exact hz, fun k' dv hk => gdM_in hk, fun dv hd => ⟨⟨dv, rfl⟩, by rw [gdM_at hd]; exact h⟩⟩⟩
  | cons x xs =>
    refine ⟨fun _ => ?_, fun z => (by cases z)⟩
    have la := lay_chs (x :: xs)
    refine ⟨alike_chs (x :: xs), la.1, Nat.le_trans la.2 (by decide), true, gdM S, keyK (W, c + 1), S.map fun p => NestedKey.tup (keyK p), ⟨rfl, by cases u5 <;> cases u6 <;> cases u7 <;> cases u8 <;> cases u9 <;> rfl⟩, by rw [keyK_data], keyK_dep _, ?_, ⟨(W, c + 1), hS, keyK_data _, ?_⟩, by rw [List.length_map]; exact hz, fun k' dv hk => gdM_in hk, fun dv hd => ⟨⟨dv, rfl⟩, by rw [gdM_at hd]; exact h⟩⟩
    · rw [min_chs]; rfl
    · rw [min_chs, hL]; rfl
section
variable {P : Program} {w : World} {K : Fg} {mg : Str → Option Value} {base : Heap}
theorem d_least_steps (T : Tx w K mg) {cdv : Value} {A : Around} {outer : List Env} {s : Shared} {H : Hp} {E : XK} (fR : FSpM) {j : Nat} (G : Fn P w K mg base CX0 (4 + j) T.f_least_steps T.fd_least_steps ["wanted", "count", "known"] (liftM K 3 (NestedKey.hash w) fR)) (hr : Room (4 + j) (A.deeper (envOfC "least_steps" (defScope st_least_steps) s.heap.objs.size T.f_least_steps cdv))) (hgd : (A.deeper (envOfC "least_steps" (defScope st_least_steps) s.heap.objs.size T.f_least_steps cdv)).guards = some []) :
    PSs (cxOf CX0 P w K mg base N_least_steps "least_steps" (defScope st_least_steps) T.f_least_steps cdv A outer s H E).nox (defBody st_least_steps) (upS K W0 (b_least_steps (NestedKey.hash w) fR)) :=
  (ss_cons (s_set (i := 3) sc_least_steps.nd rfl (.inl rfl) (e_tup (a_cons (e_var 0 (pv 0)) (a_cons (e_var 1 (pv 1)) a_nil))))
    (ss_cons (s_mhit (Nat.lt_of_le_of_lt (Nat.add_le_add_left (show 10 ≤ 64 by decide) _) hr.units) (pv 2) (pv 3) (pv 2) (pv 3) (fun _ _ => rfl))
    (ss_cons (s_setL (i := 4) sc_least_steps.nd rfl (.inl rfl) (e_lstL a_nil))
    (ss_cons (s_for PassesOwn.never rfl (i_items (e_glob (by rfl) T.c_RULES T.v_RULES T.r_RULES)) (g_name (pg_name (i := 5) sc_least_steps.nd rfl (.inl rfl))) (ss_cons (s_if (PW.pt (w_and (t_eq hr.units (e_var 1 (pv 1)) e_int) (w_and1 (t_val (e_call (ok_matches T) (hr.mono (by omega)) hgd (by rfl) T.g_matches T.F_matches.kp T.b_matches pass0 (a_cons (e_var 0 (pv 0)) (a_cons (e_var 5 (pv 5)) a_nil))))))) (ss_one (s_app (name := "x") (pv 4) (e_tup (a_cons (e_tup (a_cons e_int (a_cons (e_var 5 (pv 5)) a_nil))) a_nil)) (fun h => pe_bm PySem.F.plainAttrs_list PySem.F.slot_list_append PySem.F.type_list_append mt_append (pv 4) h))) ss_nil)
    (ss_one (s_for PassesOwn.never rfl (i_range2 (by rfl) T.n_range e_int (e_if (t_gt (e_var 1 (pv 1)) e_int) (e_add (e_call (ok_most_far T) (hr.mono (by omega)) hgd (by rfl) T.g_most_far T.F_most_far.kp T.b_most_far pass0 (a_cons (e_var 0 (pv 0)) a_nil)) e_int) e_int)) (g_name (pg_name (i := 6) sc_least_steps.nd rfl (.inl rfl))) (ss_cons (s_set (i := 7) sc_least_steps.nd rfl (.inl rfl) (e_call (ok_all_before T) (hr.mono (by omega)) hgd (by rfl) T.g_all_before T.F_all_before.kp T.b_all_before pass0 (a_cons (e_var 0 (pv 0)) (a_cons (e_var 5 (pv 5)) (a_cons (e_var 6 (pv 6)) a_nil)))))
    (ss_cons (s_if (t_isN (e_var 7 (pv 7))) (ss_one s_break) ss_nil)
    (ss_cons (s_set (i := 8) sc_least_steps.nd rfl (.inl rfl) (e_call (ok_merged T) (hr.mono (by omega)) hgd (by rfl) T.g_merged T.F_merged.kp T.b_merged pass0 (a_cons (e_var 7 (pv 7)) a_nil)))
    (ss_cons (s_set (i := 9) sc_least_steps.nd rfl (.inl rfl) (e_if (t_notN (e_var 8 (pv 8))) (e_callM G hr hgd (by rfl) T.g_least_steps T.F_least_steps.kp T.b_least_steps pass0 (e_var 8 (pv 8)) (e_sub (e_var 1 (pv 1)) e_int) (pv 2)) e_non))
    (ss_one (s_if (t_notN (e_var 9 (pv 9))) (ss_one (s_app (name := "x") (pv 4) (e_addT (e_call (ok_widened T) (hr.mono (by omega)) hgd (by rfl) T.g_widened T.F_widened.kp T.b_widened pass0 (a_cons (e_var 9 (pv 9)) (a_cons (e_var 6 (pv 6)) a_nil))) (e_tup (a_cons (e_tup (a_cons e_int (a_cons (e_var 5 (pv 5)) a_nil))) a_nil))) (fun h => pe_bm PySem.F.plainAttrs_list PySem.F.slot_list_append PySem.F.type_list_append mt_append (pv 4) h))) ss_nil))))))))))
    (ss_mput (Nat.lt_of_le_of_lt (Nat.add_le_add_left (show 10 ≤ 64 by decide) _) hr.units) (e_if (t_ne hr.units (e_var 4 (pv 4)) (e_fz (e_lstL a_nil))) (e_minDa rfl hr (by rfl) T.n_min (a_cons (e_var 4 (pv 4)) a_nil)) e_non) (pv 2) (pv 3) (pv 2) (pv 3) (fun _ _ => rfl))))))
theorem ok_least_steps (T : Tx w K mg) : ∀ j : Nat, Fn P w K mg base CX0 (4 + j) T.f_least_steps T.fd_least_steps ["wanted", "count", "known"] (liftM K 3 (NestedKey.hash w) (fs_least_steps j))
  | 0 => fn_neverM rfl fun _ _ _ h => h
  | j + 1 => fn_memM T.F_least_steps sc_least_steps (by decide) (b_least_steps (NestedKey.hash w) (fs_least_steps j)) (fun _ _ _ _ _ _ hr hgd => d_least_steps T (fs_least_steps j) (ok_least_steps T j) hr hgd) (p_least_steps (NestedKey.hash w) j)
end
def b_shortest (HS : NestedKey → Int) : DS :=
  (dSeq (dPar3D HS 1 2 3 (dCall 1 fs_last_width (dCons (dVar 0) dNil)) (dCall 1 fs_thresholds (dCons (dVar 0) dNil)))
  (dSeq (dAsg (dCall 1 fs_trimmed (dCons (dVar 0) dNil)) (dN 4))
  (dSeq (dFor (dRange2 (dC (.int 1)) (dCB cLen (dCons (dVar 4) dNil))) (dN 5)
    (dSeq (dAsg (dCallM HS 2 (fs_least_steps 12) (dVar 3) (dVar 5)) (dN 6))
  (dIfS (dAndT (dTest (dIsN true (dVar 6))) (dTest (dBin oLe (dBin fAdd (dIx (dIx (dVar 6) (dC (.int 0))) (dC (.int 0))) (dVar 1)) (dC (.int 100)))))
    (dRet (dCall 2 fs_widened (dCons (dVar 6) (dCons (dVar 1) dNil))))
    dNext)))
  (dRet (dCall 2 fs_widened (dCons (dCallM HS 2 (fs_least_steps 12) (dVar 3) (dCB cLen (dCons (dVar 4) dNil))) (dCons (dVar 1) dNil)))))))
def hdW (s : List (Int × Ru)) : Int := (s.headD (0, .dn)).1
def shF (W : Wt) (w : Int) (n : Nat) : List Nat → Option (List (Int × Ru))
  | [] => (LS n W).map fun s => widI s w
  | k :: ks => match LS k W with
    | none => shF W w n ks
    | some s => if hdW s + w ≤ 100 then some (widI s w) else shF W w n ks
def shI (c : List (Int × Ru)) : Option (List (Int × Ru)) := shF (wtI c) (chT c).1 (trimI none c).length (List.range' 1 ((trimI none c).length - 1))
structure ShK (c : List (Int × Ru)) (S : List (Wt × Nat)) (m : Nat) : Prop where
  wk : WK m (wtI c)
  hm : m ≤ 190
  clo : Clo S
  len : S.length ≤ 16000000
  has : ∀ k, 1 ≤ k → k ≤ (trimI none c).length → (wtI c, k) ∈ S
def fs_shortest : FSp := fun rs fu post => ∃ (c s : List (Int × Ru)) (S : List (Wt × Nat)) (m : Nat), rs = [.val (chD c)] ∧ fu = none ∧ Chn1 c ∧ ShK c S m ∧ shI c = some s ∧ post (.val (chD s)) fu
theorem trim_le : ∀ (c : List (Int × Ru)) (l : Option Int), (trimI l c).length ≤ c.length
  | [], l => by cases l <;> exact Nat.le_refl _
  | s :: c, none => by
    rw [trimI, List.length_cons, List.length_cons]
    have := trim_le c (some s.1)
    omega
  | s :: c, some l => by
    rw [trimI]
    split
    · rw [List.length_cons, List.length_cons]
      have := trim_le c (some s.1)
      omega
    · have := trim_le c (some l)
      rw [List.length_cons]
      omega
theorem prD_wD (c : List (Int × Ru)) : Z.prD (chT c).1 (chT c).2 = wD (wtI c) := by
  unfold Z.prD wD wtI
  by_cases e : (chT c).1 = 1
  · rw [if_pos e, if_pos e]; rfl
  · rw [if_neg e, if_neg e]; rfl
def shB (HS : NestedKey → Int) : DS := (dSeq (dAsg (dCallM HS 2 (fs_least_steps 12) (dVar 3) (dVar 5)) (dN 6))
  (dIfS (dAndT (dTest (dIsN true (dVar 6))) (dTest (dBin oLe (dBin fAdd (dIx (dIx (dVar 6) (dC (.int 0))) (dC (.int 0))) (dVar 1)) (dC (.int 100)))))
    (dRet (dCall 2 fs_widened (dCons (dVar 6) (dCons (dVar 1) dNil))))
    dNext))
def stSH (HS : NestedKey → Int) (S : List (Wt × Nat)) (c : List (Int × Ru)) (W : Wt) (w : Int) (f : Da) (u5 u6 : Option Da) : Gs :=
  ⟨[some (.val (chD c)), some (.val (.int w)), some (.mem false HS (gdM S)), some (.val (wD W)), some (.val f), vS u5, vS u6], none, true⟩
theorem p_shB {D : DEnds} {HS : NestedKey → Int} {S : List (Wt × Nat)} {c s : List (Int × Ru)} {W : Wt} {w : Int} {f : Da} {m n : Nat} (hW : WK m W) (hm : m ≤ 190) (hC : Clo S) (hz : S.length ≤ 16000000) (hrt : ∀ g : Gs, g.fu = none → D.rt (.val (chD s)) g) :
    ∀ {ks : List Nat} {u5 u6 : Option Da}, (∀ k ∈ ks, 1 ≤ k ∧ k ≤ 12 ∧ (W, k) ∈ S) → shF W w n ks = some s →
      (∀ u5 u6, ((LS n W).map fun s => widI s w) = some s → D.nx (stSH HS S c W w f u5 u6)) →
      forD (dN 5) (shB HS) (ks.map fun k : Nat => PyData.int k) D (stSH HS S c W w f u5 u6)
  | [], u5, u6, _, h, hn => hn u5 u6 h
  | k :: ks, u5, u6, hk, h, hn => by
    obtain ⟨k1, k2, k3⟩ := hk k (List.mem_cons_self ..)
    obtain ⟨k, rfl⟩ : ∃ j, k = j + 1 := ⟨k - 1, by omega⟩
    show dN 5 (.val (.int ((k + 1 : Nat) : Int))) _ _
    unfold stSH
    simp only [↓dMHit,↓dMPutRet,↓dCallM,↓dPar3D,↓dMaxK,↓cMinDa,↓entM,↓dSeq,↓dAsg,↓dSetL,↓dNext,↓dIfS,↓dRet,↓dRetL,↓dDrop,↓dNever,↓dBrk,↓dAug,↓dPar,↓dParL,↓dApp,↓dVar,↓dC,↓dBin,↓fI,↓fI0,↓fAdd,↓fEq,↓fNe,↓fIn,↓dTest,↓dAndT,↓dOrT,↓dNotT,↓dAndV,↓dOrV,↓dNotV,↓dIf,↓dNeg,↓dIsN,↓dChain,↓dNil,↓dCons,↓dTup,↓dLst,↓dFz,↓valsD,↓dIx,↓dCall,↓dCallL,↓hasSrc,↓rrv,↓dN,↓dT,↓dTn,↓dTc,↓rsv,↓Gs.set,↓dFor,↓dItems,↓dRange1,↓dRange2,↓dZip,↓dLc,↓dCB,↓cLen,↓cAll,↓cTuple,↓cInt1,↓cInt2,↓dIsi,↓dBits,↓dCallS,↓oSub,↓oAddI,↓oMul,↓oDiv,↓oMod,↓oShl,↓oPow,↓oLt,↓oLe,↓oGt,↓oGe,↓oAbs,↓oMax,↓oMin,↓cMinL,↓fInD,↓dSl,↓oNo,↓oSo,↓dBy,↓fAddT,↓dSlT,↓dParR,↓dEnum,↓dRevL,↓gAs,↓Gs.unset,↓rtN,↓lamF,↓gLam,↓plainO,↓dGIx,↓dIxO,↓Z.isNon,shB,ent,svOf,List.map_cons,List.map_nil,List.cons_append,List.nil_append,List.append_nil,List.replicate,List.length_cons,List.length_nil,List.getElem?_cons_zero,List.getElem?_cons_succ,List.getElem?_nil,List.set_cons_zero,List.set_cons_succ,Option.map_some,Option.map_none,Option.isNone_some,Option.isNone_none,forall_const,true_implies,false_implies,and_true,true_and,Bool.true_eq_false,Bool.false_eq_true,reduceCtorEq,noOwn,wipeS,hide,fuN_self,lcD,dYes,Nat.zero_add,Nat.reduceAdd,Nat.reduceLeDiff,Nat.reduceSub,atI_0,atI_1,atI_2,atI_3,atI_4,atI_5,Int.one_mul,eqv_ii,eqv_ss,eqv_num,shaped_int,shaped_num,shaped_none,shaped_ru,flat_str,flat_int,flat_none,List.all_cons,List.all_nil,Bool.and_true,decide_eq_true_eq,decide_eq_false_iff_not,Bool.not_eq_true',Bool.not_eq_false',Decidable.not_not,↓reduceIte,Bool.false_eq_true,Int.reduceLT,eqv_strs,pick_0,pick_01,pick_10,pick_012,pick_021,pick_102,pick_120,pick_201,pick_210]
    refine ⟨false, gdM S, ⟨rfl, by cases u6 <;> rfl⟩, W, k, m, S, rfl, (show k ≤ 11 by omega), by omega, hW, hm, k3, hC, hz, rfl, _, rfl, ?_⟩
    have ih := fun u5 u6 h => p_shB (D := D) (HS := HS) (c := c) (f := f) (n := n) (w := w) (s := s) hW hm hC hz hrt (ks := ks) (u5 := u5) (u6 := u6) (fun j hj => hk j (List.mem_cons_of_mem _ hj)) h hn
    unfold shF at h
    cases q : LS (k + 1) W with
    | none =>
      rw [q] at h
      simp only [↓dMHit,↓dMPutRet,↓dCallM,↓dPar3D,↓dMaxK,↓cMinDa,↓entM,↓dSeq,↓dAsg,↓dSetL,↓dNext,↓dIfS,↓dRet,↓dRetL,↓dDrop,↓dNever,↓dBrk,↓dAug,↓dPar,↓dParL,↓dApp,↓dVar,↓dC,↓dBin,↓fI,↓fI0,↓fAdd,↓fEq,↓fNe,↓fIn,↓dTest,↓dAndT,↓dOrT,↓dNotT,↓dAndV,↓dOrV,↓dNotV,↓dIf,↓dNeg,↓dIsN,↓dChain,↓dNil,↓dCons,↓dTup,↓dLst,↓dFz,↓valsD,↓dIx,↓dCall,↓dCallL,↓hasSrc,↓rrv,↓dN,↓dT,↓dTn,↓dTc,↓rsv,↓Gs.set,↓dFor,↓dItems,↓dRange1,↓dRange2,↓dZip,↓dLc,↓dCB,↓cLen,↓cAll,↓cTuple,↓cInt1,↓cInt2,↓dIsi,↓dBits,↓dCallS,↓oSub,↓oAddI,↓oMul,↓oDiv,↓oMod,↓oShl,↓oPow,↓oLt,↓oLe,↓oGt,↓oGe,↓oAbs,↓oMax,↓oMin,↓cMinL,↓fInD,↓dSl,↓oNo,↓oSo,↓dBy,↓fAddT,↓dSlT,↓dParR,↓dEnum,↓dRevL,↓gAs,↓Gs.unset,↓rtN,↓lamF,↓gLam,↓plainO,↓dGIx,↓dIxO,↓Z.isNon,resD,Z.isNon,ent,svOf,List.map_cons,List.map_nil,List.cons_append,List.nil_append,List.append_nil,List.replicate,List.length_cons,List.length_nil,List.getElem?_cons_zero,List.getElem?_cons_succ,List.getElem?_nil,List.set_cons_zero,List.set_cons_succ,Option.map_some,Option.map_none,Option.isNone_some,Option.isNone_none,forall_const,true_implies,false_implies,and_true,true_and,Bool.true_eq_false,Bool.false_eq_true,reduceCtorEq,noOwn,wipeS,hide,fuN_self,lcD,dYes,Nat.zero_add,Nat.reduceAdd,Nat.reduceLeDiff,Nat.reduceSub,atI_0,atI_1,atI_2,atI_3,atI_4,atI_5,Int.one_mul,eqv_ii,eqv_ss,eqv_num,shaped_int,shaped_num,shaped_none,shaped_ru,flat_str,flat_int,flat_none,List.all_cons,List.all_nil,Bool.and_true,decide_eq_true_eq,decide_eq_false_iff_not,Bool.not_eq_true',Bool.not_eq_false',Decidable.not_not,↓reduceIte,Bool.false_eq_true,Int.reduceLT,eqv_strs,pick_0,pick_01,pick_10,pick_012,pick_021,pick_102,pick_120,pick_201,pick_210]
      exact ih (some (.int ((k + 1 : Nat) : Int))) (some .none) h
    | some t =>
      rw [q] at h
      have tl := ls_len q
      cases t with
      | nil => cases tl
      | cons p t =>
        have h : (if p.1 + w ≤ 100 then some (widI (p :: t) w) else shF W w n ks) = some s := h
        have er : resD (some (p :: t)) = .tuple (.tuple [.int p.1, .str p.2.s] :: t.map stD) := rfl
        rw [er]
        simp only [↓dMHit,↓dMPutRet,↓dCallM,↓dPar3D,↓dMaxK,↓cMinDa,↓entM,↓dSeq,↓dAsg,↓dSetL,↓dNext,↓dIfS,↓dRet,↓dRetL,↓dDrop,↓dNever,↓dBrk,↓dAug,↓dPar,↓dParL,↓dApp,↓dVar,↓dC,↓dBin,↓fI,↓fI0,↓fAdd,↓fEq,↓fNe,↓fIn,↓dTest,↓dAndT,↓dOrT,↓dNotT,↓dAndV,↓dOrV,↓dNotV,↓dIf,↓dNeg,↓dIsN,↓dChain,↓dNil,↓dCons,↓dTup,↓dLst,↓dFz,↓valsD,↓dIx,↓dCall,↓dCallL,↓hasSrc,↓rrv,↓dN,↓dT,↓dTn,↓dTc,↓rsv,↓Gs.set,↓dFor,↓dItems,↓dRange1,↓dRange2,↓dZip,↓dLc,↓dCB,↓cLen,↓cAll,↓cTuple,↓cInt1,↓cInt2,↓dIsi,↓dBits,↓dCallS,↓oSub,↓oAddI,↓oMul,↓oDiv,↓oMod,↓oShl,↓oPow,↓oLt,↓oLe,↓oGt,↓oGe,↓oAbs,↓oMax,↓oMin,↓cMinL,↓fInD,↓dSl,↓oNo,↓oSo,↓dBy,↓fAddT,↓dSlT,↓dParR,↓dEnum,↓dRevL,↓gAs,↓Gs.unset,↓rtN,↓lamF,↓gLam,↓plainO,↓dGIx,↓dIxO,↓Z.isNon,Z.isNon,fs_widened,ent,svOf,List.map_cons,List.map_nil,List.cons_append,List.nil_append,List.append_nil,List.replicate,List.length_cons,List.length_nil,List.getElem?_cons_zero,List.getElem?_cons_succ,List.getElem?_nil,List.set_cons_zero,List.set_cons_succ,Option.map_some,Option.map_none,Option.isNone_some,Option.isNone_none,forall_const,true_implies,false_implies,and_true,true_and,Bool.true_eq_false,Bool.false_eq_true,reduceCtorEq,noOwn,wipeS,hide,fuN_self,lcD,dYes,Nat.zero_add,Nat.reduceAdd,Nat.reduceLeDiff,Nat.reduceSub,atI_0,atI_1,atI_2,atI_3,atI_4,atI_5,Int.one_mul,eqv_ii,eqv_ss,eqv_num,shaped_int,shaped_num,shaped_none,shaped_ru,flat_str,flat_int,flat_none,List.all_cons,List.all_nil,Bool.and_true,decide_eq_true_eq,decide_eq_false_iff_not,Bool.not_eq_true',Bool.not_eq_false',Decidable.not_not,↓reduceIte,Bool.false_eq_true,Int.reduceLT,eqv_strs,pick_0,pick_01,pick_10,pick_012,pick_021,pick_102,pick_120,pick_201,pick_210]
        refine ⟨fun z => ⟨p :: t, w, rfl, by rw [tl]; omega, ?_⟩, fun z => ?_⟩
        · rw [if_pos z] at h
          obtain rfl := Option.some.inj h
          exact hrt _ rfl
        · rw [if_neg z] at h
          exact ih (some (.int ((k + 1 : Nat) : Int))) (some (chD (p :: t))) h
theorem p_shortest (HS : NestedKey → Int) (rs : List Rv) (fu : Option Nat) (post : Rr → Option Nat → Prop) (hl : rs.length = 1) (h : fs_shortest rs fu post) : b_shortest HS ⟨fun g => post (.val .none) g.fu, fun r g => post r g.fu, fun _ => False, fun _ => False⟩ (ent N_shortest rs fu) := by
  obtain ⟨c, s, S, m, rfl, rfl, hc, k, hs, h⟩ := h
  simp only [↓dMHit,↓dMPutRet,↓dCallM,↓dPar3D,↓dMaxK,↓cMinDa,↓entM,↓dSeq,↓dAsg,↓dSetL,↓dNext,↓dIfS,↓dRet,↓dRetL,↓dDrop,↓dNever,↓dBrk,↓dAug,↓dPar,↓dParL,↓dApp,↓dVar,↓dC,↓dBin,↓fI,↓fI0,↓fAdd,↓fEq,↓fNe,↓fIn,↓dTest,↓dAndT,↓dOrT,↓dNotT,↓dAndV,↓dOrV,↓dNotV,↓dIf,↓dNeg,↓dIsN,↓dChain,↓dNil,↓dCons,↓dTup,↓dLst,↓dFz,↓valsD,↓dIx,↓dCall,↓dCallL,↓hasSrc,↓rrv,↓dN,↓dT,↓dTn,↓dTc,↓rsv,↓Gs.set,↓dFor,↓dItems,↓dRange1,↓dRange2,↓dZip,↓dLc,↓dCB,↓cLen,↓cAll,↓cTuple,↓cInt1,↓cInt2,↓dIsi,↓dBits,↓dCallS,↓oSub,↓oAddI,↓oMul,↓oDiv,↓oMod,↓oShl,↓oPow,↓oLt,↓oLe,↓oGt,↓oGe,↓oAbs,↓oMax,↓oMin,↓cMinL,↓fInD,↓dSl,↓oNo,↓oSo,↓dBy,↓fAddT,↓dSlT,↓dParR,↓dEnum,↓dRevL,↓gAs,↓Gs.unset,↓rtN,↓lamF,↓gLam,↓plainO,↓dGIx,↓dIxO,↓Z.isNon,b_shortest,fs_last_width,fs_thresholds,fs_trimmed,ent,svOf,List.map_cons,List.map_nil,List.cons_append,List.nil_append,List.append_nil,List.replicate,List.length_cons,List.length_nil,List.getElem?_cons_zero,List.getElem?_cons_succ,List.getElem?_nil,List.set_cons_zero,List.set_cons_succ,Option.map_some,Option.map_none,Option.isNone_some,Option.isNone_none,forall_const,true_implies,false_implies,and_true,true_and,Bool.true_eq_false,Bool.false_eq_true,reduceCtorEq,noOwn,wipeS,hide,fuN_self,lcD,dYes,Nat.zero_add,Nat.reduceAdd,Nat.reduceLeDiff,Nat.reduceSub,atI_0,atI_1,atI_2,atI_3,atI_4,atI_5,Int.one_mul,eqv_ii,eqv_ss,eqv_num,shaped_int,shaped_num,shaped_none,shaped_ru,flat_str,flat_int,flat_none,List.all_cons,List.all_nil,Bool.and_true,decide_eq_true_eq,decide_eq_false_iff_not,Bool.not_eq_true',Bool.not_eq_false',Decidable.not_not,↓reduceIte,Bool.false_eq_true,Int.reduceLT,eqv_strs,pick_0,pick_01,pick_10,pick_012,pick_021,pick_102,pick_120,pick_201,pick_210]
  refine ⟨c, rfl, hc, rfl, c, rfl, hc, rfl, gdM S, c, rfl, hc, ?_⟩
  have tl := trim_le c none
  have hl := hc.len
  have hle : (trimI none c).length ≤ 12 := by omega
  rw [prD_wD]
  unfold chD
  simp only [↓dMHit,↓dMPutRet,↓dCallM,↓dPar3D,↓dMaxK,↓cMinDa,↓entM,↓dSeq,↓dAsg,↓dSetL,↓dNext,↓dIfS,↓dRet,↓dRetL,↓dDrop,↓dNever,↓dBrk,↓dAug,↓dPar,↓dParL,↓dApp,↓dVar,↓dC,↓dBin,↓fI,↓fI0,↓fAdd,↓fEq,↓fNe,↓fIn,↓dTest,↓dAndT,↓dOrT,↓dNotT,↓dAndV,↓dOrV,↓dNotV,↓dIf,↓dNeg,↓dIsN,↓dChain,↓dNil,↓dCons,↓dTup,↓dLst,↓dFz,↓valsD,↓dIx,↓dCall,↓dCallL,↓hasSrc,↓rrv,↓dN,↓dT,↓dTn,↓dTc,↓rsv,↓Gs.set,↓dFor,↓dItems,↓dRange1,↓dRange2,↓dZip,↓dLc,↓dCB,↓cLen,↓cAll,↓cTuple,↓cInt1,↓cInt2,↓dIsi,↓dBits,↓dCallS,↓oSub,↓oAddI,↓oMul,↓oDiv,↓oMod,↓oShl,↓oPow,↓oLt,↓oLe,↓oGt,↓oGe,↓oAbs,↓oMax,↓oMin,↓cMinL,↓fInD,↓dSl,↓oNo,↓oSo,↓dBy,↓fAddT,↓dSlT,↓dParR,↓dEnum,↓dRevL,↓gAs,↓Gs.unset,↓rtN,↓lamF,↓gLam,↓plainO,↓dGIx,↓dIxO,↓Z.isNon,ent,svOf,List.map_cons,List.map_nil,List.cons_append,List.nil_append,List.append_nil,List.replicate,List.length_cons,List.length_nil,List.getElem?_cons_zero,List.getElem?_cons_succ,List.getElem?_nil,List.set_cons_zero,List.set_cons_succ,Option.map_some,Option.map_none,Option.isNone_some,Option.isNone_none,forall_const,true_implies,false_implies,and_true,true_and,Bool.true_eq_false,Bool.false_eq_true,reduceCtorEq,noOwn,wipeS,hide,fuN_self,lcD,dYes,Nat.zero_add,Nat.reduceAdd,Nat.reduceLeDiff,Nat.reduceSub,atI_0,atI_1,atI_2,atI_3,atI_4,atI_5,Int.one_mul,eqv_ii,eqv_ss,eqv_num,shaped_int,shaped_num,shaped_none,shaped_ru,flat_str,flat_int,flat_none,List.all_cons,List.all_nil,Bool.and_true,decide_eq_true_eq,decide_eq_false_iff_not,Bool.not_eq_true',Bool.not_eq_false',Decidable.not_not,↓reduceIte,Bool.false_eq_true,Int.reduceLT,eqv_strs,pick_0,pick_01,pick_10,pick_012,pick_021,pick_102,pick_120,pick_201,pick_210]
  refine ⟨⟨by decide, by decide, by omega, by simp; omega⟩, ?_⟩
  have e1 : (((trimI none c).map stD).length : Int) - 1 = (((trimI none c).length - 1 : Nat) : Int) := by
    have : 1 ≤ (trimI none c).length := by
      cases c with
      | nil => exact absurd rfl hc.ne
      | cons x c => rw [trimI, List.length_cons]; omega
    rw [List.length_map]
    omega
  rw [e1, Int.toNat_natCast, range_rg]
  refine p_shB (HS := HS) (S := S) (c := c) (f := chD (trimI none c)) (n := (trimI none c).length) (u5 := none) (u6 := none) k.wk k.hm k.clo k.len (fun g hg => ?_) (fun j hj => ?_) hs (fun u5 u6 hs2 => ?_)
  · show post _ g.fu
    rw [hg]
    exact h
  · have := List.mem_range'_1.mp hj
    exact ⟨by omega, by omega, k.has j (by omega) (by omega)⟩
  · unfold stSH
    have ef : chD (trimI none c) = .tuple ((trimI none c).map stD) := rfl
    rw [ef]
    simp only [↓dMHit,↓dMPutRet,↓dCallM,↓dPar3D,↓dMaxK,↓cMinDa,↓entM,↓dSeq,↓dAsg,↓dSetL,↓dNext,↓dIfS,↓dRet,↓dRetL,↓dDrop,↓dNever,↓dBrk,↓dAug,↓dPar,↓dParL,↓dApp,↓dVar,↓dC,↓dBin,↓fI,↓fI0,↓fAdd,↓fEq,↓fNe,↓fIn,↓dTest,↓dAndT,↓dOrT,↓dNotT,↓dAndV,↓dOrV,↓dNotV,↓dIf,↓dNeg,↓dIsN,↓dChain,↓dNil,↓dCons,↓dTup,↓dLst,↓dFz,↓valsD,↓dIx,↓dCall,↓dCallL,↓hasSrc,↓rrv,↓dN,↓dT,↓dTn,↓dTc,↓rsv,↓Gs.set,↓dFor,↓dItems,↓dRange1,↓dRange2,↓dZip,↓dLc,↓dCB,↓cLen,↓cAll,↓cTuple,↓cInt1,↓cInt2,↓dIsi,↓dBits,↓dCallS,↓oSub,↓oAddI,↓oMul,↓oDiv,↓oMod,↓oShl,↓oPow,↓oLt,↓oLe,↓oGt,↓oGe,↓oAbs,↓oMax,↓oMin,↓cMinL,↓fInD,↓dSl,↓oNo,↓oSo,↓dBy,↓fAddT,↓dSlT,↓dParR,↓dEnum,↓dRevL,↓gAs,↓Gs.unset,↓rtN,↓lamF,↓gLam,↓plainO,↓dGIx,↓dIxO,↓Z.isNon,fs_widened,ent,svOf,List.map_cons,List.map_nil,List.cons_append,List.nil_append,List.append_nil,List.replicate,List.length_cons,List.length_nil,List.getElem?_cons_zero,List.getElem?_cons_succ,List.getElem?_nil,List.set_cons_zero,List.set_cons_succ,Option.map_some,Option.map_none,Option.isNone_some,Option.isNone_none,forall_const,true_implies,false_implies,and_true,true_and,Bool.true_eq_false,Bool.false_eq_true,reduceCtorEq,noOwn,wipeS,hide,fuN_self,lcD,dYes,Nat.zero_add,Nat.reduceAdd,Nat.reduceLeDiff,Nat.reduceSub,atI_0,atI_1,atI_2,atI_3,atI_4,atI_5,Int.one_mul,eqv_ii,eqv_ss,eqv_num,shaped_int,shaped_num,shaped_none,shaped_ru,flat_str,flat_int,flat_none,List.all_cons,List.all_nil,Bool.and_true,decide_eq_true_eq,decide_eq_false_iff_not,Bool.not_eq_true',Bool.not_eq_false',Decidable.not_not,↓reduceIte,Bool.false_eq_true,Int.reduceLT,eqv_strs,pick_0,pick_01,pick_10,pick_012,pick_021,pick_102,pick_120,pick_201,pick_210]
    rw [List.length_map]
    obtain ⟨n, hn⟩ : ∃ n, (trimI none c).length = n + 1 := by
      refine ⟨(trimI none c).length - 1, ?_⟩
      cases c with
      | nil => exact absurd rfl hc.ne
      | cons x c => rw [trimI, List.length_cons]; omega
    rw [hn] at hs2 ⊢
    refine ⟨false, gdM S, ⟨rfl, by cases u5 <;> cases u6 <;> rfl⟩, wtI c, n, m, S, rfl, (show n ≤ 11 by omega), by omega, k.wk, k.hm, k.has (n + 1) (by omega) (by omega), k.clo, k.len, rfl, _, rfl, ?_⟩
    cases q : LS (n + 1) (wtI c) with
    | none => rw [q] at hs2; cases hs2
    | some t =>
      rw [q] at hs2
      obtain rfl := Option.some.inj hs2
      exact ⟨t, (chT c).1, rfl, by rw [ls_len q]; omega, h⟩
section
variable {P : Program} {w : World} {K : Fg} {mg : Str → Option Value} {base : Heap}
theorem d_shortest (T : Tx w K mg) {cdv : Value} {A : Around} {outer : List Env} {s : Shared} {H : Hp} {E : XK} (hr : Room 16 (A.deeper (envOfC "shortest" (defScope st_shortest) s.heap.objs.size T.f_shortest cdv))) (hgd : (A.deeper (envOfC "shortest" (defScope st_shortest) s.heap.objs.size T.f_shortest cdv)).guards = some []) :
    PSs (cxOf CX0 P w K mg base N_shortest "shortest" (defScope st_shortest) T.f_shortest cdv A outer s H E).nox (defBody st_shortest) (upS K W0 (b_shortest (NestedKey.hash w))) :=
  (ss_cons (s_par3D (i := 1) (j := 2) (l := 3) rfl sc_shortest.nd rfl rfl rfl (by decide) (by decide) (by decide) rfl rfl rfl (e_call (ok_last_width T) (hr.mono (by decide)) hgd (by rfl) T.g_last_width T.F_last_width.kp T.b_last_width pass0 (a_cons (e_var 0 (pv 0)) a_nil)) (e_call (ok_thresholds T) (hr.mono (by decide)) hgd (by rfl) T.g_thresholds T.F_thresholds.kp T.b_thresholds pass0 (a_cons (e_var 0 (pv 0)) a_nil)))
    (ss_cons (s_set (i := 4) sc_shortest.nd rfl (.inl rfl) (e_call (ok_trimmed T) (hr.mono (by decide)) hgd (by rfl) T.g_trimmed T.F_trimmed.kp T.b_trimmed pass0 (a_cons (e_var 0 (pv 0)) a_nil)))
    (ss_cons (s_for PassesOwn.never rfl (i_range2 (by rfl) T.n_range e_int (e_len (by rfl) T.n_len (a_cons (e_var 4 (pv 4)) a_nil))) (g_name (pg_name (i := 5) sc_shortest.nd rfl (.inl rfl))) (ss_cons (s_set (i := 6) sc_shortest.nd rfl (.inl rfl) (e_callM (ok_least_steps T 12) (hr.mono (by decide)) hgd (by rfl) T.g_least_steps T.F_least_steps.kp T.b_least_steps pass0 (e_var 3 (pv 3)) (e_var 5 (pv 5)) (pv 2)))
    (ss_one (s_if (PW.pt (w_and (t_notN (e_var 6 (pv 6))) (w_and1 (t_le (e_add (e_ix (e_ix (e_var 6 (pv 6)) e_int) e_int) (e_var 1 (pv 1))) (e_glob (by rfl) T.c_MOST_WIDTH T.v_MOST_WIDTH T.r_MOST_WIDTH))))) (ss_one (s_ret (e_call (ok_widened T) (hr.mono (by decide)) hgd (by rfl) T.g_widened T.F_widened.kp T.b_widened pass0 (a_cons (e_var 6 (pv 6)) (a_cons (e_var 1 (pv 1)) a_nil))))) ss_nil))))
    (ss_one (s_ret (e_call (ok_widened T) (hr.mono (by decide)) hgd (by rfl) T.g_widened T.F_widened.kp T.b_widened pass0 (a_cons (e_callM (ok_least_steps T 12) (hr.mono (by decide)) hgd (by rfl) T.g_least_steps T.F_least_steps.kp T.b_least_steps pass0 (e_var 3 (pv 3)) (e_len (by rfl) T.n_len (a_cons (e_var 4 (pv 4)) a_nil)) (pv 2)) (a_cons (e_var 1 (pv 1)) a_nil))))))))
theorem ok_shortest (T : Tx w K mg) : Fn P w K mg base CX0 17 T.f_shortest T.fd_shortest ["chain"] (lift K 1 fs_shortest) := fn_data T.F_shortest sc_shortest (b_shortest (NestedKey.hash w)) (fun _ _ _ _ _ _ hr hgd => d_shortest T hr hgd) (p_shortest (NestedKey.hash w))
end
def b__law_source : DS :=
  (dSeq (dAsg (dIf (dTest (dBin oLt (dVar 1) (dCB cLen (dCons (dVar 0) dNil)))) (dIx (dVar 0) (dVar 1)) (dC (.int 0))) (dN 2))
  (dSeq (dAsg (dIf (dTest (dBin oGe (dCB oAbs (dCons (dVar 2) dNil)) (dBin oPow (dC (.int 10)) (dC (.int 18))))) (dBin oMod (dCB oAbs (dCons (dVar 2) dNil)) (dBin oPow (dBin oPow (dC (.int 10)) (dC (.int 60))) (dC (.int 4)))) (dC (.int 0))) (dN 3))
  (dRetL (dLst (dCons (dVar 3) (dCons (dBin oMod (dBin fAdd (dBin fAdd (dBin oMul (dBin oMod (dVar 2) (dC (.int 2305843009213693951))) (dC (.int 1000003))) (dBin oMul (dBin oMul (dC (.int 7919)) (dVar 1)) (dVar 1))) (dC (.int 97))) (dC (.int 2305843009213693921))) (dCons (dC (.int 0)) dNil)))))))
def fs__law_source : FSp := fun rs fu post => ∃ (ns : List Int) (k : Int), rs = [.scr ns, .val (.int k)] ∧ 0 ≤ k ∧ k < 1000000 ∧ ∀ x y : Int, 0 ≤ x → x < 2 ^ 1000 → 0 ≤ y → y < modS → post (.own [.int x, .int y, .int 0]) fu
theorem atI_nn {ns : List Int} {k : Int} (h0 : 0 ≤ k) (h : k < ns.length) : ∃ z, atI ns k = some z := by
  unfold atI ixN
  rw [if_pos h0, if_pos h]
  exact ⟨_, List.getElem?_eq_getElem (show k.toNat < ns.length by omega)⟩
theorem pw1 : CPowX 10 18 := ⟨by decide, by decide +kernel⟩
theorem pw2 : CPowX 10 60 := ⟨by decide, by decide +kernel⟩
theorem pw3 : CPowX (10 ^ Int.toNat 60) 4 := ⟨by decide, by decide +kernel⟩
theorem pw4 : (0 : Int) < (10 ^ Int.toNat 60) ^ Int.toNat 4 := by decide +kernel
theorem pw5 : ((10 : Int) ^ Int.toNat 60) ^ Int.toNat 4 ≤ 2 ^ 1000 := by decide +kernel
theorem src_fin {fu : Option Nat} {post : Rr → Option Nat → Prop} {z k : Int} (h1 : 0 ≤ k) (h2 : k < 1000000) (h : ∀ x y : Int, 0 ≤ x → x < 2 ^ 1000 → 0 ≤ y → y < modS → post (.own [.int x, .int y, .int 0]) fu) :
    CMulX (z % 2305843009213693951) 1000003 ∧ CMulX 7919 k ∧ CMulX (7919 * k) k ∧ ∀ x : Int, 0 ≤ x → x < 2 ^ 1000 → post (.own [.int x, .int ((z % 2305843009213693951 * 1000003 + 7919 * k * k + 97) % 2305843009213693921), .int 0]) fu := by
  have a1 := Int.emod_nonneg z (show (2305843009213693951 : Int) ≠ 0 by decide)
  have a2 := Int.emod_lt_of_pos z (show (0 : Int) < 2305843009213693951 by decide)
  refine ⟨mulX 64 64 (Bn.small (by omega) (by omega) (by decide)) (Bn.small (by decide) (by decide) (by decide)) (by decide), mulX 64 64 (Bn.small (by decide) (by decide) (by decide)) (Bn.small (by omega) (by omega) (by decide)) (by decide),
    mulX 64 64 (Bn.small (by omega) (by omega) (by decide)) (Bn.small (by omega) (by omega) (by decide)) (by decide), fun x x0 x1 => h x _ x0 x1 (Int.emod_nonneg _ (by decide)) (Int.emod_lt_of_pos _ (by decide))⟩
/-- the body behind its first statement -/
def srcT : DS := (dSeq (dAsg (dIf (dTest (dBin oGe (dCB oAbs (dCons (dVar 2) dNil)) (dBin oPow (dC (.int 10)) (dC (.int 18))))) (dBin oMod (dCB oAbs (dCons (dVar 2) dNil)) (dBin oPow (dBin oPow (dC (.int 10)) (dC (.int 60))) (dC (.int 4)))) (dC (.int 0))) (dN 3))
  (dRetL (dLst (dCons (dVar 3) (dCons (dBin oMod (dBin fAdd (dBin fAdd (dBin oMul (dBin oMod (dVar 2) (dC (.int 2305843009213693951))) (dC (.int 1000003))) (dBin oMul (dBin oMul (dC (.int 7919)) (dVar 1)) (dVar 1))) (dC (.int 97))) (dC (.int 2305843009213693921))) (dCons (dC (.int 0)) dNil))))))
def srcB : DS := (dSeq (dAsg (dIf (dTest (dBin oLt (dVar 1) (dCB cLen (dCons (dVar 0) dNil)))) (dIx (dVar 0) (dVar 1)) (dC (.int 0))) (dN 2)) srcT)
theorem p_srcT (z : Int) (fu : Option Nat) (post : Rr → Option Nat → Prop) {ns : List Int} {k : Int} (h1 : 0 ≤ k) (h2 : k < 1000000) (h : ∀ x y : Int, 0 ≤ x → x < 2 ^ 1000 → 0 ≤ y → y < modS → post (.own [.int x, .int y, .int 0]) fu) : srcT ⟨fun g => post (.val .none) g.fu, fun r g => post r g.fu, fun _ => False, fun _ => False⟩ ⟨[some (.scr ns), some (.val (.int k)), some (.val (.int z)), none], fu, fu.isNone⟩ := by
  have m0 : ∀ a : Int, 0 ≤ a % (10 ^ Int.toNat 60) ^ Int.toNat 4 ∧ a % (10 ^ Int.toNat 60) ^ Int.toNat 4 < 2 ^ 1000 := fun a => ⟨Int.emod_nonneg _ (Int.ne_of_gt pw4), Int.lt_of_lt_of_le (Int.emod_lt_of_pos _ pw4) pw5⟩
  have p0 : (0 : Int) < 2 ^ 1000 := pow2_pos _
  simp only [↓dMHit,↓dMPutRet,↓dCallM,↓dPar3D,↓dMaxK,↓cMinDa,↓entM,↓dSeq,↓dAsg,↓dSetL,↓dNext,↓dIfS,↓dRet,↓dRetL,↓dDrop,↓dNever,↓dBrk,↓dAug,↓dPar,↓dParL,↓dApp,↓dVar,↓dC,↓dBin,↓fI,↓fI0,↓fAdd,↓fEq,↓fNe,↓fIn,↓dTest,↓dAndT,↓dOrT,↓dNotT,↓dAndV,↓dOrV,↓dNotV,↓dIf,↓dNeg,↓dIsN,↓dChain,↓dNil,↓dCons,↓dTup,↓dLst,↓dFz,↓valsD,↓dIx,↓dCall,↓dCallL,↓hasSrc,↓rrv,↓dN,↓dT,↓dTn,↓dTc,↓rsv,↓Gs.set,↓dFor,↓dItems,↓dRange1,↓dRange2,↓dZip,↓dLc,↓dCB,↓cLen,↓cAll,↓cTuple,↓cInt1,↓cInt2,↓dIsi,↓dBits,↓dCallS,↓oSub,↓oAddI,↓oMul,↓oDiv,↓oMod,↓oShl,↓oPow,↓oLt,↓oLe,↓oGt,↓oGe,↓oAbs,↓oMax,↓oMin,↓cMinL,↓fInD,↓dSl,↓oNo,↓oSo,↓dBy,↓fAddT,↓dSlT,↓dParR,↓dEnum,↓dRevL,↓gAs,↓Gs.unset,↓rtN,↓lamF,↓gLam,↓plainO,↓dGIx,↓dIxO,↓Z.isNon,srcT,ent,svOf,List.map_cons,List.map_nil,List.cons_append,List.nil_append,List.append_nil,List.replicate,List.length_cons,List.length_nil,List.getElem?_cons_zero,List.getElem?_cons_succ,List.getElem?_nil,List.set_cons_zero,List.set_cons_succ,Option.map_some,Option.map_none,Option.isNone_some,Option.isNone_none,forall_const,true_implies,false_implies,and_true,true_and,Bool.true_eq_false,Bool.false_eq_true,reduceCtorEq,noOwn,wipeS,hide,fuN_self,lcD,dYes,Nat.zero_add,Nat.reduceAdd,Nat.reduceLeDiff,Nat.reduceSub,atI_0,atI_1,atI_2,atI_3,atI_4,atI_5,Int.one_mul,eqv_ii,eqv_ss,eqv_num,shaped_int,shaped_num,shaped_none,shaped_ru,flat_str,flat_int,flat_none,List.all_cons,List.all_nil,Bool.and_true,decide_eq_true_eq,decide_eq_false_iff_not,Bool.not_eq_true',Bool.not_eq_false',Decidable.not_not,↓reduceIte,Bool.false_eq_true,Int.reduceLT,eqv_strs,pick_0,pick_01,pick_10,pick_012,pick_021,pick_102,pick_120,pick_201,pick_210]
  obtain ⟨f1, f2, f3, f4⟩ := src_fin (z := z) h1 h2 h
  exact ⟨pw1, fun _ => ⟨pw2, pw3, pw4, f1, f2, f3, f4 _ (m0 _).1 (m0 _).2⟩, fun _ => ⟨f1, f2, f3, f4 0 (Int.le_refl 0) p0⟩⟩
theorem p_srcB (fu : Option Nat) (post : Rr → Option Nat → Prop) {ns : List Int} {k : Int} (h1 : 0 ≤ k) (h2 : k < 1000000) (h : ∀ x y : Int, 0 ≤ x → x < 2 ^ 1000 → 0 ≤ y → y < modS → post (.own [.int x, .int y, .int 0]) fu) : srcB ⟨fun g => post (.val .none) g.fu, fun r g => post r g.fu, fun _ => False, fun _ => False⟩ (ent N__law_source [.scr ns, .val (.int k)] fu) := by
  simp only [↓dMHit,↓dMPutRet,↓dCallM,↓dPar3D,↓dMaxK,↓cMinDa,↓entM,↓dSeq,↓dAsg,↓dSetL,↓dNext,↓dIfS,↓dRet,↓dRetL,↓dDrop,↓dNever,↓dBrk,↓dAug,↓dPar,↓dParL,↓dApp,↓dVar,↓dC,↓dBin,↓fI,↓fI0,↓fAdd,↓fEq,↓fNe,↓fIn,↓dTest,↓dAndT,↓dOrT,↓dNotT,↓dAndV,↓dOrV,↓dNotV,↓dIf,↓dNeg,↓dIsN,↓dChain,↓dNil,↓dCons,↓dTup,↓dLst,↓dFz,↓valsD,↓dIx,↓dCall,↓dCallL,↓hasSrc,↓rrv,↓dN,↓dT,↓dTn,↓dTc,↓rsv,↓Gs.set,↓dFor,↓dItems,↓dRange1,↓dRange2,↓dZip,↓dLc,↓dCB,↓cLen,↓cAll,↓cTuple,↓cInt1,↓cInt2,↓dIsi,↓dBits,↓dCallS,↓oSub,↓oAddI,↓oMul,↓oDiv,↓oMod,↓oShl,↓oPow,↓oLt,↓oLe,↓oGt,↓oGe,↓oAbs,↓oMax,↓oMin,↓cMinL,↓fInD,↓dSl,↓oNo,↓oSo,↓dBy,↓fAddT,↓dSlT,↓dParR,↓dEnum,↓dRevL,↓gAs,↓Gs.unset,↓rtN,↓lamF,↓gLam,↓plainO,↓dGIx,↓dIxO,↓Z.isNon,srcB,ent,svOf,List.map_cons,List.map_nil,List.cons_append,List.nil_append,List.append_nil,List.replicate,List.length_cons,List.length_nil,List.getElem?_cons_zero,List.getElem?_cons_succ,List.getElem?_nil,List.set_cons_zero,List.set_cons_succ,Option.map_some,Option.map_none,Option.isNone_some,Option.isNone_none,forall_const,true_implies,false_implies,and_true,true_and,Bool.true_eq_false,Bool.false_eq_true,reduceCtorEq,noOwn,wipeS,hide,fuN_self,lcD,dYes,Nat.zero_add,Nat.reduceAdd,Nat.reduceLeDiff,Nat.reduceSub,atI_0,atI_1,atI_2,atI_3,atI_4,atI_5,Int.one_mul,eqv_ii,eqv_ss,eqv_num,shaped_int,shaped_num,shaped_none,shaped_ru,flat_str,flat_int,flat_none,List.all_cons,List.all_nil,Bool.and_true,decide_eq_true_eq,decide_eq_false_iff_not,Bool.not_eq_true',Bool.not_eq_false',Decidable.not_not,↓reduceIte,Bool.false_eq_true,Int.reduceLT,eqv_strs,pick_0,pick_01,pick_10,pick_012,pick_021,pick_102,pick_120,pick_201,pick_210]
  refine ⟨fun hk => ?_, fun hk => p_srcT 0 fu post h1 h2 h⟩
  obtain ⟨z, ez⟩ := atI_nn h1 hk
  rw [ez]
  exact p_srcT z fu post h1 h2 h
theorem p__law_source (rs : List Rv) (fu : Option Nat) (post : Rr → Option Nat → Prop) (hl : rs.length = 2) (h : fs__law_source rs fu post) : b__law_source ⟨fun g => post (.val .none) g.fu, fun r g => post r g.fu, fun _ => False, fun _ => False⟩ (ent N__law_source rs fu) := by
  obtain ⟨ns, k, rfl, h1, h2, h⟩ := h
  exact p_srcB fu post h1 h2 h
section
variable {P : Program} {w : World} {K : Fg} {mg : Str → Option Value} {base : Heap}
theorem d__law_source (T : Tx w K mg) {cdv : Value} {A : Around} {outer : List Env} {s : Shared} {H : Hp} {E : XK} (hr : Room 0 (A.deeper (envOfC "_law_source" (defScope st__law_source) s.heap.objs.size T.f__law_source cdv))) (hgd : (A.deeper (envOfC "_law_source" (defScope st__law_source) s.heap.objs.size T.f__law_source cdv)).guards = some []) :
    PSs (cxOf CX0 P w K mg base N__law_source "_law_source" (defScope st__law_source) T.f__law_source cdv A outer s H E).nox (defBody st__law_source) (upS K W0 b__law_source) :=
  (ss_cons (s_set (i := 2) sc__law_source.nd rfl (.inl rfl) (e_if (t_lt (e_var 1 (pv 1)) (e_len (by rfl) T.n_len (a_cons (e_var 0 (pv 0)) a_nil))) (e_ix (e_var 0 (pv 0)) (e_var 1 (pv 1))) e_int))
    (ss_cons (s_set (i := 3) sc__law_source.nd rfl (.inl rfl) (e_if (t_ge (e_abs (by rfl) T.n_abs (a_cons (e_var 2 (pv 2)) a_nil)) (e_pow e_int e_int)) (e_mod (e_abs (by rfl) T.n_abs (a_cons (e_var 2 (pv 2)) a_nil)) (e_pow (e_pow e_int e_int) e_int)) e_int))
    (ss_one (s_retL (e_lstL (a_cons (e_var 3 (pv 3)) (a_cons (e_mod (e_add (e_add (e_mul (e_mod (e_var 2 (pv 2)) e_int) e_int) (e_mul (e_mul e_int (e_var 1 (pv 1))) (e_var 1 (pv 1)))) e_int) e_int) (a_cons e_int a_nil))))))))
theorem ok__law_source (T : Tx w K mg) : Fn P w K mg base CX0 1 T.f__law_source T.fd__law_source ["_law_script", "_law_k"] (lift K 2 fs__law_source) := fn_data T.F__law_source sc__law_source b__law_source (fun _ _ _ _ _ _ hr hgd => d__law_source T hr hgd) p__law_source
end
/-- a draw: some int below the size, one draw less left -/
def fs__law_draw : FSp := fun rs fu post => ∃ (n : Int) (m : Nat), rs = [.src, .val (.int n)] ∧ fu = some (m + 1) ∧ 0 < n ∧ Bn 9000 n ∧ ∀ i : Int, 0 ≤ i → i < n → post (.val (.int i)) (some m)
theorem at3_0 {x y z : V} : atI [x, y, z] 0 = some x := atI_0
theorem at3_1 {x y z : V} : atI [x, y, z] 1 = some y := atI_1
theorem at3_2 {x y z : V} : atI [x, y, z] 2 = some z := atI_2
section
variable {P : Program} {w : World} {K : Fg} {mg : Str → Option Value} {base : Heap}
/-- behind the draw: all but the source is as it was -/
theorem draw_out {F H : Hp} {a : Addr} {m : Nat} {x y z i : Int} {o : List V} (tk : TabK K F H) (e : Ex F H) (hF : F a = none) (hH : H a = some (.lst o)) (hx : 0 ≤ x ∧ x < 2 ^ 1000 ∧ 0 ≤ y ∧ y < modS ∧ 0 ≤ z ∧ z + m ≤ 2 ^ 40) :
    Out K F H a (some (m + 1)) (some m) F (upd H a (.lst [.int x, .int y, .int z])) (.int i) (.val (.int i)) := by
  refine ⟨Ex.refl F, fun b u q => ?_, fun b u hb _ q => ?_, fun b q => .inl q, fun _ => ⟨m, rfl, hF, x, y, z, upd_same, hx⟩, Rp.int i, .but hH (fun _ z => by cases z) fun b u nb q => by rw [upd_ne nb]; exact q, tk.but hH (fun _ z => by cases z) fun b u nb q => by rw [upd_ne nb]; exact q⟩
  · rw [upd_ne (fun h => by rw [h, hF] at q; cases q)]; exact e b u q
  · rw [upd_ne (hb (fun h => nomatch h))]; exact q
theorem ok__law_draw (T : Tx w K mg) : Fn P w K mg base CX0 1 T.f__law_draw T.fd__law_draw ["_law_source_here", "_law_size"] (lift K 2 fs__law_draw) := by
  refine fn_by T.F__law_draw sc__law_draw lift_len fun cdv A outer s H vs Q E hr hg h => ?_
  obtain ⟨F, a, rs, fu, post, e, tm, hlen, hsrc, tk, ⟨n, m, rfl, rfl, n0, nB, hp⟩, hq⟩ := h
  obtain ⟨hF, x, y, z, hH, x0, x1, y0, y1, z0, z1⟩ := hsrc (m + 1) rfl
  have hv : vs = [.ref a, .int n] := by
    cases tm with
    | cons h1 t =>
      cases t.i1
      rw [h1.1]
  subst hv
  have zB : z < 2 ^ 40 := by omega
  have e40 : (2 : Int) ^ 40 = 1099511627776 := by decide
  rw [e40] at zB z1
  refine ⟨_, PSs.nox (pss_cons (ps_if (pt_cmpR op_gt (pe_ix ix_list (pv 0) pe_int (fun _ _ => rfl)) pe_int (nomark _))
      (pss_cons (ps_set (i := 2) sc__law_draw.nd rfl (.inl rfl) (pe_op op_mod (pe_ix ix_list (pv 0) pe_int (fun _ _ => rfl)) (pv 1)))
      (pss_cons (ps_asg (pe_op op_fdivW (pe_ix ix_list (pv 0) pe_int (fun _ _ => rfl)) (pv 1)) (pg_sub (pv 0) pe_int set_list))
      (pss_one (ps_ret (pv 2))))) pss_nil)
    (pss_cons (ps_asg (pe_op op_add (pe_ix ix_list (pv 0) pe_int (fun _ _ => rfl)) pe_int) (pg_sub (pv 0) pe_int set_list))
    (pss_cons (ps_set (i := 3) sc__law_draw.nd rfl (.inl rfl) (pe_ix ix_list (pv 0) pe_int (fun _ _ => rfl)))
    (pss_cons (ps_set (i := 4) sc__law_draw.nd rfl (.inl rfl) (pe_op op_mod (pe_op op_mulX (pe_op op_add (pe_op op_add (pe_ix ix_list (pv 0) pe_int (fun _ _ => rfl)) (pe_op op_mulX (pe_op op_mulX pe_int (pv 3)) (pv 3))) pe_int) pe_int) pe_int))
    (pss_cons (ps_set (i := 4) sc__law_draw.nd rfl (.inl rfl) (pe_op op_mod (pe_op op_mulX (pv 4) (pe_op op_add (pe_op op_mod (pv 4) pe_int) (pe_op op_mulX pe_int (pv 3)))) pe_int))
    (pss_one (ps_ret (pe_op op_mod (pe_op op_add (pe_op op_fdivW (pv 4) pe_int) (pe_op op_fdivW (pv 4) pe_int)) (pv 1))))))))), ?_⟩
  have sq : SqL K H a [.int x, .int y, .int z] := .inl (.inl hH)
  refine ⟨.ref a, rfl, a, _, 0, _, rfl, rfl, sq, at3_0, x, 0, rfl, rfl, _, rfl, ite2 (fun c => ?_) (fun c => ?_)⟩
  · have c' : 0 < x := of_decide_eq_true c
    refine ⟨.ref a, rfl, a, _, 0, _, rfl, rfl, sq, at3_0, .int n, rfl, x, n, rfl, rfl, n0, ?_⟩
    refine ⟨.ref a, rfl, a, _, 0, _, rfl, rfl, sq, at3_0, .int n, rfl, x, n, rfl, rfl, divX 9000 n0 nB (Nat.le_refl _), ?_⟩
    refine ⟨.ref a, rfl, a, _, 0, 0, rfl, rfl, hH, rfl, .int (x % n), rfl, ?_⟩
    refine hq _ _ _ _ F (hp (x % n) (Int.emod_nonneg _ (by omega)) (Int.emod_lt_of_pos _ n0)) (draw_out (x := x / n) (y := y) (z := z) tk e hF hH ⟨Int.ediv_nonneg x0 (by omega), ?_, y0, y1, z0, by omega⟩)
    exact Int.lt_of_le_of_lt (Int.ediv_le_self _ x0) x1
  · have hH2 : (upd H a (.lst [.int x, .int y, .int (z + 1)])) a = some (.lst [.int x, .int y, .int (z + 1)]) := upd_same
    have sq2 : SqL K (upd H a (.lst [.int x, .int y, .int (z + 1)])) a [.int x, .int y, .int (z + 1)] := .inl (.inl hH2)
    refine ⟨.ref a, rfl, a, _, 2, _, rfl, rfl, sq, at3_2, z, 1, rfl, rfl, .ref a, rfl, a, _, 2, 2, rfl, rfl, hH, rfl, ?_⟩
    refine ⟨.ref a, rfl, a, _, 2, _, rfl, rfl, sq2, at3_2, ?_⟩
    have y2 : y < 2305843009213693921 := y1
    have zz1 : Bn 64 (z + 1) := Bn.small (by omega) (by omega) (by decide)
    have m1 : Bn 128 (65537 * (z + 1)) := (Bn.small (m := 64) (i := 65537) (by decide) (by decide) (by decide)).mul zz1
    have m2 : Bn 192 (65537 * (z + 1) * (z + 1)) := m1.mul zz1
    have m3 : Bn 194 (y + 65537 * (z + 1) * (z + 1) + 11) := ((Bn.small (m := 192) (i := y) (by omega) (by omega) (by decide)).add m2).add (Bn.small (by decide) (by decide) (by decide))
    refine ⟨.ref a, rfl, a, _, 1, _, rfl, rfl, sq2, at3_1, .int (z + 1), rfl, 65537, z + 1, rfl, rfl, mulX 64 64 (Bn.small (by decide) (by decide) (by decide)) zz1 (by decide), .int (z + 1), rfl, _, _, rfl, rfl, mulX 128 64 m1 zz1 (by decide), _, _, rfl, rfl, _, _, rfl, rfl, _, _, rfl, rfl, mulX 194 64 m3 (Bn.small (by decide) (by decide) (by decide)) (by decide), _, _, rfl, rfl, (show (0 : Int) < 2305843009213693921 by decide), ?_⟩
    dsimp only
    generalize hmx : (y + 65537 * (z + 1) * (z + 1) + 11) * 48271 % 2305843009213693921 = mx
    have mx0 : 0 ≤ mx := by rw [← hmx]; exact Int.emod_nonneg _ (by decide)
    have mx1 : mx < 2305843009213693921 := by rw [← hmx]; exact Int.emod_lt_of_pos _ (by decide)
    have r0 := Int.emod_nonneg mx (show (1000003 : Int) ≠ 0 by decide)
    have r1 := Int.emod_lt_of_pos mx (show (0 : Int) < 1000003 by decide)
    have m4 : Bn 128 (99991 * (z + 1)) := (Bn.small (m := 64) (i := 99991) (by decide) (by decide) (by decide)).mul zz1
    have m5 : Bn 129 (mx % 1000003 + 99991 * (z + 1)) := (Bn.small (m := 128) (by omega) (by omega) (by decide)).add m4
    refine ⟨.int mx, rfl, .int mx, rfl, mx, 1000003, rfl, rfl, (show (0 : Int) < 1000003 by decide), .int (z + 1), rfl, 99991, z + 1, rfl, rfl, mulX 64 64 (Bn.small (by decide) (by decide) (by decide)) zz1 (by decide), _, _, rfl, rfl, _, _, rfl, rfl, mulX 64 129 (Bn.small (by omega) (by omega) (by decide)) m5 (by decide), _, _, rfl, rfl, (show (0 : Int) < 2305843009213693907 by decide), ?_⟩
    dsimp only
    generalize mx * (mx % 1000003 + 99991 * (z + 1)) % 2305843009213693907 = my
    refine ⟨.int my, rfl, my, 97, rfl, rfl, divX 64 (by decide) (Bn.small (by decide) (by decide) (by decide)) (by decide), .int my, rfl, my, 1000033, rfl, rfl, divX 64 (by decide) (Bn.small (by decide) (by decide) (by decide)) (by decide), _, _, rfl, rfl, .int n, rfl, _, n, rfl, rfl, n0, ?_⟩
    exact hq _ _ _ _ F (hp _ (Int.emod_nonneg _ (by omega)) (Int.emod_lt_of_pos _ n0)) (draw_out (x := x) (y := y) (z := z + 1) tk e hF hH ⟨x0, x1, y0, y1, by omega, by omega⟩)
end
def b__law_pick : DS :=
  (dRet (dIx (dVar 1) (dCall 2 fs__law_draw (dCons (dVar 0) (dCons (dCB cLen (dCons (dVar 1) dNil)) dNil)))))
theorem atI_mem {α : Type} {xs : List α} {k : Int} (h0 : 0 ≤ k) (h : k < xs.length) : ∃ z ∈ xs, atI xs k = some z := by
  unfold atI ixN
  rw [if_pos h0, if_pos h]
  have hk : k.toNat < xs.length := by omega
  exact ⟨xs[k.toNat], List.getElem_mem hk, List.getElem?_eq_getElem hk⟩
def fs__law_pick : FSp := fun rs fu post => ∃ (xs : List Da) (m : Nat), rs = [.src, .val (.list xs)] ∧ fu = some (m + 1) ∧ 0 < xs.length ∧ xs.length < 1000000 ∧ ∀ v ∈ xs, post (.val v) (some m)
theorem p__law_pick (rs : List Rv) (fu : Option Nat) (post : Rr → Option Nat → Prop) (hl : rs.length = 2) (h : fs__law_pick rs fu post) : b__law_pick ⟨fun g => post (.val .none) g.fu, fun r g => post r g.fu, fun _ => False, fun _ => False⟩ (ent N__law_pick rs fu) := by
  obtain ⟨xs, m, rfl, rfl, h0, h1, h⟩ := h
  simp only [↓dMHit,↓dMPutRet,↓dCallM,↓dPar3D,↓dMaxK,↓cMinDa,↓entM,↓dSeq,↓dAsg,↓dSetL,↓dNext,↓dIfS,↓dRet,↓dRetL,↓dDrop,↓dNever,↓dBrk,↓dAug,↓dPar,↓dParL,↓dApp,↓dVar,↓dC,↓dBin,↓fI,↓fI0,↓fAdd,↓fEq,↓fNe,↓fIn,↓dTest,↓dAndT,↓dOrT,↓dNotT,↓dAndV,↓dOrV,↓dNotV,↓dIf,↓dNeg,↓dIsN,↓dChain,↓dNil,↓dCons,↓dTup,↓dLst,↓dFz,↓valsD,↓dIx,↓dCall,↓dCallL,↓hasSrc,↓rrv,↓dN,↓dT,↓dTn,↓dTc,↓rsv,↓Gs.set,↓dFor,↓dItems,↓dRange1,↓dRange2,↓dZip,↓dLc,↓dCB,↓cLen,↓cAll,↓cTuple,↓cInt1,↓cInt2,↓dIsi,↓dBits,↓dCallS,↓oSub,↓oAddI,↓oMul,↓oDiv,↓oMod,↓oShl,↓oPow,↓oLt,↓oLe,↓oGt,↓oGe,↓oAbs,↓oMax,↓oMin,↓cMinL,↓fInD,↓dSl,↓oNo,↓oSo,↓dBy,↓fAddT,↓dSlT,↓dParR,↓dEnum,↓dRevL,↓gAs,↓Gs.unset,↓rtN,↓lamF,↓gLam,↓plainO,↓dGIx,↓dIxO,↓Z.isNon,b__law_pick,fs__law_draw,ent,svOf,List.map_cons,List.map_nil,List.cons_append,List.nil_append,List.append_nil,List.replicate,List.length_cons,List.length_nil,List.getElem?_cons_zero,List.getElem?_cons_succ,List.getElem?_nil,List.set_cons_zero,List.set_cons_succ,Option.map_some,Option.map_none,Option.isNone_some,Option.isNone_none,forall_const,true_implies,false_implies,and_true,true_and,Bool.true_eq_false,Bool.false_eq_true,reduceCtorEq,noOwn,wipeS,hide,fuN_self,lcD,dYes,Nat.zero_add,Nat.reduceAdd,Nat.reduceLeDiff,Nat.reduceSub,atI_0,atI_1,atI_2,atI_3,atI_4,atI_5,Int.one_mul,eqv_ii,eqv_ss,eqv_num,shaped_int,shaped_num,shaped_none,shaped_ru,flat_str,flat_int,flat_none,List.all_cons,List.all_nil,Bool.and_true,decide_eq_true_eq,decide_eq_false_iff_not,Bool.not_eq_true',Bool.not_eq_false',Decidable.not_not,↓reduceIte,Bool.false_eq_true,Int.reduceLT,eqv_strs,pick_0,pick_01,pick_10,pick_012,pick_021,pick_102,pick_120,pick_201,pick_210]
  refine ⟨_, m, rfl, rfl, by omega, Bn.small (by omega) (by omega) (by decide), fun i i0 i1 => ?_⟩
  obtain ⟨z, hz, ez⟩ := atI_mem (xs := xs) i0 i1
  rw [ez]
  exact h z hz
section
variable {P : Program} {w : World} {K : Fg} {mg : Str → Option Value} {base : Heap}
theorem d__law_pick (T : Tx w K mg) {cdv : Value} {A : Around} {outer : List Env} {s : Shared} {H : Hp} {E : XK} (hr : Room 1 (A.deeper (envOfC "_law_pick" (defScope st__law_pick) s.heap.objs.size T.f__law_pick cdv))) (hgd : (A.deeper (envOfC "_law_pick" (defScope st__law_pick) s.heap.objs.size T.f__law_pick cdv)).guards = some []) :
    PSs (cxOf CX0 P w K mg base N__law_pick "_law_pick" (defScope st__law_pick) T.f__law_pick cdv A outer s H E).nox (defBody st__law_pick) (upS K W0 b__law_pick) :=
  (ss_one (s_ret (e_ix (e_var 1 (pv 1)) (e_call (ok__law_draw T) (hr.mono (by decide)) hgd (by rfl) T.g__law_draw T.F__law_draw.kp T.b__law_draw pass0 (a_cons (e_var 0 (pv 0)) (a_cons (e_len (by rfl) T.n_len (a_cons (e_var 1 (pv 1)) a_nil)) a_nil))))))
theorem ok__law_pick (T : Tx w K mg) : Fn P w K mg base CX0 2 T.f__law_pick T.fd__law_pick ["_law_source_here", "_law_some"] (lift K 2 fs__law_pick) := fn_data T.F__law_pick sc__law_pick b__law_pick (fun _ _ _ _ _ _ hr hgd => d__law_pick T hr hgd) p__law_pick
end
def b__law_divisor : DS :=
  (dSeq (dWhile (dTest (dBin oGt (dVar 1) (dC (.int 0))))
    (dPar 0 1 (dVar 1) (dBin oMod (dVar 0) (dVar 1))))
  (dRet (dVar 0)))
def fs__law_divisor : FSp := fun rs fu post => ∃ a b : Int, rs = [.val (.int a), .val (.int b)] ∧ 0 ≤ a ∧ 0 ≤ b ∧ post (.val (.int (Int.gcd a b))) fu
theorem p__law_divisor (rs : List Rv) (fu : Option Nat) (post : Rr → Option Nat → Prop) (hl : rs.length = 2) (h : fs__law_divisor rs fu post) : b__law_divisor ⟨fun g => post (.val .none) g.fu, fun r g => post r g.fu, fun _ => False, fun _ => False⟩ (ent N__law_divisor rs fu) := by
  obtain ⟨a, b, rfl, ha, hb, h⟩ := h
  simp only [↓dMHit,↓dMPutRet,↓dCallM,↓dPar3D,↓dMaxK,↓cMinDa,↓entM,↓dSeq,↓dAsg,↓dSetL,↓dNext,↓dIfS,↓dRet,↓dRetL,↓dDrop,↓dNever,↓dBrk,↓dAug,↓dPar,↓dParL,↓dApp,↓dVar,↓dC,↓dBin,↓fI,↓fI0,↓fAdd,↓fEq,↓fNe,↓fIn,↓dTest,↓dAndT,↓dOrT,↓dNotT,↓dAndV,↓dOrV,↓dNotV,↓dIf,↓dNeg,↓dIsN,↓dChain,↓dNil,↓dCons,↓dTup,↓dLst,↓dFz,↓valsD,↓dIx,↓dCall,↓dCallL,↓hasSrc,↓rrv,↓dN,↓dT,↓dTn,↓dTc,↓rsv,↓Gs.set,↓dFor,↓dItems,↓dRange1,↓dRange2,↓dZip,↓dLc,↓dCB,↓cLen,↓cAll,↓cTuple,↓cInt1,↓cInt2,↓dIsi,↓dBits,↓dCallS,↓oSub,↓oAddI,↓oMul,↓oDiv,↓oMod,↓oShl,↓oPow,↓oLt,↓oLe,↓oGt,↓oGe,↓oAbs,↓oMax,↓oMin,↓cMinL,↓fInD,↓dSl,↓oNo,↓oSo,↓dBy,↓fAddT,↓dSlT,↓dParR,↓dEnum,↓dRevL,↓gAs,↓Gs.unset,↓rtN,↓lamF,↓gLam,↓plainO,↓dGIx,↓dIxO,↓Z.isNon,b__law_divisor,ent,svOf,List.map_cons,List.map_nil,List.cons_append,List.nil_append,List.append_nil,List.replicate,List.length_cons,List.length_nil,List.getElem?_cons_zero,List.getElem?_cons_succ,List.getElem?_nil,List.set_cons_zero,List.set_cons_succ,Option.map_some,Option.map_none,Option.isNone_some,Option.isNone_none,forall_const,true_implies,false_implies,and_true,true_and,Bool.true_eq_false,Bool.false_eq_true,reduceCtorEq,noOwn,wipeS,hide,fuN_self,lcD,dYes,Nat.zero_add,Nat.reduceAdd,Nat.reduceLeDiff,Nat.reduceSub,atI_0,atI_1,atI_2,atI_3,atI_4,atI_5,Int.one_mul,eqv_ii,eqv_ss,eqv_num,shaped_int,shaped_num,shaped_none,shaped_ru,flat_str,flat_int,flat_none,List.all_cons,List.all_nil,Bool.and_true,decide_eq_true_eq,decide_eq_false_iff_not,Bool.not_eq_true',Bool.not_eq_false',Decidable.not_not,↓reduceIte,Bool.false_eq_true,Int.reduceLT,eqv_strs,pick_0,pick_01,pick_10,pick_012,pick_021,pick_102,pick_120,pick_201,pick_210]
  refine ⟨fun m g => ∃ x y : Int, g = ⟨[some (.val (.int x)), some (.val (.int y))], fu, fu.isNone⟩ ∧ 0 ≤ x ∧ 0 ≤ y ∧ y.toNat = m ∧ Int.gcd x y = Int.gcd a b, ⟨b.toNat, a, b, rfl, ha, hb, rfl, rfl⟩, fun m g hg => ?_⟩
  obtain ⟨x, y, rfl, hx, hy, rfl, e⟩ := hg
  simp only [↓dMHit,↓dMPutRet,↓dCallM,↓dPar3D,↓dMaxK,↓cMinDa,↓entM,↓dSeq,↓dAsg,↓dSetL,↓dNext,↓dIfS,↓dRet,↓dRetL,↓dDrop,↓dNever,↓dBrk,↓dAug,↓dPar,↓dParL,↓dApp,↓dVar,↓dC,↓dBin,↓fI,↓fI0,↓fAdd,↓fEq,↓fNe,↓fIn,↓dTest,↓dAndT,↓dOrT,↓dNotT,↓dAndV,↓dOrV,↓dNotV,↓dIf,↓dNeg,↓dIsN,↓dChain,↓dNil,↓dCons,↓dTup,↓dLst,↓dFz,↓valsD,↓dIx,↓dCall,↓dCallL,↓hasSrc,↓rrv,↓dN,↓dT,↓dTn,↓dTc,↓rsv,↓Gs.set,↓dFor,↓dItems,↓dRange1,↓dRange2,↓dZip,↓dLc,↓dCB,↓cLen,↓cAll,↓cTuple,↓cInt1,↓cInt2,↓dIsi,↓dBits,↓dCallS,↓oSub,↓oAddI,↓oMul,↓oDiv,↓oMod,↓oShl,↓oPow,↓oLt,↓oLe,↓oGt,↓oGe,↓oAbs,↓oMax,↓oMin,↓cMinL,↓fInD,↓dSl,↓oNo,↓oSo,↓dBy,↓fAddT,↓dSlT,↓dParR,↓dEnum,↓dRevL,↓gAs,↓Gs.unset,↓rtN,↓lamF,↓gLam,↓plainO,↓dGIx,↓dIxO,↓Z.isNon,ent,svOf,List.map_cons,List.map_nil,List.cons_append,List.nil_append,List.append_nil,List.replicate,List.length_cons,List.length_nil,List.getElem?_cons_zero,List.getElem?_cons_succ,List.getElem?_nil,List.set_cons_zero,List.set_cons_succ,Option.map_some,Option.map_none,Option.isNone_some,Option.isNone_none,forall_const,true_implies,false_implies,and_true,true_and,Bool.true_eq_false,Bool.false_eq_true,reduceCtorEq,noOwn,wipeS,hide,fuN_self,lcD,dYes,Nat.zero_add,Nat.reduceAdd,Nat.reduceLeDiff,Nat.reduceSub,atI_0,atI_1,atI_2,atI_3,atI_4,atI_5,Int.one_mul,eqv_ii,eqv_ss,eqv_num,shaped_int,shaped_num,shaped_none,shaped_ru,flat_str,flat_int,flat_none,List.all_cons,List.all_nil,Bool.and_true,decide_eq_true_eq,decide_eq_false_iff_not,Bool.not_eq_true',Bool.not_eq_false',Decidable.not_not,↓reduceIte,Bool.false_eq_true,Int.reduceLT,eqv_strs,pick_0,pick_01,pick_10,pick_012,pick_021,pick_102,pick_120,pick_201,pick_210]
  refine ⟨fun hy0 => ?_, fun heq => ?_⟩
  · refine ⟨hy0, (x % y).toNat, ?_, y, x % y, rfl, hy, Int.emod_nonneg _ (by omega), rfl, by rw [gcd_step hx hy0, e]⟩
    have := Int.emod_lt_of_pos x hy0
    have := Int.emod_nonneg x (show y ≠ 0 by omega)
    omega
  · have hy0 : y = 0 := by omega
    subst hy0
    rw [Int.gcd_zero_right] at e
    have : x = ((Int.gcd a b : Nat) : Int) := by omega
    rw [this]
    exact h
section
variable {P : Program} {w : World} {K : Fg} {mg : Str → Option Value} {base : Heap}
theorem d__law_divisor (T : Tx w K mg) {cdv : Value} {A : Around} {outer : List Env} {s : Shared} {H : Hp} {E : XK} (hr : Room 0 (A.deeper (envOfC "_law_divisor" (defScope st__law_divisor) s.heap.objs.size T.f__law_divisor cdv))) (hgd : (A.deeper (envOfC "_law_divisor" (defScope st__law_divisor) s.heap.objs.size T.f__law_divisor cdv)).guards = some []) :
    PSs (cxOf CX0 P w K mg base N__law_divisor "_law_divisor" (defScope st__law_divisor) T.f__law_divisor cdv A outer s H E).nox (defBody st__law_divisor) (upS K W0 b__law_divisor) :=
  (ss_cons (s_while PassesOwn.never (t_gt (e_var 1 (pv 1)) e_int) (ss_one (s_par (i := 0) (j := 1) rfl sc__law_divisor.nd rfl rfl (by decide) rfl rfl (e_var 1 (pv 1)) (e_mod (e_var 0 (pv 0)) (e_var 1 (pv 1))))))
    (ss_one (s_ret (e_var 0 (pv 0)))))
theorem ok__law_divisor (T : Tx w K mg) : Fn P w K mg base CX0 1 T.f__law_divisor T.fd__law_divisor ["_law_one", "_law_other"] (lift K 2 fs__law_divisor) := fn_data T.F__law_divisor sc__law_divisor b__law_divisor (fun _ _ _ _ _ _ hr hgd => d__law_divisor T hr hgd) p__law_divisor
end
def b__law_low : DS :=
  (dSeq (dAsg (dCall 2 fs__law_divisor (dCons (dVar 0) (dCons (dVar 1) dNil))) (dN 2))
  (dRet (dTup (dCons (dBin oDiv (dVar 0) (dVar 2)) (dCons (dBin oDiv (dVar 1) (dVar 2)) dNil)))))
def fs__law_low : FSp := fun rs fu post => ∃ n d : Int, rs = [.val (.int n), .val (.int d)] ∧ 0 ≤ n ∧ 0 < d ∧ Bn 9000 d ∧ post (.val (lowD n d)) fu
theorem p__law_low (rs : List Rv) (fu : Option Nat) (post : Rr → Option Nat → Prop) (hl : rs.length = 2) (h : fs__law_low rs fu post) : b__law_low ⟨fun g => post (.val .none) g.fu, fun r g => post r g.fu, fun _ => False, fun _ => False⟩ (ent N__law_low rs fu) := by
  obtain ⟨n, d, rfl, hn, hd, hs, h⟩ := h
  simp only [↓dMHit,↓dMPutRet,↓dCallM,↓dPar3D,↓dMaxK,↓cMinDa,↓entM,↓dSeq,↓dAsg,↓dSetL,↓dNext,↓dIfS,↓dRet,↓dRetL,↓dDrop,↓dNever,↓dBrk,↓dAug,↓dPar,↓dParL,↓dApp,↓dVar,↓dC,↓dBin,↓fI,↓fI0,↓fAdd,↓fEq,↓fNe,↓fIn,↓dTest,↓dAndT,↓dOrT,↓dNotT,↓dAndV,↓dOrV,↓dNotV,↓dIf,↓dNeg,↓dIsN,↓dChain,↓dNil,↓dCons,↓dTup,↓dLst,↓dFz,↓valsD,↓dIx,↓dCall,↓dCallL,↓hasSrc,↓rrv,↓dN,↓dT,↓dTn,↓dTc,↓rsv,↓Gs.set,↓dFor,↓dItems,↓dRange1,↓dRange2,↓dZip,↓dLc,↓dCB,↓cLen,↓cAll,↓cTuple,↓cInt1,↓cInt2,↓dIsi,↓dBits,↓dCallS,↓oSub,↓oAddI,↓oMul,↓oDiv,↓oMod,↓oShl,↓oPow,↓oLt,↓oLe,↓oGt,↓oGe,↓oAbs,↓oMax,↓oMin,↓cMinL,↓fInD,↓dSl,↓oNo,↓oSo,↓dBy,↓fAddT,↓dSlT,↓dParR,↓dEnum,↓dRevL,↓gAs,↓Gs.unset,↓rtN,↓lamF,↓gLam,↓plainO,↓dGIx,↓dIxO,↓Z.isNon,b__law_low,fs__law_divisor,ent,svOf,List.map_cons,List.map_nil,List.cons_append,List.nil_append,List.append_nil,List.replicate,List.length_cons,List.length_nil,List.getElem?_cons_zero,List.getElem?_cons_succ,List.getElem?_nil,List.set_cons_zero,List.set_cons_succ,Option.map_some,Option.map_none,Option.isNone_some,Option.isNone_none,forall_const,true_implies,false_implies,and_true,true_and,Bool.true_eq_false,Bool.false_eq_true,reduceCtorEq,noOwn,wipeS,hide,fuN_self,lcD,dYes,Nat.zero_add,Nat.reduceAdd,Nat.reduceLeDiff,Nat.reduceSub,atI_0,atI_1,atI_2,atI_3,atI_4,atI_5,Int.one_mul,eqv_ii,eqv_ss,eqv_num,shaped_int,shaped_num,shaped_none,shaped_ru,flat_str,flat_int,flat_none,List.all_cons,List.all_nil,Bool.and_true,decide_eq_true_eq,decide_eq_false_iff_not,Bool.not_eq_true',Bool.not_eq_false',Decidable.not_not,↓reduceIte,Bool.false_eq_true,Int.reduceLT,eqv_strs,pick_0,pick_01,pick_10,pick_012,pick_021,pick_102,pick_120,pick_201,pick_210]
  have dv : ∀ x, CDivW x (Int.gcd n d) := fun x => divX 9000 (gcd_pos hd) (hs.le (Int.le_of_lt (gcd_pos hd)) (gcd_le hd)) (Nat.le_refl _)
  refine ⟨n, d, rfl, hn, by omega, dv _, dv _, h⟩
section
variable {P : Program} {w : World} {K : Fg} {mg : Str → Option Value} {base : Heap}
theorem d__law_low (T : Tx w K mg) {cdv : Value} {A : Around} {outer : List Env} {s : Shared} {H : Hp} {E : XK} (hr : Room 1 (A.deeper (envOfC "_law_low" (defScope st__law_low) s.heap.objs.size T.f__law_low cdv))) (hgd : (A.deeper (envOfC "_law_low" (defScope st__law_low) s.heap.objs.size T.f__law_low cdv)).guards = some []) :
    PSs (cxOf CX0 P w K mg base N__law_low "_law_low" (defScope st__law_low) T.f__law_low cdv A outer s H E).nox (defBody st__law_low) (upS K W0 b__law_low) :=
  (ss_cons (s_set (i := 2) sc__law_low.nd rfl (.inl rfl) (e_call (ok__law_divisor T) (hr.mono (by decide)) hgd (by rfl) T.g__law_divisor T.F__law_divisor.kp T.b__law_divisor pass0 (a_cons (e_var 0 (pv 0)) (a_cons (e_var 1 (pv 1)) a_nil))))
    (ss_one (s_ret (e_tup (a_cons (e_div (e_var 0 (pv 0)) (e_var 2 (pv 2))) (a_cons (e_div (e_var 1 (pv 1)) (e_var 2 (pv 2))) a_nil))))))
theorem ok__law_low (T : Tx w K mg) : Fn P w K mg base CX0 2 T.f__law_low T.fd__law_low ["_law_n", "_law_d"] (lift K 2 fs__law_low) := fn_data T.F__law_low sc__law_low b__law_low (fun _ _ _ _ _ _ hr hgd => d__law_low T hr hgd) p__law_low
end
def b__law_scaled : DS :=
  (dSeq (dAsg (dVar 0) (dT 2 (dTc (dN 2) (dTc (dN 3) dTn))))
  (dRet (dIf (dTest (dBin oGe (dVar 1) (dC (.int 0)))) (dCall 2 fs__law_low (dCons (dBin oShl (dVar 2) (dVar 1)) (dCons (dVar 3) dNil))) (dCall 2 fs__law_low (dCons (dVar 2) (dCons (dBin oShl (dVar 3) (dBin oSub (dC (.int 0)) (dVar 1))) dNil))))))
/-- times 2 ** e, in lowest terms -/
def scl (n d e : Int) : Int × Int := low (scI n d e).1 (scI n d e).2
def fs__law_scaled : FSp := fun rs fu post => ∃ n d e : Int, rs = [.val (num n d), .val (.int e)] ∧ 0 ≤ n ∧ Bn 100000 n ∧ 0 < d ∧ Bn 4000 d ∧ -4000 ≤ e ∧ e ≤ 4000 ∧ post (.val (nm (scl n d e))) fu
theorem p__law_scaled (rs : List Rv) (fu : Option Nat) (post : Rr → Option Nat → Prop) (hl : rs.length = 2) (h : fs__law_scaled rs fu post) : b__law_scaled ⟨fun g => post (.val .none) g.fu, fun r g => post r g.fu, fun _ => False, fun _ => False⟩ (ent N__law_scaled rs fu) := by
  obtain ⟨n, d, e, rfl, hn, bn, hd, bd, h1, h2, h⟩ := h
  simp only [↓dMHit,↓dMPutRet,↓dCallM,↓dPar3D,↓dMaxK,↓cMinDa,↓entM,↓dSeq,↓dAsg,↓dSetL,↓dNext,↓dIfS,↓dRet,↓dRetL,↓dDrop,↓dNever,↓dBrk,↓dAug,↓dPar,↓dParL,↓dApp,↓dVar,↓dC,↓dBin,↓fI,↓fI0,↓fAdd,↓fEq,↓fNe,↓fIn,↓dTest,↓dAndT,↓dOrT,↓dNotT,↓dAndV,↓dOrV,↓dNotV,↓dIf,↓dNeg,↓dIsN,↓dChain,↓dNil,↓dCons,↓dTup,↓dLst,↓dFz,↓valsD,↓dIx,↓dCall,↓dCallL,↓hasSrc,↓rrv,↓dN,↓dT,↓dTn,↓dTc,↓rsv,↓Gs.set,↓dFor,↓dItems,↓dRange1,↓dRange2,↓dZip,↓dLc,↓dCB,↓cLen,↓cAll,↓cTuple,↓cInt1,↓cInt2,↓dIsi,↓dBits,↓dCallS,↓oSub,↓oAddI,↓oMul,↓oDiv,↓oMod,↓oShl,↓oPow,↓oLt,↓oLe,↓oGt,↓oGe,↓oAbs,↓oMax,↓oMin,↓cMinL,↓fInD,↓dSl,↓oNo,↓oSo,↓dBy,↓fAddT,↓dSlT,↓dParR,↓dEnum,↓dRevL,↓gAs,↓Gs.unset,↓rtN,↓lamF,↓gLam,↓plainO,↓dGIx,↓dIxO,↓Z.isNon,b__law_scaled,fs__law_low,ent,svOf,List.map_cons,List.map_nil,List.cons_append,List.nil_append,List.append_nil,List.replicate,List.length_cons,List.length_nil,List.getElem?_cons_zero,List.getElem?_cons_succ,List.getElem?_nil,List.set_cons_zero,List.set_cons_succ,Option.map_some,Option.map_none,Option.isNone_some,Option.isNone_none,forall_const,true_implies,false_implies,and_true,true_and,Bool.true_eq_false,Bool.false_eq_true,reduceCtorEq,noOwn,wipeS,hide,fuN_self,lcD,dYes,Nat.zero_add,Nat.reduceAdd,Nat.reduceLeDiff,Nat.reduceSub,atI_0,atI_1,atI_2,atI_3,atI_4,atI_5,Int.one_mul,eqv_ii,eqv_ss,eqv_num,shaped_int,shaped_num,shaped_none,shaped_ru,flat_str,flat_int,flat_none,List.all_cons,List.all_nil,Bool.and_true,decide_eq_true_eq,decide_eq_false_iff_not,Bool.not_eq_true',Bool.not_eq_false',Decidable.not_not,↓reduceIte,Bool.false_eq_true,Int.reduceLT,eqv_strs,pick_0,pick_01,pick_10,pick_012,pick_021,pick_102,pick_120,pick_201,pick_210]
  refine ⟨fun he => ⟨shlX 100000 bn he (by omega), _, _, rfl, Int.mul_nonneg hn (Int.le_of_lt (pow2_pos _)), hd, bd.mono (by decide), ?_⟩, fun he => ⟨shlX 4000 bd (by omega) (by omega), _, _, rfl, hn, Int.mul_pos hd (pow2_pos _), (shlB bd).mono (by omega), ?_⟩⟩
  · have e1 : scI n d e = (n * 2 ^ e.toNat, d) := by
      unfold scI
      rw [show (-e).toNat = 0 by omega, Int.pow_zero, Int.mul_one]
    unfold scl at h
    rw [e1] at h
    exact h
  · have e1 : scI n d e = (n, d * 2 ^ (0 - e).toNat) := by
      unfold scI
      rw [show e.toNat = 0 by omega, Int.pow_zero, Int.mul_one, show (0 - e).toNat = (-e).toNat by omega]
    unfold scl at h
    rw [e1] at h
    exact h
theorem scl_ok {n d e : Int} (hn : 0 < n) (hd : 0 < d) : 0 < (scl n d e).1 ∧ 0 < (scl n d e).2 ∧ Int.gcd (scl n d e).1 (scl n d e).2 = 1 := by
  obtain ⟨a, b⟩ := scI_pos (f := e) hn hd
  obtain ⟨h1, h2, h3, _⟩ := low_pos a b
  exact ⟨h1, h2, h3⟩
theorem scl_B {n d e : Int} {a b : Nat} (hn : 0 < n) (hd : 0 < d) (bn : Bn a n) (bd : Bn b d) (m : Nat) (hm : (a : Int) + e + 1 ≤ m) (hm' : (b : Int) - e + 1 ≤ m) (ha : a + 1 ≤ m) (hb : b + 1 ≤ m) : Bn m (scl n d e).1 ∧ Bn m (scl n d e).2 := by
  obtain ⟨p, q⟩ := scI_pos (f := e) hn hd
  obtain ⟨h1, h2, h3, h4, h5⟩ := low_pos p q
  have b1 : Bn m (scI n d e).1 := (shlB bn).mono (by omega)
  have b2 : Bn m (scI n d e).2 := (shlB bd).mono (by omega)
  exact ⟨b1.le (Int.le_of_lt h1) h4, b2.le (Int.le_of_lt h2) h5⟩
section
variable {P : Program} {w : World} {K : Fg} {mg : Str → Option Value} {base : Heap}
theorem d__law_scaled (T : Tx w K mg) {cdv : Value} {A : Around} {outer : List Env} {s : Shared} {H : Hp} {E : XK} (hr : Room 2 (A.deeper (envOfC "_law_scaled" (defScope st__law_scaled) s.heap.objs.size T.f__law_scaled cdv))) (hgd : (A.deeper (envOfC "_law_scaled" (defScope st__law_scaled) s.heap.objs.size T.f__law_scaled cdv)).guards = some []) :
    PSs (cxOf CX0 P w K mg base N__law_scaled "_law_scaled" (defScope st__law_scaled) T.f__law_scaled cdv A outer s H E).nox (defBody st__law_scaled) (upS K W0 b__law_scaled) :=
  (ss_cons (s_asg (e_var 0 (pv 0)) (g_tup rfl (gs_cons (g_name (pg_name (i := 2) sc__law_scaled.nd rfl (.inl rfl))) (gs_cons (g_name (pg_name (i := 3) sc__law_scaled.nd rfl (.inl rfl))) gs_nil))))
    (ss_one (s_ret (e_if (t_ge (e_var 1 (pv 1)) e_int) (e_call (ok__law_low T) (hr.mono (by decide)) hgd (by rfl) T.g__law_low T.F__law_low.kp T.b__law_low pass0 (a_cons (e_shl (e_var 2 (pv 2)) (e_var 1 (pv 1))) (a_cons (e_var 3 (pv 3)) a_nil))) (e_call (ok__law_low T) (hr.mono (by decide)) hgd (by rfl) T.g__law_low T.F__law_low.kp T.b__law_low pass0 (a_cons (e_var 2 (pv 2)) (a_cons (e_shl (e_var 3 (pv 3)) (e_sub e_int (e_var 1 (pv 1)))) a_nil)))))))
theorem ok__law_scaled (T : Tx w K mg) : Fn P w K mg base CX0 3 T.f__law_scaled T.fd__law_scaled ["_law_number_here", "_law_e"] (lift K 2 fs__law_scaled) := fn_data T.F__law_scaled sc__law_scaled b__law_scaled (fun _ _ _ _ _ _ hr hgd => d__law_scaled T hr hgd) p__law_scaled
end
def b__law_number : DS :=
  (dSeq (dPar 2 3 (dBin fAdd (dC (.int 1)) (dCall 2 fs__law_draw (dCons (dVar 0) (dCons (dCall 2 fs__law_pick (dCons (dVar 0) (dCons (dFz (dLst (dCons (dC (.int 8)) (dCons (dC (.int 64)) (dCons (dC (.int 1024)) (dCons (dVar 1) dNil)))))) dNil))) dNil)))) (dCall 2 fs__law_pick (dCons (dVar 0) (dCons (dFz (dLst (dCons (dC (.int 1)) (dCons (dC (.int 1)) (dCons (dC (.int 2)) (dCons (dC (.int 16)) (dCons (dC (.int 3)) (dCons (dC (.int 10)) dNil)))))))) dNil))))
  (dSeq (dAsg (dCall 2 fs__law_pick (dCons (dVar 0) (dCons (dFz (dLst (dCons (dVar 3) (dCons (dVar 3) (dCons (dBin fAdd (dC (.int 1)) (dCall 2 fs__law_draw (dCons (dVar 0) (dCons (dVar 1) dNil)))) dNil))))) dNil))) (dN 3))
  (dRet (dCall 2 fs__law_scaled (dCons (dCall 2 fs__law_low (dCons (dVar 2) (dCons (dVar 3) dNil))) (dCons (dBin oSub (dCall 2 fs__law_draw (dCons (dVar 0) (dCons (dC (.int 13)) dNil))) (dC (.int 6))) dNil))))))
def fs__law_number : FSp := fun rs fu post => ∃ (mo : Int) (m : Nat), rs = [.src, .val (.int mo)] ∧ fu = some (m + 6) ∧ 1 ≤ mo ∧ mo ≤ 1000000000000 ∧ ∀ n d : Int, 0 < n → Bn 80 n → 0 < d → Bn 80 d → Int.gcd n d = 1 → post (.val (num n d)) (some m)
theorem p__law_number (rs : List Rv) (fu : Option Nat) (post : Rr → Option Nat → Prop) (hl : rs.length = 2) (h : fs__law_number rs fu post) : b__law_number ⟨fun g => post (.val .none) g.fu, fun r g => post r g.fu, fun _ => False, fun _ => False⟩ (ent N__law_number rs fu) := by
  obtain ⟨mo, m, rfl, rfl, h0, h1, h⟩ := h
  simp only [↓dMHit,↓dMPutRet,↓dCallM,↓dPar3D,↓dMaxK,↓cMinDa,↓entM,↓dSeq,↓dAsg,↓dSetL,↓dNext,↓dIfS,↓dRet,↓dRetL,↓dDrop,↓dNever,↓dBrk,↓dAug,↓dPar,↓dParL,↓dApp,↓dVar,↓dC,↓dBin,↓fI,↓fI0,↓fAdd,↓fEq,↓fNe,↓fIn,↓dTest,↓dAndT,↓dOrT,↓dNotT,↓dAndV,↓dOrV,↓dNotV,↓dIf,↓dNeg,↓dIsN,↓dChain,↓dNil,↓dCons,↓dTup,↓dLst,↓dFz,↓valsD,↓dIx,↓dCall,↓dCallL,↓hasSrc,↓rrv,↓dN,↓dT,↓dTn,↓dTc,↓rsv,↓Gs.set,↓dFor,↓dItems,↓dRange1,↓dRange2,↓dZip,↓dLc,↓dCB,↓cLen,↓cAll,↓cTuple,↓cInt1,↓cInt2,↓dIsi,↓dBits,↓dCallS,↓oSub,↓oAddI,↓oMul,↓oDiv,↓oMod,↓oShl,↓oPow,↓oLt,↓oLe,↓oGt,↓oGe,↓oAbs,↓oMax,↓oMin,↓cMinL,↓fInD,↓dSl,↓oNo,↓oSo,↓dBy,↓fAddT,↓dSlT,↓dParR,↓dEnum,↓dRevL,↓gAs,↓Gs.unset,↓rtN,↓lamF,↓gLam,↓plainO,↓dGIx,↓dIxO,↓Z.isNon,b__law_number,fs__law_draw,fs__law_pick,fs__law_low,fs__law_scaled,ent,svOf,List.map_cons,List.map_nil,List.cons_append,List.nil_append,List.append_nil,List.replicate,List.length_cons,List.length_nil,List.getElem?_cons_zero,List.getElem?_cons_succ,List.getElem?_nil,List.set_cons_zero,List.set_cons_succ,Option.map_some,Option.map_none,Option.isNone_some,Option.isNone_none,forall_const,true_implies,false_implies,and_true,true_and,Bool.true_eq_false,Bool.false_eq_true,reduceCtorEq,noOwn,wipeS,hide,fuN_self,lcD,dYes,Nat.zero_add,Nat.reduceAdd,Nat.reduceLeDiff,Nat.reduceSub,atI_0,atI_1,atI_2,atI_3,atI_4,atI_5,Int.one_mul,eqv_ii,eqv_ss,eqv_num,shaped_int,shaped_num,shaped_none,shaped_ru,flat_str,flat_int,flat_none,List.all_cons,List.all_nil,Bool.and_true,decide_eq_true_eq,decide_eq_false_iff_not,Bool.not_eq_true',Bool.not_eq_false',Decidable.not_not,↓reduceIte,Bool.false_eq_true,Int.reduceLT,eqv_strs,pick_0,pick_01,pick_10,pick_012,pick_021,pick_102,pick_120,pick_201,pick_210]
  refine ⟨_, m + 5, rfl, rfl, by show 0 < 4; decide, by show 4 < 1000000; decide, fun v hv => ?_⟩
  obtain ⟨s, rfl, s0, s1⟩ : ∃ s : Int, v = .int s ∧ 0 < s ∧ s ≤ 1000000000000 := by
    simp only [List.mem_cons, List.not_mem_nil, or_false] at hv
    rcases hv with rfl | rfl | rfl | rfl
    · exact ⟨_, rfl, by decide, by decide⟩
    · exact ⟨_, rfl, by decide, by decide⟩
    · exact ⟨_, rfl, by decide, by decide⟩
    · exact ⟨_, rfl, by omega, by omega⟩
  refine ⟨s, m + 4, rfl, rfl, s0, Bn.small (by omega) (by omega) (by decide), fun i i0 i1 => ?_⟩
  refine ⟨_, m + 3, rfl, rfl, by show 0 < 6; decide, by show 6 < 1000000; decide, fun v hv => ?_⟩
  obtain ⟨t, rfl, t0, t1⟩ : ∃ s : Int, v = .int s ∧ 0 < s ∧ s ≤ 16 := by
    simp only [List.mem_cons, List.not_mem_nil, or_false] at hv
    rcases hv with rfl | rfl | rfl | rfl | rfl | rfl <;> exact ⟨_, rfl, by decide, by decide⟩
  refine ⟨mo, m + 2, rfl, rfl, by omega, Bn.small (by omega) (by omega) (by decide), fun j j0 j1 => ?_⟩
  refine ⟨_, m + 1, rfl, rfl, by show 0 < 3; decide, by show 3 < 1000000; decide, fun v hv => ?_⟩
  obtain ⟨u, rfl, u0, u1⟩ : ∃ s : Int, v = .int s ∧ 0 < s ∧ s ≤ 1000000000001 := by
    simp only [List.mem_cons, List.not_mem_nil, or_false] at hv
    rcases hv with rfl | rfl | rfl
    · exact ⟨_, rfl, by omega, by omega⟩
    · exact ⟨_, rfl, by omega, by omega⟩
    · exact ⟨_, rfl, by omega, by omega⟩
  obtain ⟨l1, l2, l3, l4, l5⟩ := low_pos (n := 1 + i) (d := u) (by omega) u0
  refine ⟨1 + i, u, rfl, by omega, u0, Bn.small (by omega) (by omega) (by decide), 13, m, rfl, rfl, by decide, Bn.small (by decide) (by decide) (by decide), fun e e0 e1 => ?_⟩
  have bn : Bn 64 (low (1 + i) u).1 := Bn.small (by omega) (by omega) (by decide)
  have bd : Bn 64 (low (1 + i) u).2 := Bn.small (by omega) (by omega) (by decide)
  refine ⟨_, _, _, rfl, Int.le_of_lt l1, bn.mono (by decide), l2, bd.mono (by decide), by omega, by omega, ?_⟩
  obtain ⟨o1, o2, o3⟩ := scl_ok (e := e - 6) l1 l2
  obtain ⟨p1, p2⟩ := scl_B (e := e - 6) l1 l2 bn bd 80 (by omega) (by omega) (by decide) (by decide)
  exact h _ _ o1 p1 o2 p2 o3
section
variable {P : Program} {w : World} {K : Fg} {mg : Str → Option Value} {base : Heap}
theorem d__law_number (T : Tx w K mg) {cdv : Value} {A : Around} {outer : List Env} {s : Shared} {H : Hp} {E : XK} (hr : Room 3 (A.deeper (envOfC "_law_number" (defScope st__law_number) s.heap.objs.size T.f__law_number cdv))) (hgd : (A.deeper (envOfC "_law_number" (defScope st__law_number) s.heap.objs.size T.f__law_number cdv)).guards = some []) :
    PSs (cxOf CX0 P w K mg base N__law_number "_law_number" (defScope st__law_number) T.f__law_number cdv A outer s H E).nox (defBody st__law_number) (upS K W0 b__law_number) :=
  (ss_cons (s_par (i := 2) (j := 3) rfl sc__law_number.nd rfl rfl (by decide) rfl rfl (e_add e_int (e_call (ok__law_draw T) (hr.mono (by decide)) hgd (by rfl) T.g__law_draw T.F__law_draw.kp T.b__law_draw pass0 (a_cons (e_var 0 (pv 0)) (a_cons (e_call (ok__law_pick T) (hr.mono (by decide)) hgd (by rfl) T.g__law_pick T.F__law_pick.kp T.b__law_pick pass0 (a_cons (e_var 0 (pv 0)) (a_cons (e_fz (e_lstL (a_cons e_int (a_cons e_int (a_cons e_int (a_cons (e_var 1 (pv 1)) a_nil)))))) a_nil))) a_nil)))) (e_call (ok__law_pick T) (hr.mono (by decide)) hgd (by rfl) T.g__law_pick T.F__law_pick.kp T.b__law_pick pass0 (a_cons (e_var 0 (pv 0)) (a_cons (e_fz (e_lstL (a_cons e_int (a_cons e_int (a_cons e_int (a_cons e_int (a_cons e_int (a_cons e_int a_nil)))))))) a_nil))))
    (ss_cons (s_set (i := 3) sc__law_number.nd rfl (.inl rfl) (e_call (ok__law_pick T) (hr.mono (by decide)) hgd (by rfl) T.g__law_pick T.F__law_pick.kp T.b__law_pick pass0 (a_cons (e_var 0 (pv 0)) (a_cons (e_fz (e_lstL (a_cons (e_var 3 (pv 3)) (a_cons (e_var 3 (pv 3)) (a_cons (e_add e_int (e_call (ok__law_draw T) (hr.mono (by decide)) hgd (by rfl) T.g__law_draw T.F__law_draw.kp T.b__law_draw pass0 (a_cons (e_var 0 (pv 0)) (a_cons (e_var 1 (pv 1)) a_nil)))) a_nil))))) a_nil))))
    (ss_one (s_ret (e_call (ok__law_scaled T) (hr.mono (by decide)) hgd (by rfl) T.g__law_scaled T.F__law_scaled.kp T.b__law_scaled pass0 (a_cons (e_call (ok__law_low T) (hr.mono (by decide)) hgd (by rfl) T.g__law_low T.F__law_low.kp T.b__law_low pass0 (a_cons (e_var 2 (pv 2)) (a_cons (e_var 3 (pv 3)) a_nil))) (a_cons (e_sub (e_call (ok__law_draw T) (hr.mono (by decide)) hgd (by rfl) T.g__law_draw T.F__law_draw.kp T.b__law_draw pass0 (a_cons (e_var 0 (pv 0)) (a_cons e_int a_nil))) e_int) a_nil)))))))
theorem ok__law_number (T : Tx w K mg) : Fn P w K mg base CX0 4 T.f__law_number T.fd__law_number ["_law_source_here", "_law_most"] (lift K 2 fs__law_number) := fn_data T.F__law_number sc__law_number b__law_number (fun _ _ _ _ _ _ hr hgd => d__law_number T hr hgd) p__law_number
end
def b__law_rule : DS :=
  (dRet (dCall 2 fs__law_pick (dCons (dVar 0) (dCons (dFz (dLst (dCons (dC (.str "down")) (dCons (dC (.str "half_down")) (dCons (dC (.str "half_even")) (dCons (dC (.str "half_up")) (dCons (dC (.str "odd")) (dCons (dC (.str "up")) dNil)))))))) dNil))))
def ruD : List Da := [.str "down", .str "half_down", .str "half_even", .str "half_up", .str "odd", .str "up"]
theorem ru_memD {x : Da} (h : x ∈ ruD) : ∃ r : Ru, x = .str r.s := by
  simp only [ruD, List.mem_cons, List.not_mem_nil, or_false] at h
  rcases h with rfl | rfl | rfl | rfl | rfl | rfl
  · exact ⟨.dn, rfl⟩
  · exact ⟨.hd, rfl⟩
  · exact ⟨.he, rfl⟩
  · exact ⟨.hu, rfl⟩
  · exact ⟨.od, rfl⟩
  · exact ⟨.up, rfl⟩
def fs__law_rule : FSp := fun rs fu post => ∃ m : Nat, rs = [.src] ∧ fu = some (m + 1) ∧ ∀ r : Ru, post (.val (.str r.s)) (some m)
theorem p__law_rule (rs : List Rv) (fu : Option Nat) (post : Rr → Option Nat → Prop) (hl : rs.length = 1) (h : fs__law_rule rs fu post) : b__law_rule ⟨fun g => post (.val .none) g.fu, fun r g => post r g.fu, fun _ => False, fun _ => False⟩ (ent N__law_rule rs fu) := by
  obtain ⟨m, rfl, rfl, h⟩ := h
  simp only [↓dMHit,↓dMPutRet,↓dCallM,↓dPar3D,↓dMaxK,↓cMinDa,↓entM,↓dSeq,↓dAsg,↓dSetL,↓dNext,↓dIfS,↓dRet,↓dRetL,↓dDrop,↓dNever,↓dBrk,↓dAug,↓dPar,↓dParL,↓dApp,↓dVar,↓dC,↓dBin,↓fI,↓fI0,↓fAdd,↓fEq,↓fNe,↓fIn,↓dTest,↓dAndT,↓dOrT,↓dNotT,↓dAndV,↓dOrV,↓dNotV,↓dIf,↓dNeg,↓dIsN,↓dChain,↓dNil,↓dCons,↓dTup,↓dLst,↓dFz,↓valsD,↓dIx,↓dCall,↓dCallL,↓hasSrc,↓rrv,↓dN,↓dT,↓dTn,↓dTc,↓rsv,↓Gs.set,↓dFor,↓dItems,↓dRange1,↓dRange2,↓dZip,↓dLc,↓dCB,↓cLen,↓cAll,↓cTuple,↓cInt1,↓cInt2,↓dIsi,↓dBits,↓dCallS,↓oSub,↓oAddI,↓oMul,↓oDiv,↓oMod,↓oShl,↓oPow,↓oLt,↓oLe,↓oGt,↓oGe,↓oAbs,↓oMax,↓oMin,↓cMinL,↓fInD,↓dSl,↓oNo,↓oSo,↓dBy,↓fAddT,↓dSlT,↓dParR,↓dEnum,↓dRevL,↓gAs,↓Gs.unset,↓rtN,↓lamF,↓gLam,↓plainO,↓dGIx,↓dIxO,↓Z.isNon,b__law_rule,fs__law_pick,ent,svOf,List.map_cons,List.map_nil,List.cons_append,List.nil_append,List.append_nil,List.replicate,List.length_cons,List.length_nil,List.getElem?_cons_zero,List.getElem?_cons_succ,List.getElem?_nil,List.set_cons_zero,List.set_cons_succ,Option.map_some,Option.map_none,Option.isNone_some,Option.isNone_none,forall_const,true_implies,false_implies,and_true,true_and,Bool.true_eq_false,Bool.false_eq_true,reduceCtorEq,noOwn,wipeS,hide,fuN_self,lcD,dYes,Nat.zero_add,Nat.reduceAdd,Nat.reduceLeDiff,Nat.reduceSub,atI_0,atI_1,atI_2,atI_3,atI_4,atI_5,Int.one_mul,eqv_ii,eqv_ss,eqv_num,shaped_int,shaped_num,shaped_none,shaped_ru,flat_str,flat_int,flat_none,List.all_cons,List.all_nil,Bool.and_true,decide_eq_true_eq,decide_eq_false_iff_not,Bool.not_eq_true',Bool.not_eq_false',Decidable.not_not,↓reduceIte,Bool.false_eq_true,Int.reduceLT,eqv_strs,pick_0,pick_01,pick_10,pick_012,pick_021,pick_102,pick_120,pick_201,pick_210]
  refine ⟨_, m, rfl, rfl, by show 0 < 6; decide, by show 6 < 1000000; decide, fun v hv => ?_⟩
  obtain ⟨r, rfl⟩ := ru_memD hv
  exact h r
section
variable {P : Program} {w : World} {K : Fg} {mg : Str → Option Value} {base : Heap}
theorem d__law_rule (T : Tx w K mg) {cdv : Value} {A : Around} {outer : List Env} {s : Shared} {H : Hp} {E : XK} (hr : Room 2 (A.deeper (envOfC "_law_rule" (defScope st__law_rule) s.heap.objs.size T.f__law_rule cdv))) (hgd : (A.deeper (envOfC "_law_rule" (defScope st__law_rule) s.heap.objs.size T.f__law_rule cdv)).guards = some []) :
    PSs (cxOf CX0 P w K mg base N__law_rule "_law_rule" (defScope st__law_rule) T.f__law_rule cdv A outer s H E).nox (defBody st__law_rule) (upS K W0 b__law_rule) :=
  (ss_one (s_ret (e_call (ok__law_pick T) (hr.mono (by decide)) hgd (by rfl) T.g__law_pick T.F__law_pick.kp T.b__law_pick pass0 (a_cons (e_var 0 (pv 0)) (a_cons (e_fz (e_lstL (a_cons e_str (a_cons e_str (a_cons e_str (a_cons e_str (a_cons e_str (a_cons e_str a_nil)))))))) a_nil)))))
theorem ok__law_rule (T : Tx w K mg) : Fn P w K mg base CX0 3 T.f__law_rule T.fd__law_rule ["_law_source_here"] (lift K 1 fs__law_rule) := fn_data T.F__law_rule sc__law_rule b__law_rule (fun _ _ _ _ _ _ hr hgd => d__law_rule T hr hgd) p__law_rule
end
def b__law_falling : DS :=
  (dSeq (dParR 1 2 (dBin fAdd (dC (.int 2)) (dCall 2 fs__law_draw (dCons (dVar 0) (dCons (dC (.int 3)) dNil)))) (dLst dNil))
  (dSeq (dFor (dRange1 (dBin fAdd (dC (.int 1)) (dCall 2 fs__law_draw (dCons (dVar 0) (dCons (dC (.int 4)) dNil))))) (dN 3)
    (dSeq (dApp 2 (dTup (dCons (dVar 1) (dCons (dCall 1 fs__law_rule (dCons (dVar 0) dNil)) dNil))))
  (dAsg (dBin fAdd (dBin fAdd (dVar 1) (dC (.int 1))) (dCall 2 fs__law_draw (dCons (dVar 0) (dCons (dC (.int 3)) dNil)))) (dN 1))))
  (dRet (dCB cTuple (dCons (dRevL (dVar 2)) dNil)))))
structure Fc (c : List (Int × Ru)) : Prop where
  fall : Fall 14 c
  ne : c ≠ []
  len : c.length ≤ 4
  lo : ∀ s ∈ c, 2 ≤ s.1
def fs__law_falling : FSp := fun rs fu post => ∃ m : Nat, rs = [.src] ∧ fu = some m ∧ 10 ≤ m ∧ ∀ (c : List (Int × Ru)) (m' : Nat), m ≤ m' + 10 → Fc c → post (.val (chD c)) (some m')
theorem p__law_falling (rs : List Rv) (fu : Option Nat) (post : Rr → Option Nat → Prop) (hl : rs.length = 1) (h : fs__law_falling rs fu post) : b__law_falling ⟨fun g => post (.val .none) g.fu, fun r g => post r g.fu, fun _ => False, fun _ => False⟩ (ent N__law_falling rs fu) := by
  obtain ⟨m0, rfl, rfl, hm, h⟩ := h
  obtain ⟨m, rfl⟩ : ∃ m, m0 = m + 10 := ⟨m0 - 10, by omega⟩
  simp only [↓dMHit,↓dMPutRet,↓dCallM,↓dPar3D,↓dMaxK,↓cMinDa,↓entM,↓dSeq,↓dAsg,↓dSetL,↓dNext,↓dIfS,↓dRet,↓dRetL,↓dDrop,↓dNever,↓dBrk,↓dAug,↓dPar,↓dParL,↓dApp,↓dVar,↓dC,↓dBin,↓fI,↓fI0,↓fAdd,↓fEq,↓fNe,↓fIn,↓dTest,↓dAndT,↓dOrT,↓dNotT,↓dAndV,↓dOrV,↓dNotV,↓dIf,↓dNeg,↓dIsN,↓dChain,↓dNil,↓dCons,↓dTup,↓dLst,↓dFz,↓valsD,↓dIx,↓dCall,↓dCallL,↓hasSrc,↓rrv,↓dN,↓dT,↓dTn,↓dTc,↓rsv,↓Gs.set,↓dFor,↓dItems,↓dRange1,↓dRange2,↓dZip,↓dLc,↓dCB,↓cLen,↓cAll,↓cTuple,↓cInt1,↓cInt2,↓dIsi,↓dBits,↓dCallS,↓oSub,↓oAddI,↓oMul,↓oDiv,↓oMod,↓oShl,↓oPow,↓oLt,↓oLe,↓oGt,↓oGe,↓oAbs,↓oMax,↓oMin,↓cMinL,↓fInD,↓dSl,↓oNo,↓oSo,↓dBy,↓fAddT,↓dSlT,↓dParR,↓dEnum,↓dRevL,↓gAs,↓Gs.unset,↓rtN,↓lamF,↓gLam,↓plainO,↓dGIx,↓dIxO,↓Z.isNon,b__law_falling,fs__law_draw,ent,svOf,List.map_cons,List.map_nil,List.cons_append,List.nil_append,List.append_nil,List.replicate,List.length_cons,List.length_nil,List.getElem?_cons_zero,List.getElem?_cons_succ,List.getElem?_nil,List.set_cons_zero,List.set_cons_succ,Option.map_some,Option.map_none,Option.isNone_some,Option.isNone_none,forall_const,true_implies,false_implies,and_true,true_and,Bool.true_eq_false,Bool.false_eq_true,reduceCtorEq,noOwn,wipeS,hide,fuN_self,lcD,dYes,Nat.zero_add,Nat.reduceAdd,Nat.reduceLeDiff,Nat.reduceSub,atI_0,atI_1,atI_2,atI_3,atI_4,atI_5,Int.one_mul,eqv_ii,eqv_ss,eqv_num,shaped_int,shaped_num,shaped_none,shaped_ru,flat_str,flat_int,flat_none,List.all_cons,List.all_nil,Bool.and_true,decide_eq_true_eq,decide_eq_false_iff_not,Bool.not_eq_true',Bool.not_eq_false',Decidable.not_not,↓reduceIte,Bool.false_eq_true,Int.reduceLT,eqv_strs,pick_0,pick_01,pick_10,pick_012,pick_021,pick_102,pick_120,pick_201,pick_210]
  refine ⟨3, m + 9, rfl, rfl, by decide, Bn.small (by decide) (by decide) (by decide), fun i i0 i1 => ⟨4, m + 8, rfl, rfl, by decide, Bn.small (by decide) (by decide) (by decide), fun j j0 j1 => ⟨by omega, by omega, ?_⟩⟩⟩
  refine forD_ix (k := 0) (fun k g => ∃ (f : List (Int × Ru)) (w : Int) (m' : Nat) (t : Option Sv), g = ⟨[some .src, some (.val (.int w)), some (.own (f.map stD)), t], some m', false⟩ ∧ m + 8 ≤ m' + 2 * k ∧ f.length = k ∧ Fall w f.reverse ∧ (∀ s ∈ f, 2 ≤ s.1) ∧ 2 ≤ w ∧ w ≤ 4 + 3 * k ∧ (0 < k → w ≤ 5 + 3 * k ∧ ∀ s ∈ f, s.1 ≤ 1 + 3 * k)) (fun k x hx g hg N hN => ?_) (fun g hg => ?_) ⟨[], 2 + i, m + 8, _, rfl, by omega, rfl, trivial, (fun s hs => nomatch hs), by omega, by omega, (fun z => absurd z (by decide))⟩
  · obtain ⟨f, w, m', t, rfl, q1, q2, q3, q4, q5, q6, q7⟩ := hg
    have hk : k < 4 := by
      have := (List.getElem?_eq_some_iff.mp hx).1
      rw [rangeD_len] at this
      omega
    obtain ⟨m1, rfl⟩ : ∃ m1, m' = m1 + 2 := ⟨m' - 2, by omega⟩
    simp only [↓dMHit,↓dMPutRet,↓dCallM,↓dPar3D,↓dMaxK,↓cMinDa,↓entM,↓dSeq,↓dAsg,↓dSetL,↓dNext,↓dIfS,↓dRet,↓dRetL,↓dDrop,↓dNever,↓dBrk,↓dAug,↓dPar,↓dParL,↓dApp,↓dVar,↓dC,↓dBin,↓fI,↓fI0,↓fAdd,↓fEq,↓fNe,↓fIn,↓dTest,↓dAndT,↓dOrT,↓dNotT,↓dAndV,↓dOrV,↓dNotV,↓dIf,↓dNeg,↓dIsN,↓dChain,↓dNil,↓dCons,↓dTup,↓dLst,↓dFz,↓valsD,↓dIx,↓dCall,↓dCallL,↓hasSrc,↓rrv,↓dN,↓dT,↓dTn,↓dTc,↓rsv,↓Gs.set,↓dFor,↓dItems,↓dRange1,↓dRange2,↓dZip,↓dLc,↓dCB,↓cLen,↓cAll,↓cTuple,↓cInt1,↓cInt2,↓dIsi,↓dBits,↓dCallS,↓oSub,↓oAddI,↓oMul,↓oDiv,↓oMod,↓oShl,↓oPow,↓oLt,↓oLe,↓oGt,↓oGe,↓oAbs,↓oMax,↓oMin,↓cMinL,↓fInD,↓dSl,↓oNo,↓oSo,↓dBy,↓fAddT,↓dSlT,↓dParR,↓dEnum,↓dRevL,↓gAs,↓Gs.unset,↓rtN,↓lamF,↓gLam,↓plainO,↓dGIx,↓dIxO,↓Z.isNon,fs__law_draw,fs__law_rule,ent,svOf,List.map_cons,List.map_nil,List.cons_append,List.nil_append,List.append_nil,List.replicate,List.length_cons,List.length_nil,List.getElem?_cons_zero,List.getElem?_cons_succ,List.getElem?_nil,List.set_cons_zero,List.set_cons_succ,Option.map_some,Option.map_none,Option.isNone_some,Option.isNone_none,forall_const,true_implies,false_implies,and_true,true_and,Bool.true_eq_false,Bool.false_eq_true,reduceCtorEq,noOwn,wipeS,hide,fuN_self,lcD,dYes,Nat.zero_add,Nat.reduceAdd,Nat.reduceLeDiff,Nat.reduceSub,atI_0,atI_1,atI_2,atI_3,atI_4,atI_5,Int.one_mul,eqv_ii,eqv_ss,eqv_num,shaped_int,shaped_num,shaped_none,shaped_ru,flat_str,flat_int,flat_none,List.all_cons,List.all_nil,Bool.and_true,decide_eq_true_eq,decide_eq_false_iff_not,Bool.not_eq_true',Bool.not_eq_false',Decidable.not_not,↓reduceIte,Bool.false_eq_true,Int.reduceLT,eqv_strs,pick_0,pick_01,pick_10,pick_012,pick_021,pick_102,pick_120,pick_201,pick_210]
    refine ⟨⟨_, rfl⟩, m1 + 1, rfl, fun r1 => ⟨by rw [List.length_map]; omega, 3, m1, rfl, rfl, by decide, Bn.small (by decide) (by decide) (by decide), fun e e0 e1 => ?_⟩⟩
    refine hN _ ⟨f ++ [(w, r1)], w + 1 + e, m1, some (.val x), ?_, by omega, by rw [List.length_append]; simp; omega, ?_, fun s hs => ?_, by omega, by omega, fun _ => ⟨by omega, fun s hs => ?_⟩⟩
    · rw [List.map_append]
      rfl
    · rw [List.reverse_append]
      exact ⟨by omega, by show w < w + 1 + e; omega, q3⟩
    · rcases List.mem_append.mp hs with hs | hs
      · exact q4 s hs
      · rw [List.mem_singleton.mp hs]
        exact q5
    · rcases List.mem_append.mp hs with hs | hs
      · rcases Nat.eq_zero_or_pos k with z | z
        · subst z
          cases f with
          | nil => cases hs
          | cons a b => cases q2
        · have := (q7 (by omega)).2 s hs
          omega
      · rw [List.mem_singleton.mp hs]
        show w ≤ 1 + 3 * ((0 + k + 1 : Nat) : Int)
        omega
  · obtain ⟨f, w, m', t, rfl, q1, q2, q3, q4, q5, q6, q7⟩ := hg
    rw [rangeD_len] at q1 q2 q6 q7
    simp only [↓dMHit,↓dMPutRet,↓dCallM,↓dPar3D,↓dMaxK,↓cMinDa,↓entM,↓dSeq,↓dAsg,↓dSetL,↓dNext,↓dIfS,↓dRet,↓dRetL,↓dDrop,↓dNever,↓dBrk,↓dAug,↓dPar,↓dParL,↓dApp,↓dVar,↓dC,↓dBin,↓fI,↓fI0,↓fAdd,↓fEq,↓fNe,↓fIn,↓dTest,↓dAndT,↓dOrT,↓dNotT,↓dAndV,↓dOrV,↓dNotV,↓dIf,↓dNeg,↓dIsN,↓dChain,↓dNil,↓dCons,↓dTup,↓dLst,↓dFz,↓valsD,↓dIx,↓dCall,↓dCallL,↓hasSrc,↓rrv,↓dN,↓dT,↓dTn,↓dTc,↓rsv,↓Gs.set,↓dFor,↓dItems,↓dRange1,↓dRange2,↓dZip,↓dLc,↓dCB,↓cLen,↓cAll,↓cTuple,↓cInt1,↓cInt2,↓dIsi,↓dBits,↓dCallS,↓oSub,↓oAddI,↓oMul,↓oDiv,↓oMod,↓oShl,↓oPow,↓oLt,↓oLe,↓oGt,↓oGe,↓oAbs,↓oMax,↓oMin,↓cMinL,↓fInD,↓dSl,↓oNo,↓oSo,↓dBy,↓fAddT,↓dSlT,↓dParR,↓dEnum,↓dRevL,↓gAs,↓Gs.unset,↓rtN,↓lamF,↓gLam,↓plainO,↓dGIx,↓dIxO,↓Z.isNon,ent,svOf,List.map_cons,List.map_nil,List.cons_append,List.nil_append,List.append_nil,List.replicate,List.length_cons,List.length_nil,List.getElem?_cons_zero,List.getElem?_cons_succ,List.getElem?_nil,List.set_cons_zero,List.set_cons_succ,Option.map_some,Option.map_none,Option.isNone_some,Option.isNone_none,forall_const,true_implies,false_implies,and_true,true_and,Bool.true_eq_false,Bool.false_eq_true,reduceCtorEq,noOwn,wipeS,hide,fuN_self,lcD,dYes,Nat.zero_add,Nat.reduceAdd,Nat.reduceLeDiff,Nat.reduceSub,atI_0,atI_1,atI_2,atI_3,atI_4,atI_5,Int.one_mul,eqv_ii,eqv_ss,eqv_num,shaped_int,shaped_num,shaped_none,shaped_ru,flat_str,flat_int,flat_none,List.all_cons,List.all_nil,Bool.and_true,decide_eq_true_eq,decide_eq_false_iff_not,Bool.not_eq_true',Bool.not_eq_false',Decidable.not_not,↓reduceIte,Bool.false_eq_true,Int.reduceLT,eqv_strs,pick_0,pick_01,pick_10,pick_012,pick_021,pick_102,pick_120,pick_201,pick_210]
    rw [← List.map_reverse]
    refine h f.reverse m' (by omega) ⟨?_, ?_, ?_, fun s hs => q4 s (List.mem_reverse.mp hs)⟩
    · have hb := (q7 (by omega)).2
      have hr : ∀ s ∈ f.reverse, s.1 ≤ 13 := fun s hs => by have := hb s (List.mem_reverse.mp hs); omega
      generalize f.reverse = c at q3 hr
      cases c with
      | nil => trivial
      | cons s c => exact ⟨q3.1, by have := hr s (List.mem_cons_self ..); omega, q3.2.2⟩
    · intro z
      rw [List.reverse_eq_nil_iff] at z
      rw [z] at q2
      simp at q2
      omega
    · rw [List.length_reverse]
      omega
section
variable {P : Program} {w : World} {K : Fg} {mg : Str → Option Value} {base : Heap}
theorem d__law_falling (T : Tx w K mg) {cdv : Value} {A : Around} {outer : List Env} {s : Shared} {H : Hp} {E : XK} (hr : Room 3 (A.deeper (envOfC "_law_falling" (defScope st__law_falling) s.heap.objs.size T.f__law_falling cdv))) (hgd : (A.deeper (envOfC "_law_falling" (defScope st__law_falling) s.heap.objs.size T.f__law_falling cdv)).guards = some []) :
    PSs (cxOf CX0 P w K mg base N__law_falling "_law_falling" (defScope st__law_falling) T.f__law_falling cdv A outer s H E).nox (defBody st__law_falling) (upS K W0 b__law_falling) :=
  (ss_cons (s_parR (i := 1) (j := 2) rfl sc__law_falling.nd rfl rfl (by decide) rfl rfl (e_add e_int (e_call (ok__law_draw T) (hr.mono (by decide)) hgd (by rfl) T.g__law_draw T.F__law_draw.kp T.b__law_draw pass0 (a_cons (e_var 0 (pv 0)) (a_cons e_int a_nil)))) (e_lstL a_nil))
    (ss_cons (s_for PassesOwn.never rfl (i_range1 (by rfl) T.n_range (e_add e_int (e_call (ok__law_draw T) (hr.mono (by decide)) hgd (by rfl) T.g__law_draw T.F__law_draw.kp T.b__law_draw pass0 (a_cons (e_var 0 (pv 0)) (a_cons e_int a_nil))))) (g_name (pg_name (i := 3) sc__law_falling.nd rfl (.inl rfl))) (ss_cons (s_app (name := "x") (pv 2) (e_tup (a_cons (e_var 1 (pv 1)) (a_cons (e_call (ok__law_rule T) (hr.mono (by decide)) hgd (by rfl) T.g__law_rule T.F__law_rule.kp T.b__law_rule pass0 (a_cons (e_var 0 (pv 0)) a_nil)) a_nil))) (fun h => pe_bm PySem.F.plainAttrs_list PySem.F.slot_list_append PySem.F.type_list_append mt_append (pv 2) h))
    (ss_one (s_set (i := 1) sc__law_falling.nd rfl (.inl rfl) (e_add (e_add (e_var 1 (pv 1)) e_int) (e_call (ok__law_draw T) (hr.mono (by decide)) hgd (by rfl) T.g__law_draw T.F__law_draw.kp T.b__law_draw pass0 (a_cons (e_var 0 (pv 0)) (a_cons e_int a_nil))))))))
    (ss_one (s_ret (e_tuple (by rfl) T.n_tuple (a_cons (e_revL (e_var 2 (pv 2))) a_nil))))))
theorem ok__law_falling (T : Tx w K mg) : Fn P w K mg base CX0 4 T.f__law_falling T.fd__law_falling ["_law_source_here"] (lift K 1 fs__law_falling) := fn_data T.F__law_falling sc__law_falling b__law_falling (fun _ _ _ _ _ _ hr hgd => d__law_falling T hr hgd) p__law_falling
end
def b__law_longer : DS :=
  (dSeq (dFor (dRange1 (dCall 2 fs__law_draw (dCons (dVar 0) (dCons (dC (.int 7)) dNil)))) (dN 2)
    (dSeq (dAsg (dBin fAdd (dC (.int 1)) (dCall 2 fs__law_draw (dCons (dVar 0) (dCons (dCB cLen (dCons (dVar 1) dNil)) dNil)))) (dN 3))
  (dSeq (dAsg (dCB cMinL (dCons (dFz (dLc [5, 6] (dItems (dSlT (dVar 1) oNo (oSo (dVar 3)))) (dT 2 (dTc (dN 5) (dTc (dN 6) dTn))) dYes (dVar 5))) dNil)) (dN 4))
  (dAsg (dBin fAddT (dBin fAddT (dSlT (dVar 1) oNo (oSo (dVar 3))) (dTup (dCons (dTup (dCons (dBin fAdd (dVar 4) (dCall 2 fs__law_draw (dCons (dVar 0) (dCons (dC (.int 4)) dNil)))) (dCons (dCall 1 fs__law_rule (dCons (dVar 0) dNil)) dNil))) dNil))) (dSlT (dVar 1) (oSo (dVar 3)) oNo)) (dN 1)))))
  (dRet (dVar 1)))
/-- steps that change nothing may stand in a chain -/
theorem trim_ins {x : Int} {r : Ru} {b : List (Int × Ru)} : ∀ (a : List (Int × Ru)) (l : Int), (l ≤ x ∨ ∃ s ∈ a, s.1 ≤ x) → trimI (some l) (a ++ (x, r) :: b) = trimI (some l) (a ++ b)
  | [], l, h => by
    have hl : l ≤ x := by
      rcases h with h | ⟨s, hs, _⟩
      · exact h
      · cases hs
    show trimI (some l) ((x, r) :: b) = trimI (some l) b
    rw [trimI, if_neg (by show ¬x < l; omega)]
  | s :: a, l, h => by
    show trimI (some l) (s :: (a ++ (x, r) :: b)) = trimI (some l) (s :: (a ++ b))
    rw [trimI, trimI]
    by_cases q : s.1 < l
    · rw [if_pos q, if_pos q, trim_ins a s.1]
      rcases h with h | ⟨t, ht, h⟩
      · exact .inl (by omega)
      · rcases List.mem_cons.mp ht with e | ht
        · rw [e] at h; exact .inl h
        · exact .inr ⟨t, ht, h⟩
    · rw [if_neg q, if_neg q, trim_ins a l]
      rcases h with h | ⟨t, ht, h⟩
      · exact .inl h
      · rcases List.mem_cons.mp ht with e | ht
        · rw [e] at h; exact .inl (by omega)
        · exact .inr ⟨t, ht, h⟩
theorem trim_ins0 {x : Int} {r : Ru} {a b : List (Int × Ru)} (h : ∃ s ∈ a, s.1 ≤ x) : trimI none (a ++ (x, r) :: b) = trimI none (a ++ b) := by
  obtain ⟨s, hs, h⟩ := h
  cases a with
  | nil => cases hs
  | cons t a =>
    show trimI none (t :: (a ++ (x, r) :: b)) = trimI none (t :: (a ++ b))
    rw [trimI, trimI, trim_ins a t.1]
    rcases List.mem_cons.mp hs with e | hs
    · rw [e] at h; exact .inl h
    · exact .inr ⟨s, hs, h⟩
/-- a chain with steps more -/
structure Lg (c c' : List (Int × Ru)) (k : Nat) : Prop where
  t : trimI none c' = trimI none c
  len : c'.length ≤ c.length + k
  pos : 1 ≤ c'.length
  w : ∀ s ∈ c', 2 ≤ s.1 ∧ s.1 ≤ 16
  hd : ∀ s ∈ c'.head?, s.1 ≤ 13
def fs__law_longer : FSp := fun rs fu post => ∃ (c : List (Int × Ru)) (m : Nat), rs = [.src, .val (chD c)] ∧ fu = some m ∧ 19 ≤ m ∧ Fc c ∧ ∀ (c' : List (Int × Ru)) (m' : Nat), m ≤ m' + 19 → Lg c c' 6 → post (.val (chD c')) (some m')
theorem p__law_longer (rs : List Rv) (fu : Option Nat) (post : Rr → Option Nat → Prop) (hl : rs.length = 2) (h : fs__law_longer rs fu post) : b__law_longer ⟨fun g => post (.val .none) g.fu, fun r g => post r g.fu, fun _ => False, fun _ => False⟩ (ent N__law_longer rs fu) := by
  obtain ⟨c, m0, rfl, rfl, hm, hc, h⟩ := h
  obtain ⟨m, rfl⟩ : ∃ m, m0 = m + 19 := ⟨m0 - 19, by omega⟩
  have hf : ∀ s ∈ c, s.1 ≤ 13 := by
    have : ∀ (c : List (Int × Ru)) (w : Int), Fall w c → w ≤ 14 → ∀ s ∈ c, s.1 ≤ 13 := fun c => by
      induction c with
      | nil => exact fun w _ _ s hs => nomatch hs
      | cons a c ih =>
        intro w q qw s hs
        rcases List.mem_cons.mp hs with e | hs
        · rw [e]; have := q.2.1; omega
        · exact ih a.1 q.2.2 (by have := q.2.1; omega) s hs
    exact this c 14 hc.fall (by decide)
  simp only [↓dMHit,↓dMPutRet,↓dCallM,↓dPar3D,↓dMaxK,↓cMinDa,↓entM,↓dSeq,↓dAsg,↓dSetL,↓dNext,↓dIfS,↓dRet,↓dRetL,↓dDrop,↓dNever,↓dBrk,↓dAug,↓dPar,↓dParL,↓dApp,↓dVar,↓dC,↓dBin,↓fI,↓fI0,↓fAdd,↓fEq,↓fNe,↓fIn,↓dTest,↓dAndT,↓dOrT,↓dNotT,↓dAndV,↓dOrV,↓dNotV,↓dIf,↓dNeg,↓dIsN,↓dChain,↓dNil,↓dCons,↓dTup,↓dLst,↓dFz,↓valsD,↓dIx,↓dCall,↓dCallL,↓hasSrc,↓rrv,↓dN,↓dT,↓dTn,↓dTc,↓rsv,↓Gs.set,↓dFor,↓dItems,↓dRange1,↓dRange2,↓dZip,↓dLc,↓dCB,↓cLen,↓cAll,↓cTuple,↓cInt1,↓cInt2,↓dIsi,↓dBits,↓dCallS,↓oSub,↓oAddI,↓oMul,↓oDiv,↓oMod,↓oShl,↓oPow,↓oLt,↓oLe,↓oGt,↓oGe,↓oAbs,↓oMax,↓oMin,↓cMinL,↓fInD,↓dSl,↓oNo,↓oSo,↓dBy,↓fAddT,↓dSlT,↓dParR,↓dEnum,↓dRevL,↓gAs,↓Gs.unset,↓rtN,↓lamF,↓gLam,↓plainO,↓dGIx,↓dIxO,↓Z.isNon,b__law_longer,fs__law_draw,ent,svOf,List.map_cons,List.map_nil,List.cons_append,List.nil_append,List.append_nil,List.replicate,List.length_cons,List.length_nil,List.getElem?_cons_zero,List.getElem?_cons_succ,List.getElem?_nil,List.set_cons_zero,List.set_cons_succ,Option.map_some,Option.map_none,Option.isNone_some,Option.isNone_none,forall_const,true_implies,false_implies,and_true,true_and,Bool.true_eq_false,Bool.false_eq_true,reduceCtorEq,noOwn,wipeS,hide,fuN_self,lcD,dYes,Nat.zero_add,Nat.reduceAdd,Nat.reduceLeDiff,Nat.reduceSub,atI_0,atI_1,atI_2,atI_3,atI_4,atI_5,Int.one_mul,eqv_ii,eqv_ss,eqv_num,shaped_int,shaped_num,shaped_none,shaped_ru,flat_str,flat_int,flat_none,List.all_cons,List.all_nil,Bool.and_true,decide_eq_true_eq,decide_eq_false_iff_not,Bool.not_eq_true',Bool.not_eq_false',Decidable.not_not,↓reduceIte,Bool.false_eq_true,Int.reduceLT,eqv_strs,pick_0,pick_01,pick_10,pick_012,pick_021,pick_102,pick_120,pick_201,pick_210]
  refine ⟨7, m + 18, rfl, rfl, by decide, Bn.small (by decide) (by decide) (by decide), fun i i0 i1 => ⟨by omega, by omega, ?_⟩⟩
  refine forD_ix (k := 0) (fun k g => ∃ (c' : List (Int × Ru)) (m' : Nat) (t2 t3 t4 : Option Sv), g = ⟨[some .src, some (.val (chD c')), t2, t3, t4, none, none], some m', false⟩ ∧ m + 18 ≤ m' + 3 * k ∧ Lg c c' k) (fun k x hx g hg N hN => ?_) (fun g hg => ?_) ⟨c, m + 18, _, _, _, rfl, by omega, rfl, Nat.le_refl _, List.length_pos_iff.mpr hc.ne, fun s hs => ⟨hc.lo s hs, by have := hf s hs; omega⟩, fun s hs => hf s (List.mem_of_mem_head? hs)⟩
  · obtain ⟨c', m', t2, t3, t4, rfl, q1, q2⟩ := hg
    have hk : k < 6 := by
      have := (List.getElem?_eq_some_iff.mp hx).1
      rw [rangeD_len] at this
      omega
    obtain ⟨m1, rfl⟩ : ∃ m1, m' = m1 + 3 := ⟨m' - 3, by omega⟩
    have hlen := q2.len
    have hpos := q2.pos
    have hl4 := hc.len
    unfold chD
    simp only [↓dMHit,↓dMPutRet,↓dCallM,↓dPar3D,↓dMaxK,↓cMinDa,↓entM,↓dSeq,↓dAsg,↓dSetL,↓dNext,↓dIfS,↓dRet,↓dRetL,↓dDrop,↓dNever,↓dBrk,↓dAug,↓dPar,↓dParL,↓dApp,↓dVar,↓dC,↓dBin,↓fI,↓fI0,↓fAdd,↓fEq,↓fNe,↓fIn,↓dTest,↓dAndT,↓dOrT,↓dNotT,↓dAndV,↓dOrV,↓dNotV,↓dIf,↓dNeg,↓dIsN,↓dChain,↓dNil,↓dCons,↓dTup,↓dLst,↓dFz,↓valsD,↓dIx,↓dCall,↓dCallL,↓hasSrc,↓rrv,↓dN,↓dT,↓dTn,↓dTc,↓rsv,↓Gs.set,↓dFor,↓dItems,↓dRange1,↓dRange2,↓dZip,↓dLc,↓dCB,↓cLen,↓cAll,↓cTuple,↓cInt1,↓cInt2,↓dIsi,↓dBits,↓dCallS,↓oSub,↓oAddI,↓oMul,↓oDiv,↓oMod,↓oShl,↓oPow,↓oLt,↓oLe,↓oGt,↓oGe,↓oAbs,↓oMax,↓oMin,↓cMinL,↓fInD,↓dSl,↓oNo,↓oSo,↓dBy,↓fAddT,↓dSlT,↓dParR,↓dEnum,↓dRevL,↓gAs,↓Gs.unset,↓rtN,↓lamF,↓gLam,↓plainO,↓dGIx,↓dIxO,↓Z.isNon,fs__law_draw,fs__law_rule,ent,svOf,List.map_cons,List.map_nil,List.cons_append,List.nil_append,List.append_nil,List.replicate,List.length_cons,List.length_nil,List.getElem?_cons_zero,List.getElem?_cons_succ,List.getElem?_nil,List.set_cons_zero,List.set_cons_succ,Option.map_some,Option.map_none,Option.isNone_some,Option.isNone_none,forall_const,true_implies,false_implies,and_true,true_and,Bool.true_eq_false,Bool.false_eq_true,reduceCtorEq,noOwn,wipeS,hide,fuN_self,lcD,dYes,Nat.zero_add,Nat.reduceAdd,Nat.reduceLeDiff,Nat.reduceSub,atI_0,atI_1,atI_2,atI_3,atI_4,atI_5,Int.one_mul,eqv_ii,eqv_ss,eqv_num,shaped_int,shaped_num,shaped_none,shaped_ru,flat_str,flat_int,flat_none,List.all_cons,List.all_nil,Bool.and_true,decide_eq_true_eq,decide_eq_false_iff_not,Bool.not_eq_true',Bool.not_eq_false',Decidable.not_not,↓reduceIte,Bool.false_eq_true,Int.reduceLT,eqv_strs,pick_0,pick_01,pick_10,pick_012,pick_021,pick_102,pick_120,pick_201,pick_210]
    rw [List.length_map]
    refine ⟨_, m1 + 2, rfl, rfl, by omega, Bn.small (by omega) (by omega) (by decide), fun j j0 j1 => ?_⟩
    obtain ⟨a, ha⟩ : ∃ a : Nat, 1 + j = (a : Int) := ⟨(1 + j).toNat, by omega⟩
    rw [ha, cut_to (by rw [List.length_map]; omega), cut_from (by rw [List.length_map]; omega), ← List.map_take, ← List.map_drop]
    refine lc_mapT (fun d => match d with | .tuple [.int w, r] => .int w | _ => .none) (fun y hy R N hR => ?_) (by simp; omega) ?_
    · obtain ⟨s, hs, rfl⟩ := List.mem_map.mp hy
      unfold stD at hR ⊢
      simp only [↓dMHit,↓dMPutRet,↓dCallM,↓dPar3D,↓dMaxK,↓cMinDa,↓entM,↓dSeq,↓dAsg,↓dSetL,↓dNext,↓dIfS,↓dRet,↓dRetL,↓dDrop,↓dNever,↓dBrk,↓dAug,↓dPar,↓dParL,↓dApp,↓dVar,↓dC,↓dBin,↓fI,↓fI0,↓fAdd,↓fEq,↓fNe,↓fIn,↓dTest,↓dAndT,↓dOrT,↓dNotT,↓dAndV,↓dOrV,↓dNotV,↓dIf,↓dNeg,↓dIsN,↓dChain,↓dNil,↓dCons,↓dTup,↓dLst,↓dFz,↓valsD,↓dIx,↓dCall,↓dCallL,↓hasSrc,↓rrv,↓dN,↓dT,↓dTn,↓dTc,↓rsv,↓Gs.set,↓dFor,↓dItems,↓dRange1,↓dRange2,↓dZip,↓dLc,↓dCB,↓cLen,↓cAll,↓cTuple,↓cInt1,↓cInt2,↓dIsi,↓dBits,↓dCallS,↓oSub,↓oAddI,↓oMul,↓oDiv,↓oMod,↓oShl,↓oPow,↓oLt,↓oLe,↓oGt,↓oGe,↓oAbs,↓oMax,↓oMin,↓cMinL,↓fInD,↓dSl,↓oNo,↓oSo,↓dBy,↓fAddT,↓dSlT,↓dParR,↓dEnum,↓dRevL,↓gAs,↓Gs.unset,↓rtN,↓lamF,↓gLam,↓plainO,↓dGIx,↓dIxO,↓Z.isNon,ent,svOf,List.map_cons,List.map_nil,List.cons_append,List.nil_append,List.append_nil,List.replicate,List.length_cons,List.length_nil,List.getElem?_cons_zero,List.getElem?_cons_succ,List.getElem?_nil,List.set_cons_zero,List.set_cons_succ,Option.map_some,Option.map_none,Option.isNone_some,Option.isNone_none,forall_const,true_implies,false_implies,and_true,true_and,Bool.true_eq_false,Bool.false_eq_true,reduceCtorEq,noOwn,wipeS,hide,fuN_self,lcD,dYes,Nat.zero_add,Nat.reduceAdd,Nat.reduceLeDiff,Nat.reduceSub,atI_0,atI_1,atI_2,atI_3,atI_4,atI_5,Int.one_mul,eqv_ii,eqv_ss,eqv_num,shaped_int,shaped_num,shaped_none,shaped_ru,flat_str,flat_int,flat_none,List.all_cons,List.all_nil,Bool.and_true,decide_eq_true_eq,decide_eq_false_iff_not,Bool.not_eq_true',Bool.not_eq_false',Decidable.not_not,↓reduceIte,Bool.false_eq_true,Int.reduceLT,eqv_strs,pick_0,pick_01,pick_10,pick_012,pick_021,pick_102,pick_120,pick_201,pick_210]
      exact hR _ rfl
    · have e : List.map (fun d => match d with | .tuple [.int w, r] => PyData.int w | _ => .none) ((c'.take a).map stD) = ((c'.take a).map Prod.fst).map PyData.int := by
        rw [List.map_map, List.map_map]
        rfl
      rw [List.nil_append, e, intsD_map]
      have hta : (c'.take a).length = a := by rw [List.length_take]; omega
      refine ⟨by rw [List.length_map, hta]; omega, fun b hb hmin => ?_⟩
      obtain ⟨s, hs, rfl⟩ := List.mem_map.mp hb
      have hsw := q2.w s (List.mem_of_mem_take hs)
      obtain ⟨p, hp⟩ : ∃ p, c'.head? = some p := by
        cases c' with
        | nil => simp at hpos
        | cons p c' => exact ⟨p, rfl⟩
      have hp1 := q2.hd p hp
      have hp2 : p ∈ c'.take a := by
        cases c' with
        | nil => cases hp
        | cons q c' =>
          cases hp
          obtain ⟨a', rfl⟩ : ∃ a', a = a' + 1 := ⟨a - 1, by omega⟩
          exact List.mem_cons_self ..
      have hsp := hmin p.1 (List.mem_map_of_mem hp2)
      refine ⟨4, m1 + 1, rfl, rfl, by decide, Bn.small (by decide) (by decide) (by decide), fun e e0 e1 => ⟨m1, rfl, fun r1 => ⟨by simp [sizeLine_eq]; omega, by simp [sizeLine_eq]; omega, ?_⟩⟩⟩
      refine hN _ ⟨c'.take a ++ (s.1 + e, r1) :: c'.drop a, m1, some (.val x), some (.val (.int a)), some (.val (.int s.1)), ?_, by omega, ⟨?_, ?_, ?_, fun u hu => ?_, fun u hu => ?_⟩⟩
      · have ec : chD (c'.take a ++ (s.1 + e, r1) :: c'.drop a) = .tuple ((c'.take a).map stD ++ [.tuple [.int (s.1 + e), .str r1.s]] ++ (c'.drop a).map stD) := by
          unfold chD
          rw [List.map_append, List.map_cons, List.append_assoc]
          rfl
        rw [ec]
      · rw [trim_ins0 ⟨s, hs, by omega⟩, List.take_append_drop]
        exact q2.t
      · rw [List.length_append, List.length_cons, List.length_drop, hta]
        omega
      · rw [List.length_append, List.length_cons]
        omega
      · rcases List.mem_append.mp hu with hu | hu
        · exact q2.w u (List.mem_of_mem_take hu)
        · rcases List.mem_cons.mp hu with hu | hu
          · rw [hu]
            exact ⟨by show 2 ≤ s.1 + e; omega, by show s.1 + e ≤ 16; omega⟩
          · exact q2.w u (List.mem_of_mem_drop hu)
      · refine q2.hd u ?_
        cases c' with
        | nil => cases hp
        | cons q c' =>
          obtain ⟨a', rfl⟩ : ∃ a', a = a' + 1 := ⟨a - 1, by omega⟩
          exact hu
  · obtain ⟨c', m', t2, t3, t4, rfl, q1, q2⟩ := hg
    rw [rangeD_len] at q1 q2
    simp only [↓dMHit,↓dMPutRet,↓dCallM,↓dPar3D,↓dMaxK,↓cMinDa,↓entM,↓dSeq,↓dAsg,↓dSetL,↓dNext,↓dIfS,↓dRet,↓dRetL,↓dDrop,↓dNever,↓dBrk,↓dAug,↓dPar,↓dParL,↓dApp,↓dVar,↓dC,↓dBin,↓fI,↓fI0,↓fAdd,↓fEq,↓fNe,↓fIn,↓dTest,↓dAndT,↓dOrT,↓dNotT,↓dAndV,↓dOrV,↓dNotV,↓dIf,↓dNeg,↓dIsN,↓dChain,↓dNil,↓dCons,↓dTup,↓dLst,↓dFz,↓valsD,↓dIx,↓dCall,↓dCallL,↓hasSrc,↓rrv,↓dN,↓dT,↓dTn,↓dTc,↓rsv,↓Gs.set,↓dFor,↓dItems,↓dRange1,↓dRange2,↓dZip,↓dLc,↓dCB,↓cLen,↓cAll,↓cTuple,↓cInt1,↓cInt2,↓dIsi,↓dBits,↓dCallS,↓oSub,↓oAddI,↓oMul,↓oDiv,↓oMod,↓oShl,↓oPow,↓oLt,↓oLe,↓oGt,↓oGe,↓oAbs,↓oMax,↓oMin,↓cMinL,↓fInD,↓dSl,↓oNo,↓oSo,↓dBy,↓fAddT,↓dSlT,↓dParR,↓dEnum,↓dRevL,↓gAs,↓Gs.unset,↓rtN,↓lamF,↓gLam,↓plainO,↓dGIx,↓dIxO,↓Z.isNon,ent,svOf,List.map_cons,List.map_nil,List.cons_append,List.nil_append,List.append_nil,List.replicate,List.length_cons,List.length_nil,List.getElem?_cons_zero,List.getElem?_cons_succ,List.getElem?_nil,List.set_cons_zero,List.set_cons_succ,Option.map_some,Option.map_none,Option.isNone_some,Option.isNone_none,forall_const,true_implies,false_implies,and_true,true_and,Bool.true_eq_false,Bool.false_eq_true,reduceCtorEq,noOwn,wipeS,hide,fuN_self,lcD,dYes,Nat.zero_add,Nat.reduceAdd,Nat.reduceLeDiff,Nat.reduceSub,atI_0,atI_1,atI_2,atI_3,atI_4,atI_5,Int.one_mul,eqv_ii,eqv_ss,eqv_num,shaped_int,shaped_num,shaped_none,shaped_ru,flat_str,flat_int,flat_none,List.all_cons,List.all_nil,Bool.and_true,decide_eq_true_eq,decide_eq_false_iff_not,Bool.not_eq_true',Bool.not_eq_false',Decidable.not_not,↓reduceIte,Bool.false_eq_true,Int.reduceLT,eqv_strs,pick_0,pick_01,pick_10,pick_012,pick_021,pick_102,pick_120,pick_201,pick_210]
    have hl : ((i - 0).toNat) ≤ 6 := by omega
    exact h c' m' (by omega) ⟨q2.t, by have := q2.len; omega, q2.pos, q2.w, q2.hd⟩
section
variable {P : Program} {w : World} {K : Fg} {mg : Str → Option Value} {base : Heap}
theorem d__law_longer (T : Tx w K mg) {cdv : Value} {A : Around} {outer : List Env} {s : Shared} {H : Hp} {E : XK} (hr : Room 3 (A.deeper (envOfC "_law_longer" (defScope st__law_longer) s.heap.objs.size T.f__law_longer cdv))) (hgd : (A.deeper (envOfC "_law_longer" (defScope st__law_longer) s.heap.objs.size T.f__law_longer cdv)).guards = some []) :
    PSs (cxOf CX0 P w K mg base N__law_longer "_law_longer" (defScope st__law_longer) T.f__law_longer cdv A outer s H E).nox (defBody st__law_longer) (upS K W0 b__law_longer) :=
  (ss_cons (s_for PassesOwn.never rfl (i_range1 (by rfl) T.n_range (e_call (ok__law_draw T) (hr.mono (by decide)) hgd (by rfl) T.g__law_draw T.F__law_draw.kp T.b__law_draw pass0 (a_cons (e_var 0 (pv 0)) (a_cons e_int a_nil)))) (g_name (pg_name (i := 2) sc__law_longer.nd rfl (.inl rfl))) (ss_cons (s_set (i := 3) sc__law_longer.nd rfl (.inl rfl) (e_add e_int (e_call (ok__law_draw T) (hr.mono (by decide)) hgd (by rfl) T.g__law_draw T.F__law_draw.kp T.b__law_draw pass0 (a_cons (e_var 0 (pv 0)) (a_cons (e_len (by rfl) T.n_len (a_cons (e_var 1 (pv 1)) a_nil)) a_nil)))))
    (ss_cons (s_set (i := 4) sc__law_longer.nd rfl (.inl rfl) (e_minL rfl (by rfl) T.n_min (a_cons (e_fz (e_lc (own := [("_law_wide", 5), ("_law_mode", 6)]) rfl sc__law_longer.nd (i_items (e_slT (e_var 1 (pv 1)) o_none (o_some (e_var 3 (pv 3))))) (blkOk_by (own := [("_law_wide", 5), ("_law_mode", 6)]) (N := N__law_longer) (sc := defScope st__law_longer) (by decide +kernel)) (fun _ _ _ _ _ => (gw_tup rfl rfl (gsw_cons (gw_name rfl (pg_name (i := 5) sc__law_longer.nd rfl (.inl rfl)) (by decide)) (gsw_cons (gw_name rfl (pg_name (i := 6) sc__law_longer.nd rfl (.inl rfl)) (by decide)) gsw_nil)))) (fun _ _ _ _ _ => ts_yes) (fun _ _ _ _ _ => (e_var 5 (pv 5))))) a_nil)))
    (ss_one (s_set (i := 1) sc__law_longer.nd rfl (.inl rfl) (e_addT (e_addT (e_slT (e_var 1 (pv 1)) o_none (o_some (e_var 3 (pv 3)))) (e_tup (a_cons (e_tup (a_cons (e_add (e_var 4 (pv 4)) (e_call (ok__law_draw T) (hr.mono (by decide)) hgd (by rfl) T.g__law_draw T.F__law_draw.kp T.b__law_draw pass0 (a_cons (e_var 0 (pv 0)) (a_cons e_int a_nil)))) (a_cons (e_call (ok__law_rule T) (hr.mono (by decide)) hgd (by rfl) T.g__law_rule T.F__law_rule.kp T.b__law_rule pass0 (a_cons (e_var 0 (pv 0)) a_nil)) a_nil))) a_nil))) (e_slT (e_var 1 (pv 1)) (o_some (e_var 3 (pv 3))) o_none)))))))
    (ss_one (s_ret (e_var 1 (pv 1)))))
theorem ok__law_longer (T : Tx w K mg) : Fn P w K mg base CX0 4 T.f__law_longer T.fd__law_longer ["_law_source_here", "_law_steps"] (lift K 2 fs__law_longer) := fn_data T.F__law_longer sc__law_longer b__law_longer (fun _ _ _ _ _ _ hr hgd => d__law_longer T hr hgd) p__law_longer
end
def b__law_right : DS :=
  (dSeq (dFor (dRange1 (dC (.int 10))) (dN 1)
    (dSeq (dAsg (dCall 1 fs__law_falling (dCons (dVar 0) dNil)) (dN 2))
  (dSeq (dAsg (dCall 2 fs__law_longer (dCons (dVar 0) (dCons (dVar 2) dNil))) (dN 3))
  (dSeq (dIfS (dOrT (dNotT (dTest (dCall 2 fs_same (dCons (dVar 2) (dCons (dVar 3) dNil))))) (dOrT (dTest (dBin fNe (dCall 1 fs_thresholds (dCons (dVar 3) dNil)) (dCall 1 fs_thresholds (dCons (dVar 2) dNil)))) (dTest (dBin fNe (dCall 1 fs_trimmed (dCons (dVar 3) dNil)) (dVar 2)))))
    (dRet (dC (.bool false)))
    dNext)
  (dSeq (dIfS (dOrT (dTest (dBin fNe (dCall 1 fs_last_width (dCons (dVar 3) dNil)) (dIx (dIx (dVar 2) (dNeg (dC (.int 1)))) (dC (.int 0))))) (dTest (dBin fNe (dCall 1 fs_shortest (dCons (dVar 3) dNil)) (dCall 1 fs_shortest (dCons (dVar 2) dNil)))))
    (dRet (dC (.bool false)))
    dNext)
  (dFor (dRange1 (dC (.int 6))) (dN 4)
    (dSeq (dAsg (dCall 2 fs__law_number (dCons (dVar 0) (dCons (dBin oPow (dC (.int 10)) (dC (.int 4))) dNil))) (dN 5))
  (dIfS (dTest (dBin fNe (dCall 2 fs_applied (dCons (dVar 5) (dCons (dVar 3) dNil))) (dCall 2 fs_applied (dCons (dVar 5) (dCons (dVar 2) dNil)))))
    (dRet (dC (.bool false)))
    dNext))))))))
  (dRet (dC (.bool true))))
theorem eqv_prD (w : Int) (T : Bool → Th) : (Z.prD w T).eqv (Z.prD w T) = true := SeqAt.eqv_refl _ (shaped_lay (shaped_prD w T))
theorem shaped_chD (c : List (Int × Ru)) : SeqAt.shaped (chD c) = true := by
  have h := lay_st c
  refine Bool.and_eq_true_iff.mpr ⟨?_, decide_eq_true ?_⟩
  · rw [chD, PyData.canLay0]
    exact h.1
  · rw [chD, PyData.depth]
    omega
theorem eqv_chD (c : List (Int × Ru)) : (chD c).eqv (chD c) = true := SeqAt.eqv_refl _ (shaped_lay (shaped_chD c))
theorem fall_trim : ∀ {c : List (Int × Ru)} {l : Int}, Fall l c → trimI (some l) c = c
  | [], _, _ => rfl
  | s :: c, l, h => by rw [trimI, if_pos h.2.1, fall_trim h.2.2]
theorem Fc.trim {c : List (Int × Ru)} (h : Fc c) : trimI none c = c := by
  cases c with
  | nil => rfl
  | cons s c => rw [trimI, fall_trim h.fall.2.2]
/-- the thresholds hang on the narrowing steps alone -/
theorem chT_trim {c c' : List (Int × Ru)} (h : trimI none c' = trimI none c) (hc : c ≠ []) (hc' : c' ≠ []) : chT c' = chT c := by
  cases c with
  | nil => exact absurd rfl hc
  | cons s c =>
    cases c' with
    | nil => exact absurd rfl hc'
    | cons s' c' =>
      rw [trimI, trimI] at h
      injection h with h1 h2
      subst h1
      show thF s'.1 (byR s'.2) (trimI (some s'.1) c') = thF s'.1 (byR s'.2) (trimI (some s'.1) c)
      rw [h2]
theorem Fc.chn {c : List (Int × Ru)} (h : Fc c) : Chn1 c := ⟨h.ne, by have := h.len; omega, fun s hs => by
  have : ∀ (c : List (Int × Ru)) (w : Int), Fall w c → w ≤ 14 → ∀ s ∈ c, s.1 ≤ 13 := fun c => by
    induction c with
    | nil => exact fun w _ _ s hs => nomatch hs
    | cons a c ih =>
      intro w q qw s hs
      rcases List.mem_cons.mp hs with e | hs
      · rw [e]; have := q.2.1; omega
      · exact ih a.1 q.2.2 (by have := q.2.1; omega) s hs
  have h1 := this c 14 h.fall (by decide) s hs
  have h2 := h.lo s hs
  omega⟩
theorem Lg.chn {c c' : List (Int × Ru)} (h : Lg c c' 6) (hc : Fc c) : Chn1 c' := ⟨(fun z => by have := h.pos; rw [z] at this; cases this), (by have := h.len; have := hc.len; omega), fun s hs => by have := h.w s hs; omega⟩
/-- shortest has an answer -/
theorem sh_some {c : List (Int × Ru)} (hc : Chn1 c) : ∃ s, shI c = some s := by
  obtain ⟨⟨t, ht⟩, _⟩ := reach_chain hc.ne hc.w
  have : ∀ ks : List Nat, ∃ s, shF (wtI c) (chT c).1 (trimI none c).length ks = some s := fun ks => by
    induction ks with
    | nil => exact ⟨widI t (chT c).1, by unfold shF; rw [ht]; rfl⟩
    | cons k ks ih =>
      unfold shF
      cases q : LS k (wtI c) with
      | none => exact ih
      | some u =>
        show ∃ s, (if hdW u + (chT c).1 ≤ 100 then some (widI u (chT c).1) else shF (wtI c) (chT c).1 (trimI none c).length ks) = some s
        split
        · exact ⟨_, rfl⟩
        · exact ih
  exact this _
theorem sh_trim {c c' : List (Int × Ru)} (h : trimI none c' = trimI none c) (hc : c ≠ []) (hc' : c' ≠ []) : shI c' = shI c := by
  unfold shI wtI
  rw [chT_trim h hc hc', h]
/-- the memo is small: few steps, few bits -/
theorem sh_small {c : List (Int × Ru)} {m : Nat} (hm : m ≤ 12) (hw : WK m (wtI c)) (hl : (trimI none c).length ≤ 4) : ShK c (reachTo (wtI c) 4) m :=
  ⟨hw, by omega, reachTo_clo _ _, Nat.le_trans (reachTo_len (M := 14) (by omega) _ hw 4) (by decide), fun k h1 h2 => reachTo_mem _ h1 (by omega)⟩
theorem fall_lt : ∀ {c : List (Int × Ru)} {w : Int}, Fall w c → ∀ s ∈ c, s.1 < w
  | [], _, _, s, hs => nomatch hs
  | a :: c, w, h, s, hs => by
    rcases List.mem_cons.mp hs with e | hs
    · rw [e]; exact h.2.1
    · have := fall_lt h.2.2 s hs
      have := h.2.1
      omega
theorem fall_end {p : Int × Ru} : ∀ {c : List (Int × Ru)} {w : Int}, Fall w (c ++ [p]) → ∀ s ∈ c ++ [p], p.1 ≤ s.1
  | [], _, _, s, hs => by rw [List.mem_singleton.mp hs]; exact Int.le_refl _
  | a :: c, w, h, s, hs => by
    rcases List.mem_cons.mp hs with e | hs
    · rw [e]
      have := fall_lt h.2.2 p (List.mem_append_right _ (List.mem_singleton.mpr rfl))
      omega
    · exact fall_end h.2.2 s hs
theorem Fc.last {c : List (Int × Ru)} (h : Fc c) : ∃ c0 p, c = c0 ++ [p] ∧ (chT c).1 = p.1 := by
  have sp : c = c.dropLast ++ [c.getLast h.ne] := (List.dropLast_concat_getLast h.ne).symm
  refine ⟨c.dropLast, c.getLast h.ne, sp, ?_⟩
  obtain ⟨m1, s, hs, m2⟩ := chT_min h.ne
  have h1 := m1 (c.getLast h.ne) (List.getLast_mem h.ne)
  have hf := h.fall
  rw [sp] at hf
  have h2 := fall_end hf s (by rw [← sp]; exact hs)
  omega
def rtA : DS := (dIfS (dOrT (dNotT (dTest (dCall 2 fs_same (dCons (dVar 2) (dCons (dVar 3) dNil))))) (dOrT (dTest (dBin fNe (dCall 1 fs_thresholds (dCons (dVar 3) dNil)) (dCall 1 fs_thresholds (dCons (dVar 2) dNil)))) (dTest (dBin fNe (dCall 1 fs_trimmed (dCons (dVar 3) dNil)) (dVar 2)))))
    (dRet (dC (.bool false)))
    dNext)
def rtB : DS := (dIfS (dOrT (dTest (dBin fNe (dCall 1 fs_last_width (dCons (dVar 3) dNil)) (dIx (dIx (dVar 2) (dNeg (dC (.int 1)))) (dC (.int 0))))) (dTest (dBin fNe (dCall 1 fs_shortest (dCons (dVar 3) dNil)) (dCall 1 fs_shortest (dCons (dVar 2) dNil)))))
    (dRet (dC (.bool false)))
    dNext)
def rtF : DS := (dFor (dRange1 (dC (.int 6))) (dN 4)
    (dSeq (dAsg (dCall 2 fs__law_number (dCons (dVar 0) (dCons (dBin oPow (dC (.int 10)) (dC (.int 4))) dNil))) (dN 5))
  (dIfS (dTest (dBin fNe (dCall 2 fs_applied (dCons (dVar 5) (dCons (dVar 3) dNil))) (dCall 2 fs_applied (dCons (dVar 5) (dCons (dVar 2) dNil)))))
    (dRet (dC (.bool false)))
    dNext)))
def rtT : DS := (dSeq (dAsg (dCall 1 fs__law_falling (dCons (dVar 0) dNil)) (dN 2))
  (dSeq (dAsg (dCall 2 fs__law_longer (dCons (dVar 0) (dCons (dVar 2) dNil))) (dN 3))
  (dSeq rtA (dSeq rtB rtF))))
def rtW : DS := (dSeq (dFor (dRange1 (dC (.int 10))) (dN 1) rtT) (dRet (dC (.bool true))))
def stR (c c' : List (Int × Ru)) (t1 t4 t5 : Option Sv) (m : Nat) : Gs := ⟨[some .src, t1, some (.val (chD c)), some (.val (chD c')), t4, t5], some m, false⟩
theorem p_rtA {D : DEnds} {c c' : List (Int × Ru)} {t1 t4 t5 : Option Sv} {m : Nat} (hc : Fc c) (hg : Lg c c' 6) (h : D.nx (stR c c' t1 t4 t5 m)) : rtA D (stR c c' t1 t4 t5 m) := by
  have cn := hc.chn
  have cn' := hg.chn hc
  have eT := chT_trim hg.t cn.ne cn'.ne
  have sb : sameB c c' = true := by unfold sameB; rw [eT, eqv_prD]; simp
  unfold stR at *
  simp only [↓dMHit,↓dMPutRet,↓dCallM,↓dPar3D,↓dMaxK,↓cMinDa,↓entM,↓dSeq,↓dAsg,↓dSetL,↓dNext,↓dIfS,↓dRet,↓dRetL,↓dDrop,↓dNever,↓dBrk,↓dAug,↓dPar,↓dParL,↓dApp,↓dVar,↓dC,↓dBin,↓fI,↓fI0,↓fAdd,↓fEq,↓fNe,↓fIn,↓dTest,↓dAndT,↓dOrT,↓dNotT,↓dAndV,↓dOrV,↓dNotV,↓dIf,↓dNeg,↓dIsN,↓dChain,↓dNil,↓dCons,↓dTup,↓dLst,↓dFz,↓valsD,↓dIx,↓dCall,↓dCallL,↓hasSrc,↓rrv,↓dN,↓dT,↓dTn,↓dTc,↓rsv,↓Gs.set,↓dFor,↓dItems,↓dRange1,↓dRange2,↓dZip,↓dLc,↓dCB,↓cLen,↓cAll,↓cTuple,↓cInt1,↓cInt2,↓dIsi,↓dBits,↓dCallS,↓oSub,↓oAddI,↓oMul,↓oDiv,↓oMod,↓oShl,↓oPow,↓oLt,↓oLe,↓oGt,↓oGe,↓oAbs,↓oMax,↓oMin,↓cMinL,↓fInD,↓dSl,↓oNo,↓oSo,↓dBy,↓fAddT,↓dSlT,↓dParR,↓dEnum,↓dRevL,↓gAs,↓Gs.unset,↓rtN,↓lamF,↓gLam,↓plainO,↓dGIx,↓dIxO,↓Z.isNon,rtA,fs_same,ent,svOf,List.map_cons,List.map_nil,List.cons_append,List.nil_append,List.append_nil,List.replicate,List.length_cons,List.length_nil,List.getElem?_cons_zero,List.getElem?_cons_succ,List.getElem?_nil,List.set_cons_zero,List.set_cons_succ,Option.map_some,Option.map_none,Option.isNone_some,Option.isNone_none,forall_const,true_implies,false_implies,and_true,true_and,Bool.true_eq_false,Bool.false_eq_true,reduceCtorEq,noOwn,wipeS,hide,fuN_self,lcD,dYes,Nat.zero_add,Nat.reduceAdd,Nat.reduceLeDiff,Nat.reduceSub,atI_0,atI_1,atI_2,atI_3,atI_4,atI_5,Int.one_mul,eqv_ii,eqv_ss,eqv_num,shaped_int,shaped_num,shaped_none,shaped_ru,flat_str,flat_int,flat_none,List.all_cons,List.all_nil,Bool.and_true,decide_eq_true_eq,decide_eq_false_iff_not,Bool.not_eq_true',Bool.not_eq_false',Decidable.not_not,↓reduceIte,Bool.false_eq_true,Int.reduceLT,eqv_strs,pick_0,pick_01,pick_10,pick_012,pick_021,pick_102,pick_120,pick_201,pick_210]
  refine ⟨c, c', rfl, cn, cn', ?_⟩
  rw [sb]
  simp only [↓dMHit,↓dMPutRet,↓dCallM,↓dPar3D,↓dMaxK,↓cMinDa,↓entM,↓dSeq,↓dAsg,↓dSetL,↓dNext,↓dIfS,↓dRet,↓dRetL,↓dDrop,↓dNever,↓dBrk,↓dAug,↓dPar,↓dParL,↓dApp,↓dVar,↓dC,↓dBin,↓fI,↓fI0,↓fAdd,↓fEq,↓fNe,↓fIn,↓dTest,↓dAndT,↓dOrT,↓dNotT,↓dAndV,↓dOrV,↓dNotV,↓dIf,↓dNeg,↓dIsN,↓dChain,↓dNil,↓dCons,↓dTup,↓dLst,↓dFz,↓valsD,↓dIx,↓dCall,↓dCallL,↓hasSrc,↓rrv,↓dN,↓dT,↓dTn,↓dTc,↓rsv,↓Gs.set,↓dFor,↓dItems,↓dRange1,↓dRange2,↓dZip,↓dLc,↓dCB,↓cLen,↓cAll,↓cTuple,↓cInt1,↓cInt2,↓dIsi,↓dBits,↓dCallS,↓oSub,↓oAddI,↓oMul,↓oDiv,↓oMod,↓oShl,↓oPow,↓oLt,↓oLe,↓oGt,↓oGe,↓oAbs,↓oMax,↓oMin,↓cMinL,↓fInD,↓dSl,↓oNo,↓oSo,↓dBy,↓fAddT,↓dSlT,↓dParR,↓dEnum,↓dRevL,↓gAs,↓Gs.unset,↓rtN,↓lamF,↓gLam,↓plainO,↓dGIx,↓dIxO,↓Z.isNon,fs_thresholds,ent,svOf,List.map_cons,List.map_nil,List.cons_append,List.nil_append,List.append_nil,List.replicate,List.length_cons,List.length_nil,List.getElem?_cons_zero,List.getElem?_cons_succ,List.getElem?_nil,List.set_cons_zero,List.set_cons_succ,Option.map_some,Option.map_none,Option.isNone_some,Option.isNone_none,forall_const,true_implies,false_implies,and_true,true_and,Bool.true_eq_false,Bool.false_eq_true,reduceCtorEq,noOwn,wipeS,hide,fuN_self,lcD,dYes,Nat.zero_add,Nat.reduceAdd,Nat.reduceLeDiff,Nat.reduceSub,atI_0,atI_1,atI_2,atI_3,atI_4,atI_5,Int.one_mul,eqv_ii,eqv_ss,eqv_num,shaped_int,shaped_num,shaped_none,shaped_ru,flat_str,flat_int,flat_none,List.all_cons,List.all_nil,Bool.and_true,decide_eq_true_eq,decide_eq_false_iff_not,Bool.not_eq_true',Bool.not_eq_false',Decidable.not_not,↓reduceIte,Bool.false_eq_true,Int.reduceLT,eqv_strs,pick_0,pick_01,pick_10,pick_012,pick_021,pick_102,pick_120,pick_201,pick_210]
  refine ⟨c', rfl, cn', c, rfl, cn, shaped_prD _ _, shaped_prD _ _, fun z => ?_, fun z => ?_⟩
  · rw [eT, eqv_prD] at z
    cases z
  · simp only [↓dMHit,↓dMPutRet,↓dCallM,↓dPar3D,↓dMaxK,↓cMinDa,↓entM,↓dSeq,↓dAsg,↓dSetL,↓dNext,↓dIfS,↓dRet,↓dRetL,↓dDrop,↓dNever,↓dBrk,↓dAug,↓dPar,↓dParL,↓dApp,↓dVar,↓dC,↓dBin,↓fI,↓fI0,↓fAdd,↓fEq,↓fNe,↓fIn,↓dTest,↓dAndT,↓dOrT,↓dNotT,↓dAndV,↓dOrV,↓dNotV,↓dIf,↓dNeg,↓dIsN,↓dChain,↓dNil,↓dCons,↓dTup,↓dLst,↓dFz,↓valsD,↓dIx,↓dCall,↓dCallL,↓hasSrc,↓rrv,↓dN,↓dT,↓dTn,↓dTc,↓rsv,↓Gs.set,↓dFor,↓dItems,↓dRange1,↓dRange2,↓dZip,↓dLc,↓dCB,↓cLen,↓cAll,↓cTuple,↓cInt1,↓cInt2,↓dIsi,↓dBits,↓dCallS,↓oSub,↓oAddI,↓oMul,↓oDiv,↓oMod,↓oShl,↓oPow,↓oLt,↓oLe,↓oGt,↓oGe,↓oAbs,↓oMax,↓oMin,↓cMinL,↓fInD,↓dSl,↓oNo,↓oSo,↓dBy,↓fAddT,↓dSlT,↓dParR,↓dEnum,↓dRevL,↓gAs,↓Gs.unset,↓rtN,↓lamF,↓gLam,↓plainO,↓dGIx,↓dIxO,↓Z.isNon,fs_trimmed,ent,svOf,List.map_cons,List.map_nil,List.cons_append,List.nil_append,List.append_nil,List.replicate,List.length_cons,List.length_nil,List.getElem?_cons_zero,List.getElem?_cons_succ,List.getElem?_nil,List.set_cons_zero,List.set_cons_succ,Option.map_some,Option.map_none,Option.isNone_some,Option.isNone_none,forall_const,true_implies,false_implies,and_true,true_and,Bool.true_eq_false,Bool.false_eq_true,reduceCtorEq,noOwn,wipeS,hide,fuN_self,lcD,dYes,Nat.zero_add,Nat.reduceAdd,Nat.reduceLeDiff,Nat.reduceSub,atI_0,atI_1,atI_2,atI_3,atI_4,atI_5,Int.one_mul,eqv_ii,eqv_ss,eqv_num,shaped_int,shaped_num,shaped_none,shaped_ru,flat_str,flat_int,flat_none,List.all_cons,List.all_nil,Bool.and_true,decide_eq_true_eq,decide_eq_false_iff_not,Bool.not_eq_true',Bool.not_eq_false',Decidable.not_not,↓reduceIte,Bool.false_eq_true,Int.reduceLT,eqv_strs,pick_0,pick_01,pick_10,pick_012,pick_021,pick_102,pick_120,pick_201,pick_210]
    refine ⟨c', rfl, cn', shaped_chD _, shaped_chD _, fun z => ?_, fun _ => h⟩
    rw [hg.t, hc.trim, eqv_chD] at z
    cases z
theorem p_rtB {D : DEnds} {c c' : List (Int × Ru)} {t1 t4 t5 : Option Sv} {m : Nat} (hc : Fc c) (hg : Lg c c' 6) (h : D.nx (stR c c' t1 t4 t5 m)) : rtB D (stR c c' t1 t4 t5 m) := by
  have cn := hc.chn
  have cn' := hg.chn hc
  have eT := chT_trim hg.t cn.ne cn'.ne
  have eS := sh_trim hg.t cn.ne cn'.ne
  obtain ⟨c0, p, ec, ew⟩ := hc.last
  obtain ⟨s, hs⟩ := sh_some cn
  obtain ⟨_, b, wk, hm⟩ := reach_chain cn.ne cn.w
  have m12 : b ≤ 12 := by
    have hlo := hc.lo p (by rw [ec]; simp)
    cases c with
    | nil => exact absurd rfl cn.ne
    | cons a c =>
      have := hm a rfl
      have := hc.fall.2.1
      omega
  have ew' : wtI c' = wtI c := by unfold wtI; rw [eT]
  have k1 := sh_small m12 wk (by rw [hc.trim]; exact hc.len)
  have k2 := sh_small (c := c') m12 (by rw [ew']; exact wk) (by rw [hg.t, hc.trim]; exact hc.len)
  have al : atI (c.map stD) (-1) = some (stD p) := atI_last (by rw [ec]; simp)
  unfold stR at *
  simp only [↓dMHit,↓dMPutRet,↓dCallM,↓dPar3D,↓dMaxK,↓cMinDa,↓entM,↓dSeq,↓dAsg,↓dSetL,↓dNext,↓dIfS,↓dRet,↓dRetL,↓dDrop,↓dNever,↓dBrk,↓dAug,↓dPar,↓dParL,↓dApp,↓dVar,↓dC,↓dBin,↓fI,↓fI0,↓fAdd,↓fEq,↓fNe,↓fIn,↓dTest,↓dAndT,↓dOrT,↓dNotT,↓dAndV,↓dOrV,↓dNotV,↓dIf,↓dNeg,↓dIsN,↓dChain,↓dNil,↓dCons,↓dTup,↓dLst,↓dFz,↓valsD,↓dIx,↓dCall,↓dCallL,↓hasSrc,↓rrv,↓dN,↓dT,↓dTn,↓dTc,↓rsv,↓Gs.set,↓dFor,↓dItems,↓dRange1,↓dRange2,↓dZip,↓dLc,↓dCB,↓cLen,↓cAll,↓cTuple,↓cInt1,↓cInt2,↓dIsi,↓dBits,↓dCallS,↓oSub,↓oAddI,↓oMul,↓oDiv,↓oMod,↓oShl,↓oPow,↓oLt,↓oLe,↓oGt,↓oGe,↓oAbs,↓oMax,↓oMin,↓cMinL,↓fInD,↓dSl,↓oNo,↓oSo,↓dBy,↓fAddT,↓dSlT,↓dParR,↓dEnum,↓dRevL,↓gAs,↓Gs.unset,↓rtN,↓lamF,↓gLam,↓plainO,↓dGIx,↓dIxO,↓Z.isNon,rtB,fs_last_width,fs_shortest,ent,svOf,List.map_cons,List.map_nil,List.cons_append,List.nil_append,List.append_nil,List.replicate,List.length_cons,List.length_nil,List.getElem?_cons_zero,List.getElem?_cons_succ,List.getElem?_nil,List.set_cons_zero,List.set_cons_succ,Option.map_some,Option.map_none,Option.isNone_some,Option.isNone_none,forall_const,true_implies,false_implies,and_true,true_and,Bool.true_eq_false,Bool.false_eq_true,reduceCtorEq,noOwn,wipeS,hide,fuN_self,lcD,dYes,Nat.zero_add,Nat.reduceAdd,Nat.reduceLeDiff,Nat.reduceSub,atI_0,atI_1,atI_2,atI_3,atI_4,atI_5,Int.one_mul,eqv_ii,eqv_ss,eqv_num,shaped_int,shaped_num,shaped_none,shaped_ru,flat_str,flat_int,flat_none,List.all_cons,List.all_nil,Bool.and_true,decide_eq_true_eq,decide_eq_false_iff_not,Bool.not_eq_true',Bool.not_eq_false',Decidable.not_not,↓reduceIte,Bool.false_eq_true,Int.reduceLT,eqv_strs,pick_0,pick_01,pick_10,pick_012,pick_021,pick_102,pick_120,pick_201,pick_210]
  refine ⟨c', rfl, cn', ?_⟩
  have ed : chD c = .tuple (c.map stD) := rfl
  rw [ed]
  simp only [↓dMHit,↓dMPutRet,↓dCallM,↓dPar3D,↓dMaxK,↓cMinDa,↓entM,↓dSeq,↓dAsg,↓dSetL,↓dNext,↓dIfS,↓dRet,↓dRetL,↓dDrop,↓dNever,↓dBrk,↓dAug,↓dPar,↓dParL,↓dApp,↓dVar,↓dC,↓dBin,↓fI,↓fI0,↓fAdd,↓fEq,↓fNe,↓fIn,↓dTest,↓dAndT,↓dOrT,↓dNotT,↓dAndV,↓dOrV,↓dNotV,↓dIf,↓dNeg,↓dIsN,↓dChain,↓dNil,↓dCons,↓dTup,↓dLst,↓dFz,↓valsD,↓dIx,↓dCall,↓dCallL,↓hasSrc,↓rrv,↓dN,↓dT,↓dTn,↓dTc,↓rsv,↓Gs.set,↓dFor,↓dItems,↓dRange1,↓dRange2,↓dZip,↓dLc,↓dCB,↓cLen,↓cAll,↓cTuple,↓cInt1,↓cInt2,↓dIsi,↓dBits,↓dCallS,↓oSub,↓oAddI,↓oMul,↓oDiv,↓oMod,↓oShl,↓oPow,↓oLt,↓oLe,↓oGt,↓oGe,↓oAbs,↓oMax,↓oMin,↓cMinL,↓fInD,↓dSl,↓oNo,↓oSo,↓dBy,↓fAddT,↓dSlT,↓dParR,↓dEnum,↓dRevL,↓gAs,↓Gs.unset,↓rtN,↓lamF,↓gLam,↓plainO,↓dGIx,↓dIxO,↓Z.isNon,ent,svOf,List.map_cons,List.map_nil,List.cons_append,List.nil_append,List.append_nil,List.replicate,List.length_cons,List.length_nil,List.getElem?_cons_zero,List.getElem?_cons_succ,List.getElem?_nil,List.set_cons_zero,List.set_cons_succ,Option.map_some,Option.map_none,Option.isNone_some,Option.isNone_none,forall_const,true_implies,false_implies,and_true,true_and,Bool.true_eq_false,Bool.false_eq_true,reduceCtorEq,noOwn,wipeS,hide,fuN_self,lcD,dYes,Nat.zero_add,Nat.reduceAdd,Nat.reduceLeDiff,Nat.reduceSub,atI_0,atI_1,atI_2,atI_3,atI_4,atI_5,Int.one_mul,eqv_ii,eqv_ss,eqv_num,shaped_int,shaped_num,shaped_none,shaped_ru,flat_str,flat_int,flat_none,List.all_cons,List.all_nil,Bool.and_true,decide_eq_true_eq,decide_eq_false_iff_not,Bool.not_eq_true',Bool.not_eq_false',Decidable.not_not,↓reduceIte,Bool.false_eq_true,Int.reduceLT,eqv_strs,pick_0,pick_01,pick_10,pick_012,pick_021,pick_102,pick_120,pick_201,pick_210]
  rw [al]
  unfold stD
  simp only [↓dMHit,↓dMPutRet,↓dCallM,↓dPar3D,↓dMaxK,↓cMinDa,↓entM,↓dSeq,↓dAsg,↓dSetL,↓dNext,↓dIfS,↓dRet,↓dRetL,↓dDrop,↓dNever,↓dBrk,↓dAug,↓dPar,↓dParL,↓dApp,↓dVar,↓dC,↓dBin,↓fI,↓fI0,↓fAdd,↓fEq,↓fNe,↓fIn,↓dTest,↓dAndT,↓dOrT,↓dNotT,↓dAndV,↓dOrV,↓dNotV,↓dIf,↓dNeg,↓dIsN,↓dChain,↓dNil,↓dCons,↓dTup,↓dLst,↓dFz,↓valsD,↓dIx,↓dCall,↓dCallL,↓hasSrc,↓rrv,↓dN,↓dT,↓dTn,↓dTc,↓rsv,↓Gs.set,↓dFor,↓dItems,↓dRange1,↓dRange2,↓dZip,↓dLc,↓dCB,↓cLen,↓cAll,↓cTuple,↓cInt1,↓cInt2,↓dIsi,↓dBits,↓dCallS,↓oSub,↓oAddI,↓oMul,↓oDiv,↓oMod,↓oShl,↓oPow,↓oLt,↓oLe,↓oGt,↓oGe,↓oAbs,↓oMax,↓oMin,↓cMinL,↓fInD,↓dSl,↓oNo,↓oSo,↓dBy,↓fAddT,↓dSlT,↓dParR,↓dEnum,↓dRevL,↓gAs,↓Gs.unset,↓rtN,↓lamF,↓gLam,↓plainO,↓dGIx,↓dIxO,↓Z.isNon,ent,svOf,List.map_cons,List.map_nil,List.cons_append,List.nil_append,List.append_nil,List.replicate,List.length_cons,List.length_nil,List.getElem?_cons_zero,List.getElem?_cons_succ,List.getElem?_nil,List.set_cons_zero,List.set_cons_succ,Option.map_some,Option.map_none,Option.isNone_some,Option.isNone_none,forall_const,true_implies,false_implies,and_true,true_and,Bool.true_eq_false,Bool.false_eq_true,reduceCtorEq,noOwn,wipeS,hide,fuN_self,lcD,dYes,Nat.zero_add,Nat.reduceAdd,Nat.reduceLeDiff,Nat.reduceSub,atI_0,atI_1,atI_2,atI_3,atI_4,atI_5,Int.one_mul,eqv_ii,eqv_ss,eqv_num,shaped_int,shaped_num,shaped_none,shaped_ru,flat_str,flat_int,flat_none,List.all_cons,List.all_nil,Bool.and_true,decide_eq_true_eq,decide_eq_false_iff_not,Bool.not_eq_true',Bool.not_eq_false',Decidable.not_not,↓reduceIte,Bool.false_eq_true,Int.reduceLT,eqv_strs,pick_0,pick_01,pick_10,pick_012,pick_021,pick_102,pick_120,pick_201,pick_210]
  refine ⟨fun z => absurd (by rw [eT]; exact ew) z, fun z => ⟨c', s, _, b, rfl, cn', k2, by rw [eS]; exact hs, c, s, _, b, rfl, cn, k1, hs, shaped_chD s, shaped_chD s, fun y => ?_, fun y => h⟩⟩
  rw [eqv_chD] at y
  cases y
theorem p_rtF {D : DEnds} {c c' : List (Int × Ru)} {t1 t4 t5 : Option Sv} {m : Nat} (hc : Fc c) (hg : Lg c c' 6) (h : ∀ t4 t5, D.nx (stR c c' t1 t4 t5 m)) : rtF D (stR c c' t1 t4 t5 (m + 36)) := by
  have cn := hc.chn
  have cn' := hg.chn hc
  unfold stR
  simp only [↓dMHit,↓dMPutRet,↓dCallM,↓dPar3D,↓dMaxK,↓cMinDa,↓entM,↓dSeq,↓dAsg,↓dSetL,↓dNext,↓dIfS,↓dRet,↓dRetL,↓dDrop,↓dNever,↓dBrk,↓dAug,↓dPar,↓dParL,↓dApp,↓dVar,↓dC,↓dBin,↓fI,↓fI0,↓fAdd,↓fEq,↓fNe,↓fIn,↓dTest,↓dAndT,↓dOrT,↓dNotT,↓dAndV,↓dOrV,↓dNotV,↓dIf,↓dNeg,↓dIsN,↓dChain,↓dNil,↓dCons,↓dTup,↓dLst,↓dFz,↓valsD,↓dIx,↓dCall,↓dCallL,↓hasSrc,↓rrv,↓dN,↓dT,↓dTn,↓dTc,↓rsv,↓Gs.set,↓dFor,↓dItems,↓dRange1,↓dRange2,↓dZip,↓dLc,↓dCB,↓cLen,↓cAll,↓cTuple,↓cInt1,↓cInt2,↓dIsi,↓dBits,↓dCallS,↓oSub,↓oAddI,↓oMul,↓oDiv,↓oMod,↓oShl,↓oPow,↓oLt,↓oLe,↓oGt,↓oGe,↓oAbs,↓oMax,↓oMin,↓cMinL,↓fInD,↓dSl,↓oNo,↓oSo,↓dBy,↓fAddT,↓dSlT,↓dParR,↓dEnum,↓dRevL,↓gAs,↓Gs.unset,↓rtN,↓lamF,↓gLam,↓plainO,↓dGIx,↓dIxO,↓Z.isNon,rtF,ent,svOf,List.map_cons,List.map_nil,List.cons_append,List.nil_append,List.append_nil,List.replicate,List.length_cons,List.length_nil,List.getElem?_cons_zero,List.getElem?_cons_succ,List.getElem?_nil,List.set_cons_zero,List.set_cons_succ,Option.map_some,Option.map_none,Option.isNone_some,Option.isNone_none,forall_const,true_implies,false_implies,and_true,true_and,Bool.true_eq_false,Bool.false_eq_true,reduceCtorEq,noOwn,wipeS,hide,fuN_self,lcD,dYes,Nat.zero_add,Nat.reduceAdd,Nat.reduceLeDiff,Nat.reduceSub,atI_0,atI_1,atI_2,atI_3,atI_4,atI_5,Int.one_mul,eqv_ii,eqv_ss,eqv_num,shaped_int,shaped_num,shaped_none,shaped_ru,flat_str,flat_int,flat_none,List.all_cons,List.all_nil,Bool.and_true,decide_eq_true_eq,decide_eq_false_iff_not,Bool.not_eq_true',Bool.not_eq_false',Decidable.not_not,↓reduceIte,Bool.false_eq_true,Int.reduceLT,eqv_strs,pick_0,pick_01,pick_10,pick_012,pick_021,pick_102,pick_120,pick_201,pick_210]
  refine ⟨by decide, by decide, ?_⟩
  refine forD_ix (k := 0) (fun k g => ∃ (m' : Nat) (t4 t5 : Option Sv), g = stR c c' t1 t4 t5 m' ∧ m + 36 = m' + 6 * k) (fun k x hx g hg1 N hN => ?_) (fun g hg1 => ?_) ⟨m + 36, _, _, rfl, by omega⟩
  · obtain ⟨m', t4, t5, rfl, q1⟩ := hg1
    have hk : k < 6 := by
      have := (List.getElem?_eq_some_iff.mp hx).1
      rw [rangeD_len] at this
      exact this
    obtain ⟨m1, rfl⟩ : ∃ m1, m' = m1 + 6 := ⟨m' - 6, by omega⟩
    unfold stR
    simp only [↓dMHit,↓dMPutRet,↓dCallM,↓dPar3D,↓dMaxK,↓cMinDa,↓entM,↓dSeq,↓dAsg,↓dSetL,↓dNext,↓dIfS,↓dRet,↓dRetL,↓dDrop,↓dNever,↓dBrk,↓dAug,↓dPar,↓dParL,↓dApp,↓dVar,↓dC,↓dBin,↓fI,↓fI0,↓fAdd,↓fEq,↓fNe,↓fIn,↓dTest,↓dAndT,↓dOrT,↓dNotT,↓dAndV,↓dOrV,↓dNotV,↓dIf,↓dNeg,↓dIsN,↓dChain,↓dNil,↓dCons,↓dTup,↓dLst,↓dFz,↓valsD,↓dIx,↓dCall,↓dCallL,↓hasSrc,↓rrv,↓dN,↓dT,↓dTn,↓dTc,↓rsv,↓Gs.set,↓dFor,↓dItems,↓dRange1,↓dRange2,↓dZip,↓dLc,↓dCB,↓cLen,↓cAll,↓cTuple,↓cInt1,↓cInt2,↓dIsi,↓dBits,↓dCallS,↓oSub,↓oAddI,↓oMul,↓oDiv,↓oMod,↓oShl,↓oPow,↓oLt,↓oLe,↓oGt,↓oGe,↓oAbs,↓oMax,↓oMin,↓cMinL,↓fInD,↓dSl,↓oNo,↓oSo,↓dBy,↓fAddT,↓dSlT,↓dParR,↓dEnum,↓dRevL,↓gAs,↓Gs.unset,↓rtN,↓lamF,↓gLam,↓plainO,↓dGIx,↓dIxO,↓Z.isNon,fs__law_number,fs_applied,ent,svOf,List.map_cons,List.map_nil,List.cons_append,List.nil_append,List.append_nil,List.replicate,List.length_cons,List.length_nil,List.getElem?_cons_zero,List.getElem?_cons_succ,List.getElem?_nil,List.set_cons_zero,List.set_cons_succ,Option.map_some,Option.map_none,Option.isNone_some,Option.isNone_none,forall_const,true_implies,false_implies,and_true,true_and,Bool.true_eq_false,Bool.false_eq_true,reduceCtorEq,noOwn,wipeS,hide,fuN_self,lcD,dYes,Nat.zero_add,Nat.reduceAdd,Nat.reduceLeDiff,Nat.reduceSub,atI_0,atI_1,atI_2,atI_3,atI_4,atI_5,Int.one_mul,eqv_ii,eqv_ss,eqv_num,shaped_int,shaped_num,shaped_none,shaped_ru,flat_str,flat_int,flat_none,List.all_cons,List.all_nil,Bool.and_true,decide_eq_true_eq,decide_eq_false_iff_not,Bool.not_eq_true',Bool.not_eq_false',Decidable.not_not,↓reduceIte,Bool.false_eq_true,Int.reduceLT,eqv_strs,pick_0,pick_01,pick_10,pick_012,pick_021,pick_102,pick_120,pick_201,pick_210]
    refine ⟨⟨by decide, by decide +kernel⟩, _, m1, rfl, rfl, by decide, by decide, fun n d n0 bn d0 bd hgc => ?_⟩
    have nb : NuB 1000 n d := (NuB.of n0 d0 hgc bn bd).mono (by decide)
    refine ⟨n, d, c', rfl, nb, cn', n, d, c, rfl, nb, cn, fun z => ?_, fun z => hN _ ⟨m1, _, _, rfl, by omega⟩⟩
    rw [trim_law cn'.w nb.nu, hg.t, ← trim_law cn.w nb.nu] at z
    simp at z
  · obtain ⟨m', t4, t5, rfl, q1⟩ := hg1
    rw [rangeD_len] at q1
    obtain rfl : m' = m := by
      have : (Int.toNat 6) = 6 := rfl
      omega
    exact h t4 t5
def fs__law_right : FSp := fun rs fu post => rs = [.src] ∧ fu = some 1000000 ∧ ∀ m' : Nat, post (.val (.bool true)) (some m')
theorem p__law_right (rs : List Rv) (fu : Option Nat) (post : Rr → Option Nat → Prop) (hl : rs.length = 1) (h : fs__law_right rs fu post) : b__law_right ⟨fun g => post (.val .none) g.fu, fun r g => post r g.fu, fun _ => False, fun _ => False⟩ (ent N__law_right rs fu) := by
  obtain ⟨rfl, rfl, h⟩ := h
  show rtW _ _
  simp only [↓dMHit,↓dMPutRet,↓dCallM,↓dPar3D,↓dMaxK,↓cMinDa,↓entM,↓dSeq,↓dAsg,↓dSetL,↓dNext,↓dIfS,↓dRet,↓dRetL,↓dDrop,↓dNever,↓dBrk,↓dAug,↓dPar,↓dParL,↓dApp,↓dVar,↓dC,↓dBin,↓fI,↓fI0,↓fAdd,↓fEq,↓fNe,↓fIn,↓dTest,↓dAndT,↓dOrT,↓dNotT,↓dAndV,↓dOrV,↓dNotV,↓dIf,↓dNeg,↓dIsN,↓dChain,↓dNil,↓dCons,↓dTup,↓dLst,↓dFz,↓valsD,↓dIx,↓dCall,↓dCallL,↓hasSrc,↓rrv,↓dN,↓dT,↓dTn,↓dTc,↓rsv,↓Gs.set,↓dFor,↓dItems,↓dRange1,↓dRange2,↓dZip,↓dLc,↓dCB,↓cLen,↓cAll,↓cTuple,↓cInt1,↓cInt2,↓dIsi,↓dBits,↓dCallS,↓oSub,↓oAddI,↓oMul,↓oDiv,↓oMod,↓oShl,↓oPow,↓oLt,↓oLe,↓oGt,↓oGe,↓oAbs,↓oMax,↓oMin,↓cMinL,↓fInD,↓dSl,↓oNo,↓oSo,↓dBy,↓fAddT,↓dSlT,↓dParR,↓dEnum,↓dRevL,↓gAs,↓Gs.unset,↓rtN,↓lamF,↓gLam,↓plainO,↓dGIx,↓dIxO,↓Z.isNon,rtW,ent,svOf,List.map_cons,List.map_nil,List.cons_append,List.nil_append,List.append_nil,List.replicate,List.length_cons,List.length_nil,List.getElem?_cons_zero,List.getElem?_cons_succ,List.getElem?_nil,List.set_cons_zero,List.set_cons_succ,Option.map_some,Option.map_none,Option.isNone_some,Option.isNone_none,forall_const,true_implies,false_implies,and_true,true_and,Bool.true_eq_false,Bool.false_eq_true,reduceCtorEq,noOwn,wipeS,hide,fuN_self,lcD,dYes,Nat.zero_add,Nat.reduceAdd,Nat.reduceLeDiff,Nat.reduceSub,atI_0,atI_1,atI_2,atI_3,atI_4,atI_5,Int.one_mul,eqv_ii,eqv_ss,eqv_num,shaped_int,shaped_num,shaped_none,shaped_ru,flat_str,flat_int,flat_none,List.all_cons,List.all_nil,Bool.and_true,decide_eq_true_eq,decide_eq_false_iff_not,Bool.not_eq_true',Bool.not_eq_false',Decidable.not_not,↓reduceIte,Bool.false_eq_true,Int.reduceLT,eqv_strs,pick_0,pick_01,pick_10,pick_012,pick_021,pick_102,pick_120,pick_201,pick_210]
  refine ⟨by decide, by decide, ?_⟩
  refine forD_ix (k := 0) (fun k g => ∃ (m' : Nat) (t1 t2 t3 t4 t5 : Option Sv), g = ⟨[some .src, t1, t2, t3, t4, t5], some m', false⟩ ∧ 1000000 ≤ m' + 65 * k) (fun k x hx g hg N hN => ?_) (fun g hg => ?_) ⟨1000000, _, _, _, _, _, rfl, by omega⟩
  · obtain ⟨m', t1, t2, t3, t4, t5, rfl, q1⟩ := hg
    have hk : k < 10 := by
      have := (List.getElem?_eq_some_iff.mp hx).1
      rw [rangeD_len] at this
      omega
    simp only [↓dMHit,↓dMPutRet,↓dCallM,↓dPar3D,↓dMaxK,↓cMinDa,↓entM,↓dSeq,↓dAsg,↓dSetL,↓dNext,↓dIfS,↓dRet,↓dRetL,↓dDrop,↓dNever,↓dBrk,↓dAug,↓dPar,↓dParL,↓dApp,↓dVar,↓dC,↓dBin,↓fI,↓fI0,↓fAdd,↓fEq,↓fNe,↓fIn,↓dTest,↓dAndT,↓dOrT,↓dNotT,↓dAndV,↓dOrV,↓dNotV,↓dIf,↓dNeg,↓dIsN,↓dChain,↓dNil,↓dCons,↓dTup,↓dLst,↓dFz,↓valsD,↓dIx,↓dCall,↓dCallL,↓hasSrc,↓rrv,↓dN,↓dT,↓dTn,↓dTc,↓rsv,↓Gs.set,↓dFor,↓dItems,↓dRange1,↓dRange2,↓dZip,↓dLc,↓dCB,↓cLen,↓cAll,↓cTuple,↓cInt1,↓cInt2,↓dIsi,↓dBits,↓dCallS,↓oSub,↓oAddI,↓oMul,↓oDiv,↓oMod,↓oShl,↓oPow,↓oLt,↓oLe,↓oGt,↓oGe,↓oAbs,↓oMax,↓oMin,↓cMinL,↓fInD,↓dSl,↓oNo,↓oSo,↓dBy,↓fAddT,↓dSlT,↓dParR,↓dEnum,↓dRevL,↓gAs,↓Gs.unset,↓rtN,↓lamF,↓gLam,↓plainO,↓dGIx,↓dIxO,↓Z.isNon,rtT,fs__law_falling,ent,svOf,List.map_cons,List.map_nil,List.cons_append,List.nil_append,List.append_nil,List.replicate,List.length_cons,List.length_nil,List.getElem?_cons_zero,List.getElem?_cons_succ,List.getElem?_nil,List.set_cons_zero,List.set_cons_succ,Option.map_some,Option.map_none,Option.isNone_some,Option.isNone_none,forall_const,true_implies,false_implies,and_true,true_and,Bool.true_eq_false,Bool.false_eq_true,reduceCtorEq,noOwn,wipeS,hide,fuN_self,lcD,dYes,Nat.zero_add,Nat.reduceAdd,Nat.reduceLeDiff,Nat.reduceSub,atI_0,atI_1,atI_2,atI_3,atI_4,atI_5,Int.one_mul,eqv_ii,eqv_ss,eqv_num,shaped_int,shaped_num,shaped_none,shaped_ru,flat_str,flat_int,flat_none,List.all_cons,List.all_nil,Bool.and_true,decide_eq_true_eq,decide_eq_false_iff_not,Bool.not_eq_true',Bool.not_eq_false',Decidable.not_not,↓reduceIte,Bool.false_eq_true,Int.reduceLT,eqv_strs,pick_0,pick_01,pick_10,pick_012,pick_021,pick_102,pick_120,pick_201,pick_210]
    refine ⟨m', rfl, by omega, fun c m1 h1 hc => ?_⟩
    simp only [↓dMHit,↓dMPutRet,↓dCallM,↓dPar3D,↓dMaxK,↓cMinDa,↓entM,↓dSeq,↓dAsg,↓dSetL,↓dNext,↓dIfS,↓dRet,↓dRetL,↓dDrop,↓dNever,↓dBrk,↓dAug,↓dPar,↓dParL,↓dApp,↓dVar,↓dC,↓dBin,↓fI,↓fI0,↓fAdd,↓fEq,↓fNe,↓fIn,↓dTest,↓dAndT,↓dOrT,↓dNotT,↓dAndV,↓dOrV,↓dNotV,↓dIf,↓dNeg,↓dIsN,↓dChain,↓dNil,↓dCons,↓dTup,↓dLst,↓dFz,↓valsD,↓dIx,↓dCall,↓dCallL,↓hasSrc,↓rrv,↓dN,↓dT,↓dTn,↓dTc,↓rsv,↓Gs.set,↓dFor,↓dItems,↓dRange1,↓dRange2,↓dZip,↓dLc,↓dCB,↓cLen,↓cAll,↓cTuple,↓cInt1,↓cInt2,↓dIsi,↓dBits,↓dCallS,↓oSub,↓oAddI,↓oMul,↓oDiv,↓oMod,↓oShl,↓oPow,↓oLt,↓oLe,↓oGt,↓oGe,↓oAbs,↓oMax,↓oMin,↓cMinL,↓fInD,↓dSl,↓oNo,↓oSo,↓dBy,↓fAddT,↓dSlT,↓dParR,↓dEnum,↓dRevL,↓gAs,↓Gs.unset,↓rtN,↓lamF,↓gLam,↓plainO,↓dGIx,↓dIxO,↓Z.isNon,fs__law_longer,ent,svOf,List.map_cons,List.map_nil,List.cons_append,List.nil_append,List.append_nil,List.replicate,List.length_cons,List.length_nil,List.getElem?_cons_zero,List.getElem?_cons_succ,List.getElem?_nil,List.set_cons_zero,List.set_cons_succ,Option.map_some,Option.map_none,Option.isNone_some,Option.isNone_none,forall_const,true_implies,false_implies,and_true,true_and,Bool.true_eq_false,Bool.false_eq_true,reduceCtorEq,noOwn,wipeS,hide,fuN_self,lcD,dYes,Nat.zero_add,Nat.reduceAdd,Nat.reduceLeDiff,Nat.reduceSub,atI_0,atI_1,atI_2,atI_3,atI_4,atI_5,Int.one_mul,eqv_ii,eqv_ss,eqv_num,shaped_int,shaped_num,shaped_none,shaped_ru,flat_str,flat_int,flat_none,List.all_cons,List.all_nil,Bool.and_true,decide_eq_true_eq,decide_eq_false_iff_not,Bool.not_eq_true',Bool.not_eq_false',Decidable.not_not,↓reduceIte,Bool.false_eq_true,Int.reduceLT,eqv_strs,pick_0,pick_01,pick_10,pick_012,pick_021,pick_102,pick_120,pick_201,pick_210]
    refine ⟨c, m1, rfl, rfl, by omega, hc, fun c' m2 h2 hg => ?_⟩
    obtain ⟨m3, rfl⟩ : ∃ m3, m2 = m3 + 36 := ⟨m2 - 36, by omega⟩
    refine p_rtA (t1 := some (.val x)) (t4 := t4) (t5 := t5) (m := m3 + 36) hc hg (p_rtB hc hg (p_rtF hc hg fun t4 t5 => ?_))
    exact hN _ ⟨m3, _, _, _, _, _, rfl, by omega⟩
  · obtain ⟨m', t1, t2, t3, t4, t5, rfl, q1⟩ := hg
    simp only [↓dMHit,↓dMPutRet,↓dCallM,↓dPar3D,↓dMaxK,↓cMinDa,↓entM,↓dSeq,↓dAsg,↓dSetL,↓dNext,↓dIfS,↓dRet,↓dRetL,↓dDrop,↓dNever,↓dBrk,↓dAug,↓dPar,↓dParL,↓dApp,↓dVar,↓dC,↓dBin,↓fI,↓fI0,↓fAdd,↓fEq,↓fNe,↓fIn,↓dTest,↓dAndT,↓dOrT,↓dNotT,↓dAndV,↓dOrV,↓dNotV,↓dIf,↓dNeg,↓dIsN,↓dChain,↓dNil,↓dCons,↓dTup,↓dLst,↓dFz,↓valsD,↓dIx,↓dCall,↓dCallL,↓hasSrc,↓rrv,↓dN,↓dT,↓dTn,↓dTc,↓rsv,↓Gs.set,↓dFor,↓dItems,↓dRange1,↓dRange2,↓dZip,↓dLc,↓dCB,↓cLen,↓cAll,↓cTuple,↓cInt1,↓cInt2,↓dIsi,↓dBits,↓dCallS,↓oSub,↓oAddI,↓oMul,↓oDiv,↓oMod,↓oShl,↓oPow,↓oLt,↓oLe,↓oGt,↓oGe,↓oAbs,↓oMax,↓oMin,↓cMinL,↓fInD,↓dSl,↓oNo,↓oSo,↓dBy,↓fAddT,↓dSlT,↓dParR,↓dEnum,↓dRevL,↓gAs,↓Gs.unset,↓rtN,↓lamF,↓gLam,↓plainO,↓dGIx,↓dIxO,↓Z.isNon,ent,svOf,List.map_cons,List.map_nil,List.cons_append,List.nil_append,List.append_nil,List.replicate,List.length_cons,List.length_nil,List.getElem?_cons_zero,List.getElem?_cons_succ,List.getElem?_nil,List.set_cons_zero,List.set_cons_succ,Option.map_some,Option.map_none,Option.isNone_some,Option.isNone_none,forall_const,true_implies,false_implies,and_true,true_and,Bool.true_eq_false,Bool.false_eq_true,reduceCtorEq,noOwn,wipeS,hide,fuN_self,lcD,dYes,Nat.zero_add,Nat.reduceAdd,Nat.reduceLeDiff,Nat.reduceSub,atI_0,atI_1,atI_2,atI_3,atI_4,atI_5,Int.one_mul,eqv_ii,eqv_ss,eqv_num,shaped_int,shaped_num,shaped_none,shaped_ru,flat_str,flat_int,flat_none,List.all_cons,List.all_nil,Bool.and_true,decide_eq_true_eq,decide_eq_false_iff_not,Bool.not_eq_true',Bool.not_eq_false',Decidable.not_not,↓reduceIte,Bool.false_eq_true,Int.reduceLT,eqv_strs,pick_0,pick_01,pick_10,pick_012,pick_021,pick_102,pick_120,pick_201,pick_210]
    exact h _
section
variable {P : Program} {w : World} {K : Fg} {mg : Str → Option Value} {base : Heap}
theorem d__law_right (T : Tx w K mg) {cdv : Value} {A : Around} {outer : List Env} {s : Shared} {H : Hp} {E : XK} (hr : Room 17 (A.deeper (envOfC "_law_right" (defScope st__law_right) s.heap.objs.size T.f__law_right cdv))) (hgd : (A.deeper (envOfC "_law_right" (defScope st__law_right) s.heap.objs.size T.f__law_right cdv)).guards = some []) :
    PSs (cxOf CX0 P w K mg base N__law_right "_law_right" (defScope st__law_right) T.f__law_right cdv A outer s H E).nox (defBody st__law_right) (upS K W0 b__law_right) :=
  (ss_cons (s_for PassesOwn.never rfl (i_range1 (by rfl) T.n_range e_int) (g_name (pg_name (i := 1) sc__law_right.nd rfl (.inl rfl))) (ss_cons (s_set (i := 2) sc__law_right.nd rfl (.inl rfl) (e_call (ok__law_falling T) (hr.mono (by decide)) hgd (by rfl) T.g__law_falling T.F__law_falling.kp T.b__law_falling pass0 (a_cons (e_var 0 (pv 0)) a_nil)))
    (ss_cons (s_set (i := 3) sc__law_right.nd rfl (.inl rfl) (e_call (ok__law_longer T) (hr.mono (by decide)) hgd (by rfl) T.g__law_longer T.F__law_longer.kp T.b__law_longer pass0 (a_cons (e_var 0 (pv 0)) (a_cons (e_var 2 (pv 2)) a_nil))))
    (ss_cons (s_if (PW.pt (w_or (t_not (t_val (e_call (ok_same T) (hr.mono (by decide)) hgd (by rfl) T.g_same T.F_same.kp T.b_same pass0 (a_cons (e_var 2 (pv 2)) (a_cons (e_var 3 (pv 3)) a_nil))))) (w_or (t_ne hr.units (e_call (ok_thresholds T) (hr.mono (by decide)) hgd (by rfl) T.g_thresholds T.F_thresholds.kp T.b_thresholds pass0 (a_cons (e_var 3 (pv 3)) a_nil)) (e_call (ok_thresholds T) (hr.mono (by decide)) hgd (by rfl) T.g_thresholds T.F_thresholds.kp T.b_thresholds pass0 (a_cons (e_var 2 (pv 2)) a_nil))) (w_or1 (t_ne hr.units (e_call (ok_trimmed T) (hr.mono (by decide)) hgd (by rfl) T.g_trimmed T.F_trimmed.kp T.b_trimmed pass0 (a_cons (e_var 3 (pv 3)) a_nil)) (e_var 2 (pv 2))))))) (ss_one (s_ret e_bl)) ss_nil)
    (ss_cons (s_if (PW.pt (w_or (t_ne hr.units (e_call (ok_last_width T) (hr.mono (by decide)) hgd (by rfl) T.g_last_width T.F_last_width.kp T.b_last_width pass0 (a_cons (e_var 3 (pv 3)) a_nil)) (e_ix (e_ix (e_var 2 (pv 2)) (e_neg e_int)) e_int)) (w_or1 (t_ne hr.units (e_call (ok_shortest T) (hr.mono (by decide)) hgd (by rfl) T.g_shortest T.F_shortest.kp T.b_shortest pass0 (a_cons (e_var 3 (pv 3)) a_nil)) (e_call (ok_shortest T) (hr.mono (by decide)) hgd (by rfl) T.g_shortest T.F_shortest.kp T.b_shortest pass0 (a_cons (e_var 2 (pv 2)) a_nil)))))) (ss_one (s_ret e_bl)) ss_nil)
    (ss_one (s_for PassesOwn.never rfl (i_range1 (by rfl) T.n_range e_int) (g_name (pg_name (i := 4) sc__law_right.nd rfl (.inl rfl))) (ss_cons (s_set (i := 5) sc__law_right.nd rfl (.inl rfl) (e_call (ok__law_number T) (hr.mono (by decide)) hgd (by rfl) T.g__law_number T.F__law_number.kp T.b__law_number pass0 (a_cons (e_var 0 (pv 0)) (a_cons (e_pow e_int e_int) a_nil))))
    (ss_one (s_if (t_ne hr.units (e_call (ok_applied T) (hr.mono (by decide)) hgd (by rfl) T.g_applied T.F_applied.kp T.b_applied pass0 (a_cons (e_var 5 (pv 5)) (a_cons (e_var 3 (pv 3)) a_nil))) (e_call (ok_applied T) (hr.mono (by decide)) hgd (by rfl) T.g_applied T.F_applied.kp T.b_applied pass0 (a_cons (e_var 5 (pv 5)) (a_cons (e_var 2 (pv 2)) a_nil)))) (ss_one (s_ret e_bl)) ss_nil))))))))))
    (ss_one (s_ret e_bl)))
theorem ok__law_right (T : Tx w K mg) : Fn P w K mg base CX0 18 T.f__law_right T.fd__law_right ["_law_source_here"] (lift K 1 fs__law_right) := fn_data T.F__law_right sc__law_right b__law_right (fun _ _ _ _ _ _ hr hgd => d__law_right T hr hgd) p__law_right
end
def b_law : DS :=
  (dRet (dCB cAll (dCons (dFz (dLc [1] (dRange1 (dCB oMax (dCons (dC (.int 1)) (dCons (dCB oMin (dCons (dCB cLen (dCons (dVar 0) dNil)) (dCons (dC (.int 3)) dNil))) dNil)))) (dN 1) dYes (dCallS 1 1000000 fs__law_right (dCallL 2 fs__law_source (dCons (dVar 0) (dCons (dVar 1) dNil))) []))) dNil)))
def fs_law : FSp := fun rs fu post => ∃ ns : List Int, rs = [.scr ns] ∧ post (.val (.bool true)) fu
theorem p_law (rs : List Rv) (fu : Option Nat) (post : Rr → Option Nat → Prop) (hl : rs.length = 1) (h : fs_law rs fu post) : b_law ⟨fun g => post (.val .none) g.fu, fun r g => post r g.fu, fun _ => False, fun _ => False⟩ (ent N_law rs fu) := by
  obtain ⟨ns, rfl, h⟩ := h
  simp only [↓dMHit,↓dMPutRet,↓dCallM,↓dPar3D,↓dMaxK,↓cMinDa,↓entM,↓dSeq,↓dAsg,↓dSetL,↓dNext,↓dIfS,↓dRet,↓dRetL,↓dDrop,↓dNever,↓dBrk,↓dAug,↓dPar,↓dParL,↓dApp,↓dVar,↓dC,↓dBin,↓fI,↓fI0,↓fAdd,↓fEq,↓fNe,↓fIn,↓dTest,↓dAndT,↓dOrT,↓dNotT,↓dAndV,↓dOrV,↓dNotV,↓dIf,↓dNeg,↓dIsN,↓dChain,↓dNil,↓dCons,↓dTup,↓dLst,↓dFz,↓valsD,↓dIx,↓dCall,↓dCallL,↓hasSrc,↓rrv,↓dN,↓dT,↓dTn,↓dTc,↓rsv,↓Gs.set,↓dFor,↓dItems,↓dRange1,↓dRange2,↓dZip,↓dLc,↓dCB,↓cLen,↓cAll,↓cTuple,↓cInt1,↓cInt2,↓dIsi,↓dBits,↓dCallS,↓oSub,↓oAddI,↓oMul,↓oDiv,↓oMod,↓oShl,↓oPow,↓oLt,↓oLe,↓oGt,↓oGe,↓oAbs,↓oMax,↓oMin,↓cMinL,↓fInD,↓dSl,↓oNo,↓oSo,↓dBy,↓fAddT,↓dSlT,↓dParR,↓dEnum,↓dRevL,↓gAs,↓Gs.unset,↓rtN,↓lamF,↓gLam,↓plainO,↓dGIx,↓dIxO,↓Z.isNon,b_law,ent,svOf,List.map_cons,List.map_nil,List.cons_append,List.nil_append,List.append_nil,List.replicate,List.length_cons,List.length_nil,List.getElem?_cons_zero,List.getElem?_cons_succ,List.getElem?_nil,List.set_cons_zero,List.set_cons_succ,Option.map_some,Option.map_none,Option.isNone_some,Option.isNone_none,forall_const,true_implies,false_implies,and_true,true_and,Bool.true_eq_false,Bool.false_eq_true,reduceCtorEq,noOwn,wipeS,hide,fuN_self,lcD,dYes,Nat.zero_add,Nat.reduceAdd,Nat.reduceLeDiff,Nat.reduceSub,atI_0,atI_1,atI_2,atI_3,atI_4,atI_5,Int.one_mul,eqv_ii,eqv_ss,eqv_num,shaped_int,shaped_num,shaped_none,shaped_ru,flat_str,flat_int,flat_none,List.all_cons,List.all_nil,Bool.and_true,decide_eq_true_eq,decide_eq_false_iff_not,Bool.not_eq_true',Bool.not_eq_false',Decidable.not_not,↓reduceIte,Bool.false_eq_true,Int.reduceLT,eqv_strs,pick_0,pick_01,pick_10,pick_012,pick_021,pick_102,pick_120,pick_201,pick_210]
  generalize hj : (if (if (3 : Int) < _ then _ else _) > (1 : Int) then _ else _) = j
  have j0 : j ≤ 3 ∧ 0 ≤ j := by subst hj; split <;> (try split) <;> omega
  refine ⟨by omega, by omega, lc_map (fun _ => .bool true) (fun x hx R hR => ?_) ?_ ?_⟩
  · obtain ⟨i, rfl, i0, i1⟩ := rangeD_mem hx
    simp only [↓dMHit,↓dMPutRet,↓dCallM,↓dPar3D,↓dMaxK,↓cMinDa,↓entM,↓dSeq,↓dAsg,↓dSetL,↓dNext,↓dIfS,↓dRet,↓dRetL,↓dDrop,↓dNever,↓dBrk,↓dAug,↓dPar,↓dParL,↓dApp,↓dVar,↓dC,↓dBin,↓fI,↓fI0,↓fAdd,↓fEq,↓fNe,↓fIn,↓dTest,↓dAndT,↓dOrT,↓dNotT,↓dAndV,↓dOrV,↓dNotV,↓dIf,↓dNeg,↓dIsN,↓dChain,↓dNil,↓dCons,↓dTup,↓dLst,↓dFz,↓valsD,↓dIx,↓dCall,↓dCallL,↓hasSrc,↓rrv,↓dN,↓dT,↓dTn,↓dTc,↓rsv,↓Gs.set,↓dFor,↓dItems,↓dRange1,↓dRange2,↓dZip,↓dLc,↓dCB,↓cLen,↓cAll,↓cTuple,↓cInt1,↓cInt2,↓dIsi,↓dBits,↓dCallS,↓oSub,↓oAddI,↓oMul,↓oDiv,↓oMod,↓oShl,↓oPow,↓oLt,↓oLe,↓oGt,↓oGe,↓oAbs,↓oMax,↓oMin,↓cMinL,↓fInD,↓dSl,↓oNo,↓oSo,↓dBy,↓fAddT,↓dSlT,↓dParR,↓dEnum,↓dRevL,↓gAs,↓Gs.unset,↓rtN,↓lamF,↓gLam,↓plainO,↓dGIx,↓dIxO,↓Z.isNon,fs__law_source,fs__law_right,ent,svOf,List.map_cons,List.map_nil,List.cons_append,List.nil_append,List.append_nil,List.replicate,List.length_cons,List.length_nil,List.getElem?_cons_zero,List.getElem?_cons_succ,List.getElem?_nil,List.set_cons_zero,List.set_cons_succ,Option.map_some,Option.map_none,Option.isNone_some,Option.isNone_none,forall_const,true_implies,false_implies,and_true,true_and,Bool.true_eq_false,Bool.false_eq_true,reduceCtorEq,noOwn,wipeS,hide,fuN_self,lcD,dYes,Nat.zero_add,Nat.reduceAdd,Nat.reduceLeDiff,Nat.reduceSub,atI_0,atI_1,atI_2,atI_3,atI_4,atI_5,Int.one_mul,eqv_ii,eqv_ss,eqv_num,shaped_int,shaped_num,shaped_none,shaped_ru,flat_str,flat_int,flat_none,List.all_cons,List.all_nil,Bool.and_true,decide_eq_true_eq,decide_eq_false_iff_not,Bool.not_eq_true',Bool.not_eq_false',Decidable.not_not,↓reduceIte,Bool.false_eq_true,Int.reduceLT,eqv_strs,pick_0,pick_01,pick_10,pick_012,pick_021,pick_102,pick_120,pick_201,pick_210]
    exact ⟨ns, i, rfl, i0, by omega, fun x y hx0 hx hy0 hy => ⟨⟨x, y, 0, rfl, hx0, hx, hy0, hy, by decide, by decide⟩, hR _ rfl⟩⟩
  · simp [rangeD]; omega
  · rw [List.nil_append, boolsD_true]
    simp only [all_true]
    exact h
theorem law_true (ns : List Int) (hn : ns.length ≤ 63) : fs_law [.scr ns] none fun r _ => r = .val (.bool true) := ⟨ns, rfl, rfl⟩
section
variable {P : Program} {w : World} {K : Fg} {mg : Str → Option Value} {base : Heap}
theorem d_law (T : Tx w K mg) {cdv : Value} {A : Around} {outer : List Env} {s : Shared} {H : Hp} {E : XK} (hr : Room 18 (A.deeper (envOfC "law" (defScope st_law) s.heap.objs.size T.f_law cdv))) (hgd : (A.deeper (envOfC "law" (defScope st_law) s.heap.objs.size T.f_law cdv)).guards = some []) :
    PSs (cxOf CX0 P w K mg base N_law "law" (defScope st_law) T.f_law cdv A outer s H E).nox (defBody st_law) (upS K W0 b_law) :=
  (ss_one (s_ret (e_all rfl (by rfl) T.n_all (a_cons (e_fz (e_lc (own := [("_law_k", 1)]) rfl sc_law.nd (i_range1 (by rfl) T.n_range (e_max rfl (by rfl) T.n_max (a_cons e_int (a_cons (e_min rfl (by rfl) T.n_min (a_cons (e_len (by rfl) T.n_len (a_cons (e_var 0 (pv 0)) a_nil)) (a_cons e_int a_nil))) a_nil)))) (blkOk_by (own := [("_law_k", 1)]) (N := N_law) (sc := defScope st_law) (by decide +kernel)) (fun _ _ _ _ _ => (gw_name rfl (pg_name (i := 1) sc_law.nd rfl (.inl rfl)) (by decide))) (fun _ _ _ _ _ => ts_yes) (fun _ _ _ _ _ => (e_callS 1000000 (ok__law_right T) (hr.mono (by decide)) hgd (by rfl) T.g__law_right T.F__law_right.kp T.b__law_right pass0 (e_callL (ok__law_source T) (hr.mono (by decide)) hgd (by rfl) T.g__law_source T.F__law_source.kp T.b__law_source pass0 (a_cons (e_var 0 (pv 0)) (a_cons (e_var 1 (pv 1)) a_nil))) as_nil (fun _ _ _ => .nil))))) a_nil))))
theorem ok_law (T : Tx w K mg) : Fn P w K mg base CX0 19 T.f_law T.fd_law ["_law_script"] (lift K 1 fs_law) := fn_data T.F_law sc_law b_law (fun _ _ _ _ _ _ hr hgd => d_law T hr hgd) p_law
end
def mkTx {w : World} {K : Fg} {h : Heap} {mg : Str → Option Value} (X : K.In h) (G : h.Ns mainGlobals mg)  {f0 : Addr} {od0 an0 : Option Addr} {sl0 : Array (Option Value)} {oc0 kV0 dc0 pm0 cd0 ct0 : Value} {f1 : Addr} {od1 an1 : Option Addr} {sl1 : Array (Option Value)} {oc1 kV1 dc1 pm1 cd1 ct1 : Value} {f2 : Addr} {od2 an2 : Option Addr} {sl2 : Array (Option Value)} {oc2 kV2 dc2 pm2 cd2 ct2 : Value} {f3 : Addr} {od3 an3 : Option Addr} {sl3 : Array (Option Value)} {oc3 kV3 dc3 pm3 cd3 ct3 : Value} {f4 : Addr} {od4 an4 : Option Addr} {sl4 : Array (Option Value)} {oc4 kV4 dc4 pm4 cd4 ct4 : Value} {f5 : Addr} {od5 an5 : Option Addr} {sl5 : Array (Option Value)} {oc5 kV5 dc5 pm5 cd5 ct5 : Value} {f6 : Addr} {od6 an6 : Option Addr} {sl6 : Array (Option Value)} {oc6 kV6 dc6 pm6 cd6 ct6 : Value} {f7 : Addr} {od7 an7 : Option Addr} {sl7 : Array (Option Value)} {oc7 kV7 dc7 pm7 cd7 ct7 : Value} {f8 : Addr} {od8 an8 : Option Addr} {sl8 : Array (Option Value)} {oc8 kV8 dc8 pm8 cd8 ct8 : Value} {f9 : Addr} {od9 an9 : Option Addr} {sl9 : Array (Option Value)} {oc9 kV9 dc9 pm9 cd9 ct9 : Value} {f10 : Addr} {od10 an10 : Option Addr} {sl10 : Array (Option Value)} {oc10 kV10 dc10 pm10 cd10 ct10 : Value} {f11 : Addr} {od11 an11 : Option Addr} {sl11 : Array (Option Value)} {oc11 kV11 dc11 pm11 cd11 ct11 : Value} {f12 : Addr} {od12 an12 : Option Addr} {sl12 : Array (Option Value)} {oc12 kV12 dc12 pm12 cd12 ct12 : Value} {f13 : Addr} {od13 an13 : Option Addr} {sl13 : Array (Option Value)} {oc13 kV13 dc13 pm13 cd13 ct13 : Value} {f14 : Addr} {od14 an14 : Option Addr} {sl14 : Array (Option Value)} {oc14 kV14 dc14 pm14 cd14 ct14 : Value} {f15 : Addr} {od15 an15 : Option Addr} {sl15 : Array (Option Value)} {oc15 kV15 dc15 pm15 cd15 ct15 : Value} {f16 : Addr} {od16 an16 : Option Addr} {sl16 : Array (Option Value)} {oc16 kV16 dc16 pm16 cd16 ct16 : Value} {f17 : Addr} {od17 an17 : Option Addr} {sl17 : Array (Option Value)} {oc17 kV17 dc17 pm17 cd17 ct17 : Value} {f18 : Addr} {od18 an18 : Option Addr} {sl18 : Array (Option Value)} {oc18 kV18 dc18 pm18 cd18 ct18 : Value} {f19 : Addr} {od19 an19 : Option Addr} {sl19 : Array (Option Value)} {oc19 kV19 dc19 pm19 cd19 ct19 : Value} {f20 : Addr} {od20 an20 : Option Addr} {sl20 : Array (Option Value)} {oc20 kV20 dc20 pm20 cd20 ct20 : Value} {f21 : Addr} {od21 an21 : Option Addr} {sl21 : Array (Option Value)} {oc21 kV21 dc21 pm21 cd21 ct21 : Value} {f22 : Addr} {od22 an22 : Option Addr} {sl22 : Array (Option Value)} {oc22 kV22 dc22 pm22 cd22 ct22 : Value} {f23 : Addr} {od23 an23 : Option Addr} {sl23 : Array (Option Value)} {oc23 kV23 dc23 pm23 cd23 ct23 : Value} {f24 : Addr} {od24 an24 : Option Addr} {sl24 : Array (Option Value)} {oc24 kV24 dc24 pm24 cd24 ct24 : Value} {f25 : Addr} {od25 an25 : Option Addr} {sl25 : Array (Option Value)} {oc25 kV25 dc25 pm25 cd25 ct25 : Value} {f26 : Addr} {od26 an26 : Option Addr} {sl26 : Array (Option Value)} {oc26 kV26 dc26 pm26 cd26 ct26 : Value} {f27 : Addr} {od27 an27 : Option Addr} {sl27 : Array (Option Value)} {oc27 kV27 dc27 pm27 cd27 ct27 : Value} {f28 : Addr} {od28 an28 : Option Addr} {sl28 : Array (Option Value)} {oc28 kV28 dc28 pm28 cd28 ct28 : Value} {f29 : Addr} {od29 an29 : Option Addr} {sl29 : Array (Option Value)} {oc29 kV29 dc29 pm29 cd29 ct29 : Value} {f30 : Addr} {od30 an30 : Option Addr} {sl30 : Array (Option Value)} {oc30 kV30 dc30 pm30 cd30 ct30 : Value} {f31 : Addr} {od31 an31 : Option Addr} {sl31 : Array (Option Value)} {oc31 kV31 dc31 pm31 cd31 ct31 : Value} {f32 : Addr} {od32 an32 : Option Addr} {sl32 : Array (Option Value)} {oc32 kV32 dc32 pm32 cd32 ct32 : Value} {f33 : Addr} {od33 an33 : Option Addr} {sl33 : Array (Option Value)} {oc33 kV33 dc33 pm33 cd33 ct33 : Value} {f34 : Addr} {od34 an34 : Option Addr} {sl34 : Array (Option Value)} {oc34 kV34 dc34 pm34 cd34 ct34 : Value} {f35 : Addr} {od35 an35 : Option Addr} {sl35 : Array (Option Value)} {oc35 kV35 dc35 pm35 cd35 ct35 : Value} {f36 : Addr} {od36 an36 : Option Addr} {sl36 : Array (Option Value)} {oc36 kV36 dc36 pm36 cd36 ct36 : Value} {f37 : Addr} {od37 an37 : Option Addr} {sl37 : Array (Option Value)} {oc37 kV37 dc37 pm37 cd37 ct37 : Value} {f38 : Addr} {od38 an38 : Option Addr} {sl38 : Array (Option Value)} {oc38 kV38 dc38 pm38 cd38 ct38 : Value} {f39 : Addr} {od39 an39 : Option Addr} {sl39 : Array (Option Value)} {oc39 kV39 dc39 pm39 cd39 ct39 : Value} {f40 : Addr} {od40 an40 : Option Addr} {sl40 : Array (Option Value)} {oc40 kV40 dc40 pm40 cd40 ct40 : Value} {f41 : Addr} {od41 an41 : Option Addr} {sl41 : Array (Option Value)} {oc41 kV41 dc41 pm41 cd41 ct41 : Value} {f42 : Addr} {od42 an42 : Option Addr} {sl42 : Array (Option Value)} {oc42 kV42 dc42 pm42 cd42 ct42 : Value} {f43 : Addr} {od43 an43 : Option Addr} {sl43 : Array (Option Value)} {oc43 kV43 dc43 pm43 cd43 ct43 : Value} {f44 : Addr} {od44 an44 : Option Addr} {sl44 : Array (Option Value)} {oc44 kV44 dc44 pm44 cd44 ct44 : Value} {f45 : Addr} {od45 an45 : Option Addr} {sl45 : Array (Option Value)} {oc45 kV45 dc45 pm45 cd45 ct45 : Value} {ra_BY_RULE : Addr} {es_BY_RULE : Array DictEntry} {en_BY_RULE : Nat} {tk_BY_RULE_down_0_0_0 : Tok} {tk_BY_RULE_down_0_0_1 : Tok} {ra_BY_RULE_down_0_0 : Addr} {rd_BY_RULE_down_0_0 : Option Addr} {rn_BY_RULE_down_0_0 : Nat} {rs_BY_RULE_down_0_0 : Array (Option Value)} {tk_BY_RULE_down_0_1 : Tok} {ra_BY_RULE_down_0 : Addr} {rd_BY_RULE_down_0 : Option Addr} {rn_BY_RULE_down_0 : Nat} {rs_BY_RULE_down_0 : Array (Option Value)} {tk_BY_RULE_down_1_0_0 : Tok} {tk_BY_RULE_down_1_0_1 : Tok} {ra_BY_RULE_down_1_0 : Addr} {rd_BY_RULE_down_1_0 : Option Addr} {rn_BY_RULE_down_1_0 : Nat} {rs_BY_RULE_down_1_0 : Array (Option Value)} {tk_BY_RULE_down_1_1 : Tok} {ra_BY_RULE_down_1 : Addr} {rd_BY_RULE_down_1 : Option Addr} {rn_BY_RULE_down_1 : Nat} {rs_BY_RULE_down_1 : Array (Option Value)} {ra_BY_RULE_down : Addr} {rd_BY_RULE_down : Option Addr} {rn_BY_RULE_down : Nat} {rs_BY_RULE_down : Array (Option Value)} {tk_BY_RULE_half_down_0_0_0 : Tok} {tk_BY_RULE_half_down_0_0_1 : Tok} {ra_BY_RULE_half_down_0_0 : Addr} {rd_BY_RULE_half_down_0_0 : Option Addr} {rn_BY_RULE_half_down_0_0 : Nat} {rs_BY_RULE_half_down_0_0 : Array (Option Value)} {tk_BY_RULE_half_down_0_1 : Tok} {ra_BY_RULE_half_down_0 : Addr} {rd_BY_RULE_half_down_0 : Option Addr} {rn_BY_RULE_half_down_0 : Nat} {rs_BY_RULE_half_down_0 : Array (Option Value)} {tk_BY_RULE_half_down_1_0_0 : Tok} {tk_BY_RULE_half_down_1_0_1 : Tok} {ra_BY_RULE_half_down_1_0 : Addr} {rd_BY_RULE_half_down_1_0 : Option Addr} {rn_BY_RULE_half_down_1_0 : Nat} {rs_BY_RULE_half_down_1_0 : Array (Option Value)} {tk_BY_RULE_half_down_1_1 : Tok} {ra_BY_RULE_half_down_1 : Addr} {rd_BY_RULE_half_down_1 : Option Addr} {rn_BY_RULE_half_down_1 : Nat} {rs_BY_RULE_half_down_1 : Array (Option Value)} {ra_BY_RULE_half_down : Addr} {rd_BY_RULE_half_down : Option Addr} {rn_BY_RULE_half_down : Nat} {rs_BY_RULE_half_down : Array (Option Value)} {tk_BY_RULE_half_even_0_0_0 : Tok} {tk_BY_RULE_half_even_0_0_1 : Tok} {ra_BY_RULE_half_even_0_0 : Addr} {rd_BY_RULE_half_even_0_0 : Option Addr} {rn_BY_RULE_half_even_0_0 : Nat} {rs_BY_RULE_half_even_0_0 : Array (Option Value)} {tk_BY_RULE_half_even_0_1 : Tok} {ra_BY_RULE_half_even_0 : Addr} {rd_BY_RULE_half_even_0 : Option Addr} {rn_BY_RULE_half_even_0 : Nat} {rs_BY_RULE_half_even_0 : Array (Option Value)} {tk_BY_RULE_half_even_1_0_0 : Tok} {tk_BY_RULE_half_even_1_0_1 : Tok} {ra_BY_RULE_half_even_1_0 : Addr} {rd_BY_RULE_half_even_1_0 : Option Addr} {rn_BY_RULE_half_even_1_0 : Nat} {rs_BY_RULE_half_even_1_0 : Array (Option Value)} {tk_BY_RULE_half_even_1_1 : Tok} {ra_BY_RULE_half_even_1 : Addr} {rd_BY_RULE_half_even_1 : Option Addr} {rn_BY_RULE_half_even_1 : Nat} {rs_BY_RULE_half_even_1 : Array (Option Value)} {ra_BY_RULE_half_even : Addr} {rd_BY_RULE_half_even : Option Addr} {rn_BY_RULE_half_even : Nat} {rs_BY_RULE_half_even : Array (Option Value)} {tk_BY_RULE_half_up_0_0_0 : Tok} {tk_BY_RULE_half_up_0_0_1 : Tok} {ra_BY_RULE_half_up_0_0 : Addr} {rd_BY_RULE_half_up_0_0 : Option Addr} {rn_BY_RULE_half_up_0_0 : Nat} {rs_BY_RULE_half_up_0_0 : Array (Option Value)} {tk_BY_RULE_half_up_0_1 : Tok} {ra_BY_RULE_half_up_0 : Addr} {rd_BY_RULE_half_up_0 : Option Addr} {rn_BY_RULE_half_up_0 : Nat} {rs_BY_RULE_half_up_0 : Array (Option Value)} {tk_BY_RULE_half_up_1_0_0 : Tok} {tk_BY_RULE_half_up_1_0_1 : Tok} {ra_BY_RULE_half_up_1_0 : Addr} {rd_BY_RULE_half_up_1_0 : Option Addr} {rn_BY_RULE_half_up_1_0 : Nat} {rs_BY_RULE_half_up_1_0 : Array (Option Value)} {tk_BY_RULE_half_up_1_1 : Tok} {ra_BY_RULE_half_up_1 : Addr} {rd_BY_RULE_half_up_1 : Option Addr} {rn_BY_RULE_half_up_1 : Nat} {rs_BY_RULE_half_up_1 : Array (Option Value)} {ra_BY_RULE_half_up : Addr} {rd_BY_RULE_half_up : Option Addr} {rn_BY_RULE_half_up : Nat} {rs_BY_RULE_half_up : Array (Option Value)} {tk_BY_RULE_odd_0_0_0 : Tok} {tk_BY_RULE_odd_0_0_1 : Tok} {ra_BY_RULE_odd_0_0 : Addr} {rd_BY_RULE_odd_0_0 : Option Addr} {rn_BY_RULE_odd_0_0 : Nat} {rs_BY_RULE_odd_0_0 : Array (Option Value)} {tk_BY_RULE_odd_0_1 : Tok} {ra_BY_RULE_odd_0 : Addr} {rd_BY_RULE_odd_0 : Option Addr} {rn_BY_RULE_odd_0 : Nat} {rs_BY_RULE_odd_0 : Array (Option Value)} {tk_BY_RULE_odd_1_0_0 : Tok} {tk_BY_RULE_odd_1_0_1 : Tok} {ra_BY_RULE_odd_1_0 : Addr} {rd_BY_RULE_odd_1_0 : Option Addr} {rn_BY_RULE_odd_1_0 : Nat} {rs_BY_RULE_odd_1_0 : Array (Option Value)} {tk_BY_RULE_odd_1_1 : Tok} {ra_BY_RULE_odd_1 : Addr} {rd_BY_RULE_odd_1 : Option Addr} {rn_BY_RULE_odd_1 : Nat} {rs_BY_RULE_odd_1 : Array (Option Value)} {ra_BY_RULE_odd : Addr} {rd_BY_RULE_odd : Option Addr} {rn_BY_RULE_odd : Nat} {rs_BY_RULE_odd : Array (Option Value)} {tk_BY_RULE_up_0_0_0 : Tok} {tk_BY_RULE_up_0_0_1 : Tok} {ra_BY_RULE_up_0_0 : Addr} {rd_BY_RULE_up_0_0 : Option Addr} {rn_BY_RULE_up_0_0 : Nat} {rs_BY_RULE_up_0_0 : Array (Option Value)} {tk_BY_RULE_up_0_1 : Tok} {ra_BY_RULE_up_0 : Addr} {rd_BY_RULE_up_0 : Option Addr} {rn_BY_RULE_up_0 : Nat} {rs_BY_RULE_up_0 : Array (Option Value)} {tk_BY_RULE_up_1_0_0 : Tok} {tk_BY_RULE_up_1_0_1 : Tok} {ra_BY_RULE_up_1_0 : Addr} {rd_BY_RULE_up_1_0 : Option Addr} {rn_BY_RULE_up_1_0 : Nat} {rs_BY_RULE_up_1_0 : Array (Option Value)} {tk_BY_RULE_up_1_1 : Tok} {ra_BY_RULE_up_1 : Addr} {rd_BY_RULE_up_1 : Option Addr} {rn_BY_RULE_up_1 : Nat} {rs_BY_RULE_up_1 : Array (Option Value)} {ra_BY_RULE_up : Addr} {rd_BY_RULE_up : Option Addr} {rn_BY_RULE_up : Nat} {rs_BY_RULE_up : Array (Option Value)} {tk_DOWN : Tok} {tk_HALF_EVEN : Tok} {tk_HALF_UP : Tok} {tk_MOST_STEPS : Tok} {tk_MOST_WIDTH : Tok} {tk_ODD : Tok} {tk_PAIR_cells : Tok} {tk_PAIR_chains : Tok} {tk_RULES_0 : Tok} {tk_RULES_1 : Tok} {tk_RULES_2 : Tok} {tk_RULES_3 : Tok} {tk_RULES_4 : Tok} {tk_RULES_5 : Tok} {ra_RULES : Addr} {rd_RULES : Option Addr} {rn_RULES : Nat} {rs_RULES : Array (Option Value)} {tk_UP : Tok}
    (a0 : PySem.W.nsIn K mainGlobals "is_int" = some (some (.ref f0)))
    (l0 : K.lookup f0 = some ⟨oc0, od0, .func (PySem.W.fnOf "is_int" "is_int" (defArgs st_is_int) (defBody st_is_int) (defScope st_is_int) .none kV0 dc0 pm0 an0 cd0 ct0), sl0⟩) (c0 : PySem.W.codeIn K cd0 "is_int" = true) (k0 : PySem.W.keepIn K (.ref f0) = true)
    (a1 : PySem.W.nsIn K mainGlobals "common_divisor" = some (some (.ref f1)))
    (l1 : K.lookup f1 = some ⟨oc1, od1, .func (PySem.W.fnOf "common_divisor" "common_divisor" (defArgs st_common_divisor) (defBody st_common_divisor) (defScope st_common_divisor) .none kV1 dc1 pm1 an1 cd1 ct1), sl1⟩) (c1 : PySem.W.codeIn K cd1 "common_divisor" = true) (k1 : PySem.W.keepIn K (.ref f1) = true)
    (a2 : PySem.W.nsIn K mainGlobals "lowest" = some (some (.ref f2)))
    (l2 : K.lookup f2 = some ⟨oc2, od2, .func (PySem.W.fnOf "lowest" "lowest" (defArgs st_lowest) (defBody st_lowest) (defScope st_lowest) .none kV2 dc2 pm2 an2 cd2 ct2), sl2⟩) (c2 : PySem.W.codeIn K cd2 "lowest" = true) (k2 : PySem.W.keepIn K (.ref f2) = true)
    (a3 : PySem.W.nsIn K mainGlobals "is_number" = some (some (.ref f3)))
    (l3 : K.lookup f3 = some ⟨oc3, od3, .func (PySem.W.fnOf "is_number" "is_number" (defArgs st_is_number) (defBody st_is_number) (defScope st_is_number) .none kV3 dc3 pm3 an3 cd3 ct3), sl3⟩) (c3 : PySem.W.codeIn K cd3 "is_number" = true) (k3 : PySem.W.keepIn K (.ref f3) = true)
    (a4 : PySem.W.nsIn K mainGlobals "is_width" = some (some (.ref f4)))
    (l4 : K.lookup f4 = some ⟨oc4, od4, .func (PySem.W.fnOf "is_width" "is_width" (defArgs st_is_width) (defBody st_is_width) (defScope st_is_width) .none kV4 dc4 pm4 an4 cd4 ct4), sl4⟩) (c4 : PySem.W.codeIn K cd4 "is_width" = true) (k4 : PySem.W.keepIn K (.ref f4) = true)
    (a5 : PySem.W.nsIn K mainGlobals "check_number" = some (some (.ref f5)))
    (l5 : K.lookup f5 = some ⟨oc5, od5, .func (PySem.W.fnOf "check_number" "check_number" (defArgs st_check_number) (defBody st_check_number) (defScope st_check_number) .none kV5 dc5 pm5 an5 cd5 ct5), sl5⟩) (c5 : PySem.W.codeIn K cd5 "check_number" = true) (k5 : PySem.W.keepIn K (.ref f5) = true)
    (a6 : PySem.W.nsIn K mainGlobals "scaled" = some (some (.ref f6)))
    (l6 : K.lookup f6 = some ⟨oc6, od6, .func (PySem.W.fnOf "scaled" "scaled" (defArgs st_scaled) (defBody st_scaled) (defScope st_scaled) .none kV6 dc6 pm6 an6 cd6 ct6), sl6⟩) (c6 : PySem.W.codeIn K cd6 "scaled" = true) (k6 : PySem.W.keepIn K (.ref f6) = true)
    (a7 : PySem.W.nsIn K mainGlobals "power_number" = some (some (.ref f7)))
    (l7 : K.lookup f7 = some ⟨oc7, od7, .func (PySem.W.fnOf "power_number" "power_number" (defArgs st_power_number) (defBody st_power_number) (defScope st_power_number) .none kV7 dc7 pm7 an7 cd7 ct7), sl7⟩) (c7 : PySem.W.codeIn K cd7 "power_number" = true) (k7 : PySem.W.keepIn K (.ref f7) = true)
    (a8 : PySem.W.nsIn K mainGlobals "cell_of" = some (some (.ref f8)))
    (l8 : K.lookup f8 = some ⟨oc8, od8, .func (PySem.W.fnOf "cell_of" "cell_of" (defArgs st_cell_of) (defBody st_cell_of) (defScope st_cell_of) .none kV8 dc8 pm8 an8 cd8 ct8), sl8⟩) (c8 : PySem.W.codeIn K cd8 "cell_of" = true) (k8 : PySem.W.keepIn K (.ref f8) = true)
    (a9 : PySem.W.nsIn K mainGlobals "position_of" = some (some (.ref f9)))
    (l9 : K.lookup f9 = some ⟨oc9, od9, .func (PySem.W.fnOf "position_of" "position_of" (defArgs st_position_of) (defBody st_position_of) (defScope st_position_of) .none kV9 dc9 pm9 an9 cd9 ct9), sl9⟩) (c9 : PySem.W.codeIn K cd9 "position_of" = true) (k9 : PySem.W.keepIn K (.ref f9) = true)
    (a10 : PySem.W.nsIn K mainGlobals "is_rule" = some (some (.ref f10)))
    (l10 : K.lookup f10 = some ⟨oc10, od10, .func (PySem.W.fnOf "is_rule" "is_rule" (defArgs st_is_rule) (defBody st_is_rule) (defScope st_is_rule) .none kV10 dc10 pm10 an10 cd10 ct10), sl10⟩) (c10 : PySem.W.codeIn K cd10 "is_rule" = true) (k10 : PySem.W.keepIn K (.ref f10) = true)
    (a11 : PySem.W.nsIn K mainGlobals "ends_of" = some (some (.ref f11)))
    (l11 : K.lookup f11 = some ⟨oc11, od11, .func (PySem.W.fnOf "ends_of" "ends_of" (defArgs st_ends_of) (defBody st_ends_of) (defScope st_ends_of) .none kV11 dc11 pm11 an11 cd11 ct11), sl11⟩) (c11 : PySem.W.codeIn K cd11 "ends_of" = true) (k11 : PySem.W.keepIn K (.ref f11) = true)
    (a12 : PySem.W.nsIn K mainGlobals "goes_up" = some (some (.ref f12)))
    (l12 : K.lookup f12 = some ⟨oc12, od12, .func (PySem.W.fnOf "goes_up" "goes_up" (defArgs st_goes_up) (defBody st_goes_up) (defScope st_goes_up) .none kV12 dc12 pm12 an12 cd12 ct12), sl12⟩) (c12 : PySem.W.codeIn K cd12 "goes_up" = true) (k12 : PySem.W.keepIn K (.ref f12) = true)
    (a13 : PySem.W.nsIn K mainGlobals "round_once" = some (some (.ref f13)))
    (l13 : K.lookup f13 = some ⟨oc13, od13, .func (PySem.W.fnOf "round_once" "round_once" (defArgs st_round_once) (defBody st_round_once) (defScope st_round_once) .none kV13 dc13 pm13 an13 cd13 ct13), sl13⟩) (c13 : PySem.W.codeIn K cd13 "round_once" = true) (k13 : PySem.W.keepIn K (.ref f13) = true)
    (a14 : PySem.W.nsIn K mainGlobals "is_step" = some (some (.ref f14)))
    (l14 : K.lookup f14 = some ⟨oc14, od14, .func (PySem.W.fnOf "is_step" "is_step" (defArgs st_is_step) (defBody st_is_step) (defScope st_is_step) .none kV14 dc14 pm14 an14 cd14 ct14), sl14⟩) (c14 : PySem.W.codeIn K cd14 "is_step" = true) (k14 : PySem.W.keepIn K (.ref f14) = true)
    (a15 : PySem.W.nsIn K mainGlobals "is_chain" = some (some (.ref f15)))
    (l15 : K.lookup f15 = some ⟨oc15, od15, .func (PySem.W.fnOf "is_chain" "is_chain" (defArgs st_is_chain) (defBody st_is_chain) (defScope st_is_chain) .none kV15 dc15 pm15 an15 cd15 ct15), sl15⟩) (c15 : PySem.W.codeIn K cd15 "is_chain" = true) (k15 : PySem.W.keepIn K (.ref f15) = true)
    (a16 : PySem.W.nsIn K mainGlobals "check_chain" = some (some (.ref f16)))
    (l16 : K.lookup f16 = some ⟨oc16, od16, .func (PySem.W.fnOf "check_chain" "check_chain" (defArgs st_check_chain) (defBody st_check_chain) (defScope st_check_chain) .none kV16 dc16 pm16 an16 cd16 ct16), sl16⟩) (c16 : PySem.W.codeIn K cd16 "check_chain" = true) (k16 : PySem.W.keepIn K (.ref f16) = true)
    (a17 : PySem.W.nsIn K mainGlobals "last_width" = some (some (.ref f17)))
    (l17 : K.lookup f17 = some ⟨oc17, od17, .func (PySem.W.fnOf "last_width" "last_width" (defArgs st_last_width) (defBody st_last_width) (defScope st_last_width) .none kV17 dc17 pm17 an17 cd17 ct17), sl17⟩) (c17 : PySem.W.codeIn K cd17 "last_width" = true) (k17 : PySem.W.keepIn K (.ref f17) = true)
    (a18 : PySem.W.nsIn K mainGlobals "stages" = some (some (.ref f18)))
    (l18 : K.lookup f18 = some ⟨oc18, od18, .func (PySem.W.fnOf "stages" "stages" (defArgs st_stages) (defBody st_stages) (defScope st_stages) .none kV18 dc18 pm18 an18 cd18 ct18), sl18⟩) (c18 : PySem.W.codeIn K cd18 "stages" = true) (k18 : PySem.W.keepIn K (.ref f18) = true)
    (a19 : PySem.W.nsIn K mainGlobals "applied" = some (some (.ref f19)))
    (l19 : K.lookup f19 = some ⟨oc19, od19, .func (PySem.W.fnOf "applied" "applied" (defArgs st_applied) (defBody st_applied) (defScope st_applied) .none kV19 dc19 pm19 an19 cd19 ct19), sl19⟩) (c19 : PySem.W.codeIn K cd19 "applied" = true) (k19 : PySem.W.keepIn K (.ref f19) = true)
    (a20 : PySem.W.nsIn K mainGlobals "trimmed" = some (some (.ref f20)))
    (l20 : K.lookup f20 = some ⟨oc20, od20, .func (PySem.W.fnOf "trimmed" "trimmed" (defArgs st_trimmed) (defBody st_trimmed) (defScope st_trimmed) .none kV20 dc20 pm20 an20 cd20 ct20), sl20⟩) (c20 : PySem.W.codeIn K cd20 "trimmed" = true) (k20 : PySem.W.keepIn K (.ref f20) = true)
    (a21 : PySem.W.nsIn K mainGlobals "last_down" = some (some (.ref f21)))
    (l21 : K.lookup f21 = some ⟨oc21, od21, .func (PySem.W.fnOf "last_down" "last_down" (defArgs st_last_down) (defBody st_last_down) (defScope st_last_down) .none kV21 dc21 pm21 an21 cd21 ct21), sl21⟩) (c21 : PySem.W.codeIn K cd21 "last_down" = true) (k21 : PySem.W.keepIn K (.ref f21) = true)
    (a22 : PySem.W.nsIn K mainGlobals "combined" = some (some (.ref f22)))
    (l22 : K.lookup f22 = some ⟨oc22, od22, .func (PySem.W.fnOf "combined" "combined" (defArgs st_combined) (defBody st_combined) (defScope st_combined) .none kV22 dc22 pm22 an22 cd22 ct22), sl22⟩) (c22 : PySem.W.codeIn K cd22 "combined" = true) (k22 : PySem.W.keepIn K (.ref f22) = true)
    (a23 : PySem.W.nsIn K mainGlobals "thresholds" = some (some (.ref f23)))
    (l23 : K.lookup f23 = some ⟨oc23, od23, .func (PySem.W.fnOf "thresholds" "thresholds" (defArgs st_thresholds) (defBody st_thresholds) (defScope st_thresholds) .none kV23 dc23 pm23 an23 cd23 ct23), sl23⟩) (c23 : PySem.W.codeIn K cd23 "thresholds" = true) (k23 : PySem.W.keepIn K (.ref f23) = true)
    (a24 : PySem.W.nsIn K mainGlobals "check_chains" = some (some (.ref f24)))
    (l24 : K.lookup f24 = some ⟨oc24, od24, .func (PySem.W.fnOf "check_chains" "check_chains" (defArgs st_check_chains) (defBody st_check_chains) (defScope st_check_chains) .none kV24 dc24 pm24 an24 cd24 ct24), sl24⟩) (c24 : PySem.W.codeIn K cd24 "check_chains" = true) (k24 : PySem.W.keepIn K (.ref f24) = true)
    (a25 : PySem.W.nsIn K mainGlobals "same" = some (some (.ref f25)))
    (l25 : K.lookup f25 = some ⟨oc25, od25, .func (PySem.W.fnOf "same" "same" (defArgs st_same) (defBody st_same) (defScope st_same) .none kV25 dc25 pm25 an25 cd25 ct25), sl25⟩) (c25 : PySem.W.codeIn K cd25 "same" = true) (k25 : PySem.W.keepIn K (.ref f25) = true)
    (a26 : PySem.W.nsIn K mainGlobals "before_step" = some (some (.ref f26)))
    (l26 : K.lookup f26 = some ⟨oc26, od26, .func (PySem.W.fnOf "before_step" "before_step" (defArgs st_before_step) (defBody st_before_step) (defScope st_before_step) .none kV26 dc26 pm26 an26 cd26 ct26), sl26⟩) (c26 : PySem.W.codeIn K cd26 "before_step" = true) (k26 : PySem.W.keepIn K (.ref f26) = true)
    (a27 : PySem.W.nsIn K mainGlobals "all_before" = some (some (.ref f27)))
    (l27 : K.lookup f27 = some ⟨oc27, od27, .func (PySem.W.fnOf "all_before" "all_before" (defArgs st_all_before) (defBody st_all_before) (defScope st_all_before) .none kV27 dc27 pm27 an27 cd27 ct27), sl27⟩) (c27 : PySem.W.codeIn K cd27 "all_before" = true) (k27 : PySem.W.keepIn K (.ref f27) = true)
    (a28 : PySem.W.nsIn K mainGlobals "merged" = some (some (.ref f28)))
    (l28 : K.lookup f28 = some ⟨oc28, od28, .func (PySem.W.fnOf "merged" "merged" (defArgs st_merged) (defBody st_merged) (defScope st_merged) .none kV28 dc28 pm28 an28 cd28 ct28), sl28⟩) (c28 : PySem.W.codeIn K cd28 "merged" = true) (k28 : PySem.W.keepIn K (.ref f28) = true)
    (a29 : PySem.W.nsIn K mainGlobals "matches" = some (some (.ref f29)))
    (l29 : K.lookup f29 = some ⟨oc29, od29, .func (PySem.W.fnOf "matches" "matches" (defArgs st_matches) (defBody st_matches) (defScope st_matches) .none kV29 dc29 pm29 an29 cd29 ct29), sl29⟩) (c29 : PySem.W.codeIn K cd29 "matches" = true) (k29 : PySem.W.keepIn K (.ref f29) = true)
    (a30 : PySem.W.nsIn K mainGlobals "most_far" = some (some (.ref f30)))
    (l30 : K.lookup f30 = some ⟨oc30, od30, .func (PySem.W.fnOf "most_far" "most_far" (defArgs st_most_far) (defBody st_most_far) (defScope st_most_far) .none kV30 dc30 pm30 an30 cd30 ct30), sl30⟩) (c30 : PySem.W.codeIn K cd30 "most_far" = true) (k30 : PySem.W.keepIn K (.ref f30) = true)
    (a31 : PySem.W.nsIn K mainGlobals "widened" = some (some (.ref f31)))
    (l31 : K.lookup f31 = some ⟨oc31, od31, .func (PySem.W.fnOf "widened" "widened" (defArgs st_widened) (defBody st_widened) (defScope st_widened) .none kV31 dc31 pm31 an31 cd31 ct31), sl31⟩) (c31 : PySem.W.codeIn K cd31 "widened" = true) (k31 : PySem.W.keepIn K (.ref f31) = true)
    (a32 : PySem.W.nsIn K mainGlobals "least_steps" = some (some (.ref f32)))
    (l32 : K.lookup f32 = some ⟨oc32, od32, .func (PySem.W.fnOf "least_steps" "least_steps" (defArgs st_least_steps) (defBody st_least_steps) (defScope st_least_steps) .none kV32 dc32 pm32 an32 cd32 ct32), sl32⟩) (c32 : PySem.W.codeIn K cd32 "least_steps" = true) (k32 : PySem.W.keepIn K (.ref f32) = true)
    (a33 : PySem.W.nsIn K mainGlobals "shortest" = some (some (.ref f33)))
    (l33 : K.lookup f33 = some ⟨oc33, od33, .func (PySem.W.fnOf "shortest" "shortest" (defArgs st_shortest) (defBody st_shortest) (defScope st_shortest) .none kV33 dc33 pm33 an33 cd33 ct33), sl33⟩) (c33 : PySem.W.codeIn K cd33 "shortest" = true) (k33 : PySem.W.keepIn K (.ref f33) = true)
    (a34 : PySem.W.nsIn K mainGlobals "_law_source" = some (some (.ref f34)))
    (l34 : K.lookup f34 = some ⟨oc34, od34, .func (PySem.W.fnOf "_law_source" "_law_source" (defArgs st__law_source) (defBody st__law_source) (defScope st__law_source) .none kV34 dc34 pm34 an34 cd34 ct34), sl34⟩) (c34 : PySem.W.codeIn K cd34 "_law_source" = true) (k34 : PySem.W.keepIn K (.ref f34) = true)
    (a35 : PySem.W.nsIn K mainGlobals "_law_draw" = some (some (.ref f35)))
    (l35 : K.lookup f35 = some ⟨oc35, od35, .func (PySem.W.fnOf "_law_draw" "_law_draw" (defArgs st__law_draw) (defBody st__law_draw) (defScope st__law_draw) .none kV35 dc35 pm35 an35 cd35 ct35), sl35⟩) (c35 : PySem.W.codeIn K cd35 "_law_draw" = true) (k35 : PySem.W.keepIn K (.ref f35) = true)
    (a36 : PySem.W.nsIn K mainGlobals "_law_pick" = some (some (.ref f36)))
    (l36 : K.lookup f36 = some ⟨oc36, od36, .func (PySem.W.fnOf "_law_pick" "_law_pick" (defArgs st__law_pick) (defBody st__law_pick) (defScope st__law_pick) .none kV36 dc36 pm36 an36 cd36 ct36), sl36⟩) (c36 : PySem.W.codeIn K cd36 "_law_pick" = true) (k36 : PySem.W.keepIn K (.ref f36) = true)
    (a37 : PySem.W.nsIn K mainGlobals "_law_divisor" = some (some (.ref f37)))
    (l37 : K.lookup f37 = some ⟨oc37, od37, .func (PySem.W.fnOf "_law_divisor" "_law_divisor" (defArgs st__law_divisor) (defBody st__law_divisor) (defScope st__law_divisor) .none kV37 dc37 pm37 an37 cd37 ct37), sl37⟩) (c37 : PySem.W.codeIn K cd37 "_law_divisor" = true) (k37 : PySem.W.keepIn K (.ref f37) = true)
    (a38 : PySem.W.nsIn K mainGlobals "_law_low" = some (some (.ref f38)))
    (l38 : K.lookup f38 = some ⟨oc38, od38, .func (PySem.W.fnOf "_law_low" "_law_low" (defArgs st__law_low) (defBody st__law_low) (defScope st__law_low) .none kV38 dc38 pm38 an38 cd38 ct38), sl38⟩) (c38 : PySem.W.codeIn K cd38 "_law_low" = true) (k38 : PySem.W.keepIn K (.ref f38) = true)
    (a39 : PySem.W.nsIn K mainGlobals "_law_scaled" = some (some (.ref f39)))
    (l39 : K.lookup f39 = some ⟨oc39, od39, .func (PySem.W.fnOf "_law_scaled" "_law_scaled" (defArgs st__law_scaled) (defBody st__law_scaled) (defScope st__law_scaled) .none kV39 dc39 pm39 an39 cd39 ct39), sl39⟩) (c39 : PySem.W.codeIn K cd39 "_law_scaled" = true) (k39 : PySem.W.keepIn K (.ref f39) = true)
    (a40 : PySem.W.nsIn K mainGlobals "_law_number" = some (some (.ref f40)))
    (l40 : K.lookup f40 = some ⟨oc40, od40, .func (PySem.W.fnOf "_law_number" "_law_number" (defArgs st__law_number) (defBody st__law_number) (defScope st__law_number) .none kV40 dc40 pm40 an40 cd40 ct40), sl40⟩) (c40 : PySem.W.codeIn K cd40 "_law_number" = true) (k40 : PySem.W.keepIn K (.ref f40) = true)
    (a41 : PySem.W.nsIn K mainGlobals "_law_rule" = some (some (.ref f41)))
    (l41 : K.lookup f41 = some ⟨oc41, od41, .func (PySem.W.fnOf "_law_rule" "_law_rule" (defArgs st__law_rule) (defBody st__law_rule) (defScope st__law_rule) .none kV41 dc41 pm41 an41 cd41 ct41), sl41⟩) (c41 : PySem.W.codeIn K cd41 "_law_rule" = true) (k41 : PySem.W.keepIn K (.ref f41) = true)
    (a42 : PySem.W.nsIn K mainGlobals "_law_falling" = some (some (.ref f42)))
    (l42 : K.lookup f42 = some ⟨oc42, od42, .func (PySem.W.fnOf "_law_falling" "_law_falling" (defArgs st__law_falling) (defBody st__law_falling) (defScope st__law_falling) .none kV42 dc42 pm42 an42 cd42 ct42), sl42⟩) (c42 : PySem.W.codeIn K cd42 "_law_falling" = true) (k42 : PySem.W.keepIn K (.ref f42) = true)
    (a43 : PySem.W.nsIn K mainGlobals "_law_longer" = some (some (.ref f43)))
    (l43 : K.lookup f43 = some ⟨oc43, od43, .func (PySem.W.fnOf "_law_longer" "_law_longer" (defArgs st__law_longer) (defBody st__law_longer) (defScope st__law_longer) .none kV43 dc43 pm43 an43 cd43 ct43), sl43⟩) (c43 : PySem.W.codeIn K cd43 "_law_longer" = true) (k43 : PySem.W.keepIn K (.ref f43) = true)
    (a44 : PySem.W.nsIn K mainGlobals "_law_right" = some (some (.ref f44)))
    (l44 : K.lookup f44 = some ⟨oc44, od44, .func (PySem.W.fnOf "_law_right" "_law_right" (defArgs st__law_right) (defBody st__law_right) (defScope st__law_right) .none kV44 dc44 pm44 an44 cd44 ct44), sl44⟩) (c44 : PySem.W.codeIn K cd44 "_law_right" = true) (k44 : PySem.W.keepIn K (.ref f44) = true)
    (a45 : PySem.W.nsIn K mainGlobals "law" = some (some (.ref f45)))
    (l45 : K.lookup f45 = some ⟨oc45, od45, .func (PySem.W.fnOf "law" "law" (defArgs st_law) (defBody st_law) (defScope st_law) .none kV45 dc45 pm45 an45 cd45 ct45), sl45⟩) (c45 : PySem.W.codeIn K cd45 "law" = true) (k45 : PySem.W.keepIn K (.ref f45) = true)
    (z_abs : PySem.W.nsIn K mainGlobals "abs" = some none)
    (z_all : PySem.W.nsIn K mainGlobals "all" = some none)
    (z_bool : PySem.W.nsIn K mainGlobals "bool" = some none)
    (z_enumerate : PySem.W.nsIn K mainGlobals "enumerate" = some none)
    (z_int : PySem.W.nsIn K mainGlobals "int" = some none)
    (z_isinstance : PySem.W.nsIn K mainGlobals "isinstance" = some none)
    (z_len : PySem.W.nsIn K mainGlobals "len" = some none)
    (z_max : PySem.W.nsIn K mainGlobals "max" = some none)
    (z_min : PySem.W.nsIn K mainGlobals "min" = some none)
    (z_range : PySem.W.nsIn K mainGlobals "range" = some none)
    (z_str : PySem.W.nsIn K mainGlobals "str" = some none)
    (z_tuple : PySem.W.nsIn K mainGlobals "tuple" = some none)
    (z_zip : PySem.W.nsIn K mainGlobals "zip" = some none)
    (y_BY_RULE : PySem.W.nsIn K mainGlobals "BY_RULE" = some (some (.ref ra_BY_RULE))) (d_BY_RULE : K.lookup ra_BY_RULE = some ⟨.type "dict", none, .dict es_BY_RULE en_BY_RULE, #[]⟩) (q_BY_RULE : PySem.W.KeysLit w.params es_BY_RULE.toList)
    (n_BY_RULE_down : PySem.W.nsIn K ra_BY_RULE "down" = some (some (.ref ra_BY_RULE_down)))
    (x_BY_RULE_down : K.lookup ra_BY_RULE_down = some ⟨.type "tuple", rd_BY_RULE_down, .seq #[.ref ra_BY_RULE_down_0, .ref ra_BY_RULE_down_1] rn_BY_RULE_down, rs_BY_RULE_down⟩)
    (x_BY_RULE_down_0 : K.lookup ra_BY_RULE_down_0 = some ⟨.type "tuple", rd_BY_RULE_down_0, .seq #[.ref ra_BY_RULE_down_0_0, .str "up" tk_BY_RULE_down_0_1] rn_BY_RULE_down_0, rs_BY_RULE_down_0⟩)
    (x_BY_RULE_down_0_0 : K.lookup ra_BY_RULE_down_0_0 = some ⟨.type "tuple", rd_BY_RULE_down_0_0, .seq #[.int 1 tk_BY_RULE_down_0_0_0, .int 1 tk_BY_RULE_down_0_0_1] rn_BY_RULE_down_0_0, rs_BY_RULE_down_0_0⟩)
    (x_BY_RULE_down_1 : K.lookup ra_BY_RULE_down_1 = some ⟨.type "tuple", rd_BY_RULE_down_1, .seq #[.ref ra_BY_RULE_down_1_0, .str "up" tk_BY_RULE_down_1_1] rn_BY_RULE_down_1, rs_BY_RULE_down_1⟩)
    (x_BY_RULE_down_1_0 : K.lookup ra_BY_RULE_down_1_0 = some ⟨.type "tuple", rd_BY_RULE_down_1_0, .seq #[.int 1 tk_BY_RULE_down_1_0_0, .int 1 tk_BY_RULE_down_1_0_1] rn_BY_RULE_down_1_0, rs_BY_RULE_down_1_0⟩)
    (n_BY_RULE_half_down : PySem.W.nsIn K ra_BY_RULE "half_down" = some (some (.ref ra_BY_RULE_half_down)))
    (x_BY_RULE_half_down : K.lookup ra_BY_RULE_half_down = some ⟨.type "tuple", rd_BY_RULE_half_down, .seq #[.ref ra_BY_RULE_half_down_0, .ref ra_BY_RULE_half_down_1] rn_BY_RULE_half_down, rs_BY_RULE_half_down⟩)
    (x_BY_RULE_half_down_0 : K.lookup ra_BY_RULE_half_down_0 = some ⟨.type "tuple", rd_BY_RULE_half_down_0, .seq #[.ref ra_BY_RULE_half_down_0_0, .str "down" tk_BY_RULE_half_down_0_1] rn_BY_RULE_half_down_0, rs_BY_RULE_half_down_0⟩)
    (x_BY_RULE_half_down_0_0 : K.lookup ra_BY_RULE_half_down_0_0 = some ⟨.type "tuple", rd_BY_RULE_half_down_0_0, .seq #[.int 1 tk_BY_RULE_half_down_0_0_0, .int 2 tk_BY_RULE_half_down_0_0_1] rn_BY_RULE_half_down_0_0, rs_BY_RULE_half_down_0_0⟩)
    (x_BY_RULE_half_down_1 : K.lookup ra_BY_RULE_half_down_1 = some ⟨.type "tuple", rd_BY_RULE_half_down_1, .seq #[.ref ra_BY_RULE_half_down_1_0, .str "down" tk_BY_RULE_half_down_1_1] rn_BY_RULE_half_down_1, rs_BY_RULE_half_down_1⟩)
    (x_BY_RULE_half_down_1_0 : K.lookup ra_BY_RULE_half_down_1_0 = some ⟨.type "tuple", rd_BY_RULE_half_down_1_0, .seq #[.int 1 tk_BY_RULE_half_down_1_0_0, .int 2 tk_BY_RULE_half_down_1_0_1] rn_BY_RULE_half_down_1_0, rs_BY_RULE_half_down_1_0⟩)
    (n_BY_RULE_half_even : PySem.W.nsIn K ra_BY_RULE "half_even" = some (some (.ref ra_BY_RULE_half_even)))
    (x_BY_RULE_half_even : K.lookup ra_BY_RULE_half_even = some ⟨.type "tuple", rd_BY_RULE_half_even, .seq #[.ref ra_BY_RULE_half_even_0, .ref ra_BY_RULE_half_even_1] rn_BY_RULE_half_even, rs_BY_RULE_half_even⟩)
    (x_BY_RULE_half_even_0 : K.lookup ra_BY_RULE_half_even_0 = some ⟨.type "tuple", rd_BY_RULE_half_even_0, .seq #[.ref ra_BY_RULE_half_even_0_0, .str "down" tk_BY_RULE_half_even_0_1] rn_BY_RULE_half_even_0, rs_BY_RULE_half_even_0⟩)
    (x_BY_RULE_half_even_0_0 : K.lookup ra_BY_RULE_half_even_0_0 = some ⟨.type "tuple", rd_BY_RULE_half_even_0_0, .seq #[.int 1 tk_BY_RULE_half_even_0_0_0, .int 2 tk_BY_RULE_half_even_0_0_1] rn_BY_RULE_half_even_0_0, rs_BY_RULE_half_even_0_0⟩)
    (x_BY_RULE_half_even_1 : K.lookup ra_BY_RULE_half_even_1 = some ⟨.type "tuple", rd_BY_RULE_half_even_1, .seq #[.ref ra_BY_RULE_half_even_1_0, .str "up" tk_BY_RULE_half_even_1_1] rn_BY_RULE_half_even_1, rs_BY_RULE_half_even_1⟩)
    (x_BY_RULE_half_even_1_0 : K.lookup ra_BY_RULE_half_even_1_0 = some ⟨.type "tuple", rd_BY_RULE_half_even_1_0, .seq #[.int 1 tk_BY_RULE_half_even_1_0_0, .int 2 tk_BY_RULE_half_even_1_0_1] rn_BY_RULE_half_even_1_0, rs_BY_RULE_half_even_1_0⟩)
    (n_BY_RULE_half_up : PySem.W.nsIn K ra_BY_RULE "half_up" = some (some (.ref ra_BY_RULE_half_up)))
    (x_BY_RULE_half_up : K.lookup ra_BY_RULE_half_up = some ⟨.type "tuple", rd_BY_RULE_half_up, .seq #[.ref ra_BY_RULE_half_up_0, .ref ra_BY_RULE_half_up_1] rn_BY_RULE_half_up, rs_BY_RULE_half_up⟩)
    (x_BY_RULE_half_up_0 : K.lookup ra_BY_RULE_half_up_0 = some ⟨.type "tuple", rd_BY_RULE_half_up_0, .seq #[.ref ra_BY_RULE_half_up_0_0, .str "up" tk_BY_RULE_half_up_0_1] rn_BY_RULE_half_up_0, rs_BY_RULE_half_up_0⟩)
    (x_BY_RULE_half_up_0_0 : K.lookup ra_BY_RULE_half_up_0_0 = some ⟨.type "tuple", rd_BY_RULE_half_up_0_0, .seq #[.int 1 tk_BY_RULE_half_up_0_0_0, .int 2 tk_BY_RULE_half_up_0_0_1] rn_BY_RULE_half_up_0_0, rs_BY_RULE_half_up_0_0⟩)
    (x_BY_RULE_half_up_1 : K.lookup ra_BY_RULE_half_up_1 = some ⟨.type "tuple", rd_BY_RULE_half_up_1, .seq #[.ref ra_BY_RULE_half_up_1_0, .str "up" tk_BY_RULE_half_up_1_1] rn_BY_RULE_half_up_1, rs_BY_RULE_half_up_1⟩)
    (x_BY_RULE_half_up_1_0 : K.lookup ra_BY_RULE_half_up_1_0 = some ⟨.type "tuple", rd_BY_RULE_half_up_1_0, .seq #[.int 1 tk_BY_RULE_half_up_1_0_0, .int 2 tk_BY_RULE_half_up_1_0_1] rn_BY_RULE_half_up_1_0, rs_BY_RULE_half_up_1_0⟩)
    (n_BY_RULE_odd : PySem.W.nsIn K ra_BY_RULE "odd" = some (some (.ref ra_BY_RULE_odd)))
    (x_BY_RULE_odd : K.lookup ra_BY_RULE_odd = some ⟨.type "tuple", rd_BY_RULE_odd, .seq #[.ref ra_BY_RULE_odd_0, .ref ra_BY_RULE_odd_1] rn_BY_RULE_odd, rs_BY_RULE_odd⟩)
    (x_BY_RULE_odd_0 : K.lookup ra_BY_RULE_odd_0 = some ⟨.type "tuple", rd_BY_RULE_odd_0, .seq #[.ref ra_BY_RULE_odd_0_0, .str "down" tk_BY_RULE_odd_0_1] rn_BY_RULE_odd_0, rs_BY_RULE_odd_0⟩)
    (x_BY_RULE_odd_0_0 : K.lookup ra_BY_RULE_odd_0_0 = some ⟨.type "tuple", rd_BY_RULE_odd_0_0, .seq #[.int 0 tk_BY_RULE_odd_0_0_0, .int 1 tk_BY_RULE_odd_0_0_1] rn_BY_RULE_odd_0_0, rs_BY_RULE_odd_0_0⟩)
    (x_BY_RULE_odd_1 : K.lookup ra_BY_RULE_odd_1 = some ⟨.type "tuple", rd_BY_RULE_odd_1, .seq #[.ref ra_BY_RULE_odd_1_0, .str "up" tk_BY_RULE_odd_1_1] rn_BY_RULE_odd_1, rs_BY_RULE_odd_1⟩)
    (x_BY_RULE_odd_1_0 : K.lookup ra_BY_RULE_odd_1_0 = some ⟨.type "tuple", rd_BY_RULE_odd_1_0, .seq #[.int 1 tk_BY_RULE_odd_1_0_0, .int 1 tk_BY_RULE_odd_1_0_1] rn_BY_RULE_odd_1_0, rs_BY_RULE_odd_1_0⟩)
    (n_BY_RULE_up : PySem.W.nsIn K ra_BY_RULE "up" = some (some (.ref ra_BY_RULE_up)))
    (x_BY_RULE_up : K.lookup ra_BY_RULE_up = some ⟨.type "tuple", rd_BY_RULE_up, .seq #[.ref ra_BY_RULE_up_0, .ref ra_BY_RULE_up_1] rn_BY_RULE_up, rs_BY_RULE_up⟩)
    (x_BY_RULE_up_0 : K.lookup ra_BY_RULE_up_0 = some ⟨.type "tuple", rd_BY_RULE_up_0, .seq #[.ref ra_BY_RULE_up_0_0, .str "down" tk_BY_RULE_up_0_1] rn_BY_RULE_up_0, rs_BY_RULE_up_0⟩)
    (x_BY_RULE_up_0_0 : K.lookup ra_BY_RULE_up_0_0 = some ⟨.type "tuple", rd_BY_RULE_up_0_0, .seq #[.int 0 tk_BY_RULE_up_0_0_0, .int 1 tk_BY_RULE_up_0_0_1] rn_BY_RULE_up_0_0, rs_BY_RULE_up_0_0⟩)
    (x_BY_RULE_up_1 : K.lookup ra_BY_RULE_up_1 = some ⟨.type "tuple", rd_BY_RULE_up_1, .seq #[.ref ra_BY_RULE_up_1_0, .str "down" tk_BY_RULE_up_1_1] rn_BY_RULE_up_1, rs_BY_RULE_up_1⟩)
    (x_BY_RULE_up_1_0 : K.lookup ra_BY_RULE_up_1_0 = some ⟨.type "tuple", rd_BY_RULE_up_1_0, .seq #[.int 0 tk_BY_RULE_up_1_0_0, .int 1 tk_BY_RULE_up_1_0_1] rn_BY_RULE_up_1_0, rs_BY_RULE_up_1_0⟩)
    (y_DOWN : PySem.W.nsIn K mainGlobals "DOWN" = some (some (.str "down" tk_DOWN)))
    (y_HALF_EVEN : PySem.W.nsIn K mainGlobals "HALF_EVEN" = some (some (.str "half_even" tk_HALF_EVEN)))
    (y_HALF_UP : PySem.W.nsIn K mainGlobals "HALF_UP" = some (some (.str "half_up" tk_HALF_UP)))
    (y_MOST_STEPS : PySem.W.nsIn K mainGlobals "MOST_STEPS" = some (some (.int 12 tk_MOST_STEPS)))
    (y_MOST_WIDTH : PySem.W.nsIn K mainGlobals "MOST_WIDTH" = some (some (.int 100 tk_MOST_WIDTH)))
    (y_ODD : PySem.W.nsIn K mainGlobals "ODD" = some (some (.str "odd" tk_ODD)))
    (y_PAIR_cells : PySem.W.nsIn K mainGlobals "PAIR_cells" = some (some (.int 2 tk_PAIR_cells)))
    (y_PAIR_chains : PySem.W.nsIn K mainGlobals "PAIR_chains" = some (some (.int 2 tk_PAIR_chains)))
    (y_RULES : PySem.W.nsIn K mainGlobals "RULES" = some (some (.ref ra_RULES)))
    (x_RULES : K.lookup ra_RULES = some ⟨.type "tuple", rd_RULES, .seq #[.str "down" tk_RULES_0, .str "half_down" tk_RULES_1, .str "half_even" tk_RULES_2, .str "half_up" tk_RULES_3, .str "odd" tk_RULES_4, .str "up" tk_RULES_5] rn_RULES, rs_RULES⟩)
    (y_UP : PySem.W.nsIn K mainGlobals "UP" = some (some (.str "up" tk_UP))) : Tx w K mg :=
  { f_is_int := f0, fd_is_int := _, F_is_int := fun_mk (st := st_is_int) l0 c0 k0, b_is_int := (fun_mk (st := st_is_int) l0 c0 k0).binds (ps := ["value", "least"]) fun _ _ _ _ _ _ us hl => match us, hl with | [_, _], _ => rfl,
    g_is_int := PySem.W.mg_of X G a0,
    f_common_divisor := f1, fd_common_divisor := _, F_common_divisor := fun_mk (st := st_common_divisor) l1 c1 k1, b_common_divisor := (fun_mk (st := st_common_divisor) l1 c1 k1).binds (ps := ["one", "other"]) fun _ _ _ _ _ _ us hl => match us, hl with | [_, _], _ => rfl,
    g_common_divisor := PySem.W.mg_of X G a1,
    f_lowest := f2, fd_lowest := _, F_lowest := fun_mk (st := st_lowest) l2 c2 k2, b_lowest := (fun_mk (st := st_lowest) l2 c2 k2).binds (ps := ["n", "d"]) fun _ _ _ _ _ _ us hl => match us, hl with | [_, _], _ => rfl,
    g_lowest := PySem.W.mg_of X G a2,
    f_is_number := f3, fd_is_number := _, F_is_number := fun_mk (st := st_is_number) l3 c3 k3, b_is_number := (fun_mk (st := st_is_number) l3 c3 k3).binds (ps := ["value"]) fun _ _ _ _ _ _ us hl => match us, hl with | [_], _ => rfl,
    g_is_number := PySem.W.mg_of X G a3,
    f_is_width := f4, fd_is_width := _, F_is_width := fun_mk (st := st_is_width) l4 c4 k4, b_is_width := (fun_mk (st := st_is_width) l4 c4 k4).binds (ps := ["value"]) fun _ _ _ _ _ _ us hl => match us, hl with | [_], _ => rfl,
    g_is_width := PySem.W.mg_of X G a4,
    f_check_number := f5, fd_check_number := _, F_check_number := fun_mk (st := st_check_number) l5 c5 k5, b_check_number := (fun_mk (st := st_check_number) l5 c5 k5).binds (ps := ["value"]) fun _ _ _ _ _ _ us hl => match us, hl with | [_], _ => rfl,
    g_check_number := PySem.W.mg_of X G a5,
    f_scaled := f6, fd_scaled := _, F_scaled := fun_mk (st := st_scaled) l6 c6 k6, b_scaled := (fun_mk (st := st_scaled) l6 c6 k6).binds (ps := ["number", "e"]) fun _ _ _ _ _ _ us hl => match us, hl with | [_, _], _ => rfl,
    g_scaled := PySem.W.mg_of X G a6,
    f_power_number := f7, fd_power_number := _, F_power_number := fun_mk (st := st_power_number) l7 c7 k7, b_power_number := (fun_mk (st := st_power_number) l7 c7 k7).binds (ps := ["k", "e"]) fun _ _ _ _ _ _ us hl => match us, hl with | [_, _], _ => rfl,
    g_power_number := PySem.W.mg_of X G a7,
    f_cell_of := f8, fd_cell_of := _, F_cell_of := fun_mk (st := st_cell_of) l8 c8 k8, b_cell_of := (fun_mk (st := st_cell_of) l8 c8 k8).binds (ps := ["number", "width"]) fun _ _ _ _ _ _ us hl => match us, hl with | [_, _], _ => rfl,
    g_cell_of := PySem.W.mg_of X G a8,
    f_position_of := f9, fd_position_of := _, F_position_of := fun_mk (st := st_position_of) l9 c9 k9, b_position_of := (fun_mk (st := st_position_of) l9 c9 k9).binds (ps := ["number", "width"]) fun _ _ _ _ _ _ us hl => match us, hl with | [_, _], _ => rfl,
    g_position_of := PySem.W.mg_of X G a9,
    f_is_rule := f10, fd_is_rule := _, F_is_rule := fun_mk (st := st_is_rule) l10 c10 k10, b_is_rule := (fun_mk (st := st_is_rule) l10 c10 k10).binds (ps := ["value"]) fun _ _ _ _ _ _ us hl => match us, hl with | [_], _ => rfl,
    g_is_rule := PySem.W.mg_of X G a10,
    f_ends_of := f11, fd_ends_of := _, F_ends_of := fun_mk (st := st_ends_of) l11 c11 k11, b_ends_of := (fun_mk (st := st_ends_of) l11 c11 k11).binds (ps := ["number", "width"]) fun _ _ _ _ _ _ us hl => match us, hl with | [_, _], _ => rfl,
    g_ends_of := PySem.W.mg_of X G a11,
    f_goes_up := f12, fd_goes_up := _, F_goes_up := fun_mk (st := st_goes_up) l12 c12 k12, b_goes_up := (fun_mk (st := st_goes_up) l12 c12 k12).binds (ps := ["k", "place", "rule"]) fun _ _ _ _ _ _ us hl => match us, hl with | [_, _, _], _ => rfl,
    g_goes_up := PySem.W.mg_of X G a12,
    f_round_once := f13, fd_round_once := _, F_round_once := fun_mk (st := st_round_once) l13 c13 k13, b_round_once := (fun_mk (st := st_round_once) l13 c13 k13).binds (ps := ["number", "width", "rule"]) fun _ _ _ _ _ _ us hl => match us, hl with | [_, _, _], _ => rfl,
    g_round_once := PySem.W.mg_of X G a13,
    f_is_step := f14, fd_is_step := _, F_is_step := fun_mk (st := st_is_step) l14 c14 k14, b_is_step := (fun_mk (st := st_is_step) l14 c14 k14).binds (ps := ["value"]) fun _ _ _ _ _ _ us hl => match us, hl with | [_], _ => rfl,
    g_is_step := PySem.W.mg_of X G a14,
    f_is_chain := f15, fd_is_chain := _, F_is_chain := fun_mk (st := st_is_chain) l15 c15 k15, b_is_chain := (fun_mk (st := st_is_chain) l15 c15 k15).binds (ps := ["value"]) fun _ _ _ _ _ _ us hl => match us, hl with | [_], _ => rfl,
    g_is_chain := PySem.W.mg_of X G a15,
    f_check_chain := f16, fd_check_chain := _, F_check_chain := fun_mk (st := st_check_chain) l16 c16 k16, b_check_chain := (fun_mk (st := st_check_chain) l16 c16 k16).binds (ps := ["value"]) fun _ _ _ _ _ _ us hl => match us, hl with | [_], _ => rfl,
    g_check_chain := PySem.W.mg_of X G a16,
    f_last_width := f17, fd_last_width := _, F_last_width := fun_mk (st := st_last_width) l17 c17 k17, b_last_width := (fun_mk (st := st_last_width) l17 c17 k17).binds (ps := ["chain"]) fun _ _ _ _ _ _ us hl => match us, hl with | [_], _ => rfl,
    g_last_width := PySem.W.mg_of X G a17,
    f_stages := f18, fd_stages := _, F_stages := fun_mk (st := st_stages) l18 c18 k18, b_stages := (fun_mk (st := st_stages) l18 c18 k18).binds (ps := ["number", "chain"]) fun _ _ _ _ _ _ us hl => match us, hl with | [_, _], _ => rfl,
    g_stages := PySem.W.mg_of X G a18,
    f_applied := f19, fd_applied := _, F_applied := fun_mk (st := st_applied) l19 c19 k19, b_applied := (fun_mk (st := st_applied) l19 c19 k19).binds (ps := ["number", "chain"]) fun _ _ _ _ _ _ us hl => match us, hl with | [_, _], _ => rfl,
    g_applied := PySem.W.mg_of X G a19,
    f_trimmed := f20, fd_trimmed := _, F_trimmed := fun_mk (st := st_trimmed) l20 c20 k20, b_trimmed := (fun_mk (st := st_trimmed) l20 c20 k20).binds (ps := ["chain"]) fun _ _ _ _ _ _ us hl => match us, hl with | [_], _ => rfl,
    g_trimmed := PySem.W.mg_of X G a20,
    f_last_down := f21, fd_last_down := _, F_last_down := fun_mk (st := st_last_down) l21 c21 k21, b_last_down := (fun_mk (st := st_last_down) l21 c21 k21).binds (ps := ["rule", "far", "parity"]) fun _ _ _ _ _ _ us hl => match us, hl with | [_, _, _], _ => rfl,
    g_last_down := PySem.W.mg_of X G a21,
    f_combined := f22, fd_combined := _, F_combined := fun_mk (st := st_combined) l22 c22 k22, b_combined := (fun_mk (st := st_combined) l22 c22 k22).binds (ps := ["pair", "rule", "far"]) fun _ _ _ _ _ _ us hl => match us, hl with | [_, _, _], _ => rfl,
    g_combined := PySem.W.mg_of X G a22,
    f_thresholds := f23, fd_thresholds := _, F_thresholds := fun_mk (st := st_thresholds) l23 c23 k23, b_thresholds := (fun_mk (st := st_thresholds) l23 c23 k23).binds (ps := ["chain"]) fun _ _ _ _ _ _ us hl => match us, hl with | [_], _ => rfl,
    g_thresholds := PySem.W.mg_of X G a23,
    f_check_chains := f24, fd_check_chains := _, F_check_chains := fun_mk (st := st_check_chains) l24 c24 k24, b_check_chains := (fun_mk (st := st_check_chains) l24 c24 k24).binds (ps := ["one", "other"]) fun _ _ _ _ _ _ us hl => match us, hl with | [_, _], _ => rfl,
    g_check_chains := PySem.W.mg_of X G a24,
    f_same := f25, fd_same := _, F_same := fun_mk (st := st_same) l25 c25 k25, b_same := (fun_mk (st := st_same) l25 c25 k25).binds (ps := ["one", "other"]) fun _ _ _ _ _ _ us hl => match us, hl with | [_, _], _ => rfl,
    g_same := PySem.W.mg_of X G a25,
    f_before_step := f26, fd_before_step := _, F_before_step := fun_mk (st := st_before_step) l26 c26 k26, b_before_step := (fun_mk (st := st_before_step) l26 c26 k26).binds (ps := ["threshold", "rule", "far", "parity"]) fun _ _ _ _ _ _ us hl => match us, hl with | [_, _, _, _], _ => rfl,
    g_before_step := PySem.W.mg_of X G a26,
    f_all_before := f27, fd_all_before := _, F_all_before := fun_mk (st := st_all_before) l27 c27 k27, b_all_before := (fun_mk (st := st_all_before) l27 c27 k27).binds (ps := ["wanted", "rule", "far"]) fun _ _ _ _ _ _ us hl => match us, hl with | [_, _, _], _ => rfl,
    g_all_before := PySem.W.mg_of X G a27,
    f_merged := f28, fd_merged := _, F_merged := fun_mk (st := st_merged) l28 c28 k28, b_merged := (fun_mk (st := st_merged) l28 c28 k28).binds (ps := ["some"]) fun _ _ _ _ _ _ us hl => match us, hl with | [_], _ => rfl,
    g_merged := PySem.W.mg_of X G a28,
    f_matches := f29, fd_matches := _, F_matches := fun_mk (st := st_matches) l29 c29 k29, b_matches := (fun_mk (st := st_matches) l29 c29 k29).binds (ps := ["wanted", "rule"]) fun _ _ _ _ _ _ us hl => match us, hl with | [_, _], _ => rfl,
    g_matches := PySem.W.mg_of X G a29,
    f_most_far := f30, fd_most_far := _, F_most_far := fun_mk (st := st_most_far) l30 c30 k30, b_most_far := (fun_mk (st := st_most_far) l30 c30 k30).binds (ps := ["wanted"]) fun _ _ _ _ _ _ us hl => match us, hl with | [_], _ => rfl,
    g_most_far := PySem.W.mg_of X G a30,
    f_widened := f31, fd_widened := _, F_widened := fun_mk (st := st_widened) l31 c31 k31, b_widened := (fun_mk (st := st_widened) l31 c31 k31).binds (ps := ["steps", "by"]) fun _ _ _ _ _ _ us hl => match us, hl with | [_, _], _ => rfl,
    g_widened := PySem.W.mg_of X G a31,
    f_least_steps := f32, fd_least_steps := _, F_least_steps := fun_mk (st := st_least_steps) l32 c32 k32, b_least_steps := (fun_mk (st := st_least_steps) l32 c32 k32).binds (ps := ["wanted", "count", "known"]) fun _ _ _ _ _ _ us hl => match us, hl with | [_, _, _], _ => rfl,
    g_least_steps := PySem.W.mg_of X G a32,
    f_shortest := f33, fd_shortest := _, F_shortest := fun_mk (st := st_shortest) l33 c33 k33, b_shortest := (fun_mk (st := st_shortest) l33 c33 k33).binds (ps := ["chain"]) fun _ _ _ _ _ _ us hl => match us, hl with | [_], _ => rfl,
    g_shortest := PySem.W.mg_of X G a33,
    f__law_source := f34, fd__law_source := _, F__law_source := fun_mk (st := st__law_source) l34 c34 k34, b__law_source := (fun_mk (st := st__law_source) l34 c34 k34).binds (ps := ["_law_script", "_law_k"]) fun _ _ _ _ _ _ us hl => match us, hl with | [_, _], _ => rfl,
    g__law_source := PySem.W.mg_of X G a34,
    f__law_draw := f35, fd__law_draw := _, F__law_draw := fun_mk (st := st__law_draw) l35 c35 k35, b__law_draw := (fun_mk (st := st__law_draw) l35 c35 k35).binds (ps := ["_law_source_here", "_law_size"]) fun _ _ _ _ _ _ us hl => match us, hl with | [_, _], _ => rfl,
    g__law_draw := PySem.W.mg_of X G a35,
    f__law_pick := f36, fd__law_pick := _, F__law_pick := fun_mk (st := st__law_pick) l36 c36 k36, b__law_pick := (fun_mk (st := st__law_pick) l36 c36 k36).binds (ps := ["_law_source_here", "_law_some"]) fun _ _ _ _ _ _ us hl => match us, hl with | [_, _], _ => rfl,
    g__law_pick := PySem.W.mg_of X G a36,
    f__law_divisor := f37, fd__law_divisor := _, F__law_divisor := fun_mk (st := st__law_divisor) l37 c37 k37, b__law_divisor := (fun_mk (st := st__law_divisor) l37 c37 k37).binds (ps := ["_law_one", "_law_other"]) fun _ _ _ _ _ _ us hl => match us, hl with | [_, _], _ => rfl,
    g__law_divisor := PySem.W.mg_of X G a37,
    f__law_low := f38, fd__law_low := _, F__law_low := fun_mk (st := st__law_low) l38 c38 k38, b__law_low := (fun_mk (st := st__law_low) l38 c38 k38).binds (ps := ["_law_n", "_law_d"]) fun _ _ _ _ _ _ us hl => match us, hl with | [_, _], _ => rfl,
    g__law_low := PySem.W.mg_of X G a38,
    f__law_scaled := f39, fd__law_scaled := _, F__law_scaled := fun_mk (st := st__law_scaled) l39 c39 k39, b__law_scaled := (fun_mk (st := st__law_scaled) l39 c39 k39).binds (ps := ["_law_number_here", "_law_e"]) fun _ _ _ _ _ _ us hl => match us, hl with | [_, _], _ => rfl,
    g__law_scaled := PySem.W.mg_of X G a39,
    f__law_number := f40, fd__law_number := _, F__law_number := fun_mk (st := st__law_number) l40 c40 k40, b__law_number := (fun_mk (st := st__law_number) l40 c40 k40).binds (ps := ["_law_source_here", "_law_most"]) fun _ _ _ _ _ _ us hl => match us, hl with | [_, _], _ => rfl,
    g__law_number := PySem.W.mg_of X G a40,
    f__law_rule := f41, fd__law_rule := _, F__law_rule := fun_mk (st := st__law_rule) l41 c41 k41, b__law_rule := (fun_mk (st := st__law_rule) l41 c41 k41).binds (ps := ["_law_source_here"]) fun _ _ _ _ _ _ us hl => match us, hl with | [_], _ => rfl,
    g__law_rule := PySem.W.mg_of X G a41,
    f__law_falling := f42, fd__law_falling := _, F__law_falling := fun_mk (st := st__law_falling) l42 c42 k42, b__law_falling := (fun_mk (st := st__law_falling) l42 c42 k42).binds (ps := ["_law_source_here"]) fun _ _ _ _ _ _ us hl => match us, hl with | [_], _ => rfl,
    g__law_falling := PySem.W.mg_of X G a42,
    f__law_longer := f43, fd__law_longer := _, F__law_longer := fun_mk (st := st__law_longer) l43 c43 k43, b__law_longer := (fun_mk (st := st__law_longer) l43 c43 k43).binds (ps := ["_law_source_here", "_law_steps"]) fun _ _ _ _ _ _ us hl => match us, hl with | [_, _], _ => rfl,
    g__law_longer := PySem.W.mg_of X G a43,
    f__law_right := f44, fd__law_right := _, F__law_right := fun_mk (st := st__law_right) l44 c44 k44, b__law_right := (fun_mk (st := st__law_right) l44 c44 k44).binds (ps := ["_law_source_here"]) fun _ _ _ _ _ _ us hl => match us, hl with | [_], _ => rfl,
    g__law_right := PySem.W.mg_of X G a44,
    f_law := f45, fd_law := _, F_law := fun_mk (st := st_law) l45 c45 k45, b_law := (fun_mk (st := st_law) l45 c45 k45).binds (ps := ["_law_script"]) fun _ _ _ _ _ _ us hl => match us, hl with | [_], _ => rfl,
    g_law := PySem.W.mg_of X G a45,
    n_abs := PySem.W.mg_none_of X G z_abs,
    n_all := PySem.W.mg_none_of X G z_all,
    n_bool := PySem.W.mg_none_of X G z_bool,
    n_enumerate := PySem.W.mg_none_of X G z_enumerate,
    n_int := PySem.W.mg_none_of X G z_int,
    n_isinstance := PySem.W.mg_none_of X G z_isinstance,
    n_len := PySem.W.mg_none_of X G z_len,
    n_max := PySem.W.mg_none_of X G z_max,
    n_min := PySem.W.mg_none_of X G z_min,
    n_range := PySem.W.mg_none_of X G z_range,
    n_str := PySem.W.mg_none_of X G z_str,
    n_tuple := PySem.W.mg_none_of X G z_tuple,
    n_zip := PySem.W.mg_none_of X G z_zip,
    ra_BY_RULE := ra_BY_RULE, c_BY_RULE := PySem.W.mg_of X G y_BY_RULE, k_BY_RULE := fun ru => match ru with | .dn => ⟨.ref ra_BY_RULE_down, kdct_of2 d_BY_RULE q_BY_RULE n_BY_RULE_down rfl, fun _ => .tup (.inr ⟨_, _, _, x_BY_RULE_down, rfl, rfl, by (show 2 ≤ sizeLine; decide), (show Vals [.ref ra_BY_RULE_down_0, .ref ra_BY_RULE_down_1] _ from .cons rfl (.cons rfl (.nil)))⟩) (.cons (.tup (.inr ⟨_, _, _, x_BY_RULE_down_0, rfl, rfl, by (show 2 ≤ sizeLine; decide), (show Vals [.ref ra_BY_RULE_down_0_0, .str "up"] _ from .cons rfl (.cons ⟨_, rfl⟩ (.nil)))⟩) (.cons (.tup (.inr ⟨_, _, _, x_BY_RULE_down_0_0, rfl, rfl, by (show 2 ≤ sizeLine; decide), (show Vals [.int 1, .int 1] _ from .cons ⟨_, rfl⟩ (.cons ⟨_, rfl⟩ (.nil)))⟩) (.cons (.int _) (.cons (.int _) (.nil)))) (.cons (.str _) (.nil)))) (.cons (.tup (.inr ⟨_, _, _, x_BY_RULE_down_1, rfl, rfl, by (show 2 ≤ sizeLine; decide), (show Vals [.ref ra_BY_RULE_down_1_0, .str "up"] _ from .cons rfl (.cons ⟨_, rfl⟩ (.nil)))⟩) (.cons (.tup (.inr ⟨_, _, _, x_BY_RULE_down_1_0, rfl, rfl, by (show 2 ≤ sizeLine; decide), (show Vals [.int 1, .int 1] _ from .cons ⟨_, rfl⟩ (.cons ⟨_, rfl⟩ (.nil)))⟩) (.cons (.int _) (.cons (.int _) (.nil)))) (.cons (.str _) (.nil)))) (.nil)))⟩ | .hd => ⟨.ref ra_BY_RULE_half_down, kdct_of2 d_BY_RULE q_BY_RULE n_BY_RULE_half_down rfl, fun _ => .tup (.inr ⟨_, _, _, x_BY_RULE_half_down, rfl, rfl, by (show 2 ≤ sizeLine; decide), (show Vals [.ref ra_BY_RULE_half_down_0, .ref ra_BY_RULE_half_down_1] _ from .cons rfl (.cons rfl (.nil)))⟩) (.cons (.tup (.inr ⟨_, _, _, x_BY_RULE_half_down_0, rfl, rfl, by (show 2 ≤ sizeLine; decide), (show Vals [.ref ra_BY_RULE_half_down_0_0, .str "down"] _ from .cons rfl (.cons ⟨_, rfl⟩ (.nil)))⟩) (.cons (.tup (.inr ⟨_, _, _, x_BY_RULE_half_down_0_0, rfl, rfl, by (show 2 ≤ sizeLine; decide), (show Vals [.int 1, .int 2] _ from .cons ⟨_, rfl⟩ (.cons ⟨_, rfl⟩ (.nil)))⟩) (.cons (.int _) (.cons (.int _) (.nil)))) (.cons (.str _) (.nil)))) (.cons (.tup (.inr ⟨_, _, _, x_BY_RULE_half_down_1, rfl, rfl, by (show 2 ≤ sizeLine; decide), (show Vals [.ref ra_BY_RULE_half_down_1_0, .str "down"] _ from .cons rfl (.cons ⟨_, rfl⟩ (.nil)))⟩) (.cons (.tup (.inr ⟨_, _, _, x_BY_RULE_half_down_1_0, rfl, rfl, by (show 2 ≤ sizeLine; decide), (show Vals [.int 1, .int 2] _ from .cons ⟨_, rfl⟩ (.cons ⟨_, rfl⟩ (.nil)))⟩) (.cons (.int _) (.cons (.int _) (.nil)))) (.cons (.str _) (.nil)))) (.nil)))⟩ | .he => ⟨.ref ra_BY_RULE_half_even, kdct_of2 d_BY_RULE q_BY_RULE n_BY_RULE_half_even rfl, fun _ => .tup (.inr ⟨_, _, _, x_BY_RULE_half_even, rfl, rfl, by (show 2 ≤ sizeLine; decide), (show Vals [.ref ra_BY_RULE_half_even_0, .ref ra_BY_RULE_half_even_1] _ from .cons rfl (.cons rfl (.nil)))⟩) (.cons (.tup (.inr ⟨_, _, _, x_BY_RULE_half_even_0, rfl, rfl, by (show 2 ≤ sizeLine; decide), (show Vals [.ref ra_BY_RULE_half_even_0_0, .str "down"] _ from .cons rfl (.cons ⟨_, rfl⟩ (.nil)))⟩) (.cons (.tup (.inr ⟨_, _, _, x_BY_RULE_half_even_0_0, rfl, rfl, by (show 2 ≤ sizeLine; decide), (show Vals [.int 1, .int 2] _ from .cons ⟨_, rfl⟩ (.cons ⟨_, rfl⟩ (.nil)))⟩) (.cons (.int _) (.cons (.int _) (.nil)))) (.cons (.str _) (.nil)))) (.cons (.tup (.inr ⟨_, _, _, x_BY_RULE_half_even_1, rfl, rfl, by (show 2 ≤ sizeLine; decide), (show Vals [.ref ra_BY_RULE_half_even_1_0, .str "up"] _ from .cons rfl (.cons ⟨_, rfl⟩ (.nil)))⟩) (.cons (.tup (.inr ⟨_, _, _, x_BY_RULE_half_even_1_0, rfl, rfl, by (show 2 ≤ sizeLine; decide), (show Vals [.int 1, .int 2] _ from .cons ⟨_, rfl⟩ (.cons ⟨_, rfl⟩ (.nil)))⟩) (.cons (.int _) (.cons (.int _) (.nil)))) (.cons (.str _) (.nil)))) (.nil)))⟩ | .hu => ⟨.ref ra_BY_RULE_half_up, kdct_of2 d_BY_RULE q_BY_RULE n_BY_RULE_half_up rfl, fun _ => .tup (.inr ⟨_, _, _, x_BY_RULE_half_up, rfl, rfl, by (show 2 ≤ sizeLine; decide), (show Vals [.ref ra_BY_RULE_half_up_0, .ref ra_BY_RULE_half_up_1] _ from .cons rfl (.cons rfl (.nil)))⟩) (.cons (.tup (.inr ⟨_, _, _, x_BY_RULE_half_up_0, rfl, rfl, by (show 2 ≤ sizeLine; decide), (show Vals [.ref ra_BY_RULE_half_up_0_0, .str "up"] _ from .cons rfl (.cons ⟨_, rfl⟩ (.nil)))⟩) (.cons (.tup (.inr ⟨_, _, _, x_BY_RULE_half_up_0_0, rfl, rfl, by (show 2 ≤ sizeLine; decide), (show Vals [.int 1, .int 2] _ from .cons ⟨_, rfl⟩ (.cons ⟨_, rfl⟩ (.nil)))⟩) (.cons (.int _) (.cons (.int _) (.nil)))) (.cons (.str _) (.nil)))) (.cons (.tup (.inr ⟨_, _, _, x_BY_RULE_half_up_1, rfl, rfl, by (show 2 ≤ sizeLine; decide), (show Vals [.ref ra_BY_RULE_half_up_1_0, .str "up"] _ from .cons rfl (.cons ⟨_, rfl⟩ (.nil)))⟩) (.cons (.tup (.inr ⟨_, _, _, x_BY_RULE_half_up_1_0, rfl, rfl, by (show 2 ≤ sizeLine; decide), (show Vals [.int 1, .int 2] _ from .cons ⟨_, rfl⟩ (.cons ⟨_, rfl⟩ (.nil)))⟩) (.cons (.int _) (.cons (.int _) (.nil)))) (.cons (.str _) (.nil)))) (.nil)))⟩ | .od => ⟨.ref ra_BY_RULE_odd, kdct_of2 d_BY_RULE q_BY_RULE n_BY_RULE_odd rfl, fun _ => .tup (.inr ⟨_, _, _, x_BY_RULE_odd, rfl, rfl, by (show 2 ≤ sizeLine; decide), (show Vals [.ref ra_BY_RULE_odd_0, .ref ra_BY_RULE_odd_1] _ from .cons rfl (.cons rfl (.nil)))⟩) (.cons (.tup (.inr ⟨_, _, _, x_BY_RULE_odd_0, rfl, rfl, by (show 2 ≤ sizeLine; decide), (show Vals [.ref ra_BY_RULE_odd_0_0, .str "down"] _ from .cons rfl (.cons ⟨_, rfl⟩ (.nil)))⟩) (.cons (.tup (.inr ⟨_, _, _, x_BY_RULE_odd_0_0, rfl, rfl, by (show 2 ≤ sizeLine; decide), (show Vals [.int 0, .int 1] _ from .cons ⟨_, rfl⟩ (.cons ⟨_, rfl⟩ (.nil)))⟩) (.cons (.int _) (.cons (.int _) (.nil)))) (.cons (.str _) (.nil)))) (.cons (.tup (.inr ⟨_, _, _, x_BY_RULE_odd_1, rfl, rfl, by (show 2 ≤ sizeLine; decide), (show Vals [.ref ra_BY_RULE_odd_1_0, .str "up"] _ from .cons rfl (.cons ⟨_, rfl⟩ (.nil)))⟩) (.cons (.tup (.inr ⟨_, _, _, x_BY_RULE_odd_1_0, rfl, rfl, by (show 2 ≤ sizeLine; decide), (show Vals [.int 1, .int 1] _ from .cons ⟨_, rfl⟩ (.cons ⟨_, rfl⟩ (.nil)))⟩) (.cons (.int _) (.cons (.int _) (.nil)))) (.cons (.str _) (.nil)))) (.nil)))⟩ | .up => ⟨.ref ra_BY_RULE_up, kdct_of2 d_BY_RULE q_BY_RULE n_BY_RULE_up rfl, fun _ => .tup (.inr ⟨_, _, _, x_BY_RULE_up, rfl, rfl, by (show 2 ≤ sizeLine; decide), (show Vals [.ref ra_BY_RULE_up_0, .ref ra_BY_RULE_up_1] _ from .cons rfl (.cons rfl (.nil)))⟩) (.cons (.tup (.inr ⟨_, _, _, x_BY_RULE_up_0, rfl, rfl, by (show 2 ≤ sizeLine; decide), (show Vals [.ref ra_BY_RULE_up_0_0, .str "down"] _ from .cons rfl (.cons ⟨_, rfl⟩ (.nil)))⟩) (.cons (.tup (.inr ⟨_, _, _, x_BY_RULE_up_0_0, rfl, rfl, by (show 2 ≤ sizeLine; decide), (show Vals [.int 0, .int 1] _ from .cons ⟨_, rfl⟩ (.cons ⟨_, rfl⟩ (.nil)))⟩) (.cons (.int _) (.cons (.int _) (.nil)))) (.cons (.str _) (.nil)))) (.cons (.tup (.inr ⟨_, _, _, x_BY_RULE_up_1, rfl, rfl, by (show 2 ≤ sizeLine; decide), (show Vals [.ref ra_BY_RULE_up_1_0, .str "down"] _ from .cons rfl (.cons ⟨_, rfl⟩ (.nil)))⟩) (.cons (.tup (.inr ⟨_, _, _, x_BY_RULE_up_1_0, rfl, rfl, by (show 2 ≤ sizeLine; decide), (show Vals [.int 0, .int 1] _ from .cons ⟨_, rfl⟩ (.cons ⟨_, rfl⟩ (.nil)))⟩) (.cons (.int _) (.cons (.int _) (.nil)))) (.cons (.str _) (.nil)))) (.nil)))⟩,
    u_DOWN := _, w_DOWN := .str "down", c_DOWN := PySem.W.mg_of X G y_DOWN, v_DOWN := ⟨_, rfl⟩, r_DOWN := fun _ => .str _,
    u_HALF_EVEN := _, w_HALF_EVEN := .str "half_even", c_HALF_EVEN := PySem.W.mg_of X G y_HALF_EVEN, v_HALF_EVEN := ⟨_, rfl⟩, r_HALF_EVEN := fun _ => .str _,
    u_HALF_UP := _, w_HALF_UP := .str "half_up", c_HALF_UP := PySem.W.mg_of X G y_HALF_UP, v_HALF_UP := ⟨_, rfl⟩, r_HALF_UP := fun _ => .str _,
    u_MOST_STEPS := _, w_MOST_STEPS := .int 12, c_MOST_STEPS := PySem.W.mg_of X G y_MOST_STEPS, v_MOST_STEPS := ⟨_, rfl⟩, r_MOST_STEPS := fun _ => .int _,
    u_MOST_WIDTH := _, w_MOST_WIDTH := .int 100, c_MOST_WIDTH := PySem.W.mg_of X G y_MOST_WIDTH, v_MOST_WIDTH := ⟨_, rfl⟩, r_MOST_WIDTH := fun _ => .int _,
    u_ODD := _, w_ODD := .str "odd", c_ODD := PySem.W.mg_of X G y_ODD, v_ODD := ⟨_, rfl⟩, r_ODD := fun _ => .str _,
    u_PAIR_cells := _, w_PAIR_cells := .int 2, c_PAIR_cells := PySem.W.mg_of X G y_PAIR_cells, v_PAIR_cells := ⟨_, rfl⟩, r_PAIR_cells := fun _ => .int _,
    u_PAIR_chains := _, w_PAIR_chains := .int 2, c_PAIR_chains := PySem.W.mg_of X G y_PAIR_chains, v_PAIR_chains := ⟨_, rfl⟩, r_PAIR_chains := fun _ => .int _,
    u_RULES := _, w_RULES := .ref ra_RULES, c_RULES := PySem.W.mg_of X G y_RULES, v_RULES := rfl, r_RULES := fun _ => .tup (.inr ⟨_, _, _, x_RULES, rfl, rfl, by (show 6 ≤ sizeLine; decide), (show Vals [.str "down", .str "half_down", .str "half_even", .str "half_up", .str "odd", .str "up"] _ from .cons ⟨_, rfl⟩ (.cons ⟨_, rfl⟩ (.cons ⟨_, rfl⟩ (.cons ⟨_, rfl⟩ (.cons ⟨_, rfl⟩ (.cons ⟨_, rfl⟩ (.nil)))))))⟩) (.cons (.str _) (.cons (.str _) (.cons (.str _) (.cons (.str _) (.cons (.str _) (.cons (.str _) (.nil))))))),
    u_UP := _, w_UP := .str "up", c_UP := PySem.W.mg_of X G y_UP, v_UP := ⟨_, rfl⟩, r_UP := fun _ => .str _ }
theorem all_mk {l : PySem.W.OpenLaw} {w : World} {K : Fg} {h : Heap} {mg : Str → Option Value} {fa : Addr} (X : K.In h) (G : h.Ns mainGlobals mg) (hfa : mg "law" = some (.ref fa))  {f0 : Addr} {od0 an0 : Option Addr} {sl0 : Array (Option Value)} {oc0 kV0 dc0 pm0 cd0 ct0 : Value} {f1 : Addr} {od1 an1 : Option Addr} {sl1 : Array (Option Value)} {oc1 kV1 dc1 pm1 cd1 ct1 : Value} {f2 : Addr} {od2 an2 : Option Addr} {sl2 : Array (Option Value)} {oc2 kV2 dc2 pm2 cd2 ct2 : Value} {f3 : Addr} {od3 an3 : Option Addr} {sl3 : Array (Option Value)} {oc3 kV3 dc3 pm3 cd3 ct3 : Value} {f4 : Addr} {od4 an4 : Option Addr} {sl4 : Array (Option Value)} {oc4 kV4 dc4 pm4 cd4 ct4 : Value} {f5 : Addr} {od5 an5 : Option Addr} {sl5 : Array (Option Value)} {oc5 kV5 dc5 pm5 cd5 ct5 : Value} {f6 : Addr} {od6 an6 : Option Addr} {sl6 : Array (Option Value)} {oc6 kV6 dc6 pm6 cd6 ct6 : Value} {f7 : Addr} {od7 an7 : Option Addr} {sl7 : Array (Option Value)} {oc7 kV7 dc7 pm7 cd7 ct7 : Value} {f8 : Addr} {od8 an8 : Option Addr} {sl8 : Array (Option Value)} {oc8 kV8 dc8 pm8 cd8 ct8 : Value} {f9 : Addr} {od9 an9 : Option Addr} {sl9 : Array (Option Value)} {oc9 kV9 dc9 pm9 cd9 ct9 : Value} {f10 : Addr} {od10 an10 : Option Addr} {sl10 : Array (Option Value)} {oc10 kV10 dc10 pm10 cd10 ct10 : Value} {f11 : Addr} {od11 an11 : Option Addr} {sl11 : Array (Option Value)} {oc11 kV11 dc11 pm11 cd11 ct11 : Value} {f12 : Addr} {od12 an12 : Option Addr} {sl12 : Array (Option Value)} {oc12 kV12 dc12 pm12 cd12 ct12 : Value} {f13 : Addr} {od13 an13 : Option Addr} {sl13 : Array (Option Value)} {oc13 kV13 dc13 pm13 cd13 ct13 : Value} {f14 : Addr} {od14 an14 : Option Addr} {sl14 : Array (Option Value)} {oc14 kV14 dc14 pm14 cd14 ct14 : Value} {f15 : Addr} {od15 an15 : Option Addr} {sl15 : Array (Option Value)} {oc15 kV15 dc15 pm15 cd15 ct15 : Value} {f16 : Addr} {od16 an16 : Option Addr} {sl16 : Array (Option Value)} {oc16 kV16 dc16 pm16 cd16 ct16 : Value} {f17 : Addr} {od17 an17 : Option Addr} {sl17 : Array (Option Value)} {oc17 kV17 dc17 pm17 cd17 ct17 : Value} {f18 : Addr} {od18 an18 : Option Addr} {sl18 : Array (Option Value)} {oc18 kV18 dc18 pm18 cd18 ct18 : Value} {f19 : Addr} {od19 an19 : Option Addr} {sl19 : Array (Option Value)} {oc19 kV19 dc19 pm19 cd19 ct19 : Value} {f20 : Addr} {od20 an20 : Option Addr} {sl20 : Array (Option Value)} {oc20 kV20 dc20 pm20 cd20 ct20 : Value} {f21 : Addr} {od21 an21 : Option Addr} {sl21 : Array (Option Value)} {oc21 kV21 dc21 pm21 cd21 ct21 : Value} {f22 : Addr} {od22 an22 : Option Addr} {sl22 : Array (Option Value)} {oc22 kV22 dc22 pm22 cd22 ct22 : Value} {f23 : Addr} {od23 an23 : Option Addr} {sl23 : Array (Option Value)} {oc23 kV23 dc23 pm23 cd23 ct23 : Value} {f24 : Addr} {od24 an24 : Option Addr} {sl24 : Array (Option Value)} {oc24 kV24 dc24 pm24 cd24 ct24 : Value} {f25 : Addr} {od25 an25 : Option Addr} {sl25 : Array (Option Value)} {oc25 kV25 dc25 pm25 cd25 ct25 : Value} {f26 : Addr} {od26 an26 : Option Addr} {sl26 : Array (Option Value)} {oc26 kV26 dc26 pm26 cd26 ct26 : Value} {f27 : Addr} {od27 an27 : Option Addr} {sl27 : Array (Option Value)} {oc27 kV27 dc27 pm27 cd27 ct27 : Value} {f28 : Addr} {od28 an28 : Option Addr} {sl28 : Array (Option Value)} {oc28 kV28 dc28 pm28 cd28 ct28 : Value} {f29 : Addr} {od29 an29 : Option Addr} {sl29 : Array (Option Value)} {oc29 kV29 dc29 pm29 cd29 ct29 : Value} {f30 : Addr} {od30 an30 : Option Addr} {sl30 : Array (Option Value)} {oc30 kV30 dc30 pm30 cd30 ct30 : Value} {f31 : Addr} {od31 an31 : Option Addr} {sl31 : Array (Option Value)} {oc31 kV31 dc31 pm31 cd31 ct31 : Value} {f32 : Addr} {od32 an32 : Option Addr} {sl32 : Array (Option Value)} {oc32 kV32 dc32 pm32 cd32 ct32 : Value} {f33 : Addr} {od33 an33 : Option Addr} {sl33 : Array (Option Value)} {oc33 kV33 dc33 pm33 cd33 ct33 : Value} {f34 : Addr} {od34 an34 : Option Addr} {sl34 : Array (Option Value)} {oc34 kV34 dc34 pm34 cd34 ct34 : Value} {f35 : Addr} {od35 an35 : Option Addr} {sl35 : Array (Option Value)} {oc35 kV35 dc35 pm35 cd35 ct35 : Value} {f36 : Addr} {od36 an36 : Option Addr} {sl36 : Array (Option Value)} {oc36 kV36 dc36 pm36 cd36 ct36 : Value} {f37 : Addr} {od37 an37 : Option Addr} {sl37 : Array (Option Value)} {oc37 kV37 dc37 pm37 cd37 ct37 : Value} {f38 : Addr} {od38 an38 : Option Addr} {sl38 : Array (Option Value)} {oc38 kV38 dc38 pm38 cd38 ct38 : Value} {f39 : Addr} {od39 an39 : Option Addr} {sl39 : Array (Option Value)} {oc39 kV39 dc39 pm39 cd39 ct39 : Value} {f40 : Addr} {od40 an40 : Option Addr} {sl40 : Array (Option Value)} {oc40 kV40 dc40 pm40 cd40 ct40 : Value} {f41 : Addr} {od41 an41 : Option Addr} {sl41 : Array (Option Value)} {oc41 kV41 dc41 pm41 cd41 ct41 : Value} {f42 : Addr} {od42 an42 : Option Addr} {sl42 : Array (Option Value)} {oc42 kV42 dc42 pm42 cd42 ct42 : Value} {f43 : Addr} {od43 an43 : Option Addr} {sl43 : Array (Option Value)} {oc43 kV43 dc43 pm43 cd43 ct43 : Value} {f44 : Addr} {od44 an44 : Option Addr} {sl44 : Array (Option Value)} {oc44 kV44 dc44 pm44 cd44 ct44 : Value} {f45 : Addr} {od45 an45 : Option Addr} {sl45 : Array (Option Value)} {oc45 kV45 dc45 pm45 cd45 ct45 : Value} {ra_BY_RULE : Addr} {es_BY_RULE : Array DictEntry} {en_BY_RULE : Nat} {tk_BY_RULE_down_0_0_0 : Tok} {tk_BY_RULE_down_0_0_1 : Tok} {ra_BY_RULE_down_0_0 : Addr} {rd_BY_RULE_down_0_0 : Option Addr} {rn_BY_RULE_down_0_0 : Nat} {rs_BY_RULE_down_0_0 : Array (Option Value)} {tk_BY_RULE_down_0_1 : Tok} {ra_BY_RULE_down_0 : Addr} {rd_BY_RULE_down_0 : Option Addr} {rn_BY_RULE_down_0 : Nat} {rs_BY_RULE_down_0 : Array (Option Value)} {tk_BY_RULE_down_1_0_0 : Tok} {tk_BY_RULE_down_1_0_1 : Tok} {ra_BY_RULE_down_1_0 : Addr} {rd_BY_RULE_down_1_0 : Option Addr} {rn_BY_RULE_down_1_0 : Nat} {rs_BY_RULE_down_1_0 : Array (Option Value)} {tk_BY_RULE_down_1_1 : Tok} {ra_BY_RULE_down_1 : Addr} {rd_BY_RULE_down_1 : Option Addr} {rn_BY_RULE_down_1 : Nat} {rs_BY_RULE_down_1 : Array (Option Value)} {ra_BY_RULE_down : Addr} {rd_BY_RULE_down : Option Addr} {rn_BY_RULE_down : Nat} {rs_BY_RULE_down : Array (Option Value)} {tk_BY_RULE_half_down_0_0_0 : Tok} {tk_BY_RULE_half_down_0_0_1 : Tok} {ra_BY_RULE_half_down_0_0 : Addr} {rd_BY_RULE_half_down_0_0 : Option Addr} {rn_BY_RULE_half_down_0_0 : Nat} {rs_BY_RULE_half_down_0_0 : Array (Option Value)} {tk_BY_RULE_half_down_0_1 : Tok} {ra_BY_RULE_half_down_0 : Addr} {rd_BY_RULE_half_down_0 : Option Addr} {rn_BY_RULE_half_down_0 : Nat} {rs_BY_RULE_half_down_0 : Array (Option Value)} {tk_BY_RULE_half_down_1_0_0 : Tok} {tk_BY_RULE_half_down_1_0_1 : Tok} {ra_BY_RULE_half_down_1_0 : Addr} {rd_BY_RULE_half_down_1_0 : Option Addr} {rn_BY_RULE_half_down_1_0 : Nat} {rs_BY_RULE_half_down_1_0 : Array (Option Value)} {tk_BY_RULE_half_down_1_1 : Tok} {ra_BY_RULE_half_down_1 : Addr} {rd_BY_RULE_half_down_1 : Option Addr} {rn_BY_RULE_half_down_1 : Nat} {rs_BY_RULE_half_down_1 : Array (Option Value)} {ra_BY_RULE_half_down : Addr} {rd_BY_RULE_half_down : Option Addr} {rn_BY_RULE_half_down : Nat} {rs_BY_RULE_half_down : Array (Option Value)} {tk_BY_RULE_half_even_0_0_0 : Tok} {tk_BY_RULE_half_even_0_0_1 : Tok} {ra_BY_RULE_half_even_0_0 : Addr} {rd_BY_RULE_half_even_0_0 : Option Addr} {rn_BY_RULE_half_even_0_0 : Nat} {rs_BY_RULE_half_even_0_0 : Array (Option Value)} {tk_BY_RULE_half_even_0_1 : Tok} {ra_BY_RULE_half_even_0 : Addr} {rd_BY_RULE_half_even_0 : Option Addr} {rn_BY_RULE_half_even_0 : Nat} {rs_BY_RULE_half_even_0 : Array (Option Value)} {tk_BY_RULE_half_even_1_0_0 : Tok} {tk_BY_RULE_half_even_1_0_1 : Tok} {ra_BY_RULE_half_even_1_0 : Addr} {rd_BY_RULE_half_even_1_0 : Option Addr} {rn_BY_RULE_half_even_1_0 : Nat} {rs_BY_RULE_half_even_1_0 : Array (Option Value)} {tk_BY_RULE_half_even_1_1 : Tok} {ra_BY_RULE_half_even_1 : Addr} {rd_BY_RULE_half_even_1 : Option Addr} {rn_BY_RULE_half_even_1 : Nat} {rs_BY_RULE_half_even_1 : Array (Option Value)} {ra_BY_RULE_half_even : Addr} {rd_BY_RULE_half_even : Option Addr} {rn_BY_RULE_half_even : Nat} {rs_BY_RULE_half_even : Array (Option Value)} {tk_BY_RULE_half_up_0_0_0 : Tok} {tk_BY_RULE_half_up_0_0_1 : Tok} {ra_BY_RULE_half_up_0_0 : Addr} {rd_BY_RULE_half_up_0_0 : Option Addr} {rn_BY_RULE_half_up_0_0 : Nat} {rs_BY_RULE_half_up_0_0 : Array (Option Value)} {tk_BY_RULE_half_up_0_1 : Tok} {ra_BY_RULE_half_up_0 : Addr} {rd_BY_RULE_half_up_0 : Option Addr} {rn_BY_RULE_half_up_0 : Nat} {rs_BY_RULE_half_up_0 : Array (Option Value)} {tk_BY_RULE_half_up_1_0_0 : Tok} {tk_BY_RULE_half_up_1_0_1 : Tok} {ra_BY_RULE_half_up_1_0 : Addr} {rd_BY_RULE_half_up_1_0 : Option Addr} {rn_BY_RULE_half_up_1_0 : Nat} {rs_BY_RULE_half_up_1_0 : Array (Option Value)} {tk_BY_RULE_half_up_1_1 : Tok} {ra_BY_RULE_half_up_1 : Addr} {rd_BY_RULE_half_up_1 : Option Addr} {rn_BY_RULE_half_up_1 : Nat} {rs_BY_RULE_half_up_1 : Array (Option Value)} {ra_BY_RULE_half_up : Addr} {rd_BY_RULE_half_up : Option Addr} {rn_BY_RULE_half_up : Nat} {rs_BY_RULE_half_up : Array (Option Value)} {tk_BY_RULE_odd_0_0_0 : Tok} {tk_BY_RULE_odd_0_0_1 : Tok} {ra_BY_RULE_odd_0_0 : Addr} {rd_BY_RULE_odd_0_0 : Option Addr} {rn_BY_RULE_odd_0_0 : Nat} {rs_BY_RULE_odd_0_0 : Array (Option Value)} {tk_BY_RULE_odd_0_1 : Tok} {ra_BY_RULE_odd_0 : Addr} {rd_BY_RULE_odd_0 : Option Addr} {rn_BY_RULE_odd_0 : Nat} {rs_BY_RULE_odd_0 : Array (Option Value)} {tk_BY_RULE_odd_1_0_0 : Tok} {tk_BY_RULE_odd_1_0_1 : Tok} {ra_BY_RULE_odd_1_0 : Addr} {rd_BY_RULE_odd_1_0 : Option Addr} {rn_BY_RULE_odd_1_0 : Nat} {rs_BY_RULE_odd_1_0 : Array (Option Value)} {tk_BY_RULE_odd_1_1 : Tok} {ra_BY_RULE_odd_1 : Addr} {rd_BY_RULE_odd_1 : Option Addr} {rn_BY_RULE_odd_1 : Nat} {rs_BY_RULE_odd_1 : Array (Option Value)} {ra_BY_RULE_odd : Addr} {rd_BY_RULE_odd : Option Addr} {rn_BY_RULE_odd : Nat} {rs_BY_RULE_odd : Array (Option Value)} {tk_BY_RULE_up_0_0_0 : Tok} {tk_BY_RULE_up_0_0_1 : Tok} {ra_BY_RULE_up_0_0 : Addr} {rd_BY_RULE_up_0_0 : Option Addr} {rn_BY_RULE_up_0_0 : Nat} {rs_BY_RULE_up_0_0 : Array (Option Value)} {tk_BY_RULE_up_0_1 : Tok} {ra_BY_RULE_up_0 : Addr} {rd_BY_RULE_up_0 : Option Addr} {rn_BY_RULE_up_0 : Nat} {rs_BY_RULE_up_0 : Array (Option Value)} {tk_BY_RULE_up_1_0_0 : Tok} {tk_BY_RULE_up_1_0_1 : Tok} {ra_BY_RULE_up_1_0 : Addr} {rd_BY_RULE_up_1_0 : Option Addr} {rn_BY_RULE_up_1_0 : Nat} {rs_BY_RULE_up_1_0 : Array (Option Value)} {tk_BY_RULE_up_1_1 : Tok} {ra_BY_RULE_up_1 : Addr} {rd_BY_RULE_up_1 : Option Addr} {rn_BY_RULE_up_1 : Nat} {rs_BY_RULE_up_1 : Array (Option Value)} {ra_BY_RULE_up : Addr} {rd_BY_RULE_up : Option Addr} {rn_BY_RULE_up : Nat} {rs_BY_RULE_up : Array (Option Value)} {tk_DOWN : Tok} {tk_HALF_EVEN : Tok} {tk_HALF_UP : Tok} {tk_MOST_STEPS : Tok} {tk_MOST_WIDTH : Tok} {tk_ODD : Tok} {tk_PAIR_cells : Tok} {tk_PAIR_chains : Tok} {tk_RULES_0 : Tok} {tk_RULES_1 : Tok} {tk_RULES_2 : Tok} {tk_RULES_3 : Tok} {tk_RULES_4 : Tok} {tk_RULES_5 : Tok} {ra_RULES : Addr} {rd_RULES : Option Addr} {rn_RULES : Nat} {rs_RULES : Array (Option Value)} {tk_UP : Tok}
    (a0 : PySem.W.nsIn K mainGlobals "is_int" = some (some (.ref f0)))
    (l0 : K.lookup f0 = some ⟨oc0, od0, .func (PySem.W.fnOf "is_int" "is_int" (defArgs st_is_int) (defBody st_is_int) (defScope st_is_int) .none kV0 dc0 pm0 an0 cd0 ct0), sl0⟩) (c0 : PySem.W.codeIn K cd0 "is_int" = true) (k0 : PySem.W.keepIn K (.ref f0) = true)
    (a1 : PySem.W.nsIn K mainGlobals "common_divisor" = some (some (.ref f1)))
    (l1 : K.lookup f1 = some ⟨oc1, od1, .func (PySem.W.fnOf "common_divisor" "common_divisor" (defArgs st_common_divisor) (defBody st_common_divisor) (defScope st_common_divisor) .none kV1 dc1 pm1 an1 cd1 ct1), sl1⟩) (c1 : PySem.W.codeIn K cd1 "common_divisor" = true) (k1 : PySem.W.keepIn K (.ref f1) = true)
    (a2 : PySem.W.nsIn K mainGlobals "lowest" = some (some (.ref f2)))
    (l2 : K.lookup f2 = some ⟨oc2, od2, .func (PySem.W.fnOf "lowest" "lowest" (defArgs st_lowest) (defBody st_lowest) (defScope st_lowest) .none kV2 dc2 pm2 an2 cd2 ct2), sl2⟩) (c2 : PySem.W.codeIn K cd2 "lowest" = true) (k2 : PySem.W.keepIn K (.ref f2) = true)
    (a3 : PySem.W.nsIn K mainGlobals "is_number" = some (some (.ref f3)))
    (l3 : K.lookup f3 = some ⟨oc3, od3, .func (PySem.W.fnOf "is_number" "is_number" (defArgs st_is_number) (defBody st_is_number) (defScope st_is_number) .none kV3 dc3 pm3 an3 cd3 ct3), sl3⟩) (c3 : PySem.W.codeIn K cd3 "is_number" = true) (k3 : PySem.W.keepIn K (.ref f3) = true)
    (a4 : PySem.W.nsIn K mainGlobals "is_width" = some (some (.ref f4)))
    (l4 : K.lookup f4 = some ⟨oc4, od4, .func (PySem.W.fnOf "is_width" "is_width" (defArgs st_is_width) (defBody st_is_width) (defScope st_is_width) .none kV4 dc4 pm4 an4 cd4 ct4), sl4⟩) (c4 : PySem.W.codeIn K cd4 "is_width" = true) (k4 : PySem.W.keepIn K (.ref f4) = true)
    (a5 : PySem.W.nsIn K mainGlobals "check_number" = some (some (.ref f5)))
    (l5 : K.lookup f5 = some ⟨oc5, od5, .func (PySem.W.fnOf "check_number" "check_number" (defArgs st_check_number) (defBody st_check_number) (defScope st_check_number) .none kV5 dc5 pm5 an5 cd5 ct5), sl5⟩) (c5 : PySem.W.codeIn K cd5 "check_number" = true) (k5 : PySem.W.keepIn K (.ref f5) = true)
    (a6 : PySem.W.nsIn K mainGlobals "scaled" = some (some (.ref f6)))
    (l6 : K.lookup f6 = some ⟨oc6, od6, .func (PySem.W.fnOf "scaled" "scaled" (defArgs st_scaled) (defBody st_scaled) (defScope st_scaled) .none kV6 dc6 pm6 an6 cd6 ct6), sl6⟩) (c6 : PySem.W.codeIn K cd6 "scaled" = true) (k6 : PySem.W.keepIn K (.ref f6) = true)
    (a7 : PySem.W.nsIn K mainGlobals "power_number" = some (some (.ref f7)))
    (l7 : K.lookup f7 = some ⟨oc7, od7, .func (PySem.W.fnOf "power_number" "power_number" (defArgs st_power_number) (defBody st_power_number) (defScope st_power_number) .none kV7 dc7 pm7 an7 cd7 ct7), sl7⟩) (c7 : PySem.W.codeIn K cd7 "power_number" = true) (k7 : PySem.W.keepIn K (.ref f7) = true)
    (a8 : PySem.W.nsIn K mainGlobals "cell_of" = some (some (.ref f8)))
    (l8 : K.lookup f8 = some ⟨oc8, od8, .func (PySem.W.fnOf "cell_of" "cell_of" (defArgs st_cell_of) (defBody st_cell_of) (defScope st_cell_of) .none kV8 dc8 pm8 an8 cd8 ct8), sl8⟩) (c8 : PySem.W.codeIn K cd8 "cell_of" = true) (k8 : PySem.W.keepIn K (.ref f8) = true)
    (a9 : PySem.W.nsIn K mainGlobals "position_of" = some (some (.ref f9)))
    (l9 : K.lookup f9 = some ⟨oc9, od9, .func (PySem.W.fnOf "position_of" "position_of" (defArgs st_position_of) (defBody st_position_of) (defScope st_position_of) .none kV9 dc9 pm9 an9 cd9 ct9), sl9⟩) (c9 : PySem.W.codeIn K cd9 "position_of" = true) (k9 : PySem.W.keepIn K (.ref f9) = true)
    (a10 : PySem.W.nsIn K mainGlobals "is_rule" = some (some (.ref f10)))
    (l10 : K.lookup f10 = some ⟨oc10, od10, .func (PySem.W.fnOf "is_rule" "is_rule" (defArgs st_is_rule) (defBody st_is_rule) (defScope st_is_rule) .none kV10 dc10 pm10 an10 cd10 ct10), sl10⟩) (c10 : PySem.W.codeIn K cd10 "is_rule" = true) (k10 : PySem.W.keepIn K (.ref f10) = true)
    (a11 : PySem.W.nsIn K mainGlobals "ends_of" = some (some (.ref f11)))
    (l11 : K.lookup f11 = some ⟨oc11, od11, .func (PySem.W.fnOf "ends_of" "ends_of" (defArgs st_ends_of) (defBody st_ends_of) (defScope st_ends_of) .none kV11 dc11 pm11 an11 cd11 ct11), sl11⟩) (c11 : PySem.W.codeIn K cd11 "ends_of" = true) (k11 : PySem.W.keepIn K (.ref f11) = true)
    (a12 : PySem.W.nsIn K mainGlobals "goes_up" = some (some (.ref f12)))
    (l12 : K.lookup f12 = some ⟨oc12, od12, .func (PySem.W.fnOf "goes_up" "goes_up" (defArgs st_goes_up) (defBody st_goes_up) (defScope st_goes_up) .none kV12 dc12 pm12 an12 cd12 ct12), sl12⟩) (c12 : PySem.W.codeIn K cd12 "goes_up" = true) (k12 : PySem.W.keepIn K (.ref f12) = true)
    (a13 : PySem.W.nsIn K mainGlobals "round_once" = some (some (.ref f13)))
    (l13 : K.lookup f13 = some ⟨oc13, od13, .func (PySem.W.fnOf "round_once" "round_once" (defArgs st_round_once) (defBody st_round_once) (defScope st_round_once) .none kV13 dc13 pm13 an13 cd13 ct13), sl13⟩) (c13 : PySem.W.codeIn K cd13 "round_once" = true) (k13 : PySem.W.keepIn K (.ref f13) = true)
    (a14 : PySem.W.nsIn K mainGlobals "is_step" = some (some (.ref f14)))
    (l14 : K.lookup f14 = some ⟨oc14, od14, .func (PySem.W.fnOf "is_step" "is_step" (defArgs st_is_step) (defBody st_is_step) (defScope st_is_step) .none kV14 dc14 pm14 an14 cd14 ct14), sl14⟩) (c14 : PySem.W.codeIn K cd14 "is_step" = true) (k14 : PySem.W.keepIn K (.ref f14) = true)
    (a15 : PySem.W.nsIn K mainGlobals "is_chain" = some (some (.ref f15)))
    (l15 : K.lookup f15 = some ⟨oc15, od15, .func (PySem.W.fnOf "is_chain" "is_chain" (defArgs st_is_chain) (defBody st_is_chain) (defScope st_is_chain) .none kV15 dc15 pm15 an15 cd15 ct15), sl15⟩) (c15 : PySem.W.codeIn K cd15 "is_chain" = true) (k15 : PySem.W.keepIn K (.ref f15) = true)
    (a16 : PySem.W.nsIn K mainGlobals "check_chain" = some (some (.ref f16)))
    (l16 : K.lookup f16 = some ⟨oc16, od16, .func (PySem.W.fnOf "check_chain" "check_chain" (defArgs st_check_chain) (defBody st_check_chain) (defScope st_check_chain) .none kV16 dc16 pm16 an16 cd16 ct16), sl16⟩) (c16 : PySem.W.codeIn K cd16 "check_chain" = true) (k16 : PySem.W.keepIn K (.ref f16) = true)
    (a17 : PySem.W.nsIn K mainGlobals "last_width" = some (some (.ref f17)))
    (l17 : K.lookup f17 = some ⟨oc17, od17, .func (PySem.W.fnOf "last_width" "last_width" (defArgs st_last_width) (defBody st_last_width) (defScope st_last_width) .none kV17 dc17 pm17 an17 cd17 ct17), sl17⟩) (c17 : PySem.W.codeIn K cd17 "last_width" = true) (k17 : PySem.W.keepIn K (.ref f17) = true)
    (a18 : PySem.W.nsIn K mainGlobals "stages" = some (some (.ref f18)))
    (l18 : K.lookup f18 = some ⟨oc18, od18, .func (PySem.W.fnOf "stages" "stages" (defArgs st_stages) (defBody st_stages) (defScope st_stages) .none kV18 dc18 pm18 an18 cd18 ct18), sl18⟩) (c18 : PySem.W.codeIn K cd18 "stages" = true) (k18 : PySem.W.keepIn K (.ref f18) = true)
    (a19 : PySem.W.nsIn K mainGlobals "applied" = some (some (.ref f19)))
    (l19 : K.lookup f19 = some ⟨oc19, od19, .func (PySem.W.fnOf "applied" "applied" (defArgs st_applied) (defBody st_applied) (defScope st_applied) .none kV19 dc19 pm19 an19 cd19 ct19), sl19⟩) (c19 : PySem.W.codeIn K cd19 "applied" = true) (k19 : PySem.W.keepIn K (.ref f19) = true)
    (a20 : PySem.W.nsIn K mainGlobals "trimmed" = some (some (.ref f20)))
    (l20 : K.lookup f20 = some ⟨oc20, od20, .func (PySem.W.fnOf "trimmed" "trimmed" (defArgs st_trimmed) (defBody st_trimmed) (defScope st_trimmed) .none kV20 dc20 pm20 an20 cd20 ct20), sl20⟩) (c20 : PySem.W.codeIn K cd20 "trimmed" = true) (k20 : PySem.W.keepIn K (.ref f20) = true)
    (a21 : PySem.W.nsIn K mainGlobals "last_down" = some (some (.ref f21)))
    (l21 : K.lookup f21 = some ⟨oc21, od21, .func (PySem.W.fnOf "last_down" "last_down" (defArgs st_last_down) (defBody st_last_down) (defScope st_last_down) .none kV21 dc21 pm21 an21 cd21 ct21), sl21⟩) (c21 : PySem.W.codeIn K cd21 "last_down" = true) (k21 : PySem.W.keepIn K (.ref f21) = true)
    (a22 : PySem.W.nsIn K mainGlobals "combined" = some (some (.ref f22)))
    (l22 : K.lookup f22 = some ⟨oc22, od22, .func (PySem.W.fnOf "combined" "combined" (defArgs st_combined) (defBody st_combined) (defScope st_combined) .none kV22 dc22 pm22 an22 cd22 ct22), sl22⟩) (c22 : PySem.W.codeIn K cd22 "combined" = true) (k22 : PySem.W.keepIn K (.ref f22) = true)
    (a23 : PySem.W.nsIn K mainGlobals "thresholds" = some (some (.ref f23)))
    (l23 : K.lookup f23 = some ⟨oc23, od23, .func (PySem.W.fnOf "thresholds" "thresholds" (defArgs st_thresholds) (defBody st_thresholds) (defScope st_thresholds) .none kV23 dc23 pm23 an23 cd23 ct23), sl23⟩) (c23 : PySem.W.codeIn K cd23 "thresholds" = true) (k23 : PySem.W.keepIn K (.ref f23) = true)
    (a24 : PySem.W.nsIn K mainGlobals "check_chains" = some (some (.ref f24)))
    (l24 : K.lookup f24 = some ⟨oc24, od24, .func (PySem.W.fnOf "check_chains" "check_chains" (defArgs st_check_chains) (defBody st_check_chains) (defScope st_check_chains) .none kV24 dc24 pm24 an24 cd24 ct24), sl24⟩) (c24 : PySem.W.codeIn K cd24 "check_chains" = true) (k24 : PySem.W.keepIn K (.ref f24) = true)
    (a25 : PySem.W.nsIn K mainGlobals "same" = some (some (.ref f25)))
    (l25 : K.lookup f25 = some ⟨oc25, od25, .func (PySem.W.fnOf "same" "same" (defArgs st_same) (defBody st_same) (defScope st_same) .none kV25 dc25 pm25 an25 cd25 ct25), sl25⟩) (c25 : PySem.W.codeIn K cd25 "same" = true) (k25 : PySem.W.keepIn K (.ref f25) = true)
    (a26 : PySem.W.nsIn K mainGlobals "before_step" = some (some (.ref f26)))
    (l26 : K.lookup f26 = some ⟨oc26, od26, .func (PySem.W.fnOf "before_step" "before_step" (defArgs st_before_step) (defBody st_before_step) (defScope st_before_step) .none kV26 dc26 pm26 an26 cd26 ct26), sl26⟩) (c26 : PySem.W.codeIn K cd26 "before_step" = true) (k26 : PySem.W.keepIn K (.ref f26) = true)
    (a27 : PySem.W.nsIn K mainGlobals "all_before" = some (some (.ref f27)))
    (l27 : K.lookup f27 = some ⟨oc27, od27, .func (PySem.W.fnOf "all_before" "all_before" (defArgs st_all_before) (defBody st_all_before) (defScope st_all_before) .none kV27 dc27 pm27 an27 cd27 ct27), sl27⟩) (c27 : PySem.W.codeIn K cd27 "all_before" = true) (k27 : PySem.W.keepIn K (.ref f27) = true)
    (a28 : PySem.W.nsIn K mainGlobals "merged" = some (some (.ref f28)))
    (l28 : K.lookup f28 = some ⟨oc28, od28, .func (PySem.W.fnOf "merged" "merged" (defArgs st_merged) (defBody st_merged) (defScope st_merged) .none kV28 dc28 pm28 an28 cd28 ct28), sl28⟩) (c28 : PySem.W.codeIn K cd28 "merged" = true) (k28 : PySem.W.keepIn K (.ref f28) = true)
    (a29 : PySem.W.nsIn K mainGlobals "matches" = some (some (.ref f29)))
    (l29 : K.lookup f29 = some ⟨oc29, od29, .func (PySem.W.fnOf "matches" "matches" (defArgs st_matches) (defBody st_matches) (defScope st_matches) .none kV29 dc29 pm29 an29 cd29 ct29), sl29⟩) (c29 : PySem.W.codeIn K cd29 "matches" = true) (k29 : PySem.W.keepIn K (.ref f29) = true)
    (a30 : PySem.W.nsIn K mainGlobals "most_far" = some (some (.ref f30)))
    (l30 : K.lookup f30 = some ⟨oc30, od30, .func (PySem.W.fnOf "most_far" "most_far" (defArgs st_most_far) (defBody st_most_far) (defScope st_most_far) .none kV30 dc30 pm30 an30 cd30 ct30), sl30⟩) (c30 : PySem.W.codeIn K cd30 "most_far" = true) (k30 : PySem.W.keepIn K (.ref f30) = true)
    (a31 : PySem.W.nsIn K mainGlobals "widened" = some (some (.ref f31)))
    (l31 : K.lookup f31 = some ⟨oc31, od31, .func (PySem.W.fnOf "widened" "widened" (defArgs st_widened) (defBody st_widened) (defScope st_widened) .none kV31 dc31 pm31 an31 cd31 ct31), sl31⟩) (c31 : PySem.W.codeIn K cd31 "widened" = true) (k31 : PySem.W.keepIn K (.ref f31) = true)
    (a32 : PySem.W.nsIn K mainGlobals "least_steps" = some (some (.ref f32)))
    (l32 : K.lookup f32 = some ⟨oc32, od32, .func (PySem.W.fnOf "least_steps" "least_steps" (defArgs st_least_steps) (defBody st_least_steps) (defScope st_least_steps) .none kV32 dc32 pm32 an32 cd32 ct32), sl32⟩) (c32 : PySem.W.codeIn K cd32 "least_steps" = true) (k32 : PySem.W.keepIn K (.ref f32) = true)
    (a33 : PySem.W.nsIn K mainGlobals "shortest" = some (some (.ref f33)))
    (l33 : K.lookup f33 = some ⟨oc33, od33, .func (PySem.W.fnOf "shortest" "shortest" (defArgs st_shortest) (defBody st_shortest) (defScope st_shortest) .none kV33 dc33 pm33 an33 cd33 ct33), sl33⟩) (c33 : PySem.W.codeIn K cd33 "shortest" = true) (k33 : PySem.W.keepIn K (.ref f33) = true)
    (a34 : PySem.W.nsIn K mainGlobals "_law_source" = some (some (.ref f34)))
    (l34 : K.lookup f34 = some ⟨oc34, od34, .func (PySem.W.fnOf "_law_source" "_law_source" (defArgs st__law_source) (defBody st__law_source) (defScope st__law_source) .none kV34 dc34 pm34 an34 cd34 ct34), sl34⟩) (c34 : PySem.W.codeIn K cd34 "_law_source" = true) (k34 : PySem.W.keepIn K (.ref f34) = true)
    (a35 : PySem.W.nsIn K mainGlobals "_law_draw" = some (some (.ref f35)))
    (l35 : K.lookup f35 = some ⟨oc35, od35, .func (PySem.W.fnOf "_law_draw" "_law_draw" (defArgs st__law_draw) (defBody st__law_draw) (defScope st__law_draw) .none kV35 dc35 pm35 an35 cd35 ct35), sl35⟩) (c35 : PySem.W.codeIn K cd35 "_law_draw" = true) (k35 : PySem.W.keepIn K (.ref f35) = true)
    (a36 : PySem.W.nsIn K mainGlobals "_law_pick" = some (some (.ref f36)))
    (l36 : K.lookup f36 = some ⟨oc36, od36, .func (PySem.W.fnOf "_law_pick" "_law_pick" (defArgs st__law_pick) (defBody st__law_pick) (defScope st__law_pick) .none kV36 dc36 pm36 an36 cd36 ct36), sl36⟩) (c36 : PySem.W.codeIn K cd36 "_law_pick" = true) (k36 : PySem.W.keepIn K (.ref f36) = true)
    (a37 : PySem.W.nsIn K mainGlobals "_law_divisor" = some (some (.ref f37)))
    (l37 : K.lookup f37 = some ⟨oc37, od37, .func (PySem.W.fnOf "_law_divisor" "_law_divisor" (defArgs st__law_divisor) (defBody st__law_divisor) (defScope st__law_divisor) .none kV37 dc37 pm37 an37 cd37 ct37), sl37⟩) (c37 : PySem.W.codeIn K cd37 "_law_divisor" = true) (k37 : PySem.W.keepIn K (.ref f37) = true)
    (a38 : PySem.W.nsIn K mainGlobals "_law_low" = some (some (.ref f38)))
    (l38 : K.lookup f38 = some ⟨oc38, od38, .func (PySem.W.fnOf "_law_low" "_law_low" (defArgs st__law_low) (defBody st__law_low) (defScope st__law_low) .none kV38 dc38 pm38 an38 cd38 ct38), sl38⟩) (c38 : PySem.W.codeIn K cd38 "_law_low" = true) (k38 : PySem.W.keepIn K (.ref f38) = true)
    (a39 : PySem.W.nsIn K mainGlobals "_law_scaled" = some (some (.ref f39)))
    (l39 : K.lookup f39 = some ⟨oc39, od39, .func (PySem.W.fnOf "_law_scaled" "_law_scaled" (defArgs st__law_scaled) (defBody st__law_scaled) (defScope st__law_scaled) .none kV39 dc39 pm39 an39 cd39 ct39), sl39⟩) (c39 : PySem.W.codeIn K cd39 "_law_scaled" = true) (k39 : PySem.W.keepIn K (.ref f39) = true)
    (a40 : PySem.W.nsIn K mainGlobals "_law_number" = some (some (.ref f40)))
    (l40 : K.lookup f40 = some ⟨oc40, od40, .func (PySem.W.fnOf "_law_number" "_law_number" (defArgs st__law_number) (defBody st__law_number) (defScope st__law_number) .none kV40 dc40 pm40 an40 cd40 ct40), sl40⟩) (c40 : PySem.W.codeIn K cd40 "_law_number" = true) (k40 : PySem.W.keepIn K (.ref f40) = true)
    (a41 : PySem.W.nsIn K mainGlobals "_law_rule" = some (some (.ref f41)))
    (l41 : K.lookup f41 = some ⟨oc41, od41, .func (PySem.W.fnOf "_law_rule" "_law_rule" (defArgs st__law_rule) (defBody st__law_rule) (defScope st__law_rule) .none kV41 dc41 pm41 an41 cd41 ct41), sl41⟩) (c41 : PySem.W.codeIn K cd41 "_law_rule" = true) (k41 : PySem.W.keepIn K (.ref f41) = true)
    (a42 : PySem.W.nsIn K mainGlobals "_law_falling" = some (some (.ref f42)))
    (l42 : K.lookup f42 = some ⟨oc42, od42, .func (PySem.W.fnOf "_law_falling" "_law_falling" (defArgs st__law_falling) (defBody st__law_falling) (defScope st__law_falling) .none kV42 dc42 pm42 an42 cd42 ct42), sl42⟩) (c42 : PySem.W.codeIn K cd42 "_law_falling" = true) (k42 : PySem.W.keepIn K (.ref f42) = true)
    (a43 : PySem.W.nsIn K mainGlobals "_law_longer" = some (some (.ref f43)))
    (l43 : K.lookup f43 = some ⟨oc43, od43, .func (PySem.W.fnOf "_law_longer" "_law_longer" (defArgs st__law_longer) (defBody st__law_longer) (defScope st__law_longer) .none kV43 dc43 pm43 an43 cd43 ct43), sl43⟩) (c43 : PySem.W.codeIn K cd43 "_law_longer" = true) (k43 : PySem.W.keepIn K (.ref f43) = true)
    (a44 : PySem.W.nsIn K mainGlobals "_law_right" = some (some (.ref f44)))
    (l44 : K.lookup f44 = some ⟨oc44, od44, .func (PySem.W.fnOf "_law_right" "_law_right" (defArgs st__law_right) (defBody st__law_right) (defScope st__law_right) .none kV44 dc44 pm44 an44 cd44 ct44), sl44⟩) (c44 : PySem.W.codeIn K cd44 "_law_right" = true) (k44 : PySem.W.keepIn K (.ref f44) = true)
    (a45 : PySem.W.nsIn K mainGlobals "law" = some (some (.ref f45)))
    (l45 : K.lookup f45 = some ⟨oc45, od45, .func (PySem.W.fnOf "law" "law" (defArgs st_law) (defBody st_law) (defScope st_law) .none kV45 dc45 pm45 an45 cd45 ct45), sl45⟩) (c45 : PySem.W.codeIn K cd45 "law" = true) (k45 : PySem.W.keepIn K (.ref f45) = true)
    (z_abs : PySem.W.nsIn K mainGlobals "abs" = some none)
    (z_all : PySem.W.nsIn K mainGlobals "all" = some none)
    (z_bool : PySem.W.nsIn K mainGlobals "bool" = some none)
    (z_enumerate : PySem.W.nsIn K mainGlobals "enumerate" = some none)
    (z_int : PySem.W.nsIn K mainGlobals "int" = some none)
    (z_isinstance : PySem.W.nsIn K mainGlobals "isinstance" = some none)
    (z_len : PySem.W.nsIn K mainGlobals "len" = some none)
    (z_max : PySem.W.nsIn K mainGlobals "max" = some none)
    (z_min : PySem.W.nsIn K mainGlobals "min" = some none)
    (z_range : PySem.W.nsIn K mainGlobals "range" = some none)
    (z_str : PySem.W.nsIn K mainGlobals "str" = some none)
    (z_tuple : PySem.W.nsIn K mainGlobals "tuple" = some none)
    (z_zip : PySem.W.nsIn K mainGlobals "zip" = some none)
    (y_BY_RULE : PySem.W.nsIn K mainGlobals "BY_RULE" = some (some (.ref ra_BY_RULE))) (d_BY_RULE : K.lookup ra_BY_RULE = some ⟨.type "dict", none, .dict es_BY_RULE en_BY_RULE, #[]⟩) (q_BY_RULE : PySem.W.KeysLit w.params es_BY_RULE.toList)
    (n_BY_RULE_down : PySem.W.nsIn K ra_BY_RULE "down" = some (some (.ref ra_BY_RULE_down)))
    (x_BY_RULE_down : K.lookup ra_BY_RULE_down = some ⟨.type "tuple", rd_BY_RULE_down, .seq #[.ref ra_BY_RULE_down_0, .ref ra_BY_RULE_down_1] rn_BY_RULE_down, rs_BY_RULE_down⟩)
    (x_BY_RULE_down_0 : K.lookup ra_BY_RULE_down_0 = some ⟨.type "tuple", rd_BY_RULE_down_0, .seq #[.ref ra_BY_RULE_down_0_0, .str "up" tk_BY_RULE_down_0_1] rn_BY_RULE_down_0, rs_BY_RULE_down_0⟩)
    (x_BY_RULE_down_0_0 : K.lookup ra_BY_RULE_down_0_0 = some ⟨.type "tuple", rd_BY_RULE_down_0_0, .seq #[.int 1 tk_BY_RULE_down_0_0_0, .int 1 tk_BY_RULE_down_0_0_1] rn_BY_RULE_down_0_0, rs_BY_RULE_down_0_0⟩)
    (x_BY_RULE_down_1 : K.lookup ra_BY_RULE_down_1 = some ⟨.type "tuple", rd_BY_RULE_down_1, .seq #[.ref ra_BY_RULE_down_1_0, .str "up" tk_BY_RULE_down_1_1] rn_BY_RULE_down_1, rs_BY_RULE_down_1⟩)
    (x_BY_RULE_down_1_0 : K.lookup ra_BY_RULE_down_1_0 = some ⟨.type "tuple", rd_BY_RULE_down_1_0, .seq #[.int 1 tk_BY_RULE_down_1_0_0, .int 1 tk_BY_RULE_down_1_0_1] rn_BY_RULE_down_1_0, rs_BY_RULE_down_1_0⟩)
    (n_BY_RULE_half_down : PySem.W.nsIn K ra_BY_RULE "half_down" = some (some (.ref ra_BY_RULE_half_down)))
    (x_BY_RULE_half_down : K.lookup ra_BY_RULE_half_down = some ⟨.type "tuple", rd_BY_RULE_half_down, .seq #[.ref ra_BY_RULE_half_down_0, .ref ra_BY_RULE_half_down_1] rn_BY_RULE_half_down, rs_BY_RULE_half_down⟩)
    (x_BY_RULE_half_down_0 : K.lookup ra_BY_RULE_half_down_0 = some ⟨.type "tuple", rd_BY_RULE_half_down_0, .seq #[.ref ra_BY_RULE_half_down_0_0, .str "down" tk_BY_RULE_half_down_0_1] rn_BY_RULE_half_down_0, rs_BY_RULE_half_down_0⟩)
    (x_BY_RULE_half_down_0_0 : K.lookup ra_BY_RULE_half_down_0_0 = some ⟨.type "tuple", rd_BY_RULE_half_down_0_0, .seq #[.int 1 tk_BY_RULE_half_down_0_0_0, .int 2 tk_BY_RULE_half_down_0_0_1] rn_BY_RULE_half_down_0_0, rs_BY_RULE_half_down_0_0⟩)
    (x_BY_RULE_half_down_1 : K.lookup ra_BY_RULE_half_down_1 = some ⟨.type "tuple", rd_BY_RULE_half_down_1, .seq #[.ref ra_BY_RULE_half_down_1_0, .str "down" tk_BY_RULE_half_down_1_1] rn_BY_RULE_half_down_1, rs_BY_RULE_half_down_1⟩)
    (x_BY_RULE_half_down_1_0 : K.lookup ra_BY_RULE_half_down_1_0 = some ⟨.type "tuple", rd_BY_RULE_half_down_1_0, .seq #[.int 1 tk_BY_RULE_half_down_1_0_0, .int 2 tk_BY_RULE_half_down_1_0_1] rn_BY_RULE_half_down_1_0, rs_BY_RULE_half_down_1_0⟩)
    (n_BY_RULE_half_even : PySem.W.nsIn K ra_BY_RULE "half_even" = some (some (.ref ra_BY_RULE_half_even)))
    (x_BY_RULE_half_even : K.lookup ra_BY_RULE_half_even = some ⟨.type "tuple", rd_BY_RULE_half_even, .seq #[.ref ra_BY_RULE_half_even_0, .ref ra_BY_RULE_half_even_1] rn_BY_RULE_half_even, rs_BY_RULE_half_even⟩)
    (x_BY_RULE_half_even_0 : K.lookup ra_BY_RULE_half_even_0 = some ⟨.type "tuple", rd_BY_RULE_half_even_0, .seq #[.ref ra_BY_RULE_half_even_0_0, .str "down" tk_BY_RULE_half_even_0_1] rn_BY_RULE_half_even_0, rs_BY_RULE_half_even_0⟩)
    (x_BY_RULE_half_even_0_0 : K.lookup ra_BY_RULE_half_even_0_0 = some ⟨.type "tuple", rd_BY_RULE_half_even_0_0, .seq #[.int 1 tk_BY_RULE_half_even_0_0_0, .int 2 tk_BY_RULE_half_even_0_0_1] rn_BY_RULE_half_even_0_0, rs_BY_RULE_half_even_0_0⟩)
    (x_BY_RULE_half_even_1 : K.lookup ra_BY_RULE_half_even_1 = some ⟨.type "tuple", rd_BY_RULE_half_even_1, .seq #[.ref ra_BY_RULE_half_even_1_0, .str "up" tk_BY_RULE_half_even_1_1] rn_BY_RULE_half_even_1, rs_BY_RULE_half_even_1⟩)
    (x_BY_RULE_half_even_1_0 : K.lookup ra_BY_RULE_half_even_1_0 = some ⟨.type "tuple", rd_BY_RULE_half_even_1_0, .seq #[.int 1 tk_BY_RULE_half_even_1_0_0, .int 2 tk_BY_RULE_half_even_1_0_1] rn_BY_RULE_half_even_1_0, rs_BY_RULE_half_even_1_0⟩)
    (n_BY_RULE_half_up : PySem.W.nsIn K ra_BY_RULE "half_up" = some (some (.ref ra_BY_RULE_half_up)))
    (x_BY_RULE_half_up : K.lookup ra_BY_RULE_half_up = some ⟨.type "tuple", rd_BY_RULE_half_up, .seq #[.ref ra_BY_RULE_half_up_0, .ref ra_BY_RULE_half_up_1] rn_BY_RULE_half_up, rs_BY_RULE_half_up⟩)
    (x_BY_RULE_half_up_0 : K.lookup ra_BY_RULE_half_up_0 = some ⟨.type "tuple", rd_BY_RULE_half_up_0, .seq #[.ref ra_BY_RULE_half_up_0_0, .str "up" tk_BY_RULE_half_up_0_1] rn_BY_RULE_half_up_0, rs_BY_RULE_half_up_0⟩)
    (x_BY_RULE_half_up_0_0 : K.lookup ra_BY_RULE_half_up_0_0 = some ⟨.type "tuple", rd_BY_RULE_half_up_0_0, .seq #[.int 1 tk_BY_RULE_half_up_0_0_0, .int 2 tk_BY_RULE_half_up_0_0_1] rn_BY_RULE_half_up_0_0, rs_BY_RULE_half_up_0_0⟩)
    (x_BY_RULE_half_up_1 : K.lookup ra_BY_RULE_half_up_1 = some ⟨.type "tuple", rd_BY_RULE_half_up_1, .seq #[.ref ra_BY_RULE_half_up_1_0, .str "up" tk_BY_RULE_half_up_1_1] rn_BY_RULE_half_up_1, rs_BY_RULE_half_up_1⟩)
    (x_BY_RULE_half_up_1_0 : K.lookup ra_BY_RULE_half_up_1_0 = some ⟨.type "tuple", rd_BY_RULE_half_up_1_0, .seq #[.int 1 tk_BY_RULE_half_up_1_0_0, .int 2 tk_BY_RULE_half_up_1_0_1] rn_BY_RULE_half_up_1_0, rs_BY_RULE_half_up_1_0⟩)
    (n_BY_RULE_odd : PySem.W.nsIn K ra_BY_RULE "odd" = some (some (.ref ra_BY_RULE_odd)))
    (x_BY_RULE_odd : K.lookup ra_BY_RULE_odd = some ⟨.type "tuple", rd_BY_RULE_odd, .seq #[.ref ra_BY_RULE_odd_0, .ref ra_BY_RULE_odd_1] rn_BY_RULE_odd, rs_BY_RULE_odd⟩)
    (x_BY_RULE_odd_0 : K.lookup ra_BY_RULE_odd_0 = some ⟨.type "tuple", rd_BY_RULE_odd_0, .seq #[.ref ra_BY_RULE_odd_0_0, .str "down" tk_BY_RULE_odd_0_1] rn_BY_RULE_odd_0, rs_BY_RULE_odd_0⟩)
    (x_BY_RULE_odd_0_0 : K.lookup ra_BY_RULE_odd_0_0 = some ⟨.type "tuple", rd_BY_RULE_odd_0_0, .seq #[.int 0 tk_BY_RULE_odd_0_0_0, .int 1 tk_BY_RULE_odd_0_0_1] rn_BY_RULE_odd_0_0, rs_BY_RULE_odd_0_0⟩)
    (x_BY_RULE_odd_1 : K.lookup ra_BY_RULE_odd_1 = some ⟨.type "tuple", rd_BY_RULE_odd_1, .seq #[.ref ra_BY_RULE_odd_1_0, .str "up" tk_BY_RULE_odd_1_1] rn_BY_RULE_odd_1, rs_BY_RULE_odd_1⟩)
    (x_BY_RULE_odd_1_0 : K.lookup ra_BY_RULE_odd_1_0 = some ⟨.type "tuple", rd_BY_RULE_odd_1_0, .seq #[.int 1 tk_BY_RULE_odd_1_0_0, .int 1 tk_BY_RULE_odd_1_0_1] rn_BY_RULE_odd_1_0, rs_BY_RULE_odd_1_0⟩)
    (n_BY_RULE_up : PySem.W.nsIn K ra_BY_RULE "up" = some (some (.ref ra_BY_RULE_up)))
    (x_BY_RULE_up : K.lookup ra_BY_RULE_up = some ⟨.type "tuple", rd_BY_RULE_up, .seq #[.ref ra_BY_RULE_up_0, .ref ra_BY_RULE_up_1] rn_BY_RULE_up, rs_BY_RULE_up⟩)
    (x_BY_RULE_up_0 : K.lookup ra_BY_RULE_up_0 = some ⟨.type "tuple", rd_BY_RULE_up_0, .seq #[.ref ra_BY_RULE_up_0_0, .str "down" tk_BY_RULE_up_0_1] rn_BY_RULE_up_0, rs_BY_RULE_up_0⟩)
    (x_BY_RULE_up_0_0 : K.lookup ra_BY_RULE_up_0_0 = some ⟨.type "tuple", rd_BY_RULE_up_0_0, .seq #[.int 0 tk_BY_RULE_up_0_0_0, .int 1 tk_BY_RULE_up_0_0_1] rn_BY_RULE_up_0_0, rs_BY_RULE_up_0_0⟩)
    (x_BY_RULE_up_1 : K.lookup ra_BY_RULE_up_1 = some ⟨.type "tuple", rd_BY_RULE_up_1, .seq #[.ref ra_BY_RULE_up_1_0, .str "down" tk_BY_RULE_up_1_1] rn_BY_RULE_up_1, rs_BY_RULE_up_1⟩)
    (x_BY_RULE_up_1_0 : K.lookup ra_BY_RULE_up_1_0 = some ⟨.type "tuple", rd_BY_RULE_up_1_0, .seq #[.int 0 tk_BY_RULE_up_1_0_0, .int 1 tk_BY_RULE_up_1_0_1] rn_BY_RULE_up_1_0, rs_BY_RULE_up_1_0⟩)
    (y_DOWN : PySem.W.nsIn K mainGlobals "DOWN" = some (some (.str "down" tk_DOWN)))
    (y_HALF_EVEN : PySem.W.nsIn K mainGlobals "HALF_EVEN" = some (some (.str "half_even" tk_HALF_EVEN)))
    (y_HALF_UP : PySem.W.nsIn K mainGlobals "HALF_UP" = some (some (.str "half_up" tk_HALF_UP)))
    (y_MOST_STEPS : PySem.W.nsIn K mainGlobals "MOST_STEPS" = some (some (.int 12 tk_MOST_STEPS)))
    (y_MOST_WIDTH : PySem.W.nsIn K mainGlobals "MOST_WIDTH" = some (some (.int 100 tk_MOST_WIDTH)))
    (y_ODD : PySem.W.nsIn K mainGlobals "ODD" = some (some (.str "odd" tk_ODD)))
    (y_PAIR_cells : PySem.W.nsIn K mainGlobals "PAIR_cells" = some (some (.int 2 tk_PAIR_cells)))
    (y_PAIR_chains : PySem.W.nsIn K mainGlobals "PAIR_chains" = some (some (.int 2 tk_PAIR_chains)))
    (y_RULES : PySem.W.nsIn K mainGlobals "RULES" = some (some (.ref ra_RULES)))
    (x_RULES : K.lookup ra_RULES = some ⟨.type "tuple", rd_RULES, .seq #[.str "down" tk_RULES_0, .str "half_down" tk_RULES_1, .str "half_even" tk_RULES_2, .str "half_up" tk_RULES_3, .str "odd" tk_RULES_4, .str "up" tk_RULES_5] rn_RULES, rs_RULES⟩)
    (y_UP : PySem.W.nsIn K mainGlobals "UP" = some (some (.str "up" tk_UP))) :
    ∃ fd : FuncData, (∀ (s : Shared) (v : Value), BindsTo s fd ⟨[v], []⟩ [("_law_script", v)]) ∧ TbH K h ∧ ∀ base : Heap, K.In base → base.Ns mainGlobals mg → TbB K mg base → Fn l.prog w K mg base CX0 19 fa fd ["_law_script"] (lift K 1 fs_law) := by
  have e := hfa.symm.trans (PySem.W.mg_of X G a45)
  cases e
  exact ⟨_, fun s v => .of_eq rfl, tbH_no rfl, fun base _ _ hB => ok_law (mkTx X G a0 l0 c0 k0 a1 l1 c1 k1 a2 l2 c2 k2 a3 l3 c3 k3 a4 l4 c4 k4 a5 l5 c5 k5 a6 l6 c6 k6 a7 l7 c7 k7 a8 l8 c8 k8 a9 l9 c9 k9 a10 l10 c10 k10 a11 l11 c11 k11 a12 l12 c12 k12 a13 l13 c13 k13 a14 l14 c14 k14 a15 l15 c15 k15 a16 l16 c16 k16 a17 l17 c17 k17 a18 l18 c18 k18 a19 l19 c19 k19 a20 l20 c20 k20 a21 l21 c21 k21 a22 l22 c22 k22 a23 l23 c23 k23 a24 l24 c24 k24 a25 l25 c25 k25 a26 l26 c26 k26 a27 l27 c27 k27 a28 l28 c28 k28 a29 l29 c29 k29 a30 l30 c30 k30 a31 l31 c31 k31 a32 l32 c32 k32 a33 l33 c33 k33 a34 l34 c34 k34 a35 l35 c35 k35 a36 l36 c36 k36 a37 l37 c37 k37 a38 l38 c38 k38 a39 l39 c39 k39 a40 l40 c40 k40 a41 l41 c41 k41 a42 l42 c42 k42 a43 l43 c43 k43 a44 l44 c44 k44 a45 l45 c45 k45 z_abs z_all z_bool z_enumerate z_int z_isinstance z_len z_max z_min z_range z_str z_tuple z_zip y_BY_RULE d_BY_RULE q_BY_RULE n_BY_RULE_down x_BY_RULE_down x_BY_RULE_down_0 x_BY_RULE_down_0_0 x_BY_RULE_down_1 x_BY_RULE_down_1_0 n_BY_RULE_half_down x_BY_RULE_half_down x_BY_RULE_half_down_0 x_BY_RULE_half_down_0_0 x_BY_RULE_half_down_1 x_BY_RULE_half_down_1_0 n_BY_RULE_half_even x_BY_RULE_half_even x_BY_RULE_half_even_0 x_BY_RULE_half_even_0_0 x_BY_RULE_half_even_1 x_BY_RULE_half_even_1_0 n_BY_RULE_half_up x_BY_RULE_half_up x_BY_RULE_half_up_0 x_BY_RULE_half_up_0_0 x_BY_RULE_half_up_1 x_BY_RULE_half_up_1_0 n_BY_RULE_odd x_BY_RULE_odd x_BY_RULE_odd_0 x_BY_RULE_odd_0_0 x_BY_RULE_odd_1 x_BY_RULE_odd_1_0 n_BY_RULE_up x_BY_RULE_up x_BY_RULE_up_0 x_BY_RULE_up_0_0 x_BY_RULE_up_1 x_BY_RULE_up_1_0 y_DOWN y_HALF_EVEN y_HALF_UP y_MOST_STEPS y_MOST_WIDTH y_ODD y_PAIR_cells y_PAIR_chains y_RULES x_RULES y_UP)⟩
end LAW
open PySem PySem.W PyProof.Rows
set_option maxHeartbeats 0 in
theorem PySem.Challenge.cw_stagedrounding_k63_whole_steps_that_are_holds : PySem.Challenge.rw_stagedrounding_k63_whole_steps_that_are.Holds := by
  w_on; o_law; k_head; (case hw => w_witness2)
  k_fill
  refine Z.end_of (l := PySem.Challenge.rw_stagedrounding_k63_whole_steps_that_are) (n := 63) (k := 19) (x := "_law_script") (fs := LAW.fs_law) rfl (by decide) rfl ⟨rfl, by decide, by decide⟩ (fun w h Y => PySem.W.kIn_of Y) ?Fu LAW.law_true
  case Fu =>
    intro w mg fa h Y KX G hmg
    refine' LAW.all_mk KX G hmg ?a0 ?l0 ?c0 ?k0 ?a1 ?l1 ?c1 ?k1 ?a2 ?l2 ?c2 ?k2 ?a3 ?l3 ?c3 ?k3 ?a4 ?l4 ?c4 ?k4 ?a5 ?l5 ?c5 ?k5 ?a6 ?l6 ?c6 ?k6 ?a7 ?l7 ?c7 ?k7 ?a8 ?l8 ?c8 ?k8 ?a9 ?l9 ?c9 ?k9 ?a10 ?l10 ?c10 ?k10 ?a11 ?l11 ?c11 ?k11 ?a12 ?l12 ?c12 ?k12 ?a13 ?l13 ?c13 ?k13 ?a14 ?l14 ?c14 ?k14 ?a15 ?l15 ?c15 ?k15 ?a16 ?l16 ?c16 ?k16 ?a17 ?l17 ?c17 ?k17 ?a18 ?l18 ?c18 ?k18 ?a19 ?l19 ?c19 ?k19 ?a20 ?l20 ?c20 ?k20 ?a21 ?l21 ?c21 ?k21 ?a22 ?l22 ?c22 ?k22 ?a23 ?l23 ?c23 ?k23 ?a24 ?l24 ?c24 ?k24 ?a25 ?l25 ?c25 ?k25 ?a26 ?l26 ?c26 ?k26 ?a27 ?l27 ?c27 ?k27 ?a28 ?l28 ?c28 ?k28 ?a29 ?l29 ?c29 ?k29 ?a30 ?l30 ?c30 ?k30 ?a31 ?l31 ?c31 ?k31 ?a32 ?l32 ?c32 ?k32 ?a33 ?l33 ?c33 ?k33 ?a34 ?l34 ?c34 ?k34 ?a35 ?l35 ?c35 ?k35 ?a36 ?l36 ?c36 ?k36 ?a37 ?l37 ?c37 ?k37 ?a38 ?l38 ?c38 ?k38 ?a39 ?l39 ?c39 ?k39 ?a40 ?l40 ?c40 ?k40 ?a41 ?l41 ?c41 ?k41 ?a42 ?l42 ?c42 ?k42 ?a43 ?l43 ?c43 ?k43 ?a44 ?l44 ?c44 ?k44 ?a45 ?l45 ?c45 ?k45 ?z_abs ?z_all ?z_bool ?z_enumerate ?z_int ?z_isinstance ?z_len ?z_max ?z_min ?z_range ?z_str ?z_tuple ?z_zip ?y_BY_RULE ?d_BY_RULE ?q_BY_RULE ?n_BY_RULE_down ?x_BY_RULE_down ?x_BY_RULE_down_0 ?x_BY_RULE_down_0_0 ?x_BY_RULE_down_1 ?x_BY_RULE_down_1_0 ?n_BY_RULE_half_down ?x_BY_RULE_half_down ?x_BY_RULE_half_down_0 ?x_BY_RULE_half_down_0_0 ?x_BY_RULE_half_down_1 ?x_BY_RULE_half_down_1_0 ?n_BY_RULE_half_even ?x_BY_RULE_half_even ?x_BY_RULE_half_even_0 ?x_BY_RULE_half_even_0_0 ?x_BY_RULE_half_even_1 ?x_BY_RULE_half_even_1_0 ?n_BY_RULE_half_up ?x_BY_RULE_half_up ?x_BY_RULE_half_up_0 ?x_BY_RULE_half_up_0_0 ?x_BY_RULE_half_up_1 ?x_BY_RULE_half_up_1_0 ?n_BY_RULE_odd ?x_BY_RULE_odd ?x_BY_RULE_odd_0 ?x_BY_RULE_odd_0_0 ?x_BY_RULE_odd_1 ?x_BY_RULE_odd_1_0 ?n_BY_RULE_up ?x_BY_RULE_up ?x_BY_RULE_up_0 ?x_BY_RULE_up_0_0 ?x_BY_RULE_up_1 ?x_BY_RULE_up_1_0 ?y_DOWN ?y_HALF_EVEN ?y_HALF_UP ?y_MOST_STEPS ?y_MOST_WIDTH ?y_ODD ?y_PAIR_cells ?y_PAIR_chains ?y_RULES ?x_RULES ?y_UP
    (case a0 => k_is); (case l0 => k_is); (case c0 => k_is); (case k0 => k_is); (case a1 => k_is); (case l1 => k_is); (case c1 => k_is); (case k1 => k_is); (case a2 => k_is); (case l2 => k_is); (case c2 => k_is); (case k2 => k_is); (case a3 => k_is); (case l3 => k_is); (case c3 => k_is); (case k3 => k_is); (case a4 => k_is); (case l4 => k_is); (case c4 => k_is); (case k4 => k_is); (case a5 => k_is); (case l5 => k_is); (case c5 => k_is); (case k5 => k_is); (case a6 => k_is); (case l6 => k_is); (case c6 => k_is); (case k6 => k_is); (case a7 => k_is); (case l7 => k_is); (case c7 => k_is); (case k7 => k_is); (case a8 => k_is); (case l8 => k_is); (case c8 => k_is); (case k8 => k_is); (case a9 => k_is); (case l9 => k_is); (case c9 => k_is); (case k9 => k_is); (case a10 => k_is); (case l10 => k_is); (case c10 => k_is); (case k10 => k_is); (case a11 => k_is); (case l11 => k_is); (case c11 => k_is); (case k11 => k_is); (case a12 => k_is); (case l12 => k_is); (case c12 => k_is); (case k12 => k_is); (case a13 => k_is); (case l13 => k_is); (case c13 => k_is); (case k13 => k_is); (case a14 => k_is); (case l14 => k_is); (case c14 => k_is); (case k14 => k_is); (case a15 => k_is); (case l15 => k_is); (case c15 => k_is); (case k15 => k_is); (case a16 => k_is); (case l16 => k_is); (case c16 => k_is); (case k16 => k_is); (case a17 => k_is); (case l17 => k_is); (case c17 => k_is); (case k17 => k_is); (case a18 => k_is); (case l18 => k_is); (case c18 => k_is); (case k18 => k_is); (case a19 => k_is); (case l19 => k_is); (case c19 => k_is); (case k19 => k_is); (case a20 => k_is); (case l20 => k_is); (case c20 => k_is); (case k20 => k_is); (case a21 => k_is); (case l21 => k_is); (case c21 => k_is); (case k21 => k_is); (case a22 => k_is); (case l22 => k_is); (case c22 => k_is); (case k22 => k_is); (case a23 => k_is); (case l23 => k_is); (case c23 => k_is); (case k23 => k_is); (case a24 => k_is); (case l24 => k_is); (case c24 => k_is); (case k24 => k_is); (case a25 => k_is); (case l25 => k_is); (case c25 => k_is); (case k25 => k_is); (case a26 => k_is); (case l26 => k_is); (case c26 => k_is); (case k26 => k_is); (case a27 => k_is); (case l27 => k_is); (case c27 => k_is); (case k27 => k_is); (case a28 => k_is); (case l28 => k_is); (case c28 => k_is); (case k28 => k_is); (case a29 => k_is); (case l29 => k_is); (case c29 => k_is); (case k29 => k_is); (case a30 => k_is); (case l30 => k_is); (case c30 => k_is); (case k30 => k_is); (case a31 => k_is); (case l31 => k_is); (case c31 => k_is); (case k31 => k_is); (case a32 => k_is); (case l32 => k_is); (case c32 => k_is); (case k32 => k_is); (case a33 => k_is); (case l33 => k_is); (case c33 => k_is); (case k33 => k_is); (case a34 => k_is); (case l34 => k_is); (case c34 => k_is); (case k34 => k_is); (case a35 => k_is); (case l35 => k_is); (case c35 => k_is); (case k35 => k_is); (case a36 => k_is); (case l36 => k_is); (case c36 => k_is); (case k36 => k_is); (case a37 => k_is); (case l37 => k_is); (case c37 => k_is); (case k37 => k_is); (case a38 => k_is); (case l38 => k_is); (case c38 => k_is); (case k38 => k_is); (case a39 => k_is); (case l39 => k_is); (case c39 => k_is); (case k39 => k_is); (case a40 => k_is); (case l40 => k_is); (case c40 => k_is); (case k40 => k_is); (case a41 => k_is); (case l41 => k_is); (case c41 => k_is); (case k41 => k_is); (case a42 => k_is); (case l42 => k_is); (case c42 => k_is); (case k42 => k_is); (case a43 => k_is); (case l43 => k_is); (case c43 => k_is); (case k43 => k_is); (case a44 => k_is); (case l44 => k_is); (case c44 => k_is); (case k44 => k_is); (case a45 => k_is); (case l45 => k_is); (case c45 => k_is); (case k45 => k_is); (case z_abs => k_is); (case z_all => k_is); (case z_bool => k_is); (case z_enumerate => k_is); (case z_int => k_is); (case z_isinstance => k_is); (case z_len => k_is); (case z_max => k_is); (case z_min => k_is); (case z_range => k_is); (case z_str => k_is); (case z_tuple => k_is); (case z_zip => k_is); (case y_BY_RULE => k_is); (case d_BY_RULE => k_is); (case q_BY_RULE => k_keys); (case n_BY_RULE_down => k_is); (case x_BY_RULE_down => k_is); (case x_BY_RULE_down_0 => k_is); (case x_BY_RULE_down_0_0 => k_is); (case x_BY_RULE_down_1 => k_is); (case x_BY_RULE_down_1_0 => k_is); (case n_BY_RULE_half_down => k_is); (case x_BY_RULE_half_down => k_is); (case x_BY_RULE_half_down_0 => k_is); (case x_BY_RULE_half_down_0_0 => k_is); (case x_BY_RULE_half_down_1 => k_is); (case x_BY_RULE_half_down_1_0 => k_is); (case n_BY_RULE_half_even => k_is); (case x_BY_RULE_half_even => k_is); (case x_BY_RULE_half_even_0 => k_is); (case x_BY_RULE_half_even_0_0 => k_is); (case x_BY_RULE_half_even_1 => k_is); (case x_BY_RULE_half_even_1_0 => k_is); (case n_BY_RULE_half_up => k_is); (case x_BY_RULE_half_up => k_is); (case x_BY_RULE_half_up_0 => k_is); (case x_BY_RULE_half_up_0_0 => k_is); (case x_BY_RULE_half_up_1 => k_is); (case x_BY_RULE_half_up_1_0 => k_is); (case n_BY_RULE_odd => k_is); (case x_BY_RULE_odd => k_is); (case x_BY_RULE_odd_0 => k_is); (case x_BY_RULE_odd_0_0 => k_is); (case x_BY_RULE_odd_1 => k_is); (case x_BY_RULE_odd_1_0 => k_is); (case n_BY_RULE_up => k_is); (case x_BY_RULE_up => k_is); (case x_BY_RULE_up_0 => k_is); (case x_BY_RULE_up_0_0 => k_is); (case x_BY_RULE_up_1 => k_is); (case x_BY_RULE_up_1_0 => k_is); (case y_DOWN => k_is); (case y_HALF_EVEN => k_is); (case y_HALF_UP => k_is); (case y_MOST_STEPS => k_is); (case y_MOST_WIDTH => k_is); (case y_ODD => k_is); (case y_PAIR_cells => k_is); (case y_PAIR_chains => k_is); (case y_RULES => k_is); (case x_RULES => k_is); (case y_UP => k_is)
