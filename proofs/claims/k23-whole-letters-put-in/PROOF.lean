import PyProof.Rows.All
import Wide.All
import OpenK.AllK
import Wide.FinOn
import HandS.ForMost
import HandS.ForExc
import HandS.Walk
import HandS.Exc
import KE.KeyNested
import HandS.Lambda
import HandS.Wide
import HandS.TupAny
import HandS.TupMul
import HandS.TupLe
import HandS.Deep
import HandS.Text
import PyProof.Rows.RuleB_pow
import HandS.Flow
import HandS.Star
import HandS.NoneIn
import HandS.Style
import HandS.RevRange
import HandS.Rev
import HandS.Zip
import KE.GoesNew
import HandS.IsInst
import HandS.BoundList
import HandS.WordsExc
import HandS.ExcOwn
import HandS.EndBits
import HandS.Small
import HandS.Conv
import HandS.RaiseMore
import PyProof.ReprRoads
import HandS.Ends
import KE.KDictList
import PyProof.CollectStr
import KE.KExcIs
import KE.KExcPX
import KE.KExcInit
import HandS.TryMany
import HandS.ExcIs
import PyProof.Rows.StrDigitsNeg
import PyProof.Rows.IntBool
import HandS.DictComp
import HandS.Property
import HandS.ClsMeth
import HandS.SlotsOwn
import KE.KOpsOwn
import HandS.FStr
import KE.DataCmp
import HandS.HotCalls
import KE.KCallOwn
import HandS.EndTab
import KE.KNest
import PyProof.StrLawsRepr
import HandS.Defaults
import KE.OsRunLaw
import KE.KTupSum
import HandS.SetFor
import KE.KDictPairs
import PyProof.Rows.Range3
import KE.KRevSl
import HandS.ReplaceLit
import HandS.ReplaceList
import KE.KxField
import Wide.Num
import PyProof.StrOps2
import KE.KDictZip
import HandS.Sort
import KE.KEqDict
import HandS.Head0
import HandS.Head1
import HandS.Head2
import HandS.HeadEnd
import HandS.HeadHook1
import HandS.HeadHook2
import KE.KSuper
import HandS.Nested
import PyProof.Rows.StrMeet
import HandS.WordsDict
import HandS.StrMore
import PyProof.StrLawsIn
import PyProof.RulesMatch
import HandS.HeadHook3
import HandS.Finally
import HandS.ExcValue
import PySem.Challenge.RW_backcards_k23_whole_letters_put_in
set_option Elab.async false
set_option linter.all false
set_option autoImplicit false
set_option maxRecDepth 100000
set_option maxHeartbeats 4000000
namespace Bv
open PySem PySem.Spec PyProof.Rows L2

/-- data by value; dic: keys ints and texts, dit: keys tuples of such; ob n: the n-th object of the store; cl c: the class named c -/
inductive D where
  | non | bl (b : Bool) | int (i : Int) | str (x : Str)
  | tup (xs : List D) | lst (xs : List D) | dic (kvs : List (D × D)) | dit (kvs : List (D × D)) | dmx (kvs : List (D × D))
  | ins (c : Str) (fs : List (Str × D)) | ob (n : Nat) | cl (c : Str) | rol (xs : List D) | exv (c : Str) (fs : List (Str × D))

/-- where the classes stand -/
structure ClsM where
  look : Str → Option Addr
  wo : Option World := none
instance : CoeFun ClsM (fun _ => Str → Option Addr) := ⟨ClsM.look⟩
instance : Coe (Str → Option Addr) ClsM := ⟨fun f => { look := f }⟩
structure Tx where
  cls : ClsM
  bs : Hp := fun _ => none
  bio : List Addr := []
  hx : Option (Addr × Nat) := none
  tb : List (Addr × Str) := []

def kD : Key → D
  | .inl i => .int i
  | .inr x => .str x
def tD : List Key → D := fun ks => .tup (ks.map kD)

abbrev NE := NestedKey × Value × Value
def entN (w : World) (x : NE) : DictEntry := ⟨x.1.hash w, x.2.1, x.2.2⟩
/-- the dict's object, whatever its keys are made of -/
def DictN (w : World) (h : Heap) (d : Addr) (xs : List NE) : Prop := ∃ o es ep, h.get? d = some o ∧ o.ExactDict ∧ o.data = .dict es ep ∧ es.toList = xs.map (entN w) ∧ (xs.map (·.1)).Nodup
/-- the dict at d, as a thing of one's own -/
def MixP (w : World) (d : Addr) (xs : List NE) (h : Heap) : Prop := DictN w h d xs ∧ (d == sysModules) = false ∧ xs.length ≤ sizeLine
mutual
/-- the key that stands for data -/
def ncode : D → Option NestedKey
  | .non => some .none
  | .bl b => some (.num (if b = true then 1 else 0))
  | .int i => some (.num i)
  | .str x => some (.text x)
  | .tup xs => (ncodeL xs).map .tup
  | _ => none
def ncodeL : List D → Option (List NestedKey)
  | [] => some []
  | x :: xs => match ncode x, ncodeL xs with
    | some k, some ks => some (k :: ks)
    | _, _ => none
end
/-- an exception object of the class C, not raised, at a; dx: where its fields stand -/
def XvO (C : Addr) (dx : Option Addr) (a : Addr) : HO := .ext fun h => ∃ (oe : Obj) (vs : Array Value), h.get? a = some oe ∧ Zc (.ref C) dx oe ∧ oe.data = .fields vs
def XdR (H : Hp) (dx : Option Addr) (fs : List (Str × V)) : Prop := (dx = none ∧ fs = []) ∨ ∃ d, dx = some d ∧ H d = some (.xd fs)
mutual
inductive Rep (T : Tx) (K : PySem.W.Frag) (io : List Addr) (H : Hp) : V → D → Prop
  | non : Rep T K io H .non .non
  | bl (b : Bool) : Rep T K io H (.bl b) (.bl b)
  | int (i : Int) : Rep T K io H (.int i) (.int i)
  | str (x : Str) : Rep T K io H (.str x) (.str x)
  | tup {a : Addr} {xs : List V} {ds : List D} : H a = some (.tup xs) → RepL T K io H xs ds → Rep T K io H (.ref a) (.tup ds)
  | lst {a : Addr} {xs : List V} {ds : List D} : H a = some (.lst xs) → RepL T K io H xs ds → Rep T K io H (.ref a) (.lst ds)
  | rol {a : Addr} {xs : List V} {ds : List D} : SqL K H a xs → RepL T K io H xs ds → Rep T K io H (.ref a) (.rol ds)
  | dicK {a : Addr} {kvs : List (Key × V)} {es : List (D × D)} : H a = some (.dK kvs) → RepK T K io H kvs es → Rep T K io H (.ref a) (.dic es)
  | dicT {a : Addr} {kvs : List (List Key × V)} {es : List (D × D)} : H a = some (.dT kvs) → RepT T K io H kvs es → Rep T K io H (.ref a) (.dit es)
  | dicN {a : Addr} {W : World} {xs : List NE} {es : List (D × D)} : T.cls.wo = some W → H a = some (.ext (MixP W a xs)) → RepN T K io H xs es → Rep T K io H (.ref a) (.dmx es)
  | ins {a C dx : Addr} {c : Str} {fs : List (Str × V)} {gs : List (Str × D)} : T.cls c = some C → H a = some (.ins C dx fs) → RepF T K io H fs gs → Rep T K io H (.ref a) (.ins c gs)
  | ob {a : Addr} {n : Nat} : io[n]? = some a → Rep T K io H (.ref a) (.ob n)
  | cl {C : Addr} {c : Str} : T.cls c = some C → Rep T K io H (.ref C) (.cl c)
  | exv {a C : Addr} {dx : Option Addr} {c : Str} {fs : List (Str × V)} {gs : List (Str × D)} : T.cls c = some C → H a = some (XvO C dx a) → XdR H dx fs → RepF T K io H fs gs → Rep T K io H (.ref a) (.exv c gs)
inductive RepL (T : Tx) (K : PySem.W.Frag) (io : List Addr) (H : Hp) : List V → List D → Prop
  | nil : RepL T K io H [] []
  | cons {v : V} {vs : List V} {d : D} {ds : List D} : Rep T K io H v d → RepL T K io H vs ds → RepL T K io H (v :: vs) (d :: ds)
inductive RepK (T : Tx) (K : PySem.W.Frag) (io : List Addr) (H : Hp) : List (Key × V) → List (D × D) → Prop
  | nil : RepK T K io H [] []
  | cons {k : Key} {v : V} {vs : List (Key × V)} {d : D} {ds : List (D × D)} : Rep T K io H v d → RepK T K io H vs ds → RepK T K io H ((k, v) :: vs) ((kD k, d) :: ds)
inductive RepT (T : Tx) (K : PySem.W.Frag) (io : List Addr) (H : Hp) : List (List Key × V) → List (D × D) → Prop
  | nil : RepT T K io H [] []
  | cons {k : List Key} {v : V} {vs : List (List Key × V)} {d : D} {ds : List (D × D)} : Rep T K io H v d → RepT T K io H vs ds → RepT T K io H ((k, v) :: vs) ((tD k, d) :: ds)
inductive RepN (T : Tx) (K : PySem.W.Frag) (io : List Addr) (H : Hp) : List NE → List (D × D) → Prop
  | nil : RepN T K io H [] []
  | cons {k : NestedKey} {ku vu : Value} {kv vv : V} {kd vd : D} {xs : List NE} {es : List (D × D)} : Rep T K io H kv kd → RelV kv ku → ncode kd = some k → Rep T K io H vv vd → RelV vv vu → RepN T K io H xs es → RepN T K io H ((k, ku, vu) :: xs) ((kd, vd) :: es)
inductive RepF (T : Tx) (K : PySem.W.Frag) (io : List Addr) (H : Hp) : List (Str × V) → List (Str × D) → Prop
  | nil : RepF T K io H [] []
  | cons {k : Str} {v : V} {vs : List (Str × V)} {d : D} {ds : List (Str × D)} : Rep T K io H v d → RepF T K io H vs ds → RepF T K io H ((k, v) :: vs) ((k, d) :: ds)
end
def Ex (H H' : Hp) : Prop := ∀ a o, H a = some o → H' a = some o
theorem Ex.refl (H : Hp) : Ex H H := fun _ _ h => h
theorem Ex.trans {H H1 H2 : Hp} (a : Ex H H1) (b : Ex H1 H2) : Ex H H2 := fun x o h => b x o (a x o h)
theorem XdR.mono {H H' : Hp} {dx : Option Addr} {fs : List (Str × V)} (x : XdR H dx fs) (e : Ex H H') : XdR H' dx fs := by
  rcases x with x | ⟨d, h, k⟩
  · exact .inl x
  · exact .inr ⟨d, h, e _ _ k⟩
theorem Ex.new {H : Hp} {p : Addr} {o : HO} (h : H p = none) : Ex H (upd H p o) := fun a u e => by
  rw [upd_ne (ne_of_none e h)]; exact e
theorem Ex.seqL {K : PySem.W.Frag} {H H' : Hp} {a : Addr} {xs : List V} (e : Ex H H') (h : SqL K H a xs) : SqL K H' a xs := by
  rcases h with (h | ⟨o, h⟩) | h
  · exact .inl (.inl (e _ _ h))
  · exact .inl (.inr ⟨o, e _ _ h⟩)
  · exact .inr h
/-- the later list of objects begins with the earlier one -/
def Ob (io io' : List Addr) : Prop := ∀ (n : Nat) (a : Addr), io[n]? = some a → io'[n]? = some a
theorem Ob.refl (io : List Addr) : Ob io io := fun _ _ h => h
theorem Ob.trans {a b c : List Addr} (h : Ob a b) (k : Ob b c) : Ob a c := fun n x e => k n x (h n x e)

section
variable {T : Tx} {K : PySem.W.Frag} {io io' : List Addr} {H H' : Hp}
mutual
theorem Rep.mono (e : Ex H H') (o : Ob io io') : ∀ {v : V} {d : D}, Rep T K io H v d → Rep T K io' H' v d
  | _, _, .non => .non
  | _, _, .bl b => .bl b
  | _, _, .int i => .int i
  | _, _, .str x => .str x
  | _, _, .tup h r => .tup (e _ _ h) (RepL.mono e o r)
  | _, _, .lst h r => .lst (e _ _ h) (RepL.mono e o r)
  | _, _, .rol h r => .rol (e.seqL h) (RepL.mono e o r)
  | _, _, .dicK h r => .dicK (e _ _ h) (RepK.mono e o r)
  | _, _, .dicT h r => .dicT (e _ _ h) (RepT.mono e o r)
  | _, _, .dicN hw h r => .dicN hw (e _ _ h) (RepN.mono e o r)
  | _, _, .ins c h r => .ins c (e _ _ h) (RepF.mono e o r)
  | _, _, .ob h => .ob (o _ _ h)
  | _, _, .cl h => .cl h
  | _, _, .exv c h x r => .exv c (e _ _ h) (x.mono e) (RepF.mono e o r)
theorem RepL.mono (e : Ex H H') (o : Ob io io') : ∀ {v : List V} {d : List D}, RepL T K io H v d → RepL T K io' H' v d
  | _, _, .nil => .nil
  | _, _, .cons h r => .cons (Rep.mono e o h) (RepL.mono e o r)
theorem RepK.mono (e : Ex H H') (o : Ob io io') : ∀ {v : List (Key × V)} {d : List (D × D)}, RepK T K io H v d → RepK T K io' H' v d
  | _, _, .nil => .nil
  | _, _, .cons h r => .cons (Rep.mono e o h) (RepK.mono e o r)
theorem RepT.mono (e : Ex H H') (o : Ob io io') : ∀ {v : List (List Key × V)} {d : List (D × D)}, RepT T K io H v d → RepT T K io' H' v d
  | _, _, .nil => .nil
  | _, _, .cons h r => .cons (Rep.mono e o h) (RepT.mono e o r)
theorem RepN.mono (e : Ex H H') (o : Ob io io') : ∀ {v : List NE} {d : List (D × D)}, RepN T K io H v d → RepN T K io' H' v d
  | _, _, .nil => .nil
  | _, _, .cons a b c d f r => .cons (Rep.mono e o a) b c (Rep.mono e o d) f (RepN.mono e o r)
theorem RepF.mono (e : Ex H H') (o : Ob io io') : ∀ {v : List (Str × V)} {d : List (Str × D)}, RepF T K io H v d → RepF T K io' H' v d
  | _, _, .nil => .nil
  | _, _, .cons h r => .cons (Rep.mono e o h) (RepF.mono e o r)
end
end

end Bv

namespace Bv
open PySem PySem.Spec PyProof.Rows L2

/-- a slot: unknown, a value that nobody changes, an object that only this slot has -/
inductive Sl where
  | no | frz (d : D) | own (d : D) | hd
/-- slots, and the objects that several may have -/
structure S where
  sl : List Sl
  ob : List D
/-- an expression's result: a value, a new object, the object of a slot -/
inductive Rv where
  | val (d : D) | fresh (d : D) | bor (i : Nat)
structure Exn where
  c : Str
  fs : List (Str × D)
inductive Res where
  | ok (r : Rv) (s : S) | exc (e : Exn) (s : S) | bad
def Res.bind (r : Res) (k : Rv → S → Res) : Res := match r with
  | .ok r s => k r s
  | .exc e s => .exc e s
  | .bad => .bad

structure Wd where
  Hf : Hp
  io : List Addr
def Wd.le (w w' : Wd) : Prop := Ex w.Hf w'.Hf ∧ Ob w.io w'.io
theorem Wd.le_refl (w : Wd) : w.le w := ⟨Ex.refl _, Ob.refl _⟩
theorem Wd.le.trans {a b c : Wd} (h : a.le b) (k : b.le c) : a.le c := ⟨h.1.trans k.1, h.2.trans k.2⟩
abbrev RepW (T : Tx) (K : PySem.W.Frag) (w : Wd) (v : V) (d : D) : Prop := Rep T K w.io w.Hf v d
abbrev RepLW (T : Tx) (K : PySem.W.Frag) (w : Wd) (v : List V) (d : List D) : Prop := RepL T K w.io w.Hf v d

/-- what stands at an address, its parts in the frozen heap -/
def Con (T : Tx) (K : PySem.W.Frag) (w : Wd) (H : Hp) (a : Addr) : D → Prop
  | .lst ds => ∃ xs, H a = some (.lst xs) ∧ RepL T K w.io w.Hf xs ds
  | .dic es => ∃ kvs, H a = some (.dK kvs) ∧ RepK T K w.io w.Hf kvs es
  | .dit es => ∃ kvs, H a = some (.dT kvs) ∧ RepT T K w.io w.Hf kvs es
  | .dmx es => ∃ W xs, T.cls.wo = some W ∧ H a = some (.ext (MixP W a xs)) ∧ RepN T K w.io w.Hf xs es
  | .ins c gs => ∃ C dx fs, T.cls c = some C ∧ H a = some (.ins C dx fs) ∧ RepF T K w.io w.Hf fs gs
  | _ => False
def Rep1 (T : Tx) (K : PySem.W.Frag) (w : Wd) (H : Hp) (v : V) (d : D) : Prop := RepW T K w v d ∨ ∃ a, v = .ref a ∧ Con T K w H a d

/-- at a place of the ground stands a table of code objects of the name q -/
def TabV (F : Hp) (q : Str) (x : Option HO) : Prop := ∃ ps : Array Value, x = some (.tbl ps) ∧ TriplesOk ps.toList ∧ ∀ (pos : Pos) (cv : Value), codeAmong pos ps.toList = some cv → ∃ c, cv = .ref c ∧ F c = some (LamX.CodeO c q)
/-- what stands where the ground has o: o itself; a table, where o is the mark of one -/
def ExV (F : Hp) (x : Option HO) (o : HO) : Prop := (x = some o ∧ ∀ ps, o ≠ .tbl ps) ∨ ∃ (q : Str) (t : Tok), o = .tbl #[.str q t] ∧ TabV F q x
theorem TabV.mono {F F' : Hp} {q : Str} {x y : Option HO} (h : TabV F q x) (e : Ex F F') (k : ∀ u, x = some u → y = some u) : TabV F' q y := by
  obtain ⟨ps, h1, h2, h3⟩ := h
  refine ⟨ps, k _ h1, h2, fun pos cv hc => ?_⟩
  obtain ⟨c, e1, e2⟩ := h3 pos cv hc
  exact ⟨c, e1, e _ _ e2⟩
theorem ExV.ex {F : Hp} {x : Option HO} {o : HO} (h : ExV F x o) : ∃ u, x = some u := by
  rcases h with ⟨h, _⟩ | ⟨q, t, _, ps, h, _⟩
  · exact ⟨_, h⟩
  · exact ⟨_, h⟩
theorem ExV.eq {F : Hp} {x : Option HO} {o : HO} (h : ExV F x o) (n : ∀ ps, o ≠ .tbl ps) : x = some o := by
  rcases h with ⟨h, _⟩ | ⟨q, t, h, _⟩
  · exact h
  · exact absurd h (n _)
theorem ExV.of {F : Hp} {x : Option HO} {o : HO} (h : x = some o) (n : ∀ ps, o ≠ .tbl ps) : ExV F x o := .inl ⟨h, n⟩
theorem ExV.mono {F F' : Hp} {x y : Option HO} {o : HO} (h : ExV F x o) (e : Ex F F') (k : ∀ u, x = some u → y = some u) : ExV F' y o := by
  rcases h with ⟨h, n⟩ | ⟨q, t, h, v⟩
  · exact .inl ⟨k _ h, n⟩
  · exact .inr ⟨q, t, h, v.mono e k⟩
/-- the mark of the table that T tells of -/
def TabG (T : Tx) (G : Hp) : Prop := ∀ p, p ∈ T.tb → ∃ t : Tok, G p.1 = some (.tbl #[.str p.2 t])
theorem TabG.put {T : Tx} {G : Hp} {a : Addr} {o : HO} (h : TabG T G) (hg : G a = none) : TabG T (upd G a o) := fun p hp => by
  obtain ⟨t, e⟩ := h p hp
  exact ⟨t, by rw [upd_ne (fun z => by rw [z, hg] at e; cases e)]; exact e⟩
theorem TabG.swp {T : Tx} {G : Hp} {a : Addr} {o u : HO} (h : TabG T (upd G a o)) (n : ∀ ps, o ≠ .tbl ps) : TabG T (upd G a u) := fun p hp => by
  obtain ⟨t, e⟩ := h p hp
  have d : p.1 ≠ a := fun z => by
    rw [z, upd_same] at e
    exact n _ (Option.some.inj e)
  rw [upd_ne d] at e
  exact ⟨t, by rw [upd_ne d]; exact e⟩
structure SR (T : Tx) (K : PySem.W.Frag) (G : Hp) (w : Wd) (st : S) (σ : L2.St) (H : Hp) : Prop where
  bas : Ex T.bs w.Hf ∧ Ob T.bio w.io
  exf : Ex w.Hf H
  exg : ∀ b o, G b = some o → ExV w.Hf (H b) o
  dis : ∀ a o, G a = some o → w.Hf a = none
  len : st.sl.length = σ.length
  frz : ∀ (i : Nat) (d : D), st.sl[i]? = some (.frz d) → ∃ v, σ[i]? = some (some v) ∧ RepW T K w v d
  own : ∀ (i : Nat) (d : D), st.sl[i]? = some (.own d) → ∃ a, σ[i]? = some (some (.ref a)) ∧ w.Hf a = none ∧ G a = none ∧ a ∉ w.io ∧ Con T K w H a d
  apart : ∀ (i j : Nat) (d e : D) (a : Addr), st.sl[i]? = some (.own d) → st.sl[j]? = some (.own e) → σ[i]? = some (some (.ref a)) → σ[j]? = some (some (.ref a)) → i = j
  olen : w.io.length = st.ob.length
  ond : w.io.Nodup
  obj : ∀ (n : Nat) (d : D) (a : Addr), st.ob[n]? = some d → w.io[n]? = some a → w.Hf a = none ∧ G a = none ∧ Con T K w H a d
  hld : ∀ (i : Nat), st.sl[i]? = some .hd → ∃ a, σ[i]? = some (some (.ref a)) ∧ T.hx = some (a, i)
  tab : TabG T G

def RR (T : Tx) (K : PySem.W.Frag) (G : Hp) (w : Wd) (st : S) (σ : L2.St) (H : Hp) : Rv → V → Prop
  | .val d, v => RepW T K w v d
  | .fresh d, v => ∃ a, v = .ref a ∧ w.Hf a = none ∧ G a = none ∧ a ∉ w.io ∧ (∀ (i : Nat) (e : D), st.sl[i]? = some (.own e) → σ[i]? ≠ some (some (.ref a))) ∧ Con T K w H a d
  | .bor i, v => σ[i]? = some (some v)

/-- the content of a result as it stands -/
def deref (st : S) : D → Option D
  | .ob n => st.ob[n]?
  | d => some d
def rd (st : S) : Rv → Option D
  | .val d => deref st d
  | .fresh d => some d
  | .bor i => match st.sl[i]? with
    | some (.frz d) => deref st d
    | some (.own d) => some d
    | _ => none
def vz : Rv → Rv
  | .fresh d => .val d
  | r => r

section
variable {T : Tx} {K : PySem.W.Frag} {G : Hp} {w w' : Wd} {st : S} {σ : L2.St} {H H' : Hp} {a : Addr} {d : D} {v : V} {o : HO}

theorem RepW.mono (h : RepW T K w v d) (e : w.le w') : RepW T K w' v d := Rep.mono e.1 e.2 h
theorem Con.mono : ∀ {d : D}, Con T K w H a d → w.le w' → H' a = H a → Con T K w' H' a d
  | .lst _, ⟨xs, h, r⟩, e, q => ⟨xs, by rw [q]; exact h, RepL.mono e.1 e.2 r⟩
  | .dic _, ⟨k, h, r⟩, e, q => ⟨k, by rw [q]; exact h, RepK.mono e.1 e.2 r⟩
  | .dit _, ⟨k, h, r⟩, e, q => ⟨k, by rw [q]; exact h, RepT.mono e.1 e.2 r⟩
  | .dmx _, ⟨W, k, hw, h, r⟩, e, q => ⟨W, k, hw, by rw [q]; exact h, RepN.mono e.1 e.2 r⟩
  | .ins _ _, ⟨C, dx, fs, c, h, r⟩, e, q => ⟨C, dx, fs, c, by rw [q]; exact h, RepF.mono e.1 e.2 r⟩
theorem Con.here : ∀ {d : D}, Con T K w H a d → ∃ o, H a = some o
  | .lst _, ⟨xs, h, r⟩ => ⟨_, h⟩
  | .dic _, ⟨k, h, r⟩ => ⟨_, h⟩
  | .dit _, ⟨k, h, r⟩ => ⟨_, h⟩
  | .dmx _, ⟨W, k, hw, h, r⟩ => ⟨_, h⟩
  | .ins _ _, ⟨C, dx, fs, c, h, r⟩ => ⟨_, h⟩
theorem Con.ntbl : ∀ {d : D}, Con T K w H a d → H a = some o → ∀ ps, o ≠ .tbl ps
  | .lst _, ⟨xs, h, r⟩, e, ps => fun z => by rw [z, h] at e; cases e
  | .dic _, ⟨k, h, r⟩, e, ps => fun z => by rw [z, h] at e; cases e
  | .dit _, ⟨k, h, r⟩, e, ps => fun z => by rw [z, h] at e; cases e
  | .dmx _, ⟨W, k, hw, h, r⟩, e, ps => fun z => by rw [z, h] at e; cases e
  | .ins _ _, ⟨C, dx, fs, c, h, r⟩, e, ps => fun z => by rw [z, h] at e; cases e
/-- frozen: the content in the frozen heap -/
theorem Con.rep : ∀ {d : D}, Con T K w w.Hf a d → RepW T K w (.ref a) d
  | .lst _, ⟨xs, h, r⟩ => .lst h r
  | .dic _, ⟨k, h, r⟩ => .dicK h r
  | .dit _, ⟨k, h, r⟩ => .dicT h r
  | .dmx _, ⟨W, k, hw, h, r⟩ => .dicN hw h r
  | .ins _ _, ⟨C, dx, fs, c, h, r⟩ => .ins c h r
theorem Rep1.of (h : RepW T K w v d) : Rep1 T K w H v d := .inl h

theorem SR.io_some (R : SR T K G w st σ H) {n : Nat} (h : w.io[n]? = some a) : ∃ d, st.ob[n]? = some d ∧ w.Hf a = none ∧ G a = none ∧ Con T K w H a d := by
  have hn : n < w.io.length := (List.getElem?_eq_some_iff.mp h).1
  have hn2 : n < st.ob.length := by rw [← R.olen]; exact hn
  exact ⟨st.ob[n], List.getElem?_eq_getElem hn2, R.obj n _ a (List.getElem?_eq_getElem hn2) h⟩
theorem SR.io_mem (R : SR T K G w st σ H) (h : a ∈ w.io) : w.Hf a = none ∧ G a = none ∧ ∃ o, H a = some o := by
  obtain ⟨n, hn⟩ := List.mem_iff_getElem?.mp h
  obtain ⟨d, _, h1, h2, h3⟩ := R.io_some hn
  exact ⟨h1, h2, h3.here⟩
/-- an address that is free is nobody's -/
theorem SR.free (R : SR T K G w st σ H) (h : H a = none) : w.Hf a = none ∧ G a = none ∧ a ∉ w.io ∧ ∀ (i : Nat) (e : D), st.sl[i]? = some (.own e) → σ[i]? ≠ some (some (.ref a)) := by
  refine ⟨?_, ?_, fun m => ?_, fun i e h1 h2 => ?_⟩
  · cases q : w.Hf a with
    | none => rfl
    | some o => rw [R.exf _ _ q] at h; cases h
  · cases q : G a with
    | none => rfl
    | some o =>
      obtain ⟨u, z⟩ := (R.exg _ _ q).ex
      rw [z] at h; cases h
  · obtain ⟨_, _, o, q⟩ := R.io_mem m
    rw [q] at h; cases h
  · obtain ⟨b, hb, _, _, _, c⟩ := R.own i e h1
    rw [h2] at hb
    cases hb
    obtain ⟨o, q⟩ := c.here
    rw [q] at h; cases h
/-- the heap changes at places that are nobody's (or not at all), more is frozen, of what was nobody's -/
theorem SR.step (R : SR T K G w st σ H) (le : w.le w') (io : w'.io = w.io) (eh : ∀ b o, H b = some o → H' b = some o) (ef : Ex w'.Hf H')
    (hn : ∀ b o, w'.Hf b = some o → w.Hf b = some o ∨ (G b = none ∧ b ∉ w.io ∧ ∀ (i : Nat) (e : D), st.sl[i]? = some (.own e) → σ[i]? ≠ some (some (.ref b)))) : SR T K G w' st σ H' := by
  have keep : ∀ b, w.Hf b = none → G b ≠ none ∨ b ∈ w.io ∨ (∃ (i : Nat) (e : D), st.sl[i]? = some (.own e) ∧ σ[i]? = some (some (.ref b))) → w'.Hf b = none := fun b h k => by
    cases q : w'.Hf b with
    | none => rfl
    | some o =>
      rcases hn b o q with z | ⟨z1, z2, z3⟩
      · rw [h] at z; cases z
      · rcases k with k | k | ⟨i, e, k1, k2⟩
        · exact absurd z1 k
        · exact absurd k z2
        · exact absurd k2 (z3 i e k1)
  have hcon : ∀ {b : Addr} {d : D}, Con T K w H b d → Con T K w' H' b d := fun {b d} c => by
    obtain ⟨o, q⟩ := c.here
    exact c.mono le (by rw [q]; exact eh _ _ q)
  refine ⟨⟨R.bas.1.trans le.1, R.bas.2.trans le.2⟩, ef, fun b o h => (R.exg b o h).mono le.1 (fun u q => eh _ _ q), fun b o h => keep b (R.dis b o h) (.inl (by rw [h]; simp)), R.len, fun i d h => ?_, fun i d h => ?_, R.apart, by rw [io]; exact R.olen, by rw [io]; exact R.ond, fun n d b h1 h2 => ?_, R.hld, R.tab⟩
  · obtain ⟨v, h1, h2⟩ := R.frz i d h
    exact ⟨v, h1, h2.mono le⟩
  · obtain ⟨b, h1, h2, h3, h4, h5⟩ := R.own i d h
    exact ⟨b, h1, keep b h2 (.inr (.inr ⟨i, d, h, h1⟩)), h3, by rw [io]; exact h4, hcon h5⟩
  · rw [io] at h2
    obtain ⟨h3, h4, h5⟩ := R.obj n d b h1 h2
    exact ⟨keep b h3 (.inr (.inl (List.mem_of_getElem? h2))), h4, hcon h5⟩
/-- a new object is laid -/
theorem SR.new (R : SR T K G w st σ H) (h : H a = none) : SR T K G w st σ (upd H a o) :=
  R.step (w.le_refl) rfl (Ex.new h) (R.exf.trans (Ex.new h)) fun b o q => .inl q
/-- what is nobody's and stands is frozen -/
theorem SR.freeze (R : SR T K G w st σ H) (hf : w.Hf a = none) (hg : G a = none) (hi : a ∉ w.io) (hs : ∀ (i : Nat) (e : D), st.sl[i]? = some (.own e) → σ[i]? ≠ some (some (.ref a))) (ho : H a = some o) :
    w.le ⟨upd w.Hf a o, w.io⟩ ∧ SR T K G ⟨upd w.Hf a o, w.io⟩ st σ H := by
  have le : w.le ⟨upd w.Hf a o, w.io⟩ := ⟨Ex.new hf, Ob.refl _⟩
  refine ⟨le, R.step le rfl (fun _ _ q => q) (fun b u q => ?_) fun b u q => ?_⟩
  · by_cases e : b = a
    · subst e
      have q' : some o = some u := upd_same.symm.trans q
      rw [← q']; exact ho
    · exact R.exf b u ((upd_ne (o := o) e).symm.trans q)
  · by_cases e : b = a
    · subst e; exact .inr ⟨hg, hi, hs⟩
    · exact .inl ((upd_ne (o := o) e).symm.trans q)
theorem Con.freeze (c : Con T K w H a d) (hf : w.Hf a = none) (ho : H a = some o) : RepW T K ⟨upd w.Hf a o, w.io⟩ (.ref a) d :=
  Con.rep (w := ⟨upd w.Hf a o, w.io⟩) (c.mono (w' := ⟨upd w.Hf a o, w.io⟩) (H' := upd w.Hf a o) ⟨Ex.new hf, Ob.refl _⟩ (by rw [upd_same, ho]))
/-- a new result becomes a value -/
theorem SR.valz (R : SR T K G w st σ H) {r : Rv} (h : RR T K G w st σ H r v) : ∃ w', w.le w' ∧ SR T K G w' st σ H ∧ RR T K G w' st σ H (vz r) v := by
  cases r with
  | val d => exact ⟨w, w.le_refl, R, h⟩
  | bor i => exact ⟨w, w.le_refl, R, h⟩
  | fresh d =>
    obtain ⟨a, rfl, h1, h2, h3, h4, h5⟩ := h
    obtain ⟨o, ho⟩ := h5.here
    obtain ⟨le, R'⟩ := R.freeze h1 h2 h3 h4 ho
    exact ⟨_, le, R', h5.freeze h1 ho⟩
/-- reading -/
theorem SR.read (R : SR T K G w st σ H) {r : Rv} (h : RR T K G w st σ H r v) (e : rd st r = some d) : Rep1 T K w H v d := by
  have obs : ∀ {d0 : D}, RepW T K w v d0 → deref st d0 = some d → Rep1 T K w H v d := fun {d0} h e => by
    cases d0 <;> try (cases e; exact .inl h)
    cases h with
    | ob h =>
      obtain ⟨_, _, c⟩ := R.obj _ _ _ e h
      exact .inr ⟨_, rfl, c⟩
  cases r with
  | val d0 => exact obs h e
  | fresh d0 =>
    cases e
    obtain ⟨a, rfl, _, _, _, _, c⟩ := h
    exact .inr ⟨a, rfl, c⟩
  | bor i =>
    have hv : σ[i]? = some (some v) := h
    dsimp only [rd] at e
    cases hs : st.sl[i]? with
    | none => rw [hs] at e; cases e
    | some s =>
      rw [hs] at e
      cases s with
      | no => cases e
      | frz d0 =>
        obtain ⟨v', h1, h2⟩ := R.frz i d0 hs
        rw [hv] at h1; cases h1
        exact obs h2 e
      | hd => cases e
      | own d0 =>
        cases e
        obtain ⟨a, h1, h2, h3, h4, h5⟩ := R.own i _ hs
        rw [hv] at h1; cases h1
        exact .inr ⟨a, rfl, h5⟩
/-- a result stays while the state goes on -/
theorem RR.carry {st' : S} {r : Rv} (h : RR T K G w st σ H (vz r) v) (le : w.le w') : RR T K G w' st' σ H' (vz r) v := by
  cases r with
  | val d => exact RepW.mono h le
  | fresh d => exact RepW.mono (d := d) h le
  | bor i => exact h
end
end Bv

namespace Bv
open PySem PySem.Spec PyProof.Rows L2

/-- how an exception stands -/
def ExR (T : Tx) (K : PySem.W.Frag) (w : Wd) (e : Exn) (cls : Value) (dx : Option Addr) : Prop :=
  (∃ C, T.cls e.c = some C ∧ cls = .ref C) ∧ ((e.fs = [] ∧ dx = none) ∨ ∃ d fs, dx = some d ∧ w.Hf d = some (.xd fs) ∧ RepF T K w.io w.Hf fs e.fs)

section
variable (T : Tx) (K : PySem.W.Frag) (G : Hp) (w : Wd) (σ : L2.St)
def PostE (r : Res) (Q : VK) (W : WX) : Prop := match r with
  | .ok r st => ∀ (w' : Wd) (H' : Hp) (v : V), w.le w' → SR T K G w' st σ H' → RR T K G w' st σ H' r v → Q v H'
  | .exc e st => ∀ (w' : Wd) (H' : Hp) (cls : Value) (dx : Option Addr), w.le w' → SR T K G w' st σ H' → ExR T K w' e cls dx → W cls dx σ H'
  | .bad => False
end
/-- the reading that a function of states makes -/
def tE (X : Cx) (T : Tx) (f : S → Res) : TE := fun σ H Q => ∃ (G : Hp) (w : Wd) (st : S) (W : WX), SR T X.K G w st σ H ∧ Takes X W ∧ PostE T X.K G w σ (f st) Q W
def DE (X : Cx) (T : Tx) (e : Expr) (f : S → Res) : Prop := PE X e (tE X T f)

theorem PE.imp {X : Cx} {e : Expr} {t t' : TE} (h : PE X e t) (i : ∀ σ H Q, t' σ H Q → t σ H Q) : PE X e t' :=
  ⟨fun pins s σ H Q I q => h.run pins s σ H Q I (i σ H Q q)⟩
section
variable {X : Cx} {T : Tx} {K : PySem.W.Frag} {G : Hp} {w w' : Wd} {σ : L2.St} {r : Res} {Q Q' : VK} {W : WX} {st : S} {H : Hp}
theorem PostE.le (h : PostE T K G w σ r Q W) (e : w.le w') : PostE T K G w' σ r Q W := by
  cases r with
  | ok r st => exact fun w2 H' v l => h w2 H' v (e.trans l)
  | exc x st => exact fun w2 H' c d l => h w2 H' c d (e.trans l)
  | bad => exact h
/-- first this, then the rest from what it gives -/
theorem PostE.bind {k : Rv → S → Res} (h : PostE T K G w σ (r.bind k) Q W)
    (q : ∀ (r1 : Rv) (st1 : S) (w1 : Wd) (H1 : Hp) (v1 : V), r = .ok r1 st1 → w.le w1 → SR T K G w1 st1 σ H1 → RR T K G w1 st1 σ H1 r1 v1 → PostE T K G w1 σ (k r1 st1) Q W → Q' v1 H1) : PostE T K G w σ r Q' W := by
  cases r with
  | ok r st => exact fun w1 H1 v1 l R x => q r st w1 H1 v1 rfl l R x (PostE.le h l)
  | exc x st => exact h
  | bad => exact h
/-- the same, the first result a value or a slot -/
theorem PostE.bindz {k : Rv → S → Res} (h : PostE T K G w σ (r.bind fun r st => k (vz r) st) Q W)
    (q : ∀ (r1 : Rv) (st1 : S) (w1 : Wd) (H1 : Hp) (v1 : V), r = .ok r1 st1 → w.le w1 → SR T K G w1 st1 σ H1 → RR T K G w1 st1 σ H1 (vz r1) v1 → PostE T K G w1 σ (k (vz r1) st1) Q W → Q' v1 H1) : PostE T K G w σ r Q' W :=
  PostE.bind h fun r1 st1 w1 H1 v1 e l R x p => by
    obtain ⟨w2, l2, R2, x2⟩ := R.valz x
    exact q r1 st1 w2 H1 v1 e (l.trans l2) R2 x2 (p.le l2)
/-- the end of an operation -/
theorem PostE.val {d : D} {v : V} (h : PostE T K G w σ (.ok (.val d) st) Q W) (R : SR T K G w st σ H) (r : RepW T K w v d) : Q v H := h w H v w.le_refl R r
/-- a new object at p -/
theorem PostE.fresh {d : D} {p : Addr} {o : HO} (h : PostE T K G w σ (.ok (.fresh d) st) Q W) (R : SR T K G w st σ H) (hp : H p = none) (c : Con T K w (upd H p o) p d) : Q (.ref p) (upd H p o) := by
  obtain ⟨h1, h2, h3, h4⟩ := R.free hp
  exact h w _ _ w.le_refl (R.new hp) ⟨p, rfl, h1, h2, h3, h4, c⟩
end

def eVar (i : Nat) : S → Res := fun st => match st.sl[i]? with
  | some (.frz d) => .ok (.val d) st
  | some (.own d) => .ok (.bor i) st
  | _ => .bad
def eC (d : D) : S → Res := fun st => .ok (.val d) st
section
variable {X : Cx} {T : Tx}
theorem de_var (i : Nat) {x : Str} {pos : Pos} (hN : X.N[i]? = some x := by rfl) (hv : Vis X.env.scope x := by first | exact Or.inl rfl | exact Or.inr (Or.inl rfl) | exact Or.inr (Or.inr rfl))
    (hd : (x == ("__debug__" : Str)) = false := by decide) (hcd : (x == ("__classdict__" : Str)) = false := by decide) : DE X T (.Name x pos) (eVar i) :=
  PE.imp (pe_var hN hv hd hcd) fun σ H Q ⟨G, w, st, W, R, tk, h⟩ => by
    unfold eVar at h
    cases e : st.sl[i]? with
    | none => rw [e] at h; exact h.elim
    | some s =>
      rw [e] at h
      cases s with
      | no => exact h.elim
      | frz d =>
        obtain ⟨v, h1, h2⟩ := R.frz i d e
        exact ⟨v, h1, h.val R h2⟩
      | hd => exact h.elim
      | own d =>
        obtain ⟨a, h1, h2, h3, h4, h5⟩ := R.own i d e
        exact ⟨_, h1, h w H _ w.le_refl R h1⟩
theorem de_const {e : Expr} {v : V} {d : D} (h : PE X e (tC v)) (r : ∀ w : Wd, RepW T X.K w v d) : DE X T e (eC d) :=
  PE.imp h fun σ H Q ⟨G, w, st, W, R, tk, h⟩ => PostE.val h R (r w)
theorem de_int {i j pos} : DE X T (.Constant (.int i) j pos) (eC (.int i)) := de_const pe_int fun _ => .int i
theorem de_bl {b j pos} : DE X T (.Constant (.bool b) j pos) (eC (.bl b)) := de_const pe_bl fun _ => .bl b
theorem de_non {j pos} : DE X T (.Constant .none j pos) (eC .non) := de_const pe_non fun _ => .non
theorem de_str {x j pos} : DE X T (.Constant (.str x) j pos) (eC (.str x)) := de_const pe_str fun _ => .str x
/-- a constant of the module that is an int or a text -/
theorem de_globI {x : Str} {i : Int} {t : Tok} {pos : Pos} (hg : Gl X x) (hm : X.mg x = some (.int i t)) (hd : (x == ("__debug__" : Str)) = false := by decide) : DE X T (.Name x pos) (eC (.int i)) :=
  de_const (pe_glob (v := .int i) hg hm ⟨t, rfl⟩ hd) fun _ => .int i
theorem de_globS {x : Str} {i : Str} {t : Tok} {pos : Pos} (hg : Gl X x) (hm : X.mg x = some (.str i t)) (hd : (x == ("__debug__" : Str)) = false := by decide) : DE X T (.Name x pos) (eC (.str i)) :=
  de_const (pe_glob (v := .str i) hg hm ⟨t, rfl⟩ hd) fun _ => .str i
end

/-- both operands are read when both are there -/
def e2 (f : D → D → Option Rv) (a b : S → Res) : S → Res := fun st => (a st).bind fun r1 st1 => (b st1).bind fun r2 st2 => match rd st2 (vz r1), rd st2 (vz r2) with
  | some d1, some d2 => match f d1 d2 with
    | some r => .ok r st2
    | none => .bad
  | _, _ => .bad
def e1 (f : D → Option Rv) (a : S → Res) : S → Res := fun st => (a st).bind fun r1 st1 => match rd st1 (vz r1) with
  | some d1 => match f d1 with
    | some r => .ok r st1
    | none => .bad
  | _ => .bad
/-- an operation on values as data: what f gives, r reaches -/
def OpS (T : Tx) (K : PySem.W.Frag) (r : R2) (f : D → D → Option Rv) : Prop :=
  ∀ (G : Hp) (w : Wd) (st : S) (σ : L2.St) (H : Hp) (x y : V) (d1 d2 : D) (out : Rv) (Q : VK) (W : WX), SR T K G w st σ H → Rep1 T K w H x d1 → Rep1 T K w H y d2 → f d1 d2 = some out →
    PostE T K G w σ (.ok out st) Q W → r x y H Q
def OpS1 (T : Tx) (K : PySem.W.Frag) (r : V → Hp → VK → Prop) (f : D → Option Rv) : Prop :=
  ∀ (G : Hp) (w : Wd) (st : S) (σ : L2.St) (H : Hp) (x : V) (d1 : D) (out : Rv) (Q : VK) (W : WX), SR T K G w st σ H → Rep1 T K w H x d1 → f d1 = some out →
    PostE T K G w σ (.ok out st) Q W → r x H Q
section
variable {X : Cx} {T : Tx} {a b : Expr} {fa fb : S → Res} {f : D → D → Option Rv}
theorem tOp_of {r : R2} (ho : OpS T X.K r f) {σ : L2.St} {H : Hp} {Q : VK} (h : tE X T (e2 f fa fb) σ H Q) : tOp r (tE X T fa) (tE X T fb) σ H Q := by
  obtain ⟨G, w, st, W, R, tk, h⟩ := h
  refine ⟨G, w, st, W, R, tk, PostE.bindz (k := fun r1 st1 => (fb st1).bind fun r2 st2 => match rd st2 r1, rd st2 (vz r2) with
    | some d1, some d2 => match f d1 d2 with
      | some r => .ok r st2
      | none => .bad
    | _, _ => .bad) h fun r1 st1 w1 H1 v1 e1 l1 R1 x1 h1 => ?_⟩
  refine ⟨G, w1, st1, W, R1, tk, PostE.bindz (k := fun r2 st2 => match rd st2 (vz r1), rd st2 r2 with
      | some d1, some d2 => match f d1 d2 with
        | some r => .ok r st2
        | none => .bad
      | _, _ => .bad) h1 fun r2 st2 w2 H2 v2 e2 l2 R2 x2 h2 => ?_⟩
  cases q1 : rd st2 (vz r1) with
  | none => simp only [q1] at h2; exact h2.elim
  | some d1 =>
    cases q2 : rd st2 (vz r2) with
    | none => simp only [q1, q2] at h2; exact h2.elim
    | some d2 =>
      simp only [q1, q2] at h2
      cases q3 : f d1 d2 with
      | none => rw [q3] at h2; exact h2.elim
      | some out =>
        rw [q3] at h2
        exact ho G w2 st2 σ H2 v1 v2 d1 d2 out Q W R2 (R2.read (x1.carry l2) q1) (R2.read x2 q2) q3 h2
theorem tUn_of {r : V → Hp → VK → Prop} {f : D → Option Rv} (ho : OpS1 T X.K r f) {σ : L2.St} {H : Hp} {Q : VK} (h : tE X T (e1 f fa) σ H Q) : tUn r (tE X T fa) σ H Q := by
  obtain ⟨G, w, st, W, R, tk, h⟩ := h
  refine ⟨G, w, st, W, R, tk, PostE.bindz (k := fun r1 st1 => match rd st1 r1 with
    | some d1 => match f d1 with
      | some r => .ok r st1
      | none => .bad
    | _ => .bad) h fun r1 st1 w1 H1 v1 e1 l1 R1 x1 h1 => ?_⟩
  cases q1 : rd st1 (vz r1) with
  | none => simp only [q1] at h1; exact h1.elim
  | some d1 =>
    simp only [q1] at h1
    cases q3 : f d1 with
    | none => rw [q3] at h1; exact h1.elim
    | some out =>
      rw [q3] at h1
      exact ho G w1 st1 σ H1 v1 d1 out Q W R1 (R1.read x1 q1) q3 h1
theorem de_bin {op : Operator} {r : R2} {pos : Pos} (hr : OpR X (binaryOp op) r) (ho : OpS T X.K r f) (ha : DE X T a fa) (hb : DE X T b fb) : DE X T (.BinOp a op b pos) (e2 f fa fb) :=
  PE.imp (pe_op hr ha hb) fun _ _ _ h => tOp_of ho h
theorem de_un {op : UnaryOp} {r : V → Hp → VK → Prop} {f : D → Option Rv} {pos : Pos} (hr : UnR X (unaryOp op) r) (ho : OpS1 T X.K r f) (ha : DE X T a fa) : DE X T (.UnaryOp op a pos) (e1 f fa) :=
  PE.imp (pe_un hr ha) fun _ _ _ h => tUn_of ho h
/-- a comparison -/
theorem de_cmp {op : CmpOp} {r : R2} {pos : Pos} (hr : OpR X (compareOp op) r) (ho : OpS T X.K r f) (ha : DE X T a fa) (hb : DE X T b fb) (hm : behindInMarks op b = false) : DE X T (.Compare a [op] [b] pos) (e2 f fa fb) :=
  PE.imp (pe_cmpR hr ha hb hm) fun _ _ _ h => tOp_of ho h
end
end Bv

namespace Bv
open PySem PySem.Spec PyProof.Rows L2

mutual
def py : D → PyData
  | .non => .none
  | .bl b => .bool b
  | .int i => .int i
  | .str x => .str x
  | .tup xs => .tuple (pyL xs)
  | .lst xs => .list (pyL xs)
  | .dic kvs => .dict (pyK kvs)
  | .dit kvs => .dict (pyK kvs)
  | .dmx kvs => .dict (pyK kvs)
  | .ins _ _ => .none
  | .exv _ _ => .none
  | .ob _ => .none
  | .cl _ => .none
  | .rol _ => .none
def pyL : List D → List PyData
  | [] => []
  | x :: xs => py x :: pyL xs
def pyK : List (D × D) → List (PyData × PyData)
  | [] => []
  | (k, v) :: r => (py k, py v) :: pyK r
end
mutual
/-- data that == compares: no dicts, no objects, no deeper than n -/
def flatD : Nat → D → Bool
  | _, .non => true
  | _, .bl _ => true
  | _, .int _ => true
  | _, .str x => PyData.strOk x
  | n, .tup xs => match n with
    | 0 => false
    | n + 1 => flatL n xs
  | n, .lst xs => match n with
    | 0 => false
    | n + 1 => flatL n xs
  | _, _ => false
def flatL : Nat → List D → Bool
  | _, [] => true
  | n, x :: xs => flatD n x && flatL n xs
end
mutual
theorem flatD_can : ∀ (n : Nat) (d : D), flatD n d = true → (py d).canLay0 = true ∧ (py d).depth ≤ n
  | n, .non, _ => ⟨rfl, by simp only [py, PyData.depth]; omega⟩
  | n, .bl _, _ => ⟨rfl, by simp only [py, PyData.depth]; omega⟩
  | n, .int _, _ => ⟨rfl, by simp only [py, PyData.depth]; omega⟩
  | n, .str x, h => ⟨by simpa only [py, PyData.canLay0, flatD] using h, by simp only [py, PyData.depth]; omega⟩
  | 0, .tup xs, h => by simp [flatD] at h
  | n + 1, .tup xs, h => by
    obtain ⟨h1, h2⟩ := flatL_can n xs (by simpa only [flatD] using h)
    exact ⟨by simpa only [py, PyData.canLay0] using h1, by simp only [py, PyData.depth]; omega⟩
  | 0, .lst xs, h => by simp [flatD] at h
  | n + 1, .lst xs, h => by
    obtain ⟨h1, h2⟩ := flatL_can n xs (by simpa only [flatD] using h)
    exact ⟨by simpa only [py, PyData.canLay0] using h1, by simp only [py, PyData.depth]; omega⟩
  | _, .dic _, h => by simp [flatD] at h
  | _, .dit _, h => by simp [flatD] at h
  | _, .dmx _, h => by simp [flatD] at h
  | _, .ins _ _, h => by simp [flatD] at h
  | _, .exv _ _, h => by simp [flatD] at h
  | _, .ob _, h => by simp [flatD] at h
  | _, .cl _, h => by simp [flatD] at h
  | _, .rol _, h => by simp [flatD] at h
theorem flatL_can : ∀ (n : Nat) (d : List D), flatL n d = true → PyData.canLayAll0 (pyL d) = true ∧ PyData.depthAll (pyL d) ≤ n
  | n, [], _ => ⟨rfl, by simp only [pyL, PyData.depthAll]; omega⟩
  | n, x :: xs, h => by
    simp only [flatL, Bool.and_eq_true] at h
    obtain ⟨h1, h2⟩ := flatD_can n x h.1
    obtain ⟨h3, h4⟩ := flatL_can n xs h.2
    exact ⟨by simp only [pyL, PyData.canLayAll0, h1, h3, Bool.and_self], by simp only [pyL, PyData.depthAll]; omega⟩
end
def okEq (d : D) : Bool := flatD 60 d
theorem okEq_shaped {d : D} (h : okEq d = true) : SeqAt.shaped (py d) = true := by
  obtain ⟨h1, h2⟩ := flatD_can 60 d h
  unfold SeqAt.shaped
  rw [h1, decide_eq_true (by omega : (py d).depth ≤ 64)]; rfl
section
variable {T : Tx} {K : PySem.W.Frag} {io : List Addr} {H : Hp}
mutual
theorem Rep.dp : ∀ {v : V} {d : D} {n : Nat}, Rep T K io H v d → flatD n d = true → Dp K H v (py d)
  | _, _, _, .non, _ => .non
  | _, _, _, .bl b, _ => .bl b
  | _, _, _, .int b, _ => .int b
  | _, _, _, .str b, _ => .str b
  | _, _, 0, .tup h r, q => by simp [flatD] at q
  | _, _, n + 1, .tup h r, q => by simp only [py]; exact .tup (SqT.of h) (RepL.dp r (by simpa only [flatD] using q))
  | _, _, 0, .lst h r, q => by simp [flatD] at q
  | _, _, n + 1, .lst h r, q => by simp only [py]; exact .lst (SqL.of h) (RepL.dp r (by simpa only [flatD] using q))
  | _, _, _, .dicK _ _, h => by simp [flatD] at h
  | _, _, _, .dicT _ _, h => by simp [flatD] at h
  | _, _, _, .ins _ _ _, h => by simp [flatD] at h
  | _, _, _, .exv _ _ _ _, h => by simp [flatD] at h
  | _, _, _, .ob _, h => by simp [flatD] at h
  | _, _, _, .cl _, h => by simp [flatD] at h
  | _, _, _, .rol _ _, h => by simp [flatD] at h
theorem RepL.dp : ∀ {v : List V} {d : List D} {n : Nat}, RepL T K io H v d → flatL n d = true → DpAll K H v (pyL d)
  | _, _, _, .nil, _ => .nil
  | _, _, _, .cons h r, q => by
    simp only [flatL, Bool.and_eq_true] at q
    simp only [pyL]
    exact .cons (Rep.dp h q.1) (RepL.dp r q.2)
end
end
section
variable {T : Tx} {K : PySem.W.Frag} {G : Hp} {w : Wd} {st : S} {σ : L2.St} {H : Hp} {v : V} {d : D}
/-- what the parts need: the top in H, the parts in the frozen heap -/
theorem SR.up (R : SR T K G w st σ H) {v : V} {d : D} (h : RepW T K w v d) : Rep T K w.io H v d := Rep.mono R.exf (Ob.refl _) h
theorem SR.upL (R : SR T K G w st σ H) {v : List V} {d : List D} (h : RepLW T K w v d) : RepL T K w.io H v d := RepL.mono R.exf (Ob.refl _) h
theorem Rep1.lst (R : SR T K G w st σ H) {ds : List D} (h : Rep1 T K w H v (.lst ds)) : ∃ a xs, v = .ref a ∧ H a = some (.lst xs) ∧ RepLW T K w xs ds := by
  rcases h with h | ⟨a, rfl, xs, h, r⟩
  · cases h with
    | lst h r => exact ⟨_, _, rfl, R.exf _ _ h, r⟩
  · exact ⟨a, xs, rfl, h, r⟩
theorem Rep1.tup (R : SR T K G w st σ H) {ds : List D} (h : Rep1 T K w H v (.tup ds)) : ∃ a xs, v = .ref a ∧ H a = some (.tup xs) ∧ RepLW T K w xs ds := by
  rcases h with h | ⟨a, rfl, h⟩
  · cases h with
    | tup h r => exact ⟨_, _, rfl, R.exf _ _ h, r⟩
  · exact h.elim
theorem Rep1.rol (R : SR T K G w st σ H) {ds : List D} (h : Rep1 T K w H v (.rol ds)) : ∃ a xs, v = .ref a ∧ SqL K H a xs ∧ RepLW T K w xs ds := by
  rcases h with h | ⟨a, rfl, h⟩
  · cases h with
    | rol h r => exact ⟨_, _, rfl, R.exf.seqL h, r⟩
  · exact h.elim
theorem Rep1.int {i : Int} (h : Rep1 T K w H v (.int i)) : v = .int i := by
  rcases h with h | ⟨a, rfl, h⟩
  · cases h; rfl
  · exact h.elim
theorem Rep1.str {i : Str} (h : Rep1 T K w H v (.str i)) : v = .str i := by
  rcases h with h | ⟨a, rfl, h⟩
  · cases h; rfl
  · exact h.elim
theorem Rep1.bl {i : Bool} (h : Rep1 T K w H v (.bl i)) : v = .bl i := by
  rcases h with h | ⟨a, rfl, h⟩
  · cases h; rfl
  · exact h.elim
theorem Rep1.non (h : Rep1 T K w H v .non) : v = .non := by
  rcases h with h | ⟨a, rfl, h⟩
  · cases h; rfl
  · exact h.elim
theorem Rep1.dp (R : SR T K G w st σ H) {n : Nat} (h : Rep1 T K w H v d) (q : flatD n d = true) : Dp K H v (py d) := by
  rcases h with h | ⟨a, rfl, h⟩
  · exact Rep.dp (R.up h) q
  · cases d with
    | lst ds =>
      obtain ⟨xs, h, r⟩ := h
      exact Rep.dp (Rep.lst (T := T) (io := w.io) h (R.upL r)) q
    | dic _ => simp [flatD] at q
    | dit _ => simp [flatD] at q
    | dmx _ => simp [flatD] at q
    | ins _ _ => simp [flatD] at q
    | _ => exact h.elim
theorem RepL.len {io : List Addr} : ∀ {v : List V} {d : List D}, RepL T K io H v d → v.length = d.length
  | _, _, .nil => rfl
  | _, _, .cons _ r => by rw [List.length_cons, List.length_cons, RepL.len r]
theorem RepL.append {io : List Addr} : ∀ {v v' : List V} {d d' : List D}, RepL T K io H v d → RepL T K io H v' d' → RepL T K io H (v ++ v') (d ++ d')
  | _, _, _, _, .nil, r => r
  | _, _, _, _, .cons h r, r' => .cons h (RepL.append r r')
theorem RepL.get {io : List Addr} : ∀ {v : List V} {d : List D} {i : Nat} {x : D}, RepL T K io H v d → d[i]? = some x → ∃ y, v[i]? = some y ∧ Rep T K io H y x
  | _, _, _, _, .nil, e => by simp at e
  | _, _, 0, _, .cons h _, e => by simp at e; subst e; exact ⟨_, rfl, h⟩
  | _, _, i + 1, x, .cons _ r, e => by
    obtain ⟨y, h1, h2⟩ := RepL.get (i := i) (x := x) r (by simpa using e)
    exact ⟨y, by simpa using h1, h2⟩
theorem RepL.getV {io : List Addr} : ∀ {v : List V} {d : List D} {i : Nat} {y : V}, RepL T K io H v d → v[i]? = some y → ∃ x, d[i]? = some x ∧ Rep T K io H y x
  | _, _, _, _, .nil, e => by simp at e
  | _, _, 0, _, .cons h _, e => by simp at e; subst e; exact ⟨_, rfl, h⟩
  | _, _, i + 1, x, .cons _ r, e => by
    obtain ⟨y, h1, h2⟩ := RepL.getV (i := i) (y := x) r (by simpa using e)
    exact ⟨y, by simpa using h1, h2⟩
theorem RepL.set {io : List Addr} {y : V} {x : D} (hx : Rep T K io H y x) : ∀ {v : List V} {d : List D} (i : Nat), RepL T K io H v d → RepL T K io H (v.set i y) (d.set i x)
  | _, _, _, .nil => .nil
  | _, _, 0, .cons _ r => .cons hx r
  | _, _, i + 1, .cons h r => .cons h (RepL.set hx i r)
theorem RepL.take {io : List Addr} : ∀ {v : List V} {d : List D} (n : Nat), RepL T K io H v d → RepL T K io H (v.take n) (d.take n)
  | _, _, 0, _ => .nil
  | _, _, _ + 1, .nil => .nil
  | _, _, n + 1, .cons h r => .cons h (RepL.take n r)
theorem RepL.drop {io : List Addr} : ∀ {v : List V} {d : List D} (n : Nat), RepL T K io H v d → RepL T K io H (v.drop n) (d.drop n)
  | _, _, 0, r => r
  | _, _, _ + 1, .nil => .nil
  | _, _, n + 1, .cons _ r => RepL.drop n r
theorem RepL.reverse {io : List Addr} : ∀ {v : List V} {d : List D}, RepL T K io H v d → RepL T K io H v.reverse d.reverse
  | _, _, .nil => .nil
  | _, _, .cons h r => by
    rw [List.reverse_cons, List.reverse_cons]
    exact RepL.append (RepL.reverse r) (.cons h .nil)
theorem RepL.rep {io : List Addr} {v : List V} {d : List D} (h : RepL T K io H v d) : ∀ n : Nat, RepL T K io H (List.replicate n v).flatten (List.replicate n d).flatten
  | 0 => .nil
  | n + 1 => by
    rw [List.replicate_succ, List.replicate_succ, List.flatten_cons, List.flatten_cons]
    exact RepL.append h (RepL.rep h n)
theorem RepL.isNil {io : List Addr} {v : List V} {d : List D} (h : RepL T K io H v d) : v = [] ↔ d = [] := by
  cases h <;> simp
end
end Bv

namespace Bv
open PySem PySem.Spec PyProof.Rows L2

def mulOk (i j : Int) : Bool := decide (i.natAbs < 2 ^ 64) || decide (j.natAbs < 2 ^ 64) || decide (i.natAbs.log2 + j.natAbs.log2 < 1000000)
def divOk (j : Int) : Bool := decide (0 < j) && decide (j.natAbs.log2 < 9000)
def powOk (i n : Int) : Bool := decide (0 ≤ n) && decide ((Builtin.Int.intBits i : Int) * n ≤ 2 ^ 27)
def addD : D → D → Option Rv
  | .int i, .int j => some (.val (.int (i + j)))
  | .str x, .str y => if x.length + y.length ≤ sizeLine then some (.val (.str (x ++ y))) else none
  | .lst xs, .lst ys => if xs.length + ys.length ≤ sizeLine then some (.fresh (.lst (xs ++ ys))) else none
  | .tup xs, .tup ys => if xs.length + ys.length ≤ sizeLine then some (.val (.tup (xs ++ ys))) else none
  | _, _ => none
def subD : D → D → Option Rv
  | .int i, .int j => some (.val (.int (i - j)))
  | _, _ => none
def mulD : D → D → Option Rv
  | .int i, .int j => if mulOk i j then some (.val (.int (i * j))) else none
  | .lst xs, .int k => if -(2 ^ 63) ≤ k ∧ k < 2 ^ 63 ∧ xs.length * k.toNat ≤ sizeLine then some (.fresh (.lst (List.replicate k.toNat xs).flatten)) else none
  | _, _ => none
def fdivD : D → D → Option Rv
  | .int i, .int j => if divOk j then some (.val (.int (i / j))) else none
  | _, _ => none
def modD : D → D → Option Rv
  | .int i, .int j => if 0 < j then some (.val (.int (i % j))) else none
  | _, _ => none
def powD : D → D → Option Rv
  | .int i, .int j => if powOk i j then some (.val (.int (i ^ j.toNat))) else none
  | _, _ => none
def negD : D → Option Rv
  | .int i => some (.val (.int (-i)))
  | _ => none
def ltD : D → D → Option Rv
  | .int i, .int j => some (.val (.bl (decide (i < j))))
  | .str x, .str y => some (.val (.bl (decide (x.cps.toList < y.cps.toList))))
  | _, _ => none
def leD : D → D → Option Rv
  | .int i, .int j => some (.val (.bl (decide (i ≤ j))))
  | .str x, .str y => some (.val (.bl (!decide (y.cps.toList < x.cps.toList))))
  | _, _ => none
def gtD : D → D → Option Rv
  | .int i, .int j => some (.val (.bl (decide (j < i))))
  | .str x, .str y => some (.val (.bl (decide (y.cps.toList < x.cps.toList))))
  | _, _ => none
def geD : D → D → Option Rv
  | .int i, .int j => some (.val (.bl (decide (j ≤ i))))
  | .str x, .str y => some (.val (.bl (!decide (x.cps.toList < y.cps.toList))))
  | _, _ => none
def eqD (a b : D) : Option Rv := if okEq a = true ∧ okEq b = true then some (.val (.bl (PyData.eqv (py a) (py b)))) else none
def neD (a b : D) : Option Rv := if okEq a = true ∧ okEq b = true then some (.val (.bl (!PyData.eqv (py a) (py b)))) else none
def isN : D → Bool
  | .non => true
  | _ => false
def isNotD (a b : D) : Option Rv := match b with
  | .non => some (.val (.bl (!isN a)))
  | _ => none
def inStr (x y : Str) : Bool := !(Builtin.Str.occurrences y x 0 y.length 1).isEmpty
def atomD : D → Bool
  | .non => true
  | .bl _ => true
  | .int _ => true
  | .str x => PyData.strOk x
  | _ => false
def inD : D → D → Option Rv
  | .str x, .str y => match x.cps.toList with
    | [c] => some (.val (.bl (decide (c ∈ y.cps.toList))))
    | _ => some (.val (.bl (inStr x y)))
  | x, .lst ys => if okEq x = true ∧ okEq (.lst ys) = true then some (.val (.bl (ys.any fun z => PyData.eqv (py z) (py x)))) else none
  | x, .tup ys => if atomD x = true ∧ ys.all atomD = true then some (.val (.bl (ys.any fun z => PyData.eqv (py z) (py x)))) else none
  | _, _ => none
section
variable {X : Cx} {T : Tx} {K : PySem.W.Frag}
theorem OpS.or {r r' : R2} {f : D → D → Option Rv} (h : ∀ G w st σ H x y d1 d2 out Q W, SR T K G w st σ H → Rep1 T K w H x d1 → Rep1 T K w H y d2 → f d1 d2 = some out → PostE T K G w σ (.ok out st) Q W → r x y H Q ∨ r' x y H Q) :
    OpS T K (fun x y H Q => r x y H Q ∨ r' x y H Q) f := h

theorem ops_II {C : Int → Int → Prop} {g : Int → Int → D} {gV : Int → Int → V} (hg : ∀ i j (w : Wd), RepW T K w (gV i j) (g i j)) {f : D → D → Option Rv} (hf : ∀ a b out, f a b = some out → ∃ i j, a = .int i ∧ b = .int j ∧ C i j ∧ out = .val (g i j)) : OpS T K (rI C gV) f := by
  intro G w st σ H x y d1 d2 out Q W R h1 h2 e p
  obtain ⟨i, j, rfl, rfl, c, rfl⟩ := hf _ _ _ e
  exact ⟨i, j, h1.int, h2.int, c, p.val R (hg i j w)⟩
theorem op_powW : OpR X (binaryOp .Pow) (rI (fun i n => 0 ≤ n ∧ (Builtin.Int.intBits i : Int) * n ≤ 2 ^ 27) fun i j => .int (i ^ j.toNat)) := opI fun _ _ _ _ _ _ _ hc q => pow_int hc.1 hc.2 q
theorem de_sub {a b : Expr} {fa fb : S → Res} {pos : Pos} (ha : DE X T a fa) (hb : DE X T b fb) : DE X T (.BinOp a .Sub b pos) (e2 subD fa fb) := by
  refine de_bin (r := rI (fun _ _ => True) fun i j => .int (i - j)) (opI fun i j _ _ _ _ _ _ q => sub_int q) (ops_II (g := fun i j => .int (i - j)) (fun i j w => .int _) fun a b out e => ?_) ha hb
  cases a <;> cases b <;> simp only [subD] at e <;> cases e
  exact ⟨_, _, rfl, rfl, True.intro, rfl⟩
theorem de_fdiv {a b : Expr} {fa fb : S → Res} {pos : Pos} (ha : DE X T a fa) (hb : DE X T b fb) : DE X T (.BinOp a .FloorDiv b pos) (e2 fdivD fa fb) := by
  refine de_bin op_fdivW (ops_II (g := fun i j => .int (i / j)) (fun i j w => .int _) fun a b out e => ?_) ha hb
  cases a <;> cases b <;> simp only [fdivD] at e <;> try cases e
  split at e
  · rename_i i j h
    unfold divOk at h
    rw [Bool.and_eq_true, decide_eq_true_eq, decide_eq_true_eq] at h
    cases e
    exact ⟨_, _, rfl, rfl, h, rfl⟩
  · cases e
theorem de_mod {a b : Expr} {fa fb : S → Res} {pos : Pos} (ha : DE X T a fa) (hb : DE X T b fb) : DE X T (.BinOp a .Mod b pos) (e2 modD fa fb) := by
  refine de_bin op_mod (ops_II (g := fun i j => .int (i % j)) (fun i j w => .int _) fun a b out e => ?_) ha hb
  cases a <;> cases b <;> simp only [modD] at e <;> try cases e
  split at e
  · cases e
    exact ⟨_, _, rfl, rfl, by assumption, rfl⟩
  · cases e
theorem de_pow {a b : Expr} {fa fb : S → Res} {pos : Pos} (ha : DE X T a fa) (hb : DE X T b fb) : DE X T (.BinOp a .Pow b pos) (e2 powD fa fb) := by
  refine de_bin op_powW (ops_II (g := fun i j => .int (i ^ j.toNat)) (fun i j w => .int _) fun a b out e => ?_) ha hb
  cases a <;> cases b <;> simp only [powD] at e <;> try cases e
  split at e
  · rename_i i j h
    unfold powOk at h
    rw [Bool.and_eq_true, decide_eq_true_eq, decide_eq_true_eq] at h
    cases e
    exact ⟨_, _, rfl, rfl, h, rfl⟩
  · cases e
theorem de_neg {a : Expr} {fa : S → Res} {pos : Pos} (ha : DE X T a fa) : DE X T (.UnaryOp .USub a pos) (e1 negD fa) := by
  refine de_un un_neg (fun G w st σ H x d1 out Q W R h1 e p => ?_) ha
  cases d1 <;> simp only [negD] at e <;> cases e
  exact ⟨_, h1.int, p.val R (.int _)⟩

def rAddU (K : PySem.W.Frag) : R2 := fun x y H Q => ((rI0 fun i j => .int (i + j)) x y H Q ∨ (∃ i j, x = .str i ∧ y = .str j ∧ i.length + j.length ≤ sizeLine ∧ Q (.str (i ++ j)) H)) ∨ (rCat x y H Q ∨ rCatA K x y H Q)
theorem op_addU : OpR X (binaryOp .Add) (rAddU X.K) := (op_add.or op_add_str).or (op_cat.or op_catA)
theorem de_add {a b : Expr} {fa fb : S → Res} {pos : Pos} (ha : DE X T a fa) (hb : DE X T b fb) : DE X T (.BinOp a .Add b pos) (e2 addD fa fb) := by
  refine de_bin op_addU (fun G w st σ H x y d1 d2 out Q W R h1 h2 e p => ?_) ha hb
  cases d1 <;> cases d2 <;> simp only [addD] at e <;> try cases e
  · exact .inl (.inl ⟨_, _, h1.int, h2.int, p.val R (.int _)⟩)
  · split at e
    · cases e
      exact .inl (.inr ⟨_, _, h1.str, h2.str, by assumption, p.val R (.str _)⟩)
    · cases e
  · split at e
    · rename_i xs ys hz
      cases e
      obtain ⟨a1, us, rfl, g1, r1⟩ := h1.tup R
      obtain ⟨a2, vs, rfl, g2, r2⟩ := h2.tup R
      refine .inr (.inr ⟨a1, a2, us, vs, rfl, rfl, SqT.of g1, SqT.of g2, by rw [r1.len, r2.len]; exact hz, fun e => ?_, fun e1 e => ?_, fun e1 e2 q hq => ?_⟩)
      · have e' := (RepL.isNil (T := T) (K := X.K) r1).mp e
        subst e'
        rcases h2 with h2 | ⟨_, _, h2⟩
        · exact p.val R h2
        · exact h2.elim
      · have e' := (RepL.isNil (T := T) (K := X.K) r2).mp e
        subst e'
        rw [List.append_nil] at p
        rcases h1 with h1 | ⟨_, _, h1⟩
        · exact p.val R h1
        · exact h1.elim
      · have R2 := R.new (o := .tup (us ++ vs)) hq
        obtain ⟨k1, k2, k3, k4⟩ := R.free hq
        obtain ⟨le, R3⟩ := R2.freeze k1 k2 k3 k4 upd_same
        exact p _ _ _ le R3 (.tup upd_same (RepL.mono le.1 le.2 (RepL.append (T := T) (K := X.K) r1 r2)))
    · cases e
  · split at e
    · rename_i xs ys hz
      cases e
      obtain ⟨a1, us, rfl, g1, r1⟩ := h1.lst R
      obtain ⟨a2, vs, rfl, g2, r2⟩ := h2.lst R
      exact .inr (.inl ⟨a1, a2, us, vs, rfl, rfl, g1, g2, by rw [r1.len, r2.len]; exact hz, fun q hq => p.fresh R hq ⟨_, upd_same, RepL.append (T := T) (K := X.K) r1 r2⟩⟩)
    · cases e
theorem de_mul {a b : Expr} {fa fb : S → Res} {pos : Pos} (ha : DE X T a fa) (hb : DE X T b fb) : DE X T (.BinOp a .Mult b pos) (e2 mulD fa fb) := by
  refine de_bin ((op_mul.or op_mulW).or op_rep) (fun G w st σ H x y d1 d2 out Q W R h1 h2 e p => ?_) ha hb
  cases d1 <;> cases d2 <;> simp only [mulD] at e <;> try cases e
  · split at e
    · rename_i i j hz
      cases e
      unfold mulOk at hz
      simp only [Bool.or_eq_true, decide_eq_true_eq] at hz
      rcases hz with hz | hz
      · refine .inl (.inl ⟨i, j, h1.int, h2.int, ?_, p.val R (.int _)⟩)
        rcases hz with hz | hz
        · exact .inl (by omega)
        · exact .inr (by omega)
      · exact .inl (.inr ⟨i, j, h1.int, h2.int, hz, p.val R (.int _)⟩)
    · cases e
  · split at e
    · rename_i xs k hz
      cases e
      obtain ⟨a1, us, rfl, g1, r1⟩ := h1.lst R
      exact .inr ⟨a1, k, us, rfl, h2.int, g1, hz.1, hz.2.1, by rw [r1.len]; exact hz.2.2, fun q hq => p.fresh R hq ⟨_, upd_same, RepL.rep (T := T) (K := X.K) r1 _⟩⟩
    · cases e

def rCmpI (g : Int → Int → Bool) (gs : Str → Str → Bool) : R2 := fun x y H Q => (rI0 fun i j => .bl (g i j)) x y H Q ∨ ∃ i j, x = .str i ∧ y = .str j ∧ Q (.bl (gs i j)) H
theorem ops_cmp {g : Int → Int → Bool} {gs : Str → Str → Bool} {f : D → D → Option Rv} (hi : ∀ a b out, f a b = some out → (∃ i j, a = .int i ∧ b = .int j ∧ out = .val (.bl (g i j))) ∨ ∃ i j, a = .str i ∧ b = .str j ∧ out = .val (.bl (gs i j))) : OpS T K (rCmpI g gs) f := by
  intro G w st σ H x y d1 d2 out Q W R h1 h2 e p
  rcases hi _ _ _ e with ⟨i, j, rfl, rfl, rfl⟩ | ⟨i, j, rfl, rfl, rfl⟩
  · exact .inl ⟨i, j, h1.int, h2.int, p.val R (.bl _)⟩
  · exact .inr ⟨i, j, h1.str, h2.str, p.val R (.bl _)⟩
theorem op_ltU : OpR X (compareOp .Lt) (rCmpI (fun i j => decide (i < j)) fun x y => decide (x.cps.toList < y.cps.toList)) := op_lt.or op_lt_str
theorem op_leU : OpR X (compareOp .LtE) (rCmpI (fun i j => decide (i ≤ j)) fun x y => !decide (y.cps.toList < x.cps.toList)) := op_le.or op_le_str
theorem op_gtU : OpR X (compareOp .Gt) (rCmpI (fun i j => decide (j < i)) fun x y => decide (y.cps.toList < x.cps.toList)) := op_gt.or op_gt_str
theorem op_geU : OpR X (compareOp .GtE) (rCmpI (fun i j => decide (j ≤ i)) fun x y => !decide (x.cps.toList < y.cps.toList)) := op_ge.or op_ge_str
theorem s_lt : OpS T K (rCmpI (fun i j => decide (i < j)) fun x y => decide (x.cps.toList < y.cps.toList)) ltD := ops_cmp fun a b out e => by
  cases a <;> cases b <;> simp only [ltD] at e <;> cases e
  · exact .inl ⟨_, _, rfl, rfl, rfl⟩
  · exact .inr ⟨_, _, rfl, rfl, rfl⟩
theorem s_le : OpS T K (rCmpI (fun i j => decide (i ≤ j)) fun x y => !decide (y.cps.toList < x.cps.toList)) leD := ops_cmp fun a b out e => by
  cases a <;> cases b <;> simp only [leD] at e <;> cases e
  · exact .inl ⟨_, _, rfl, rfl, rfl⟩
  · exact .inr ⟨_, _, rfl, rfl, rfl⟩
theorem s_gt : OpS T K (rCmpI (fun i j => decide (j < i)) fun x y => decide (y.cps.toList < x.cps.toList)) gtD := ops_cmp fun a b out e => by
  cases a <;> cases b <;> simp only [gtD] at e <;> cases e
  · exact .inl ⟨_, _, rfl, rfl, rfl⟩
  · exact .inr ⟨_, _, rfl, rfl, rfl⟩
theorem s_ge : OpS T K (rCmpI (fun i j => decide (j ≤ i)) fun x y => !decide (x.cps.toList < y.cps.toList)) geD := ops_cmp fun a b out e => by
  cases a <;> cases b <;> simp only [geD] at e <;> cases e
  · exact .inl ⟨_, _, rfl, rfl, rfl⟩
  · exact .inr ⟨_, _, rfl, rfl, rfl⟩
theorem s_eq : OpS T K (rEqD K) eqD := by
  intro G w st σ H x y d1 d2 out Q W R h1 h2 e p
  unfold eqD at e
  split at e
  · rename_i h
    cases e
    exact ⟨_, _, h1.dp R h.1, h2.dp R h.2, okEq_shaped h.1, okEq_shaped h.2, p.val R (.bl _)⟩
  · cases e
theorem s_ne : OpS T K (rNeD K) neD := by
  intro G w st σ H x y d1 d2 out Q W R h1 h2 e p
  unfold neD at e
  split at e
  · rename_i h
    cases e
    exact ⟨_, _, h1.dp R h.1, h2.dp R h.2, okEq_shaped h.1, okEq_shaped h.2, p.val R (.bl _)⟩
  · cases e
theorem isN_V {w : Wd} {H : Hp} {v : V} {d : D} (h : Rep1 T K w H v d) : decide (v = .non) = isN d := by
  cases d with
  | non => rw [h.non]; rfl
  | _ =>
    refine decide_eq_false fun e => ?_
    subst e
    rcases h with h | ⟨_, h, _⟩
    · cases h
    · cases h
theorem s_isNot : OpS T K (fun x y H Q => y = .non ∧ Q (.bl (!decide (x = .non))) H) isNotD := by
  intro G w st σ H x y d1 d2 out Q W R h1 h2 e p
  cases d2 <;> simp only [isNotD] at e <;> cases e
  exact ⟨h2.non, by rw [isN_V h1]; exact p.val R (.bl _)⟩

theorem atom_V {w : Wd} {H : Hp} {v : V} {d : D} (h : Rep1 T K w H v d) (a : atomD d = true) : flatV v = true := by
  cases d <;> simp only [atomD] at a <;> try cases a
  · rw [h.non]; rfl
  · rw [h.bl]; rfl
  · rw [h.int]; rfl
  · rw [h.str]; rfl
theorem atom_eq {w w' : Wd} {H H' : Hp} {u v : V} {c d : D} (h : Rep1 T K w H v d) (h' : Rep1 T K w' H' u c) (a : atomD d = true) (b : atomD c = true) : eqV u v = PyData.eqv (py c) (py d) := by
  cases d <;> simp only [atomD] at a <;> try cases a
  all_goals (cases c <;> simp only [atomD] at b <;> try cases b)
  all_goals
    first | rw [h.non] | rw [h.bl] | rw [h.int] | rw [h.str]
    first | rw [h'.non] | rw [h'.bl] | rw [h'.int] | rw [h'.str]
    simp only [py, PyData.eqv, eqV]
theorem in_V {w : Wd} {H : Hp} {v : V} {d : D} (h : Rep1 T K w H v d) (a : atomD d = true) : ∀ {xs : List V} {ds : List D}, RepL T K w.io w.Hf xs ds → ds.all atomD = true → xs.all flatV = true ∧ inV v xs = ds.any fun z => PyData.eqv (py z) (py d)
  | _, _, .nil, _ => ⟨rfl, rfl⟩
  | _, _, .cons r rs, q => by
    rw [List.all_cons, Bool.and_eq_true] at q
    obtain ⟨h1, h2⟩ := in_V h a rs q.2
    refine ⟨by rw [List.all_cons, atom_V (H := H) (.inl r) q.1, h1]; rfl, ?_⟩
    unfold inV at h2 ⊢
    rw [List.any_cons, List.any_cons, h2, atom_eq h (Rep1.of (H := H) r) a q.1]
def rInU (K : PySem.W.Frag) : R2 := fun x y H Q => ((∃ (c : Nat) (z : Str), x = .str ⟨#[c]⟩ ∧ y = .str z ∧ Q (.bl (decide (c ∈ z.cps.toList))) H) ∨ ∃ i j, x = .str i ∧ y = .str j ∧ Q (.bl (!(Builtin.Str.occurrences j i 0 j.length 1).isEmpty)) H) ∨ (rInD K x y H Q ∨ rIn K false x y H Q)
theorem op_inU (hu : X.A.units + 65 < cLine) : OpR X (compareOp .In) (rInU X.K) := (op_in_sign.or op_in_str).or ((op_inD hu).or op_in_seq)
theorem any_py : ∀ (ys : List D) (d : D), (pyL ys).any (fun z => PyData.eqv z (py d)) = ys.any fun z => PyData.eqv (py z) (py d)
  | [], _ => rfl
  | y :: ys, d => by rw [pyL, List.any_cons, List.any_cons, any_py ys d]
theorem sign_of {x : Str} {c : Nat} (h : x.cps.toList = [c]) : x = ⟨#[c]⟩ := by
  obtain ⟨⟨l⟩⟩ := x
  have h' : l = [c] := h
  rw [h']
theorem s_in : OpS T K (rInU K) inD := by
  intro G w st σ H x y d1 d2 out Q W R h1 h2 e p
  have lst : ∀ {ys : List D}, d2 = .lst ys → (if okEq d1 = true ∧ okEq (.lst ys) = true then some (Rv.val (.bl (ys.any fun z => PyData.eqv (py z) (py d1)))) else none) = some out → rInU K x y H Q := fun {ys} e1 e7 => by
    subst e1
    split at e7
    · rename_i h
      cases e7
      refine .inr (.inl ⟨_, pyL ys, h1.dp R h.1, ?_, okEq_shaped h.1, ?_, by rw [any_py]; exact p.val R (.bl _)⟩)
      · simpa only [py] using h2.dp R h.2
      · simpa only [py] using okEq_shaped h.2
    · cases e7
  have tup : ∀ {ys : List D}, d2 = .tup ys → (if atomD d1 = true ∧ ys.all atomD = true then some (Rv.val (.bl (ys.any fun z => PyData.eqv (py z) (py d1)))) else none) = some out → rInU K x y H Q := fun {ys} e1 e7 => by
    subst e1
    split at e7
    · rename_i h
      cases e7
      obtain ⟨a2, vs, rfl, g2, r2⟩ := h2.tup R
      obtain ⟨k1, k2⟩ := in_V h1 h.1 r2 h.2
      refine   .inr (.inr ⟨a2, vs, rfl, .inr (SqT.of g2), atom_V h1 h.1, k1, ?_⟩)
      show Q (.bl (inV x vs)) H
      rw [k2]
      exact p.val R (.bl _)
    · cases e7
  cases d2 with
  | lst ys => exact lst rfl (by cases d1 <;> simpa only [inD] using e)
  | tup ys => exact tup rfl (by cases d1 <;> simpa only [inD] using e)
  | str z =>
    cases d1 <;> simp only [inD] at e <;> try cases e
    rename_i s
    split at e
    · rename_i c hc
      cases e
      exact .inl (.inl ⟨c, z, by rw [h1.str, sign_of hc], h2.str, p.val R (.bl _)⟩)
    · cases e
      exact .inl (.inr ⟨s, z, h1.str, h2.str, p.val R (.bl _)⟩)
  | _ => cases d1 <;> simp only [inD] at e <;> cases e
end
end Bv

namespace Bv
open PySem PySem.Spec PyProof.Rows L2

def keyOf : D → Option Key
  | .int i => some (.inl i)
  | .str x => some (.inr x)
  | _ => none
def keysOf : List D → Option (List Key)
  | [] => some []
  | d :: ds => match keyOf d, keysOf ds with
    | some k, some ks => some (k :: ks)
    | _, _ => none
def kcode : D → Option (Sum Key (List Key))
  | .tup ds => (keysOf ds).map .inr
  | d => (keyOf d).map .inl
def lookC (es : List (D × D)) (c : Sum Key (List Key)) : Option D := match es with
  | [] => none
  | (k, v) :: r => if kcode k = some c then some v else lookC r c
theorem keyOf_kD (k : Key) : keyOf (kD k) = some k := by cases k <;> rfl
theorem keysOf_map : ∀ ks : List Key, keysOf (ks.map kD) = some ks
  | [] => rfl
  | k :: ks => by rw [List.map_cons, keysOf, keyOf_kD, keysOf_map ks]
theorem kcode_kD (k : Key) : kcode (kD k) = some (.inl k) := by cases k <;> rfl
theorem kcode_tD (ks : List Key) : kcode (tD ks) = some (.inr ks) := by
  show (keysOf (ks.map kD)).map Sum.inr = _
  rw [keysOf_map]; rfl
theorem kcode_inl {d : D} {k : Key} (h : kcode d = some (.inl k)) : d = kD k := by
  cases d <;> simp only [kcode, keyOf, Option.map_some, Option.map_none] at h <;> try cases h
  · rfl
  · rfl
  · rename_i xs
    cases q : keysOf xs with
    | none => rw [q] at h; cases h
    | some ks => rw [q] at h; cases h
theorem keysOf_some : ∀ {ds : List D} {ks : List Key}, keysOf ds = some ks → ds = ks.map kD
  | [], ks, h => by cases h; rfl
  | d :: ds, ks, h => by
    unfold keysOf at h
    cases q1 : keyOf d with
    | none => rw [q1] at h; cases h
    | some k =>
      cases q2 : keysOf ds with
      | none => rw [q1, q2] at h; cases h
      | some k2 =>
        rw [q1, q2] at h
        cases h
        rw [List.map_cons, keysOf_some q2]
        congr 1
        exact kcode_inl (show kcode d = some (.inl k) by cases d <;> simp only [keyOf] at q1 <;> cases q1 <;> rfl)
theorem kcode_inr {d : D} {ks : List Key} (h : kcode d = some (.inr ks)) : d = tD ks := by
  cases d with
  | tup xs =>
    simp only [kcode] at h
    cases q : keysOf xs with
    | none => rw [q] at h; cases h
    | some k2 =>
      rw [q] at h
      cases h
      unfold tD
      rw [keysOf_some q]
  | _ =>
    simp only [kcode, keyOf, Option.map_some, Option.map_none] at h
    cases h
section
variable {T : Tx} {K : PySem.W.Frag} {io : List Addr} {H : Hp}
theorem RepK.look : ∀ {kvs : List (Key × V)} {es : List (D × D)} (k : Key), RepK T K io H kvs es → match lookC es (.inl k) with
    | some d => ∃ v, valV kvs k = some v ∧ Rep T K io H v d
    | none => valV kvs k = none
  | _, _, k, .nil => rfl
  | _, _, k, .cons (k := k') (v := v) (vs := vs) (ds := ds) r rs => by
    have ih := RepK.look k rs
    unfold lookC
    rw [kcode_kD]
    by_cases e : k' = k
    · subst e
      rw [if_pos rfl]
      refine ⟨v, ?_, r⟩
      unfold valV; simp
    · rw [if_neg (fun z => e (by cases z; rfl))]
      have hv : valV ((k', v) :: vs) k = valV vs k := by
        unfold valV; simp [e]
      rw [hv]
      exact ih
theorem RepT.look : ∀ {kvs : List (List Key × V)} {es : List (D × D)} (k : List Key), RepT T K io H kvs es → match lookC es (.inr k) with
    | some d => ∃ v, valV kvs k = some v ∧ Rep T K io H v d
    | none => valV kvs k = none
  | _, _, k, .nil => rfl
  | _, _, k, .cons (k := k') (v := v) (vs := vs) (ds := ds) r rs => by
    have ih := RepT.look k rs
    unfold lookC
    rw [kcode_tD]
    by_cases e : k' = k
    · subst e
      rw [if_pos rfl]
      refine ⟨v, ?_, r⟩
      unfold valV; simp
    · rw [if_neg (fun z => e (by cases z; rfl))]
      have hv : valV ((k', v) :: vs) k = valV vs k := by
        unfold valV; simp [e]
      rw [hv]
      exact ih
end
section
variable {T : Tx} {K : PySem.W.Frag} {G : Hp} {w : Wd} {st : S} {σ : L2.St} {H : Hp} {v : V} {d : D}
theorem Rep1.dic (R : SR T K G w st σ H) {es : List (D × D)} (h : Rep1 T K w H v (.dic es)) : ∃ a kvs, v = .ref a ∧ H a = some (.dK kvs) ∧ RepK T K w.io w.Hf kvs es := by
  rcases h with h | ⟨a, rfl, kvs, h, r⟩
  · cases h with
    | dicK h r => exact ⟨_, _, rfl, R.exf _ _ h, r⟩
  · exact ⟨a, kvs, rfl, h, r⟩
theorem Rep1.dit (R : SR T K G w st σ H) {es : List (D × D)} (h : Rep1 T K w H v (.dit es)) : ∃ a kvs, v = .ref a ∧ H a = some (.dT kvs) ∧ RepT T K w.io w.Hf kvs es := by
  rcases h with h | ⟨a, rfl, kvs, h, r⟩
  · cases h with
    | dicT h r => exact ⟨_, _, rfl, R.exf _ _ h, r⟩
  · exact ⟨a, kvs, rfl, h, r⟩
theorem keys_V : ∀ {xs : List V} {ks : List Key}, RepL T K w.io w.Hf xs (ks.map kD) → xs = ks.map kV
  | [], [], _ => rfl
  | x :: xs, k :: ks, r => by
    rw [List.map_cons] at r
    cases r with
    | cons r1 r2 =>
      rw [List.map_cons, keys_V r2]
      congr 1
      cases k with
      | inl i => cases r1; rfl
      | inr i => cases r1; rfl
  | [], _ :: _, r => by rw [List.map_cons] at r; cases r
  | _ :: _, [], r => by cases r
theorem key_V {k : Key} {y : V} (hk : Rep1 T K w H y (kD k)) : y = kV k := by
  cases k with
  | inl i => exact hk.int
  | inr x => exact hk.str
/-- what a dict has at a key -/
def atD (d k : D) : Option (Option D) := match d, kcode k with
  | .dic es, some (.inl c) => some (lookC es (.inl c))
  | .dit es, some (.inr c) => some (lookC es (.inr c))
  | _, _ => none
def AtR (T : Tx) (K : PySem.W.Frag) (w : Wd) (H : Hp) (a : Addr) (y : V) : Option D → Prop
  | some r => ∃ z, DGet H a y (some z) ∧ RepW T K w z r
  | none => DGet H a y none
theorem atD_cases {d k : D} {o : Option D} (e : atD d k = some o) : (∃ es c, d = .dic es ∧ kcode k = some (.inl c) ∧ lookC es (.inl c) = o) ∨ ∃ es c, d = .dit es ∧ kcode k = some (.inr c) ∧ lookC es (.inr c) = o := by
  unfold atD at e
  cases q : kcode k with
  | none => rw [q] at e; cases d <;> cases e
  | some c =>
    rw [q] at e
    cases c with
    | inl c =>
      cases d <;> dsimp only at e <;> try cases e
      exact .inl ⟨_, _, rfl, rfl, rfl⟩
    | inr c =>
      cases d <;> dsimp only at e <;> try cases e
      exact .inr ⟨_, _, rfl, rfl, rfl⟩
theorem Rep1.at (R : SR T K G w st σ H) {k : D} {y : V} {o : Option D} (h : Rep1 T K w H v d) (hk : Rep1 T K w H y k) (e : atD d k = some o) :
    ∃ a, v = .ref a ∧ AtR T K w H a y o := by
  have e9 := atD_cases e
  clear e
  rcases e9 with ⟨es, c, rfl, hc, e8⟩ | ⟨es, c, rfl, hc, e8⟩
  · have := kcode_inl hc
    subst this
    have ey := key_V hk
    subst ey
    obtain ⟨a, kvs, rfl, h, r⟩ := h.dic R
    refine ⟨a, rfl, ?_⟩
    have q := RepK.look c r
    subst e8
    cases ql : lookC es (.inl c) with
    | none => rw [ql] at q; have q : valV kvs c = none := q; show DGet H a (kV c) none; exact q ▸ DGet.k h
    | some d => rw [ql] at q; obtain ⟨z, h1, h2⟩ := q; exact ⟨z, h1 ▸ DGet.k h, h2⟩
  · have := kcode_inr hc
    subst this
    obtain ⟨b, xs, rfl, hb, rb⟩ := hk.tup R
    have ex := keys_V rb
    subst ex
    obtain ⟨a, kvs, rfl, h, r⟩ := h.dit R
    refine ⟨a, rfl, ?_⟩
    have q := RepT.look c r
    subst e8
    cases ql : lookC es (.inr c) with
    | none => rw [ql] at q; have q : valV kvs c = none := q; show DGet H a (.ref b) none; exact q ▸ DGet.t h hb
    | some d => rw [ql] at q; obtain ⟨z, h1, h2⟩ := q; exact ⟨z, h1 ▸ DGet.t h hb, h2⟩
end

def signAt (z : Str) (i : Int) : Option Rv := (atI z.cps.toList i).map fun c => .val (.str ⟨#[c]⟩)
def ixD : D → D → Option Rv
  | .lst xs, .int i => (atI xs i).map .val
  | .rol xs, .int i => (atI xs i).map .val
  | .tup xs, .int i => (atI xs i).map .val
  | .str z, .int i => if z.length ≤ sizeLine then signAt z i else none
  | d, k => match atD d k with
    | some (some r) => some (.val r)
    | _ => none
section
variable {X : Cx} {T : Tx} {K : PySem.W.Frag} {a b : Expr} {fa fb : S → Res} {pos : Pos}
theorem RepL.at {io : List Addr} {H : Hp} {xs : List V} {ds : List D} {i : Int} {x : D} (r : RepL T K io H xs ds) (h : atI ds i = some x) : ∃ v, atI xs i = some v ∧ Rep T K io H v x := by
  unfold atI at h ⊢
  rw [r.len]
  cases q : ixN ds.length i with
  | none => rw [q] at h; cases h
  | some j =>
    rw [q] at h
    exact r.get h
theorem PE.orE {e : Expr} {t t' : TE} (h : PE X e t) (h' : PE X e t') : PE X e (fun σ H Q => t σ H Q ∨ t' σ H Q) :=
  ⟨fun pins s σ H Q I q => q.elim (h.run pins s σ H Q I) (h'.run pins s σ H Q I)⟩
theorem de_ix (ha : DE X T a fa) (hb : DE X T b fb) (hs : PlainIx b := by exact fun _ _ => rfl) : DE X T (.Subscript a b pos) (e2 (fun x y => match x with
    | .dic _ => none
    | .dit _ => none
    | .dmx _ => none
    | _ => ixD x y) fa fb) :=
  PE.imp (pe_ix (ix_list.or (ix_tup.or ix_str)) ha hb hs) fun _ _ _ h => tOp_of (fun G w st σ H x y d1 d2 out Q W R h1 h2 e p => by
    cases d1 with
    | lst xs =>
      cases d2 <;> simp only [ixD, atD] at e <;> try cases e
      rename_i i
      cases q : atI xs i with
      | none => rw [q] at e; cases e
      | some z =>
        rw [q] at e; cases e
        obtain ⟨a1, us, rfl, g1, r1⟩ := h1.lst R
        obtain ⟨v, h3, h4⟩ := RepL.at r1 q
        exact .inl ⟨a1, us, i, v, rfl, h2.int, SqL.of g1, h3, p.val R h4⟩
    | rol xs =>
      cases d2 <;> simp only [ixD, atD] at e <;> try cases e
      rename_i i
      cases q : atI xs i with
      | none => rw [q] at e; cases e
      | some z =>
        rw [q] at e; cases e
        obtain ⟨a1, us, rfl, g1, r1⟩ := h1.rol R
        obtain ⟨v, h3, h4⟩ := RepL.at r1 q
        exact .inl ⟨a1, us, i, v, rfl, h2.int, g1, h3, p.val R h4⟩
    | tup xs =>
      cases d2 <;> simp only [ixD, atD] at e <;> try cases e
      rename_i i
      cases q : atI xs i with
      | none => rw [q] at e; cases e
      | some z =>
        rw [q] at e; cases e
        obtain ⟨a1, us, rfl, g1, r1⟩ := h1.tup R
        obtain ⟨v, h3, h4⟩ := RepL.at r1 q
        exact .inr (.inl ⟨a1, us, i, v, rfl, h2.int, SqT.of g1, h3, p.val R h4⟩)
    | str z =>
      cases d2 <;> simp only [ixD, atD] at e <;> try cases e
      rename_i i
      split at e
      · unfold signAt at e
        cases q : atI z.cps.toList i with
        | none => rw [q] at e; cases e
        | some c =>
          rw [q] at e; cases e
          exact .inr (.inr ⟨z, i, c, h1.str, h2.int, by assumption, q, p.val R (.str _)⟩)
      · cases e
    | _ => cases d2 <;> simp only [ixD, atD] at e <;> cases e) h
end
end Bv

namespace Bv
open PySem PySem.Spec PyProof.Rows L2

def truD : D → Option Bool
  | .non => some false
  | .bl b => some b
  | .int i => some (i != 0)
  | .str x => if x.length ≤ sizeLine then some ((x.length : Int) != 0) else none
  | .lst xs => some (!xs.isEmpty)
  | .rol xs => some (!xs.isEmpty)
  | .tup xs => some (!xs.isEmpty)
  | .dic es => some (!es.isEmpty)
  | _ => none
section
variable {T : Tx} {K : PySem.W.Frag} {G : Hp} {w : Wd} {st : S} {σ : L2.St} {H : Hp} {v : V} {d : D} {r : Res} {W : WX} {Q Q' : Bool → Hp → Prop}
theorem RepL.empty {io : List Addr} {xs : List V} {ds : List D} (r : RepL T K io H xs ds) : xs.isEmpty = ds.isEmpty := by cases r <;> rfl
theorem RepK.empty {io : List Addr} {xs : List (Key × V)} {ds : List (D × D)} (r : RepK T K io H xs ds) : xs.isEmpty = ds.isEmpty := by cases r <;> rfl
theorem Rep1.tru (R : SR T K G w st σ H) {k : Bool} (h : Rep1 T K w H v d) (e : truD d = some k) : TruV K v H k := by
  cases d <;> simp only [truD] at e <;> try cases e
  · rw [h.non]; rfl
  · rw [h.bl]; rfl
  · rw [h.int]; rfl
  · split at e
    · cases e
      rw [h.str]
      exact ⟨by assumption, rfl⟩
    · cases e
  · obtain ⟨a, xs, rfl, g, r⟩ := h.tup R
    exact .inr (.inl ⟨xs, SqT.of g, by rw [r.empty]⟩)
  · obtain ⟨a, xs, rfl, g, r⟩ := h.lst R
    exact .inl ⟨xs, SqL.of g, by rw [r.empty]⟩
  · obtain ⟨a, xs, rfl, g, r⟩ := h.dic R
    exact .inr (.inr ⟨xs, g, by rw [r.empty]⟩)
  · obtain ⟨a, xs, rfl, g, r⟩ := h.rol R
    exact .inl ⟨xs, g, by rw [r.empty]⟩
variable (T K G w σ)
def PostT (r : Res) (Q : Bool → Hp → Prop) (W : WX) : Prop := match r with
  | .ok (.val (.bl b)) st => ∀ (w' : Wd) (H' : Hp), w.le w' → SR T K G w' st σ H' → Q b H'
  | .ok _ _ => False
  | .exc e st => ∀ (w' : Wd) (H' : Hp) (cls : Value) (dx : Option Addr), w.le w' → SR T K G w' st σ H' → ExR T K w' e cls dx → W cls dx σ H'
  | .bad => False
end
def tT (X : Cx) (T : Tx) (f : S → Res) : TT := fun σ H Q => ∃ (G : Hp) (w : Wd) (st : S) (W : WX), SR T X.K G w st σ H ∧ Takes X W ∧ PostT T X.K G w σ (f st) Q W
def DT (X : Cx) (T : Tx) (e : Expr) (f : S → Res) : Prop := PT X e (tT X T f)
def DW (X : Cx) (T : Tx) (e : Expr) (f : S → Res) : Prop := PW X e (tT X T f)
theorem PT.imp {X : Cx} {e : Expr} {t t' : TT} (h : PT X e t) (i : ∀ σ H Q, t' σ H Q → t σ H Q) : PT X e t' :=
  ⟨fun pins s σ H Q I q => h.run pins s σ H Q I (i σ H Q q)⟩
theorem PW.imp {X : Cx} {e : Expr} {t t' : TT} (h : PW X e t) (i : ∀ σ H Q, t' σ H Q → t σ H Q) : PW X e t' :=
  ⟨fun wh pins s σ H Q I q => h.run wh pins s σ H Q I (i σ H Q q)⟩
/-- a test by truth -/
def bT (f : S → Res) : S → Res := fun st => (f st).bind fun r st1 => match rd st1 r with
  | some d => match truD d with
    | some b => .ok (.val (.bl b)) st1
    | none => .bad
  | none => .bad
def bAnd (a b : S → Res) : S → Res := fun st => (a st).bind fun r st1 => match r with
  | .val (.bl true) => b st1
  | .val (.bl false) => .ok (.val (.bl false)) st1
  | _ => .bad
def bOr (a b : S → Res) : S → Res := fun st => (a st).bind fun r st1 => match r with
  | .val (.bl true) => .ok (.val (.bl true)) st1
  | .val (.bl false) => b st1
  | _ => .bad
def bNot (a : S → Res) : S → Res := fun st => (a st).bind fun r st1 => match r with
  | .val (.bl b) => .ok (.val (.bl (!b))) st1
  | _ => .bad
def eIf (c a b : S → Res) : S → Res := fun st => (c st).bind fun r st1 => match r with
  | .val (.bl true) => a st1
  | .val (.bl false) => b st1
  | _ => .bad
/-- and, or as values: the first one itself, or the rest -/
def eAnd (a b : S → Res) : S → Res := fun st => (a st).bind fun r st1 => match rd st1 r with
  | some d => match truD d with
    | some true => b st1
    | some false => .ok r st1
    | none => .bad
  | none => .bad
def eOr (a b : S → Res) : S → Res := fun st => (a st).bind fun r st1 => match rd st1 r with
  | some d => match truD d with
    | some true => .ok r st1
    | some false => b st1
    | none => .bad
  | none => .bad
def eNot (a : S → Res) : S → Res := fun st => (a st).bind fun r st1 => match rd st1 r with
  | some d => match truD d with
    | some b => .ok (.val (.bl (!b))) st1
    | none => .bad
  | none => .bad
section
variable {X : Cx} {T : Tx} {K : PySem.W.Frag} {G : Hp} {w w' : Wd} {st : S} {σ : L2.St} {H : Hp} {r : Res} {W : WX} {a b c e : Expr} {fa fb fc f : S → Res} {pos : Pos} {rest : List Expr}
theorem PostT.le {Q : Bool → Hp → Prop} (h : PostT T K G w σ r Q W) (e : w.le w') : PostT T K G w' σ r Q W := by
  cases r with
  | ok r st => cases r with
    | val d => cases d with
      | bl b => exact fun w2 H' l => h w2 H' (e.trans l)
      | _ => exact h
    | _ => exact h
  | exc x st => exact fun w2 H' c d l => h w2 H' c d (e.trans l)
  | bad => exact h
/-- a test, then the rest from its answer -/
theorem PostT.bind {k : Bool → S → Res} {Q : VK} {Q' : Bool → Hp → Prop} (h : PostE T K G w σ (r.bind fun r st => match r with
    | .val (.bl b) => k b st
    | _ => .bad) Q W) (q : ∀ (b : Bool) (st1 : S) (w1 : Wd) (H1 : Hp), w.le w1 → SR T K G w1 st1 σ H1 → PostE T K G w1 σ (k b st1) Q W → Q' b H1) : PostT T K G w σ r Q' W := by
  cases r with
  | ok r st => cases r with
    | val d => cases d with
      | bl b => exact fun w1 H1 l R => q b st w1 H1 l R (PostE.le h l)
      | _ => exact h.elim
    | _ => exact h.elim
  | exc x st => exact h
  | bad => exact h
theorem PostT.bindT {k : Bool → S → Res} {Q Q' : Bool → Hp → Prop} (h : PostT T K G w σ (r.bind fun r st => match r with
    | .val (.bl b) => k b st
    | _ => .bad) Q W) (q : ∀ (b : Bool) (st1 : S) (w1 : Wd) (H1 : Hp), w.le w1 → SR T K G w1 st1 σ H1 → PostT T K G w1 σ (k b st1) Q W → Q' b H1) : PostT T K G w σ r Q' W := by
  cases r with
  | ok r st => cases r with
    | val d => cases d with
      | bl b => exact fun w1 H1 l R => q b st w1 H1 l R (PostT.le h l)
      | _ => exact h.elim
    | _ => exact h.elim
  | exc x st => exact h
  | bad => exact h
/-- an expression, then a test's end -/
theorem PostE.bindT {k : Rv → S → Res} {Q : Bool → Hp → Prop} {Q' : VK} (h : PostT T K G w σ (r.bind k) Q W)
    (q : ∀ (r1 : Rv) (st1 : S) (w1 : Wd) (H1 : Hp) (v1 : V), w.le w1 → SR T K G w1 st1 σ H1 → RR T K G w1 st1 σ H1 r1 v1 → PostT T K G w1 σ (k r1 st1) Q W → Q' v1 H1) : PostE T K G w σ r Q' W := by
  cases r with
  | ok r st => exact fun w1 H1 v1 l R x => q r st w1 H1 v1 l R x (PostT.le h l)
  | exc x st => exact h
  | bad => exact h
/-- what gives a bool is a test -/
theorem tT_val {Q : Bool → Hp → Prop} (h : PostT T K G w σ r Q W) : PostE T K G w σ r (fun x H' => ∃ k, x = .bl k ∧ Q k H') W := by
  cases r with
  | ok r st => cases r with
    | val d => cases d with
      | bl b => exact fun w1 H1 v l R x => by cases x; exact ⟨b, rfl, h w1 H1 l R⟩
      | _ => exact h.elim
    | _ => exact h.elim
  | exc x st => exact h
  | bad => exact h
theorem dt_tr (h : DE X T e f) (he : ∀ whole, isTrue e X.env whole = (do let v ← whole; standAt e.pos; holding [v] (truthy v)) := by intro _; rfl) : DT X T e (bT f) :=
  PT.imp (pt_truth h he) fun σ H Q ⟨G, w, st, W, R, tk, h⟩ => ⟨G, w, st, W, R, tk, PostE.bindT h fun r1 st1 w1 H1 v1 l R1 x1 h1 => by
    cases q1 : rd st1 r1 with
    | none => rw [q1] at h1; exact h1.elim
    | some d =>
      rw [q1] at h1
      dsimp only at h1
      cases q2 : truD d with
      | none => rw [q2] at h1; exact h1.elim
      | some k =>
        rw [q2] at h1
        exact ⟨k, (R1.read x1 q1).tru R1 q2, h1 w1 H1 w1.le_refl R1⟩⟩
/-- a comparison as a test -/
theorem dt_cmp {op : CmpOp} {r : R2} {f : D → D → Option Rv} (hr : OpR X (compareOp op) r) (ho : OpS T X.K r f) (ha : DE X T a fa) (hb : DE X T b fb) (hm : behindInMarks op b = false) : DT X T (.Compare a [op] [b] pos) (e2 f fa fb) :=
  PT.imp (pt_cmpR hr ha hb hm) fun σ H Q ⟨G, w, st, W, R, tk, h⟩ => tOp_of ho ⟨G, w, st, W, R, tk, tT_val h⟩
theorem dt_not (ha : DT X T a fa) : DT X T (.UnaryOp .Not a pos) (bNot fa) :=
  PT.imp (pt_not ha) fun σ H Q ⟨G, w, st, W, R, tk, h⟩ => ⟨G, w, st, W, R, tk, PostT.bindT (k := fun b st1 => .ok (.val (.bl (!b))) st1) h fun b st1 w1 H1 l R1 h1 => h1 w1 H1 w1.le_refl R1⟩
theorem dw_and1 (ha : DT X T a fa) : DW X T (.BoolOp .And [a] pos) fa := pw_and1 ha
theorem dw_or1 (ha : DT X T a fa) : DW X T (.BoolOp .Or [a] pos) fa := pw_or1 ha
theorem bAnd_eq (st : S) : bAnd fa fb st = (fa st).bind fun r st => match r with
    | .val (.bl b) => (if b = true then fb st else .ok (.val (.bl false)) st)
    | _ => .bad := by
  unfold bAnd
  congr
  funext r st
  cases r with
  | val d => cases d with
    | bl b => cases b <;> rfl
    | _ => rfl
  | _ => rfl
theorem bOr_eq (st : S) : bOr fa fb st = (fa st).bind fun r st => match r with
    | .val (.bl b) => (if b = true then .ok (.val (.bl true)) st else fb st)
    | _ => .bad := by
  unfold bOr
  congr
  funext r st
  cases r with
  | val d => cases d with
    | bl b => cases b <;> rfl
    | _ => rfl
  | _ => rfl
theorem eIf_eq (st : S) : eIf fc fa fb st = (fc st).bind fun r st => match r with
    | .val (.bl b) => (if b = true then fa st else fb st)
    | _ => .bad := by
  unfold eIf
  congr
  funext r st
  cases r with
  | val d => cases d with
    | bl b => cases b <;> rfl
    | _ => rfl
  | _ => rfl
theorem dw_and (ha : DT X T a fa) (hb : DW X T (.BoolOp .And (b :: rest) pos) fb) : DW X T (.BoolOp .And (a :: b :: rest) pos) (bAnd fa fb) :=
  PW.imp (pw_and ha hb) fun σ H Q ⟨G, w, st, W, R, tk, h⟩ => by
    rw [bAnd_eq] at h
    refine ⟨G, w, st, W, R, tk, PostT.bindT h fun b st1 w1 H1 l R1 h1 => ?_⟩
    cases b with
    | true => rw [if_pos rfl] at h1 ⊢; exact ⟨G, w1, st1, W, R1, tk, h1⟩
    | false => rw [if_neg Bool.false_ne_true] at h1 ⊢; exact h1 w1 H1 w1.le_refl R1
theorem dw_or (ha : DT X T a fa) (hb : DW X T (.BoolOp .Or (b :: rest) pos) fb) : DW X T (.BoolOp .Or (a :: b :: rest) pos) (bOr fa fb) :=
  PW.imp (pw_or ha hb) fun σ H Q ⟨G, w, st, W, R, tk, h⟩ => by
    rw [bOr_eq] at h
    refine ⟨G, w, st, W, R, tk, PostT.bindT h fun b st1 w1 H1 l R1 h1 => ?_⟩
    cases b with
    | true => rw [if_pos rfl] at h1 ⊢; exact h1 w1 H1 w1.le_refl R1
    | false => rw [if_neg Bool.false_ne_true] at h1 ⊢; exact ⟨G, w1, st1, W, R1, tk, h1⟩
theorem dt_w (h : DW X T e f) : DT X T e f := PW.pt h
theorem de_if (hc : DT X T c fc) (ha : DE X T a fa) (hb : DE X T b fb) : DE X T (.IfExp c a b pos) (eIf fc fa fb) :=
  PE.imp (pe_ifExp hc ha hb) fun σ H Q ⟨G, w, st, W, R, tk, h⟩ => by
    rw [eIf_eq] at h
    refine ⟨G, w, st, W, R, tk, PostT.bind h fun b st1 w1 H1 l R1 h1 => ?_⟩
    cases b with
    | true => rw [if_pos rfl] at h1 ⊢; exact ⟨G, w1, st1, W, R1, tk, h1⟩
    | false => rw [if_neg Bool.false_ne_true] at h1 ⊢; exact ⟨G, w1, st1, W, R1, tk, h1⟩
theorem de_one {op} (h : DE X T a fa) : DE X T (.BoolOp op [a] pos) fa := pe_one h
theorem de_and (ha : DE X T a fa) (hb : DE X T (.BoolOp .And (b :: rest) pos) fb) : DE X T (.BoolOp .And (a :: b :: rest) pos) (eAnd fa fb) :=
  PE.imp (pe_andT ha hb) fun σ H Q ⟨G, w, st, W, R, tk, h⟩ => ⟨G, w, st, W, R, tk, PostE.bind h fun r1 st1 w1 H1 v1 _ l R1 x1 h1 => by
    cases q1 : rd st1 r1 with
    | none => rw [q1] at h1; exact h1.elim
    | some d =>
      rw [q1] at h1
      dsimp only at h1
      cases q2 : truD d with
      | none => rw [q2] at h1; exact h1.elim
      | some k =>
        rw [q2] at h1
        refine ⟨k, (R1.read x1 q1).tru R1 q2, ?_⟩
        cases k with
        | true => rw [if_pos rfl]; exact ⟨G, w1, st1, W, R1, tk, h1⟩
        | false => rw [if_neg Bool.false_ne_true]; exact h1 w1 H1 v1 w1.le_refl R1 x1⟩
theorem de_or (ha : DE X T a fa) (hb : DE X T (.BoolOp .Or (b :: rest) pos) fb) : DE X T (.BoolOp .Or (a :: b :: rest) pos) (eOr fa fb) :=
  PE.imp (pe_orT ha hb) fun σ H Q ⟨G, w, st, W, R, tk, h⟩ => ⟨G, w, st, W, R, tk, PostE.bind h fun r1 st1 w1 H1 v1 _ l R1 x1 h1 => by
    cases q1 : rd st1 r1 with
    | none => rw [q1] at h1; exact h1.elim
    | some d =>
      rw [q1] at h1
      dsimp only at h1
      cases q2 : truD d with
      | none => rw [q2] at h1; exact h1.elim
      | some k =>
        rw [q2] at h1
        refine ⟨k, (R1.read x1 q1).tru R1 q2, ?_⟩
        cases k with
        | true => rw [if_pos rfl]; exact h1 w1 H1 v1 w1.le_refl R1 x1
        | false => rw [if_neg Bool.false_ne_true]; exact ⟨G, w1, st1, W, R1, tk, h1⟩⟩
theorem de_not (ha : DE X T a fa) : DE X T (.UnaryOp .Not a pos) (eNot fa) :=
  PE.imp (pe_notT ha) fun σ H Q ⟨G, w, st, W, R, tk, h⟩ => ⟨G, w, st, W, R, tk, PostE.bind h fun r1 st1 w1 H1 v1 _ l R1 x1 h1 => by
    cases q1 : rd st1 r1 with
    | none => rw [q1] at h1; exact h1.elim
    | some d =>
      rw [q1] at h1
      dsimp only at h1
      cases q2 : truD d with
      | none => rw [q2] at h1; exact h1.elim
      | some k =>
        rw [q2] at h1
        exact ⟨k, (R1.read x1 q1).tru R1 q2, h1.val R1 (.bl _)⟩⟩
end
end Bv

namespace Bv
open PySem PySem.Spec PyProof.Rows L2

def S.set (st : S) (i : Nat) (s : Sl) : S := ⟨st.sl.set i s, st.ob⟩
/-- a result given away: a slot's object becomes one that nobody changes -/
def give (st : S) : Rv → Option (D × S)
  | .val d => some (d, st)
  | .fresh d => some (d, st)
  | .bor i => match st.sl[i]? with
    | some (.frz d) => some (d, st)
    | some (.own d) => some (d, st.set i (.frz d))
    | _ => none
section
variable {T : Tx} {K : PySem.W.Frag} {G : Hp} {w : Wd} {st : S} {σ : L2.St} {H : Hp} {v : V} {d : D}
theorem getElem?_set' {α : Type} {l : List α} {i j : Nat} {x y : α} (h : (l.set i x)[j]? = some y) : (j = i ∧ y = x) ∨ (j ≠ i ∧ l[j]? = some y) := by
  rw [List.getElem?_set] at h
  by_cases e : i = j
  · subst e
    rw [if_pos rfl] at h
    split at h
    · cases h; exact .inl ⟨rfl, rfl⟩
    · cases h
  · rw [if_neg e] at h
    exact .inr ⟨fun z => e z.symm, h⟩
/-- a slot's object is frozen -/
theorem SR.giveSlot (R : SR T K G w st σ H) {i : Nat} {a : Addr} (h : st.sl[i]? = some (.own d)) (ha : σ[i]? = some (some (.ref a))) : ∃ w', w.le w' ∧ SR T K G w' (st.set i (.frz d)) σ H ∧ RepW T K w' (.ref a) d := by
  obtain ⟨b, hb, h1, h2, h3, h4⟩ := R.own i d h
  rw [ha] at hb; cases hb
  obtain ⟨o, ho⟩ := h4.here
  -- the state with the slot forgotten
  have R0 : SR T K G w (st.set i .no) σ H := by
    refine ⟨R.bas, R.exf, R.exg, R.dis, by show (st.sl.set i .no).length = _; rw [List.length_set]; exact R.len, fun j e q => ?_, fun j e q => ?_, fun j k e f b q1 q2 => ?_, R.olen, R.ond, R.obj, fun j q => (getElem?_set' q).elim (fun z => nomatch z.2) (fun z => R.hld j z.2), R.tab⟩
    · rcases getElem?_set' q with ⟨_, z⟩ | ⟨_, z⟩
      · cases z
      · exact R.frz j e z
    · rcases getElem?_set' q with ⟨_, z⟩ | ⟨_, z⟩
      · cases z
      · exact R.own j e z
    · rcases getElem?_set' q1 with ⟨_, z⟩ | ⟨_, z⟩
      · cases z
      · rcases getElem?_set' q2 with ⟨_, z2⟩ | ⟨_, z2⟩
        · cases z2
        · exact R.apart j k e f b z z2
  obtain ⟨le, R1⟩ := R0.freeze h1 h2 h3 (fun j e q z => by
    rcases getElem?_set' q with ⟨_, y⟩ | ⟨n, y⟩
    · cases y
    · exact n (R.apart j i e d a y h z ha)) ho
  have rep := h4.freeze h1 ho
  refine ⟨_, le, ⟨R1.bas, R1.exf, R1.exg, R1.dis, by show (st.sl.set i (.frz d)).length = _; rw [List.length_set]; exact R.len, fun j e q => ?_, fun j e q => ?_, fun j k e f b q1 q2 => ?_, R1.olen, R1.ond, R1.obj, fun j q => (getElem?_set' q).elim (fun z => nomatch z.2) (fun z => R.hld j z.2), R.tab⟩, rep⟩
  · rcases getElem?_set' q with ⟨rfl, z⟩ | ⟨n, z⟩
    · cases z; exact ⟨_, ha, rep⟩
    · refine R1.frz j e ?_
      show (st.sl.set i .no)[j]? = _
      rw [List.getElem?_set, if_neg (fun z => n z.symm)]; exact z
  · rcases getElem?_set' q with ⟨rfl, z⟩ | ⟨n, z⟩
    · cases z
    · refine R1.own j e ?_
      show (st.sl.set i .no)[j]? = _
      rw [List.getElem?_set, if_neg (fun z => n z.symm)]; exact z
  · rcases getElem?_set' q1 with ⟨_, z⟩ | ⟨n, z⟩
    · cases z
    · rcases getElem?_set' q2 with ⟨_, z2⟩ | ⟨n2, z2⟩
      · cases z2
      · exact R.apart j k e f b z z2
theorem SR.give (R : SR T K G w st σ H) {r : Rv} {st' : S} (h : RR T K G w st σ H r v) (e : give st r = some (d, st')) : ∃ w', w.le w' ∧ SR T K G w' st' σ H ∧ RepW T K w' v d := by
  cases r with
  | val d0 => cases e; exact ⟨w, w.le_refl, R, h⟩
  | fresh d0 =>
    cases e
    obtain ⟨w', le, R', h'⟩ := R.valz h
    exact ⟨w', le, R', h'⟩
  | bor i =>
    have hv : σ[i]? = some (some v) := h
    dsimp only [Bv.give] at e
    cases hs : st.sl[i]? with
    | none => rw [hs] at e; cases e
    | some s =>
      rw [hs] at e
      cases s with
      | no => cases e
      | frz d0 =>
        cases e
        obtain ⟨v', h1, h2⟩ := R.frz i _ hs
        rw [hv] at h1; cases h1
        exact ⟨w, w.le_refl, R, h2⟩
      | hd => cases e
      | own d0 =>
        cases e
        obtain ⟨a, h1, _⟩ := R.own i _ hs
        rw [hv] at h1; cases h1
        exact R.giveSlot hs hv
end

inductive LRes where
  | ok (ds : List D) (s : S) | exc (e : Exn) (s : S) | bad
def LRes.bind (r : LRes) (k : List D → S → LRes) : LRes := match r with
  | .ok ds s => k ds s
  | .exc e s => .exc e s
  | .bad => .bad
def Res.bindL (r : Res) (k : Rv → S → LRes) : LRes := match r with
  | .ok r s => k r s
  | .exc e s => .exc e s
  | .bad => .bad
def LRes.bindE (r : LRes) (k : List D → S → Res) : Res := match r with
  | .ok r s => k r s
  | .exc e s => .exc e s
  | .bad => .bad
def lNil : S → LRes := fun st => .ok [] st
def lCons (f : S → Res) (g : S → LRes) : S → LRes := fun st => (f st).bindL fun r st1 => match give st1 r with
  | some (d, st2) => (g st2).bind fun ds st3 => .ok (d :: ds) st3
  | none => .bad
def itemsD : D → Option (List D)
  | .tup xs => some xs
  | .lst xs => some xs
  | .rol xs => some xs
  | _ => none
def lStar (f : S → Res) (g : S → LRes) : S → LRes := fun st => (f st).bindL fun r st1 => match rd st1 r with
  | some d => match itemsD d with
    | some xs => (g st1).bind fun ds st3 => .ok (xs ++ ds) st3
    | none => .bad
  | none => .bad
section
variable (T : Tx) (K : PySem.W.Frag) (G : Hp) (w : Wd) (σ : L2.St)
def PostL (r : LRes) (Q : List V → Hp → Prop) (W : WX) : Prop := match r with
  | .ok ds st => ∀ (w' : Wd) (H' : Hp) (vs : List V), w.le w' → SR T K G w' st σ H' → RepLW T K w' vs ds → Q vs H'
  | .exc e st => ∀ (w' : Wd) (H' : Hp) (cls : Value) (dx : Option Addr), w.le w' → SR T K G w' st σ H' → ExR T K w' e cls dx → W cls dx σ H'
  | .bad => False
end
def tL (X : Cx) (T : Tx) (f : S → LRes) : TA := fun σ H Q => ∃ (G : Hp) (w : Wd) (st : S) (W : WX), SR T X.K G w st σ H ∧ Takes X W ∧ PostL T X.K G w σ (f st) Q W
def DL (X : Cx) (T : Tx) (es : List Expr) (f : S → LRes) : Prop := PA X es (tL X T f)
theorem PA.imp {X : Cx} {e : List Expr} {t t' : TA} (h : PA X e t) (i : ∀ σ H Q, t' σ H Q → t σ H Q) : PA X e t' :=
  ⟨fun pos pins s σ H Q I q => h.run pos pins s σ H Q I (i σ H Q q)⟩
section
variable {X : Cx} {T : Tx} {K : PySem.W.Frag} {G : Hp} {w w' : Wd} {st : S} {σ : L2.St} {H : Hp} {W : WX} {a b c e : Expr} {es : List Expr} {fa fb fc f : S → Res} {g : S → LRes} {pos p : Pos}
theorem PostL.le {r : LRes} {Q : List V → Hp → Prop} (h : PostL T K G w σ r Q W) (e : w.le w') : PostL T K G w' σ r Q W := by
  cases r with
  | ok r st => exact fun w2 H' v l => h w2 H' v (e.trans l)
  | exc x st => exact fun w2 H' c d l => h w2 H' c d (e.trans l)
  | bad => exact h
theorem PostE.bindL {r : Res} {k : Rv → S → LRes} {Q : List V → Hp → Prop} {Q' : VK} (h : PostL T K G w σ (r.bindL k) Q W)
    (q : ∀ (r1 : Rv) (st1 : S) (w1 : Wd) (H1 : Hp) (v1 : V), w.le w1 → SR T K G w1 st1 σ H1 → RR T K G w1 st1 σ H1 r1 v1 → PostL T K G w1 σ (k r1 st1) Q W → Q' v1 H1) : PostE T K G w σ r Q' W := by
  cases r with
  | ok r st => exact fun w1 H1 v1 l R x => q r st w1 H1 v1 l R x (PostL.le h l)
  | exc x st => exact h
  | bad => exact h
theorem PostL.bind {r : LRes} {k : List D → S → LRes} {Q Q' : List V → Hp → Prop} (h : PostL T K G w σ (r.bind k) Q W)
    (q : ∀ (ds : List D) (st1 : S) (w1 : Wd) (H1 : Hp) (vs : List V), w.le w1 → SR T K G w1 st1 σ H1 → RepLW T K w1 vs ds → PostL T K G w1 σ (k ds st1) Q W → Q' vs H1) : PostL T K G w σ r Q' W := by
  cases r with
  | ok r st => exact fun w1 H1 v1 l R x => q r st w1 H1 v1 l R x (PostL.le h l)
  | exc x st => exact h
  | bad => exact h
theorem PostL.bindE {r : LRes} {k : List D → S → Res} {Q : VK} {Q' : List V → Hp → Prop} (h : PostE T K G w σ (r.bindE k) Q W)
    (q : ∀ (ds : List D) (st1 : S) (w1 : Wd) (H1 : Hp) (vs : List V), w.le w1 → SR T K G w1 st1 σ H1 → RepLW T K w1 vs ds → PostE T K G w1 σ (k ds st1) Q W → Q' vs H1) : PostL T K G w σ r Q' W := by
  cases r with
  | ok r st => exact fun w1 H1 v1 l R x => q r st w1 H1 v1 l R x (PostE.le h l)
  | exc x st => exact h
  | bad => exact h
theorem dl_nil : DL X T [] lNil := PA.imp pa_nil fun σ H Q ⟨G, w, st, W, R, tk, h⟩ => h w H [] w.le_refl R .nil
theorem dl_cons (ha : DE X T e f) (hr : DL X T es g) (hs : starEach (e :: es) X.env = (false, eval e X.env) :: starEach es X.env := by rfl) : DL X T (e :: es) (lCons f g) :=
  PA.imp (pa_cons ha hr hs) fun σ H Q ⟨G, w, st, W, R, tk, h⟩ => ⟨G, w, st, W, R, tk, PostE.bindL h fun r1 st1 w1 H1 v1 l R1 x1 h1 => by
    cases q : give st1 r1 with
    | none => rw [q] at h1; exact h1.elim
    | some ds =>
      obtain ⟨d, st2⟩ := ds
      rw [q] at h1
      obtain ⟨w2, l2, R2, x2⟩ := R1.give x1 q
      exact ⟨G, w2, st2, W, R2, tk, PostL.bind (h1.le l2) fun ds st3 w3 H3 vs l3 R3 x3 h3 => h3 w3 H3 _ w3.le_refl R3 (.cons (x2.mono l3) x3)⟩⟩
theorem Rep1.items (R : SR T K G w st σ H) {d : D} {v : V} {xs : List D} (h : Rep1 T K w H v d) (e : itemsD d = some xs) : ∃ a us, v = .ref a ∧ (SqT K H a us ∨ SqL K H a us) ∧ RepLW T K w us xs := by
  cases d <;> simp only [itemsD] at e <;> cases e
  · obtain ⟨a, us, rfl, g, r⟩ := h.tup R
    exact ⟨a, us, rfl, .inl (SqT.of g), r⟩
  · obtain ⟨a, us, rfl, g, r⟩ := h.lst R
    exact ⟨a, us, rfl, .inr (SqL.of g), r⟩
  · obtain ⟨a, us, rfl, g, r⟩ := h.rol R
    exact ⟨a, us, rfl, .inr g, r⟩
theorem dl_star (ha : DE X T e f) (hr : DL X T es g) (hs : starEach (.Starred e p :: es) X.env = (true, eval e X.env) :: starEach es X.env := by rfl) : DL X T (.Starred e p :: es) (lStar f g) :=
  PA.imp (StX.pa_star ha hr hs) fun σ H Q ⟨G, w, st, W, R, tk, h⟩ => ⟨G, w, st, W, R, tk, PostE.bindL h fun r1 st1 w1 H1 v1 l R1 x1 h1 => by
    cases q : rd st1 r1 with
    | none => rw [q] at h1; exact h1.elim
    | some d =>
      rw [q] at h1
      dsimp only at h1
      cases q2 : itemsD d with
      | none => rw [q2] at h1; exact h1.elim
      | some xs =>
        rw [q2] at h1
        obtain ⟨a, us, rfl, g1, r1⟩ := (R1.read x1 q).items R1 q2
        exact ⟨a, us, rfl, g1, G, w1, st1, W, R1, tk, PostL.bind h1 fun ds st3 w3 H3 vs l3 R3 x3 h3 => h3 w3 H3 _ w3.le_refl R3 (RepL.append (RepL.mono l3.1 l3.2 r1) x3)⟩⟩
def eTup (g : S → LRes) : S → Res := fun st => (g st).bindE fun ds st1 => if ds.length ≤ sizeLine then .ok (.val (.tup ds)) st1 else .bad
def eLst (g : S → LRes) : S → Res := fun st => (g st).bindE fun ds st1 => if ds.length ≤ sizeLine then .ok (.fresh (.lst ds)) st1 else .bad
/-- a new object that is a value at once -/
theorem PostE.new {d : D} {q : Addr} {o : HO} {Q : VK} (h : PostE T K G w σ (.ok (.val d) st) Q W) (R : SR T K G w st σ H) (hq : H q = none) (c : Con T K w (upd H q o) q d ∨ (∃ xs ds, o = .tup xs ∧ d = .tup ds ∧ RepLW T K w xs ds)) : Q (.ref q) (upd H q o) := by
  obtain ⟨h1, h2, h3, h4⟩ := R.free hq
  obtain ⟨le, R3⟩ := (R.new (o := o) hq).freeze h1 h2 h3 h4 upd_same
  refine h _ _ _ le R3 ?_
  rcases c with c | ⟨xs, ds, rfl, rfl, r⟩
  · exact c.freeze h1 upd_same
  · exact .tup upd_same (RepL.mono le.1 le.2 r)
theorem de_tup {x1} (h : DL X T es g) : DE X T (.Tuple es x1 pos) (eTup g) :=
  PE.imp (pe_tup h) fun σ H Q ⟨G, w, st, W, R, tk, h⟩ => ⟨G, w, st, W, R, tk, PostL.bindE h fun ds st1 w1 H1 vs l R1 x1 h1 => by
    split at h1
    · rename_i hz
      exact ⟨by rw [x1.len]; exact hz, fun q hq => h1.new R1 hq (.inr ⟨vs, ds, rfl, rfl, x1⟩)⟩
    · exact h1.elim⟩
theorem de_lst (h : DL X T es g) : DE X T (.List es pos) (eLst g) :=
  PE.imp (pe_lst h) fun σ H Q ⟨G, w, st, W, R, tk, h⟩ => ⟨G, w, st, W, R, tk, PostL.bindE h fun ds st1 w1 H1 vs l R1 x1 h1 => by
    split at h1
    · rename_i hz
      exact ⟨by rw [x1.len]; exact hz, fun q hq => h1.fresh R1 hq ⟨vs, upd_same, x1⟩⟩
    · exact h1.elim⟩
/-- a op b op' c: b is asked once, c only if the first one holds -/
def eChain (f f' : D → D → Option Rv) (a b c : S → Res) : S → Res := fun st => (a st).bind fun r1 st1 => (b st1).bind fun r2 st2 => match rd st2 (vz r1), rd st2 (vz r2) with
  | some d1, some d2 => match f d1 d2 with
    | some (.val (.bl true)) => (c st2).bind fun r3 st3 => match rd st3 (vz r2), rd st3 (vz r3) with
      | some d2', some d3 => match f' d2' d3 with
        | some r => .ok r st3
        | none => .bad
      | _, _ => .bad
    | some (.val (.bl false)) => .ok (.val (.bl false)) st2
    | _ => .bad
  | _, _ => .bad
theorem tChain_of {r r' : R2} {f f' : D → D → Option Rv} (ho : OpS T X.K r f) (ho' : OpS T X.K r' f') {σ : L2.St} {H : Hp} {Q : VK} (h : tE X T (eChain f f' fa fb fc) σ H Q) : tChain r r' (tE X T fa) (tE X T fb) (tE X T fc) σ H Q := by
  obtain ⟨G, w, st, W, R, tk, h⟩ := h
  refine ⟨G, w, st, W, R, tk, PostE.bind h fun r1 st1 w1 H1 v1 e1 l1 R1 x1 h1 => ?_⟩
  obtain ⟨w1', l1', R1', x1'⟩ := R1.valz x1
  refine ⟨G, w1', st1, W, R1', tk, PostE.bind (h1.le l1') fun r2 st2 w2 H2 v2 e2 l2 R2 x2 h2 => ?_⟩
  obtain ⟨w2', l2', R2', x2'⟩ := R2.valz x2
  have h2 := h2.le l2'
  cases q1 : rd st2 (vz r1) with
  | none => rw [q1] at h2; exact h2.elim
  | some d1 =>
    cases q2 : rd st2 (vz r2) with
    | none => rw [q1, q2] at h2; exact h2.elim
    | some d2 =>
      rw [q1, q2] at h2
      dsimp only at h2
      have k1 : Rep1 T X.K w2' H2 v1 d1 := R2'.read (x1'.carry (l2.trans l2')) q1
      have k2 : Rep1 T X.K w2' H2 v2 d2 := R2'.read x2' q2
      cases q3 : f d1 d2 with
      | none => rw [q3] at h2; exact h2.elim
      | some out =>
        rw [q3] at h2
        cases out with
        | fresh d => exact h2.elim
        | bor i => exact h2.elim
        | val d => cases d with
          | bl k =>
            refine ho G w2' st2 σ H2 v1 v2 d1 d2 _ _ W R2' k1 k2 q3 fun w3 H3 v3 l3 R3 x3 => ?_
            cases x3
            refine ⟨k, rfl, ?_⟩
            cases k with
            | false => rw [if_neg Bool.false_ne_true]; exact (h2.le l3).val R3 (.bl _)
            | true =>
              rw [if_pos rfl]
              refine ⟨G, w3, st2, W, R3, tk, PostE.bindz (k := fun r3 st3 => match rd st3 (vz r2), rd st3 r3 with
                | some d2', some d3 => match f' d2' d3 with
                  | some r => .ok r st3
                  | none => .bad
                | _, _ => .bad) (h2.le l3) fun r3 st3 w4 H4 v4 e4 l4 R4 x4 h4 => ?_⟩
              cases q4 : rd st3 (vz r2) with
              | none => simp only [q4] at h4; exact h4.elim
              | some d2' =>
                cases q5 : rd st3 (vz r3) with
                | none => simp only [q4, q5] at h4; exact h4.elim
                | some d3 =>
                  simp only [q4, q5] at h4
                  cases q6 : f' d2' d3 with
                  | none => rw [q6] at h4; exact h4.elim
                  | some out => rw [q6] at h4; exact ho' G w4 st3 σ H4 v2 v4 d2' d3 out Q W R4 (R4.read (x2'.carry (l3.trans l4)) q4) (R4.read x4 q5) q6 h4
          | _ => exact h2.elim
theorem de_chain {op op' : CmpOp} {r r' : R2} {f f' : D → D → Option Rv} (hr : OpR X (compareOp op) r) (hr' : OpR X (compareOp op') r') (ho : OpS T X.K r f) (ho' : OpS T X.K r' f') (ha : DE X T a fa) (hb : DE X T b fb) (hc : DE X T c fc)
    (hm : lastMarks [op, op'] [b, c] = false := by with_unfolding_all rfl) : DE X T (.Compare a [op, op'] [b, c] pos) (eChain f f' fa fb fc) :=
  PE.imp (pe_chain hr hr' ha hb hc hm) fun _ _ _ h => tChain_of ho ho' h
def cutD (xs : List D) (lo hi : Option Int) : List D := (xs.drop (HT.sIx xs.length 0 lo)).take (HT.sIx xs.length xs.length hi - HT.sIx xs.length 0 lo)
theorem RepL.cut {io : List Addr} {xs : List V} {ds : List D} (r : RepL T K io H xs ds) (lo hi : Option Int) : RepL T K io H (cutV xs lo hi) (cutD ds lo hi) := by
  unfold cutV cutD
  rw [r.len]
  exact RepL.take _ (RepL.drop _ r)
def partD : D → Option (Option Int)
  | .non => some none
  | .int i => some (some i)
  | _ => none
def cutAny (lo hi : Option Int) : D → Option Rv
  | .lst xs => some (.fresh (.lst (cutD xs lo hi)))
  | .rol xs => some (.fresh (.lst (cutD xs lo hi)))
  | .tup xs => some (.val (.tup (cutD xs lo hi)))
  | .str z => if z.length ≤ sizeLine then some (.val (.str (cutS z lo hi))) else none
  | _ => none
def DP (X : Cx) (T : Tx) (e : Option Expr) (f : S → Res) : Prop := PO X e fun σ H Q => tE X T f σ H fun v H' => (v = .non → Q none H') ∧ ∀ i, v = .int i → Q (some i) H'
theorem PO.imp {X : Cx} {e : Option Expr} {t t' : TO} (h : PO X e t) (i : ∀ σ H Q, t' σ H Q → t σ H Q) : PO X e t' :=
  ⟨fun pins s σ H Q I q => h.run pins s σ H Q I (i σ H Q q)⟩
theorem dp_none : DP X T none (eC .non) := PO.imp po_none fun σ H Q ⟨G, w, st, W, R, tk, h⟩ => (PostE.val h R .non).1 rfl
/-- the part's value is an int -/
def eInt (f : S → Res) : S → Res := fun st => (f st).bind fun r st1 => match rd st1 r with
  | some (.int i) => .ok (.val (.int i)) st1
  | _ => .bad
theorem dp_some (h : DE X T e f) : DP X T (some e) (eInt f) := PO.imp (po_some h) fun σ H Q ⟨G, w, st, W, R, tk, h⟩ => ⟨G, w, st, W, R, tk, PostE.bind h fun r1 st1 w1 H1 v1 _ l R1 x1 h1 => by
  cases q : rd st1 r1 with
  | none => rw [q] at h1; exact h1.elim
  | some d =>
    rw [q] at h1
    cases d with
    | int i =>
      have := (R1.read x1 q).int
      subst this
      exact ⟨i, rfl, (h1.val R1 (.int i)).2 i rfl⟩
    | _ => exact h1.elim⟩
def eSl (a lo hi : S → Res) : S → Res := fun st => (a st).bind fun r1 st1 => (lo st1).bind fun r2 st2 => match r2 with
  | .val d2 => match partD d2 with
    | some l => (hi st2).bind fun r3 st3 => match r3 with
      | .val d3 => match partD d3 with
        | some u => match rd st3 (vz r1) with
          | some d1 => match cutAny l u d1 with
            | some r => .ok r st3
            | none => .bad
          | none => .bad
        | none => .bad
      | _ => .bad
    | none => .bad
  | _ => .bad
theorem part_V {d : D} {v : V} {l : Option Int} (h : RepW T K w v d) (e : partD d = some l) : (v = .non ∧ l = none) ∨ ∃ i, v = .int i ∧ l = some i := by
  cases d <;> simp only [partD] at e <;> cases e
  · cases h; exact .inl ⟨rfl, rfl⟩
  · cases h; exact .inr ⟨_, rfl, rfl⟩
def rSlU (K : PySem.W.Frag) : V → Option Int → Option Int → Hp → VK → Prop := fun x lo hi H Q => rSlL K x lo hi H Q ∨ (rSlA K x lo hi H Q ∨ rSlS x lo hi H Q)
theorem de_sl {lo hi : Option Expr} {flo fhi : S → Res} {p2 : Pos} (ha : DE X T a fa) (hl : DP X T lo flo) (hh : DP X T hi fhi) : DE X T (.Subscript a (.Slice lo hi none p2) pos) (eSl fa flo fhi) :=
  PE.imp (pe_slice (sl_list.or (sl_tupA.or sl_str)) ha hl hh) fun σ H Q ⟨G, w, st, W, R, tk, h⟩ => by
    refine ⟨G, w, st, W, R, tk, PostE.bind h fun r1 st1 w1 H1 v1 e1 l1 R1 x1 h1 => ?_⟩
    obtain ⟨w1', l1', R1', x1'⟩ := R1.valz x1
    refine ⟨G, w1', st1, W, R1', tk, PostE.bind (h1.le l1') fun r2 st2 w2 H2 v2 e2 l2 R2 x2 h2 => ?_⟩
    have key : ∀ (l : Option Int) (d2 : D), r2 = .val d2 → partD d2 = some l → tE X T fhi σ H2 fun v H' => (v = .non → rSlU X.K v1 l none H' Q) ∧ ∀ i, v = .int i → rSlU X.K v1 l (some i) H' Q := fun l d2 er2 ep2 => by
      subst er2
      dsimp only at h2
      rw [ep2] at h2
      dsimp only at h2
      refine ⟨G, w2, st2, W, R2, tk, PostE.bind h2 fun r3 st3 w3 H3 v3 e3 l3 R3 x3 h3 => ?_⟩
      cases r3 with
      | fresh d => exact h3.elim
      | bor i => exact h3.elim
      | val d3 =>
        dsimp only at h3
        cases q3 : partD d3 with
        | none => rw [q3] at h3; exact h3.elim
        | some u =>
          rw [q3] at h3
          dsimp only at h3
          cases q1 : rd st3 (vz r1) with
          | none => rw [q1] at h3; exact h3.elim
          | some d1 =>
            rw [q1] at h3
            dsimp only at h3
            cases q4 : cutAny l u d1 with
            | none => rw [q4] at h3; exact h3.elim
            | some out =>
              rw [q4] at h3
              have k1 : Rep1 T X.K w3 H3 v1 d1 := R3.read (x1'.carry (l2.trans l3)) q1
              have fin : rSlU X.K v1 l u H3 Q := by
                cases d1 <;> simp only [cutAny] at q4 <;> try cases q4
                · split at q4
                  · cases q4
                    exact .inr (.inr ⟨_, k1.str, by assumption, h3.val R3 (.str _)⟩)
                  · cases q4
                · obtain ⟨a1, us, rfl, g1, r1⟩ := k1.tup R3
                  refine .inr (.inl ⟨a1, us, rfl, SqT.of g1, fun hw => ?_, fun hw q hq => h3.new R3 hq (.inr ⟨_, _, rfl, rfl, r1.cut _ _⟩)⟩)
                  refine h3.val R3 ?_
                  have e9 : ∀ ds : List D, us.length = ds.length → cutD ds l u = ds := fun ds hl => by
                    unfold cutD
                    rw [← hl, hw.1, hw.2, List.drop_zero, Nat.sub_zero, hl]
                    exact List.take_length
                  rw [e9 _ r1.len]
                  rcases k1 with k1 | ⟨_, _, k1⟩
                  · exact k1
                  · exact k1.elim
                · obtain ⟨a1, us, rfl, g1, r1⟩ := k1.lst R3
                  exact .inl ⟨a1, us, rfl, SqL.of g1, fun q hq => h3.fresh R3 hq ⟨_, upd_same, r1.cut _ _⟩⟩
                · obtain ⟨a1, us, rfl, g1, r1⟩ := k1.rol R3
                  exact .inl ⟨a1, us, rfl, g1, fun q hq => h3.fresh R3 hq ⟨_, upd_same, r1.cut _ _⟩⟩
              refine ⟨fun ev => ?_, fun i ev => ?_⟩
              · rcases part_V x3 q3 with ⟨_, eu⟩ | ⟨i, ev', eu⟩
                · rw [← eu]; exact fin
                · rw [ev] at ev'; cases ev'
              · rcases part_V x3 q3 with ⟨ev', eu⟩ | ⟨i', ev', eu⟩
                · rw [ev] at ev'; cases ev'
                · rw [ev] at ev'; cases ev'; rw [← eu]; exact fin
    cases r2 with
    | fresh d => exact h2.elim
    | bor i => exact h2.elim
    | val d2 =>
      dsimp only at h2
      cases q : partD d2 with
      | none => rw [q] at h2; exact h2.elim
      | some l =>
        refine ⟨fun ev => ?_, fun i ev => ?_⟩
        · rcases part_V x2 q with ⟨_, el⟩ | ⟨i, ev', el⟩
          · subst el; exact key none d2 rfl q
          · rw [ev] at ev'; cases ev'
        · rcases part_V x2 q with ⟨ev', el⟩ | ⟨i', ev', el⟩
          · rw [ev] at ev'; cases ev'
          · rw [ev] at ev'; cases ev'; subst el; exact key (some i) d2 rfl q
end
end Bv

namespace Bv
open PySem PySem.Spec PyProof.Rows L2

inductive SRes where
  | nx (s : S) | rt (r : Rv) (s : S) | bk (s : S) | ct (s : S) | ex (e : Exn) (s : S) | bad
def SRes.bind (r : SRes) (k : S → SRes) : SRes := match r with
  | .nx s => k s
  | r => r
def Res.bindS (r : Res) (k : Rv → S → SRes) : SRes := match r with
  | .ok r s => k r s
  | .exc e s => .ex e s
  | .bad => .bad
section
variable (T : Tx) (K : PySem.W.Frag) (G : Hp) (w : Wd)
def PostS (r : SRes) (En : Ends) (W : WX) : Prop := match r with
  | .nx st => ∀ (w' : Wd) (σ' : L2.St) (H' : Hp), w.le w' → SR T K G w' st σ' H' → En.nx σ' H'
  | .bk st => ∀ (w' : Wd) (σ' : L2.St) (H' : Hp), w.le w' → SR T K G w' st σ' H' → En.bk σ' H'
  | .ct st => ∀ (w' : Wd) (σ' : L2.St) (H' : Hp), w.le w' → SR T K G w' st σ' H' → En.ct σ' H'
  | .rt r st => ∀ (w' : Wd) (σ' : L2.St) (H' : Hp) (v : V), w.le w' → SR T K G w' st σ' H' → RR T K G w' st σ' H' r v → En.rt v H'
  | .ex e st => ∀ (w' : Wd) (σ' : L2.St) (H' : Hp) (cls : Value) (dx : Option Addr), w.le w' → SR T K G w' st σ' H' → ExR T K w' e cls dx → W cls dx σ' H'
  | .bad => False
end
def tS (X : Cx) (T : Tx) (f : S → SRes) : TS := fun En σ H => ∃ (G : Hp) (w : Wd) (st : S) (W : WX), SR T X.K G w st σ H ∧ Takes X W ∧ PostS T X.K G w (f st) En W
def DS (X : Cx) (T : Tx) (s : Stmt) (f : S → SRes) : Prop := PS X s (tS X T f)
def DB (X : Cx) (T : Tx) (ss : List Stmt) (f : S → SRes) : Prop := PSs X ss (tS X T f)
theorem PS.imp {X : Cx} {s : Stmt} {t t' : TS} (h : PS X s t) (i : ∀ En σ H, t' En σ H → t En σ H) : PS X s t' :=
  ⟨fun pins s σ H En I q => h.run pins s σ H En I (i En σ H q)⟩
theorem PSs.imp {X : Cx} {s : List Stmt} {t t' : TS} (h : PSs X s t) (i : ∀ En σ H, t' En σ H → t En σ H) : PSs X s t' :=
  ⟨fun pins s σ H En I q => h.run pins s σ H En I (i En σ H q)⟩
section
variable {X : Cx} {T : Tx} {K : PySem.W.Frag} {G : Hp} {w w' : Wd} {st : S} {σ : L2.St} {H : Hp} {W : WX} {En : Ends} {e c : Expr} {f : S → Res} {pos : Pos} {s : Stmt} {ss : List Stmt} {g h k : S → SRes}
theorem PostS.le {r : SRes} (h : PostS T K G w r En W) (e : w.le w') : PostS T K G w' r En W := by
  cases r with
  | nx st => exact fun w2 σ' H' l => h w2 σ' H' (e.trans l)
  | bk st => exact fun w2 σ' H' l => h w2 σ' H' (e.trans l)
  | ct st => exact fun w2 σ' H' l => h w2 σ' H' (e.trans l)
  | rt r st => exact fun w2 σ' H' v l => h w2 σ' H' v (e.trans l)
  | ex x st => exact fun w2 σ' H' c d l => h w2 σ' H' c d (e.trans l)
  | bad => exact h
theorem PostS.bind {r : SRes} {k : S → SRes} {n : L2.St → Hp → Prop} (h : PostS T K G w (r.bind k) En W)
    (q : ∀ (st1 : S) (w1 : Wd) (σ1 : L2.St) (H1 : Hp), w.le w1 → SR T K G w1 st1 σ1 H1 → PostS T K G w1 (k st1) En W → n σ1 H1) : PostS T K G w r { En with nx := n } W := by
  cases r with
  | nx st => exact fun w1 σ1 H1 l R => q st w1 σ1 H1 l R (PostS.le h l)
  | _ => exact h
theorem PostE.bindS {r : Res} {k : Rv → S → SRes} {Q' : VK} (h : PostS T K G w (r.bindS k) En W)
    (q : ∀ (r1 : Rv) (st1 : S) (w1 : Wd) (H1 : Hp) (v1 : V), w.le w1 → SR T K G w1 st1 σ H1 → RR T K G w1 st1 σ H1 r1 v1 → PostS T K G w1 (k r1 st1) En W → Q' v1 H1) : PostE T K G w σ r Q' W := by
  cases r with
  | ok r st => exact fun w1 H1 v1 l R x => q r st w1 H1 v1 l R x (PostS.le h l)
  | exc x st => exact fun w2 H' c d l R x => h w2 σ H' c d l R x
  | bad => exact h
theorem PostT.bindS {r : Res} {k : Bool → S → SRes} {Q' : Bool → Hp → Prop} (h : PostS T K G w (r.bindS fun r st => match r with
    | .val (.bl b) => k b st
    | _ => .bad) En W) (q : ∀ (b : Bool) (st1 : S) (w1 : Wd) (H1 : Hp), w.le w1 → SR T K G w1 st1 σ H1 → PostS T K G w1 (k b st1) En W → Q' b H1) : PostT T K G w σ r Q' W := by
  cases r with
  | ok r st => cases r with
    | val d => cases d with
      | bl b => exact fun w1 H1 l R => q b st w1 H1 l R (PostS.le h l)
      | _ => exact h.elim
    | _ => exact h.elim
  | exc x st => exact fun w2 H' c d l R x => h w2 σ H' c d l R x
  | bad => exact h
def sNext : S → SRes := fun st => .nx st
def sSeq (g h : S → SRes) : S → SRes := fun st => (g st).bind h
theorem db_nil : DB X T [] sNext := PSs.imp pss_nil fun En σ H ⟨G, w, st, W, R, tk, h⟩ => h w σ H w.le_refl R
theorem db_one (h : DS X T s g) : DB X T [s] g := pss_one h
theorem db_cons (h1 : DS X T s g) (h2 : DB X T ss h) : DB X T (s :: ss) (sSeq g h) := PSs.imp (pss_cons h1 h2) fun En σ H ⟨G, w, st, W, R, tk, h⟩ =>
  ⟨G, w, st, W, R, tk, PostS.bind h fun st1 w1 σ1 H1 l R1 h1 => ⟨G, w1, st1, W, R1, tk, h1⟩⟩
def sExpr (f : S → Res) : S → SRes := fun st => (f st).bindS fun _ st1 => .nx st1
theorem ds_expr (he : DE X T e f) (hs : swapsWith e none pos.line X.env = pure false := by rfl) : DS X T (.Expr e pos) (sExpr f) :=
  PS.imp (ps_expr he hs) fun En σ H ⟨G, w, st, W, R, tk, h⟩ => ⟨G, w, st, W, R, tk, PostE.bindS h fun r1 st1 w1 H1 v1 l R1 x1 h1 => h1 w1 σ H1 w1.le_refl R1⟩
def sRet (f : S → Res) : S → SRes := fun st => (f st).bindS fun r st1 => .rt r st1
theorem ds_ret (he : DE X T e f) : DS X T (.Return (some e) pos) (sRet f) :=
  PS.imp (ps_ret he) fun En σ H ⟨G, w, st, W, R, tk, h⟩ => ⟨G, w, st, W, R, tk, PostE.bindS h fun r1 st1 w1 H1 v1 l R1 x1 h1 => h1 w1 σ H1 v1 w1.le_refl R1 x1⟩
def sIf (c : S → Res) (g h : S → SRes) : S → SRes := fun st => (c st).bindS fun r st1 => match r with
  | .val (.bl true) => g st1
  | .val (.bl false) => h st1
  | _ => .bad
theorem sIf_eq {c : S → Res} (st : S) : sIf c g h st = (c st).bindS fun r st => match r with
    | .val (.bl b) => (if b = true then g st else h st)
    | _ => .bad := by
  unfold sIf
  congr
  funext r st
  cases r with
  | val d => cases d with
    | bl b => cases b <;> rfl
    | _ => rfl
  | _ => rfl
theorem ds_if {a b : List Stmt} (hc : DT X T c f) (ha : DB X T a g) (hb : DB X T b h) : DS X T (.If c a b pos) (sIf f g h) :=
  PS.imp (ps_if hc ha hb) fun En σ H ⟨G, w, st, W, R, tk, q⟩ => by
    rw [sIf_eq] at q
    refine ⟨G, w, st, W, R, tk, PostT.bindS q fun b st1 w1 H1 l R1 h1 => ?_⟩
    cases b with
    | true => rw [if_pos rfl] at h1 ⊢; exact ⟨G, w1, st1, W, R1, tk, h1⟩
    | false => rw [if_neg Bool.false_ne_true] at h1 ⊢; exact ⟨G, w1, st1, W, R1, tk, h1⟩
/-- the slots but those of vs are as they were -/
def Out (vs : List Nat) (σ σ' : L2.St) : Prop := σ'.length = σ.length ∧ ∀ j, j ∉ vs → σ'[j]? = σ[j]?
/-- a value that nobody changes goes to a target (whose slots are vs) -/
def tG (X : Cx) (T : Tx) (vs : List Nat) (g : D → S → Option S) : TG := fun v σ H Q => ∃ (G : Hp) (w : Wd) (st : S) (d : D), SR T X.K G w st σ H ∧ RepW T X.K w v d ∧ match g d st with
  | some st' => ∀ (σ' : L2.St), Out vs σ σ' → SR T X.K G w st' σ' H → Q σ' H
  | none => False
def DG (X : Cx) (T : Tx) (tg : Expr) (vs : List Nat) (g : D → S → Option S) : Prop := PG X tg (tG X T vs g)
theorem PG.imp {tg : Expr} {t t' : TG} (h : PG X tg t) (i : ∀ v σ H Q, t' v σ H Q → t v σ H Q) : PG X tg t' :=
  ⟨fun pins s σ H v u Q I r q => h.run pins s σ H v u Q I r (i v σ H Q q)⟩
theorem SR.setF (R : SR T K G w st σ H) {i : Nat} {v : V} {d : D} (r : RepW T K w v d) : SR T K G w (st.set i (.frz d)) (σ.set i (some v)) H := by
  refine ⟨R.bas, R.exf, R.exg, R.dis, by show (st.sl.set i _).length = _; rw [List.length_set, List.length_set]; exact R.len, fun j e q => ?_, fun j e q => ?_, fun j k e f b q1 q2 z1 z2 => ?_, R.olen, R.ond, R.obj, fun j q => (getElem?_set' q).elim (fun z => nomatch z.2) (fun z => let ⟨a, h1, h2⟩ := R.hld j z.2; ⟨a, by rw [List.getElem?_set_ne (fun y => z.1 y.symm)]; exact h1, h2⟩), R.tab⟩
  · rcases getElem?_set' q with ⟨rfl, z⟩ | ⟨n, z⟩
    · cases z
      have hj : j < st.sl.length := by
        have := (List.getElem?_eq_some_iff.mp q).1
        exact (List.length_set (as := st.sl) ▸ this)
      exact ⟨v, by rw [List.getElem?_set_self (by rw [← R.len]; exact hj)], r⟩
    · obtain ⟨v', h1, h2⟩ := R.frz j e z
      exact ⟨v', by rw [List.getElem?_set_ne (fun z => n z.symm)]; exact h1, h2⟩
  · rcases getElem?_set' q with ⟨rfl, z⟩ | ⟨n, z⟩
    · cases z
    · obtain ⟨a, h1, h2⟩ := R.own j e z
      exact ⟨a, by rw [List.getElem?_set_ne (fun z => n z.symm)]; exact h1, h2⟩
  · rcases getElem?_set' q1 with ⟨_, z⟩ | ⟨n, z⟩
    · cases z
    · rcases getElem?_set' q2 with ⟨_, y⟩ | ⟨n2, y⟩
      · cases y
      · rw [List.getElem?_set_ne (fun z => n z.symm)] at z1
        rw [List.getElem?_set_ne (fun z => n2 z.symm)] at z2
        exact R.apart j k e f b z y z1 z2
theorem SR.setO (R : SR T K G w st σ H) {i : Nat} {v : V} {d : D} (r : RR T K G w st σ H (.fresh d) v) : SR T K G w (st.set i (.own d)) (σ.set i (some v)) H := by
  obtain ⟨a, rfl, f1, f2, f3, f4, f5⟩ := r
  refine ⟨R.bas, R.exf, R.exg, R.dis, by show (st.sl.set i _).length = _; rw [List.length_set, List.length_set]; exact R.len, fun j e q => ?_, fun j e q => ?_, fun j k e f b q1 q2 z1 z2 => ?_, R.olen, R.ond, R.obj, fun j q => (getElem?_set' q).elim (fun z => nomatch z.2) (fun z => let ⟨a, h1, h2⟩ := R.hld j z.2; ⟨a, by rw [List.getElem?_set_ne (fun y => z.1 y.symm)]; exact h1, h2⟩), R.tab⟩
  · rcases getElem?_set' q with ⟨rfl, z⟩ | ⟨n, z⟩
    · cases z
    · obtain ⟨v', h1, h2⟩ := R.frz j e z
      exact ⟨v', by rw [List.getElem?_set_ne (fun z => n z.symm)]; exact h1, h2⟩
  · rcases getElem?_set' q with ⟨rfl, z⟩ | ⟨n, z⟩
    · cases z
      have hj : j < st.sl.length := by
        have := (List.getElem?_eq_some_iff.mp q).1
        exact (List.length_set (as := st.sl) ▸ this)
      exact ⟨a, by rw [List.getElem?_set_self (by rw [← R.len]; exact hj)], f1, f2, f3, f5⟩
    · obtain ⟨a, h1, h2⟩ := R.own j e z
      exact ⟨a, by rw [List.getElem?_set_ne (fun z => n z.symm)]; exact h1, h2⟩
  · rcases getElem?_set' q1 with ⟨rfl, z⟩ | ⟨n, z⟩
    · have hj : j < σ.length := by
        have := (List.getElem?_eq_some_iff.mp q1).1
        have h2 : j < st.sl.length := (List.length_set (as := st.sl) ▸ this)
        rw [← R.len]; exact h2
      rw [List.getElem?_set_self hj] at z1
      cases z1
      rcases getElem?_set' q2 with ⟨e2, y⟩ | ⟨n2, y⟩
      · exact e2.symm
      · rw [List.getElem?_set_ne (fun z => n2 z.symm)] at z2
        exact absurd z2 (f4 k f y)
    · rcases getElem?_set' q2 with ⟨rfl, y⟩ | ⟨n2, y⟩
      · have hj : k < σ.length := by
          have := (List.getElem?_eq_some_iff.mp q2).1
          have h2 : k < st.sl.length := (List.length_set (as := st.sl) ▸ this)
          rw [← R.len]; exact h2
        rw [List.getElem?_set_self hj] at z2
        cases z2
        rw [List.getElem?_set_ne (fun z => n z.symm)] at z1
        exact absurd z1 (f4 j e z)
      · rw [List.getElem?_set_ne (fun z => n z.symm)] at z1
        rw [List.getElem?_set_ne (fun z => n2 z.symm)] at z2
        exact R.apart j k e f b z y z1 z2
def gN (i : Nat) : D → S → Option S := fun d st => some (st.set i (.frz d))
theorem dg_name {i : Nat} {x : Str} (hN : X.N.Nodup) (hi : X.N[i]? = some x) (hx : Loc X.env.scope x := by first | exact Or.inl rfl | exact Or.inr rfl)
    (hf : X.fn x = true ∨ X.env.scope.names.lookup x = some .local := by first | exact .inl rfl | exact .inr rfl | assumption) : DG X T (.Name x pos) [i] (gN i) :=
  PG.imp (pg_name hN hi hx hf) fun v σ H Q ⟨G, w, st, d, R, r, h⟩ => h _ ⟨List.length_set, fun j hj => List.getElem?_set_ne (fun e => hj (by rw [e]; exact List.mem_singleton_self _))⟩ (R.setF r)
def gs0 : List D → S → Option S := fun ds st => match ds with
  | [] => some st
  | _ => none
def gsC (g : D → S → Option S) (gs : List D → S → Option S) : List D → S → Option S := fun ds st => match ds with
  | d :: ds => (g d st).bind (gs ds)
  | [] => none
/-- several values, one after another -/
def tGs (X : Cx) (T : Tx) (vl : List Nat) (g : List D → S → Option S) : TGs := fun vs σ H Q => ∃ (G : Hp) (w : Wd) (st : S) (ds : List D), SR T X.K G w st σ H ∧ RepLW T X.K w vs ds ∧ match g ds st with
  | some st' => ∀ (σ' : L2.St), Out vl σ σ' → SR T X.K G w st' σ' H → Q σ' H
  | none => False
def DGs (X : Cx) (T : Tx) (tg : List Expr) (vl : List Nat) (g : List D → S → Option S) : Prop := PGs X tg (tGs X T vl g)
theorem PGs.imp {tg : List Expr} {t t' : TGs} (h : PGs X tg t) (i : ∀ v σ H Q, t' v σ H Q → t v σ H Q) : PGs X tg t' :=
  ⟨fun pins s σ H v u Q I r q => h.run pins s σ H v u Q I r (i v σ H Q q)⟩
theorem dgs_nil : DGs X T [] [] gs0 := PGs.imp pgs_nil fun vs σ H Q ⟨G, w, st, ds, R, r, h⟩ => by
  cases r with
  | nil => exact ⟨rfl, h σ ⟨rfl, fun _ _ => rfl⟩ R⟩
  | cons _ _ => exact h.elim
theorem dgs_cons {t : Expr} {ts : List Expr} {g : D → S → Option S} {gs : List D → S → Option S} {va vb : List Nat} (h1 : DG X T t va g) (h2 : DGs X T ts vb gs) (hs : (assignEach (t :: ts) X.env).map (·.2) = assign t X.env :: (assignEach ts X.env).map (·.2) := by rfl) : DGs X T (t :: ts) (va ++ vb) (gsC g gs) :=
  PGs.imp (pgs_cons h1 h2 hs) fun vs σ H Q ⟨G, w, st, ds, R, r, h⟩ => by
    cases r with
    | nil => exact h.elim
    | @cons v vs d ds r1 rs =>
      refine ⟨_, _, rfl, G, w, st, d, R, r1, ?_⟩
      unfold gsC at h
      dsimp only at h
      cases q : g d st with
      | none => rw [q] at h; exact h.elim
      | some st1 =>
        rw [q] at h
        refine fun σ1 o1 R1 => ⟨G, w, st1, ds, R1, rs, ?_⟩
        cases q2 : gs ds st1 with
        | none => rw [show (some st1).bind (gs ds) = gs ds st1 from rfl, q2] at h; exact h.elim
        | some st2 =>
          rw [show (some st1).bind (gs ds) = gs ds st1 from rfl, q2] at h
          refine fun σ2 o2 R2 => h σ2 ⟨o2.1.trans o1.1, fun j hj => ?_⟩ R2
          rw [o2.2 j (fun m => hj (List.mem_append_right _ m)), o1.2 j (fun m => hj (List.mem_append_left _ m))]
/-- (a, b, ..) = a tuple of that length -/
def gTu (n : Nat) (gs : List D → S → Option S) : D → S → Option S := fun d st => match d with
  | .tup ds => if ds.length = n then gs ds st else none
  | .lst ds => if ds.length = n then gs ds st else none
  | _ => none
theorem PG.orG {tg : Expr} {t t' : TG} (h : PG X tg t) (h' : PG X tg t') : PG X tg (fun v σ H Q => t v σ H Q ∨ t' v σ H Q) :=
  ⟨fun pins s σ H v u Q I r q => q.elim (h.run pins s σ H v u Q I r) (h'.run pins s σ H v u Q I r)⟩
theorem dg_tup {es : List Expr} {k : Nat} {gs : List D → S → Option S} {n : Nat} {vl : List Nat} (hc : X.calm = true) (h : DGs X T es vl gs)
    (hn : (assignEach es X.env).length = n := by rfl) (hst : (assignEach es X.env).findIdx? (·.1) = none := by rfl) : DG X T (.Tuple es k pos) vl (gTu n gs) :=
  PG.imp (PG.orG (pg_tup hc h hn hst) (pg_unl hc h hn hst)) fun v σ H Q ⟨G, w, st, d, R, r, q⟩ => by
    cases d <;> simp only [gTu] at q <;> try exact q.elim
    · split at q
      · rename_i st' e
        split at e
        · rename_i hl
          cases r with
          | tup h0 r0 => exact .inl ⟨_, _, rfl, SqT.of (R.exf _ _ h0), by rw [r0.len]; exact hl, G, w, st, _, R, r0, by rw [e]; exact q⟩
        · cases e
      · exact q.elim
    · split at q
      · rename_i st' e
        split at e
        · rename_i hl
          cases r with
          | lst h0 r0 => exact .inr ⟨_, _, rfl, SqL.of (R.exf _ _ h0), by rw [r0.len]; exact hl, G, w, st, _, R, r0, by rw [e]; exact q⟩
        · cases e
      · exact q.elim
end
end Bv

namespace Bv
open PySem PySem.Spec PyProof.Rows L2

/-- a result goes to a slot; the object of another slot becomes one that nobody changes -/
def store (st : S) (i : Nat) (r : Rv) : Option S := match r with
  | .fresh d => some (st.set i (.own d))
  | r => (give st r).map fun p => p.2.set i (.frz p.1)
def sAsg (i : Nat) (f : S → Res) : S → SRes := fun st => (f st).bindS fun r st1 => match store st1 i r with
  | some st2 => .nx st2
  | none => .bad
section
variable {X : Cx} {T : Tx} {K : PySem.W.Frag} {G : Hp} {w w' : Wd} {st : S} {σ : L2.St} {H : Hp} {W : WX} {En : Ends} {e c : Expr} {f : S → Res} {pos : Pos} {s : Stmt} {ss : List Stmt} {g h k : S → SRes}
theorem SR.store (R : SR T K G w st σ H) {r : Rv} {v : V} {i : Nat} {st' : S} (x : RR T K G w st σ H r v) (e : store st i r = some st') : ∃ w', w.le w' ∧ SR T K G w' st' (σ.set i (some v)) H := by
  have go : (Bv.give st r).map (fun p => p.2.set i (.frz p.1)) = some st' → ∃ w', w.le w' ∧ SR T K G w' st' (σ.set i (some v)) H := fun e => by
    cases q : Bv.give st r with
    | none => rw [q] at e; cases e
    | some p =>
      rw [q] at e
      cases e
      obtain ⟨d, st1⟩ := p
      obtain ⟨w', le, R', x'⟩ := R.give x q
      exact ⟨w', le, R'.setF x'⟩
  cases r with
  | fresh d => cases e; exact ⟨w, w.le_refl, R.setO x⟩
  | val d => exact go e
  | bor j => exact go e
theorem ds_asg {i : Nat} {x : Str} {pos' : Pos} (hN : X.N.Nodup) (hi : X.N[i]? = some x) (he : DE X T e f) (hx : Loc X.env.scope x := by first | exact Or.inl rfl | exact Or.inr rfl)
    (hs : swapsWith e (some (.Name x pos')) pos.line X.env = pure false := by rfl) (hf : X.fn x = true ∨ X.env.scope.names.lookup x = some .local := by first | exact .inl rfl | exact .inr rfl | assumption) : DS X T (.Assign [.Name x pos'] e pos) (sAsg i f) :=
  PS.imp (ps_set hN hi hx he hs hf) fun En σ H ⟨G, w, st, W, R, tk, h⟩ => ⟨G, w, st, W, R, tk, PostE.bindS h fun r1 st1 w1 H1 v1 l R1 x1 h1 => by
    cases q : store st1 i r1 with
    | none => rw [q] at h1; exact h1.elim
    | some st2 =>
      rw [q] at h1
      obtain ⟨w2, l2, R2⟩ := R1.store x1 q
      exact h1 w2 _ H1 l2 R2⟩
end
inductive FRes where
  | ok (rs : List Rv) (s : S) | exc (e : Exn) (s : S) | bad
def FRes.bind (r : FRes) (k : List Rv → S → FRes) : FRes := match r with
  | .ok ds s => k ds s
  | .exc e s => .exc e s
  | .bad => .bad
def Res.bindF (r : Res) (k : Rv → S → FRes) : FRes := match r with
  | .ok r s => k r s
  | .exc e s => .exc e s
  | .bad => .bad
def FRes.bindS (r : FRes) (k : List Rv → S → SRes) : SRes := match r with
  | .ok r s => k r s
  | .exc e s => .ex e s
  | .bad => .bad
def fNil : S → FRes := fun st => .ok [] st
/-- a slot's object is given away, a new one stays new -/
def keepF (st : S) : Rv → Option (Rv × S)
  | .fresh d => some (.fresh d, st)
  | r => (give st r).map fun p => (.val p.1, p.2)
def fCons (f : S → Res) (g : S → FRes) : S → FRes := fun st => (f st).bindF fun r st1 => match keepF st1 r with
  | some (r, st2) => (g st2).bind fun rs st3 => .ok (r :: rs) st3
  | none => .bad
/-- the results as they stand; the new ones are apart -/
inductive RRs (T : Tx) (K : PySem.W.Frag) (G : Hp) (w : Wd) (st : S) (σ : L2.St) (H : Hp) : List Rv → List V → Prop
  | nil : RRs T K G w st σ H [] []
  | val {d : D} {v : V} {rs : List Rv} {vs : List V} : RepW T K w v d → RRs T K G w st σ H rs vs → RRs T K G w st σ H (.val d :: rs) (v :: vs)
  | fresh {d : D} {v : V} {rs : List Rv} {vs : List V} : RR T K G w st σ H (.fresh d) v → (∀ (i : Nat) (d' : D), rs[i]? = some (.fresh d') → vs[i]? ≠ some v) → RRs T K G w st σ H rs vs → RRs T K G w st σ H (.fresh d :: rs) (v :: vs)
section
variable (T : Tx) (K : PySem.W.Frag) (G : Hp) (w : Wd) (σ : L2.St)
def PostF (r : FRes) (Q : List V → Hp → Prop) (W : WX) : Prop := match r with
  | .ok rs st => ∀ (w' : Wd) (H' : Hp) (vs : List V), w.le w' → SR T K G w' st σ H' → RRs T K G w' st σ H' rs vs → Q vs H'
  | .exc e st => ∀ (w' : Wd) (H' : Hp) (cls : Value) (dx : Option Addr), w.le w' → SR T K G w' st σ H' → ExR T K w' e cls dx → W cls dx σ H'
  | .bad => False
end
def tF (X : Cx) (T : Tx) (f : S → FRes) : TA := fun σ H Q => ∃ (G : Hp) (w : Wd) (st : S) (W : WX), SR T X.K G w st σ H ∧ Takes X W ∧ PostF T X.K G w σ (f st) Q W
def DF (X : Cx) (T : Tx) (es : List Expr) (f : S → FRes) : Prop := PA X es (tF X T f)
section
variable {X : Cx} {T : Tx} {K : PySem.W.Frag} {G G' : Hp} {w w' : Wd} {st : S} {σ : L2.St} {H : Hp} {W : WX} {En : Ends} {e c : Expr} {f : S → Res} {pos : Pos} {es : List Expr} {g : S → FRes}
theorem PostF.le {r : FRes} {Q : List V → Hp → Prop} (h : PostF T K G w σ r Q W) (e : w.le w') : PostF T K G w' σ r Q W := by
  cases r with
  | ok r st => exact fun w2 H' v l => h w2 H' v (e.trans l)
  | exc x st => exact fun w2 H' c d l => h w2 H' c d (e.trans l)
  | bad => exact h
/-- less is known of the ground -/
theorem SR.less (R : SR T K G w st σ H) (h : ∀ a o, G' a = some o → G a = some o) (ht : TabG T G') : SR T K G' w st σ H := by
  have n : ∀ a, G a = none → G' a = none := fun a e => by
    cases q : G' a with
    | none => rfl
    | some o => rw [h a o q] at e; cases e
  refine ⟨R.bas, R.exf, fun a o q => R.exg a o (h a o q), fun a o q => R.dis a o (h a o q), R.len, R.frz, fun i d q => ?_, R.apart, R.olen, R.ond, fun m d a q1 q2 => ?_, R.hld, ht⟩
  · obtain ⟨a, h1, h2, h3, h4⟩ := R.own i d q
    exact ⟨a, h1, h2, n a h3, h4⟩
  · obtain ⟨h1, h2, h3⟩ := R.obj m d a q1 q2
    exact ⟨h1, n a h2, h3⟩
theorem RR.less {r : Rv} {v : V} (x : RR T K G w st σ H r v) (h : ∀ a o, G' a = some o → G a = some o) : RR T K G' w st σ H r v := by
  have n : ∀ a, G a = none → G' a = none := fun a e => by
    cases q : G' a with
    | none => rfl
    | some o => rw [h a o q] at e; cases e
  cases r with
  | val d => exact x
  | bor i => exact x
  | fresh d =>
    obtain ⟨a, rfl, h1, h2, h3⟩ := x
    exact ⟨a, rfl, h1, n a h2, h3⟩
theorem RRs.less {rs : List Rv} {vs : List V} (x : RRs T K G w st σ H rs vs) (h : ∀ a o, G' a = some o → G a = some o) : RRs T K G' w st σ H rs vs := by
  induction x with
  | nil => exact .nil
  | val r _ ih => exact .val r ih
  | fresh r a _ ih => exact .fresh (r.less h) a ih
/-- a new object is put into the ground while more runs -/
theorem SR.ground {a : Addr} {d : D} {o : HO} (R : SR T K G w st σ H) (h1 : w.Hf a = none) (h3 : a ∉ w.io) (h4 : ∀ (i : Nat) (e : D), st.sl[i]? = some (.own e) → σ[i]? ≠ some (some (.ref a))) (ho : H a = some o) (n : ∀ ps, o ≠ .tbl ps) (hg : G a = none) : SR T K (upd G a o) w st σ H := by
  refine ⟨R.bas, R.exf, fun b u q => ?_, fun b u q => ?_, R.len, R.frz, fun i d q => ?_, R.apart, R.olen, R.ond, fun m d b q1 q2 => ?_, R.hld, R.tab.put hg⟩
  · by_cases e : b = a
    · subst e; rw [upd_same] at q; cases q; exact .of ho n
    · rw [upd_ne e] at q; exact R.exg b u q
  · by_cases e : b = a
    · subst e; exact h1
    · rw [upd_ne e] at q; exact R.dis b u q
  · obtain ⟨b, k1, k2, k3, k4⟩ := R.own i d q
    refine ⟨b, k1, k2, ?_, k4⟩
    rw [upd_ne (fun e => h4 i d q (by rw [← e]; exact k1))]
    exact k3
  · obtain ⟨k1, k2, k3⟩ := R.obj m d b q1 q2
    refine ⟨k1, ?_, k3⟩
    rw [upd_ne (fun e => h3 (by rw [← e]; exact List.mem_of_getElem? q2))]
    exact k2
theorem Ex.updG {a : Addr} {o : HO} (h : G a = none) : ∀ b u, G b = some u → (upd G a o) b = some u := Ex.new h
theorem df_nil : DF X T [] fNil := PA.imp pa_nil fun σ H Q ⟨G, w, st, W, R, tk, h⟩ => h w H [] w.le_refl R .nil
theorem df_cons (ha : DE X T e f) (hr : DF X T es g) (hs : starEach (e :: es) X.env = (false, eval e X.env) :: starEach es X.env := by rfl) : DF X T (e :: es) (fCons f g) :=
  PA.imp (pa_cons ha hr hs) fun σ H Q ⟨G, w, st, W, R, tk, h⟩ => by
    refine ⟨G, w, st, W, R, tk, ?_⟩
    unfold fCons at h
    cases q0 : f st with
    | bad => rw [q0] at h; exact h
    | exc x s1 => rw [q0] at h; exact h
    | ok r1 st1 =>
      rw [q0] at h
      intro w1 H1 v1 l R1 x1
      dsimp only [Res.bindF] at h
      have plain : ∀ d st2, give st1 r1 = some (d, st2) → PostF T X.K G w σ ((g st2).bind fun rs st3 => .ok (.val d :: rs) st3) Q W → tF X T g σ H1 fun vs H2 => Q (v1 :: vs) H2 := fun d st2 q h => by
        obtain ⟨w2, l2, R2, x2⟩ := R1.give x1 q
        refine ⟨G, w2, st2, W, R2, tk, ?_⟩
        have h := h.le (l.trans l2)
        cases q2 : g st2 with
        | bad => rw [q2] at h; exact h
        | exc x s3 => rw [q2] at h; exact h
        | ok rs st3 =>
          rw [q2] at h
          exact fun w3 H3 vs l3 R3 x3 => h w3 H3 (v1 :: vs) l3 R3 (.val (x2.mono l3) x3)
      have key : ∀ r st2, keepF st1 r1 = some (r, st2) → PostF T X.K G w σ ((g st2).bind fun rs st3 => .ok (r :: rs) st3) Q W → tF X T g σ H1 fun vs H2 => Q (v1 :: vs) H2 := fun r st2 q h => by
        cases r1 with
        | fresh d =>
          cases q
          obtain ⟨a, rfl, h1, h2, h3, h4, h5⟩ := x1
          obtain ⟨o, ho⟩ := h5.here
          refine ⟨upd G a o, w1, st1, W, R1.ground (d := d) h1 h3 h4 ho (h5.ntbl ho) h2, tk, ?_⟩
          have lg := Ex.updG (o := o) h2
          have h := h.le l
          cases q2 : g st1 with
          | bad => rw [q2] at h; exact h
          | exc x s3 =>
            rw [q2] at h
            exact fun w2 H2 c dx l2 R2 x2 => h w2 H2 c dx l2 (R2.less lg R1.tab) x2
          | ok rs st3 =>
            rw [q2] at h
            intro w3 H3 vs l3 R3 x3
            have hg : (upd G a o) a = some o := upd_same
            refine h w3 H3 (.ref a :: vs) l3 (R3.less lg R1.tab) (.fresh ⟨a, rfl, R3.dis a o hg, h2, fun m => ?_, fun i e k1 k2 => ?_, ?_⟩ (fun i d' k1 k2 => ?_) (x3.less lg))
            · obtain ⟨_, z, _⟩ := R3.io_mem m
              rw [hg] at z; cases z
            · obtain ⟨b, k3, _, k4, _⟩ := R3.own i e k1
              rw [k2] at k3; cases k3
              rw [hg] at k4; cases k4
            · exact h5.mono l3 (by rw [(R3.exg a o hg).eq (h5.ntbl ho), ho])
            · have : ∀ {rs : List Rv} {vs : List V} {i : Nat}, RRs T X.K (upd G a o) w3 st3 σ H3 rs vs → rs[i]? = some (.fresh d') → vs[i]? = some (.ref a) → False := by
                intro rs vs i x
                induction x generalizing i with
                | nil => intro k1; simp at k1
                | val _ _ ih =>
                  intro k1 k2
                  cases i with
                  | zero => simp at k1
                  | succ i => exact ih (by simpa using k1) (by simpa using k2)
                | fresh r _ _ ih =>
                  intro k1 k2
                  cases i with
                  | zero =>
                    simp at k2
                    obtain ⟨b, e, _, z, _⟩ := r
                    rw [k2] at e; cases e
                    rw [hg] at z; cases z
                  | succ i => exact ih (by simpa using k1) (by simpa using k2)
              exact this x3 k1 k2
        | val d =>
          cases q
          exact plain d st1 rfl h
        | bor i =>
          dsimp only [keepF] at q
          cases q3 : give st1 (.bor i) with
          | none => rw [q3] at q; cases q
          | some p =>
            rw [q3] at q
            cases q
            exact plain p.1 p.2 q3 h
      cases q : keepF st1 r1 with
      | none => rw [q] at h; exact h.elim
      | some p =>
        rw [q] at h
        exact key p.1 p.2 q h
def setAll (is : List Nat) (rs : List Rv) (st : S) : Option S := match is, rs with
  | [], [] => some st
  | i :: is, .val d :: rs => setAll is rs (st.set i (.frz d))
  | i :: is, .fresh d :: rs => setAll is rs (st.set i (.own d))
  | _, _ => none
def setAllV (is : List Nat) (vs : List V) (σ : L2.St) : L2.St := match is, vs with
  | i :: is, v :: vs => setAllV is vs (σ.set i (some v))
  | _, _ => σ
def sPar (is : List Nat) (g : S → FRes) : S → SRes := fun st => (g st).bindS fun rs st1 => match setAll is rs st1 with
  | some st2 => .nx st2
  | none => .bad
theorem RR.after {r : D} {v u : V} {i : Nat} {s : Sl} (x : RR T K G w st σ H (.fresh r) v) (hu : ∀ d, s = .own d → u ≠ v) (hi : st.sl.length = σ.length) : RR T K G w (st.set i s) (σ.set i (some u)) H (.fresh r) v := by
  obtain ⟨a, rfl, h1, h2, h3, h4, h5⟩ := x
  refine ⟨a, rfl, h1, h2, h3, fun j e q1 q2 => ?_, h5⟩
  rcases getElem?_set' q1 with ⟨rfl, z⟩ | ⟨n, z⟩
  · have hj : j < σ.length := by
      have := (List.getElem?_eq_some_iff.mp q1).1
      have h2 : j < st.sl.length := (List.length_set (as := st.sl) ▸ this)
      rw [← hi]; exact h2
    rw [List.getElem?_set_self hj] at q2
    exact hu e z.symm (Option.some.inj (Option.some.inj q2))
  · rw [List.getElem?_set_ne (fun z => n z.symm)] at q2
    exact h4 j e z q2
theorem RRs.after {rs : List Rv} {vs : List V} {u : V} {i : Nat} {s : Sl} (x : RRs T K G w st σ H rs vs) (hu : ∀ d, s = .own d → ∀ (j : Nat) (d' : D), rs[j]? = some (.fresh d') → vs[j]? ≠ some u) (hi : st.sl.length = σ.length) : RRs T K G w (st.set i s) (σ.set i (some u)) H rs vs := by
  induction x with
  | nil => exact .nil
  | val r _ ih => exact .val r (ih fun d e j d' h => hu d e (j + 1) d' (by simpa using h))
  | fresh r a _ ih => exact .fresh (r.after (fun d e z => hu d e 0 _ rfl (by simp [z])) hi) a (ih fun d e j d' h => hu d e (j + 1) d' (by simpa using h))
theorem SR.setAll : ∀ {is : List Nat} {rs : List Rv} {vs : List V} {st st' : S} {σ : L2.St}, SR T K G w st σ H → RRs T K G w st σ H rs vs → Bv.setAll is rs st = some st' → SR T K G w st' (setAllV is vs σ) H
  | [], [], [], st, st', σ, R, _, e => by cases e; exact R
  | [], _ :: _, _, _, _, _, _, _, e => by cases e
  | _ :: _, [], _, _, _, _, _, _, e => by cases e
  | i :: is, .val d :: rs, v :: vs, st, st', σ, R, .val r x, e => SR.setAll (is := is) (rs := rs) (vs := vs) (st := st.set i (.frz d)) (R.setF r) (x.after (s := .frz d) (fun _ z => Sl.noConfusion z) R.len) e
  | i :: is, .fresh d :: rs, v :: vs, st, st', σ, R, .fresh r a x, e => SR.setAll (is := is) (rs := rs) (vs := vs) (st := st.set i (.own d)) (R.setO r) (x.after (s := .own d) (fun _ _ j d' h => a j d' h) R.len) e
  | _ :: _, .bor _ :: _, _, _, _, _, _, _, e => by cases e
theorem PostF.bindS {r : FRes} {k : List Rv → S → SRes} {Q' : List V → Hp → Prop} (h : PostS T K G w (r.bindS k) En W)
    (q : ∀ (rs : List Rv) (st1 : S) (w1 : Wd) (H1 : Hp) (vs : List V), w.le w1 → SR T K G w1 st1 σ H1 → RRs T K G w1 st1 σ H1 rs vs → PostS T K G w1 (k rs st1) En W → Q' vs H1) : PostF T K G w σ r Q' W := by
  cases r with
  | ok r st => exact fun w1 H1 v1 l R x => q r st w1 H1 v1 l R x (PostS.le h l)
  | exc x st => exact fun w2 H' c d l R x => h w2 σ H' c d l R x
  | bad => exact h
theorem RRs.two {a b : Rv} {vs : List V} (x : RRs T K G w st σ H [a, b] vs) : ∃ u v, vs = [u, v] := by
  have : ∀ {rs vs}, RRs T K G w st σ H rs vs → vs.length = rs.length := by
    intro rs vs x
    induction x with
    | nil => rfl
    | val _ _ ih => simp [ih]
    | fresh _ _ _ ih => simp [ih]
  have h := this x
  match vs, h with
  | [u, v], _ => exact ⟨u, v, rfl⟩
theorem RRs.len {rs : List Rv} {vs : List V} (x : RRs T K G w st σ H rs vs) : vs.length = rs.length := by
  induction x with
  | nil => rfl
  | val _ _ ih => simp [ih]
  | fresh _ _ _ ih => simp [ih]
theorem setAll_len : ∀ {is : List Nat} {rs : List Rv} {st st' : S}, Bv.setAll is rs st = some st' → is.length = rs.length
  | [], [], _, _, _ => rfl
  | [], _ :: _, _, _, e => by cases e
  | _ :: _, [], _, _, e => by cases e
  | i :: is, .val d :: rs, st, st', e => by
    have : Bv.setAll is rs (st.set i (.frz d)) = some st' := e
    simp [setAll_len this]
  | i :: is, .fresh d :: rs, st, st', e => by
    have : Bv.setAll is rs (st.set i (.own d)) = some st' := e
    simp [setAll_len this]
  | _ :: _, .bor _ :: _, _, _, e => by cases e
/-- two local names (the stores are swapped) -/
theorem ds_par {i j : Nat} {x y : Str} {a b : Expr} {px py pt : Pos} {kt k2 pt2} (hc : X.calm = true) (hN : X.N.Nodup) (hi : X.N[i]? = some x) (hj : X.N[j]? = some y) (hij : i ≠ j)
    (hx : X.env.scope.names.lookup x = some .local) (hy : X.env.scope.names.lookup y = some .local) (ha : DF X T [a, b] g)
    (hw : swappedStores [.Tuple [.Name x px, .Name y py] kt pt] (.Tuple [a, b] k2 pt2) X.env = pure (some [x, y]))
    (hs : swapsWithSole [.Tuple [.Name x px, .Name y py] kt pt] (.Tuple [a, b] k2 pt2) pos.line X.env = pure false := by rfl) :
    DS X T (.Assign [.Tuple [.Name x px, .Name y py] kt pt] (.Tuple [a, b] k2 pt2) pos) (sPar [i, j] g) :=
  PS.imp (ps_par hc hN hi hj hij hx hy ha hw hs) fun En σ H ⟨G, w, st, W, R, tk, h⟩ => ⟨G, w, st, W, R, tk, PostF.bindS h fun rs st1 w1 H1 vs l R1 x1 h1 => by
    cases q : setAll [i, j] rs st1 with
    | none => rw [q] at h1; exact h1.elim
    | some st2 =>
      rw [q] at h1
      have hl := setAll_len q
      have hv := x1.len
      match vs, hv.trans hl.symm with
      | [u, v], _ => exact ⟨u, v, rfl, h1 w1 _ H1 w1.le_refl (R1.setAll x1 q)⟩⟩
end
end Bv

namespace Bv
open PySem PySem.Spec PyProof.Rows L2

/-- what an iterator hands out at a turn stands for d -/
def Yl (T : Tx) (K : PySem.W.Frag) (w : Wd) (H : Hp) (x : V) (H' : Hp) (d : D) : Prop :=
  (H' = H ∧ RepW T K w x d) ∨ ∃ p xs es, x = .ref p ∧ H p = none ∧ H' = upd H p (.tup xs) ∧ d = .tup es ∧ RepLW T K w xs es
/-- an iterator that hands out ds, while what is frozen stands -/
structure ItD (T : Tx) (K : PySem.W.Frag) (w : Wd) (J : It) (ds : List D) : Prop where
  goes : ∀ (i : Nat) (H : Hp), i < ds.length → Ex w.Hf H → J.go i H
  stops : ∀ (H : Hp), Ex w.Hf H → J.stop ds.length H
  yields : ∀ (i : Nat) (H : Hp) (x : V) (H' : Hp), i < ds.length → Ex w.Hf H → J.yld i H x H' → ∃ d, ds[i]? = some d ∧ Yl T K w H x H' d
section
variable (T : Tx) (K : PySem.W.Frag) (G : Hp) (w : Wd) (σ : L2.St)
def PostI (r : LRes) (R : It → Hp → Prop) (W : WX) : Prop := match r with
  | .ok ds st => ∀ (w' : Wd) (H' : Hp) (J : It), w.le w' → SR T K G w' st σ H' → ItD T K w' J ds → R J H'
  | .exc e st => ∀ (w' : Wd) (H' : Hp) (cls : Value) (dx : Option Addr), w.le w' → SR T K G w' st σ H' → ExR T K w' e cls dx → W cls dx σ H'
  | .bad => False
end
def tI (X : Cx) (T : Tx) (f : S → LRes) : TI := fun σ H R => ∃ (G : Hp) (w : Wd) (st : S) (W : WX), SR T X.K G w st σ H ∧ Takes X W ∧ PostI T X.K G w σ (f st) R W
def DI (X : Cx) (T : Tx) (tg e : Expr) (f : S → LRes) : Prop := PI X tg e (tI X T f)
theorem PI.imp {X : Cx} {tg e : Expr} {t t' : TI} (h : PI X tg e t) (i : ∀ σ H Q, t' σ H Q → t σ H Q) : PI X tg e t' :=
  ⟨fun pins s σ H Q I q => h.run pins s σ H Q I (i σ H Q q)⟩
def forD (g : D → S → Option S) (b : S → SRes) : List D → S → SRes
  | [], st => .nx st
  | d :: ds, st => match g d st with
    | none => .bad
    | some st1 => match b st1 with
      | .nx st2 => forD g b ds st2
      | .ct st2 => forD g b ds st2
      | .bk st2 => .nx st2
      | .rt r s => .rt r s
      | .ex e s => .ex e s
      | .bad => .bad
def sFor (f : S → LRes) (g : D → S → Option S) (b : S → SRes) : S → SRes := fun st => match f st with
  | .ok ds st1 => forD g b ds st1
  | .exc e s => .ex e s
  | .bad => .bad
section
variable {X : Cx} {T : Tx} {K : PySem.W.Frag} {G : Hp} {w w' : Wd} {st : S} {σ : L2.St} {H : Hp} {W : WX} {En : Ends} {tg e c : Expr} {f : S → Res} {pos : Pos} {body : List Stmt} {g : D → S → Option S} {b : S → SRes} {fi : S → LRes}
theorem ds_for (hp : PassesOwn (model X.prog X.w) X.A X.env X.xe) (hc : X.calm = true) {vl : List Nat} (hi : DI X T tg e fi) (hg : DG X T tg vl g) (hb : DB X T body b)
    (hs : ∀ x, foldedSetIterable e X.env x = pure x := by intro _; rfl) : DS X T (.For tg e body [] pos) (sFor fi g b) :=
  PS.imp (ps_for hp hc hi hg hb hs) fun En σ H ⟨G, w, st, W, R, tk, h⟩ => by
    refine ⟨G, w, st, W, R, tk, ?_⟩
    unfold sFor at h
    cases q : fi st with
    | bad => rw [q] at h; exact h
    | exc x s => rw [q] at h; exact fun w' H' c d l R x => h w' σ H' c d l R x
    | ok ds st1 =>
      rw [q] at h
      intro w1 H1 J l1 R1 J1
      have h : PostS T X.K G w1 (forD g b ds st1) En W := PostS.le h l1
      refine ⟨fun i m σ H => m = ds.length - i ∧ i ≤ ds.length ∧ ∃ (w2 : Wd) (st2 : S), w1.le w2 ∧ SR T X.K G w2 st2 σ H ∧ PostS T X.K G w2 (forD g b (ds.drop i) st2) En W,
        ⟨ds.length, by simp, Nat.zero_le _, w1, st1, w1.le_refl, R1, by simpa using h⟩, ?_⟩
      rintro i m σ2 H2 ⟨rfl, hi, w2, st2, l2, R2, h2⟩
      by_cases hlt : i < ds.length
      · refine .inr ⟨J1.goes i H2 hlt (l2.1.trans R2.exf), fun σ' H' => ∃ (w3 : Wd) (st3 : S), w2.le w3 ∧ SR T X.K G w3 st3 σ' H' ∧ PostS T X.K G w3 (forD g b (ds.drop (i + 1)) st3) En W, ?_, fun x H3 y => ?_⟩
        · rintro σ' H' ⟨w3, st3, l3, R3, h3⟩
          exact ⟨ds.length - (i + 1), by omega, rfl, hlt, w3, st3, l2.trans l3, R3, h3⟩
        · obtain ⟨d, hd, yl⟩ := J1.yields i H2 x H3 hlt (l2.1.trans R2.exf) y
          have ed : ds.drop i = d :: ds.drop (i + 1) := by
            rw [List.drop_eq_getElem_cons hlt]
            congr 1
            exact Option.some.inj ((List.getElem?_eq_getElem hlt).symm.trans hd)
          rw [ed] at h2
          obtain ⟨w3, l3, R3, x3⟩ : ∃ w3, w2.le w3 ∧ SR T X.K G w3 st2 σ2 H3 ∧ RepW T X.K w3 x d := by
            rcases yl with ⟨rfl, x3⟩ | ⟨p, xs, es, rfl, hp, rfl, rfl, x3⟩
            · exact ⟨w2, w2.le_refl, R2, x3.mono l2⟩
            · obtain ⟨h1, h2, h3, h4⟩ := R2.free hp
              obtain ⟨le, R3⟩ := (R2.new (o := .tup xs) hp).freeze h1 h2 h3 h4 upd_same
              exact ⟨_, le, R3, .tup upd_same (RepL.mono (l2.trans le).1 (l2.trans le).2 x3)⟩
          have h3 := PostS.le h2 l3
          unfold forD at h3
          refine ⟨G, w3, st2, d, R3, x3, ?_⟩
          cases qg : g d st2 with
          | none => rw [qg] at h3; exact h3.elim
          | some st4 =>
            rw [qg] at h3
            intro σ4 _ R4
            refine ⟨G, w3, st4, W, R4, tk, ?_⟩
            dsimp only at h3
            cases qb : b st4 with
            | bad => rw [qb] at h3; exact h3
            | nx st5 => rw [qb] at h3; exact fun w5 σ5 H5 l5 R5 => ⟨w5, st5, l3.trans l5, R5, PostS.le h3 l5⟩
            | ct st5 => rw [qb] at h3; exact fun w5 σ5 H5 l5 R5 => ⟨w5, st5, l3.trans l5, R5, PostS.le h3 l5⟩
            | bk st5 => rw [qb] at h3; exact h3
            | rt r s => rw [qb] at h3; exact h3
            | ex e s => rw [qb] at h3; exact h3
      · have e9 : i = ds.length := by omega
        subst e9
        rw [List.drop_length] at h2
        exact .inl ⟨J1.stops H2 (l2.1.trans R2.exf), h2 w2 σ2 H2 w2.le_refl R2⟩
end
/-- the slots of the comprehension's own names -/
def wipeS : List Nat → S → S
  | [], st => st
  | v :: vs, st => (wipeS vs st).set v .no
/-- none of them has an object of its own -/
def noOwn (vs : List Nat) (st : S) : Bool := vs.all fun v => match st.sl[v]? with
  | some (.own _) => false
  | _ => true
/-- behind the comprehension they are as before -/
def backS : List Nat → S → S → S
  | [], _, st => st
  | v :: vs, st0, st => match st0.sl[v]? with
    | some s => (backS vs st0 st).set v s
    | none => backS vs st0 st
def lcD (g : D → S → Option S) (t : S → Res) (f : S → Res) (vs : List Nat) : List D → List D → S → LRes
  | [], acc, st => .ok acc st
  | d :: ds, acc, st => match g d (wipeS vs st) with
    | none => .bad
    | some st1 => match t st1 with
      | .ok (.val (.bl true)) st2 => match f st2 with
        | .ok r st3 => match give st3 r with
          | some (x, st4) => if acc.length < sizeLine then lcD g t f vs ds (acc ++ [x]) (wipeS vs st4) else .bad
          | none => .bad
        | _ => .bad
      | .ok (.val (.bl false)) st2 => lcD g t f vs ds acc (wipeS vs st2)
      | _ => .bad
def eLc (fi : S → LRes) (g : D → S → Option S) (t : S → Res) (f : S → Res) (vs : List Nat) : S → Res := fun st => match fi st with
  | .ok ds st1 => if noOwn vs st1 = true then match lcD g t f vs ds [] (wipeS vs st1) with
    | .ok xs st2 => .ok (.fresh (.lst xs)) (backS vs st1 st2)
    | _ => .bad else .bad
  | .exc e s => .exc e s
  | .bad => .bad
end Bv

namespace Bv
open PySem PySem.Spec PyProof.Rows L2
section
variable {X : Cx} {T : Tx} {K : PySem.W.Frag} {G : Hp} {w w' : Wd} {st st' : S} {σ σ' : L2.St} {H : Hp} {W : WX} {En : Ends} {tg e elt : Expr} {f : S → Res} {pos : Pos} {g : D → S → Option S} {fi : S → LRes} {vs : List Nat}
theorem wipe_out : ∀ (vs : List Nat) (σ : L2.St), Out vs σ (wipe σ vs)
  | [], σ => ⟨rfl, fun _ _ => rfl⟩
  | v :: vs, σ => by
    obtain ⟨h1, h2⟩ := wipe_out vs σ
    refine ⟨by unfold wipe; rw [List.length_set, h1], fun j hj => ?_⟩
    unfold wipe
    rw [List.getElem?_set_ne (fun e => hj (by rw [e]; exact List.mem_cons_self ..))]
    exact h2 j (fun m => hj (List.mem_cons_of_mem _ m))
theorem wipe_in : ∀ (vs : List Nat) (σ : L2.St) (j : Nat), j ∈ vs → (wipe σ vs)[j]? = if j < σ.length then some none else none
  | v :: vs, σ, j, h => by
    unfold wipe
    by_cases e : v = j
    · subst e
      rw [List.getElem?_set, if_pos rfl, (wipe_out vs σ).1]
    · rw [List.getElem?_set_ne e]
      rcases List.mem_cons.mp h with h | h
      · exact absurd h.symm e
      · exact wipe_in vs σ j h
theorem wipe_eq {vs : List Nat} (o : ∀ j, j ∉ vs → σ'[j]? = σ[j]?) (hl : σ'.length = σ.length) : wipe σ' vs = wipe σ vs := by
  refine List.ext_getElem? fun j => ?_
  by_cases h : j ∈ vs
  · rw [wipe_in vs σ' j h, wipe_in vs σ j h, hl]
  · rw [(wipe_out vs σ').2 j h, (wipe_out vs σ).2 j h, o j h]
theorem wipeS_out : ∀ (vs : List Nat) (st : S) (j : Nat), j ∉ vs → (wipeS vs st).sl[j]? = st.sl[j]?
  | [], st, _, _ => rfl
  | v :: vs, st, j, hj => by
    show ((wipeS vs st).sl.set v .no)[j]? = _
    rw [List.getElem?_set_ne (fun e => hj (by rw [e]; exact List.mem_cons_self ..))]
    exact wipeS_out vs st j (fun m => hj (List.mem_cons_of_mem _ m))
theorem wipeS_ob : ∀ (vs : List Nat) (st : S), (wipeS vs st).ob = st.ob
  | [], st => rfl
  | v :: vs, st => wipeS_ob vs st
theorem wipeS_len : ∀ (vs : List Nat) (st : S), (wipeS vs st).sl.length = st.sl.length
  | [], st => rfl
  | v :: vs, st => by
    show ((wipeS vs st).sl.set v .no).length = _
    rw [List.length_set]
    exact wipeS_len vs st
theorem wipeS_in : ∀ (vs : List Nat) (st : S) (j : Nat) (s : Sl), j ∈ vs → (wipeS vs st).sl[j]? = some s → s = .no
  | v :: vs, st, j, s, h, e => by
    have e' : ((wipeS vs st).sl.set v .no)[j]? = some s := e
    rcases getElem?_set' e' with ⟨_, z⟩ | ⟨n, z⟩
    · exact z
    · rcases List.mem_cons.mp h with h | h
      · exact absurd h n
      · exact wipeS_in vs st j s h z
/-- known slots only where the wiped ones are not -/
theorem wipeS_some {vs : List Nat} {st : S} {j : Nat} {s : Sl} (e : (wipeS vs st).sl[j]? = some s) (h : s ≠ .no) : j ∉ vs ∧ st.sl[j]? = some s := by
  have hj : j ∉ vs := fun m => h (wipeS_in vs st j s m e)
  exact ⟨hj, by rw [← wipeS_out vs st j hj]; exact e⟩
/-- the slots of vs are forgotten; the others stand as they do -/
theorem SR.wipe (R : SR T K G w st σ H) {vs : List Nat} (o : Out vs σ σ') : SR T K G w (wipeS vs st) σ' H := by
  refine ⟨R.bas, R.exf, R.exg, R.dis, by rw [wipeS_len, R.len, o.1], fun j e q => ?_, fun j e q => ?_, fun j k e f b q1 q2 z1 z2 => ?_, by rw [wipeS_ob]; exact R.olen, R.ond, by rw [wipeS_ob]; exact R.obj, fun j q => let ⟨hj, q⟩ := wipeS_some q (by simp); let ⟨a, h1, h2⟩ := R.hld j q; ⟨a, by rw [o.2 j hj]; exact h1, h2⟩, R.tab⟩
  · obtain ⟨hj, q⟩ := wipeS_some q (by simp)
    obtain ⟨v, h1, h2⟩ := R.frz j e q
    exact ⟨v, by rw [o.2 j hj]; exact h1, h2⟩
  · obtain ⟨hj, q⟩ := wipeS_some q (by simp)
    obtain ⟨a, h1, h2⟩ := R.own j e q
    exact ⟨a, by rw [o.2 j hj]; exact h1, h2⟩
  · obtain ⟨hj, q1⟩ := wipeS_some q1 (by simp)
    obtain ⟨hk, q2⟩ := wipeS_some q2 (by simp)
    rw [o.2 j hj] at z1
    rw [o.2 k hk] at z2
    exact R.apart j k e f b q1 q2 z1 z2
theorem backS_out : ∀ (vs : List Nat) (st0 st : S) (j : Nat), j ∉ vs → (backS vs st0 st).sl[j]? = st.sl[j]?
  | [], _, st, _, _ => rfl
  | v :: vs, st0, st, j, hj => by
    unfold backS
    split
    · show ((backS vs st0 st).sl.set v _)[j]? = _
      rw [List.getElem?_set_ne (fun e => hj (by rw [e]; exact List.mem_cons_self ..))]
      exact backS_out vs st0 st j (fun m => hj (List.mem_cons_of_mem _ m))
    · exact backS_out vs st0 st j (fun m => hj (List.mem_cons_of_mem _ m))
theorem backS_ob : ∀ (vs : List Nat) (st0 st : S), (backS vs st0 st).ob = st.ob
  | [], _, st => rfl
  | v :: vs, st0, st => by
    unfold backS
    split
    · exact backS_ob vs st0 st
    · exact backS_ob vs st0 st
theorem backS_len : ∀ (vs : List Nat) (st0 st : S), (backS vs st0 st).sl.length = st.sl.length
  | [], _, st => rfl
  | v :: vs, st0, st => by
    unfold backS
    split
    · show ((backS vs st0 st).sl.set v _).length = _
      rw [List.length_set]
      exact backS_len vs st0 st
    · exact backS_len vs st0 st
theorem backS_in : ∀ (vs : List Nat) (st0 st : S) (j : Nat) (s : Sl), st0.sl.length = st.sl.length → j ∈ vs → (backS vs st0 st).sl[j]? = some s → st0.sl[j]? = some s
  | v :: vs, st0, st, j, s, hl, h, e => by
    unfold backS at e
    split at e
    · rename_i s0 q
      have e' : ((backS vs st0 st).sl.set v s0)[j]? = some s := e
      rcases getElem?_set' e' with ⟨e1, z⟩ | ⟨n, z⟩
      · rw [e1, z]; exact q
      · rcases List.mem_cons.mp h with h | h
        · exact absurd h n
        · exact backS_in vs st0 st j s hl h z
    · rename_i q
      rcases List.mem_cons.mp h with h | h
      · have hj : j < (backS vs st0 st).sl.length := (List.getElem?_eq_some_iff.mp e).1
        rw [backS_len, ← hl] at hj
        have q' : st0.sl[v]? = none := q
        rw [← h, List.getElem?_eq_getElem hj] at q'
        cases q'
      · exact backS_in vs st0 st j s hl h e
theorem noOwn_at {vs : List Nat} {st : S} (h : noOwn vs st = true) {j : Nat} {d : D} (m : j ∈ vs) : st.sl[j]? ≠ some (.own d) := fun e => by
  have := List.all_eq_true.mp h j m
  rw [e] at this
  cases this
/-- behind the comprehension -/
theorem SR.back (R0 : SR T K G w st σ H) {H' : Hp} (le : w.le w') (hn : noOwn vs st = true) (R : SR T K G w' st' (L2.wipe σ vs) H') : SR T K G w' (backS vs st st') σ H' := by
  have o := wipe_out vs σ
  have hl : st.sl.length = st'.sl.length := by rw [R0.len, R.len, o.1]
  refine ⟨R.bas, R.exf, R.exg, R.dis, by rw [backS_len, R.len, o.1], fun j e q => ?_, fun j e q => ?_, fun j k e f b q1 q2 z1 z2 => ?_, by rw [backS_ob]; exact R.olen, R.ond, by rw [backS_ob]; exact R.obj, fun j q => if hj : j ∈ vs then R0.hld j (backS_in vs st st' j _ hl hj q) else let ⟨a, h1, h2⟩ := R.hld j (by rw [backS_out vs st st' j hj] at q; exact q); ⟨a, by rw [← o.2 j hj]; exact h1, h2⟩, R.tab⟩
  · by_cases hj : j ∈ vs
    · have q := backS_in vs st st' j _ hl hj q
      obtain ⟨v, h1, h2⟩ := R0.frz j e q
      exact ⟨v, h1, h2.mono le⟩
    · rw [backS_out vs st st' j hj] at q
      obtain ⟨v, h1, h2⟩ := R.frz j e q
      exact ⟨v, by rw [← o.2 j hj]; exact h1, h2⟩
  · by_cases hj : j ∈ vs
    · exact absurd (backS_in vs st st' j _ hl hj q) (noOwn_at hn hj)
    · rw [backS_out vs st st' j hj] at q
      obtain ⟨a, h1, h2⟩ := R.own j e q
      exact ⟨a, by rw [← o.2 j hj]; exact h1, h2⟩
  · by_cases hj : j ∈ vs
    · exact absurd (backS_in vs st st' j _ hl hj q1) (noOwn_at hn hj)
    · by_cases hk : k ∈ vs
      · exact absurd (backS_in vs st st' k _ hl hk q2) (noOwn_at hn hk)
      · rw [backS_out vs st st' j hj] at q1
        rw [backS_out vs st st' k hk] at q2
        rw [← o.2 j hj] at z1
        rw [← o.2 k hk] at z2
        exact R.apart j k e f b q1 q2 z1 z2
/-- where nothing that is raised is taken (within a comprehension) -/
def tEF (K : PySem.W.Frag) (T : Tx) (f : S → Res) : TE := fun σ H Q => ∃ (G : Hp) (w : Wd) (st : S), SR T K G w st σ H ∧ PostE T K G w σ (f st) Q fun _ _ _ _ => False
def tTF (K : PySem.W.Frag) (T : Tx) (f : S → Res) : TT := fun σ H Q => ∃ (G : Hp) (w : Wd) (st : S), SR T K G w st σ H ∧ PostT T K G w σ (f st) Q fun _ _ _ _ => False
theorem DE.toF {e : Expr} {T : Tx} (h : DE X T e f) : PE X e (tEF X.K T f) := PE.imp h fun σ H Q ⟨G, w, st, R, h⟩ => ⟨G, w, st, _, R, takes0, h⟩
theorem DT.toF {e : Expr} {T : Tx} (h : DT X T e f) : PT X e (tTF X.K T f) := PT.imp h fun σ H Q ⟨G, w, st, R, h⟩ => ⟨G, w, st, _, R, takes0, h⟩
/-- the reading of a comprehension -/
theorem tLc_of {T : Tx} {t : S → Res} {vg : List Nat} (hv : ∀ i ∈ vg, i ∈ vs) {σ : L2.St} {H : Hp} {Q : VK} (h : tE X T (eLc fi g t f vs) σ H Q) :
    tLc (tI X T fi) (tG X T vg g) (tTF X.K T t) (tEF X.K T f) vs σ H Q := by
  obtain ⟨G, w, st, W, R, tk, h⟩ := h
  refine ⟨G, w, st, W, R, tk, ?_⟩
  unfold eLc at h
  cases q : fi st with
  | bad => rw [q] at h; exact h
  | exc x s => rw [q] at h; exact h
  | ok ds st1 =>
    rw [q] at h
    intro w1 H1 J l1 R1 J1 D0 hD
    have h : PostE T X.K G w1 σ (if noOwn vs st1 = true then match lcD g t f vs ds [] (wipeS vs st1) with
      | .ok xs st2 => .ok (.fresh (.lst xs)) (backS vs st1 st2)
      | _ => .bad else .bad) Q W := PostE.le h l1
    by_cases hn : noOwn vs st1 = true
    case neg => rw [if_neg hn] at h; exact h.elim
    rw [if_pos hn] at h
    obtain ⟨f1, f2, f3, f4⟩ := R1.free hD
    have start : SR T X.K (upd G D0 (.lst [])) w1 (wipeS vs st1) (wipe σ vs) (upd H1 D0 (.lst [])) :=
      ((R1.new (o := .lst []) hD).ground (d := .lst []) f1 f3 f4 upd_same (fun _ z => by cases z) f2).wipe (wipe_out vs σ)
    have lg : ∀ (us : List V) b u, G b = some u → (upd G D0 (.lst us)) b = some u := fun us => Ex.updG f2
    refine ⟨fun i m H => m = ds.length - i ∧ i ≤ ds.length ∧ ∃ (w2 : Wd) (st2 : S) (acc : List D) (us : List V), w1.le w2 ∧ SR T X.K (upd G D0 (.lst us)) w2 (wipeS vs st2) (wipe σ vs) H ∧ RepLW T X.K w2 us acc ∧
        PostE T X.K G w2 σ (match lcD g t f vs (ds.drop i) acc (wipeS vs st2) with
          | .ok xs st2 => .ok (.fresh (.lst xs)) (backS vs st1 st2)
          | _ => .bad) Q W,
      ⟨ds.length, by simp, Nat.zero_le _, w1, st1, [], [], w1.le_refl, start, .nil, by simpa using h⟩, ?_⟩
    rintro i m H2 ⟨rfl, hi, w2, st2, acc, us, l2, R2, x2, h2⟩
    have hDg : (upd G D0 (HO.lst us)) D0 = some (.lst us) := upd_same
    have hfree : ∀ {w5 : Wd} {st5 : S} {σ5 : L2.St} {H5 : Hp}, SR T X.K (upd G D0 (HO.lst us)) w5 st5 σ5 H5 → w5.Hf D0 = none ∧ D0 ∉ w5.io ∧ (∀ (i : Nat) (e : D), st5.sl[i]? = some (.own e) → σ5[i]? ≠ some (some (.ref D0))) ∧ H5 D0 = some (.lst us) := fun {w5 st5 σ5 H5} R5 =>
      by
        refine ⟨R5.dis D0 _ hDg, fun m => ?_, fun i e k1 k2 => ?_, (R5.exg D0 _ hDg).eq (fun _ z => by cases z)⟩
        · obtain ⟨_, z, _⟩ := R5.io_mem m
          rw [hDg] at z
          cases z
        · obtain ⟨b, k3, _, k4, _⟩ := R5.own i e k1
          rw [k2] at k3
          cases k3
          rw [hDg] at k4
          cases k4
    by_cases hlt : i < ds.length
    · refine .inr ⟨J1.goes i H2 hlt (l2.1.trans R2.exf), fun H' => ∃ (w3 : Wd) (st3 : S) (acc : List D) (us : List V), w1.le w3 ∧ SR T X.K (upd G D0 (.lst us)) w3 (wipeS vs st3) (wipe σ vs) H' ∧ RepLW T X.K w3 us acc ∧
          PostE T X.K G w3 σ (match lcD g t f vs (ds.drop (i + 1)) acc (wipeS vs st3) with
            | .ok xs st2 => .ok (.fresh (.lst xs)) (backS vs st1 st2)
            | _ => .bad) Q W, ?_, fun x H3 y => ?_⟩
      · rintro H' ⟨w3, st3, acc, us, l3, R3, x3, h3⟩
        exact ⟨ds.length - (i + 1), by omega, rfl, hlt, w3, st3, acc, us, l3, R3, x3, h3⟩
      · obtain ⟨d, hd, yl⟩ := J1.yields i H2 x H3 hlt (l2.1.trans R2.exf) y
        have ed : ds.drop i = d :: ds.drop (i + 1) := by
          rw [List.drop_eq_getElem_cons hlt]
          congr 1
          exact Option.some.inj ((List.getElem?_eq_getElem hlt).symm.trans hd)
        rw [ed] at h2
        obtain ⟨w3, l3, R3, x3⟩ : ∃ w3, w2.le w3 ∧ SR T X.K (upd G D0 (HO.lst us)) w3 (wipeS vs st2) (wipe σ vs) H3 ∧ RepW T X.K w3 x d := by
          rcases yl with ⟨rfl, x3⟩ | ⟨p, xs, es, rfl, hp, rfl, rfl, x3⟩
          · exact ⟨w2, w2.le_refl, R2, x3.mono l2⟩
          · obtain ⟨h1, h2, h3, h4⟩ := R2.free hp
            obtain ⟨le, R3⟩ := (R2.new (o := .tup xs) hp).freeze h1 h2 h3 h4 upd_same
            exact ⟨_, le, R3, .tup upd_same (RepL.mono (l2.trans le).1 (l2.trans le).2 x3)⟩
        have h3 := PostE.le h2 l3
        unfold lcD at h3
        have R3w := R3.wipe (vs := vs) (σ' := wipe σ vs) ⟨rfl, fun _ _ => rfl⟩
        refine ⟨upd G D0 (.lst us), w3, wipeS vs (wipeS vs st2), d, R3w, x3, ?_⟩
        cases qg : g d (wipeS vs (wipeS vs st2)) with
        | none => rw [qg] at h3; exact h3.elim
        | some st4 =>
          rw [qg] at h3
          dsimp only at h3 ⊢
          intro σ4 o4 R4
          have o4' : ∀ j, j ∉ vs → σ4[j]? = (wipe σ vs)[j]? := fun j hj => o4.2 j (fun m => hj (hv j m))
          have ew : wipe σ4 vs = wipe σ vs := by
            rw [wipe_eq (σ := wipe σ vs) (σ' := σ4) o4' o4.1]
            exact wipe_eq (fun j hj => (wipe_out vs σ).2 j hj) (wipe_out vs σ).1
          refine ⟨ew, upd G D0 (.lst us), w3, st4, R4, ?_⟩
          have o5 : Out vs σ4 (wipe σ vs) := ⟨o4.1.symm, fun j hj => (o4' j hj).symm⟩
          cases qt : t st4 with
          | bad => rw [qt] at h3; exact h3
          | exc x s => rw [qt] at h3; exact h3.elim
          | ok r st5 =>
            rw [qt] at h3
            cases r with
            | fresh d => exact h3.elim
            | bor i => exact h3.elim
            | val d => cases d with
              | bl k =>
                intro w5 H5 l5 R5
                have h5 := PostE.le h3 l5
                cases k with
                | false =>
                  rw [if_neg Bool.false_ne_true]
                  exact ⟨w5, st5, acc, us, l2.trans (l3.trans l5), R5.wipe o5, RepL.mono (l3.trans l5).1 (l3.trans l5).2 x2, h5⟩
                | true =>
                  rw [if_pos rfl]
                  refine ⟨upd G D0 (.lst us), w5, st5, R5, ?_⟩
                  dsimp only at h5
                  cases qf : f st5 with
                  | bad => rw [qf] at h5; exact h5
                  | exc x s => rw [qf] at h5; exact h5.elim
                  | ok r st6 =>
                    rw [qf] at h5
                    intro w6 H6 v6 l6 R6 x6
                    dsimp only at h5
                    cases qv : give st6 r with
                    | none => rw [qv] at h5; exact h5.elim
                    | some p =>
                      obtain ⟨dx, st7⟩ := p
                      rw [qv] at h5
                      dsimp only at h5
                      by_cases hz : acc.length < sizeLine
                      case neg => rw [if_neg hz] at h5; exact h5.elim
                      rw [if_pos hz] at h5
                      obtain ⟨w7, l7, R7, x7⟩ := R6.give x6 qv
                      obtain ⟨k1, k2, k3, k4⟩ := hfree R7
                      have lw := l3.trans (l5.trans (l6.trans l7))
                      have x2' := RepL.mono lw.1 lw.2 x2
                      refine ⟨us, k4, by rw [x2.len]; exact hz, w7, st7, acc ++ [dx], us ++ [v6], l2.trans lw, ?_, x2'.append (.cons x7 .nil), PostE.le h5 (l6.trans l7)⟩
                      -- the list at D0 grows
                      have R8 : SR T X.K (upd G D0 (.lst (us ++ [v6]))) w7 st7 σ4 (upd H6 D0 (.lst (us ++ [v6]))) := by
                        have hcon : ∀ {b : Addr} {d : D}, b ≠ D0 → Con T X.K w7 H6 b d → Con T X.K w7 (upd H6 D0 (.lst (us ++ [v6]))) b d := fun {b d} n c => c.mono w7.le_refl (upd_ne n)
                        refine ⟨R7.bas, fun b o q => ?_, fun b o q => ?_, fun b o q => ?_, R7.len, R7.frz, fun j e q => ?_, R7.apart, R7.olen, R7.ond, fun n d b q1 q2 => ?_, R7.hld, R7.tab.swp (fun _ z => by cases z)⟩
                        · rw [upd_ne (fun e => by rw [e, k1] at q; cases q)]; exact R7.exf b o q
                        · by_cases e : b = D0
                          · rw [e, upd_same] at q; cases q; rw [e, upd_same]; exact .of rfl (fun _ z => by cases z)
                          · rw [upd_ne e] at q ⊢
                            exact R7.exg b o (by rw [upd_ne e]; exact q)
                        · by_cases e : b = D0
                          · rw [e]; exact k1
                          · rw [upd_ne e] at q
                            exact R7.dis b o (by rw [upd_ne e]; exact q)
                        · obtain ⟨b, z1, z2, z3, z4, z5⟩ := R7.own j e q
                          have nb : b ≠ D0 := fun z => k3 j e q (by rw [← z]; exact z1)
                          exact ⟨b, z1, z2, by rw [upd_ne nb] at z3 ⊢; exact z3, z4, hcon nb z5⟩
                        · obtain ⟨z1, z2, z3⟩ := R7.obj n d b q1 q2
                          have nb : b ≠ D0 := fun z => k2 (by rw [← z]; exact List.mem_of_getElem? q2)
                          exact ⟨z1, by rw [upd_ne nb] at z2 ⊢; exact z2, hcon nb z3⟩
                      exact R8.wipe o5
              | _ => exact h3.elim
    · have e9 : i = ds.length := by omega
      subst e9
      rw [List.drop_length] at h2
      refine .inl ⟨J1.stops H2 (l2.1.trans R2.exf), ?_⟩
      obtain ⟨k1, k2, k3, k4⟩ := hfree R2
      have Rb : SR T X.K G w2 (backS vs st1 (wipeS vs st2)) σ H2 := R1.back l2 hn (R2.less (lg us) R1.tab)
      refine h2 w2 H2 (.ref D0) w2.le_refl Rb ⟨D0, rfl, k1, f2, k2, fun j e q1 q2 => ?_, us, k4, x2⟩
      by_cases hj : j ∈ vs
      · have hl : st1.sl.length = (wipeS vs st2).sl.length := by rw [R1.len, R2.len, (wipe_out vs σ).1]
        exact absurd (backS_in vs st1 _ j _ hl hj q1) (noOwn_at hn hj)
      · rw [backS_out vs st1 _ j hj] at q1
        exact k3 j e q1 (by rw [(wipe_out vs σ).2 j hj]; exact q2)
section
variable {T : Tx} {ifs : List Expr} {scope : Scope} {own : List (Str × Nat)} {t : S → Res} {vg : List Nat}
def bYes : S → Res := fun st => .ok (.val (.bl true)) st
theorem pts_none : PTs X [] (tTF X.K T bYes) := ⟨fun pins s σ H Q I ⟨G, w, st, R, h⟩ => pts_nil.run pins s σ H Q I (h w H w.le_refl R)⟩
theorem pts_if {c : Expr} (h : DT X T c t) : PTs X [c] (tTF X.K T t) := pts_one (DT.toF h)
/-- [elt for tg in e if t] -/
theorem de_lc (hc : X.calm = true) (hN : X.N.Nodup) (hi : DI X T tg e fi) (ok : BlkOk X.N X.env.scope scope own) (hv : ∀ i ∈ vg, i ∈ own.map (·.2))
    (hg : ∀ (s : Shared) (H : Hp) (C : Addr) (cl : List (Str × Addr)) (fp : List Addr), DG (X.blk s H scope (compEnvC scope cl C X.env) fp) T tg vg g)
    (ht : ∀ (s : Shared) (H : Hp) (C : Addr) (cl : List (Str × Addr)) (fp : List Addr), PTs (X.blk s H scope (compEnvC scope cl C X.env) fp) ifs (tTF X.K T t))
    (he : ∀ (s : Shared) (H : Hp) (C : Addr) (cl : List (Str × Addr)) (fp : List Addr), DE (X.blk s H scope (compEnvC scope cl C X.env) fp) T elt f) (hs : ∀ x, foldedSetIterable e X.env x = pure x := by intro _; rfl) :
    DE X T (.ListComp elt [⟨tg, e, ifs, 0⟩] scope pos) (eLc fi g t f (own.map (·.2))) :=
  PE.imp (pe_lc hc hN hi ok (g := tG X T vg g) hg ht (fun s H C cl fp => DE.toF (he s H C cl fp)) hs) fun σ H Q h => tLc_of hv h
/-- y = [..] on one line, y a local -/
theorem ds_asgLc {i : Nat} {y : Str} {py spos : Pos} (hc : X.calm = true) (hN : X.N.Nodup) (hy : X.N[i]? = some y) (hyl : X.env.scope.names.lookup y = some .local)
    (hsw : swapsWith (.ListComp elt [⟨tg, e, ifs, 0⟩] scope pos) (some (.Name y py)) spos.line X.env = pure true) (hi : DI X T tg e fi) (ok : BlkOk X.N X.env.scope scope own) (hv : ∀ i ∈ vg, i ∈ own.map (·.2))
    (hg : ∀ (s : Shared) (H : Hp) (C : Addr) (cl : List (Str × Addr)) (fp : List Addr), DG (X.blk s H scope (compEnvC scope cl C X.env) fp) T tg vg g)
    (ht : ∀ (s : Shared) (H : Hp) (C : Addr) (cl : List (Str × Addr)) (fp : List Addr), PTs (X.blk s H scope (compEnvC scope cl C X.env) fp) ifs (tTF X.K T t))
    (he : ∀ (s : Shared) (H : Hp) (C : Addr) (cl : List (Str × Addr)) (fp : List Addr), DE (X.blk s H scope (compEnvC scope cl C X.env) fp) T elt f) (hs : ∀ x, foldedSetIterable e X.env x = pure x := by intro _; rfl) :
    DS X T (.Assign [.Name y py] (.ListComp elt [⟨tg, e, ifs, 0⟩] scope pos) spos) (sAsg i (eLc fi g t f (own.map (·.2)))) :=
  PS.imp (ps_setLc hc hN hy hyl hsw hi ok (g := tG X T vg g) hg ht (fun s H C cl fp => DE.toF (he s H C cl fp)) hs) fun En σ H ⟨G, w, st, W, R, tk, h⟩ => tLc_of hv ⟨G, w, st, W, R, tk, PostE.bindS h fun r1 st1 w1 H1 v1 l R1 x1 h1 => by
    cases q : store st1 i r1 with
    | none => rw [q] at h1; exact h1.elim
    | some st2 =>
      rw [q] at h1
      obtain ⟨w2, l2, R2⟩ := R1.store x1 q
      exact h1 w2 _ H1 l2 R2⟩
end
end
end Bv

namespace Bv
open PySem PySem.Spec PyProof.Rows L2

/-- a source of items: a list or a tuple at an address -/
inductive Sc where
  | l (a : Addr) | t (a : Addr)
def Sc.adr : Sc → Addr
  | .l a => a
  | .t a => a
def Sc.has (K : PySem.W.Frag) (H : Hp) (xs : List V) : Sc → Prop
  | .l a => SqL K H a xs
  | .t a => SqT K H a xs
def Sc.it (h : Heap) (b : Addr) (i : Nat) : Sc → Prop
  | .l a => h.IsListIter b a i
  | .t a => h.IsTupleIter b a i
def Sc.ob (h : Heap) (its : Array Value) : Sc → Prop
  | .l a => h.IsList a its
  | .t a => h.IsTuple a its
def Sc.ito (sc : Sc) : Obj := match sc with
  | .l a => { cls := .type "list_iterator", data := .fields #[.ref a, .int 0 0] }
  | .t a => { cls := .type "tuple_iterator", data := .fields #[.ref a, .int 0 0] }
section
variable {prog : Program} {w : World} {A : Around} {E : Value → Shared → Prop} {s : Shared}
theorem Sc.draws (hh : A.handled = none) (b : Addr) (its : Array Value) : ∀ sc : Sc, sc.adr ≠ b → Draws prog w A b [b, sc.adr] its.size (fun i v => its[i]? = some v) (fun i h => sc.it h b i ∧ sc.ob h its)
  | .l a, n => Draws.list hh b a n its
  | .t a, n => Draws.tuple hh b a n its
theorem Sc.begins (its : Array Value) : ∀ sc : Sc, Begins (.ref sc.adr) sc.ito (fun h => sc.ob h its)
  | .l a => begins_list a its
  | .t a => begins_tuple a its
theorem Sc.it_at {h h' : Heap} {b : Addr} {i : Nat} : ∀ {sc : Sc}, sc.it h b i → (∀ o, h.get? b = some o → h'.get? b = some o) → sc.it h' b i
  | .l a, q, k => q.at k
  | .t a, q, k => q.at k
theorem Sc.it_obj {h : Heap} {b : Addr} {i : Nat} : ∀ {sc : Sc}, sc.it h b i → ∃ o, h.get? b = some o ∧ ∀ v, o.data ≠ .cell v
  | .l a, ⟨o, e, c, d⟩ => ⟨o, e, fun v z => by rw [d] at z; cases z⟩
  | .t a, ⟨o, e, c, d⟩ => ⟨o, e, fun v z => by rw [d] at z; cases z⟩
theorem Sc.it_new {h : Heap} {b : Addr} : ∀ {sc : Sc}, h.get? b = some sc.ito → sc.it h b 0
  | .l a, q => ⟨_, q, rfl, rfl⟩
  | .t a, q => ⟨_, q, rfl, rfl⟩
theorem Sc.of {X : Cx} {pins : List (Addr × Obj)} {σ : L2.St} {H : Hp} {xs : List V} (I : Inv X pins σ H s) : ∀ {sc : Sc}, sc.has X.K H xs → ∃ its : List Value, Vals xs its ∧ sc.ob s.heap its.toArray ∧ sc.adr < s.heap.objs.size
  | .l a, q => by
    obtain ⟨its, rv, p, _⟩ := I.list q
    exact ⟨its, rv, p.isList, p.lt⟩
  | .t a, q => by
    obtain ⟨its, rv, p, _⟩ := I.tuple q
    obtain ⟨o, ho, _⟩ := id p
    exact ⟨its, rv, p, Heap.lt_size ho⟩
theorem Sc.inj {X : Cx} {pins : List (Addr × Obj)} {σ : L2.St} {H : Hp} {xs ys : List V} (I : Inv X pins σ H s) : ∀ {sc : Sc}, sc.has X.K H xs → sc.has X.K H ys → xs = ys
  | .l a, p, q => I.list_inj p q
  | .t a, p, q => I.tuple_inj p q
set_option maxHeartbeats 1000000 in
theorem meets_enumerate1 {v : Value} {o : Obj} {Hs : Heap → Prop} (B : Begins v o Hs) :
    Meets (Builtin.«enumerate.__new__» ⟨[.type "enumerate", v], []⟩) (fun _ R s => Hs s.heap ∧
      R (.ok (.ret (.ref (s.heap.push o).objs.size))) { s with heap := (s.heap.push o).push { cls := .type "enumerate", data := .fields #[.none, .bool false, .ref s.heap.objs.size, rawInt 0, .none, .none] } }) :=
  .of_wp fun prog w A R s q => by
    obtain ⟨hp, g, d, tk, os⟩ := s
    obtain ⟨h1, h⟩ := q
    have hsub := sub_enumerate
    have q1 : ∀ {A' : Around} {E Q : Value → Shared → Prop}, Q (.ref hp.objs.size) ⟨hp.push o, g, d, tk, os⟩ → wpAny (model prog w) A' (pyIter v) Q E ⟨hp, g, d, tk, os⟩ := fun z => B.iter prog w _ _ ⟨hp, g, d, tk, os⟩ _ h1 z
    wp_walk using q1
    refine wpAny_stack_any fun st => wpAny_pure ?_
    split
    · rename_i c _ _ _ _ _
      cases (c == Value.type "enumerate") <;> (wp_walk using q1; exact ⟨_, rfl, h⟩)
    · wp_walk using q1
      exact ⟨_, rfl, h⟩
theorem enum_begins1 {v : Value} {o : Obj} {Hs : Heap → Prop} {Q : Value → Shared → Prop} (B : Begins v o Hs) (h1 : Hs s.heap)
    (h : ∀ h', IsEnum h' (s.heap.objs.size + 1) s.heap.objs.size 0 .none → h'.get? s.heap.objs.size = some o → h'.objs.size = s.heap.objs.size + 2 → (∀ b u, s.heap.get? b = some u → h'.get? b = some u) →
      Q (.ref (s.heap.objs.size + 1)) { s with heap := h' }) : wpAny (model prog w) A (call (.type "enumerate") [v]) Q E s := by
  refine callType_new F.called_enumerate (by decide) (F.typeCall_enumerate_1 _) (F.newCall_enumerate_1 _) (fun obj => F.args_object_init_2 obj _) F.entry_enumerate_new (meets_enumerate1 B) ⟨h1, ?_⟩
  have hz : (s.heap.push o).objs.size = s.heap.objs.size + 1 := Heap.size_push ..
  have he : IsEnum ((s.heap.push o).push { cls := .type "enumerate", data := .fields #[.none, .bool false, .ref s.heap.objs.size, rawInt 0, .none, .none] }) (s.heap.objs.size + 1) s.heap.objs.size 0 .none := by
    have z := Heap.get?_push_size (s.heap.push o) (o := { cls := .type "enumerate", data := .fields #[.none, .bool false, .ref s.heap.objs.size, rawInt 0, .none, .none] }) rfl
    rw [hz] at z
    exact z
  show _ ∧ _
  rw [hz]
  exact ⟨⟨_, he, rfl⟩, h _ he (Heap.get?_push_of_some _ (Heap.get?_push_size _ B.free)) (by rw [Heap.size_push, hz]) fun b u z => Heap.get?_push_of_some _ (Heap.get?_push_of_some _ z)⟩
end

def Jen (K : PySem.W.Frag) (sc : Sc) : It :=
  ⟨fun i H => ∃ (xs : List V) (x : V), sc.has K H xs ∧ xs[i]? = some x, fun i H v H' => ∃ p x, v = .ref p ∧ H p = none ∧ H' = upd H p (.tup [.int (i : Nat), x]) ∧ ∀ xs, sc.has K H xs → xs[i]? = some x, fun i H => ∃ xs : List V, sc.has K H xs ∧ xs.length = i⟩
theorem turn_en {P : Program} {w : World} {K : PySem.W.Frag} {elts : List Expr} {kk : Nat} {tpos : Pos} {sc : Sc} {e b : Addr} (heb : e ≠ b) (hea : e ≠ sc.adr) (hab : sc.adr ≠ b) :
    Turn P w K (.Tuple elts kk tpos) (Jen K sc) [e, b] e (fun i h => (∃ old, IsEnum h e b (0 + ((i : Nat) : Int)) old) ∧ sc.it h b i) where
  mem := by simp
  obj := fun i h st c hc => by
    obtain ⟨⟨old, he⟩, hi⟩ := st
    have q : c = e ∨ c = b := by simpa using hc
    rcases q with rfl | rfl
    · exact ⟨_, he, fun v q => nomatch q⟩
    · exact Sc.it_obj hi
  keep := fun i h h' st k => let ⟨⟨old, he⟩, hi⟩ := st; ⟨⟨old, k e (by simp) _ he⟩, Sc.it_at hi fun o q => k b (by simp) o q⟩
  item := by
    intro X hP hw hK hc i pins s σ H E I hf st hg
    subst hP hw hK
    obtain ⟨⟨old, he⟩, hit⟩ := st
    obtain ⟨xs, x, hq, hx⟩ := hg
    obtain ⟨its, rv, p, hlt⟩ := Sc.of I hq
    obtain ⟨u, hu, ru⟩ := rv.get hx
    have W := GoesN.enumFrom (elts := elts) (x1 := kk) (pos := tpos) 0 (Sc.draws (prog := X.prog) (w := X.w) (A := X.A.in1) (show X.A.in1.handled = none from I.ok.hd hc) b its.toArray sc hab) e heb (by simp [heb, hea]) (by simp)
    have hn : i < its.toArray.size := by
      have := (List.getElem?_eq_some_iff.mp hu).1
      simpa using this
    refine W.goes i s (fun v s2 => ∃ x H', Inv X pins σ H' s2 ∧ RelV x v ∧ (Jen X.K sc).yld i H x H' ∧ ((∃ old, IsEnum s2.heap e b (0 + ((i + 1 : Nat) : Int)) old) ∧ sc.it s2.heap b (i + 1)) ∧ ∀ b' ∈ [e, b], H' b' = none) E hn ⟨⟨old, he⟩, hit, p⟩ ?_
    rintro v h' tk ⟨T, t, y, rfl, hT, hy, hTt⟩ ⟨he', hit', _⟩ hk htk
    have hy' : its[i]? = some y := by simpa using hy
    rw [hu] at hy'
    cases hy'
    have e0 : (0 : Int) + ((i : Nat) : Int) = ((i : Nat) : Int) := by omega
    rw [e0] at hTt
    have new : ObjOk X.prog X.w (upd H T (.tup [.int (i : Nat), x])) h' T (.tup [.int (i : Nat), x]) := ⟨by show 2 ≤ sizeLine; decide, [.int ((i : Nat) : Int) t, u], .cons ⟨_, rfl⟩ (.cons ru .nil), hTt⟩
    have I1 : Inv X pins σ (upd H T (.tup [.int (i : Nat), x])) { s with heap := h', toks := tk } := I.turnedNew (t' := tk) (ch := [e, b]) hk hf hT new
    refine ⟨.ref T, _, I1, rfl, ⟨T, x, rfl, I.hok.fresh hT, rfl, fun ys hy => by rw [Sc.inj I hy hq]; exact hx⟩, ⟨he', hit'⟩, fun c hcm => ?_⟩
    have hc' : c < s.heap.objs.size := by
      have q : c = e ∨ c = b := by simpa using hcm
      rcases q with rfl | rfl
      · exact Heap.lt_size he
      · obtain ⟨o, q, _⟩ := Sc.it_obj hit
        exact Heap.lt_size q
    rw [upd_ne (Nat.ne_of_lt (Nat.lt_of_lt_of_le hc' hT))]
    exact (hf c hcm).1
  done := by
    intro X hP hw hK hc i pins s σ H E I hf st hg
    subst hP hw hK
    obtain ⟨⟨old, he⟩, hit⟩ := st
    obtain ⟨xs, hq, hx⟩ := hg
    obtain ⟨its, rv, p, hlt⟩ := Sc.of I hq
    have W := GoesN.enumFrom (elts := elts) (x1 := kk) (pos := tpos) 0 (Sc.draws (prog := X.prog) (w := X.w) (A := X.A.in1) (show X.A.in1.handled = none from I.ok.hd hc) b its.toArray sc hab) e heb (by simp [heb, hea]) (by simp)
    have hl := rv.length
    have en : its.toArray.size = i := by rw [List.size_toArray]; omega
    subst en
    exact W.stops s (fun s1 => Inv X pins σ H s1) E ⟨⟨old, he⟩, hit, p⟩ fun h' tk hk htk => I.turnedL (t' := tk) (ch := [e, b]) hk hf
  self := fun A i s Q E st h => let ⟨⟨_, he⟩, _⟩ := st; wpAny_pyIter_enum he h
/-- enumerate(x), x a list or a tuple -/
def iEn (K : PySem.W.Frag) (ta : TA) : TI := fun σ H R => ta σ H fun vs H1 => ∃ sc xs, vs = [.ref sc.adr] ∧ Sc.has K H1 xs sc ∧ R (Jen K sc) H1
theorem pi_en {X : Cx} {e : Expr} {ta : TA} {p pos tpos : Pos} {elts : List Expr} {kk : Nat} (hg : Gl X "enumerate") (hm : X.mg "enumerate" = none) (ha : PA X [e] ta) (hs : starEach [e] X.env = [(false, eval e X.env)] := by rfl) :
    PI X (.Tuple elts kk tpos) (.Call (.Name "enumerate" p) [e] [] pos) (iEn X.K ta) := by
  refine ⟨fun pins s σ H R I h => Call_ (ld_blt I hg hm boot_enumerate (PyProof.Rows.callWith_type1 (thn (ha.run pos pins s σ H _ I h) fun us s1 q0 => ?_) hs rfl))⟩
  obtain ⟨vs, H1, I1, r1, sc, xs, ex, hq, q⟩ := q0
  subst ex
  cases r1 with
  | cons r rr =>
    cases rr
    cases r
    obtain ⟨its, rv, p', hlt⟩ := Sc.of I1 hq
    refine enum_begins1 (Sc.begins its.toArray sc) p' fun h' he hit hsz hk => wpAny_pyIter_enum he ?_
    have I2 : Inv X pins σ H1 { s1 with heap := h' } := I1.kept (t' := s1.toks) hk
    refine ⟨s1.heap.objs.size + 1, [s1.heap.objs.size + 1, s1.heap.objs.size], _, _, H1, rfl, I2, turn_en (sc := sc) (Nat.succ_ne_self _) (Nat.ne_of_gt (Nat.lt_succ_of_lt hlt)) (Nat.ne_of_lt hlt), ⟨⟨.none, he⟩, Sc.it_new hit⟩, fun b hb => ?_, q⟩
    have hle : s1.heap.objs.size ≤ b := by
      have e' : b = s1.heap.objs.size + 1 ∨ b = s1.heap.objs.size := by simpa using hb
      rcases e' with rfl | rfl
      · exact Nat.le_succ _
      · exact Nat.le_refl _
    exact I1.fpOk hle (I1.hok.fresh hle)

theorem mem5 {c z u o i j : Addr} (m : c ∈ [z, o, i, j]) : c ∈ [z, u, o, i, j] := by
  simp only [List.mem_cons, List.not_mem_nil, or_false] at m ⊢
  rcases m with h | h | h | h
  · exact .inl h
  · exact .inr (.inr (.inl h))
  · exact .inr (.inr (.inr (.inl h)))
  · exact .inr (.inr (.inr (.inr h)))
def Jzi (K : PySem.W.Frag) (sc sd : Sc) : It :=
  ⟨fun i H => ∃ (xs ys : List V) (x y : V), sc.has K H xs ∧ sd.has K H ys ∧ xs[i]? = some x ∧ ys[i]? = some y,
    fun i H v H' => ∃ p x y, v = .ref p ∧ H p = none ∧ H' = upd H p (.tup [x, y]) ∧ (∀ xs, sc.has K H xs → xs[i]? = some x) ∧ ∀ ys, sd.has K H ys → ys[i]? = some y,
    fun i H => ∃ xs ys : List V, sc.has K H xs ∧ sd.has K H ys ∧ min xs.length ys.length = i⟩
theorem turn_zi {P : Program} {w : World} {K : PySem.W.Frag} {elts : List Expr} {kk : Nat} {tpos : Pos} {sc sd : Sc} {z u o i1 i2 : Addr} (h1 : sc.adr ≠ i1) (h2 : sd.adr ≠ i2) (D : ZipSep2 z u o i1 i2 [i1, sc.adr] [i2, sd.adr]) :
    Turn P w K (.Tuple elts kk tpos) (Jzi K sc sd) [z, u, o, i1, i2] z (fun i h => IsZip h z u o .none ∧ IsTupOf2 h u (.ref i1) (.ref i2) ∧ (∃ x y, IsTupOf2 h o x y) ∧ sc.it h i1 i ∧ sd.it h i2 i) where
  mem := by simp
  obj := fun i h st c hc => by
    obtain ⟨hz, hu, ⟨x, y, ho⟩, q1, q2⟩ := st
    have e' : c = z ∨ c = u ∨ c = o ∨ c = i1 ∨ c = i2 := by simpa using hc
    rcases e' with rfl | rfl | rfl | rfl | rfl
    · exact ⟨_, hz, fun v q => nomatch q⟩
    · exact ⟨_, hu, fun v q => nomatch q⟩
    · exact ⟨_, ho, fun v q => nomatch q⟩
    · exact Sc.it_obj q1
    · exact Sc.it_obj q2
  keep := fun i h h' st k => by
    obtain ⟨hz, hu, ⟨x, y, ho⟩, q1, q2⟩ := st
    exact ⟨k z (by simp) _ hz, k u (by simp) _ hu, ⟨x, y, k o (by simp) _ ho⟩, Sc.it_at q1 fun b q => k i1 (by simp) b q, Sc.it_at q2 fun b q => k i2 (by simp) b q⟩
  item := by
    intro X hP hw hK hc i pins s σ H E I hf st hg
    subst hP hw hK
    obtain ⟨hz, hu, ⟨x0, y0, ho⟩, q1, q2⟩ := st
    obtain ⟨xs, ys, x, y, hqx, hqy, hx, hy⟩ := hg
    obtain ⟨its, rv, p, _⟩ := Sc.of I hqx
    obtain ⟨jts, rw1, p2, _⟩ := Sc.of I hqy
    obtain ⟨a1, ha1, ra1⟩ := rv.get hx
    obtain ⟨a2, ha2, ra2⟩ := rw1.get hy
    have W := GoesN.zip2 (elts := elts) (x1 := kk) (pos := tpos) D (Sc.draws (prog := X.prog) (w := X.w) (A := X.A.in1) (show X.A.in1.handled = none from I.ok.hd hc) i1 its.toArray sc h1) (Sc.draws (prog := X.prog) (w := X.w) (A := X.A.in1) (show X.A.in1.handled = none from I.ok.hd hc) i2 jts.toArray sd h2)
    have hn : i < min its.toArray.size jts.toArray.size := by
      have w1 := (List.getElem?_eq_some_iff.mp ha1).1
      have w2 := (List.getElem?_eq_some_iff.mp ha2).1
      simp only [List.size_toArray]
      omega
    refine W.goes i s (fun v s2 => ∃ x H', Inv X pins σ H' s2 ∧ RelV x v ∧ (Jzi X.K sc sd).yld i H x H' ∧ (IsZip s2.heap z u o .none ∧ IsTupOf2 s2.heap u (.ref i1) (.ref i2) ∧ (∃ x y, IsTupOf2 s2.heap o x y) ∧ sc.it s2.heap i1 (i + 1) ∧ sd.it s2.heap i2 (i + 1)) ∧ ∀ b' ∈ [z, u, o, i1, i2], H' b' = none) E hn ⟨hz, hu, ⟨x0, y0, ho⟩, ⟨q1, p⟩, q2, p2⟩ ?_
    rintro v h' tk ⟨T, b1, b2, rfl, hT, hb1, hb2, hTt⟩ ⟨hz', hu', ho', ⟨q1', _⟩, q2', _⟩ hk htk
    have e1 : its[i]? = some b1 := by simpa using hb1
    rw [ha1] at e1
    cases e1
    have e2 : jts[i]? = some b2 := by simpa using hb2
    rw [ha2] at e2
    cases e2
    have new : ObjOk X.prog X.w (upd H T (.tup [x, y])) h' T (.tup [x, y]) := ⟨by show 2 ≤ sizeLine; decide, [a1, a2], .cons ra1 (.cons ra2 .nil), hTt⟩
    have I1 : Inv X pins σ (upd H T (.tup [x, y])) { s with heap := h', toks := tk } := I.turnedNew (t' := tk) (ch := [z, u, o, i1, i2]) (fun b ob hb q => hk b ob (fun m => hb (mem5 m)) q) hf hT new
    refine ⟨.ref T, _, I1, rfl, ⟨T, x, y, rfl, I.hok.fresh hT, rfl, fun l hl => by rw [Sc.inj I hl hqx]; exact hx, fun l hl => by rw [Sc.inj I hl hqy]; exact hy⟩, ⟨hz', hu', ho', q1', q2'⟩, fun c hcm => ?_⟩
    have hc' : c < s.heap.objs.size := by
      have e' : c = z ∨ c = u ∨ c = o ∨ c = i1 ∨ c = i2 := by simpa using hcm
      rcases e' with rfl | rfl | rfl | rfl | rfl
      · exact Heap.lt_size hz
      · exact Heap.lt_size hu
      · exact Heap.lt_size ho
      · obtain ⟨_, q, _⟩ := Sc.it_obj q1
        exact Heap.lt_size q
      · obtain ⟨_, q, _⟩ := Sc.it_obj q2
        exact Heap.lt_size q
    rw [upd_ne (Nat.ne_of_lt (Nat.lt_of_lt_of_le hc' hT))]
    exact (hf c hcm).1
  done := by
    intro X hP hw hK hc i pins s σ H E I hf st hg
    subst hP hw hK
    obtain ⟨hz, hu, ⟨x0, y0, ho⟩, q1, q2⟩ := st
    obtain ⟨xs, ys, hqx, hqy, hend⟩ := hg
    obtain ⟨its, rv, p, _⟩ := Sc.of I hqx
    obtain ⟨jts, rw1, p2, _⟩ := Sc.of I hqy
    have W := GoesN.zip2 (elts := elts) (x1 := kk) (pos := tpos) D (Sc.draws (prog := X.prog) (w := X.w) (A := X.A.in1) (show X.A.in1.handled = none from I.ok.hd hc) i1 its.toArray sc h1) (Sc.draws (prog := X.prog) (w := X.w) (A := X.A.in1) (show X.A.in1.handled = none from I.ok.hd hc) i2 jts.toArray sd h2)
    have l1 := rv.length
    have l2 := rw1.length
    have en : min its.toArray.size jts.toArray.size = i := by simp only [List.size_toArray]; omega
    subst en
    exact W.stops s (fun s1 => Inv X pins σ H s1) E ⟨hz, hu, ⟨x0, y0, ho⟩, ⟨q1, p⟩, q2, p2⟩ fun h' tk hk htk => I.turnedL (t' := tk) (ch := [z, u, o, i1, i2]) (fun b ob hb q => hk b ob (fun m => hb (mem5 m)) q) hf
  self := fun A i s Q E st h => wpAny_pyIter_zip st.1 h
def iZi (K : PySem.W.Frag) (ta : TA) : TI := fun σ H R => ta σ H fun vs H1 => ∃ sc sd xs ys, vs = [.ref sc.adr, .ref sd.adr] ∧ Sc.has K H1 xs sc ∧ Sc.has K H1 ys sd ∧ R (Jzi K sc sd) H1
theorem pi_zi {X : Cx} {e e2 : Expr} {ta : TA} {p pos tpos : Pos} {elts : List Expr} {kk : Nat} (hg : Gl X "zip") (hm : X.mg "zip" = none) (ha : PA X [e, e2] ta)
    (hs : starEach [e, e2] X.env = (false, eval e X.env) :: starEach [e2] X.env := by rfl) (hpl : (backTo pos (starEach [e2] X.env)).any (·.1) = false := by rfl) :
    PI X (.Tuple elts kk tpos) (.Call (.Name "zip" p) [e, e2] [] pos) (iZi X.K ta) := by
  refine ⟨fun pins s σ H R I h => Call_ (ld_blt I hg hm PyProof.Rows.boot_zip (PyProof.Rows.callWith_type1 (thn (ha.run pos pins s σ H _ I h) fun us s1 q0 => ?_) hs hpl))⟩
  obtain ⟨vs, H1, I1, r1, sc, sd, xs, ys, ex, hqx, hqy, q⟩ := q0
  subst ex
  cases r1 with
  | cons r rr =>
    cases rr with
    | cons r' rr =>
      cases rr
      cases r
      cases r'
      obtain ⟨its, rv, p1, la⟩ := Sc.of I1 hqx
      obtain ⟨jts, rw1, p2, lb⟩ := Sc.of I1 hqy
      refine zip_begins2 (Sc.begins its.toArray sc) (Sc.begins jts.toArray sd) p1 p2 fun h' hz hu ho g1 g2 hsz hk => wpAny_pyIter_zip hz ?_
      have I2 : Inv X pins σ H1 { s1 with heap := h' } := I1.kept (t' := s1.toks) hk
      refine ⟨s1.heap.objs.size + 4, [s1.heap.objs.size + 4, s1.heap.objs.size + 2, s1.heap.objs.size + 3, s1.heap.objs.size, s1.heap.objs.size + 1], _, _, H1, rfl, I2,
        turn_zi (sc := sc) (sd := sd) (Nat.ne_of_lt la) (Nat.ne_of_lt (Nat.lt_succ_of_lt lb)) (zip_sep2 (N := s1.heap.objs.size) (fun b hb => by rw [List.mem_singleton.mp hb]; exact la) fun b hb => by rw [List.mem_singleton.mp hb]; exact lb), ⟨hz, hu, ⟨_, _, ho⟩, Sc.it_new g1, Sc.it_new g2⟩, fun c hcm => ?_, q⟩
      have hle : s1.heap.objs.size ≤ c := by
        have e' : c = s1.heap.objs.size + 4 ∨ c = s1.heap.objs.size + 2 ∨ c = s1.heap.objs.size + 3 ∨ c = s1.heap.objs.size ∨ c = s1.heap.objs.size + 1 := by simpa using hcm
        rcases e' with rfl | rfl | rfl | rfl | rfl
        · exact Nat.le_add_right _ _
        · exact Nat.le_add_right _ _
        · exact Nat.le_add_right _ _
        · exact Nat.le_refl _
        · exact Nat.le_add_right _ _
      exact I1.fpOk hle (I1.hok.fresh hle)
end Bv

namespace Bv
open PySem PySem.Spec PyProof.Rows L2

def signsD (z : Str) : List D := z.cps.toList.map fun c => .str ⟨#[c]⟩
def seqD : D → Option (List D)
  | .tup xs => some xs
  | .lst xs => some xs
  | .rol xs => some xs
  | .str z => some (signsD z)
  | _ => none
def enumD : Nat → List D → List D
  | _, [] => []
  | k, x :: xs => .tup [.int (k : Nat), x] :: enumD (k + 1) xs
def zipD : List D → List D → List D
  | x :: xs, y :: ys => .tup [x, y] :: zipD xs ys
  | _, _ => []
def rngD (lo c : Int) (n : Nat) : List D := (List.range n).map fun i => .int (lo + (i : Nat) * c)
theorem enumD_len : ∀ (k : Nat) (xs : List D), (enumD k xs).length = xs.length
  | _, [] => rfl
  | k, x :: xs => by rw [enumD, List.length_cons, List.length_cons, enumD_len]
theorem enumD_get : ∀ (k : Nat) (xs : List D) (i : Nat), (enumD k xs)[i]? = xs[i]?.map fun x => .tup [.int ((k + i : Nat) : Int), x]
  | _, [], i => by simp [enumD]
  | k, x :: xs, 0 => by simp [enumD]
  | k, x :: xs, i + 1 => by
    rw [enumD, List.getElem?_cons_succ, List.getElem?_cons_succ, enumD_get, show k + 1 + i = k + (i + 1) by omega]
theorem zipD_len : ∀ (xs ys : List D), (zipD xs ys).length = min xs.length ys.length
  | [], _ => by simp [zipD]
  | _ :: _, [] => by simp [zipD]
  | x :: xs, y :: ys => by
    rw [zipD, List.length_cons, zipD_len, List.length_cons, List.length_cons]
    omega
theorem zipD_get : ∀ (xs ys : List D) (i : Nat) (x y : D), xs[i]? = some x → ys[i]? = some y → (zipD xs ys)[i]? = some (.tup [x, y])
  | [], _, i, _, _, h, _ => by simp at h
  | _ :: _, [], i, _, _, _, h => by simp at h
  | x :: xs, y :: ys, 0, _, _, h, k => by simp at h k; subst h k; simp [zipD]
  | x :: xs, y :: ys, i + 1, _, _, h, k => by
    rw [zipD, List.getElem?_cons_succ]
    exact zipD_get xs ys i _ _ (by simpa using h) (by simpa using k)
theorem rngD_len (lo c : Int) (n : Nat) : (rngD lo c n).length = n := by simp [rngD]
theorem rngD_get {lo c : Int} {n i : Nat} (h : i < n) : (rngD lo c n)[i]? = some (.int (lo + (i : Nat) * c)) := by
  unfold rngD
  rw [List.getElem?_map, List.getElem?_range h]; rfl
/-- a source of items and what it holds while the frozen part stands -/
def srcD : D → Option (List D)
  | .tup xs => some xs
  | .lst xs => some xs
  | .rol xs => some xs
  | _ => none
section
variable {X : Cx} {T : Tx} {K : PySem.W.Frag} {G : Hp} {w w' : Wd} {st : S} {σ : L2.St} {H : Hp} {W : WX} {tg e a b : Expr} {es : List Expr} {f : S → Res} {g : S → LRes} {pos p : Pos} {v : V} {d : D} {xs ys : List D}
theorem Rep.src (r : RepW T K w v d) (e : srcD d = some xs) : ∃ sc us, v = .ref (Sc.adr sc) ∧ (∀ H, Ex w.Hf H → sc.has K H us) ∧ RepLW T K w us xs := by
  cases d <;> simp only [srcD] at e <;> cases e
  · cases r with
    | tup h r => exact ⟨.t _, _, rfl, fun H x => SqT.of (x _ _ h), r⟩
  · cases r with
    | lst h r => exact ⟨.l _, _, rfl, fun H x => SqL.of (x _ _ h), r⟩
  · cases r with
    | rol h r => exact ⟨.l _, _, rfl, fun H x => x.seqL h, r⟩
theorem ItD.list {a : Addr} {us : List V} (h : ∀ H, Ex w.Hf H → SqL K H a us) (r : RepLW T K w us xs) : ItD T K w (Itl K a) xs := by
  refine ⟨fun i H hi x => ?_, fun H x => ⟨us, h H x, by rw [r.len]; exact Nat.le_refl _⟩, fun i H y H' hi x yl => ?_⟩
  · have hu : i < us.length := by rw [r.len]; exact hi
    exact ⟨us, us[i], h H x, List.getElem?_eq_getElem hu⟩
  · obtain ⟨rfl, q⟩ := yl
    obtain ⟨d, h1, h2⟩ := RepL.getV r (q us (h H' x))
    exact ⟨d, h1, .inl ⟨rfl, h2⟩⟩
theorem ItD.tup {a : Addr} {us : List V} (h : ∀ H, Ex w.Hf H → SqT K H a us) (r : RepLW T K w us xs) : ItD T K w (Itt K a) xs := by
  refine ⟨fun i H hi x => ?_, fun H x => ⟨us, h H x, by rw [r.len]; exact Nat.le_refl _⟩, fun i H y H' hi x yl => ?_⟩
  · have hu : i < us.length := by rw [r.len]; exact hi
    exact ⟨us, us[i], h H x, List.getElem?_eq_getElem hu⟩
  · obtain ⟨rfl, q⟩ := yl
    obtain ⟨d, h1, h2⟩ := RepL.getV r (q us (h H' x))
    exact ⟨d, h1, .inl ⟨rfl, h2⟩⟩
theorem ItD.text (z : Str) : ItD T K w (Its z) (signsD z) := by
  have hl : (signsD z).length = z.cps.size := by simp [signsD]
  refine ⟨fun i H hi x => by rw [hl] at hi; exact hi, fun H x => by rw [hl]; exact Nat.le_refl _, fun i H y H' hi x yl => ?_⟩
  obtain ⟨rfl, c, hc, rfl⟩ := yl
  refine ⟨.str ⟨#[c]⟩, ?_, .inl ⟨rfl, .str _⟩⟩
  unfold signsD
  rw [List.getElem?_map, Array.getElem?_toList, hc]; rfl
theorem ItD.rng (lo : Int) (n : Nat) : ItD T K w (Itr lo n) (rngD lo 1 n) := by
  refine ⟨fun i H hi x => by rw [rngD_len] at hi; exact hi, fun H x => by rw [rngD_len]; exact Nat.le_refl _, fun i H y H' hi x yl => ?_⟩
  obtain ⟨rfl, rfl⟩ := yl
  rw [rngD_len] at hi
  exact ⟨_, rngD_get hi, .inl ⟨rfl, by rw [Int.mul_one]; exact .int _⟩⟩
theorem ItD.rngC (lo c : Int) (n : Nat) : ItD T K w (Itc lo c n) (rngD lo c n) := by
  refine ⟨fun i H hi x => by rw [rngD_len] at hi; exact hi, fun H x => by rw [rngD_len]; exact Nat.le_refl _, fun i H y H' hi x yl => ?_⟩
  obtain ⟨rfl, rfl⟩ := yl
  rw [rngD_len] at hi
  exact ⟨_, rngD_get hi, .inl ⟨rfl, .int _⟩⟩
theorem ItD.enum {sc : Sc} {us : List V} (h : ∀ H, Ex w.Hf H → sc.has K H us) (r : RepLW T K w us xs) : ItD T K w (Jen K sc) (enumD 0 xs) := by
  have hl : (enumD 0 xs).length = us.length := by rw [enumD_len, r.len]
  refine ⟨fun i H hi x => ?_, fun H x => ⟨us, h H x, hl.symm⟩, fun i H y H' hi x yl => ?_⟩
  · rw [hl] at hi
    exact ⟨us, us[i], h H x, List.getElem?_eq_getElem hi⟩
  · obtain ⟨q, z, rfl, hq, rfl, k⟩ := yl
    obtain ⟨d, h1, h2⟩ := RepL.getV r (k us (h H x))
    refine ⟨.tup [.int ((0 + i : Nat) : Int), d], by rw [enumD_get, h1]; rfl, .inr ⟨q, _, _, rfl, hq, rfl, rfl, .cons ?_ (.cons h2 .nil)⟩⟩
    rw [Nat.zero_add]
    exact .int _
theorem ItD.zip {sc sd : Sc} {us vs : List V} (h : ∀ H, Ex w.Hf H → sc.has K H us) (r : RepLW T K w us xs) (h' : ∀ H, Ex w.Hf H → sd.has K H vs) (r' : RepLW T K w vs ys) : ItD T K w (Jzi K sc sd) (zipD xs ys) := by
  have hl : (zipD xs ys).length = min us.length vs.length := by rw [zipD_len, r.len, r'.len]
  refine ⟨fun i H hi x => ?_, fun H x => ⟨us, vs, h H x, h' H x, hl.symm⟩, fun i H y H' hi x yl => ?_⟩
  · rw [hl] at hi
    exact ⟨us, vs, us[i], vs[i], h H x, h' H x, List.getElem?_eq_getElem (by omega), List.getElem?_eq_getElem (by omega)⟩
  · obtain ⟨q, z, z', rfl, hq, rfl, k, k'⟩ := yl
    obtain ⟨d, h1, h2⟩ := RepL.getV r (k us (h H x))
    obtain ⟨d', h1', h2'⟩ := RepL.getV r' (k' vs (h' H x))
    exact ⟨_, zipD_get xs ys i d d' h1 h1', .inr ⟨q, _, _, rfl, hq, rfl, rfl, .cons h2 (.cons h2' .nil)⟩⟩

theorem PI.or {X : Cx} {tg e : Expr} {t t' : TI} (h : PI X tg e t) (h' : PI X tg e t') : PI X tg e (fun σ H R => t σ H R ∨ t' σ H R) :=
  ⟨fun pins s σ H R I q => q.elim (h.run pins s σ H R I) (h'.run pins s σ H R I)⟩
theorem PostE.bindI {r : Res} {k : Rv → S → LRes} {R : It → Hp → Prop} {Q' : VK} (h : PostI T K G w σ (r.bindL k) R W)
    (q : ∀ (r1 : Rv) (st1 : S) (w1 : Wd) (H1 : Hp) (v1 : V), r = .ok r1 st1 → w.le w1 → SR T K G w1 st1 σ H1 → RR T K G w1 st1 σ H1 r1 v1 → PostI T K G w1 σ (k r1 st1) R W → Q' v1 H1) : PostE T K G w σ r Q' W := by
  cases r with
  | ok r st =>
    refine fun w1 H1 v1 l R1 x => q r st w1 H1 v1 rfl l R1 x ?_
    cases e : k r st with
    | bad => simp only [Res.bindL, e] at h; exact h.elim
    | exc e0 s => simp only [Res.bindL, e] at h; exact fun w2 H' c d l2 => h w2 H' c d (l.trans l2)
    | ok ds s => simp only [Res.bindL, e] at h; exact fun w2 H' J l2 => h w2 H' J (l.trans l2)
  | exc x st => exact h
  | bad => exact h
theorem PostL.bindI {r : LRes} {k : List D → S → LRes} {R : It → Hp → Prop} {Q' : List V → Hp → Prop} (h : PostI T K G w σ (r.bind k) R W)
    (q : ∀ (ds : List D) (st1 : S) (w1 : Wd) (H1 : Hp) (vs : List V), r = .ok ds st1 → w.le w1 → SR T K G w1 st1 σ H1 → RepLW T K w1 vs ds → PostI T K G w1 σ (k ds st1) R W → Q' vs H1) : PostL T K G w σ r Q' W := by
  cases r with
  | ok r st =>
    refine fun w1 H1 v1 l R1 x => q r st w1 H1 v1 rfl l R1 x ?_
    cases e : k r st with
    | bad => simp only [LRes.bind, e] at h; exact h.elim
    | exc e0 s => simp only [LRes.bind, e] at h; exact fun w2 H' c d l2 => h w2 H' c d (l.trans l2)
    | ok ds s => simp only [LRes.bind, e] at h; exact fun w2 H' J l2 => h w2 H' J (l.trans l2)
  | exc x st => exact h
  | bad => exact h
/-- the end: the iterator stands -/
theorem PostI.it {R : It → Hp → Prop} {J : It} (h : PostI T K G w σ (.ok xs st) R W) (hR : SR T K G w st σ H) (j : ItD T K w J xs) : R J H := h w H J w.le_refl hR j
def iSeq (f : S → Res) : S → LRes := fun st => (f st).bindL fun r st1 => match give st1 r with
  | some (d, st2) => match seqD d with
    | some xs => .ok xs st2
    | none => .bad
  | none => .bad
theorem di_seq (he : DE X T e f) : DI X T tg e (iSeq f) :=
  PI.imp (PI.or (pi_list he) (PI.or (pi_tup he) (pi_str he))) fun σ H R ⟨G, w, st, W, R0, tk, h⟩ => by
    have h0 := h
    unfold iSeq at h
    cases ef : f st with
    | bad => rw [ef] at h; exact h.elim
    | exc x s => exact .inl ⟨G, w, st, W, R0, tk, by rw [ef] at h ⊢; exact h⟩
    | ok r st1 =>
      rw [ef] at h
      dsimp only [Res.bindL] at h
      cases eg : give st1 r with
      | none => rw [eg] at h; exact h.elim
      | some ds =>
        obtain ⟨d, st2⟩ := ds
        rw [eg] at h
        dsimp only at h
        cases eq : seqD d with
        | none => rw [eq] at h; exact h.elim
        | some xs =>
          rw [eq] at h
          dsimp only at h
          have h2 : ∀ (w1 : Wd) (H1 : Hp) (v1 : V), w.le w1 → SR T X.K G w1 st1 σ H1 → RR T X.K G w1 st1 σ H1 r v1 → ∃ w2, w1.le w2 ∧ SR T X.K G w2 st2 σ H1 ∧ RepW T X.K w2 v1 d ∧ PostI T X.K G w2 σ (.ok xs st2) R W := fun w1 H1 v1 l R1 x => by
            obtain ⟨w2, l2, R2, x2⟩ := R1.give x eg
            exact ⟨w2, l2, R2, x2, fun w3 H' J l3 => h w3 H' J (l.trans (l2.trans l3))⟩
          cases d with
          | tup us =>
            cases eq
            refine .inr (.inl ⟨G, w, st, W, R0, tk, ?_⟩)
            rw [ef]
            intro w1 H1 v1 l R1 x
            obtain ⟨w2, l2, R2, x2, p⟩ := h2 w1 H1 v1 l R1 x
            cases x2 with
            | @tup a us' _ hh rr => exact ⟨a, rfl, ⟨us', SqT.of (R2.exf _ _ hh)⟩, p.it R2 (ItD.tup (fun H x => SqT.of (x _ _ hh)) rr)⟩
          | lst us =>
            cases eq
            refine .inl ⟨G, w, st, W, R0, tk, ?_⟩
            rw [ef]
            intro w1 H1 v1 l R1 x
            obtain ⟨w2, l2, R2, x2, p⟩ := h2 w1 H1 v1 l R1 x
            cases x2 with
            | @lst a us' _ hh rr => exact ⟨a, rfl, ⟨us', SqL.of (R2.exf _ _ hh)⟩, p.it R2 (ItD.list (fun H x => SqL.of (x _ _ hh)) rr)⟩
          | rol us =>
            cases eq
            refine .inl ⟨G, w, st, W, R0, tk, ?_⟩
            rw [ef]
            intro w1 H1 v1 l R1 x
            obtain ⟨w2, l2, R2, x2, p⟩ := h2 w1 H1 v1 l R1 x
            cases x2 with
            | @rol a us' _ hh rr => exact ⟨a, rfl, ⟨us', R2.exf.seqL hh⟩, p.it R2 (ItD.list (fun H x => x.seqL hh) rr)⟩
          | str z =>
            cases eq
            refine .inr (.inr ⟨G, w, st, W, R0, tk, ?_⟩)
            rw [ef]
            intro w1 H1 v1 l R1 x
            obtain ⟨w2, l2, R2, x2, p⟩ := h2 w1 H1 v1 l R1 x
            cases x2 with
            | str => exact ⟨z, rfl, p.it R2 (ItD.text z)⟩
          | _ => cases eq
def smallB (j : Int) : Bool := decide (-(2 ^ 62) ≤ j) && decide (j < 2 ^ 62)
theorem smallB_iff {j : Int} (h : smallB j = true) : -(2 ^ 62) ≤ j ∧ j < 2 ^ 62 := by
  unfold smallB at h
  rw [Bool.and_eq_true, decide_eq_true_eq, decide_eq_true_eq] at h
  exact h
def rg1 : List D → Option (List D)
  | [.int j] => if smallB j = true then some (rngD 0 1 j.toNat) else none
  | _ => none
def rg3 : List D → Option (List D)
  | [.int i, .int j, .int c] => if c = -1 then (if (smallB i && smallB j) = true then some (rngD i (-1) (i - j).toNat) else none)
    else if (decide (c ≠ 0) && (decide (c.natAbs < 1073741824) && (Builtin.Range.small i j c && decide (0 ≤ Builtin.Range.rangeSize i j c)))) = true then some (rngD i c (Builtin.Range.rangeSize i j c).toNat) else none
  | _ => none
theorem rg1_inv {ds xs : List D} (h : rg1 ds = some xs) : ∃ j : Int, ds = [.int j] ∧ smallB j = true ∧ xs = rngD 0 1 j.toNat := by
  unfold rg1 at h
  split at h
  · split at h
    · cases h; exact ⟨_, rfl, by assumption, rfl⟩
    · cases h
  · cases h
theorem rg3_inv {ds xs : List D} (h : rg3 ds = some xs) : ∃ (i j c : Int) (n : Nat), ds = [.int i, .int j, .int c] ∧ RgC i j c n ∧ xs = rngD i c n := by
  unfold rg3 at h
  split at h
  · split at h
    · rename_i hc
      split at h
      · rename_i hz
        cases h
        subst hc
        rw [Bool.and_eq_true] at hz
        obtain ⟨b1, b2⟩ := smallB_iff hz.1
        obtain ⟨b3, b4⟩ := smallB_iff hz.2
        exact ⟨_, _, _, _, rfl, RgC.neg b1 b2 b3 b4, rfl⟩
      · cases h
    · split at h
      · rename_i hz
        cases h
        simp only [Bool.and_eq_true, decide_eq_true_eq] at hz
        obtain ⟨z1, z2, z3, z4⟩ := hz
        exact ⟨_, _, _, _, rfl, ⟨z1, z2, z3, by omega⟩, rfl⟩
      · cases h
  · cases h
theorem RepL.int1 {io : List Addr} {vs : List V} {j : Int} (h : RepL T K io H vs [.int j]) : vs = [.int j] := by
  cases h with
  | cons r t => cases r; cases t; rfl
theorem RepL.int2 {io : List Addr} {vs : List V} {i j : Int} (h : RepL T K io H vs [.int i, .int j]) : vs = [.int i, .int j] := by
  cases h with
  | cons r t => cases r; rw [RepL.int1 t]
theorem RepL.int3 {io : List Addr} {vs : List V} {i j c : Int} (h : RepL T K io H vs [.int i, .int j, .int c]) : vs = [.int i, .int j, .int c] := by
  cases h with
  | cons r t => cases r; rw [RepL.int2 t]
def iL (k : List D → Option (List D)) (g : S → LRes) : S → LRes := fun st => (g st).bind fun ds st1 => match k ds with
  | some xs => .ok xs st1
  | none => .bad
theorem di_range1 (hg : Gl X "range") (hm : X.mg "range" = none) (ha : DL X T [a] g) (hs : starEach [a] X.env = [(false, eval a X.env)] := by rfl) : DI X T tg (.Call (.Name "range" p) [a] [] pos) (iL rg1 g) :=
  PI.imp (pi_range1 hg hm ha hs) fun σ H R ⟨G, w, st, W, R0, tk, h⟩ => ⟨G, w, st, W, R0, tk, PostL.bindI h fun ds st1 w1 H1 vs _ l R1 x1 h1 => by
    cases q : rg1 ds with
    | none => rw [q] at h1; exact h1.elim
    | some xs =>
      rw [q] at h1
      obtain ⟨j, rfl, hz, rfl⟩ := rg1_inv q
      obtain ⟨b1, b2⟩ := smallB_iff hz
      exact ⟨j, RepL.int1 x1, b1, b2, h1.it R1 (ItD.rng 0 _)⟩⟩
theorem di_range3 {c : Expr} (hg : Gl X "range") (hm : X.mg "range" = none) (ha : DL X T [a, b, c] g) (hs : starEach [a, b, c] X.env = (false, eval a X.env) :: starEach [b, c] X.env := by rfl) (hpl : (backTo pos (starEach [b, c] X.env)).any (·.1) = false := by rfl) :
    DI X T tg (.Call (.Name "range" p) [a, b, c] [] pos) (iL rg3 g) :=
  PI.imp (pi_range3 hg hm ha hs hpl) fun σ H R ⟨G, w, st, W, R0, tk, h⟩ => ⟨G, w, st, W, R0, tk, PostL.bindI h fun ds st1 w1 H1 vs _ l R1 x1 h1 => by
    cases q : rg3 ds with
    | none => rw [q] at h1; exact h1.elim
    | some xs =>
      rw [q] at h1
      obtain ⟨i, j, c, n, rfl, hz, rfl⟩ := rg3_inv q
      exact ⟨i, j, c, n, RepL.int3 x1, hz, h1.it R1 (ItD.rngC i c _)⟩⟩
def zi2 : List D → Option (List D)
  | [d, e] => match srcD d, srcD e with
    | some xs, some ys => some (zipD xs ys)
    | _, _ => none
  | _ => none
theorem zi2_inv {ds xs : List D} (h : zi2 ds = some xs) : ∃ d e ys zs, ds = [d, e] ∧ srcD d = some ys ∧ srcD e = some zs ∧ xs = zipD ys zs := by
  unfold zi2 at h
  split at h
  · rename_i d e
    cases q : srcD d with
    | none => rw [q] at h; cases h
    | some ys =>
      cases q2 : srcD e with
      | none => rw [q, q2] at h; cases h
      | some zs => rw [q, q2] at h; cases h; exact ⟨_, _, _, _, rfl, q, q2, rfl⟩
  · cases h
theorem di_zip {elts : List Expr} {kk : Nat} {tpos : Pos} (hg : Gl X "zip") (hm : X.mg "zip" = none) (ha : DL X T [a, b] g) (hs : starEach [a, b] X.env = (false, eval a X.env) :: starEach [b] X.env := by rfl) (hpl : (backTo pos (starEach [b] X.env)).any (·.1) = false := by rfl) :
    DI X T (.Tuple elts kk tpos) (.Call (.Name "zip" p) [a, b] [] pos) (iL zi2 g) :=
  PI.imp (pi_zi hg hm ha hs hpl) fun σ H R ⟨G, w, st, W, R0, tk, h⟩ => ⟨G, w, st, W, R0, tk, PostL.bindI h fun ds st1 w1 H1 vs _ l R1 x1 h1 => by
    cases q : zi2 ds with
    | none => rw [q] at h1; exact h1.elim
    | some xs =>
      rw [q] at h1
      obtain ⟨d, d', ys, zs, rfl, qs, qs', rfl⟩ := zi2_inv q
      cases x1 with
      | cons r t =>
        cases t with
        | cons r' t =>
          cases t
          obtain ⟨sc, us, rfl, hh, rr⟩ := Rep.src r qs
          obtain ⟨sd, us', rfl, hh', rr'⟩ := Rep.src r' qs'
          exact ⟨sc, sd, us, us', rfl, hh _ R1.exf, hh' _ R1.exf, h1.it R1 (ItD.zip hh rr hh' rr')⟩⟩
end
end Bv

namespace Bv
open PySem PySem.Spec PyProof.Rows L2

/-- the place that r names gets new content -/
def wr (st : S) (d : D) : Rv → Option S
  | .val (.ob n) => if n < st.ob.length then some ⟨st.sl, st.ob.set n d⟩ else none
  | .bor i => match st.sl[i]? with
    | some (.own _) => some (st.set i (.own d))
    | some (.frz (.ob n)) => if n < st.ob.length then some ⟨st.sl, st.ob.set n d⟩ else none
    | _ => none
  | _ => none
section
variable {T : Tx} {K : PySem.W.Frag} {G : Hp} {w : Wd} {st st' : S} {σ : L2.St} {H : Hp} {v : V} {d d0 : D} {a : Addr} {o : HO}
theorem Con.other {b : Addr} {d : D} (n : b ≠ a) (c : Con T K w H b d) : Con T K w (upd H a o) b d := c.mono w.le_refl (upd_ne n)
theorem SR.writeO (R : SR T K G w st σ H) {n : Nat} (hn : st.ob[n]? = some d0) (ha : w.io[n]? = some a) (c : Con T K w (upd H a o) a d) : SR T K G w ⟨st.sl, st.ob.set n d⟩ σ (upd H a o) := by
  obtain ⟨h1, h2, h3⟩ := R.obj n d0 a hn ha
  have hm : a ∈ w.io := List.mem_of_getElem? ha
  refine ⟨R.bas, fun b u q => ?_, fun b u q => ?_, R.dis, R.len, R.frz, fun i e q => ?_, R.apart, by show _ = (st.ob.set n d).length; rw [List.length_set]; exact R.olen, R.ond, fun m e b q1 q2 => ?_, R.hld, R.tab⟩
  · rw [upd_ne (fun z => by rw [z, h1] at q; cases q)]; exact R.exf b u q
  · rw [upd_ne (fun z => by rw [z, h2] at q; cases q)]; exact R.exg b u q
  · obtain ⟨b, k1, k2, k3, k4, k5⟩ := R.own i e q
    exact ⟨b, k1, k2, k3, k4, k5.other (fun z => k4 (z ▸ hm))⟩
  · rcases getElem?_set' q1 with ⟨rfl, z⟩ | ⟨n', z⟩
    · rw [ha] at q2; cases q2; subst z
      exact ⟨h1, h2, c⟩
    · obtain ⟨k1, k2, k3⟩ := R.obj m e b z q2
      refine ⟨k1, k2, k3.other fun y => n' ?_⟩
      subst y
      have hm1 := (List.getElem?_eq_some_iff.mp q2)
      have hm2 := (List.getElem?_eq_some_iff.mp ha)
      exact (List.getElem_inj R.ond).mp (hm1.2.trans hm2.2.symm)
theorem SR.writeS (R : SR T K G w st σ H) {i : Nat} (hi : st.sl[i]? = some (.own d0)) (ha : σ[i]? = some (some (.ref a))) (c : Con T K w (upd H a o) a d) : SR T K G w (st.set i (.own d)) σ (upd H a o) := by
  obtain ⟨b, hb, h1, h2, h3, h4⟩ := R.own i d0 hi
  rw [ha] at hb; cases hb
  refine ⟨R.bas, fun b u q => ?_, fun b u q => ?_, R.dis, by show (st.sl.set i _).length = _; rw [List.length_set]; exact R.len, fun j e q => ?_, fun j e q => ?_, fun j k e f b q1 q2 z1 z2 => ?_, R.olen, R.ond, fun m e b q1 q2 => ?_, fun j q => (getElem?_set' q).elim (fun z => nomatch z.2) (fun z => R.hld j z.2), R.tab⟩
  · rw [upd_ne (fun z => by rw [z, h1] at q; cases q)]; exact R.exf b u q
  · rw [upd_ne (fun z => by rw [z, h2] at q; cases q)]; exact R.exg b u q
  · rcases getElem?_set' q with ⟨rfl, z⟩ | ⟨n, z⟩
    · cases z
    · exact R.frz j e z
  · rcases getElem?_set' q with ⟨rfl, z⟩ | ⟨n, z⟩
    · cases z
      exact ⟨a, ha, h1, h2, h3, c⟩
    · obtain ⟨b, k1, k2, k3, k4, k5⟩ := R.own j e z
      exact ⟨b, k1, k2, k3, k4, k5.other fun y => n (R.apart j i e d0 a z hi (y ▸ k1) ha)⟩
  · rcases getElem?_set' q1 with ⟨rfl, y1⟩ | ⟨n1, y1⟩
    · rcases getElem?_set' q2 with ⟨rfl, y2⟩ | ⟨n2, y2⟩
      · rfl
      · exact R.apart _ _ _ _ b hi y2 z1 z2
    · rcases getElem?_set' q2 with ⟨rfl, y2⟩ | ⟨n2, y2⟩
      · exact R.apart _ _ _ _ b y1 hi z1 z2
      · exact R.apart j k e f b y1 y2 z1 z2
  · obtain ⟨k1, k2, k3⟩ := R.obj m e b q1 q2
    exact ⟨k1, k2, k3.other fun y => h3 (y ▸ List.mem_of_getElem? q2)⟩
theorem rd_bor (i : Nat) : rd st (.bor i) = match st.sl[i]? with
    | some (.frz d) => deref st d
    | some (.own d) => some d
    | _ => none := rfl
/-- what stands at the place, and how it is written -/
theorem SR.write (R : SR T K G w st σ H) {r : Rv} (x : RR T K G w st σ H r v) (e : wr st d r = some st') :
    ∃ a d0, v = .ref a ∧ rd st r = some d0 ∧ Con T K w H a d0 ∧ ∀ o, Con T K w (upd H a o) a d → SR T K G w st' σ (upd H a o) := by
  have obj : ∀ {n : Nat}, RepW T K w v (.ob n) → (if n < st.ob.length then some (⟨st.sl, st.ob.set n d⟩ : S) else none) = some st' →
      ∃ a d0, v = .ref a ∧ st.ob[n]? = some d0 ∧ Con T K w H a d0 ∧ ∀ o, Con T K w (upd H a o) a d → SR T K G w st' σ (upd H a o) := fun {n} x e => by
    split at e
    · rename_i hn
      cases e
      cases x with
      | ob h =>
        have q : st.ob[n]? = some st.ob[n] := List.getElem?_eq_getElem hn
        obtain ⟨_, _, h3⟩ := R.obj n _ _ q h
        exact ⟨_, _, rfl, q, h3, fun o c => R.writeO q h c⟩
    · cases e
  cases r with
  | val d1 =>
    cases d1 with
    | ob n =>
      obtain ⟨a, d0, h1, h2, h3⟩ := obj x e
      exact ⟨a, d0, h1, h2, h3⟩
    | _ => cases e
  | fresh d1 => cases e
  | bor i =>
    have hv : σ[i]? = some (some v) := x
    dsimp only [wr] at e
    cases hs : st.sl[i]? with
    | none => rw [hs] at e; cases e
    | some s =>
      rw [hs] at e
      cases s with
      | no => cases e
      | hd => cases e
      | own d1 =>
        cases e
        obtain ⟨a, h1, h2, h3, h4, h5⟩ := R.own i d1 hs
        rw [hv] at h1; cases h1
        exact ⟨a, d1, rfl, by rw [rd_bor, hs], h5, fun o c => R.writeS hs hv c⟩
      | frz d1 =>
        cases d1 with
        | ob n =>
          obtain ⟨v', h1, h2⟩ := R.frz i _ hs
          rw [hv] at h1; cases h1
          obtain ⟨a, d0, k1, k2, k3⟩ := obj h2 e
          exact ⟨a, d0, k1, by rw [rd_bor, hs]; exact k2, k3⟩
        | _ => cases e
end

def isLst : Option D → Bool
  | some (.lst _) => true
  | _ => false
def mutEnd (f : D → List D → Option (Rv × D)) (r1 : Rv) (ds : List D) (st2 : S) : Res := match rd st2 r1 with
  | some c => match f c ds with
    | some oc => match wr st2 oc.2 r1 with
      | some st3 => .ok oc.1 st3
      | none => .bad
    | none => .bad
  | none => .bad
/-- o.m(x, ..), o a list: f gives the answer and the new content -/
def eMut (f : D → List D → Option (Rv × D)) (fo : S → Res) (fe : S → LRes) : S → Res := fun st => (fo st).bind fun r1 st1 => if isLst (rd st1 (vz r1)) = true then (fe st1).bindE fun ds st2 => mutEnd f (vz r1) ds st2 else .bad
/-- the method's reading serves f -/
def OpM (T : Tx) (K : PySem.W.Frag) (r : V → List V → Hp → VK → Prop) (f : D → List D → Option (Rv × D)) : Prop :=
  ∀ (w : Wd) (H : Hp) (a : Addr) (ys : List V) (c c' : D) (ds : List D) (out : Rv) (Q : VK), Ex w.Hf H → Con T K w H a c → RepLW T K w ys ds → f c ds = some (out, c') →
    (∀ o v, Con T K w (upd H a o) a c' → (∃ d, out = .val d ∧ RepW T K w v d) → Q v (upd H a o)) → r (.ref a) ys H Q
section
variable {X : Cx} {T : Tx} {K : PySem.W.Frag} {G : Hp} {w w' : Wd} {st : S} {σ : L2.St} {H : Hp} {W : WX} {o e : Expr} {es : List Expr} {fo f0 : S → Res} {fe : S → LRes} {f : D → List D → Option (Rv × D)} {name : Str} {apos cpos : Pos} {id : String} {r : V → List V → Hp → VK → Prop} {v : V}
theorem Rep1.isLst {d : Option D} (h : Bv.isLst d = true) (R : SR T K G w st σ H) (x : ∀ d0, d = some d0 → Rep1 T K w H v d0) : tyV K "list" v H := by
  unfold Bv.isLst at h
  split at h
  · obtain ⟨a, us, rfl, g, _⟩ := (x _ rfl).lst R
    exact .inl ⟨rfl, us, SqL.of g⟩
  · cases h
theorem mutEnd_of {r1 : Rv} {ds : List D} {Q : VK} {v1 : V} {vs : List V} (ho : OpM T K r f) (R : SR T K G w st σ H) (x1 : RR T K G w st σ H r1 v1) (x2 : RepLW T K w vs ds) (h : PostE T K G w σ (mutEnd f r1 ds st) Q W) : r v1 vs H Q := by
  unfold mutEnd at h
  cases q1 : rd st r1 with
  | none => rw [q1] at h; exact h.elim
  | some c =>
    rw [q1] at h
    dsimp only at h
    cases q2 : f c ds with
    | none => rw [q2] at h; exact h.elim
    | some oc =>
      rw [q2] at h
      dsimp only at h
      cases q3 : wr st oc.2 r1 with
      | none => rw [q3] at h; exact h.elim
      | some st3 =>
        rw [q3] at h
        obtain ⟨a, d0, rfl, e1, c1, wt⟩ := R.write x1 q3
        rw [q1] at e1; cases e1
        exact ho w H a vs c oc.2 ds oc.1 Q R.exf c1 x2 q2 fun o v c2 ⟨d, ed, rv⟩ => by
          dsimp only at h
          rw [ed] at h
          exact PostE.val h (wt o c2) rv
theorem tMut_of (ho : OpM T X.K r f) {Q : VK} (h : tE X T (eMut f fo fe) σ H Q) : tBM X.K "list" r (tE X T fo) (tL X T fe) σ H Q := by
  obtain ⟨G, w, st, W, R, tk, h⟩ := h
  refine ⟨G, w, st, W, R, tk, PostE.bindz (k := fun r1 st1 => if isLst (rd st1 r1) = true then (fe st1).bindE fun ds st2 => mutEnd f r1 ds st2 else .bad) h fun r1 st1 w1 H1 v1 e1 l1 R1 x1 h1 => ?_⟩
  by_cases hc : isLst (rd st1 (vz r1)) = true
  case neg => rw [if_neg hc] at h1; exact h1.elim
  rw [if_pos hc] at h1
  exact ⟨Rep1.isLst hc R1 fun d0 e => R1.read x1 e, G, w1, st1, W, R1, tk, PostL.bindE h1 fun ds st2 w2 H2 vs l2 R2 x2 h2 => mutEnd_of ho R2 (x1.carry l2) x2 h2⟩
theorem de_mut (pa : PlainAttrs "list") (slot : Slot "list" name id) (hty : typeOf (.builtin id) = pure (.type "method_descriptor")) (hm : MtR X id r) (hop : OpM T X.K r f) (ho : DE X T o fo) (ha : DL X T (e :: es) fe)
    (hbase : attributeBase o name X.env (eval o X.env) = eval o X.env := by rfl)
    (hfew : ((backTo cpos (starEach (e :: es) X.env)).all (fun x => !x.1) && (backToKw cpos (keywordEach [] X.env)).all (fun x => x.1.isSome)
      && decide ((e :: es).length + ([] : List Keyword).length + (if ([] : List Keyword).isEmpty then 0 else 1) < 30)) = true := by rfl)
    (hline : (apos.endLine == cpos.line) = true := by rfl) (hs : starEach (e :: es) X.env = (false, eval e X.env) :: starEach es X.env := by rfl) (hplain : (backTo cpos (starEach es X.env)).any (·.1) = false := by rfl) :
    DE X T (.Call (.Attribute o name apos) (e :: es) [] cpos) (eMut f fo fe) :=
  PE.imp (pe_bm pa slot hty hm ho ha hbase hfew hline hs hplain) fun σ H Q h => tMut_of hop h
end
def appendF : D → List D → Option (Rv × D)
  | .lst xs, [y] => if xs.length < sizeLine then some (.val .non, .lst (xs ++ [y])) else none
  | _, _ => none
section
variable {X : Cx} {T : Tx} {K : PySem.W.Frag} {w : Wd} {H : Hp}
theorem op_appendF : OpM T K rAppend appendF := by
  intro w H a ys c c' ds out Q ex hc rs e k
  unfold appendF at e
  split at e
  · split at e
    · rename_i xs y hz
      cases e
      obtain ⟨us, h, r⟩ := hc
      cases rs with
      | cons r1 t =>
        cases t
        exact ⟨a, us, _, rfl, rfl, h, by rw [r.len]; exact hz, k _ _ ⟨_, upd_same, r.append (.cons r1 .nil)⟩ ⟨_, rfl, .non⟩⟩
    · cases e
  · cases e
end
end Bv

namespace Bv
open PySem PySem.Spec PyProof.Rows L2

structure FnG (P : Program) (w : World) (K : PySem.W.Frag) (mg : Str → Option Value) (base : Heap) (k : Nat) (f : Addr) (fd : FuncData) (ps : List Str) (sp : Sp) : Prop where
  len : ∀ vs H Q E, sp vs H Q E → vs.length = ps.length
  run : ∀ (A : Around) (outer : List Env) (s : Shared) (H : Hp) (args : Args) (us : List Value) (vs : List V) (Q : VK) (E : XK), Room k A → A.guards = some [] → Env0 P w K mg base A outer s H →
    BindsTo s fd args (ps.zip us) → Vals vs us → sp vs H Q E → codeAny (model P w) A (.call (.ref f) args) (CR (L2.CX P w) outer P w H s Q E) s
theorem FnG.mono {P : Program} {w : World} {K : PySem.W.Frag} {mg : Str → Option Value} {base : Heap} {j k : Nat} {f : Addr} {fd : FuncData} {ps : List Str} {sp : Sp} (F : FnG P w K mg base j f fd ps sp) (h : j ≤ k) : FnG P w K mg base k f fd ps sp :=
  ⟨F.len, fun A o s H args us vs Q E hr => F.run A o s H args us vs Q E (hr.mono h)⟩
theorem fnG_of {P : Program} {w : World} {K : PySem.W.Frag} {mg : Str → Option Value} {base : Heap} {k : Nat} {f : Addr} {name qual : Str} {params : Arguments} {body : List Stmt} {scope : Scope} {dV kV doc pm cdv ct oc : Value} {an od : Option Addr}
    {osl : Array (Option Value)} {N ps : List Str} {sp : Sp} (lk : K.lookup f = some ⟨oc, od, .func (PySem.W.fnOf name qual params body scope dV kV doc pm an cdv ct), osl⟩) (hcd : PySem.W.codeIn K cdv qual = true) (S : FnScope N ps scope)
    (len : ∀ vs H Q E, sp vs H Q E → vs.length = ps.length)
    (hbody : ∀ (A : Around) (outer : List Env) (s : Shared) (H : Hp) (vs : List V) (Q : VK) (E : XK), Room k (A.deeper (envOfC qual scope s.heap.objs.size f cdv)) → (A.deeper (envOfC qual scope s.heap.objs.size f cdv)).guards = some [] → sp vs H Q E →
      ∃ t, PSs (cxOf (L2.CX P w) P w K mg base N qual scope f cdv A outer s H E) body t ∧ t { nx := fun _ H' => Q .non H', rt := Q } (start N vs) H) :
    FnG P w K mg base (k + 1) f (PySem.W.fnOf name qual params body scope dV kV doc pm an cdv ct) ps sp := by
  refine ⟨len, fun A outer s H args us vs Q E hr hg e0 hb r hsp => ?_⟩
  have kin : K.In s.heap := e0.mod.kin.keeps fun b o e => (e0.bs b o e).1
  have nol : s.heap.NoLimit := e0.mod.nolimit.keeps fun b o e => (e0.bs b o e).1
  have kinds : ∀ y ∈ ps.zip us, scope.names.lookup y.1 = some .local ∨ (scope.names.lookup y.1 = some .cell ∧ ((cellsFrom (s.heap.objs.size + 1) scope.names []).lookup y.1).isSome = true) := by
    rintro ⟨n, v⟩ hy
    exact (S.par n (List.of_mem_zip hy).1).imp id fun q => ⟨q, PySem.W.cellsFrom_some _ _ _ (.inl q)⟩
  refine codeAny_call_function hr.depth (kin _ _ lk) rfl S.co S.gen rfl (PySem.W.codeRec_of kin hcd) (hb _ _ _ _ (wpAny_newFunctionEnv_cells S.kind kinds fun env he s1 x => ?_))
  subst he
  obtain ⟨t, ht, hq⟩ := hbody A outer s H vs Q E (hr.deeper _) hg hsp
  refine ⟨nol.keeps x.toInCall.keep, codeAny_func ?_⟩
  refine wpAny_mono (ht.run [] s1 (start N vs) H _ (inv_start S hr.hd e0 (len _ _ _ _ hsp) r x) hq) (fun fl s' hs => ?_) fun e s' hs => hs
  cases fl with
  | ret u =>
    obtain ⟨v, σ', H', J, rv, q⟩ := hs
    exact ⟨v, H', J.os, J.bare, J.base, J.hok, rv, q⟩
  | next =>
    obtain ⟨σ', H', J, q⟩ := hs
    exact ⟨V.non, H', J.os, J.bare, J.base, J.hok, rfl, q⟩
  | brk => exact hs.elim fun _ z => z.elim fun _ y => y.2.elim
  | cont => exact hs.elim fun _ z => z.elim fun _ y => y.2.elim

section
variable {X : Cx} {k : Nat} {f : Addr} {fd : FuncData} {ps : List Str} {sp : Sp} {dvs : List V} {ds : List Value} {x : Str} {p pos : Pos} {e : Expr} {es : List Expr} {t : TA}
theorem run_fnG {pins : List (Addr × Obj)} {σ : L2.St} {H : Hp} {s : Shared} {Q : VK} {W : WX} {us : List Value} {vs : List V} (F : FnG X.prog X.w X.K X.mg X.base k f fd ps sp) (hr : Room k X.A) (hg : X.A.guards = some []) (hb : Binds X.K fd ps ds) (hd : Vals dvs ds) (tk : Takes X W)
    (I : Inv X pins σ H s) (r : Vals vs us) (h : sp (vs ++ dvs) H Q fun c d H' => W c d σ H') : wpAny (model X.prog X.w) X.A (call (.ref f) us) (EP X pins σ Q) X.xe s := by
  have r2 := r.append hd
  have hl : (us ++ ds).length = ps.length := r2.length ▸ F.len _ _ _ _ h
  refine wpAny_call (codeAny_mono (F.run X.A X.stack s H ⟨us, []⟩ _ _ Q _ hr hg I.env0 (hb s us I.kIn hl) r2 h) fun r s' hq => ?_)
  cases r with
  | error e => exact tk e s' (XE.of_call I (fun _ _ _ q => q) hq)
  | ok fl =>
    cases fl with
    | ret u => exact I.after hq
    | _ => exact hq.elim
/-- f(e, ..): the wish of what is raised goes with the slots -/
def tCallG (X : Cx) (sp : Sp) (dvs : List V) (t : TA) : TE := fun σ H Q => t σ H fun vs H1 => ∃ W : WX, Takes X W ∧ sp (vs ++ dvs) H1 Q fun c d H' => W c d σ H'
theorem pe_callG2 (F : FnG X.prog X.w X.K X.mg X.base k f fd ps sp) (hr : Room k X.A) (hu : X.A.guards = some []) (hg : Gl X x) (hm : X.mg x = some (.ref f)) (hk : PySem.W.keepIn X.K (.ref f) = true) (hb : Binds X.K fd ps ds) (hd : Vals dvs ds)
    (ha : PA X (e :: es) t) (hdb : (x == ("__debug__" : Str)) = false := by decide) (he : starEach (e :: es) X.env = (false, eval e X.env) :: starEach es X.env := by rfl) (hpl : (backTo pos (starEach es X.env)).any (·.1) = false := by rfl) :
    PE X (.Call (.Name x p) (e :: es) [] pos) (tCallG X sp dvs t) :=
  ⟨fun pins s σ H Q I h => wpAny_Call_Name_kw (ld_glob I hg hm (PySem.W.callWith_K (h₀ := X.base) I.ok.mod.kin hk (thn (ha.run pos pins s σ H _ I h) fun us s1 ⟨vs, H1, I1, r, W, tk, q⟩ => ⟨I1.kIn, run_fnG F hr hu hb hd tk I1 r q⟩) he hpl) hdb)⟩
end

/-- what a def gives: an answer and the objects behind it -/
inductive FR where
  | ok (r : Rv) (ob : List D) | exc (e : Exn) (ob : List D) | bad
section
variable (T : Tx) (K : PySem.W.Frag) (G : Hp) (w : Wd)
def PostF2 (r : FR) (Q : VK) (E : XK) : Prop := match r with
  | .ok r ob => ∀ (w' : Wd) (H' : Hp) (v : V), w.le w' → SR T K G w' ⟨[], ob⟩ [] H' → RR T K G w' ⟨[], ob⟩ [] H' r v → Q v H'
  | .exc e ob => ∀ (w' : Wd) (H' : Hp) (cls : Value) (dx : Option Addr), w.le w' → SR T K G w' ⟨[], ob⟩ [] H' → ExR T K w' e cls dx → E cls dx H'
  | .bad => False
end
/-- the promise: n arguments -/
def spB (T : Tx) (K : PySem.W.Frag) (n : Nat) (φ : List D → List D → FR) : Sp := fun vs H Q E => vs.length = n ∧ ∃ (G : Hp) (w : Wd) (ob ds : List D), SR T K G w ⟨[], ob⟩ [] H ∧ RepLW T K w vs ds ∧ PostF2 T K G w (φ ds ob) Q E
/-- the answer of a body: what a slot has alone is new -/
def rtv (st : S) : Rv → Option Rv
  | .val d => some (.val d)
  | .fresh d => some (.fresh d)
  | .bor i => match st.sl[i]? with
    | some (.frz d) => some (.val d)
    | some (.own d) => some (.fresh d)
    | _ => none
def fnB (g : S → SRes) (n : Nat) : List D → List D → FR := fun ds ob => match g ⟨ds.map Sl.frz ++ List.replicate (n - ds.length) .no, ob⟩ with
  | .nx st => .ok (.val .non) st.ob
  | .rt r st => match rtv st r with
    | some r' => .ok r' st.ob
    | none => .bad
  | .ex e st => .exc e st.ob
  | _ => .bad
section
variable {T : Tx} {K : PySem.W.Frag} {G : Hp} {w w' : Wd} {st : S} {σ : L2.St} {H H' : Hp} {v : V} {vs : List V} {ds ob : List D}
theorem SR.drop (R : SR T K G w st σ H) : SR T K G w ⟨[], st.ob⟩ [] H := by
  refine ⟨R.bas, R.exf, R.exg, R.dis, rfl, fun i d h => ?_, fun i d h => ?_, fun i j d e a h => ?_, R.olen, R.ond, R.obj, fun i h => by simp at h, R.tab⟩
  · simp at h
  · simp at h
  · simp at h
theorem SR.rt (R : SR T K G w st σ H) {r r' : Rv} (x : RR T K G w st σ H r v) (e : rtv st r = some r') : RR T K G w ⟨[], st.ob⟩ [] H r' v := by
  cases r with
  | val d => cases e; exact x
  | fresh d =>
    cases e
    obtain ⟨a, rfl, h1, h2, h3, h4, h5⟩ := x
    exact ⟨a, rfl, h1, h2, h3, fun i e h => by simp at h, h5⟩
  | bor i =>
    have hv : σ[i]? = some (some v) := x
    dsimp only [rtv] at e
    cases hs : st.sl[i]? with
    | none => rw [hs] at e; cases e
    | some s =>
      rw [hs] at e
      cases s with
      | no => cases e
      | frz d =>
        cases e
        obtain ⟨v', h1, h2⟩ := R.frz i d hs
        rw [hv] at h1; cases h1
        exact h2
      | hd => cases e
      | own d =>
        cases e
        obtain ⟨a, h1, h2, h3, h4, h5⟩ := R.own i d hs
        rw [hv] at h1; cases h1
        exact ⟨a, rfl, h2, h3, h4, fun i e h => by simp at h, h5⟩
theorem SR.start {N : List Str} (R : SR T K G w ⟨[], ob⟩ [] H) (x : RepLW T K w vs ds) : SR T K G w ⟨ds.map Sl.frz ++ List.replicate (N.length - ds.length) .no, ob⟩ (L2.start N vs) H := by
  have hl : vs.length = ds.length := x.len
  have low : ∀ (i : Nat) (s : Sl), (ds.map Sl.frz ++ List.replicate (N.length - ds.length) Sl.no)[i]? = some s → s = .no ∨ ∃ d, ds[i]? = some d ∧ s = .frz d := fun i s h => by
    by_cases hi : i < ds.length
    · rw [List.getElem?_append_left (by simpa using hi), List.getElem?_map, List.getElem?_eq_getElem hi] at h
      cases h
      exact .inr ⟨_, List.getElem?_eq_getElem hi, rfl⟩
    · rw [List.getElem?_append_right (by simpa using hi), List.getElem?_replicate] at h
      split at h
      · cases h; exact .inl rfl
      · cases h
  refine ⟨R.bas, R.exf, R.exg, R.dis, ?_, fun i d h => ?_, fun i d h => ?_, fun i j d e a h => ?_, R.olen, R.ond, R.obj, fun i h => (by rcases low i _ h with z | ⟨d', h1, z⟩ <;> cases z), R.tab⟩
  · unfold L2.start
    show (ds.map Sl.frz ++ List.replicate (N.length - ds.length) Sl.no).length = _
    rw [List.length_append, List.length_append, List.length_map, List.length_map, List.length_replicate, List.length_replicate, hl]
  · rcases low i _ h with z | ⟨d', h1, z⟩
    · cases z
    · cases z
      obtain ⟨u, h2, h3⟩ := x.get h1
      refine ⟨u, ?_, h3⟩
      unfold L2.start
      rw [List.getElem?_append_left (by simpa using (List.getElem?_eq_some_iff.mp h2).1), List.getElem?_map, h2]; rfl
  · rcases low i _ h with z | ⟨d', h1, z⟩ <;> cases z
  · rcases low i _ h with z | ⟨d', h1, z⟩ <;> cases z
/-- a body's reading gives the promise -/
theorem fnB_of {X : Cx} {g : S → SRes} {n : Nat} {Q : VK} {E : XK} (tk : Takes X (fun c d _ H => E c d H)) (hn : X.N.length = n) (h : spB T X.K (vs.length) (fnB g n) vs H Q E) : tS X T g { nx := fun _ H' => Q .non H', rt := Q } (start X.N vs) H := by
  obtain ⟨_, G, w, ob, ds, R, x, h⟩ := h
  subst hn
  refine ⟨G, w, _, _, R.start (N := X.N) x, tk, ?_⟩
  unfold fnB at h
  cases q : g ⟨ds.map Sl.frz ++ List.replicate (X.N.length - ds.length) .no, ob⟩ with
  | nx st => rw [q] at h; exact fun w' σ' H' l R' => h w' H' .non l R'.drop .non
  | rt r st =>
    rw [q] at h
    dsimp only at h
    cases q2 : rtv st r with
    | none => rw [q2] at h; exact h.elim
    | some r' => rw [q2] at h; exact fun w' σ' H' v l R' x' => h w' H' v l R'.drop (R'.rt x' q2)
  | ex e st => rw [q] at h; exact fun w' σ' H' c d l R' x' => h w' H' c d l R'.drop x'
  | bk st => rw [q] at h; exact h.elim
  | ct st => rw [q] at h; exact h.elim
  | bad => rw [q] at h; exact h.elim

/-- the frame with what the slots have alone -/
noncomputable def ownG (G : Hp) (st : S) (σ : L2.St) (H : Hp) : Hp := fun b => by
  classical exact if (∃ (i : Nat) (e : D), st.sl[i]? = some (.own e) ∧ σ[i]? = some (some (.ref b))) then H b else G b
theorem ownG_in {G : Hp} {st : S} {σ : L2.St} {H : Hp} {b : Addr} (h : ∃ (i : Nat) (e : D), st.sl[i]? = some (.own e) ∧ σ[i]? = some (some (.ref b))) : ownG G st σ H b = H b := if_pos h
theorem ownG_out {G : Hp} {st : S} {σ : L2.St} {H : Hp} {b : Addr} (h : ¬ ∃ (i : Nat) (e : D), st.sl[i]? = some (.own e) ∧ σ[i]? = some (some (.ref b))) : ownG G st σ H b = G b := if_neg h
theorem SR.inG (R : SR T K G w st σ H) {b : Addr} {o : HO} (e : G b = some o) : ownG G st σ H b = some o := by
  rw [ownG_out]
  · exact e
  · rintro ⟨i, d, q1, q2⟩
    obtain ⟨a, z1, _, z2, _⟩ := R.own i d q1
    rw [q2] at z1; cases z1
    rw [z2] at e; cases e
theorem SR.lend (R : SR T K G w st σ H) : SR T K (ownG G st σ H) w ⟨[], st.ob⟩ [] H := by
  refine ⟨R.bas, R.exf, fun b o e => ?_, fun b o e => ?_, rfl, fun i d h => ?_, fun i d h => ?_, fun i j d e a h => ?_, R.olen, R.ond, fun n d a h1 h2 => ?_, fun i h => by simp at h, fun p hp => let ⟨t, e⟩ := R.tab p hp; ⟨t, R.inG e⟩⟩
  · by_cases q : ∃ (i : Nat) (e : D), st.sl[i]? = some (.own e) ∧ σ[i]? = some (some (.ref b))
    · rw [ownG_in q] at e
      obtain ⟨i, d, h1, h2⟩ := q
      obtain ⟨a, k1, _, _, _, k5⟩ := R.own i d h1
      rw [h2] at k1; cases k1
      exact .of e (k5.ntbl e)
    · rw [ownG_out q] at e; exact R.exg b o e
  · by_cases q : ∃ (i : Nat) (e : D), st.sl[i]? = some (.own e) ∧ σ[i]? = some (some (.ref b))
    · obtain ⟨i, d, h1, h2⟩ := q
      obtain ⟨a, k1, k2, _⟩ := R.own i d h1
      rw [h2] at k1; cases k1
      exact k2
    · rw [ownG_out q] at e; exact R.dis b o e
  · simp at h
  · simp at h
  · simp at h
  · obtain ⟨k1, k2, k3⟩ := R.obj n d a h1 h2
    refine ⟨k1, ?_, k3⟩
    rw [ownG_out, k2]
    rintro ⟨i, e, q1, q2⟩
    obtain ⟨b, z1, _, _, z2, _⟩ := R.own i e q1
    rw [q2] at z1; cases z1
    exact z2 (List.mem_of_getElem? h2)
theorem SR.unlend (R : SR T K G w st σ H) (l : w.le w') (R' : SR T K (ownG G st σ H) w' ⟨[], ob⟩ [] H') : SR T K G w' ⟨st.sl, ob⟩ σ H' := by
  have inG : ∀ {b : Addr} {o : HO}, G b = some o → ownG G st σ H b = some o := fun {b o} e => by
    rw [ownG_out]
    · exact e
    · rintro ⟨i, d, q1, q2⟩
      obtain ⟨a, z1, _, z2, _⟩ := R.own i d q1
      rw [q2] at z1; cases z1
      rw [z2] at e; cases e
  refine ⟨R'.bas, R'.exf, fun b o e => R'.exg b o (inG e), fun b o e => R'.dis b o (inG e), R.len, fun i d h => ?_, fun i d h => ?_, R.apart, R'.olen, R'.ond, fun n d a h1 h2 => ?_, R.hld, R.tab⟩
  · obtain ⟨v, h1, h2⟩ := R.frz i d h
    exact ⟨v, h1, h2.mono l⟩
  · obtain ⟨a, h1, h2, h3, h4, h5⟩ := R.own i d h
    obtain ⟨o, ho⟩ := h5.here
    have e : ownG G st σ H a = some o := (ownG_in ⟨i, d, h, h1⟩).trans ho
    refine ⟨a, h1, R'.dis a o e, h3, fun m => ?_, h5.mono l (((R'.exg a o e).eq (h5.ntbl ho)).trans ho.symm)⟩
    obtain ⟨_, z, _⟩ := R'.io_mem m
    rw [e] at z; cases z
  · obtain ⟨k1, k2, k3⟩ := R'.obj n d a h1 h2
    refine ⟨k1, ?_, k3⟩
    cases q : G a with
    | none => rfl
    | some o => rw [inG q] at k2; cases k2
theorem SR.unlendR (R : SR T K G w st σ H) {r : Rv} (hr : ∀ i, r ≠ .bor i) (R' : SR T K (ownG G st σ H) w' ⟨[], ob⟩ [] H') (x : RR T K (ownG G st σ H) w' ⟨[], ob⟩ [] H' r v) : RR T K G w' ⟨st.sl, ob⟩ σ H' r v := by
  cases r with
  | val d => exact x
  | bor i => exact absurd rfl (hr i)
  | fresh d =>
    obtain ⟨a, rfl, h1, h2, h3, h4, h5⟩ := x
    have no : ¬ ∃ (i : Nat) (e : D), st.sl[i]? = some (.own e) ∧ σ[i]? = some (some (.ref a)) := fun q => by
      have z := ownG_in (G := G) (H := H) q
      rw [h2] at z
      obtain ⟨i, e, q1, q2⟩ := q
      obtain ⟨b, z1, _, _, _, z2⟩ := R.own i e q1
      rw [q2] at z1; cases z1
      obtain ⟨o, ho⟩ := z2.here
      rw [ho] at z; cases z
    exact ⟨a, rfl, h1, (ownG_out (G := G) (H := H) no).symm.trans h2, h3, fun i e q1 q2 => no ⟨i, e, q1, q2⟩, h5⟩
end
/-- f(..): the arguments given away, then what the def gives -/
def eCall (φ : List D → List D → FR) (n : Nat) (dd : List D) (g : S → LRes) : S → Res := fun st => (g st).bindE fun ds st1 => if (ds ++ dd).length = n then match φ (ds ++ dd) st1.ob with
  | .ok (.bor _) _ => .bad
  | .ok r ob => .ok r ⟨st1.sl, ob⟩
  | .exc e ob => .exc e ⟨st1.sl, ob⟩
  | .bad => .bad else .bad
section
variable {X : Cx} {T : Tx} {k : Nat} {f : Addr} {fd : FuncData} {ps : List Str} {φ : List D → List D → FR} {n : Nat} {dvs : List V} {dd : List D} {ds : List Value} {x : Str} {p pos : Pos} {e : Expr} {es : List Expr} {g : S → LRes}
theorem tCall_of {σ : L2.St} {H : Hp} {Q : VK} (hdd : ∀ w : Wd, RepLW T X.K w dvs dd) (h : tE X T (eCall φ n dd g) σ H Q) : tCallG X (spB T X.K n φ) dvs (tL X T g) σ H Q := by
  obtain ⟨G, w, st, W, R, tk, h⟩ := h
  refine ⟨G, w, st, W, R, tk, PostL.bindE h fun ds1 st1 w1 H1 vs l1 R1 x1 h1 => ⟨W, tk, ?_⟩⟩
  have x2 : RepLW T X.K w1 (vs ++ dvs) (ds1 ++ dd) := RepL.append x1 (hdd w1)
  by_cases hz : (ds1 ++ dd).length = n
  case neg => rw [if_neg hz] at h1; exact h1.elim
  rw [if_pos hz] at h1
  refine ⟨by rw [x2.len]; exact hz, ownG G st1 σ H1, w1, st1.ob, ds1 ++ dd, R1.lend, x2, ?_⟩
  cases q : φ (ds1 ++ dd) st1.ob with
  | bad => rw [q] at h1; exact h1.elim
  | exc e ob => rw [q] at h1; exact fun w' H' c d l R' xr => h1 w' H' c d l (R1.unlend l R') xr
  | ok r ob =>
    rw [q] at h1
    cases r with
    | bor i => exact h1.elim
    | val d => exact fun w' H' v l R' xr => h1 w' H' v l (R1.unlend l R') xr
    | fresh d => exact fun w' H' v l R' xr => h1 w' H' v l (R1.unlend l R') (R1.unlendR (fun i z => nomatch z) R' xr)
theorem de_call (F : FnG X.prog X.w X.K X.mg X.base k f fd ps (spB T X.K n φ)) (hr : Room k X.A) (hu : X.A.guards = some []) (hg : Gl X x) (hm : X.mg x = some (.ref f)) (hk : PySem.W.keepIn X.K (.ref f) = true) (hb : Binds X.K fd ps ds) (hd : Vals dvs ds) (hdd : ∀ w : Wd, RepLW T X.K w dvs dd)
    (ha : DL X T (e :: es) g) (hdb : (x == ("__debug__" : Str)) = false := by decide) (he : starEach (e :: es) X.env = (false, eval e X.env) :: starEach es X.env := by rfl) (hpl : (backTo pos (starEach es X.env)).any (·.1) = false := by rfl) :
    DE X T (.Call (.Name x p) (e :: es) [] pos) (eCall φ n dd g) := PE.imp (pe_callG2 F hr hu hg hm hk hb hd ha hdb he hpl) fun _ _ _ h => tCall_of hdd h
end
end Bv

namespace Bv
open PySem PySem.Spec PyProof.Rows L2

def giveO (st : S) : Rv → Option (D × S)
  | .val (.ob n) => some (.ob n, st)
  | .fresh d => some (.ob st.ob.length, ⟨st.sl, st.ob ++ [d]⟩)
  | .bor i => match st.sl[i]? with
    | some (.frz (.ob n)) => some (.ob n, st)
    | some (.own d) => some (.ob st.ob.length, ⟨st.sl.set i (.frz (.ob st.ob.length)), st.ob ++ [d]⟩)
    | _ => none
  | _ => none
section
variable {T : Tx} {K : PySem.W.Frag} {G : Hp} {w w' : Wd} {st st' : S} {σ : L2.St} {H : Hp} {v : V} {d : D} {a : Addr}
theorem get_snoc {α : Type} {l : List α} {x y : α} {n : Nat} (h : (l ++ [x])[n]? = some y) : l[n]? = some y ∨ (n = l.length ∧ x = y) := by
  by_cases hn : n < l.length
  · rw [List.getElem?_append_left hn] at h; exact .inl h
  · rw [List.getElem?_append_right (by omega)] at h
    by_cases e : n - l.length = 0
    · rw [e] at h; exact .inr ⟨by omega, by simpa using h⟩
    · rw [List.getElem?_eq_none (by simp; omega)] at h; cases h
/-- what is nobody's becomes an object -/
theorem SR.mkOb (R : SR T K G w st σ H) (h1 : w.Hf a = none) (h2 : G a = none) (h3 : a ∉ w.io) (h4 : ∀ (i : Nat) (e : D), st.sl[i]? = some (.own e) → σ[i]? ≠ some (some (.ref a))) (c : Con T K w H a d) :
    w.le ⟨w.Hf, w.io ++ [a]⟩ ∧ SR T K G ⟨w.Hf, w.io ++ [a]⟩ ⟨st.sl, st.ob ++ [d]⟩ σ H ∧ RepW T K ⟨w.Hf, w.io ++ [a]⟩ (.ref a) (.ob st.ob.length) := by
  have le : w.le ⟨w.Hf, w.io ++ [a]⟩ := ⟨Ex.refl _, fun n b h => by
    show (w.io ++ [a])[n]? = some b
    rw [List.getElem?_append_left (List.getElem?_eq_some_iff.mp h).1]; exact h⟩
  refine ⟨le, ⟨⟨R.bas.1, R.bas.2.trans le.2⟩, R.exf, R.exg, R.dis, R.len, fun i e q => ?_, fun i e q => ?_, R.apart, ?_, ?_, fun n e b q1 q2 => ?_, R.hld, R.tab⟩, ?_⟩
  · obtain ⟨u, k1, k2⟩ := R.frz i e q
    exact ⟨u, k1, k2.mono le⟩
  · obtain ⟨b, k1, k2, k3, k4, k5⟩ := R.own i e q
    refine ⟨b, k1, k2, k3, fun m => ?_, k5.mono le rfl⟩
    rcases List.mem_append.mp m with m | m
    · exact k4 m
    · rw [List.mem_singleton.mp m] at k1
      exact h4 i e q k1
  · show (w.io ++ [a]).length = (st.ob ++ [d]).length
    rw [List.length_append, List.length_append, R.olen]; rfl
  · exact List.nodup_append.mpr ⟨R.ond, by simp, fun x hx y hy => by rw [List.mem_singleton.mp hy]; exact fun z => h3 (z ▸ hx)⟩
  · rcases get_snoc q1 with q1 | ⟨e1, e2⟩
    · rcases get_snoc q2 with q2 | ⟨e3, e4⟩
      · obtain ⟨k1, k2, k3⟩ := R.obj n e b q1 q2
        exact ⟨k1, k2, k3.mono le rfl⟩
      · have := (List.getElem?_eq_some_iff.mp q1).1
        rw [← R.olen] at this; omega
    · rcases get_snoc q2 with q2 | ⟨e3, e4⟩
      · have := (List.getElem?_eq_some_iff.mp q2).1
        rw [R.olen] at this; omega
      · subst e2 e4
        exact ⟨h1, h2, c.mono le rfl⟩
  · refine .ob ?_
    show (w.io ++ [a])[st.ob.length]? = some a
    rw [← R.olen]; simp
theorem SR.forget (R : SR T K G w st σ H) (i : Nat) : SR T K G w (st.set i .no) σ H := by
  refine ⟨R.bas, R.exf, R.exg, R.dis, by show (st.sl.set i .no).length = _; rw [List.length_set]; exact R.len, fun j e q => ?_, fun j e q => ?_, fun j k e f b q1 q2 => ?_, R.olen, R.ond, R.obj, fun j q => (getElem?_set' q).elim (fun z => nomatch z.2) (fun z => R.hld j z.2), R.tab⟩
  · rcases getElem?_set' q with ⟨_, z⟩ | ⟨_, z⟩
    · cases z
    · exact R.frz j e z
  · rcases getElem?_set' q with ⟨_, z⟩ | ⟨_, z⟩
    · cases z
    · exact R.own j e z
  · rcases getElem?_set' q1 with ⟨_, z⟩ | ⟨_, z⟩
    · cases z
    · rcases getElem?_set' q2 with ⟨_, z2⟩ | ⟨_, z2⟩
      · cases z2
      · exact R.apart j k e f b z z2
theorem SR.fill {i : Nat} {v : V} (R : SR T K G w (st.set i .no) σ H) (hi : σ[i]? = some (some v)) (r : RepW T K w v d) : SR T K G w (st.set i (.frz d)) σ H := by
  have e : (st.set i .no).set i (.frz d) = st.set i (.frz d) := by
    show (⟨(st.sl.set i .no).set i (.frz d), st.ob⟩ : S) = ⟨st.sl.set i (.frz d), st.ob⟩
    rw [List.set_set]
  have e2 : σ.set i (some v) = σ := List.ext_getElem? fun j => by
    rw [List.getElem?_set]
    by_cases h : i = j
    · subst h
      rw [if_pos rfl, if_pos (List.getElem?_eq_some_iff.mp hi).1, hi]
    · rw [if_neg h]
  have := R.setF (i := i) (v := v) r
  rw [e, e2] at this
  exact this
theorem SR.giveO (R : SR T K G w st σ H) {r : Rv} (h : RR T K G w st σ H r v) (e : giveO st r = some (d, st')) : ∃ w', w.le w' ∧ SR T K G w' st' σ H ∧ RepW T K w' v d := by
  cases r with
  | val d0 =>
    cases d0 <;> try cases e
    exact ⟨w, w.le_refl, R, h⟩
  | fresh d0 =>
    cases e
    obtain ⟨a, rfl, h1, h2, h3, h4, h5⟩ := h
    obtain ⟨le, R', x⟩ := R.mkOb h1 h2 h3 h4 h5
    exact ⟨_, le, R', x⟩
  | bor i =>
    have hv : σ[i]? = some (some v) := h
    dsimp only [Bv.giveO] at e
    cases hs : st.sl[i]? with
    | none => rw [hs] at e; cases e
    | some s =>
      rw [hs] at e
      cases s with
      | no => cases e
      | frz d0 =>
        cases d0 <;> try cases e
        obtain ⟨v', k1, k2⟩ := R.frz i _ hs
        rw [hv] at k1; cases k1
        exact ⟨w, w.le_refl, R, k2⟩
      | hd => cases e
      | own d0 =>
        cases e
        obtain ⟨a, k1, k2, k3, k4, k5⟩ := R.own i d0 hs
        rw [hv] at k1; cases k1
        have no : ∀ (j : Nat) (e : D), (st.set i .no).sl[j]? = some (.own e) → σ[j]? ≠ some (some (.ref a)) := fun j e q z => by
          rcases getElem?_set' q with ⟨_, y⟩ | ⟨n, y⟩
          · cases y
          · exact n (R.apart j i e d0 a y hs z hv)
        obtain ⟨le, R', x⟩ := (R.forget i).mkOb k2 k3 k4 no k5
        have R2 : SR T K G ⟨w.Hf, w.io ++ [a]⟩ ((⟨st.sl, st.ob ++ [d0]⟩ : S).set i .no) σ H := R'
        have R3 := R2.fill hv x
        exact ⟨_, le, R3, x⟩
end
def lConsO (f : S → Res) (g : S → LRes) : S → LRes := fun st => (f st).bindL fun r st1 => match giveO st1 r with
  | some (d, st2) => (g st2).bind fun ds st3 => .ok (d :: ds) st3
  | none => .bad
section
variable {X : Cx} {T : Tx} {e : Expr} {es : List Expr} {f : S → Res} {g : S → LRes}
theorem dl_consO (ha : DE X T e f) (hr : DL X T es g) (hs : starEach (e :: es) X.env = (false, eval e X.env) :: starEach es X.env := by rfl) : DL X T (e :: es) (lConsO f g) :=
  PA.imp (pa_cons ha hr hs) fun σ H Q ⟨G, w, st, W, R, tk, h⟩ => ⟨G, w, st, W, R, tk, PostE.bindL h fun r1 st1 w1 H1 v1 l R1 x1 h1 => by
    cases q : giveO st1 r1 with
    | none => rw [q] at h1; exact h1.elim
    | some ds =>
      obtain ⟨d, st2⟩ := ds
      rw [q] at h1
      obtain ⟨w2, l2, R2, x2⟩ := R1.giveO x1 q
      exact ⟨G, w2, st2, W, R2, tk, PostL.bind (h1.le l2) fun ds st3 w3 H3 vs l3 R3 x3 h3 => h3 w3 H3 _ w3.le_refl R3 (.cons (x2.mono l3) x3)⟩⟩
end

def putD (es : List (D × D)) (c : Sum Key (List Key)) (k v : D) : List (D × D) :=
  if (es.any fun p => decide (kcode p.1 = some c)) = true then es.map (fun p => if kcode p.1 = some c then (p.1, v) else p) else es ++ [(k, v)]
def setF : D → D → D → Option D
  | .lst xs, .int i, v => match ixN xs.length i with
    | some j => some (.lst (xs.set j v))
    | none => none
  | .dic es, k, v => match kcode k with
    | some (.inl c) => if es.length < sizeLine then some (.dic (putD es (.inl c) k v)) else none
    | _ => none
  | .dit es, k, v => match kcode k with
    | some (.inr c) => if es.length < sizeLine then some (.dit (putD es (.inr c) k v)) else none
    | _ => none
  | _, _, _ => none
/-- the value first, then the thing, then the place -/
def sSetIx (fv fo fi : S → Res) : S → SRes := fun st => (fv st).bindS fun rv st1 => match give st1 rv with
  | some (d, st2) => (fo st2).bindS fun r1 st3 => (fi st3).bindS fun r2 st4 => match rd st4 (vz r1), rd st4 (vz r2) with
    | some c, some k => match setF c k d with
      | some c' => match wr st4 c' (vz r1) with
        | some st5 => .nx st5
        | none => .bad
      | none => .bad
    | _, _ => .bad
  | none => .bad
section
variable {X : Cx} {T : Tx} {K : PySem.W.Frag} {G : Hp} {w w' : Wd} {st : S} {σ : L2.St} {H : Hp} {W : WX} {En : Ends} {e o i : Expr} {fv fo fi : S → Res} {pos tpos : Pos}
theorem RepK.any {io : List Addr} {H : Hp} (k : Key) : ∀ {kvs : List (Key × V)} {es : List (D × D)}, RepK T K io H kvs es → (es.any fun p => decide (kcode p.1 = some (.inl k))) = kvs.any fun kv => decide (kv.1 = k)
  | _, _, .nil => rfl
  | _, _, .cons h t => by
    rw [List.any_cons, List.any_cons, RepK.any k t, kcode_kD]
    congr 1
    simp
theorem RepK.mapv {io : List Addr} {H : Hp} {v : V} {d : D} (k : Key) (x : Rep T K io H v d) : ∀ {kvs : List (Key × V)} {es : List (D × D)}, RepK T K io H kvs es →
    RepK T K io H (kvs.map (fun kv => if kv.1 = k then (kv.1, v) else kv)) (es.map (fun p => if kcode p.1 = some (.inl k) then (p.1, d) else p))
  | _, _, .nil => .nil
  | _, _, .cons (k := k') h t => by
    rw [List.map_cons, List.map_cons, kcode_kD]
    by_cases q : k' = k
    · rw [if_pos q, if_pos (by rw [q])]; exact .cons x (RepK.mapv k x t)
    · rw [if_neg q, if_neg (fun z => q (by injection z with z; injection z))]; exact .cons h (RepK.mapv k x t)
theorem RepK.snoc {io : List Addr} {H : Hp} {v : V} {d : D} (k : Key) (x : Rep T K io H v d) : ∀ {kvs : List (Key × V)} {es : List (D × D)}, RepK T K io H kvs es → RepK T K io H (kvs ++ [(k, v)]) (es ++ [(kD k, d)])
  | _, _, .nil => .cons x .nil
  | _, _, .cons h t => .cons h (RepK.snoc k x t)
theorem RepK.put {io : List Addr} {H : Hp} {v : V} {d : D} (k : Key) (x : Rep T K io H v d) {kvs : List (Key × V)} {es : List (D × D)} (r : RepK T K io H kvs es) : RepK T K io H (putK kvs k v) (putD es (.inl k) (kD k) d) := by
  unfold putD putK
  rw [RepK.any k r]
  split
  · exact RepK.mapv k x r
  · exact RepK.snoc k x r
theorem RepT.any {io : List Addr} {H : Hp} (k : List Key) : ∀ {kvs : List (List Key × V)} {es : List (D × D)}, RepT T K io H kvs es → (es.any fun p => decide (kcode p.1 = some (.inr k))) = kvs.any fun kv => decide (kv.1 = k)
  | _, _, .nil => rfl
  | _, _, .cons h t => by
    rw [List.any_cons, List.any_cons, RepT.any k t, kcode_tD]
    congr 1
    simp
theorem RepT.mapv {io : List Addr} {H : Hp} {v : V} {d : D} (k : List Key) (x : Rep T K io H v d) : ∀ {kvs : List (List Key × V)} {es : List (D × D)}, RepT T K io H kvs es →
    RepT T K io H (kvs.map (fun kv => if kv.1 = k then (kv.1, v) else kv)) (es.map (fun p => if kcode p.1 = some (.inr k) then (p.1, d) else p))
  | _, _, .nil => .nil
  | _, _, .cons (k := k') h t => by
    rw [List.map_cons, List.map_cons, kcode_tD]
    by_cases q : k' = k
    · rw [if_pos q, if_pos (by rw [q])]; exact .cons x (RepT.mapv k x t)
    · rw [if_neg q, if_neg (fun z => q (by injection z with z; injection z))]; exact .cons h (RepT.mapv k x t)
theorem RepT.snoc {io : List Addr} {H : Hp} {v : V} {d : D} (k : List Key) (x : Rep T K io H v d) : ∀ {kvs : List (List Key × V)} {es : List (D × D)}, RepT T K io H kvs es → RepT T K io H (kvs ++ [(k, v)]) (es ++ [(tD k, d)])
  | _, _, .nil => .cons x .nil
  | _, _, .cons h t => .cons h (RepT.snoc k x t)
theorem RepT.put {io : List Addr} {H : Hp} {v : V} {d : D} (k : List Key) (x : Rep T K io H v d) {kvs : List (List Key × V)} {es : List (D × D)} (r : RepT T K io H kvs es) : RepT T K io H (putK kvs k v) (putD es (.inr k) (tD k) d) := by
  unfold putD putK
  rw [RepT.any k r]
  split
  · exact RepT.mapv k x r
  · exact RepT.snoc k x r
theorem RepK.len {io : List Addr} {H : Hp} : ∀ {kvs : List (Key × V)} {es : List (D × D)}, RepK T K io H kvs es → kvs.length = es.length
  | _, _, .nil => rfl
  | _, _, .cons h t => by rw [List.length_cons, List.length_cons, RepK.len t]
theorem RepT.len {io : List Addr} {H : Hp} : ∀ {kvs : List (List Key × V)} {es : List (D × D)}, RepT T K io H kvs es → kvs.length = es.length
  | _, _, .nil => rfl
  | _, _, .cons h t => by rw [List.length_cons, List.length_cons, RepT.len t]
def rSetU : TSet := fun o i v H Q => rSetL o i v H Q ∨ rSetD o i v H Q
theorem set_u (hu : X.A.units + 1 < cLine) : PSet X rSetU := fun pins s σ H o i v ov iv u Q I ro ri rv h =>
  h.elim (fun h => set_list pins s σ H o i v ov iv u Q I ro ri rv h) fun h => set_dict hu pins s σ H o i v ov iv u Q I ro ri rv h
/-- one store -/
theorem set_of {a : Addr} {c c' k d : D} {y v : V} {Q : Hp → Prop} (R : SR T K G w st σ H) (hc : Con T K w H a c) (hk : Rep1 T K w H y k) (hv : RepW T K w v d) (e : setF c k d = some c') (q : ∀ o, Con T K w (upd H a o) a c' → Q (upd H a o)) : rSetU (.ref a) y v H Q := by
  unfold setF at e
  split at e
  · rename_i xs i
    split at e
    · rename_i j hj
      cases e
      obtain ⟨us, h, r⟩ := hc
      exact .inl ⟨a, us, i, j, rfl, hk.int, h, by rw [r.len]; exact hj, q _ ⟨_, upd_same, r.set hv j⟩⟩
    · cases e
  · rename_i es
    split at e
    · rename_i c hcd
      split at e
      · rename_i hz
        cases e
        have ek := kcode_inl hcd
        subst ek
        have ey := key_V hk
        subst ey
        obtain ⟨kvs, h, r⟩ := hc
        exact .inr ⟨a, _, rfl, DPut.k h (by rw [r.len]; exact hz), q _ ⟨_, upd_same, RepK.put c hv r⟩⟩
      · cases e
    · cases e
  · rename_i es
    split at e
    · rename_i c hcd
      split at e
      · rename_i hz
        cases e
        have ek := kcode_inr hcd
        subst ek
        obtain ⟨b, xs, rfl, hb, rb⟩ := hk.tup R
        have ex := keys_V rb
        subst ex
        obtain ⟨kvs, h, r⟩ := hc
        exact .inr ⟨a, _, rfl, DPut.t h hb (by rw [r.len]; exact hz), q _ ⟨_, upd_same, RepT.put c hv r⟩⟩
      · cases e
    · cases e
  · cases e
theorem ds_setIx (hu : X.A.units + 1 < cLine) (he : DE X T e fv) (ho : DE X T o fo) (hi : DE X T i fi)
    (ha : ∀ v, assign (.Subscript o i tpos) X.env v = (do
      let ov ← holding [v] (eval o X.env)
      let iv ← holding [v, ov] (eval i X.env)
      standAt tpos
      holding [v, ov, iv] (setItem ov iv v)
      release [v, ov, iv] []) := by intro _; rfl)
    (hs : swapsWithSole [.Subscript o i tpos] e pos.line X.env = pure false := by rfl) (hw : swappedStores [.Subscript o i tpos] e X.env = pure none := by rfl)
    (h1 : (assignEach [.Subscript o i tpos] X.env).map (·.2) = [assign (.Subscript o i tpos) X.env] := by rfl) : DS X T (.Assign [.Subscript o i tpos] e pos) (sSetIx fv fo fi) :=
  PS.imp (ps_asg he (pg_sub ho hi (set_u hu) ha) hs hw h1) fun En σ H ⟨G, w, st, W, R, tk, h⟩ => ⟨G, w, st, W, R, tk, PostE.bindS h fun rv st1 w1 H1 v1 l1 R1 x1 h1 => by
    cases qg : give st1 rv with
    | none => rw [qg] at h1; exact h1.elim
    | some p =>
      obtain ⟨d, st2⟩ := p
      rw [qg] at h1
      dsimp only at h1
      obtain ⟨w2, l2, R2, x2⟩ := R1.give x1 qg
      refine ⟨G, w2, st2, W, R2, tk, PostE.bindS (h1.le l2) fun r1 st3 w3 H3 v3 l3 R3 x3 h3 => ?_⟩
      obtain ⟨w4, l4, R4, x4⟩ := R3.valz x3
      refine ⟨G, w4, st3, W, R4, tk, PostE.bindS (h3.le l4) fun r2 st4 w5 H5 v5 l5 R5 x5 h5 => ?_⟩
      obtain ⟨w6, l6, R6, x6⟩ := R5.valz x5
      have h6 := h5.le l6
      have x4' := x4.carry (H' := H5) (st' := st4) (l5.trans l6)
      cases q1 : rd st4 (vz r1) with
      | none => rw [q1] at h6; exact h6.elim
      | some c =>
        cases q2 : rd st4 (vz r2) with
        | none => rw [q1, q2] at h6; exact h6.elim
        | some k =>
          rw [q1, q2] at h6
          dsimp only at h6
          cases q3 : setF c k d with
          | none => rw [q3] at h6; exact h6.elim
          | some c' =>
            rw [q3] at h6
            dsimp only at h6
            cases q4 : wr st4 c' (vz r1) with
            | none => rw [q4] at h6; exact h6.elim
            | some st5 =>
              rw [q4] at h6
              obtain ⟨a, d0, rfl, e1, c1, wt⟩ := R6.write x4' q4
              rw [q1] at e1; cases e1
              exact set_of R6 c1 (R6.read x6 q2) (x2.mono (l3.trans (l4.trans (l5.trans l6)))) q3 fun o c2 => h6 w6 σ _ w6.le_refl (wt o c2)⟩
end
end Bv

namespace Bv
open PySem PySem.Spec PyProof.Rows L2

def OpC1 (T : Tx) (K : PySem.W.Frag) (r : List V → Hp → VK → Prop) (f : D → Option Rv) : Prop := OpS1 T K (fun x H Q => r [x] H Q) f
section
variable {X : Cx} {T : Tx} {x : Str} {p pos : Pos} {a b : Expr} {fa fb : S → Res} {id U : String} {r : List V → Hp → VK → Prop} {f : D → Option Rv} {f2 : D → D → Option Rv}
theorem de_c1 (hc : CallR X (.builtin id) r) (ho : OpC1 T X.K r f) (hg : Gl X x) (hm : X.mg x = none) (hv : bootBuiltins x = some (.builtin id)) (ha : DE X T a fa) (hn : x ≠ "__name__" := by decide) (hdb : (x == ("__debug__" : Str)) = false := by decide)
    (na : starEach [a] X.env = (false, eval a X.env) :: starEach [] X.env := by rfl) (hpl : (backTo pos (starEach [] X.env)).any (·.1) = false := by rfl) : DE X T (.Call (.Name x p) [a] [] pos) (e1 f fa) :=
  PE.imp (pe_callB hc hg hm hv (pa_cons ha pa_nil na) hn hdb na hpl) fun σ H Q h => tUn_of (r := fun x H Q => r [x] H Q) ho h
theorem de_t1 (hc : CallR X (.type U) r) (ho : OpC1 T X.K r f) (hg : Gl X x) (hm : X.mg x = none) (hv : bootBuiltins x = some (.type U)) (ha : DE X T a fa) (hn : x ≠ "__name__" := by decide) (hdb : (x == ("__debug__" : Str)) = false := by decide)
    (na : starEach [a] X.env = (false, eval a X.env) :: starEach [] X.env := by rfl) (hpl : (backTo pos (starEach [] X.env)).any (·.1) = false := by rfl) : DE X T (.Call (.Name x p) [a] [] pos) (e1 f fa) :=
  PE.imp (pe_callTy hc hg hm hv (pa_cons ha pa_nil na) hn hdb na hpl) fun σ H Q h => tUn_of (r := fun x H Q => r [x] H Q) ho h
end

def lenD : D → Option Rv
  | .lst xs => some (.val (.int (xs.length : Nat)))
  | .rol xs => some (.val (.int (xs.length : Nat)))
  | .tup xs => some (.val (.int (xs.length : Nat)))
  | .str z => if z.length ≤ sizeLine then some (.val (.int (z.length : Nat))) else none
  | _ => none
def absD : D → Option Rv
  | .int i => some (.val (.int (if i < 0 then -i else i)))
  | _ => none
section
variable {X : Cx} {T : Tx} {K : PySem.W.Frag} {G : Hp} {w : Wd} {st : S} {σ : L2.St} {H : Hp} {v : V} {x : Str} {p pos : Pos} {a b : Expr} {fa fb : S → Res}
theorem o_len : OpC1 T K (fun xs H Q => ∃ x n, xs = [x] ∧ LenV K x H n ∧ Q (.int n) H) lenD := by
  intro G w st σ H x d out Q W R h e p
  unfold lenD at e
  split at e
  · cases e
    obtain ⟨a, us, rfl, g, r⟩ := h.lst R
    exact ⟨_, _, rfl, .inl ⟨us, SqL.of g, rfl⟩, by rw [r.len]; exact p.val R (.int _)⟩
  · cases e
    obtain ⟨a, us, rfl, g, r⟩ := h.rol R
    exact ⟨_, _, rfl, .inl ⟨us, g, rfl⟩, by rw [r.len]; exact p.val R (.int _)⟩
  · cases e
    obtain ⟨a, us, rfl, g, r⟩ := h.tup R
    exact ⟨_, _, rfl, .inr ⟨us, SqT.of g, rfl⟩, by rw [r.len]; exact p.val R (.int _)⟩
  · split at e
    · rename_i hz
      cases e
      have := h.str
      subst this
      exact ⟨_, _, rfl, ⟨hz, rfl⟩, p.val R (.int _)⟩
    · cases e
  · cases e
theorem de_len (hg : Gl X "len") (hm : X.mg "len" = none) (ha : DE X T a fa) (na : starEach [a] X.env = (false, eval a X.env) :: starEach [] X.env := by rfl) (hpl : (backTo pos (starEach [] X.env)).any (·.1) = false := by rfl) : DE X T (.Call (.Name "len" p) [a] [] pos) (e1 lenD fa) :=
  de_c1 call_len o_len hg hm boot_len ha (by decide) (by decide) na hpl
theorem o_abs : OpC1 T K (fun xs H Q => ∃ i, xs = [.int i] ∧ Q (.int (if i < 0 then -i else i)) H) absD := by
  intro G w st σ H x d out Q W R h e p
  unfold absD at e
  split at e
  · cases e
    have := h.int
    subst this
    exact ⟨_, rfl, p.val R (.int _)⟩
  · cases e
theorem de_abs (hg : Gl X "abs") (hm : X.mg "abs" = none) (ha : DE X T a fa) (na : starEach [a] X.env = (false, eval a X.env) :: starEach [] X.env := by rfl) (hpl : (backTo pos (starEach [] X.env)).any (·.1) = false := by rfl) : DE X T (.Call (.Name "abs" p) [a] [] pos) (e1 absD fa) :=
  de_c1 call_abs o_abs hg hm boot_abs ha (by decide) (by decide) na hpl
def tupD : D → Option Rv
  | .lst xs => some (.val (.tup xs))
  | .rol xs => some (.val (.tup xs))
  | .tup xs => some (.val (.tup xs))
  | _ => none
def lstD : D → Option Rv
  | .lst xs => some (.fresh (.lst xs))
  | .rol xs => some (.fresh (.lst xs))
  | .tup xs => some (.fresh (.lst xs))
  | _ => none
/-- a new tuple, frozen at once -/
theorem PostE.newT {q : Addr} {us : List V} {xs : List D} {Q : VK} {W : WX} (h : PostE T K G w σ (.ok (.val (.tup xs)) st) Q W) (R : SR T K G w st σ H) (hq : H q = none) (r : RepLW T K w us xs) : Q (.ref q) (upd H q (.tup us)) :=
  h.new R hq (.inr ⟨us, xs, rfl, rfl, r⟩)
theorem o_tup : OpS1 T K (fun x H Q => kTup K x H Q) tupD := by
  intro G w st σ H x d out Q W R h e p
  unfold tupD at e
  split at e
  · cases e
    obtain ⟨a, us, rfl, g, r⟩ := h.lst R
    exact .inl ⟨_, us, rfl, SqL.of g, fun q hq => p.newT R hq r⟩
  · cases e
    obtain ⟨a, us, rfl, g, r⟩ := h.rol R
    exact .inl ⟨_, us, rfl, g, fun q hq => p.newT R hq r⟩
  · cases e
    rcases h with h | ⟨a, rfl, c⟩
    · cases h with
      | tup hh rr => exact .inr ⟨_, _, rfl, SqT.of (R.exf _ _ hh), p.val R (.tup hh rr)⟩
    · exact c.elim
  · cases e
theorem de_tupOf (hg : Gl X "tuple") (hm : X.mg "tuple" = none) (ha : DE X T a fa) (na : starEach [a] X.env = (false, eval a X.env) :: starEach [] X.env := by rfl) : DE X T (.Call (.Name "tuple" p) [a] [] pos) (e1 tupD fa) :=
  PE.imp (pe_tupleOf hg hm ha na) fun σ H Q h => tUn_of (r := fun x H Q => kTup X.K x H Q) o_tup h
theorem o_lst : OpC1 T K (fun xs H Q => ∃ p ys, xs = [.ref p] ∧ (SqL K H p ys ∨ SqT K H p ys) ∧ ∀ l, H l = none → Q (.ref l) (upd H l (.lst ys))) lstD := by
  intro G w st σ H x d out Q W R h e p
  unfold lstD at e
  split at e
  · cases e
    obtain ⟨a, us, rfl, g, r⟩ := h.lst R
    exact ⟨_, us, rfl, .inl (SqL.of g), fun q hq => p.fresh R hq ⟨us, upd_same, r⟩⟩
  · cases e
    obtain ⟨a, us, rfl, g, r⟩ := h.rol R
    exact ⟨_, us, rfl, .inl g, fun q hq => p.fresh R hq ⟨us, upd_same, r⟩⟩
  · cases e
    obtain ⟨a, us, rfl, g, r⟩ := h.tup R
    exact ⟨_, us, rfl, .inr (SqT.of g), fun q hq => p.fresh R hq ⟨us, upd_same, r⟩⟩
  · cases e
theorem de_lstOf (hg : Gl X "list") (hm : X.mg "list" = none) (ha : DE X T a fa) (na : starEach [a] X.env = (false, eval a X.env) :: starEach [] X.env := by rfl) (hpl : (backTo pos (starEach [] X.env)).any (·.1) = false := by rfl) : DE X T (.Call (.Name "list" p) [a] [] pos) (e1 lstD fa) :=
  de_t1 call_list_of o_lst hg hm boot_list ha (by decide) (by decide) na hpl
variable {p2 pos2 : Pos}
def tyD : D → Option String
  | .non => some "NoneType"
  | .bl _ => some "bool"
  | .int _ => some "int"
  | .str _ => some "str"
  | .tup _ => some "tuple"
  | .lst _ => some "list"
  | .dic _ => some "dict"
  | .dit _ => some "dict"
  | _ => none
def kinds : List String := ["NoneType", "bool", "int", "str", "tuple", "list", "dict"]
def isT (t u : String) : Bool := t == u || (t == "bool" && u == "int")
theorem kitB_tab : ∀ t ∈ kinds, ∀ u ∈ ["bool", "int", "str", "tuple", "list", "dict"], kitB t u = some (isT t u) := by decide +kernel
def isiD (u : String) : D → Option Rv := fun d => match tyD d with
  | some t => some (.val (.bl (isT t u)))
  | none => none
theorem tyD_kinds {d : D} {t : String} (h : tyD d = some t) : t ∈ kinds := by
  cases d <;> simp only [tyD] at h <;> cases h <;> decide
theorem Rep1.ty (R : SR T K G w st σ H) {d : D} {t : String} (h : Rep1 T K w H v d) (e : tyD d = some t) : TyX K H v (.type t) := by
  cases d <;> simp only [tyD] at e <;> cases e
  · have : v = .non := by
      rcases h with h | ⟨a, rfl, c⟩
      · cases h; rfl
      · exact c.elim
    subst this
    exact .base .non
  · have := h.bl
    subst this
    exact .base (.bl _)
  · have := h.int
    subst this
    exact .base (.int _)
  · have := h.str
    subst this
    exact .base (.str _)
  · obtain ⟨a, us, rfl, g, r⟩ := h.tup R
    exact .base (.tup g)
  · obtain ⟨a, us, rfl, g, r⟩ := h.lst R
    exact .base (.lst g)
  · obtain ⟨a, us, rfl, g, r⟩ := h.dic R
    exact .base (.dK g)
  · obtain ⟨a, us, rfl, g, r⟩ := h.dit R
    exact .base (.dT g)
theorem de_isi {U : String} {x : Str} (hU : U ∈ ["bool", "int", "str", "tuple", "list", "dict"]) (hg : Gl X "isinstance") (hm : X.mg "isinstance" = none) (hg2 : Gl X x) (hm2 : X.mg x = none) (hv2 : bootBuiltins x = some (.type U)) (ha : DE X T a fa)
    (hn2 : x ≠ "__name__" := by decide) (hdb2 : (x == ("__debug__" : Str)) = false := by decide)
    (na : starEach [a, .Name x p2] X.env = (false, eval a X.env) :: starEach [.Name x p2] X.env := by rfl) (nb : starEach [.Name x p2] X.env = (false, eval (.Name x p2) X.env) :: starEach [] X.env := by rfl) (hpl : (backTo pos (starEach [.Name x p2] X.env)).any (·.1) = false := by rfl) :
    DE X T (.Call (.Name "isinstance" p) [a, .Name x p2] [] pos) (e1 (isiD U) fa) :=
  PE.imp (pe_callB call_isi hg hm boot_isinstance (pa_cons ha (pa_cons (pe_bltn (v := .ty U) hg2 hm2 hv2 rfl hn2 hdb2) pa_nil nb) na) (by decide) (by decide) na hpl) fun σ H Q h =>
    tUn_of (r := fun x H Q => rIsi X.K [x, .ty U] H Q) (fun G w st σ H x d out Q W R h e p => by
      unfold isiD at e
      cases q : tyD d with
      | none => rw [q] at e; cases e
      | some t =>
        rw [q] at e
        cases e
        exact ⟨x, .ty U, .type t, .type U, _, rfl, .ty U, h.ty R q, kit_ty (kitB_tab t (tyD_kinds q) U hU), p.val R (.bl _)⟩) h

end
end Bv

namespace Bv
open PySem PySem.Spec PyProof.Rows L2

/-- the law holds by its meaning φ -/
def Keeps (φ : List D → List D → FR) : Prop := ∀ ns : List Int, ns.length ≤ 63 → (∀ k ∈ ns, Builtin.Int.intBits k ≤ 1048576) → ∃ ob, φ [.rol (ns.map .int)] [] = .ok (.val (.bl true)) ob
theorem RepL.ints {T : Tx} {K : PySem.W.Frag} {io : List Addr} {H : Hp} : ∀ ns : List Int, RepL T K io H (ns.map V.int) (ns.map D.int)
  | [] => .nil
  | n :: ns => .cons (.int n) (RepL.ints ns)
theorem spB_law {c0 : ClsM} {K : PySem.W.Frag} {φ : List D → List D → FR} (hφ : Keeps φ) {H : Hp} {a : Addr} {ns : List Int} (hl : ns.length ≤ 63) (hb : ∀ k ∈ ns, Builtin.Int.intBits k ≤ 1048576) (hs : SqL K H a (ns.map V.int)) (E : XK) :
    spB { cls := c0 } K 1 φ [.ref a] H (fun v _ => v = .bl true) E := by
  obtain ⟨ob, e⟩ := hφ ns hl hb
  refine ⟨rfl, fun _ => none, ⟨H, []⟩, [], [.rol (ns.map .int)], ⟨⟨fun b o q => (by have q' : (none : Option HO) = some o := q; cases q'), fun n a q => (by have q' : ([] : List Addr)[n]? = some a := q; simp at q')⟩, Ex.refl _, fun b o q => (by have q' : (none : Option HO) = some o := q; cases q'), fun b o q => (by have q' : (none : Option HO) = some o := q; cases q'), rfl, fun i d h => by simp at h, fun i d h => by simp at h, fun i j d e a h => by simp at h, rfl, List.nodup_nil, fun n d a h => by simp at h, fun i h => by simp at h, fun p hp => by cases hp⟩, .cons (.rol hs (RepL.ints ns)) .nil, ?_⟩
  rw [e]
  intro w' H' v l R x
  cases x
  rfl
theorem law_callG {P : Program} {w : World} {K : PySem.W.Frag} {mg mb : Str → Option Value} {k : Nat} {fa a : Addr} {fd : FuncData} {x : Str} {sp : Sp} {s0 : Shared} {vs : List Value} {ns : List Int}
    (kin : K.In s0.heap) (nsG : s0.heap.Ns mainGlobals mg) (nsB : s0.heap.Ns builtinsNs mb) (bb : ∀ x : Str, x ≠ "__name__" → mb x = bootBuiltins x) (lim : s0.heap.NoLimit) (gens : s0.gens = #[])
    (ha : s0.heap.get? a = some { cls := .type "list", data := .seq vs.toArray }) (hi : IntsAre vs ns) (hl : ns.length ≤ sizeLine) (hr : Room k callerA)
    (F : ∀ base : Heap, K.In base → base.Ns mainGlobals mg → FnG P w K mg base k fa fd [x] sp) (hbind : ∀ (s : Shared) (u : Value), BindsTo s fd ⟨[u], []⟩ [(x, u)])
    (hsp : ∀ H : Hp, SqL K H a (ns.map V.int) → sp [.ref a] H (fun v _ => v = .bl true) fun _ _ _ => False) :
    codeAny (model P w) callerA (.call (.ref fa) ⟨[.ref a], []⟩) (fun r s' => r = .ok (.ret (.bool true)) ∧ OldK s0.heap s'.heap ∧ s'.os = s0.os ∧ AllBare s'.gens) s0 := by
  have rv := vals_ints hi
  have key : ∀ H : Hp, Only H → SqL K H a (ns.map V.int) → HOk P w H s0.heap → (∀ b, H b ≠ none → b = a) → (H a ≠ none → K.lookup a = none) →
      codeAny (model P w) callerA (.call (.ref fa) ⟨[.ref a], []⟩) (fun r s' => r = .ok (.ret (.bool true)) ∧ OldK s0.heap s'.heap ∧ s'.os = s0.os ∧ AllBare s'.gens) s0 := by
    intro H only sq hok atA noK
    have atB : ∀ {b : Addr} {o : Obj}, s0.heap.get? b = some o → (∀ es ep, o.data ≠ .dict es ep) ∨ H b = none := fun {b o} e => by
      cases q : H b with
      | none => exact .inr rfl
      | some u =>
        have z : b = a := atA b (by rw [q]; simp)
        subst z
        rw [ha] at e; cases e
        exact .inl fun es ep y => nomatch y
    have nsOf : ∀ {b : Addr} {m : Str → Option Value}, s0.heap.Ns b m → (hidT s0.heap H).Ns b m := fun {b m} ⟨o, es, ep, e, d, r⟩ =>
      ⟨o, es, ep, hidT_get e ((atB e).elim (fun z => absurd d (z es ep)) id), d, r⟩
    have kinB : K.In (hidT s0.heap H) := fun b o e => hidT_get (kin b o e) (by
      cases q : H b with
      | none => rfl
      | some u =>
        have z : b = a := atA b (by rw [q]; simp)
        subst z
        rw [noK (by rw [q]; simp)] at e; cases e)
    have limB : (hidT s0.heap H).NoLimit := by
      obtain ⟨mc, z1, z2⟩ := lim
      exact ⟨mc, nsOf z1, z2⟩
    have env : Env0 P w K mg (hidT s0.heap H) callerA [] s0 H := ⟨rfl, ⟨kinB, nsOf nsG, ⟨mb, nsOf nsB, bb⟩, limB⟩, fun b o e => of_hidT e, Nat.le_of_eq (hidT_size _ _), trivial, fun b hb => (by have hb' : b ∈ ([] : List Addr) := hb; cases hb'), hok, .of_eq gens⟩
    refine codeAny_mono ((F _ kinB (nsOf nsG)).run callerA [] s0 H ⟨[.ref a], []⟩ [.ref a] [.ref a] _ _ hr rfl env (hbind s0 (.ref a)) (.cons rfl .nil) (hsp H sq)) fun r s' h => ?_
    cases r with
    | error e =>
      obtain ⟨_, _, _, _, _, _, _, _, _, _, _, _, z⟩ := h
      exact z.elim
    | ok fl =>
      cases fl with
      | ret u =>
        obtain ⟨v, H', os, bare, un, hok', r', q⟩ := h
        have q' : v = .bl true := q
        subst q'
        obtain rfl : u = Value.bool true := r'
        refine ⟨rfl, OldK.of_keep fun b o e => ?_, os, bare⟩
        rcases only b with q | ⟨ob, xs, q⟩
        · exact un.keep b o e q (fun z => by have z' : b ∈ ([] : List Addr) := z; cases z') (by simp)
        · obtain ⟨e1, _⟩ := hok b _ q
          obtain ⟨e2, _⟩ := hok' b _ (un.frzs b ob _ q)
          rw [e] at e1; cases e1
          exact e2
      | _ => exact False.elim h
  cases hk : K.lookup a with
  | some o =>
    have e := kin a o hk
    rw [ha] at e
    cases e
    exact key (fun _ => none) (fun _ => .inl rfl) (.inr ⟨_, vs.toArray, _, hk, rfl, rfl, rfl, by rw [List.size_toArray, hi.length]; exact hl, by simpa using rv⟩) (fun b u z => by have z' : (none : Option HO) = some u := z; cases z') (fun b z => absurd rfl z) fun z => absurd rfl z
  | none =>
    refine key (fun b => if b = a then some (.frz { cls := .type "list", data := .seq vs.toArray } (.lst (ns.map V.int))) else none) (fun b => ?_) (.inl (.inr ⟨_, if_pos rfl⟩)) (fun b u z => ?_) (fun b z => ?_) fun _ => hk
    · by_cases hb : b = a
      · exact .inr ⟨_, _, if_pos hb⟩
      · exact .inl (if_neg hb)
    · by_cases hb : b = a
      · have y := (if_pos hb).symm.trans z
        cases y
        subst hb
        exact ⟨ha, by rw [List.length_map]; exact hl, vs, _, rv, ha⟩
      · have y := (if_neg hb).symm.trans z
        cases y
    · by_cases hb : b = a
      · exact hb
      · exact absurd (if_neg hb) z
end Bv

namespace Bv
open PySem PySem.Spec PyProof.Rows L2

/-- a def that is called by its name with n arguments -/
def CalG (P : Program) (w : World) (K : PySem.W.Frag) (mg : Str → Option Value) (base : Heap) (T : Tx) (k : Nat) (x : Str) (n : Nat) (φ : List D → List D → FR) : Prop :=
  ∃ (f : Addr) (fd : FuncData) (ps : List Str), FnG P w K mg base k f fd ps (spB T K n φ) ∧ mg x = some (.ref f) ∧ PySem.W.keepIn K (.ref f) = true ∧ Binds K fd ps []
theorem hu65 {A : Around} {k : Nat} (hr : Room k A) : A.units + 65 < cLine := by have := hr.un; omega
section
variable {X : Cx} {T : Tx} {k j n : Nat} {φ : List D → List D → FR} {x : Str} {p pos : Pos} {e : Expr} {es : List Expr} {g : S → LRes}
theorem de_fn (C : CalG X.prog X.w X.K X.mg X.base T k x n φ) (hr : Room j X.A) (hu : X.A.guards = some []) (ha : DL X T (e :: es) g) (hk : k ≤ j := by decide) (hg : Gl X x := by rfl) (hdb : (x == ("__debug__" : Str)) = false := by decide)
    (he : starEach (e :: es) X.env = (false, eval e X.env) :: starEach es X.env := by rfl) (hpl : (backTo pos (starEach es X.env)).any (·.1) = false := by rfl) :
    DE X T (.Call (.Name x p) (e :: es) [] pos) (eCall φ n [] g) := by
  obtain ⟨f, fd, ps, F, hm, hkp, hb⟩ := C
  exact de_call F (hr.mono hk) hu hg hm hkp hb .nil (fun _ => .nil) ha hdb he hpl
end
section
variable {P : Program} {w : World} {K : PySem.W.Frag} {mg : Str → Option Value} {base : Heap} {T : Tx} {x qual : Str} {st : Stmt} {f : Addr} {fd : FuncData} {N ps : List Str} {k : Nat} {g : S → SRes}
/-- a def of the text by its body -/
theorem fn_mk {φ : List D → List D → FR} {n m : Nat} (F : L2.Fun K x qual st f fd) (S : FnScope N ps (defScope st)) (hφ : φ = fnB g n) (hn : N.length = n) (hm : ps.length = m)
    (hbody : ∀ (cdv : Value) (A : Around) (outer : List Env) (s : Shared) (H : Hp) (E : XK), Room k (A.deeper (envOfC qual (defScope st) s.heap.objs.size f cdv)) → (A.deeper (envOfC qual (defScope st) s.heap.objs.size f cdv)).guards = some [] →
      DB (cxOf (L2.CX P w) P w K mg base N qual (defScope st) f cdv A outer s H E) T (defBody st) g) : FnG P w K mg base (k + 1) f fd ps (spB T K m φ) := by
  subst hφ hn hm
  obtain ⟨oc, od, kV, doc, pm, an, cdv, ct, osl, rfl, lk, hcd⟩ := F.ex
  refine fnG_of lk hcd S (fun vs H Q E h => h.1) fun A outer s H vs Q E hr hg h => ⟨_, hbody cdv A outer s H E hr hg, fnB_of (X := cxOf (L2.CX P w) P w K mg base N qual (defScope st) f cdv A outer s H E) (takes_of rfl rfl rfl rfl) rfl ?_⟩
  obtain ⟨h1, h2⟩ := h
  exact ⟨rfl, h2⟩
end
end Bv

namespace Bv
open PySem PySem.Spec PyProof.Rows L2

section
variable {X : Cx} {T : Tx} {a b c : Expr} {es : List Expr} {fa fb fc : S → Res} {op op' : CmpOp} {ops : List CmpOp} {r : R2} {f : D → D → Option Rv} {h : Rv → S → Res} {pos : Pos}
end
def sixD : D → D → Option Rv := fun x y => match x with
  | .dic _ => none
  | .dit _ => none
  | .dmx _ => none
  | _ => ixD x y
/-- a, b, .. = e -/
def sUnp (f : S → Res) (g : D → S → Option S) : S → SRes := fun st => (f st).bindS fun r st1 => match give st1 r with
  | some (d, st2) => match g d st2 with
    | some st3 => .nx st3
    | none => .bad
  | none => .bad
section
variable {X : Cx} {T : Tx} {a b e tg : Expr} {fa fb f : S → Res} {pos : Pos} {g : D → S → Option S}
theorem de_sub2 (ha : DE X T a fa) (hb : DE X T b fb) (hs : PlainIx b := by exact fun _ _ => rfl) : DE X T (.Subscript a b pos) (e2 sixD fa fb) := de_ix ha hb hs
theorem ds_unp {vl : List Nat} (he : DE X T e f) (hg : DG X T tg vl g) (hs : swapsWithSole [tg] e pos.line X.env = pure false := by rfl) (hw : swappedStores [tg] e X.env = pure none := by rfl)
    (h1 : (assignEach [tg] X.env).map (·.2) = [assign tg X.env] := by rfl) : DS X T (.Assign [tg] e pos) (sUnp f g) :=
  PS.imp (ps_asg he hg hs hw h1) fun En σ H ⟨G, w, st, W, R, tk, h⟩ => ⟨G, w, st, W, R, tk, PostE.bindS h fun r st1 w1 H1 v1 l1 R1 x1 h1 => by
    cases qg : give st1 r with
    | none => rw [qg] at h1; exact h1.elim
    | some p =>
      obtain ⟨d, st2⟩ := p
      rw [qg] at h1
      dsimp only at h1
      obtain ⟨w2, l2, R2, x2⟩ := R1.give x1 qg
      refine ⟨G, w2, st2, d, R2, x2, ?_⟩
      cases q : g d st2 with
      | none => rw [q] at h1; exact h1.elim
      | some st3 =>
        rw [q] at h1
        exact fun σ' _ R3 => h1 w2 σ' H1 l2 R3⟩
end
end Bv

namespace Bv
open PySem PySem.Spec PyProof.Rows L2

section
variable {a b c f fo fi fv : S → Res} {g : S → LRes} {gf : S → FRes} {p q : S → SRes} {sl : List Sl} {ob : List D} {st st' : S} {r : Rv} {d d' : D} {i n : Nat} {e : Exn}
@[simp] theorem bind_ok (k : Rv → S → Res) : (Res.ok r st).bind k = k r st := id rfl
@[simp] theorem bind_exc (k : Rv → S → Res) : (Res.exc e st).bind k = .exc e st := id rfl
@[simp] theorem bindS_ok (k : Rv → S → SRes) : (Res.ok r st).bindS k = k r st := id rfl
@[simp] theorem bindS_exc (k : Rv → S → SRes) : (Res.exc e st).bindS k = .ex e st := id rfl
@[simp] theorem bindL_ok (k : Rv → S → LRes) : (Res.ok r st).bindL k = k r st := id rfl
@[simp] theorem bindF_ok (k : Rv → S → FRes) : (Res.ok r st).bindF k = k r st := id rfl
@[simp] theorem lbind_ok (ds : List D) (k : List D → S → LRes) : (LRes.ok ds st).bind k = k ds st := id rfl
@[simp] theorem lbindE_ok (ds : List D) (k : List D → S → Res) : (LRes.ok ds st).bindE k = k ds st := id rfl
@[simp] theorem fbind_ok (rs : List Rv) (k : List Rv → S → FRes) : (FRes.ok rs st).bind k = k rs st := id rfl
@[simp] theorem fbindS_ok (rs : List Rv) (k : List Rv → S → SRes) : (FRes.ok rs st).bindS k = k rs st := id rfl
@[simp] theorem sbind_nx (k : S → SRes) : (SRes.nx st).bind k = k st := id rfl
@[simp] theorem sbind_rt (k : S → SRes) : (SRes.rt r st).bind k = .rt r st := id rfl
@[simp] theorem sbind_ex (k : S → SRes) : (SRes.ex e st).bind k = .ex e st := id rfl
@[simp] theorem sbind_bk (k : S → SRes) : (SRes.bk st).bind k = .bk st := id rfl
@[simp] theorem sbind_ct (k : S → SRes) : (SRes.ct st).bind k = .ct st := id rfl
def vr (i : Nat) (s : Option Sl) (st : S) : Res := match s with
  | some (.frz d) => .ok (.val d) st
  | some (.own d) => .ok (.bor i) st
  | _ => .bad
@[simp] theorem vr_frz : vr i (some (.frz d)) st = .ok (.val d) st := id rfl
@[simp] theorem vr_own : vr i (some (.own d)) st = .ok (.bor i) st := id rfl
@[simp] theorem eVar_run : eVar i ⟨sl, ob⟩ = vr i sl[i]? ⟨sl, ob⟩ := id rfl
@[simp] theorem eC_run : eC d st = .ok (.val d) st := id rfl
@[simp] theorem vz_val : vz (.val d) = .val d := id rfl
@[simp] theorem vz_fresh : vz (.fresh d) = .val d := id rfl
@[simp] theorem vz_bor : vz (.bor i) = .bor i := id rfl
/-- not the number of an object -/
def plain : D → Bool
  | .ob _ => false
  | _ => true
@[simp] theorem plain_int (k : Int) : plain (.int k) = true := id rfl
@[simp] theorem plain_str (k : Str) : plain (.str k) = true := id rfl
@[simp] theorem plain_tup (k : List D) : plain (.tup k) = true := id rfl
@[simp] theorem plain_lst (k : List D) : plain (.lst k) = true := id rfl
@[simp] theorem plain_rol (k : List D) : plain (.rol k) = true := id rfl
@[simp] theorem plain_bl (k : Bool) : plain (.bl k) = true := id rfl
@[simp] theorem plain_non : plain .non = true := id rfl
@[simp] theorem plain_dic (k) : plain (.dic k) = true := id rfl
@[simp] theorem plain_dit (k) : plain (.dit k) = true := id rfl
@[simp] theorem plain_dmx (k) : plain (.dmx k) = true := id rfl
@[simp] theorem plain_ins (k l) : plain (.ins k l) = true := id rfl
theorem deref_plain (h : plain d = true) : deref st d = some d := by cases d <;> first | rfl | cases h
def rdb (st : S) (s : Option Sl) : Option D := match s with
  | some (.frz d) => deref st d
  | some (.own d) => some d
  | _ => none
@[simp] theorem rd_val : rd st (.val d) = deref st d := id rfl
@[simp] theorem rd_fresh : rd st (.fresh d) = some d := id rfl
@[simp] theorem rd_borr : rd ⟨sl, ob⟩ (.bor i) = rdb ⟨sl, ob⟩ sl[i]? := id rfl
@[simp] theorem rdb_frz : rdb st (some (.frz d)) = deref st d := id rfl
@[simp] theorem rdb_own : rdb st (some (.own d)) = some d := id rfl
@[simp] theorem deref_ob : deref ⟨sl, ob⟩ (.ob n) = ob[n]? := id rfl
@[simp] theorem deref_int (k : Int) : deref st (.int k) = some (.int k) := id rfl
@[simp] theorem deref_str (k : Str) : deref st (.str k) = some (.str k) := id rfl
@[simp] theorem deref_tup (k : List D) : deref st (.tup k) = some (.tup k) := id rfl
@[simp] theorem deref_lst (k : List D) : deref st (.lst k) = some (.lst k) := id rfl
@[simp] theorem deref_rol (k : List D) : deref st (.rol k) = some (.rol k) := id rfl
@[simp] theorem deref_bl (k : Bool) : deref st (.bl k) = some (.bl k) := id rfl
@[simp] theorem deref_non : deref st .non = some .non := id rfl
@[simp] theorem deref_dic (k : List (D × D)) : deref st (.dic k) = some (.dic k) := id rfl
@[simp] theorem deref_dit (k : List (D × D)) : deref st (.dit k) = some (.dit k) := id rfl
@[simp] theorem deref_dmx (k : List (D × D)) : deref st (.dmx k) = some (.dmx k) := id rfl
@[simp] theorem deref_ins (k : Str) (l : List (Str × D)) : deref st (.ins k l) = some (.ins k l) := id rfl
def ret (o : Option Rv) (st : S) : Res := match o with
  | some r => .ok r st
  | none => .bad
@[simp] theorem ret_some : ret (some r) st = .ok r st := id rfl
def fin2 (f : D → D → Option Rv) (x y : Option D) (st : S) : Res := match x, y with
  | some d1, some d2 => ret (f d1 d2) st
  | _, _ => .bad
@[simp] theorem fin2_some (f : D → D → Option Rv) : fin2 f (some d) (some d') st = ret (f d d') st := id rfl
def k2b (f : D → D → Option Rv) (r1 : Rv) : Rv → S → Res := fun r2 st2 => fin2 f (rd st2 (vz r1)) (rd st2 (vz r2)) st2
def k2 (f : D → D → Option Rv) (b : S → Res) : Rv → S → Res := fun r1 st1 => (b st1).bind (k2b f r1)
@[simp] theorem k2_run (f : D → D → Option Rv) : k2 f b r ⟨sl, ob⟩ = (b ⟨sl, ob⟩).bind (k2b f r) := id rfl
@[simp] theorem k2b_run (f : D → D → Option Rv) (r1 : Rv) : k2b f r1 r ⟨sl, ob⟩ = fin2 f (rd ⟨sl, ob⟩ (vz r1)) (rd ⟨sl, ob⟩ (vz r)) ⟨sl, ob⟩ := id rfl
theorem e2_eq (f : D → D → Option Rv) : e2 f a b st = (a st).bind (k2 f b) := by
  unfold e2 k2
  congr
@[simp] theorem e2_run (f : D → D → Option Rv) : e2 f a b ⟨sl, ob⟩ = (a ⟨sl, ob⟩).bind (k2 f b) := e2_eq f
def fin1 (f : D → Option Rv) (x : Option D) (st : S) : Res := match x with
  | some d => ret (f d) st
  | none => .bad
@[simp] theorem fin1_some (f : D → Option Rv) : fin1 f (some d) st = ret (f d) st := id rfl
def k1 (f : D → Option Rv) : Rv → S → Res := fun r1 st1 => fin1 f (rd st1 (vz r1)) st1
@[simp] theorem k1_run (f : D → Option Rv) : k1 f r ⟨sl, ob⟩ = fin1 f (rd ⟨sl, ob⟩ (vz r)) ⟨sl, ob⟩ := id rfl
@[simp] theorem e1_run (f : D → Option Rv) : e1 f a ⟨sl, ob⟩ = (a ⟨sl, ob⟩).bind (k1 f) := by
  unfold e1 k1
  congr; funext r1 st1
  unfold fin1 ret
  cases rd st1 (vz r1) <;> first | rfl | (rename_i x; dsimp only; cases f x <;> rfl)
@[simp] theorem addD_int (x y : Int) : addD (.int x) (.int y) = some (.val (.int (x + y))) := id rfl
@[simp] theorem subD_int (x y : Int) : subD (.int x) (.int y) = some (.val (.int (x - y))) := id rfl
theorem addD_tup {x y : List D} (h : x.length + y.length ≤ sizeLine) : addD (.tup x) (.tup y) = some (.val (.tup (x ++ y))) := if_pos h
theorem mulD_int {x y : Int} (h : mulOk x y = true) : mulD (.int x) (.int y) = some (.val (.int (x * y))) := if_pos h
theorem fdivD_int {x y : Int} (h : divOk y = true) : fdivD (.int x) (.int y) = some (.val (.int (x / y))) := if_pos h
theorem modD_int {x y : Int} (h : 0 < y) : modD (.int x) (.int y) = some (.val (.int (x % y))) := if_pos h
theorem powD_int {x y : Int} (h : powOk x y = true) : powD (.int x) (.int y) = some (.val (.int (x ^ y.toNat))) := if_pos h
@[simp] theorem negD_int (x : Int) : negD (.int x) = some (.val (.int (-x))) := id rfl
@[simp] theorem ltD_int (x y : Int) : ltD (.int x) (.int y) = some (.val (.bl (decide (x < y)))) := id rfl
@[simp] theorem leD_int (x y : Int) : leD (.int x) (.int y) = some (.val (.bl (decide (x ≤ y)))) := id rfl
@[simp] theorem gtD_int (x y : Int) : gtD (.int x) (.int y) = some (.val (.bl (decide (y < x)))) := id rfl
@[simp] theorem geD_int (x y : Int) : geD (.int x) (.int y) = some (.val (.bl (decide (y ≤ x)))) := id rfl
@[simp] theorem lenD_lst (x : List D) : lenD (.lst x) = some (.val (.int (x.length : Nat))) := id rfl
@[simp] theorem lenD_tup (x : List D) : lenD (.tup x) = some (.val (.int (x.length : Nat))) := id rfl
@[simp] theorem lenD_rol (x : List D) : lenD (.rol x) = some (.val (.int (x.length : Nat))) := id rfl
@[simp] theorem absD_int (x : Int) : absD (.int x) = some (.val (.int (if x < 0 then -x else x))) := id rfl
@[simp] theorem tupD_lst (x : List D) : tupD (.lst x) = some (.val (.tup x)) := id rfl
@[simp] theorem tupD_tup (x : List D) : tupD (.tup x) = some (.val (.tup x)) := id rfl
@[simp] theorem lstD_lst (x : List D) : lstD (.lst x) = some (.fresh (.lst x)) := id rfl
@[simp] theorem lstD_tup (x : List D) : lstD (.tup x) = some (.fresh (.lst x)) := id rfl
@[simp] theorem sixD_lst (x : List D) (k : Int) : sixD (.lst x) (.int k) = (atI x k).map .val := id rfl
@[simp] theorem sixD_rol (x : List D) (k : Int) : sixD (.rol x) (.int k) = (atI x k).map .val := id rfl
@[simp] theorem sixD_tup (x : List D) (k : Int) : sixD (.tup x) (.int k) = (atI x k).map .val := id rfl
theorem sixD_str {z : Str} {k : Int} (h : z.length ≤ sizeLine) : sixD (.str z) (.int k) = signAt z k := if_pos h
theorem atI_nat {α : Type} (x : List α) (k : Nat) : atI x (k : Int) = x[k]? := by
  unfold atI ixN
  rw [if_pos (by omega)]
  by_cases h : (k : Int) < x.length
  · rw [if_pos h]; simp
  · rw [if_neg h, List.getElem?_eq_none (by omega)]; rfl
@[simp] theorem atI_0 {α : Type} (x : List α) : atI x 0 = x[0]? := atI_nat x 0
@[simp] theorem atI_1 {α : Type} (x : List α) : atI x 1 = x[1]? := atI_nat x 1
@[simp] theorem atI_2 {α : Type} (x : List α) : atI x 2 = x[2]? := atI_nat x 2
@[simp] theorem atI_3 {α : Type} (x : List α) : atI x 3 = x[3]? := atI_nat x 3
theorem atI_some {α : Type} {x : List α} {k : Int} (h0 : 0 ≤ k) (h : k < x.length) : atI x k = some (x[k.toNat]'(by omega)) := by
  have e : k = ((k.toNat : Nat) : Int) := by omega
  rw [show atI x k = atI x ((k.toNat : Nat) : Int) by rw [← e], atI_nat, List.getElem?_eq_getElem (by omega)]
theorem ixN_some {m : Nat} {k : Int} (h0 : 0 ≤ k) (h : k < m) : ixN m k = some k.toNat := by
  unfold ixN
  rw [if_pos h0, if_pos h]
@[simp] theorem isiD_int (u : String) (k : Int) : isiD u (.int k) = some (.val (.bl (isT "int" u))) := id rfl
@[simp] theorem isiD_str (u : String) (k : Str) : isiD u (.str k) = some (.val (.bl (isT "str" u))) := id rfl
@[simp] theorem isiD_tup (u : String) (k : List D) : isiD u (.tup k) = some (.val (.bl (isT "tuple" u))) := id rfl
@[simp] theorem isiD_lst (u : String) (k : List D) : isiD u (.lst k) = some (.val (.bl (isT "list" u))) := id rfl
@[simp] theorem isiD_bl (u : String) (k : Bool) : isiD u (.bl k) = some (.val (.bl (isT "bool" u))) := id rfl
@[simp] theorem isiD_non (u : String) : isiD u .non = some (.val (.bl (isT "NoneType" u))) := id rfl
@[simp] theorem lNil_run : lNil st = .ok [] st := id rfl
def kLc (d : D) : List D → S → LRes := fun ds st3 => .ok (d :: ds) st3
@[simp] theorem kLc_run (ds : List D) : kLc d ds st = .ok (d :: ds) st := id rfl
def kL2 (g : S → LRes) (o : Option (D × S)) : LRes := match o with
  | some (d, st2) => (g st2).bind (kLc d)
  | none => .bad
@[simp] theorem kL2_some : kL2 g (some (d, st)) = (g st).bind (kLc d) := id rfl
def kL (g : S → LRes) : Rv → S → LRes := fun r st1 => kL2 g (give st1 r)
@[simp] theorem kL_run : kL g r ⟨sl, ob⟩ = kL2 g (give ⟨sl, ob⟩ r) := id rfl
@[simp] theorem lCons_run : lCons f g ⟨sl, ob⟩ = (f ⟨sl, ob⟩).bindL (kL g) := by
  unfold lCons kL kL2
  congr
def kLO (g : S → LRes) : Rv → S → LRes := fun r st1 => kL2 g (giveO st1 r)
@[simp] theorem kLO_run : kLO g r ⟨sl, ob⟩ = kL2 g (giveO ⟨sl, ob⟩ r) := id rfl
@[simp] theorem lConsO_run : lConsO f g ⟨sl, ob⟩ = (f ⟨sl, ob⟩).bindL (kLO g) := by
  unfold lConsO kLO kL2
  congr
def giveb (i : Nat) (s : Option Sl) (st : S) : Option (D × S) := match s with
  | some (.frz d) => some (d, st)
  | some (.own d) => some (d, st.set i (.frz d))
  | _ => none
@[simp] theorem give_val : give st (.val d) = some (d, st) := id rfl
@[simp] theorem give_fresh : give st (.fresh d) = some (d, st) := id rfl
@[simp] theorem give_bor : give ⟨sl, ob⟩ (.bor i) = giveb i sl[i]? ⟨sl, ob⟩ := id rfl
@[simp] theorem giveb_frz : giveb i (some (.frz d)) st = some (d, st) := id rfl
@[simp] theorem giveb_own : giveb i (some (.own d)) ⟨sl, ob⟩ = some (d, ⟨sl.set i (.frz d), ob⟩) := id rfl
def giveOb (i : Nat) (s : Option Sl) (sl : List Sl) (ob : List D) : Option (D × S) := match s with
  | some (.frz (.ob n)) => some (.ob n, ⟨sl, ob⟩)
  | some (.own d) => some (.ob ob.length, ⟨sl.set i (.frz (.ob ob.length)), ob ++ [d]⟩)
  | _ => none
@[simp] theorem giveO_val : giveO st (.val (.ob n)) = some (.ob n, st) := id rfl
@[simp] theorem giveO_fresh : giveO ⟨sl, ob⟩ (.fresh d) = some (.ob ob.length, ⟨sl, ob ++ [d]⟩) := id rfl
@[simp] theorem giveO_bor : giveO ⟨sl, ob⟩ (.bor i) = giveOb i sl[i]? sl ob := id rfl
@[simp] theorem giveOb_frz : giveOb i (some (.frz (.ob n))) sl ob = some (.ob n, ⟨sl, ob⟩) := id rfl
@[simp] theorem giveOb_own : giveOb i (some (.own d)) sl ob = some (.ob ob.length, ⟨sl.set i (.frz (.ob ob.length)), ob ++ [d]⟩) := id rfl
theorem small_len {n : Nat} (h : n ≤ 1000) : n ≤ sizeLine := by rw [sizeLine_eq]; omega
def kTup : List D → S → Res := fun ds st1 => if ds.length ≤ sizeLine then .ok (.val (.tup ds)) st1 else .bad
def kLst : List D → S → Res := fun ds st1 => if ds.length ≤ sizeLine then .ok (.fresh (.lst ds)) st1 else .bad
theorem kTup_ok {ds : List D} (h : ds.length ≤ sizeLine) : Bv.kTup ds st = .ok (.val (.tup ds)) st := if_pos h
@[simp] theorem kTup_run {ds : List D} (h : ds.length ≤ 1000) : Bv.kTup ds st = .ok (.val (.tup ds)) st := if_pos (small_len h)
@[simp] theorem kLst_run {ds : List D} (h : ds.length ≤ 1000) : kLst ds st = .ok (.fresh (.lst ds)) st := if_pos (small_len h)
@[simp] theorem eTup_run : eTup g ⟨sl, ob⟩ = (g ⟨sl, ob⟩).bindE Bv.kTup := id rfl
@[simp] theorem eLst_run : eLst g ⟨sl, ob⟩ = (g ⟨sl, ob⟩).bindE kLst := id rfl
def kTr2 (o : Option Bool) (st : S) : Res := match o with
  | some b => .ok (.val (.bl b)) st
  | none => .bad
@[simp] theorem kTr2_some (k : Bool) : kTr2 (some k) st = .ok (.val (.bl k)) st := id rfl
def kTr1 (o : Option D) (st : S) : Res := match o with
  | some d => kTr2 (truD d) st
  | none => .bad
@[simp] theorem kTr1_some : kTr1 (some d) st = kTr2 (truD d) st := id rfl
def kTr : Rv → S → Res := fun r st1 => kTr1 (rd st1 r) st1
@[simp] theorem kTr_run : kTr r ⟨sl, ob⟩ = kTr1 (rd ⟨sl, ob⟩ r) ⟨sl, ob⟩ := id rfl
@[simp] theorem bT_run : bT f ⟨sl, ob⟩ = (f ⟨sl, ob⟩).bind kTr := by
  unfold bT kTr kTr1 kTr2
  congr
@[simp] theorem truD_bl (k : Bool) : truD (.bl k) = some k := id rfl
@[simp] theorem truD_int (k : Int) : truD (.int k) = some (k != 0) := id rfl
@[simp] theorem truD_lst (k : List D) : truD (.lst k) = some (!k.isEmpty) := id rfl
@[simp] theorem truD_tup (k : List D) : truD (.tup k) = some (!k.isEmpty) := id rfl
@[simp] theorem truD_non : truD .non = some false := id rfl
def kAnd (b : S → Res) : Rv → S → Res := fun r st1 => match r with
  | .val (.bl true) => b st1
  | .val (.bl false) => .ok (.val (.bl false)) st1
  | _ => .bad
@[simp] theorem kAnd_t : kAnd b (.val (.bl true)) st = b st := id rfl
@[simp] theorem kAnd_f : kAnd b (.val (.bl false)) st = .ok (.val (.bl false)) st := id rfl
@[simp] theorem bAnd_run : bAnd a b ⟨sl, ob⟩ = (a ⟨sl, ob⟩).bind (kAnd b) := id rfl
def kOr (b : S → Res) : Rv → S → Res := fun r st1 => match r with
  | .val (.bl true) => .ok (.val (.bl true)) st1
  | .val (.bl false) => b st1
  | _ => .bad
@[simp] theorem kOr_t : kOr b (.val (.bl true)) st = .ok (.val (.bl true)) st := id rfl
@[simp] theorem kOr_f : kOr b (.val (.bl false)) st = b st := id rfl
@[simp] theorem bOr_run : bOr a b ⟨sl, ob⟩ = (a ⟨sl, ob⟩).bind (kOr b) := id rfl
def kNot : Rv → S → Res := fun r st1 => match r with
  | .val (.bl b) => .ok (.val (.bl (!b))) st1
  | _ => .bad
@[simp] theorem kNot_run (k : Bool) : kNot (.val (.bl k)) st = .ok (.val (.bl (!k))) st := id rfl
@[simp] theorem bNot_run : bNot a ⟨sl, ob⟩ = (a ⟨sl, ob⟩).bind kNot := id rfl
def kIf (a b : S → Res) : Rv → S → Res := fun r st1 => match r with
  | .val (.bl true) => a st1
  | .val (.bl false) => b st1
  | _ => .bad
@[simp] theorem kIf_t : kIf a b (.val (.bl true)) st = a st := id rfl
@[simp] theorem kIf_f : kIf a b (.val (.bl false)) st = b st := id rfl
@[simp] theorem eIf_run : eIf c a b ⟨sl, ob⟩ = (c ⟨sl, ob⟩).bind (kIf a b) := id rfl
def kSIf (p q : S → SRes) : Rv → S → SRes := fun r st1 => match r with
  | .val (.bl true) => p st1
  | .val (.bl false) => q st1
  | _ => .bad
@[simp] theorem kSIf_t : kSIf p q (.val (.bl true)) st = p st := id rfl
@[simp] theorem kSIf_f : kSIf p q (.val (.bl false)) st = q st := id rfl
@[simp] theorem sIf_run : sIf c p q ⟨sl, ob⟩ = (c ⟨sl, ob⟩).bindS (kSIf p q) := id rfl
@[simp] theorem sSeq_run : sSeq p q ⟨sl, ob⟩ = (p ⟨sl, ob⟩).bind q := id rfl
@[simp] theorem sNext_run : sNext st = .nx st := id rfl
def kRet : Rv → S → SRes := fun r st1 => .rt r st1
@[simp] theorem kRet_run : kRet r st = .rt r st := id rfl
@[simp] theorem sRet_run : sRet f ⟨sl, ob⟩ = (f ⟨sl, ob⟩).bindS kRet := id rfl
def kEx : Rv → S → SRes := fun _ st1 => .nx st1
@[simp] theorem kEx_run : kEx r st = .nx st := id rfl
@[simp] theorem sExpr_run : sExpr f ⟨sl, ob⟩ = (f ⟨sl, ob⟩).bindS kEx := id rfl
def onS (o : Option S) : SRes := match o with
  | some st => .nx st
  | none => .bad
@[simp] theorem onS_some : onS (some st) = .nx st := id rfl
def kAsg (i : Nat) : Rv → S → SRes := fun r st1 => onS (store st1 i r)
@[simp] theorem kAsg_run : kAsg i r ⟨sl, ob⟩ = onS (store ⟨sl, ob⟩ i r) := id rfl
@[simp] theorem sAsg_run : sAsg i f ⟨sl, ob⟩ = (f ⟨sl, ob⟩).bindS (kAsg i) := by
  unfold sAsg kAsg onS
  congr
def stb (j : Nat) (i : Nat) (o : Option (D × S)) : Option S := match o with
  | some (d, s) => some (s.set i (.frz d))
  | none => none
@[simp] theorem store_val : store ⟨sl, ob⟩ i (.val d) = some ⟨sl.set i (.frz d), ob⟩ := id rfl
@[simp] theorem store_fresh : store ⟨sl, ob⟩ i (.fresh d) = some ⟨sl.set i (.own d), ob⟩ := id rfl
@[simp] theorem store_bor (j : Nat) : store ⟨sl, ob⟩ i (.bor j) = stb j i (giveb j sl[j]? ⟨sl, ob⟩) := by
  show (give ⟨sl, ob⟩ (.bor j)).map (fun p => p.2.set i (.frz p.1)) = _
  rw [give_bor]
  cases giveb j sl[j]? ⟨sl, ob⟩ <;> rfl
@[simp] theorem stb_some (j : Nat) : stb j i (some (d, ⟨sl, ob⟩)) = some ⟨sl.set i (.frz d), ob⟩ := id rfl
@[simp] theorem fNil_run : fNil st = .ok [] st := id rfl
def kFc (r : Rv) : List Rv → S → FRes := fun rs st3 => .ok (r :: rs) st3
@[simp] theorem kFc_run (rs : List Rv) : kFc r rs st = .ok (r :: rs) st := id rfl
def kF2 (g : S → FRes) (o : Option (Rv × S)) : FRes := match o with
  | some (r, st2) => (g st2).bind (kFc r)
  | none => .bad
@[simp] theorem kF2_some : kF2 gf (some (r, st)) = (gf st).bind (kFc r) := id rfl
def kF (g : S → FRes) : Rv → S → FRes := fun r st1 => kF2 g (keepF st1 r)
@[simp] theorem kF_run : kF gf r ⟨sl, ob⟩ = kF2 gf (keepF ⟨sl, ob⟩ r) := id rfl
@[simp] theorem fCons_run : fCons f gf ⟨sl, ob⟩ = (f ⟨sl, ob⟩).bindF (kF gf) := by
  unfold fCons kF kF2
  congr
@[simp] theorem keepF_val : keepF st (.val d) = some (.val d, st) := id rfl
@[simp] theorem keepF_fresh : keepF st (.fresh d) = some (.fresh d, st) := id rfl
def keepb (o : Option (D × S)) : Option (Rv × S) := match o with
  | some (d, s) => some (.val d, s)
  | none => none
@[simp] theorem keepb_some : keepb (some (d, st)) = some (.val d, st) := id rfl
@[simp] theorem keepF_bor : keepF ⟨sl, ob⟩ (.bor i) = keepb (giveb i sl[i]? ⟨sl, ob⟩) := by
  show (give ⟨sl, ob⟩ (.bor i)).map (fun p => (Rv.val p.1, p.2)) = _
  rw [give_bor]
  cases giveb i sl[i]? ⟨sl, ob⟩ <;> rfl
def kPar (is : List Nat) : List Rv → S → SRes := fun rs st1 => onS (setAll is rs st1)
@[simp] theorem kPar_run (is : List Nat) (rs : List Rv) : kPar is rs ⟨sl, ob⟩ = onS (setAll is rs ⟨sl, ob⟩) := id rfl
@[simp] theorem sPar_run (is : List Nat) : sPar is gf ⟨sl, ob⟩ = (gf ⟨sl, ob⟩).bindS (kPar is) := by
  unfold sPar kPar onS
  congr
@[simp] theorem setAll_nil : setAll [] [] st = some st := id rfl
@[simp] theorem setAll_val (is : List Nat) (rs : List Rv) : setAll (i :: is) (.val d :: rs) ⟨sl, ob⟩ = setAll is rs ⟨sl.set i (.frz d), ob⟩ := id rfl
@[simp] theorem setAll_fresh (is : List Nat) (rs : List Rv) : setAll (i :: is) (.fresh d :: rs) ⟨sl, ob⟩ = setAll is rs ⟨sl.set i (.own d), ob⟩ := id rfl
def wrb (i : Nat) (s : Option Sl) (d : D) (sl : List Sl) (ob : List D) : Option S := match s with
  | some (.own _) => some ⟨sl.set i (.own d), ob⟩
  | some (.frz (.ob n)) => if n < ob.length then some ⟨sl, ob.set n d⟩ else none
  | _ => none
@[simp] theorem wr_ob : wr ⟨sl, ob⟩ d (.val (.ob n)) = if n < ob.length then some ⟨sl, ob.set n d⟩ else none := id rfl
@[simp] theorem wr_bor : wr ⟨sl, ob⟩ d (.bor i) = wrb i sl[i]? d sl ob := by
  unfold wr wrb
  dsimp only
  cases sl[i]? with
  | none => rfl
  | some s => cases s with
    | frz x => cases x <;> rfl
    | _ => rfl
@[simp] theorem wrb_own : wrb i (some (.own d')) d sl ob = some ⟨sl.set i (.own d), ob⟩ := id rfl
@[simp] theorem wrb_ob : wrb i (some (.frz (.ob n))) d sl ob = if n < ob.length then some ⟨sl, ob.set n d⟩ else none := id rfl
def s3 (o : Option D) (r : Rv) (st : S) : SRes := match o with
  | some c => onS (wr st c r)
  | none => .bad
@[simp] theorem s3_some : s3 (some d) r st = onS (wr st d r) := id rfl
def s2 (x y : Option D) (d : D) (r : Rv) (st : S) : SRes := match x, y with
  | some c, some k => s3 (setF c k d) r st
  | _, _ => .bad
@[simp] theorem s2_some (z : D) : s2 (some d) (some d') z r st = s3 (setF d d' z) r st := id rfl
def kS3 (d : D) (r1 : Rv) : Rv → S → SRes := fun r2 st4 => s2 (rd st4 (vz r1)) (rd st4 (vz r2)) d (vz r1) st4
@[simp] theorem kS3_run (r1 : Rv) : kS3 d r1 r ⟨sl, ob⟩ = s2 (rd ⟨sl, ob⟩ (vz r1)) (rd ⟨sl, ob⟩ (vz r)) d (vz r1) ⟨sl, ob⟩ := id rfl
def kS2 (fi : S → Res) (d : D) : Rv → S → SRes := fun r1 st3 => (fi st3).bindS (kS3 d r1)
@[simp] theorem kS2_run : kS2 fi d r ⟨sl, ob⟩ = (fi ⟨sl, ob⟩).bindS (kS3 d r) := id rfl
def kS1b (fo fi : S → Res) (o : Option (D × S)) : SRes := match o with
  | some (d, st2) => (fo st2).bindS (kS2 fi d)
  | none => .bad
@[simp] theorem kS1b_some : kS1b fo fi (some (d, st)) = (fo st).bindS (kS2 fi d) := id rfl
def kS1 (fo fi : S → Res) : Rv → S → SRes := fun rv st1 => kS1b fo fi (give st1 rv)
@[simp] theorem kS1_run : kS1 fo fi r ⟨sl, ob⟩ = kS1b fo fi (give ⟨sl, ob⟩ r) := id rfl
@[simp] theorem sSetIx_run : sSetIx fv fo fi ⟨sl, ob⟩ = (fv ⟨sl, ob⟩).bindS (kS1 fo fi) := by
  unfold sSetIx kS1 kS1b
  congr
theorem setF_lst {xs : List D} {k : Int} {j : Nat} (h : ixN xs.length k = some j) : setF (.lst xs) (.int k) d = some (.lst (xs.set j d)) := by
  unfold setF
  dsimp only
  rw [h]
@[simp] theorem setF_0 (x : D) (xs : List D) : setF (.lst (x :: xs)) (.int 0) d = some (.lst (d :: xs)) := setF_lst (j := 0) (by rw [ixN_some (by decide) (by rw [List.length_cons]; omega)]; rfl)
@[simp] theorem setF_1 (x y : D) (xs : List D) : setF (.lst (x :: y :: xs)) (.int 1) d = some (.lst (x :: d :: xs)) := setF_lst (j := 1) (by rw [ixN_some (by decide) (by rw [List.length_cons, List.length_cons]; omega)]; rfl)
def m3 (out : Rv) (o : Option S) : Res := match o with
  | some st => .ok out st
  | none => .bad
@[simp] theorem m3_some : m3 r (some st) = .ok r st := id rfl
def m2 (r1 : Rv) (st2 : S) (o : Option (Rv × D)) : Res := match o with
  | some oc => m3 oc.1 (wr st2 oc.2 r1)
  | none => .bad
@[simp] theorem m2_some (r1 : Rv) : m2 r1 st (some (r, d)) = m3 r (wr st d r1) := id rfl
def m1 (F : D → List D → Option (Rv × D)) (r1 : Rv) (ds : List D) (st2 : S) (o : Option D) : Res := match o with
  | some c => m2 r1 st2 (F c ds)
  | none => .bad
@[simp] theorem m1_some (F : D → List D → Option (Rv × D)) (r1 : Rv) (ds : List D) : m1 F r1 ds st (some d) = m2 r1 st (F d ds) := id rfl
def kM2 (F : D → List D → Option (Rv × D)) (r1 : Rv) : List D → S → Res := fun ds st2 => m1 F r1 ds st2 (rd st2 r1)
@[simp] theorem kM2_run (F : D → List D → Option (Rv × D)) (r1 : Rv) (ds : List D) : kM2 F r1 ds ⟨sl, ob⟩ = m1 F r1 ds ⟨sl, ob⟩ (rd ⟨sl, ob⟩ r1) := id rfl
def kM1 (F : D → List D → Option (Rv × D)) (fe : S → LRes) : Rv → S → Res := fun r1 st1 => if isLst (rd st1 (vz r1)) = true then (fe st1).bindE (kM2 F (vz r1)) else .bad
@[simp] theorem kM1_run (F : D → List D → Option (Rv × D)) (fe : S → LRes) : kM1 F fe r ⟨sl, ob⟩ = if isLst (rd ⟨sl, ob⟩ (vz r)) = true then (fe ⟨sl, ob⟩).bindE (kM2 F (vz r)) else .bad := id rfl
@[simp] theorem isLst_lst (xs : List D) : isLst (some (.lst xs)) = true := id rfl
@[simp] theorem eMut_run (F : D → List D → Option (Rv × D)) (fe : S → LRes) : eMut F fo fe ⟨sl, ob⟩ = (fo ⟨sl, ob⟩).bind (kM1 F fe) := by
  unfold eMut kM1 kM2 mutEnd m1 m2 m3
  congr
theorem appendF_ok {xs : List D} (h : xs.length < sizeLine) : appendF (.lst xs) [d] = some (.val .non, .lst (xs ++ [d])) := if_pos h
def kCall2 (sl : List Sl) (o : FR) : Res := match o with
  | .ok (.bor _) _ => .bad
  | .ok r ob => .ok r ⟨sl, ob⟩
  | .exc e ob => .exc e ⟨sl, ob⟩
  | .bad => .bad
@[simp] theorem kCall2_val : kCall2 sl (.ok (.val d) ob) = .ok (.val d) ⟨sl, ob⟩ := id rfl
@[simp] theorem kCall2_fresh : kCall2 sl (.ok (.fresh d) ob) = .ok (.fresh d) ⟨sl, ob⟩ := id rfl
@[simp] theorem kCall2_exc : kCall2 sl (.exc e ob) = .exc e ⟨sl, ob⟩ := id rfl
def kCall (φ : List D → List D → FR) (n : Nat) (dd : List D) : List D → S → Res := fun ds st1 => if (ds ++ dd).length = n then kCall2 st1.sl (φ (ds ++ dd) st1.ob) else .bad
@[simp] theorem kCall_run (φ : List D → List D → FR) (n : Nat) (dd ds : List D) (h : (ds ++ dd).length = n) : kCall φ n dd ds ⟨sl, ob⟩ = kCall2 sl (φ (ds ++ dd) ob) := if_pos h
@[simp] theorem eCall_run (φ : List D → List D → FR) (n : Nat) (dd : List D) : eCall φ n dd g ⟨sl, ob⟩ = (g ⟨sl, ob⟩).bindE (kCall φ n dd) := by
  unfold eCall kCall kCall2
  congr
def fnE2 (ob : List D) (o : Option Rv) : FR := match o with
  | some r => .ok r ob
  | none => .bad
@[simp] theorem fnE2_some : fnE2 ob (some r) = .ok r ob := id rfl
def fnE (s : SRes) : FR := match s with
  | .nx st => .ok (.val .non) st.ob
  | .rt r st => fnE2 st.ob (rtv st r)
  | .ex e st => .exc e st.ob
  | _ => .bad
@[simp] theorem fnE_nx : fnE (.nx ⟨sl, ob⟩) = .ok (.val .non) ob := id rfl
@[simp] theorem fnE_rt : fnE (.rt r ⟨sl, ob⟩) = fnE2 ob (rtv ⟨sl, ob⟩ r) := id rfl
@[simp] theorem fnE_ex : fnE (.ex e ⟨sl, ob⟩) = .exc e ob := id rfl
theorem fnB_eq (g : S → SRes) (n : Nat) (ds ob : List D) : fnB g n ds ob = fnE (g ⟨ds.map Sl.frz ++ List.replicate (n - ds.length) .no, ob⟩) := by
  unfold fnB fnE fnE2
  cases g ⟨ds.map Sl.frz ++ List.replicate (n - ds.length) .no, ob⟩ with
  | rt r st => first | rfl | (dsimp only; cases rtv st r <;> rfl)
  | _ => rfl
@[simp] theorem rtv_val : rtv st (.val d) = some (.val d) := id rfl
@[simp] theorem rtv_fresh : rtv st (.fresh d) = some (.fresh d) := id rfl
def rtb (s : Option Sl) : Option Rv := match s with
  | some (.frz d) => some (.val d)
  | some (.own d) => some (.fresh d)
  | _ => none
@[simp] theorem rtv_bor : rtv ⟨sl, ob⟩ (.bor i) = rtb sl[i]? := id rfl
@[simp] theorem rtb_frz : rtb (some (.frz d)) = some (.val d) := id rfl
@[simp] theorem rtb_own : rtb (some (.own d)) = some (.fresh d) := id rfl
end
end Bv

namespace Bv
open PySem PySem.Spec PyProof.Rows L2

theorem ok_append {x y : Str} (h : PyData.strOk x = true) (k : PyData.strOk y = true) : PyData.strOk (x ++ y) = true := by
  unfold PyData.strOk at *
  show (x.cps ++ y.cps).all _ = true
  rw [Array.all_append, h, k]; rfl
theorem ok_of (s : String) : PyData.strOk (Str.ofString s) = true := by
  rw [Str.ofString_eq_toList]
  unfold PyData.strOk
  rw [← Array.all_toList]
  simp only [List.all_map, List.all_eq_true]
  intro c hc
  simp only [Function.comp, decide_eq_true_eq]
  have := c.valid
  show c.val.toNat < 0x110000
  rcases this with h | ⟨_, h⟩
  · have : c.val.toNat < 0xD800 := h
    omega
  · exact h
theorem ok_join {s : Str} (hs : PyData.strOk s = true) : ∀ ts : List Str, (∀ t ∈ ts, PyData.strOk t = true) → PyData.strOk (Str.join s ts) = true
  | [], _ => (by decide +kernel : PyData.strOk Str.empty = true)
  | [x], h => h x (List.mem_singleton_self x)
  | x :: y :: r, h => ok_append (ok_append (h x (List.mem_cons_self ..)) hs) (ok_join hs (y :: r) fun t m => h t (List.mem_cons_of_mem _ m))
theorem ok_textFrom : ∀ (ts : List Str) (k : Nat) (acc : Str), PyData.strOk acc = true → (∀ t ∈ ts, PyData.strOk t = true) → PyData.strOk (textFrom k acc ts) = true
  | [], _, acc, h, _ => h
  | t :: ts, k, acc, h, ht => ok_textFrom ts (k + 1) _ (ok_append (ok_append h (ok_of _)) (ht t (List.mem_cons_self ..))) fun u m => ht u (List.mem_cons_of_mem _ m)
theorem ok_listText {ts : List Str} (h : ∀ t ∈ ts, PyData.strOk t = true) : PyData.strOk (listText ts) = true := ok_append (ok_textFrom ts 0 _ (ok_of _) h) (ok_of _)
theorem ok_tupleText {ts : List Str} (h : ∀ t ∈ ts, PyData.strOk t = true) : PyData.strOk (tupleText ts) = true := ok_append (ok_append (ok_of _) (ok_join (ok_of _) ts h)) (ok_of _)
theorem len_of (s : String) : (Str.ofString s).length = s.length := PySem.ofString_length s
theorem len_textFrom : ∀ (ts : List Str) (k : Nat) (acc : Str), (textFrom k acc ts).length ≤ acc.length + piled ts
  | [], _, acc => by show acc.length ≤ _; omega
  | t :: ts, k, acc => by
    have ih := len_textFrom ts (k + 1) (acc ++ (if k > 0 then ", " else "" : String) ++ t)
    have e : (acc ++ (if k > 0 then ", " else "" : String) ++ t).length ≤ acc.length + 2 + t.length := by
      rw [strLen_append, strLen_append, len_of]
      split
      · exact Nat.le_refl _
      · show acc.length + 0 + _ ≤ _; omega
    rw [piled_cons]
    show (textFrom (k + 1) _ ts).length ≤ _
    omega
theorem len_listText (ts : List Str) : (listText ts).length ≤ piled ts + 2 := by
  have h := len_textFrom ts 0 (Str.ofString "[")
  unfold listText
  rw [strLen_append, len_of]
  rw [len_of] at h
  have e1 : ("[" : String).length = 1 := rfl
  have e2 : ("]" : String).length = 1 := rfl
  omega
theorem len_tupleText (ts : List Str) : (tupleText ts).length ≤ piled ts + 4 := by
  unfold tupleText
  rw [strLen_append, strLen_append, len_of, len_of]
  have e1 : ("(" : String).length = 1 := rfl
  have e2 : (if ts.length == 1 then ",)" else ")" : String).length ≤ 2 := by split <;> decide
  by_cases h : ts = []
  · subst h
    have e3 : (Str.join (Str.ofString ", ") []).length = 0 := rfl
    rw [e3]
    omega
  · have e4 := join_length_add ts h
    omega

mutual
def goodD (k : Nat) : Nat → D → Bool
  | _, .non => true
  | _, .bl _ => true
  | _, .int i => decide (i.natAbs < 10 ^ k)
  | _, .str x => PyData.strOk x && PyData.strOk (reprText x)
  | n, .tup xs => match n with
    | 0 => false
    | n + 1 => goodL k n xs
  | n, .lst xs => match n with
    | 0 => false
    | n + 1 => goodL k n xs
  | _, _ => false
def goodL (k : Nat) : Nat → List D → Bool
  | _, [] => true
  | n, x :: xs => goodD k n x && goodL k n xs
end
mutual
def szD (k : Nat) : D → Nat
  | .int _ => k + 1
  | .str x => (reprText x).length
  | .tup xs => szL k xs + 4
  | .lst xs => szL k xs + 4
  | _ => 5
def szL (k : Nat) : List D → Nat
  | [] => 0
  | x :: xs => szD k x + 2 + szL k xs
end
mutual
theorem good_flat (k : Nat) : ∀ (n : Nat) (d : D), goodD k n d = true → flatD n d = true
  | n, .non, _ => by cases n <;> rfl
  | n, .bl _, _ => by cases n <;> rfl
  | n, .int _, _ => by cases n <;> rfl
  | n, .str x, h => by
    simp only [goodD, Bool.and_eq_true] at h
    simp only [flatD]; exact h.1
  | 0, .tup xs, h => by simp [goodD] at h
  | n + 1, .tup xs, h => by
    simp only [goodD] at h
    simp only [flatD]; exact good_flatL k n xs h
  | 0, .lst xs, h => by simp [goodD] at h
  | n + 1, .lst xs, h => by
    simp only [goodD] at h
    simp only [flatD]; exact good_flatL k n xs h
  | _, .dic _, h => by simp [goodD] at h
  | _, .dit _, h => by simp [goodD] at h
  | _, .dmx _, h => by simp [goodD] at h
  | _, .ins _ _, h => by simp [goodD] at h
  | _, .exv _ _, h => by simp [goodD] at h
  | _, .ob _, h => by simp [goodD] at h
  | _, .cl _, h => by simp [goodD] at h
  | _, .rol _, h => by simp [goodD] at h
theorem good_flatL (k : Nat) : ∀ (n : Nat) (xs : List D), goodL k n xs = true → flatL n xs = true
  | _, [], _ => by simp [flatL]
  | n, x :: xs, h => by
    simp only [goodL, Bool.and_eq_true] at h
    simp only [flatL, Bool.and_eq_true]
    exact ⟨good_flat k n x h.1, good_flatL k n xs h.2⟩
end
mutual
theorem flat_mono : ∀ (n m : Nat) (d : D), n ≤ m → flatD n d = true → flatD m d = true
  | n, m, .non, _, _ => by simp [flatD]
  | n, m, .bl _, _, _ => by simp [flatD]
  | n, m, .int _, _, _ => by simp [flatD]
  | n, m, .str x, _, h => by simpa only [flatD] using h
  | 0, _, .tup xs, _, h => by simp [flatD] at h
  | n + 1, 0, .tup xs, l, _ => absurd l (by omega)
  | n + 1, m + 1, .tup xs, l, h => by
    simp only [flatD] at h ⊢
    exact flat_monoL n m xs (by omega) h
  | 0, _, .lst xs, _, h => by simp [flatD] at h
  | n + 1, 0, .lst xs, l, _ => absurd l (by omega)
  | n + 1, m + 1, .lst xs, l, h => by
    simp only [flatD] at h ⊢
    exact flat_monoL n m xs (by omega) h
  | _, _, .dic _, _, h => by simp [flatD] at h
  | _, _, .dit _, _, h => by simp [flatD] at h
  | _, _, .dmx _, _, h => by simp [flatD] at h
  | _, _, .ins _ _, _, h => by simp [flatD] at h
  | _, _, .exv _ _, _, h => by simp [flatD] at h
  | _, _, .ob _, _, h => by simp [flatD] at h
  | _, _, .cl _, _, h => by simp [flatD] at h
  | _, _, .rol _, _, h => by simp [flatD] at h
theorem flat_monoL : ∀ (n m : Nat) (xs : List D), n ≤ m → flatL n xs = true → flatL m xs = true
  | _, _, [], _, _ => by simp [flatL]
  | n, m, x :: xs, l, h => by
    simp only [flatL, Bool.and_eq_true] at h ⊢
    exact ⟨flat_mono n m x l h.1, flat_monoL n m xs l h.2⟩
end
theorem log_small {i : Int} {k : Nat} (h : i.natAbs < 10 ^ k) (hk : k ≤ 500) : i.natAbs.log2 < 1920 := by
  by_cases h0 : i.natAbs = 0
  · rw [h0]; decide
  · refine (Nat.log2_lt h0).mpr (Nat.lt_of_lt_of_le h (Nat.le_trans (Nat.pow_le_pow_right (by decide) hk) ?_))
    exact Nat.le_of_ble_eq_true (by decide +kernel)
mutual
theorem good_show {k : Nat} (hk : 0 < k) (hk2 : k ≤ 500) : ∀ (n : Nat) (d : D), goodD k n d = true → (py d).showable = true ∧ (py d).shown.length ≤ szD k d ∧ PyData.strOk (py d).shown = true
  | _, .non, _ => ⟨rfl, by show (Str.ofString "None").length ≤ 5; rw [len_of]; decide, ok_of _⟩
  | _, .bl b, _ => by
    cases b
    · exact ⟨rfl, by show (Str.ofString "False").length ≤ 5; rw [len_of]; decide, ok_of _⟩
    · exact ⟨rfl, by show (Str.ofString "True").length ≤ 5; rw [len_of]; decide, ok_of _⟩
  | _, .int i, h => by
    simp only [goodD, decide_eq_true_eq] at h
    simp only [py, PyData.showable, PyData.shown, szD, decide_eq_true_eq]
    exact ⟨log_small h hk2, by rw [len_of]; exact int_text_length_le10 hk h, ok_of _⟩
  | _, .str x, h => by
    simp only [goodD, Bool.and_eq_true] at h
    simp only [py, PyData.showable, PyData.shown, szD]
    exact ⟨trivial, Nat.le_refl _, h.2⟩
  | 0, .tup xs, h => by simp [goodD] at h
  | n + 1, .tup xs, h => by
    simp only [goodD] at h
    simp only [py, PyData.showable, PyData.shown, szD]
    obtain ⟨h1, h2, h3⟩ := good_showL hk hk2 n xs h
    exact ⟨h1, Nat.le_trans (len_tupleText _) (by omega), ok_tupleText h3⟩
  | 0, .lst xs, h => by simp [goodD] at h
  | n + 1, .lst xs, h => by
    simp only [goodD] at h
    simp only [py, PyData.showable, PyData.shown, szD]
    obtain ⟨h1, h2, h3⟩ := good_showL hk hk2 n xs h
    exact ⟨h1, Nat.le_trans (len_listText _) (by omega), ok_listText h3⟩
  | _, .dic _, h => by simp [goodD] at h
  | _, .dit _, h => by simp [goodD] at h
  | _, .dmx _, h => by simp [goodD] at h
  | _, .ins _ _, h => by simp [goodD] at h
  | _, .exv _ _, h => by simp [goodD] at h
  | _, .ob _, h => by simp [goodD] at h
  | _, .cl _, h => by simp [goodD] at h
  | _, .rol _, h => by simp [goodD] at h
theorem good_showL {k : Nat} (hk : 0 < k) (hk2 : k ≤ 500) : ∀ (n : Nat) (xs : List D), goodL k n xs = true → PyData.showableAll (pyL xs) = true ∧ piled (PyData.shownAll (pyL xs)) ≤ szL k xs ∧ ∀ t ∈ PyData.shownAll (pyL xs), PyData.strOk t = true
  | _, [], _ => ⟨rfl, by simp [pyL, PyData.shownAll, piled, szL], by simp [pyL, PyData.shownAll]⟩
  | n, x :: xs, h => by
    simp only [goodL, Bool.and_eq_true] at h
    obtain ⟨a1, a2, a3⟩ := good_show hk hk2 n x h.1
    obtain ⟨b1, b2, b3⟩ := good_showL hk hk2 n xs h.2
    simp only [pyL, PyData.showableAll, PyData.shownAll, szL, Bool.and_eq_true, piled_cons]
    refine ⟨⟨a1, b1⟩, by omega, fun t m => ?_⟩
    rcases List.mem_cons.mp m with rfl | m
    · exact a3
    · exact b3 t m
end
theorem eqvAll_ints : ∀ xs ys : List Int, PyData.eqvAll (pyL (xs.map .int)) (pyL (ys.map .int)) = decide (xs = ys)
  | [], [] => rfl
  | [], _ :: _ => rfl
  | _ :: _, [] => rfl
  | x :: xs, y :: ys => by
    rw [List.map_cons, List.map_cons, pyL, pyL]
    show (PyData.eqv (.int x) (.int y) && PyData.eqvAll _ _) = _
    rw [eqvAll_ints xs ys]
    show ((x == y) && decide (xs = ys)) = _
    by_cases h1 : x = y <;> by_cases h2 : xs = ys <;> simp [h1, h2]
theorem flatL_ints (n : Nat) : ∀ xs : List Int, flatL n (xs.map .int) = true
  | [] => by simp [flatL]
  | x :: xs => by
    rw [List.map_cons]
    simp only [flatL, Bool.and_eq_true]
    exact ⟨by simp [flatD], flatL_ints n xs⟩
theorem okEq_ints (xs : List Int) : okEq (.lst (xs.map .int)) = true := by
  show flatD (59 + 1) (.lst (xs.map .int)) = true
  simp only [flatD]
  exact flatL_ints 59 xs
theorem neD_ints (xs ys : List Int) : neD (.lst (xs.map .int)) (.lst (ys.map .int)) = some (.val (.bl (!decide (xs = ys)))) := by
  unfold neD
  rw [if_pos ⟨okEq_ints xs, okEq_ints ys⟩]
  show some (Rv.val (D.bl (!PyData.eqvAll (pyL (xs.map .int)) (pyL (ys.map .int))))) = _
  rw [eqvAll_ints]
theorem neD_nil (xs : List Int) : neD (.lst (xs.map .int)) (.lst []) = some (.val (.bl (!decide (xs = [])))) := neD_ints xs []
end Bv

namespace Bv
open PySem PySem.Spec PyProof.Rows L2
section
variable {a b c f fo fi fv : S → Res} {gl : S → LRes} {p q bd : S → SRes} {sl : List Sl} {ob : List D} {st st' : S} {r : Rv} {d d' : D} {i n : Nat} {e : Exn} {ds : List D} {g : D → S → Option S} {it : S → LRes} {t : S → Res} {vs : List Nat}
def kIL (k : List D → Option (List D)) : List D → S → LRes := fun ds st1 => match k ds with
  | some xs => .ok xs st1
  | none => .bad
theorem kIL_ok {k : List D → Option (List D)} {xs : List D} (h : k ds = some xs) : kIL k ds st = .ok xs st := by unfold kIL; rw [h]
@[simp] theorem iL_run (k : List D → Option (List D)) : iL k gl ⟨sl, ob⟩ = (gl ⟨sl, ob⟩).bind (kIL k) := id rfl
@[simp] theorem kIL_zi_tt (xs ys : List D) : kIL zi2 [.tup xs, .tup ys] st = .ok (zipD xs ys) st := id rfl
@[simp] theorem kIL_zi_ll (xs ys : List D) : kIL zi2 [.lst xs, .lst ys] st = .ok (zipD xs ys) st := id rfl
@[simp] theorem kIL_zi_tl (xs ys : List D) : kIL zi2 [.tup xs, .lst ys] st = .ok (zipD xs ys) st := id rfl
@[simp] theorem kIL_zi_lt (xs ys : List D) : kIL zi2 [.lst xs, .tup ys] st = .ok (zipD xs ys) st := id rfl
theorem small_ok {j : Int} (h : -(2 ^ 62) ≤ j) (k : j < 2 ^ 62) : smallB j = true := by
  unfold smallB
  rw [decide_eq_true h, decide_eq_true k]; rfl
theorem kIL_rg1 {j : Int} (h : 0 ≤ j) (k : j < 2 ^ 62) : kIL rg1 [.int j] st = .ok (rngD 0 1 j.toNat) st := by
  refine kIL_ok ?_
  show (if smallB j = true then _ else _) = _
  rw [if_pos (small_ok (by omega) k)]
def kSq2 (o : Option (List D)) (st : S) : LRes := match o with
  | some xs => .ok xs st
  | none => .bad
@[simp] theorem kSq2_some : kSq2 (some ds) st = .ok ds st := id rfl
def kSq1 (o : Option (D × S)) : LRes := match o with
  | some (d, st2) => kSq2 (seqD d) st2
  | none => .bad
@[simp] theorem kSq1_some : kSq1 (some (d, st)) = kSq2 (seqD d) st := id rfl
def kSq : Rv → S → LRes := fun r st1 => kSq1 (give st1 r)
@[simp] theorem kSq_run : kSq r ⟨sl, ob⟩ = kSq1 (give ⟨sl, ob⟩ r) := id rfl
@[simp] theorem iSeq_run : iSeq f ⟨sl, ob⟩ = (f ⟨sl, ob⟩).bindL kSq := by
  unfold iSeq kSq kSq1 kSq2
  congr
@[simp] theorem seqD_tup : seqD (.tup ds) = some ds := id rfl
@[simp] theorem seqD_lst : seqD (.lst ds) = some ds := id rfl
@[simp] theorem seqD_rol : seqD (.rol ds) = some ds := id rfl
@[simp] theorem seqD_str (z : Str) : seqD (.str z) = some (signsD z) := id rfl
def kFor (g : D → S → Option S) (bd : S → SRes) : LRes → SRes
  | .ok ds st1 => forD g bd ds st1
  | .exc e s => .ex e s
  | .bad => .bad
@[simp] theorem kFor_ok : kFor g bd (.ok ds st) = forD g bd ds st := id rfl
@[simp] theorem sFor_run : sFor it g bd ⟨sl, ob⟩ = kFor g bd (it ⟨sl, ob⟩) := by
  unfold sFor kFor
  cases it ⟨sl, ob⟩ <;> rfl
@[simp] theorem forD_nil : forD g bd [] st = .nx st := id rfl
def kLcE (vs : List Nat) (st1 : S) : LRes → Res
  | .ok xs st2 => .ok (.fresh (.lst xs)) (backS vs st1 st2)
  | _ => .bad
@[simp] theorem kLcE_ok (xs : List D) (st1 : S) : kLcE vs st1 (.ok xs st) = .ok (.fresh (.lst xs)) (backS vs st1 st) := id rfl
def kLc2 (g : D → S → Option S) (t f : S → Res) (vs : List Nat) : LRes → Res
  | .ok ds st1 => if noOwn vs st1 = true then kLcE vs st1 (lcD g t f vs ds [] (wipeS vs st1)) else .bad
  | .exc e s => .exc e s
  | .bad => .bad
@[simp] theorem kLc2_ok : kLc2 g t f vs (.ok ds st) = if noOwn vs st = true then kLcE vs st (lcD g t f vs ds [] (wipeS vs st)) else .bad := id rfl
@[simp] theorem eLc_run : eLc it g t f vs ⟨sl, ob⟩ = kLc2 g t f vs (it ⟨sl, ob⟩) := by
  unfold eLc kLc2 kLcE
  cases it ⟨sl, ob⟩ with
  | ok ds st =>
    first
    | rfl
    | (dsimp only
       split
       · cases lcD g t f vs ds [] (wipeS vs st) <;> rfl
       · rfl)
  | _ => rfl
@[simp] theorem bYes_run : bYes st = .ok (.val (.bl true)) st := id rfl
theorem lcD_ind (I : List D → List D → S → Prop) (step : ∀ d ds acc st, I (d :: ds) acc st → ∃ st1 st2, g d (wipeS vs st) = some st1 ∧ ((t st1 = .ok (.val (.bl false)) st2 ∧ I ds acc (wipeS vs st2)) ∨
    ∃ r st3 x st4, t st1 = .ok (.val (.bl true)) st2 ∧ f st2 = .ok r st3 ∧ give st3 r = some (x, st4) ∧ acc.length < sizeLine ∧ I ds (acc ++ [x]) (wipeS vs st4))) :
    ∀ (ds acc : List D) (st : S), I ds acc st → ∃ xs st', lcD g t f vs ds acc st = .ok xs st' ∧ I [] xs st'
  | [], acc, st, h => ⟨acc, st, rfl, h⟩
  | d :: ds, acc, st, h => by
    obtain ⟨st1, st2, e1, h⟩ := step d ds acc st h
    unfold lcD
    rw [e1]
    dsimp only
    rcases h with ⟨e2, h⟩ | ⟨r, st3, x, st4, e2, e3, e4, e5, h⟩
    · rw [e2]
      exact lcD_ind I step ds acc _ h
    · rw [e2]
      dsimp only
      rw [e3]
      dsimp only
      rw [e4]
      dsimp only
      rw [if_pos e5]
      exact lcD_ind I step ds _ _ h
@[simp] theorem gN_run : gN i d ⟨sl, ob⟩ = some ⟨sl.set i (.frz d), ob⟩ := id rfl
@[simp] theorem gs0_run : gs0 [] st = some st := id rfl
def gsB (gs : List D → S → Option S) (ds : List D) (o : Option S) : Option S := match o with
  | some st => gs ds st
  | none => none
@[simp] theorem gsB_some (gs : List D → S → Option S) : gsB gs ds (some st) = gs ds st := id rfl
@[simp] theorem gsC_run (gs : List D → S → Option S) : gsC g gs (d :: ds) ⟨sl, ob⟩ = gsB gs ds (g d ⟨sl, ob⟩) := by
  unfold gsC gsB
  dsimp only
  cases g d ⟨sl, ob⟩ <;> rfl
@[simp] theorem gTu_tup (gs : List D → S → Option S) : gTu n gs (.tup ds) st = if ds.length = n then gs ds st else none := id rfl
@[simp] theorem gTu_lst (gs : List D → S → Option S) : gTu n gs (.lst ds) st = if ds.length = n then gs ds st else none := id rfl
@[simp] theorem wipeS_nil : wipeS [] st = st := id rfl
@[simp] theorem wipeS_cons (v : Nat) (vs : List Nat) : wipeS (v :: vs) ⟨sl, ob⟩ = ⟨(wipeS vs ⟨sl, ob⟩).sl.set v .no, ob⟩ := by
  show (⟨(wipeS vs ⟨sl, ob⟩).sl.set v .no, (wipeS vs ⟨sl, ob⟩).ob⟩ : S) = _
  rw [wipeS_ob]
@[simp] theorem backS_nil (st0 : S) : backS [] st0 st = st := id rfl
def bkb (v : Nat) (o : Option Sl) (st : S) : S := match o with
  | some s => ⟨st.sl.set v s, st.ob⟩
  | none => st
@[simp] theorem bkb_some (v : Nat) (s : Sl) : bkb v (some s) ⟨sl, ob⟩ = ⟨sl.set v s, ob⟩ := id rfl
@[simp] theorem backS_cons (v : Nat) (vs : List Nat) (sl0 : List Sl) (ob0 : List D) : backS (v :: vs) ⟨sl0, ob0⟩ st = bkb v sl0[v]? (backS vs ⟨sl0, ob0⟩ st) := by
  show (match sl0[v]? with
    | some s => (backS vs ⟨sl0, ob0⟩ st).set v s
    | none => backS vs ⟨sl0, ob0⟩ st) = _
  cases sl0[v]? <;> rfl
def noOwn1 (o : Option Sl) : Bool := match o with
  | some (.own _) => false
  | _ => true
@[simp] theorem noOwn1_no : noOwn1 (some .no) = true := id rfl
@[simp] theorem noOwn1_frz : noOwn1 (some (.frz d)) = true := id rfl
@[simp] theorem noOwn_nil : noOwn [] st = true := id rfl
@[simp] theorem noOwn_cons (v : Nat) (vs : List Nat) : noOwn (v :: vs) ⟨sl, ob⟩ = (noOwn1 sl[v]? && noOwn vs ⟨sl, ob⟩) := by
  unfold noOwn noOwn1
  rw [List.all_cons] <;> rfl
def kSl3 (l u : Option Int) (o : Option D) (st : S) : Res := match o with
  | some d => ret (cutAny l u d) st
  | none => .bad
@[simp] theorem kSl3_some (l u : Option Int) : kSl3 l u (some d) st = ret (cutAny l u d) st := id rfl
def kSl2 (r1 : Rv) (l : Option Int) : Rv → S → Res := fun r3 st3 => match r3 with
  | .val d3 => match partD d3 with
    | some u => kSl3 l u (rd st3 (vz r1)) st3
    | none => .bad
  | _ => .bad
@[simp] theorem kSl2_non (r1 : Rv) (l : Option Int) : kSl2 r1 l (.val .non) ⟨sl, ob⟩ = kSl3 l none (rd ⟨sl, ob⟩ (vz r1)) ⟨sl, ob⟩ := id rfl
@[simp] theorem kSl2_int (r1 : Rv) (l : Option Int) (k : Int) : kSl2 r1 l (.val (.int k)) ⟨sl, ob⟩ = kSl3 l (some k) (rd ⟨sl, ob⟩ (vz r1)) ⟨sl, ob⟩ := id rfl
def kSl1 (hi : S → Res) (r1 : Rv) : Rv → S → Res := fun r2 st2 => match r2 with
  | .val d2 => match partD d2 with
    | some l => (hi st2).bind (kSl2 r1 l)
    | none => .bad
  | _ => .bad
@[simp] theorem kSl1_non (r1 : Rv) : kSl1 b r1 (.val .non) st = (b st).bind (kSl2 r1 none) := id rfl
@[simp] theorem kSl1_int (r1 : Rv) (k : Int) : kSl1 b r1 (.val (.int k)) st = (b st).bind (kSl2 r1 (some k)) := id rfl
def kSl (lo hi : S → Res) : Rv → S → Res := fun r1 st1 => (lo st1).bind (kSl1 hi r1)
@[simp] theorem kSl_run : kSl a b r ⟨sl, ob⟩ = (a ⟨sl, ob⟩).bind (kSl1 b r) := id rfl
theorem eSl_eq : eSl f a b st = (f st).bind (kSl a b) := by
  unfold eSl kSl
  congr
@[simp] theorem eSl_run : eSl f a b ⟨sl, ob⟩ = (f ⟨sl, ob⟩).bind (kSl a b) := eSl_eq
def kInt1 (o : Option D) (st : S) : Res := match o with
  | some (.int i) => .ok (.val (.int i)) st
  | _ => .bad
@[simp] theorem kInt1_int (k : Int) : kInt1 (some (.int k)) st = .ok (.val (.int k)) st := id rfl
def kInt : Rv → S → Res := fun r st1 => kInt1 (rd st1 r) st1
@[simp] theorem kInt_run : kInt r ⟨sl, ob⟩ = kInt1 (rd ⟨sl, ob⟩ r) ⟨sl, ob⟩ := id rfl
@[simp] theorem eInt_run : eInt f ⟨sl, ob⟩ = (f ⟨sl, ob⟩).bind kInt := by
  unfold eInt kInt kInt1
  congr
@[simp] theorem cutAny_lst (l u : Option Int) (xs : List D) : cutAny l u (.lst xs) = some (.fresh (.lst (cutD xs l u))) := id rfl
@[simp] theorem cutAny_rol (l u : Option Int) (xs : List D) : cutAny l u (.rol xs) = some (.fresh (.lst (cutD xs l u))) := id rfl
@[simp] theorem cutAny_tup (l u : Option Int) (xs : List D) : cutAny l u (.tup xs) = some (.val (.tup (cutD xs l u))) := id rfl
theorem sIx_some {n : Nat} {dflt : Nat} {k : Int} (h : 0 ≤ k) : HT.sIx n dflt (some k) = min k.toNat n := by
  unfold HT.sIx
  simp only
  split
  · omega
  · rfl
theorem cutD_take (xs : List D) {k : Int} (h : 0 ≤ k) : cutD xs none (some k) = xs.take k.toNat := by
  unfold cutD
  rw [sIx_some h, show HT.sIx xs.length 0 none = 0 from rfl, Nat.sub_zero, List.drop_zero]
  by_cases h2 : k.toNat ≤ xs.length
  · rw [Nat.min_eq_left h2]
  · rw [Nat.min_eq_right (by omega), List.take_length, List.take_of_length_le (by omega)]
theorem cutD_drop (xs : List D) {k : Int} (h : 0 ≤ k) : cutD xs (some k) none = xs.drop k.toNat := by
  unfold cutD
  rw [sIx_some h, show HT.sIx xs.length xs.length none = xs.length from rfl]
  by_cases h2 : k.toNat ≤ xs.length
  · rw [Nat.min_eq_left h2, List.take_of_length_le (by simp)]
  · rw [Nat.min_eq_right (by omega), List.drop_of_length_le (Nat.le_refl _), List.drop_of_length_le (by omega)]; simp
end
end Bv

namespace Bv
open PySem PySem.Spec PyProof.Rows L2

section
variable {prog : Program} {w : World} {A : Around} {E : Value → Shared → Prop} {s : Shared}
theorem adjust_rev (n : Nat) : Builtin.Slice.sliceAdjust none none (-1) (n : Int) = ((n : Int) - 1, -1) := by
  unfold Builtin.Slice.sliceAdjust
  have h1 : (-1 : Int) < 0 := by omega
  simp only [h1, if_true]
theorem places_rev (n : Nat) : Builtin.Slice.slicePlaces ((n : Int) - 1) (-1) (-1) = n := by
  unfold Builtin.Slice.slicePlaces
  have h1 : ¬ ((-1 : Int) > 0) := by omega
  simp only [h1, if_false]
  have e : (- -1 : Int) = 1 := rfl
  rw [e, Int.ediv_one]
  split <;> omega
theorem pick_rev (its : List Value) : ((List.range its.length).filterMap fun (m : Nat) => its.toArray[((its.length : Int) - 1 + (m : Int) * (-1)).toNat]?).toArray = its.reverse.toArray := by
  congr 1
  have key : ∀ k, k ≤ its.length → (List.range k).filterMap (fun (m : Nat) => its.toArray[((its.length : Int) - 1 + (m : Int) * (-1)).toNat]?) = its.reverse.take k := by
    intro k
    induction k with
    | zero => intro _; simp
    | succ k ih =>
      intro hk
      rw [List.range_succ, List.filterMap_append, ih (by omega), List.take_add_one]
      congr 1
      have e : ((its.length : Int) - 1 + (k : Int) * (-1)).toNat = its.length - 1 - k := by omega
      rw [List.getElem?_reverse (by omega)]
      simp only [List.filterMap_cons, List.filterMap_nil, e, List.getElem?_toArray]
      cases its[its.length - 1 - k]? <;> rfl
  rw [key its.length (Nat.le_refl _), List.take_of_length_le (by simp)]
theorem sliceApplied_rev {b : Addr} {vs : Value} {n : Nat} {Q : Int × Int × Nat → Shared → Prop} (hs : s.heap.IsSliceOf b .none .none vs) (ps : IsPart vs (some (-1))) (h : Q ((n : Int) - 1, -1, n) s) :
    wpAny (model prog w) A (Builtin.Slice.sliceApplied (.ref b) (pure (n : Int))) Q E s := by
  obtain ⟨os, ho, hc, hd⟩ := id hs
  unfold Builtin.Slice.sliceApplied Builtin.Slice.sliceFields
  refine wpAny_bind (wpAny_bind (wpAny_field ho hd (x := .none) rfl (wpAny_bind (wpAny_field ho hd (x := .none) rfl (wpAny_bind (wpAny_field ho hd (x := vs) rfl (wpAny_pure ?_)))))))
  refine wpAny_bind (HT.slicePart_ ps ?_)
  show wpAny _ _ (if ((-1 : Int) == 0) = true then _ else _) _ _ s
  rw [if_neg (by decide)]
  refine wpAny_bind (PyProof.Rows.slicePart_none (wpAny_bind (PyProof.Rows.slicePart_none (wpAny_bind (wpAny_pure ?_)))))
  show wpAny _ _ (match Builtin.Slice.sliceAdjust none none (-1) (n : Int) with | (lo, hi) => pure (lo, (-1 : Int), Builtin.Slice.slicePlaces lo hi (-1))) _ _ s
  rw [adjust_rev]
  show wpAny _ _ (pure ((n : Int) - 1, (-1 : Int), Builtin.Slice.slicePlaces ((n : Int) - 1) (-1) (-1))) _ _ s
  rw [places_rev]
  exact wpAny_pure h
theorem getItem_tuple_rev {t b : Addr} {its : List Value} {vs : Value} {Q : Value → Shared → Prop} (ht : IsTup s.heap t its.toArray) (hs : s.heap.IsSliceOf b .none .none vs) (ps : IsPart vs (some (-1)))
    (h : Q (.ref s.heap.objs.size) { s with heap := s.heap.push { cls := .type "tuple", data := .seq its.reverse.toArray } }) (hz : its.length ≤ sizeLine) : wpAny (model prog w) A (getItem (.ref t) (.ref b)) Q E s := by
  have hk : sizeOk (.seq its.reverse.toArray) := by
    show its.reverse.toArray.size ≤ sizeLine
    rw [List.size_toArray, List.length_reverse]; exact hz
  obtain ⟨os, ho, hc, hd⟩ := id hs
  have hT : s.TypeIs (.ref b) "slice" := ⟨os, ho, hc⟩
  unfold getItem
  try with_reducible refine wpAny_holding ?_
  first | refine wpAny_bind (wpAny_pure ?_) | skip
  refine wpAny_bind (wpAny_sequenceKey ht.typeIs (by decide) (wpAny_bind (wpAny_callSpecial?_slot (name := Str.ofString "__getitem__") ht.typeIs PyProof.Rows.slot_tuple_getitem (wpAny_call_entry PyProof.Rows.slot_tuple_getitem ht.typeIs PyProof.Rows.entry_tuple_getitem ?_ (PyProof.Rows.args_tuple_getitem _ _)))))
  show wpAny _ _ (Builtin.Tuple.tupleItemsOf (.ref t) >>= _) _ _ s
  refine wpAny_bind (PyProof.Rows.tupleItemsOf_ ht (wpAny_bind (wpAny_typeOf hT ?_)))
  rw [if_pos (by decide)]
  refine wpAny_bind (sliceApplied_rev (n := its.toArray.size) hs ps ?_)
  have no : ¬ ((((its.toArray.size : Nat) : Int) - 1 == 0 && (-1 : Int) == 1 && its.toArray.size == its.toArray.size) = true) := by
    intro q
    rw [Bool.and_eq_true, Bool.and_eq_true] at q
    exact absurd q.1.2 (by decide)
  show wpAny _ _ (if (((its.toArray.size : Nat) : Int) - 1 == 0 && (-1 : Int) == 1 && its.toArray.size == its.toArray.size) = true then _ else _) _ _ s
  rw [if_neg no]
  have e : ((List.range its.toArray.size).filterMap fun (k : Nat) => its.toArray[(((its.toArray.size : Nat) : Int) - 1 + (k : Int) * (-1)).toNat]?).toArray = its.reverse.toArray := by
    rw [List.size_toArray]; exact pick_rev its
  rw [e]
  first
    | exact wpAny_bind (m := Builtin.Tuple.tupleExact _) (wpAny_newObj_type (wpAny_pure ⟨_, rfl, wpAny_pure h⟩) hk)
    | exact wpAny_bind (wpAny_bind (m := Builtin.Tuple.tupleExact _) (wpAny_newObj_type (wpAny_pure (wpAny_pure ⟨_, rfl, wpAny_pure h⟩)) hk))
end
def tRevT (K : PySem.W.Frag) (te : TE) : TE := fun σ H Q => te σ H fun x H1 => ∃ a xs, x = .ref a ∧ SqT K H1 a xs ∧ ∀ p, H1 p = none → Q (.ref p) (upd H1 p (.tup xs.reverse))
theorem pe_revT {X : Cx} {e : Expr} {te : TE} {k : Nat} {p1 p2 p3 pos : Pos} (he : PE X e te) : PE X (.Subscript e (.Slice none none (some (.UnaryOp .USub (.Constant (.int 1) k p1) p2)) p3) pos) (tRevT X.K te) := by
  refine ⟨fun pins s σ H Q I h => Subscript_ (thn (he.run pins s σ H _ I h) fun v s1 q0 => ?_)⟩
  obtain ⟨x, H1, I1, r1, a, xs, ex, hx, q⟩ := q0
  subst ex
  cases r1
  have neg : PO X (some (.UnaryOp .USub (.Constant (.int 1) k p1) p2)) (tPart (tUn (rU fun i => .int (-i)) (tC (.int 1)))) := po_some (pe_un un_neg pe_int)
  refine wpAny_Slice (thn (po_none.run pins s1 σ H1 (fun o H2 => o = none ∧ H2 = H1) I1 ⟨rfl, rfl⟩) fun vl s2 q2 => ?_)
  obtain ⟨l, H2, I2, pl, el, e2⟩ := q2
  subst el e2
  refine thn (po_none.run pins s2 σ H2 (fun o H3 => o = none ∧ H3 = H2) I2 ⟨rfl, rfl⟩) fun vu s3 q3 => ?_
  obtain ⟨u, H3, I3, pu, eu, e3⟩ := q3
  subst eu e3
  refine thn (neg.run pins s3 σ H3 (fun o H4 => o = some (-1) ∧ H4 = H3) I3 ⟨1, rfl, -1, rfl, rfl, rfl⟩) fun vs s4 q4 => ?_
  obtain ⟨o, H4, I4, ps, eo, e4⟩ := q4
  subst eo e4
  cases pl
  cases pu
  have I5 : Inv X pins σ H4 { s4 with heap := s4.heap.push { cls := .type "slice", data := .fields #[.none, .none, vs] } } := I4.kept (t' := s4.toks) fun b ob q => Heap.get?_push_of_some _ q
  obtain ⟨its, r, ht, hz⟩ := I5.tuple hx
  show wpAny (model X.prog X.w) X.A (subscriptTail e (.Slice none none (some (.UnaryOp .USub (.Constant (.int 1) k p1) p2)) p3) (.ref a) (.ref s4.heap.objs.size)) (EP X pins σ Q) X.xe { s4 with heap := s4.heap.push { cls := .type "slice", data := .fields #[.none, .none, vs] } }
  refine tail_any (ops := [.ref a, .ref s4.heap.objs.size]) ht.typeIs (PyProof.Rows.slot_tuple_getitem.lookup) ?_ (by with_unfolding_all rfl)
  refine getItem_tuple_rev ht (Heap.IsSliceOf.new _ .none .none vs) ps ?_ (by rw [← r.length]; exact hz)
  exact ⟨.ref _, _, I5.laid (t' := s4.toks) (o := .tup xs.reverse) (fun b ob q => Heap.get?_push_of_some _ q) (Nat.le_refl _) ⟨by rw [List.length_reverse]; exact hz, _, r.reverse, IsTup.new _ _⟩, rfl, q _ (I5.hok.fresh (Nat.le_refl _))⟩
def revD : D → Option Rv
  | .lst xs => some (.fresh (.lst xs.reverse))
  | .rol xs => some (.fresh (.lst xs.reverse))
  | .tup xs => some (.val (.tup xs.reverse))
  | _ => none
section
variable {X : Cx} {T : Tx} {K : PySem.W.Frag} {a b : Expr} {fa fb : S → Res} {pos p : Pos}
def revL1 : D → Option Rv
  | .tup _ => none
  | d => revD d
def revT1 : D → Option Rv
  | .tup xs => some (.val (.tup xs.reverse))
  | _ => none
theorem e1_same {f g : D → Option Rv} {st : S} (h : ∀ d1 st1 r1, fa st = .ok r1 st1 → rd st1 (vz r1) = some d1 → f d1 = g d1) : e1 f fa st = e1 g fa st := by
  unfold e1
  cases ha : fa st with
  | ok r1 st1 =>
    dsimp only [Res.bind]
    cases h1 : rd st1 (vz r1) with
    | none => rfl
    | some d1 => dsimp only; rw [h d1 st1 r1 ha h1]
  | _ => rfl
theorem de_rev1 {k : Nat} {p1 p2 p3 : Pos} (ha : DE X T a fa) : DE X T (.Subscript a (.Slice none none (some (.UnaryOp .USub (.Constant (.int 1) k p1) p2)) p3) pos) (e1 revD fa) :=
  PE.imp (PE.orE (pe_revL (k := k) (p1 := p1) (p2 := p2) (p3 := p3) ha) (pe_revT ha)) fun σ H Q ⟨G, w, st, W, R, tk, h⟩ => by
    have hL : e1 revD fa st = e1 revL1 fa st → tRevL X.K (tE X T fa) σ H Q := fun e => by
      rw [e] at h
      exact tUn_of (r := fun x H Q => ∃ a xs, x = .ref a ∧ SqL X.K H a xs ∧ ∀ p, H p = none → Q (.ref p) (upd H p (.lst xs.reverse))) (fun G w st σ H x d out Q W R h e p => by
        cases d with
        | lst xs =>
          cases e
          obtain ⟨a, us, rfl, g, r⟩ := h.lst R
          exact ⟨a, us, rfl, SqL.of g, fun q hq => p.fresh R hq ⟨_, upd_same, r.reverse⟩⟩
        | rol xs =>
          cases e
          obtain ⟨a, us, rfl, g, r⟩ := h.rol R
          exact ⟨a, us, rfl, g, fun q hq => p.fresh R hq ⟨_, upd_same, r.reverse⟩⟩
        | _ => cases e) ⟨G, w, st, W, R, tk, h⟩
    have hT : e1 revD fa st = e1 revT1 fa st → tRevT X.K (tE X T fa) σ H Q := fun e => by
      rw [e] at h
      exact tUn_of (r := fun x H Q => ∃ a xs, x = .ref a ∧ SqT X.K H a xs ∧ ∀ p, H p = none → Q (.ref p) (upd H p (.tup xs.reverse))) (fun G w st σ H x d out Q W R h e p => by
        unfold revT1 at e
        split at e
        · cases e
          obtain ⟨a, us, rfl, g, r⟩ := h.tup R
          exact ⟨a, us, rfl, SqT.of g, fun q hq => p.newT R hq r.reverse⟩
        · cases e) ⟨G, w, st, W, R, tk, h⟩
    cases ha : fa st with
    | ok r1 st1 =>
      cases h1 : rd st1 (vz r1) with
      | none => exact .inl (hL (e1_same fun d1 st2 r2 e2 e3 => by rw [ha] at e2; cases e2; rw [h1] at e3; cases e3))
      | some d =>
        cases d with
        | tup xs => exact .inr (hT (e1_same fun d1 st2 r2 e2 e3 => by rw [ha] at e2; cases e2; rw [h1] at e3; cases e3; rfl))
        | _ => exact .inl (hL (e1_same fun d1 st2 r2 e2 e3 => by rw [ha] at e2; cases e2; rw [h1] at e3; cases e3; rfl))
    | exc e s => exact .inl (hL (e1_same fun d1 st2 r2 e2 e3 => by rw [ha] at e2; cases e2))
    | bad => exact .inl (hL (e1_same fun d1 st2 r2 e2 e3 => by rw [ha] at e2; cases e2))
@[simp] theorem revD_lst (xs : List D) : revD (.lst xs) = some (.fresh (.lst xs.reverse)) := id rfl
@[simp] theorem revD_tup (xs : List D) : revD (.tup xs) = some (.val (.tup xs.reverse)) := id rfl

def intD : D → Option Rv
  | .int i => some (.val (.int i))
  | .bl k => some (.val (.int (if k then 1 else 0)))
  | _ => none
@[simp] theorem intD_int (i : Int) : intD (.int i) = some (.val (.int i)) := id rfl
@[simp] theorem intD_bl (k : Bool) : intD (.bl k) = some (.val (.int (if k then 1 else 0))) := id rfl
theorem o_int : OpC1 T K (fun xs H Q => (∃ i, xs = [.int i] ∧ Q (.int i) H) ∨ ∃ k, xs = [.bl k] ∧ Q (.int (if k then 1 else 0)) H) intD := by
  intro G w st σ H x d out Q W R h e p
  unfold intD at e
  split at e
  · cases e
    have := h.int
    subst this
    exact .inl ⟨_, rfl, p.val R (.int _)⟩
  · cases e
    have := h.bl
    subst this
    exact .inr ⟨_, rfl, p.val R (.int _)⟩
  · cases e
theorem de_intOf (hg : Gl X "int") (hm : X.mg "int" = none) (ha : DE X T a fa) (na : starEach [a] X.env = (false, eval a X.env) :: starEach [] X.env := by rfl) (hpl : (backTo pos (starEach [] X.env)).any (·.1) = false := by rfl) : DE X T (.Call (.Name "int" p) [a] [] pos) (e1 intD fa) :=
  de_t1 call_int1 o_int hg hm boot_int ha (by decide) (by decide) na hpl
def intsOf : List D → Option (List Int)
  | [] => some []
  | .int i :: r => (intsOf r).map (i :: ·)
  | _ :: _ => none
theorem intsOf_some : ∀ {ds : List D} {ns : List Int}, intsOf ds = some ns → ds = ns.map .int
  | [], ns, h => by cases h; rfl
  | d :: r, ns, h => by
    cases d <;> simp only [intsOf] at h <;> try cases h
    cases q : intsOf r with
    | none => rw [q] at h; cases h
    | some ms =>
      rw [q] at h
      cases h
      rw [List.map_cons, ← intsOf_some q]
theorem intsOf_map : ∀ ns : List Int, intsOf (ns.map .int) = some ns
  | [] => rfl
  | n :: ns => by rw [List.map_cons, intsOf, intsOf_map ns]; rfl
theorem RepL.intsV {T : Tx} {K : PySem.W.Frag} {io : List Addr} {H : Hp} : ∀ {vs : List V} {ns : List Int}, RepL T K io H vs (ns.map .int) → vs = ns.map V.int
  | [], [], _ => rfl
  | v :: vs, n :: ns, r => by
    rw [List.map_cons] at r
    cases r with
    | cons r1 r2 => cases r1; rw [List.map_cons, RepL.intsV r2]
  | [], _ :: _, r => by rw [List.map_cons] at r; cases r
  | _ :: _, [], r => by cases r
def sumD : D → Option Rv
  | .lst xs => (intsOf xs).map fun ns => .val (.int ns.sum)
  | _ => none
theorem sumD_ints (ns : List Int) : sumD (.lst (ns.map .int)) = some (.val (.int ns.sum)) := by
  unfold sumD
  dsimp only
  rw [intsOf_map]; rfl
theorem o_sum : OpC1 T K (rSum K) sumD := by
  intro G w st σ H x d out Q W R h e p
  unfold sumD at e
  split at e
  · rename_i xs
    cases q : intsOf xs with
    | none => rw [q] at e; cases e
    | some ns =>
      rw [q] at e
      cases e
      have := intsOf_some q
      subst this
      obtain ⟨a, us, rfl, g, r⟩ := h.lst R
      have := RepL.intsV r
      subst this
      exact ⟨a, ns, rfl, SqL.of g, p.val R (.int _)⟩
  · cases e
theorem de_sum (hc : X.calm = true) (hg : Gl X "sum") (hm : X.mg "sum" = none) (ha : DE X T a fa) (na : starEach [a] X.env = (false, eval a X.env) :: starEach [] X.env := by rfl) (hpl : (backTo pos (starEach [] X.env)).any (·.1) = false := by rfl) : DE X T (.Call (.Name "sum" p) [a] [] pos) (e1 sumD fa) :=
  de_c1 (cr_sum hc) o_sum hg hm boot_sum ha (by decide) (by decide) na hpl
def sBad : S → SRes := fun _ => .bad
theorem ds_bad {s : Stmt} : DS X T s sBad := ⟨fun pins s σ H En I ⟨G, w, st, W, R, tk, h⟩ => h.elim⟩
end
end Bv

namespace Bv
open PySem PySem.Spec PyProof.Rows L2

/-- what is walked through: object n, which holds ds0; what the turns hand out -/
inductive LOb where
  | ok (ds0 ds : List D) (n : Nat) (st : S)
  | exc (e : Exn) (st : S)
  | bad
structure ItO (T : Tx) (K : PySem.W.Frag) (w0 : Wd) (J : It) (a : Addr) (ds0 ds : List D) : Prop where
  goes : ∀ (i : Nat) (H : Hp) (us : List V), i < ds.length → Ex w0.Hf H → SqL K H a us → us.length = ds0.length → J.go i H
  stops : ∀ (H : Hp) (us : List V), Ex w0.Hf H → SqL K H a us → us.length = ds0.length → J.stop ds.length H
  yields : ∀ (w : Wd) (i : Nat) (H : Hp) (us : List V) (x : V) (H' : Hp), i < ds.length → w0.le w → Ex w.Hf H → SqL K H a us → RepLW T K w us ds0 → J.yld i H x H' → ∃ d, ds[i]? = some d ∧ Yl T K w H x H' d
section
variable (T : Tx) (K : PySem.W.Frag) (G : Hp) (w : Wd) (σ : L2.St)
def PostO (r : LOb) (R : It → Hp → Prop) (W : WX) : Prop := match r with
  | .ok ds0 ds n st => ∀ (w' : Wd) (H' : Hp) (J : It) (a : Addr), w.le w' → SR T K G w' st σ H' → w'.io[n]? = some a → ItO T K w' J a ds0 ds → R J H'
  | .exc e st => ∀ (w' : Wd) (H' : Hp) (cls : Value) (dx : Option Addr), w.le w' → SR T K G w' st σ H' → ExR T K w' e cls dx → W cls dx σ H'
  | .bad => False
end
def tO (X : Cx) (T : Tx) (f : S → LOb) : TI := fun σ H R => ∃ (G : Hp) (w : Wd) (st : S) (W : WX), SR T X.K G w st σ H ∧ Takes X W ∧ PostO T X.K G w σ (f st) R W
def DIo (X : Cx) (T : Tx) (tg e : Expr) (f : S → LOb) : Prop := PI X tg e (tO X T f)
section
variable {X : Cx} {T : Tx} {K : PySem.W.Frag} {G : Hp} {w w' : Wd} {st : S} {σ : L2.St} {H : Hp} {W : WX} {En : Ends} {tg e : Expr} {f : S → Res} {pos : Pos} {body : List Stmt} {g : D → S → Option S} {b : S → SRes} {fi : S → LOb} {a : Addr} {us : List V} {ds0 ds : List D}
theorem ItO.list : ItO T K w (Itl K a) a ds0 ds0 :=
  ⟨fun i H us hi _ h l => ⟨us, us[i]'(by omega), h, List.getElem?_eq_getElem (by omega)⟩, fun H us _ h l => ⟨us, h, by rw [l]; exact Nat.le_refl _⟩, fun w i H us y H' hi _ _ h r yl => by
    obtain ⟨rfl, q⟩ := yl
    obtain ⟨d, h1, h2⟩ := RepL.getV r (q us h)
    exact ⟨d, h1, .inl ⟨rfl, h2⟩⟩⟩
theorem ItO.enum : ItO T K w (Jen K (.l a)) a ds0 (enumD 0 ds0) := by
  refine ⟨fun i H us hi _ h l => ?_, fun H us _ h l => ⟨us, h, by rw [enumD_len, l]⟩, fun w i H us y H' hi _ _ h r yl => ?_⟩
  · rw [enumD_len, ← l] at hi
    exact ⟨us, us[i], h, List.getElem?_eq_getElem hi⟩
  · obtain ⟨q, z, rfl, hq, rfl, k⟩ := yl
    obtain ⟨d, h1, h2⟩ := RepL.getV r (k us h)
    refine ⟨.tup [.int ((0 + i : Nat) : Int), d], by rw [enumD_get, h1]; rfl, .inr ⟨q, _, _, rfl, hq, rfl, rfl, .cons ?_ (.cons h2 .nil)⟩⟩
    rw [Nat.zero_add]
    exact .int _
theorem ItO.zipR {sc : Sc} {ys : List D} {vs : List V} (h : ∀ H, Ex w.Hf H → sc.has K H vs) (rv : RepLW T K w vs ys) : ItO T K w (Jzi K sc (.l a)) a ds0 (zipD ys ds0) := by
  have hl : ∀ {us : List V}, us.length = ds0.length → (zipD ys ds0).length = min vs.length us.length := fun {us} l => by rw [zipD_len, rv.len, l]
  refine ⟨fun i H us hi x k l => ?_, fun H us x k l => ⟨vs, us, h H x, k, (hl l).symm⟩, fun w2 i H us y H' hi lw x k r yl => ?_⟩
  · rw [hl l] at hi
    exact ⟨vs, us, vs[i], us[i], h H x, k, List.getElem?_eq_getElem (by omega), List.getElem?_eq_getElem (by omega)⟩
  · obtain ⟨q, z, z', rfl, hq, rfl, e1, e2⟩ := yl
    obtain ⟨d, h1, h2⟩ := RepL.getV (RepL.mono lw.1 lw.2 rv) (e1 vs (h H (lw.1.trans x)))
    obtain ⟨d', h1', h2'⟩ := RepL.getV r (e2 us k)
    exact ⟨_, zipD_get ys ds0 i d d' h1 h1', .inr ⟨q, _, _, rfl, hq, rfl, rfl, .cons h2 (.cons h2' .nil)⟩⟩
theorem SR.obL (R : SR T K G w st σ H) {n : Nat} (h : st.ob[n]? = some (.lst ds0)) (k : w.io[n]? = some a) : ∃ us, SqL K H a us ∧ RepLW T K w us ds0 := by
  obtain ⟨_, _, c⟩ := R.obj n _ a h k
  obtain ⟨us, c1, c2⟩ := c
  exact ⟨us, SqL.of c1, c2⟩
open Classical in
noncomputable def forO (n : Nat) (ds0 : List D) (g : D → S → Option S) (b : S → SRes) : List D → S → SRes
  | [], st => if st.ob[n]? = some (.lst ds0) then .nx st else .bad
  | d :: ds, st => if st.ob[n]? = some (.lst ds0) then match g d st with
    | none => .bad
    | some st1 => match b st1 with
      | .nx st2 => forO n ds0 g b ds st2
      | .ct st2 => forO n ds0 g b ds st2
      | .bk st2 => .nx st2
      | .rt r s => .rt r s
      | .ex e s => .ex e s
      | .bad => .bad
    else .bad
end
section
variable {X : Cx} {T : Tx} {K : PySem.W.Frag} {G : Hp} {w w' : Wd} {st st' : S} {σ σ' : L2.St} {H : Hp} {W : WX} {En : Ends} {tg e elt : Expr} {f : S → Res} {pos : Pos} {g : D → S → Option S} {fi : S → LOb} {vs : List Nat} {vg : List Nat} {t : S → Res} {ifs : List Expr} {scope : Scope} {own : List (Str × Nat)}
open Classical in
noncomputable def lcO (n : Nat) (ds0 : List D) (g : D → S → Option S) (t : S → Res) (f : S → Res) (vs : List Nat) : List D → List D → S → LRes
  | [], acc, st => if st.ob[n]? = some (.lst ds0) then .ok acc st else .bad
  | d :: ds, acc, st => if st.ob[n]? = some (.lst ds0) then match g d (wipeS vs st) with
    | none => .bad
    | some st1 => match t st1 with
      | .ok (.val (.bl true)) st2 => match f st2 with
        | .ok r st3 => match give st3 r with
          | some (x, st4) => if acc.length < sizeLine then lcO n ds0 g t f vs ds (acc ++ [x]) (wipeS vs st4) else .bad
          | none => .bad
        | _ => .bad
      | .ok (.val (.bl false)) st2 => lcO n ds0 g t f vs ds acc (wipeS vs st2)
      | _ => .bad
    else .bad
noncomputable def eLcO (fi : S → LOb) (g : D → S → Option S) (t : S → Res) (f : S → Res) (vs : List Nat) : S → Res := fun st => match fi st with
  | .ok ds0 ds n st1 => if noOwn vs st1 = true then match lcO n ds0 g t f vs ds [] (wipeS vs st1) with
    | .ok xs st2 => .ok (.fresh (.lst xs)) (backS vs st1 st2)
    | _ => .bad else .bad
  | .exc e s => .exc e s
  | .bad => .bad
theorem tLcO_of {T : Tx} {t : S → Res} {vg : List Nat} (hv : ∀ i ∈ vg, i ∈ vs) {σ : L2.St} {H : Hp} {Q : VK} (h : tE X T (eLcO fi g t f vs) σ H Q) :
    tLc (tO X T fi) (tG X T vg g) (tTF X.K T t) (tEF X.K T f) vs σ H Q := by
  obtain ⟨G, w, st, W, R, tk, h⟩ := h
  refine ⟨G, w, st, W, R, tk, ?_⟩
  unfold eLcO at h
  cases q : fi st with
  | bad => rw [q] at h; exact h
  | exc x s => rw [q] at h; exact h
  | ok ds0 ds n st1 =>
    rw [q] at h
    intro w1 H1 J a l1 R1 hio J1 D0 hD
    have h : PostE T X.K G w1 σ (if noOwn vs st1 = true then match lcO n ds0 g t f vs ds [] (wipeS vs st1) with
      | .ok xs st2 => .ok (.fresh (.lst xs)) (backS vs st1 st2)
      | _ => .bad else .bad) Q W := PostE.le h l1
    by_cases hn : noOwn vs st1 = true
    case neg => rw [if_neg hn] at h; exact h.elim
    rw [if_pos hn] at h
    obtain ⟨f1, f2, f3, f4⟩ := R1.free hD
    have start : SR T X.K (upd G D0 (.lst [])) w1 (wipeS vs st1) (wipe σ vs) (upd H1 D0 (.lst [])) :=
      ((R1.new (o := .lst []) hD).ground (d := .lst []) f1 f3 f4 upd_same (fun _ z => by cases z) f2).wipe (wipe_out vs σ)
    have lg : ∀ (us : List V) b u, G b = some u → (upd G D0 (.lst us)) b = some u := fun us => Ex.updG f2
    refine ⟨fun i m H => m = ds.length - i ∧ i ≤ ds.length ∧ ∃ (w2 : Wd) (st2 : S) (acc : List D) (us : List V), w1.le w2 ∧ SR T X.K (upd G D0 (.lst us)) w2 (wipeS vs st2) (wipe σ vs) H ∧ RepLW T X.K w2 us acc ∧
        PostE T X.K G w2 σ (match lcO n ds0 g t f vs (ds.drop i) acc (wipeS vs st2) with
          | .ok xs st2 => .ok (.fresh (.lst xs)) (backS vs st1 st2)
          | _ => .bad) Q W,
      ⟨ds.length, by simp, Nat.zero_le _, w1, st1, [], [], w1.le_refl, start, .nil, by simpa using h⟩, ?_⟩
    rintro i m H2 ⟨rfl, hi, w2, st2, acc, us, l2, R2, x2, h2⟩
    have hDg : (upd G D0 (HO.lst us)) D0 = some (.lst us) := upd_same
    have hfree : ∀ {w5 : Wd} {st5 : S} {σ5 : L2.St} {H5 : Hp}, SR T X.K (upd G D0 (HO.lst us)) w5 st5 σ5 H5 → w5.Hf D0 = none ∧ D0 ∉ w5.io ∧ (∀ (i : Nat) (e : D), st5.sl[i]? = some (.own e) → σ5[i]? ≠ some (some (.ref D0))) ∧ H5 D0 = some (.lst us) := fun {w5 st5 σ5 H5} R5 =>
      by
        refine ⟨R5.dis D0 _ hDg, fun m => ?_, fun i e k1 k2 => ?_, (R5.exg D0 _ hDg).eq (fun _ z => by cases z)⟩
        · obtain ⟨_, z, _⟩ := R5.io_mem m
          rw [hDg] at z
          cases z
        · obtain ⟨b, k3, _, k4, _⟩ := R5.own i e k1
          rw [k2] at k3
          cases k3
          rw [hDg] at k4
          cases k4
    have hio2 := l2.2 _ _ hio
    have chk : (wipeS vs st2).ob[n]? = some (.lst ds0) := by
      refine Classical.byContradiction fun hc => ?_
      cases hds : ds.drop i with
      | nil => rw [hds] at h2; unfold lcO at h2; rw [if_neg hc] at h2; exact h2
      | cons x xs => rw [hds] at h2; unfold lcO at h2; rw [if_neg hc] at h2; exact h2
    obtain ⟨vu, hus, rus⟩ := R2.obL chk hio2
    by_cases hlt : i < ds.length
    · refine .inr ⟨J1.goes i H2 vu hlt (l2.1.trans R2.exf) hus rus.len, fun H' => ∃ (w3 : Wd) (st3 : S) (acc : List D) (us : List V), w1.le w3 ∧ SR T X.K (upd G D0 (.lst us)) w3 (wipeS vs st3) (wipe σ vs) H' ∧ RepLW T X.K w3 us acc ∧
          PostE T X.K G w3 σ (match lcO n ds0 g t f vs (ds.drop (i + 1)) acc (wipeS vs st3) with
            | .ok xs st2 => .ok (.fresh (.lst xs)) (backS vs st1 st2)
            | _ => .bad) Q W, ?_, fun x H3 y => ?_⟩
      · rintro H' ⟨w3, st3, acc, us, l3, R3, x3, h3⟩
        exact ⟨ds.length - (i + 1), by omega, rfl, hlt, w3, st3, acc, us, l3, R3, x3, h3⟩
      · obtain ⟨d, hd, yl⟩ := J1.yields w2 i H2 vu x H3 hlt l2 R2.exf hus rus y
        have ed : ds.drop i = d :: ds.drop (i + 1) := by
          rw [List.drop_eq_getElem_cons hlt]
          congr 1
          exact Option.some.inj ((List.getElem?_eq_getElem hlt).symm.trans hd)
        rw [ed] at h2
        obtain ⟨w3, l3, R3, x3⟩ : ∃ w3, w2.le w3 ∧ SR T X.K (upd G D0 (HO.lst us)) w3 (wipeS vs st2) (wipe σ vs) H3 ∧ RepW T X.K w3 x d := by
          rcases yl with ⟨rfl, x3⟩ | ⟨p, xs, es, rfl, hp, rfl, rfl, x3⟩
          · exact ⟨w2, w2.le_refl, R2, x3⟩
          · obtain ⟨h1, h2, h3, h4⟩ := R2.free hp
            obtain ⟨le, R3⟩ := (R2.new (o := .tup xs) hp).freeze h1 h2 h3 h4 upd_same
            exact ⟨_, le, R3, .tup upd_same (RepL.mono le.1 le.2 x3)⟩
        have h3 := PostE.le h2 l3
        unfold lcO at h3
        rw [if_pos chk] at h3
        have R3w := R3.wipe (vs := vs) (σ' := wipe σ vs) ⟨rfl, fun _ _ => rfl⟩
        refine ⟨upd G D0 (.lst us), w3, wipeS vs (wipeS vs st2), d, R3w, x3, ?_⟩
        cases qg : g d (wipeS vs (wipeS vs st2)) with
        | none => rw [qg] at h3; exact h3.elim
        | some st4 =>
          rw [qg] at h3
          dsimp only at h3 ⊢
          intro σ4 o4 R4
          have o4' : ∀ j, j ∉ vs → σ4[j]? = (wipe σ vs)[j]? := fun j hj => o4.2 j (fun m => hj (hv j m))
          have ew : wipe σ4 vs = wipe σ vs := by
            rw [wipe_eq (σ := wipe σ vs) (σ' := σ4) o4' o4.1]
            exact wipe_eq (fun j hj => (wipe_out vs σ).2 j hj) (wipe_out vs σ).1
          refine ⟨ew, upd G D0 (.lst us), w3, st4, R4, ?_⟩
          have o5 : Out vs σ4 (wipe σ vs) := ⟨o4.1.symm, fun j hj => (o4' j hj).symm⟩
          cases qt : t st4 with
          | bad => rw [qt] at h3; exact h3
          | exc x s => rw [qt] at h3; exact h3.elim
          | ok r st5 =>
            rw [qt] at h3
            cases r with
            | fresh d => exact h3.elim
            | bor i => exact h3.elim
            | val d => cases d with
              | bl k =>
                intro w5 H5 l5 R5
                have h5 := PostE.le h3 l5
                cases k with
                | false =>
                  rw [if_neg Bool.false_ne_true]
                  exact ⟨w5, st5, acc, us, l2.trans (l3.trans l5), R5.wipe o5, RepL.mono (l3.trans l5).1 (l3.trans l5).2 x2, h5⟩
                | true =>
                  rw [if_pos rfl]
                  refine ⟨upd G D0 (.lst us), w5, st5, R5, ?_⟩
                  dsimp only at h5
                  cases qf : f st5 with
                  | bad => rw [qf] at h5; exact h5
                  | exc x s => rw [qf] at h5; exact h5.elim
                  | ok r st6 =>
                    rw [qf] at h5
                    intro w6 H6 v6 l6 R6 x6
                    dsimp only at h5
                    cases qv : give st6 r with
                    | none => rw [qv] at h5; exact h5.elim
                    | some p =>
                      obtain ⟨dx, st7⟩ := p
                      rw [qv] at h5
                      dsimp only at h5
                      by_cases hz : acc.length < sizeLine
                      case neg => rw [if_neg hz] at h5; exact h5.elim
                      rw [if_pos hz] at h5
                      obtain ⟨w7, l7, R7, x7⟩ := R6.give x6 qv
                      obtain ⟨k1, k2, k3, k4⟩ := hfree R7
                      have lw := l3.trans (l5.trans (l6.trans l7))
                      have x2' := RepL.mono lw.1 lw.2 x2
                      refine ⟨us, k4, by rw [x2.len]; exact hz, w7, st7, acc ++ [dx], us ++ [v6], l2.trans lw, ?_, x2'.append (.cons x7 .nil), PostE.le h5 (l6.trans l7)⟩
                      -- the list at D0 grows
                      have R8 : SR T X.K (upd G D0 (.lst (us ++ [v6]))) w7 st7 σ4 (upd H6 D0 (.lst (us ++ [v6]))) := by
                        have hcon : ∀ {b : Addr} {d : D}, b ≠ D0 → Con T X.K w7 H6 b d → Con T X.K w7 (upd H6 D0 (.lst (us ++ [v6]))) b d := fun {b d} n c => c.mono w7.le_refl (upd_ne n)
                        refine ⟨R7.bas, fun b o q => ?_, fun b o q => ?_, fun b o q => ?_, R7.len, R7.frz, fun j e q => ?_, R7.apart, R7.olen, R7.ond, fun n d b q1 q2 => ?_, R7.hld, R7.tab.swp (fun _ z => by cases z)⟩
                        · rw [upd_ne (fun e => by rw [e, k1] at q; cases q)]; exact R7.exf b o q
                        · by_cases e : b = D0
                          · rw [e, upd_same] at q; cases q; rw [e, upd_same]; exact .of rfl (fun _ z => by cases z)
                          · rw [upd_ne e] at q ⊢
                            exact R7.exg b o (by rw [upd_ne e]; exact q)
                        · by_cases e : b = D0
                          · rw [e]; exact k1
                          · rw [upd_ne e] at q
                            exact R7.dis b o (by rw [upd_ne e]; exact q)
                        · obtain ⟨b, z1, z2, z3, z4, z5⟩ := R7.own j e q
                          have nb : b ≠ D0 := fun z => k3 j e q (by rw [← z]; exact z1)
                          exact ⟨b, z1, z2, by rw [upd_ne nb] at z3 ⊢; exact z3, z4, hcon nb z5⟩
                        · obtain ⟨z1, z2, z3⟩ := R7.obj n d b q1 q2
                          have nb : b ≠ D0 := fun z => k2 (by rw [← z]; exact List.mem_of_getElem? q2)
                          exact ⟨z1, by rw [upd_ne nb] at z2 ⊢; exact z2, hcon nb z3⟩
                      exact R8.wipe o5
              | _ => exact h3.elim
    · have e9 : i = ds.length := by omega
      subst e9
      rw [List.drop_length] at h2
      unfold lcO at h2
      rw [if_pos chk] at h2
      refine .inl ⟨J1.stops H2 vu (l2.1.trans R2.exf) hus rus.len, ?_⟩
      obtain ⟨k1, k2, k3, k4⟩ := hfree R2
      have Rb : SR T X.K G w2 (backS vs st1 (wipeS vs st2)) σ H2 := R1.back l2 hn (R2.less (lg us) R1.tab)
      refine h2 w2 H2 (.ref D0) w2.le_refl Rb ⟨D0, rfl, k1, f2, k2, fun j e q1 q2 => ?_, us, k4, x2⟩
      by_cases hj : j ∈ vs
      · have hl : st1.sl.length = (wipeS vs st2).sl.length := by rw [R1.len, R2.len, (wipe_out vs σ).1]
        exact absurd (backS_in vs st1 _ j _ hl hj q1) (noOwn_at hn hj)
      · rw [backS_out vs st1 _ j hj] at q1
        exact k3 j e q1 (by rw [(wipe_out vs σ).2 j hj]; exact q2)
/-- [elt for tg in e if t] -/
theorem de_lcO (hc : X.calm = true) (hN : X.N.Nodup) (hi : DIo X T tg e fi) (ok : BlkOk X.N X.env.scope scope own) (hv : ∀ i ∈ vg, i ∈ own.map (·.2))
    (hg : ∀ (s : Shared) (H : Hp) (C : Addr) (cl : List (Str × Addr)) (fp : List Addr), DG (X.blk s H scope (compEnvC scope cl C X.env) fp) T tg vg g)
    (ht : ∀ (s : Shared) (H : Hp) (C : Addr) (cl : List (Str × Addr)) (fp : List Addr), PTs (X.blk s H scope (compEnvC scope cl C X.env) fp) ifs (tTF X.K T t))
    (he : ∀ (s : Shared) (H : Hp) (C : Addr) (cl : List (Str × Addr)) (fp : List Addr), DE (X.blk s H scope (compEnvC scope cl C X.env) fp) T elt f) (hs : ∀ x, foldedSetIterable e X.env x = pure x := by intro _; rfl) :
    DE X T (.ListComp elt [⟨tg, e, ifs, 0⟩] scope pos) (eLcO fi g t f (own.map (·.2))) :=
  PE.imp (pe_lc hc hN hi ok (g := tG X T vg g) hg ht (fun s H C cl fp => DE.toF (he s H C cl fp)) hs) fun σ H Q h => tLcO_of hv h
/-- y = [..] on one line, y a local -/
theorem ds_asgLcO {i : Nat} {y : Str} {py spos : Pos} (hc : X.calm = true) (hN : X.N.Nodup) (hy : X.N[i]? = some y) (hyl : X.env.scope.names.lookup y = some .local)
    (hsw : swapsWith (.ListComp elt [⟨tg, e, ifs, 0⟩] scope pos) (some (.Name y py)) spos.line X.env = pure true) (hi : DIo X T tg e fi) (ok : BlkOk X.N X.env.scope scope own) (hv : ∀ i ∈ vg, i ∈ own.map (·.2))
    (hg : ∀ (s : Shared) (H : Hp) (C : Addr) (cl : List (Str × Addr)) (fp : List Addr), DG (X.blk s H scope (compEnvC scope cl C X.env) fp) T tg vg g)
    (ht : ∀ (s : Shared) (H : Hp) (C : Addr) (cl : List (Str × Addr)) (fp : List Addr), PTs (X.blk s H scope (compEnvC scope cl C X.env) fp) ifs (tTF X.K T t))
    (he : ∀ (s : Shared) (H : Hp) (C : Addr) (cl : List (Str × Addr)) (fp : List Addr), DE (X.blk s H scope (compEnvC scope cl C X.env) fp) T elt f) (hs : ∀ x, foldedSetIterable e X.env x = pure x := by intro _; rfl) :
    DS X T (.Assign [.Name y py] (.ListComp elt [⟨tg, e, ifs, 0⟩] scope pos) spos) (sAsg i (eLcO fi g t f (own.map (·.2)))) :=
  PS.imp (ps_setLc hc hN hy hyl hsw hi ok (g := tG X T vg g) hg ht (fun s H C cl fp => DE.toF (he s H C cl fp)) hs) fun En σ H ⟨G, w, st, W, R, tk, h⟩ => tLcO_of hv ⟨G, w, st, W, R, tk, PostE.bindS h fun r1 st1 w1 H1 v1 l R1 x1 h1 => by
    cases q : store st1 i r1 with
    | none => rw [q] at h1; exact h1.elim
    | some st2 =>
      rw [q] at h1
      obtain ⟨w2, l2, R2⟩ := R1.store x1 q
      exact h1 w2 _ H1 l2 R2⟩

def obL (k : List D → List D) (st : S) : D → LOb
  | .ob n => match st.ob[n]? with
    | some (.lst ds) => .ok ds (k ds) n st
    | _ => .bad
  | _ => .bad
/-- for .. in enumerate(e), e a shared list -/
def iObE (g : S → LRes) : S → LOb := fun st => match g st with
  | .ok [d] st1 => obL (enumD 0) st1 d
  | .ok _ _ => .bad
  | .exc e s => .exc e s
  | .bad => .bad
theorem obL_ok {k : List D → List D} {d : D} {r : LOb} (h : obL k st d = r) (hb : r ≠ .bad) : ∃ n ds, d = .ob n ∧ st.ob[n]? = some (.lst ds) ∧ r = .ok ds (k ds) n st := by
  subst h
  unfold obL at hb ⊢
  split at hb
  · rename_i n
    split at hb
    · rename_i ds q
      refine ⟨n, ds, rfl, q, ?_⟩
      simp only [q]
    · exact absurd rfl hb
  · exact absurd rfl hb
theorem Rep.obA {n : Nat} {v : V} (r : RepW T K w v (.ob n)) : ∃ a, v = .ref a ∧ w.io[n]? = some a := by
  cases r with
  | ob h => exact ⟨_, rfl, h⟩
theorem di_enumO {es : List Expr} {kk : Nat} {tpos p : Pos} {gl : S → LRes} (hg : Gl X "enumerate") (hm : X.mg "enumerate" = none) (ha : DL X T [e] gl) (hs : starEach [e] X.env = [(false, eval e X.env)] := by rfl) : DIo X T (.Tuple es kk tpos) (.Call (.Name "enumerate" p) [e] [] pos) (iObE gl) :=
  PI.imp (pi_en hg hm ha hs) fun σ H R ⟨G, w, st, W, R0, tk, h⟩ => ⟨G, w, st, W, R0, tk, by
    unfold iObE at h
    cases q : gl st with
    | bad => rw [q] at h; exact h.elim
    | exc x s => rw [q] at h; exact h
    | ok ds st1 =>
      rw [q] at h
      intro w1 H1 vs l R1 x1
      match ds, x1 with
      | [d], .cons r .nil =>
        have h : PostO T X.K G w σ (obL (enumD 0) st1 d) R W := h
        cases e0 : obL (enumD 0) st1 d with
        | bad => rw [e0] at h; exact h.elim
        | exc x s => obtain ⟨_, _, _, _, z⟩ := obL_ok e0 (by simp); cases z
        | ok ds0 ds2 n st2 =>
          rw [e0] at h
          obtain ⟨n', ds', rfl, q2, z⟩ := obL_ok e0 (by simp)
          cases z
          obtain ⟨a, rfl, hio⟩ := Rep.obA r
          obtain ⟨us, hus, rus⟩ := R1.obL q2 hio
          exact ⟨.l a, us, rfl, hus, h w1 H1 _ a l R1 hio ItO.enum⟩
      | [], _ => exact h.elim
      | _ :: _ :: _, _ => exact h.elim⟩
/-- for .. in zip(x, e), e a shared list -/
def obZ (st : S) : D → D → LOb
  | d, .ob n => match srcD d, st.ob[n]? with
    | some ys, some (.lst ds) => .ok ds (zipD ys ds) n st
    | _, _ => .bad
  | _, _ => .bad
def iObZ (g : S → LRes) : S → LOb := fun st => match g st with
  | .ok [d, d'] st1 => obZ st1 d d'
  | .ok _ _ => .bad
  | .exc e s => .exc e s
  | .bad => .bad
theorem obZ_ok {d d' : D} {r : LOb} (h : obZ st d d' = r) (hb : r ≠ .bad) : ∃ n ys ds, d' = .ob n ∧ srcD d = some ys ∧ st.ob[n]? = some (.lst ds) ∧ r = .ok ds (zipD ys ds) n st := by
  subst h
  unfold obZ at hb ⊢
  split at hb
  · rename_i n
    split at hb
    · rename_i ys ds q1 q2
      refine ⟨n, ys, ds, rfl, q1, q2, ?_⟩
      simp only [q1, q2]
    · exact absurd rfl hb
  · exact absurd rfl hb
theorem di_zipO {es : List Expr} {kk : Nat} {tpos p : Pos} {x : Expr} {gl : S → LRes} (hg : Gl X "zip") (hm : X.mg "zip" = none) (ha : DL X T [x, e] gl) (hs : starEach [x, e] X.env = (false, eval x X.env) :: starEach [e] X.env := by rfl) (hpl : (backTo pos (starEach [e] X.env)).any (·.1) = false := by rfl) :
    DIo X T (.Tuple es kk tpos) (.Call (.Name "zip" p) [x, e] [] pos) (iObZ gl) :=
  PI.imp (pi_zi hg hm ha hs hpl) fun σ H R ⟨G, w, st, W, R0, tk, h⟩ => ⟨G, w, st, W, R0, tk, by
    unfold iObZ at h
    cases q : gl st with
    | bad => rw [q] at h; exact h.elim
    | exc x s => rw [q] at h; exact h
    | ok ds st1 =>
      rw [q] at h
      intro w1 H1 vs l R1 x1
      match ds, x1 with
      | [d, d'], .cons r (.cons r' .nil) =>
        have h : PostO T X.K G w σ (obZ st1 d d') R W := h
        cases e0 : obZ st1 d d' with
        | bad => rw [e0] at h; exact h.elim
        | exc x s => obtain ⟨_, _, _, _, _, _, z⟩ := obZ_ok e0 (by simp); cases z
        | ok ds0 ds2 n st2 =>
          rw [e0] at h
          obtain ⟨n', ys, ds', rfl, q1, q2, z⟩ := obZ_ok e0 (by simp)
          cases z
          obtain ⟨sc, us, rfl, hh, rr⟩ := Rep.src r q1
          obtain ⟨a, rfl, hio⟩ := Rep.obA r'
          obtain ⟨us', hus, rus⟩ := R1.obL q2 hio
          exact ⟨sc, .l a, us, us', rfl, hh _ R1.exf, hus, h w1 H1 _ a l R1 hio (ItO.zipR hh rr)⟩
      | [], _ => exact h.elim
      | [_], _ => exact h.elim
      | _ :: _ :: _ :: _, _ => exact h.elim⟩
end

section
variable {g : D → S → Option S} {t f : S → Res} {vs : List Nat} {n : Nat} {ds0 : List D} {sl : List Sl} {ob : List D} {st : S} {b : S → SRes} {it : S → LOb}
def kObE : LRes → LOb
  | .ok [d] st1 => obL (enumD 0) st1 d
  | .ok _ _ => .bad
  | .exc e s => .exc e s
  | .bad => .bad
@[simp] theorem kObE_ok {d : D} : kObE (.ok [d] st) = obL (enumD 0) st d := id rfl
@[simp] theorem iObE_run {gl : S → LRes} : iObE gl ⟨sl, ob⟩ = kObE (gl ⟨sl, ob⟩) := by
  unfold iObE kObE
  rfl
def kObL (k : List D → List D) (st : S) (n : Nat) : Option D → LOb
  | some (.lst ds) => .ok ds (k ds) n st
  | _ => .bad
@[simp] theorem kObL_some {k : List D → List D} {ds : List D} : kObL k st n (some (.lst ds)) = .ok ds (k ds) n st := id rfl
@[simp] theorem obL_run {k : List D → List D} : obL k ⟨sl, ob⟩ (.ob n) = kObL k ⟨sl, ob⟩ n ob[n]? := by
  unfold obL kObL
  rfl
def kObZ : LRes → LOb
  | .ok [d, d'] st1 => obZ st1 d d'
  | .ok _ _ => .bad
  | .exc e s => .exc e s
  | .bad => .bad
@[simp] theorem kObZ_ok {d d' : D} : kObZ (.ok [d, d'] st) = obZ st d d' := id rfl
@[simp] theorem iObZ_run {gl : S → LRes} : iObZ gl ⟨sl, ob⟩ = kObZ (gl ⟨sl, ob⟩) := by
  unfold iObZ kObZ
  rfl
def kObZ2 (ys : List D) (n : Nat) (st : S) : Option D → LOb
  | some (.lst ds) => .ok ds (zipD ys ds) n st
  | _ => .bad
@[simp] theorem kObZ2_some {ys ds : List D} : kObZ2 ys n st (some (.lst ds)) = .ok ds (zipD ys ds) n st := id rfl
@[simp] theorem obZ_tup {ys : List D} : obZ ⟨sl, ob⟩ (.tup ys) (.ob n) = kObZ2 ys n ⟨sl, ob⟩ ob[n]? := by
  unfold obZ kObZ2
  dsimp only [srcD]
  cases ob[n]? with
  | none => rfl
  | some d => cases d <;> rfl
@[simp] theorem obZ_lst {ys : List D} : obZ ⟨sl, ob⟩ (.lst ys) (.ob n) = kObZ2 ys n ⟨sl, ob⟩ ob[n]? := by
  unfold obZ kObZ2
  dsimp only [srcD]
  cases ob[n]? with
  | none => rfl
  | some d => cases d <;> rfl
noncomputable def kLcO (g : D → S → Option S) (t f : S → Res) (vs : List Nat) : LOb → Res
  | .ok ds0 ds n st1 => if noOwn vs st1 = true then kLcE vs st1 (lcO n ds0 g t f vs ds [] (wipeS vs st1)) else .bad
  | .exc e s => .exc e s
  | .bad => .bad
@[simp] theorem kLcO_ok {ds : List D} : kLcO g t f vs (.ok ds0 ds n st) = if noOwn vs st = true then kLcE vs st (lcO n ds0 g t f vs ds [] (wipeS vs st)) else .bad := id rfl
@[simp] theorem eLcO_run : eLcO it g t f vs ⟨sl, ob⟩ = kLcO g t f vs (it ⟨sl, ob⟩) := by
  unfold eLcO kLcO kLcE
  cases it ⟨sl, ob⟩ with
  | ok ds0 ds n st =>
    first
    | rfl
    | (dsimp only
       split
       · cases lcO n ds0 g t f vs ds [] (wipeS vs st) <;> rfl
       · rfl)
  | _ => rfl
theorem lcO_ind (I : List D → List D → S → Prop) (chk : ∀ ds acc st, I ds acc st → st.ob[n]? = some (.lst ds0)) (step : ∀ d ds acc st, I (d :: ds) acc st → ∃ st1 st2, g d (wipeS vs st) = some st1 ∧ ((t st1 = .ok (.val (.bl false)) st2 ∧ I ds acc (wipeS vs st2)) ∨
    ∃ r st3 x st4, t st1 = .ok (.val (.bl true)) st2 ∧ f st2 = .ok r st3 ∧ give st3 r = some (x, st4) ∧ acc.length < sizeLine ∧ I ds (acc ++ [x]) (wipeS vs st4))) :
    ∀ (ds acc : List D) (st : S), I ds acc st → ∃ xs st', lcO n ds0 g t f vs ds acc st = .ok xs st' ∧ I [] xs st'
  | [], acc, st, h => ⟨acc, st, by unfold lcO; rw [if_pos (chk _ _ _ h)], h⟩
  | d :: ds, acc, st, h => by
    have ck := chk _ _ _ h
    obtain ⟨st1, st2, e1, h⟩ := step d ds acc st h
    unfold lcO
    rw [if_pos ck, e1]
    dsimp only
    rcases h with ⟨e2, h⟩ | ⟨r, st3, x, st4, e2, e3, e4, e5, h⟩
    · rw [e2]
      exact lcO_ind I chk step ds acc _ h
    · rw [e2]
      dsimp only
      rw [e3]
      dsimp only
      rw [e4]
      dsimp only
      rw [if_pos e5]
      exact lcO_ind I chk step ds _ _ h
end
section
variable {X : Cx} {T : Tx} {e : Expr} {f : S → Res} {pos : Pos}
def kAsgO2 (i : Nat) : Option (D × S) → SRes
  | some (d, st) => .nx (st.set i (.frz d))
  | none => .bad
def kAsgO (i : Nat) : Rv → S → SRes := fun r st => kAsgO2 i (giveO st r)
def sAsgO (i : Nat) (f : S → Res) : S → SRes := fun st => (f st).bindS (kAsgO i)
theorem ds_asgO {i : Nat} {x : Str} {pos' : Pos} (hN : X.N.Nodup) (hi : X.N[i]? = some x) (he : DE X T e f) (hx : Loc X.env.scope x := by first | exact Or.inl rfl | exact Or.inr rfl)
    (hs : swapsWith e (some (.Name x pos')) pos.line X.env = pure false := by rfl) (hf : X.fn x = true ∨ X.env.scope.names.lookup x = some .local := by first | exact .inl rfl | exact .inr rfl | assumption) : DS X T (.Assign [.Name x pos'] e pos) (sAsgO i f) :=
  PS.imp (ps_set hN hi hx he hs hf) fun En σ H ⟨G, w, st, W, R, tk, h⟩ => ⟨G, w, st, W, R, tk, PostE.bindS h fun r1 st1 w1 H1 v1 l R1 x1 h1 => by
    unfold kAsgO kAsgO2 at h1
    cases q : giveO st1 r1 with
    | none => rw [q] at h1; exact h1.elim
    | some p =>
      obtain ⟨d, st2⟩ := p
      rw [q] at h1
      obtain ⟨w2, l2, R2, x2⟩ := R1.giveO x1 q
      exact h1 w2 _ H1 l2 (R2.setF x2)⟩
@[simp] theorem kAsgO_run (i : Nat) {r : Rv} {sl : List Sl} {ob : List D} : kAsgO i r ⟨sl, ob⟩ = kAsgO2 i (giveO ⟨sl, ob⟩ r) := id rfl
@[simp] theorem kAsgO2_some (i : Nat) {d : D} {sl : List Sl} {ob : List D} : kAsgO2 i (some (d, ⟨sl, ob⟩)) = .nx ⟨sl.set i (.frz d), ob⟩ := id rfl
@[simp] theorem sAsgO_run (i : Nat) {sl : List Sl} {ob : List D} : sAsgO i f ⟨sl, ob⟩ = (f ⟨sl, ob⟩).bindS (kAsgO i) := id rfl
end
theorem kIL_rg3n {i j : Int} {st : S} (h : -(2 ^ 61) ≤ i) (k : i < 2 ^ 61) (h' : -(2 ^ 61) ≤ j) (k' : j < 2 ^ 61) : kIL rg3 [.int i, .int j, .int (-1)] st = .ok (rngD i (-1) (i - j).toNat) st := by
  refine kIL_ok ?_
  unfold rg3
  dsimp only
  rw [if_pos rfl, small_ok (by omega) (by omega), small_ok (by omega) (by omega)]
  rfl
end Bv

namespace Bv
open PySem PySem.Spec PyProof.Rows L2

section
variable {T : Tx} {K : PySem.W.Frag} {io io' : List Addr} {H0 H : Hp}
mutual
theorem Rep.less (o : Ob io io') : ∀ {v0 : V} {d : D}, Rep T K io H0 v0 d → ∀ {v : V}, Rep T K io' H v d → Rep T K io H v d
  | _, _, .non, _, .non => .non
  | _, _, .bl b, _, .bl _ => .bl b
  | _, _, .int i, _, .int _ => .int i
  | _, _, .str x, _, .str _ => .str x
  | _, _, .tup _ r, _, .tup h q => .tup h (RepL.less o r q)
  | _, _, .lst _ r, _, .lst h q => .lst h (RepL.less o r q)
  | _, _, .rol _ r, _, .rol h q => .rol h (RepL.less o r q)
  | _, _, .dicK _ r, _, .dicK h q => .dicK h (RepK.less o r q)
  | _, _, .dicT _ r, _, .dicT h q => .dicT h (RepT.less o r q)
  | _, _, .dicN _ _ r, _, .dicN hw h q => .dicN hw h (RepN.less o r q)
  | _, _, .ins _ _ r, _, .ins c h q => .ins c h (RepF.less o r q)
  | _, _, .exv _ _ _ r, _, .exv c h x q => .exv c h x (RepF.less o r q)
  | _, _, .ob (n := n) h0, _, .ob h => .ob (by rw [o n _ h0] at h; rw [h0]; exact h)
  | _, _, .cl _, _, .cl h => .cl h
theorem RepL.less (o : Ob io io') : ∀ {v0 : List V} {d : List D}, RepL T K io H0 v0 d → ∀ {v : List V}, RepL T K io' H v d → RepL T K io H v d
  | _, _, .nil, _, .nil => .nil
  | _, _, .cons a r, _, .cons b q => .cons (Rep.less o a b) (RepL.less o r q)
theorem RepK.less (o : Ob io io') : ∀ {v0 : List (Key × V)} {d : List (D × D)}, RepK T K io H0 v0 d → ∀ {v : List (Key × V)}, RepK T K io' H v d → RepK T K io H v d
  | _, _, .nil, _, q => by cases q; exact .nil
  | _, _, .cons (k := k) a r, v, q => by
    generalize hz : kD k = z at q
    cases q with
    | cons b q => exact hz ▸ (hz ▸ RepK.cons (Rep.less o a b) (RepK.less o r q))
theorem RepT.less (o : Ob io io') : ∀ {v0 : List (List Key × V)} {d : List (D × D)}, RepT T K io H0 v0 d → ∀ {v : List (List Key × V)}, RepT T K io' H v d → RepT T K io H v d
  | _, _, .nil, _, q => by cases q; exact .nil
  | _, _, .cons (k := k) a r, v, q => by
    generalize hz : tD k = z at q
    cases q with
    | cons b q => exact hz ▸ (hz ▸ RepT.cons (Rep.less o a b) (RepT.less o r q))
theorem RepN.less (o : Ob io io') : ∀ {v0 : List NE} {d : List (D × D)}, RepN T K io H0 v0 d → ∀ {v : List NE}, RepN T K io' H v d → RepN T K io H v d
  | _, _, .nil, _, .nil => .nil
  | _, _, .cons a _ _ d _ r, _, .cons a' b' c' d' f' r' => .cons (Rep.less o a a') b' c' (Rep.less o d d') f' (RepN.less o r r')
theorem RepF.less (o : Ob io io') : ∀ {v0 : List (Str × V)} {d : List (Str × D)}, RepF T K io H0 v0 d → ∀ {v : List (Str × V)}, RepF T K io' H v d → RepF T K io H v d
  | _, _, .nil, _, .nil => .nil
  | _, _, .cons a r, _, .cons b q => .cons (Rep.less o a b) (RepF.less o r q)
end
end

mutual
def pureD : D → Bool
  | .tup xs => pureL xs
  | .lst xs => pureL xs
  | .rol xs => pureL xs
  | .non => true
  | .bl _ => true
  | .int _ => true
  | .str _ => true
  | .cl _ => true
  | _ => false
def pureL : List D → Bool
  | [] => true
  | x :: xs => pureD x && pureL xs
end
section
variable {T : Tx} {K : PySem.W.Frag} {io io' : List Addr} {H : Hp}
mutual
theorem Rep.pure : ∀ {v : V} {d : D}, pureD d = true → Rep T K io' H v d → Rep T K io H v d
  | _, _, _, .non => .non
  | _, _, _, .bl b => .bl b
  | _, _, _, .int i => .int i
  | _, _, _, .str x => .str x
  | _, _, p, .tup h q => .tup h (RepL.pure (by simpa [pureD] using p) q)
  | _, _, p, .lst h q => .lst h (RepL.pure (by simpa [pureD] using p) q)
  | _, _, p, .rol h q => .rol h (RepL.pure (by simpa [pureD] using p) q)
  | _, _, p, .dicK h q => by simp [pureD] at p
  | _, _, p, .dicT h q => by simp [pureD] at p
  | _, _, p, .ins c h q => by simp [pureD] at p
  | _, _, p, .exv c h x q => by simp [pureD] at p
  | _, _, p, .ob h => by simp [pureD] at p
  | _, _, _, .cl h => .cl h
theorem RepL.pure : ∀ {v : List V} {d : List D}, pureL d = true → RepL T K io' H v d → RepL T K io H v d
  | _, _, _, .nil => .nil
  | _, _, p, .cons a r => by
    simp only [pureL, Bool.and_eq_true] at p
    exact .cons (Rep.pure p.1 a) (RepL.pure p.2 r)
end
end
@[simp] theorem pureL_nil : pureL [] = true := id rfl
@[simp] theorem pureL_cons (x : D) (xs : List D) : pureL (x :: xs) = (pureD x && pureL xs) := id rfl
@[simp] theorem pureD_tup (xs : List D) : pureD (.tup xs) = pureL xs := id rfl
@[simp] theorem pureD_lst (xs : List D) : pureD (.lst xs) = pureL xs := id rfl
@[simp] theorem pureD_int (x : Int) : pureD (.int x) = true := id rfl
@[simp] theorem pureD_bl (x : Bool) : pureD (.bl x) = true := id rfl
@[simp] theorem pureD_str (x : Str) : pureD (.str x) = true := id rfl
@[simp] theorem pureD_non : pureD .non = true := id rfl
theorem pureL_all {xs : List D} : pureL xs = true ↔ ∀ x ∈ xs, pureD x = true := by
  induction xs with
  | nil => simp
  | cons x xs ih => simp [ih]
@[simp] theorem pureL_ints (xs : List Int) : pureL (xs.map .int) = true := pureL_all.mpr fun d m => by
  obtain ⟨x, _, rfl⟩ := List.mem_map.mp m; rfl
@[simp] theorem pureL_bls (xs : List Bool) : pureL (xs.map .bl) = true := pureL_all.mpr fun d m => by
  obtain ⟨x, _, rfl⟩ := List.mem_map.mp m; rfl
@[simp] theorem pureL_app (xs ys : List D) : pureL (xs ++ ys) = (pureL xs && pureL ys) := by
  induction xs with
  | nil => simp
  | cons x xs ih => simp [ih, Bool.and_assoc]
@[simp] theorem pureL_rev (xs : List D) : pureL xs.reverse = pureL xs := by
  induction xs with
  | nil => rfl
  | cons x xs ih => simp [ih, Bool.and_comm]
def pureF (fs : List (Str × D)) : Bool := fs.all fun p => pureD p.2
theorem RepF.pure {T : Tx} {K : PySem.W.Frag} {io io' : List Addr} {H : Hp} : ∀ {v : List (Str × V)} {d : List (Str × D)}, pureF d = true → RepF T K io' H v d → RepF T K io H v d
  | _, _, _, .nil => .nil
  | _, _, p, .cons a r => by
    simp only [pureF, List.all_cons, Bool.and_eq_true] at p
    exact .cons (Rep.pure p.1 a) (RepF.pure p.2 r)
def pureR : Rv → Bool
  | .val d => pureD d
  | .fresh (.lst xs) => pureL xs
  | _ => false
@[simp] theorem pureR_val (d : D) : pureR (.val d) = pureD d := id rfl
@[simp] theorem pureR_fresh (xs : List D) : pureR (.fresh (.lst xs)) = pureL xs := id rfl
open Classical in
/-- the objects made within are forgotten -/
noncomputable def gcF (φ : List D → List D → FR) : List D → List D → FR := fun ds ob => match φ ds ob with
  | .ok r ob' => if ob'.take ob.length = ob ∧ pureR r = true then .ok r ob else .ok r ob'
  | .exc e ob' => if ob'.take ob.length = ob ∧ pureF e.fs = true then .exc e ob else .exc e ob'
  | .bad => .bad
theorem gcF_ok {φ : List D → List D → FR} {ds ob X : List D} {r : Rv} (h : φ ds ob = .ok r (ob ++ X)) (hr : pureR r = true) : gcF φ ds ob = .ok r ob := by
  unfold gcF
  rw [h]
  dsimp only
  rw [if_pos ⟨by simp, hr⟩]
section
variable {T : Tx} {K : PySem.W.Frag} {G : Hp} {w w' : Wd} {st : S} {σ : L2.St} {H H' : Hp} {v : V} {ds ob ob' : List D}
theorem SR.gc (R : SR T K G w ⟨[], ob⟩ [] H) (l : w.le w') (R' : SR T K G w' ⟨[], ob'⟩ [] H') (e : ob'.take ob.length = ob) : w.le ⟨w'.Hf, w.io⟩ ∧ SR T K G ⟨w'.Hf, w.io⟩ ⟨[], ob⟩ [] H' := by
  refine ⟨⟨l.1, Ob.refl _⟩, ⟨R.bas.1.trans l.1, R.bas.2⟩, R'.exf, R'.exg, R'.dis, rfl, fun i d h => by simp at h, fun i d h => by simp at h, fun i j d e a h => by simp at h, R.olen, R.ond, fun n d a h1 h2 => ?_, fun i h => by simp at h, R'.tab⟩
  have h1' : ob'[n]? = some d := by
    have hn : n < ob.length := (List.getElem?_eq_some_iff.mp h1).1
    have : (ob'.take ob.length)[n]? = some d := by rw [e]; exact h1
    rw [List.getElem?_take] at this
    rw [if_pos hn] at this
    exact this
  obtain ⟨k1, k2, k3⟩ := R'.obj n d a h1' (l.2 _ _ h2)
  obtain ⟨_, _, c0⟩ := R.obj n d a h1 h2
  refine ⟨k1, k2, ?_⟩
  cases d with
  | lst xs =>
    obtain ⟨us, q1, q2⟩ := k3
    obtain ⟨_, _, p2⟩ := c0
    exact ⟨us, q1, RepL.less l.2 p2 q2⟩
  | dic xs =>
    obtain ⟨us, q1, q2⟩ := k3
    obtain ⟨_, _, p2⟩ := c0
    exact ⟨us, q1, RepK.less l.2 p2 q2⟩
  | dit xs =>
    obtain ⟨us, q1, q2⟩ := k3
    obtain ⟨_, _, p2⟩ := c0
    exact ⟨us, q1, RepT.less l.2 p2 q2⟩
  | dmx xs =>
    obtain ⟨W, us, hw, q1, q2⟩ := k3
    obtain ⟨_, _, _, _, p2⟩ := c0
    exact ⟨W, us, hw, q1, RepN.less l.2 p2 q2⟩
  | ins c xs =>
    obtain ⟨C, dx, us, q0, q1, q2⟩ := k3
    obtain ⟨_, _, _, _, _, p2⟩ := c0
    exact ⟨C, dx, us, q0, q1, RepF.less l.2 p2 q2⟩
  | _ => exact k3.elim
theorem gc_sp {n : Nat} {φ : List D → List D → FR} {vs : List V} {Q : VK} {E : XK} (h : spB T K n (gcF φ) vs H Q E) : spB T K n φ vs H Q E := by
  obtain ⟨hl, G, w, ob, ds, R, x, h⟩ := h
  refine ⟨hl, G, w, ob, ds, R, x, ?_⟩
  unfold gcF at h
  cases q : φ ds ob with
  | bad => rw [q] at h; exact h
  | exc e ob' =>
    rw [q] at h
    dsimp only at h
    by_cases c : ob'.take ob.length = ob ∧ pureF e.fs = true
    · rw [if_pos c] at h
      intro w' H' cls dx l R' xr
      obtain ⟨l2, R2⟩ := R.gc l R' c.1
      refine h _ H' cls dx l2 R2 ⟨xr.1, ?_⟩
      rcases xr.2 with z | ⟨d, fs, z1, z2, z3⟩
      · exact .inl z
      · exact .inr ⟨d, fs, z1, z2, RepF.pure c.2 z3⟩
    · rw [if_neg c] at h; exact h
  | ok r ob' =>
    rw [q] at h
    dsimp only at h
    by_cases c : ob'.take ob.length = ob ∧ pureR r = true
    · rw [if_pos c] at h
      intro w' H' v l R' xr
      obtain ⟨l2, R2⟩ := R.gc l R' c.1
      refine h _ H' v l2 R2 ?_
      cases r with
      | val d => exact Rep.pure c.2 xr
      | bor i => simp [pureR] at c
      | fresh d =>
        obtain ⟨a, rfl, h1, h2, h3, h4, h5⟩ := xr
        refine ⟨a, rfl, h1, h2, fun m => h3 ?_, fun i e q => by simp at q, ?_⟩
        · obtain ⟨n, hn⟩ := List.mem_iff_getElem?.mp m
          exact List.mem_of_getElem? (l.2 n a hn)
        · cases d with
          | lst xs =>
            obtain ⟨us, q1, q2⟩ := h5
            exact ⟨us, q1, RepL.pure (by simpa using c.2) q2⟩
          | _ => simp [pureR] at c
    · rw [if_neg c] at h; exact h
end
theorem FnG.gc {P : Program} {w : World} {K : PySem.W.Frag} {mg : Str → Option Value} {base : Heap} {T : Tx} {k n : Nat} {f : Addr} {fd : FuncData} {ps : List Str} {φ : List D → List D → FR} (F : FnG P w K mg base k f fd ps (spB T K n φ)) : FnG P w K mg base k f fd ps (spB T K n (gcF φ)) :=
  ⟨fun vs H Q E h => F.len vs H Q E (gc_sp h), fun A o s H args us vs Q E hr hg e0 hb r h => F.run A o s H args us vs Q E hr hg e0 hb r (gc_sp h)⟩
end Bv

namespace Bv
open PySem PySem.Spec PyProof.Rows L2

structure Post where
  n : S → Prop
  c : S → Prop
  b : S → Prop
  r : Rv → S → Prop
  x : Exn → S → Prop
def SRes.wp (z : SRes) (E : Post) : Prop := match z with
  | .nx s => E.n s
  | .ct s => E.c s
  | .bk s => E.b s
  | .rt r s => E.r r s
  | .ex e s => E.x e s
  | .bad => False
def Res.wp (z : Res) (P : Rv → S → Prop) (X : Exn → S → Prop) : Prop := match z with
  | .ok r s => P r s
  | .exc e s => X e s
  | .bad => False
def LRes.wp (z : LRes) (P : List D → S → Prop) (X : Exn → S → Prop) : Prop := match z with
  | .ok r s => P r s
  | .exc e s => X e s
  | .bad => False
def FRes.wp (z : FRes) (P : List Rv → S → Prop) (X : Exn → S → Prop) : Prop := match z with
  | .ok r s => P r s
  | .exc e s => X e s
  | .bad => False
def FR.wp (z : FR) (P : Rv → List D → Prop) (X : Exn → List D → Prop) : Prop := match z with
  | .ok r s => P r s
  | .exc e s => X e s
  | .bad => False
abbrev noX : Exn → List D → Prop := fun _ _ => False
theorem FR.wp_of {z : FR} {r : Rv} {ob : List D} {P : Rv → List D → Prop} {X : Exn → List D → Prop} (e : z = .ok r ob) (h : P r ob) : z.wp P X := by rw [e]; exact h
theorem FR.of_wp {z : FR} {P : Rv → List D → Prop} (h : z.wp P noX) : ∃ r ob, z = .ok r ob ∧ P r ob := by
  cases z with
  | ok r ob => exact ⟨r, ob, rfl, h⟩
  | exc e ob => exact h.elim
  | bad => exact h.elim
theorem FR.eq_of {z : FR} {r : Rv} {ob : List D} (h : z.wp (fun r' ob' => r' = r ∧ ob' = ob) noX) : z = .ok r ob := by
  obtain ⟨_, _, e, rfl, rfl⟩ := FR.of_wp h
  exact e
section
variable {a b c f fo fi fv : S → Res} {p q bd : S → SRes} {sl : List Sl} {ob : List D} {st st' : S} {r : Rv} {d d' : D} {i n : Nat} {e : Exn} {E : Post} {P : Rv → S → Prop} {X : Exn → S → Prop} {PL : List D → S → Prop} {PF : List Rv → S → Prop} {PR : Rv → List D → Prop} {XR : Exn → List D → Prop}
@[simp] theorem wpS_nx : (SRes.nx st).wp E = E.n st := id rfl
@[simp] theorem wpS_ct : (SRes.ct st).wp E = E.c st := id rfl
@[simp] theorem wpS_bk : (SRes.bk st).wp E = E.b st := id rfl
@[simp] theorem wpS_rt : (SRes.rt r st).wp E = E.r r st := id rfl
@[simp] theorem wpS_ex : (SRes.ex e st).wp E = E.x e st := id rfl
@[simp] theorem wpE_ok : (Res.ok r st).wp P X = P r st := id rfl
@[simp] theorem wpE_exc : (Res.exc e st).wp P X = X e st := id rfl
@[simp] theorem wpL_ok {ds : List D} : (LRes.ok ds st).wp PL X = PL ds st := id rfl
@[simp] theorem wpL_exc : (LRes.exc e st).wp PL X = X e st := id rfl
@[simp] theorem wpFl_ok {ds : List Rv} : (FRes.ok ds st).wp PF X = PF ds st := id rfl
@[simp] theorem wpFl_exc : (FRes.exc e st).wp PF X = X e st := id rfl
@[simp] theorem wpF_ok : (FR.ok r ob).wp PR XR = PR r ob := id rfl
@[simp] theorem wpF_exc : (FR.exc e ob).wp PR XR = XR e ob := id rfl
@[simp] theorem wpS_bind (z : SRes) (k : S → SRes) : (z.bind k).wp E = z.wp ⟨fun s => (k s).wp E, E.c, E.b, E.r, E.x⟩ := by cases z <;> rfl
@[simp] theorem wpE_bind (z : Res) (k : Rv → S → Res) : (z.bind k).wp P X = z.wp (fun r s => (k r s).wp P X) X := by cases z <;> rfl
@[simp] theorem wpE_bindS (z : Res) (k : Rv → S → SRes) : (z.bindS k).wp E = z.wp (fun r s => (k r s).wp E) E.x := by cases z <;> rfl
@[simp] theorem wpE_bindL (z : Res) (k : Rv → S → LRes) : (z.bindL k).wp PL X = z.wp (fun r s => (k r s).wp PL X) X := by cases z <;> rfl
@[simp] theorem wpE_bindF (z : Res) (k : Rv → S → FRes) : (z.bindF k).wp PF X = z.wp (fun r s => (k r s).wp PF X) X := by cases z <;> rfl
@[simp] theorem wpL_bind (z : LRes) (k : List D → S → LRes) : (z.bind k).wp PL X = z.wp (fun r s => (k r s).wp PL X) X := by cases z <;> rfl
@[simp] theorem wpL_bindE (z : LRes) (k : List D → S → Res) : (z.bindE k).wp P X = z.wp (fun r s => (k r s).wp P X) X := by cases z <;> rfl
@[simp] theorem wpFl_bind (z : FRes) (k : List Rv → S → FRes) : (z.bind k).wp PF X = z.wp (fun r s => (k r s).wp PF X) X := by cases z <;> rfl
@[simp] theorem wpFl_bindS (z : FRes) (k : List Rv → S → SRes) : (z.bindS k).wp E = z.wp (fun r s => (k r s).wp E) E.x := by cases z <;> rfl
/-- a call's answer is a value or new -/
def notBor : Rv → Bool
  | .bor _ => false
  | _ => true
@[simp] theorem notBor_val : notBor (.val d) = true := id rfl
@[simp] theorem notBor_fresh : notBor (.fresh d) = true := id rfl
@[simp] theorem wpE_call2 (z : FR) : (kCall2 sl z).wp P X = z.wp (fun r o => notBor r = true ∧ P r ⟨sl, o⟩) (fun e o => X e ⟨sl, o⟩) := by
  cases z with
  | ok r o => cases r <;> simp [kCall2, notBor, Res.wp, FR.wp]
  | _ => rfl
@[simp] theorem wpF_fnE (z : SRes) : (fnE z).wp PR XR = z.wp ⟨fun s => PR (.val .non) s.ob, fun _ => False, fun _ => False, fun r s => (fnE2 s.ob (rtv s r)).wp PR XR, fun e s => XR e s.ob⟩ := by
  cases z <;> rfl
variable {g : D → S → Option S} {t : S → Res} {vs : List Nat}
def turnO (b : S → SRes) (o : Option S) : SRes := match o with
  | some st => b st
  | none => .bad
@[simp] theorem turnO_some (b : S → SRes) : turnO b (some st) = b st := id rfl
def turn (g : D → S → Option S) (b : S → SRes) (d : D) (st : S) : SRes := turnO b (g d st)
@[simp] theorem turn_run (g : D → S → Option S) (b : S → SRes) : turn g b d ⟨sl, ob⟩ = turnO b (g d ⟨sl, ob⟩) := id rfl
theorem for_wp {ds : List D} (I : Nat → S → Prop) (h0 : I 0 st) (step : ∀ k d s, ds[k]? = some d → I k s → (turn g bd d s).wp ⟨I (k + 1), I (k + 1), E.n, E.r, E.x⟩) (h1 : ∀ s, I ds.length s → E.n s) : (forD g bd ds st).wp E := by
  suffices H : ∀ (rest : List D) (k : Nat) (s : S), ds.drop k = rest → k + rest.length = ds.length → I k s → (forD g bd rest s).wp E from H ds 0 st rfl (by simp) h0
  intro rest
  induction rest with
  | nil =>
    intro k s _ hk hI
    exact h1 s (by rw [← hk]; exact hI)
  | cons d rest ih =>
    intro k s hd hk hI
    have hg : ds[k]? = some d := by
      have := congrArg List.head? hd
      rw [List.head?_drop] at this
      exact this
    have hd' : ds.drop (k + 1) = rest := by rw [← List.tail_drop, hd]; rfl
    have hs := step k d s hg hI
    unfold forD
    unfold turn turnO at hs
    cases q : g d s with
    | none => rw [q] at hs; exact hs.elim
    | some s1 =>
      rw [q] at hs
      dsimp only at hs ⊢
      cases q2 : bd s1 with
      | bad => rw [q2] at hs; exact hs.elim
      | nx s2 => rw [q2] at hs; exact ih (k + 1) s2 hd' (by simp at hk; omega) hs
      | ct s2 => rw [q2] at hs; exact ih (k + 1) s2 hd' (by simp at hk; omega) hs
      | bk s2 => rw [q2] at hs; exact hs
      | rt r s2 => rw [q2] at hs; exact hs
      | ex e s2 => rw [q2] at hs; exact hs
theorem rng_wp {lo c : Int} {m : Nat} (I : Nat → S → Prop) (h0 : I 0 st) (step : ∀ (k : Nat) (s : S), k < m → I k s → (turn g bd (.int (lo + (k : Nat) * c)) s).wp ⟨I (k + 1), I (k + 1), E.n, E.r, E.x⟩) (h1 : ∀ s, I m s → E.n s) : (forD g bd (rngD lo c m) st).wp E := by
  refine for_wp I h0 (fun k d s hd hI => ?_) fun s hI => h1 s ?_
  · unfold rngD at hd
    rw [List.getElem?_map] at hd
    by_cases hk : k < m
    · rw [List.getElem?_range hk] at hd
      cases hd
      exact step k s hk hI
    · rw [List.getElem?_eq_none (by simpa using hk)] at hd; cases hd
  · unfold rngD at hI
    simpa using hI
def Res.tst (z : Res) (yes no : S → Prop) (X : Exn → S → Prop) : Prop := match z with
  | .ok (.val (.bl true)) s => yes s
  | .ok (.val (.bl false)) s => no s
  | .exc e s => X e s
  | _ => False
@[simp] theorem tst_ok {k : Bool} {yes no : S → Prop} : (Res.ok (.val (.bl k)) st).tst yes no X = ((k = true → yes st) ∧ (k = false → no st)) := by cases k <;> simp [Res.tst]
def lcO1 (t f : S → Res) (vs : List Nat) (o : Option S) (Sk : S → Prop) (Out : D → S → Prop) : Prop := match o with
  | none => False
  | some st1 => (t st1).tst (fun st2 => (f st2).wp (fun r st3 => match give st3 r with
    | some (x, st4) => Out x (wipeS vs st4)
    | none => False) (fun _ _ => False)) (fun st2 => Sk (wipeS vs st2)) (fun _ _ => False)
@[simp] theorem lcO1_some {Sk : S → Prop} {Out : D → S → Prop} : lcO1 t f vs (some st) Sk Out = (t st).tst (fun st2 => (f st2).wp (fun r st3 => match give st3 r with
    | some (x, st4) => Out x (wipeS vs st4)
    | none => False) (fun _ _ => False)) (fun st2 => Sk (wipeS vs st2)) (fun _ _ => False) := id rfl
def lcT (g : D → S → Option S) (t f : S → Res) (vs : List Nat) (d : D) (st : S) (Sk : S → Prop) (Out : D → S → Prop) : Prop := lcO1 t f vs (g d (wipeS vs st)) Sk Out
@[simp] theorem lcT_run {Sk : S → Prop} {Out : D → S → Prop} : lcT g t f vs d ⟨sl, ob⟩ Sk Out = lcO1 t f vs (g d (wipeS vs ⟨sl, ob⟩)) Sk Out := id rfl
theorem lcT_cases {Sk : S → Prop} {Out : D → S → Prop} (h : lcT g t f vs d st Sk Out) : ∃ st1 st2, g d (wipeS vs st) = some st1 ∧ ((t st1 = .ok (.val (.bl false)) st2 ∧ Sk (wipeS vs st2)) ∨ ∃ r st3 x st4, t st1 = .ok (.val (.bl true)) st2 ∧ f st2 = .ok r st3 ∧ give st3 r = some (x, st4) ∧ Out x (wipeS vs st4)) := by
  unfold lcT lcO1 at h
  cases q : g d (wipeS vs st) with
  | none => rw [q] at h; exact h.elim
  | some st1 =>
    rw [q] at h
    dsimp only at h
    cases q2 : t st1 with
    | bad => rw [q2] at h; exact h.elim
    | exc e s => rw [q2] at h; exact h.elim
    | ok r s1 =>
      rw [q2] at h
      cases r with
      | val d => cases d with
        | bl k => cases k with
          | false => exact ⟨st1, s1, rfl, .inl ⟨q2, h⟩⟩
          | true =>
            have h : (f s1).wp _ _ := h
            cases q3 : f s1 with
            | bad => rw [q3] at h; exact h.elim
            | exc e s => rw [q3] at h; exact h.elim
            | ok r st3 =>
              rw [q3] at h
              simp only [wpE_ok] at h
              cases q4 : give st3 r with
              | none => rw [q4] at h; exact h.elim
              | some p =>
                obtain ⟨x, st4⟩ := p
                rw [q4] at h
                exact ⟨st1, s1, rfl, .inr ⟨r, st3, x, st4, q2, q3, q4, h⟩⟩
        | _ => exact h.elim
      | _ => exact h.elim
/-- a comprehension that leaves the state alone -/
theorem lc_eq {α : Type} {q : α → D} (p : α → Option D) (xs : List α) (hl : xs.length ≤ sizeLine) (step : ∀ x ∈ xs, lcT g t f vs (q x) st (fun s => p x = none ∧ s = st) (fun y s => p x = some y ∧ s = st)) : lcD g t f vs (xs.map q) [] st = .ok (xs.filterMap p) st := by
  obtain ⟨ys, st', e, h1, h2⟩ := lcD_ind (g := g) (t := t) (f := f) (vs := vs) (fun rest acc s => s = st ∧ ∃ done r, rest = r.map q ∧ xs = done ++ r ∧ acc = done.filterMap p) (fun d rest acc s h => by
    obtain ⟨rfl, done, r, hr, h1, rfl⟩ := h
    cases r with
    | nil => cases hr
    | cons x r =>
      cases hr
      obtain ⟨st1, st2, e1, h⟩ := lcT_cases (step x (by rw [h1]; simp))
      refine ⟨st1, st2, e1, ?_⟩
      rcases h with ⟨e2, e3, e4⟩ | ⟨rr, st3, y, st4, e2, e3, e4, e5, e6⟩
      · exact .inl ⟨e2, e4, done ++ [x], r, rfl, by simp [h1], by simp [e3]⟩
      · refine .inr ⟨rr, st3, y, st4, e2, e3, e4, ?_, e6, done ++ [x], r, rfl, by simp [h1], by simp [e5]⟩
        have l1 := List.length_filterMap_le p done
        have l2 : xs.length = done.length + (r.length + 1) := by rw [h1]; simp
        omega) (xs.map q) [] st ⟨rfl, [], xs, rfl, rfl, rfl⟩
  obtain ⟨done, r, e0, e1, e2⟩ := h2
  cases r with
  | cons _ _ => cases e0
  | nil => rw [e, h1, e2, e1, List.append_nil]
theorem lcO_eq {α : Type} {m : Nat} {ds0 : List D} {q : α → D} (p : α → Option D) (xs : List α) (hl : xs.length ≤ sizeLine) (ck : st.ob[m]? = some (.lst ds0)) (step : ∀ x ∈ xs, lcT g t f vs (q x) st (fun s => p x = none ∧ s = st) (fun y s => p x = some y ∧ s = st)) : lcO m ds0 g t f vs (xs.map q) [] st = .ok (xs.filterMap p) st := by
  obtain ⟨ys, st', e, h1, h2⟩ := lcO_ind (n := m) (ds0 := ds0) (g := g) (t := t) (f := f) (vs := vs) (fun rest acc s => s = st ∧ ∃ done r, rest = r.map q ∧ xs = done ++ r ∧ acc = done.filterMap p) (fun _ _ s h => by rw [h.1]; exact ck) (fun d rest acc s h => by
    obtain ⟨rfl, done, r, hr, h1, rfl⟩ := h
    cases r with
    | nil => cases hr
    | cons x r =>
      cases hr
      obtain ⟨st1, st2, e1, h⟩ := lcT_cases (step x (by rw [h1]; simp))
      refine ⟨st1, st2, e1, ?_⟩
      rcases h with ⟨e2, e3, e4⟩ | ⟨rr, st3, y, st4, e2, e3, e4, e5, e6⟩
      · exact .inl ⟨e2, e4, done ++ [x], r, rfl, by simp [h1], by simp [e3]⟩
      · refine .inr ⟨rr, st3, y, st4, e2, e3, e4, ?_, e6, done ++ [x], r, rfl, by simp [h1], by simp [e5]⟩
        have l1 := List.length_filterMap_le p done
        have l2 : xs.length = done.length + (r.length + 1) := by rw [h1]; simp
        omega) (xs.map q) [] st ⟨rfl, [], xs, rfl, rfl, rfl⟩
  obtain ⟨done, r, e0, e1, e2⟩ := h2
  cases r with
  | cons _ _ => cases e0
  | nil => rw [e, h1, e2, e1, List.append_nil]
end
end Bv

namespace Bv
open PySem PySem.Spec PyProof.Rows L2

theorem bits64 {i : Int} (h0 : -(2 ^ 64) < i) (h1 : i < 2 ^ 64) : Builtin.Int.intBits i ≤ 64 := intBits_le_64 h0 h1
theorem pow_ok64 {i n : Int} (h0 : 0 ≤ i) (h1 : i < 2 ^ 64) (h2 : 0 ≤ n) (h3 : n ≤ 1000) : powOk i n = true := by
  have b := bits64 (i := i) (by omega) h1
  unfold powOk
  simp only [Bool.and_eq_true, decide_eq_true_eq]
  refine ⟨h2, ?_⟩
  have : (Builtin.Int.intBits i : Int) * n ≤ 64 * 1000 := Int.mul_le_mul (by omega) h3 h2 (by decide)
  omega
theorem powD_n {x y : Int} (h0 : 0 ≤ x) (h1 : x < 18446744073709551616) (h2 : 0 ≤ y) (h3 : y ≤ 1000) : powD (.int x) (.int y) = some (.val (.int (x ^ y.toNat))) := powD_int (pow_ok64 h0 (by omega) h2 h3)
@[simp] theorem powD_10_3 : powD (.int 10) (.int 3) = some (.val (.int 1000)) := powD_int (by decide)
@[simp] theorem powD_10_4 : powD (.int 10) (.int 4) = some (.val (.int 10000)) := powD_int (by decide)
@[simp] theorem powD_10_6 : powD (.int 10) (.int 6) = some (.val (.int 1000000)) := powD_int (by decide)
@[simp] theorem powD_10_7 : powD (.int 10) (.int 7) = some (.val (.int 10000000)) := powD_int (by decide)
@[simp] theorem powD_10_9 : powD (.int 10) (.int 9) = some (.val (.int 1000000000)) := powD_int (by decide)
@[simp] theorem powD_10_12 : powD (.int 10) (.int 12) = some (.val (.int 1000000000000)) := powD_int (by decide)
@[simp] theorem powD_10_18 : powD (.int 10) (.int 18) = some (.val (.int 1000000000000000000)) := powD_int (by decide)
@[simp] theorem powD_10_59 : powD (.int 10) (.int 59) = some (.val (.int 100000000000000000000000000000000000000000000000000000000000)) := powD_int (by decide)
theorem mul_okl {i j : Int} (h0 : -18446744073709551616 < i) (h1 : i < 18446744073709551616) : mulOk i j = true := by
  unfold mulOk
  rw [decide_eq_true (show i.natAbs < 2 ^ 64 by omega)]; rfl
theorem mul_okr {i j : Int} (h0 : -18446744073709551616 < j) (h1 : j < 18446744073709551616) : mulOk i j = true := by
  unfold mulOk
  rw [decide_eq_true (show j.natAbs < 2 ^ 64 by omega), Bool.or_true]; rfl
theorem mulD_r {x y : Int} (h0 : -18446744073709551616 < y) (h1 : y < 18446744073709551616) : mulD (.int x) (.int y) = some (.val (.int (x * y))) := mulD_int (mul_okr h0 h1)
theorem log_lt {n k : Nat} (h : n < 2 ^ k) (hk : 0 < k) : n.log2 < k := by
  by_cases h0 : n = 0
  · subst h0; exact hk
  · exact (Nat.log2_lt h0).mpr h
theorem div_ok {j : Int} (h0 : 0 < j) (h1 : j.natAbs.log2 < 9000) : divOk j = true := by
  unfold divOk
  rw [decide_eq_true h0, decide_eq_true h1]; rfl
theorem div_ok64 {j : Int} (h0 : 0 < j) (h1 : j < 18446744073709551616) : divOk j = true := div_ok h0 (Nat.lt_of_lt_of_le (log_lt (k := 64) (by omega) (by decide)) (by decide))
theorem fdivD_n {x y : Int} (h0 : 0 < y) (h1 : y < 18446744073709551616) : fdivD (.int x) (.int y) = some (.val (.int (x / y))) := fdivD_int (div_ok64 h0 h1)
theorem rg1_n {j : Int} {st : S} (h : 0 ≤ j) (k : j < 1000000000) : kIL rg1 [.int j] st = .ok (rngD 0 1 j.toNat) st := kIL_rg1 h (by omega)
theorem rg3_n {i j : Int} {st : S} (h : -1000000000 < i) (k : i < 1000000000) (h' : -1000000000 < j) (k' : j < 1000000000) : kIL rg3 [.int i, .int j, .int (-1)] st = .ok (rngD i (-1) (i - j).toNat) st := kIL_rg3n (by omega) (by omega) (by omega) (by omega)
theorem append_n {xs : List D} {d : D} (h : xs.length ≤ 1000000) : appendF (.lst xs) [d] = some (.val .non, .lst (xs ++ [d])) := appendF_ok (by rw [sizeLine_eq]; omega)
theorem addT_n {x y : List D} (h : x.length ≤ 1000000) (h' : y.length ≤ 1000000) : addD (.tup x) (.tup y) = some (.val (.tup (x ++ y))) := addD_tup (by rw [sizeLine_eq]; omega)
theorem tup_n {ds : List D} {st : S} (h : ds.length ≤ 1000000) : Bv.kTup ds st = .ok (.val (.tup ds)) st := kTup_ok (by rw [sizeLine_eq]; omega)
@[simp] theorem sumD_i (ns : List Int) : sumD (.lst (ns.map .int)) = some (.val (.int ns.sum)) := sumD_ints ns
@[simp] theorem sumD_nil : sumD (.lst []) = some (.val (.int 0)) := sumD_ints []
@[simp] theorem isT_tt : isT "tuple" "tuple" = true := by decide
@[simp] theorem isT_st : isT "str" "tuple" = false := by decide
@[simp] theorem isT_it : isT "int" "tuple" = false := by decide
@[simp] theorem isT_bt : isT "bool" "tuple" = false := by decide
@[simp] theorem isT_lt : isT "list" "tuple" = false := by decide
@[simp] theorem isT_nt : isT "NoneType" "tuple" = false := by decide
@[simp] theorem isT_ii : isT "int" "int" = true := by decide
@[simp] theorem isT_bi : isT "bool" "int" = true := by decide
@[simp] theorem isT_si : isT "str" "int" = false := by decide
@[simp] theorem isT_ti : isT "tuple" "int" = false := by decide
@[simp] theorem isT_li : isT "list" "int" = false := by decide
@[simp] theorem isT_ni : isT "NoneType" "int" = false := by decide
@[simp] theorem isT_ib : isT "int" "bool" = false := by decide
@[simp] theorem isT_bb : isT "bool" "bool" = true := by decide
@[simp] theorem isT_sb : isT "str" "bool" = false := by decide
@[simp] theorem isT_tb : isT "tuple" "bool" = false := by decide
@[simp] theorem isT_lb : isT "list" "bool" = false := by decide
@[simp] theorem isT_nb : isT "NoneType" "bool" = false := by decide
@[simp] theorem isT_is : isT "int" "str" = false := by decide
@[simp] theorem isT_bs : isT "bool" "str" = false := by decide
@[simp] theorem isT_ss : isT "str" "str" = true := by decide
@[simp] theorem isT_ts : isT "tuple" "str" = false := by decide
@[simp] theorem isT_ls : isT "list" "str" = false := by decide
@[simp] theorem isT_ns : isT "NoneType" "str" = false := by decide
@[simp] theorem isT_il : isT "int" "list" = false := by decide
@[simp] theorem isT_bl : isT "bool" "list" = false := by decide
@[simp] theorem isT_sl : isT "str" "list" = false := by decide
@[simp] theorem isT_tl : isT "tuple" "list" = false := by decide
@[simp] theorem isT_ll : isT "list" "list" = true := by decide
@[simp] theorem isT_nl : isT "NoneType" "list" = false := by decide
@[simp] theorem eqI (x y : Int) : eqD (.int x) (.int y) = some (.val (.bl (decide (x = y)))) := by
  have h := fun z => flat_mono 60 60 (.int z) (Nat.le_refl _) (by simp [flatD])
  unfold eqD
  rw [if_pos ⟨show okEq (.int x) = true from h x, show okEq (.int y) = true from h y⟩]
  show some (Rv.val (D.bl (PyData.eqv (.int x) (.int y)))) = _
  congr 3
@[simp] theorem neI (x y : Int) : neD (.int x) (.int y) = some (.val (.bl (!decide (x = y)))) := by
  have h := fun z => flat_mono 60 60 (.int z) (Nat.le_refl _) (by simp [flatD])
  unfold neD
  rw [if_pos ⟨show okEq (.int x) = true from h x, show okEq (.int y) = true from h y⟩]
  show some (Rv.val (D.bl (!PyData.eqv (.int x) (.int y)))) = _
  congr 3
@[simp] theorem neD_nil' : neD (.lst []) (.lst []) = some (.val (.bl false)) := neD_ints [] []
theorem gcF_wp {φ : List D → List D → FR} {ds ob : List D} {P : Rv → List D → Prop} {X : Exn → List D → Prop} (h : (φ ds ob).wp (fun r o => (∃ Z, o = ob ++ Z) ∧ pureR r = true ∧ P r ob) noX) : (gcF φ ds ob).wp P X := by
  obtain ⟨r, o, e, ⟨Z, rfl⟩, hr, hp⟩ := FR.of_wp h
  rw [gcF_ok e hr]
  exact hp
/-- a def's meaning through its body -/
theorem fnB_wp {g : S → SRes} {n : Nat} {ds ob : List D} {P : Rv → List D → Prop} {X : Exn → List D → Prop} (h : (fnE (g ⟨ds.map Sl.frz ++ List.replicate (n - ds.length) .no, ob⟩)).wp P X) : (fnB g n ds ob).wp P X := by rw [fnB_eq]; exact h
theorem enumD_map {α : Type} (f : α → D) : ∀ (xs : List α) (k : Nat), enumD k (xs.map f) = ((List.range' k xs.length).zip xs).map fun p => .tup [.int (p.1 : Nat), f p.2]
  | [], _ => rfl
  | x :: xs, k => by
    rw [List.map_cons, enumD, enumD_map f xs (k + 1)]
    rfl
theorem zipD_map {α β : Type} (f : α → D) (g : β → D) : ∀ (xs : List α) (ys : List β), zipD (xs.map f) (ys.map g) = (xs.zip ys).map fun p => .tup [f p.1, g p.2]
  | [], ys => by cases ys <;> rfl
  | x :: xs, [] => rfl
  | x :: xs, y :: ys => by
    rw [List.map_cons, List.map_cons, zipD, zipD_map f g xs ys]
    rfl
end Bv

namespace Bv
open PySem PySem.Spec PyProof.Rows L2
section
variable {a b c f fo fi fv : S → Res} {gl : S → LRes} {p q bd : S → SRes} {sl : List Sl} {ob : List D} {st st' : S} {r : Rv} {d d' : D} {i n : Nat} {e : Exn} {ds : List D} {g : D → S → Option S}
def kVA (fin : Bool → Rv → S → Res) (o : Option Bool) (r : Rv) (st : S) : Res := match o with
  | some k => fin k r st
  | none => .bad
@[simp] theorem kVA_some (fin : Bool → Rv → S → Res) (k : Bool) : kVA fin (some k) r st = fin k r st := id rfl
def kVB (fin : Bool → Rv → S → Res) (o : Option D) (r : Rv) (st : S) : Res := match o with
  | some d => kVA fin (truD d) r st
  | none => .bad
@[simp] theorem kVB_some (fin : Bool → Rv → S → Res) : kVB fin (some d) r st = kVA fin (truD d) r st := id rfl
def kV (fin : Bool → Rv → S → Res) : Rv → S → Res := fun r st1 => kVB fin (rd st1 r) r st1
@[simp] theorem kV_run (fin : Bool → Rv → S → Res) : kV fin r ⟨sl, ob⟩ = kVB fin (rd ⟨sl, ob⟩ r) r ⟨sl, ob⟩ := id rfl
def fAnd (b : S → Res) : Bool → Rv → S → Res := fun k r st => match k with
  | true => b st
  | false => .ok r st
@[simp] theorem fAnd_t : fAnd b true r st = b st := id rfl
@[simp] theorem fAnd_f : fAnd b false r st = .ok r st := id rfl
def fOr (b : S → Res) : Bool → Rv → S → Res := fun k r st => match k with
  | true => .ok r st
  | false => b st
@[simp] theorem fOr_t : fOr b true r st = .ok r st := id rfl
@[simp] theorem fOr_f : fOr b false r st = b st := id rfl
def fNot : Bool → Rv → S → Res := fun k _ st => .ok (.val (.bl (!k))) st
@[simp] theorem fNot_run (k : Bool) : fNot k r st = .ok (.val (.bl (!k))) st := id rfl
@[simp] theorem eAnd_run : eAnd a b ⟨sl, ob⟩ = (a ⟨sl, ob⟩).bind (kV (fAnd b)) := by
  unfold eAnd kV
  congr; funext r st
  unfold kVB kVA fAnd
  cases rd st r with
  | none => rfl
  | some d => dsimp only; cases truD d with
    | none => rfl
    | some k => cases k <;> rfl
@[simp] theorem eOr_run : eOr a b ⟨sl, ob⟩ = (a ⟨sl, ob⟩).bind (kV (fOr b)) := by
  unfold eOr kV
  congr; funext r st
  unfold kVB kVA fOr
  cases rd st r with
  | none => rfl
  | some d => dsimp only; cases truD d with
    | none => rfl
    | some k => cases k <;> rfl
@[simp] theorem eNot_run : eNot a ⟨sl, ob⟩ = (a ⟨sl, ob⟩).bind (kV fNot) := by
  unfold eNot kV kVB kVA fNot
  congr
def kSt3 (o : Option (List D)) (g : S → LRes) (st : S) : LRes := match o with
  | some xs => (g st).bind fun ds st3 => .ok (xs ++ ds) st3
  | none => .bad
@[simp] theorem kSt3_some {xs : List D} : kSt3 (some xs) gl st = (gl st).bind fun ds st3 => .ok (xs ++ ds) st3 := id rfl
def kSt2 (o : Option D) (g : S → LRes) (st : S) : LRes := match o with
  | some d => kSt3 (itemsD d) g st
  | none => .bad
@[simp] theorem kSt2_some : kSt2 (some d) gl st = kSt3 (itemsD d) gl st := id rfl
def kSt (g : S → LRes) : Rv → S → LRes := fun r st1 => kSt2 (rd st1 r) g st1
@[simp] theorem kSt_run : kSt gl r ⟨sl, ob⟩ = kSt2 (rd ⟨sl, ob⟩ r) gl ⟨sl, ob⟩ := id rfl
@[simp] theorem lStar_run : lStar f gl ⟨sl, ob⟩ = (f ⟨sl, ob⟩).bindL (kSt gl) := by
  unfold lStar kSt kSt2 kSt3
  congr
@[simp] theorem itemsD_tup (xs : List D) : itemsD (.tup xs) = some xs := id rfl
@[simp] theorem itemsD_lst (xs : List D) : itemsD (.lst xs) = some xs := id rfl
def chb (o : Option Rv) (k : S → Res) (st : S) : Res := match o with
  | some (.val (.bl true)) => k st
  | some (.val (.bl false)) => .ok (.val (.bl false)) st
  | _ => .bad
@[simp] theorem chb_t (k : S → Res) : chb (some (.val (.bl true))) k st = k st := id rfl
@[simp] theorem chb_f (k : S → Res) : chb (some (.val (.bl false))) k st = .ok (.val (.bl false)) st := id rfl
def chA (f : D → D → Option Rv) (x y : Option D) (k : S → Res) (st : S) : Res := match x, y with
  | some d1, some d2 => chb (f d1 d2) k st
  | _, _ => .bad
@[simp] theorem chA_some (h : D → D → Option Rv) (k : S → Res) : chA h (some d) (some d') k st = chb (h d d') k st := id rfl
def kCh3 (f' : D → D → Option Rv) (r2 : Rv) : Rv → S → Res := fun r3 st3 => fin2 f' (rd st3 (vz r2)) (rd st3 (vz r3)) st3
@[simp] theorem kCh3_run (h : D → D → Option Rv) (r2 : Rv) : kCh3 h r2 r ⟨sl, ob⟩ = fin2 h (rd ⟨sl, ob⟩ (vz r2)) (rd ⟨sl, ob⟩ (vz r)) ⟨sl, ob⟩ := id rfl
def kCh2 (f f' : D → D → Option Rv) (c : S → Res) (r1 : Rv) : Rv → S → Res := fun r2 st2 => chA f (rd st2 (vz r1)) (rd st2 (vz r2)) (fun s => (c s).bind (kCh3 f' r2)) st2
@[simp] theorem kCh2_run (h h' : D → D → Option Rv) (r1 : Rv) : kCh2 h h' c r1 r ⟨sl, ob⟩ = chA h (rd ⟨sl, ob⟩ (vz r1)) (rd ⟨sl, ob⟩ (vz r)) (fun s => (c s).bind (kCh3 h' r)) ⟨sl, ob⟩ := id rfl
def kCh1 (f f' : D → D → Option Rv) (b c : S → Res) : Rv → S → Res := fun r1 st1 => (b st1).bind (kCh2 f f' c r1)
@[simp] theorem kCh1_run (h h' : D → D → Option Rv) : kCh1 h h' b c r ⟨sl, ob⟩ = (b ⟨sl, ob⟩).bind (kCh2 h h' c r) := id rfl
@[simp] theorem eChain_run (h h' : D → D → Option Rv) : eChain h h' a b c ⟨sl, ob⟩ = (a ⟨sl, ob⟩).bind (kCh1 h h' b c) := by
  unfold eChain kCh1
  congr
def kUn2 (g : D → S → Option S) (o : Option (D × S)) : SRes := match o with
  | some (d, st2) => onS (g d st2)
  | none => .bad
@[simp] theorem kUn2_some : kUn2 g (some (d, st)) = onS (g d st) := id rfl
def kUn (g : D → S → Option S) : Rv → S → SRes := fun r st1 => kUn2 g (give st1 r)
@[simp] theorem kUn_run : kUn g r ⟨sl, ob⟩ = kUn2 g (give ⟨sl, ob⟩ r) := id rfl
@[simp] theorem sUnp_run : sUnp f g ⟨sl, ob⟩ = (f ⟨sl, ob⟩).bindS (kUn g) := by
  unfold sUnp kUn kUn2 onS
  congr
@[simp] theorem srcD_tup (xs : List D) : srcD (.tup xs) = some xs := id rfl
@[simp] theorem srcD_lst (xs : List D) : srcD (.lst xs) = some xs := id rfl
@[simp] theorem isT_ne (k : Bool) : (k != false) = k := by cases k <;> rfl
section
variable {g : D → S → Option S} {t f : S → Res} {vs : List Nat} {E : Post} {P : Rv → S → Prop} {X : Exn → S → Prop}
@[simp] theorem wp_kFor (z : LRes) : (kFor g bd z).wp E = z.wp (fun ds s => (forD g bd ds s).wp E) E.x := by cases z <;> rfl
@[simp] theorem wp_kLcE (st1 : S) (z : LRes) : (kLcE vs st1 z).wp P X = z.wp (fun xs s => P (.fresh (.lst xs)) (backS vs st1 s)) (fun _ _ => False) := by cases z <;> rfl
end
end
end Bv

namespace L2
open PySem PySem.Spec PyProof.Rows
end L2
namespace Bv
open PySem PySem.Spec PyProof.Rows L2
section
variable {X : Cx} {T : Tx} {a b : Expr} {fa fb : S → Res}
end
end Bv

namespace Bv
open PySem PySem.Spec PyProof.Rows L2

/-- a def's promise, called with arguments by position, no repr going on around it -/
def FnRg (P : Program) (w : World) (K : PySem.W.Frag) (mg : Str → Option Value) (base : Heap) (k : Nat) (f : Addr) (sp : Sp) : Prop :=
  ∀ (A : Around) (outer : List Env) (s : Shared) (H : Hp) (us : List Value) (vs : List V) (Q : VK) (E : XK), Room k A → A.guards = some [] → Env0 P w K mg base A outer s H →
    Vals vs us → sp vs H Q E → codeAny (model P w) A (.call (.ref f) ⟨us, []⟩) (CR (L2.CX P w) outer P w H s Q E) s
/-- the promise by value, any number of arguments -/
def spV (T : Tx) (K : PySem.W.Frag) (φ : List D → List D → FR) : Sp := fun vs H Q E => ∃ (G : Hp) (w : Wd) (ob ds : List D), SR T K G w ⟨[], ob⟩ [] H ∧ RepLW T K w vs ds ∧ PostF2 T K G w (φ ds ob) Q E
def starF (k : Nat) (φ : List D → List D → FR) : List D → List D → FR := fun ds ob => if k ≤ ds.length ∧ ds.length ≤ 1000 then φ (ds.take k ++ [.tup (ds.drop k)]) ob else .bad
theorem starF_eq {k : Nat} {φ : List D → List D → FR} {ds ob : List D} (h : k ≤ ds.length) (h2 : ds.length ≤ 1000) : starF k φ ds ob = φ (ds.take k ++ [.tup (ds.drop k)]) ob := if_pos ⟨h, h2⟩
section
variable {P : Program} {w : World} {K : PySem.W.Frag} {mg : Str → Option Value} {base : Heap} {k : Nat} {f : Addr} {T : Tx}
theorem RepL.split {io : List Addr} {H : Hp} : ∀ {vs : List V} {ds : List D} (n : Nat), RepL T K io H vs ds → RepL T K io H (vs.take n) (ds.take n) ∧ RepL T K io H (vs.drop n) (ds.drop n)
  | _, _, 0, h => ⟨by simpa using RepL.nil, by simpa using h⟩
  | _, _, n + 1, .nil => ⟨.nil, .nil⟩
  | _, _, n + 1, .cons a r => by
    obtain ⟨h1, h2⟩ := RepL.split n r
    exact ⟨.cons a h1, h2⟩
theorem star_sp {n : Nat} {φ : List D → List D → FR} {vs : List V} {H : Hp} {Q : VK} {E : XK} (h : spV T K (starF n φ) vs H Q E) : n ≤ vs.length ∧ vs.length ≤ 1000 ∧ ∀ p, H p = none → spB T K (n + 1) φ (vs.take n ++ [V.ref p]) (upd H p (.tup (vs.drop n))) Q E := by
  obtain ⟨G, w, ob, ds, R, x, h⟩ := h
  unfold starF at h
  have hl := x.len
  by_cases hc : n ≤ ds.length ∧ ds.length ≤ 1000
  case neg => rw [if_neg hc] at h; exact h.elim
  rw [if_pos hc] at h
  refine ⟨by omega, by omega, fun p hp => ⟨by simp; omega, G, ⟨upd w.Hf p (.tup (vs.drop n)), w.io⟩, ob, ds.take n ++ [.tup (ds.drop n)], ?_⟩⟩
  obtain ⟨f1, f2, f3, f4⟩ := R.free hp
  obtain ⟨le, R'⟩ := (R.new (o := .tup (vs.drop n)) hp).freeze f1 f2 f3 f4 upd_same
  obtain ⟨x1, x2⟩ := RepL.split n (RepL.mono le.1 le.2 x)
  refine ⟨R', RepL.append x1 (.cons (.tup upd_same x2) .nil), ?_⟩
  have pl : ∀ {r : FR}, PostF2 T K G w r Q E → PostF2 T K G ⟨upd w.Hf p (.tup (vs.drop n)), w.io⟩ r Q E := fun {r} h => by
    cases r with
    | ok r ob => exact fun w' H' v l => h w' H' v (le.trans l)
    | exc e ob => exact fun w' H' c d l => h w' H' c d (le.trans l)
    | bad => exact h
  exact pl h
theorem run_bndG {CX : CXT} {name qual : Str} {params : Arguments} {body : List Stmt} {scope : Scope} {dV kV doc pm cdv ct oc : Value} {an od : Option Addr} {osl : Array (Option Value)} {N ps : List Str} {A : Around} {outer : List Env} {s : Shared} {H : Hp} {args : Args} {Q : VK} {E : XK} {G : List V → Hp → Prop} (lk : K.lookup f = some ⟨oc, od, .func (PySem.W.fnOf name qual params body scope dV kV doc pm an cdv ct), osl⟩) (hcd : PySem.W.codeIn K cdv qual = true)
    (S : FnScope N ps scope) (hr : Room (k + 1) A) (hg : A.guards = some []) (e0 : Env0 P w K mg base A outer s H) (hb : StX.Bnd CX P w K mg base (PySem.W.fnOf name qual params body scope dV kV doc pm an cdv ct) args ps A outer s H E G)
    (hbody : ∀ (s2 : Shared) (H2 : Hp) (vs : List V), G vs H2 → Room k (A.deeper (envOfC qual scope s2.heap.objs.size f cdv)) → (A.deeper (envOfC qual scope s2.heap.objs.size f cdv)).guards = some [] →
      ∃ t, PSs (cxOf CX P w K mg base N qual scope f cdv A outer s2 H2 E) body t ∧ t { nx := fun _ H' => Q .non H', rt := Q } (start N vs) H2) : codeAny (model P w) A (.call (.ref f) args) (CR CX outer P w H s Q E) s := by
  have KX : K.In s.heap := e0.mod.kin.keeps fun b o e => (e0.bs b o e).1
  refine codeAny_call_function hr.depth (KX _ _ lk) rfl S.co S.gen rfl (PySem.W.codeRec_of KX hcd) ?_
  refine hb _ _ _ fun s2 H2 vs us e2 un ho hx r hl g => ?_
  have lim : s2.heap.NoLimit := e0.mod.nolimit.keeps fun b o e => (e2.bs b o e).1
  have hkind : ∀ y ∈ ps.zip us, scope.names.lookup y.1 = some .local ∨ (scope.names.lookup y.1 = some .cell ∧ ((cellsFrom (s2.heap.objs.size + 1) scope.names []).lookup y.1).isSome = true) := fun y hy => by
    rcases S.par y.1 (List.of_mem_zip hy).1 with q | q
    · exact .inl q
    · exact .inr ⟨q, PySem.W.cellsFrom_some _ _ _ (.inl q)⟩
  refine wpAny_newFunctionEnv_cells (s := s2) S.kind hkind fun env he s1 x => ?_
  subst he
  refine ⟨lim.keeps x.toInCall.keep, codeAny_func ?_⟩
  obtain ⟨t, ht, hq⟩ := hbody s2 H2 vs g (hr.deeper _) hg
  have I : Inv (cxOf CX P w K mg base N qual scope f cdv A outer s2 H2 E) [] (start N vs) H2 s1 := inv_start S hr.hd e2 hl r x
  refine wpAny_mono (ht.run [] s1 _ _ _ I hq) (fun fl s' hs => ?_) fun e s' hs => ?_
  · have fin : ∀ {σ' : L2.St} {H' : Hp} {v' : V} {u' : Value}, Inv (cxOf CX P w K mg base N qual scope f cdv A outer s2 H2 E) [] σ' H' s' → RelV v' u' → Q v' H' → CE outer P w H s Q u' s' :=
      fun {σ' H' v' u'} J rv' q => ⟨v', H', J.os.trans ho, J.bare, un.trans J.base, J.hok, rv', q⟩
    cases fl with
    | ret u' =>
      obtain ⟨v', σ', H', J, rv', q⟩ := hs
      exact fin J rv' q
    | next =>
      obtain ⟨σ', H', J, q⟩ := hs
      exact fin (v' := V.non) (u' := Value.none) J rfl q
    | brk =>
      obtain ⟨_, _, _, q⟩ := hs
      exact False.elim q
    | cont =>
      obtain ⟨_, _, _, q⟩ := hs
      exact False.elim q
  · exact wpAny_mono hs (fun _ s'' z => hx e s'' z) fun e' s'' z => hx e' s'' z
theorem fn_mk_star {x qual : Str} {st : Stmt} {fd : FuncData} {N ps : List Str} {pv : Str} {φ : List D → List D → FR} {g : S → SRes} {n m : Nat} (F : L2.Fun K x qual st f fd) (S : FnScope N (ps ++ [pv]) (defScope st)) (hφ : φ = fnB g n) (hn : N.length = n) (hm : ps.length = m)
    (hb : ∀ (kV doc pm : Value) (an : Option Addr) (cdv ct : Value) (us rest : List Value), us.length = ps.length → bindArgs (PySem.W.fnOf x qual (defArgs st) (defBody st) (defScope st) .none kV doc pm an cdv ct) ⟨us ++ rest, []⟩ = (newTuple rest >>= fun t => pure (ps.zip us ++ [(pv, t)])))
    (hbody : ∀ (cdv : Value) (A : Around) (outer : List Env) (s : Shared) (H : Hp) (E : XK), Room k (A.deeper (envOfC qual (defScope st) s.heap.objs.size f cdv)) → (A.deeper (envOfC qual (defScope st) s.heap.objs.size f cdv)).guards = some [] →
      DB (cxOf (L2.CX P w) P w K mg base N qual (defScope st) f cdv A outer s H E) T (defBody st) g) : FnRg P w K mg base (k + 1) f (spV T K (starF m φ)) := by
  subst hφ hn hm
  obtain ⟨oc, od, kV, doc, pm, an, cdv, ct, osl, rfl, lk, hcd⟩ := F.ex
  intro A outer s H us vs Q E hr hg e0 r hsp
  obtain ⟨hn, hz, hq⟩ := star_sp hsp
  have hv : vs = vs.take ps.length ++ vs.drop ps.length := (List.take_append_drop _ _).symm
  rw [hv] at r
  obtain ⟨u1, u2, rfl, r1, r2⟩ := StX.vals_split r
  have hl0 : (vs.take ps.length).length = ps.length := by rw [List.length_take, Nat.min_eq_left hn]
  have hl1 : u1.length = ps.length := by rw [← r1.length, hl0]
  have hl3 : (vs.drop ps.length).length ≤ sizeLine := by rw [List.length_drop, sizeLine_eq]; omega
  have hl2 : u2.length ≤ sizeLine := by rw [← r2.length]; exact hl3
  have hnn : H s.heap.objs.size = none := e0.hok.fresh (Nat.le_refl _)
  refine run_bndG lk hcd S hr hg e0 (G := fun xs H2 => ∃ p, H p = Option.none ∧ xs = vs.take ps.length ++ [V.ref p] ∧ H2 = upd H p (.tup (vs.drop ps.length))) (fun A' Ex Q' h => ?_) fun s2 H2 xs ⟨p, hp, ex, eH⟩ hr' hg' => ?_
  · rw [hb kV doc pm an cdv ct u1 u2 hl1]
    refine wpAny_bind (wpAny_newTuple (wpAny_pure ?_) hl2)
    have new : ObjOk P w (upd H s.heap.objs.size (.tup (vs.drop ps.length))) (s.heap.push ({ cls := .type "tuple", data := .seq u2.toArray } : Obj)) s.heap.objs.size (.tup (vs.drop ps.length)) := ⟨hl3, u2, r2, ⟨_, Heap.get?_push_size _ rfl, rfl, _, rfl⟩⟩
    have un := StX.un_laid (fs := frs outer) (s := s) (o := ({ cls := .type "tuple", data := .seq u2.toArray } : Obj)) (u := .tup (vs.drop ps.length)) hnn
    have z := h _ _ (vs.take ps.length ++ [V.ref s.heap.objs.size]) (u1 ++ [Value.ref s.heap.objs.size]) (StX.env0_laid e0 new) un rfl (fun e s' => StX.cxUp outer s H _ _ E e s' un (fun b o q => Heap.get?_push_of_some _ q) rfl) (r1.append (.cons rfl .nil))
      (by rw [List.length_append, List.length_append, hl0] <;> rfl) ⟨_, hnn, rfl, rfl⟩
    rw [List.zip_append hl1.symm] at z
    exact z
  · subst ex eH
    refine ⟨_, hbody cdv A outer s2 _ E hr' hg', fnB_of (X := cxOf (L2.CX P w) P w K mg base N qual (defScope st) f cdv A outer s2 (upd H p (.tup (vs.drop ps.length))) E) (takes_of rfl rfl rfl rfl) rfl ?_⟩
    have := hq p hp
    rw [show (vs.take ps.length ++ [V.ref p]).length = ps.length + 1 by rw [List.length_append, hl0]; rfl]
    exact this
end
/-- a def that is called by its name with any number of arguments -/
def CalV (P : Program) (w : World) (K : PySem.W.Frag) (mg : Str → Option Value) (base : Heap) (T : Tx) (k : Nat) (x : Str) (φ : List D → List D → FR) : Prop :=
  ∃ f : Addr, FnRg P w K mg base k f (spV T K φ) ∧ mg x = some (.ref f) ∧ PySem.W.keepIn K (.ref f) = true
def eCallV (φ : List D → List D → FR) (g : S → LRes) : S → Res := fun st => (g st).bindE fun ds st1 => match φ ds st1.ob with
  | .ok (.bor _) _ => .bad
  | .ok r ob => .ok r ⟨st1.sl, ob⟩
  | .exc e ob => .exc e ⟨st1.sl, ob⟩
  | .bad => .bad
section
variable {X : Cx} {T : Tx} {k j : Nat} {φ : List D → List D → FR} {x : Str} {p pos : Pos} {e : Expr} {es : List Expr} {g : S → LRes} {t : TA}
theorem run_fnRg {f : Addr} {sp : Sp} {pins : List (Addr × Obj)} {σ : L2.St} {H : Hp} {s : Shared} {Q : VK} {W : WX} {us : List Value} {vs : List V} (F : FnRg X.prog X.w X.K X.mg X.base k f sp) (hr : Room k X.A) (hg : X.A.guards = some []) (tk : Takes X W)
    (I : Inv X pins σ H s) (r : Vals vs us) (h : sp vs H Q fun c d H' => W c d σ H') : wpAny (model X.prog X.w) X.A (call (.ref f) us) (EP X pins σ Q) X.xe s := by
  refine wpAny_call (codeAny_mono (F X.A X.stack s H us vs Q _ hr hg I.env0 r h) fun r s' hq => ?_)
  cases r with
  | error e => exact tk e s' (XE.of_call I (fun _ _ _ q => q) hq)
  | ok fl =>
    cases fl with
    | ret u => exact I.after hq
    | _ => exact hq.elim
def tCallV (X : Cx) (sp : Sp) (t : TA) : TE := fun σ H Q => t σ H fun vs H1 => ∃ W : WX, Takes X W ∧ sp vs H1 Q fun c d H' => W c d σ H'
theorem tCallV_of {σ : L2.St} {H : Hp} {Q : VK} (h : tE X T (eCallV φ g) σ H Q) : tCallV X (spV T X.K φ) (tL X T g) σ H Q := by
  obtain ⟨G, w, st, W, R, tk, h⟩ := h
  refine ⟨G, w, st, W, R, tk, PostL.bindE h fun ds1 st1 w1 H1 vs l1 R1 x1 h1 => ⟨W, tk, ?_⟩⟩
  refine ⟨ownG G st1 σ H1, w1, st1.ob, ds1, R1.lend, x1, ?_⟩
  cases q : φ ds1 st1.ob with
  | bad => rw [q] at h1; exact h1.elim
  | exc e ob => rw [q] at h1; exact fun w' H' c d l R' xr => h1 w' H' c d l (R1.unlend l R') xr
  | ok r ob =>
    rw [q] at h1
    cases r with
    | bor i => exact h1.elim
    | val d => exact fun w' H' v l R' xr => h1 w' H' v l (R1.unlend l R') xr
    | fresh d => exact fun w' H' v l R' xr => h1 w' H' v l (R1.unlend l R') (R1.unlendR (fun i z => nomatch z) R' xr)
theorem FnRg.mono {P : Program} {w : World} {K : PySem.W.Frag} {mg : Str → Option Value} {base : Heap} {f : Addr} {sp : Sp} (F : FnRg P w K mg base j f sp) (h : j ≤ k) : FnRg P w K mg base k f sp := fun A o s H us vs Q E hr => F A o s H us vs Q E (hr.mono h)
theorem pe_callV {f : Addr} {sp : Sp} (F : FnRg X.prog X.w X.K X.mg X.base k f sp) (hr : Room k X.A) (hu : X.A.guards = some []) (hg : Gl X x) (hm : X.mg x = some (.ref f)) (hkp : PySem.W.keepIn X.K (.ref f) = true)
    (ha : PA X (e :: es) t) (hdb : (x == ("__debug__" : Str)) = false := by decide) (he : starEach (e :: es) X.env = (false, eval e X.env) :: starEach es X.env := by rfl) (hpl : (backTo pos (starEach es X.env)).any (·.1) = false := by rfl) :
    PE X (.Call (.Name x p) (e :: es) [] pos) (tCallV X sp t) :=
  ⟨fun pins s σ H Q I h => wpAny_Call_Name_kw (ld_glob I hg hm (PySem.W.callWith_K (h₀ := X.base) I.ok.mod.kin hkp (thn (ha.run pos pins s σ H _ I h) fun us s1 ⟨vs, H1, I1, r, W, tk, q⟩ => ⟨I1.kIn, run_fnRg F hr hu tk I1 r q⟩) he hpl) hdb)⟩
theorem de_fnV (C : CalV X.prog X.w X.K X.mg X.base T k x φ) (hr : Room j X.A) (hu : X.A.guards = some []) (ha : DL X T (e :: es) g) (hk : k ≤ j := by decide) (hg : Gl X x := by rfl) (hdb : (x == ("__debug__" : Str)) = false := by decide)
    (he : starEach (e :: es) X.env = (false, eval e X.env) :: starEach es X.env := by rfl) (hpl : (backTo pos (starEach es X.env)).any (·.1) = false := by rfl) :
    DE X T (.Call (.Name x p) (e :: es) [] pos) (eCallV φ g) := by
  obtain ⟨f, F, hm, hkp⟩ := C
  exact PE.imp (pe_callV F (hr.mono hk) hu hg hm hkp ha hdb he hpl) fun _ _ _ h => tCallV_of h
end
section
variable {φ : List D → List D → FR} {g : S → LRes} {sl : List Sl} {ob ds : List D} {st : S}
def kCallV (φ : List D → List D → FR) : List D → S → Res := fun ds st1 => kCall2 st1.sl (φ ds st1.ob)
@[simp] theorem kCallV_run : kCallV φ ds ⟨sl, ob⟩ = kCall2 sl (φ ds ob) := id rfl
@[simp] theorem eCallV_run : eCallV φ g ⟨sl, ob⟩ = (g ⟨sl, ob⟩).bindE (kCallV φ) := by
  unfold eCallV kCallV kCall2
  congr
end
end Bv

namespace Bv
open PySem PySem.Spec PyProof.Rows L2
mutual
theorem eqv_refl : ∀ (n : Nat) (d : D), flatD n d = true → PyData.eqv (py d) (py d) = true
  | _, .non, _ => rfl
  | _, .bl b, _ => by cases b <;> rfl
  | _, .int i, _ => by show (i == i) = true; simp
  | _, .str x, _ => by show (x == x) = true; simp
  | 0, .tup xs, h => by simp [flatD] at h
  | n + 1, .tup xs, h => by
    simp only [flatD] at h
    exact eqvL_refl n xs h
  | 0, .lst xs, h => by simp [flatD] at h
  | n + 1, .lst xs, h => by
    simp only [flatD] at h
    exact eqvL_refl n xs h
  | _, .dic _, h => by simp [flatD] at h
  | _, .dit _, h => by simp [flatD] at h
  | _, .dmx _, h => by simp [flatD] at h
  | _, .ins _ _, h => by simp [flatD] at h
  | _, .exv _ _, h => by simp [flatD] at h
  | _, .ob _, h => by simp [flatD] at h
  | _, .cl _, h => by simp [flatD] at h
  | _, .rol _, h => by simp [flatD] at h
theorem eqvL_refl : ∀ (n : Nat) (xs : List D), flatL n xs = true → PyData.eqvAll (pyL xs) (pyL xs) = true
  | _, [], _ => rfl
  | n, x :: xs, h => by
    simp only [flatL, Bool.and_eq_true] at h
    show (PyData.eqv (py x) (py x) && PyData.eqvAll (pyL xs) (pyL xs)) = true
    rw [eqv_refl n x h.1, eqvL_refl n xs h.2]; rfl
end
theorem eqD_self {d : D} (h : okEq d = true) : eqD d d = some (.val (.bl true)) := by
  unfold eqD
  rw [if_pos ⟨h, h⟩, eqv_refl 60 d h]
theorem neD_self {d : D} (h : okEq d = true) : neD d d = some (.val (.bl false)) := by
  unfold neD
  rw [if_pos ⟨h, h⟩, eqv_refl 60 d h]; rfl
theorem flat_ints {n : Nat} (xs : List Int) : flatD (n + 1) (.tup (xs.map .int)) = true := by simp only [flatD]; exact flatL_ints n xs
@[simp] theorem setF_2 (x y z d : D) (xs : List D) : setF (.lst (x :: y :: z :: xs)) (.int 2) d = some (.lst (x :: y :: d :: xs)) := setF_lst (j := 2) (by rw [ixN_some (by decide) (by rw [List.length_cons, List.length_cons, List.length_cons]; omega)]; rfl)
end Bv

namespace Bv
open PySem PySem.Spec PyProof.Rows L2
variable {X : Cx} {T : Tx} {K : PySem.W.Frag}
@[simp] theorem setF_3 (x y z u d : D) (xs : List D) : setF (.lst (x :: y :: z :: u :: xs)) (.int 3) d = some (.lst (x :: y :: z :: d :: xs)) := setF_lst (j := 3) (by rw [ixN_some (by decide) (by rw [List.length_cons, List.length_cons, List.length_cons, List.length_cons]; omega)]; rfl)
end Bv

namespace Bv
open PySem PySem.Spec PyProof.Rows L2 PySem.Calls
section
variable {X : Cx} {T : Tx} {K : PySem.W.Frag}
def signsV (x : Str) : List V := x.cps.toList.map fun c => V.str ⟨#[c]⟩
theorem RepL.signs {io : List Addr} {H : Hp} (x : Str) : RepL T K io H (signsV x) (signsD x) := by
  unfold signsV signsD
  generalize x.cps.toList = l
  induction l with
  | nil => exact .nil
  | cons c l ih => exact .cons (.str _) ih
end
end Bv

namespace Bv
open PySem PySem.Spec PyProof.Rows L2
section
variable {X : Cx} {T : Tx} {pos : Pos}
end
end Bv

namespace Bv
open PySem PySem.Spec PyProof.Rows L2
section
variable {X : Cx} {T : Tx} {K : PySem.W.Frag}
end
end Bv

namespace PySem
namespace ErrX
open PySem.W PySem.Calls PyProof.Rows Builtin Builtin.ObjectAttr

section
variable {t : List Value} {B newId initId : String}
end
section
variable {prog : Program} {w : World} {A : Around} {R : Result → Shared → Prop} {hp : Heap} {g : Array GenState} {d : Drawn} {tk0 : Nat} {os : OsState} {t : List Value} {B newId initId : String}
end
section
variable {prog : Program} {w : World} {A : Around} {E : Value → Shared → Prop} {R : Result → Shared → Prop} {s : Shared} {K : Frag} {C : Addr} {f : Str}
end
end ErrX
end PySem
namespace Bv
open PySem PySem.Spec PyProof.Rows L2
section
variable {X : Cx} {T : Tx} {C : Addr} {c f : Str} {g : S → LRes} {p pos pos2 : Pos}
theorem RepF.one {T : Tx} {K : PySem.W.Frag} {io : List Addr} {H : Hp} {v : V} {d : D} (r : Rep T K io H v d) : RepF T K io H [(f, v)] [(f, d)] := .cons r .nil
end
end Bv

namespace Bv
open PySem PySem.Spec PyProof.Rows L2

structure Cl where
  cs : List Value
  i : Option Nat
  ts : Addr → Value → Option Addr → TS
def endI (i : Option Nat) (D : Ends) : Ends := match i with
  | none => D
  | some i => ⟨fun σ H => D.nx (σ.set i none) H, D.rt, fun σ H => D.bk (σ.set i none) H, fun σ H => D.ct (σ.set i none) H⟩
def putI (i : Option Nat) (σ : L2.St) (a : Addr) : L2.St := match i with
  | none => σ
  | some i => σ.set i (some (.ref a))
def wCl (K : PySem.W.Frag) (Wout : WX) (D : Ends) : List Cl → WX
  | [] => Wout
  | h :: r => fun cls d σ H => ∃ b, PySem.W.exmAny K cls h.cs = some b ∧ (b = true → ∀ a, H a = none → h.ts a cls d (endI h.i D) (putI h.i σ a) H) ∧ (b = false → wCl K Wout D r cls d σ H)
/-- the suite is read rightly whatever exception it holds -/
def SuiteOk (X : Cx) (suite : List Stmt) (ts : Addr → Value → Option Addr → TS) : Prop :=
  ∀ (a : Addr) (oe : Obj) (cls : Value) (d : Option Addr) (pn : List (Addr × Obj)), Zc cls d oe → (∃ vs, oe.data = .fields vs) → PSs (X.suite a ((a, oe) :: pn)) suite (ts a cls d)
/-- what a clause asks for: a class, or a tuple of classes -/
inductive TestOk (X : Cx) : Expr → List Value → Prop
  | t1 {x : Str} {c : Value} {np : Pos} (n : Names X x c) : TestOk X (.Name x np) [c]
  | t2 {x1 x2 : Str} {c1 c2 : Value} {p1 p2 tp : Pos} {kk : Nat} (n1 : Names X x1 c1) (n2 : Names X x2 c2) : TestOk X (.Tuple [.Name x1 p1, .Name x2 p2] kk tp) [c1, c2]
  | t3 {x1 x2 x3 : Str} {c1 c2 c3 : Value} {p1 p2 p3 tp : Pos} {kk : Nat} (n1 : Names X x1 c1) (n2 : Names X x2 c2) (n3 : Names X x3 c3) : TestOk X (.Tuple [.Name x1 p1, .Name x2 p2, .Name x3 p3] kk tp) [c1, c2, c3]
  | t4 {x1 x2 x3 x4 : Str} {c1 c2 c3 c4 : Value} {p1 p2 p3 p4 tp : Pos} {kk : Nat} (n1 : Names X x1 c1) (n2 : Names X x2 c2) (n3 : Names X x3 c3) (n4 : Names X x4 c4) : TestOk X (.Tuple [.Name x1 p1, .Name x2 p2, .Name x3 p3, .Name x4 p4] kk tp) [c1, c2, c3, c4]
inductive ClsOk (X : Cx) : List ExceptHandler → List Cl → Prop
  | nil : ClsOk X [] []
  | bare {t : Expr} {cs : List Value} {ts : Addr → Value → Option Addr → TS} {b₀ : Stmt} {suite : List Stmt} {p : Pos} {hds : List ExceptHandler} {l : List Cl} (hc : TestOk X t cs) (hsu : SuiteOk X (b₀ :: suite) ts) (r : ClsOk X hds l) :
      ClsOk X (.ExceptHandler (some t) none (b₀ :: suite) p :: hds) (⟨cs, none, ts⟩ :: l)
  | named {t : Expr} {n : Str} {i : Nat} {cs : List Value} {ts : Addr → Value → Option Addr → TS} {b₀ : Stmt} {suite : List Stmt} {p : Pos} {hds : List ExceptHandler} {l : List Cl} (hc : TestOk X t cs) (hi : X.N[i]? = some n) (hl : X.env.kindOf n = some .local) (hsu : SuiteOk X (b₀ :: suite) ts) (r : ClsOk X hds l) :
      ClsOk X (.ExceptHandler (some t) (some n) (b₀ :: suite) p :: hds) (⟨cs, some i, ts⟩ :: l)
section
variable {X : Cx} {body : List Stmt} {h₀ : ExceptHandler} {hds : List ExceptHandler} {l : List Cl} {pos : Pos} {tb : WX → TS} {Wout : WX}
theorem TestOk.suite {t : Expr} {cs : List Value} {a : Addr} {pn : List (Addr × Obj)} (h : TestOk X t cs) : TestOk (X.suite a pn) t cs := by
  cases h with
  | t1 n => exact .t1 n
  | t2 n1 n2 => exact .t2 n1 n2
  | t3 n1 n2 n3 => exact .t3 n1 n2 n3
  | t4 n1 n2 n3 n4 => exact .t4 n1 n2 n3 n4
end
end Bv

namespace Bv
open PySem PySem.Spec PyProof.Rows L2

section
variable {T T' : Tx} {K : PySem.W.Frag} {io : List Addr} {H : Hp}
mutual
theorem Rep.reT (hc : T.cls = T'.cls) : ∀ {v : V} {d : D}, Rep T K io H v d → Rep T' K io H v d
  | _, _, .non => .non
  | _, _, .bl b => .bl b
  | _, _, .int i => .int i
  | _, _, .str x => .str x
  | _, _, .tup h r => .tup h (RepL.reT hc r)
  | _, _, .lst h r => .lst h (RepL.reT hc r)
  | _, _, .rol h r => .rol h (RepL.reT hc r)
  | _, _, .dicK h r => .dicK h (RepK.reT hc r)
  | _, _, .dicT h r => .dicT h (RepT.reT hc r)
  | _, _, .dicN hw h r => .dicN (hc ▸ hw) h (RepN.reT hc r)
  | _, _, .ins c h r => .ins (hc ▸ c) h (RepF.reT hc r)
  | _, _, .exv c h x r => .exv (hc ▸ c) h x (RepF.reT hc r)
  | _, _, .ob h => .ob h
  | _, _, .cl h => .cl (hc ▸ h)
theorem RepL.reT (hc : T.cls = T'.cls) : ∀ {v : List V} {d : List D}, RepL T K io H v d → RepL T' K io H v d
  | _, _, .nil => .nil
  | _, _, .cons h r => .cons (Rep.reT hc h) (RepL.reT hc r)
theorem RepK.reT (hc : T.cls = T'.cls) : ∀ {v : List (Key × V)} {d : List (D × D)}, RepK T K io H v d → RepK T' K io H v d
  | _, _, .nil => .nil
  | _, _, .cons h r => .cons (Rep.reT hc h) (RepK.reT hc r)
theorem RepT.reT (hc : T.cls = T'.cls) : ∀ {v : List (List Key × V)} {d : List (D × D)}, RepT T K io H v d → RepT T' K io H v d
  | _, _, .nil => .nil
  | _, _, .cons h r => .cons (Rep.reT hc h) (RepT.reT hc r)
theorem RepN.reT (hc : T.cls = T'.cls) : ∀ {v : List NE} {d : List (D × D)}, RepN T K io H v d → RepN T' K io H v d
  | _, _, .nil => .nil
  | _, _, .cons a b c d f r => .cons (Rep.reT hc a) b c (Rep.reT hc d) f (RepN.reT hc r)
theorem RepF.reT (hc : T.cls = T'.cls) : ∀ {v : List (Str × V)} {d : List (Str × D)}, RepF T K io H v d → RepF T' K io H v d
  | _, _, .nil => .nil
  | _, _, .cons h r => .cons (Rep.reT hc h) (RepF.reT hc r)
end
end
section
variable {T T' : Tx} {K : PySem.W.Frag} {G : Hp} {w w' : Wd} {st : S} {σ : L2.St} {H : Hp} {a : Addr} {d : D} {v : V} {i : Nat} {e : Exn} {cls : Value} {dx : Option Addr}
theorem Con.reT (hc : T.cls = T'.cls) : ∀ {d : D}, Con T K w H a d → Con T' K w H a d
  | .lst _, ⟨xs, h, r⟩ => ⟨xs, h, r.reT hc⟩
  | .dic _, ⟨k, h, r⟩ => ⟨k, h, r.reT hc⟩
  | .dit _, ⟨k, h, r⟩ => ⟨k, h, r.reT hc⟩
  | .dmx _, ⟨W, k, hw, h, r⟩ => ⟨W, k, hc ▸ hw, h, r.reT hc⟩
  | .ins _ _, ⟨C, dx, fs, c, h, r⟩ => ⟨C, dx, fs, hc ▸ c, h, r.reT hc⟩
theorem ExR.reT (hc : T.cls = T'.cls) (h : ExR T K w e cls dx) : ExR T' K w e cls dx := by
  obtain ⟨⟨C, h1, h2⟩, h3⟩ := h
  refine ⟨⟨C, hc ▸ h1, h2⟩, h3.imp (fun q => q) fun ⟨d, fs, q1, q2, q3⟩ => ⟨d, fs, q1, q2, q3.reT hc⟩⟩
theorem RepF.mono' {w w' : Wd} {fs : List (Str × V)} {gs : List (Str × D)} (h : RepF T K w.io w.Hf fs gs) (l : w.le w') : RepF T K w'.io w'.Hf fs gs := RepF.mono l.1 l.2 h
theorem ExR.mono (h : ExR T K w e cls dx) (l : w.le w') : ExR T K w' e cls dx := by
  obtain ⟨h1, h3⟩ := h
  exact ⟨h1, h3.imp (fun q => q) fun ⟨d, fs, q1, q2, q3⟩ => ⟨d, fs, q1, l.1 _ _ q2, q3.mono' l⟩⟩
theorem SR.reT (R : SR T K G w st σ H) (hc : T.cls = T'.cls) (ht : TabG T' G) (hb : Ex T'.bs w.Hf ∧ Ob T'.bio w.io) (hh : ∀ i, st.sl[i]? = some .hd → ∃ a, σ[i]? = some (some (.ref a)) ∧ T'.hx = some (a, i)) : SR T' K G w st σ H :=
  ⟨hb, R.exf, R.exg, R.dis, R.len, fun i d h => let ⟨v, h1, h2⟩ := R.frz i d h; ⟨v, h1, Rep.reT hc h2⟩, fun i d h => let ⟨a, h1, h2, h3, h4, h5⟩ := R.own i d h; ⟨a, h1, h2, h3, h4, h5.reT hc⟩, R.apart, R.olen, R.ond,
    fun n d a h1 h2 => let ⟨h3, h4, h5⟩ := R.obj n d a h1 h2; ⟨h3, h4, h5.reT hc⟩, hh, ht⟩
/-- the suite's place: what was caught goes to slot i -/
def atS (T : Tx) (w : Wd) (a : Addr) (i : Nat) : Tx := { T with bs := w.Hf, bio := w.io, hx := some (a, i) }
theorem SR.setH (R : SR T K G w st σ H) (h0 : T.hx = none) : SR (atS T w a i) K G w (st.set i .hd) (σ.set i (some (.ref a))) H := by
  have old : ∀ j : Nat, st.sl[j]? ≠ some Sl.hd := fun j q => by
    obtain ⟨_, _, z⟩ := R.hld j q
    rw [h0] at z; cases z
  have R' : SR (atS T w a i) K G w st σ H := R.reT rfl R.tab ⟨Ex.refl _, Ob.refl _⟩ (fun j q => absurd q (old j))
  refine ⟨R'.bas, R.exf, R.exg, R.dis, by show (st.sl.set i _).length = _; rw [List.length_set, List.length_set]; exact R.len, fun j e q => ?_, fun j e q => ?_, fun j k e f b q1 q2 z1 z2 => ?_, R.olen, R.ond, R'.obj, fun j q => ?_, R.tab⟩
  · rcases getElem?_set' q with ⟨_, z⟩ | ⟨n, z⟩
    · cases z
    · obtain ⟨v', h1, h2⟩ := R'.frz j e z
      exact ⟨v', by rw [List.getElem?_set_ne (fun z => n z.symm)]; exact h1, h2⟩
  · rcases getElem?_set' q with ⟨_, z⟩ | ⟨n, z⟩
    · cases z
    · obtain ⟨b, h1, h2⟩ := R'.own j e z
      exact ⟨b, by rw [List.getElem?_set_ne (fun z => n z.symm)]; exact h1, h2⟩
  · rcases getElem?_set' q1 with ⟨_, z⟩ | ⟨n, z⟩
    · cases z
    · rcases getElem?_set' q2 with ⟨_, y⟩ | ⟨n2, y⟩
      · cases y
      · rw [List.getElem?_set_ne (fun z => n z.symm)] at z1
        rw [List.getElem?_set_ne (fun z => n2 z.symm)] at z2
        exact R.apart j k e f b z y z1 z2
  · rcases getElem?_set' q with ⟨rfl, z⟩ | ⟨n, z⟩
    · have hj : j < σ.length := by
        have := (List.getElem?_eq_some_iff.mp q).1
        have h2 : j < st.sl.length := (List.length_set (as := st.sl) ▸ this)
        rw [← R.len]; exact h2
      exact ⟨a, by rw [List.getElem?_set_self hj], rfl⟩
    · exact absurd z (old j)
/-- behind the suite: slot i is forgotten -/
theorem SR.offH {w0 : Wd} (R : SR (atS T w0 a i) K G w st σ H) (hb : Ex T.bs w.Hf ∧ Ob T.bio w.io) : SR T K G w (st.set i .no) (σ.set i none) H := by
  refine ⟨hb, R.exf, R.exg, R.dis, by show (st.sl.set i _).length = _; rw [List.length_set, List.length_set]; exact R.len, fun j e q => ?_, fun j e q => ?_, fun j k e f b q1 q2 z1 z2 => ?_, R.olen, R.ond, fun n d b h1 h2 => ?_, fun j q => ?_, R.tab⟩
  · rcases getElem?_set' q with ⟨_, z⟩ | ⟨n, z⟩
    · cases z
    · obtain ⟨v', h1, h2⟩ := R.frz j e z
      exact ⟨v', by rw [List.getElem?_set_ne (fun z => n z.symm)]; exact h1, Rep.reT (T := atS T w0 a i) (T' := T) rfl h2⟩
  · rcases getElem?_set' q with ⟨_, z⟩ | ⟨n, z⟩
    · cases z
    · obtain ⟨b, h1, h2, h3, h4, h5⟩ := R.own j e z
      exact ⟨b, by rw [List.getElem?_set_ne (fun z => n z.symm)]; exact h1, h2, h3, h4, Con.reT (T := atS T w0 a i) (T' := T) rfl h5⟩
  · rcases getElem?_set' q1 with ⟨_, z⟩ | ⟨n, z⟩
    · cases z
    · rcases getElem?_set' q2 with ⟨_, y⟩ | ⟨n2, y⟩
      · cases y
      · rw [List.getElem?_set_ne (fun z => n z.symm)] at z1
        rw [List.getElem?_set_ne (fun z => n2 z.symm)] at z2
        exact R.apart j k e f b z y z1 z2
  · obtain ⟨h3, h4, h5⟩ := R.obj n d b h1 h2
    exact ⟨h3, h4, Con.reT (T := atS T w0 a i) (T' := T) rfl h5⟩
  · rcases getElem?_set' q with ⟨_, z⟩ | ⟨n, z⟩
    · cases z
    · obtain ⟨b, _, z2⟩ := R.hld j z
      exact absurd (Prod.mk.inj (Option.some.inj z2)).2.symm n
theorem RR.offH {w0 : Wd} {r : Rv} (x : RR (atS T w0 a i) K G w st σ H r v) (n : ∀ j, r = .bor j → j ≠ i) : RR T K G w (st.set i .no) (σ.set i none) H r v := by
  cases r with
  | val d => exact Rep.reT (T := atS T w0 a i) (T' := T) rfl x
  | bor j =>
    have x' : σ[j]? = some (some v) := x
    show (σ.set i none)[j]? = _
    rw [List.getElem?_set_ne (fun z => n j rfl z.symm)]; exact x'
  | fresh d =>
    obtain ⟨b, rfl, h1, h2, h3, h4, h5⟩ := x
    refine ⟨b, rfl, h1, h2, h3, fun j e q z => ?_, Con.reT (T := atS T w0 a i) (T' := T) rfl h5⟩
    rcases getElem?_set' q with ⟨_, y⟩ | ⟨m, y⟩
    · cases y
    · rw [List.getElem?_set_ne (fun z => m z.symm)] at z
      exact h4 j e y z
end

/-- behind a suite -/
def offS (i : Option Nat) (r : SRes) : SRes := match i with
  | none => match r with
    | .ex _ _ => .bad
    | r => r
  | some i => match r with
    | .nx st => .nx (st.set i .no)
    | .bk st => .bk (st.set i .no)
    | .ct st => .ct (st.set i .no)
    | .rt r st => match r with
      | .bor j => if j = i then .bad else .rt (.bor j) (st.set i .no)
      | r => .rt r (st.set i .no)
    | _ => .bad
structure HCl where
  c : Str
  i : Option Nat
  g : Exn → S → SRes
def inH (i : Option Nat) (st : S) : S := match i with
  | none => st
  | some i => st.set i .hd
def tryH (q : Str → Str → Option Bool) : List HCl → Exn → S → SRes
  | [], e, st => .ex e st
  | h :: r, e, st => match q e.c h.c with
    | some true => offS h.i (h.g e (inH h.i st))
    | some false => tryH q r e st
    | none => .bad
/-- the classes of a tuple, and what the table says of them -/
inductive ClsQ (K : PySem.W.Frag) (T : Tx) (q : Str → Str → Option Bool) : List Str → List Value → Prop
  | nil : ClsQ K T q [] []
  | cons {x : Str} {c : Value} {xs : List Str} {cs : List Value} (h : ∀ c1 A k, T.cls c1 = some A → q c1 x = some k → PySem.W.exmOne K (.ref A) c = some k) (r : ClsQ K T q xs cs) : ClsQ K T q (x :: xs) (c :: cs)
/-- the clauses -/
inductive HOk (X : Cx) (T : Tx) (q : Str → Str → Option Bool) : List ExceptHandler → List HCl → Prop
  | nil : HOk X T q [] []
  | bare {x : Str} {c : Value} {g : Exn → S → SRes} {b₀ : Stmt} {suite : List Stmt} {np p : Pos} {hds : List ExceptHandler} {l : List HCl} (hc : Names X x c) (hq : ∀ c1 A k, T.cls c1 = some A → q c1 x = some k → PySem.W.exmOne X.K (.ref A) c = some k)
      (hsu : ∀ (a : Addr) (oe : Obj) (cls : Value) (d : Option Addr) (pn : List (Addr × Obj)) (e : Exn), Zc cls d oe → (∃ vs, oe.data = .fields vs) → DB (X.suite a ((a, oe) :: pn)) T (b₀ :: suite) (g e)) (r : HOk X T q hds l) :
      HOk X T q (.ExceptHandler (some (.Name x np)) none (b₀ :: suite) p :: hds) (⟨x, none, g⟩ :: l)
  | named {x n : Str} {i : Nat} {c : Value} {g : Exn → S → SRes} {b₀ : Stmt} {suite : List Stmt} {np p : Pos} {hds : List ExceptHandler} {l : List HCl} (hc : Names X x c) (hq : ∀ c1 A k, T.cls c1 = some A → q c1 x = some k → PySem.W.exmOne X.K (.ref A) c = some k)
      (hi : X.N[i]? = some n) (hl : X.env.kindOf n = some .local)
      (hsu : ∀ (a : Addr) (oe : Obj) (cls : Value) (d : Option Addr) (pn : List (Addr × Obj)) (e : Exn) (w : Wd), Zc cls d oe → (∃ vs, oe.data = .fields vs) → ExR (atS T w a i) X.K ⟨(atS T w a i).bs, (atS T w a i).bio⟩ e cls d → DB (X.suite a ((a, oe) :: pn)) (atS T w a i) (b₀ :: suite) (g e)) (r : HOk X T q hds l) :
      HOk X T q (.ExceptHandler (some (.Name x np)) (some n) (b₀ :: suite) p :: hds) (⟨x, some i, g⟩ :: l)
  | tup {t : Expr} {n : Str} {i : Nat} {xs : List Str} {cs : List Value} {g : Exn → S → SRes} {b₀ : Stmt} {suite : List Stmt} {p : Pos} {hds : List ExceptHandler} {l : List HCl} (hc : TestOk X t cs) (hq : ClsQ X.K T q xs cs) (tot : ∀ c1 x k, x ∈ xs → q c1 x = some k → ∀ y ∈ xs, ∃ k', q c1 y = some k')
      (hi : X.N[i]? = some n) (hl : X.env.kindOf n = some .local)
      (hsu : ∀ (a : Addr) (oe : Obj) (cls : Value) (d : Option Addr) (pn : List (Addr × Obj)) (e : Exn) (w : Wd), Zc cls d oe → (∃ vs, oe.data = .fields vs) → ExR (atS T w a i) X.K ⟨(atS T w a i).bs, (atS T w a i).bio⟩ e cls d → DB (X.suite a ((a, oe) :: pn)) (atS T w a i) (b₀ :: suite) (g e)) (r : HOk X T q hds l) :
      HOk X T q (.ExceptHandler (some t) (some n) (b₀ :: suite) p :: hds) (xs.map (fun x => ⟨x, some i, g⟩) ++ l)
  | tupb {t : Expr} {xs : List Str} {cs : List Value} {g : Exn → S → SRes} {b₀ : Stmt} {suite : List Stmt} {p : Pos} {hds : List ExceptHandler} {l : List HCl} (hc : TestOk X t cs) (hq : ClsQ X.K T q xs cs) (tot : ∀ c1 x k, x ∈ xs → q c1 x = some k → ∀ y ∈ xs, ∃ k', q c1 y = some k')
      (hsu : ∀ (a : Addr) (oe : Obj) (cls : Value) (d : Option Addr) (pn : List (Addr × Obj)) (e : Exn), Zc cls d oe → (∃ vs, oe.data = .fields vs) → DB (X.suite a ((a, oe) :: pn)) T (b₀ :: suite) (g e)) (r : HOk X T q hds l) :
      HOk X T q (.ExceptHandler (some t) none (b₀ :: suite) p :: hds) (xs.map (fun x => ⟨x, none, g⟩) ++ l)
theorem exmAny_1 {K : PySem.W.Frag} {cls c : Value} {b : Bool} (h : PySem.W.exmOne K cls c = some b) : PySem.W.exmAny K cls [c] = some b := by
  show (match PySem.W.exmOne K cls c, PySem.W.exmAny K cls [] with | some b, some d => some (b || d) | _, _ => none) = some b
  rw [h]
  show some (b || false) = some b
  rw [Bool.or_false]
/-- all classes of the clause are known to the table, or the try is bad -/
theorem tryH_tup {K : PySem.W.Frag} {T : Tx} {q : Str → Str → Option Bool} {e : Exn} {st : S} {A : Addr} {i : Option Nat} {g : Exn → S → SRes} {l : List HCl} (hA : T.cls e.c = some A) : ∀ {xs : List Str} {cs : List Value}, ClsQ K T q xs cs → (∀ y ∈ xs, ∃ k, q e.c y = some k) →
    ∃ b, PySem.W.exmAny K (.ref A) cs = some b ∧ tryH q (xs.map (fun x => ⟨x, i, g⟩) ++ l) e st = if b = true then offS i (g e (inH i st)) else tryH q l e st
  | _, _, .nil, _ => ⟨false, rfl, rfl⟩
  | x :: xs, c :: cs, .cons hq r, tot => by
    obtain ⟨b, h1, h2⟩ := tryH_tup hA (i := i) (g := g) (l := l) (st := st) r fun y m => tot y (List.mem_cons_of_mem _ m)
    obtain ⟨k, hk⟩ := tot x List.mem_cons_self
    refine ⟨k || b, ?_, ?_⟩
    · show (match PySem.W.exmOne K (.ref A) c, PySem.W.exmAny K (.ref A) cs with | some b, some d => some (b || d) | _, _ => none) = _
      rw [hq _ _ _ hA hk, h1]
    · show (match q e.c x with | some true => offS i (g e (inH i st)) | some false => tryH q (xs.map (fun x => HCl.mk x i g) ++ l) e st | none => .bad) = _
      rw [hk]
      cases k with
      | true => rfl
      | false => rw [h2]; rfl
section
variable {X : Cx} {T : Tx} {q : Str → Str → Option Bool} {body : List Stmt} {h₀ : ExceptHandler} {hds : List ExceptHandler} {hs : List HCl} {b : S → SRes} {pos : Pos}
theorem PostS.unhd {G : Hp} {w w' : Wd} {a : Addr} {i : Nat} {En : Ends} {W : WX} {r : SRes} (l : w.le w') (hb : Ex T.bs w'.Hf ∧ Ob T.bio w'.io) (h : PostS T X.K G w (offS (some i) r) En W) :
    PostS (atS T w' a i) X.K G w' r (endI (some i) En) (fun _ _ _ _ => False) := by
  have bs : ∀ {w2 : Wd}, w'.le w2 → Ex T.bs w2.Hf ∧ Ob T.bio w2.io := fun l2 => ⟨hb.1.trans l2.1, hb.2.trans l2.2⟩
  cases r with
  | nx st => exact fun w2 σ2 H2 l2 R2 => h w2 _ H2 (l.trans l2) (R2.offH (bs l2))
  | bk st => exact fun w2 σ2 H2 l2 R2 => h w2 _ H2 (l.trans l2) (R2.offH (bs l2))
  | ct st => exact fun w2 σ2 H2 l2 R2 => h w2 _ H2 (l.trans l2) (R2.offH (bs l2))
  | ex e st => exact h.elim
  | bad => exact h.elim
  | rt r st =>
    cases r with
    | val d => exact fun w2 σ2 H2 v l2 R2 x => h w2 _ H2 v (l.trans l2) (R2.offH (bs l2)) (x.offH fun j z => nomatch z)
    | fresh d => exact fun w2 σ2 H2 v l2 R2 x => h w2 _ H2 v (l.trans l2) (R2.offH (bs l2)) (x.offH fun j z => nomatch z)
    | bor j =>
      by_cases e : j = i
      · have h' : PostS T X.K G w (if j = i then .bad else .rt (.bor j) (st.set i .no)) En W := h
        rw [if_pos e] at h'; exact h'.elim
      · have h' : PostS T X.K G w (if j = i then .bad else .rt (.bor j) (st.set i .no)) En W := h
        rw [if_neg e] at h'
        exact fun w2 σ2 H2 v l2 R2 x => h' w2 _ H2 v (l.trans l2) (R2.offH (bs l2)) (x.offH fun j' z => by cases z; exact e)
/-- the clauses as the hand layer has them -/
theorem HOk.cls (h0 : T.hx = none) (hh : HOk X T q hds hs) : ∃ l : List Cl, ClsOk X hds l ∧ ∀ (G : Hp) (w : Wd) (e : Exn) (st : S) (En : Ends) (W : WX), PostS T X.K G w (tryH q hs e st) En W →
    ∀ (w' : Wd) (σ' : L2.St) (H' : Hp) (cls : Value) (dx : Option Addr), w.le w' → SR T X.K G w' st σ' H' → ExR T X.K w' e cls dx → wCl X.K W En l cls dx σ' H' := by
  induction hh with
  | nil => exact ⟨[], .nil, fun G w e st En W h => h⟩
  | @bare x c g b₀ suite np p hds l hc hq hsu r ih =>
    obtain ⟨l', ok, k⟩ := ih
    refine ⟨⟨[c], none, fun a cls d En σ H => ∃ (e : Exn) (G : Hp) (w : Wd) (st : S), SR T X.K G w st σ H ∧ PostS T X.K G w (g e st) En (fun _ _ _ _ => False)⟩ :: l', .bare (.t1 hc) (fun a oe cls d pn zc fl => ⟨fun pins s σ H En I ⟨e, G, w, st, R, h⟩ =>
      (hsu a oe cls d pn e zc fl).run pins s σ H En I ⟨G, w, st, _, R, takes0, h⟩⟩) ok, fun G w e st En W h w' σ' H' cls dx le R E => ?_⟩
    obtain ⟨⟨A, hA, rfl⟩, _⟩ := id E
    unfold tryH at h
    dsimp only at h
    cases hk : q e.c x with
    | none => rw [hk] at h; exact h.elim
    | some k2 =>
      rw [hk] at h
      refine ⟨k2, exmAny_1 (hq _ _ _ hA hk), fun ek a na => ?_, fun ek => ?_⟩
      · subst ek
        refine ⟨e, G, w', st, R, ?_⟩
        have h' : PostS T X.K G w (offS none (g e st)) En W := h
        cases hr : g e st with
        | nx st2 => rw [hr] at h'; exact (PostS.le (r := .nx st2) h' le : _)
        | bk st2 => rw [hr] at h'; exact (PostS.le (r := .bk st2) h' le : _)
        | ct st2 => rw [hr] at h'; exact (PostS.le (r := .ct st2) h' le : _)
        | rt r2 st2 => rw [hr] at h'; exact (PostS.le (r := .rt r2 st2) h' le : _)
        | ex e2 st2 => rw [hr] at h'; exact h'.elim
        | bad => rw [hr] at h'; exact h'.elim
      · subst ek
        exact k G w e st En W h w' σ' H' _ dx le R E
  | @named x n i c g b₀ suite np p hds l hc hq hi hl hsu r ih =>
    obtain ⟨l', ok, k⟩ := ih
    refine ⟨⟨[c], some i, fun a cls d En σ H => ∃ (e : Exn) (w0 : Wd) (G : Hp) (w : Wd) (st : S), ExR (atS T w0 a i) X.K ⟨(atS T w0 a i).bs, (atS T w0 a i).bio⟩ e cls d ∧ SR (atS T w0 a i) X.K G w st σ H ∧ PostS (atS T w0 a i) X.K G w (g e st) En (fun _ _ _ _ => False)⟩ :: l',
      .named (.t1 hc) hi hl (fun a oe cls d pn zc fl => ⟨fun pins s σ H En I ⟨e, w0, G, w, st, E, R, h⟩ => (hsu a oe cls d pn e w0 zc fl E).run pins s σ H En I ⟨G, w, st, _, R, takes0, h⟩⟩) ok, fun G w e st En W h w' σ' H' cls dx le R E => ?_⟩
    obtain ⟨⟨A, hA, rfl⟩, _⟩ := id E
    unfold tryH at h
    dsimp only at h
    cases hk : q e.c x with
    | none => rw [hk] at h; exact h.elim
    | some k2 =>
      rw [hk] at h
      refine ⟨k2, exmAny_1 (hq _ _ _ hA hk), fun ek a na => ?_, fun ek => ?_⟩
      · subst ek
        exact ⟨e, w', G, w', st.set i .hd, ExR.reT (T := T) (T' := atS T w' a i) rfl E, R.setH h0, PostS.unhd le R.bas h⟩
      · subst ek
        exact k G w e st En W h w' σ' H' _ dx le R E
  | @tup t n i xs cs g b₀ suite p hds l hc hq tot hi hl hsu r ih =>
    obtain ⟨l', ok, k⟩ := ih
    refine ⟨⟨cs, some i, fun a cls d En σ H => ∃ (e : Exn) (w0 : Wd) (G : Hp) (w : Wd) (st : S), ExR (atS T w0 a i) X.K ⟨(atS T w0 a i).bs, (atS T w0 a i).bio⟩ e cls d ∧ SR (atS T w0 a i) X.K G w st σ H ∧ PostS (atS T w0 a i) X.K G w (g e st) En (fun _ _ _ _ => False)⟩ :: l',
      .named hc hi hl (fun a oe cls d pn zc fl => ⟨fun pins s σ H En I ⟨e, w0, G, w, st, E, R, h⟩ => (hsu a oe cls d pn e w0 zc fl E).run pins s σ H En I ⟨G, w, st, _, R, takes0, h⟩⟩) ok, fun G w e st En W h w' σ' H' cls dx le R E => ?_⟩
    obtain ⟨⟨A, hA, rfl⟩, _⟩ := id E
    have known : ∀ y ∈ xs, ∃ k, q e.c y = some k := by
      match xs, tot, h with
      | [], _, _ => exact fun y m => (nomatch m)
      | x :: xs, tot, h =>
        have h : PostS T X.K G w (match q e.c x with | some true => offS (some i) (g e (inH (some i) st)) | some false => tryH q (xs.map (fun x => HCl.mk x (some i) g) ++ l) e st | none => .bad) En W := h
        cases hk : q e.c x with
        | none => rw [hk] at h; exact h.elim
        | some k2 => exact tot _ x _ List.mem_cons_self hk
    obtain ⟨b, h1, h2⟩ := tryH_tup (K := X.K) (i := some i) (g := g) (l := l) (st := st) hA hq known
    rw [h2] at h
    refine ⟨b, h1, fun eb a na => ?_, fun eb => ?_⟩
    · rw [if_pos eb] at h
      exact ⟨e, w', G, w', st.set i .hd, ExR.reT (T := T) (T' := atS T w' a i) rfl E, R.setH h0, PostS.unhd le R.bas h⟩
    · rw [if_neg (by rw [eb]; decide)] at h
      exact k G w e st En W h w' σ' H' _ dx le R E
  | @tupb t xs cs g b₀ suite p hds l hc hq tot hsu r ih =>
    obtain ⟨l', ok, k⟩ := ih
    refine ⟨⟨cs, none, fun a cls d En σ H => ∃ (e : Exn) (G : Hp) (w : Wd) (st : S), SR T X.K G w st σ H ∧ PostS T X.K G w (g e st) En (fun _ _ _ _ => False)⟩ :: l', .bare hc (fun a oe cls d pn zc fl => ⟨fun pins s σ H En I ⟨e, G, w, st, R, h⟩ =>
      (hsu a oe cls d pn e zc fl).run pins s σ H En I ⟨G, w, st, _, R, takes0, h⟩⟩) ok, fun G w e st En W h w' σ' H' cls dx le R E => ?_⟩
    obtain ⟨⟨A, hA, rfl⟩, _⟩ := id E
    have known : ∀ y ∈ xs, ∃ k, q e.c y = some k := by
      match xs, tot, h with
      | [], _, _ => exact fun y m => (nomatch m)
      | x :: xs, tot, h =>
        have h : PostS T X.K G w (match q e.c x with | some true => offS none (g e (inH none st)) | some false => tryH q (xs.map (fun x => HCl.mk x none g) ++ l) e st | none => .bad) En W := h
        cases hk : q e.c x with
        | none => rw [hk] at h; exact h.elim
        | some k2 => exact tot _ x _ List.mem_cons_self hk
    obtain ⟨b, h1, h2⟩ := tryH_tup (K := X.K) (i := none) (g := g) (l := l) (st := st) hA hq known
    rw [h2] at h
    refine ⟨b, h1, fun eb a na => ?_, fun eb => ?_⟩
    · rw [if_pos eb] at h
      refine ⟨e, G, w', st, R, ?_⟩
      have h' : PostS T X.K G w (offS none (g e st)) En W := h
      cases hr : g e st with
      | nx st2 => rw [hr] at h'; exact (PostS.le (r := .nx st2) h' le : _)
      | bk st2 => rw [hr] at h'; exact (PostS.le (r := .bk st2) h' le : _)
      | ct st2 => rw [hr] at h'; exact (PostS.le (r := .ct st2) h' le : _)
      | rt r2 st2 => rw [hr] at h'; exact (PostS.le (r := .rt r2 st2) h' le : _)
      | ex e2 st2 => rw [hr] at h'; exact h'.elim
      | bad => rw [hr] at h'; exact h'.elim
    · rw [if_neg (by rw [eb]; decide)] at h
      exact k G w e st En W h w' σ' H' _ dx le R E
end
end Bv

namespace Bv
open PySem PySem.Spec PyProof.Rows L2

abbrev Tab := List (Str × Str × Bool)
def look2 : Tab → Str → Str → Option Bool
  | [], _, _ => none
  | (a, b, k) :: r, x, y => if a = x ∧ b = y then some k else look2 r x y
def TabOk (T : Tx) (f : Value → Value → Option Bool) (t : Tab) : Prop := ∀ p ∈ t, ∀ A B, T.cls p.1 = some A → T.cls p.2.1 = some B → f (.ref A) (.ref B) = some p.2.2
theorem look2_mem : ∀ {t : Tab} {x y : Str} {k : Bool}, look2 t x y = some k → (x, y, k) ∈ t
  | (a, b, k') :: r, x, y, k, h => by
    unfold look2 at h
    split at h
    · rename_i e
      cases h
      rw [← e.1, ← e.2]; exact List.mem_cons_self ..
    · exact List.mem_cons_of_mem _ (look2_mem h)
theorem TabOk.nil {T : Tx} {f : Value → Value → Option Bool} : TabOk T f [] := fun p h => by cases h
theorem TabOk.cons {T : Tx} {f : Value → Value → Option Bool} {a b : Str} {k : Bool} {A B : Addr} {t : Tab} (ha : T.cls a = some A) (hb : T.cls b = some B) (h : f (.ref A) (.ref B) = some k) (r : TabOk T f t) : TabOk T f ((a, b, k) :: t) := fun p m A' B' e1 e2 => by
  rcases List.mem_cons.mp m with rfl | m
  · have e1' : some A = some A' := ha.symm.trans e1
    have e2' : some B = some B' := hb.symm.trans e2
    cases e1'; cases e2'
    exact h
  · exact r p m A' B' e1 e2
/-- an own class by its name -/
structure ClN (mg : Str → Option Value) (T : Tx) (x : Str) (A : Addr) : Prop where
  g : mg x = some (.ref A)
  t : T.cls x = some A
theorem TabOk.look {T : Tx} {f : Value → Value → Option Bool} {t : Tab} (h : TabOk T f t) {x : Str} {A : Addr} {mg : Str → Option Value} (c : ClN mg T x A) : ∀ c1 B k, T.cls c1 = some B → look2 t c1 x = some k → f (.ref B) (.ref A) = some k :=
  fun c1 B k e q => h _ (look2_mem q) _ _ e c.t
/-- what an error's class says, so that its instances can be asked -/
structure ErrC (K : PySem.W.Frag) (A : Addr) : Prop where
  cl : (PySem.W.clsIn K A).isSome = true
  ga : PySem.W.findIn K (.ref A) "__getattribute__" = some (some (.builtin "BaseException.__getattribute__"))
  gg : PySem.W.findIn K (.ref A) "__getattr__" = some none
  sb : PySem.W.subIn K (.ref A) (.type "BaseException") = some true
  hd : PySem.W.hasDictIn K A = true
  ha : PySem.W.findIn K (.ref A) "__class__" = some (some (.builtin "object.__class__"))
  hn : PySem.W.specialIn K (.builtin "object.__class__") "__get__" = some (some (.builtin "getset_descriptor.__get__"))
  ht : PySem.W.takesIn K (.builtin "object.__class__") = some true
  hm : PySem.W.mroIn K A (.type "object") = some true

def anyS (q : Str → Str → Option Bool) (c : Str) : List Str → Option Bool
  | [] => some false
  | x :: r => match q c x with
    | some true => some true
    | some false => anyS q c r
    | none => none
section
variable {X : Cx} {T : Tx} {q : Str → Str → Option Bool} {i : Nat} {e : Exn} {n x : Str} {p p1 p2 pos : Pos}
/-- names of classes, one after another -/
def tKs (ks : List V) : TA := fun _ H Q => Q ks H
/-- a class's name: what stands for it, and what the table says of it -/
structure ClsE (X : Cx) (T : Tx) (q : Str → Str → Option Bool) (x : Str) (kv : V) (u : Value) : Prop where
  pe : ∀ (X' : Cx) (p : Pos), X'.mg = X.mg → Gl X' x → PE X' (.Name x p) (tC kv)
  cv : ClsV kv u
  tb : ∀ c1 B k, T.cls c1 = some B → q c1 x = some k → PySem.W.kitOne X.K (.ref B) u = some k
inductive ClsL (X : Cx) (T : Tx) (q : Str → Str → Option Bool) : List Expr → List Str → List V → List Value → Prop
  | nil : ClsL X T q [] [] [] []
  | cons {x : Str} {p : Pos} {kv : V} {u : Value} {es : List Expr} {cs : List Str} {ks : List V} {us : List Value} (h : ClsE X T q x kv u) (hg : Gl X x) (hs : starEach (.Name x p :: es) X.env = (false, eval (.Name x p) X.env) :: starEach es X.env) (r : ClsL X T q es cs ks us) : ClsL X T q (.Name x p :: es) (x :: cs) (kv :: ks) (u :: us)
theorem ClsL.pa {es : List Expr} {cs : List Str} {ks : List V} {us : List Value} (h : ClsL X T q es cs ks us) : PA X es (tKs ks) := by
  induction h with
  | nil => exact PA.imp pa_nil fun σ H Q h => h
  | cons h hg hs r ih => exact PA.imp (pa_cons (h.pe X _ rfl hg) ih hs) fun σ H Q h => h
theorem ClsL.any {es : List Expr} {cs : List Str} {ks : List V} {us : List Value} (h : ClsL X T q es cs ks us) {c1 : Str} {B : Addr} (hB : T.cls c1 = some B) : ∀ {b : Bool}, anyS q c1 cs = some b → PySem.W.kitAny X.K (.ref B) us = some b := by
  induction h with
  | nil => intro b e; exact e
  | @cons x p kv u es cs ks us h hg hs r ih =>
    intro b e
    unfold anyS at e
    unfold PySem.W.kitAny
    cases e2 : q c1 x with
    | none => rw [e2] at e; cases e
    | some k =>
      rw [e2] at e
      rw [h.tb c1 B k hB e2]
      cases k with
      | true => exact e
      | false => exact ih e
end
end Bv
namespace Bv
open PySem PySem.Spec PyProof.Rows L2
def RaisedOk (K : PySem.W.Frag) (T : Tx) (Ds : List Str) : Prop := ∀ D ∈ Ds, ∀ B, T.cls D = some B → ErrC K B
theorem RaisedOk.nil {K : PySem.W.Frag} {T : Tx} : RaisedOk K T [] := fun _ h => by cases h
theorem RaisedOk.cons {K : PySem.W.Frag} {T : Tx} {D : Str} {B : Addr} {Ds : List Str} (hb : T.cls D = some B) (h : ErrC K B) (r : RaisedOk K T Ds) : RaisedOk K T (D :: Ds) := fun x m B' e => by
  rcases List.mem_cons.mp m with rfl | m
  · rw [hb] at e; cases e; exact h
  · exact r x m B' e
def FieldsOk (K : PySem.W.Frag) (T : Tx) (t : Tab) : Prop := ∀ p ∈ t, ∀ B, T.cls p.1 = some B → PySem.W.findIn K (.ref B) p.2.1 = some none
theorem FieldsOk.nil {K : PySem.W.Frag} {T : Tx} : FieldsOk K T [] := fun _ h => by cases h
theorem FieldsOk.cons {K : PySem.W.Frag} {T : Tx} {D f : Str} {k : Bool} {B : Addr} {t : Tab} (hb : T.cls D = some B) (h : PySem.W.findIn K (.ref B) f = some none) (r : FieldsOk K T t) : FieldsOk K T ((D, f, k) :: t) := fun x m B' e => by
  rcases List.mem_cons.mp m with rfl | m
  · have e' : some B = some B' := hb.symm.trans e
    cases e'; exact h
  · exact r x m B' e
end Bv
namespace Bv
open PySem PySem.Spec PyProof.Rows L2
/-- what isinstance says of a built-in class x -/
def BltOk (T : Tx) (f : Value → Option Bool) (x : Str) (t : Tab) : Prop := ∀ p ∈ t, p.2.1 = x → ∀ A, T.cls p.1 = some A → f (.ref A) = some p.2.2
theorem BltOk.nil {T : Tx} {f : Value → Option Bool} {x : Str} : BltOk T f x [] := fun p h => by cases h
theorem BltOk.cons {T : Tx} {f : Value → Option Bool} {x a : Str} {k : Bool} {A : Addr} {t : Tab} (ha : T.cls a = some A) (h : f (.ref A) = some k) (r : BltOk T f x t) : BltOk T f x ((a, x, k) :: t) := fun p m ex A' e1 => by
  rcases List.mem_cons.mp m with rfl | m
  · have e1' : some A = some A' := ha.symm.trans e1
    cases e1'; exact h
  · exact r p m ex A' e1
theorem BltOk.skip {T : Tx} {f : Value → Option Bool} {x a b : Str} {k : Bool} {t : Tab} (hn : b ≠ x) (r : BltOk T f x t) : BltOk T f x ((a, b, k) :: t) := fun p m ex A' e1 => by
  rcases List.mem_cons.mp m with rfl | m
  · exact absurd ex hn
  · exact r p m ex A' e1
theorem BltOk.look {T : Tx} {f : Value → Option Bool} {x : Str} {t : Tab} (h : BltOk T f x t) : ∀ c1 B k, T.cls c1 = some B → look2 t c1 x = some k → f (.ref B) = some k := fun c1 B k e q => h _ (look2_mem q) rfl B e
end Bv

namespace Bv
open PySem PySem.Spec PyProof.Rows L2
mutual
/-- data that repr shows, no deeper than n -/
def gD : Nat → D → Bool
  | _, .non => true
  | _, .bl _ => true
  | _, .int _ => true
  | _, .str _ => true
  | n, .tup xs => match n with
    | 0 => false
    | n + 1 => gL n xs
  | n, .lst xs => match n with
    | 0 => false
    | n + 1 => gL n xs
  | n, .dic es => match n with
    | 0 => false
    | n + 1 => gK n es
  | _, _ => false
def gL : Nat → List D → Bool
  | _, [] => true
  | n, x :: xs => gD n x && gL n xs
def gK : Nat → List (D × D) → Bool
  | _, [] => true
  | n, (k, x) :: xs => ((keyOf k).isSome && gD n x) && gK n xs
end
/-- x is shown as d -/
structure Sh (P : Program) (w : World) (h : Heap) (u : Value) (d : PyData) : Prop where
  r : ∃ as bs, Reads h u d as ∧ ReadAtMost h d.depth bs ∧ ReprK P w bs h d.depth u d.shown
  s : ∀ a, u = .ref a → ∃ T idr, ShowsBy P w h a d T idr
structure ShL (P : Program) (w : World) (h : Heap) (us : List Value) (ds : List PyData) : Prop where
  r : ∃ as bs, ReadsAll h us ds as ∧ ReadAtMost h (PyData.depthAll ds) bs ∧ ReprAllK P w bs h (PyData.depthAll ds) us (PyData.shownAll ds)
section
variable {P : Program} {w : World} {h : Heap}
theorem Sh.cons {u : Value} {us : List Value} {d : PyData} {ds : List PyData} (a : Sh P w h u d) (b : ShL P w h us ds) : ShL P w h (u :: us) (d :: ds) := by
  obtain ⟨a1, b1, r1, m1, k1⟩ := a.r
  obtain ⟨a2, b2, r2, m2, k2⟩ := b.r
  refine ⟨a1 ++ a2, b1 ++ b2, .cons r1 r2, ?_, ?_⟩
  · show ReadAtMost h (Nat.max d.depth (PyData.depthAll ds)) (b1 ++ b2)
    exact (m1.mono (Nat.le_max_left _ _)).append (m2.mono (Nat.le_max_right _ _))
  · show ReprAllK P w (b1 ++ b2) h (Nat.max d.depth (PyData.depthAll ds)) (u :: us) (d.shown :: PyData.shownAll ds)
    exact .cons ((k1.more fun b m => List.mem_append_left _ m).level_le (Nat.le_max_left _ _)) (k2.more_le (fun b m => List.mem_append_right _ m) (Nat.le_max_right _ _))
theorem sh_lst {a : Addr} {o : Obj} {us : List Value} {n : Nat} {ds : List PyData} (h1 : h.get? a = some o) (h2 : o.cls = .type "list") (h3 : o.data = .seq us.toArray n) (L : ShL P w h us ds) (hz : (PyData.list ds).shown.length ≤ sizeLine) : Sh P w h (.ref a) (.list ds) := by
  obtain ⟨as, bs, rs, ms, ks⟩ := L.r
  have rd : Reads h (.ref a) (.list ds) (a :: as) := .list h1 h2 h3 (by simpa using rs)
  have fresh : a ∉ bs := not_mem_of_deeper rd (by simp only [PyData.depth]; omega) ms
  have line : (listText (PyData.shownAll ds)).length ≤ sizeLine := by simpa only [PyData.shown] using hz
  constructor
  · refine ⟨a :: as, a :: bs, rd, ReadAtMost.cons rd (by simp only [PyData.depth]; omega) ms, ?_⟩
    simp only [PyData.depth, PyData.shown]
    cases us with
    | nil =>
      cases rs
      simp only [PyData.shownAll, listText_nil]
      exact ReprK.listEmpty h1 h2 h3
    | cons x l => exact ReprK.list h1 h2 h3 fresh (by simpa using ks.length_eq) fun i y e => ks.item i y (by simpa using e)
  · intro a' e
    cases e
    refine ⟨"list", "list.__repr__", F.slot_list_repr.toG, F.slot_list_str, F.slot_list_format, fun s k => ⟨o, k _ _ h1, h2⟩, fun A E s Q g u k q => ?_⟩
    simp only [PyData.depth] at u
    simp only [PyData.shown] at q
    cases us with
    | nil =>
      cases rs
      simp only [PyData.shownAll, listText_nil] at q
      exact call_list_repr_empty ⟨o, k _ _ h1, h2⟩ (k _ _ h1) h3 (q s.heap _ _ fun _ _ e => e)
    | cons x l => exact call_list_reprK h1 h2 h3 fresh (by simpa using ks.length_eq) (fun i y e => ks.item i y (by simpa using e)) g (fun b _ => Clear.nil b) u k q line
theorem sh_tup {a : Addr} {o : Obj} {us : Array Value} {n : Nat} {ds : List PyData} (h1 : h.get? a = some o) (h2 : o.cls = .type "tuple") (h3 : o.data = .seq us n) (L : ShL P w h us.toList ds) (hz : (PyData.tuple ds).shown.length ≤ sizeLine) : Sh P w h (.ref a) (.tuple ds) := by
  obtain ⟨as, bs, rs, ms, ks⟩ := L.r
  have rd : Reads h (.ref a) (.tuple ds) as := .tuple h1 h2 h3 rs
  have fresh : a ∉ bs := not_mem_of_deeper rd (by simp only [PyData.depth]; omega) ms
  have line : (tupleText (PyData.shownAll ds)).length ≤ sizeLine := by simpa only [PyData.shown] using hz
  constructor
  · refine ⟨as, a :: bs, rd, ReadAtMost.cons rd (by simp only [PyData.depth]; omega) ms, ?_⟩
    simp only [PyData.depth, PyData.shown]
    exact ReprK.tuple h1 h2 h3 fresh ks
  · intro a' e
    cases e
    refine ⟨"tuple", "tuple.__repr__", F.slot_tuple_repr, F.slot_tuple_str, F.slot_tuple_format, fun s k => ⟨o, k _ _ h1, h2⟩, fun A E s Q g u k q => ?_⟩
    simp only [PyData.depth] at u
    simp only [PyData.shown] at q
    exact call_tuple_reprK h1 h2 h3 fresh ks g (fun b _ => Clear.nil b) u k q line
theorem sh_dic {a : Addr} {o : Obj} {es : Array DictEntry} {n : Nat} {kvs : List (PyData × PyData)} (h1 : h.get? a = some o) (h2 : o.cls = .type "dict") (h3 : o.data = .dict es n) (hs : (a == sysModules) = false) (L : ShL P w h (es.toList.map (·.key)) (kvs.map (·.1))) (M : ShL P w h (es.toList.map (·.val)) (kvs.map (·.2))) (hz : (PyData.dict kvs).shown.length ≤ sizeLine) : Sh P w h (.ref a) (.dict kvs) := by
  obtain ⟨a1, b1, r1, m1, k1⟩ := L.r
  obtain ⟨a2, b2, r2, m2, k2⟩ := M.r
  have rd : Reads h (.ref a) (.dict kvs) (a :: a1 ++ a2) := .dict h1 h2 h3 r1 r2
  have ms : ReadAtMost h (PyData.depthKv kvs) (b1 ++ b2) := (m1.mono (PyData.depthAll_keys_le kvs)).append (m2.mono (PyData.depthAll_vals_le kvs))
  have fresh : a ∉ b1 ++ b2 := not_mem_of_deeper rd (by simp only [PyData.depth]; omega) ms
  have line : (dictText (PyData.shownKv kvs)).length ≤ sizeLine := by simpa only [PyData.shown] using hz
  have ents := ReprEntriesK.of_two es.toList _ _ (k1.more_le (as' := b1 ++ b2) (fun b m => List.mem_append_left _ m) (PyData.depthAll_keys_le kvs)) (k2.more_le (as' := b1 ++ b2) (fun b m => List.mem_append_right _ m) (PyData.depthAll_vals_le kvs))
  constructor
  · refine ⟨_, a :: (b1 ++ b2), rd, ReadAtMost.cons rd (by simp only [PyData.depth]; omega) ms, ?_⟩
    simp only [PyData.depth, PyData.shown, PyData.shownKv_eq]
    exact ReprK.dict h1 h2 h3 hs fresh ents
  · intro a' e
    cases e
    refine ⟨"dict", "dict.__repr__", F.slot_dict_repr, F.slot_dict_str, F.slot_dict_format, fun s k => ⟨o, k _ _ h1, h2⟩, fun A E s Q g u k q => ?_⟩
    simp only [PyData.depth] at u
    simp only [PyData.shown, PyData.shownKv_eq] at q
    exact call_dict_reprK h1 h2 h3 hs fresh ents g (fun b _ => Clear.nil b) u k q (by rw [← PyData.shownKv_eq]; exact line)
theorem sh_is {u : Value} {d : PyData} (r : Reads h u d []) (i : ReprIs P w u d.shown) (hn : ∀ a, u ≠ .ref a) : Sh P w h u d :=
  ⟨⟨[], [], r, fun _ m => (nomatch m), .of_is i _ _ _⟩, fun a e => absurd e (hn a)⟩
end
theorem shown_part {ds : List PyData} {d : PyData} {k : Nat} (h : ∀ t ∈ PyData.shownAll (d :: ds), t.length ≤ k) : d.shown.length ≤ k ∧ ∀ t ∈ PyData.shownAll ds, t.length ≤ k :=
  ⟨h _ (by simp only [PyData.shownAll]; exact List.mem_cons_self ..), fun t m => h t (by simp only [PyData.shownAll]; exact List.mem_cons_of_mem _ m)⟩
section
variable {X : Cx} {pins : List (Addr × Obj)} {σ : L2.St} {H : Hp} {s : Shared} {T : Tx} {io : List Addr}
mutual
theorem Rep.shows (I : Inv X pins σ H s) : ∀ {n : Nat} {v : V} {d : D}, Rep T X.K io H v d → gD n d = true → ∀ u, RelV v u → (py d).showable = true → (py d).shown.length ≤ sizeLine → Sh X.prog X.w s.heap u (py d)
  | _, _, _, .non, _, u, r, _, _ => by cases r; exact sh_is .none (by simp only [py, PyData.shown]; exact ReprIs.none) (fun a z => nomatch z)
  | _, _, _, .bl b, _, u, r, _, _ => by cases r; exact sh_is (.bool b) (by simp only [py, PyData.shown]; exact ReprIs.bool b) (fun a z => nomatch z)
  | _, _, _, .int i, _, u, r, hs, _ => by
    obtain ⟨t, rfl⟩ := r
    exact sh_is (.int i t) (by simp only [py, PyData.shown]; exact ReprIs.int t (by simpa [py, PyData.showable] using hs)) (fun a z => nomatch z)
  | _, _, _, .str x, _, u, r, _, hz => by
    obtain ⟨t, rfl⟩ := r
    exact sh_is (.str x t) (by simp only [py, PyData.shown]; exact ReprIs.str x t (by simpa only [py, PyData.shown] using hz)) (fun a z => nomatch z)
  | n, _, _, .tup h q, g, u, r, hs, hz => by
    cases n with
    | zero => simp [gD] at g
    | succ n =>
      cases r
      obtain ⟨its, rv, ⟨o, ho, hc, k, hd⟩, _⟩ := I.tuple (SqT.of h)
      simp only [py] at hs hz ⊢
      refine sh_tup ho hc hd (RepL.shows I (n := n) q (by simpa only [gD] using g) _ (by simpa using rv) (by simpa [PyData.showable] using hs) fun t m => Nat.le_trans (tupleText_mem_le m) ?_) hz
      simpa only [PyData.shown] using hz
  | n, _, _, .lst h q, g, u, r, hs, hz => by
    cases n with
    | zero => simp [gD] at g
    | succ n =>
      cases r
      obtain ⟨its, rv, ⟨o, k, ho, hc, _, hd⟩, _⟩ := I.list (SqL.of h)
      simp only [py] at hs hz ⊢
      refine sh_lst ho hc hd (RepL.shows I (n := n) q (by simpa only [gD] using g) _ rv (by simpa [PyData.showable] using hs) fun t m => Nat.le_trans (listText_mem_le m) ?_) hz
      simpa only [PyData.shown] using hz
  | n, _, _, .dicK (a := a) (kvs := kvs) (es := es) h q, g, u, r, hs, hz => by
    cases n with
    | zero => simp [gD] at g
    | succ n =>
      cases r
      obtain ⟨_, sy, vs, kv, o, ens, ep, ho, hx, hd, _, prs, _⟩ := (show ObjOk X.prog X.w H s.heap a (.dK kvs) from I.hok a _ h)
      simp only [py] at hs hz ⊢
      obtain ⟨s1, s2⟩ := PyData.showableKv_split _ (by simpa [PyData.showable] using hs)
      have line : (dictText (PyData.shownKv (pyK es))).length ≤ sizeLine := by simpa only [PyData.shown] using hz
      have two := RepK.shows I (n := n) q (by simpa only [gD] using g) vs ens.toList kv prs s1 s2 (fun t m => let ⟨p, hp, hl⟩ := PyData.shownKv_key_le _ t m; Nat.le_trans hl (Nat.le_trans (dictText_mem_le hp) line)) fun t m => let ⟨p, hp, hl⟩ := PyData.shownKv_val_le _ t m; Nat.le_trans hl (Nat.le_trans (dictText_mem_le hp) line)
      exact sh_dic ho hx.1 hd sy two.1 two.2 hz
  | n, _, _, .rol h q, g, _, _, _, _ => by cases n <;> simp [gD] at g
  | n, _, _, .dicT h q, g, _, _, _, _ => by cases n <;> simp [gD] at g
  | n, _, _, .ins _ _ _, g, _, _, _, _ => by cases n <;> simp [gD] at g
  | n, _, _, .exv _ _ _ _, g, _, _, _, _ => by cases n <;> simp [gD] at g
  | n, _, _, .ob _, g, _, _, _, _ => by cases n <;> simp [gD] at g
  | n, _, _, .cl _, g, _, _, _, _ => by cases n <;> simp [gD] at g
theorem RepL.shows (I : Inv X pins σ H s) : ∀ {n : Nat} {vs : List V} {ds : List D}, RepL T X.K io H vs ds → gL n ds = true → ∀ us, Vals vs us → PyData.showableAll (pyL ds) = true → (∀ t ∈ PyData.shownAll (pyL ds), t.length ≤ sizeLine) → ShL X.prog X.w s.heap us (pyL ds)
  | _, _, _, .nil, _, us, r, _, _ => by
    cases r
    simp only [pyL]
    exact ⟨[], [], .nil, fun _ m => (nomatch m), .nil⟩
  | n, _, _, .cons h q, g, us, r, hs, hz => by
    cases r with
    | cons r1 r2 =>
      simp only [gL, Bool.and_eq_true] at g
      simp only [pyL, PyData.showableAll, Bool.and_eq_true] at hs
      simp only [pyL] at hz ⊢
      exact (Rep.shows I h g.1 _ r1 hs.1 (shown_part hz).1).cons (RepL.shows I q g.2 _ r2 hs.2 (shown_part hz).2)
theorem RepK.shows (I : Inv X pins σ H s) : ∀ {n : Nat} {kvs : List (Key × V)} {es : List (D × D)}, RepK T X.K io H kvs es → gK n es = true → ∀ (vs : List (Key × Value)) (ens : List DictEntry), KV kvs vs → Pairs (mixKind X.prog X.w) ens vs →
    PyData.showableAll ((pyK es).map (·.1)) = true → PyData.showableAll ((pyK es).map (·.2)) = true → (∀ t ∈ PyData.shownAll ((pyK es).map (·.1)), t.length ≤ sizeLine) → (∀ t ∈ PyData.shownAll ((pyK es).map (·.2)), t.length ≤ sizeLine) →
    ShL X.prog X.w s.heap (ens.map (·.key)) ((pyK es).map (·.1)) ∧ ShL X.prog X.w s.heap (ens.map (·.val)) ((pyK es).map (·.2))
  | _, _, _, .nil, _, vs, ens, kv, pr, _, _, _, _ => by
    cases kv
    cases pr
    simp only [pyK, List.map_nil]
    exact ⟨⟨[], [], .nil, fun _ m => (nomatch m), .nil⟩, ⟨[], [], .nil, fun _ m => (nomatch m), .nil⟩⟩
  | n, _, _, .cons (k := k) h q, g, vs, ens, kv, pr, s1, s2, z1, z2 => by
    cases kv with
    | cons hk hr =>
      obtain ⟨e1, rv⟩ := hk
      cases pr with
      | cons ik iv rest =>
        simp only [gK, Bool.and_eq_true] at g
        simp only [pyK, List.map_cons, PyData.showableAll, Bool.and_eq_true] at s1 s2
        simp only [pyK, List.map_cons] at z1 z2 ⊢
        obtain ⟨t1, t2⟩ := RepK.shows I q g.2 _ _ hr rest s1.2 s2.2 (shown_part z1).2 (shown_part z2).2
        rw [← e1] at ik
        have key : Sh X.prog X.w s.heap (DictEntry.key ‹DictEntry›) (py (kD k)) := by
          rcases keyIs_shape ik with ⟨i, t, rfl, ev⟩ | ⟨x, t, rfl, ev⟩
          · rw [ev]
            exact sh_is (.int i t) (by simp only [kD, py, PyData.shown]; exact ReprIs.int t (by simpa [kD, py, PyData.showable] using s1.1)) (fun a z => nomatch z)
          · rw [ev]
            exact sh_is (.str x t) (by simp only [kD, py, PyData.shown]; exact ReprIs.str x t (by simpa only [kD, py, PyData.shown] using (shown_part z1).1)) (fun a z => nomatch z)
        refine ⟨key.cons t1, ?_⟩
        rw [iv]
        exact (Rep.shows I h g.1.2 _ rv s2.1 (shown_part z2).1).cons t2
end
end

def composite : D → Bool
  | .lst _ => true
  | .tup _ => true
  | .dic _ => true
  | _ => false
def reprG (d : D) : Option Rv := match d with
  | .int i => if i.natAbs.log2 < 1920 then some (.val (.str (Str.ofString (toString i)))) else none
  | .bl b => some (.val (.str (if b then Str.ofString "True" else Str.ofString "False")))
  | .non => some (.val (.str (Str.ofString "None")))
  | .str x => if (reprText x).length ≤ sizeLine then some (.val (.str (reprText x))) else none
  | d => if composite d = true ∧ gD 60 d = true ∧ (py d).showable = true ∧ (py d).shown.length ≤ sizeLine then some (.val (.str (py d).shown)) else none
mutual
theorem gD_depth : ∀ (n : Nat) (d : D), gD n d = true → (py d).depth ≤ n
  | n, .non, _ => by simp only [py, PyData.depth]; omega
  | n, .bl _, _ => by simp only [py, PyData.depth]; omega
  | n, .int _, _ => by simp only [py, PyData.depth]; omega
  | n, .str _, _ => by simp only [py, PyData.depth]; omega
  | 0, .tup xs, h => by simp [gD] at h
  | n + 1, .tup xs, h => by
    have := gL_depth n xs (by simpa only [gD] using h)
    simp only [py, PyData.depth]; omega
  | 0, .lst xs, h => by simp [gD] at h
  | n + 1, .lst xs, h => by
    have := gL_depth n xs (by simpa only [gD] using h)
    simp only [py, PyData.depth]; omega
  | 0, .dic xs, h => by simp [gD] at h
  | n + 1, .dic xs, h => by
    have := gK_depth n xs (by simpa only [gD] using h)
    simp only [py, PyData.depth]; omega
  | _, .dit _, h => by simp [gD] at h
  | _, .dmx _, h => by simp [gD] at h
  | _, .ins _ _, h => by simp [gD] at h
  | _, .exv _ _, h => by simp [gD] at h
  | _, .ob _, h => by simp [gD] at h
  | _, .cl _, h => by simp [gD] at h
  | _, .rol _, h => by simp [gD] at h
theorem gL_depth : ∀ (n : Nat) (d : List D), gL n d = true → PyData.depthAll (pyL d) ≤ n
  | n, [], _ => by simp only [pyL, PyData.depthAll]; omega
  | n, x :: xs, h => by
    simp only [gL, Bool.and_eq_true] at h
    have h1 := gD_depth n x h.1
    have h2 := gL_depth n xs h.2
    simp only [pyL, PyData.depthAll]
    exact Nat.max_le.mpr ⟨h1, h2⟩
theorem gK_depth : ∀ (n : Nat) (d : List (D × D)), gK n d = true → PyData.depthKv (pyK d) ≤ n
  | n, [], _ => by simp only [pyK, PyData.depthKv]; omega
  | n, (k, x) :: xs, h => by
    simp only [gK, Bool.and_eq_true] at h
    have h1 := gD_depth n x h.1.2
    have h2 := gK_depth n xs h.2
    have h3 : (py k).depth = 0 := by
      cases k with
      | int i => simp only [py, PyData.depth]
      | str x => simp only [py, PyData.depth]
      | _ => simp [keyOf] at h
    simp only [pyK, PyData.depthKv, h3]
    exact Nat.max_le.mpr ⟨Nat.max_le.mpr ⟨Nat.zero_le _, h1⟩, h2⟩
end
section
variable {X : Cx} {T : Tx} {K : PySem.W.Frag} {G : Hp} {w : Wd} {st : S} {σ : L2.St} {H : Hp} {v : V} {d : D}
end

mutual
/-- data whose ints have at most k digits -/
def okG (k : Nat) : Nat → D → Bool
  | _, .non => true
  | _, .bl _ => true
  | _, .int i => decide (i.natAbs < 10 ^ k)
  | _, .str x => PyData.strOk (reprText x)
  | n, .tup xs => match n with
    | 0 => false
    | n + 1 => okGL k n xs
  | n, .lst xs => match n with
    | 0 => false
    | n + 1 => okGL k n xs
  | n, .dic es => match n with
    | 0 => false
    | n + 1 => okGK k n es
  | _, _ => false
def okGL (k : Nat) : Nat → List D → Bool
  | _, [] => true
  | n, x :: xs => okG k n x && okGL k n xs
def okGK (k : Nat) : Nat → List (D × D) → Bool
  | _, [] => true
  | n, (a, x) :: xs => (((keyOf a).isSome && okG k n a) && okG k n x) && okGK k n xs
end
mutual
def szG (k : Nat) : D → Nat
  | .int _ => k + 1
  | .str x => (reprText x).length
  | .tup xs => szGL k xs + 4
  | .lst xs => szGL k xs + 4
  | .dic es => szGK k es + 4
  | _ => 5
def szGL (k : Nat) : List D → Nat
  | [] => 0
  | x :: xs => szG k x + 2 + szGL k xs
def szGK (k : Nat) : List (D × D) → Nat
  | [] => 0
  | (a, x) :: xs => szG k a + szG k x + 4 + szGK k xs
end
theorem okGL_all {k n : Nat} : ∀ {xs : List D}, okGL k n xs = true ↔ ∀ x ∈ xs, okG k n x = true
  | [] => by simp [okGL]
  | x :: xs => by simp [okGL, okGL_all]
theorem szGL_le {k m : Nat} : ∀ {xs : List D}, (∀ x ∈ xs, szG k x ≤ m) → szGL k xs ≤ xs.length * (m + 2)
  | [], _ => by simp [szGL]
  | x :: xs, h => by
    have h1 := h x (List.mem_cons_self ..)
    have h2 := szGL_le (xs := xs) fun y m => h y (List.mem_cons_of_mem _ m)
    rw [szGL, List.length_cons, Nat.add_mul]
    omega
theorem len_dictText (ts : List Str) : (dictText ts).length ≤ piled ts + 4 := by
  unfold dictText
  rw [strLen_append, strLen_append, len_of, len_of]
  have e1 : ("{" : String).length = 1 := rfl
  have e2 : ("}" : String).length = 1 := rfl
  by_cases h : ts = []
  · subst h
    have e3 : (Str.join (Str.ofString ", ") []).length = 0 := rfl
    rw [e3]
    omega
  · have e4 := join_length_add ts h
    omega
theorem ok_dictText {ts : List Str} (h : ∀ t ∈ ts, PyData.strOk t = true) : PyData.strOk (dictText ts) = true := ok_append (ok_append (ok_of _) (ok_join (ok_of _) ts h)) (ok_of _)
mutual
theorem okG_show {k : Nat} (hk : 0 < k) (hk2 : k ≤ 500) : ∀ (n : Nat) (d : D), okG k n d = true → gD n d = true ∧ (py d).showable = true ∧ (py d).shown.length ≤ szG k d ∧ PyData.strOk (py d).shown = true
  | _, .non, _ => ⟨by simp [gD], rfl, by show (Str.ofString "None").length ≤ 5; rw [len_of]; decide, ok_of _⟩
  | _, .bl b, _ => by
    cases b
    · exact ⟨by simp [gD], rfl, by show (Str.ofString "False").length ≤ 5; rw [len_of]; decide, ok_of _⟩
    · exact ⟨by simp [gD], rfl, by show (Str.ofString "True").length ≤ 5; rw [len_of]; decide, ok_of _⟩
  | _, .int i, h => by
    simp only [okG, decide_eq_true_eq] at h
    simp only [py, PyData.showable, PyData.shown, szG, decide_eq_true_eq]
    exact ⟨by simp [gD], log_small h hk2, by rw [len_of]; exact int_text_length_le10 hk h, ok_of _⟩
  | _, .str x, h => by
    simp only [okG] at h
    simp only [py, PyData.showable, PyData.shown, szG]
    exact ⟨by simp [gD], trivial, Nat.le_refl _, h⟩
  | 0, .tup xs, h => by simp [okG] at h
  | n + 1, .tup xs, h => by
    simp only [okG] at h
    obtain ⟨h1, h2, h3, h4⟩ := okGL_show hk hk2 n xs h
    simp only [py, PyData.showable, PyData.shown, szG, gD]
    exact ⟨h1, h2, Nat.le_trans (len_tupleText _) (by omega), ok_tupleText h4⟩
  | 0, .lst xs, h => by simp [okG] at h
  | n + 1, .lst xs, h => by
    simp only [okG] at h
    obtain ⟨h1, h2, h3, h4⟩ := okGL_show hk hk2 n xs h
    simp only [py, PyData.showable, PyData.shown, szG, gD]
    exact ⟨h1, h2, Nat.le_trans (len_listText _) (by omega), ok_listText h4⟩
  | 0, .dic xs, h => by simp [okG] at h
  | n + 1, .dic xs, h => by
    simp only [okG] at h
    obtain ⟨h1, h2, h3, h4⟩ := okGK_show hk hk2 n xs h
    simp only [py, PyData.showable, PyData.shown, szG, gD]
    exact ⟨h1, h2, Nat.le_trans (len_dictText _) (by omega), ok_dictText h4⟩
  | _, .dit _, h => by simp [okG] at h
  | _, .dmx _, h => by simp [okG] at h
  | _, .ins _ _, h => by simp [okG] at h
  | _, .exv _ _, h => by simp [okG] at h
  | _, .ob _, h => by simp [okG] at h
  | _, .cl _, h => by simp [okG] at h
  | _, .rol _, h => by simp [okG] at h
theorem okGL_show {k : Nat} (hk : 0 < k) (hk2 : k ≤ 500) : ∀ (n : Nat) (xs : List D), okGL k n xs = true → gL n xs = true ∧ PyData.showableAll (pyL xs) = true ∧ piled (PyData.shownAll (pyL xs)) ≤ szGL k xs ∧ ∀ t ∈ PyData.shownAll (pyL xs), PyData.strOk t = true
  | _, [], _ => ⟨by simp [gL], rfl, by simp [pyL, PyData.shownAll, piled, szGL], by simp [pyL, PyData.shownAll]⟩
  | n, x :: xs, h => by
    simp only [okGL, Bool.and_eq_true] at h
    obtain ⟨a1, a2, a3, a4⟩ := okG_show hk hk2 n x h.1
    obtain ⟨b1, b2, b3, b4⟩ := okGL_show hk hk2 n xs h.2
    simp only [gL, pyL, PyData.showableAll, PyData.shownAll, szGL, Bool.and_eq_true, piled_cons]
    refine ⟨⟨a1, b1⟩, ⟨a2, b2⟩, by omega, fun t m => ?_⟩
    rcases List.mem_cons.mp m with rfl | m
    · exact a4
    · exact b4 t m
theorem okGK_show {k : Nat} (hk : 0 < k) (hk2 : k ≤ 500) : ∀ (n : Nat) (xs : List (D × D)), okGK k n xs = true → gK n xs = true ∧ PyData.showableKv (pyK xs) = true ∧ piled (PyData.shownKv (pyK xs)) ≤ szGK k xs ∧ ∀ t ∈ PyData.shownKv (pyK xs), PyData.strOk t = true
  | _, [], _ => ⟨by simp [gK], by simp [pyK, PyData.showableKv], by simp [pyK, PyData.shownKv, piled, szGK], by simp [pyK, PyData.shownKv]⟩
  | n, (a, x) :: xs, h => by
    simp only [okGK, Bool.and_eq_true] at h
    obtain ⟨k1, k2, k3, k4⟩ := okG_show hk hk2 n a h.1.1.2
    obtain ⟨a1, a2, a3, a4⟩ := okG_show hk hk2 n x h.1.2
    obtain ⟨b1, b2, b3, b4⟩ := okGK_show hk hk2 n xs h.2
    simp only [gK, pyK, PyData.showableKv, PyData.shownKv, szGK, Bool.and_eq_true, piled_cons, strLen_append, len_of]
    have e1 : (": " : String).length = 2 := rfl
    refine ⟨⟨⟨h.1.1.1, a1⟩, b1⟩, ⟨⟨k2, a2⟩, b2⟩, by omega, fun t m => ?_⟩
    rcases List.mem_cons.mp m with rfl | m
    · exact ok_append (ok_append k4 (ok_of _)) a4
    · exact b4 t m
end
mutual
theorem gD_up : ∀ (n m : Nat) (d : D), n ≤ m → gD n d = true → gD m d = true
  | n, m, .non, _, _ => by simp [gD]
  | n, m, .bl _, _, _ => by simp [gD]
  | n, m, .int _, _, _ => by simp [gD]
  | n, m, .str x, _, h => by simp [gD]
  | 0, _, .tup xs, _, h => by simp [gD] at h
  | n + 1, 0, .tup xs, l, _ => absurd l (by omega)
  | n + 1, m + 1, .tup xs, l, h => by
    simp only [gD] at h ⊢
    exact gL_up n m xs (by omega) h
  | 0, _, .lst xs, _, h => by simp [gD] at h
  | n + 1, 0, .lst xs, l, _ => absurd l (by omega)
  | n + 1, m + 1, .lst xs, l, h => by
    simp only [gD] at h ⊢
    exact gL_up n m xs (by omega) h
  | 0, _, .dic xs, _, h => by simp [gD] at h
  | n + 1, 0, .dic xs, l, _ => absurd l (by omega)
  | n + 1, m + 1, .dic xs, l, h => by
    simp only [gD] at h ⊢
    exact gK_up n m xs (by omega) h
  | _, _, .dit _, _, h => by simp [gD] at h
  | _, _, .dmx _, _, h => by simp [gD] at h
  | _, _, .ins _ _, _, h => by simp [gD] at h
  | _, _, .exv _ _, _, h => by simp [gD] at h
  | _, _, .ob _, _, h => by simp [gD] at h
  | _, _, .cl _, _, h => by simp [gD] at h
  | _, _, .rol _, _, h => by simp [gD] at h
theorem gL_up : ∀ (n m : Nat) (xs : List D), n ≤ m → gL n xs = true → gL m xs = true
  | _, _, [], _, _ => by simp [gL]
  | n, m, x :: xs, l, h => by
    simp only [gL, Bool.and_eq_true] at h ⊢
    exact ⟨gD_up n m x l h.1, gL_up n m xs l h.2⟩
theorem gK_up : ∀ (n m : Nat) (xs : List (D × D)), n ≤ m → gK n xs = true → gK m xs = true
  | _, _, [], _, _ => by simp [gK]
  | n, m, (k, x) :: xs, l, h => by
    simp only [gK, Bool.and_eq_true] at h ⊢
    exact ⟨⟨h.1.1, gD_up n m x l h.1.2⟩, gK_up n m xs l h.2⟩
end
/-- what repr gives -/
def shG (d : D) : Str := (py d).shown
theorem reprG_ok {k n : Nat} {d : D} (h : okG k n d = true) (hn : n ≤ 60) (hk : 0 < k) (hk2 : k ≤ 500) (hs : szG k d ≤ 16777216) : reprG d = some (.val (.str (shG d))) := by
  obtain ⟨h1, h2, h3, _⟩ := okG_show hk hk2 n d h
  have up : ∀ {d : D}, gD n d = true → gD 60 d = true := fun {d} h => gD_up n 60 d hn h
  unfold shG
  cases d with
  | non => rfl
  | bl b => cases b <;> rfl
  | int i =>
    simp only [reprG]
    rw [if_pos (by simpa [py, PyData.showable] using h2)]; simp only [py, PyData.shown]
  | str x =>
    simp only [reprG]
    simp only [szG] at hs
    rw [if_pos (by rw [sizeLine_eq]; omega)]; simp only [py, PyData.shown]
  | lst xs => simp only [reprG]; rw [if_pos ⟨rfl, up h1, h2, by rw [sizeLine_eq]; omega⟩]
  | tup xs => simp only [reprG]; rw [if_pos ⟨rfl, up h1, h2, by rw [sizeLine_eq]; omega⟩]
  | dic xs => simp only [reprG]; rw [if_pos ⟨rfl, up h1, h2, by rw [sizeLine_eq]; omega⟩]
  | _ => simp [okG] at h
theorem shG_ok {k n : Nat} {d : D} (h : okG k n d = true) (hk : 0 < k) (hk2 : k ≤ 500) : PyData.strOk (shG d) = true := (okG_show hk hk2 n d h).2.2.2
/-- data that can be shown here -/
def ShD (d : D) : Prop := ∃ n, n ≤ 60 ∧ okG 400 n d = true ∧ szG 400 d ≤ 16000000
theorem ShD.repr {d : D} (h : ShD d) : reprG d = some (.val (.str (shG d))) := by
  obtain ⟨n, h1, h2, h3⟩ := h
  exact reprG_ok h2 h1 (by decide) (by decide) (by omega)
theorem ShD.ok {d : D} (h : ShD d) : PyData.strOk (shG d) = true := by
  obtain ⟨n, h1, h2, h3⟩ := h
  exact shG_ok h2 (by decide) (by decide)
mutual
theorem okG_up {k : Nat} : ∀ (n m : Nat) (d : D), n ≤ m → okG k n d = true → okG k m d = true
  | n, m, .non, _, _ => by simp [okG]
  | n, m, .bl _, _, _ => by simp [okG]
  | n, m, .int _, _, h => by simpa only [okG] using h
  | n, m, .str x, _, h => by simpa only [okG] using h
  | 0, _, .tup xs, _, h => by simp [okG] at h
  | n + 1, 0, .tup xs, l, _ => absurd l (by omega)
  | n + 1, m + 1, .tup xs, l, h => by
    simp only [okG] at h ⊢
    exact okGL_up n m xs (by omega) h
  | 0, _, .lst xs, _, h => by simp [okG] at h
  | n + 1, 0, .lst xs, l, _ => absurd l (by omega)
  | n + 1, m + 1, .lst xs, l, h => by
    simp only [okG] at h ⊢
    exact okGL_up n m xs (by omega) h
  | 0, _, .dic xs, _, h => by simp [okG] at h
  | n + 1, 0, .dic xs, l, _ => absurd l (by omega)
  | n + 1, m + 1, .dic xs, l, h => by
    simp only [okG] at h ⊢
    exact okGK_up n m xs (by omega) h
  | _, _, .dit _, _, h => by simp [okG] at h
  | _, _, .dmx _, _, h => by simp [okG] at h
  | _, _, .ins _ _, _, h => by simp [okG] at h
  | _, _, .exv _ _, _, h => by simp [okG] at h
  | _, _, .ob _, _, h => by simp [okG] at h
  | _, _, .cl _, _, h => by simp [okG] at h
  | _, _, .rol _, _, h => by simp [okG] at h
theorem okGL_up {k : Nat} : ∀ (n m : Nat) (xs : List D), n ≤ m → okGL k n xs = true → okGL k m xs = true
  | _, _, [], _, _ => by simp [okGL]
  | n, m, x :: xs, l, h => by
    simp only [okGL, Bool.and_eq_true] at h ⊢
    exact ⟨okG_up n m x l h.1, okGL_up n m xs l h.2⟩
theorem okGK_up {k : Nat} : ∀ (n m : Nat) (xs : List (D × D)), n ≤ m → okGK k n xs = true → okGK k m xs = true
  | _, _, [], _, _ => by simp [okGK]
  | n, m, (a, x) :: xs, l, h => by
    simp only [okGK, Bool.and_eq_true] at h ⊢
    exact ⟨⟨⟨h.1.1.1, okG_up n m a l h.1.1.2⟩, okG_up n m x l h.1.2⟩, okGK_up n m xs l h.2⟩
end
/-- data that can be shown, no deeper than n, in at most m signs -/
def Sh1 (n m : Nat) (d : D) : Prop := okG 400 n d = true ∧ szG 400 d ≤ m
theorem Sh1.up {n m n' m' : Nat} {d : D} (h : Sh1 n m d) (hn : n ≤ n') (hm : m ≤ m') : Sh1 n' m' d := ⟨okG_up _ _ _ hn h.1, Nat.le_trans h.2 hm⟩
theorem Sh1.tup {n m M : Nat} {ds : List D} (h : ∀ d ∈ ds, Sh1 n m d) (hl : ds.length * (m + 2) + 4 ≤ M) : Sh1 (n + 1) M (.tup ds) := ⟨by simp only [okG]; exact okGL_all.mpr fun x hx => (h x hx).1, by
  have := szGL_le (k := 400) (xs := ds) fun x hx => (h x hx).2
  simp only [szG]; omega⟩
theorem Sh1.lst {n m M : Nat} {ds : List D} (h : ∀ d ∈ ds, Sh1 n m d) (hl : ds.length * (m + 2) + 4 ≤ M) : Sh1 (n + 1) M (.lst ds) := ⟨by simp only [okG]; exact okGL_all.mpr fun x hx => (h x hx).1, by
  have := szGL_le (k := 400) (xs := ds) fun x hx => (h x hx).2
  simp only [szG]; omega⟩
theorem Sh1.int {i : Int} (h : i.natAbs < 10 ^ 400) : Sh1 0 401 (.int i) := ⟨by simp only [okG, decide_eq_true_eq]; exact h, by simp only [szG]; omega⟩
theorem Sh1.bl {b : Bool} : Sh1 0 5 (.bl b) := ⟨by simp [okG], by simp [szG]⟩
theorem Sh1.non : Sh1 0 5 .non := ⟨by simp [okG], by simp [szG]⟩
/-- a kind that isinstance tells -/
def typed (d : D) : Bool := (tyD d).isSome
/-- is_between -/
def isW (d : D) (lo hi : Int) : Bool := match d with
  | .int i => decide (lo ≤ i) && decide (i ≤ hi)
  | _ => false
end Bv

namespace Bv
open PySem PySem.Spec PyProof.Rows L2
section
variable {c f : Str} {g : S → LRes} {b : S → SRes} {hs : List HCl} {q : Str → Str → Option Bool} {sl : List Sl} {ob : List D} {st : S} {d : D} {e : Exn} {i : Nat} {gs : Exn → S → SRes} {oi : Option Nat} {fs : List (Str × D)} {c1 x : Str} {cs : List Str} {r : Rv}
@[simp] theorem tryH_nil : tryH q [] e st = .ex e st := id rfl
@[simp] theorem tryH_yes (h : q c1 c = some true) : tryH q (⟨c, oi, gs⟩ :: hs) ⟨c1, fs⟩ st = offS oi (gs ⟨c1, fs⟩ (inH oi st)) := by
  show (match q c1 c with | some true => _ | some false => _ | none => _ : SRes) = _
  rw [h]
@[simp] theorem tryH_no (h : q c1 c = some false) : tryH q (⟨c, oi, gs⟩ :: hs) ⟨c1, fs⟩ st = tryH q hs ⟨c1, fs⟩ st := by
  show (match q c1 c with | some true => _ | some false => _ | none => _ : SRes) = _
  rw [h]
@[simp] theorem inH_none : inH none st = st := id rfl
@[simp] theorem inH_some : inH (some i) ⟨sl, ob⟩ = ⟨sl.set i .hd, ob⟩ := id rfl
@[simp] theorem offS_nx : offS (some i) (.nx ⟨sl, ob⟩) = .nx ⟨sl.set i .no, ob⟩ := id rfl
@[simp] theorem offS_bk : offS (some i) (.bk ⟨sl, ob⟩) = .bk ⟨sl.set i .no, ob⟩ := id rfl
@[simp] theorem offS_ct : offS (some i) (.ct ⟨sl, ob⟩) = .ct ⟨sl.set i .no, ob⟩ := id rfl
@[simp] theorem offS_rv : offS (some i) (.rt (.val d) ⟨sl, ob⟩) = .rt (.val d) ⟨sl.set i .no, ob⟩ := id rfl
@[simp] theorem offS_rf : offS (some i) (.rt (.fresh d) ⟨sl, ob⟩) = .rt (.fresh d) ⟨sl.set i .no, ob⟩ := id rfl
@[simp] theorem offS_rb {j : Nat} (h : j ≠ i) : offS (some i) (.rt (.bor j) ⟨sl, ob⟩) = .rt (.bor j) ⟨sl.set i .no, ob⟩ := by
  show (if j = i then _ else _ : SRes) = _
  rw [if_neg h]; rfl
@[simp] theorem offS_nx0 : offS none (.nx st) = .nx st := id rfl
@[simp] theorem offS_bk0 : offS none (.bk st) = .bk st := id rfl
@[simp] theorem offS_ct0 : offS none (.ct st) = .ct st := id rfl
@[simp] theorem offS_rt0 : offS none (.rt r st) = .rt r st := id rfl
@[simp] theorem anyS_nil : anyS q c [] = some false := id rfl
@[simp] theorem anyS_yes (h : q c x = some true) : anyS q c (x :: cs) = some true := by
  unfold anyS; rw [h]
@[simp] theorem anyS_no (h : q c x = some false) : anyS q c (x :: cs) = anyS q c cs := by
  rw [anyS, h]
end
@[simp] theorem typed_int (i : Int) : typed (.int i) = true := id rfl
@[simp] theorem typed_bl (i : Bool) : typed (.bl i) = true := id rfl
@[simp] theorem typed_str (i : Str) : typed (.str i) = true := id rfl
@[simp] theorem typed_non : typed .non = true := id rfl
@[simp] theorem typed_tup (i : List D) : typed (.tup i) = true := id rfl
@[simp] theorem typed_lst (i : List D) : typed (.lst i) = true := id rfl
@[simp] theorem typed_dic (i : List (D × D)) : typed (.dic i) = true := id rfl
@[simp] theorem isW_int (i lo hi : Int) : isW (.int i) lo hi = (decide (lo ≤ i) && decide (i ≤ hi)) := id rfl
@[simp] theorem isW_bl (i : Bool) (lo hi : Int) : isW (.bl i) lo hi = false := id rfl
@[simp] theorem isW_str (i : Str) (lo hi : Int) : isW (.str i) lo hi = false := id rfl
@[simp] theorem isW_non (lo hi : Int) : isW .non lo hi = false := id rfl
@[simp] theorem isW_tup (i : List D) (lo hi : Int) : isW (.tup i) lo hi = false := id rfl
@[simp] theorem isW_lst (i : List D) (lo hi : Int) : isW (.lst i) lo hi = false := id rfl
@[simp] theorem isW_dic (i : List (D × D)) (lo hi : Int) : isW (.dic i) lo hi = false := id rfl
theorem isW_true {d : D} {lo hi : Int} (h : isW d lo hi = true) : ∃ i, d = .int i ∧ lo ≤ i ∧ i ≤ hi := by
  cases d <;> simp [isW] at h
  exact ⟨_, rfl, h.1, h.2⟩
@[simp] theorem isi_dic_bool (k : List (D × D)) : isiD "bool" (.dic k) = some (.val (.bl false)) := id rfl
@[simp] theorem isi_dit_bool (k : List (D × D)) : isiD "bool" (.dit k) = some (.val (.bl false)) := id rfl
@[simp] theorem isi_dic_int (k : List (D × D)) : isiD "int" (.dic k) = some (.val (.bl false)) := id rfl
@[simp] theorem isi_dit_int (k : List (D × D)) : isiD "int" (.dit k) = some (.val (.bl false)) := id rfl
@[simp] theorem isi_dic_str (k : List (D × D)) : isiD "str" (.dic k) = some (.val (.bl false)) := id rfl
@[simp] theorem isi_dit_str (k : List (D × D)) : isiD "str" (.dit k) = some (.val (.bl false)) := id rfl
@[simp] theorem isi_dic_tuple (k : List (D × D)) : isiD "tuple" (.dic k) = some (.val (.bl false)) := id rfl
@[simp] theorem isi_dit_tuple (k : List (D × D)) : isiD "tuple" (.dit k) = some (.val (.bl false)) := id rfl
@[simp] theorem isi_dic_list (k : List (D × D)) : isiD "list" (.dic k) = some (.val (.bl false)) := id rfl
@[simp] theorem isi_dit_list (k : List (D × D)) : isiD "list" (.dit k) = some (.val (.bl false)) := id rfl
@[simp] theorem isi_dic_dict (k : List (D × D)) : isiD "dict" (.dic k) = some (.val (.bl true)) := id rfl
@[simp] theorem isi_dit_dict (k : List (D × D)) : isiD "dict" (.dit k) = some (.val (.bl true)) := id rfl
@[simp] theorem isW_dit (i : List (D × D)) (lo hi : Int) : isW (.dit i) lo hi = false := id rfl
@[simp] theorem powD_10_39' : powD (.int 10) (.int 39) = some (.val (.int 1000000000000000000000000000000000000000)) := powD_int (by decide)
@[simp] theorem powD_10_40' : powD (.int 10) (.int 40) = some (.val (.int 10000000000000000000000000000000000000000)) := powD_int (by decide)
@[simp] theorem powD_10_60' : powD (.int 10) (.int 60) = some (.val (.int 1000000000000000000000000000000000000000000000000000000000000)) := powD_int (by decide)
@[simp] theorem powD_10_13' : powD (.int 10) (.int 13) = some (.val (.int 10000000000000)) := powD_int (by decide)
@[simp] theorem powD_10_5' : powD (.int 10) (.int 5) = some (.val (.int 100000)) := powD_int (by decide)
@[simp] theorem powD_10_3' : powD (.int 10) (.int 3) = some (.val (.int 1000)) := powD_int (by decide)
end Bv

namespace Bv
open PySem PySem.Spec PyProof.Rows L2
section
variable {X : Cx} {T : Tx} {K : PySem.W.Frag} {pins : List (Addr × Obj)} {σ : L2.St} {H : Hp} {s : Shared}
end
end Bv

namespace Bv
open PySem PySem.Spec PyProof.Rows L2
section
variable {X : Cx} {T : Tx} {e : Expr} {f : S → Res} {pos p1 p2 p3 p4 : Pos} {j : Nat} {g h : S → SRes}
@[simp] theorem isN_non : isN .non = true := id rfl
@[simp] theorem isN_str {x : Str} : isN (.str x) = false := id rfl
@[simp] theorem isN_tup {x : List D} : isN (.tup x) = false := id rfl
@[simp] theorem isN_int {x : Int} : isN (.int x) = false := id rfl
end
end Bv

namespace Bv
section
open PySem PySem.Spec PyProof.Rows L2 TL PySem.Builtin PySem.Builtin.Str
end
end Bv

namespace Bv
open PySem PySem.Spec PyProof.Rows L2
section
variable {X : Cx} {T : Tx} {o i a b : Expr} {g : S → FRes} {fo fi : S → Res} {pos tpos pt py p2 : Pos} {kt k2 : Nat} {y : Str}
end
end Bv

namespace Bv
open PySem PySem.Spec PyProof.Rows L2
end Bv

namespace Bv
open PySem PySem.Spec PyProof.Rows L2
section
variable {X : Cx} {T : Tx} {K : PySem.W.Frag} {a b : Expr} {fa fb : S → Res} {pos p : Pos}
end
end Bv

namespace Bv
open PySem PySem.Spec PyProof.Rows L2
section
variable {X : Cx} {fi : S → LRes} {g : D → S → Option S} {vs : List Nat}
section
variable {T : Tx} {ifs : List Expr} {scope : Scope} {own : List (Str × Nat)} {t fk fv : S → Res} {vg : List Nat} {kx vx tg e : Expr} {pos : Pos}
end
end
end Bv

namespace Bv
open PySem PySem.Spec PyProof.Rows L2
section
variable {X : Cx} {T : Tx} {K : PySem.W.Frag}
end
end Bv

namespace Bv
open PySem PySem.Spec PyProof.Rows L2
section
variable {it : S → LRes} {g : D → S → Option S} {t fk fv : S → Res} {vs : List Nat} {sl : List Sl} {ob : List D} {st st1 : S} {ds : List D} {es : List (D × D)}
end
end Bv

namespace Bv
open PySem PySem.Spec PyProof.Rows L2

section
variable {T : Tx} {K : PySem.W.Frag} {G : Hp} {w w' : Wd} {st st' : S} {σ : L2.St} {H H' : Hp} {v : V} {d : D} {io : List Addr}
theorem RepF.look (f : Str) : ∀ {fs : List (Str × V)} {gs : List (Str × D)}, RepF T K io H fs gs → (∀ d, gs.lookup f = some d → ∃ v, fs.lookup f = some v ∧ Rep T K io H v d) ∧ (gs.lookup f = none → fs.lookup f = none)
  | _, _, .nil => ⟨fun d e => by simp at e, fun _ => rfl⟩
  | _, _, .cons (k := k) (v := v) (vs := vs) (d := d) (ds := ds) h r => by
    have ih := RepF.look f r
    by_cases e : f = k
    · subst e
      refine ⟨fun x q => ?_, fun q => ?_⟩
      · have : some d = some x := by simpa [List.lookup] using q
        cases this
        exact ⟨v, by simp [List.lookup], h⟩
      · simp [List.lookup] at q
    · have e' : (f == k) = false := by simpa using e
      refine ⟨fun x q => ?_, fun q => ?_⟩
      · obtain ⟨u, h1, h2⟩ := ih.1 x (by simpa [List.lookup, e'] using q)
        exact ⟨u, by simpa [List.lookup, e'] using h1, h2⟩
      · have := ih.2 (by simpa [List.lookup, e'] using q)
        simpa [List.lookup, e'] using this
def putFd (f : Str) (d : D) : List (Str × D) → List (Str × D)
  | [] => [(f, d)]
  | (g, x) :: r => if g = f then (g, d) :: r else (g, x) :: putFd f d r
theorem RepF.put {f : Str} {y : V} {d : D} (x : Rep T K io H y d) : ∀ {fs : List (Str × V)} {gs : List (Str × D)}, RepF T K io H fs gs → RepF T K io H (L2.putF f y fs) (putFd f d gs)
  | _, _, .nil => .cons x .nil
  | _, _, .cons (k := k) h r => by
    unfold L2.putF putFd
    by_cases e : k = f
    · rw [if_pos e, if_pos e]; exact .cons x r
    · rw [if_neg e, if_neg e]; exact .cons h (RepF.put x r)
theorem RepF.len : ∀ {fs : List (Str × V)} {gs : List (Str × D)}, RepF T K io H fs gs → fs.length = gs.length
  | _, _, .nil => rfl
  | _, _, .cons _ r => by simp [RepF.len r]
theorem Rep1.ins (R : SR T K G w st σ H) {c : Str} {gs : List (Str × D)} (h : Rep1 T K w H v (.ins c gs)) : ∃ a C dx fs, v = .ref a ∧ T.cls c = some C ∧ H a = some (.ins C dx fs) ∧ RepF T K w.io w.Hf fs gs := by
  rcases h with h | ⟨a, rfl, c⟩
  · cases h with
    | ins tc h r => exact ⟨_, _, _, _, rfl, tc, R.exf _ _ h, r⟩
  · obtain ⟨C, dx, fs, tc, h, r⟩ := c
    exact ⟨a, C, dx, fs, rfl, tc, h, r⟩
end
/-- the class's instances have f as a field of their own -/
def FldOk (K : PySem.W.Frag) (T : Tx) (f : Str) (cs : List Str) : Prop := ∀ c ∈ cs, ∀ C, T.cls c = some C → Cls K C ∧ NoAttr K C f
theorem FldOk.nil {K : PySem.W.Frag} {T : Tx} {f : Str} : FldOk K T f [] := fun _ m => by cases m
theorem FldOk.cons {K : PySem.W.Frag} {T : Tx} {f c : Str} {A : Addr} {cs : List Str} (h : T.cls c = some A) (k : Cls K A) (n : NoAttr K A f) (r : FldOk K T f cs) : FldOk K T f (c :: cs) := fun x m C e => by
  rcases List.mem_cons.mp m with rfl | m
  · rw [h] at e; cases e; exact ⟨k, n⟩
  · exact r x m C e
section
variable {X : Cx} {T : Tx} {K : PySem.W.Frag} {f : Str} {cs : List Str} {o e : Expr} {fo fe : S → Res} {pos pos' : Pos}
end

def runD (φ : List D → List D → FR) (n : Nat) (ds : List D) (st : S) : Res := if ds.length = n then match φ ds st.ob with
  | .ok (.bor _) _ => .bad
  | .ok r ob => .ok r ⟨st.sl, ob⟩
  | .exc e ob => .exc e ⟨st.sl, ob⟩
  | .bad => .bad else .bad
section
variable {T : Tx} {K : PySem.W.Frag} {G : Hp} {w : Wd} {st : S} {σ : L2.St} {H : Hp} {φ : List D → List D → FR} {n : Nat} {ds : List D} {vs : List V} {Q : VK} {W : WX}
end

/-- what a class's method gives -/
def MetG (P : Program) (w : World) (K : PySem.W.Frag) (mg : Str → Option Value) (base : Heap) (T : Tx) (k : Nat) (m : Str) (n : Nat) (c : Str) (φ : List D → List D → FR) : Prop :=
  ∀ C, T.cls c = some C → Cls K C ∧ ∃ (g : Addr) (fd : FuncData) (ps : List Str), Meth K C m g ∧ FnG P w K mg base k g fd ps (spB T K n φ) ∧ Binds K fd ps []
def MetT (P : Program) (w : World) (K : PySem.W.Frag) (mg : Str → Option Value) (base : Heap) (T : Tx) (k : Nat) (m : Str) (n : Nat) (t : List (Str × (List D → List D → FR))) : Prop :=
  ∀ p ∈ t, MetG P w K mg base T k m n p.1 p.2
def ProG (P : Program) (w : World) (K : PySem.W.Frag) (mg : Str → Option Value) (base : Heap) (T : Tx) (k : Nat) (m : Str) (c : Str) (φ : List D → List D → FR) : Prop :=
  ∀ C, T.cls c = some C → Cls K C ∧ ∃ (p g : Addr) (fd : FuncData) (ps : List Str), PropOf K C m p g ∧ FnG P w K mg base k g fd ps (spB T K 1 φ) ∧ Binds K fd ps []
def ProT (P : Program) (w : World) (K : PySem.W.Frag) (mg : Str → Option Value) (base : Heap) (T : Tx) (k : Nat) (m : Str) (t : List (Str × (List D → List D → FR))) : Prop :=
  ∀ p ∈ t, ProG P w K mg base T k m p.1 p.2
section
variable {P : Program} {w : World} {K : PySem.W.Frag} {mg : Str → Option Value} {base : Heap} {T : Tx} {k n : Nat} {m c : Str} {φ : List D → List D → FR} {t : List (Str × (List D → List D → FR))}
theorem MetT.nil : MetT P w K mg base T k m n [] := fun _ m => by cases m
theorem MetT.cons {j : Nat} (h : MetG P w K mg base T j m n c φ) (r : MetT P w K mg base T k m n t) (hj : j ≤ k := by decide) : MetT P w K mg base T k m n ((c, φ) :: t) := fun p q => by
  rcases List.mem_cons.mp q with rfl | q
  · intro C e
    obtain ⟨h1, g, fd, ps, h2, h3, h4⟩ := h C e
    exact ⟨h1, g, fd, ps, h2, h3.mono hj, h4⟩
  · exact r p q
theorem ProT.nil : ProT P w K mg base T k m [] := fun _ m => by cases m
theorem ProT.cons {j : Nat} (h : ProG P w K mg base T j m c φ) (r : ProT P w K mg base T k m t) (hj : j ≤ k := by decide) : ProT P w K mg base T k m ((c, φ) :: t) := fun p q => by
  rcases List.mem_cons.mp q with rfl | q
  · intro C e
    obtain ⟨h1, pp, g, fd, ps, h2, h3, h4⟩ := h C e
    exact ⟨h1, pp, g, fd, ps, h2, h3.mono hj, h4⟩
  · exact r p q
end
section
variable {T : Tx} {K : PySem.W.Frag} {G : Hp} {w : Wd} {st : S} {σ : L2.St} {H : Hp} {Q : VK} {W : WX} {α : Type} {t : List (Str × α)} {m : Str} {r1 : Rv} {v : V} {k : α → D → S → Res}
end
section
variable {X : Cx} {T : Tx} {k j n : Nat} {m : Str} {t : List (Str × (List D → List D → FR))} {o e : Expr} {es : List Expr} {fo : S → Res} {g : S → LRes} {pos apos : Pos}
end
end Bv

namespace Bv
open PySem PySem.Spec PyProof.Rows L2

mutual
def belD (n : Nat) : D → Bool
  | .tup xs => belL n xs
  | .lst xs => belL n xs
  | .rol xs => belL n xs
  | .dic es => belK n es
  | .dit es => belK n es
  | .dmx _ => false
  | .ins _ fs => belF n fs
  | .exv _ fs => belF n fs
  | .ob k => decide (k < n)
  | .non => true
  | .bl _ => true
  | .int _ => true
  | .str _ => true
  | .cl _ => true
def belL (n : Nat) : List D → Bool
  | [] => true
  | x :: xs => belD n x && belL n xs
def belK (n : Nat) : List (D × D) → Bool
  | [] => true
  | (_, v) :: xs => belD n v && belK n xs
def belF (n : Nat) : List (Str × D) → Bool
  | [] => true
  | (_, v) :: xs => belD n v && belF n xs
end
section
variable {T : Tx} {K : PySem.W.Frag} {io io' : List Addr} {H : Hp} {n : Nat}
mutual
theorem Rep.bel (hn : n ≤ io.length) (o : Ob io io') : ∀ {v : V} {d : D}, belD n d = true → Rep T K io' H v d → Rep T K io H v d
  | _, _, _, .non => .non
  | _, _, _, .bl b => .bl b
  | _, _, _, .int i => .int i
  | _, _, _, .str x => .str x
  | _, _, p, .tup h q => .tup h (RepL.bel hn o (by simpa [belD] using p) q)
  | _, _, p, .lst h q => .lst h (RepL.bel hn o (by simpa [belD] using p) q)
  | _, _, p, .rol h q => .rol h (RepL.bel hn o (by simpa [belD] using p) q)
  | _, _, p, .dicK h q => .dicK h (RepK.bel hn o (by simpa [belD] using p) q)
  | _, _, p, .dicT h q => .dicT h (RepT.bel hn o (by simpa [belD] using p) q)
  | _, _, p, .dicN _ _ _ => by simp [belD] at p
  | _, _, p, .ins c h q => .ins c h (RepF.bel hn o (by simpa [belD] using p) q)
  | _, _, p, .exv c h x q => .exv c h x (RepF.bel hn o (by simpa [belD] using p) q)
  | _, .ob k, p, .ob h => by
    have hk : k < io.length := by
      have : k < n := by simpa [belD] using p
      omega
    have e := o k _ (List.getElem?_eq_getElem hk)
    rw [h] at e
    exact .ob (by rw [List.getElem?_eq_getElem hk]; exact e.symm)
  | _, _, _, .cl h => .cl h
theorem RepL.bel (hn : n ≤ io.length) (o : Ob io io') : ∀ {v : List V} {d : List D}, belL n d = true → RepL T K io' H v d → RepL T K io H v d
  | _, _, _, .nil => .nil
  | _, _, p, .cons a r => by
    simp only [belL, Bool.and_eq_true] at p
    exact .cons (Rep.bel hn o p.1 a) (RepL.bel hn o p.2 r)
theorem RepK.bel (hn : n ≤ io.length) (o : Ob io io') : ∀ {v : List (Key × V)} {d : List (D × D)}, belK n d = true → RepK T K io' H v d → RepK T K io H v d
  | _, _, _, .nil => .nil
  | _, _, p, .cons a r => by
    simp only [belK, Bool.and_eq_true] at p
    exact .cons (Rep.bel hn o p.1 a) (RepK.bel hn o p.2 r)
theorem RepT.bel (hn : n ≤ io.length) (o : Ob io io') : ∀ {v : List (List Key × V)} {d : List (D × D)}, belK n d = true → RepT T K io' H v d → RepT T K io H v d
  | _, _, _, .nil => .nil
  | _, _, p, .cons a r => by
    simp only [belK, Bool.and_eq_true] at p
    exact .cons (Rep.bel hn o p.1 a) (RepT.bel hn o p.2 r)
theorem RepF.bel (hn : n ≤ io.length) (o : Ob io io') : ∀ {v : List (Str × V)} {d : List (Str × D)}, belF n d = true → RepF T K io' H v d → RepF T K io H v d
  | _, _, _, .nil => .nil
  | _, _, p, .cons a r => by
    simp only [belF, Bool.and_eq_true] at p
    exact .cons (Rep.bel hn o p.1 a) (RepF.bel hn o p.2 r)
end
end
open Classical in
/-- behind a making: the objects as they were, and the new one -/
noncomputable def lastOf (ob ob' : List D) : Option D := if ob'.take ob.length = ob then match ob'.drop ob.length with
  | [d] => if belD ob.length d = true then some d else none
  | _ => none else none
open Classical in
noncomputable def makeD (c : Str) (φ : List D → List D → FR) (n : Nat) (ds : List D) (st : S) : Res := if ds.length + 1 = n then match φ (.ob st.ob.length :: ds) (st.ob ++ [.ins c []]) with
  | .ok (.val .non) ob' => match lastOf st.ob ob' with
    | some d => .ok (.fresh d) st
    | none => .bad
  | .exc e ob' => if ob'.take st.ob.length = st.ob ∧ belF st.ob.length e.fs = true then .exc e st else .bad
  | _ => .bad else .bad
section
variable {T : Tx} {K : PySem.W.Frag} {G : Hp} {w w' : Wd} {st : S} {σ : L2.St} {H H1 H' : Hp} {φ : List D → List D → FR} {n : Nat} {ds : List D} {vs : List V} {Q : VK} {W : WX} {c : Str} {ob' : List D} {x : Addr}
end
/-- what a class's instances are made by -/
def MakG (P : Program) (w : World) (K : PySem.W.Frag) (mg : Str → Option Value) (base : Heap) (T : Tx) (k n : Nat) (c : Str) (φ : List D → List D → FR) : Prop :=
  ∀ C, T.cls c = some C → ∃ (f : Addr) (fd : FuncData) (ps : List Str), L2.Mk K C f ∧ FnG P w K mg base k f fd ps (spB T K n φ) ∧ Binds K fd ps []
section
variable {X : Cx} {T : Tx} {k j n : Nat} {c x : Str} {A : Addr} {φ : List D → List D → FR} {e : Expr} {es : List Expr} {g : S → LRes} {p pos : Pos}
end
end Bv

namespace Bv
open PySem PySem.Spec PyProof.Rows L2

section
variable {X : Cx} {T : Tx} {k j n : Nat} {c m : Str} {A : Addr} {φ : List D → List D → FR} {e : Expr} {es : List Expr} {g : S → LRes} {p pos apos : Pos}
end

def MakT (P : Program) (w : World) (K : PySem.W.Frag) (mg : Str → Option Value) (base : Heap) (T : Tx) (k n : Nat) (t : List (Str × (List D → List D → FR))) : Prop := ∀ p ∈ t, MakG P w K mg base T k n p.1 p.2
theorem MakG.mono {P : Program} {w : World} {K : PySem.W.Frag} {mg : Str → Option Value} {base : Heap} {T : Tx} {k j n : Nat} {c : Str} {φ : List D → List D → FR} (h : MakG P w K mg base T j n c φ) (hj : j ≤ k) : MakG P w K mg base T k n c φ := fun C e => by
  obtain ⟨f, fd, ps, h1, h2, h3⟩ := h C e
  exact ⟨f, fd, ps, h1, h2.mono hj, h3⟩
theorem MakT.nil {P : Program} {w : World} {K : PySem.W.Frag} {mg : Str → Option Value} {base : Heap} {T : Tx} {k n : Nat} : MakT P w K mg base T k n [] := fun _ m => by cases m
theorem MakT.cons {P : Program} {w : World} {K : PySem.W.Frag} {mg : Str → Option Value} {base : Heap} {T : Tx} {k j n : Nat} {c : Str} {φ : List D → List D → FR} {t : List (Str × (List D → List D → FR))} (h : MakG P w K mg base T j n c φ) (r : MakT P w K mg base T k n t) (hj : j ≤ k := by decide) : MakT P w K mg base T k n ((c, φ) :: t) := fun p q => by
  rcases List.mem_cons.mp q with rfl | q
  · exact h.mono hj
  · exact r p q
section
variable {X : Cx} {T : Tx} {k j n i : Nat} {x : Str} {t : List (Str × (List D → List D → FR))} {e : Expr} {es : List Expr} {g : S → LRes} {p pos : Pos}
end

/-- what the class says of its operator -/
def BinG (P : Program) (w : World) (K : PySem.W.Frag) (mg : Str → Option Value) (base : Heap) (T : Tx) (k : Nat) (op : Operator) (c : Str) (φ : List D → List D → FR) : Prop :=
  ∀ C, T.cls c = some C → ∃ (g : Addr) (fd : FuncData) (ps : List Str) (fo ro : Option Value), FnG P w K mg base k g fd ps (spB T K 2 φ) ∧ Binds K fd ps [] ∧ PySem.W.selfFirst K C = true ∧ PySem.W.findIn K (.ref C) (PySem.dunder op.info.2) = some (some (.ref g)) ∧ PySem.W.isFn K (.ref g) = true ∧
    PySem.W.findIn K (.ref C) (PySem.dunderR op.info.2) = some none ∧ PySem.W.findIn K (.type "int") (PySem.dunder op.info.2) = some fo ∧ PySem.W.findIn K (.type "int") (PySem.dunderR op.info.2) = some ro ∧ PySem.W.subIn K (.type "int") (.ref C) = some false
def BinT (P : Program) (w : World) (K : PySem.W.Frag) (mg : Str → Option Value) (base : Heap) (T : Tx) (k : Nat) (op : Operator) (t : List (Str × (List D → List D → FR))) : Prop := ∀ p ∈ t, BinG P w K mg base T k op p.1 p.2
def CmpG (P : Program) (w : World) (K : PySem.W.Frag) (mg : Str → Option Value) (base : Heap) (T : Tx) (k : Nat) (op : CmpOp) (c : Str) (φ : List D → List D → FR) : Prop :=
  ∀ C, T.cls c = some C → ∃ (g : Addr) (fd : FuncData) (ps : List Str), FnG P w K mg base k g fd ps (spB T K 2 φ) ∧ Binds K fd ps [] ∧ PySem.W.findIn K (.ref C) (cmpInfo op).2.1 = some (some (.ref g)) ∧ PySem.W.isFn K (.ref g) = true ∧ PySem.W.notFirst K C (.type "int") = true
def CmpT (P : Program) (w : World) (K : PySem.W.Frag) (mg : Str → Option Value) (base : Heap) (T : Tx) (k : Nat) (op : CmpOp) (t : List (Str × (List D → List D → FR))) : Prop := ∀ p ∈ t, CmpG P w K mg base T k op p.1 p.2
section
variable {P : Program} {w : World} {K : PySem.W.Frag} {mg : Str → Option Value} {base : Heap} {T : Tx} {k j : Nat} {op : Operator} {cp : CmpOp} {c : Str} {φ : List D → List D → FR} {t : List (Str × (List D → List D → FR))}
theorem BinT.nil : BinT P w K mg base T k op [] := fun _ m => by cases m
theorem BinT.cons (h : BinG P w K mg base T j op c φ) (r : BinT P w K mg base T k op t) (hj : j ≤ k := by decide) : BinT P w K mg base T k op ((c, φ) :: t) := fun p q => by
  rcases List.mem_cons.mp q with rfl | q
  · intro C e
    obtain ⟨g, fd, ps, fo, ro, h1, h2⟩ := h C e
    exact ⟨g, fd, ps, fo, ro, h1.mono hj, h2⟩
  · exact r p q
theorem CmpT.nil : CmpT P w K mg base T k cp [] := fun _ m => by cases m
theorem CmpT.cons (h : CmpG P w K mg base T j cp c φ) (r : CmpT P w K mg base T k cp t) (hj : j ≤ k := by decide) : CmpT P w K mg base T k cp ((c, φ) :: t) := fun p q => by
  rcases List.mem_cons.mp q with rfl | q
  · intro C e
    obtain ⟨g, fd, ps, h1, h2⟩ := h C e
    exact ⟨g, fd, ps, h1.mono hj, h2⟩
  · exact r p q
end
section
variable {T : Tx} {K : PySem.W.Frag} {G : Hp} {w : Wd} {st : S} {σ : L2.St} {H : Hp} {Q : VK} {W : WX} {α : Type} {t : List (Str × α)} {r1 r2 : Rv} {v1 v2 : V} {k : α → D → D → S → Res}
end
section
variable {X : Cx} {T : Tx} {k j : Nat} {op : Operator} {cp : CmpOp} {t : List (Str × (List D → List D → FR))} {a b : Expr} {fa fb : S → Res} {pos : Pos}
end

structure IsOk (K : PySem.W.Frag) (T : Tx) (tb : Tab) (x : Str) (A : Addr) : Prop where
  own : ∀ c1 B k, T.cls c1 = some B → look2 tb c1 x = some k → Cls K B ∧ SlX.SIsi K B ∧ PySem.W.kitOne K (.ref B) (.ref A) = some k
  blt : ∀ t ∈ kinds, PySem.W.kitOne K (.type t) (.ref A) = some false
section
variable {X : Cx} {T : Tx} {tb : Tab} {x : Str} {A : Addr} {a : Expr} {fa : S → Res} {p p2 pos : Pos}
end
end Bv

namespace Bv
open PySem PySem.Spec PyProof.Rows L2

section
variable {X : Cx} {T : Tx} {K : PySem.W.Frag} {e : Expr} {es : List Expr} {f : S → Res} {fs : List (S → Res)} {pos : Pos}
end
section
variable {X : Cx} {T : Tx} {K : PySem.W.Frag} {o e : Expr} {fo fe : S → Res} {pos apos : Pos}
end

section
variable {a b f fo fe : S → Res} {g : S → LRes} {sl : List Sl} {ob : List D} {st st1 : S} {r r1 r2 : Rv} {d d1 d2 : D} {i n : Nat} {m c c' : Str} {cs : List Str} {ds : List D} {gs : List (Str × D)} {φ : List D → List D → FR} {t : List (Str × (List D → List D → FR))} {fs : List (S → Res)} {acc y : Str} {ft : Str → D → Option Rv}
@[simp] theorem putFd_nil : putFd m d [] = [(m, d)] := id rfl
@[simp] theorem putFd_cons : putFd m d ((c, d1) :: gs) = if c = m then (c, d) :: gs else (c, d1) :: putFd m d gs := id rfl
def kRun (st : S) : FR → Res
  | .ok (.bor _) _ => .bad
  | .ok r ob => .ok r ⟨st.sl, ob⟩
  | .exc e ob => .exc e ⟨st.sl, ob⟩
  | .bad => .bad
@[simp] theorem kRun_val {ob' : List D} : kRun ⟨sl, ob⟩ (.ok (.val d) ob') = .ok (.val d) ⟨sl, ob'⟩ := id rfl
@[simp] theorem kRun_fresh {ob' : List D} : kRun ⟨sl, ob⟩ (.ok (.fresh d) ob') = .ok (.fresh d) ⟨sl, ob'⟩ := id rfl
@[simp] theorem kRun_exc {ob' : List D} {e : Exn} : kRun ⟨sl, ob⟩ (.exc e ob') = .exc e ⟨sl, ob'⟩ := id rfl
@[simp] theorem runD_run (h : ds.length = n) : runD φ n ds ⟨sl, ob⟩ = kRun ⟨sl, ob⟩ (φ ds ob) := if_pos h
end
end Bv

namespace Bv
open PySem PySem.Spec PyProof.Rows L2
theorem chn_inj {a b : Char} (h : a.toNat = b.toNat) : a = b := by
  have : a.val = b.val := UInt32.toNat_inj.mp h
  exact Char.ext this
@[simp] theorem ofS_inj (a b : String) : (Str.ofString a = Str.ofString b) ↔ a = b := by
  constructor
  · intro h
    rw [Str.ofString_eq_toList, Str.ofString_eq_toList] at h
    have h1 : (a.toList.map Char.toNat).toArray = (b.toList.map Char.toNat).toArray := congrArg Str.cps h
    have h2 : a.toList.map Char.toNat = b.toList.map Char.toNat := congrArg Array.toList h1
    have h3 : a.toList = b.toList := List.map_inj_right (fun _ _ => chn_inj) |>.mp h2
    exact String.toList_inj.mp h3
  · intro h; rw [h]
@[simp] theorem lookup_cons_ofS {α : Type} (a b : String) (x : α) (r : List (Str × α)) : ((Str.ofString b, x) :: r).lookup (Str.ofString a) = if a = b then some x else r.lookup (Str.ofString a) := by
  by_cases h : a = b
  · subst h; simp [List.lookup]
  · have e : (Str.ofString a == Str.ofString b) = false := by simpa using h
    simp [List.lookup, e, h]
@[simp] theorem mem_ofS (a b : String) : Str.ofString a ∈ [Str.ofString b] ↔ a = b := by simp
def OwnL (K : PySem.W.Frag) (T : Tx) (A : Addr) (x : Str) (tb : Tab) : Prop := ∀ p ∈ tb, p.2.1 = x → ∀ B, T.cls p.1 = some B → Cls K B ∧ SlX.SIsi K B ∧ PySem.W.kitOne K (.ref B) (.ref A) = some p.2.2
section
variable {K : PySem.W.Frag} {T : Tx} {A B : Addr} {x a b : Str} {k : Bool} {tb : Tab}
theorem OwnL.nil : OwnL K T A x [] := fun _ m => by cases m
theorem OwnL.cons (h : T.cls a = some B) (kc : Cls K B) (si : SlX.SIsi K B) (kk : PySem.W.kitOne K (.ref B) (.ref A) = some k) (r : OwnL K T A x tb) : OwnL K T A x ((a, b, k) :: tb) := fun p m e B' h' => by
  rcases List.mem_cons.mp m with rfl | m
  · have h2 : T.cls a = some B' := h'
    rw [h] at h2
    cases h2
    exact ⟨kc, si, kk⟩
  · exact r p m e B' h'
theorem OwnL.skip (h : b ≠ x) (r : OwnL K T A x tb) : OwnL K T A x ((a, b, k) :: tb) := fun p m e B' h' => by
  rcases List.mem_cons.mp m with rfl | m
  · exact absurd e h
  · exact r p m e B' h'
theorem IsOk.of (h : OwnL K T A x tb) (hb : ∀ t ∈ kinds, PySem.W.kitOne K (.type t) (.ref A) = some false) : IsOk K T tb x A :=
  ⟨fun c1 B k e q => h _ (look2_mem q) rfl B e, hb⟩
end
end Bv

namespace Bv
open PySem PySem.Spec PyProof.Rows L2
section
variable {X : Cx} {T : Tx} {K : PySem.W.Frag}
end
def BackG (P : Program) (w : World) (K : PySem.W.Frag) (mg : Str → Option Value) (base : Heap) (T : Tx) (k : Nat) (op : CmpOp) (c : Str) (φ : List D → List D → FR) : Prop :=
  ∀ C, T.cls c = some C → ∃ (g : Addr) (fd : FuncData) (ps : List Str), FnG P w K mg base k g fd ps (spB T K 2 φ) ∧ Binds K fd ps [] ∧ PySem.W.findIn K (.ref C) (cmpInfo op).2.2 = some (some (.ref g)) ∧ PySem.W.isFn K (.ref g) = true ∧
    ((op = .Gt ∧ PySem.W.findIn K (.ref C) "__gt__" = some (some (.builtin "object.__gt__"))) ∨ (op = .GtE ∧ PySem.W.findIn K (.ref C) "__ge__" = some (some (.builtin "object.__ge__")))) ∧ PySem.W.mroIn K C (.type "object") = some true
def BackT (P : Program) (w : World) (K : PySem.W.Frag) (mg : Str → Option Value) (base : Heap) (T : Tx) (k : Nat) (op : CmpOp) (t : List (Str × (List D → List D → FR))) : Prop := ∀ p ∈ t, BackG P w K mg base T k op p.1 p.2
section
variable {P : Program} {w : World} {K : PySem.W.Frag} {mg : Str → Option Value} {base : Heap} {T : Tx} {k j : Nat} {cp : CmpOp} {c : Str} {φ : List D → List D → FR} {t : List (Str × (List D → List D → FR))}
theorem BackT.nil : BackT P w K mg base T k cp [] := fun _ m => by cases m
theorem BackT.cons (h : BackG P w K mg base T j cp c φ) (r : BackT P w K mg base T k cp t) (hj : j ≤ k := by decide) : BackT P w K mg base T k cp ((c, φ) :: t) := fun p q => by
  rcases List.mem_cons.mp q with rfl | q
  · intro C e
    obtain ⟨g, fd, ps, h1, h2⟩ := h C e
    exact ⟨g, fd, ps, h1.mono hj, h2⟩
  · exact r p q
end
section
variable {T : Tx} {K : PySem.W.Frag} {G : Hp} {w : Wd} {st : S} {σ : L2.St} {H : Hp} {Q : VK} {W : WX} {α : Type} {t : List (Str × α)} {r1 r2 : Rv} {v1 v2 : V} {k : α → D → D → S → Res}
end
section
variable {prog : Program} {w : World} {A : Around} {E : Value → Shared → Prop} {s : Shared} {K : PySem.W.Frag} {x C L f : Addr} {h₀ : Heap} {m : Str → Option Value} {ox : Obj} {od : Option Obj} {b : Value}
end
section
variable {X : Cx} {T : Tx} {k j : Nat} {cp : CmpOp} {t : List (Str × (List D → List D → FR))} {a b : Expr} {fa fb : S → Res} {pos : Pos}
end
section
variable {t : List (Str × (List D → List D → FR))} {a b : S → Res} {r1 r2 : Rv} {sl : List Sl} {ob : List D} {d1 d2 : D}
end
end Bv

namespace Bv
open PySem PySem.Spec PyProof.Rows L2
/-- the promise goes by the exception that is pinned -/
structure FnX (P : Program) (w : World) (K : PySem.W.Frag) (mg : Str → Option Value) (base : Heap) (k : Nat) (f : Addr) (fd : FuncData) (ps : List Str) (sp : Addr × Obj → Sp) : Prop where
  len : ∀ p vs H Q E, sp p vs H Q E → vs.length = ps.length
  run : ∀ (A : Around) (outer : List Env) (s : Shared) (H : Hp) (args : Args) (us : List Value) (vs : List V) (Q : VK) (E : XK) (p : Addr × Obj), L2H.RoomH k A → A.guards = some [] → L2H.PinOk outer H s p → Env0 P w K mg base A outer s H →
    BindsTo s fd args (ps.zip us) → Vals vs us → sp p vs H Q E → codeAny (model P w) A (.call (.ref f) args) (CR (L2.CX P w) outer P w H s Q E) s
theorem FnX.mono {P : Program} {w : World} {K : PySem.W.Frag} {mg : Str → Option Value} {base : Heap} {j k : Nat} {f : Addr} {fd : FuncData} {ps : List Str} {sp : Addr × Obj → Sp} (F : FnX P w K mg base j f fd ps sp) (h : j ≤ k) : FnX P w K mg base k f fd ps sp :=
  ⟨F.len, fun A o s H args us vs Q E p hr => F.run A o s H args us vs Q E p (hr.mono h)⟩
/-- a body that is handed the error -/
def fnX (g : Exn → S → SRes) (n : Nat) : Exn → List D → FR := fun e ob => match g e ⟨.hd :: List.replicate (n - 1) .no, ob⟩ with
  | .nx st => .ok (.val .non) st.ob
  | .rt r st => match rtv st r with
    | some r' => .ok r' st.ob
    | none => .bad
  | _ => .bad
section
variable {T T' : Tx} {K : PySem.W.Frag} {G : Hp} {w w' : Wd} {st : S} {σ : L2.St} {H : Hp} {v : V} {ob : List D} {r : Rv}
theorem RR.reT (hc : T.cls = T'.cls) (x : RR T K G w st σ H r v) : RR T' K G w st σ H r v := by
  cases r with
  | val d => exact Rep.reT hc x
  | fresh d =>
    obtain ⟨a, h0, h1, h2, h3, h4, h5⟩ := x
    exact ⟨a, h0, h1, h2, h3, h4, h5.reT hc⟩
  | bor i => exact x
theorem SR.bare (R : SR T K G w ⟨[], ob⟩ [] H) (hc : T.cls = T'.cls) (ht : TabG T' G) (hb : Ex T'.bs w.Hf ∧ Ob T'.bio w.io) : SR T' K G w ⟨[], ob⟩ [] H := R.reT hc ht hb fun i h => by simp at h
theorem PostF2.reT {φ : FR} {Q : VK} {E : XK} (hc : T.cls = T'.cls) (ht : TabG T G) (hb : Ex T.bs w.Hf ∧ Ob T.bio w.io) (h : PostF2 T K G w φ Q E) : PostF2 T' K G w φ Q E := by
  cases φ with
  | ok r ob => exact fun w' H' v l R x => h w' H' v l (R.bare hc.symm ht ⟨hb.1.trans l.1, hb.2.trans l.2⟩) (x.reT hc.symm)
  | exc e ob => exact fun w' H' c d l R x => h w' H' c d l (R.bare hc.symm ht ⟨hb.1.trans l.1, hb.2.trans l.2⟩) (x.reT hc.symm)
  | bad => exact h
end
section
variable {P : Program} {w : World} {K : PySem.W.Frag} {mg : Str → Option Value} {base : Heap} {T : Tx} {x qual : Str} {st : Stmt} {f : Addr} {fd : FuncData} {N ps : List Str} {k : Nat} {g : Exn → S → SRes}
end
section
variable {X : Cx} {T : Tx} {k j i : Nat} {φ : Exn → List D → FR} {e : Exn} {x n : Str} {p p1 pos : Pos}
end
section
variable {φ : Exn → List D → FR} {i : Nat} {e : Exn} {sl : List Sl} {ob : List D}
end
end Bv

namespace Bv
open PySem PySem.Spec PyProof.Rows L2

def cut (H : Hp) (a : Addr) : Hp := fun b => if b = a then none else H b
theorem cut_ne {H : Hp} {a b : Addr} (n : b ≠ a) : cut H a b = H b := if_neg n
section
variable {T : Tx} {K : PySem.W.Frag} {io : List Addr} {H : Hp} {a : Addr} {o : Obj} {kvs : List (Key × V)}
mutual
theorem Rep.cutF (ha : H a = some (.frz o (.dK kvs))) : ∀ {v : V} {d : D}, Rep T K io H v d → Rep T K io (cut H a) v d
  | _, _, .non => .non
  | _, _, .bl b => .bl b
  | _, _, .int i => .int i
  | _, _, .str x => .str x
  | _, _, .tup h r => .tup (by rw [cut_ne fun z => by rw [z, ha] at h; cases h]; exact h) (RepL.cutF ha r)
  | _, _, .lst h r => .lst (by rw [cut_ne fun z => by rw [z, ha] at h; cases h]; exact h) (RepL.cutF ha r)
  | _, _, .rol h r => .rol (h.imp (fun q => q.imp (fun q => by rw [cut_ne fun z => by rw [z, ha] at q; cases q]; exact q) fun ⟨o', q⟩ => ⟨o', by rw [cut_ne fun z => by rw [z, ha] at q; cases q]; exact q⟩) fun q => q) (RepL.cutF ha r)
  | _, _, .dicK h r => .dicK (by rw [cut_ne fun z => by rw [z, ha] at h; cases h]; exact h) (RepK.cutF ha r)
  | _, _, .dicT h r => .dicT (by rw [cut_ne fun z => by rw [z, ha] at h; cases h]; exact h) (RepT.cutF ha r)
  | _, _, .dicN hw h r => .dicN hw (by rw [cut_ne fun z => by rw [z, ha] at h; cases h]; exact h) (RepN.cutF ha r)
  | _, _, .ins c h r => .ins c (by rw [cut_ne fun z => by rw [z, ha] at h; cases h]; exact h) (RepF.cutF ha r)
  | _, _, .exv c h x r => .exv c (by rw [cut_ne fun z => by rw [z, ha] at h; unfold XvO at h; cases h]; exact h) (x.elim .inl fun ⟨d, e, k⟩ => .inr ⟨d, e, by rw [cut_ne fun z => by rw [z, ha] at k; cases k]; exact k⟩) (RepF.cutF ha r)
  | _, _, .ob h => .ob h
  | _, _, .cl h => .cl h
theorem RepL.cutF (ha : H a = some (.frz o (.dK kvs))) : ∀ {v : List V} {d : List D}, RepL T K io H v d → RepL T K io (cut H a) v d
  | _, _, .nil => .nil
  | _, _, .cons h r => .cons (Rep.cutF ha h) (RepL.cutF ha r)
theorem RepK.cutF (ha : H a = some (.frz o (.dK kvs))) : ∀ {v : List (Key × V)} {d : List (D × D)}, RepK T K io H v d → RepK T K io (cut H a) v d
  | _, _, .nil => .nil
  | _, _, .cons h r => .cons (Rep.cutF ha h) (RepK.cutF ha r)
theorem RepT.cutF (ha : H a = some (.frz o (.dK kvs))) : ∀ {v : List (List Key × V)} {d : List (D × D)}, RepT T K io H v d → RepT T K io (cut H a) v d
  | _, _, .nil => .nil
  | _, _, .cons h r => .cons (Rep.cutF ha h) (RepT.cutF ha r)
theorem RepN.cutF (ha : H a = some (.frz o (.dK kvs))) : ∀ {v : List NE} {d : List (D × D)}, RepN T K io H v d → RepN T K io (cut H a) v d
  | _, _, .nil => .nil
  | _, _, .cons a b c d f r => .cons (Rep.cutF ha a) b c (Rep.cutF ha d) f (RepN.cutF ha r)
theorem RepF.cutF (ha : H a = some (.frz o (.dK kvs))) : ∀ {v : List (Str × V)} {d : List (Str × D)}, RepF T K io H v d → RepF T K io (cut H a) v d
  | _, _, .nil => .nil
  | _, _, .cons h r => .cons (Rep.cutF ha h) (RepF.cutF ha r)
end
end
section
variable {T : Tx} {K : PySem.W.Frag} {G : Hp} {w w' : Wd} {st : S} {σ : L2.St} {H : Hp} {a b : Addr} {d : D} {v : V} {i : Nat} {o : Obj} {u : HO} {kvs : List (Key × V)} {es : List (D × D)}
theorem Con.cut (ha : w.Hf a = some (.frz o (.dK kvs))) (n : b ≠ a) : ∀ {d : D}, Con T K w H b d → Con T K ⟨cut w.Hf a, w.io⟩ (upd H a u) b d
  | .lst _, ⟨xs, h, r⟩ => ⟨xs, by rw [upd_ne n]; exact h, r.cutF ha⟩
  | .dic _, ⟨k, h, r⟩ => ⟨k, by rw [upd_ne n]; exact h, r.cutF ha⟩
  | .dit _, ⟨k, h, r⟩ => ⟨k, by rw [upd_ne n]; exact h, r.cutF ha⟩
  | .dmx _, ⟨W, k, hw, h, r⟩ => ⟨W, k, hw, by rw [upd_ne n]; exact h, r.cutF ha⟩
  | .ins _ _, ⟨C, dx, fs, c, h, r⟩ => ⟨C, dx, fs, c, by rw [upd_ne n]; exact h, r.cutF ha⟩
theorem ExV.cut {F : Hp} {a : Addr} {x : Option HO} {z : HO} {o : Obj} {kvs : List (Key × V)} (h : ExV F x z) (ha : F a = some (.frz o (.dK kvs))) : ExV (cut F a) x z := by
  rcases h with h | ⟨q, t, h, ps, h1, h2, h3⟩
  · exact .inl h
  · refine .inr ⟨q, t, h, ps, h1, h2, fun pos cv hc => ?_⟩
    obtain ⟨c, e1, e2⟩ := h3 pos cv hc
    refine ⟨c, e1, ?_⟩
    have n : c ≠ a := fun z => by
      rw [z, ha] at e2
      unfold LamX.CodeO at e2
      cases e2
    rw [cut_ne n]; exact e2
end

section
variable {X : Cx} {T : Tx} {i : Nat}
end

def prsD (es : List (D × D)) : List D := es.map fun p => .tup [p.1, p.2]
def keysD (es : List (D × D)) : List D := es.map Prod.fst
section
variable {X : Cx} {T : Tx} {K : PySem.W.Frag} {G : Hp} {w w' : Wd} {st : S} {σ : L2.St} {H : Hp} {a : Addr} {o : Obj} {kvs : List (Key × V)} {es : List (D × D)}
theorem rep_key {T : Tx} {K : PySem.W.Frag} {w : Wd} (k : Key) : RepW T K w (L2.kV k) (kD k) := by
  cases k with
  | inl i => exact .int i
  | inr x => exact .str x
theorem RepK.at : ∀ {kvs : List (Key × V)} {es : List (D × D)} {io : List Addr} {H : Hp}, RepK T K io H kvs es → ∀ {i : Nat} {k : Key} {v : V}, kvs[i]? = some (k, v) → ∃ d, es[i]? = some (kD k, d) ∧ Rep T K io H v d
  | _, _, _, _, .nil, i, k, v, h => by simp at h
  | _, _, _, _, .cons r rs, 0, k, v, h => by
    simp at h
    obtain ⟨rfl, rfl⟩ := h
    exact ⟨_, rfl, r⟩
  | _, _, _, _, .cons r rs, i + 1, k, v, h => RepK.at rs (by simpa using h)
theorem ItD.items (h : w.Hf a = some (.frz o (.dK kvs))) (r : RepK T K w.io w.Hf kvs es) : ItD T K w (Iti a o kvs) (prsD es) := by
  have hl : (prsD es).length = kvs.length := by unfold prsD; rw [List.length_map, r.len]
  refine ⟨fun i H hi x => ⟨x _ _ h, by rw [← hl]; exact hi⟩, fun H x => ⟨x _ _ h, by rw [hl]; exact Nat.le_refl _⟩, fun i H y H' hi x yl => ?_⟩
  obtain ⟨q, k, v, hq, rfl, hn, rfl⟩ := yl
  obtain ⟨d, h1, h2⟩ := r.at hq
  exact ⟨.tup [kD k, d], by unfold prsD; rw [List.getElem?_map, h1]; rfl, .inr ⟨q, _, _, rfl, hn, rfl, rfl, .cons (rep_key k) (.cons h2 .nil)⟩⟩
theorem ItD.keys (h : w.Hf a = some (.frz o (.dK kvs))) (r : RepK T K w.io w.Hf kvs es) : ItD T K w (Itk a o kvs) (keysD es) := by
  have hl : (keysD es).length = kvs.length := by unfold keysD; rw [List.length_map, r.len]
  refine ⟨fun i H hi x => ⟨x _ _ h, by rw [← hl]; exact hi⟩, fun H x => ⟨x _ _ h, by rw [hl]; exact Nat.le_refl _⟩, fun i H y H' hi x yl => ?_⟩
  obtain ⟨rfl, k, v, hq, rfl⟩ := yl
  obtain ⟨d, h1, h2⟩ := r.at hq
  exact ⟨kD k, by unfold keysD; rw [List.getElem?_map, h1]; rfl, .inl ⟨rfl, rep_key k⟩⟩
end
section
variable {X : Cx} {T : Tx} {tg e : Expr} {apos cpos p : Pos} {i : Nat} {x : Str} {w : Wd} {a : Addr} {es : List (D × D)}
end
end Bv
namespace Bv
open PySem PySem.Spec PyProof.Rows L2
section
variable {X : Cx} {T : Tx} {b : Expr} {pos p : Pos} {i : Nat} {x : Str} {w : Wd} {a : Addr} {es : List (D × D)} {fb : S → Res}
end
end Bv

namespace Bv
open PySem PySem.Spec PyProof.Rows L2
section
variable {sl : List Sl} {ob : List D} {st st' : S} {i : Nat} {es : List (D × D)} {d d' : D} {r : Rv} {e : Exn} {E : Post} {P : Rv → S → Prop} {X : Exn → S → Prop} {fS : List (D × D) → S → SRes} {fE : List (D × D) → S → Res} {f fb : S → Res} {ds : List D} {pr : List (D × D) → List D} {c : Key}
end
end Bv

namespace Bv
open PySem PySem.Spec PyProof.Rows L2
end Bv
namespace Bv
open PySem PySem.Spec PyProof.Rows L2
section
variable {X : Cx}
variable {T : Tx} {ifs : List Expr} {scope : Scope} {own : List (Str × Nat)} {t fk fv : S → Res} {vs vg : List Nat} {fi : S → LRes} {g : D → S → Option S} {kx vx tg e : Expr} {pos : Pos}
end
end Bv

namespace Bv
open PySem PySem.Spec PyProof.Rows L2
section
variable {X : Cx} {T : Tx} {K : PySem.W.Frag} {o e a : Expr} {fo fe fa : S → Res} {pos apos p : Pos}
end
end Bv

namespace Bv
open PySem PySem.Spec PyProof.Rows L2

section
variable {prog : Program} {w : World} {A : Around} {E : Value → Shared → Prop} {s : Shared} {K : PySem.W.Frag} {x C f : Addr} {ox : Obj} {od : Option Obj} {b tb : Value}
end

section
variable {X : Cx} {k : Nat} {f : Addr} {fd : FuncData} {ps : List Str} {sp : Sp}
end

def EqaG (P : Program) (w : World) (K : PySem.W.Frag) (mg : Str → Option Value) (base : Heap) (T : Tx) (k : Nat) (c : Str) (φ : List D → List D → FR) : Prop :=
  ∀ C, T.cls c = some C → ∃ (g : Addr) (fd : FuncData) (ps : List Str), FnG P w K mg base k g fd ps (spB T K 2 φ) ∧ Binds K fd ps [] ∧ PySem.W.findIn K (.ref C) "__eq__" = some (some (.ref g)) ∧ PySem.W.isFn K (.ref g) = true ∧ (∀ t ∈ kinds, PySem.W.notFirst K C (.type t) = true) ∧
    PySem.W.findIn K (.ref C) "__ne__" = some (some (.builtin "object.__ne__")) ∧ PySem.W.mroIn K C (.type "object") = some true
def EqaT (P : Program) (w : World) (K : PySem.W.Frag) (mg : Str → Option Value) (base : Heap) (T : Tx) (k : Nat) (t : List (Str × (List D → List D → FR))) : Prop := ∀ p ∈ t, EqaG P w K mg base T k p.1 p.2
def StrG (P : Program) (w : World) (K : PySem.W.Frag) (mg : Str → Option Value) (base : Heap) (T : Tx) (k : Nat) (c : Str) (φ : List D → List D → FR) : Prop :=
  ∀ C, T.cls c = some C → ∃ (g : Addr) (fd : FuncData) (ps : List Str), FnG P w K mg base k g fd ps (spB T K 1 φ) ∧ Binds K fd ps [] ∧ PySem.W.findIn K (.ref C) "__str__" = some (some (.ref g)) ∧ PySem.W.isFn K (.ref g) = true
def StrT (P : Program) (w : World) (K : PySem.W.Frag) (mg : Str → Option Value) (base : Heap) (T : Tx) (k : Nat) (t : List (Str × (List D → List D → FR))) : Prop := ∀ p ∈ t, StrG P w K mg base T k p.1 p.2
section
variable {P : Program} {w : World} {K : PySem.W.Frag} {mg : Str → Option Value} {base : Heap} {T : Tx} {k j : Nat} {c : Str} {φ : List D → List D → FR} {t : List (Str × (List D → List D → FR))}
theorem EqaT.nil : EqaT P w K mg base T k [] := fun _ m => by cases m
theorem EqaT.cons (h : EqaG P w K mg base T j c φ) (r : EqaT P w K mg base T k t) (hj : j ≤ k := by decide) : EqaT P w K mg base T k ((c, φ) :: t) := fun p q => by
  rcases List.mem_cons.mp q with rfl | q
  · intro C e
    obtain ⟨g, fd, ps, h1, h2⟩ := h C e
    exact ⟨g, fd, ps, h1.mono hj, h2⟩
  · exact r p q
theorem StrT.nil : StrT P w K mg base T k [] := fun _ m => by cases m
theorem StrT.cons (h : StrG P w K mg base T j c φ) (r : StrT P w K mg base T k t) (hj : j ≤ k := by decide) : StrT P w K mg base T k ((c, φ) :: t) := fun p q => by
  rcases List.mem_cons.mp q with rfl | q
  · intro C e
    obtain ⟨g, fd, ps, h1, h2⟩ := h C e
    exact ⟨g, fd, ps, h1.mono hj, h2⟩
  · exact r p q
end
section
variable {T : Tx} {K : PySem.W.Frag} {G : Hp} {w : Wd} {st : S} {σ : L2.St} {H : Hp} {Q : VK} {W : WX} {α : Type} {t : List (Str × α)} {r1 r2 : Rv} {v1 v2 : V} {k : α → D → D → S → Res}
end
section
variable {X : Cx} {T : Tx} {k j : Nat} {n : Bool} {cp : CmpOp} {t : List (Str × (List D → List D → FR))} {a b : Expr} {fa fb : S → Res} {pos : Pos}
end

section
variable {X : Cx} {T : Tx} {k j : Nat} {t : List (Str × (List D → List D → FR))} {o : Expr} {fo : S → Res} {p pos : Pos}
end
section
variable {t : List (Str × (List D → List D → FR))} {a b fo : S → Res} {r r1 r2 : Rv} {sl : List Sl} {ob : List D} {d d1 d2 : D} {st : S} {c : Str} {gs : List (Str × D)} {φ : List D → List D → FR} {n : Bool}
end
section
variable {T : Tx} {K : PySem.W.Frag}
end
end Bv

namespace Bv
open PySem PySem.Spec PyProof.Rows L2

section
variable {T : Tx} {K : PySem.W.Frag} {G : Hp} {w : Wd} {st : S} {σ : L2.St} {H : Hp} {P c : Addr} {q : Str}
/-- the table is where T says -/
theorem SR.table (R : SR T K G w st σ H) (ht : (P, q) ∈ T.tb) : (∃ t : Tok, G P = some (.tbl #[.str q t])) ∧ TabV w.Hf q (H P) := by
  obtain ⟨t, e⟩ := R.tab _ ht
  refine ⟨⟨t, e⟩, ?_⟩
  rcases R.exg _ _ e with ⟨_, n⟩ | ⟨q', t', e', v⟩
  · exact absurd rfl (n _)
  · have z := HO.tbl.inj e'
    have z2 : Value.str q t = Value.str q' t' := by simpa using z
    cases z2
    exact v
end
section
variable {X : Cx} {T : Tx} {G : Hp} {w : Wd} {st : S} {pins : List (Addr × Obj)} {σ : L2.St} {H : Hp} {s : Shared} {P c : Addr} {params : Arguments} {body : Expr} {scope : Scope} {pos : Pos} {E : Value → Shared → Prop} {Q : Value → Shared → Prop} {ps : Array Value}
end
section
variable {X : Cx} {T : Tx} {G : Hp} {w : Wd} {st : S} {pins : List (Addr × Obj)} {σ : L2.St} {H HZ : Hp} {s s1 : Shared} {f c' : Addr} {pm ctv : Value} {params : Arguments} {body : Expr} {scope : Scope} {k : Nat} {e : S → Res}
end
end Bv

namespace Bv
open PySem PySem.Spec PyProof.Rows L2

section
variable {T : Tx} {K : PySem.W.Frag} {G : Hp} {w : Wd} {ob : List D} {H : Hp}
end

section
variable {X : Cx} {T : Tx} {k j n : Nat} {x : Str} {q : Str → Str → Option Bool} {hs : List HCl} {e : S → Res} {c P : Addr} {params : Arguments} {body : Expr} {scope : Scope} {p lpos pos : Pos}
end
section
variable {n : Nat} {q : Str → Str → Option Bool} {hs : List HCl} {e : S → Res} {r : Rv} {d : D} {x : Exn} {sl : List Sl} {ob ob' : List D} {st : S}
end
end Bv

namespace Bv
open PySem PySem.Spec PyProof.Rows L2

/-- the marks of the tables -/
def marks : List (Addr × Str) → Hp
  | [] => fun _ => none
  | p :: r => upd (marks r) p.1 (.tbl #[.str p.2 0])
/-- what is tracked when the law is called: its empty tables, and the script's list, if that is not written -/
structure Track (Pr : Program) (w : World) (K : PySem.W.Frag) (h : Heap) (a : Addr) (Ps : List Addr) (o : Obj) (xs : List V) (H : Hp) : Prop where
  tab : ∀ P ∈ Ps, H P = some (.tbl #[])
  only : ∀ b u, H b = some u → b ∈ Ps ∨ (b = a ∧ u = .frz o (.lst xs) ∧ K.lookup a = none)
  ok : L2.HOk Pr w H h
  sq : SqL K H a xs
section
variable {Pr : Program} {w : World} {K : PySem.W.Frag} {h : Heap} {a P c : Addr} {Ps : List Addr} {o : Obj} {xs : List V} {H : Hp} {mg : Str → Option Value} {vs : List Value}
theorem Track.seen (t : Track Pr w K h a Ps o xs H) (hP : ∀ P ∈ Ps, h.get? P = some { cls := .none, data := .fields #[] }) (ha : h.get? a = some { cls := .type "list", data := .seq vs.toArray }) {b : Addr} {u : Obj} (e : h.get? b = some u) (n : u.data ≠ .fields #[]) (m : ∀ x k, u.data ≠ .seq x k) : (hidT h H).get? b = some u := by
  refine hidT_get e ?_
  match q : H b with
  | none => rfl
  | some z =>
    rcases t.only b z q with mm | ⟨rfl, _⟩
    · rw [hP _ mm] at e; cases e; exact absurd rfl n
    · rw [ha] at e; cases e; exact absurd rfl (m _ _)
theorem Track.ns (t : Track Pr w K h a Ps o xs H) (hP : ∀ P ∈ Ps, h.get? P = some { cls := .none, data := .fields #[] }) (ha : h.get? a = some { cls := .type "list", data := .seq vs.toArray }) {b : Addr} {m : Str → Option Value} (N : h.Ns b m) : (hidT h H).Ns b m := by
  obtain ⟨u, es, ep, e, d, r⟩ := N
  exact ⟨u, es, ep, t.seen hP ha e (by rw [d]; exact fun z => nomatch z) (by rw [d]; exact fun _ _ z => nomatch z), d, r⟩
theorem Track.kin (t : Track Pr w K h a Ps o xs H) (kin : K.In h) (nP : ∀ P ∈ Ps, K.lookup P = none) : K.In (hidT h H) := fun b u e => hidT_get (kin b u e) (by
  match q : H b with
  | none => rfl
  | some z =>
    rcases t.only b z q with mm | ⟨rfl, _, k⟩
    · rw [nP _ mm] at e; cases e
    · rw [k] at e; cases e)
end
/-- a law's tables: each by its code object, its place, its lambdas' name -/
abbrev TabL := List (Addr × Addr × Str)
def TabL.ps (L : TabL) : List Addr := L.map (·.2.1)
def TabL.tb (L : TabL) : List (Addr × Str) := L.map (·.2)
end Bv

namespace Bv
open PySem PySem.Spec PyProof.Rows L2
end Bv

namespace Bv
open PySem PySem.Spec PyProof.Rows L2
/-- the own classes, asked of the type U -/
def OwnB (K : PySem.W.Frag) (T : Tx) (U : String) (x : Str) (tb : Tab) : Prop := ∀ p ∈ tb, p.2.1 = x → ∀ B, T.cls p.1 = some B → Cls K B ∧ SlX.SIsi K B ∧ PySem.W.kitOne K (.ref B) (.type U) = some p.2.2
section
variable {K : PySem.W.Frag} {T : Tx} {B : Addr} {U : String} {x a b : Str} {k : Bool} {tb : Tab}
theorem OwnB.nil : OwnB K T U x [] := fun _ m => by cases m
theorem OwnB.cons (h : T.cls a = some B) (kc : Cls K B) (si : SlX.SIsi K B) (kk : PySem.W.kitOne K (.ref B) (.type U) = some k) (r : OwnB K T U x tb) : OwnB K T U x ((a, b, k) :: tb) := fun p m e B' h' => by
  rcases List.mem_cons.mp m with rfl | m
  · have h2 : T.cls a = some B' := h'
    rw [h] at h2
    cases h2
    exact ⟨kc, si, kk⟩
  · exact r p m e B' h'
theorem OwnB.skip (h : b ≠ x) (r : OwnB K T U x tb) : OwnB K T U x ((a, b, k) :: tb) := fun p m e B' h' => by
  rcases List.mem_cons.mp m with rfl | m
  · exact absurd e h
  · exact r p m e B' h'
theorem OwnB.at {w : Wd} {i : Nat} {A : Addr} (h : OwnB K T U x tb) : OwnB K (atS T w A i) U x tb := h
end
section
variable {X : Cx} {T : Tx} {tb : Tab} {x : Str} {a : Expr} {fa : S → Res} {p p2 pos : Pos}
end
end Bv

namespace Bv
open PySem PySem.Spec PyProof.Rows L2
theorem sign_lt (c : Char) : c.toNat < 1114112 := by
  have h := c.valid
  show c.val.toNat < 1114112
  rcases h with h | ⟨_, h⟩
  · exact Nat.lt_trans h (by decide)
  · exact h
theorem hexes_lt {k c d : Nat} (m : d ∈ List.replicate k 48 ++ (Nat.toDigits 16 c).map Char.toNat) : d < 1114112 := by
  rcases List.mem_append.mp m with m | m
  · rw [(List.mem_replicate.mp m).2]; decide
  · obtain ⟨ch, _, rfl⟩ := List.mem_map.mp m
    exact sign_lt ch
theorem signs_of {q c : Nat} (hc : c < 1114112) : ∀ d ∈ Builtin.Str.reprChar q c, d < 1114112 := by
  intro d m
  have two : ∀ {x y : Nat}, x < 1114112 → y < 1114112 → d ∈ [x, y] → d < 1114112 := fun h1 h2 m => by
    simp only [List.mem_cons, List.not_mem_nil, or_false] at m
    rcases m with rfl | rfl <;> assumption
  have app : ∀ {x y k : Nat}, x < 1114112 → y < 1114112 → d ∈ [x, y] ++ (List.replicate k 48 ++ (Nat.toDigits 16 c).map Char.toNat) → d < 1114112 := fun h1 h2 m => by
    rcases List.mem_append.mp m with m | m
    · exact two h1 h2 m
    · exact hexes_lt m
  unfold Builtin.Str.reprChar at m
  dsimp only at m
  split at m
  · exact two (by decide) hc m
  split at m
  · exact two (by decide) (by decide) m
  split at m
  · exact two (by decide) (by decide) m
  split at m
  · exact two (by decide) (by decide) m
  split at m
  · rw [List.mem_singleton.mp m]; exact hc
  split at m
  · exact app (by decide) (by decide) m
  split at m
  · exact app (by decide) (by decide) m
  · exact app (by decide) (by decide) m
theorem all_told {q : Nat} : ∀ (l : List Nat) (acc : Array Nat), (∀ c ∈ l, c < 1114112) → (∀ c ∈ acc.toList, c < 1114112) → ∀ c ∈ (l.foldl (fun out c => out ++ (Builtin.Str.reprChar q c).toArray) acc).toList, c < 1114112
  | [], acc, _, h => h
  | c :: r, acc, h1, h2 => by
    rw [List.foldl_cons]
    refine all_told r _ (fun d m => h1 d (List.mem_cons_of_mem _ m)) fun d m => ?_
    simp only [Array.toList_append, List.mem_append] at m
    rcases m with m | m
    · exact h2 d m
    · exact signs_of (h1 c (List.mem_cons_self ..)) d m
theorem strOk_mem {x : Str} : PyData.strOk x = true ↔ ∀ c ∈ x.cps.toList, c < 1114112 := by
  unfold PyData.strOk
  rw [Array.all_eq_true']
  simp only [decide_eq_true_eq, Array.mem_toList_iff]
theorem ok_reprText {x : Str} (h : PyData.strOk x = true) : PyData.strOk (reprText x) = true := by
  have hq : reprQuote x < 1114112 := by
    unfold reprQuote
    split <;> decide
  refine strOk_mem.mpr fun c m => ?_
  unfold reprText at m
  simp only [Array.toList_push, List.mem_append, List.mem_singleton] at m
  rcases m with m | rfl
  · rw [← Array.foldl_toList] at m
    exact all_told _ _ (strOk_mem.mp h) (fun d m => by
      have m' : d ∈ [reprQuote x] := m
      rw [List.mem_singleton.mp m']; exact hq) c m
  · exact hq
theorem Sh1.str {x : Str} {n : Nat} (h : PyData.strOk x = true) (hl : x.length ≤ n) : Sh1 0 (10 * n + 2) (.str x) := by
  refine ⟨by simp only [okG]; exact ok_reprText h, ?_⟩
  simp only [szG]
  have := PySem.StrLaws.reprText_len x fun c m => Nat.lt_trans (strOk_mem.mp h c m) (by decide)
  omega
/-- a text of a datum is short and can be shown -/
theorem Sh1.len {n m : Nat} {d : D} (h : Sh1 n m d) : PyData.strOk (shG d) = true ∧ (shG d).length ≤ m := by
  obtain ⟨_, _, h3, h4⟩ := okG_show (k := 400) (by decide) (by decide) n d h.1
  exact ⟨h4, Nat.le_trans h3 h.2⟩
end Bv

namespace Bv
open PySem PySem.Spec PyProof.Rows L2
section
variable {X : Cx} {T : Tx} {k j n : Nat} {c x : Str} {A : Addr} {φ : List D → List D → FR} {e : Expr} {es : List Expr} {g : S → LRes} {p pos : Pos}
end
end Bv

namespace Bv
open PySem PySem.Spec PyProof.Rows L2
section
variable {X : Cx} {T : Tx} {K : PySem.W.Frag}
end
section
variable {X : Cx} {T : Tx} {pos : Pos}
end
section
variable {X : Cx} {T : Tx} {K : PySem.W.Frag} {o e : Expr} {fo fe : S → Res} {pos apos : Pos}
end
end Bv

namespace Bv
open PySem PySem.Spec PyProof.Rows L2
section
variable {X : Cx} {T : Tx} {k j : Nat} {t : List (Str × (List D → List D → FR))} {a b : Expr} {fa fb : S → Res} {pos : Pos}
end
section
variable {X : Cx} {T : Tx} {pos : Pos}
end
end Bv

namespace Bv
open PySem PySem.Spec PyProof.Rows L2
def GetG (P : Program) (w : World) (K : PySem.W.Frag) (mg : Str → Option Value) (base : Heap) (T : Tx) (k : Nat) (c : Str) (φ : List D → List D → FR) : Prop :=
  ∀ C, T.cls c = some C → ∃ (g : Addr) (fd : FuncData) (ps : List Str), FnG P w K mg base k g fd ps (spB T K 2 φ) ∧ Binds K fd ps [] ∧ PySem.W.findIn K (.ref C) "__getitem__" = some (some (.ref g)) ∧ PySem.W.isFn K (.ref g) = true ∧ PySem.W.fnIn K g = true
def GetT (P : Program) (w : World) (K : PySem.W.Frag) (mg : Str → Option Value) (base : Heap) (T : Tx) (k : Nat) (t : List (Str × (List D → List D → FR))) : Prop := ∀ p ∈ t, GetG P w K mg base T k p.1 p.2
section
variable {P : Program} {w : World} {K : PySem.W.Frag} {mg : Str → Option Value} {base : Heap} {T : Tx} {k j : Nat} {c : Str} {φ : List D → List D → FR} {t : List (Str × (List D → List D → FR))}
theorem GetT.nil : GetT P w K mg base T k [] := fun _ m => by cases m
theorem GetT.cons (h : GetG P w K mg base T j c φ) (r : GetT P w K mg base T k t) (hj : j ≤ k := by decide) : GetT P w K mg base T k ((c, φ) :: t) := fun p q => by
  rcases List.mem_cons.mp q with rfl | q
  · intro C e
    obtain ⟨g, fd, ps, h1, h2⟩ := h C e
    exact ⟨g, fd, ps, h1.mono hj, h2⟩
  · exact r p q
end
section
variable {X : Cx} {T : Tx} {k j : Nat} {t : List (Str × (List D → List D → FR))} {a b : Expr} {fa fb : S → Res} {pos : Pos}
end
section
variable {t : List (Str × (List D → List D → FR))} {a b : S → Res} {sl : List Sl} {ob : List D} {st : S} {c : Str} {gs : List (Str × D)} {d1 d2 : D} {r1 r2 : Rv} {φ : List D → List D → FR}
end
end Bv

namespace Bv
end Bv

namespace Bv
open PySem PySem.Spec PyProof.Rows L2
section
variable {X : Cx} {T : Tx} {pos : Pos}
end
end Bv

namespace Bv
open PySem PySem.Spec PyProof.Rows L2
section
variable {X : Cx} {T : Tx} {K : PySem.W.Frag} {p pos : Pos} {a : Expr} {fa : S → Res}
end
end Bv

namespace Bv
open PySem PySem.Spec PyProof.Rows L2
def ConG (P : Program) (w : World) (K : PySem.W.Frag) (mg : Str → Option Value) (base : Heap) (T : Tx) (k : Nat) (c : Str) (φ : List D → List D → FR) : Prop :=
  ∀ C, T.cls c = some C → ∃ (g : Addr) (fd : FuncData) (ps : List Str), FnG P w K mg base k g fd ps (spB T K 2 φ) ∧ Binds K fd ps [] ∧ PySem.W.findIn K (.ref C) "__contains__" = some (some (.ref g)) ∧ PySem.W.isFn K (.ref g) = true
def ConT (P : Program) (w : World) (K : PySem.W.Frag) (mg : Str → Option Value) (base : Heap) (T : Tx) (k : Nat) (t : List (Str × (List D → List D → FR))) : Prop := ∀ p ∈ t, ConG P w K mg base T k p.1 p.2
section
variable {P : Program} {w : World} {K : PySem.W.Frag} {mg : Str → Option Value} {base : Heap} {T : Tx} {k j : Nat} {c : Str} {φ : List D → List D → FR} {t : List (Str × (List D → List D → FR))}
theorem ConT.nil : ConT P w K mg base T k [] := fun _ m => by cases m
theorem ConT.cons (h : ConG P w K mg base T j c φ) (r : ConT P w K mg base T k t) (hj : j ≤ k := by decide) : ConT P w K mg base T k ((c, φ) :: t) := fun p q => by
  rcases List.mem_cons.mp q with rfl | q
  · intro C e
    obtain ⟨g, fd, ps, h1, h2⟩ := h C e
    exact ⟨g, fd, ps, h1.mono hj, h2⟩
  · exact r p q
end
section
variable {X : Cx} {T : Tx} {k j : Nat} {n : Bool} {t : List (Str × (List D → List D → FR))} {a b : Expr} {fa fb : S → Res} {pos : Pos}
end
section
variable {n : Bool} {t : List (Str × (List D → List D → FR))} {a b : S → Res} {sl : List Sl} {ob : List D} {st : S} {c : Str} {gs : List (Str × D)} {d1 d2 : D} {r1 r2 : Rv} {φ : List D → List D → FR}
end
end Bv

namespace Bv
open PySem PySem.Spec PyProof.Rows L2
section
variable {prog : Program} {w : World} {A : Around} {E : Value → Shared → Prop} {s : Shared}
end
section
variable {X : Cx} {T : Tx} {K : PySem.W.Frag} {a : Expr} {fa : S → Res} {ta : TE} {p p2 q pos : Pos}
end
end Bv

namespace Bv
open PySem PySem.Spec PyProof.Rows L2
section
variable {X : Cx} {pins : List (Addr × Obj)} {σ : L2.St} {H : Hp} {s : Shared}
end
def prT : D → Option (List Key × D)
  | .tup [.tup ds, d] => (keysOf ds).map fun k => (k, d)
  | _ => none
def prsT : List D → Option (List (List Key × D))
  | [] => some []
  | d :: ds => match prT d, prsT ds with
    | some p, some ps => some (p :: ps)
    | _, _ => none
def mrgD (es : List (D × D)) (ps : List (List Key × D)) : List (D × D) := ps.foldl (fun acc p => putD acc (.inr p.1) (tD p.1) p.2) es
def dicT : D → Option Rv
  | .lst xs => (prsT xs).map fun ps => .fresh (.dit (mrgD [] ps))
  | _ => none
section
variable {X : Cx} {T : Tx} {K : PySem.W.Frag} {a : Expr} {fa : S → Res} {p pos : Pos}
end
end Bv

namespace Bv
open PySem PySem.Spec PyProof.Rows L2
def UnG (m : Str) (P : Program) (w : World) (K : PySem.W.Frag) (mg : Str → Option Value) (base : Heap) (T : Tx) (k : Nat) (c : Str) (φ : List D → List D → FR) : Prop :=
  ∀ C, T.cls c = some C → ∃ (g : Addr) (fd : FuncData) (ps : List Str), FnG P w K mg base k g fd ps (spB T K 1 φ) ∧ Binds K fd ps [] ∧ PySem.W.findIn K (.ref C) m = some (some (.ref g)) ∧ PySem.W.isFn K (.ref g) = true
def UnT (m : Str) (P : Program) (w : World) (K : PySem.W.Frag) (mg : Str → Option Value) (base : Heap) (T : Tx) (k : Nat) (t : List (Str × (List D → List D → FR))) : Prop := ∀ p ∈ t, UnG m P w K mg base T k p.1 p.2
section
variable {m : Str} {P : Program} {w : World} {K : PySem.W.Frag} {mg : Str → Option Value} {base : Heap} {T : Tx} {k j : Nat} {c : Str} {φ : List D → List D → FR} {t : List (Str × (List D → List D → FR))}
theorem UnT.nil : UnT m P w K mg base T k [] := fun _ m => by cases m
theorem UnT.cons (h : UnG m P w K mg base T j c φ) (r : UnT m P w K mg base T k t) (hj : j ≤ k := by decide) : UnT m P w K mg base T k ((c, φ) :: t) := fun p q => by
  rcases List.mem_cons.mp q with rfl | q
  · intro C e
    obtain ⟨g, fd, ps, h1, h2⟩ := h C e
    exact ⟨g, fd, ps, h1.mono hj, h2⟩
  · exact r p q
end
section
variable {X : Cx} {T : Tx} {k j : Nat} {t : List (Str × (List D → List D → FR))} {o : Expr} {fo : S → Res} {p pos : Pos}
end
section
variable {t : List (Str × (List D → List D → FR))} {fo : S → Res} {sl : List Sl} {ob : List D} {r : Rv} {d : D} {φ : List D → List D → FR}
end
end Bv

namespace Bv
open PySem PySem.Spec PyProof.Rows L2
section
variable {X : Cx} {T : Tx} {K : PySem.W.Frag} {a e : Expr} {te : TE} {fa : S → Res} {k : Nat} {p1 p2 p3 pos : Pos}
end
end Bv

namespace Bv
open PySem PySem.Spec PyProof.Rows L2
section
variable {X : Cx} {T : Tx} {a : Expr} {fa : S → Res} {y z : Str} {i : Int} {j j0 j1 : Nat} {cp sp c0 c1 apos pos : Pos}
end
end Bv

namespace Bv
open PySem PySem.Spec PySem.Calls PyProof.Rows PySem.W
open PySem.Builtin.Float (FormatSpec parseFormatSpec)
/-- an int in a field: to the right, w wide, with or without marks between the groups of three -/
def intTx (w : Nat) (g : Option Char) (i : Int) : Str := Num.intField { align := 62, width := some w, grouping := g } (decide (i < 0)) [] ((Nat.toDigits 10 i.natAbs).map Char.toNat) [] 3
/-- a text in a field: to the left, w wide -/
def strTx (w : Nat) (x : Str) : Str := ⟨(x.cps.toList ++ List.replicate (w - x.length) 32).toArray⟩
/-- how an int and a text look in the fields :>3, :>24, and :<16 -/
inductive Fs where
  | r3 | r24 | l16
def Fs.sp : Fs → Str
  | .r3 => Str.ofString ">3"
  | .r24 => Str.ofString ">24,"
  | .l16 => Str.ofString "<16"
open L2 in
def rFs : Fs → V → Hp → VK → Prop
  | .r3, v, H, Q => ∃ i : Int, v = .int i ∧ i.natAbs.log2 < 1920 ∧ (intTx 3 none i).length ≤ sizeLine ∧ Q (.str (intTx 3 none i)) H
  | .r24, v, H, Q => ∃ i : Int, v = .int i ∧ i.natAbs.log2 < 1920 ∧ (intTx 24 (some ',') i).length ≤ sizeLine ∧ Q (.str (intTx 24 (some ',') i)) H
  | .l16, v, H, Q => ∃ x : Str, v = .str x ∧ (strTx 16 x).length ≤ sizeLine ∧ Q (.str (strTx 16 x)) H
section
open L2
variable {X : Cx} {T : Tx} {e : Expr} {te : TE} {f : S → Res} {j : Nat} {cp sp pos : Pos}
end
end Bv

namespace Bv
open PySem PySem.Spec PyProof.Rows L2
section
variable {X : Cx} {T : Tx} {a b : Expr} {fa fb : S → Res} {pos : Pos}
end
end Bv

namespace EZ
open PySem PySem.W RZ
open PySem.Sem (wp)
/-- a zip of two tuples as it stands: its first two fields, the pair it keeps, how far it is -/
abbrev ZipF (h : Heap) (z TI TO : Addr) (v : Value) (f : Bool) : Prop :=
  h.get? z = some { cls := .type "zip", dict := none, data := .fields #[v, .bool f, .bool false, .ref TI, .ref TO], slots := #[] }
structure ZW (h : Heap) (z TI TO i1 i2 l1 l2 : Addr) (v : Value) (f : Bool) (a b : Value) (k1 k2 : Nat) (xs ys : Array Value) : Prop where
  zp : h.get? z = some { cls := .type "zip", dict := none, data := .fields #[v, .bool f, .bool false, .ref TI, .ref TO], slots := #[] }
  pI : IsPair h TI (.ref i1) (.ref i2)
  pO : IsPair h TO a b
  t1 : h.IsTupleIter i1 l1 k1
  t2 : h.IsTupleIter i2 l2 k2
  s1 : h.IsTuple l1 xs
  s2 : h.IsTuple l2 ys
/-- all else stands -/
def Oth (z TO i1 i2 : Addr) (h h' : Heap) : Prop := ∀ c o, c ≠ z → c ≠ TO → c ≠ i1 → c ≠ i2 → h.get? c = some o → h'.get? c = some o
section
variable {prog : Program} {w : World} {A : Around} {E : Value → Shared → Prop} {s : Shared}
variable {z TI TO i1 i2 l1 l2 : Addr} {v : Value} {f : Bool} {a b : Value} {k1 k2 : Nat} {xs ys : Array Value}
theorem Oth.trans {h h' h'' : Heap} (x : Oth z TO i1 i2 h h') (y : Oth z TO i1 i2 h' h'') : Oth z TO i1 i2 h h'' := fun c o c1 c2 c3 c4 e => y c o c1 c2 c3 c4 (x c o c1 c2 c3 c4 e)
/-- a new object changes nothing -/
theorem ZW.new (S : ZW s.heap z TI TO i1 i2 l1 l2 v f a b k1 k2 xs ys) (o : Obj) : ZW (s.heap.push o) z TI TO i1 i2 l1 l2 v f a b k1 k2 xs ys :=
  ⟨Heap.get?_push_of_some _ S.zp, Heap.get?_push_of_some _ S.pI, Heap.get?_push_of_some _ S.pO, S.t1.at fun o e => Heap.get?_push_of_some _ e, S.t2.at fun o e => Heap.get?_push_of_some _ e, S.s1.at fun o e => Heap.get?_push_of_some _ e, S.s2.at fun o e => Heap.get?_push_of_some _ e⟩
/-- an enumerate as it stands -/
abbrev EnG (h : Heap) (e it : Addr) (g : Value) (i : Int) (old : Value) : Prop :=
  h.get? e = some { cls := .type "enumerate", dict := none, data := .fields #[g, .bool false, .ref it, rawInt i, .none, old], slots := #[] }
end
end EZ

namespace EZ
open PySem PySem.Spec PyProof.Rows L2 RZ
end EZ
namespace Bv
open PySem PySem.Spec PyProof.Rows L2 EZ
section
variable (T : Tx) (K : PySem.W.Frag) (G : Hp) (w : Wd) (σ : L2.St)
end
section
variable {X : Cx} {T : Tx} {tg e : Expr} {body : List Stmt} {fi : S → LRes} {g : D → S → Option S} {b : S → SRes} {pos : Pos}
end
section
variable {T : Tx} {K : PySem.W.Frag} {G : Hp} {w : Wd} {σ : L2.St} {W : WX}
end
end Bv

namespace Bv
open PySem PySem.Spec PyProof.Rows L2

section
variable {X : Cx}
end
section
variable {X : Cx} {T : Tx} {o : Expr} {fo : S → Res} {f : D → Option Rv} {j : Nat} {p apos pos : Pos}
end
section
variable {b : Bool} {r : List D} {xs : List D} {n : Nat} {bs : List Bool}
end

section
variable {X : Cx} {T : Tx} {a : Expr} {fa : S → Res} {lo hi : Int} {j1 j2 : Nat} {p p1 p2 p3 pos : Pos}
end
section
variable {f : S → Res} {k : Int → Option (List D)} {sl : List Sl} {ob : List D} {st : S} {n : Nat} {i : Int} {xs : List D}
end
end Bv

namespace Bv
open PySem PySem.Spec PyProof.Rows L2

section
variable {prog : Program} {w : World} {A : Around} {s : Shared}
end
section
variable {X : Cx} {T : Tx} {K : PySem.W.Frag} {pins : List (Addr × Obj)} {σ : L2.St} {H : Hp} {s : Shared}
end
theorem _root_.L2H.RoomH.units {k : Nat} {A : Around} (r : L2H.RoomH k A) : A.units + 64 < cLine := by have := r.un; omega
section
variable {X : Cx} {T : Tx} {a : Expr} {fa : S → Res} {lo hi : Int} {j1 j2 : Nat} {p p1 p2 p3 pos : Pos}
end
end Bv

namespace Bv
open PySem PySem.Spec PyProof.Rows L2

def fresh5 (m : Nat) : List Addr → List Addr × Nat → List Addr × Nat
  | [], r => r
  | a :: as, (out, mask) => match Nat.blt a m && Nat.beq (Nat.land (Nat.shiftRight mask a) 1) 0 with
    | true => fresh5 m as (a :: out, Nat.lor mask (Nat.shiftLeft 1 a))
    | false => fresh5 m as (out, mask)
def walk5 (m : Nat) (g : Addr → Option Obj) : Nat → List Addr → Nat → List Addr → List Addr
  | 0, _, _, acc => acc
  | n + 1, front, mask, acc => match fresh5 m (front.flatMap fun a => match g a with
      | some o => He.refsD o
      | none => []) ([], mask) with
    | (new, mask') => walk5 m g n new mask' (new ++ acc)
def as5 (g : Addr → Option Obj) (skip : List Addr) : List Addr := cStatics :: (walk5 1000000 g 5 [mainGlobals] (Nat.shiftLeft 1 mainGlobals) [mainGlobals]).filter fun a => !skip.contains a
/-- a def: where it stands, its text, its defaults -/
structure DefX where
  at_ : PySem.W.Frag → Addr
  name : Str
  qual : Str
  params : Arguments
  body : List Stmt
  scope : Scope
  dfl : List He.Dv := []
  cel : Bool := false
def celX (b : Bool) (c : List (Str × Addr)) : List (Str × Addr) := match b with
  | true => []
  | false => c
def fnKX (K : PySem.W.Frag) (b : Bool) (a : Addr) : He.FnW := match K.lookup a with
  | some ⟨_, _, .func fd, _⟩ => some (fd.name, fd.qualname, fd.params, fd.body, fd.scope, fd.globals, celX b fd.closure, fd.builtins)
  | _ => none
def DefX.val (d : DefX) : He.FnW := some (d.name, d.qual, d.params, .stmts d.body, d.scope, mainGlobals, [], builtinsNs)
def DefX.dvs (K : PySem.W.Frag) (d : DefX) : List V := d.dfl.map (He.Dv.v K)
def okX (K : PySem.W.Frag) (d : DefX) (a : Addr) : Bool := PySem.W.keepIn K (.ref a) && (match K.lookup a with
  | some ⟨_, _, .func fd, _⟩ => PySem.W.codeIn K fd.code d.qual && He.dflB K fd.defaults (d.dvs K)
  | _ => false)
theorem funKX {K : PySem.W.Frag} {d : DefX} {a : Addr} (e : fnKX K false a = d.val) (c : okX K d a = true) : ∃ fd, FunD K d.name d.qual d.params d.body d.scope (d.dvs K) [] a fd := by
  obtain ⟨kp, c2⟩ := Bool.and_eq_true_iff.mp c
  unfold fnKX at e
  cases q : K.lookup a with
  | none => rw [q] at c2; cases c2
  | some o =>
    obtain ⟨oc, od, dt, osl⟩ := o
    rw [q] at c2 e
    cases dt with
    | func fd =>
      obtain ⟨n1, n2, n3, n4, n5, n6, n7, n8, n9, n10, n11, n12, n13, n14, n15⟩ := fd
      have e2 : (some (n1, n2, n3, n4, n5, n6, n7, n15) : He.FnW) = some (d.name, d.qual, d.params, .stmts d.body, d.scope, mainGlobals, [], builtinsNs) := e
      simp only [Option.some.injEq, Prod.mk.injEq] at e2
      obtain ⟨h1, h2, h3, h4, h5, h6, h7, h8⟩ := e2
      subst h1 h2 h3 h4 h5 h6 h7 h8
      obtain ⟨k1, k2⟩ := Bool.and_eq_true_iff.mp (show (PySem.W.codeIn K n13 d.qual && He.dflB K n8 (d.dvs K)) = true from c2)
      exact ⟨_, ⟨oc, od, n8, n9, n10, n11, n12, n13, n14, osl, rfl, q, k1, He.dflB_ok k2, .inl rfl⟩, kp⟩
    | _ => cases c2
def obsK (fl : PySem.W.Frag → List Bool) (fn : List DefX) (K : PySem.W.Frag) : He.AlD := ((fl K).all id && fn.all fun d => okX K d (d.at_ K), fn.map fun d => fnKX K d.cel (d.at_ K))
def valK (fn : List DefX) : He.AlD := (true, fn.map DefX.val)
def SaysK (fl : PySem.W.Frag → List Bool) (fn : List DefX) (K : PySem.W.Frag) : Prop := obsK fl fn K = valK fn
def obsG (fl : PySem.W.Frag → List Bool) (fn : List DefX) (g : Addr → Option Obj) : He.AlD := obsK fl fn (He.frG g (as5 g []))
def hookK (fl : PySem.W.Frag → List Bool) (fn : List DefX) : PySem.W.Hook where
  α := He.AlD
  obs := fun s => obsG fl fn s.heap.get?
  val := fun _ => valK fn
  says := fun _ h => ∃ K : PySem.W.Frag, K.In h ∧ SaysK fl fn K
  of := fun _ _ e => ⟨_, He.frG_in, e⟩
  keeps := fun _ _ _ ⟨K, hK, c⟩ k => ⟨K, PySem.W.Frag.In.keeps hK k, c⟩
theorem obsG_eq {fl : PySem.W.Frag → List Bool} {fn : List DefX} (s : PySem.W.SharedT) : obsG fl fn (HandSHeadRun.getT s) = (hookK fl fn).obs s.abs := by
  have e : HandSHeadRun.getT s = s.abs.heap.get? := funext (HandSHeadRun.getT_eq s)
  rw [e]; rfl
section
variable {fl : PySem.W.Frag → List Bool} {fn : List DefX} {K : PySem.W.Frag}
theorem SaysK.fact (c : SaysK fl fn K) (i : Nat) {b : Bool} (h : (fl K)[i]? = some b := by rfl) : b = true := by
  have c1 : ((fl K).all id && fn.all fun d => okX K d (d.at_ K)) = true := congrArg (fun z : He.AlD => z.1) c
  exact List.all_eq_true.mp (Bool.and_eq_true_iff.mp c1).1 b (List.mem_of_getElem? h)
theorem SaysK.at2 (c : SaysK fl fn K) (i : Nat) {d : DefX} (h : fn[i]? = some d) : fnKX K d.cel (d.at_ K) = d.val ∧ okX K d (d.at_ K) = true := by
  have c1 : ((fl K).all id && fn.all fun d => okX K d (d.at_ K)) = true := congrArg (fun z : He.AlD => z.1) c
  have e : fn.map (fun d => fnKX K d.cel (d.at_ K)) = fn.map DefX.val := congrArg (fun z : He.AlD => z.2) c
  have e2 : (fn.map fun d => fnKX K d.cel (d.at_ K))[i]? = (fn.map DefX.val)[i]? := by rw [e]
  rw [List.getElem?_map, List.getElem?_map, h] at e2
  exact ⟨Option.some.inj e2, List.all_eq_true.mp (Bool.and_eq_true_iff.mp c1).2 d (List.mem_of_getElem? h)⟩
theorem SaysK.def_ (c : SaysK fl fn K) (i : Nat) {d : DefX} (h : fn[i]? = some d := by rfl) (hc : d.cel = false := by rfl) : ∃ fd, FunD K d.name d.qual d.params d.body d.scope (d.dvs K) [] (d.at_ K) fd := by
  obtain ⟨e1, e2⟩ := c.at2 i h
  rw [hc] at e1
  exact funKX e1 e2
/-- a fact that is an equation -/
theorem SaysK.eq {α : Type} {x y : α} [Decidable (x = y)] (c : SaysK fl fn K) (i : Nat) (h : (fl K)[i]? = some (decide (x = y)) := by rfl) : x = y := of_decide_eq_true (c.fact i h)
end
theorem fun_ofD {K : PySem.W.Frag} {x q : Str} {st : Stmt} {f : Addr} {fd : FuncData} (F : FunD K x q (defArgs st) (defBody st) (defScope st) [] [] f fd) : L2.Fun K x q st f fd := by
  obtain ⟨⟨oc, od, dV, kV, doc, pm, an, cdv, ct, osl, e, lk, hcd, dfl, _⟩, kp⟩ := F
  rcases dfl with ⟨_, rfl⟩ | ⟨z, _⟩
  · exact ⟨⟨oc, od, kV, doc, pm, an, cdv, ct, osl, e, lk, hcd⟩, kp⟩
  · exact absurd rfl z
def intGB (K : PySem.W.Frag) (x : Str) (i : Int) : Bool := match PySem.W.nsIn K mainGlobals x with
  | some (some (.int j _)) => decide (j = i)
  | _ => false
theorem intGB_ok {K : PySem.W.Frag} {x : Str} {i : Int} (h : intGB K x i = true) : ∃ t, PySem.W.nsIn K mainGlobals x = some (some (.int i t)) := by
  unfold intGB at h
  split at h
  · rename_i j t e
    obtain rfl := of_decide_eq_true h
    exact ⟨t, e⟩
  · cases h
def strGB (K : PySem.W.Frag) (x z : Str) : Bool := match PySem.W.nsIn K mainGlobals x with
  | some (some (.str y _)) => decide (y = z)
  | _ => false
theorem strGB_ok {K : PySem.W.Frag} {x z : Str} (h : strGB K x z = true) : ∃ t, PySem.W.nsIn K mainGlobals x = some (some (.str z t)) := by
  unfold strGB at h
  split at h
  · rename_i j t e
    obtain rfl := of_decide_eq_true h
    exact ⟨t, e⟩
  · cases h
theorem walkGE {l : PySem.W.OpenLaw} {k : Nat} {q : Program} {loose : List Str} {XP : (Str → Option Value) → Heap → Prop} {YP : World → Heap → Prop} {d : DefRec} {φ : List D → List D → FR} {x : Str}
    (hn : l.most = some 63) (hdf : d.params.defaults = []) (hr : Room k callerA)
    (F : ∀ (w : World) (mg : Str → Option Value) (fa : Addr) (h : Heap), YP w h → h.Ns mainGlobals mg → mg d.name = some (.ref fa) →
      ∃ (K : PySem.W.Frag) (c0 : ClsM) (fd : FuncData), K.In h ∧ (∀ (s : Shared) (u : Value), BindsTo s fd ⟨[u], []⟩ [(x, u)]) ∧ ∀ base : Heap, K.In base → base.Ns mainGlobals mg → FnG l.prog w K mg base k fa fd [x] (spB { cls := c0 } K 1 φ))
    (hφ : Keeps φ) : PySem.W.WalkO q loose XP YP l.row.toRowW d [] (fun f vs => PySem.call f vs) := by
  refine Att.attach_callB hn hdf fun w s₀ s0 mg mb fa o pm cd doc a vs ns G Y ho hd hcd hmg hobj hints hlen hbits hg => ?_
  obtain ⟨K, T, fd, kin, hb, hF⟩ := F w mg fa _ Y G.T.g hmg
  exact law_callG kin G.T.g G.T.b G.T.builtins G.T.nolimit hg hobj hints (Nat.le_trans hlen (by rw [sizeLine_eq]; decide)) hr hF hb fun H hS => spB_law hφ hlen hbits hS _
end Bv

namespace Bv
open PySem PySem.Spec PyProof.Rows L2

/-- name -= e, of ints -/
def sAugSub (i : Nat) (f : S → Res) : S → SRes := fun st => match st.sl[i]? with
  | some (.frz (.int a)) => (f st).bindS fun r st1 => match r with
    | .val (.int b) => .nx (st1.set i (.frz (.int (a - b))))
    | _ => .bad
  | _ => .bad
section
variable {X : Cx} {T : Tx} {e : Expr} {f : S → Res} {pos : Pos}
def kAug (i : Nat) (a : Int) (r : Rv) (st : S) : SRes := match r with
  | .val (.int b) => .nx ⟨st.sl.set i (.frz (.int (a - b))), st.ob⟩
  | _ => .bad
@[simp] theorem kAug_run {i : Nat} {a b : Int} {sl : List Sl} {ob : List D} : kAug i a (.val (.int b)) ⟨sl, ob⟩ = .nx ⟨sl.set i (.frz (.int (a - b))), ob⟩ := id rfl
@[simp] theorem sAugSub_run {i : Nat} {a : Int} {sl : List Sl} {ob : List D} (h : sl[i]? = some (.frz (.int a))) : sAugSub i f ⟨sl, ob⟩ = (f ⟨sl, ob⟩).bindS (kAug i a) := by
  unfold sAugSub
  simp only [h]
  congr 1
end
end Bv

namespace Bv
open PySem PySem.Spec PyProof.Rows L2
section
variable {X : Cx} {T : Tx} {K : PySem.W.Frag} {a : Expr} {fa : S → Res} {p pos : Pos}
end
end Bv

namespace Bv
open PySem PySem.Spec PyProof.Rows L2
end Bv

namespace Bv
open PySem PySem.Spec PyProof.Rows L2
/-- v is the key k -/
structure IsN (h : Heap) (k : NestedKey) (v : Value) : Prop where
  is : NestedIs h k v
  dp : k.depth ≤ 8
theorem IsN.inj {h : Heap} {x y : NestedKey} {v : Value} (a : IsN h x v) (b : IsN h y v) : x = y := NestedIs.inj _ _ _ a.is b.is
/-- the entries hold the keys ks -/
structure EsN (w : World) (h : Heap) (es : Array DictEntry) (ks : List NestedKey) : Prop where
  size : es.size = ks.length
  key : ∀ (i : Nat) (hi : i < es.size), IsN h (ks.getD i .none) es[i].key ∧ es[i].hash = (ks.getD i .none).hash w
  nd : ks.Nodup
/-- where k stands -/
def Found (ks : List NestedKey) (k : NestedKey) (r : Option Nat) : Prop := (r = none ∧ k ∉ ks) ∨ ∃ j, r = some j ∧ ks[j]? = some k
section
variable {prog : Program} {w : World} {A : Around} {E : Value → Shared → Prop} {s : Shared} {d : Addr} {o : Obj} {es : Array DictEntry} {ep : Nat} {ks : List NestedKey} {k : NestedKey} {u : Value}
theorem EsN.at_ (x : EsN w s.heap es ks) {i : Nat} (hi : i < es.size) : ∃ k', ks[i]? = some k' ∧ IsN s.heap k' es[i].key ∧ es[i].hash = k'.hash w := by
  have hl : i < ks.length := by rw [← x.size]; exact hi
  have e : ks[i]? = some (ks.getD i .none) := by rw [List.getD_eq_getElem?_getD, List.getElem?_eq_getElem hl]; rfl
  exact ⟨_, e, x.key i hi⟩
/-- k does not stand before i -/
def NotB (ks : List NestedKey) (k : NestedKey) (i : Nat) : Prop := ∀ j, j < i → ks[j]? ≠ some k
theorem NotB.skip (x : EsN w s.heap es ks) {i n : Nat} (a : NotB ks k i) (hn : n ≤ es.size) (h : ∀ j, i ≤ j → j < n → ((es[j]?.map (·.hash)) == some (k.hash w)) = false) : NotB ks k n := fun j hj e => by
  by_cases q : j < i
  · exact a j q e
  · have := h j (by omega) hj
    obtain ⟨k', e', _, hh⟩ := x.at_ (i := j) (by omega)
    rw [e] at e'
    cases e'
    rw [Array.getElem?_eq_getElem (by omega), Option.map_some, hh] at this
    simp at this
theorem NotB.all (x : EsN w s.heap es ks) (a : NotB ks k es.size) : Found ks k none := .inl ⟨rfl, fun m => by
  obtain ⟨j, hj⟩ := List.mem_iff_getElem?.mp m
  exact a j (by rw [x.size]; exact (List.getElem?_eq_some_iff.mp hj).1) hj⟩
end
end Bv

namespace Bv
open PySem PySem.Spec PyProof.Rows L2
/-- its keys are keys -/
def KeysN (h : Heap) (xs : List NE) : Prop := ∀ x ∈ xs, IsN h x.1 x.2.1
def valN (xs : List NE) (k : NestedKey) : Option Value := (xs.find? fun x => decide (x.1 = k)).map (·.2.2)
def putN (xs : List NE) (k : NestedKey) (u v : Value) : List NE := if k ∈ xs.map (·.1) then xs.map fun x => if x.1 = k then (x.1, x.2.1, v) else x else xs ++ [(k, u, v)]
theorem DictN.typeIs {w : World} {s : Shared} {d : Addr} {xs : List NE} (x : DictN w s.heap d xs) : s.TypeIs (.ref d) "dict" := let ⟨o, _, _, ho, hc, _⟩ := x; ⟨o, ho, hc.1⟩
theorem DictN.at_ {w : World} {h h' : Heap} {d : Addr} {xs : List NE} (x : DictN w h d xs) (k : ∀ o, h.get? d = some o → h'.get? d = some o) : DictN w h' d xs := let ⟨o, es, ep, ho, r⟩ := x; ⟨o, es, ep, k o ho, r⟩
section
variable {prog : Program} {w : World} {A : Around} {E : Value → Shared → Prop} {s : Shared} {d : Addr} {k : NestedKey} {u v : Value} {xs : List NE}
end
end Bv

namespace Bv
open PySem PySem.Spec PyProof.Rows L2
mutual
inductive VKey (H : Hp) : NestedKey → V → Prop
  | non : VKey H .none .non
  | bl (b : Bool) : VKey H (.num (if b = true then 1 else 0)) (.bl b)
  | int (i : Int) : VKey H (.num i) (.int i)
  | str (x : Str) : VKey H (.text x) (.str x)
  | tup {a : Addr} {ks : List NestedKey} {xs : List V} : H a = some (.tup xs) → VKeys H ks xs → VKey H (.tup ks) (.ref a)
inductive VKeys (H : Hp) : List NestedKey → List V → Prop
  | nil : VKeys H [] []
  | cons {k : NestedKey} {x : V} {ks : List NestedKey} {xs : List V} : VKey H k x → VKeys H ks xs → VKeys H (k :: ks) (x :: xs)
end
section
variable {P : Program} {w : World} {H : Hp} {h : Heap}
mutual
theorem VKey.is (ok : L2.HOk P w H h) : ∀ {k : NestedKey} {x : V} {u : Value}, VKey H k x → RelV x u → NestedIs h k u
  | _, _, u, .non, r => by have : u = Value.none := r; subst this; exact .none
  | _, _, u, .bl b, r => by have : u = Value.bool b := r; subst this; exact .bool rfl
  | _, _, u, .int i, r => by obtain ⟨t, rfl⟩ := (show ∃ t, u = Value.int i t from r); exact .int i t
  | _, _, u, .str x, r => by obtain ⟨t, rfl⟩ := (show ∃ t, u = Value.str x t from r); exact .text x t
  | _, _, u, .tup (a := a) e ks, r => by
    have : u = Value.ref a := r
    subst this
    obtain ⟨_, its, rv, o, ho, hc, n, hd⟩ := ok a _ e
    exact .tup ho hc hd (by simpa using VKeys.is ok ks rv)
theorem VKeys.is (ok : L2.HOk P w H h) : ∀ {ks : List NestedKey} {xs : List V} {us : List Value}, VKeys H ks xs → Vals xs us → NestedAll h ks us
  | _, _, _, .nil, r => by cases r; exact .nil
  | _, _, _, .cons a as, r => by
    cases r with
    | cons r rs => exact .cons (VKey.is ok a r) (VKeys.is ok as rs)
end
end
section
variable {T : Tx} {K : PySem.W.Frag} {io : List Addr} {F H : Hp}
mutual
theorem Rep.vkey (e : Ex F H) : ∀ {v : V} {d : D}, Rep T K io F v d → ∀ {k : NestedKey}, ncode d = some k → VKey H k v
  | _, _, .non, _, h => by simp only [ncode] at h; cases h; exact .non
  | _, _, .bl b, _, h => by simp only [ncode] at h; cases h; exact .bl b
  | _, _, .int i, _, h => by simp only [ncode] at h; cases h; exact .int i
  | _, _, .str x, _, h => by simp only [ncode] at h; cases h; exact .str x
  | _, _, .tup (ds := ds) q r, _, h => by
    simp only [ncode] at h
    obtain ⟨ks, hk, rfl⟩ := Option.map_eq_some_iff.mp h
    exact .tup (e _ _ q) (RepL.vkeys e r hk)
  | _, _, .lst _ _, _, h => by simp [ncode] at h
  | _, _, .rol _ _, _, h => by simp [ncode] at h
  | _, _, .dicK _ _, _, h => by simp [ncode] at h
  | _, _, .dicT _ _, _, h => by simp [ncode] at h
  | _, _, .dicN _ _ _, _, h => by simp [ncode] at h
  | _, _, .ins _ _ _, _, h => by simp [ncode] at h
  | _, _, .exv _ _ _ _, _, h => by simp [ncode] at h
  | _, _, .ob _, _, h => by simp [ncode] at h
  | _, _, .cl _, _, h => by simp [ncode] at h
theorem RepL.vkeys (e : Ex F H) : ∀ {v : List V} {d : List D}, RepL T K io F v d → ∀ {ks : List NestedKey}, ncodeL d = some ks → VKeys H ks v
  | _, _, .nil, _, h => by simp only [ncodeL] at h; cases h; exact .nil
  | _, _, .cons (d := d) (ds := ds) a r, _, h => by
    simp only [ncodeL] at h
    split at h
    · rename_i k ks h1 h2
      cases h
      exact .cons (Rep.vkey e a h1) (RepL.vkeys e r h2)
    · cases h
end
end
/-- its keys, each with its value -/
def KeysV (H : Hp) (xs : List NE) : Prop := ∀ x ∈ xs, (∃ kv, VKey H x.1 kv ∧ RelV kv x.2.1) ∧ x.1.depth ≤ 8
/-- the place of a key that may be one -/
def key8 (d : D) : Option NestedKey := match ncode d with
  | some k => if k.depth ≤ 8 then some k else none
  | none => none
theorem key8_some {d : D} {k : NestedKey} (h : key8 d = some k) : ncode d = some k ∧ k.depth ≤ 8 := by
  unfold key8 at h
  split at h
  · rename_i k' e
    split at h
    · cases h; exact ⟨e, by assumption⟩
    · cases h
  · cases h
def lookN : List (D × D) → NestedKey → Option D
  | [], _ => none
  | (k, v) :: es, c => if ncode k = some c then some v else lookN es c
def deepN (es : List (D × D)) : Bool := es.all fun e => (key8 e.1).isSome
def putM (es : List (D × D)) (c : NestedKey) (k v : D) : List (D × D) :=
  if (es.any fun p => decide (ncode p.1 = some c)) = true then es.map (fun p => if ncode p.1 = some c then (p.1, v) else p) else es ++ [(k, v)]
section
variable {T : Tx} {K : PySem.W.Frag} {G : Hp} {w : Wd} {st : S} {σ : L2.St} {H : Hp} {v : V} {d : D}
theorem RepN.len {io : List Addr} {F : Hp} : ∀ {xs : List NE} {es : List (D × D)}, RepN T K io F xs es → xs.length = es.length
  | _, _, .nil => rfl
  | _, _, .cons _ _ _ _ _ r => by rw [List.length_cons, List.length_cons, r.len]
theorem RepN.keys {io : List Addr} {F : Hp} (e : Ex F H) : ∀ {xs : List NE} {es : List (D × D)}, RepN T K io F xs es → deepN es = true → KeysV H xs
  | _, _, .nil, _ => fun x m => by cases m
  | _, _, .cons (k := k) (kd := kd) a b c _ _ r, h => by
    unfold deepN at h
    rw [List.all_cons, Bool.and_eq_true] at h
    obtain ⟨k', hk'⟩ := Option.isSome_iff_exists.mp h.1
    obtain ⟨e1, e2⟩ := key8_some hk'
    rw [c] at e1
    cases e1
    intro x m
    rcases List.mem_cons.mp m with rfl | m
    · exact ⟨⟨_, Rep.vkey e a c, b⟩, e2⟩
    · exact RepN.keys e r h.2 x m
theorem valN_cons (x : NE) (xs : List NE) (k : NestedKey) : valN (x :: xs) k = if x.1 = k then some x.2.2 else valN xs k := by
  unfold valN
  rw [List.find?_cons]
  by_cases q : x.1 = k
  · rw [if_pos q, decide_eq_true q]; rfl
  · rw [if_neg q, decide_eq_false q]
theorem RepN.look {io : List Addr} {F : Hp} (c : NestedKey) : ∀ {xs : List NE} {es : List (D × D)}, RepN T K io F xs es → match lookN es c with
    | some d => ∃ v u, valN xs c = some u ∧ RelV v u ∧ Rep T K io F v d
    | none => valN xs c = none
  | _, _, .nil => rfl
  | _, _, .cons (k := k) (vv := vv) (vu := vu) a b e f g r => by
    have ih := RepN.look c r
    unfold lookN
    rw [e, valN_cons]
    by_cases q : k = c
    · subst q
      rw [if_pos rfl]
      exact ⟨vv, vu, if_pos rfl, g, f⟩
    · rw [if_neg (fun z => q (by cases z; rfl))]
      dsimp only
      rw [if_neg q]
      exact ih
theorem putN_cons (x : NE) (xs : List NE) (k : NestedKey) (u v : Value) (nd : ((x :: xs).map (·.1)).Nodup) : putN (x :: xs) k u v = if x.1 = k then (x.1, x.2.1, v) :: xs else x :: putN xs k u v := by
  rw [List.map_cons, List.nodup_cons] at nd
  unfold putN
  rw [List.map_cons]
  by_cases q : x.1 = k
  · rw [if_pos (by rw [q]; exact List.mem_cons_self ..), if_pos q, List.map_cons, if_pos q]
    congr 1
    have : ∀ y ∈ xs, (if y.1 = k then (y.1, y.2.1, v) else y) = y := fun y m => if_neg fun e => nd.1 (by rw [q, ← e]; exact List.mem_map_of_mem m)
    rw [List.map_congr_left this]; simp
  · rw [if_neg q]
    by_cases z : k ∈ xs.map (·.1)
    · rw [if_pos z, if_pos (List.mem_cons_of_mem _ z), List.map_cons, if_neg q]
    · rw [if_neg z, if_neg (fun m => (List.mem_cons.mp m).elim (fun e => q e.symm) z)]; rfl
theorem RepN.nokey {io : List Addr} {F : Hp} {k : NestedKey} : ∀ {xs : List NE} {es : List (D × D)}, RepN T K io F xs es → k ∉ xs.map (·.1) → ∀ p ∈ es, ncode p.1 ≠ some k
  | _, _, .nil, _, p, m => by cases m
  | _, _, .cons _ _ c _ _ r, n, p, m => by
    rw [List.map_cons] at n
    rcases List.mem_cons.mp m with rfl | m
    · rw [c]; exact fun z => n (by cases z; exact List.mem_cons_self ..)
    · exact RepN.nokey r (fun z => n (List.mem_cons_of_mem _ z)) p m
theorem RepN.put {io : List Addr} {F : Hp} {c : NestedKey} {ku vu : Value} {kv vv : V} {kd vd : D} (a : Rep T K io F kv kd) (b : RelV kv ku) (e : ncode kd = some c) (f : Rep T K io F vv vd) (g : RelV vv vu) :
    ∀ {xs : List NE} {es : List (D × D)}, RepN T K io F xs es → (xs.map (·.1)).Nodup → RepN T K io F (putN xs c ku vu) (putM es c kd vd)
  | _, _, .nil, _ => .cons a b e f g .nil
  | _, _, .cons (k := k) (kd := kd') (vd := vd') (xs := xs) (es := es) a' b' e' f' g' r, nd => by
    have ih := RepN.put a b e f g r (List.nodup_cons.mp (by rw [List.map_cons] at nd; exact nd)).2
    rw [putN_cons _ _ _ _ _ nd]
    by_cases q : k = c
    · subst q
      have hn : ∀ p ∈ es, ncode p.1 ≠ some k := by
        exact RepN.nokey r (List.nodup_cons.mp (by rw [List.map_cons] at nd; exact nd)).1
      rw [if_pos rfl]
      unfold putM
      rw [List.any_cons, if_pos (by rw [e', decide_eq_true rfl]; rfl), List.map_cons, if_pos e']
      have : es.map (fun p => if ncode p.1 = some k then (p.1, vd) else p) = es := by
        have h2 : ∀ p ∈ es, (if ncode p.1 = some k then (p.1, vd) else p) = id p := fun p m => if_neg (hn p m)
        rw [List.map_congr_left h2]; simp
      rw [this]
      exact .cons a' b' e' f g r
    · rw [if_neg (show ¬ k = c from q)]
      have ne : ¬ ncode kd' = some c := by rw [e']; exact fun z => q (by cases z; rfl)
      have pm : putM ((kd', vd') :: es) c kd vd = (kd', vd') :: putM es c kd vd := by
        unfold putM
        rw [List.any_cons, decide_eq_false ne, Bool.false_or]
        split
        · rw [List.map_cons, if_neg ne]
        · rfl
      rw [pm]
      exact .cons a' b' e' f' g' ih
/-- the dict in the heap -/
theorem Rep1.dmx (R : SR T K G w st σ H) {es : List (D × D)} (h : Rep1 T K w H v (.dmx es)) : ∃ a W xs, v = .ref a ∧ T.cls.wo = some W ∧ H a = some (.ext (MixP W a xs)) ∧ RepN T K w.io w.Hf xs es := by
  rcases h with h | ⟨a, rfl, W, xs, hw, h, r⟩
  · cases h with
    | dicN hw h r => exact ⟨_, _, _, rfl, hw, R.exf _ _ h, r⟩
  · exact ⟨a, W, xs, rfl, hw, h, r⟩
theorem Rep1.rep (R : SR T K G w st σ H) {k : NestedKey} (h : Rep1 T K w H v d) (e : ncode d = some k) : Rep T K w.io w.Hf v d := by
  rcases h with h | ⟨a, rfl, c⟩
  · exact h
  · cases d <;> first | (simp [ncode] at e; done) | exact c.elim
end
theorem KeysV.is {P : Program} {w : World} {H : Hp} {h : Heap} {xs : List NE} (ok : L2.HOk P w H h) (k : KeysV H xs) : KeysN h xs := fun x m => by
  obtain ⟨⟨kv, a, b⟩, c⟩ := k x m
  exact ⟨a.is ok b, c⟩
section
variable {X : Cx} {T : Tx} {K : PySem.W.Frag}
end
section
variable {X : Cx} {T : Tx} {K : PySem.W.Frag} {a b : Expr} {fa fb : S → Res} {pos : Pos}
end
section
variable {X : Cx} {T : Tx} {K : PySem.W.Frag} {G : Hp} {w : Wd} {st : S} {σ : L2.St} {H : Hp} {e o i : Expr} {fv fo fi : S → Res} {pos tpos : Pos}
end
end Bv

namespace Bv
open PySem PySem.Spec PyProof.Rows L2
section
variable {T : Tx} {K : PySem.W.Frag} {io : List Addr} {H : Hp}
end
section
variable {X : Cx} {T : Tx} {K : PySem.W.Frag} {e : Expr} {te : TE} {fa : S → Res} {lo : Option Expr} {l : Option Int} {k : Nat} {p2 p3 pos : Pos}
end
section
variable {sl : List Sl} {ob : List D} {st : S} {d d' : D} {fv fo fi : S → Res} {r : Rv}
end
end Bv

namespace Bv
open PySem PySem.Spec PyProof.Rows L2
open PySem.Sem (wp)
abbrev Zr (h : Heap) (z u o : Addr) (f0 : Value) (f1 : Bool) : Prop := h.get? z = some { cls := .type "zip", dict := none, data := .fields #[f0, .bool f1, .bool false, .ref u, .ref o], slots := #[] }
section
variable {prog : Program} {w : World} {A : Around} {E : Value → Shared → Prop} {s : Shared}
/-- where the zip stands: nothing given out yet, or a tuple -/
inductive ZF (h : Heap) (z u o : Addr) : Prop
  | fresh (e : Zr h z u o .none false)
  | out (T : Addr) (f : Bool) (e : Zr h z u o (rawInt T) f)
theorem ZF.obj {h : Heap} {z u o : Addr} (q : ZF h z u o) : ∃ ob, h.get? z = some ob ∧ ob.cls = .type "zip" ∧ ∀ v, ob.data ≠ .cell v := by
  cases q with
  | fresh e => exact ⟨_, e, rfl, fun v q => nomatch q⟩
  | out T f e => exact ⟨_, e, rfl, fun v q => nomatch q⟩
theorem ZF.keep {h h' : Heap} {z u o : Addr} (q : ZF h z u o) (k : ∀ ob, h.get? z = some ob → h'.get? z = some ob) : ZF h' z u o := by
  cases q with
  | fresh e => exact .fresh (k _ e)
  | out T f e => exact .out T f (k _ e)
end
section
variable {X : Cx} {T : Tx} {a b : Expr} {g : S → LRes} {p pos : Pos}
end
end Bv

namespace Bv
open PySem PySem.Spec PyProof.Rows L2
section
variable {X : Cx} {T : Tx} {pins : List (Addr × Obj)} {σ : L2.St} {H2 : Hp} {s2 : Shared}
end
/-- what a kind says of an operator, beside a class -/
def SideK (K : PySem.W.Frag) (C : Addr) (op : Operator) (t : String) : Prop := (PySem.W.findIn K (.type t) (PySem.dunder op.info.2)).isSome = true ∧ (PySem.W.findIn K (.type t) (PySem.dunderR op.info.2)).isSome = true ∧ PySem.W.subIn K (.type t) (.ref C) = some false
def BinAG (P : Program) (w : World) (K : PySem.W.Frag) (mg : Str → Option Value) (base : Heap) (T : Tx) (k : Nat) (op : Operator) (c : Str) (φ : List D → List D → FR) : Prop :=
  ∀ C, T.cls c = some C → ∃ (g : Addr) (fd : FuncData) (ps : List Str), FnG P w K mg base k g fd ps (spB T K 2 φ) ∧ Binds K fd ps [] ∧ PySem.W.selfFirst K C = true ∧ PySem.W.findIn K (.ref C) (PySem.dunder op.info.2) = some (some (.ref g)) ∧ PySem.W.isFn K (.ref g) = true ∧
    PySem.W.findIn K (.ref C) (PySem.dunderR op.info.2) = some none ∧ ∀ t ∈ kinds, SideK K C op t
def BinAT (P : Program) (w : World) (K : PySem.W.Frag) (mg : Str → Option Value) (base : Heap) (T : Tx) (k : Nat) (op : Operator) (t : List (Str × (List D → List D → FR))) : Prop := ∀ p ∈ t, BinAG P w K mg base T k op p.1 p.2
section
variable {P : Program} {w : World} {K : PySem.W.Frag} {mg : Str → Option Value} {base : Heap} {T : Tx} {k j : Nat} {op : Operator} {c : Str} {φ : List D → List D → FR} {t : List (Str × (List D → List D → FR))}
theorem BinAT.nil : BinAT P w K mg base T k op [] := fun _ m => by cases m
theorem BinAT.cons (h : BinAG P w K mg base T j op c φ) (r : BinAT P w K mg base T k op t) (hj : j ≤ k := by decide) : BinAT P w K mg base T k op ((c, φ) :: t) := fun p q => by
  rcases List.mem_cons.mp q with rfl | q
  · intro C e
    obtain ⟨g, fd, ps, h1, h2⟩ := h C e
    exact ⟨g, fd, ps, h1.mono hj, h2⟩
  · exact r p q
end
section
variable {X : Cx} {T : Tx} {k j : Nat} {op : Operator} {t : List (Str × (List D → List D → FR))} {a b : Expr} {fa fb : S → Res} {pos : Pos}
end
section
variable {t : List (Str × (List D → List D → FR))} {a b : S → Res} {r1 r2 : Rv} {sl : List Sl} {ob : List D} {d1 d2 : D} {st : S} {c : Str} {gs : List (Str × D)} {φ : List D → List D → FR}
end
section
variable {X : Cx} {T : Tx} {a b : Expr} {fa fb : S → Res} {pos : Pos}
end
end Bv

namespace Bv
open PySem PySem.Spec PyProof.Rows L2
section
variable {X : Cx} {T : Tx} {K : PySem.W.Frag} {a e : Expr} {te tn : TE} {fa fb : S → Res} {p3 pos : Pos}
end
end Bv

namespace ET
open PySem PySem.W RZ
open PySem.Sem (wp)
open EZ (ZipF EnG)
structure ZS (h : Heap) (z TI TO i1 i2 : Addr) (v : Value) (f : Bool) (a b : Value) (k1 k2 : Nat) (X Y : Str) (u1 u2 : Tok) : Prop where
  zp : h.get? z = some { cls := .type "zip", dict := none, data := .fields #[v, .bool f, .bool false, .ref TI, .ref TO], slots := #[] }
  pI : IsPair h TI (.ref i1) (.ref i2)
  pO : IsPair h TO a b
  t1 : h.IsStrIter i1 "str_ascii_iterator" X u1 k1
  t2 : h.IsStrIter i2 "str_ascii_iterator" Y u2 k2
/-- all else stands -/
def Oth (z TO i1 i2 : Addr) (h h' : Heap) : Prop := ∀ c o, c ≠ z → c ≠ TO → c ≠ i1 → c ≠ i2 → h.get? c = some o → h'.get? c = some o
section
variable {prog : Program} {w : World} {A : Around} {E : Value → Shared → Prop} {s : Shared}
variable {z TI TO i1 i2 : Addr} {v : Value} {f : Bool} {a b : Value} {k1 k2 : Nat} {X Y : Str} {u1 u2 : Tok} {c1 c2 : Nat}
theorem sit_keep {h h' : Heap} {i : Addr} {ty : String} {x : Str} {t : Tok} {k : Nat} (y : h.IsStrIter i ty x t k) (q : ∀ o, h.get? i = some o → h'.get? i = some o) : h'.IsStrIter i ty x t k := by
  obtain ⟨o, e, r⟩ := y
  exact ⟨o, q o e, r⟩
theorem Oth.trans {h h' h'' : Heap} (x : Oth z TO i1 i2 h h') (y : Oth z TO i1 i2 h' h'') : Oth z TO i1 i2 h h'' := fun c o c1 c2 c3 c4 e => y c o c1 c2 c3 c4 (x c o c1 c2 c3 c4 e)
/-- a new object changes nothing -/
theorem ZS.new (S : ZS s.heap z TI TO i1 i2 v f a b k1 k2 X Y u1 u2) (o : Obj) : ZS (s.heap.push o) z TI TO i1 i2 v f a b k1 k2 X Y u1 u2 :=
  ⟨Heap.get?_push_of_some _ S.zp, Heap.get?_push_of_some _ S.pI, Heap.get?_push_of_some _ S.pO, sit_keep S.t1 fun o e => Heap.get?_push_of_some _ e, sit_keep S.t2 fun o e => Heap.get?_push_of_some _ e⟩
/-- an enumerate as it stands -/
abbrev EnG (h : Heap) (e it : Addr) (g : Value) (i : Int) (old : Value) : Prop :=
  h.get? e = some { cls := .type "enumerate", dict := none, data := .fields #[g, .bool false, .ref it, rawInt i, .none, old], slots := #[] }
end
end ET
namespace ET
open PySem PySem.W RZ
open PySem.Sem (wp)
open EZ (ZipF EnG)
end ET
namespace ET
open PySem PySem.W RZ
open PySem.Sem (wp)
open EZ (ZipF EnG)
section
variable {prog : Program} {w : World} {A : Around} {E : Value → Shared → Prop} {s : Shared}
end
end ET

namespace ET
open PySem PySem.Spec PyProof.Rows L2 RZ
open EZ (ZipF EnG)
end ET
namespace Bv
open PySem PySem.Spec PyProof.Rows L2 EZ
section
variable {T : Tx} {K : PySem.W.Frag} {G : Hp} {w : Wd} {σ : L2.St} {W : WX}
end
end Bv

namespace Bv
open PySem PySem.Spec PyProof.Rows L2
section
variable {X : Cx} {T : Tx} {G : Hp} {w : Wd} {st : S} {pins : List (Addr × Obj)} {σ : L2.St} {H : Hp} {s : Shared} {f c' : Addr} {pm ctv : Value} {params : Arguments} {body : Expr} {scope : Scope} {k : Nat} {e : S → Res}
end
section
variable {X : Cx} {T : Tx} {k j n : Nat} {x : Str} {q : Str → Str → Option Bool} {hs : List HCl} {e : S → Res} {params : Arguments} {body : Expr} {scope : Scope} {p pos : Pos}
  {G0 : Hp} {w0 w1 : Wd} {st0 : S} {pins : List (Addr × Obj)} {σ : L2.St} {f c' : Addr} {pm ctv : Value} {H : Hp} {s : Shared}
end
section
variable {X : Cx} {T : Tx} {tb : Tab} {k j n : Nat} {xr x : Str} {q : Str → Str → Option Bool} {hs : List HCl} {e : S → Res} {c P : Addr} {params : Arguments} {body : Expr} {scope : Scope} {p lpos pos : Pos}
end
section
variable {tb : Tab} {n : Nat} {q : Str → Str → Option Bool} {hs : List HCl} {e : S → Res} {sl : List Sl} {ob : List D} {st : S}
end
end Bv

namespace Bv
open PySem PySem.Spec PyProof.Rows L2

open Classical in
noncomputable def makeO (c : Str) (φ : List D → List D → FR) (n : Nat) (ds : List D) (st : S) : Res := if ds.length + 1 = n then match φ (.ob st.ob.length :: ds) (st.ob ++ [.ins c []]) with
  | .ok (.val .non) ob' => .ok (.val (.ob st.ob.length)) ⟨st.sl, ob'⟩
  | .exc e ob' => if ob'.take st.ob.length = st.ob ∧ belF st.ob.length e.fs = true then .exc e st else .bad
  | _ => .bad else .bad
section
variable {T : Tx} {K : PySem.W.Frag} {G : Hp} {w w' : Wd} {st : S} {σ : L2.St} {H H1 H' : Hp} {φ : List D → List D → FR} {n : Nat} {ds : List D} {vs : List V} {Q : VK} {W : WX} {c : Str} {x : Addr}
end
section
variable {X : Cx} {T : Tx} {k j n : Nat} {c x : Str} {A : Addr} {φ : List D → List D → FR} {e : Expr} {es : List Expr} {g : S → LRes} {p pos : Pos}
end

section
variable {X : Cx} {T : Tx} {f : Str} {cs : List Str} {o e : Expr} {fo fe : S → Res} {pos pos' : Pos}
end

def ClgG (P : Program) (w : World) (K : PySem.W.Frag) (mg : Str → Option Value) (base : Heap) (T : Tx) (k n : Nat) (c : Str) (φ : List D → List D → FR) : Prop :=
  ∀ C, T.cls c = some C → Cls K C ∧ ∃ (g : Addr) (fd : FuncData) (ps : List Str), PySem.W.findIn K (.ref C) "__call__" = some (some (.ref g)) ∧ PySem.W.isFn K (.ref g) = true ∧ PySem.W.fnIn K g = true ∧ FnG P w K mg base k g fd ps (spB T K n φ) ∧ Binds K fd ps []
def ClgT (P : Program) (w : World) (K : PySem.W.Frag) (mg : Str → Option Value) (base : Heap) (T : Tx) (k n : Nat) (t : List (Str × (List D → List D → FR))) : Prop := ∀ p ∈ t, ClgG P w K mg base T k n p.1 p.2
section
variable {P : Program} {w : World} {K : PySem.W.Frag} {mg : Str → Option Value} {base : Heap} {T : Tx} {k n : Nat} {c : Str} {φ : List D → List D → FR} {t : List (Str × (List D → List D → FR))}
theorem ClgT.nil : ClgT P w K mg base T k n [] := fun _ m => by cases m
theorem ClgT.cons {j : Nat} (h : ClgG P w K mg base T j n c φ) (r : ClgT P w K mg base T k n t) (hj : j ≤ k := by decide) : ClgT P w K mg base T k n ((c, φ) :: t) := fun p q => by
  rcases List.mem_cons.mp q with rfl | q
  · intro C e
    obtain ⟨h1, g, fd, ps, h2, h3, h4, h5, h6⟩ := h C e
    exact ⟨h1, g, fd, ps, h2, h3, h4, h5.mono hj, h6⟩
  · exact r p q
end
section
variable {X : Cx} {T : Tx} {k j n : Nat} {t : List (Str × (List D → List D → FR))} {o e : Expr} {es : List Expr} {fo : S → Res} {g : S → LRes} {pos : Pos}
end
end Bv

namespace Bv
open PySem PySem.Spec PyProof.Rows L2 NdefX

/-- what the parent's method m of the class D gives for an instance of class c -/
def SupG (P : Program) (w : World) (K : PySem.W.Frag) (mg : Str → Option Value) (base : Heap) (T : Tx) (k : Nat) (D0 : Addr) (m : Str) (n : Nat) (c : Str) (φ : List D → List D → FR) : Prop :=
  ∀ C, T.cls c = some C → ∃ (g : Addr) (fd : FuncData) (ps : List Str), PySem.W.mroIn K C (.ref D0) = some true ∧ PySem.W.ks_superIn K C D0 m = some (some (.ref g)) ∧ PySem.W.typeIn K (.ref g) = some (.type "function") ∧ PySem.W.fnIn K g = true ∧
    FnG P w K mg base k g fd ps (spB T K n φ) ∧ Binds K fd ps []
def SupT (P : Program) (w : World) (K : PySem.W.Frag) (mg : Str → Option Value) (base : Heap) (T : Tx) (k : Nat) (D0 : Addr) (m : Str) (n : Nat) (t : List (Str × (List D → List D → FR))) : Prop := ∀ p ∈ t, SupG P w K mg base T k D0 m n p.1 p.2
section
variable {P : Program} {w : World} {K : PySem.W.Frag} {mg : Str → Option Value} {base : Heap} {T : Tx} {k n : Nat} {D0 : Addr} {m c : Str} {φ : List D → List D → FR} {t : List (Str × (List D → List D → FR))}
theorem SupT.nil : SupT P w K mg base T k D0 m n [] := fun _ m => by cases m
theorem SupT.cons {j : Nat} (h : SupG P w K mg base T j D0 m n c φ) (r : SupT P w K mg base T k D0 m n t) (hj : j ≤ k := by decide) : SupT P w K mg base T k D0 m n ((c, φ) :: t) := fun p q => by
  rcases List.mem_cons.mp q with rfl | q
  · intro C e
    obtain ⟨g, fd, ps, h1, h2, h3, h4, h5, h6⟩ := h C e
    exact ⟨g, fd, ps, h1, h2, h3, h4, h5.mono hj, h6⟩
  · exact r p q
end
/-- the function at f is a def with the cell of the class D0 -/
structure SupD (P : Program) (K : PySem.W.Frag) (D0 : Addr) (F : NF) (dV kV doc pm : Value) (an : Option Addr) (ct : Value) (f : Addr) : Prop where
  lk : ∃ oc od osl, K.lookup f = some ⟨oc, od, .func (PySem.W.fnX F.name F.qual F.params F.body F.scope F.cl dV kV doc pm an (.ref F.c) ct), osl⟩
  cd : PySem.W.codeIn K (.ref F.c) F.qual = true
  kp : PySem.W.keepIn K (.ref f) = true
  cl : ∃ cc, F.cl = [(("__class__" : Str), cc)] ∧ ∃ cl cld csl, K.lookup cc = some ⟨cl, cld, .cell (some (.ref D0)), csl⟩
  dc : (PySem.W.clsIn K D0).isSome = true
  fi : ∃ ccl cdd vs ccs file tf, K.lookup F.c = some ⟨ccl, cdd, .fields vs, ccs⟩ ∧ vs[2]? = some (.str file tf) ∧ ((P.main.file : Str) == file) = true
  tp : (P.main.scope.names.lookup ("super" : Str)).isSome = false
  th : PySem.W.nsIn K cStatics "thirdparty.any" = some none
section
variable {P : Program} {w : World} {K : PySem.W.Frag} {mg : Str → Option Value} {base : Heap} {T : Tx} {N ps : List Str} {F : NF} {f D0 : Addr} {A : Around} {outer : List Env} {s : Shared} {H : Hp} {E : XK} {k n : Nat} {vs : List V}
  {dV kV doc pm ct : Value} {an : Option Addr} {σ : L2.St} {En : Ends} {t : List (Str × (List D → List D → FR))} {m : Str} {e : Expr} {es : List Expr} {g : S → LRes} {p0 p1 apos pos pos2 : Pos} {s0 : Shared} {H0 : Hp}
end
end Bv

namespace Bv
open PySem PySem.Spec PyProof.Rows L2

mutual
def purD : D → Bool
  | .non => true
  | .bl _ => true
  | .int _ => true
  | .str _ => true
  | .tup xs => purL xs
  | .cl _ => true
  | _ => false
def purL : List D → Bool
  | [] => true
  | x :: xs => purD x && purL xs
end
section
variable {T T' : Tx} {K : PySem.W.Frag} {io io' : List Addr} {H H' : Hp}
mutual
theorem Rep.pur (hc : T.cls = T'.cls) (ht : ∀ b xs, H b = some (.tup xs) → H' b = some (.tup xs)) : ∀ {v : V} {d : D}, purD d = true → Rep T K io H v d → Rep T' K io' H' v d
  | _, _, _, .non => .non
  | _, _, _, .bl b => .bl b
  | _, _, _, .int i => .int i
  | _, _, _, .str x => .str x
  | _, _, p, .tup h q => .tup (ht _ _ h) (RepL.pur hc ht (by simpa [purD] using p) q)
  | _, _, p, .lst _ _ => by simp [purD] at p
  | _, _, p, .rol _ _ => by simp [purD] at p
  | _, _, p, .dicK _ _ => by simp [purD] at p
  | _, _, p, .dicT _ _ => by simp [purD] at p
  | _, _, p, .dicN _ _ _ => by simp [purD] at p
  | _, _, p, .ins _ _ _ => by simp [purD] at p
  | _, _, p, .exv _ _ _ _ => by simp [purD] at p
  | _, _, p, .ob _ => by simp [purD] at p
  | _, _, _, .cl h => .cl (hc ▸ h)
theorem RepL.pur (hc : T.cls = T'.cls) (ht : ∀ b xs, H b = some (.tup xs) → H' b = some (.tup xs)) : ∀ {v : List V} {d : List D}, purL d = true → RepL T K io H v d → RepL T' K io' H' v d
  | _, _, _, .nil => .nil
  | _, _, p, .cons a r => by
    simp only [purL, Bool.and_eq_true] at p
    exact .cons (Rep.pur hc ht p.1 a) (RepL.pur hc ht p.2 r)
end
theorem RepK.pur (hc : T.cls = T'.cls) (ht : ∀ b xs, H b = some (.tup xs) → H' b = some (.tup xs)) : ∀ {v : List (Key × V)} {d : List (D × D)}, (d.all fun p => purD p.2) = true → RepK T K io H v d → RepK T' K io' H' v d
  | _, _, _, .nil => .nil
  | _, _, p, .cons a r => by
    simp only [List.all_cons, Bool.and_eq_true] at p
    exact .cons (Rep.pur hc ht p.1 a) (RepK.pur hc ht p.2 r)
end

open Classical in
section
variable {T : Tx} {K : PySem.W.Frag} {G : Hp} {w w2 : Wd} {st st2 : S} {σ : L2.St} {H H2 : Hp} {a b : Addr} {kvs : List (Key × V)} {od : Obj} {o : HO}
theorem ExV.but {F F' : Hp} {x : Option HO} (h : ExV F x o) (e : ∀ c y, F c = some y → (∀ q, y = LamX.CodeO c q → F' c = some y)) : ExV F' x o := by
  rcases h with h | ⟨q, t, h, ps, h1, h2, h3⟩
  · exact .inl h
  · refine .inr ⟨q, t, h, ps, h1, h2, fun pos cv hc => ?_⟩
    obtain ⟨c, e1, e2⟩ := h3 pos cv hc
    exact ⟨c, e1, e c _ e2 q rfl⟩
end

section
variable {X : Cx} {e : Expr} {t : TE}
end
section
variable {X : Cx} {T : Tx} {fo : S → Res} {f : List (D × D) → S → Res}
end
section
variable {X : Cx} {T : Tx} {vs vg : List Nat} {g : D → S → Option S} {t f fk fv : S → Res} {σ : L2.St} {Q : VK} {J : It} {H : Hp} {i : Nat} {w : Wd} {a : Addr}
end
/-- only where the dict's values are plain -/
def onPur (pr : List (D × D) → List D) (f : (S → LRes) → S → Res) : List (D × D) → S → Res := fun es => if (es.all fun p => purD p.2) = true then f fun st => .ok (pr es) st else fun _ => .bad
section
variable {X : Cx} {T : Tx} {ifs : List Expr} {scope : Scope} {own : List (Str × Nat)} {vg : List Nat} {g : D → S → Option S} {t f fk fv fo : S → Res} {elt kx vx tg e : Expr} {pos apos cpos : Pos}
end
end Bv

namespace Bv
open PySem PySem.Spec PyProof.Rows L2

def leT (x y : Str) : Prop := ¬ y.cps.toList < x.cps.toList
instance (x y : Str) : Decidable (leT x y) := by unfold leT; infer_instance
section
variable {X : Cx} {T : Tx} {K : PySem.W.Frag} {a : Expr} {fa : S → Res} {p pos : Pos}
end
end Bv

namespace Bv
open PySem PySem.Spec PyProof.Rows L2 NdefX

structure SupF (P : Program) (K : PySem.W.Frag) (D0 : Addr) (x qual : Str) (params : Arguments) (body : List Stmt) (scope : Scope) (f : Addr) (fd : FuncData) : Prop where
  ex : ∃ (cc c : Addr) (kV doc pm : Value) (an : Option Addr) (ct : Value), fd = PySem.W.fnX x qual params body scope [(("__class__" : Str), cc)] .none kV doc pm an (.ref c) ct ∧
    SupD P K D0 ⟨x, qual, params, body, scope, [(("__class__" : Str), cc)], c⟩ .none kV doc pm an ct f
section
variable {P : Program} {K : PySem.W.Frag} {D0 : Addr} {x qual : Str} {params : Arguments} {body : List Stmt} {scope : Scope} {f : Addr} {fd : FuncData} {ps : List Str}
theorem SupF.kp (F : SupF P K D0 x qual params body scope f fd) : PySem.W.keepIn K (.ref f) = true := by
  obtain ⟨_, _, _, _, _, _, _, _, SD⟩ := F.ex
  exact SD.kp
theorem SupF.binds (F : SupF P K D0 x qual params body scope f fd)
    (h : ∀ (cl : List (Str × Addr)) (kV doc pm : Value) (an : Option Addr) (cdv ct : Value) (us : List Value), us.length = ps.length → bindArgs (PySem.W.fnX x qual params body scope cl .none kV doc pm an cdv ct) ⟨us, []⟩ = pure (ps.zip us)) : Binds K fd ps [] := by
  obtain ⟨cc, c, kV, doc, pm, an, ct, rfl, SD⟩ := F.ex
  exact .all (h _ kV doc pm an _ ct)
end
section
variable {P : Program} {K : PySem.W.Frag} {D0 : Addr} {fl : PySem.W.Frag → List Bool} {fn : List DefX} {d : DefX} {file : Str}
end
section
variable {φ : List D → List D → FR} {n : Nat} {c m : Str} {ds ob ob' : List D} {sl : List Sl} {g : S → LRes} {cs : List Str} {fe fo f : S → Res} {t : List (Str × (List D → List D → FR))} {gs : List (Str × D)} {st st' : S} {d : D} {r : Rv}
@[simp] theorem giveO_ob {k : Nat} : giveO ⟨sl, ob⟩ (.val (.ob k)) = some (.ob k, ⟨sl, ob⟩) := id rfl
@[simp] theorem onPur_run {pr : List (D × D) → List D} {f : (S → LRes) → S → Res} {es : List (D × D)} (h : (es.all fun p => purD p.2) = true) : onPur pr f es st = f (fun st => .ok (pr es) st) st := by
  unfold onPur
  rw [if_pos h]
@[simp] theorem purD_non : purD .non = true := id rfl
@[simp] theorem purD_bl {b : Bool} : purD (.bl b) = true := id rfl
@[simp] theorem purD_int {i : Int} : purD (.int i) = true := id rfl
@[simp] theorem purD_str {x : Str} : purD (.str x) = true := id rfl
@[simp] theorem purD_ob {k : Nat} : purD (.ob k) = false := id rfl
@[simp] theorem purD_cl {x : Str} : purD (.cl x) = true := id rfl
@[simp] theorem purD_dic {es : List (D × D)} : purD (.dic es) = false := id rfl
@[simp] theorem purD_lst {es : List D} : purD (.lst es) = false := id rfl
@[simp] theorem purD_ins : purD (.ins c gs) = false := id rfl
@[simp] theorem purD_tup {es : List D} : purD (.tup es) = purL es := id rfl
@[simp] theorem purL_nil : purL [] = true := id rfl
@[simp] theorem purL_cons {es : List D} : purL (d :: es) = (purD d && purL es) := id rfl
end
end Bv

namespace Bv
open PySem PySem.Spec PyProof.Rows L2

section
variable {X : Cx} {T : Tx} {K : PySem.W.Frag} {a : Expr} {fa : S → Res} {p p2 p3 pos : Pos}
end
end Bv

namespace Bv
open PySem PySem.Spec PyProof.Rows L2
open PySem.W PySem.Calls
end Bv

namespace Bv
open PySem PySem.Spec PyProof.Rows L2
def EqxG (P : Program) (w : World) (K : PySem.W.Frag) (mg : Str → Option Value) (base : Heap) (T : Tx) (k : Nat) (prs : List (Str × Str)) (c : Str) (φ : List D → List D → FR) : Prop :=
  ∀ C, T.cls c = some C → (∃ (g : Addr) (fd : FuncData) (ps : List Str), FnG P w K mg base k g fd ps (spB T K 2 φ) ∧ Binds K fd ps [] ∧ PySem.W.findIn K (.ref C) "__eq__" = some (some (.ref g)) ∧ PySem.W.isFn K (.ref g) = true ∧ (∀ t ∈ kinds, PySem.W.notFirst K C (.type t) = true) ∧
    PySem.W.findIn K (.ref C) "__ne__" = some (some (.builtin "object.__ne__")) ∧ PySem.W.mroIn K C (.type "object") = some true) ∧ ∀ c', (c, c') ∈ prs → ∀ C', T.cls c' = some C' → PySem.W.notFirst K C (.ref C') = true
def EqxT (P : Program) (w : World) (K : PySem.W.Frag) (mg : Str → Option Value) (base : Heap) (T : Tx) (k : Nat) (prs : List (Str × Str)) (t : List (Str × (List D → List D → FR))) : Prop := ∀ p ∈ t, EqxG P w K mg base T k prs p.1 p.2
section
variable {P : Program} {w : World} {K : PySem.W.Frag} {mg : Str → Option Value} {base : Heap} {T : Tx} {k j : Nat} {c : Str} {φ : List D → List D → FR} {prs : List (Str × Str)} {t : List (Str × (List D → List D → FR))}
theorem EqxT.nil : EqxT P w K mg base T k prs [] := fun _ m => by cases m
theorem EqxT.cons (h : EqxG P w K mg base T j prs c φ) (r : EqxT P w K mg base T k prs t) (hj : j ≤ k := by decide) : EqxT P w K mg base T k prs ((c, φ) :: t) := fun p q => by
  rcases List.mem_cons.mp q with rfl | q
  · intro C e
    obtain ⟨⟨g, fd, ps, h1, h2⟩, h3⟩ := h C e
    exact ⟨⟨g, fd, ps, h1.mono hj, h2⟩, h3⟩
  · exact r p q
end
section
variable {T : Tx} {K : PySem.W.Frag} {G : Hp} {w : Wd} {st : S} {σ : L2.St} {H : Hp} {Q : VK} {W : WX} {α : Type} {t : List (Str × α)} {r1 r2 : Rv} {v1 v2 : V} {k : α → D → D → S → Res} {prs : List (Str × Str)}
end
section
variable {X : Cx} {T : Tx} {k j : Nat} {n : Bool} {cp : CmpOp} {prs : List (Str × Str)} {t : List (Str × (List D → List D → FR))} {a b : Expr} {fa fb : S → Res} {pos : Pos}
end

section
variable {t : List (Str × (List D → List D → FR))} {a b fo : S → Res} {r r1 r2 : Rv} {sl : List Sl} {ob : List D} {d d1 d2 : D} {st : S} {c : Str} {gs : List (Str × D)} {φ : List D → List D → FR} {n : Bool} {prs : List (Str × Str)}
end
end Bv

namespace Bv
open PySem PySem.Spec PyProof.Rows L2
/-- a list of pairs (an int or a text, a value) -/
def PairsK (H : Hp) (rs : List Addr) (kvs : List (Key × L2.V)) : Prop := Paired (fun (p : Addr) (kv : Key × L2.V) => H p = some (.tup [L2.kV kv.1, kv.2])) rs kvs
section
variable {X : Cx} {pins : List (Addr × Obj)} {σ : L2.St} {H : Hp} {s : Shared}
end
section
variable {X : Cx} {T : Tx} {K : PySem.W.Frag} {a : Expr} {fa : S → Res} {p pos : Pos}
end
section
variable {X : Cx} {T : Tx} {e : Expr} {es : List Expr} {f : S → Res} {g : S → FRes}
end
section
variable {sl : List Sl} {ob : List D} {f : S → Res} {gf : S → FRes}
end
end Bv

namespace Bv
open PySem PySem.Spec PyProof.Rows L2
section
variable {T : Tx} {K : PySem.W.Frag} {G : Hp} {w w2 : Wd} {st st2 : S} {σ : L2.St} {H H2 : Hp} {a b : Addr} {i : Nat}
end
section
variable {X : Cx} {T : Tx} {f : List (D × D) → S → Res}
end
section
variable {X : Cx} {T : Tx} {vs vg : List Nat} {g : D → S → Option S} {t f : List (D × D) → S → Res} {σ : L2.St} {Q : VK} {J : It} {H : Hp} {i : Nat} {w : Wd} {a : Addr} {es : List (D × D)}
end
section
variable {X : Cx} {T : Tx} {ifs : List Expr} {scope : Scope} {own : List (Str × Nat)} {vg : List Nat} {g : D → S → Option S} {t f : List (D × D) → S → Res} {elt tg : Expr} {pos p : Pos} {x : Str}
end
section
variable {sl : List Sl} {ob : List D} {f : List (D × D) → S → Res} {i n : Nat}
end
end Bv

namespace Bv
open PySem PySem.Spec PyProof.Rows L2
section
variable {X : Cx} {T : Tx} {K : PySem.W.Frag} {o e : Expr} {es : List Expr} {fo : S → Res} {g : S → LRes} {pos apos : Pos}
end
section
variable {ft : Str → List D → Option Rv} {fo : S → Res} {g : S → LRes} {sl : List Sl} {ob : List D} {st : S} {r : Rv}
end
open Builtin Builtin.Str StrLaws
end Bv

namespace Bv
open PySem PySem.Spec PyProof.Rows L2
def ConOk (K : PySem.W.Frag) (T : Tx) (f : Str) (v : Int) (cs : List Str) : Prop := ∀ c ∈ cs, ∀ C, T.cls c = some C → Cls K C ∧ ∃ u, L2.Con K C f (.int v) u
theorem ConOk.nil {K : PySem.W.Frag} {T : Tx} {f : Str} {v : Int} : ConOk K T f v [] := fun _ m => by cases m
theorem ConOk.cons {K : PySem.W.Frag} {T : Tx} {f c : Str} {v : Int} {A : Addr} {u : Value} {cs : List Str} (h : T.cls c = some A) (k : Cls K A) (n : L2.Con K A f (.int v) u) (r : ConOk K T f v cs) : ConOk K T f v (c :: cs) := fun x m C e => by
  rcases List.mem_cons.mp m with rfl | m
  · rw [h] at e; cases e; exact ⟨k, u, n⟩
  · exact r x m C e
section
variable {X : Cx} {T : Tx} {K : PySem.W.Frag} {f : Str} {v : Int} {cs : List Str} {o e : Expr} {fo : S → Res} {pos : Pos}
end
section
variable {X : Cx} {T : Tx} {K : PySem.W.Frag} {a : Expr} {fa : S → Res} {p pos : Pos}
end
section
variable {X : Cx} {T : Tx} {k j : Nat} {t : List (Str × (List D → List D → FR))} {o : Expr} {fo : S → Res} {p pos : Pos}
end
section
variable {t : List (Str × (List D → List D → FR))} {fo : S → Res} {sl : List Sl} {ob : List D} {r : Rv} {d : D} {φ : List D → List D → FR} {st : S}
end
end Bv

namespace Bv
open PySem PySem.Spec PyProof.Rows L2 NdefX
/-- the last argument is an int -/
def lastI (i : Int) (φ : List D → List D → FR) : List D → List D → FR := fun ds ob => φ (ds ++ [D.int i]) ob
@[simp] theorem lastI_run {i : Int} {φ : List D → List D → FR} {ds ob : List D} : lastI i φ ds ob = φ (ds ++ [.int i]) ob := id rfl
/-- what a class's instances are made by, its last parameters perhaps left to their defaults -/
def MakA (P : Program) (w : World) (K : PySem.W.Frag) (mg : Str → Option Value) (base : Heap) (T : Tx) (k n : Nat) (c : Str) (φ : List D → List D → FR) : Prop :=
  ∀ C, T.cls c = some C → ∃ (f : Addr) (fd : FuncData) (ps : List Str) (dvs : List V) (dus : List Value) (m : Nat) (ψ : List D → List D → FR), L2.Mk K C f ∧ FnG P w K mg base k f fd ps (spB T K m ψ) ∧ Binds K fd ps dus ∧ Vals dvs dus ∧
    ∀ vs H Q E, spB T K n φ vs H Q E → spB T K m ψ (vs ++ dvs) H Q E
def MakAT (P : Program) (w : World) (K : PySem.W.Frag) (mg : Str → Option Value) (base : Heap) (T : Tx) (k n : Nat) (t : List (Str × (List D → List D → FR))) : Prop := ∀ p ∈ t, MakA P w K mg base T k n p.1 p.2
section
variable {P : Program} {w : World} {K : PySem.W.Frag} {mg : Str → Option Value} {base : Heap} {T : Tx} {k j n : Nat} {c : Str} {i : Int} {φ : List D → List D → FR} {t : List (Str × (List D → List D → FR))}
theorem MakA.of (M : MakG P w K mg base T k n c φ) : MakA P w K mg base T k n c φ := fun C e => by
  obtain ⟨f, fd, ps, Mk, F, hb⟩ := M C e
  exact ⟨f, fd, ps, [], [], n, φ, Mk, F, hb, .nil, fun vs H Q E h => by rw [List.append_nil]; exact h⟩
theorem spB_lastI {vs : List V} {H : Hp} {Q : VK} {E : XK} (h : spB T K n (lastI i φ) vs H Q E) : spB T K (n + 1) φ (vs ++ [V.int i]) H Q E := by
  obtain ⟨h1, G, w, ob, ds, R, r, q⟩ := h
  exact ⟨by rw [List.length_append, h1]; rfl, G, w, ob, ds ++ [D.int i], R, r.append (.cons (.int _) .nil), q⟩
theorem MakA.int (M : ∀ C, T.cls c = some C → ∃ (f : Addr) (fd : FuncData) (ps : List Str) (dus : List Value), L2.Mk K C f ∧ FnG P w K mg base k f fd ps (spB T K (n + 1) φ) ∧ Binds K fd ps dus ∧ Vals [V.int i] dus) : MakA P w K mg base T k n c (lastI i φ) := fun C e => by
  obtain ⟨f, fd, ps, dus, Mk, F, hb, hv⟩ := M C e
  exact ⟨f, fd, ps, [V.int i], dus, n + 1, φ, Mk, F, hb, hv, fun vs H Q E h => spB_lastI h⟩
theorem MakAT.nil : MakAT P w K mg base T k n [] := fun _ m => by cases m
theorem MakAT.cons (h : MakA P w K mg base T j n c φ) (r : MakAT P w K mg base T k n t) (hj : j ≤ k := by decide) : MakAT P w K mg base T k n ((c, φ) :: t) := fun p q => by
  rcases List.mem_cons.mp q with rfl | q
  · intro C e
    obtain ⟨f, fd, ps, dvs, dus, m, ψ, h1, h2, h3⟩ := h C e
    exact ⟨f, fd, ps, dvs, dus, m, ψ, h1, h2.mono hj, h3⟩
  · exact r p q
end
section
variable {X : Cx} {T : Tx} {k j n i : Nat} {c x : Str} {A : Addr} {φ : List D → List D → FR} {t : List (Str × (List D → List D → FR))} {e : Expr} {es : List Expr} {g : S → LRes} {p pos : Pos}
end
structure SupX (P : Program) (K : PySem.W.Frag) (D0 : Addr) (x qual : Str) (params : Arguments) (body : List Stmt) (scope : Scope) (dvs : List V) (f : Addr) (fd : FuncData) : Prop where
  ex : ∃ (cc c : Addr) (dV kV doc pm : Value) (an : Option Addr) (ct : Value), fd = PySem.W.fnX x qual params body scope [(("__class__" : Str), cc)] dV kV doc pm an (.ref c) ct ∧
    SupD P K D0 ⟨x, qual, params, body, scope, [(("__class__" : Str), cc)], c⟩ dV kV doc pm an ct f ∧ DflV K dV dvs
section
variable {P : Program} {K : PySem.W.Frag} {D0 : Addr} {x qual : Str} {params : Arguments} {body : List Stmt} {scope : Scope} {f : Addr} {fd : FuncData} {ps : List Str} {dvs : List V}
theorem SupX.kp (F : SupX P K D0 x qual params body scope dvs f fd) : PySem.W.keepIn K (.ref f) = true := by
  obtain ⟨_, _, _, _, _, _, _, _, _, SD, _⟩ := F.ex
  exact SD.kp
end
section
variable {P : Program} {K : PySem.W.Frag} {D0 : Addr} {fl : PySem.W.Frag → List Bool} {fn : List DefX} {d : DefX} {file : Str}
end
end Bv

namespace Bv
open PySem PySem.Spec PyProof.Rows L2
section
variable {prog : Program} {w : World} {A : Around} {E : Value → Shared → Prop} {s : Shared} {K : PySem.W.Frag} {x y C C2 f : Addr} {ox oy : Obj} {od od2 : Option Obj}
end
def EqsG (P : Program) (w : World) (K : PySem.W.Frag) (mg : Str → Option Value) (base : Heap) (T : Tx) (k : Nat) (sw : List (Str × Str)) (c2 : Str) (φ : List D → List D → FR) : Prop :=
  ∀ C2, T.cls c2 = some C2 → (∃ (g : Addr) (fd : FuncData) (ps : List Str), FnG P w K mg base k g fd ps (spB T K 2 φ) ∧ Binds K fd ps [] ∧ PySem.W.findIn K (.ref C2) "__eq__" = some (some (.ref g)) ∧ PySem.W.isFn K (.ref g) = true ∧
    PySem.W.findIn K (.ref C2) "__ne__" = some (some (.builtin "object.__ne__")) ∧ PySem.W.mroIn K C2 (.type "object") = some true) ∧ ∀ c, (c, c2) ∈ sw → ∀ C, T.cls c = some C → PySem.W.subIn K (.ref C2) (.ref C) = some true ∧ C2 ≠ C
def EqsT (P : Program) (w : World) (K : PySem.W.Frag) (mg : Str → Option Value) (base : Heap) (T : Tx) (k : Nat) (sw : List (Str × Str)) (t : List (Str × (List D → List D → FR))) : Prop := ∀ p ∈ t, EqsG P w K mg base T k sw p.1 p.2
section
variable {P : Program} {w : World} {K : PySem.W.Frag} {mg : Str → Option Value} {base : Heap} {T : Tx} {k j : Nat} {c : Str} {φ : List D → List D → FR} {sw : List (Str × Str)} {t : List (Str × (List D → List D → FR))}
theorem EqsT.nil : EqsT P w K mg base T k sw [] := fun _ m => by cases m
theorem EqsT.cons (h : EqsG P w K mg base T j sw c φ) (r : EqsT P w K mg base T k sw t) (hj : j ≤ k := by decide) : EqsT P w K mg base T k sw ((c, φ) :: t) := fun p q => by
  rcases List.mem_cons.mp q with rfl | q
  · intro C e
    obtain ⟨⟨g, fd, ps, h1, h2⟩, h3⟩ := h C e
    exact ⟨⟨g, fd, ps, h1.mono hj, h2⟩, h3⟩
  · exact r p q
end
section
variable {T : Tx} {K : PySem.W.Frag} {G : Hp} {w : Wd} {st : S} {σ : L2.St} {H : Hp} {Q : VK} {W : WX} {α : Type} {t : List (Str × α)} {r1 r2 : Rv} {v1 v2 : V} {k : α → D → D → S → Res} {sw : List (Str × Str)}
end
section
variable {X : Cx} {T : Tx} {k j : Nat} {n : Bool} {cp : CmpOp} {sw : List (Str × Str)} {t : List (Str × (List D → List D → FR))} {a b : Expr} {fa fb : S → Res} {pos : Pos}
end
section
variable {t : List (Str × (List D → List D → FR))} {a b fo : S → Res} {r r1 r2 : Rv} {sl : List Sl} {ob : List D} {d d1 d2 : D} {st : S} {c c2 : Str} {gs gs2 : List (Str × D)} {φ : List D → List D → FR} {n : Bool} {sw : List (Str × Str)}
end
end Bv

namespace Bv
open PySem PySem.Spec PyProof.Rows L2
section
variable {X : Cx} {T : Tx} {k j n : Nat} {φ : List D → List D → FR} {x : Str} {p pos : Pos}
end
end Bv

namespace Bv
open PySem PySem.Spec PyProof.Rows L2
section
variable {prog : Program} {w : World} {A : Around} {E : Value → Shared → Prop} {s : Shared} {K : PySem.W.Frag} {x C dx f : Addr} {Q : Value → Shared → Prop}
/-- an instance and its class, of none of the built-in kinds -/
structure InsO (K : PySem.W.Frag) (s : Shared) (x C dx : Addr) : Prop where
  kin : K.In s.heap
  at_ : s.heap.get? x = some (PySem.W.instObj C dx)
  no : ∀ t ∈ kinds, PySem.W.subIn K (.ref C) (.type t) = some false
theorem InsO.ty (I : InsO K s x C dx) {M : Model} : PySem.W.Looks M s.heap (typeOf (.ref x)) (.ref C) := (PySem.W.Looks.ld I.at_).andThen .now
inductive BaseV (s : Shared) : Value → String → Prop where
  | non : BaseV s .none "NoneType"
  | bl (b : Bool) : BaseV s (.bool b) "bool"
  | int (i : Int) (t : Tok) : BaseV s (.int i t) "int"
  | str (y : Str) (t : Tok) : BaseV s (.str y t) "str"
  | lst {l : Addr} (h : s.TypeIs (.ref l) "list") : BaseV s (.ref l) "list"
  | tup {l : Addr} (h : s.TypeIs (.ref l) "tuple") : BaseV s (.ref l) "tuple"
  | dic {l : Addr} (h : s.TypeIs (.ref l) "dict") : BaseV s (.ref l) "dict"
theorem BaseV.ty {u : Value} {t : String} (b : BaseV s u t) : s.TypeIs u t := by
  cases b with
  | non => rfl
  | bl b => rfl
  | int i t => exact typeIs_int s i t
  | str y t => exact typeIs_str s y t
  | lst h => exact h
  | tup h => exact h
  | dic h => exact h
end

def EqrG (P : Program) (w : World) (K : PySem.W.Frag) (mg : Str → Option Value) (base : Heap) (T : Tx) (k : Nat) (c2 : Str) (φ : List D → List D → FR) : Prop :=
  ∀ C2, T.cls c2 = some C2 → ∃ (g : Addr) (fd : FuncData) (ps : List Str), FnG P w K mg base k g fd ps (spB T K 2 φ) ∧ Binds K fd ps [] ∧ PySem.W.findIn K (.ref C2) "__eq__" = some (some (.ref g)) ∧ PySem.W.isFn K (.ref g) = true ∧ ∀ t ∈ kinds, PySem.W.subIn K (.ref C2) (.type t) = some false
def EqrT (P : Program) (w : World) (K : PySem.W.Frag) (mg : Str → Option Value) (base : Heap) (T : Tx) (k : Nat) (t : List (Str × (List D → List D → FR))) : Prop := ∀ p ∈ t, EqrG P w K mg base T k p.1 p.2
section
variable {P : Program} {w : World} {K : PySem.W.Frag} {mg : Str → Option Value} {base : Heap} {T : Tx} {k j : Nat} {c : Str} {φ : List D → List D → FR} {t : List (Str × (List D → List D → FR))}
theorem EqrT.nil : EqrT P w K mg base T k [] := fun _ m => by cases m
theorem EqrT.cons (h : EqrG P w K mg base T j c φ) (r : EqrT P w K mg base T k t) (hj : j ≤ k := by decide) : EqrT P w K mg base T k ((c, φ) :: t) := fun p q => by
  rcases List.mem_cons.mp q with rfl | q
  · intro C e
    obtain ⟨g, fd, ps, h1, h2⟩ := h C e
    exact ⟨g, fd, ps, h1.mono hj, h2⟩
  · exact r p q
end
section
variable {T : Tx} {K : PySem.W.Frag} {G : Hp} {w : Wd} {st : S} {σ : L2.St} {H : Hp} {Q : VK} {W : WX} {α : Type} {t : List (Str × α)} {r1 r2 : Rv} {v1 v2 : V} {k : α → D → D → S → Res}
end
section
variable {X : Cx} {T : Tx} {k j : Nat} {t : List (Str × (List D → List D → FR))} {a b : Expr} {fa fb : S → Res} {pos : Pos}
end
section
variable {X : Cx} {T : Tx} {k j : Nat} {prs : List (Str × Str)} {t : List (Str × (List D → List D → FR))} {a b : Expr} {fa fb : S → Res} {pos : Pos}
end
section
variable {t : List (Str × (List D → List D → FR))} {a b fo : S → Res} {r r1 r2 : Rv} {sl : List Sl} {ob : List D} {d d1 d2 : D} {st : S} {c c2 : Str} {gs gs2 : List (Str × D)} {φ : List D → List D → FR}
end
end Bv

namespace Bv
open PySem PySem.Spec PyProof.Rows L2
section
variable {X : Cx} {T : Tx} {pos pos' : Pos}
end
end Bv

namespace Bv
open PySem PySem.Spec PyProof.Rows L2
section
variable {X : Cx} {T : Tx} {c f : Str} {v : Int} {A : Addr} {p pos : Pos}
end
section
variable {X : Cx} {T : Tx} {o : Expr} {fo : S → Res} {apos pos : Pos}
end
section
variable {X : Cx} {T : Tx} {a e o : Expr} {es : List Expr} {fa f fo : S → Res} {g : S → LRes} {y z : Str} {j k : Nat} {c0 c1 cp apos pos : Pos}
end
end Bv

namespace Bv
open PySem PySem.Spec PyProof.Rows L2
def mtS : List (Str × (S → SRes)) → Str → S → SRes
  | [], _, st => .nx st
  | (c, b) :: r, x, st => if x = c then b st else mtS r x st
inductive MCs (X : Cx) (T : Tx) : List MatchCase → List (Str × (S → SRes)) → Prop
  | nil : MCs X T [] []
  | cons {y : Str} {j : Nat} {cp mp : Pos} {body : List Stmt} {b : S → SRes} {cs : List MatchCase} {l : List (Str × (S → SRes))} (hb : DB X T body b) (r : MCs X T cs l) : MCs X T (⟨.MatchValue (.Constant (.str y) j cp) mp, none, body⟩ :: cs) ((y, b) :: l)
section
variable {X : Cx} {T : Tx} {e : Expr} {f : S → Res} {pos : Pos} {cs : List MatchCase} {l : List (Str × (S → SRes))}
theorem MCs.run (h : MCs X T cs l) : ∀ {first : Bool} {pins : List (Addr × Obj)} {s : Shared} {σ : L2.St} {H : Hp} {En : Ends} {x : Str} {t : Tok}, Inv X pins σ H s → (∃ (G : Hp) (w : Wd) (st : S) (W : WX), SR T X.K G w st σ H ∧ Takes X W ∧ PostS T X.K G w (mtS l x st) En W) →
    wpAny (model X.prog X.w) X.A (matchCases cs X.env (.str x t) first) (SP X pins En) X.xe s := by
  induction h with
  | nil =>
    intro first pins s σ H En x t I ⟨G, w, st, W, R, tk, q⟩
    exact wpAny_matchCases_nil ⟨σ, H, I, q w σ H w.le_refl R⟩
  | @cons y j cp mp body b cs l hb r ih =>
    intro first pins s σ H En x t I ⟨G, w, st, W, R, tk, q⟩
    refine wpAny_matchCases_cons (wpAny_matchPattern_Value (Calls.Constant_str (eq_str ?_)))
    have q : PostS T X.K G w (if x = y then b st else mtS l x st) En W := q
    have I' := I.tok (s.toks + 1)
    have be : (x == y) = decide (x = y) := by
      by_cases z : x = y
      · subst z; simp
      · rw [decide_eq_false z]; exact beq_eq_false_iff_ne.mpr z
    rw [be]
    by_cases z : x = y
    · rw [decide_eq_true z]
      rw [if_pos z] at q
      refine wpAny_truthy_bool ?_
      exact wpAny_assignInOrder_none (hb.run pins _ σ H En I' ⟨G, w, st, W, R, tk, q⟩)
    · rw [decide_eq_false z]
      rw [if_neg z] at q
      refine wpAny_truthy_bool ?_
      exact ih I' ⟨G, w, st, W, R, tk, q⟩
end
end Bv

namespace Bv
open PySem PySem.Spec PyProof.Rows L2
section
variable {X : Cx} {T : Tx} {K : PySem.W.Frag} {w : World} {A : Addr} {kvs : List (Str × D)} {a : Expr} {fa : S → Res} {c : Str} {p pos : Pos}
end
end Bv

namespace Bv
open PySem PySem.Spec PyProof.Rows L2 PySem.W HandSHeadRun
end Bv

namespace Bv
open PySem PySem.Spec PyProof.Rows L2
section
variable {X : Cx} {T : Tx} {body : List Stmt} {f₀ : Stmt} {fs : List Stmt} {b f : S → SRes} {pos : Pos}
end
end Bv

namespace Bv
open PySem PySem.Spec PyProof.Rows L2
def MetD (P : Program) (w : World) (K : PySem.W.Frag) (mg : Str → Option Value) (base : Heap) (T : Tx) (k : Nat) (m : Str) (n : Nat) (c : Str) (φ : List D → List D → FR) : Prop :=
  ∀ C, T.cls c = some C → Cls K C ∧ ∃ (g : Addr) (fd : FuncData) (ps : List Str) (dvs : List V) (dus : List Value) (m' : Nat) (ψ : List D → List D → FR), Meth K C m g ∧ FnG P w K mg base k g fd ps (spB T K m' ψ) ∧ Binds K fd ps dus ∧ Vals dvs dus ∧
    ∀ vs H Q E, spB T K n φ vs H Q E → spB T K m' ψ (vs ++ dvs) H Q E
def MetDT (P : Program) (w : World) (K : PySem.W.Frag) (mg : Str → Option Value) (base : Heap) (T : Tx) (k : Nat) (m : Str) (n : Nat) (t : List (Str × (List D → List D → FR))) : Prop :=
  ∀ p ∈ t, MetD P w K mg base T k m n p.1 p.2
section
variable {P : Program} {w : World} {K : PySem.W.Frag} {mg : Str → Option Value} {base : Heap} {T : Tx} {k n : Nat} {m c : Str} {φ : List D → List D → FR} {t : List (Str × (List D → List D → FR))}
theorem MetDT.nil : MetDT P w K mg base T k m n [] := fun _ m => by cases m
theorem MetDT.cons {j : Nat} (h : MetD P w K mg base T j m n c φ) (r : MetDT P w K mg base T k m n t) (hj : j ≤ k := by decide) : MetDT P w K mg base T k m n ((c, φ) :: t) := fun p q => by
  rcases List.mem_cons.mp q with rfl | q
  · intro C e
    obtain ⟨h1, g, fd, ps, dvs, dus, m', ψ, h2, h3, h4⟩ := h C e
    exact ⟨h1, g, fd, ps, dvs, dus, m', ψ, h2, h3.mono hj, h4⟩
  · exact r p q
end
section
variable {X : Cx} {T : Tx} {k j n : Nat} {m : Str} {t : List (Str × (List D → List D → FR))} {o e : Expr} {es : List Expr} {fo : S → Res} {g : S → LRes} {apos pos : Pos}
end
end Bv

namespace Bv
open PySem PySem.Spec PyProof.Rows L2
/-- the promise of a def whose body is `return tuple(list)`: φ is the list's reading -/
def TupQ (K : PySem.W.Frag) (Q : VK) : VK := fun v H1 => ∃ (p : Addr) (ys : List L2.V), v = .ref p ∧ SqL K H1 p ys ∧ ∀ (l : Addr) (o : Obj), H1 l = none → o.dict = none → Q (.ref l) (upd H1 l (.frz o (.tup ys)))
def spL (T : Tx) (K : PySem.W.Frag) (n : Nat) (φ : List D → List D → FR) : Sp := fun vs H Q E => spB T K n φ vs H (TupQ K Q) E
section
variable {X : Cx} {T : Tx} {a : Expr} {fa : S → Res} {p pos pos2 : Pos}
end
section
variable {P : Program} {w : World} {K : PySem.W.Frag} {mg : Str → Option Value} {base : Heap} {T : Tx} {k : Nat} {x qual : Str} {st : Stmt} {f : Addr} {fd : FuncData} {N ps : List Str} {fa : S → Res}
end
def ProL (P : Program) (w : World) (K : PySem.W.Frag) (mg : Str → Option Value) (base : Heap) (T : Tx) (k : Nat) (m : Str) (c : Str) (φ : List D → List D → FR) : Prop :=
  ∀ C, T.cls c = some C → Cls K C ∧ ∃ (p g : Addr) (fd : FuncData) (ps : List Str), PropOf K C m p g ∧ FnG P w K mg base k g fd ps (spL T K 1 φ) ∧ Binds K fd ps []
def ProLT (P : Program) (w : World) (K : PySem.W.Frag) (mg : Str → Option Value) (base : Heap) (T : Tx) (k : Nat) (m : Str) (t : List (Str × (List D → List D → FR))) : Prop :=
  ∀ p ∈ t, ProL P w K mg base T k m p.1 p.2
section
variable {P : Program} {w : World} {K : PySem.W.Frag} {mg : Str → Option Value} {base : Heap} {T : Tx} {k : Nat} {m c : Str} {φ : List D → List D → FR} {t : List (Str × (List D → List D → FR))}
theorem ProLT.nil : ProLT P w K mg base T k m [] := fun _ m => by cases m
theorem ProLT.cons {j : Nat} (h : ProL P w K mg base T j m c φ) (r : ProLT P w K mg base T k m t) (hj : j ≤ k := by decide) : ProLT P w K mg base T k m ((c, φ) :: t) := fun p q => by
  rcases List.mem_cons.mp q with rfl | q
  · intro C e
    obtain ⟨h1, pp, g, fd, ps, h2, h3, h4⟩ := h C e
    exact ⟨h1, pp, g, fd, ps, h2, h3.mono hj, h4⟩
  · exact r p q
end
section
variable {X : Cx} {T : Tx} {k j : Nat} {m : Str} {t : List (Str × (List D → List D → FR))} {o : Expr} {fo : S → Res} {pos pos2 p : Pos}
theorem PairsK.upd {H : Hp} {l : Addr} {u : HO} (hl : H l = none) : ∀ {rs : List Addr} {kvs : List (Key × L2.V)}, PairsK H rs kvs → PairsK (L2.upd H l u) rs kvs
  | _, _, Paired.nil => Paired.nil
  | _, _, Paired.cons (a := p) h t => Paired.cons (by
      show L2.upd H l u p = _
      unfold L2.upd
      rw [if_neg (by rintro rfl; have h : H p = _ := h; rw [hl] at h; cases h)]
      exact h) (PairsK.upd hl t)
end
end Bv

namespace Bv
open PySem PySem.Spec PyProof.Rows L2
end Bv

namespace Bv
open PySem PySem.Spec PyProof.Rows L2
section
variable {X : Cx} {T : Tx}
end
end Bv
namespace Bv
open PySem PySem.Spec PyProof.Rows L2
end Bv

namespace LawP
open PySem PySem.Spec PyProof.Rows L2 Bv
def top (i : Nat) : Stmt := PySem.Challenge.pw_backcards_k23_whole_letters_put_in.main.body.getD i (.Pass ⟨0, 0, 0, 0⟩)
abbrev s_is_between : Stmt := top 11
abbrev s_is_letter : Stmt := top 12
abbrev s_is_back : Stmt := top 13
abbrev s_with_any_times : Stmt := top 26
abbrev s__law_deck : Stmt := top 29
abbrev s__law_draw : Stmt := top 30
abbrev s_card_error : Stmt := top 14
abbrev s_moved_card : Stmt := top 15
abbrev s_need_place : Stmt := top 16
abbrev s_need_back : Stmt := top 19
abbrev s_ways_back : Stmt := top 21
abbrev s__law_pick : Stmt := top 31
abbrev s__law_great : Stmt := top 32
abbrev s_with_card : Stmt := top 17
abbrev s_without_card : Stmt := top 18
abbrev s_crossings : Stmt := top 22
abbrev s__law_made : Stmt := top 33
abbrev s_meetings : Stmt := top 23
abbrev s_count_steps : Stmt := top 24
abbrev s_count_letters : Stmt := top 25
abbrev s_added_steps : Stmt := top 27
abbrev s__law_put_right : Stmt := top 34
abbrev s_law : Stmt := top 35
def q_f0 (K : PySem.W.Frag) : Addr := He.ga K "is_between"
def q_f1 (K : PySem.W.Frag) : Addr := He.ga K "is_letter"
def q_f10 (K : PySem.W.Frag) : Addr := He.ga K "ways_back"
def q_f11 (K : PySem.W.Frag) : Addr := He.ga K "_law_pick"
def q_f12 (K : PySem.W.Frag) : Addr := He.ga K "_law_great"
def q_f13 (K : PySem.W.Frag) : Addr := He.ga K "with_card"
def q_f14 (K : PySem.W.Frag) : Addr := He.ga K "without_card"
def q_f15 (K : PySem.W.Frag) : Addr := He.ga K "crossings"
def q_f16 (K : PySem.W.Frag) : Addr := He.ga K "_law_made"
def q_f17 (K : PySem.W.Frag) : Addr := He.ga K "meetings"
def q_f18 (K : PySem.W.Frag) : Addr := He.ga K "count_steps"
def q_f19 (K : PySem.W.Frag) : Addr := He.ga K "count_letters"
def q_f2 (K : PySem.W.Frag) : Addr := He.ga K "is_back"
def q_f20 (K : PySem.W.Frag) : Addr := He.ga K "added_steps"
def q_f21 (K : PySem.W.Frag) : Addr := He.ga K "_law_put_right"
def q_f22 (K : PySem.W.Frag) : Addr := He.ga K "law"
def q_f3 (K : PySem.W.Frag) : Addr := He.ga K "with_any_times"
def q_f4 (K : PySem.W.Frag) : Addr := He.ga K "_law_deck"
def q_f5 (K : PySem.W.Frag) : Addr := He.ga K "_law_draw"
def q_f6 (K : PySem.W.Frag) : Addr := He.ga K "card_error"
def q_f7 (K : PySem.W.Frag) : Addr := He.ga K "moved_card"
def q_f8 (K : PySem.W.Frag) : Addr := He.ga K "need_place"
def q_f9 (K : PySem.W.Frag) : Addr := He.ga K "need_back"
def d_0 : DefX := ⟨q_f0, "is_between", "is_between", defArgs s_is_between, defBody s_is_between, defScope s_is_between, [], false⟩
def d_1 : DefX := ⟨q_f1, "is_letter", "is_letter", defArgs s_is_letter, defBody s_is_letter, defScope s_is_letter, [], false⟩
def d_2 : DefX := ⟨q_f2, "is_back", "is_back", defArgs s_is_back, defBody s_is_back, defScope s_is_back, [], false⟩
def d_3 : DefX := ⟨q_f3, "with_any_times", "with_any_times", defArgs s_with_any_times, defBody s_with_any_times, defScope s_with_any_times, [], false⟩
def d_4 : DefX := ⟨q_f4, "_law_deck", "_law_deck", defArgs s__law_deck, defBody s__law_deck, defScope s__law_deck, [], false⟩
def d_5 : DefX := ⟨q_f5, "_law_draw", "_law_draw", defArgs s__law_draw, defBody s__law_draw, defScope s__law_draw, [], false⟩
def d_6 : DefX := ⟨q_f6, "card_error", "card_error", defArgs s_card_error, defBody s_card_error, defScope s_card_error, [], false⟩
def d_7 : DefX := ⟨q_f7, "moved_card", "moved_card", defArgs s_moved_card, defBody s_moved_card, defScope s_moved_card, [], false⟩
def d_8 : DefX := ⟨q_f8, "need_place", "need_place", defArgs s_need_place, defBody s_need_place, defScope s_need_place, [], false⟩
def d_9 : DefX := ⟨q_f9, "need_back", "need_back", defArgs s_need_back, defBody s_need_back, defScope s_need_back, [], false⟩
def d_10 : DefX := ⟨q_f10, "ways_back", "ways_back", defArgs s_ways_back, defBody s_ways_back, defScope s_ways_back, [], false⟩
def d_11 : DefX := ⟨q_f11, "_law_pick", "_law_pick", defArgs s__law_pick, defBody s__law_pick, defScope s__law_pick, [], false⟩
def d_12 : DefX := ⟨q_f12, "_law_great", "_law_great", defArgs s__law_great, defBody s__law_great, defScope s__law_great, [], false⟩
def d_13 : DefX := ⟨q_f13, "with_card", "with_card", defArgs s_with_card, defBody s_with_card, defScope s_with_card, [], false⟩
def d_14 : DefX := ⟨q_f14, "without_card", "without_card", defArgs s_without_card, defBody s_without_card, defScope s_without_card, [], false⟩
def d_15 : DefX := ⟨q_f15, "crossings", "crossings", defArgs s_crossings, defBody s_crossings, defScope s_crossings, [], false⟩
def d_16 : DefX := ⟨q_f16, "_law_made", "_law_made", defArgs s__law_made, defBody s__law_made, defScope s__law_made, [], false⟩
def d_17 : DefX := ⟨q_f17, "meetings", "meetings", defArgs s_meetings, defBody s_meetings, defScope s_meetings, [], false⟩
def d_18 : DefX := ⟨q_f18, "count_steps", "count_steps", defArgs s_count_steps, defBody s_count_steps, defScope s_count_steps, [], false⟩
def d_19 : DefX := ⟨q_f19, "count_letters", "count_letters", defArgs s_count_letters, defBody s_count_letters, defScope s_count_letters, [], false⟩
def d_20 : DefX := ⟨q_f20, "added_steps", "added_steps", defArgs s_added_steps, defBody s_added_steps, defScope s_added_steps, [], false⟩
def d_21 : DefX := ⟨q_f21, "_law_put_right", "_law_put_right", defArgs s__law_put_right, defBody s__law_put_right, defScope s__law_put_right, [], false⟩
def d_22 : DefX := ⟨q_f22, "law", "law", defArgs s_law, defBody s_law, defScope s_law, [], false⟩
def q_fl (K : PySem.W.Frag) : List Bool := [decide (PySem.W.nsIn K mainGlobals "is_between" = some (some (.ref (q_f0 K)))),
  decide (PySem.W.nsIn K mainGlobals "is_letter" = some (some (.ref (q_f1 K)))),
  decide (PySem.W.nsIn K mainGlobals "is_back" = some (some (.ref (q_f2 K)))),
  decide (PySem.W.nsIn K mainGlobals "with_any_times" = some (some (.ref (q_f3 K)))),
  decide (PySem.W.nsIn K mainGlobals "_law_deck" = some (some (.ref (q_f4 K)))),
  decide (PySem.W.nsIn K mainGlobals "_law_draw" = some (some (.ref (q_f5 K)))),
  decide (PySem.W.nsIn K mainGlobals "card_error" = some (some (.ref (q_f6 K)))),
  decide (PySem.W.nsIn K mainGlobals "moved_card" = some (some (.ref (q_f7 K)))),
  decide (PySem.W.nsIn K mainGlobals "need_place" = some (some (.ref (q_f8 K)))),
  decide (PySem.W.nsIn K mainGlobals "need_back" = some (some (.ref (q_f9 K)))),
  decide (PySem.W.nsIn K mainGlobals "ways_back" = some (some (.ref (q_f10 K)))),
  decide (PySem.W.nsIn K mainGlobals "_law_pick" = some (some (.ref (q_f11 K)))),
  decide (PySem.W.nsIn K mainGlobals "_law_great" = some (some (.ref (q_f12 K)))),
  decide (PySem.W.nsIn K mainGlobals "with_card" = some (some (.ref (q_f13 K)))),
  decide (PySem.W.nsIn K mainGlobals "without_card" = some (some (.ref (q_f14 K)))),
  decide (PySem.W.nsIn K mainGlobals "crossings" = some (some (.ref (q_f15 K)))),
  decide (PySem.W.nsIn K mainGlobals "_law_made" = some (some (.ref (q_f16 K)))),
  decide (PySem.W.nsIn K mainGlobals "meetings" = some (some (.ref (q_f17 K)))),
  decide (PySem.W.nsIn K mainGlobals "count_steps" = some (some (.ref (q_f18 K)))),
  decide (PySem.W.nsIn K mainGlobals "count_letters" = some (some (.ref (q_f19 K)))),
  decide (PySem.W.nsIn K mainGlobals "added_steps" = some (some (.ref (q_f20 K)))),
  decide (PySem.W.nsIn K mainGlobals "_law_put_right" = some (some (.ref (q_f21 K)))),
  decide (PySem.W.nsIn K mainGlobals "law" = some (some (.ref (q_f22 K)))),
  decide (PySem.W.nsIn K mainGlobals "abs" = some none),
  decide (PySem.W.nsIn K mainGlobals "bool" = some none),
  decide (PySem.W.nsIn K mainGlobals "enumerate" = some none),
  decide (PySem.W.nsIn K mainGlobals "int" = some none),
  decide (PySem.W.nsIn K mainGlobals "isinstance" = some none),
  decide (PySem.W.nsIn K mainGlobals "len" = some none),
  decide (PySem.W.nsIn K mainGlobals "list" = some none),
  decide (PySem.W.nsIn K mainGlobals "range" = some none),
  decide (PySem.W.nsIn K mainGlobals "str" = some none),
  decide (PySem.W.nsIn K mainGlobals "sum" = some none),
  decide (PySem.W.nsIn K mainGlobals "tuple" = some none),
  decide (PySem.W.nsIn K mainGlobals "zip" = some none),
  strGB K "LETTERS" "abcdefghijklmnopqrstuvwxyz",
  intGB K "MAX_CARDS" 24,
  intGB K "MAX_TIMES" 1000000000000]
def q_fn : List DefX := [d_0, d_1, d_2, d_3, d_4, d_5, d_6, d_7, d_8, d_9, d_10, d_11, d_12, d_13, d_14, d_15, d_16, d_17, d_18, d_19, d_20, d_21, d_22]
def q_n0 : List PySem.Str := ["MAX_CARDS", "MAX_TIMES", "__name__", "CardError", "TooLarge", "BadCard", "LastCard", "NoLetter", "NoPlace", "LETTERS", "is_between", "is_letter"]
def q_n1 : List PySem.Str := ["is_back", "card_error", "moved_card", "need_place", "with_card", "without_card", "need_back", "ways_back", "crossings", "meetings", "count_steps", "count_letters"]
def q_n2 : List PySem.Str := ["with_any_times", "added_steps", "_law_deck", "_law_draw", "_law_pick", "_law_great", "_law_made", "_law_put_right"]
def q_names : List PySem.Str := q_n0 ++ q_n1 ++ q_n2
abbrev q_R : PySem.W.OpenRow := PySem.W.OpenLaw.row PySem.Challenge.rw_backcards_k23_whole_letters_put_in
noncomputable abbrev q_v : Program := PySem.W.view q_R.prog [35]
noncomputable abbrev q_hk : PySem.W.Hook := hookK q_fl q_fn
noncomputable def q_ob (s : PySem.W.SharedT) : He.AlD := obsG q_fl q_fn (HandSHeadRun.getT s)
theorem q_ob_eq (s : PySem.W.SharedT) : q_ob s = q_hk.obs s.abs := obsG_eq s
theorem q_run (w : World) : HandSHeadRun.RunEq q_R q_v q_hk q_ob 60000 q_names w := by
  intro os
  kernel_rfl
end LawP
namespace LawP
open PySem PySem.Spec PyProof.Rows L2 Bv
noncomputable def g_is_between : S → SRes := (sRet (eAnd (e1 (isiD "int") (eVar 0)) (eAnd (eNot (e1 (isiD "bool") (eVar 0))) (eChain leD leD (eVar 1) (eVar 0) (eVar 2)))))
noncomputable def m_is_between : List D → List D → FR := fnB g_is_between 3
noncomputable def g_is_letter : S → SRes := (sRet (eAnd (e1 (isiD "str") (eVar 0)) (eAnd (e2 eqD (e1 lenD (eVar 0)) (eC (.int 1))) (e2 inD (eVar 0) (eC (.str "abcdefghijklmnopqrstuvwxyz"))))))
noncomputable def m_is_letter : List D → List D → FR := fnB g_is_letter 1
noncomputable def g_is_back : S → SRes := (sRet (e1 (isiD "tuple") (eVar 0)))
noncomputable def m_is_back : List D → List D → FR := fnB g_is_back 1
noncomputable def g_with_any_times : S → SRes := (sRet (eTup (lStar (eSl (eVar 0) (eC .non) (eInt (eVar 1))) (lCons (eTup (lCons (e2 sixD (e2 sixD (eVar 0) (eVar 1)) (eC (.int 0))) (lCons (eVar 2) lNil))) (lStar (eSl (eVar 0) (eInt (e2 addD (eVar 1) (eC (.int 1)))) (eC .non)) lNil)))))
noncomputable def m_with_any_times : List D → List D → FR := fnB g_with_any_times 3
noncomputable def lc__law_deck_1 : S → Res := (eLc (iSeq (eSl (eVar 0) (eC .non) (eInt (eC (.int 63))))) (gN 1) bYes (e1 absD (eVar 1)) [1])
noncomputable def g__law_deck : S → SRes := (sRet (eLst (lConsO lc__law_deck_1 (lCons (eC (.int 0)) lNil))))
noncomputable def m__law_deck : List D → List D → FR := fnB g__law_deck 2
noncomputable def lc__law_draw_1 : S → Res := (eLcO (iObE (lConsO (eVar 2) lNil)) (gTu 2 (gsC (gN 4) (gsC (gN 5) gs0))) (e2 geD (eVar 5) (e2 powD (eC (.int 10)) (eC (.int 18)))) (eVar 4) [4, 5])
noncomputable def g__law_draw : S → SRes := (sSeq (sAsg 2 (e2 sixD (eVar 0) (eC (.int 0))))
  (sSeq (sSetIx (e2 addD (e2 sixD (eVar 0) (eC (.int 1))) (eC (.int 1))) (eVar 0) (eC (.int 1)))
  (sSeq (sAsg 3 lc__law_draw_1)
  (sSeq (sIf (e2 neD (eVar 3) (eLst lNil)) (sSeq (sAsg 6 (e2 modD (e2 sixD (eVar 2) (e2 sixD (eVar 3) (eC (.int 0)))) (eVar 1)))
  (sSeq (sSetIx (e2 fdivD (e2 sixD (eVar 2) (e2 sixD (eVar 3) (eC (.int 0)))) (eVar 1)) (eVar 2) (e2 sixD (eVar 3) (eC (.int 0))))
  (sRet (eVar 6)))) sNext)
  (sSeq (sAsg 5 (e2 sixD (e2 addD (eVar 2) (eLst (lCons (eC (.int 53)) lNil))) (e2 modD (e2 sixD (eVar 0) (eC (.int 1))) (e2 addD (e1 lenD (eVar 2)) (eC (.int 1))))))
  (sSeq (sAsg 7 (e2 modD (e2 powD (e2 addD (e2 addD (e2 modD (eVar 5) (eC (.int 2147483587))) (e2 mulD (eC (.int 69621)) (e2 sixD (eVar 0) (eC (.int 1))))) (eC (.int 17))) (eC (.int 3))) (eC (.int 2147483629))))
  (sSeq (sAsg 7 (e2 modD (e2 powD (e2 addD (eVar 7) (e2 mulD (e2 mulD (eC (.int 6007)) (e2 sixD (eVar 0) (eC (.int 1)))) (e2 sixD (eVar 0) (eC (.int 1))))) (eC (.int 3))) (eC (.int 2305843009213693951))))
  (sRet (e2 modD (e2 fdivD (eVar 7) (eC (.int 2048))) (eVar 1))))))))))
noncomputable def m__law_draw : List D → List D → FR := fnB g__law_draw 8
noncomputable def g_card_error : S → SRes := (sSeq (sIf (bT (e1 (isiD "str") (eVar 1))) (sRet (eIf (bT (eCall m_is_letter 1 [] (lCons (eVar 1) lNil))) (eC .non) (eC (.str "letter")))) sNext)
  (sSeq (sIf (bOr (bNot (bT (e1 (isiD "tuple") (eVar 1)))) (e2 neD (e1 lenD (eVar 1)) (eC (.int 2)))) (sRet (eC (.str "card"))) sNext)
  (sSeq (sUnp (eVar 1) (gTu 2 (gsC (gN 2) (gsC (gN 3) gs0))))
  (sSeq (sIf (bNot (bT (eCall m_is_between 3 [] (lCons (eVar 2) (lCons (eC (.int 0)) (lCons (eVar 0) lNil)))))) (sRet (eC (.str "target"))) sNext)
  (sRet (eIf (bT (eCall m_is_between 3 [] (lCons (eVar 3) (lCons (eC (.int 0)) (lCons (eC (.int 1000000000000)) lNil))))) (eC .non) (eC (.str "times"))))))))
noncomputable def m_card_error : List D → List D → FR := fnB g_card_error 4
noncomputable def g_moved_card : S → SRes := (sSeq (sIf (bOr (bNot (bT (eCall m_is_back 1 [] (lCons (eVar 0) lNil)))) (e2 ltD (e2 sixD (eVar 0) (eC (.int 0))) (eVar 1))) (sRet (eVar 0)) sNext)
  (sRet (eTup (lCons (e2 addD (e2 sixD (eVar 0) (eC (.int 0))) (eVar 2)) (lCons (e2 sixD (eVar 0) (eC (.int 1))) lNil)))))
noncomputable def m_moved_card : List D → List D → FR := fnB g_moved_card 3
noncomputable def g_need_place : S → SRes := (sIf (bNot (bT (eCall m_is_between 3 [] (lCons (eVar 1) (lCons (eC (.int 0)) (lCons (e2 addD (e2 subD (e1 lenD (eVar 0)) (eC (.int 1))) (eVar 2)) lNil)))))) sBad sNext)
noncomputable def m_need_place : List D → List D → FR := fnB g_need_place 3
noncomputable def g_need_back : S → SRes := (sIf (bOr (bNot (bT (eCall m_is_between 3 [] (lCons (eVar 1) (lCons (eC (.int 0)) (lCons (e2 subD (e1 lenD (eVar 0)) (eC (.int 1))) lNil)))))) (bNot (bT (eCall m_is_back 1 [] (lCons (e2 sixD (eVar 0) (eVar 1)) lNil))))) sBad sNext)
noncomputable def m_need_back : List D → List D → FR := fnB g_need_back 2
noncomputable def lc_ways_back_1 : S → Res := (eLcO (iObZ (lCons (eVar 3) (lConsO (eVar 1) lNil))) (gTu 2 (gsC (gN 4) (gsC (gN 5) gs0))) (bAnd (bT (eCall m_is_back 1 [] (lCons (eVar 4) lNil))) (e2 leD (e2 sixD (eVar 4) (eC (.int 0))) (eVar 2))) (e2 mulD (eVar 5) (e2 sixD (eVar 4) (eC (.int 1)))) [4, 5])
noncomputable def g_ways_back : S → SRes := (sSeq (sAsg 3 (eSl (e1 revD (eVar 0)) (eC .non) (eInt (e1 lenD (eVar 1)))))
  (sRet (e1 sumD lc_ways_back_1)))
noncomputable def m_ways_back : List D → List D → FR := fnB g_ways_back 6
noncomputable def g__law_pick : S → SRes := (sRet (e2 sixD (eVar 1) (eCall m__law_draw 2 [] (lConsO (eVar 0) (lCons (e1 lenD (eVar 1)) lNil)))))
noncomputable def m__law_pick : List D → List D → FR := fnB g__law_pick 2
noncomputable def b__law_great_1 : S → SRes := (sAsg 2 (e2 addD (e2 mulD (eVar 2) (e2 powD (eC (.int 10)) (eC (.int 9)))) (eCall m__law_draw 2 [] (lConsO (eVar 0) (lCons (e2 powD (eC (.int 10)) (eC (.int 9))) lNil)))))
noncomputable def g__law_great : S → SRes := (sSeq (sAsg 2 (eC (.int 0)))
  (sSeq (sFor (iL rg1 (lCons (eC (.int 7)) lNil)) (gN 3) b__law_great_1)
  (sRet (e2 modD (eVar 2) (eVar 1)))))
noncomputable def m__law_great : List D → List D → FR := fnB g__law_great 4
noncomputable def lc_with_card_1 : S → Res := (eLc (iSeq (eSl (eVar 0) (eInt (eVar 1)) (eC .non))) (gN 3) bYes (eCall m_moved_card 3 [] (lCons (eVar 3) (lCons (eVar 1) (lCons (eC (.int 1)) lNil)))) [3])
noncomputable def g_with_card : S → SRes := (sSeq (sExpr (eCall m_need_place 3 [] (lCons (eVar 0) (lCons (eVar 1) (lCons (eC (.int 1)) lNil)))))
  (sSeq (sIf (e2 isNotD (eCall m_card_error 2 [] (lCons (eVar 1) (lCons (eVar 2) lNil))) (eC .non)) sBad sNext)
  (sSeq (sIf (e2 eqD (e1 lenD (eVar 0)) (eC (.int 24))) sBad sNext)
  (sRet (eTup (lStar (eSl (eVar 0) (eC .non) (eInt (eVar 1))) (lCons (eVar 2) (lStar lc_with_card_1 lNil))))))))
noncomputable def m_with_card : List D → List D → FR := fnB g_with_card 4
noncomputable def lc_without_card_1 : S → Res := (eLc (iSeq (eSl (eVar 0) (eInt (e2 addD (eVar 1) (eC (.int 1)))) (eC .non))) (gN 2) bYes (eCall m_moved_card 3 [] (lCons (eVar 2) (lCons (e2 addD (eVar 1) (eC (.int 1))) (lCons (e1 negD (eC (.int 1))) lNil)))) [2])
noncomputable def g_without_card : S → SRes := (sSeq (sExpr (eCall m_need_place 3 [] (lCons (eVar 0) (lCons (eVar 1) (lCons (eC (.int 0)) lNil)))))
  (sSeq (sIf (e2 eqD (e1 lenD (eVar 0)) (eC (.int 1))) sBad sNext)
  (sRet (eTup (lStar (eSl (eVar 0) (eC .non) (eInt (eVar 1))) (lStar lc_without_card_1 lNil))))))
noncomputable def m_without_card : List D → List D → FR := fnB g_without_card 3
noncomputable def b_crossings_1 : S → SRes := (sExpr (eMut appendF (eVar 1) (lCons (e2 addD (eC (.int 1)) (eCall m_ways_back 3 [] (lCons (eVar 0) (lConsO (eVar 1) (lCons (eVar 2) lNil))))) lNil)))
noncomputable def g_crossings : S → SRes := (sSeq (sAsgO 1 (eLst lNil))
  (sSeq (sFor (iL rg3 (lCons (e2 subD (e1 lenD (eVar 0)) (eC (.int 1))) (lCons (e1 negD (eC (.int 1))) (lCons (e1 negD (eC (.int 1))) lNil)))) (gN 2) b_crossings_1)
  (sRet (e1 tupD (e1 revD (eVar 1))))))
noncomputable def m_crossings : List D → List D → FR := gcF <| fnB g_crossings 3
noncomputable def b__law_made_1 : S → SRes := (sSeq (sAsg 6 (e2 subD (eVar 5) (e2 fdivD (eCall m__law_draw 2 [] (lConsO (eVar 0) (lCons (e2 addD (eVar 5) (eC (.int 1))) lNil))) (eC (.int 2)))))
  (sSeq (sAsg 7 (e2 sixD (eLst (lCons (eCall m__law_draw 2 [] (lConsO (eVar 0) (lCons (e2 addD (eVar 5) (eC (.int 1))) lNil))) (lCons (eC (.int 0)) (lCons (eVar 6) (lCons (eVar 5) lNil))))) (eCall m__law_draw 2 [] (lConsO (eVar 0) (lCons (eC (.int 4)) lNil)))))
  (sSeq (sAsg 8 (e2 sixD (eLst (lCons (eVar 2) (lCons (eCall m__law_great 2 [] (lConsO (eVar 0) (lCons (e2 addD (eVar 2) (eC (.int 1))) lNil))) (lCons (eCall m__law_draw 2 [] (lConsO (eVar 0) (lCons (eC (.int 3)) lNil))) (lCons (eC (.int 1)) lNil))))) (eCall m__law_draw 2 [] (lConsO (eVar 0) (lCons (eC (.int 4)) lNil)))))
  (sSeq (sAsg 9 (e2 sixD (eC (.str "abcxz")) (eCall m__law_draw 2 [] (lConsO (eVar 0) (lCons (eC (.int 5)) lNil)))))
  (sExpr (eMut appendF (eVar 4) (lCons (e2 sixD (eLst (lCons (eVar 9) (lCons (eTup (lCons (eVar 7) (lCons (eVar 8) lNil))) lNil))) (e1 intD (e2 ltD (eCall m__law_draw 2 [] (lConsO (eVar 0) (lCons (eC (.int 5)) lNil))) (e2 sixD (eLst (lCons (eC (.int 2)) (lCons (eC (.int 1)) (lCons (eC (.int 4)) (lCons (eC (.int 3)) (lCons (eC (.int 5)) lNil)))))) (eVar 3))))) lNil)))))))
noncomputable def g__law_made : S → SRes := (sSeq (sPar [3, 4] (fCons (eCall m__law_draw 2 [] (lConsO (eVar 0) (lCons (eC (.int 5)) lNil))) (fCons (eLst lNil) fNil)))
  (sSeq (sFor (iL rg1 (lCons (e2 addD (eC (.int 1)) (eCall m__law_draw 2 [] (lConsO (eVar 0) (lCons (eVar 1) lNil)))) lNil)) (gN 5) b__law_made_1)
  (sRet (e1 tupD (eVar 4)))))
noncomputable def m__law_made : List D → List D → FR := fnB g__law_made 10
noncomputable def b_meetings_1 : S → SRes := (sExpr (eMut appendF (eVar 1) (lCons (eIf (bT (eCall m_is_back 1 [] (lCons (eVar 2) lNil))) (e2 mulD (eVar 3) (e2 addD (e2 sixD (eVar 2) (eC (.int 1))) (eC (.int 1)))) (eVar 3)) lNil)))
noncomputable def g_meetings : S → SRes := (sSeq (sAsg 1 (eLst lNil))
  (sSeq (sFor (iL zi2 (lCons (eVar 0) (lCons (eCall m_crossings 1 [] (lCons (eVar 0) lNil)) lNil))) (gTu 2 (gsC (gN 2) (gsC (gN 3) gs0))) b_meetings_1)
  (sRet (e1 tupD (eVar 1)))))
noncomputable def m_meetings : List D → List D → FR := fnB g_meetings 4
noncomputable def g_count_steps : S → SRes := (sRet (e1 sumD (e1 lstD (eCall m_meetings 1 [] (lCons (eVar 0) lNil)))))
noncomputable def m_count_steps : List D → List D → FR := fnB g_count_steps 1
noncomputable def b_count_letters_1 : S → SRes := (sIf (bNot (bT (eCall m_is_letter 1 [] (lCons (eVar 2) lNil)))) sBad sNext)
noncomputable def lc_count_letters_2 : S → Res := (eLc (iL zi2 (lCons (eVar 0) (lCons (eCall m_meetings 1 [] (lCons (eVar 0) lNil)) lNil))) (gTu 2 (gsC (gN 4) (gsC (gN 5) gs0))) (bAnd (bNot (bT (eCall m_is_back 1 [] (lCons (eVar 4) lNil)))) (e2 inD (eVar 4) (eOr (eVar 1) (eVar 4)))) (eVar 5) [4, 5])
noncomputable def g_count_letters : S → SRes := (sSeq (sFor (iSeq (eVar 1)) (gN 2) b_count_letters_1)
  (sSeq (sAsg 3 lc_count_letters_2)
  (sRet (e1 sumD (eVar 3)))))
noncomputable def m_count_letters : List D → List D → FR := starF 1 <| fnB g_count_letters 6
noncomputable def g_added_steps : S → SRes := (sSeq (sExpr (eCall m_need_back 2 [] (lCons (eVar 0) (lCons (eVar 1) lNil))))
  (sRet (e2 subD (eCall m_count_steps 1 [] (lCons (eCall m_with_any_times 3 [] (lCons (eVar 0) (lCons (eVar 1) (lCons (eC (.int 1)) lNil)))) lNil)) (eCall m_count_steps 1 [] (lCons (eCall m_with_any_times 3 [] (lCons (eVar 0) (lCons (eVar 1) (lCons (eC (.int 0)) lNil)))) lNil)))))
noncomputable def m_added_steps : List D → List D → FR := fnB g_added_steps 2
noncomputable def g__law_put_right : S → SRes := (sSeq (sPar [3, 4] (fCons (eCall m_with_card 3 [] (lCons (eVar 0) (lCons (eVar 1) (lCons (eVar 2) lNil)))) (fCons (eCall m_crossings 1 [] (lCons (eVar 0) lNil)) fNil)))
  (sSeq (sAsg 5 (eIf (e2 gtD (eVar 1) (eC (.int 0))) (e2 sixD (eVar 4) (e2 subD (eVar 1) (eC (.int 1)))) (eC (.int 1))))
  (sSeq (sIf (bOr (e2 neD (eCall m_crossings 1 [] (lCons (eVar 3) lNil)) (e2 addD (e2 addD (eSl (eVar 4) (eC .non) (eInt (eVar 1))) (eTup (lCons (eVar 5) lNil))) (eSl (eVar 4) (eInt (eVar 1)) (eC .non)))) (e2 neD (eCall m_without_card 2 [] (lCons (eVar 3) (lCons (eVar 1) lNil))) (eVar 0))) (sRet (eC (.bl false))) sNext)
  (sSeq (sIf (bOr (e2 neD (eCall m_count_steps 1 [] (lCons (eVar 3) lNil)) (e2 addD (eCall m_count_steps 1 [] (lCons (eVar 0) lNil)) (eVar 5))) (e2 neD (eCallV m_count_letters (lCons (eVar 3) lNil)) (e2 addD (eCallV m_count_letters (lCons (eVar 0) lNil)) (eVar 5)))) (sRet (eC (.bl false))) sNext)
  (sSeq (sAsg 6 (eCall m_with_card 3 [] (lCons (eVar 0) (lCons (eVar 1) (lCons (eTup (lCons (e2 fdivD (eVar 1) (eC (.int 2))) (lCons (eC (.int 0)) lNil))) lNil)))))
  (sRet (eAnd (e2 eqD (eCall m_crossings 1 [] (lCons (eVar 6) lNil)) (eCall m_crossings 1 [] (lCons (eVar 3) lNil))) (e2 eqD (eCall m_meetings 1 [] (lCons (eVar 6) lNil)) (eCall m_meetings 1 [] (lCons (eVar 3) lNil))))))))))
noncomputable def m__law_put_right : List D → List D → FR := fnB g__law_put_right 7
noncomputable def b_law_1 : S → SRes := (sIf (bNot (bT (eCall m__law_put_right 3 [] (lCons (eVar 3) (lCons (eVar 4) (lCons (eCall m__law_pick 2 [] (lConsO (eVar 1) (lCons (eLst (lCons (eC (.str "a")) (lCons (eC (.str "b")) (lCons (eC (.str "y")) lNil)))) lNil))) lNil)))))) (sRet (eC (.bl false))) sNext)
noncomputable def b_law_2 : S → SRes := (sSeq (sAsg 3 (eCall m__law_made 3 [] (lConsO (eVar 1) (lCons (eC (.int 23)) (lCons (e2 powD (eC (.int 10)) (eC (.int 12))) lNil)))))
  (sSeq (sFor (iL rg1 (lCons (e2 addD (e1 lenD (eVar 3)) (eC (.int 1))) lNil)) (gN 4) b_law_1)
  (sSeq (sAsg 4 (eCall m__law_draw 2 [] (lConsO (eVar 1) (lCons (e2 addD (e1 lenD (eVar 3)) (eC (.int 1))) lNil))))
  (sSeq (sAsg 5 (eCall m_with_card 3 [] (lCons (eVar 3) (lCons (eVar 4) (lCons (eTup (lCons (eVar 4) (lCons (eCall m__law_great 2 [] (lConsO (eVar 1) (lCons (e2 addD (e2 powD (eC (.int 10)) (eC (.int 12))) (eC (.int 1))) lNil))) lNil))) lNil)))))
  (sIf (e2 neD (eCall m_added_steps 2 [] (lCons (eVar 5) (lCons (eVar 4) lNil))) (e2 sixD (eCall m_crossings 1 [] (lCons (eVar 5) lNil)) (eVar 4))) (sRet (eC (.bl false))) sNext)))))
noncomputable def g_law : S → SRes := (sSeq (sAsgO 1 (eCall m__law_deck 1 [] (lCons (eVar 0) lNil)))
  (sSeq (sFor (iL rg1 (lCons (eC (.int 8)) lNil)) (gN 2) b_law_2)
  (sRet (eC (.bl true)))))
noncomputable def m_law : List D → List D → FR := fnB g_law 6

def chS (k : Nat) : Str := ⟨#[k]⟩
inductive Cd where
  | L (k : Nat)
  | B (t m : Int)
deriving DecidableEq
def cD : Cd → D
  | .L k => .str (chS k)
  | .B t m => .tup [.int t, .int m]
@[simp] theorem cD_L (k : Nat) : cD (.L k) = .str (chS k) := id rfl
@[simp] theorem cD_B (t m : Int) : cD (.B t m) = .tup [.int t, .int m] := id rfl
abbrev rD (r : List Cd) : D := .tup (r.map cD)
/-- a card at place p, with at most T times -/
def CdOk (T : Int) (p : Nat) : Cd → Prop
  | .L k => 97 ≤ k ∧ k ≤ 122
  | .B t m => 0 ≤ t ∧ t ≤ p ∧ 0 ≤ m ∧ m ≤ T
/-- cards from place p on -/
def RwOk (T : Int) : Nat → List Cd → Prop
  | _, [] => True
  | p, c :: cs => CdOk T p c ∧ RwOk T (p + 1) cs
theorem RwOk.app {T : Int} : ∀ {p : Nat} {a b : List Cd}, RwOk T p a → RwOk T (p + a.length) b → RwOk T p (a ++ b)
  | _, [], _, _, h => by simpa using h
  | p, c :: cs, b, ⟨h1, h2⟩, h => ⟨h1, RwOk.app h2 (by rw [List.length_cons] at h; rw [show p + 1 + cs.length = p + (cs.length + 1) by omega]; exact h)⟩
theorem RwOk.left {T : Int} : ∀ {p : Nat} {a b : List Cd}, RwOk T p (a ++ b) → RwOk T p a
  | _, [], _, _ => trivial
  | p, c :: cs, b, ⟨h1, h2⟩ => ⟨h1, RwOk.left h2⟩
theorem RwOk.right {T : Int} : ∀ {p : Nat} {a b : List Cd}, RwOk T p (a ++ b) → RwOk T (p + a.length) b
  | _, [], _, h => by simpa using h
  | p, c :: cs, b, ⟨h1, h2⟩ => by
    have := RwOk.right h2
    rw [List.length_cons, show p + (cs.length + 1) = p + 1 + cs.length by omega]; exact this
theorem RwOk.get {T : Int} {p i : Nat} {r : List Cd} (h : RwOk T p r) {c : Cd} (e : r[i]? = some c) : CdOk T (p + i) c := by
  induction r generalizing p i with
  | nil => simp at e
  | cons x xs ih =>
    cases i with
    | zero => simp at e; subst e; exact h.1
    | succ i =>
      simp at e
      have := ih h.2 e
      rw [show p + (i + 1) = p + 1 + i by omega]; exact this
theorem RwOk.drop {T : Int} {r : List Cd} (h : RwOk T 0 r) (k : Nat) (hk : k ≤ r.length) : RwOk T k (r.drop k) := by
  have := RwOk.right (a := r.take k) (b := r.drop k) (p := 0) (T := T) (by rw [List.take_append_drop]; exact h)
  rw [List.length_take, Nat.min_eq_left hk, Nat.zero_add] at this
  exact this
theorem RwOk.take {T : Int} {p : Nat} {r : List Cd} (h : RwOk T p r) (k : Nat) : RwOk T p (r.take k) :=
  RwOk.left (b := r.drop k) (by rw [List.take_append_drop]; exact h)
theorem RwOk.mono {T T' : Int} (hT : T ≤ T') : ∀ {p : Nat} {r : List Cd}, RwOk T p r → RwOk T' p r
  | _, [], _ => trivial
  | p, .L k :: cs, h => ⟨h.1, RwOk.mono hT h.2⟩
  | p, .B t m :: cs, ⟨⟨h1, h2, h3, h4⟩, h⟩ => ⟨⟨h1, h2, h3, by omega⟩, RwOk.mono hT h⟩
theorem RwOk.snoc {T : Int} {r : List Cd} {c : Cd} (h : RwOk T 0 r) (hc : CdOk T r.length c) : RwOk T 0 (r ++ [c]) := h.app (by rw [Nat.zero_add]; exact ⟨hc, trivial⟩)
@[simp] theorem pure_cD (c : Cd) : pureD (cD c) = true := by cases c <;> rfl
@[simp] theorem pure_row (r : List Cd) : pureL (r.map cD) = true := pureL_all.mpr fun d m => by
  obtain ⟨c, _, rfl⟩ := List.mem_map.mp m
  exact pure_cD c
theorem abs_dig {i : Int} {k : Nat} (h0 : 0 ≤ i) (h : i < (10 ^ k : Nat)) : i.natAbs < 10 ^ k := by omega
def deck (J : List D) (cells : List Int) (c : Int) : List D := .lst (cells.map .int) :: .lst [.ob 0, .int c] :: J
def Cells (cells : List Int) : Prop := (∀ x ∈ cells, 0 ≤ x) ∧ cells.length ≤ 63
/-- the bag, at most n draws so far -/
def Bg (J : List D) (n : Int) (ob : List D) : Prop := ∃ cells c, ob = deck J cells c ∧ Cells cells ∧ 0 ≤ c ∧ c ≤ n
theorem Bg.mono {J : List D} {n m : Int} {ob : List D} (h : Bg J n ob) (l : n ≤ m) : Bg J m ob := by
  obtain ⟨cells, c, e, hC, h0, h1⟩ := h
  exact ⟨cells, c, e, hC, h0, by omega⟩
def bigs : Nat → List Int → List Int
  | _, [] => []
  | k, x :: xs => if 1000000000000000000 ≤ x then (k : Int) :: bigs (k + 1) xs else bigs (k + 1) xs
theorem bigs_fm : ∀ (cells : List Int) (k : Nat), ((List.range' k cells.length).zip cells).filterMap (fun p => if 1000000000000000000 ≤ p.2 then some (D.int (p.1 : Nat)) else none) = (bigs k cells).map .int
  | [], _ => rfl
  | x :: xs, k => by
    have ih := bigs_fm xs (k + 1)
    show ((k, x) :: (List.range' (k + 1) xs.length).zip xs).filterMap _ = _
    unfold bigs
    by_cases h : 1000000000000000000 ≤ x
    · simp [h, ih]
    · simp [h, ih]
theorem bigs_mem : ∀ (cells : List Int) (k : Nat) (z : Int), z ∈ bigs k cells → (k : Int) ≤ z ∧ z < k + cells.length
  | [], _, _, m => by cases m
  | x :: xs, k, z, m => by
    unfold bigs at m
    split at m
    · rcases List.mem_cons.mp m with rfl | m
      · simp; omega
      · have := bigs_mem xs (k + 1) z m; simp; omega
    · have := bigs_mem xs (k + 1) z m; simp; omega
theorem lcDraw (cells : List Int) (many : D) (s0 : D) (ob : List D) (hl : cells.length ≤ 63) : lc__law_draw_1 ⟨[.frz s0, .frz many, .frz (.ob 0), .no, .no, .no, .no, .no], .lst (cells.map .int) :: ob⟩ =
    .ok (.fresh (.lst ((bigs 0 cells).map .int))) ⟨[.frz s0, .frz many, .frz (.ob 0), .no, .no, .no, .no, .no], .lst (cells.map .int) :: ob⟩ := by
  have key := lcO_eq (m := 0) (ds0 := cells.map .int) (g := gTu 2 (gsC (gN 4) (gsC (gN 5) gs0))) (t := e2 geD (eVar 5) (e2 powD (eC (.int 10)) (eC (.int 18)))) (f := eVar 4) (vs := [4, 5]) (q := fun (p : Nat × Int) => .tup [.int (p.1 : Nat), .int p.2]) (st := ⟨[.frz s0, .frz many, .frz (.ob 0), .no, .no, .no, .no, .no], .lst (cells.map .int) :: ob⟩)
    (fun p => if 1000000000000000000 ≤ p.2 then some (D.int (p.1 : Nat)) else none) ((List.range' 0 cells.length).zip cells) (by rw [sizeLine_eq]; simp; omega) rfl (fun x _ => by
      by_cases h : 1000000000000000000 ≤ x.2 <;> simp [h])
  rw [bigs_fm, ← enumD_map] at key
  unfold lc__law_draw_1
  simp
  simp [key]
theorem draw_spec (J : List D) (cells : List Int) (c many : Int) (hC : Cells cells) (hc : 0 ≤ c) (hc2 : c ≤ 1000000) (hm : 0 < many) (hm2 : many < 18446744073709551616) :
    ∃ (v : Int) (cells' : List Int), m__law_draw [.ob 1, .int many] (deck J cells c) = .ok (.val (.int v)) (deck J cells' (c + 1)) ∧ 0 ≤ v ∧ v < many ∧ Cells cells' := by
  obtain ⟨h1, h2⟩ := hC
  have dm : divOk many = true := div_ok64 hm hm2
  have mix : ∀ z : Int, 0 ≤ z % many ∧ z % many < many := fun z => ⟨Int.emod_nonneg _ (by omega), Int.emod_lt_of_pos _ hm⟩
  have go : ∀ {v : Int} {cells' : List Int} {z : FR}, z = .ok (.val (.int v)) (deck J cells' (c + 1)) → 0 ≤ v ∧ v < many → Cells cells' → ∃ (v : Int) (cells' : List Int), z = .ok (.val (.int v)) (deck J cells' (c + 1)) ∧ 0 ≤ v ∧ v < many ∧ Cells cells' := fun a b d => ⟨_, _, a, b.1, b.2, d⟩
  have lc := lcDraw cells (.int many) (.ob 1) (.lst [.ob 0, .int (c + 1)] :: J) h2
  unfold m__law_draw g__law_draw
  rw [fnB_eq]
  by_cases hb : bigs 0 cells = []
  · -- mixing
    have n0 : neD (.lst []) (.lst []) = some (.val (.bl false)) := neD_ints [] []
    have s0 : 0 ≤ (c + 1) % (((cells.length + 1 : Nat)) : Int) := Int.emod_nonneg _ (by omega)
    have s1 : (c + 1) % (((cells.length + 1 : Nat)) : Int) < ((cells.length + 1 : Nat) : Int) := Int.emod_lt_of_pos _ (by omega)
    generalize hs : (c + 1) % (((cells.length + 1 : Nat)) : Int) = spot at s0 s1
    have hj : spot.toNat < (cells ++ [53]).length := by simp; omega
    have e1 : atI ((cells ++ [53]).map D.int) spot = some (.int (cells ++ [53])[spot.toNat]) := by
      rw [atI_some s0 (by simpa using s1)]
      simp only [List.getElem?_map, List.getElem_map, List.getElem?_eq_getElem hj, Option.map_some]
    have hx : 0 ≤ (cells ++ [53])[spot.toNat] := by
      rcases List.mem_append.mp (List.getElem_mem hj) with m | m
      · exact h1 _ m
      · rw [List.mem_singleton.mp m]; decide
    generalize (cells ++ [53])[spot.toNat] = x at e1 hx
    have ad : addD (.lst (cells.map .int)) (.lst [.int 53]) = some (.fresh (.lst ((cells ++ [53]).map .int))) := by
      unfold addD
      simp only [List.map_append, List.map_cons, List.map_nil]
      rw [if_pos (by rw [sizeLine_eq]; simp; omega)]
    generalize (cells ++ [53]).map D.int = L at e1 ad
    have z1 : 0 ≤ x % 2147483587 := Int.emod_nonneg _ (by decide)
    have z2 : x % 2147483587 < 2147483587 := Int.emod_lt_of_pos _ (by decide)
    have z3 : 0 ≤ (x % 2147483587 + 69621 * (c + 1) + 17) ^ 3 % 2147483629 := Int.emod_nonneg _ (by decide)
    have z4 : (x % 2147483587 + 69621 * (c + 1) + 17) ^ 3 % 2147483629 < 2147483629 := Int.emod_lt_of_pos _ (by decide)
    have q1 : 0 ≤ 6007 * (c + 1) * (c + 1) := Int.mul_nonneg (by omega) (by omega)
    have q2 : 6007 * (c + 1) * (c + 1) ≤ 6007 * 1000001 * 1000001 := Int.mul_le_mul (by omega) (by omega) (by omega) (by decide)
    have p1 := powD_n (x := x % 2147483587 + 69621 * (c + 1) + 17) (y := 3) (by omega) (by omega) (by decide) (by decide)
    have p2 := powD_n (x := (x % 2147483587 + 69621 * (c + 1) + 17) ^ 3 % 2147483629 + 6007 * (c + 1) * (c + 1)) (y := 3) (by omega) (by omega) (by decide) (by decide)
    simp only [Int.reduceToNat] at p1 p2
    have m1 : mulOk 69621 (c + 1) = true := mul_okl (by decide) (by decide)
    have m2 : mulOk 6007 (c + 1) = true := mul_okl (by decide) (by decide)
    have m3 : mulOk (6007 * (c + 1)) (c + 1) = true := mul_okr (by omega) (by omega)
    have d8 : divOk 2048 = true := by decide
    have md : modD (.int (c + 1)) (.int ((cells.length : Int) + 1)) = some (.val (.int spot)) := by rw [modD_int (by omega), ← hs]; rfl
    refine go (v := ((((x % 2147483587 + 69621 * (c + 1) + 17) ^ 3 % 2147483629) + 6007 * (c + 1) * (c + 1)) ^ 3 % 2305843009213693951 / 2048) % many) (cells' := cells) ?_ (mix _) ⟨h1, h2⟩
    rw [hb] at lc
    unfold deck
    simp only [List.map_nil] at lc
    simp [lc, n0, ad, md, modD_int, mulD_int, fdivD_int, p1, p2, m1, m2, m3, d8, hm, e1]
  · obtain ⟨k, rest, hk⟩ := List.exists_cons_of_ne_nil hb
    obtain ⟨k0, k1⟩ := bigs_mem cells 0 k (by rw [hk]; exact List.mem_cons_self ..)
    have hj : k.toNat < cells.length := by omega
    have e1 : atI (cells.map D.int) k = some (.int cells[k.toNat]) := by
      rw [atI_some (by omega) (by simp; omega)]; simp
    have e2 : ixN (cells.map D.int).length k = some k.toNat := ixN_some (by omega) (by simp; omega)
    have hx : 0 ≤ cells[k.toNat] := h1 _ (List.getElem_mem hj)
    refine go (v := cells[k.toNat] % many) (cells' := cells.set k.toNat (cells[k.toNat] / many)) ?_ (mix _) ⟨?_, by simpa using h2⟩
    rotate_left
    · intro x m
      rcases List.mem_or_eq_of_mem_set m with m | rfl
      · exact h1 x m
      · exact Int.ediv_nonneg hx (by omega)
    · have nn : neD (.lst ((bigs 0 cells).map .int)) (.lst []) = some (.val (.bl true)) := by rw [neD_nil, hk]; rfl
      unfold deck
      rw [hk] at lc nn
      simp only [List.map_cons] at lc nn
      simp [lc, nn, e1, modD_int, fdivD_int, dm, setF_lst e2, hm, List.map_set]
section
variable {J ob : List D} {n many : Int} {P : Rv → List D → Prop} {X : Exn → List D → Prop}
theorem draw_wp (h : Bg J n ob) (hn : n ≤ 1000000) (hm : 0 < many) (hm2 : many < 18446744073709551616) (k : ∀ v ob', 0 ≤ v → v < many → Bg J (n + 1) ob' → P (.val (.int v)) ob') : (m__law_draw [.ob 1, .int many] ob).wp P X := by
  obtain ⟨cells, c, rfl, hC, h0, h1⟩ := h
  obtain ⟨v, cells', e, v0, v1, C'⟩ := draw_spec J cells c many hC h0 (by omega) hm hm2
  exact FR.wp_of e (k v _ v0 v1 ⟨cells', c + 1, rfl, C', by omega, by omega⟩)
theorem pick_wp {xs : List D} (h : Bg J n ob) (hn : n ≤ 1000000) (hm : 0 < xs.length) (hm2 : xs.length < 1000000) (k : ∀ x ob', x ∈ xs → Bg J (n + 1) ob' → P (.val x) ob') : (m__law_pick [.ob 1, .lst xs] ob).wp P X := by
  unfold m__law_pick g__law_pick
  refine fnB_wp ?_
  simp
  refine draw_wp h hn (by omega) (by omega) fun v ob' v0 v1 h' => ?_
  have e : atI xs v = some (xs[v.toNat]'(by omega)) := atI_some v0 v1
  simp [e]
  exact k _ ob' (List.getElem_mem _) h'
def I_great (J : List D) (n many : Int) (i : Nat) (s : S) : Prop := ∃ (f : Int) (s3 : Sl) (ob : List D), s = ⟨[.frz (.ob 1), .frz (.int many), .frz (.int f), s3], ob⟩ ∧ Bg J (n + i) ob
theorem great_wp (h : Bg J n ob) (hn : n ≤ 900000) (hm : 0 < many) (k : ∀ v ob', 0 ≤ v → v < many → Bg J (n + 7) ob' → P (.val (.int v)) ob') : (m__law_great [.ob 1, .int many] ob).wp P X := by
  unfold m__law_great g__law_great
  refine fnB_wp ?_
  simp [rg1_n]
  refine rng_wp (I_great J n many) ⟨_, _, _, rfl, by simpa using h⟩ ?_ ?_
  · rintro i _ hi ⟨f, s3, ob, rfl, hb⟩
    simp [b__law_great_1, mulD_r]
    refine draw_wp hb (by omega) (by decide) (by decide) fun v ob' v0 v1 h' => ?_
    simp
    exact ⟨_, _, _, rfl, h'.mono (by omega)⟩
  · rintro _ ⟨f, s3, ob, rfl, hb⟩
    simp [modD_int, hm]
    exact k _ _ (Int.emod_nonneg _ (by omega)) (Int.emod_lt_of_pos _ hm) hb
theorem abc_at {v : Int} (h0 : 0 ≤ v) (h3 : v < 5) : ∃ k : Nat, (k = 97 ∨ k = 98 ∨ k = 99 ∨ k = 120 ∨ k = 122) ∧ sixD (.str "abcxz") (.int v) = some (.val (.str (chS k))) := by
  have : v = 0 ∨ v = 1 ∨ v = 2 ∨ v = 3 ∨ v = 4 := by omega
  rcases this with rfl | rfl | rfl | rfl | rfl
  · exact ⟨97, by decide, (sixD_str (by rw [len_of, sizeLine_eq]; decide)).trans (by unfold signAt; rw [Str.ofString_eq_toList]; rfl)⟩
  · exact ⟨98, by decide, (sixD_str (by rw [len_of, sizeLine_eq]; decide)).trans (by unfold signAt; rw [Str.ofString_eq_toList]; rfl)⟩
  · exact ⟨99, by decide, (sixD_str (by rw [len_of, sizeLine_eq]; decide)).trans (by unfold signAt; rw [Str.ofString_eq_toList]; rfl)⟩
  · exact ⟨120, by decide, (sixD_str (by rw [len_of, sizeLine_eq]; decide)).trans (by unfold signAt; rw [Str.ofString_eq_toList]; rfl)⟩
  · exact ⟨122, by decide, (sixD_str (by rw [len_of, sizeLine_eq]; decide)).trans (by unfold signAt; rw [Str.ofString_eq_toList]; rfl)⟩
theorem pick4 {a b c d : Int} {v : Int} (h0 : 0 ≤ v) (h4 : v < 4) : ∃ x, (x = a ∨ x = b ∨ x = c ∨ x = d) ∧ atI [D.int a, .int b, .int c, .int d] v = some (.int x) := by
  have : v = 0 ∨ v = 1 ∨ v = 2 ∨ v = 3 := by omega
  rcases this with rfl | rfl | rfl | rfl
  · exact ⟨a, .inl rfl, rfl⟩
  · exact ⟨b, .inr (.inl rfl), rfl⟩
  · exact ⟨c, .inr (.inr (.inl rfl)), rfl⟩
  · exact ⟨d, .inr (.inr (.inr rfl)), rfl⟩
theorem pick5 {v : Int} (h0 : 0 ≤ v) (h5 : v < 5) : ∃ x : Int, atI [D.int 2, .int 1, .int 4, .int 3, .int 5] v = some (.int x) := by
  have : v = 0 ∨ v = 1 ∨ v = 2 ∨ v = 3 ∨ v = 4 := by omega
  rcases this with rfl | rfl | rfl | rfl | rfl <;> exact ⟨_, rfl⟩
/-- a card that is drawn -/
def Gd (gr : Int) (p : Nat) : Cd → Prop
  | .L k => k = 97 ∨ k = 98 ∨ k = 99 ∨ k = 120 ∨ k = 122
  | .B t m => 0 ≤ t ∧ t ≤ p ∧ 0 ≤ m ∧ (m ≤ gr ∨ m ≤ 2)
def GdR (gr : Int) : Nat → List Cd → Prop
  | _, [] => True
  | p, c :: cs => Gd gr p c ∧ GdR gr (p + 1) cs
theorem GdR.snoc {gr : Int} : ∀ {p : Nat} {a : List Cd} {c : Cd}, GdR gr p a → Gd gr (p + a.length) c → GdR gr p (a ++ [c])
  | p, [], c, _, h => ⟨by simpa using h, trivial⟩
  | p, x :: xs, c, ⟨h1, h2⟩, h => ⟨h1, GdR.snoc h2 (by rw [List.length_cons] at h; rw [show p + 1 + xs.length = p + (xs.length + 1) by omega]; exact h)⟩
theorem GdR.ok {gr T : Int} (h : gr ≤ T) (h2 : 2 ≤ T) : ∀ {p : Nat} {r : List Cd}, GdR gr p r → RwOk T p r
  | _, [], _ => trivial
  | p, .L k :: cs, g => ⟨by rcases g.1 with rfl | rfl | rfl | rfl | rfl <;> exact ⟨by decide, by decide⟩, GdR.ok h h2 g.2⟩
  | p, .B t m :: cs, ⟨⟨a, b, c, d⟩, g⟩ => ⟨⟨a, b, c, by omega⟩, GdR.ok h h2 g⟩
def I_made (J : List D) (n most gr st : Int) (i : Nat) (s : S) : Prop := ∃ (r : List Cd) (s5 s6 s7 s8 s9 : Sl) (ob : List D), s = ⟨[.frz (.ob 1), .frz (.int most), .frz (.int gr), .frz (.int st), .own (.lst (r.map cD)), s5, s6, s7, s8, s9], ob⟩ ∧ Bg J (n + 2 + 14 * i) ob ∧ GdR gr 0 r ∧ r.length = i
theorem made_wp {most gr : Int} (h : Bg J n ob) (hn : n ≤ 800000) (hm : 0 < most) (hm2 : most ≤ 60) (hg : 0 ≤ gr) (hg2 : gr < 1000000000000000) (k : ∀ r ob', GdR gr 0 r → 1 ≤ r.length → (r.length : Int) ≤ most → Bg J (n + 1000) ob' → P (.val (rD r)) ob') : (m__law_made [.ob 1, .int most, .int gr] ob).wp P X := by
  unfold m__law_made g__law_made
  refine fnB_wp ?_
  simp
  refine draw_wp h (by omega) (by decide) (by decide) fun st ob1 st0 st1 h1 => ?_
  simp
  refine draw_wp h1 (by omega) (by omega) (by omega) fun v ob2 v0 v1 h2 => ?_
  simp
  rw [rg1_n (by omega) (by omega)]
  simp
  obtain ⟨q, hq⟩ : ∃ q : Nat, (1 + v).toNat = q := ⟨_, rfl⟩
  rw [hq]
  refine rng_wp (I_made J n most gr st) ⟨[], _, _, _, _, _, _, rfl, h2.mono (by omega), trivial, rfl⟩ ?_ ?_
  · rintro i _ hi ⟨r, s5, s6, s7, s8, s9, ob, rfl, hb, hr, hl⟩
    simp [b__law_made_1]
    refine draw_wp hb (by omega) (by omega) (by omega) fun v1 ob a1 b1 hb => ?_
    simp [fdivD_n]
    refine draw_wp hb (by omega) (by omega) (by omega) fun v2 ob a2 b2 hb => ?_
    simp
    refine draw_wp hb (by omega) (by decide) (by decide) fun v3 ob a3 b3 hb => ?_
    obtain ⟨t, ht, e3⟩ := pick4 (a := v2) (b := 0) (c := i - v1 / 2) (d := i) a3 b3
    simp [e3]
    refine great_wp hb (by omega) (by omega) fun v4 ob a4 b4 hb => ?_
    simp
    refine draw_wp hb (by omega) (by decide) (by decide) fun v5 ob a5 b5 hb => ?_
    simp
    refine draw_wp hb (by omega) (by decide) (by decide) fun v6 ob a6 b6 hb => ?_
    obtain ⟨m, hm, e6⟩ := pick4 (a := gr) (b := v4) (c := v5) (d := 1) a6 b6
    simp [e6]
    refine draw_wp hb (by omega) (by decide) (by decide) fun v7 ob a7 b7 hb => ?_
    obtain ⟨kk, hk, e7⟩ := abc_at a7 b7
    simp [e7]
    refine draw_wp hb (by omega) (by decide) (by decide) fun v8 ob a8 b8 hb => ?_
    obtain ⟨x, e8⟩ := pick5 st0 st1
    simp [e8]
    by_cases hx : v8 < x
    · simp [hx]
      rw [append_n (by simp; omega)]
      simp
      rw [show r.map cD ++ [.tup [.int t, .int m]] = (r ++ [Cd.B t m]).map cD by simp]
      exact ⟨r ++ [.B t m], _, _, _, _, _, _, rfl, hb.mono (by omega), hr.snoc (by rw [hl]; exact ⟨by omega, by omega, by omega, by omega⟩), by simp [hl]⟩
    · simp [hx]
      rw [append_n (by simp; omega)]
      simp
      rw [show r.map cD ++ [.str (chS kk)] = (r ++ [Cd.L kk]).map cD by simp]
      exact ⟨r ++ [.L kk], _, _, _, _, _, _, rfl, hb.mono (by omega), hr.snoc (c := .L kk) hk, by simp [hl]⟩
  · rintro _ ⟨r, s5, s6, s7, s8, s9, ob, rfl, hb, hr, hl⟩
    simp
    exact k r ob hr (by omega) (by omega) (hb.mono (by omega))
end
theorem deck_spec (ns : List Int) (hl : ns.length ≤ 63) : ∃ cells : List Int, m__law_deck [.rol (ns.map .int)] [] = .ok (.fresh (.lst [.ob 0, .int 0])) [.lst (cells.map .int)] ∧ Cells cells := by
  have hc : cutD (ns.map D.int) none (some 63) = ns.map .int := by
    rw [cutD_take _ (by decide), List.take_of_length_le (by simpa using hl)]
  generalize hab : (fun x : Int => if x < 0 then -x else x) = ab
  have hab' : ∀ x, (if x < 0 then -x else x) = ab x := fun x => congrFun hab x
  refine ⟨ns.map ab, ?_, ⟨fun x m => ?_, by simpa using hl⟩⟩
  · have key := lc_eq (g := gN 1) (t := bYes) (f := e1 absD (eVar 1)) (vs := [1]) (q := D.int) (st := ⟨[.frz (.rol (ns.map .int)), .no], []⟩) (fun x => some (.int (ab x))) ns (by rw [sizeLine_eq]; omega) (fun x _ => by simp [hab'])
    have e : ns.filterMap (fun x => some (D.int (ab x))) = (ns.map ab).map .int := by
      rw [List.map_map, ← List.filterMap_eq_map]; rfl
    rw [e] at key
    unfold m__law_deck g__law_deck
    rw [fnB_eq]
    unfold lc__law_deck_1
    simp [hc]
    rw [List.map_map] at key
    simp [key]
  · obtain ⟨y, _, rfl⟩ := List.mem_map.mp m
    rw [← hab']
    split <;> omega

/-- ways back over the border behind place p that a card gives which is gone on from x times -/
def wy (p : Int) : Cd → Int → Int
  | .B t m, x => if t ≤ p then x * m else 0
  | .L _, _ => 0
def wys (p : Int) : List Cd → List Int → Int
  | c :: cs, x :: xs => wy p c x + wys p cs xs
  | _, _ => 0
/-- the crossings of cards from place p on -/
def crs : Nat → List Cd → List Int
  | _, [] => []
  | p, c :: cs => (1 + wys p cs (crs (p + 1) cs)) :: crs (p + 1) cs
abbrev cross (r : List Cd) : List Int := crs 0 r
/-- how often a card is met -/
def mt : Cd → Int → Int
  | .B _ m, x => x * (m + 1)
  | .L _, x => x
def mts : List Cd → List Int → List Int
  | c :: cs, x :: xs => mt c x :: mts cs xs
  | _, _ => []
abbrev meets (r : List Cd) : List Int := mts r (cross r)
@[simp] theorem crs_len : ∀ (r : List Cd) (p : Nat), (crs p r).length = r.length
  | [], _ => rfl
  | c :: cs, p => by rw [crs, List.length_cons, List.length_cons, crs_len cs]
@[simp] theorem mts_len : ∀ (r : List Cd) (xs : List Int), (mts r xs).length = min r.length xs.length
  | [], _ => by simp [mts]
  | _ :: _, [] => by simp [mts]
  | c :: cs, x :: xs => by simp [mts, mts_len cs xs]
@[simp] theorem wys_nil (p : Int) (cs : List Cd) : wys p cs [] = 0 := by cases cs <;> rfl
theorem wys_app (p : Int) : ∀ (cs cs' : List Cd) (xs xs' : List Int), cs.length = xs.length → wys p (cs ++ cs') (xs ++ xs') = wys p cs xs + wys p cs' xs'
  | [], _, [], _, _ => by simp [wys]
  | [], _, _ :: _, _, h => by simp at h
  | _ :: _, _, [], _, h => by simp at h
  | c :: cs, cs', x :: xs, xs', h => by
    simp only [List.cons_append, wys]
    rw [wys_app p cs cs' xs xs' (by simpa using h)]
    omega
theorem wys_rev (p : Int) : ∀ (cs : List Cd) (xs : List Int), cs.length = xs.length → wys p cs.reverse xs.reverse = wys p cs xs
  | [], [], _ => rfl
  | [], _ :: _, h => by simp at h
  | _ :: _, [], h => by simp at h
  | c :: cs, x :: xs, h => by
    have hl : cs.length = xs.length := by simpa using h
    rw [List.reverse_cons, List.reverse_cons, wys_app p _ _ _ _ (by simpa using hl), wys_rev p cs xs hl]
    simp [wys]
    omega
theorem crs_drop (r : List Cd) (k : Nat) (hk : k < r.length) : crs k (r.drop k) = (1 + wys k (r.drop (k + 1)) (crs (k + 1) (r.drop (k + 1)))) :: crs (k + 1) (r.drop (k + 1)) := by
  rw [List.drop_eq_getElem_cons hk, crs]
def isB : Cd → Bool
  | .L _ => false
  | .B _ _ => true
@[simp] theorem isB_L (k : Nat) : isB (.L k) = false := id rfl
@[simp] theorem isB_B (t m : Int) : isB (.B t m) = true := id rfl
@[simp] theorem is_back_eq (c : Cd) (ob : List D) : m_is_back [cD c] ob = .ok (.val (.bl (isB c))) ob := by
  unfold m_is_back g_is_back
  rw [fnB_eq]
  cases c <;> simp
@[simp] theorem is_back_L (k : Nat) (ob : List D) : m_is_back [.str (chS k)] ob = .ok (.val (.bl false)) ob := is_back_eq (.L k) ob
@[simp] theorem is_back_B (t m : Int) (ob : List D) : m_is_back [.tup [.int t, .int m]] ob = .ok (.val (.bl true)) ob := is_back_eq (.B t m) ob

def w1 (p : Int) : Cd → Int → Option Int
  | .B t m, x => if t ≤ p then some (x * m) else none
  | .L _, _ => none
theorem w1_sum (p : Int) : ∀ (cs : List Cd) (xs : List Int), ((cs.zip xs).filterMap fun q => w1 p q.1 q.2).sum = wys p cs xs
  | [], _ => rfl
  | _ :: _, [] => rfl
  | c :: cs, x :: xs => by
    have ih := w1_sum p cs xs
    rw [List.zip_cons_cons, wys]
    cases c with
    | L k => rw [List.filterMap_cons_none (by rfl), ih]; simp [wy]
    | B t m =>
      by_cases h : t ≤ p
      · rw [List.filterMap_cons_some (b := x * m) (by simp [w1, h]), List.sum_cons, ih]; simp [wy, h]
      · rw [List.filterMap_cons_none (by simp [w1, h]), ih]; simp [wy, h]
theorem ways_eq {T : Int} {r : List Cd} {ob : List D} {n : Nat} {F : List Int} {p : Int} (hr : RwOk T 0 r) (hT : T < 18446744073709551616) (hl : r.length ≤ 1000) (hF : F.length ≤ r.length) (hob : ob[n]? = some (.lst (F.map .int))) :
    m_ways_back [rD r, .ob n, .int p] ob = .ok (.val (.int (wys p (r.reverse.take F.length) F))) ob := by
  have hc : Bv.cutD (r.reverse.map cD) none (some (F.length : Int)) = (r.reverse.take F.length).map cD := by rw [cutD_take _ (by omega), List.map_take]; rfl
  have good : ∀ c ∈ r.reverse.take F.length, ∀ t m, c = Cd.B t m → 0 ≤ m ∧ m < 18446744073709551616 := fun c hm t m e => by
    have hm := List.mem_reverse.mp (List.mem_of_mem_take hm)
    obtain ⟨i, hi⟩ := List.mem_iff_getElem?.mp hm
    have := hr.get hi
    subst e
    exact ⟨this.2.2.1, by have := this.2.2.2; omega⟩
  generalize hrr : r.reverse.take F.length = rr at *
  have key := lcO_eq (m := n) (ds0 := F.map .int) (g := gTu 2 (gsC (gN 4) (gsC (gN 5) gs0))) (t := bAnd (bT (eCall m_is_back 1 [] (lCons (eVar 4) lNil))) (e2 leD (e2 sixD (eVar 4) (eC (.int 0))) (eVar 2))) (f := e2 mulD (eVar 5) (e2 sixD (eVar 4) (eC (.int 1)))) (vs := [4, 5])
    (q := fun (q : Cd × Int) => .tup [cD q.1, .int q.2]) (st := ⟨[.frz (rD r), .frz (.ob n), .frz (.int p), .frz (.tup (rr.map cD)), .no, .no], ob⟩) (fun q => (w1 p q.1 q.2).map .int) (rr.zip F) (by rw [sizeLine_eq]; simp; omega) hob (fun x hx => by
      obtain ⟨c, x⟩ := x
      have hc := good c (List.of_mem_zip hx).1
      cases c with
      | L k => simp [w1]
      | B t m =>
        have := hc t m rfl
        by_cases h : t ≤ p
        · simp [w1, h, mulD_r (x := x) (y := m) (by omega) (by omega)]
        · simp [w1, h])
  rw [← zipD_map] at key
  have e : (rr.zip F).filterMap (fun q => (w1 p q.1 q.2).map D.int) = ((rr.zip F).filterMap fun q => w1 p q.1 q.2).map .int := by
    rw [List.map_filterMap]
  rw [e] at key
  unfold m_ways_back g_ways_back
  rw [fnB_eq]
  simp [hob]
  rw [← List.map_reverse, hc]
  unfold lc_ways_back_1
  simp [hob]
  simp [key, w1_sum]
def I_cross (r : List Cd) (ob : List D) (k : Nat) (s : S) : Prop := ∃ s2, s = ⟨[.frz (rD r), .frz (.ob ob.length), s2], ob ++ [.lst ((crs (r.length - k) (r.drop (r.length - k))).reverse.map .int)]⟩
theorem crossings_eq {T : Int} {r : List Cd} (hr : RwOk T 0 r) (hT : T < 18446744073709551616) (hl : r.length ≤ 1000) (ob : List D) : m_crossings [rD r] ob = .ok (.val (.tup ((cross r).map .int))) ob := by
  refine FR.eq_of ?_
  unfold m_crossings g_crossings
  refine gcF_wp (fnB_wp ?_)
  simp
  rw [rg3_n (by omega) (by omega) (by decide) (by decide), show ((r.length : Int) - 1 - -1).toNat = r.length by omega]
  simp
  refine rng_wp (I_cross r ob) ⟨.no, by simp [crs]⟩ ?_ ?_
  · rintro k _ hk ⟨s2, rfl⟩
    have h1 : r.length - k - 1 < r.length := by omega
    have h2 : r.length - k - 1 + 1 = r.length - k := by omega
    have we := ways_eq (r := r) (n := ob.length) (ob := ob ++ [.lst ((crs (r.length - k) (r.drop (r.length - k))).reverse.map .int)]) (F := (crs (r.length - k) (r.drop (r.length - k))).reverse) (p := (r.length : Int) - 1 + (k : Int) * -1) hr hT hl (by simp) (by simp)
    have hd := crs_drop r (r.length - k - 1) h1
    rw [h2] at hd
    have tk : r.reverse.take (crs (r.length - k) (r.drop (r.length - k))).reverse.length = (r.drop (r.length - k)).reverse := by
      rw [List.take_reverse, List.length_reverse, crs_len, List.length_drop]
      congr 2
      omega
    rw [tk, wys_rev _ _ _ (by simp), show (r.length : Int) - 1 + (k : Int) * -1 = ((r.length - k - 1 : Nat) : Int) by omega] at we
    generalize hC : crs (r.length - k) (r.drop (r.length - k)) = C at *
    simp [b_crossings_1]
    rw [show (r.length : Int) - 1 + -(k : Int) = ((r.length - k - 1 : Nat) : Int) by omega]
    simp at we
    simp [we]
    rw [append_n (by simp; have := congrArg List.length hC; simp at this; omega)]
    simp
    refine ⟨.frz (.int ((r.length - k - 1 : Nat) : Int)), ?_⟩
    rw [show r.length - (k + 1) = r.length - k - 1 by omega, hd]
    simp
  · rintro _ ⟨s2, rfl⟩
    simp
def I_meet (g0 : Sl) (r : List Cd) (xs : List Int) (ob : List D) (k : Nat) (s : S) : Prop := ∃ s2 s3, s = ⟨[g0, .own (.lst ((mts (r.take k) (xs.take k)).map .int)), s2, s3], ob⟩
theorem mts_snoc : ∀ {r : List Cd} {xs : List Int} {k : Nat} {c : Cd} {x : Int}, r[k]? = some c → xs[k]? = some x → mts (r.take (k + 1)) (xs.take (k + 1)) = mts (r.take k) (xs.take k) ++ [mt c x]
  | _ :: _, _ :: _, 0, _, _, h, h' => by simp at h h'; simp [h, h', mts]
  | r :: rs, y :: ys, k + 1, c, x, h, h' => by
    simp at h h'
    simp only [List.take_succ_cons, mts, List.cons_append]
    rw [mts_snoc h h']
  | [], _, _, _, _, h, _ => by simp at h
  | _ :: _, [], _, _, _, _, h => by simp at h
theorem zip_getD {r : List Cd} {xs : List Int} {k : Nat} {d : D} (h : (zipD (r.map cD) (xs.map .int))[k]? = some d) : ∃ c x, r[k]? = some c ∧ xs[k]? = some x ∧ d = .tup [cD c, .int x] := by
  rw [zipD_map, List.getElem?_map] at h
  cases q : (r.zip xs)[k]? with
  | none => rw [q] at h; cases h
  | some p =>
    rw [q] at h
    cases h
    rw [List.getElem?_zip_eq_some] at q
    exact ⟨p.1, p.2, q.1, q.2, rfl⟩
theorem meetings_eq {T : Int} {r : List Cd} (hr : RwOk T 0 r) (hT : T < 1000000000000000000) (hl : r.length ≤ 1000) (ob : List D) : m_meetings [rD r] ob = .ok (.val (.tup ((meets r).map .int))) ob := by
  refine FR.eq_of ?_
  unfold m_meetings g_meetings
  refine fnB_wp ?_
  simp [crossings_eq hr (by omega) hl]
  refine for_wp (I_meet (.frz (rD r)) r (cross r) ob) ⟨.no, .no, by simp [mts]⟩ ?_ ?_
  · rintro k d _ hd ⟨s2, s3, rfl⟩
    obtain ⟨c, x, hc, hx, rfl⟩ := zip_getD hd
    have hk := (List.getElem?_eq_some_iff.mp hc).1
    have hap : ∀ y : Int, appendF (.lst ((mts (r.take k) ((cross r).take k)).map .int)) [.int y] = some (.val .non, .lst ((mts (r.take k) ((cross r).take k)).map .int ++ [.int y])) := fun y => append_n (by simp; omega)
    have hn := mts_snoc hc hx
    generalize mts (r.take k) ((cross r).take k) = M at *
    have hcd := hr.get hc
    cases c with
    | L q =>
      simp [b_meetings_1, hap]
      exact ⟨_, _, by rw [hn]; simp [mt]; exact ⟨rfl, rfl⟩⟩
    | B t m =>
      simp [b_meetings_1, mulD_r (x := x) (y := m + 1) (by have := hcd.2.2.1; omega) (by have := hcd.2.2.2; omega), hap]
      exact ⟨_, _, by rw [hn]; simp [mt]; exact ⟨rfl, rfl⟩⟩
  · rintro _ ⟨s2, s3, rfl⟩
    rw [zipD_map, List.length_map, List.length_zip, crs_len, Nat.min_self, List.take_length, List.take_of_length_le (by simp)]
    simp

theorem RwOk.set {T : Int} : ∀ {p i : Nat} {r : List Cd} {c : Cd}, RwOk T p r → (i < r.length → CdOk T (p + i) c) → RwOk T p (r.set i c)
  | _, _, [], _, _, _ => by simp [RwOk]
  | p, 0, x :: xs, c, h, hc => ⟨by simpa using hc (by simp), h.2⟩
  | p, i + 1, x :: xs, c, h, hc => ⟨h.1, RwOk.set h.2 fun hi => by rw [show p + 1 + i = p + (i + 1) by omega]; exact hc (by simpa using hi)⟩
/-- the number of all steps with m times of card i -/
abbrev steps (r : List Cd) : Int := (meets r).sum
theorem count_steps_eq {T : Int} {r : List Cd} (hr : RwOk T 0 r) (hT : T < 1000000000000000000) (hl : r.length ≤ 1000) (ob : List D) : m_count_steps [rD r] ob = .ok (.val (.int (steps r))) ob := by
  unfold m_count_steps g_count_steps
  rw [fnB_eq]
  simp [meetings_eq hr hT hl]

theorem is_between_int (v lo hi : Int) (ob : List D) : m_is_between [.int v, .int lo, .int hi] ob = .ok (.val (.bl (decide (lo ≤ v) && decide (v ≤ hi)))) ob := by
  unfold m_is_between g_is_between
  rw [fnB_eq]
  by_cases h : lo ≤ v <;> simp [h]
theorem need_back_ok {r : List Cd} {i : Nat} {t m : Int} (h : r[i]? = some (.B t m)) (hl : r.length ≤ 1000) (ob : List D) : m_need_back [rD r, .int (i : Nat)] ob = .ok (.val .non) ob := by
  have hi := (List.getElem?_eq_some_iff.mp h).1
  have ha : atI (r.map cD) (i : Nat) = some (.tup [.int t, .int m]) := by rw [Bv.atI_nat, List.getElem?_map, h]; rfl
  unfold m_need_back g_need_back
  rw [fnB_eq]
  simp [is_between_int, show (i : Int) ≤ (r.length : Int) - 1 by omega, ha]
theorem set_parts {r : List Cd} {i : Nat} {c : Cd} (h : i < r.length) : r.take i ++ c :: r.drop (i + 1) = r.set i c := by
  rw [List.set_eq_take_append_cons_drop, if_pos h]
theorem any_times_eq {r : List Cd} {i : Nat} {t m : Int} (h : r[i]? = some (.B t m)) (hl : r.length ≤ 1000) (q : Int) (ob : List D) : m_with_any_times [rD r, .int (i : Nat), .int q] ob = .ok (.val (rD (r.set i (.B t q)))) ob := by
  have hi := (List.getElem?_eq_some_iff.mp h).1
  have ha : atI (r.map cD) (i : Nat) = some (.tup [.int t, .int m]) := by rw [Bv.atI_nat, List.getElem?_map, h]; rfl
  have c1 : Bv.cutD (r.map cD) none (some (i : Int)) = (r.take i).map cD := by rw [cutD_take _ (by omega), List.map_take]; rfl
  have c2 : Bv.cutD (r.map cD) (some ((i : Int) + 1)) none = (r.drop (i + 1)).map cD := by rw [cutD_drop _ (by omega), List.map_drop]; rfl
  have e : (r.map cD).take i ++ .tup [.int t, .int q] :: (r.map cD).drop (i + 1) = (r.set i (.B t q)).map cD := by
    rw [← set_parts hi, List.map_append, List.map_cons, List.map_take, List.map_drop]; rfl
  unfold m_with_any_times g_with_any_times
  rw [fnB_eq]
  simp [ha, c1, c2]
  rw [e, tup_n (by simp; omega)]
  simp
theorem added_eq {T : Int} {r : List Cd} {i : Nat} {t m : Int} (hr : RwOk T 0 r) (hT0 : 1 ≤ T) (hT : T < 1000000000000000000) (h : r[i]? = some (.B t m)) (hl : r.length ≤ 1000) (ob : List D) :
    m_added_steps [rD r, .int (i : Nat)] ob = .ok (.val (.int (steps (r.set i (.B t 1)) - steps (r.set i (.B t 0))))) ob := by
  have hc := hr.get h
  have r0 : RwOk T 0 (r.set i (.B t 0)) := hr.set fun _ => ⟨hc.1, hc.2.1, by omega, by omega⟩
  have r1 : RwOk T 0 (r.set i (.B t 1)) := hr.set fun _ => ⟨hc.1, hc.2.1, by omega, by omega⟩
  unfold m_added_steps g_added_steps
  rw [fnB_eq]
  simp [need_back_ok h hl, any_times_eq h hl, count_steps_eq r0 hT (by simpa using hl), count_steps_eq r1 hT (by simpa using hl)]
theorem abc_all {k : Nat} (h1 : 97 ≤ k) (h2 : k ≤ 122) : k ∈ (Str.ofString "abcdefghijklmnopqrstuvwxyz").cps.toList := by
  have : k = 97 ∨ k = 98 ∨ k = 99 ∨ k = 100 ∨ k = 101 ∨ k = 102 ∨ k = 103 ∨ k = 104 ∨ k = 105 ∨ k = 106 ∨ k = 107 ∨ k = 108 ∨ k = 109 ∨ k = 110 ∨ k = 111 ∨ k = 112 ∨ k = 113 ∨ k = 114 ∨ k = 115 ∨ k = 116 ∨ k = 117 ∨ k = 118 ∨ k = 119 ∨ k = 120 ∨ k = 121 ∨ k = 122 := by omega
  rw [Str.ofString_eq_toList]
  rcases this with rfl | rfl | rfl | rfl | rfl | rfl | rfl | rfl | rfl | rfl | rfl | rfl | rfl | rfl | rfl | rfl | rfl | rfl | rfl | rfl | rfl | rfl | rfl | rfl | rfl | rfl <;> decide +kernel
theorem inD_ch {k : Nat} {y : Str} : inD (.str (chS k)) (.str y) = some (.val (.bl (decide (k ∈ y.cps.toList)))) := rfl
@[simp] theorem inD_self (k : Nat) : inD (.str (chS k)) (.str (chS k)) = some (.val (.bl true)) := by
  rw [inD_ch]
  have : k ∈ (chS k).cps.toList := by show k ∈ [k]; simp
  rw [decide_eq_true this]
@[simp] theorem lenD_ch (k : Nat) : lenD (.str (chS k)) = some (.val (.int 1)) := by
  unfold lenD
  show (if (chS k).length ≤ sizeLine then some (Rv.val (D.int ((chS k).length : Nat))) else none) = _
  rw [show (chS k).length = 1 from rfl, if_pos (by rw [sizeLine_eq]; decide)]
  rfl
@[simp] theorem truD_ch (k : Nat) : truD (.str (chS k)) = some true := by
  unfold truD
  show (if (chS k).length ≤ sizeLine then some (((chS k).length : Int) != 0) else none) = _
  rw [show (chS k).length = 1 from rfl, if_pos (by rw [sizeLine_eq]; decide)]
  rfl
theorem is_letter_ok {k : Nat} (h1 : 97 ≤ k) (h2 : k ≤ 122) (ob : List D) : m_is_letter [.str (chS k)] ob = .ok (.val (.bl true)) ob := by
  have e : inD (.str (chS k)) (.str "abcdefghijklmnopqrstuvwxyz") = some (.val (.bl true)) := by rw [inD_ch, decide_eq_true (abc_all h1 h2)]
  unfold m_is_letter g_is_letter
  rw [fnB_eq]
  simp [e]
theorem ok_ch {k : Nat} (h1 : 97 ≤ k) (h2 : k ≤ 122) : PyData.strOk (chS k) = true := by
  unfold PyData.strOk
  rw [← Array.all_toList]
  show [k].all _ = true
  simp
  omega
theorem chS_inj {j k : Nat} : chS j = chS k ↔ j = k := by
  constructor
  · intro h
    have := congrArg (fun s : Str => s.cps.toList) h
    have : [j] = [k] := this
    simpa using this
  · rintro rfl; rfl
theorem inD_tup {k : Nat} {ls : List Nat} (hk : 97 ≤ k ∧ k ≤ 122) (hl : ∀ j ∈ ls, 97 ≤ j ∧ j ≤ 122) : inD (.str (chS k)) (.tup (ls.map fun j => .str (chS j))) = some (.val (.bl (decide (k ∈ ls)))) := by
  have a1 : atomD (.str (chS k)) = true := ok_ch hk.1 hk.2
  have a2 : (ls.map fun j => D.str (chS j)).all atomD = true := by
    rw [List.all_map, List.all_eq_true]
    exact fun j m => ok_ch (hl j m).1 (hl j m).2
  show (if atomD (.str (chS k)) = true ∧ (ls.map fun j => D.str (chS j)).all atomD = true then some (Rv.val (D.bl ((ls.map fun j => D.str (chS j)).any fun z => PyData.eqv (py z) (py (.str (chS k)))))) else none) = _
  rw [if_pos ⟨a1, a2⟩]
  congr 3
  induction ls with
  | nil => rfl
  | cons j ls ih =>
    rw [List.map_cons, List.any_cons, ih (fun i m => hl i (List.mem_cons_of_mem _ m)) (by rw [List.all_map, List.all_eq_true]; exact fun i m => ok_ch (hl i (List.mem_cons_of_mem _ m)).1 (hl i (List.mem_cons_of_mem _ m)).2)]
    show ((chS j == chS k) || _) = _
    by_cases h : k = j
    · subst h; simp
    · have h2 : ¬ chS j = chS k := fun e => h (chS_inj.mp e).symm
      simp [h, h2]

/-- how many of the letters ls are printed (all, if there are none) -/
def wn (ls : List Nat) : Cd → Int → Option Int
  | .L k, x => if ls = [] ∨ k ∈ ls then some x else none
  | .B _ _, _ => none
def wants (ls : List Nat) (r : List Cd) (xs : List Int) : List Int := (r.zip xs).filterMap fun q => wn ls q.1 q.2
abbrev letters (ls : List Nat) (r : List Cd) : Int := (wants ls r (meets r)).sum
def I_cl (r : List Cd) (ls : List Nat) (ob : List D) (k : Nat) (s : S) : Prop := ∃ s2, s = ⟨[.frz (rD r), .frz (.tup (ls.map fun j => .str (chS j))), s2, .no, .no, .no], ob⟩
theorem count_letters_eq {T : Int} {r : List Cd} {ls : List Nat} (hr : RwOk T 0 r) (hT : T < 1000000000000000000) (hl : r.length ≤ 900) (hls : ∀ j ∈ ls, 97 ≤ j ∧ j ≤ 122) (hll : ls.length ≤ 90) (ob : List D) :
    m_count_letters (rD r :: ls.map fun j => .str (chS j)) ob = .ok (.val (.int (letters ls r))) ob := by
  refine FR.eq_of ?_
  unfold m_count_letters
  rw [starF_eq (by simp) (by simp; omega)]
  simp only [List.take_succ_cons, List.take_zero, List.drop_succ_cons, List.drop_zero, List.cons_append, List.nil_append]
  refine fnB_wp ?_
  unfold g_count_letters
  simp
  refine for_wp (I_cl r ls ob) ⟨.no, rfl⟩ ?_ ?_
  · rintro k d _ hd ⟨s2, rfl⟩
    rw [List.getElem?_map] at hd
    cases q : ls[k]? with
    | none => rw [q] at hd; cases hd
    | some j =>
      rw [q] at hd
      cases hd
      have hj := hls j (List.mem_of_getElem? q)
      simp [b_count_letters_1, is_letter_ok hj.1 hj.2]
      exact ⟨_, rfl⟩
  · rintro _ ⟨s2, rfl⟩
    have key := lc_eq (g := gTu 2 (gsC (gN 4) (gsC (gN 5) gs0))) (t := bAnd (bNot (bT (eCall m_is_back 1 [] (lCons (eVar 4) lNil)))) (e2 inD (eVar 4) (eOr (eVar 1) (eVar 4)))) (f := eVar 5) (vs := [4, 5]) (q := fun (q : Cd × Int) => .tup [cD q.1, .int q.2])
      (st := ⟨[.frz (rD r), .frz (.tup (ls.map fun j => .str (chS j))), s2, .no, .no, .no], ob⟩) (fun q => (wn ls q.1 q.2).map .int) (r.zip (meets r)) (by rw [sizeLine_eq]; simp; omega) (fun x hx => by
        obtain ⟨c, x⟩ := x
        obtain ⟨i, hi⟩ := List.mem_iff_getElem?.mp (List.of_mem_zip hx).1
        have hc := hr.get hi
        cases c with
        | L k =>
          by_cases hn : ls = []
          · subst hn
            simp [wn]
          · have e := inD_tup (k := k) hc hls
            obtain ⟨a, b, rfl⟩ := List.exists_cons_of_ne_nil hn
            simp at e
            by_cases hm : k = a ∨ k ∈ b
            · rcases hm with rfl | hm
              · simp [wn, e]
              · simp [wn, e, hm]
            · simp [wn, e, hm]
        | B t m => simp [wn])
    rw [← zipD_map] at key
    have e : (r.zip (meets r)).filterMap (fun q => (wn ls q.1 q.2).map D.int) = (wants ls r (meets r)).map .int := by
      unfold wants
      rw [List.map_filterMap]
    rw [e] at key
    simp [meetings_eq hr hT (by omega : r.length ≤ 1000)]
    unfold lc_count_letters_2
    simp [meetings_eq hr hT (by omega : r.length ≤ 1000), key]

theorem isb_ok {d : D} {lo hi : Int} (h : typed d = true) (ob : List D) : m_is_between [d, .int lo, .int hi] ob = .ok (.val (.bl (isW d lo hi))) ob := by
  unfold m_is_between g_is_between
  rw [fnB_eq]
  cases d with
  | int i =>
    simp
    by_cases a : lo ≤ i
    · simp [a]
    · simp [a]
  | _ => first | (cases h; done) | simp

def CdB (u : Nat) : Cd → Prop
  | .L k => 97 ≤ k ∧ k ≤ 122
  | .B t m => t.natAbs ≤ u ∧ m.natAbs < 10 ^ 400
theorem cd_B {T : Int} {p u : Nat} {c : Cd} (h : CdOk T p c) (hp : p ≤ u) (hT : T < (10 ^ 400 : Nat)) : CdB u c := by
  cases c with
  | L k => exact h
  | B t m =>
    obtain ⟨h1, h2, h3, h4⟩ := h
    exact ⟨by omega, abs_dig h3 (by omega)⟩
theorem CdB.up {u u' : Nat} {c : Cd} (h : CdB u c) (hu : u ≤ u') : CdB u' c := by
  cases c with
  | L k => exact h
  | B t m => exact ⟨Nat.le_trans h.1 hu, h.2⟩
theorem needp_yes {r : List Cd} {d : D} {b : Int} (h : isW d 0 (r.length - 1 + b) = true) (hl : r.length ≤ 100000) (ob : List D) : m_need_place [rD r, d, .int b] ob = .ok (.val .non) ob := by
  have ty : typed d = true := by obtain ⟨i, rfl, _⟩ := isW_true h; rfl
  unfold m_need_place g_need_place
  rw [fnB_eq]
  simp [isb_ok ty, h]

def mv (f b : Int) : Cd → Cd
  | .L k => .L k
  | .B t m => if t < f then .B t m else .B (t + b) m
@[simp] theorem mv_L (f b : Int) (k : Nat) : mv f b (.L k) = .L k := id rfl
@[simp] theorem is_back_cD (c : Cd) (ob : List D) : m_is_back [cD c] ob = .ok (.val (.bl (match c with | .B _ _ => true | .L _ => false))) ob := by
  unfold m_is_back g_is_back
  rw [fnB_eq]
  cases c <;> simp

theorem mvc_ok (c : Cd) (f b : Int) (ob : List D) : m_moved_card [cD c, .int f, .int b] ob = .ok (.val (cD (mv f b c))) ob := by
  unfold m_moved_card g_moved_card
  rw [fnB_eq]
  have hb := is_back_cD c ob
  cases c with
  | L k =>
    simp at hb
    simp [hb]
  | B t m =>
    simp at hb
    by_cases h : t < f
    · simp [hb, h, mv]
    · simp [hb, h, mv]

def lets : Str := "abcdefghijklmnopqrstuvwxyz"
def letB (x : Str) : Bool := decide ((x.length : Int) = 1) && (match inD (.str x) (.str lets) with
  | some (.val (.bl b)) => b
  | _ => false)
theorem inS_some (x y : Str) : ∃ b, inD (.str x) (.str y) = some (.val (.bl b)) := by
  simp only [inD]
  split <;> exact ⟨_, rfl⟩

def cerr (p : Int) (d : D) : D := match d with
  | .str x => if letB x then .non else .str "letter"
  | .tup [a, b] => if isW a 0 p then (if isW b 0 1000000000000 then .non else .str "times") else .str "target"
  | _ => .str "card"
/-- what may be asked -/
def Cv (d : D) : Prop := typed d = true ∧ match d with
  | .str x => x.length ≤ 1000
  | .tup ds => ds.length ≤ 1000 ∧ ∀ d ∈ ds, typed d = true
  | .lst ds => ds.length ≤ 1000
  | _ => True
theorem cD_cv {u : Nat} {c : Cd} (h : CdB u c) : Cv (cD c) := by
  cases c with
  | L k => exact ⟨rfl, by show (1 : Nat) ≤ 1000; decide⟩
  | B t m => exact ⟨rfl, by simp, by simp⟩
theorem islet_ok {x : Str} (h : x.length ≤ 1000) (ob : List D) : m_is_letter [.str x] ob = .ok (.val (.bl (letB x))) ob := by
  unfold m_is_letter g_is_letter
  rw [fnB_eq]
  obtain ⟨b, e⟩ := inS_some x lets
  have ln : lenD (.str x) = some (.val (.int (x.length : Nat))) := if_pos (by rw [sizeLine_eq]; omega)
  by_cases l : (x.length : Int) = 1
  · have e' := e
    unfold lets at e
    simp [letB, l, ln, e, e']
  · simp [letB, l, ln]

theorem cerr_ok {p : Int} {d : D} (h : Cv d) (ob : List D) : m_card_error [.int p, d] ob = .ok (.val (cerr p d)) ob := by
  obtain ⟨ty, h⟩ := h
  unfold m_card_error g_card_error
  rw [fnB_eq]
  cases d with
  | str x =>
    have := islet_ok (x := x) h ob
    cases q : letB x <;> simp [this, cerr, q]
  | tup ds =>
    obtain ⟨hl, ht⟩ := h
    match ds, hl, ht with
    | [], _, _ => simp [cerr]
    | [a], _, _ => simp [cerr]
    | [a, b], _, ht =>
      have i1 := isb_ok (lo := 0) (hi := p) (ht a (by simp)) ob
      have i2 := isb_ok (lo := 0) (hi := 1000000000000) (ht b (by simp)) ob
      cases q1 : isW a 0 p with
      | false => simp [i1, q1, cerr]
      | true => cases q2 : isW b 0 1000000000000 <;> simp [i1, i2, q1, q2, cerr]
    | a :: b :: c :: r, hl, _ =>
      simp [cerr, show ¬ ((r.length : Int) + 1 + 1 + 1 = 2) by omega]
  | lst ds => simp [cerr]
  | _ => first | (cases ty; done) | simp [cerr]

def addv (r : List Cd) (p : Nat) (d : D) : List D := (r.map cD).take p ++ d :: ((r.drop p).map (mv (p : Nat) 1)).map cD
theorem lc_with {r : List Cd} {p : Nat} {d : D} (hz : r.length ≤ 100000) (ob : List D) : lc_with_card_1 ⟨[.frz (rD r), .frz (.int (p : Nat)), .frz d, .no], ob⟩ = .ok (.fresh (.lst (((r.drop p).map (mv (p : Nat) 1)).map cD))) ⟨[.frz (rD r), .frz (.int (p : Nat)), .frz d, .no], ob⟩ := by
  have key := lc_eq (g := gN 3) (t := bYes) (f := eCall m_moved_card 3 [] (lCons (eVar 3) (lCons (eVar 1) (lCons (eC (.int 1)) lNil)))) (vs := [3]) (q := cD) (st := ⟨[.frz (rD r), .frz (.int (p : Nat)), .frz d, .no], ob⟩) (fun c => some (cD (mv (p : Nat) 1 c))) (r.drop p) (by rw [sizeLine_eq]; simp; omega) (fun c hc => by simp [mvc_ok])
  unfold lc_with_card_1
  have e : (List.filterMap (fun c => some (cD (mv (p : Nat) 1 c))) (r.drop p)) = ((r.drop p).map (mv (p : Nat) 1)).map cD := by rw [List.map_map]; rw [show (fun c => some (cD (mv (p : Nat) 1 c))) = (some ∘ (cD ∘ mv (p : Nat) 1)) from rfl, List.filterMap_eq_map]
  rw [e] at key
  simp
  rw [cutD_drop _ (by omega)]
  simp only [List.map_drop] at key ⊢
  simp at key
  simp [key]
theorem with_ok {r : List Cd} {p : Nat} {d : D} (hp : p ≤ r.length) (hd : Cv d) (h : isN (cerr p d) = true) (hl : r.length ≠ 24) (hz : r.length ≤ 100000) (ob : List D) : m_with_card [rD r, .int (p : Nat), d] ob = .ok (.val (.tup (addv r p d))) ob := by
  have := needp_yes (b := 1) (r := r) (d := .int (p : Nat)) (by simp; omega) (by omega) ob
  have ce := cerr_ok (p := p) hd ob
  have pl : plain (cerr p d) = true := by unfold cerr; repeat (first | rfl | split)
  have dp := fun st : S => deref_plain (st := st) pl
  unfold m_with_card g_with_card
  rw [fnB_eq]
  simp [this, ce, h, dp, isNotD, show ¬ (r.length : Int) = 24 by omega, lc_with hz]
  rw [cutD_take _ (by omega)]
  simp
  rw [kTup_ok (by rw [sizeLine_eq]; simp; omega)]
  simp [addv]

theorem letB_ch {k : Nat} (h1 : 97 ≤ k) (h2 : k ≤ 122) : letB (chS k) = true := by
  have : k = 97 ∨ k = 98 ∨ k = 99 ∨ k = 100 ∨ k = 101 ∨ k = 102 ∨ k = 103 ∨ k = 104 ∨ k = 105 ∨ k = 106 ∨ k = 107 ∨ k = 108 ∨ k = 109 ∨ k = 110 ∨ k = 111 ∨ k = 112 ∨ k = 113 ∨ k = 114 ∨ k = 115 ∨ k = 116 ∨ k = 117 ∨ k = 118 ∨ k = 119 ∨ k = 120 ∨ k = 121 ∨ k = 122 := by omega
  rcases this with rfl | rfl | rfl | rfl | rfl | rfl | rfl | rfl | rfl | rfl | rfl | rfl | rfl | rfl | rfl | rfl | rfl | rfl | rfl | rfl | rfl | rfl | rfl | rfl | rfl | rfl <;> decide +kernel
theorem cd_cerr {p : Nat} {c : Cd} (h : CdOk 1000000000000 p c) : cerr p (cD c) = .non := by
  cases c with
  | L k => simp only [cD_L, cerr, letB_ch h.1 h.2, if_true]
  | B t m =>
    obtain ⟨a, b, c, d⟩ := h
    have w1 : isW (.int t) 0 p = true := by simp; omega
    have w2 : isW (.int m) 0 1000000000000 = true := by simp; omega
    simp only [cD_B, cerr, w1, w2, if_true]
theorem cd_cv {p : Nat} {c : Cd} (h : CdOk 1000000000000 p c) : Cv (cD c) := cD_cv (u := p) (cd_B h (Nat.le_refl _) (by decide))

def addc (r : List Cd) (p : Nat) (c : Cd) : List Cd := r.take p ++ c :: (r.drop p).map (mv (p : Nat) 1)
theorem addc_ok {r : List Cd} {p : Nat} {c : Cd} (hp : p ≤ r.length) (hc : CdOk 1000000000000 p c) (hl : r.length < 24) (ob : List D) : m_with_card [rD r, .int (p : Nat), cD c] ob = .ok (.val (rD (addc r p c))) ob := by
  have := with_ok hp (cd_cv hc) (by rw [cd_cerr hc]; rfl) (by omega) (by omega) ob
  rw [this]
  simp [addv, addc]
theorem addc_len {r : List Cd} {p : Nat} {c : Cd} (hp : p ≤ r.length) : (addc r p c).length = r.length + 1 := by simp [addc]; omega
theorem mv_up {T : Int} {f : Int} : ∀ {q : Nat} {r : List Cd}, RwOk T q r → RwOk T (q + 1) (r.map (mv f 1))
  | _, [], _ => trivial
  | q, .L k :: cs, h => ⟨h.1, mv_up h.2⟩
  | q, .B t m :: cs, ⟨⟨h1, h2, h3, h4⟩, h⟩ => by
    refine ⟨?_, mv_up h⟩
    simp only [mv]
    split
    · exact ⟨h1, by omega, h3, h4⟩
    · exact ⟨by omega, by omega, h3, h4⟩
theorem addc_rw {T : Int} {r : List Cd} {p : Nat} {c : Cd} (hr : RwOk T 0 r) (hp : p ≤ r.length) (hc : CdOk T p c) : RwOk T 0 (addc r p c) := by
  refine (hr.take p).app ?_
  rw [List.length_take, Nat.min_eq_left hp, Nat.zero_add]
  exact ⟨hc, mv_up (hr.drop p hp)⟩
theorem mv_back (p : Nat) (c : Cd) : mv ((p : Nat) + 1) (-1) (mv (p : Nat) 1 c) = c := by
  cases c with
  | L k => rfl
  | B t m =>
    by_cases h : t < (p : Int)
    · have e : mv (p : Nat) 1 (.B t m) = .B t m := by simp [mv, h]
      rw [e]
      show (if t < (p : Int) + 1 then Cd.B t m else .B (t + -1) m) = _
      rw [if_pos (by omega)]
    · have e : mv (p : Nat) 1 (.B t m) = .B (t + 1) m := by simp [mv, h]
      rw [e]
      show (if t + 1 < (p : Int) + 1 then Cd.B (t + 1) m else .B (t + 1 + -1) m) = _
      rw [if_neg (by omega), show t + 1 + -1 = t by omega]

def remv (r : List Cd) (i : Nat) : List Cd := r.take i ++ (r.drop (i + 1)).map (mv ((i : Nat) + 1) (-1))
theorem lc_wout {r : List Cd} {i : Nat} (hz : r.length ≤ 100000) (ob : List D) : lc_without_card_1 ⟨[.frz (rD r), .frz (.int (i : Nat)), .no], ob⟩ = .ok (.fresh (.lst (((r.drop (i + 1)).map (mv ((i : Nat) + 1) (-1))).map cD))) ⟨[.frz (rD r), .frz (.int (i : Nat)), .no], ob⟩ := by
  have key := lc_eq (g := gN 2) (t := bYes) (f := eCall m_moved_card 3 [] (lCons (eVar 2) (lCons (e2 addD (eVar 1) (eC (.int 1))) (lCons (e1 negD (eC (.int 1))) lNil)))) (vs := [2]) (q := cD) (st := ⟨[.frz (rD r), .frz (.int (i : Nat)), .no], ob⟩) (fun c => some (cD (mv ((i : Nat) + 1) (-1) c))) (r.drop (i + 1)) (by rw [sizeLine_eq]; simp; omega) (fun c hc => by simp [mvc_ok])
  unfold lc_without_card_1
  have e : (List.filterMap (fun c => some (cD (mv ((i : Nat) + 1) (-1) c))) (r.drop (i + 1))) = ((r.drop (i + 1)).map (mv ((i : Nat) + 1) (-1))).map cD := by rw [List.map_map]; rw [show (fun c => some (cD (mv ((i : Nat) + 1) (-1) c))) = (some ∘ (cD ∘ mv ((i : Nat) + 1) (-1))) from rfl, List.filterMap_eq_map]
  rw [e] at key
  simp
  rw [cutD_drop _ (by omega)]
  simp only [List.map_drop] at key ⊢
  simp at key
  simp [key, show ((i : Int) + 1).toNat = i + 1 by omega]
theorem wout_ok {r : List Cd} {i : Nat} (hi : i < r.length) (hl : r.length ≠ 1) (hz : r.length ≤ 100000) (ob : List D) : m_without_card [rD r, .int (i : Nat)] ob = .ok (.val (rD (remv r i))) ob := by
  have := needp_yes (b := 0) (r := r) (d := .int (i : Nat)) (by simp; omega) (by omega) ob
  unfold m_without_card g_without_card
  rw [fnB_eq]
  simp [this, show ¬ (r.length : Int) = 1 by omega, lc_wout hz]
  rw [cutD_take _ (by omega)]
  simp
  rw [kTup_ok (by rw [sizeLine_eq]; simp; omega)]
  simp [remv]

theorem remv_addc {r : List Cd} {p : Nat} {c : Cd} (hp : p ≤ r.length) : remv (addc r p c) p = r := by
  unfold remv addc
  have l : (r.take p).length = p := by simp; omega
  rw [List.take_left' l]
  have : (r.take p ++ c :: (r.drop p).map (mv (p : Nat) 1)).drop (p + 1) = (r.drop p).map (mv (p : Nat) 1) := by
    rw [List.drop_append, l, List.drop_of_length_le (by omega), show p + 1 - p = 1 by omega]; rfl
  rw [this, List.map_map]
  have : (mv ((p : Nat) + 1) (-1) ∘ mv (p : Nat) 1) = id := funext fun c => mv_back p c
  rw [this, List.map_id, List.take_append_drop]

inductive Pc where
  | L (k : Nat)
  | J (i j : Nat)
  | R (i : Nat) (m : Int)
deriving DecidableEq
def okP (n : Nat) : Pc → Prop
  | .L k => 97 ≤ k ∧ k ≤ 122
  | .J i j => i < n ∧ j < n
  | .R i m => i < n ∧ 0 < m ∧ m ≤ 1000000000000
def Wf (ps : List Pc) : Prop := ∀ i p, ps[i]? = some p → okP i p
theorem Wf.take {ps : List Pc} (w : Wf ps) (n : Nat) : Wf (ps.take n) := fun i p h => w i p (by
  rw [List.getElem?_take] at h
  split at h
  · exact h
  · cases h)
theorem Wf.snoc {ps : List Pc} (w : Wf ps) {p : Pc} (h : okP ps.length p) : Wf (ps ++ [p]) := fun i q e => by
  by_cases hi : i < ps.length
  · rw [List.getElem?_append_left hi] at e; exact w i q e
  · rw [List.getElem?_append_right (by omega)] at e
    have : i - ps.length = 0 := by
      have := (List.getElem?_eq_some_iff.mp e).1
      simp at this
      omega
    rw [this] at e
    cases e
    rw [show i = ps.length by omega]; exact h
theorem wy_mv {p q : Nat} (h : p ≤ q) (c : Cd) (x : Int) : wy ((q : Int) + 1) (mv (p : Nat) 1 c) x = wy (q : Nat) c x := by
  cases c with
  | L k => rfl
  | B t m =>
    show wy _ (if t < (p : Int) then Cd.B t m else .B (t + 1) m) x = _
    by_cases l : t < (p : Int)
    · rw [if_pos l]
      simp only [wy]
      rw [if_pos (by omega), if_pos (by omega)]
    · rw [if_neg l]
      simp only [wy]
      by_cases u : t ≤ (q : Int)
      · rw [if_pos (by omega), if_pos u]
      · rw [if_neg (by omega), if_neg u]
theorem wys_mv {p q : Nat} (h : p ≤ q) : ∀ (b : List Cd) (xs : List Int), wys ((q : Int) + 1) (b.map (mv (p : Nat) 1)) xs = wys (q : Nat) b xs
  | [], _ => rfl
  | _ :: _, [] => rfl
  | c :: b, x :: xs => by
    rw [List.map_cons]
    simp only [wys, wy_mv h, wys_mv h b xs]
theorem crs_mv {p : Nat} : ∀ (b : List Cd) (q : Nat), p ≤ q → crs (q + 1) (b.map (mv (p : Nat) 1)) = crs q b
  | [], _, _ => rfl
  | c :: b, q, h => by
    rw [List.map_cons]
    simp only [crs]
    rw [crs_mv b (q + 1) (by omega)]
    have := wys_mv h b (crs (q + 1) b)
    rw [← Int.natCast_succ] at this
    rw [this]
/-- before the card -/
theorem wy_mv0 {p q : Nat} (h : q < p) (c : Cd) (x : Int) : wy (q : Nat) (mv (p : Nat) 1 c) x = wy (q : Nat) c x := by
  cases c with
  | L k => rfl
  | B t m =>
    show wy _ (if t < (p : Int) then Cd.B t m else .B (t + 1) m) x = _
    by_cases l : t < (p : Int)
    · rw [if_pos l]
    · rw [if_neg l]
      simp only [wy]
      rw [if_neg (by omega), if_neg (by omega)]
theorem wys_mv0 {p q : Nat} (h : q < p) : ∀ (b : List Cd) (xs : List Int), wys (q : Nat) (b.map (mv (p : Nat) 1)) xs = wys (q : Nat) b xs
  | [], _ => rfl
  | _ :: _, [] => rfl
  | c :: b, x :: xs => by
    rw [List.map_cons]
    simp only [wys, wy_mv0 h, wys_mv0 h b xs]
theorem wys_none (q t : Int) (x : Int) (b : List Cd) (xs : List Int) : wys q (.B t 0 :: b) (x :: xs) = wys q b xs := by
  simp [wys, wy]
theorem wys_pre (q : Int) {A B B' : List Cd} {X Y : List Int} {c : Cd} {y : Int} (hw : wys q (c :: B') (y :: Y) = wys q B Y) (hl : A.length = X.length) : wys q (A ++ c :: B') (X ++ y :: Y) = wys q (A ++ B) (X ++ Y) := by
  induction A generalizing X with
  | nil =>
    cases X with
    | nil => exact hw
    | cons x X => simp at hl
  | cons a A ih =>
    cases X with
    | nil => simp at hl
    | cons x X =>
      simp only [List.cons_append, wys]
      rw [ih (by simpa using hl)]
/-- what is crossed at the card itself -/
def newX (r : List Cd) (p : Nat) : Int := 1 + wys (p : Nat) ((r.drop p).map (mv (p : Nat) 1)) (crs p (r.drop p))
theorem crs_idle {t : Int} (B : List Cd) (p : Nat) : ∀ (A : List Cd) (q : Nat), q + A.length = p → ∃ X, X.length = A.length ∧ crs q (A ++ B) = X ++ crs p B ∧ crs q (A ++ .B t 0 :: B.map (mv (p : Nat) 1)) = X ++ (1 + wys (p : Nat) (B.map (mv (p : Nat) 1)) (crs p B)) :: crs p B
  | [], q, h => by
    have e : q = p := by simpa using h
    subst e
    refine ⟨[], rfl, rfl, ?_⟩
    rw [List.nil_append, crs, crs_mv B q (Nat.le_refl q)]
    rfl
  | a :: A, q, h => by
    rw [List.length_cons] at h
    obtain ⟨X, l, e1, e2⟩ := crs_idle (t := t) B p A (q + 1) (by omega)
    refine ⟨(1 + wys (q : Nat) (A ++ B) (X ++ crs p B)) :: X, by simp [l], ?_, ?_⟩
    · rw [List.cons_append, crs, e1]; rfl
    · rw [List.cons_append, crs, e2]
      rw [wys_pre (B := B) (q : Nat) (by rw [wys_none, wys_mv0 (p := p) (q := q) (by omega)]) l.symm]
      rfl
theorem cross_idle {r : List Cd} {p : Nat} {t : Int} (hp : p ≤ r.length) : ∃ X Y, X.length = p ∧ cross r = X ++ Y ∧ cross (addc r p (.B t 0)) = X ++ newX r p :: Y := by
  obtain ⟨X, l, e1, e2⟩ := crs_idle (t := t) (r.drop p) p (r.take p) 0 (by rw [List.length_take]; omega)
  rw [List.take_append_drop] at e1
  refine ⟨X, crs p (r.drop p), by rw [l, List.length_take]; omega, e1, ?_⟩
  unfold addc newX
  exact e2
theorem mts_mv (f b : Int) : ∀ (r : List Cd) (xs : List Int), mts (r.map (mv f b)) xs = mts r xs
  | [], _ => rfl
  | _ :: _, [] => rfl
  | c :: r, x :: xs => by
    rw [List.map_cons]
    have ih := mts_mv f b r xs
    cases c with
    | L k => simp only [mv, mts, mt, ih]
    | B t m =>
      show mts ((if t < f then Cd.B t m else .B (t + b) m) :: _) _ = _
      split <;> simp only [mts, mt, ih]
theorem mts_app : ∀ (A B : List Cd) (X Y : List Int), A.length = X.length → mts (A ++ B) (X ++ Y) = mts A X ++ mts B Y
  | [], _, [], _, _ => rfl
  | a :: A, B, x :: X, Y, h => by
    simp only [List.cons_append, mts]
    rw [mts_app A B X Y (by simpa using h)]
  | [], _, _ :: _, _, h => by simp at h
  | _ :: _, _, [], _, h => by simp at h
theorem wys_swap (p : Int) (k : Nat) (B : List Cd) : ∀ (A : List Cd) (xs : List Int), wys p (A ++ .L k :: B) xs = wys p (A ++ .B 0 0 :: B) xs
  | [], [] => rfl
  | [], x :: xs => by
    show wy p (.L k) x + wys p B xs = wy p (.B 0 0) x + wys p B xs
    have : wy p (.B 0 0) x = 0 := by simp [wy]
    rw [this]; rfl
  | _ :: _, [] => rfl
  | c :: A, x :: xs => by
    show wy p c x + wys p (A ++ .L k :: B) xs = wy p c x + wys p (A ++ .B 0 0 :: B) xs
    rw [wys_swap p k B A xs]
theorem crs_swap (k : Nat) (B : List Cd) : ∀ (A : List Cd) (q : Nat), crs q (A ++ .L k :: B) = crs q (A ++ .B 0 0 :: B)
  | [], q => rfl
  | c :: A, q => by
    show (1 + wys q (A ++ .L k :: B) (crs (q + 1) (A ++ .L k :: B))) :: crs (q + 1) (A ++ .L k :: B) = (1 + wys q (A ++ .B 0 0 :: B) (crs (q + 1) (A ++ .B 0 0 :: B))) :: crs (q + 1) (A ++ .B 0 0 :: B)
    rw [crs_swap k B A (q + 1), wys_swap]
theorem wants_app {ls : List Nat} {A B : List Cd} {X Y : List Int} (h : A.length = X.length) : wants ls (A ++ B) (X ++ Y) = wants ls A X ++ wants ls B Y := by
  unfold wants
  rw [List.zip_append h, List.filterMap_append]
theorem wants_mv {ls : List Nat} (f b : Int) : ∀ (r : List Cd) (xs : List Int), wants ls (r.map (mv f b)) xs = wants ls r xs
  | [], _ => rfl
  | _ :: _, [] => rfl
  | c :: r, x :: xs => by
    have ih := wants_mv (ls := ls) f b r xs
    unfold wants at ih ⊢
    rw [List.map_cons, List.zip_cons_cons, List.zip_cons_cons, List.filterMap_cons, List.filterMap_cons, ih]
    have e : wn ls (mv f b c) x = wn ls c x := by
      cases c with
      | L k => rfl
      | B t m =>
        unfold mv
        dsimp only
        split <;> rfl
    rw [e]
/-- the crossings of the place -/
theorem put_let {r : List Cd} {p k : Nat} (hp : p ≤ r.length) : ∃ y, (cross (addc r p (.L k)))[p]? = some y ∧ steps (addc r p (.L k)) = steps r + y ∧ letters [] (addc r p (.L k)) = letters [] r + y := by
  obtain ⟨X, Y, hX, e1, e2⟩ := cross_idle (t := 0) hp
  have e3 : cross (addc r p (.L k)) = X ++ newX r p :: Y := by
    rw [← e2]
    exact crs_swap k _ _ 0
  have lt : (r.take p).length = X.length := by rw [List.length_take, hX]; omega
  have m0 : meets r = mts (r.take p) X ++ mts (r.drop p) Y := by
    show mts r (cross r) = _
    rw [e1, ← mts_app _ _ _ _ lt, List.take_append_drop]
  have m1 : meets (addc r p (.L k)) = mts (r.take p) X ++ newX r p :: mts (r.drop p) Y := by
    show mts (addc r p (.L k)) (cross (addc r p (.L k))) = _
    rw [e3]
    show mts (r.take p ++ .L k :: (r.drop p).map (mv (p : Nat) 1)) (X ++ newX r p :: Y) = _
    rw [mts_app _ _ _ _ lt]
    show _ ++ mt (.L k) (newX r p) :: mts ((r.drop p).map (mv (p : Nat) 1)) Y = _
    rw [mts_mv]
    rfl
  refine ⟨newX r p, ?_, ?_, ?_⟩
  · rw [e3, List.getElem?_append_right (by omega), hX, Nat.sub_self]
    rfl
  · show (meets (addc r p (.L k))).sum = (meets r).sum + _
    rw [m0, m1, List.sum_append, List.sum_append, List.sum_cons]
    omega
  · show (wants [] (addc r p (.L k)) (meets (addc r p (.L k)))).sum = (wants [] r (meets r)).sum + _
    have lm : (r.take p).length = (mts (r.take p) X).length := by rw [mts_len, ← lt, Nat.min_self]
    have w0 : wants [] r (meets r) = wants [] (r.take p) (mts (r.take p) X) ++ wants [] (r.drop p) (mts (r.drop p) Y) := by
      rw [m0, ← wants_app lm, List.take_append_drop]
    have w1 : wants [] (addc r p (.L k)) (meets (addc r p (.L k))) = wants [] (r.take p) (mts (r.take p) X) ++ newX r p :: wants [] (r.drop p) (mts (r.drop p) Y) := by
      rw [m1]
      show wants [] (r.take p ++ .L k :: (r.drop p).map (mv (p : Nat) 1)) _ = _
      rw [wants_app lm]
      congr 1
      have := wants_mv (ls := []) (p : Nat) 1 (r.drop p) (mts (r.drop p) Y)
      rw [← this]
      unfold wants
      rw [List.zip_cons_cons, List.filterMap_cons]
      simp [wn]
    rw [w0, w1, List.sum_append, List.sum_append, List.sum_cons]
    omega

theorem ok_chS {k : Nat} (h : k ≤ 122) : PyData.strOk (chS k) = true := by
  unfold PyData.strOk chS
  simp
  omega
theorem flat_cards {T : Int} {n : Nat} : ∀ {r : List Cd} {p : Nat}, RwOk T p r → flatL (n + 1) (r.map cD) = true
  | [], _, _ => rfl
  | .L k :: r, p, h => by
    have ih := flat_cards (n := n) h.2
    have := ok_chS h.1.2
    simp only [List.map_cons, flatL, cD, flatD, this, ih, Bool.and_self]
  | .B t m :: r, p, h => by
    have ih := flat_cards (n := n) h.2
    simp only [List.map_cons, flatL, cD, flatD, ih, Bool.and_self]
theorem okEq_row {T : Int} {r : List Cd} (hr : RwOk T 0 r) : okEq (rD r) = true := by
  have := flat_cards (n := 58) hr
  show flatD (59 + 1) (.tup (r.map cD)) = true
  simp only [flatD, this]

theorem cross_put {r : List Cd} {p : Nat} {t : Int} (hp : p ≤ r.length) : cross (addc r p (.B t 0)) = (cross r).take p ++ newX r p :: (cross r).drop p := by
  obtain ⟨X, Y, l, e1, e2⟩ := cross_idle (t := t) hp
  rw [e2, e1, ← l, List.take_left' rfl, List.drop_left' rfl]
theorem cross_let {r : List Cd} {p k : Nat} (hp : p ≤ r.length) : cross (addc r p (.L k)) = (cross r).take p ++ newX r p :: (cross r).drop p := by
  rw [← cross_put (t := 0) hp]
  exact crs_swap k _ _ 0
theorem meets_put {r : List Cd} {p k : Nat} {t : Int} (hp : p ≤ r.length) : meets (addc r p (.B t 0)) = meets (addc r p (.L k)) := by
  have lt : (r.take p).length = ((cross r).take p).length := by simp
  show mts (addc r p (.B t 0)) (cross (addc r p (.B t 0))) = mts (addc r p (.L k)) (cross (addc r p (.L k)))
  rw [cross_put hp, cross_let hp]
  show mts (r.take p ++ .B t 0 :: (r.drop p).map (mv (p : Nat) 1)) _ = mts (r.take p ++ .L k :: (r.drop p).map (mv (p : Nat) 1)) _
  rw [mts_app _ _ _ _ lt, mts_app _ _ _ _ lt]
  simp [mts, mt]
theorem wys_up0 {T : Int} : ∀ {q : Nat} {b : List Cd} {xs : List Int}, RwOk T q b → wys 0 (b.map (mv 0 1)) xs = 0
  | _, [], _, _ => rfl
  | _, _ :: _, [], _ => rfl
  | q, c :: b, x :: xs, h => by
    have ih := wys_up0 (xs := xs) h.2
    rw [List.map_cons]
    simp only [wys, ih]
    cases c with
    | L k => rfl
    | B t m =>
      have h0 : 0 ≤ t := h.1.1
      show wy 0 (if t < 0 then Cd.B t m else .B (t + 1) m) x + 0 = 0
      rw [if_neg (by omega)]
      simp only [wy]
      rw [if_neg (by omega)]
      rfl
theorem newX_zero {T : Int} {r : List Cd} (hr : RwOk T 0 r) : newX r 0 = 1 := by
  have := wys_up0 (xs := crs 0 r) hr
  show 1 + wys 0 (r.map (mv 0 1)) (crs 0 r) = 1
  rw [this]; rfl
theorem wys_mv2 {q : Nat} : ∀ (b : List Cd) (xs : List Int), wys ((q : Int) + 1) (b.map (mv ((q : Int) + 1) 1)) xs = wys (q : Nat) b xs
  | [], _ => rfl
  | _ :: _, [] => rfl
  | c :: b, x :: xs => by
    rw [List.map_cons]
    simp only [wys, wys_mv2 b xs]
    congr 1
    cases c with
    | L k => rfl
    | B t m =>
      show wy _ (if t < (q : Int) + 1 then Cd.B t m else .B (t + 1) m) x = _
      by_cases l : t < (q : Int) + 1
      · rw [if_pos l]
        simp only [wy]
        rw [if_pos (by omega), if_pos (by omega)]
      · rw [if_neg l]
        simp only [wy]
        rw [if_neg (by omega), if_neg (by omega)]
theorem cross_at {r : List Cd} {q : Nat} (hq : q < r.length) : (cross r)[q]? = some (1 + wys (q : Nat) (r.drop (q + 1)) (crs (q + 1) (r.drop (q + 1)))) := by
  obtain ⟨X, l, e1, _⟩ := crs_idle (t := 0) (r.drop q) q (r.take q) 0 (by rw [List.length_take]; omega)
  rw [List.take_append_drop] at e1
  have lx : X.length = q := by rw [l, List.length_take]; omega
  show (crs 0 r)[q]? = _
  rw [e1, crs_drop r q hq, List.getElem?_append_right (by omega), lx, Nat.sub_self]
  rfl
theorem newX_at {r : List Cd} {q : Nat} (hq : q < r.length) : (cross r)[q]? = some (newX r (q + 1)) := by
  rw [cross_at hq]
  unfold newX
  have := wys_mv2 (q := q) (r.drop (q + 1)) (crs (q + 1) (r.drop (q + 1)))
  rw [← Int.natCast_succ] at this
  rw [this]
theorem crs_own {i : Nat} {B : List Cd} : ∀ (A : List Cd) (q : Nat), q + A.length = i → ∃ X, X.length = A.length ∧ ∀ m : Int, crs q (A ++ .B (i : Nat) m :: B) = X ++ (1 + wys (i : Nat) B (crs (i + 1) B)) :: crs (i + 1) B
  | [], q, h => by
    have e : q = i := by simpa using h
    subst e
    exact ⟨[], rfl, fun m => rfl⟩
  | a :: A, q, h => by
    rw [List.length_cons] at h
    obtain ⟨X, l, e⟩ := crs_own (i := i) (B := B) A (q + 1) (by omega)
    refine ⟨(1 + (wys (q : Nat) A X + wys (q : Nat) B (crs (i + 1) B))) :: X, by simp [l], fun m => ?_⟩
    rw [List.cons_append, crs, e m, wys_app _ _ _ _ _ l.symm]
    have : wys (q : Nat) (.B (i : Nat) m :: B) ((1 + wys (i : Nat) B (crs (i + 1) B)) :: crs (i + 1) B) = wys (q : Nat) B (crs (i + 1) B) := by
      simp only [wys, wy]
      rw [if_neg (by omega), Int.zero_add]
    rw [this]
    rfl
theorem own_steps {r : List Cd} {i : Nat} {n : Int} (h : r[i]? = some (.B (i : Nat) n)) : (cross r)[i]? = some (steps (r.set i (.B (i : Nat) 1)) - steps (r.set i (.B (i : Nat) 0))) := by
  have hi := (List.getElem?_eq_some_iff.mp h).1
  have sp : ∀ m : Int, r.set i (.B (i : Nat) m) = r.take i ++ .B (i : Nat) m :: r.drop (i + 1) := fun m => (set_parts hi).symm
  have e0 : r = r.take i ++ .B (i : Nat) n :: r.drop (i + 1) := by
    rw [← sp n]
    exact (List.ext_getElem? fun j => by
      rw [List.getElem?_set]
      by_cases q : i = j
      · subst q; rw [if_pos rfl, if_pos hi, h]
      · rw [if_neg q]).symm
  have la : (r.take i).length = i := by rw [List.length_take]; omega
  obtain ⟨X, l, e⟩ := crs_own (i := i) (B := r.drop (i + 1)) (r.take i) 0 (by omega)
  have st : ∀ m : Int, steps (r.set i (.B (i : Nat) m)) = (mts (r.take i) X).sum + ((1 + wys (i : Nat) (r.drop (i + 1)) (crs (i + 1) (r.drop (i + 1)))) * (m + 1) + (mts (r.drop (i + 1)) (crs (i + 1) (r.drop (i + 1)))).sum) := fun m => by
    show (mts (r.set i (.B (i : Nat) m)) (crs 0 (r.set i (.B (i : Nat) m)))).sum = _
    rw [sp m, e m, mts_app _ _ _ _ l.symm, List.sum_append]
    rfl
  have c0 : (cross r)[i]? = some (1 + wys (i : Nat) (r.drop (i + 1)) (crs (i + 1) (r.drop (i + 1)))) := cross_at hi
  rw [c0, st 1, st 0]
  congr 1
  generalize 1 + wys (i : Nat) (r.drop (i + 1)) (crs (i + 1) (r.drop (i + 1))) = z
  rw [Int.mul_add]
  omega
theorem put_right_eq {r : List Cd} {p k : Nat} (hr : RwOk 1000000000000 0 r) (h1 : 1 ≤ r.length) (h2 : r.length ≤ 23) (hp : p ≤ r.length) (k1 : 97 ≤ k) (k2 : k ≤ 122) (ob : List D) : m__law_put_right [rD r, .int (p : Nat), .str (chS k)] ob = .ok (.val (.bl true)) ob := by
  have o1 : CdOk 1000000000000 p (.L k) := ⟨k1, k2⟩
  have o2 : CdOk 1000000000000 p (.B ((p : Int) / 2) 0) := ⟨by omega, by omega, by omega, by omega⟩
  have r1 := addc_rw hr hp o1
  have r2 := addc_rw hr hp o2
  have l1 := addc_len (c := .L k) hp
  have l2 := addc_len (c := .B ((p : Int) / 2) 0) hp
  have w1 := addc_ok hp o1 (by omega) ob
  have w2 := addc_ok hp o2 (by omega) ob
  have c0 := crossings_eq hr (by omega) (by omega : r.length ≤ 1000) ob
  have c1 := crossings_eq r1 (by omega) (by omega) ob
  have c2 := crossings_eq r2 (by omega) (by omega) ob
  have m1 := meetings_eq r1 (by omega) (by omega) ob
  have m2 := meetings_eq r2 (by omega) (by omega) ob
  have s0 := count_steps_eq hr (by omega) (by omega) ob
  have s1 := count_steps_eq r1 (by omega) (by omega) ob
  have t0 := count_letters_eq (ls := []) hr (by omega) (by omega) (by simp) (by simp) ob
  have t1 := count_letters_eq (ls := []) r1 (by omega) (by omega) (by simp) (by simp) ob
  have wo := wout_ok (r := addc r p (.L k)) (i := p) (by omega) (by omega) (by omega) ob
  rw [remv_addc hp] at wo
  have nr := neD_self (okEq_row hr)
  obtain ⟨y, y1, y2, y3⟩ := put_let (k := k) hp
  have hy : y = newX r p := by
    rw [cross_let hp, List.getElem?_append_right (by simp; omega)] at y1
    have : p - ((cross r).take p).length = 0 := by simp; omega
    rw [this] at y1
    exact (Option.some.inj y1).symm
  have em : (meets (addc r p (.B ((p : Int) / 2) 0))).map D.int = (meets (addc r p (.L k))).map D.int := by rw [meets_put (k := k) hp]
  have ec : (cross (addc r p (.B ((p : Int) / 2) 0))).map D.int = (cross (addc r p (.L k))).map D.int := by rw [cross_put hp, cross_let hp]
  rw [em] at m2
  rw [ec] at c2
  have q1 := eqD_self (d := .tup ((meets (addc r p (.L k))).map D.int)) (flat_ints _)
  have q2 := eqD_self (d := .tup ((cross (addc r p (.L k))).map D.int)) (flat_ints _)
  have q3 := neD_self (d := .tup ((cross (addc r p (.L k))).map D.int)) (flat_ints _)
  have cu1 : Bv.cutD ((cross r).map .int) none (some (p : Int)) = ((cross r).take p).map .int := by rw [cutD_take _ (by omega), List.map_take]; rfl
  have cu2 : Bv.cutD ((cross r).map .int) (some (p : Int)) none = ((cross r).drop p).map .int := by rw [cutD_drop _ (by omega), List.map_drop]; rfl
  have lc : (cross r).length = r.length := by simp
  have ad1 : addD (.tup (((cross r).take p).map D.int)) (.tup [.int y]) = some (.val (.tup (((cross r).take p).map D.int ++ [.int y]))) := addT_n (by simp; omega) (by simp)
  have ad2 : addD (.tup (((cross r).take p).map D.int ++ [.int y])) (.tup (((cross r).drop p).map D.int)) = some (.val (.tup ((cross (addc r p (.L k))).map D.int))) := by
    rw [addT_n (by simp; omega) (by simp; omega), cross_let hp, hy]
    simp
  have bd : (p = 0 ∧ y = 1) ∨ (0 < p ∧ atI ((cross r).map D.int) ((p : Int) - 1) = some (.int y)) := by
    cases p with
    | zero => exact .inl ⟨rfl, by rw [hy, newX_zero hr]⟩
    | succ q =>
      refine .inr ⟨by omega, ?_⟩
      have : (((q + 1 : Nat) : Int) - 1) = (q : Nat) := by omega
      rw [this, Bv.atI_nat, List.getElem?_map, newX_at (by omega), hy]
      rfl
  rw [y2] at s1
  rw [y3] at t1
  generalize steps r = sr at *
  generalize letters [] r = lr at *
  generalize hc0 : (cross r).map D.int = C0 at *
  generalize hc1 : (cross (addc r p (.L k))).map D.int = C1 at *
  generalize hm1 : (meets (addc r p (.L k))).map D.int = M1 at *
  generalize ((cross r).take p).map D.int = U at *
  generalize ((cross r).drop p).map D.int = V at *
  simp at w1 w2 t0 t1
  unfold m__law_put_right g__law_put_right
  rw [fnB_eq]
  rcases bd with ⟨rfl, rfl⟩ | ⟨hp0, hat⟩
  · have fd := fdivD_n (x := 0) (y := 2) (by decide) (by decide)
    simp at *
    simp [fd, w1, w2, c0, c1, c2, m1, m2, s0, s1, t0, t1, wo, nr, q1, q2, q3, cu1, cu2, ad1, ad2]
  · have fd := fdivD_n (x := (p : Int)) (y := 2) (by decide) (by decide)
    simp [fd, w1, w2, c0, c1, c2, m1, m2, s0, s1, t0, t1, wo, nr, q1, q2, q3, cu1, cu2, ad1, ad2, hp0, hat]
def I_sp (J : List D) (n : Int) (s0 s2 s5 : Sl) (r : List Cd) (i : Nat) (s : S) : Prop := ∃ s3 s4 ob, s = ⟨[s0, .frz (.ob 1), s2, s3, s4, s5], ob⟩ ∧ (s3 = .own (rD r) ∨ s3 = .frz (rD r)) ∧ Bg J (n + i) ob
theorem step_sp {J : List D} {n : Int} {s0 s2 s5 : Sl} {r : List Cd} (hr : RwOk 1000000000000 0 r) (h1 : 1 ≤ r.length) (h2 : r.length ≤ 23) (hn : n ≤ 700000) {k : Nat} (hk : k ≤ r.length) {s : S} (hI : I_sp J n s0 s2 s5 r k s) {E : Post} : (turn (gN 4) b_law_1 (.int (0 + (k : Nat) * 1)) s).wp ⟨I_sp J n s0 s2 s5 r (k + 1), I_sp J n s0 s2 s5 r (k + 1), E.n, E.r, E.x⟩ := by
  obtain ⟨s3, s4, ob, rfl, h3, hb⟩ := hI
  have ea : Str.ofString "a" = chS 97 := by decide +kernel
  have eb : Str.ofString "b" = chS 98 := by decide +kernel
  have ey : Str.ofString "y" = chS 121 := by decide +kernel
  have pr : ∀ x ∈ [D.str "a", .str "b", .str "y"], ∀ ob, m__law_put_right [rD r, .int (k : Nat), x] ob = .ok (.val (.bl true)) ob := fun x hx ob => by
    simp only [List.mem_cons, List.not_mem_nil, or_false] at hx
    rcases hx with rfl | rfl | rfl
    · rw [ea]; exact put_right_eq hr h1 h2 hk (by decide) (by decide) ob
    · rw [eb]; exact put_right_eq hr h1 h2 hk (by decide) (by decide) ob
    · rw [ey]; exact put_right_eq hr h1 h2 hk (by decide) (by decide) ob
  unfold b_law_1
  rcases h3 with rfl | rfl
  · simp
    refine pick_wp hb (by omega) (by simp) (by simp) fun x ob hx hb => ?_
    simp [pr x hx ob]
    exact ⟨_, _, _, rfl, by simp, hb.mono (by omega)⟩
  · simp
    refine pick_wp hb (by omega) (by simp) (by simp) fun x ob hx hb => ?_
    simp [pr x hx ob]
    exact ⟨_, _, _, rfl, by simp, hb.mono (by omega)⟩
def I_k23 (J : List D) (s0 : Sl) (i : Nat) (s : S) : Prop := ∃ s2 s3 s4 s5 ob, s = ⟨[s0, .frz (.ob 1), s2, s3, s4, s5], ob⟩ ∧ Bg J (2000 * i) ob
theorem step_k23 {J : List D} {s0 : Sl} {k : Nat} (hk : k < 8) {s : S} (hI : I_k23 J s0 k s) {E : Post} : (turn (gN 2) b_law_2 (.int (0 + (k : Nat) * 1)) s).wp ⟨I_k23 J s0 (k + 1), I_k23 J s0 (k + 1), E.n, E.r, E.x⟩ := by
  obtain ⟨s2, s3, s4, s5, ob, rfl, hb⟩ := hI
  unfold b_law_2
  simp
  refine made_wp hb (by omega) (by omega) (by omega) (by omega) (by omega) fun r ob gd l1 l2 hb => ?_
  have hr : RwOk 1000000000000 0 r := gd.ok (Int.le_refl _) (by omega)
  have hl : r.length ≤ 23 := by omega
  simp
  rw [rg1_n (by omega) (by omega)]
  have em : ((r.length : Int) + 1).toNat = r.length + 1 := by omega
  rw [em]
  simp
  refine rng_wp (I_sp J (2000 * (k : Int) + 1000) _ _ _ r) ⟨_, _, ob, rfl, by simp, by simpa using hb⟩ (fun j s hj hI => step_sp hr l1 hl (by omega) (by omega) hI) ?_
  rintro _ ⟨s3, s4, ob, rfl, h3, hb⟩
  have fin : ∀ (p : Nat) (n : Int) (ob : List D), p ≤ r.length → 0 ≤ n → n ≤ 1000000000000 → ∃ x : Int, m_with_card [rD r, .int (p : Nat), .tup [.int (p : Nat), .int n]] ob = .ok (.val (rD (addc r p (.B (p : Nat) n)))) ob ∧ m_added_steps [rD (addc r p (.B (p : Nat) n)), .int (p : Nat)] ob = .ok (.val (.int x)) ob ∧ m_crossings [rD (addc r p (.B (p : Nat) n))] ob = .ok (.val (.tup ((cross (addc r p (.B (p : Nat) n))).map .int))) ob ∧ atI ((cross (addc r p (.B (p : Nat) n))).map D.int) (p : Nat) = some (.int x) := fun p n ob hp n0 n1 => by
    have o1 : CdOk 1000000000000 p (.B (p : Nat) n) := ⟨by omega, by omega, n0, n1⟩
    have r1 := addc_rw hr hp o1
    have l1 := addc_len (c := .B (p : Nat) n) hp
    have g1 : (addc r p (.B (p : Nat) n))[p]? = some (.B (p : Nat) n) := by
      unfold addc
      rw [List.getElem?_append_right (by simp; omega)]
      have : p - (r.take p).length = 0 := by simp; omega
      rw [this]; rfl
    refine ⟨_, addc_ok hp o1 (by omega) ob, added_eq r1 (by omega) (by omega) g1 (by omega) ob, crossings_eq r1 (by omega) (by omega) ob, ?_⟩
    rw [Bv.atI_nat, List.getElem?_map, own_steps g1]
    rfl
  rcases h3 with rfl | rfl
  · simp
    refine draw_wp hb (by omega) (by omega) (by omega) fun v ob v0 v1 hb => ?_
    simp
    refine great_wp hb (by omega) (by omega) fun n ob n0 n1 hb => ?_
    obtain ⟨p, rfl⟩ : ∃ p : Nat, v = p := ⟨v.toNat, by omega⟩
    obtain ⟨x, f1, f2, f3, f4⟩ := fin p n ob (by omega) n0 (by omega)
    simp [f1, f2, f3, f4]
    exact ⟨_, _, _, _, _, rfl, hb.mono (by omega)⟩
  · simp
    refine draw_wp hb (by omega) (by omega) (by omega) fun v ob v0 v1 hb => ?_
    simp
    refine great_wp hb (by omega) (by omega) fun n ob n0 n1 hb => ?_
    obtain ⟨p, rfl⟩ : ∃ p : Nat, v = p := ⟨v.toNat, by omega⟩
    obtain ⟨x, f1, f2, f3, f4⟩ := fin p n ob (by omega) n0 (by omega)
    simp [f1, f2, f3, f4]
    exact ⟨_, _, _, _, _, rfl, hb.mono (by omega)⟩
theorem keeps : Keeps m_law := by
  intro ns hn hbits
  obtain ⟨cells, e, hC⟩ := deck_spec ns hn
  suffices h : (m_law [.rol (ns.map .int)] []).wp (fun r _ => r = .val (.bl true)) noX by
    obtain ⟨r, ob, e, rfl⟩ := FR.of_wp h
    exact ⟨ob, e⟩
  unfold m_law g_law
  refine fnB_wp ?_
  simp [e, rg1_n]
  refine rng_wp (I_k23 [] (.frz (.rol (ns.map .int)))) ⟨_, _, _, _, _, rfl, ⟨cells, 0, rfl, hC, by decide, by decide⟩⟩ (fun k s hk hI => step_k23 hk hI) ?_
  rintro _ ⟨s2, s3, s4, s5, ob, rfl, hb⟩
  simp

/-- what the top has written of built-in names -/
structure BT (K : PySem.W.Frag) (mg : Str → Option Value) (T : Tx) : Prop where
  b_abs : mg "abs" = none
  b_bool : mg "bool" = none
  b_enumerate : mg "enumerate" = none
  b_int : mg "int" = none
  b_isinstance : mg "isinstance" = none
  b_len : mg "len" = none
  b_list : mg "list" = none
  b_range : mg "range" = none
  b_str : mg "str" = none
  b_sum : mg "sum" = none
  b_tuple : mg "tuple" = none
  b_zip : mg "zip" = none
  c_LETTERS : ∃ t, mg "LETTERS" = some (.str "abcdefghijklmnopqrstuvwxyz" t)
  c_MAX_CARDS : ∃ t, mg "MAX_CARDS" = some (.int 24 t)
  c_MAX_TIMES : ∃ t, mg "MAX_TIMES" = some (.int 1000000000000 t)
section
variable {P : Program} {w : World} {K : PySem.W.Frag} {mg : Str → Option Value} {base : Heap} {T : Tx}
abbrev N_is_between : List Str := ["value", "low", "high"]
theorem sc_is_between : FnScope N_is_between ["value", "low", "high"] (defScope s_is_between) := ⟨rfl, rfl, rfl, by decide +kernel, rfl, by decide +kernel, by decide +kernel⟩
theorem ok_is_between {f : Addr} {fd : FuncData} (B : BT K mg T)  (F : L2.Fun K "is_between" "is_between" s_is_between f fd) : FnG P w K mg base 1 f fd ["value", "low", "high"] (spB T K 3 m_is_between) :=
  fn_mk (g := g_is_between) (N := N_is_between) F sc_is_between rfl rfl rfl fun cdv A outer s H E hr hu =>
    (db_one (ds_ret (de_and (de_isi (U := "int") (by decide) (by rfl) B.b_isinstance (by rfl) B.b_int boot_int (de_var 0 rfl)) (de_and (de_not (de_isi (U := "bool") (by decide) (by rfl) B.b_isinstance (by rfl) B.b_bool boot_bool (de_var 0 rfl))) (de_one (de_chain op_leU op_leU s_le s_le (de_var 1 rfl) (de_var 0 rfl) (de_var 2 rfl)))))))
abbrev N_is_letter : List Str := ["value"]
theorem sc_is_letter : FnScope N_is_letter ["value"] (defScope s_is_letter) := ⟨rfl, rfl, rfl, by decide +kernel, rfl, by decide +kernel, by decide +kernel⟩
theorem ok_is_letter {f : Addr} {fd : FuncData} (B : BT K mg T)  (F : L2.Fun K "is_letter" "is_letter" s_is_letter f fd) : FnG P w K mg base 1 f fd ["value"] (spB T K 1 m_is_letter) :=
  fn_mk (g := g_is_letter) (N := N_is_letter) F sc_is_letter rfl rfl rfl fun cdv A outer s H E hr hu =>
    (db_one (ds_ret (de_and (de_isi (U := "str") (by decide) (by rfl) B.b_isinstance (by rfl) B.b_str boot_str (de_var 0 rfl)) (de_and (de_cmp (op_eqD hr.units) s_eq (de_len (by rfl) B.b_len (de_var 0 rfl)) de_int (nomark _)) (de_one (de_cmp (op_inU (hu65 hr)) s_in (de_var 0 rfl) (de_globS (by rfl) B.c_LETTERS.choose_spec) (by with_unfolding_all rfl)))))))
abbrev N_is_back : List Str := ["card"]
theorem sc_is_back : FnScope N_is_back ["card"] (defScope s_is_back) := ⟨rfl, rfl, rfl, by decide +kernel, rfl, by decide +kernel, by decide +kernel⟩
theorem ok_is_back {f : Addr} {fd : FuncData} (B : BT K mg T)  (F : L2.Fun K "is_back" "is_back" s_is_back f fd) : FnG P w K mg base 1 f fd ["card"] (spB T K 1 m_is_back) :=
  fn_mk (g := g_is_back) (N := N_is_back) F sc_is_back rfl rfl rfl fun cdv A outer s H E hr hu =>
    (db_one (ds_ret (de_isi (U := "tuple") (by decide) (by rfl) B.b_isinstance (by rfl) B.b_tuple boot_tuple (de_var 0 rfl))))
abbrev N_with_any_times : List Str := ["row", "place", "times"]
theorem sc_with_any_times : FnScope N_with_any_times ["row", "place", "times"] (defScope s_with_any_times) := ⟨rfl, rfl, rfl, by decide +kernel, rfl, by decide +kernel, by decide +kernel⟩
theorem ok_with_any_times {f : Addr} {fd : FuncData} (B : BT K mg T)  (F : L2.Fun K "with_any_times" "with_any_times" s_with_any_times f fd) : FnG P w K mg base 1 f fd ["row", "place", "times"] (spB T K 3 m_with_any_times) :=
  fn_mk (g := g_with_any_times) (N := N_with_any_times) F sc_with_any_times rfl rfl rfl fun cdv A outer s H E hr hu =>
    (db_one (ds_ret (de_tup (dl_star (de_sl (de_var 0 rfl) dp_none (dp_some (de_var 1 rfl))) (dl_cons (de_tup (dl_cons (de_sub2 (de_sub2 (de_var 0 rfl) (de_var 1 rfl)) de_int) (dl_cons (de_var 2 rfl) dl_nil))) (dl_star (de_sl (de_var 0 rfl) (dp_some (de_add (de_var 1 rfl) de_int)) dp_none) dl_nil))))))
abbrev N__law_deck : List Str := ["_law_script", "_law_cell"]
theorem sc__law_deck : FnScope N__law_deck ["_law_script"] (defScope s__law_deck) := ⟨rfl, rfl, rfl, by decide +kernel, rfl, by decide +kernel, by decide +kernel⟩
theorem ok__law_deck {f : Addr} {fd : FuncData} (B : BT K mg T)  (F : L2.Fun K "_law_deck" "_law_deck" s__law_deck f fd) : FnG P w K mg base 1 f fd ["_law_script"] (spB T K 1 m__law_deck) :=
  fn_mk (g := g__law_deck) (N := N__law_deck) F sc__law_deck rfl rfl rfl fun cdv A outer s H E hr hu =>
    (db_one (ds_ret (de_lst (dl_consO (de_lc (own := [("_law_cell", 1)]) rfl sc__law_deck.nd (di_seq (de_sl (de_var 0 rfl) dp_none (dp_some de_int))) (blkOk_by (own := [("_law_cell", 1)]) (N := N__law_deck) (sc := defScope s__law_deck) (by decide +kernel)) (by decide) (fun _ _ _ _ _ => (dg_name (i := 1) sc__law_deck.nd rfl)) (fun _ _ _ _ _ => pts_none) (fun _ _ _ _ _ => (de_abs (by rfl) B.b_abs (de_var 1 rfl)))) (dl_cons de_int dl_nil)))))
abbrev N__law_draw : List Str := ["_law_bag", "_law_many", "_law_cells", "_law_great_here", "_law_k", "_law_cell", "_law_digit", "_law_mixed"]
theorem sc__law_draw : FnScope N__law_draw ["_law_bag", "_law_many"] (defScope s__law_draw) := ⟨rfl, rfl, rfl, by decide +kernel, rfl, by decide +kernel, by decide +kernel⟩
theorem ok__law_draw {f : Addr} {fd : FuncData} (B : BT K mg T)  (F : L2.Fun K "_law_draw" "_law_draw" s__law_draw f fd) : FnG P w K mg base 1 f fd ["_law_bag", "_law_many"] (spB T K 2 m__law_draw) :=
  fn_mk (g := g__law_draw) (N := N__law_draw) F sc__law_draw rfl rfl rfl fun cdv A outer s H E hr hu =>
    (db_cons (ds_asg (i := 2) sc__law_draw.nd rfl (de_sub2 (de_var 0 rfl) de_int))
      (db_cons (ds_setIx (hu_of hr) (de_add (de_sub2 (de_var 0 rfl) de_int) de_int) (de_var 0 rfl) de_int)
      (db_cons (ds_asgLcO (i := 3) (own := [("_law_k", 4), ("_law_cell", 5)]) rfl sc__law_draw.nd rfl rfl (sw_true rfl rfl rfl (by decide +kernel)) (di_enumO (by rfl) B.b_enumerate (dl_consO (de_var 2 rfl) dl_nil)) (blkOk_by (own := [("_law_k", 4), ("_law_cell", 5)]) (N := N__law_draw) (sc := defScope s__law_draw) (by decide +kernel)) (by decide) (fun _ _ _ _ _ => (dg_tup rfl (dgs_cons (dg_name (i := 4) sc__law_draw.nd rfl) (dgs_cons (dg_name (i := 5) sc__law_draw.nd rfl) dgs_nil)))) (fun _ _ _ _ _ => (pts_if (dt_cmp op_geU s_ge (de_var 5 rfl) (de_pow de_int de_int) (nomark _)))) (fun _ _ _ _ _ => (de_var 4 rfl)))
      (db_cons (ds_if (dt_cmp (op_neD hr.units) s_ne (de_var 3 rfl) (de_lst dl_nil) (nomark _)) (db_cons (ds_asg (i := 6) sc__law_draw.nd rfl (de_mod (de_sub2 (de_var 2 rfl) (de_sub2 (de_var 3 rfl) de_int)) (de_var 1 rfl)))
      (db_cons (ds_setIx (hu_of hr) (de_fdiv (de_sub2 (de_var 2 rfl) (de_sub2 (de_var 3 rfl) de_int)) (de_var 1 rfl)) (de_var 2 rfl) (de_sub2 (de_var 3 rfl) de_int))
      (db_one (ds_ret (de_var 6 rfl))))) db_nil)
      (db_cons (ds_asg (i := 5) sc__law_draw.nd rfl (de_sub2 (de_add (de_var 2 rfl) (de_lst (dl_cons de_int dl_nil))) (de_mod (de_sub2 (de_var 0 rfl) de_int) (de_add (de_len (by rfl) B.b_len (de_var 2 rfl)) de_int))))
      (db_cons (ds_asg (i := 7) sc__law_draw.nd rfl (de_mod (de_pow (de_add (de_add (de_mod (de_var 5 rfl) de_int) (de_mul de_int (de_sub2 (de_var 0 rfl) de_int))) de_int) de_int) de_int))
      (db_cons (ds_asg (i := 7) sc__law_draw.nd rfl (de_mod (de_pow (de_add (de_var 7 rfl) (de_mul (de_mul de_int (de_sub2 (de_var 0 rfl) de_int)) (de_sub2 (de_var 0 rfl) de_int))) de_int) de_int))
      (db_one (ds_ret (de_mod (de_fdiv (de_var 7 rfl) de_int) (de_var 1 rfl)))))))))))
abbrev N_card_error : List Str := ["place", "value", "target", "times"]
theorem sc_card_error : FnScope N_card_error ["place", "value"] (defScope s_card_error) := ⟨rfl, rfl, rfl, by decide +kernel, rfl, by decide +kernel, by decide +kernel⟩
theorem ok_card_error {f : Addr} {fd : FuncData} (B : BT K mg T) (C_is_letter : CalG P w K mg base T 1 "is_letter" 1 m_is_letter) (C_is_between : CalG P w K mg base T 1 "is_between" 3 m_is_between) (F : L2.Fun K "card_error" "card_error" s_card_error f fd) : FnG P w K mg base 2 f fd ["place", "value"] (spB T K 2 m_card_error) :=
  fn_mk (g := g_card_error) (N := N_card_error) F sc_card_error rfl rfl rfl fun cdv A outer s H E hr hu =>
    (db_cons (ds_if (dt_tr (de_isi (U := "str") (by decide) (by rfl) B.b_isinstance (by rfl) B.b_str boot_str (de_var 1 rfl))) (db_one (ds_ret (de_if (dt_tr (de_fn C_is_letter hr hu (dl_cons (de_var 1 rfl) dl_nil))) de_non de_str))) db_nil)
      (db_cons (ds_if (dt_w (dw_or (dt_not (dt_tr (de_isi (U := "tuple") (by decide) (by rfl) B.b_isinstance (by rfl) B.b_tuple boot_tuple (de_var 1 rfl)))) (dw_or1 (dt_cmp (op_neD hr.units) s_ne (de_len (by rfl) B.b_len (de_var 1 rfl)) de_int (nomark _))))) (db_one (ds_ret de_str)) db_nil)
      (db_cons (ds_unp (de_var 1 rfl) (dg_tup rfl (dgs_cons (dg_name (i := 2) sc_card_error.nd rfl) (dgs_cons (dg_name (i := 3) sc_card_error.nd rfl) dgs_nil))))
      (db_cons (ds_if (dt_not (dt_tr (de_fn C_is_between hr hu (dl_cons (de_var 2 rfl) (dl_cons de_int (dl_cons (de_var 0 rfl) dl_nil)))))) (db_one (ds_ret de_str)) db_nil)
      (db_one (ds_ret (de_if (dt_tr (de_fn C_is_between hr hu (dl_cons (de_var 3 rfl) (dl_cons de_int (dl_cons (de_globI (by rfl) B.c_MAX_TIMES.choose_spec) dl_nil))))) de_non de_str)))))))
abbrev N_moved_card : List Str := ["card", "first", "by"]
theorem sc_moved_card : FnScope N_moved_card ["card", "first", "by"] (defScope s_moved_card) := ⟨rfl, rfl, rfl, by decide +kernel, rfl, by decide +kernel, by decide +kernel⟩
theorem ok_moved_card {f : Addr} {fd : FuncData} (B : BT K mg T) (C_is_back : CalG P w K mg base T 1 "is_back" 1 m_is_back) (F : L2.Fun K "moved_card" "moved_card" s_moved_card f fd) : FnG P w K mg base 2 f fd ["card", "first", "by"] (spB T K 3 m_moved_card) :=
  fn_mk (g := g_moved_card) (N := N_moved_card) F sc_moved_card rfl rfl rfl fun cdv A outer s H E hr hu =>
    (db_cons (ds_if (dt_w (dw_or (dt_not (dt_tr (de_fn C_is_back hr hu (dl_cons (de_var 0 rfl) dl_nil)))) (dw_or1 (dt_cmp op_ltU s_lt (de_sub2 (de_var 0 rfl) de_int) (de_var 1 rfl) (nomark _))))) (db_one (ds_ret (de_var 0 rfl))) db_nil)
      (db_one (ds_ret (de_tup (dl_cons (de_add (de_sub2 (de_var 0 rfl) de_int) (de_var 2 rfl)) (dl_cons (de_sub2 (de_var 0 rfl) de_int) dl_nil))))))
abbrev N_need_place : List Str := ["row", "value", "beyond"]
theorem sc_need_place : FnScope N_need_place ["row", "value", "beyond"] (defScope s_need_place) := ⟨rfl, rfl, rfl, by decide +kernel, rfl, by decide +kernel, by decide +kernel⟩
theorem ok_need_place {f : Addr} {fd : FuncData} (B : BT K mg T) (C_is_between : CalG P w K mg base T 1 "is_between" 3 m_is_between) (F : L2.Fun K "need_place" "need_place" s_need_place f fd) : FnG P w K mg base 2 f fd ["row", "value", "beyond"] (spB T K 3 m_need_place) :=
  fn_mk (g := g_need_place) (N := N_need_place) F sc_need_place rfl rfl rfl fun cdv A outer s H E hr hu =>
    (db_one (ds_if (dt_not (dt_tr (de_fn C_is_between hr hu (dl_cons (de_var 1 rfl) (dl_cons de_int (dl_cons (de_add (de_sub (de_len (by rfl) B.b_len (de_var 0 rfl)) de_int) (de_var 2 rfl)) dl_nil)))))) (db_one ds_bad) db_nil))
abbrev N_need_back : List Str := ["row", "value"]
theorem sc_need_back : FnScope N_need_back ["row", "value"] (defScope s_need_back) := ⟨rfl, rfl, rfl, by decide +kernel, rfl, by decide +kernel, by decide +kernel⟩
theorem ok_need_back {f : Addr} {fd : FuncData} (B : BT K mg T) (C_is_back : CalG P w K mg base T 1 "is_back" 1 m_is_back) (C_is_between : CalG P w K mg base T 1 "is_between" 3 m_is_between) (F : L2.Fun K "need_back" "need_back" s_need_back f fd) : FnG P w K mg base 2 f fd ["row", "value"] (spB T K 2 m_need_back) :=
  fn_mk (g := g_need_back) (N := N_need_back) F sc_need_back rfl rfl rfl fun cdv A outer s H E hr hu =>
    (db_one (ds_if (dt_w (dw_or (dt_not (dt_tr (de_fn C_is_between hr hu (dl_cons (de_var 1 rfl) (dl_cons de_int (dl_cons (de_sub (de_len (by rfl) B.b_len (de_var 0 rfl)) de_int) dl_nil)))))) (dw_or1 (dt_not (dt_tr (de_fn C_is_back hr hu (dl_cons (de_sub2 (de_var 0 rfl) (de_var 1 rfl)) dl_nil))))))) (db_one ds_bad) db_nil))
abbrev N_ways_back : List Str := ["row", "behind", "place", "cards", "card", "number"]
theorem sc_ways_back : FnScope N_ways_back ["row", "behind", "place"] (defScope s_ways_back) := ⟨rfl, rfl, rfl, by decide +kernel, rfl, by decide +kernel, by decide +kernel⟩
theorem ok_ways_back {f : Addr} {fd : FuncData} (B : BT K mg T) (C_is_back : CalG P w K mg base T 1 "is_back" 1 m_is_back) (F : L2.Fun K "ways_back" "ways_back" s_ways_back f fd) : FnG P w K mg base 2 f fd ["row", "behind", "place"] (spB T K 3 m_ways_back) :=
  fn_mk (g := g_ways_back) (N := N_ways_back) F sc_ways_back rfl rfl rfl fun cdv A outer s H E hr hu =>
    (db_cons (ds_asg (i := 3) sc_ways_back.nd rfl (de_sl (de_rev1 (de_var 0 rfl)) dp_none (dp_some (de_len (by rfl) B.b_len (de_var 1 rfl)))))
      (db_one (ds_ret (de_sum rfl (by rfl) B.b_sum (de_lcO (own := [("card", 4), ("number", 5)]) rfl sc_ways_back.nd (di_zipO (by rfl) B.b_zip (dl_cons (de_var 3 rfl) (dl_consO (de_var 1 rfl) dl_nil))) (blkOk_by (own := [("card", 4), ("number", 5)]) (N := N_ways_back) (sc := defScope s_ways_back) (by decide +kernel)) (by decide) (fun _ _ _ _ _ => (dg_tup rfl (dgs_cons (dg_name (i := 4) sc_ways_back.nd rfl) (dgs_cons (dg_name (i := 5) sc_ways_back.nd rfl) dgs_nil)))) (fun _ _ _ _ _ => (pts_if (dt_w (dw_and (dt_tr (de_fn C_is_back hr hu (dl_cons (de_var 4 rfl) dl_nil))) (dw_and1 (dt_cmp op_leU s_le (de_sub2 (de_var 4 rfl) de_int) (de_var 2 rfl) (nomark _))))))) (fun _ _ _ _ _ => (de_mul (de_var 5 rfl) (de_sub2 (de_var 4 rfl) de_int))))))))
abbrev N__law_pick : List Str := ["_law_bag", "_law_items"]
theorem sc__law_pick : FnScope N__law_pick ["_law_bag", "_law_items"] (defScope s__law_pick) := ⟨rfl, rfl, rfl, by decide +kernel, rfl, by decide +kernel, by decide +kernel⟩
theorem ok__law_pick {f : Addr} {fd : FuncData} (B : BT K mg T) (C__law_draw : CalG P w K mg base T 1 "_law_draw" 2 m__law_draw) (F : L2.Fun K "_law_pick" "_law_pick" s__law_pick f fd) : FnG P w K mg base 2 f fd ["_law_bag", "_law_items"] (spB T K 2 m__law_pick) :=
  fn_mk (g := g__law_pick) (N := N__law_pick) F sc__law_pick rfl rfl rfl fun cdv A outer s H E hr hu =>
    (db_one (ds_ret (de_sub2 (de_var 1 rfl) (de_fn C__law_draw hr hu (dl_consO (de_var 0 rfl) (dl_cons (de_len (by rfl) B.b_len (de_var 1 rfl)) dl_nil))))))
abbrev N__law_great : List Str := ["_law_bag", "_law_many", "_law_found", "_law_turn"]
theorem sc__law_great : FnScope N__law_great ["_law_bag", "_law_many"] (defScope s__law_great) := ⟨rfl, rfl, rfl, by decide +kernel, rfl, by decide +kernel, by decide +kernel⟩
theorem ok__law_great {f : Addr} {fd : FuncData} (B : BT K mg T) (C__law_draw : CalG P w K mg base T 1 "_law_draw" 2 m__law_draw) (F : L2.Fun K "_law_great" "_law_great" s__law_great f fd) : FnG P w K mg base 2 f fd ["_law_bag", "_law_many"] (spB T K 2 m__law_great) :=
  fn_mk (g := g__law_great) (N := N__law_great) F sc__law_great rfl rfl rfl fun cdv A outer s H E hr hu =>
    (db_cons (ds_asg (i := 2) sc__law_great.nd rfl de_int)
      (db_cons (ds_for (passes_of rfl) rfl (di_range1 (by rfl) B.b_range (dl_cons de_int dl_nil)) (dg_name (i := 3) sc__law_great.nd rfl) (db_one (ds_asg (i := 2) sc__law_great.nd rfl (de_add (de_mul (de_var 2 rfl) (de_pow de_int de_int)) (de_fn C__law_draw hr hu (dl_consO (de_var 0 rfl) (dl_cons (de_pow de_int de_int) dl_nil)))))))
      (db_one (ds_ret (de_mod (de_var 2 rfl) (de_var 1 rfl))))))
abbrev N_with_card : List Str := ["row", "place", "card", "one"]
theorem sc_with_card : FnScope N_with_card ["row", "place", "card"] (defScope s_with_card) := ⟨rfl, rfl, rfl, by decide +kernel, rfl, by decide +kernel, by decide +kernel⟩
theorem ok_with_card {f : Addr} {fd : FuncData} (B : BT K mg T) (C_need_place : CalG P w K mg base T 2 "need_place" 3 m_need_place) (C_card_error : CalG P w K mg base T 2 "card_error" 2 m_card_error) (C_moved_card : CalG P w K mg base T 2 "moved_card" 3 m_moved_card) (F : L2.Fun K "with_card" "with_card" s_with_card f fd) : FnG P w K mg base 3 f fd ["row", "place", "card"] (spB T K 3 m_with_card) :=
  fn_mk (g := g_with_card) (N := N_with_card) F sc_with_card rfl rfl rfl fun cdv A outer s H E hr hu =>
    (db_cons (ds_expr (de_fn C_need_place hr hu (dl_cons (de_var 0 rfl) (dl_cons (de_var 1 rfl) (dl_cons de_int dl_nil)))))
      (db_cons (ds_if (dt_cmp op_notN s_isNot (de_fn C_card_error hr hu (dl_cons (de_var 1 rfl) (dl_cons (de_var 2 rfl) dl_nil))) de_non (nomark _)) (db_one ds_bad) db_nil)
      (db_cons (ds_if (dt_cmp (op_eqD hr.units) s_eq (de_len (by rfl) B.b_len (de_var 0 rfl)) (de_globI (by rfl) B.c_MAX_CARDS.choose_spec) (nomark _)) (db_one ds_bad) db_nil)
      (db_one (ds_ret (de_tup (dl_star (de_sl (de_var 0 rfl) dp_none (dp_some (de_var 1 rfl))) (dl_cons (de_var 2 rfl) (dl_star (de_lc (own := [("one", 3)]) rfl sc_with_card.nd (di_seq (de_sl (de_var 0 rfl) (dp_some (de_var 1 rfl)) dp_none)) (blkOk_by (own := [("one", 3)]) (N := N_with_card) (sc := defScope s_with_card) (by decide +kernel)) (by decide) (fun _ _ _ _ _ => (dg_name (i := 3) sc_with_card.nd rfl)) (fun _ _ _ _ _ => pts_none) (fun _ _ _ _ _ => (de_fn C_moved_card hr hu (dl_cons (de_var 3 rfl) (dl_cons (de_var 1 rfl) (dl_cons de_int dl_nil)))))) dl_nil)))))))))
abbrev N_without_card : List Str := ["row", "place", "one"]
theorem sc_without_card : FnScope N_without_card ["row", "place"] (defScope s_without_card) := ⟨rfl, rfl, rfl, by decide +kernel, rfl, by decide +kernel, by decide +kernel⟩
theorem ok_without_card {f : Addr} {fd : FuncData} (B : BT K mg T) (C_need_place : CalG P w K mg base T 2 "need_place" 3 m_need_place) (C_moved_card : CalG P w K mg base T 2 "moved_card" 3 m_moved_card) (F : L2.Fun K "without_card" "without_card" s_without_card f fd) : FnG P w K mg base 3 f fd ["row", "place"] (spB T K 2 m_without_card) :=
  fn_mk (g := g_without_card) (N := N_without_card) F sc_without_card rfl rfl rfl fun cdv A outer s H E hr hu =>
    (db_cons (ds_expr (de_fn C_need_place hr hu (dl_cons (de_var 0 rfl) (dl_cons (de_var 1 rfl) (dl_cons de_int dl_nil)))))
      (db_cons (ds_if (dt_cmp (op_eqD hr.units) s_eq (de_len (by rfl) B.b_len (de_var 0 rfl)) de_int (nomark _)) (db_one ds_bad) db_nil)
      (db_one (ds_ret (de_tup (dl_star (de_sl (de_var 0 rfl) dp_none (dp_some (de_var 1 rfl))) (dl_star (de_lc (own := [("one", 2)]) rfl sc_without_card.nd (di_seq (de_sl (de_var 0 rfl) (dp_some (de_add (de_var 1 rfl) de_int)) dp_none)) (blkOk_by (own := [("one", 2)]) (N := N_without_card) (sc := defScope s_without_card) (by decide +kernel)) (by decide) (fun _ _ _ _ _ => (dg_name (i := 2) sc_without_card.nd rfl)) (fun _ _ _ _ _ => pts_none) (fun _ _ _ _ _ => (de_fn C_moved_card hr hu (dl_cons (de_var 2 rfl) (dl_cons (de_add (de_var 1 rfl) de_int) (dl_cons (de_neg de_int) dl_nil)))))) dl_nil)))))))
abbrev N_crossings : List Str := ["row", "found", "place"]
theorem sc_crossings : FnScope N_crossings ["row"] (defScope s_crossings) := ⟨rfl, rfl, rfl, by decide +kernel, rfl, by decide +kernel, by decide +kernel⟩
theorem ok_crossings {f : Addr} {fd : FuncData} (B : BT K mg T) (C_ways_back : CalG P w K mg base T 2 "ways_back" 3 m_ways_back) (F : L2.Fun K "crossings" "crossings" s_crossings f fd) : FnG P w K mg base 3 f fd ["row"] (spB T K 1 m_crossings) :=
  FnG.gc <| fn_mk (g := g_crossings) (N := N_crossings) F sc_crossings rfl rfl rfl fun cdv A outer s H E hr hu =>
    (db_cons (ds_asgO (i := 1) sc_crossings.nd rfl (de_lst dl_nil))
      (db_cons (ds_for (passes_of rfl) rfl (di_range3 (by rfl) B.b_range (dl_cons (de_sub (de_len (by rfl) B.b_len (de_var 0 rfl)) de_int) (dl_cons (de_neg de_int) (dl_cons (de_neg de_int) dl_nil)))) (dg_name (i := 2) sc_crossings.nd rfl) (db_one (ds_expr (de_mut PySem.F.plainAttrs_list PySem.F.slot_list_append PySem.F.type_list_append mt_append op_appendF (de_var 1 rfl) (dl_cons (de_add de_int (de_fn C_ways_back hr hu (dl_cons (de_var 0 rfl) (dl_consO (de_var 1 rfl) (dl_cons (de_var 2 rfl) dl_nil))))) dl_nil)))))
      (db_one (ds_ret (de_tupOf (by rfl) B.b_tuple (de_rev1 (de_var 1 rfl)))))))
abbrev N__law_made : List Str := ["_law_bag", "_law_most", "_law_great_here", "_law_style", "_law_found", "_law_spot", "_law_near", "_law_back", "_law_number", "_law_letter"]
theorem sc__law_made : FnScope N__law_made ["_law_bag", "_law_most", "_law_great_here"] (defScope s__law_made) := ⟨rfl, rfl, rfl, by decide +kernel, rfl, by decide +kernel, by decide +kernel⟩
theorem ok__law_made {f : Addr} {fd : FuncData} (B : BT K mg T) (C__law_draw : CalG P w K mg base T 1 "_law_draw" 2 m__law_draw) (C__law_great : CalG P w K mg base T 2 "_law_great" 2 m__law_great) (F : L2.Fun K "_law_made" "_law_made" s__law_made f fd) : FnG P w K mg base 3 f fd ["_law_bag", "_law_most", "_law_great_here"] (spB T K 3 m__law_made) :=
  fn_mk (g := g__law_made) (N := N__law_made) F sc__law_made rfl rfl rfl fun cdv A outer s H E hr hu =>
    (db_cons (ds_par (i := 3) (j := 4) rfl sc__law_made.nd rfl rfl (by decide) rfl rfl (df_cons (de_fn C__law_draw hr hu (dl_consO (de_var 0 rfl) (dl_cons de_int dl_nil))) (df_cons (de_lst dl_nil) df_nil)) rfl)
      (db_cons (ds_for (passes_of rfl) rfl (di_range1 (by rfl) B.b_range (dl_cons (de_add de_int (de_fn C__law_draw hr hu (dl_consO (de_var 0 rfl) (dl_cons (de_var 1 rfl) dl_nil)))) dl_nil)) (dg_name (i := 5) sc__law_made.nd rfl) (db_cons (ds_asg (i := 6) sc__law_made.nd rfl (de_sub (de_var 5 rfl) (de_fdiv (de_fn C__law_draw hr hu (dl_consO (de_var 0 rfl) (dl_cons (de_add (de_var 5 rfl) de_int) dl_nil))) de_int)))
      (db_cons (ds_asg (i := 7) sc__law_made.nd rfl (de_sub2 (de_lst (dl_cons (de_fn C__law_draw hr hu (dl_consO (de_var 0 rfl) (dl_cons (de_add (de_var 5 rfl) de_int) dl_nil))) (dl_cons de_int (dl_cons (de_var 6 rfl) (dl_cons (de_var 5 rfl) dl_nil))))) (de_fn C__law_draw hr hu (dl_consO (de_var 0 rfl) (dl_cons de_int dl_nil)))))
      (db_cons (ds_asg (i := 8) sc__law_made.nd rfl (de_sub2 (de_lst (dl_cons (de_var 2 rfl) (dl_cons (de_fn C__law_great hr hu (dl_consO (de_var 0 rfl) (dl_cons (de_add (de_var 2 rfl) de_int) dl_nil))) (dl_cons (de_fn C__law_draw hr hu (dl_consO (de_var 0 rfl) (dl_cons de_int dl_nil))) (dl_cons de_int dl_nil))))) (de_fn C__law_draw hr hu (dl_consO (de_var 0 rfl) (dl_cons de_int dl_nil)))))
      (db_cons (ds_asg (i := 9) sc__law_made.nd rfl (de_sub2 de_str (de_fn C__law_draw hr hu (dl_consO (de_var 0 rfl) (dl_cons de_int dl_nil)))))
      (db_one (ds_expr (de_mut PySem.F.plainAttrs_list PySem.F.slot_list_append PySem.F.type_list_append mt_append op_appendF (de_var 4 rfl) (dl_cons (de_sub2 (de_lst (dl_cons (de_var 9 rfl) (dl_cons (de_tup (dl_cons (de_var 7 rfl) (dl_cons (de_var 8 rfl) dl_nil))) dl_nil))) (de_intOf (by rfl) B.b_int (de_cmp op_ltU s_lt (de_fn C__law_draw hr hu (dl_consO (de_var 0 rfl) (dl_cons de_int dl_nil))) (de_sub2 (de_lst (dl_cons de_int (dl_cons de_int (dl_cons de_int (dl_cons de_int (dl_cons de_int dl_nil)))))) (de_var 3 rfl)) (nomark _)))) dl_nil)))))))))
      (db_one (ds_ret (de_tupOf (by rfl) B.b_tuple (de_var 4 rfl))))))
abbrev N_meetings : List Str := ["row", "found", "card", "passes"]
theorem sc_meetings : FnScope N_meetings ["row"] (defScope s_meetings) := ⟨rfl, rfl, rfl, by decide +kernel, rfl, by decide +kernel, by decide +kernel⟩
theorem ok_meetings {f : Addr} {fd : FuncData} (B : BT K mg T) (C_crossings : CalG P w K mg base T 3 "crossings" 1 m_crossings) (C_is_back : CalG P w K mg base T 1 "is_back" 1 m_is_back) (F : L2.Fun K "meetings" "meetings" s_meetings f fd) : FnG P w K mg base 4 f fd ["row"] (spB T K 1 m_meetings) :=
  fn_mk (g := g_meetings) (N := N_meetings) F sc_meetings rfl rfl rfl fun cdv A outer s H E hr hu =>
    (db_cons (ds_asg (i := 1) sc_meetings.nd rfl (de_lst dl_nil))
      (db_cons (ds_for (passes_of rfl) rfl (di_zip (by rfl) B.b_zip (dl_cons (de_var 0 rfl) (dl_cons (de_fn C_crossings hr hu (dl_cons (de_var 0 rfl) dl_nil)) dl_nil))) (dg_tup rfl (dgs_cons (dg_name (i := 2) sc_meetings.nd rfl) (dgs_cons (dg_name (i := 3) sc_meetings.nd rfl) dgs_nil))) (db_one (ds_expr (de_mut PySem.F.plainAttrs_list PySem.F.slot_list_append PySem.F.type_list_append mt_append op_appendF (de_var 1 rfl) (dl_cons (de_if (dt_tr (de_fn C_is_back hr hu (dl_cons (de_var 2 rfl) dl_nil))) (de_mul (de_var 3 rfl) (de_add (de_sub2 (de_var 2 rfl) de_int) de_int)) (de_var 3 rfl)) dl_nil)))))
      (db_one (ds_ret (de_tupOf (by rfl) B.b_tuple (de_var 1 rfl))))))
abbrev N_count_steps : List Str := ["row"]
theorem sc_count_steps : FnScope N_count_steps ["row"] (defScope s_count_steps) := ⟨rfl, rfl, rfl, by decide +kernel, rfl, by decide +kernel, by decide +kernel⟩
theorem ok_count_steps {f : Addr} {fd : FuncData} (B : BT K mg T) (C_meetings : CalG P w K mg base T 4 "meetings" 1 m_meetings) (F : L2.Fun K "count_steps" "count_steps" s_count_steps f fd) : FnG P w K mg base 5 f fd ["row"] (spB T K 1 m_count_steps) :=
  fn_mk (g := g_count_steps) (N := N_count_steps) F sc_count_steps rfl rfl rfl fun cdv A outer s H E hr hu =>
    (db_one (ds_ret (de_sum rfl (by rfl) B.b_sum (de_lstOf (by rfl) B.b_list (de_fn C_meetings hr hu (dl_cons (de_var 0 rfl) dl_nil))))))
abbrev N_count_letters : List Str := ["row", "letters", "value", "wanted", "card", "number"]
theorem sc_count_letters : FnScope N_count_letters ["row", "letters"] (defScope s_count_letters) := ⟨rfl, rfl, rfl, by decide +kernel, rfl, by decide +kernel, by decide +kernel⟩
theorem ok_count_letters {f : Addr} {fd : FuncData} (B : BT K mg T) (C_is_letter : CalG P w K mg base T 1 "is_letter" 1 m_is_letter) (C_meetings : CalG P w K mg base T 4 "meetings" 1 m_meetings) (C_is_back : CalG P w K mg base T 1 "is_back" 1 m_is_back) (F : L2.Fun K "count_letters" "count_letters" s_count_letters f fd) : FnRg P w K mg base 5 f (spV T K m_count_letters) :=
  fn_mk_star (g := g_count_letters) (N := N_count_letters) (ps := ["row"]) F sc_count_letters rfl rfl rfl (fun _ _ _ _ _ _ us rest hl => match us, rest, hl with | [_], [], _ => rfl | [_], _ :: _, _ => rfl) fun cdv A outer s H E hr hu =>
    (db_cons (ds_for (passes_of rfl) rfl (di_seq (de_var 1 rfl)) (dg_name (i := 2) sc_count_letters.nd rfl) (db_one (ds_if (dt_not (dt_tr (de_fn C_is_letter hr hu (dl_cons (de_var 2 rfl) dl_nil)))) (db_one ds_bad) db_nil)))
      (db_cons (ds_asgLc (i := 3) (own := [("card", 4), ("number", 5)]) rfl sc_count_letters.nd rfl rfl (sw_true rfl rfl rfl (by decide +kernel)) (di_zip (by rfl) B.b_zip (dl_cons (de_var 0 rfl) (dl_cons (de_fn C_meetings hr hu (dl_cons (de_var 0 rfl) dl_nil)) dl_nil))) (blkOk_by (own := [("card", 4), ("number", 5)]) (N := N_count_letters) (sc := defScope s_count_letters) (by decide +kernel)) (by decide) (fun _ _ _ _ _ => (dg_tup rfl (dgs_cons (dg_name (i := 4) sc_count_letters.nd rfl) (dgs_cons (dg_name (i := 5) sc_count_letters.nd rfl) dgs_nil)))) (fun _ _ _ _ _ => (pts_if (dt_w (dw_and (dt_not (dt_tr (de_fn C_is_back hr hu (dl_cons (de_var 4 rfl) dl_nil)))) (dw_and1 (dt_cmp (op_inU (hu65 hr)) s_in (de_var 4 rfl) (de_or (de_var 1 rfl) (de_one (de_var 4 rfl))) (by with_unfolding_all rfl))))))) (fun _ _ _ _ _ => (de_var 5 rfl)))
      (db_one (ds_ret (de_sum rfl (by rfl) B.b_sum (de_var 3 rfl))))))
abbrev N_added_steps : List Str := ["row", "place"]
theorem sc_added_steps : FnScope N_added_steps ["row", "place"] (defScope s_added_steps) := ⟨rfl, rfl, rfl, by decide +kernel, rfl, by decide +kernel, by decide +kernel⟩
theorem ok_added_steps {f : Addr} {fd : FuncData} (B : BT K mg T) (C_need_back : CalG P w K mg base T 2 "need_back" 2 m_need_back) (C_count_steps : CalG P w K mg base T 5 "count_steps" 1 m_count_steps) (C_with_any_times : CalG P w K mg base T 1 "with_any_times" 3 m_with_any_times) (F : L2.Fun K "added_steps" "added_steps" s_added_steps f fd) : FnG P w K mg base 6 f fd ["row", "place"] (spB T K 2 m_added_steps) :=
  fn_mk (g := g_added_steps) (N := N_added_steps) F sc_added_steps rfl rfl rfl fun cdv A outer s H E hr hu =>
    (db_cons (ds_expr (de_fn C_need_back hr hu (dl_cons (de_var 0 rfl) (dl_cons (de_var 1 rfl) dl_nil))))
      (db_one (ds_ret (de_sub (de_fn C_count_steps hr hu (dl_cons (de_fn C_with_any_times hr hu (dl_cons (de_var 0 rfl) (dl_cons (de_var 1 rfl) (dl_cons de_int dl_nil)))) dl_nil)) (de_fn C_count_steps hr hu (dl_cons (de_fn C_with_any_times hr hu (dl_cons (de_var 0 rfl) (dl_cons (de_var 1 rfl) (dl_cons de_int dl_nil)))) dl_nil))))))
abbrev N__law_put_right : List Str := ["_law_line", "_law_spot", "_law_letter", "_law_more", "_law_old", "_law_border", "_law_idle"]
theorem sc__law_put_right : FnScope N__law_put_right ["_law_line", "_law_spot", "_law_letter"] (defScope s__law_put_right) := ⟨rfl, rfl, rfl, by decide +kernel, rfl, by decide +kernel, by decide +kernel⟩
theorem ok__law_put_right {f : Addr} {fd : FuncData} (B : BT K mg T) (C_with_card : CalG P w K mg base T 3 "with_card" 3 m_with_card) (C_crossings : CalG P w K mg base T 3 "crossings" 1 m_crossings) (C_without_card : CalG P w K mg base T 3 "without_card" 2 m_without_card) (C_count_letters : CalV P w K mg base T 5 "count_letters" m_count_letters) (C_count_steps : CalG P w K mg base T 5 "count_steps" 1 m_count_steps) (C_meetings : CalG P w K mg base T 4 "meetings" 1 m_meetings) (F : L2.Fun K "_law_put_right" "_law_put_right" s__law_put_right f fd) : FnG P w K mg base 6 f fd ["_law_line", "_law_spot", "_law_letter"] (spB T K 3 m__law_put_right) :=
  fn_mk (g := g__law_put_right) (N := N__law_put_right) F sc__law_put_right rfl rfl rfl fun cdv A outer s H E hr hu =>
    (db_cons (ds_par (i := 3) (j := 4) rfl sc__law_put_right.nd rfl rfl (by decide) rfl rfl (df_cons (de_fn C_with_card hr hu (dl_cons (de_var 0 rfl) (dl_cons (de_var 1 rfl) (dl_cons (de_var 2 rfl) dl_nil)))) (df_cons (de_fn C_crossings hr hu (dl_cons (de_var 0 rfl) dl_nil)) df_nil)) rfl)
      (db_cons (ds_asg (i := 5) sc__law_put_right.nd rfl (de_if (dt_cmp op_gtU s_gt (de_var 1 rfl) de_int (nomark _)) (de_sub2 (de_var 4 rfl) (de_sub (de_var 1 rfl) de_int)) de_int))
      (db_cons (ds_if (dt_w (dw_or (dt_cmp (op_neD hr.units) s_ne (de_fn C_crossings hr hu (dl_cons (de_var 3 rfl) dl_nil)) (de_add (de_add (de_sl (de_var 4 rfl) dp_none (dp_some (de_var 1 rfl))) (de_tup (dl_cons (de_var 5 rfl) dl_nil))) (de_sl (de_var 4 rfl) (dp_some (de_var 1 rfl)) dp_none)) (nomark _)) (dw_or1 (dt_cmp (op_neD hr.units) s_ne (de_fn C_without_card hr hu (dl_cons (de_var 3 rfl) (dl_cons (de_var 1 rfl) dl_nil))) (de_var 0 rfl) (nomark _))))) (db_one (ds_ret de_bl)) db_nil)
      (db_cons (ds_if (dt_w (dw_or (dt_cmp (op_neD hr.units) s_ne (de_fn C_count_steps hr hu (dl_cons (de_var 3 rfl) dl_nil)) (de_add (de_fn C_count_steps hr hu (dl_cons (de_var 0 rfl) dl_nil)) (de_var 5 rfl)) (nomark _)) (dw_or1 (dt_cmp (op_neD hr.units) s_ne (de_fnV C_count_letters hr hu (dl_cons (de_var 3 rfl) dl_nil)) (de_add (de_fnV C_count_letters hr hu (dl_cons (de_var 0 rfl) dl_nil)) (de_var 5 rfl)) (nomark _))))) (db_one (ds_ret de_bl)) db_nil)
      (db_cons (ds_asg (i := 6) sc__law_put_right.nd rfl (de_fn C_with_card hr hu (dl_cons (de_var 0 rfl) (dl_cons (de_var 1 rfl) (dl_cons (de_tup (dl_cons (de_fdiv (de_var 1 rfl) de_int) (dl_cons de_int dl_nil))) dl_nil)))))
      (db_one (ds_ret (de_and (de_cmp (op_eqD hr.units) s_eq (de_fn C_crossings hr hu (dl_cons (de_var 6 rfl) dl_nil)) (de_fn C_crossings hr hu (dl_cons (de_var 3 rfl) dl_nil)) (nomark _)) (de_one (de_cmp (op_eqD hr.units) s_eq (de_fn C_meetings hr hu (dl_cons (de_var 6 rfl) dl_nil)) (de_fn C_meetings hr hu (dl_cons (de_var 3 rfl) dl_nil)) (nomark _)))))))))))
abbrev N_law : List Str := ["_law_script", "_law_bag", "_law_turn", "_law_line", "_law_spot", "_law_own"]
theorem sc_law : FnScope N_law ["_law_script"] (defScope s_law) := ⟨rfl, rfl, rfl, by decide +kernel, rfl, by decide +kernel, by decide +kernel⟩
theorem ok_law {f : Addr} {fd : FuncData} (B : BT K mg T) (C__law_deck : CalG P w K mg base T 1 "_law_deck" 1 m__law_deck) (C__law_made : CalG P w K mg base T 3 "_law_made" 3 m__law_made) (C__law_put_right : CalG P w K mg base T 6 "_law_put_right" 3 m__law_put_right) (C__law_pick : CalG P w K mg base T 2 "_law_pick" 2 m__law_pick) (C__law_draw : CalG P w K mg base T 1 "_law_draw" 2 m__law_draw) (C_with_card : CalG P w K mg base T 3 "with_card" 3 m_with_card) (C__law_great : CalG P w K mg base T 2 "_law_great" 2 m__law_great) (C_added_steps : CalG P w K mg base T 6 "added_steps" 2 m_added_steps) (C_crossings : CalG P w K mg base T 3 "crossings" 1 m_crossings) (F : L2.Fun K "law" "law" s_law f fd) : FnG P w K mg base 7 f fd ["_law_script"] (spB T K 1 m_law) :=
  fn_mk (g := g_law) (N := N_law) F sc_law rfl rfl rfl fun cdv A outer s H E hr hu =>
    (db_cons (ds_asgO (i := 1) sc_law.nd rfl (de_fn C__law_deck hr hu (dl_cons (de_var 0 rfl) dl_nil)))
      (db_cons (ds_for (passes_of rfl) rfl (di_range1 (by rfl) B.b_range (dl_cons de_int dl_nil)) (dg_name (i := 2) sc_law.nd rfl) (db_cons (ds_asg (i := 3) sc_law.nd rfl (de_fn C__law_made hr hu (dl_consO (de_var 1 rfl) (dl_cons de_int (dl_cons (de_pow de_int de_int) dl_nil)))))
      (db_cons (ds_for (passes_of rfl) rfl (di_range1 (by rfl) B.b_range (dl_cons (de_add (de_len (by rfl) B.b_len (de_var 3 rfl)) de_int) dl_nil)) (dg_name (i := 4) sc_law.nd rfl) (db_one (ds_if (dt_not (dt_tr (de_fn C__law_put_right hr hu (dl_cons (de_var 3 rfl) (dl_cons (de_var 4 rfl) (dl_cons (de_fn C__law_pick hr hu (dl_consO (de_var 1 rfl) (dl_cons (de_lst (dl_cons de_str (dl_cons de_str (dl_cons de_str dl_nil)))) dl_nil))) dl_nil)))))) (db_one (ds_ret de_bl)) db_nil)))
      (db_cons (ds_asg (i := 4) sc_law.nd rfl (de_fn C__law_draw hr hu (dl_consO (de_var 1 rfl) (dl_cons (de_add (de_len (by rfl) B.b_len (de_var 3 rfl)) de_int) dl_nil))))
      (db_cons (ds_asg (i := 5) sc_law.nd rfl (de_fn C_with_card hr hu (dl_cons (de_var 3 rfl) (dl_cons (de_var 4 rfl) (dl_cons (de_tup (dl_cons (de_var 4 rfl) (dl_cons (de_fn C__law_great hr hu (dl_consO (de_var 1 rfl) (dl_cons (de_add (de_pow de_int de_int) de_int) dl_nil))) dl_nil))) dl_nil)))))
      (db_one (ds_if (dt_cmp (op_neD hr.units) s_ne (de_fn C_added_steps hr hu (dl_cons (de_var 5 rfl) (dl_cons (de_var 4 rfl) dl_nil))) (de_sub2 (de_fn C_crossings hr hu (dl_cons (de_var 5 rfl) dl_nil)) (de_var 4 rfl)) (nomark _)) (db_one (ds_ret de_bl)) db_nil)))))))
      (db_one (ds_ret de_bl))))
end

theorem all_mk {P : Program} {w : World} {K : PySem.W.Frag} {h : Heap} {mg : Str → Option Value} {fa : Addr} (X : K.In h) (G : h.Ns mainGlobals mg) (hfa : mg "law" = some (.ref fa))
    {f0 : Addr} {fd0 : FuncData} (a0 : PySem.W.nsIn K mainGlobals "is_between" = some (some (.ref f0))) (F0 : FunD K "is_between" "is_between" (defArgs s_is_between) (defBody s_is_between) (defScope s_is_between) [] [] f0 fd0)
    {f1 : Addr} {fd1 : FuncData} (a1 : PySem.W.nsIn K mainGlobals "is_letter" = some (some (.ref f1))) (F1 : FunD K "is_letter" "is_letter" (defArgs s_is_letter) (defBody s_is_letter) (defScope s_is_letter) [] [] f1 fd1)
    {f2 : Addr} {fd2 : FuncData} (a2 : PySem.W.nsIn K mainGlobals "is_back" = some (some (.ref f2))) (F2 : FunD K "is_back" "is_back" (defArgs s_is_back) (defBody s_is_back) (defScope s_is_back) [] [] f2 fd2)
    {f3 : Addr} {fd3 : FuncData} (a3 : PySem.W.nsIn K mainGlobals "with_any_times" = some (some (.ref f3))) (F3 : FunD K "with_any_times" "with_any_times" (defArgs s_with_any_times) (defBody s_with_any_times) (defScope s_with_any_times) [] [] f3 fd3)
    {f4 : Addr} {fd4 : FuncData} (a4 : PySem.W.nsIn K mainGlobals "_law_deck" = some (some (.ref f4))) (F4 : FunD K "_law_deck" "_law_deck" (defArgs s__law_deck) (defBody s__law_deck) (defScope s__law_deck) [] [] f4 fd4)
    {f5 : Addr} {fd5 : FuncData} (a5 : PySem.W.nsIn K mainGlobals "_law_draw" = some (some (.ref f5))) (F5 : FunD K "_law_draw" "_law_draw" (defArgs s__law_draw) (defBody s__law_draw) (defScope s__law_draw) [] [] f5 fd5)
    {f6 : Addr} {fd6 : FuncData} (a6 : PySem.W.nsIn K mainGlobals "card_error" = some (some (.ref f6))) (F6 : FunD K "card_error" "card_error" (defArgs s_card_error) (defBody s_card_error) (defScope s_card_error) [] [] f6 fd6)
    {f7 : Addr} {fd7 : FuncData} (a7 : PySem.W.nsIn K mainGlobals "moved_card" = some (some (.ref f7))) (F7 : FunD K "moved_card" "moved_card" (defArgs s_moved_card) (defBody s_moved_card) (defScope s_moved_card) [] [] f7 fd7)
    {f8 : Addr} {fd8 : FuncData} (a8 : PySem.W.nsIn K mainGlobals "need_place" = some (some (.ref f8))) (F8 : FunD K "need_place" "need_place" (defArgs s_need_place) (defBody s_need_place) (defScope s_need_place) [] [] f8 fd8)
    {f9 : Addr} {fd9 : FuncData} (a9 : PySem.W.nsIn K mainGlobals "need_back" = some (some (.ref f9))) (F9 : FunD K "need_back" "need_back" (defArgs s_need_back) (defBody s_need_back) (defScope s_need_back) [] [] f9 fd9)
    {f10 : Addr} {fd10 : FuncData} (a10 : PySem.W.nsIn K mainGlobals "ways_back" = some (some (.ref f10))) (F10 : FunD K "ways_back" "ways_back" (defArgs s_ways_back) (defBody s_ways_back) (defScope s_ways_back) [] [] f10 fd10)
    {f11 : Addr} {fd11 : FuncData} (a11 : PySem.W.nsIn K mainGlobals "_law_pick" = some (some (.ref f11))) (F11 : FunD K "_law_pick" "_law_pick" (defArgs s__law_pick) (defBody s__law_pick) (defScope s__law_pick) [] [] f11 fd11)
    {f12 : Addr} {fd12 : FuncData} (a12 : PySem.W.nsIn K mainGlobals "_law_great" = some (some (.ref f12))) (F12 : FunD K "_law_great" "_law_great" (defArgs s__law_great) (defBody s__law_great) (defScope s__law_great) [] [] f12 fd12)
    {f13 : Addr} {fd13 : FuncData} (a13 : PySem.W.nsIn K mainGlobals "with_card" = some (some (.ref f13))) (F13 : FunD K "with_card" "with_card" (defArgs s_with_card) (defBody s_with_card) (defScope s_with_card) [] [] f13 fd13)
    {f14 : Addr} {fd14 : FuncData} (a14 : PySem.W.nsIn K mainGlobals "without_card" = some (some (.ref f14))) (F14 : FunD K "without_card" "without_card" (defArgs s_without_card) (defBody s_without_card) (defScope s_without_card) [] [] f14 fd14)
    {f15 : Addr} {fd15 : FuncData} (a15 : PySem.W.nsIn K mainGlobals "crossings" = some (some (.ref f15))) (F15 : FunD K "crossings" "crossings" (defArgs s_crossings) (defBody s_crossings) (defScope s_crossings) [] [] f15 fd15)
    {f16 : Addr} {fd16 : FuncData} (a16 : PySem.W.nsIn K mainGlobals "_law_made" = some (some (.ref f16))) (F16 : FunD K "_law_made" "_law_made" (defArgs s__law_made) (defBody s__law_made) (defScope s__law_made) [] [] f16 fd16)
    {f17 : Addr} {fd17 : FuncData} (a17 : PySem.W.nsIn K mainGlobals "meetings" = some (some (.ref f17))) (F17 : FunD K "meetings" "meetings" (defArgs s_meetings) (defBody s_meetings) (defScope s_meetings) [] [] f17 fd17)
    {f18 : Addr} {fd18 : FuncData} (a18 : PySem.W.nsIn K mainGlobals "count_steps" = some (some (.ref f18))) (F18 : FunD K "count_steps" "count_steps" (defArgs s_count_steps) (defBody s_count_steps) (defScope s_count_steps) [] [] f18 fd18)
    {f19 : Addr} {fd19 : FuncData} (a19 : PySem.W.nsIn K mainGlobals "count_letters" = some (some (.ref f19))) (F19 : FunD K "count_letters" "count_letters" (defArgs s_count_letters) (defBody s_count_letters) (defScope s_count_letters) [] [] f19 fd19)
    {f20 : Addr} {fd20 : FuncData} (a20 : PySem.W.nsIn K mainGlobals "added_steps" = some (some (.ref f20))) (F20 : FunD K "added_steps" "added_steps" (defArgs s_added_steps) (defBody s_added_steps) (defScope s_added_steps) [] [] f20 fd20)
    {f21 : Addr} {fd21 : FuncData} (a21 : PySem.W.nsIn K mainGlobals "_law_put_right" = some (some (.ref f21))) (F21 : FunD K "_law_put_right" "_law_put_right" (defArgs s__law_put_right) (defBody s__law_put_right) (defScope s__law_put_right) [] [] f21 fd21)
    {f22 : Addr} {fd22 : FuncData} (a22 : PySem.W.nsIn K mainGlobals "law" = some (some (.ref f22))) (F22 : FunD K "law" "law" (defArgs s_law) (defBody s_law) (defScope s_law) [] [] f22 fd22)
    (z_abs : PySem.W.nsIn K mainGlobals "abs" = some none)
    (z_bool : PySem.W.nsIn K mainGlobals "bool" = some none)
    (z_enumerate : PySem.W.nsIn K mainGlobals "enumerate" = some none)
    (z_int : PySem.W.nsIn K mainGlobals "int" = some none)
    (z_isinstance : PySem.W.nsIn K mainGlobals "isinstance" = some none)
    (z_len : PySem.W.nsIn K mainGlobals "len" = some none)
    (z_list : PySem.W.nsIn K mainGlobals "list" = some none)
    (z_range : PySem.W.nsIn K mainGlobals "range" = some none)
    (z_str : PySem.W.nsIn K mainGlobals "str" = some none)
    (z_sum : PySem.W.nsIn K mainGlobals "sum" = some none)
    (z_tuple : PySem.W.nsIn K mainGlobals "tuple" = some none)
    (z_zip : PySem.W.nsIn K mainGlobals "zip" = some none)
    {tk_LETTERS : Tok} (y_LETTERS : PySem.W.nsIn K mainGlobals "LETTERS" = some (some (.str "abcdefghijklmnopqrstuvwxyz" tk_LETTERS)))
    {tk_MAX_CARDS : Tok} (y_MAX_CARDS : PySem.W.nsIn K mainGlobals "MAX_CARDS" = some (some (.int 24 tk_MAX_CARDS)))
    {tk_MAX_TIMES : Tok} (y_MAX_TIMES : PySem.W.nsIn K mainGlobals "MAX_TIMES" = some (some (.int 1000000000000 tk_MAX_TIMES))) :
    ∃ (c0 : Str → Option Addr) (fd : FuncData), (∀ (s : Shared) (u : Value), BindsTo s fd ⟨[u], []⟩ [("_law_script", u)]) ∧ ∀ base : Heap, K.In base → base.Ns mainGlobals mg → FnG P w K mg base 7 fa fd ["_law_script"] (spB { cls := c0 } K 1 m_law) := by
  have e := hfa.symm.trans (PySem.W.mg_of X G a22)
  cases e
  have B : BT K mg { cls := (fun _ => none : Str → Option Addr) } := ⟨PySem.W.mg_none_of X G z_abs, PySem.W.mg_none_of X G z_bool, PySem.W.mg_none_of X G z_enumerate, PySem.W.mg_none_of X G z_int, PySem.W.mg_none_of X G z_isinstance, PySem.W.mg_none_of X G z_len, PySem.W.mg_none_of X G z_list, PySem.W.mg_none_of X G z_range, PySem.W.mg_none_of X G z_str, PySem.W.mg_none_of X G z_sum, PySem.W.mg_none_of X G z_tuple, PySem.W.mg_none_of X G z_zip, ⟨_, PySem.W.mg_of X G y_LETTERS⟩, ⟨_, PySem.W.mg_of X G y_MAX_CARDS⟩, ⟨_, PySem.W.mg_of X G y_MAX_TIMES⟩⟩
  have F0 := fun_ofD F0
  have b0 := F0.binds (ps := ["value", "low", "high"]) fun _ _ _ _ _ _ us hl => match us, hl with | [_, _, _], _ => rfl
  have F1 := fun_ofD F1
  have b1 := F1.binds (ps := ["value"]) fun _ _ _ _ _ _ us hl => match us, hl with | [_], _ => rfl
  have F2 := fun_ofD F2
  have b2 := F2.binds (ps := ["card"]) fun _ _ _ _ _ _ us hl => match us, hl with | [_], _ => rfl
  have F3 := fun_ofD F3
  have b3 := F3.binds (ps := ["row", "place", "times"]) fun _ _ _ _ _ _ us hl => match us, hl with | [_, _, _], _ => rfl
  have F4 := fun_ofD F4
  have b4 := F4.binds (ps := ["_law_script"]) fun _ _ _ _ _ _ us hl => match us, hl with | [_], _ => rfl
  have F5 := fun_ofD F5
  have b5 := F5.binds (ps := ["_law_bag", "_law_many"]) fun _ _ _ _ _ _ us hl => match us, hl with | [_, _], _ => rfl
  have F6 := fun_ofD F6
  have b6 := F6.binds (ps := ["place", "value"]) fun _ _ _ _ _ _ us hl => match us, hl with | [_, _], _ => rfl
  have F7 := fun_ofD F7
  have b7 := F7.binds (ps := ["card", "first", "by"]) fun _ _ _ _ _ _ us hl => match us, hl with | [_, _, _], _ => rfl
  have F8 := fun_ofD F8
  have b8 := F8.binds (ps := ["row", "value", "beyond"]) fun _ _ _ _ _ _ us hl => match us, hl with | [_, _, _], _ => rfl
  have F9 := fun_ofD F9
  have b9 := F9.binds (ps := ["row", "value"]) fun _ _ _ _ _ _ us hl => match us, hl with | [_, _], _ => rfl
  have F10 := fun_ofD F10
  have b10 := F10.binds (ps := ["row", "behind", "place"]) fun _ _ _ _ _ _ us hl => match us, hl with | [_, _, _], _ => rfl
  have F11 := fun_ofD F11
  have b11 := F11.binds (ps := ["_law_bag", "_law_items"]) fun _ _ _ _ _ _ us hl => match us, hl with | [_, _], _ => rfl
  have F12 := fun_ofD F12
  have b12 := F12.binds (ps := ["_law_bag", "_law_many"]) fun _ _ _ _ _ _ us hl => match us, hl with | [_, _], _ => rfl
  have F13 := fun_ofD F13
  have b13 := F13.binds (ps := ["row", "place", "card"]) fun _ _ _ _ _ _ us hl => match us, hl with | [_, _, _], _ => rfl
  have F14 := fun_ofD F14
  have b14 := F14.binds (ps := ["row", "place"]) fun _ _ _ _ _ _ us hl => match us, hl with | [_, _], _ => rfl
  have F15 := fun_ofD F15
  have b15 := F15.binds (ps := ["row"]) fun _ _ _ _ _ _ us hl => match us, hl with | [_], _ => rfl
  have F16 := fun_ofD F16
  have b16 := F16.binds (ps := ["_law_bag", "_law_most", "_law_great_here"]) fun _ _ _ _ _ _ us hl => match us, hl with | [_, _, _], _ => rfl
  have F17 := fun_ofD F17
  have b17 := F17.binds (ps := ["row"]) fun _ _ _ _ _ _ us hl => match us, hl with | [_], _ => rfl
  have F18 := fun_ofD F18
  have b18 := F18.binds (ps := ["row"]) fun _ _ _ _ _ _ us hl => match us, hl with | [_], _ => rfl
  have F19 := fun_ofD F19
  have F20 := fun_ofD F20
  have b20 := F20.binds (ps := ["row", "place"]) fun _ _ _ _ _ _ us hl => match us, hl with | [_, _], _ => rfl
  have F21 := fun_ofD F21
  have b21 := F21.binds (ps := ["_law_line", "_law_spot", "_law_letter"]) fun _ _ _ _ _ _ us hl => match us, hl with | [_, _, _], _ => rfl
  have bl := FunD.bindsA (ps := ["_law_script"]) F22 fun _ _ _ _ _ _ us hl => match us, hl with | [_], _ => rfl
  have F22 := fun_ofD F22
  refine ⟨(fun _ => none : Str → Option Addr), fd22, fun s v => bl s [v] rfl, fun base _ _ => ?_⟩
  have C0 : CalG P w K mg base { cls := (fun _ => none : Str → Option Addr) } 1 "is_between" 3 m_is_between := ⟨_, _, _, ok_is_between B  F0, PySem.W.mg_of X G a0, F0.kp, b0⟩
  have C1 : CalG P w K mg base { cls := (fun _ => none : Str → Option Addr) } 1 "is_letter" 1 m_is_letter := ⟨_, _, _, ok_is_letter B  F1, PySem.W.mg_of X G a1, F1.kp, b1⟩
  have C2 : CalG P w K mg base { cls := (fun _ => none : Str → Option Addr) } 1 "is_back" 1 m_is_back := ⟨_, _, _, ok_is_back B  F2, PySem.W.mg_of X G a2, F2.kp, b2⟩
  have C3 : CalG P w K mg base { cls := (fun _ => none : Str → Option Addr) } 1 "with_any_times" 3 m_with_any_times := ⟨_, _, _, ok_with_any_times B  F3, PySem.W.mg_of X G a3, F3.kp, b3⟩
  have C4 : CalG P w K mg base { cls := (fun _ => none : Str → Option Addr) } 1 "_law_deck" 1 m__law_deck := ⟨_, _, _, ok__law_deck B  F4, PySem.W.mg_of X G a4, F4.kp, b4⟩
  have C5 : CalG P w K mg base { cls := (fun _ => none : Str → Option Addr) } 1 "_law_draw" 2 m__law_draw := ⟨_, _, _, ok__law_draw B  F5, PySem.W.mg_of X G a5, F5.kp, b5⟩
  have C6 : CalG P w K mg base { cls := (fun _ => none : Str → Option Addr) } 2 "card_error" 2 m_card_error := ⟨_, _, _, ok_card_error B C1 C0 F6, PySem.W.mg_of X G a6, F6.kp, b6⟩
  have C7 : CalG P w K mg base { cls := (fun _ => none : Str → Option Addr) } 2 "moved_card" 3 m_moved_card := ⟨_, _, _, ok_moved_card B C2 F7, PySem.W.mg_of X G a7, F7.kp, b7⟩
  have C8 : CalG P w K mg base { cls := (fun _ => none : Str → Option Addr) } 2 "need_place" 3 m_need_place := ⟨_, _, _, ok_need_place B C0 F8, PySem.W.mg_of X G a8, F8.kp, b8⟩
  have C9 : CalG P w K mg base { cls := (fun _ => none : Str → Option Addr) } 2 "need_back" 2 m_need_back := ⟨_, _, _, ok_need_back B C2 C0 F9, PySem.W.mg_of X G a9, F9.kp, b9⟩
  have C10 : CalG P w K mg base { cls := (fun _ => none : Str → Option Addr) } 2 "ways_back" 3 m_ways_back := ⟨_, _, _, ok_ways_back B C2 F10, PySem.W.mg_of X G a10, F10.kp, b10⟩
  have C11 : CalG P w K mg base { cls := (fun _ => none : Str → Option Addr) } 2 "_law_pick" 2 m__law_pick := ⟨_, _, _, ok__law_pick B C5 F11, PySem.W.mg_of X G a11, F11.kp, b11⟩
  have C12 : CalG P w K mg base { cls := (fun _ => none : Str → Option Addr) } 2 "_law_great" 2 m__law_great := ⟨_, _, _, ok__law_great B C5 F12, PySem.W.mg_of X G a12, F12.kp, b12⟩
  have C13 : CalG P w K mg base { cls := (fun _ => none : Str → Option Addr) } 3 "with_card" 3 m_with_card := ⟨_, _, _, ok_with_card B C8 C6 C7 F13, PySem.W.mg_of X G a13, F13.kp, b13⟩
  have C14 : CalG P w K mg base { cls := (fun _ => none : Str → Option Addr) } 3 "without_card" 2 m_without_card := ⟨_, _, _, ok_without_card B C8 C7 F14, PySem.W.mg_of X G a14, F14.kp, b14⟩
  have C15 : CalG P w K mg base { cls := (fun _ => none : Str → Option Addr) } 3 "crossings" 1 m_crossings := ⟨_, _, _, ok_crossings B C10 F15, PySem.W.mg_of X G a15, F15.kp, b15⟩
  have C16 : CalG P w K mg base { cls := (fun _ => none : Str → Option Addr) } 3 "_law_made" 3 m__law_made := ⟨_, _, _, ok__law_made B C5 C12 F16, PySem.W.mg_of X G a16, F16.kp, b16⟩
  have C17 : CalG P w K mg base { cls := (fun _ => none : Str → Option Addr) } 4 "meetings" 1 m_meetings := ⟨_, _, _, ok_meetings B C15 C2 F17, PySem.W.mg_of X G a17, F17.kp, b17⟩
  have C18 : CalG P w K mg base { cls := (fun _ => none : Str → Option Addr) } 5 "count_steps" 1 m_count_steps := ⟨_, _, _, ok_count_steps B C17 F18, PySem.W.mg_of X G a18, F18.kp, b18⟩
  have C19 : CalV P w K mg base { cls := (fun _ => none : Str → Option Addr) } 5 "count_letters" m_count_letters := ⟨_, ok_count_letters B C1 C17 C2 F19, PySem.W.mg_of X G a19, F19.kp⟩
  have C20 : CalG P w K mg base { cls := (fun _ => none : Str → Option Addr) } 6 "added_steps" 2 m_added_steps := ⟨_, _, _, ok_added_steps B C9 C18 C3 F20, PySem.W.mg_of X G a20, F20.kp, b20⟩
  have C21 : CalG P w K mg base { cls := (fun _ => none : Str → Option Addr) } 6 "_law_put_right" 3 m__law_put_right := ⟨_, _, _, ok__law_put_right B C13 C15 C14 C19 C18 C17 F21, PySem.W.mg_of X G a21, F21.kp, b21⟩
  exact ok_law B C4 C16 C21 C11 C5 C13 C12 C20 C15 F22
theorem q_says {P : Program} {w : World} {K : PySem.W.Frag} {h : Heap} {mg : Str → Option Value} {fa : Addr} (X : K.In h) (G : h.Ns mainGlobals mg) (hfa : mg "law" = some (.ref fa)) (c : SaysK q_fl q_fn K) :
    ∃ (c0 : Str → Option Addr) (fd : FuncData), (∀ (s : Shared) (u : Value), BindsTo s fd ⟨[u], []⟩ [("_law_script", u)]) ∧ ∀ base : Heap, K.In base → base.Ns mainGlobals mg → FnG P w K mg base 7 fa fd ["_law_script"] (spB { cls := c0 } K 1 m_law) := by
  have a0 : PySem.W.nsIn K mainGlobals "is_between" = some (some (.ref (q_f0 K))) := c.eq 0
  obtain ⟨fd0, F0⟩ := c.def_ 0 (d := d_0) rfl
  have a1 : PySem.W.nsIn K mainGlobals "is_letter" = some (some (.ref (q_f1 K))) := c.eq 1
  obtain ⟨fd1, F1⟩ := c.def_ 1 (d := d_1) rfl
  have a2 : PySem.W.nsIn K mainGlobals "is_back" = some (some (.ref (q_f2 K))) := c.eq 2
  obtain ⟨fd2, F2⟩ := c.def_ 2 (d := d_2) rfl
  have a3 : PySem.W.nsIn K mainGlobals "with_any_times" = some (some (.ref (q_f3 K))) := c.eq 3
  obtain ⟨fd3, F3⟩ := c.def_ 3 (d := d_3) rfl
  have a4 : PySem.W.nsIn K mainGlobals "_law_deck" = some (some (.ref (q_f4 K))) := c.eq 4
  obtain ⟨fd4, F4⟩ := c.def_ 4 (d := d_4) rfl
  have a5 : PySem.W.nsIn K mainGlobals "_law_draw" = some (some (.ref (q_f5 K))) := c.eq 5
  obtain ⟨fd5, F5⟩ := c.def_ 5 (d := d_5) rfl
  have a6 : PySem.W.nsIn K mainGlobals "card_error" = some (some (.ref (q_f6 K))) := c.eq 6
  obtain ⟨fd6, F6⟩ := c.def_ 6 (d := d_6) rfl
  have a7 : PySem.W.nsIn K mainGlobals "moved_card" = some (some (.ref (q_f7 K))) := c.eq 7
  obtain ⟨fd7, F7⟩ := c.def_ 7 (d := d_7) rfl
  have a8 : PySem.W.nsIn K mainGlobals "need_place" = some (some (.ref (q_f8 K))) := c.eq 8
  obtain ⟨fd8, F8⟩ := c.def_ 8 (d := d_8) rfl
  have a9 : PySem.W.nsIn K mainGlobals "need_back" = some (some (.ref (q_f9 K))) := c.eq 9
  obtain ⟨fd9, F9⟩ := c.def_ 9 (d := d_9) rfl
  have a10 : PySem.W.nsIn K mainGlobals "ways_back" = some (some (.ref (q_f10 K))) := c.eq 10
  obtain ⟨fd10, F10⟩ := c.def_ 10 (d := d_10) rfl
  have a11 : PySem.W.nsIn K mainGlobals "_law_pick" = some (some (.ref (q_f11 K))) := c.eq 11
  obtain ⟨fd11, F11⟩ := c.def_ 11 (d := d_11) rfl
  have a12 : PySem.W.nsIn K mainGlobals "_law_great" = some (some (.ref (q_f12 K))) := c.eq 12
  obtain ⟨fd12, F12⟩ := c.def_ 12 (d := d_12) rfl
  have a13 : PySem.W.nsIn K mainGlobals "with_card" = some (some (.ref (q_f13 K))) := c.eq 13
  obtain ⟨fd13, F13⟩ := c.def_ 13 (d := d_13) rfl
  have a14 : PySem.W.nsIn K mainGlobals "without_card" = some (some (.ref (q_f14 K))) := c.eq 14
  obtain ⟨fd14, F14⟩ := c.def_ 14 (d := d_14) rfl
  have a15 : PySem.W.nsIn K mainGlobals "crossings" = some (some (.ref (q_f15 K))) := c.eq 15
  obtain ⟨fd15, F15⟩ := c.def_ 15 (d := d_15) rfl
  have a16 : PySem.W.nsIn K mainGlobals "_law_made" = some (some (.ref (q_f16 K))) := c.eq 16
  obtain ⟨fd16, F16⟩ := c.def_ 16 (d := d_16) rfl
  have a17 : PySem.W.nsIn K mainGlobals "meetings" = some (some (.ref (q_f17 K))) := c.eq 17
  obtain ⟨fd17, F17⟩ := c.def_ 17 (d := d_17) rfl
  have a18 : PySem.W.nsIn K mainGlobals "count_steps" = some (some (.ref (q_f18 K))) := c.eq 18
  obtain ⟨fd18, F18⟩ := c.def_ 18 (d := d_18) rfl
  have a19 : PySem.W.nsIn K mainGlobals "count_letters" = some (some (.ref (q_f19 K))) := c.eq 19
  obtain ⟨fd19, F19⟩ := c.def_ 19 (d := d_19) rfl
  have a20 : PySem.W.nsIn K mainGlobals "added_steps" = some (some (.ref (q_f20 K))) := c.eq 20
  obtain ⟨fd20, F20⟩ := c.def_ 20 (d := d_20) rfl
  have a21 : PySem.W.nsIn K mainGlobals "_law_put_right" = some (some (.ref (q_f21 K))) := c.eq 21
  obtain ⟨fd21, F21⟩ := c.def_ 21 (d := d_21) rfl
  have a22 : PySem.W.nsIn K mainGlobals "law" = some (some (.ref (q_f22 K))) := c.eq 22
  obtain ⟨fd22, F22⟩ := c.def_ 22 (d := d_22) rfl
  have z_abs : PySem.W.nsIn K mainGlobals "abs" = some none := c.eq 23
  have z_bool : PySem.W.nsIn K mainGlobals "bool" = some none := c.eq 24
  have z_enumerate : PySem.W.nsIn K mainGlobals "enumerate" = some none := c.eq 25
  have z_int : PySem.W.nsIn K mainGlobals "int" = some none := c.eq 26
  have z_isinstance : PySem.W.nsIn K mainGlobals "isinstance" = some none := c.eq 27
  have z_len : PySem.W.nsIn K mainGlobals "len" = some none := c.eq 28
  have z_list : PySem.W.nsIn K mainGlobals "list" = some none := c.eq 29
  have z_range : PySem.W.nsIn K mainGlobals "range" = some none := c.eq 30
  have z_str : PySem.W.nsIn K mainGlobals "str" = some none := c.eq 31
  have z_sum : PySem.W.nsIn K mainGlobals "sum" = some none := c.eq 32
  have z_tuple : PySem.W.nsIn K mainGlobals "tuple" = some none := c.eq 33
  have z_zip : PySem.W.nsIn K mainGlobals "zip" = some none := c.eq 34
  have y_LETTERS := (strGB_ok (c.fact 35)).choose_spec
  have y_MAX_CARDS := (intGB_ok (c.fact 36)).choose_spec
  have y_MAX_TIMES := (intGB_ok (c.fact 37)).choose_spec
  exact all_mk X G hfa a0 F0 a1 F1 a2 F2 a3 F3 a4 F4 a5 F5 a6 F6 a7 F7 a8 F8 a9 F9 a10 F10 a11 F11 a12 F12 a13 F13 a14 F14 a15 F15 a16 F16 a17 F17 a18 F18 a19 F19 a20 F20 a21 F21 a22 F22 z_abs z_bool z_enumerate z_int z_isinstance z_len z_list z_range z_str z_sum z_tuple z_zip y_LETTERS y_MAX_CARDS y_MAX_TIMES
end LawP
open PySem PySem.W PySem.Calls PyProof.Rows in
set_option maxRecDepth 100000 in
set_option maxHeartbeats 0 in
theorem PySem.Challenge.cw_backcards_k23_whole_letters_put_in_holds : PySem.Challenge.rw_backcards_k23_whole_letters_put_in.Holds := by
  w_on; o_law
  refine HandSHeadRun.head_any (r := OpenLaw.row PySem.Challenge.rw_backcards_k23_whole_letters_put_in) (q := LawP.q_v) (H := LawP.q_hk) (ob := LawP.q_ob) (M := 60000) (loose := LawP.q_names) (d := HandSHeadRun.topDef LawP.q_R.prog 35) (kwd := []) LawP.q_ob_eq
    (by kernel_rfl) (fun s => by kernel_rfl) LawP.q_run (by kernel_rfl) (by kernel_rfl) (by kernel_rfl) (by rfl) (by first | assumption | decide +kernel) (by decide +kernel) ⟨rfl, rfl, rfl, rfl, rfl, by decide +kernel⟩ ?hw ?hc
  case hw => w_witness2
  case hc =>
    refine Bv.walkGE (l := PySem.Challenge.rw_backcards_k23_whole_letters_put_in) (k := 7) (x := "_law_script") (φ := LawP.m_law) rfl (by kernel_rfl) ⟨rfl, by decide, by decide⟩ ?F LawP.keeps
    intro w mg fa h Y G hmg0
    obtain ⟨K, KX, c⟩ := Y
    have hmg : mg ("law" : PySem.Str) = some (.ref fa) := by
      have e : (HandSHeadRun.topDef LawP.q_R.prog 35).name = ("law" : PySem.Str) := by kernel_rfl
      rw [← e]
      exact hmg0
    obtain ⟨c0, fd, hb, hF⟩ := LawP.q_says (P := PySem.Challenge.rw_backcards_k23_whole_letters_put_in.prog) (w := w) KX G hmg c
    exact ⟨K, c0, fd, KX, hb, hF⟩


