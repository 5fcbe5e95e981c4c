import PyProof.Rows.All
import Wide.All
import OpenK.AllK
import Wide.FinOn
import HandS.ForMost
import HandS.Exc
import HandS.TryOnly
import HandS.ExcOwn
import HandS.WordsExc
import HandS.Wide
import HandS.IsInst
import HandS.Deep
import HandS.TupAny
import HandS.Flow
import HandS.StrMore
import HandS.Conv
import HandS.Lambda
import HandS.Style
import HandS.Codes
import HandS.RaiseMore
import HandS.Defaults
import HandS.Comp
import HandS.TupSets
import KE.GoesEnum
import KE.GoesMore
import HandS.Head0
import HandS.Head1
import HandS.Head2
import HandS.HeadEnd
import HandS.HeadHook1
import HandS.HeadHook2
import KE.KIsAll
import KE.KNestM
import HandS.ExcInit
import PyProof.ReprLen
import PyProof.Rows.ReprOcc
import KE.KEqDict
import HandS.DeepEq
import HandS.DictComp
import HandS.Zip
import KE.GoesZip
import KE.KUnpackStar
import HandS.Iter
import HandS.Finally
import HandS.Text
import KE.SortData
import KE.SortKeyHeap
import HandS.WideBits
import KE.KDictZip
import KE.KItemsList
import HandS.ListItems
import HandS.More
import PyProof.ExcBaseAll.ValueError
import KE.KTryMore
import KE.KExcIs
import HandS.ExcIs
import HandS.NoneIn
import KE.KDictDisplayH
import KE.KDictCopyH
import HandS.HeadHook3
import KE.DataMinKey
import Flt.Sum
import HandS.ExcField
import HandS.ExcValue
import PyProof.Rows.CountFlat
import HandS.ExcBuiltin
import HandS.SetFor
import HandS.SetKeys
import HandS.TupMul
import OpenK.KOps
import HandS.FStr
import KE.KDictWalk
import HandS.DictSubView0
import KE.KCallOwn
import PySem.Challenge.RW_plansamid_k42_whole_how_many_mergings
set_option Elab.async false
set_option linter.all false
set_option maxRecDepth 100000
set_option exponentiation.threshold 3000
set_option maxHeartbeats 2000000
/-! DL1: data over the hand layer. Frozen data (Rp), owned trees (Ow), the state of a body (Sta), the monad of mirrors. -/
namespace DL
open PySem PySem.Spec PyProof.Rows L2

/-! ### data -/
def keyD : Key → PyData
  | .inl i => .int i
  | .inr x => .str x

mutual
/-- frozen data: v stands for d in the region P -/
inductive Rp (K : PySem.W.Frag) (P : Hp) : V → PyData → Prop
  | non : Rp K P .non .none
  | bl (b : Bool) : Rp K P (.bl b) (.bool b)
  | int (i : Int) : Rp K P (.int i) (.int i)
  | str (x : Str) : Rp K P (.str x) (.str x)
  | lst {a : Addr} {xs : List V} {ds : List PyData} (h : Rd P a (.lst xs)) (t : RpA K P xs ds) : Rp K P (.ref a) (.list ds)
  | tup {a : Addr} {xs : List V} {ds : List PyData} (h : P a = some (.tup xs)) (t : RpA K P xs ds) : Rp K P (.ref a) (.tuple ds)
  | dK {a : Addr} {ks : List Key} {xs : List V} {ds : List PyData} (h : Rd P a (.dK (ks.zip xs))) (hl : ks.length = xs.length) (t : RpA K P xs ds) : Rp K P (.ref a) (.dict ((ks.map keyD).zip ds))
  | dT {a : Addr} {ks : List (List Key)} {xs : List V} {ds : List PyData} (h : Rd P a (.dT (ks.zip xs))) (hl : ks.length = xs.length) (hne : ks ≠ []) (t : RpA K P xs ds) : Rp K P (.ref a) (.dict ((ks.map fun k => .tuple (k.map keyD)).zip ds))
inductive RpA (K : PySem.W.Frag) (P : Hp) : List V → List PyData → Prop
  | nil : RpA K P [] []
  | cons {v : V} {vs : List V} {d : PyData} {ds : List PyData} (h : Rp K P v d) (t : RpA K P vs ds) : RpA K P (v :: vs) (d :: ds)
end

theorem rd_mono {P P' : Hp} (s : Same P P') {a : Addr} {u : HO} (h : Rd P a u) : Rd P' a u := by
  rcases h with h | ⟨o, h⟩
  · exact .inl (s _ _ h)
  · exact .inr ⟨o, s _ _ h⟩
theorem seqT_mono {K : PySem.W.Frag} {P P' : Hp} (s : Same P P') {a : Addr} {xs : List V} (h : P a = some (.tup xs)) : SqT K P' a xs := .inl (.inl (s _ _ h))

mutual
theorem Rp.mono {K : PySem.W.Frag} {P P' : Hp} (s : Same P P') : ∀ {v : V} {d : PyData}, Rp K P v d → Rp K P' v d
  | _, _, .non => .non
  | _, _, .bl b => .bl b
  | _, _, .int i => .int i
  | _, _, .str x => .str x
  | _, _, .lst h t => .lst (rd_mono s h) (RpA.mono s t)
  | _, _, .tup h t => .tup (s _ _ h) (RpA.mono s t)
  | _, _, .dK h hl t => .dK (rd_mono s h) hl (RpA.mono s t)
  | _, _, .dT h hl hne t => .dT (rd_mono s h) hl hne (RpA.mono s t)
theorem RpA.mono {K : PySem.W.Frag} {P P' : Hp} (s : Same P P') : ∀ {vs : List V} {ds : List PyData}, RpA K P vs ds → RpA K P' vs ds
  | _, _, .nil => .nil
  | _, _, .cons h t => .cons (Rp.mono s h) (RpA.mono s t)
end
theorem RpA.length {K : PySem.W.Frag} {P : Hp} : ∀ {vs : List V} {ds : List PyData}, RpA K P vs ds → vs.length = ds.length
  | _, _, .nil => rfl
  | _, _, .cons _ t => by simp [RpA.length t]
theorem RpA.append {K : PySem.W.Frag} {P : Hp} : ∀ {vs ws : List V} {ds es : List PyData}, RpA K P vs ds → RpA K P ws es → RpA K P (vs ++ ws) (ds ++ es)
  | _, _, _, _, .nil, q => q
  | _, _, _, _, .cons h t, q => .cons h (RpA.append t q)
theorem RpA.get {K : PySem.W.Frag} {P : Hp} : ∀ {vs : List V} {ds : List PyData} {i : Nat} {v : V}, RpA K P vs ds → vs[i]? = some v → ∃ d, ds[i]? = some d ∧ Rp K P v d
  | _, _, _, _, .nil, e => by simp at e
  | _, _, 0, _, .cons h _, e => by simp at e; subst e; exact ⟨_, rfl, h⟩
  | _, _, i + 1, _, .cons _ t, e => by
    obtain ⟨d, h1, h2⟩ := RpA.get (i := i) t (by simpa using e)
    exact ⟨d, by simpa using h1, h2⟩
theorem RpA.getD {K : PySem.W.Frag} {P : Hp} : ∀ {vs : List V} {ds : List PyData} {i : Nat} {d : PyData}, RpA K P vs ds → ds[i]? = some d → ∃ v, vs[i]? = some v ∧ Rp K P v d
  | _, _, _, _, .nil, e => by simp at e
  | _, _, 0, _, .cons h _, e => by simp at e; subst e; exact ⟨_, rfl, h⟩
  | _, _, i + 1, _, .cons _ t, e => by
    obtain ⟨d, h1, h2⟩ := RpA.getD (i := i) t (by simpa using e)
    exact ⟨d, by simpa using h1, h2⟩
theorem RpA.take {K : PySem.W.Frag} {P : Hp} : ∀ {vs : List V} {ds : List PyData} (n : Nat), RpA K P vs ds → RpA K P (vs.take n) (ds.take n)
  | _, _, 0, _ => by simpa using RpA.nil
  | _, _, _ + 1, .nil => .nil
  | _, _, n + 1, .cons h t => .cons h (RpA.take n t)
theorem RpA.drop {K : PySem.W.Frag} {P : Hp} : ∀ {vs : List V} {ds : List PyData} (n : Nat), RpA K P vs ds → RpA K P (vs.drop n) (ds.drop n)
  | _, _, 0, h => by simpa using h
  | _, _, _ + 1, .nil => .nil
  | _, _, n + 1, .cons _ t => RpA.drop n t
theorem RpA.reverse {K : PySem.W.Frag} {P : Hp} : ∀ {vs : List V} {ds : List PyData}, RpA K P vs ds → RpA K P vs.reverse ds.reverse
  | _, _, .nil => .nil
  | _, _, .cons h t => by
    rw [List.reverse_cons, List.reverse_cons]
    exact RpA.append (RpA.reverse t) (.cons h .nil)
theorem RpA.set {K : PySem.W.Frag} {P : Hp} {v : V} {d : PyData} (h : Rp K P v d) : ∀ {vs : List V} {ds : List PyData} (i : Nat), RpA K P vs ds → RpA K P (vs.set i v) (ds.set i d)
  | _, _, _, .nil => .nil
  | _, _, 0, .cons _ t => .cons h t
  | _, _, i + 1, .cons q t => .cons q (RpA.set h i t)

/-- an exception's class: of the module, or built in; its one field -/
inductive XC where
  | own (c : Str) | bt (n : String)
  deriving DecidableEq
structure Xn where
  cls : XC
  fld : Option (Str × PyData) := none
/-- the class that an exception of a mirror has; its dict -/
def clsOf (mg : Str → Option Value) (cls : Value) (d : Option Addr) (x : Xn) : Prop := (match x.cls with
  | .own c => ∃ C, mg c = some (.ref C) ∧ cls = .ref C
  | .bt n => cls = .type n) ∧ (x.fld = none → d = none)
/-- a caught exception that is kept -/
def ExcO (cls : Value) (d : Option Addr) (a : Addr) : HO := .ext fun h => ∃ (oe : Obj) (vs : Array Value), h.get? a = some oe ∧ Zc cls d oe ∧ oe.data = .fields vs
/-! ### owned trees: what a slot may hold -/
inductive OD where
  /-- frozen data -/
  | pur (d : PyData)
  /-- a list that nobody else knows -/
  | lst (xs : List OD)
  /-- a tuple of owned things -/
  | tup (xs : List OD)
  | dK (ks : List Key) (xs : List OD)
  | dT (ks : List (List Key)) (xs : List OD)
  /-- an instance of the module's class c -/
  | obj (c : Str) (ns : List Str) (xs : List OD)
  /-- a caught exception -/
  | exn (x : Xn)
  /-- what stands here is owned elsewhere: the object at a -/
  | ref (a : Addr)
  deriving Inhabited

mutual
inductive Ow (K : PySem.W.Frag) (mg : Str → Option Value) (P H : Hp) : List Addr → V → OD → Prop
  | pur {v : V} {d : PyData} (h : Rp K P v d) : Ow K mg P H [] v (.pur d)
  | lst {a : Addr} {F : List Addr} {vs : List V} {xs : List OD} (h : H a = some (.lst vs)) (t : OwL K mg P H F vs xs) : Ow K mg P H (a :: F) (.ref a) (.lst xs)
  | tup {a : Addr} {F : List Addr} {vs : List V} {xs : List OD} (h : P a = some (.tup vs)) (t : OwL K mg P H F vs xs) : Ow K mg P H F (.ref a) (.tup xs)
  | dK {a : Addr} {F : List Addr} {ks : List Key} {vs : List V} {xs : List OD} (h : H a = some (.dK (ks.zip vs))) (hl : ks.length = vs.length) (t : OwL K mg P H F vs xs) : Ow K mg P H (a :: F) (.ref a) (.dK ks xs)
  | dT {a : Addr} {F : List Addr} {ks : List (List Key)} {vs : List V} {xs : List OD} (h : H a = some (.dT (ks.zip vs))) (hl : ks.length = vs.length) (t : OwL K mg P H F vs xs) : Ow K mg P H (a :: F) (.ref a) (.dT ks xs)
  | obj {c : Str} {C a dx : Addr} {F : List Addr} {ns : List Str} {vs : List V} {xs : List OD} (hc : mg c = some (.ref C)) (h : H a = some (.ins C dx (ns.zip vs))) (hx : H dx = some (.own a)) (hl : ns.length = vs.length) (t : OwL K mg P H F vs xs) :
      Ow K mg P H (a :: dx :: F) (.ref a) (.obj c ns xs)
  | exn {a : Addr} {cls : Value} {d : Option Addr} {x : Xn} (hc : clsOf mg cls d x) (h : P a = some (ExcO cls d a)) (hf : ∀ f e, x.fld = some (f, e) → ∃ dd v, d = some dd ∧ P dd = some (.xd [(f, v)]) ∧ Rp K P v e) : Ow K mg P H [] (.ref a) (.exn x)
  | ref {a : Addr} : Ow K mg P H [] (.ref a) (.ref a)
inductive OwL (K : PySem.W.Frag) (mg : Str → Option Value) (P H : Hp) : List Addr → List V → List OD → Prop
  | nil : OwL K mg P H [] [] []
  | cons {F G : List Addr} {v : V} {vs : List V} {x : OD} {xs : List OD} (h : Ow K mg P H F v x) (t : OwL K mg P H G vs xs) : OwL K mg P H (F ++ G) (v :: vs) (x :: xs)
end

mutual
theorem Ow.keep {K : PySem.W.Frag} {mg : Str → Option Value} {P P' H H' : Hp} (s : Same P P') : ∀ {F : List Addr} {v : V} {x : OD}, Ow K mg P H F v x → (∀ a ∈ F, ∀ o, H a = some o → H' a = some o) → Ow K mg P' H' F v x
  | _, _, _, .pur h, _ => .pur (h.mono s)
  | _, _, _, .lst h t, k => .lst (k _ (by simp) _ h) (OwL.keep s t fun a ha => k a (by simp [ha]))
  | _, _, _, .tup h t, k => .tup (s _ _ h) (OwL.keep s t k)
  | _, _, _, .dK h hl t, k => .dK (k _ (by simp) _ h) hl (OwL.keep s t fun a ha => k a (by simp [ha]))
  | _, _, _, .dT h hl t, k => .dT (k _ (by simp) _ h) hl (OwL.keep s t fun a ha => k a (by simp [ha]))
  | _, _, _, .obj hc h hx hl t, k => .obj hc (k _ (by simp) _ h) (k _ (by simp) _ hx) hl (OwL.keep s t fun a ha => k a (by simp [ha]))
  | _, _, _, .exn hc h hf, _ => .exn hc (s _ _ h) fun f e z => let ⟨dd, v, h1, h2, h3⟩ := hf f e z; ⟨dd, v, h1, s _ _ h2, h3.mono s⟩
  | _, _, _, .ref, _ => .ref
theorem OwL.keep {K : PySem.W.Frag} {mg : Str → Option Value} {P P' H H' : Hp} (s : Same P P') : ∀ {F : List Addr} {vs : List V} {xs : List OD}, OwL K mg P H F vs xs → (∀ a ∈ F, ∀ o, H a = some o → H' a = some o) → OwL K mg P' H' F vs xs
  | _, _, _, .nil, _ => .nil
  | _, _, _, .cons h t, k => .cons (Ow.keep s h fun a ha => k a (by simp [ha])) (OwL.keep s t fun a ha => k a (by simp [ha]))
end
mutual
theorem Ow.there {K : PySem.W.Frag} {mg : Str → Option Value} {P H : Hp} : ∀ {F : List Addr} {v : V} {x : OD}, Ow K mg P H F v x → ∀ a ∈ F, ∃ o, H a = some o
  | _, _, _, .pur _, _, q => nomatch q
  | _, _, _, .exn _ _ _, _, q => nomatch q
  | _, _, _, .tup _ t, a, q => OwL.there t a q
  | _, _, _, .ref, _, q => nomatch q
  | _, _, _, .lst h t, a, q => by
    rcases List.mem_cons.mp q with rfl | q
    · exact ⟨_, h⟩
    · exact OwL.there t a q
  | _, _, _, .dK h hl t, a, q => by
    rcases List.mem_cons.mp q with rfl | q
    · exact ⟨_, h⟩
    · exact OwL.there t a q
  | _, _, _, .dT h hl t, a, q => by
    rcases List.mem_cons.mp q with rfl | q
    · exact ⟨_, h⟩
    · exact OwL.there t a q
  | _, _, _, .obj _ h hx hl t, a, q => by
    rcases List.mem_cons.mp q with rfl | q
    · exact ⟨_, h⟩
    · rcases List.mem_cons.mp q with rfl | q
      · exact ⟨_, hx⟩
      · exact OwL.there t a q
theorem OwL.there {K : PySem.W.Frag} {mg : Str → Option Value} {P H : Hp} : ∀ {F : List Addr} {vs : List V} {xs : List OD}, OwL K mg P H F vs xs → ∀ a ∈ F, ∃ o, H a = some o
  | _, _, _, .nil, _, q => nomatch q
  | _, _, _, .cons h t, a, q => by
    rcases List.mem_append.mp q with q | q
    · exact Ow.there h a q
    · exact OwL.there t a q
end
mutual
theorem Ow.notup {K : PySem.W.Frag} {mg : Str → Option Value} {P H : Hp} : ∀ {F : List Addr} {v : V} {x : OD}, Ow K mg P H F v x → ∀ a ∈ F, ∀ xs, H a ≠ some (.tup xs)
  | _, _, _, .pur _, _, q => nomatch q
  | _, _, _, .exn _ _ _, _, q => nomatch q
  | _, _, _, .tup _ t, a, q => OwL.notup t a q
  | _, _, _, .ref, _, q => nomatch q
  | _, _, _, .lst h t, a, q => by
    rcases List.mem_cons.mp q with rfl | q
    · intro xs e; rw [h] at e; cases e
    · exact OwL.notup t a q
  | _, _, _, .dK h hl t, a, q => by
    rcases List.mem_cons.mp q with rfl | q
    · intro xs e; rw [h] at e; cases e
    · exact OwL.notup t a q
  | _, _, _, .dT h hl t, a, q => by
    rcases List.mem_cons.mp q with rfl | q
    · intro xs e; rw [h] at e; cases e
    · exact OwL.notup t a q
  | _, _, _, .obj _ h hx hl t, a, q => by
    rcases List.mem_cons.mp q with rfl | q
    · intro xs e; rw [h] at e; cases e
    · rcases List.mem_cons.mp q with rfl | q
      · intro xs e; rw [hx] at e; cases e
      · exact OwL.notup t a q
theorem OwL.notup {K : PySem.W.Frag} {mg : Str → Option Value} {P H : Hp} : ∀ {F : List Addr} {vs : List V} {xs : List OD}, OwL K mg P H F vs xs → ∀ a ∈ F, ∀ xs, H a ≠ some (.tup xs)
  | _, _, _, .nil, _, q => nomatch q
  | _, _, _, .cons h t, a, q => by
    rcases List.mem_append.mp q with q | q
    · exact Ow.notup h a q
    · exact OwL.notup t a q
end
mutual
theorem Ow.noext {K : PySem.W.Frag} {mg : Str → Option Value} {P H : Hp} : ∀ {F : List Addr} {v : V} {x : OD}, Ow K mg P H F v x → ∀ a ∈ F, ∀ φ, H a ≠ some (.ext φ)
  | _, _, _, .pur _, _, q => nomatch q
  | _, _, _, .exn _ _ _, _, q => nomatch q
  | _, _, _, .tup _ t, a, q => OwL.noext t a q
  | _, _, _, .ref, _, q => nomatch q
  | _, _, _, .lst h t, a, q => by
    rcases List.mem_cons.mp q with rfl | q
    · intro φ e; rw [h] at e; cases e
    · exact OwL.noext t a q
  | _, _, _, .dK h hl t, a, q => by
    rcases List.mem_cons.mp q with rfl | q
    · intro φ e; rw [h] at e; cases e
    · exact OwL.noext t a q
  | _, _, _, .dT h hl t, a, q => by
    rcases List.mem_cons.mp q with rfl | q
    · intro φ e; rw [h] at e; cases e
    · exact OwL.noext t a q
  | _, _, _, .obj _ h hx hl t, a, q => by
    rcases List.mem_cons.mp q with rfl | q
    · intro φ e; rw [h] at e; cases e
    · rcases List.mem_cons.mp q with rfl | q
      · intro φ e; rw [hx] at e; cases e
      · exact OwL.noext t a q
theorem OwL.noext {K : PySem.W.Frag} {mg : Str → Option Value} {P H : Hp} : ∀ {F : List Addr} {vs : List V} {xs : List OD}, OwL K mg P H F vs xs → ∀ a ∈ F, ∀ φ, H a ≠ some (.ext φ)
  | _, _, _, .nil, _, q => nomatch q
  | _, _, _, .cons h t, a, q => by
    rcases List.mem_append.mp q with q | q
    · exact Ow.noext h a q
    · exact OwL.noext t a q
end
theorem OwL.length {K : PySem.W.Frag} {mg : Str → Option Value} {P H : Hp} : ∀ {F : List Addr} {vs : List V} {xs : List OD}, OwL K mg P H F vs xs → vs.length = xs.length
  | _, _, _, .nil => rfl
  | _, _, _, .cons _ t => by simp [OwL.length t]

/-- the region P with what H has at G -/
def joinR (P H : Hp) (G : List Addr) : Hp := fun a => if a ∈ G then H a else P a
theorem joinR_in {P H : Hp} {G : List Addr} {a : Addr} (h : a ∈ G) : joinR P H G a = H a := by unfold joinR; rw [if_pos h]
theorem joinR_out {P H : Hp} {G : List Addr} {a : Addr} (h : a ∉ G) : joinR P H G a = P a := by unfold joinR; rw [if_neg h]
theorem joinR_same {P H : Hp} {G : List Addr} (ph : Same P H) : Same P (joinR P H G) := fun b o e => by
  by_cases h : b ∈ G
  · rw [joinR_in h]; exact ph b o e
  · rw [joinR_out h]; exact e
theorem joinR_sub {P H : Hp} {G : List Addr} (ph : Same P H) : Same (joinR P H G) H := fun b o e => by
  by_cases h : b ∈ G
  · rw [joinR_in h] at e; exact e
  · rw [joinR_out h] at e; exact ph b o e

mutual
/-- what an owned tree is as data, if no instance stands in it -/
def OD.data : OD → Option PyData
  | .pur d => some d
  | .lst xs => (OD.dataL xs).map .list
  | .tup xs => (OD.dataL xs).map .tuple
  | .dK ks xs => (OD.dataL xs).map fun ds => .dict ((ks.map keyD).zip ds)
  | .dT ks xs => if ks.isEmpty then none else (OD.dataL xs).map fun ds => .dict ((ks.map fun k => .tuple (k.map keyD)).zip ds)
  | .obj _ _ _ => none
  | .exn _ => none
  | .ref _ => none
def OD.dataL : List OD → Option (List PyData)
  | [] => some []
  | x :: xs => match OD.data x, OD.dataL xs with
    | some d, some ds => some (d :: ds)
    | _, _ => none
end

mutual
theorem Ow.frozen {K : PySem.W.Frag} {mg : Str → Option Value} {P H Q : Hp} (s : Same P Q) : ∀ {F : List Addr} {v : V} {x : OD} {d : PyData}, Ow K mg P H F v x → (∀ a ∈ F, ∀ o, H a = some o → Q a = some o) → x.data = some d → Rp K Q v d
  | _, _, _, _, .pur h, _, e => by
    simp only [OD.data, Option.some.injEq] at e
    subst e
    exact h.mono s
  | _, _, .lst xs, _, .lst h t, k, e => by
    unfold OD.data at e
    cases q : OD.dataL xs with
    | none => rw [q] at e; cases e
    | some ds =>
      rw [q] at e
      cases e
      exact .lst (.inl (k _ (by simp) _ h)) (OwL.frozen s t (fun a ha => k a (by simp [ha])) q)
  | _, _, .tup xs, _, .tup h t, k, e => by
    unfold OD.data at e
    cases q : OD.dataL xs with
    | none => rw [q] at e; cases e
    | some ds =>
      rw [q] at e
      cases e
      exact .tup (s _ _ h) (OwL.frozen s t k q)
  | _, _, .dK ks xs, _, .dK h hl t, k, e => by
    unfold OD.data at e
    cases q : OD.dataL xs with
    | none => rw [q] at e; cases e
    | some ds =>
      rw [q] at e
      cases e
      exact .dK (.inl (k _ (by simp) _ h)) hl (OwL.frozen s t (fun a ha => k a (by simp [ha])) q)
  | _, _, .dT ks xs, _, .dT h hl t, k, e => by
    unfold OD.data at e
    split at e
    · cases e
    rename_i hne
    cases q : OD.dataL xs with
    | none => rw [q] at e; cases e
    | some ds =>
      rw [q] at e
      cases e
      exact .dT (.inl (k _ (by simp) _ h)) hl (fun z => hne (by rw [z]; rfl)) (OwL.frozen s t (fun a ha => k a (by simp [ha])) q)
  | _, _, _, _, .obj _ _ _ _ _, _, e => by
    simp only [OD.data] at e
    cases e
  | _, _, _, _, .exn _ _ _, _, e => by
    simp only [OD.data] at e
    cases e
  | _, _, _, _, .ref, _, e => by
    simp only [OD.data] at e
    cases e
theorem OwL.frozen {K : PySem.W.Frag} {mg : Str → Option Value} {P H Q : Hp} (s : Same P Q) : ∀ {F : List Addr} {vs : List V} {xs : List OD} {ds : List PyData}, OwL K mg P H F vs xs → (∀ a ∈ F, ∀ o, H a = some o → Q a = some o) → OD.dataL xs = some ds → RpA K Q vs ds
  | _, _, _, _, .nil, _, e => by
    simp only [OD.dataL, Option.some.injEq] at e
    subst e
    exact .nil
  | _, _, x :: xs, _, .cons h t, k, e => by
    unfold OD.dataL at e
    cases q1 : OD.data x with
    | none => rw [q1] at e; cases e
    | some d =>
      cases q2 : OD.dataL xs with
      | none => rw [q1, q2] at e; cases e
      | some ds =>
        rw [q1, q2] at e
        cases e
        exact .cons (Ow.frozen s h (fun a ha => k a (by simp [ha])) q1) (OwL.frozen s t (fun a ha => k a (by simp [ha])) q2)
end

/-! ### mirrors -/
abbrev DEnv := List (Option OD)
inductive Rs (α : Type) where
  | ok (a : α) (e : DEnv)
  | ex (x : Xn) (e : DEnv)
  /-- not covered -/
  | no
abbrev M (α : Type) := DEnv → Rs α
def M.pure {α : Type} (a : α) : M α := fun e => .ok a e
def M.bind {α β : Type} (m : M α) (f : α → M β) : M β := fun e => match m e with
  | .ok a e' => f a e'
  | .ex x e' => .ex x e'
  | .no => .no
instance : Monad M where
  pure := M.pure
  bind := M.bind
def M.fail {α : Type} : M α := fun _ => .no
def M.opt {α : Type} (o : Option α) : M α := match o with
  | some a => M.pure a
  | none => M.fail
/-- how a statement ends -/
inductive Flw where
  | nx | bk | ct | rt (x : OD)

/-! ### the tables of code objects that lambdas are noted in -/
/-- a code object's table, and the name of its lambdas -/
def tabOf (o : Obj) : Option (Addr × Str) := if o.cls = .type "code" then (match o.data with
  | .fields vs => (match vs[1]?, vs[11]? with
    | some (Value.str q _), some (Value.ref p) => some (p, q ++ ".<locals>." ++ "<lambda>")
    | _, _ => none)
  | _ => none) else none
def tabsOf (K : PySem.W.Frag) : List (Addr × Str) := K.filterMap fun p => tabOf p.2
def TbA (K : PySem.W.Frag) : List Addr := (tabsOf K).map Prod.fst
/-- H has what R has, but at the tables -/
def SameX (K : PySem.W.Frag) (R H : Hp) : Prop := ∀ a o, R a = some o → a ∉ TbA K → H a = some o
theorem SameX.trans {K : PySem.W.Frag} {R H H' : Hp} (a : SameX K R H) (b : Same H H') : SameX K R H' := fun c o h n => b _ _ (a c o h n)
theorem SameX.of {K : PySem.W.Frag} {R H : Hp} (a : Same R H) : SameX K R H := fun c o h _ => a c o h
theorem Same.transX {K : PySem.W.Frag} {R R' H : Hp} (a : Same R R') (b : SameX K R' H) : SameX K R H := fun c o h n => b c o (a c o h) n
/-! ### the state of a body -/
/-- bv i: the object handed in by reference as the i-th argument (i in B). R: what belongs to those who called, kept as it is; P: frozen data; Fs i: what the slot i owns -/
structure Sta (K : PySem.W.Frag) (mg : Str → Option Value) (B : List Nat) (bv : Nat → V) (R P H : Hp) (Fs : Nat → List Addr) (σ : L2.St) (env : DEnv) : Prop where
  rh : SameX K R H
  tb : ∀ p ∈ tabsOf K, LamX.TabS H p.1 p.2 ∧ R p.1 ≠ none
  ph : Same P H
  rp : ∀ a, R a ≠ none → P a = none
  slot : ∀ (i : Nat) (x : OD), env[i]? = some (some x) → ∃ v, σ[i]? = some (some v) ∧ Ow K mg P H (Fs i) v x
  dead : ∀ i : Nat, (∀ x, env[i]? ≠ some (some x)) → Fs i = []
  nd : ∀ i, (Fs i).Nodup
  dj : ∀ i j a, i ≠ j → a ∈ Fs i → a ∉ Fs j
  fr : ∀ i a, a ∈ Fs i → R a = none
  fp : ∀ i a, a ∈ Fs i → P a = none
  len : σ.length = env.length
  pin : ∀ i ∈ B, σ[i]? = some (some (bv i))
  nt : ∀ a xs, R a ≠ some (.tup xs)

/-- the heap has grown by new things, some of them frozen -/
structure Ext (P H P' H' : Hp) : Prop where
  hh : Same H H'
  pp : Same P P'
  ph : Same P' H'
  new : ∀ a, P' a ≠ none → P a ≠ none ∨ H a = none ∨ ∃ xs, H a = some (.tup xs)

section
variable {K : PySem.W.Frag} {mg : Str → Option Value} {B : List Nat} {bv : Nat → V} {R P H P' H' P2 H2 : Hp} {Fs : Nat → List Addr} {σ : L2.St} {env : DEnv}
theorem Ext.refl (ph : Same P H) : Ext P H P H := ⟨Same.refl _, Same.refl _, ph, fun _ h => .inl h⟩
theorem Ext.trans (a : Ext P H P' H') (b : Ext P' H' P2 H2) : Ext P H P2 H2 := ⟨a.hh.trans b.hh, a.pp.trans b.pp, b.ph, fun c h => by
  rcases b.new c h with h | h
  · exact a.new c h
  · rcases h with h | ⟨xs, h⟩
    · exact .inr (.inl (a.hh.free h))
    · cases q : H c with
      | none => exact .inr (.inl rfl)
      | some o =>
        have := a.hh _ _ q
        rw [h] at this
        cases this
        exact .inr (.inr ⟨_, rfl⟩)⟩
theorem Sta.nota (S : Sta K mg B bv R P H Fs σ env) {a : Addr} (h : R a = none) : a ∉ TbA K := fun z => by
  obtain ⟨p, hp, rfl⟩ := List.mem_map.mp z
  exact (S.tb p hp).2 h
theorem Sta.tbl (S : Sta K mg B bv R P H Fs σ env) {a : Addr} (h : a ∈ TbA K) : ∃ ps, H a = some (.tbl ps) := by
  obtain ⟨p, hp, rfl⟩ := List.mem_map.mp h
  obtain ⟨ps, e, _⟩ := (S.tb p hp).1
  exact ⟨ps, e⟩
theorem Sta.free (S : Sta K mg B bv R P H Fs σ env) {a : Addr} (h : H a = none) : R a = none := by
  cases q : R a with
  | none => rfl
  | some o =>
    by_cases z : a ∈ TbA K
    · obtain ⟨ps, e⟩ := S.tbl z
      rw [h] at e
      cases e
    · rw [S.rh a o q z] at h
      cases h
theorem Sta.ext (S : Sta K mg B bv R P H Fs σ env) (e : Ext P H P' H') : Sta K mg B bv R P' H' Fs σ env where
  rh := S.rh.trans e.hh
  tb := fun p hp => ⟨(S.tb p hp).1.ext e.hh, (S.tb p hp).2⟩
  ph := e.ph
  rp := fun a h => by
    cases q : P' a with
    | none => rfl
    | some o =>
      rcases e.new a (by rw [q]; simp) with z | z
      · exact absurd (S.rp a h) z
      · cases r : R a with
        | none => exact absurd r h
        | some u =>
          rcases z with z | ⟨xs, z⟩
          · rw [S.free z] at r; cases r
          · have := S.rh _ _ r fun y => by
              obtain ⟨ps, e⟩ := S.tbl y
              rw [z] at e
              cases e
            rw [z] at this; cases this
            exact absurd r (S.nt a xs)
  slot := fun i x h => by
    obtain ⟨v, h1, h2⟩ := S.slot i x h
    exact ⟨v, h1, h2.keep e.pp fun a _ o => e.hh a o⟩
  dead := S.dead
  nd := S.nd
  dj := S.dj
  fr := S.fr
  fp := fun i a h => by
    cases q : P' a with
    | none => rfl
    | some o =>
      rcases e.new a (by rw [q]; simp) with z | z
      · exact absurd (S.fp i a h) z
      · cases hx : env[i]? with
        | none => rw [S.dead i fun x z => by rw [hx] at z; cases z] at h; cases h
        | some ox =>
          cases ox with
          | none => rw [S.dead i fun x z => by rw [hx] at z; cases z] at h; cases h
          | some x =>
            obtain ⟨v, _, h2⟩ := S.slot i x hx
            obtain ⟨o, ho⟩ := h2.there a h
            rcases z with z | ⟨xs, z⟩
            · rw [z] at ho; cases ho
            · exact absurd z (h2.notup a h xs)
  len := S.len
  pin := S.pin
  nt := S.nt
theorem Sta.there (S : Sta K mg B bv R P H Fs σ env) {i : Nat} {a : Addr} (h : a ∈ Fs i) : ∃ o, H a = some o := by
  cases hx : env[i]? with
  | none => rw [S.dead i fun x z => by rw [hx] at z; cases z] at h; cases h
  | some ox =>
    cases ox with
    | none => rw [S.dead i fun x z => by rw [hx] at z; cases z] at h; cases h
    | some x =>
      obtain ⟨v, _, h2⟩ := S.slot i x hx
      exact h2.there a h
theorem Sta.notup (S : Sta K mg B bv R P H Fs σ env) {i : Nat} {a : Addr} (h : a ∈ Fs i) (xs : List V) : H a ≠ some (.tup xs) := by
  cases hx : env[i]? with
  | none => rw [S.dead i fun x z => by rw [hx] at z; cases z] at h; cases h
  | some ox =>
    cases ox with
    | none => rw [S.dead i fun x z => by rw [hx] at z; cases z] at h; cases h
    | some x =>
      obtain ⟨v, _, h2⟩ := S.slot i x hx
      exact h2.notup a h xs
theorem Sta.noext (S : Sta K mg B bv R P H Fs σ env) {i : Nat} {a : Addr} (h : a ∈ Fs i) (φ : Heap → Prop) : H a ≠ some (.ext φ) := by
  cases hx : env[i]? with
  | none => rw [S.dead i fun x z => by rw [hx] at z; cases z] at h; cases h
  | some ox =>
    cases ox with
    | none => rw [S.dead i fun x z => by rw [hx] at z; cases z] at h; cases h
    | some x =>
      obtain ⟨v, _, h2⟩ := S.slot i x hx
      exact h2.noext a h φ
/-- a new frozen object -/
theorem ext_new (ph : Same P H) {p : Addr} (o : HO) (hp : H p = none) : Ext P H (upd P p o) (upd H p o) where
  hh := fun b u e => by rw [upd_ne (ne_of_none e hp)]; exact e
  pp := fun b u e => by rw [upd_ne (ne_of_none (ph _ _ e) hp)]; exact e
  ph := fun b u e => by
    by_cases h : b = p
    · subst h; rw [upd_same] at e ⊢; exact e
    · rw [upd_ne h] at e ⊢; exact ph _ _ e
  new := fun a h => by
    by_cases q : a = p
    · subst q; exact .inr (.inl hp)
    · rw [upd_ne q] at h; exact .inl h
/-- a new object that is not frozen (yet) -/
theorem ext_heap (ph : Same P H) {p : Addr} (o : HO) (hp : H p = none) : Ext P H P (upd H p o) where
  hh := fun b u e => by rw [upd_ne (ne_of_none e hp)]; exact e
  pp := Same.refl _
  ph := fun b u e => by rw [upd_ne (ne_of_none (ph _ _ e) hp)]; exact ph _ _ e
  new := fun a h => .inl h
end
end DL

set_option maxHeartbeats 2000000
/-! DL2: the judgements over mirrors, and how they go together. -/
namespace DL
open PySem PySem.Spec PyProof.Rows L2

/-! ### the judgements -/
section
variable (K : PySem.W.Frag) (mg : Str → Option Value) (W : WX) (B : List Nat)
/-- the exception x of a mirror, as it lies -/
def XnIs (P H : Hp) (x : Xn) (cls : Value) (d : Option Addr) : Prop :=
  (match x.cls with
    | .own c => ∃ C, mg c = some (.ref C) ∧ cls = .ref C
    | .bt n => cls = .type n) ∧
  (match x.fld with
    | none => d = none
    | some (f, e) => ∃ a v, d = some a ∧ P a = some (.xd [(f, v)]) ∧ Rp K P v e)
def post {α : Type} (r : Rs α) (ok : α → DEnv → Prop) (ex : Xn → DEnv → Prop) : Prop := match r with
  | .ok a e => ok a e
  | .ex x e => ex x e
  | .no => False
variable (bv : Nat → V) (R P : Hp)
/-- what a temporary owns is nobody else's -/
structure Free (P : Hp) (Fs : Nat → List Addr) (G : List Addr) : Prop where
  nd : G.Nodup
  r : ∀ a ∈ G, R a = none
  p : ∀ a ∈ G, P a = none
  f : ∀ a ∈ G, ∀ i, a ∉ Fs i
def OkT {α : Type} (σ : L2.St) (Q : α → Hp → Prop) : α → DEnv → Prop := fun a env' => ∀ P' H' Fs', Sta K mg B bv R P' H' Fs' σ env' → Same P P' → Q a H'
def OkD (σ : L2.St) (Q : VK) : PyData → DEnv → Prop := fun d env' => ∀ v P' H' Fs', Sta K mg B bv R P' H' Fs' σ env' → Same P P' → Rp K P' v d → Q v H'
def OkL (σ : L2.St) (Q : List V → Hp → Prop) : List PyData → DEnv → Prop := fun ds env' => ∀ vs P' H' Fs', Sta K mg B bv R P' H' Fs' σ env' → Same P P' → RpA K P' vs ds → Q vs H'
def OkO (σ : L2.St) (Q : VK) : OD → DEnv → Prop := fun x env' => ∀ v P' H' Fs' G, Sta K mg B bv R P' H' Fs' σ env' → Same P P' → Ow K mg P' H' G v x → Free R P' Fs' G → Q v H'
def ExD (σ : L2.St) : Xn → DEnv → Prop := fun x env' => ∀ cls dx P' H' Fs', Sta K mg B bv R P' H' Fs' σ env' → Same P P' → XnIs K mg P' H' x cls dx → W cls dx σ H'
end
section
variable (K : PySem.W.Frag) (mg : Str → Option Value) (W : WX) (B : List Nat)
def tD (m : M PyData) : TE := fun σ H Q => ∃ bv R P Fs env, Sta K mg B bv R P H Fs σ env ∧ post (m env) (OkD K mg B bv R P σ Q) (ExD K mg W B bv R P σ)
def tO (m : M OD) : TE := fun σ H Q => ∃ bv R P Fs env, Sta K mg B bv R P H Fs σ env ∧ post (m env) (OkO K mg B bv R P σ Q) (ExD K mg W B bv R P σ)
def tL (m : M (List PyData)) : TA := fun σ H Q => ∃ bv R P Fs env, Sta K mg B bv R P H Fs σ env ∧ post (m env) (OkL K mg B bv R P σ Q) (ExD K mg W B bv R P σ)
def tT (m : M Bool) : TT := fun σ H Q => ∃ bv R P Fs env, Sta K mg B bv R P H Fs σ env ∧ post (m env) (OkT K mg B bv R P σ Q) (ExD K mg W B bv R P σ)
/-- a statement: the slots may be stored -/
def OkS (bv : Nat → V) (R P : Hp) (D : Ends) : Flw → DEnv → Prop := fun f env' => match f with
  | .nx => ∀ σ' P' H' Fs', Sta K mg B bv R P' H' Fs' σ' env' → Same P P' → D.nx σ' H'
  | .bk => ∀ σ' P' H' Fs', Sta K mg B bv R P' H' Fs' σ' env' → Same P P' → D.bk σ' H'
  | .ct => ∀ σ' P' H' Fs', Sta K mg B bv R P' H' Fs' σ' env' → Same P P' → D.ct σ' H'
  | .rt x => ∀ v σ' P' H' Fs' G, Sta K mg B bv R P' H' Fs' σ' env' → Same P P' → Ow K mg P' H' G v x → Free R P' Fs' G → D.rt v H'
def ExS (bv : Nat → V) (R P : Hp) : Xn → DEnv → Prop := fun x env' => ∀ cls dx σ' P' H' Fs', Sta K mg B bv R P' H' Fs' σ' env' → Same P P' → XnIs K mg P' H' x cls dx → W cls dx σ' H'
def tS (m : M Flw) : TS := fun D σ H => ∃ bv R P Fs env, Sta K mg B bv R P H Fs σ env ∧ post (m env) (OkS K mg B bv R P D) (ExS K mg W B bv R P)
end

/-- an expression whose value is frozen data; an owned tree; arguments; a test; a statement; a block -/
abbrev ED (X : Cx) (W : WX) (B : List Nat) (e : Expr) (m : M PyData) : Prop := PE X e (tD X.K X.mg W B m)
abbrev EO (X : Cx) (W : WX) (B : List Nat) (e : Expr) (m : M OD) : Prop := PE X e (tO X.K X.mg W B m)
abbrev AD (X : Cx) (W : WX) (B : List Nat) (es : List Expr) (m : M (List PyData)) : Prop := PA X es (tL X.K X.mg W B m)
abbrev TD (X : Cx) (W : WX) (B : List Nat) (e : Expr) (m : M Bool) : Prop := PT X e (tT X.K X.mg W B m)
abbrev SD (X : Cx) (W : WX) (B : List Nat) (s : Stmt) (m : M Flw) : Prop := PS X s (tS X.K X.mg W B m)
abbrev SDs (X : Cx) (W : WX) (B : List Nat) (ss : List Stmt) (m : M Flw) : Prop := PSs X ss (tS X.K X.mg W B m)

theorem PE_mono {X : Cx} {e : Expr} {t t' : TE} (h : PE X e t) (i : ∀ σ H Q, t' σ H Q → t σ H Q) : PE X e t' := ⟨fun pins s σ H Q I q => h.run pins s σ H Q I (i σ H Q q)⟩
theorem PT_mono {X : Cx} {e : Expr} {t t' : TT} (h : PT X e t) (i : ∀ σ H Q, t' σ H Q → t σ H Q) : PT X e t' := ⟨fun pins s σ H Q I q => h.run pins s σ H Q I (i σ H Q q)⟩
theorem PW_mono {X : Cx} {e : Expr} {t t' : TT} (h : PW X e t) (i : ∀ σ H Q, t' σ H Q → t σ H Q) : PW X e t' := ⟨fun wh pins s σ H Q I q => h.run wh pins s σ H Q I (i σ H Q q)⟩
theorem PA_mono {X : Cx} {es : List Expr} {t t' : TA} (h : PA X es t) (i : ∀ σ H Q, t' σ H Q → t σ H Q) : PA X es t' := ⟨fun pos pins s σ H Q I q => h.run pos pins s σ H Q I (i σ H Q q)⟩
theorem PS_mono {X : Cx} {st : Stmt} {t t' : TS} (h : PS X st t) (i : ∀ D σ H, t' D σ H → t D σ H) : PS X st t' := ⟨fun pins s σ H D I q => h.run pins s σ H D I (i D σ H q)⟩
theorem PSs_mono {X : Cx} {st : List Stmt} {t t' : TS} (h : PSs X st t) (i : ∀ D σ H, t' D σ H → t D σ H) : PSs X st t' := ⟨fun pins s σ H D I q => h.run pins s σ H D I (i D σ H q)⟩

section
variable {K : PySem.W.Frag} {mg : Str → Option Value} {W : WX} {B : List Nat} {bv : Nat → V} {R P P0 H P' H' : Hp} {Fs Fs' : Nat → List Addr} {σ : L2.St} {env : DEnv}

theorem ExD.mono {x : Xn} {e : DEnv} (s : Same P0 P) (h : ExD K mg W B bv R P0 σ x e) : ExD K mg W B bv R P σ x e := fun cls dx P' H' Fs' S s' q => h cls dx P' H' Fs' S (s.trans s') q
theorem ExS.mono {x : Xn} {e : DEnv} (s : Same P0 P) (h : ExS K mg W B bv R P0 x e) : ExS K mg W B bv R P x e := fun cls dx σ' P' H' Fs' S s' q => h cls dx σ' P' H' Fs' S (s.trans s') q
theorem ExS.d {x : Xn} {e : DEnv} (h : ExS K mg W B bv R P x e) : ExD K mg W B bv R P σ x e := fun cls dx P' H' Fs' S s' q => h cls dx σ P' H' Fs' S s' q

/-- a part runs first; what comes behind it goes on -/
theorem bindD {α β : Type} {m : M α} {f : α → M β} {okα : α → DEnv → Prop} {okβ : β → DEnv → Prop} {ex : Xn → DEnv → Prop} {ex2 : Xn → DEnv → Prop} (h : post (M.bind m f env) okβ ex) (k : ∀ a e, post (f a e) okβ ex → okα a e) (kx : ∀ x e, ex x e → ex2 x e) : post (m env) okα ex2 := by
  unfold M.bind at h
  cases q : m env with
  | ok a e => rw [q] at h; exact k a e h
  | ex x e => rw [q] at h; exact kx x e h
  | no => rw [q] at h; exact h.elim

theorem tD_bind {β : Type} {m : M PyData} {f : PyData → M β} {okβ : β → DEnv → Prop} {Q : VK} (s0 : Same P0 P) (S : Sta K mg B bv R P H Fs σ env) (h : post (M.bind m f env) okβ (ExD K mg W B bv R P0 σ))
    (k : ∀ d env1 v P1 H1 Fs1, Sta K mg B bv R P1 H1 Fs1 σ env1 → Same P P1 → Rp K P1 v d → post (f d env1) okβ (ExD K mg W B bv R P0 σ) → Q v H1) : tD K mg W B m σ H Q :=
  ⟨bv, R, P, Fs, env, S, bindD h (fun d e q v P1 H1 Fs1 S1 s1 r1 => k d e v P1 H1 Fs1 S1 s1 r1 q) fun _ _ q => q.mono s0⟩
theorem tL_bind {β : Type} {m : M (List PyData)} {f : List PyData → M β} {okβ : β → DEnv → Prop} {Q : List V → Hp → Prop} (s0 : Same P0 P) (S : Sta K mg B bv R P H Fs σ env) (h : post (M.bind m f env) okβ (ExD K mg W B bv R P0 σ))
    (k : ∀ d env1 v P1 H1 Fs1, Sta K mg B bv R P1 H1 Fs1 σ env1 → Same P P1 → RpA K P1 v d → post (f d env1) okβ (ExD K mg W B bv R P0 σ) → Q v H1) : tL K mg W B m σ H Q :=
  ⟨bv, R, P, Fs, env, S, bindD h (fun d e q v P1 H1 Fs1 S1 s1 r1 => k d e v P1 H1 Fs1 S1 s1 r1 q) fun _ _ q => q.mono s0⟩
theorem tT_bind {β : Type} {m : M Bool} {f : Bool → M β} {okβ : β → DEnv → Prop} {Q : Bool → Hp → Prop} (s0 : Same P0 P) (S : Sta K mg B bv R P H Fs σ env) (h : post (M.bind m f env) okβ (ExD K mg W B bv R P0 σ))
    (k : ∀ d env1 P1 H1 Fs1, Sta K mg B bv R P1 H1 Fs1 σ env1 → Same P P1 → post (f d env1) okβ (ExD K mg W B bv R P0 σ) → Q d H1) : tT K mg W B m σ H Q :=
  ⟨bv, R, P, Fs, env, S, bindD h (fun d e q P1 H1 Fs1 S1 s1 => k d e P1 H1 Fs1 S1 s1 q) fun _ _ q => q.mono s0⟩
theorem tO_bind {β : Type} {m : M OD} {f : OD → M β} {okβ : β → DEnv → Prop} {Q : VK} (s0 : Same P0 P) (S : Sta K mg B bv R P H Fs σ env) (h : post (M.bind m f env) okβ (ExD K mg W B bv R P0 σ))
    (k : ∀ x env1 v P1 H1 Fs1 G, Sta K mg B bv R P1 H1 Fs1 σ env1 → Same P P1 → Ow K mg P1 H1 G v x → Free R P1 Fs1 G → post (f x env1) okβ (ExD K mg W B bv R P0 σ) → Q v H1) : tO K mg W B m σ H Q :=
  ⟨bv, R, P, Fs, env, S, bindD h (fun d e q v P1 H1 Fs1 G S1 s1 r1 f1 => k d e v P1 H1 Fs1 G S1 s1 r1 f1 q) fun _ _ q => q.mono s0⟩

theorem Sta.dh (S : Sta K mg B bv R P H Fs σ env) {p : Addr} (hp : H p = none) : R p = none ∧ P p = none ∧ ∀ i, p ∉ Fs i := by
  refine ⟨S.free hp, S.ph.free hp, fun i h => ?_⟩
  obtain ⟨o, e⟩ := S.there h
  rw [hp] at e; cases e
/-- what a temporary owns is frozen -/
theorem Sta.freeze {G : List Addr} (S : Sta K mg B bv R P H Fs σ env) (f : Free R P Fs G) : Sta K mg B bv R (joinR P H G) H Fs σ env where
  rh := S.rh
  tb := S.tb
  ph := joinR_sub S.ph
  rp := fun a h => by
    by_cases q : a ∈ G
    · exact absurd (f.r a q) h
    · rw [joinR_out q]; exact S.rp a h
  slot := fun i x h => by
    obtain ⟨v, h1, h2⟩ := S.slot i x h
    exact ⟨v, h1, h2.keep (joinR_same S.ph) fun _ _ _ e => e⟩
  dead := S.dead
  nd := S.nd
  dj := S.dj
  fr := S.fr
  fp := fun i a h => by
    by_cases q : a ∈ G
    · exact absurd h (f.f a q i)
    · rw [joinR_out q]; exact S.fp i a h
  len := S.len
  pin := S.pin
  nt := S.nt
theorem Ow.toRp {G : List Addr} {v : V} {x : OD} {d : PyData} (ph : Same P H) (o : Ow K mg P H G v x) (e : x.data = some d) : Rp K (joinR P H G) v d := o.frozen (joinR_same ph) (fun a ha o e => by rw [joinR_in ha]; exact e) e
theorem Free.nil : Free R P Fs [] := ⟨.nil, fun _ h => (nomatch h), fun _ h => (nomatch h), fun _ h => (nomatch h)⟩
/-- a new object of a temporary's own -/
theorem Free.one {p : Addr} (S : Sta K mg B bv R P H Fs σ env) (hp : H p = none) : Free R P Fs [p] := by
  obtain ⟨h1, h2, h3⟩ := S.dh hp
  refine ⟨by simp, fun a h => ?_, fun a h => ?_, fun a h => ?_⟩ <;> (simp at h; subst h)
  · exact h1
  · exact h2
  · exact h3
/-- a slot is stored -/
theorem Sta.store {G : List Addr} {v : V} {x : OD} {i : Nat} (S : Sta K mg B bv R P H Fs σ env) (o : Ow K mg P H G v x) (f : Free R P Fs G) (hB : i ∉ B) (hi : i < env.length) :
    Sta K mg B bv R P H (fun j => if j = i then G else Fs j) (σ.set i (some v)) (env.set i (some x)) where
  rh := S.rh
  tb := S.tb
  ph := S.ph
  rp := S.rp
  slot := fun j y h => by
    by_cases q : j = i
    · subst q
      rw [List.getElem?_set_self hi] at h
      cases h
      refine ⟨v, by rw [List.getElem?_set_self (by rw [S.len]; exact hi)], ?_⟩
      simp only [if_true]
      exact o
    · rw [List.getElem?_set_ne (Ne.symm q)] at h
      obtain ⟨w, h1, h2⟩ := S.slot j y h
      refine ⟨w, by rw [List.getElem?_set_ne (Ne.symm q)]; exact h1, ?_⟩
      simp only [q, if_false]
      exact h2
  dead := fun j h => by
    by_cases q : j = i
    · subst q
      exact absurd (List.getElem?_set_self hi) (h x)
    · simp only [q, if_false]
      exact S.dead j fun y z => h y (by rw [List.getElem?_set_ne (Ne.symm q)]; exact z)
  nd := fun j => by
    by_cases q : j = i
    · simp only [q, if_true]; exact f.nd
    · simp only [q, if_false]; exact S.nd j
  dj := fun j k a hjk h => by
    by_cases q : j = i
    · have qk : k ≠ i := fun z => hjk (q.trans z.symm)
      simp only [q, if_true] at h
      simp only [qk, if_false]
      exact f.f a h k
    · simp only [q, if_false] at h
      by_cases qk : k = i
      · simp only [qk, if_true]
        exact fun z => f.f a z j h
      · simp only [qk, if_false]
        exact S.dj j k a hjk h
  fr := fun j a h => by
    by_cases q : j = i
    · simp only [q, if_true] at h; exact f.r a h
    · simp only [q, if_false] at h; exact S.fr j a h
  fp := fun j a h => by
    by_cases q : j = i
    · simp only [q, if_true] at h; exact f.p a h
    · simp only [q, if_false] at h; exact S.fp j a h
  len := by rw [List.length_set, List.length_set, S.len]
  pin := fun j hj => by
    have q : i ≠ j := fun z => hB (z ▸ hj)
    rw [List.getElem?_set_ne q]
    exact S.pin j hj
  nt := S.nt
/-- a slot's tree is taken out (its value stays known to nobody) -/
theorem Sta.take {x : OD} {i : Nat} (S : Sta K mg B bv R P H Fs σ env) (hx : env[i]? = some (some x)) : ∃ v, σ[i]? = some (some v) ∧ Ow K mg P H (Fs i) v x ∧ Free R P (fun j => if j = i then [] else Fs j) (Fs i) ∧
    Sta K mg B bv R P H (fun j => if j = i then [] else Fs j) σ (env.set i none) := by
  have hi : i < env.length := (List.getElem?_eq_some_iff.mp hx).1
  obtain ⟨v, h1, h2⟩ := S.slot i x hx
  refine ⟨v, h1, h2, ⟨S.nd i, fun a h => S.fr i a h, fun a h => S.fp i a h, fun a h j => ?_⟩, ?_⟩
  · by_cases q : j = i
    · simp [q]
    · simp only [q, if_false]
      exact S.dj i j a (Ne.symm q) h
  · refine ⟨S.rh, S.tb, S.ph, S.rp, fun j y h => ?_, fun j h => ?_, fun j => ?_, fun j k a hjk h => ?_, fun j a h => ?_, fun j a h => ?_, by rw [List.length_set, S.len], S.pin, S.nt⟩
    · by_cases q : j = i
      · subst q
        rw [List.getElem?_set_self hi] at h
        cases h
      · rw [List.getElem?_set_ne (Ne.symm q)] at h
        simp only [q, if_false]
        exact S.slot j y h
    · by_cases q : j = i
      · simp only [q, if_true]
      · simp only [q, if_false]
        exact S.dead j fun y z => h y (by rw [List.getElem?_set_ne (Ne.symm q)]; exact z)
    · by_cases q : j = i
      · simp only [q, if_true]; exact .nil
      · simp only [q, if_false]; exact S.nd j
    · by_cases q : j = i
      · simp only [q, if_true] at h; cases h
      · simp only [q, if_false] at h
        by_cases qk : k = i
        · simp only [qk, if_true]; simp
        · simp only [qk, if_false]; exact S.dj j k a hjk h
    · by_cases q : j = i
      · simp only [q, if_true] at h; cases h
      · simp only [q, if_false] at h; exact S.fr j a h
    · by_cases q : j = i
      · simp only [q, if_true] at h; cases h
      · simp only [q, if_false] at h; exact S.fp j a h
/-- a tree is put where its value stands -/
theorem Sta.put {x : OD} {i : Nat} {v : V} {G : List Addr} (S : Sta K mg B bv R P H Fs σ env) (hv : σ[i]? = some (some v)) (o : Ow K mg P H G v x) (f : Free R P Fs G) :
    Sta K mg B bv R P H (fun j => if j = i then G else Fs j) σ (env.set i (some x)) := by
  have hi : i < env.length := by rw [← S.len]; exact (List.getElem?_eq_some_iff.mp hv).1
  refine ⟨S.rh, S.tb, S.ph, S.rp, fun j y h => ?_, fun j h => ?_, fun j => ?_, fun j k a hjk h => ?_, fun j a h => ?_, fun j a h => ?_, by rw [List.length_set, S.len], S.pin, S.nt⟩
  · by_cases q : j = i
    · subst q
      rw [List.getElem?_set_self hi] at h
      cases h
      refine ⟨v, hv, ?_⟩
      simp only [if_true]
      exact o
    · rw [List.getElem?_set_ne (Ne.symm q)] at h
      simp only [q, if_false]
      exact S.slot j y h
  · by_cases q : j = i
    · subst q
      exact absurd (List.getElem?_set_self hi) (h x)
    · simp only [q, if_false]
      exact S.dead j fun y z => h y (by rw [List.getElem?_set_ne (Ne.symm q)]; exact z)
  · by_cases q : j = i
    · simp only [q, if_true]; exact f.nd
    · simp only [q, if_false]; exact S.nd j
  · by_cases q : j = i
    · have qk : k ≠ i := fun z => hjk (q.trans z.symm)
      simp only [q, if_true] at h
      simp only [qk, if_false]
      exact f.f a h k
    · simp only [q, if_false] at h
      by_cases qk : k = i
      · simp only [qk, if_true]
        exact fun z => f.f a z j h
      · simp only [qk, if_false]
        exact S.dj j k a hjk h
  · by_cases q : j = i
    · simp only [q, if_true] at h; exact f.r a h
    · simp only [q, if_false] at h; exact S.fr j a h
  · by_cases q : j = i
    · simp only [q, if_true] at h; exact f.p a h
    · simp only [q, if_false] at h; exact S.fp j a h
theorem Free.to {P' : Hp} {G : List Addr} (f : Free R P Fs G) (h : ∀ a, P' a ≠ none → P a ≠ none ∨ a ∉ G) : Free R P' Fs G := ⟨f.nd, f.r, fun a ha => by
  cases q : P' a with
  | none => rfl
  | some o =>
    rcases h a (by rw [q]; simp) with z | z
    · exact absurd (f.p a ha) z
    · exact absurd ha z, f.f⟩
end

/-! ### own and frozen -/
/-- what is owned is frozen -/
def M.frz (m : M OD) : M PyData := M.bind m fun x => M.opt x.data
section
variable {X : Cx} {W : WX} {B : List Nat} {e : Expr}
theorem ed_frz {m : M OD} (h : EO X W B e m) : ED X W B e (M.frz m) := PE_mono h fun σ H Q ⟨bv, R, P, Fs, env, S, q⟩ =>
  tO_bind (Same.refl _) S q fun x env1 v P1 H1 Fs1 G S1 s1 o1 f1 q1 => by
    cases e : x.data with
    | none => rw [e] at q1; exact q1.elim
    | some d =>
      rw [e] at q1
      exact q1 v _ H1 Fs1 (S1.freeze f1) (s1.trans (joinR_same S1.ph)) (o1.toRp S1.ph e)
def M.own (m : M PyData) : M OD := M.bind m fun d => M.pure (.pur d)
theorem eo_of {m : M PyData} (h : ED X W B e m) : EO X W B e (M.own m) := PE_mono h fun σ H Q ⟨bv, R, P, Fs, env, S, q⟩ =>
  tD_bind (Same.refl _) S q fun d env1 v P1 H1 Fs1 S1 s1 r1 q1 => q1 v P1 H1 Fs1 [] S1 s1 (.pur r1) Free.nil
end
end DL

set_option maxHeartbeats 2000000
/-! DL3: frozen data is read off the heap; operators; names and constants. -/
namespace DL
open PySem PySem.Spec PyProof.Rows L2

/-! ### data is read off the heap -/
theorem reads_key {h : Heap} {k : Key} {u : Value} (e : keyIs k u = true) : Reads h u (keyD k) [] := by
  rcases keyIs_shape e with ⟨i, t, rfl, rfl⟩ | ⟨x, t, rfl, rfl⟩
  · exact .int i t
  · exact .str x t
theorem reads_rel {h : Heap} {k : Key} {u : Value} (e : RelV (kV k) u) : Reads h u (keyD k) [] := by
  cases k with
  | inl i => obtain ⟨t, rfl⟩ := e; exact .int i t
  | inr x => obtain ⟨t, rfl⟩ := e; exact .str x t
theorem reads_keys {P : Program} {w : World} {h : Heap} : ∀ {es : List DictEntry} {kvs : List (Key × Value)}, Pairs (mixKind P w) es kvs → ReadsAll h (es.map (·.key)) (kvs.map fun p => keyD p.1) [] ∧ es.map (·.val) = kvs.map (·.2)
  | _, _, .nil => ⟨.nil, rfl⟩
  | _, _, .cons h1 h2 t => by
    obtain ⟨q1, q2⟩ := reads_keys t
    refine ⟨?_, by simp [h2, q2]⟩
    exact .cons (as := []) (bs := []) (reads_key h1) q1
theorem reads_vals {h : Heap} : ∀ {ks : List Key} {us : List Value}, Vals (ks.map kV) us → ReadsAll h us (ks.map keyD) []
  | [], _, .nil => .nil
  | _ :: _, _, .cons r t => .cons (as := []) (bs := []) (reads_rel r) (reads_vals t)
theorem kv_zip {κ : Type} : ∀ {ks : List κ} {xs : List V} {vs : List (κ × Value)}, ks.length = xs.length → KV (ks.zip xs) vs → vs.map (·.1) = ks ∧ Vals xs (vs.map (·.2))
  | [], [], _, _, .nil => ⟨rfl, .nil⟩
  | _ :: _, _ :: _, _, hl, .cons r t => by
    obtain ⟨q1, q2⟩ := kv_zip (by simpa using hl) t
    have e : _ = _ ∧ RelV _ _ := r
    exact ⟨by simp [q1, e.1.symm], .cons e.2 q2⟩
theorem kt_zip {H : Hp} {h : Heap} (ok : ∀ b xs, H b = some (.tup xs) → ∃ its, Vals xs its ∧ IsTup h b its.toArray) : ∀ {ks : List (List Key)} {xs : List V} {vs : List (List Key × Addr × Value)}, ks.length = xs.length → KT H (ks.zip xs) vs →
    (∃ as, ReadsAll h (vs.map fun p => Value.ref p.2.1) (ks.map fun k => .tuple (k.map keyD)) as ∧ as = []) ∧ Vals xs (vs.map (·.2.2))
  | [], [], _, _, .nil => ⟨⟨[], .nil, rfl⟩, .nil⟩
  | k :: _, _ :: _, _, hl, .cons (b := q) r t => by
    obtain ⟨⟨as, q1, e1⟩, q2⟩ := kt_zip ok (by simpa using hl) t
    obtain ⟨r1, r2, r3⟩ : _ = _ ∧ H q.2.1 = some (.tup (_)) ∧ RelV _ _ := r
    obtain ⟨its, rv, o, ho, hc, n, hd⟩ := ok _ _ r2
    subst e1
    refine ⟨⟨[], .cons (as := []) (bs := []) (.tuple ho hc hd (reads_vals rv)) q1, rfl⟩, .cons r3 q2⟩

/-- what the text's frame knows: nothing is being shown, sys.modules stands -/
structure Gd (X : Cx) : Prop where
  guards : X.A.guards = some []
  sys : ∃ o, X.base.get? sysModules = some o

section
variable {X : Cx} {pins : List (Addr × Obj)} {σ : L2.St} {H P : Hp} {s : Shared}
theorem no_sys (g : Gd X) (I : Inv X pins σ H s) {a : Addr} {u : HO} (h : Rd H a u) : a ≠ sysModules := fun e => by
  obtain ⟨o, ho⟩ := g.sys
  have n := (I.bs _ _ ho).2
  rw [← e] at n
  rcases h with h | ⟨_, h⟩ <;> (rw [n] at h; cases h)
theorem tup_its (I : Inv X pins σ H s) : ∀ b xs, H b = some (.tup xs) → ∃ its, Vals xs its ∧ IsTup s.heap b its.toArray := fun b xs h => by
  obtain ⟨_, its, rv, p⟩ := I.hok b _ h
  exact ⟨its, rv, p⟩
theorem zip_fst {α β : Type} : ∀ {as : List α} {bs : List β}, as.length = bs.length → (as.zip bs).map (·.1) = as
  | [], [], _ => rfl
  | _ :: _, _ :: _, h => by simp [zip_fst (by simpa using h : _ = _)]
theorem zip_snd {α β : Type} : ∀ {as : List α} {bs : List β}, as.length = bs.length → (as.zip bs).map (·.2) = bs
  | [], [], _ => rfl
  | _ :: _, _ :: _, h => by simp [zip_snd (by simpa using h : _ = _)]
mutual
theorem Rp.reads (g : Gd X) (I : Inv X pins σ H s) (ph : Same P H) : ∀ {v : V} {d : PyData} (u : Value), Rp X.K P v d → RelV v u → ∃ as, Reads s.heap u d as ∧ sysModules ∉ as
  | _, _, _, .non, r => by cases r; exact ⟨_, .none, by simp⟩
  | _, _, _, .bl b, r => by cases r; exact ⟨_, .bool b, by simp⟩
  | _, _, _, .int i, r => by obtain ⟨t, rfl⟩ := r; exact ⟨_, .int i t, by simp⟩
  | _, _, _, .str x, r => by obtain ⟨t, rfl⟩ := r; exact ⟨_, .str x t, by simp⟩
  | _, _, _, .lst (a := a) h t, r => by
    cases r
    obtain ⟨_, its, n, rv, e⟩ := (rd_mono ph h).ok I.hok
    obtain ⟨as, q, nm⟩ := RpA.reads g I ph its t rv
    refine ⟨_, .list e rfl rfl q, fun m => ?_⟩
    rcases List.mem_cons.mp m with m | m
    · exact no_sys g I (rd_mono ph h) m.symm
    · exact nm m
  | _, _, _, .tup h t, r => by
    cases r
    obtain ⟨its, rv, ⟨o, ho, hc, n, hd⟩, _⟩ := I.tuple (seqT_mono ph h)
    obtain ⟨as, q, nm⟩ := RpA.reads g I ph its t rv
    exact ⟨_, .tuple ho hc hd q, nm⟩
  | _, _, _, .dK h hl t, r => by
    cases r
    obtain ⟨_, ns, vs, rk, o, es, ep, e, ex, d, _, pr, _⟩ := (rd_mono ph h).ok I.hok
    obtain ⟨k1, k2⟩ := kv_zip hl rk
    obtain ⟨q1, q2⟩ := reads_keys (h := s.heap) pr
    obtain ⟨as, q, nm⟩ := RpA.reads g I ph _ t k2
    have hlen := t.length
    refine ⟨_, .dict e ex.1 d (as := []) (bs := as) ?_ ?_, fun m => ?_⟩
    · rw [zip_fst (by rw [List.length_map]; omega), ← k1, List.map_map]
      exact q1
    · rw [zip_snd (by rw [List.length_map]; omega), q2]
      exact q
    · rcases List.mem_append.mp m with m | m
      · exact no_sys g I (rd_mono ph h) (by simpa using m : sysModules = _).symm
      · exact nm m
  | _, _, _, .dT h hl hne t, r => by
    cases r
    obtain ⟨_, ns, vs, rk, o, es, ep, e, ex, d, he, _⟩ := (rd_mono ph h).ok I.hok
    obtain ⟨⟨as1, q1, e1⟩, k2⟩ := kt_zip (h := s.heap) (tup_its I) hl rk
    subst e1
    obtain ⟨as, q, nm⟩ := RpA.reads g I ph _ t k2
    have hlen := t.length
    refine ⟨_, .dict e ex.1 d (as := []) (bs := as) ?_ ?_, fun m => ?_⟩
    · rw [zip_fst (by rw [List.length_map]; omega), he, List.map_map]
      exact q1
    · rw [zip_snd (by rw [List.length_map]; omega), he, List.map_map]
      exact q
    · rcases List.mem_append.mp m with m | m
      · exact no_sys g I (rd_mono ph h) (by simpa using m : sysModules = _).symm
      · exact nm m
theorem RpA.reads (g : Gd X) (I : Inv X pins σ H s) (ph : Same P H) : ∀ {vs : List V} {ds : List PyData} (us : List Value), RpA X.K P vs ds → Vals vs us → ∃ as, ReadsAll s.heap us ds as ∧ sysModules ∉ as
  | _, _, _, .nil, r => by cases r; exact ⟨_, .nil, by simp⟩
  | _, _, _, .cons h t, .cons r1 r2 => by
    obtain ⟨as, q1, n1⟩ := Rp.reads g I ph _ h r1
    obtain ⟨bs, q2, n2⟩ := RpA.reads g I ph _ t r2
    exact ⟨_, .cons q1 q2, fun m => (List.mem_append.mp m).elim n1 n2⟩
end
end

/-! ### names and constants -/
/-- a name is read: what it owns is frozen -/
def M.rd (i : Nat) : M PyData := fun env => match env[i]? with
  | some (some (.pur d)) => .ok d env
  | some (some x) => (match x.data with
    | some d => .ok d (env.set i (some (.pur d)))
    | none => .no)
  | _ => .no
/-- a name's tree is taken: the name holds nothing from then on -/
def M.mv (i : Nat) : M OD := fun env => match env[i]? with
  | some (some x) => .ok x (env.set i none)
  | _ => .no
section
variable {K : PySem.W.Frag} {mg : Str → Option Value} {W : WX} {B : List Nat} {bv : Nat → V} {R P H : Hp} {Fs : Nat → List Addr} {σ : L2.St} {env : DEnv}
theorem Sta.pure {i : Nat} {d : PyData} (S : Sta K mg B bv R P H Fs σ env) (h : env[i]? = some (some (.pur d))) : ∃ v, σ[i]? = some (some v) ∧ Rp K P v d := by
  obtain ⟨v, h1, h2⟩ := S.slot i _ h
  refine ⟨v, h1, ?_⟩
  generalize Fs i = F at h2
  cases h2 with
  | pur h => exact h
/-- what a slot owns is frozen where it stands -/
theorem Sta.frz {i : Nat} {x : OD} {d : PyData} (S : Sta K mg B bv R P H Fs σ env) (h : env[i]? = some (some x)) (e : x.data = some d) :
    ∃ v, σ[i]? = some (some v) ∧ Rp K (joinR P H (Fs i)) v d ∧ Same P (joinR P H (Fs i)) ∧ ∃ Fs', Sta K mg B bv R (joinR P H (Fs i)) H Fs' σ (env.set i (some (.pur d))) := by
  obtain ⟨v, h1, o, f, S1⟩ := S.take h
  have r : Rp K (joinR P H (Fs i)) v d := o.toRp S.ph e
  refine ⟨v, h1, r, joinR_same S.ph, ?_⟩
  have S2 := (S1.freeze f).put (i := i) (x := .pur d) h1 (.pur r) Free.nil
  rw [List.set_set] at S2
  exact ⟨_, S2⟩
theorem tD_rd {i : Nat} {σ : L2.St} {H : Hp} {Q : VK} (h : tD K mg W B (M.rd i) σ H Q) : tVar i σ H Q := by
  obtain ⟨bv, R, P, Fs, env, S, q⟩ := h
  unfold M.rd at q
  split at q
  · rename_i d e
    obtain ⟨v, h1, h2⟩ := S.pure e
    exact ⟨v, h1, q v P H Fs S (Same.refl _) h2⟩
  · rename_i x _ e
    cases ed : x.data with
    | none => rw [ed] at q; exact q.elim
    | some d =>
      rw [ed] at q
      obtain ⟨v, h1, h2, h3, Fs', S2⟩ := S.frz e ed
      exact ⟨v, h1, q v _ H Fs' S2 h3 h2⟩
  · exact q.elim
theorem tO_mv {i : Nat} {σ : L2.St} {H : Hp} {Q : VK} (h : tO K mg W B (M.mv i) σ H Q) : tVar i σ H Q := by
  obtain ⟨bv, R, P, Fs, env, S, q⟩ := h
  unfold M.mv at q
  split at q
  · rename_i x e
    obtain ⟨v, h1, o, f, S1⟩ := S.take e
    exact ⟨v, h1, q v P H _ _ S1 (Same.refl _) o f⟩
  · exact q.elim
theorem tD_pure {d : PyData} {v : V} {σ : L2.St} {H : Hp} {Q : VK} (r : Rp K (fun _ => none) v d) (h : tD K mg W B (M.pure d) σ H Q) : tC v σ H Q := by
  obtain ⟨bv, R, P, Fs, env, S, q⟩ := h
  exact q v P H Fs S (Same.refl _) (r.mono fun _ _ e => by cases e)
end
section
variable {X : Cx} {W : WX} {B : List Nat} {pos : Pos}
theorem ed_var (i : Nat) {x : Str} (hN : X.N[i]? = some x := by rfl) (hv : Vis X.env.scope x := by first | exact Or.inl rfl | exact Or.inr (Or.inl rfl) | exact Or.inr (Or.inr rfl)) (hd : (x == ("__debug__" : Str)) = false := by decide)
    (hcd : (x == ("__classdict__" : Str)) = false := by decide) : ED X W B (.Name x pos) (M.rd i) := PE_mono (pe_var hN hv hd hcd) fun _ _ _ h => tD_rd h
theorem eo_mv (i : Nat) {x : Str} (hN : X.N[i]? = some x := by rfl) (hv : Vis X.env.scope x := by first | exact Or.inl rfl | exact Or.inr (Or.inl rfl) | exact Or.inr (Or.inr rfl)) (hd : (x == ("__debug__" : Str)) = false := by decide)
    (hcd : (x == ("__classdict__" : Str)) = false := by decide) : EO X W B (.Name x pos) (M.mv i) := PE_mono (pe_var hN hv hd hcd) fun _ _ _ h => tO_mv h
theorem ed_int {i : Int} {j : Nat} : ED X W B (.Constant (.int i) j pos) (M.pure (.int i)) := PE_mono pe_int fun _ _ _ h => tD_pure (.int i) h
theorem ed_bl {b : Bool} {j : Nat} : ED X W B (.Constant (.bool b) j pos) (M.pure (.bool b)) := PE_mono pe_bl fun _ _ _ h => tD_pure (.bl b) h
theorem ed_non {j : Nat} : ED X W B (.Constant .none j pos) (M.pure .none) := PE_mono pe_non fun _ _ _ h => tD_pure .non h
theorem ed_str {x : Str} {j : Nat} : ED X W B (.Constant (.str x) j pos) (M.pure (.str x)) := PE_mono pe_str fun _ _ _ h => tD_pure (.str x) h
/-- a name of the module that holds data -/
theorem ed_glob {x : Str} {v : V} {u : Value} {d : PyData} (hg : Gl X x) (hm : X.mg x = some u) (r : RelV v u) (hr : Rp X.K (fun _ => none) v d) (hd : (x == ("__debug__" : Str)) = false := by decide) : ED X W B (.Name x pos) (M.pure d) :=
  PE_mono (pe_glob hg hm r hd) fun _ _ _ h => tD_pure hr h
end

/-! ### operators by data -/
/-- what an operator's rule asks is there where the mirror's operator gives a value -/
def OpD (K : PySem.W.Frag) (r : R2) (f : PyData → PyData → Option PyData) : Prop :=
  ∀ (P H : Hp) (v w : V) (d e z : PyData) (Q : VK), Same P H → Rp K P v d → Rp K P w e → f d e = some z → (∀ u P' H', Ext P H P' H' → Rp K P' u z → Q u H') → r v w H Q
def UnD (K : PySem.W.Frag) (r : V → Hp → VK → Prop) (f : PyData → Option PyData) : Prop :=
  ∀ (P H : Hp) (v : V) (d z : PyData) (Q : VK), Same P H → Rp K P v d → f d = some z → (∀ u P' H', Ext P H P' H' → Rp K P' u z → Q u H') → r v H Q
def CallD (K : PySem.W.Frag) (r : List V → Hp → VK → Prop) (f : List PyData → Option PyData) : Prop :=
  ∀ (P H : Hp) (vs : List V) (ds : List PyData) (z : PyData) (Q : VK), Same P H → RpA K P vs ds → f ds = some z → (∀ u P' H', Ext P H P' H' → Rp K P' u z → Q u H') → r vs H Q
def M.op2 (f : PyData → PyData → Option PyData) (a b : M PyData) : M PyData := M.bind a fun x => M.bind b fun y => M.opt (f x y)
def M.op1 (f : PyData → Option PyData) (a : M PyData) : M PyData := M.bind a fun x => M.opt (f x)
def M.opL (f : List PyData → Option PyData) (a : M (List PyData)) : M PyData := M.bind a fun x => M.opt (f x)
section
variable {X : Cx} {W : WX} {B : List Nat} {a b : Expr} {ma mb : M PyData} {pos : Pos} {f : PyData → PyData → Option PyData} {f1 : PyData → Option PyData} {r : R2} {r1 : V → Hp → VK → Prop}
theorem tD_op2 {σ : L2.St} {H : Hp} {Q : VK} (hf : OpD X.K r f) (h : tD X.K X.mg W B (M.op2 f ma mb) σ H Q) : tOp r (tD X.K X.mg W B ma) (tD X.K X.mg W B mb) σ H Q := by
  obtain ⟨bv, R, P, Fs, env, S, q⟩ := h
  refine tD_bind (Same.refl _) S q fun d1 e1 v1 P1 H1 F1 S1 s1 r1 h1 => tD_bind s1 S1 h1 fun d2 e2 v2 P2 H2 F2 S2 s2 r2 h2 => ?_
  cases e : f d1 d2 with
  | none => rw [e] at h2; exact h2.elim
  | some z =>
    rw [e] at h2
    exact hf P2 H2 v1 v2 d1 d2 z Q S2.ph (r1.mono s2) r2 e fun u P3 H3 x r3 => h2 u P3 H3 F2 (S2.ext x) (s1.trans (s2.trans x.pp)) r3
theorem ed_op {op : Operator} (ho : OpR X (binaryOp op) r) (hf : OpD X.K r f) (ha : ED X W B a ma) (hb : ED X W B b mb) : ED X W B (.BinOp a op b pos) (M.op2 f ma mb) :=
  PE_mono (pe_op ho ha hb) fun _ _ _ h => tD_op2 hf h
theorem ed_cmp {op : CmpOp} (ho : OpR X (compareOp op) r) (hf : OpD X.K r f) (ha : ED X W B a ma) (hb : ED X W B b mb) (hm : behindInMarks op b = false := by first | exact nomark _ | rfl) : ED X W B (.Compare a [op] [b] pos) (M.op2 f ma mb) :=
  PE_mono (pe_cmpR ho ha hb hm) fun _ _ _ h => tD_op2 hf h
theorem ed_un {op : UnaryOp} (ho : UnR X (unaryOp op) r1) (hf : UnD X.K r1 f1) (ha : ED X W B a ma) : ED X W B (.UnaryOp op a pos) (M.op1 f1 ma) :=
  PE_mono (pe_un ho ha) fun σ H Q ⟨bv, R, P, Fs, env, S, q⟩ => tD_bind (Same.refl _) S q fun d1 e1 v1 P1 H1 F1 S1 s1 r1 h1 => by
    cases e : f1 d1 with
    | none => rw [e] at h1; exact h1.elim
    | some z =>
      rw [e] at h1
      exact hf P1 H1 v1 d1 z Q S1.ph r1 e fun u P3 H3 x r3 => h1 u P3 H3 F1 (S1.ext x) (s1.trans x.pp) r3

/-! ### the operators -/
abbrev lim : Nat := 16777216
theorem lim_eq : sizeLine = lim := sizeLine_eq
def addD : PyData → PyData → Option PyData
  | .int i, .int j => some (.int (i + j))
  | .str x, .str y => if x.length + y.length ≤ lim then some (.str (x ++ y)) else none
  | .list xs, .list ys => if xs.length + ys.length ≤ lim then some (.list (xs ++ ys)) else none
  | .tuple xs, .tuple ys => if xs.length + ys.length ≤ lim then some (.tuple (xs ++ ys)) else none
  | _, _ => none
def rAddS : R2 := fun x y H Q => ∃ i j, x = .str i ∧ y = .str j ∧ i.length + j.length ≤ sizeLine ∧ Q (.str (i ++ j)) H
def rCatR : R2 := fun x y H Q => ∃ l b xs zs, x = .ref l ∧ y = .ref b ∧ Rd H l (.lst xs) ∧ Rd H b (.lst zs) ∧ xs.length + zs.length ≤ sizeLine ∧ ∀ p, H p = none → Q (.ref p) (upd H p (.lst (xs ++ zs)))
theorem op_catR : OpR X (binaryOp .Add) rCatR := by
  intro pins s σ H x y v u Q I rx ry h
  obtain ⟨l, b, xs, zs, rfl, rfl, hl, hb, hz, q⟩ := h
  cases rx
  cases ry
  obtain ⟨_, its, n, rv, e⟩ := hl.ok I.hok
  obtain ⟨_, its2, n2, rv2, e2⟩ := hb.ok I.hok
  have l1 := rv.length
  have l2 := rv2.length
  refine PySem.P.add_list e e2 ?_ (by simp only [List.size_toArray]; omega)
  rw [show its.toArray ++ its2.toArray = (its ++ its2).toArray from by simp]
  exact ⟨.ref _, _, I.lnew (t' := s.toks) (rv.append rv2) (by rw [List.length_append]; omega), rfl, q _ I.fresh⟩
def rAdd4 (K : PySem.W.Frag) : R2 := fun x y H Q => (rI0 fun i j => .int (i + j)) x y H Q ∨ rAddS x y H Q ∨ rCatR x y H Q ∨ rCatA K x y H Q
theorem op_add4 : OpR X (binaryOp .Add) (rAdd4 X.K) := OpR.or op_add (OpR.or op_add_str (OpR.or op_catR op_catA))
theorem RpA.rd {K : PySem.W.Frag} {P H : Hp} {xs : List V} {ds : List PyData} (ph : Same P H) {a : Addr} (h : Rd P a (.lst xs)) : Rd H a (.lst xs) := rd_mono ph h
theorem opd_add : OpD X.K (rAdd4 X.K) addD := by
  intro P H v w d e z Q ph r1 r2 ez k
  cases r1 with
  | int i => cases r2 with
    | int j => cases ez; exact .inl ⟨i, j, rfl, rfl, k _ P H (.refl ph) (.int _)⟩
    | _ => cases ez
  | str x => cases r2 with
    | str y =>
      simp only [addD] at ez
      split at ez
      · rename_i hl; cases ez; exact .inr (.inl ⟨x, y, rfl, rfl, by rw [lim_eq]; exact hl, k _ P H (.refl ph) (.str _)⟩)
      · cases ez
    | _ => cases ez
  | lst h t => cases r2 with
    | lst h2 t2 =>
      simp only [addD] at ez
      split at ez
      · rename_i hl
        cases ez
        have q1 := t.length
        have q2 := t2.length
        refine .inr (.inr (.inl ⟨_, _, _, _, rfl, rfl, rd_mono ph h, rd_mono ph h2, by rw [lim_eq]; omega, fun p hp => k _ _ _ (ext_new ph _ hp) (.lst (.inl upd_same) ((t.append t2).mono (ext_new ph _ hp).pp))⟩))
      · cases ez
    | _ => cases ez
  | tup h t => cases r2 with
    | tup h2 t2 =>
      simp only [addD] at ez
      split at ez
      · rename_i hl
        cases ez
        have q1 := t.length
        have q2 := t2.length
        refine .inr (.inr (.inr ⟨_, _, _, _, rfl, rfl, seqT_mono ph h, seqT_mono ph h2, by rw [lim_eq]; omega, fun e => ?_, fun _ e => ?_, fun _ _ p hp => k _ _ _ (ext_new ph _ hp) (.tup upd_same ((t.append t2).mono (ext_new ph _ hp).pp))⟩))
        · subst e
          cases t
          exact k _ P H (.refl ph) (.tup h2 t2)
        · subst e
          cases t2
          exact k _ P H (.refl ph) (.tup h (by rw [List.append_nil]; exact t))
      · cases ez
    | _ => cases ez
  | _ => cases ez
/-- operators of two ints -/
def int2 (C : Int → Int → Bool) (g : Int → Int → PyData) : PyData → PyData → Option PyData
  | .int i, .int j => if C i j then some (g i j) else none
  | _, _ => none
theorem opd_int {C : Int → Int → Prop} {Cb : Int → Int → Bool} {g : Int → Int → V} {g' : Int → Int → PyData} (hC : ∀ i j, Cb i j = true → C i j) (hg : ∀ K P i j, Rp K P (g i j) (g' i j)) : OpD X.K (rI C g) (int2 Cb g') := by
  intro P H v w d e z Q ph r1 r2 ez k
  cases r1 with
  | int i => cases r2 with
    | int j =>
      simp only [int2] at ez
      split at ez
      · rename_i hc; cases ez; exact ⟨i, j, rfl, rfl, hC i j hc, k _ P H (.refl ph) (hg _ _ _ _)⟩
      · cases ez
    | _ => cases ez
  | _ => cases ez
theorem opd_int0 {g : Int → Int → V} {g' : Int → Int → PyData} (hg : ∀ K P i j, Rp K P (g i j) (g' i j)) : OpD X.K (rI0 g) (int2 (fun _ _ => true) g') := by
  intro P H v w d e z Q ph r1 r2 ez k
  cases r1 with
  | int i => cases r2 with
    | int j => cases ez; exact ⟨i, j, rfl, rfl, k _ P H (.refl ph) (hg _ _ _ _)⟩
    | _ => cases ez
  | _ => cases ez
def subD := int2 (fun _ _ => true) fun i j => .int (i - j)
def mulC (i j : Int) : Bool := (decide (i.natAbs < 2 ^ 64) || decide (j.natAbs < 2 ^ 64)) || decide (i.natAbs.log2 + j.natAbs.log2 < 1000000)
def mulD := int2 mulC fun i j => .int (i * j)
theorem op_mulA {X : Cx} : OpR X (binaryOp .Mult) (rI (fun i j => mulC i j = true) fun i j => .int (i * j)) := opI fun i j _ _ _ _ _ hc q => by
  unfold mulC at hc
  simp only [Bool.or_eq_true, decide_eq_true_eq] at hc
  rcases hc with (h | h) | h
  · exact mul_int q (CMul.ok (.inl ⟨by omega, by omega⟩))
  · exact mul_int q (CMul.ok (.inr ⟨by omega, by omega⟩))
  · exact mul_int q (CMulW.ok h)
theorem ed_mul (ha : ED X W B a ma) (hb : ED X W B b mb) : ED X W B (.BinOp a .Mult b pos) (M.op2 mulD ma mb) := ed_op op_mulA (opd_int (fun i j h => h) fun _ _ _ _ => .int _) ha hb
def divC (_ j : Int) : Bool := decide (j ≠ 0) && decide (j.natAbs.log2 < 9000)
def CDivA (_ j : Int) : Prop := j ≠ 0 ∧ j.natAbs.log2 < 9000
theorem op_fdivA : OpR X (binaryOp .FloorDiv) (rI CDivA fun i j => .int (i.fdiv j)) := opI fun i j _ _ _ _ _ hc q => floordiv_int hc.1 q (.inl (PyProof.noPylong_of_log2 hc.2))
def divD := int2 divC fun i j => .int (i.fdiv j)
theorem divC_ok (i j : Int) (h : divC i j = true) : CDivA i j := by
  unfold divC at h
  rw [Bool.and_eq_true] at h
  exact ⟨of_decide_eq_true h.1, of_decide_eq_true h.2⟩
theorem ed_fdiv (ha : ED X W B a ma) (hb : ED X W B b mb) : ED X W B (.BinOp a .FloorDiv b pos) (M.op2 divD ma mb) := ed_op op_fdivA (opd_int divC_ok fun _ _ _ _ => .int _) ha hb
def modD := int2 (fun _ j => decide (j ≠ 0)) fun i j => .int (i.fmod j)
theorem ed_mod (ha : ED X W B a ma) (hb : ED X W B b mb) : ED X W B (.BinOp a .Mod b pos) (M.op2 modD ma mb) := ed_op op_modN (opd_int (fun _ _ h => of_decide_eq_true h) fun _ _ _ _ => .int _) ha hb
def powC (i j : Int) : Bool := decide (0 ≤ j) && (decide (j ≤ 1000000) && decide (i.natAbs < 2 ^ 64))
theorem powC_ok (i j : Int) (h : powC i j = true) : CPow i j := by
  unfold powC at h
  rw [Bool.and_eq_true, Bool.and_eq_true] at h
  exact ⟨of_decide_eq_true h.1, of_decide_eq_true h.2.1, of_decide_eq_true h.2.2⟩
def powD := int2 powC fun i j => .int (i ^ j.toNat)
theorem ed_pow (ha : ED X W B a ma) (hb : ED X W B b mb) : ED X W B (.BinOp a .Pow b pos) (M.op2 powD ma mb) := ed_op op_pow (opd_int powC_ok fun _ _ _ _ => .int _) ha hb
def negD : PyData → Option PyData
  | .int i => some (.int (-i))
  | _ => none
theorem ed_neg (ha : ED X W B a ma) : ED X W B (.UnaryOp .USub a pos) (M.op1 negD ma) := ed_un un_neg (fun P H v d z Q ph r1 ez k => by
  cases r1 with
  | int i => cases ez; exact ⟨i, rfl, k _ P H (.refl ph) (.int _)⟩
  | _ => cases ez) ha
end
end DL

set_option maxHeartbeats 2000000
/-! DL4: comparisons, tests, displays, items, built-in calls. -/
namespace DL
open PySem PySem.Spec PyProof.Rows L2

/-! ### == and in, by data -/
def eqD (d e : PyData) : Option PyData := if SeqAt.shaped d && SeqAt.shaped e then some (.bool (PyData.eqv d e)) else none
def neD (d e : PyData) : Option PyData := if SeqAt.shaped d && SeqAt.shaped e then some (.bool (!PyData.eqv d e)) else none
def keyOfD : PyData → Option Key
  | .int i => some (.inl i)
  | .str x => some (.inr x)
  | _ => none
def keysOfD : List PyData → Option (List Key)
  | [] => some []
  | d :: ds => match keyOfD d, keysOfD ds with
    | some k, some ks => some (k :: ks)
    | _, _ => none
/-- the same key: an int, a text, a tuple of such -/
def keyEq (a b : PyData) : Bool := match a, b with
  | .int i, .int j => i == j
  | .str x, .str y => x == y
  | .tuple xs, .tuple ys => (match keysOfD xs, keysOfD ys with
    | some k, some l => decide (k = l)
    | _, _ => false)
  | _, _ => false
def isKey : PyData → Bool
  | .int _ => true
  | .str _ => true
  | .tuple xs => (keysOfD xs).isSome
  | _ => false
def lookD (kvs : List (PyData × PyData)) (k : PyData) : Option PyData := (kvs.find? fun p => keyEq p.1 k).map (·.2)
/-- which keys a dict has: all ints and texts, or all tuples -/
def flatKey : PyData → Bool
  | .int _ => true
  | .str _ => true
  | _ => false
theorem keyOfD_some {d : PyData} {k : Key} (h : keyOfD d = some k) : d = keyD k := by
  cases d <;> simp [keyOfD] at h <;> subst h <;> rfl
theorem keyOfD_key (k : Key) : keyOfD (keyD k) = some k := by cases k <;> rfl
theorem keysOfD_some : ∀ {ds : List PyData} {ks : List Key}, keysOfD ds = some ks → ds = ks.map keyD
  | [], _, h => by simp [keysOfD] at h; subst h; rfl
  | d :: ds, _, h => by
    unfold keysOfD at h
    cases q1 : keyOfD d with
    | none => rw [q1] at h; cases h
    | some k =>
      cases q2 : keysOfD ds with
      | none => rw [q1, q2] at h; cases h
      | some ks =>
        rw [q1, q2] at h
        cases h
        rw [List.map_cons, ← keyOfD_some q1, ← keysOfD_some q2]
theorem keysOfD_keys : ∀ ks : List Key, keysOfD (ks.map keyD) = some ks
  | [] => rfl
  | k :: ks => by unfold keysOfD; rw [List.map_cons]; simp only [keyOfD_key, keysOfD_keys ks]
theorem keyEq_key (a b : Key) : keyEq (keyD a) (keyD b) = decide (a = b) := by
  cases a <;> cases b <;> simp [keyEq, keyD, Bool.beq_eq_decide_eq]
theorem keyEq_tup (a b : List Key) : keyEq (.tuple (a.map keyD)) (.tuple (b.map keyD)) = decide (a = b) := by
  simp only [keyEq, keysOfD_keys]
section
variable {K : PySem.W.Frag} {P H : Hp}
theorem Rp.key {k : Key} {v : V} (h : Rp K P v (keyD k)) : v = kV k := by
  cases k with
  | inl i => cases h; rfl
  | inr x => cases h; rfl
theorem RpA.keys : ∀ {ks : List Key} {vs : List V}, RpA K P vs (ks.map keyD) → vs = ks.map kV
  | [], _, .nil => rfl
  | _ :: _, _, .cons h t => by rw [List.map_cons, ← h.key, ← RpA.keys t]
theorem look_dK {ks : List Key} {k : Key} : ∀ {xs : List V} {ds : List PyData}, ks.length = xs.length → RpA K P xs ds →
    (∀ v, valV (ks.zip xs) k = some v → ∃ d, lookD ((ks.map keyD).zip ds) (keyD k) = some d ∧ Rp K P v d) ∧ (valV (ks.zip xs) k = none → lookD ((ks.map keyD).zip ds) (keyD k) = none) := by
  induction ks with
  | nil => intro xs ds _ _; exact ⟨fun v h => by simp [valV] at h, fun _ => by simp [lookD]⟩
  | cons a ks ih =>
    intro xs ds hl t
    cases t with
    | nil => simp at hl
    | cons h t =>
      have q := ih (by simpa using hl) t
      simp only [List.zip_cons_cons, List.map_cons]
      by_cases e : a = k
      · subst e
        rw [valV_pos (by rfl)]
        have : ∀ d r, lookD ((keyD a, d) :: r) (keyD a) = some d := fun d r => by
          unfold lookD; rw [List.find?_cons]; simp [keyEq_key]
        exact ⟨fun v hv => ⟨_, this _ _, by cases hv; exact h⟩, fun hv => by cases hv⟩
      · rw [valV_neg (by exact e)]
        have : ∀ d r, lookD ((keyD a, d) :: r) (keyD k) = lookD r (keyD k) := fun d r => by
          unfold lookD; rw [List.find?_cons]; simp [keyEq_key, e]
        rw [this]
        exact q
theorem look_dT {ks : List (List Key)} {k : List Key} : ∀ {xs : List V} {ds : List PyData}, ks.length = xs.length → RpA K P xs ds →
    (∀ v, valV (ks.zip xs) k = some v → ∃ d, lookD ((ks.map fun k => PyData.tuple (k.map keyD)).zip ds) (.tuple (k.map keyD)) = some d ∧ Rp K P v d) ∧
      (valV (ks.zip xs) k = none → lookD ((ks.map fun k => PyData.tuple (k.map keyD)).zip ds) (.tuple (k.map keyD)) = none) := by
  induction ks with
  | nil => intro xs ds _ _; exact ⟨fun v h => by simp [valV] at h, fun _ => by simp [lookD]⟩
  | cons a ks ih =>
    intro xs ds hl t
    cases t with
    | nil => simp at hl
    | cons h t =>
      have q := ih (by simpa using hl) t
      simp only [List.zip_cons_cons, List.map_cons]
      by_cases e : a = k
      · subst e
        rw [valV_pos (by rfl)]
        have : ∀ d r, lookD ((PyData.tuple (a.map keyD), d) :: r) (.tuple (a.map keyD)) = some d := fun d r => by
          unfold lookD; rw [List.find?_cons]; simp [keyEq_tup]
        exact ⟨fun v hv => ⟨_, this _ _, by cases hv; exact h⟩, fun hv => by cases hv⟩
      · rw [valV_neg (by exact e)]
        have : ∀ d r, lookD ((PyData.tuple (a.map keyD), d) :: r) (.tuple (k.map keyD)) = lookD r (.tuple (k.map keyD)) := fun d r => by
          unfold lookD; rw [List.find?_cons]; simp [keyEq_tup, e]
        rw [this]
        exact q
/-- what the dict at a holds at y, a tuple of the module's own among the keys -/
def KGet (K : PySem.W.Frag) (H : Hp) (a : Addr) (y : V) (r : Option V) : Prop :=
  (∃ kvs k, Rd H a (.dK kvs) ∧ y = kV k ∧ r = valV kvs k) ∨ (∃ kvs k b, Rd H a (.dT kvs) ∧ y = .ref b ∧ SqT K H b (k.map kV) ∧ r = valV kvs k) ∨
  ∃ k b, Rd H a (.dK []) ∧ y = .ref b ∧ SqT K H b (List.map kV k) ∧ r = none
theorem look_KGet {a : Addr} {v : V} {kvs : List (PyData × PyData)} {d : PyData} (ph : Same P H) (hc : Rp K P (.ref a) (.dict kvs)) (hk : Rp K P v d)
    (hf : kvs.all (fun p => flatKey p.1 == flatKey d) = true) (hi : isKey d = true) :
    ∃ o, KGet K H a v o ∧ (∀ w, o = some w → ∃ e, lookD kvs d = some e ∧ Rp K P w e) ∧ (o = none → lookD kvs d = none) := by
  have mkK : ∀ k, keyOfD d = some k → ∀ (ks : List Key) (xs : List V) (ds : List PyData), Rd P a (.dK (ks.zip xs)) → ks.length = xs.length → RpA K P xs ds → kvs = (ks.map keyD).zip ds → ∃ o, KGet K H a v o ∧ (∀ w, o = some w → ∃ e, lookD kvs d = some e ∧ Rp K P w e) ∧ (o = none → lookD kvs d = none) := by
    intro k e ks xs ds h hl t ez
    have e2 := keyOfD_some e
    subst e2
    have q := look_dK (k := k) hl t
    subst ez
    exact ⟨valV (ks.zip xs) k, .inl ⟨_, k, rd_mono ph h, hk.key, rfl⟩, fun w hw => q.1 w hw, q.2⟩
  have mkT : ∀ es, d = .tuple es → ∀ k, keysOfD es = some k → ∀ (ks : List (List Key)) (xs : List V) (ds : List PyData), Rd P a (.dT (ks.zip xs)) → ks.length = xs.length → RpA K P xs ds → kvs = (ks.map fun k => PyData.tuple (k.map keyD)).zip ds → ∃ o, KGet K H a v o ∧ (∀ w, o = some w → ∃ e, lookD kvs d = some e ∧ Rp K P w e) ∧ (o = none → lookD kvs d = none) := by
    intro es ed k e ks xs ds h hl t ez
    have e2 := keysOfD_some e
    subst e2
    subst ed
    have q := look_dT (k := k) hl t
    subst ez
    cases hk with
    | tup hs ht =>
      rw [ht.keys] at hs
      exact ⟨valV (ks.zip xs) k, .inr (.inl ⟨_, k, _, rd_mono ph h, rfl, seqT_mono ph hs, rfl⟩), fun w hw => q.1 w hw, q.2⟩
  obtain ⟨kvs0, ez⟩ : ∃ k, kvs = k := ⟨_, rfl⟩
  rw [ez] at hc
  cases hc with
  | @dK a ks xs ds h hl t =>
    cases d with
    | int i => exact mkK _ rfl ks xs ds h hl t ez
    | str x => exact mkK _ rfl ks xs ds h hl t ez
    | tuple es =>
      subst ez
      cases ks with
      | nil =>
        cases q : keysOfD es with
        | none =>
          have : (keysOfD es).isSome = true := hi
          rw [q] at this; cases this
        | some k =>
          have e2 := keysOfD_some q
          subst e2
          cases hk with
          | tup hs ht =>
            rw [ht.keys] at hs
            exact ⟨none, .inr (.inr ⟨k, _, by have := rd_mono ph h; rwa [List.zip_nil_left] at this, rfl, seqT_mono ph hs, rfl⟩), ⟨fun w (hw : none = some w) => (nomatch hw), fun _ => rfl⟩⟩
      | cons k ks =>
        exfalso
        cases t with
        | nil => simp at hl
        | cons h t =>
          simp only [List.map_cons, List.zip_cons_cons, List.all_cons, Bool.and_eq_true] at hf
          have := hf.1
          cases k <;> simp [flatKey, keyD] at this
    | _ => cases hi
  | @dT a ks xs ds h hl hk0 t =>
    cases d with
    | tuple es =>
      cases q : keysOfD es with
      | none =>
        have : (keysOfD es).isSome = true := hi
        rw [q] at this; cases this
      | some k => exact mkT es rfl k q ks xs ds h hl t ez
    | int i =>
      exfalso
      subst ez
      cases ks with
      | nil => exact hk0 rfl
      | cons k ks =>
        cases t with
        | nil => simp at hl
        | cons h t => simp [flatKey] at hf
    | str i =>
      exfalso
      subst ez
      cases ks with
      | nil => exact hk0 rfl
      | cons k ks =>
        cases t with
        | nil => simp at hl
        | cons h t => simp [flatKey] at hf
    | _ => cases hi
end

/-! ### dicts by such keys, at the library's rules -/
section
variable {X : Cx} {pins : List (Addr × Obj)} {σ : L2.St} {H : Hp} {s : Shared} {a : Addr} {y d : V} {u r : Value} {o : Option V} {A : Around} {E : Value → Shared → Prop}
theorem key_at {ks : List Key} {b : Addr} (I : Inv X pins σ H s) (h : SqT X.K H b (ks.map kV)) : (tupleKind (mixKind X.prog X.w)).is s.heap ks b := by
  obtain ⟨its, rv, ⟨o, h1, h2, n, h3⟩, _⟩ := I.tuple h
  exact ⟨o, its.toArray, n, h1, h2, h3, by simpa using items_are rv⟩
theorem KGet.isD (g : KGet X.K H a y o) : IsD H a := by
  rcases g with ⟨kvs, _, e, _⟩ | ⟨kvs, _, _, e, _⟩ | ⟨_, _, e, _⟩
  · exact .inl ⟨kvs, e⟩
  · exact .inr ⟨kvs, e⟩
  · exact .inl ⟨_, e⟩
/-- an empty dict has no kind -/
theorem empty_t (I : Inv X pins σ H s) (e : Rd H a (.dK [])) : (a == sysModules) = false ∧ s.heap.DictOfH (tupleKind (mixKind X.prog X.w)) a [] := by
  obtain ⟨_, hd, vs, rel, o, es, ep, h1, h2, h3, _, h5, _⟩ := dk_rd I.hok e
  cases rel
  have h6 := h5.length
  refine ⟨hd, o, es, ep, h1, h2, h3, ?_, fun x hx => (nomatch hx), .nil⟩
  exact List.eq_nil_of_length_eq_zero h6
theorem k_getItem {v : V} {Q : Value → Shared → Prop} (hu : A.units + 1 < cLine) (I : Inv X pins σ H s) (g : KGet X.K H a y (some v)) (ry : RelV y u) (h : ∀ w' s', Inv X pins σ H s' → RelV v w' → Q w' s') :
    wpAny (model X.prog X.w) A (getItem (.ref a) u) Q E s := by
  rcases g with ⟨kvs, k, e, ey, l⟩ | ⟨kvs, k, b, e, ey, eb, l⟩ | ⟨k, b, e, ey, eb, l⟩
  · exact d_getItem hu I (.inl ⟨kvs, k, e, ey, l⟩) ry h
  · subst ey
    cases (show u = Value.ref b from ry)
    obtain ⟨_, _, xs, rel, dd⟩ := dt_rd I.hok e
    obtain ⟨w', hw, rw'⟩ := RelO.some_of (v := v) (o := (atKey xs k).map (·.2)) (by rw [l]; exact rel.val k)
    obtain ⟨p, hp, hp2⟩ := Option.map_eq_some_iff.mp hw
    refine wpAny_getItem_heap (tupleKind_room_in1 hu) (key_at I eb) dd hp ?_
    rw [hp2]
    exact h w' _ (I.tok _) rw'
  · cases l
end

/-! ### the comparisons as operators -/
def rEqP (K : PySem.W.Frag) : R2 := fun x y H Q => ∃ P d e, Same P H ∧ Rp K P x d ∧ Rp K P y e ∧ SeqAt.shaped d = true ∧ SeqAt.shaped e = true ∧ Q (.bl (PyData.eqv d e)) H
def rNeP (K : PySem.W.Frag) : R2 := fun x y H Q => ∃ P d e, Same P H ∧ Rp K P x d ∧ Rp K P y e ∧ SeqAt.shaped d = true ∧ SeqAt.shaped e = true ∧ Q (.bl (!PyData.eqv d e)) H
section
variable {X : Cx} {W : WX} {B : List Nat} {a b : Expr} {ma mb : M PyData} {pos : Pos}
theorem op_eqP (g : Gd X) (hu : X.A.units + 64 < cLine) : OpR X (compareOp .Eq) (rEqP X.K) := by
  intro pins s σ H x y v u Q I rx ry ⟨P, d, e, ph, hd, he, sd, se, q⟩
  obtain ⟨as, r1, _⟩ := hd.reads g I ph v rx
  obtain ⟨bs, r2, _⟩ := he.reads g I ph u ry
  exact SeqAt.compareEq_shaped r1 r2 sd se hu ⟨.bl _, H, I, rfl, q⟩
theorem op_neP (g : Gd X) (hu : X.A.units + 64 < cLine) : OpR X (compareOp .NotEq) (rNeP X.K) := by
  intro pins s σ H x y v u Q I rx ry ⟨P, d, e, ph, hd, he, sd, se, q⟩
  obtain ⟨as, r1, _⟩ := hd.reads g I ph v rx
  obtain ⟨bs, r2, _⟩ := he.reads g I ph u ry
  exact SeqAt.compareNe_shaped r1 r2 sd se hu ⟨.bl _, H, I, rfl, q⟩
theorem opd_eq : OpD X.K (rEqP X.K) eqD := by
  intro P H v w d e z Q ph r1 r2 ez k
  unfold eqD at ez
  split at ez
  · rename_i h
    rw [Bool.and_eq_true] at h
    cases ez
    exact ⟨P, d, e, ph, r1, r2, h.1, h.2, k _ P H (.refl ph) (.bl _)⟩
  · cases ez
theorem opd_ne : OpD X.K (rNeP X.K) neD := by
  intro P H v w d e z Q ph r1 r2 ez k
  unfold neD at ez
  split at ez
  · rename_i h
    rw [Bool.and_eq_true] at h
    cases ez
    exact ⟨P, d, e, ph, r1, r2, h.1, h.2, k _ P H (.refl ph) (.bl _)⟩
  · cases ez
theorem ed_eq (g : Gd X) (hu : X.A.units + 65 < cLine) (ha : ED X W B a ma) (hb : ED X W B b mb) : ED X W B (.Compare a [.Eq] [b] pos) (M.op2 eqD ma mb) := ed_cmp (op_eqP g (by omega)) opd_eq ha hb
def ltD := int2 (fun _ _ => true) fun i j => .bool (decide (i < j))
def leD := int2 (fun _ _ => true) fun i j => .bool (decide (i ≤ j))
def gtD := int2 (fun _ _ => true) fun i j => .bool (decide (j < i))
def geD := int2 (fun _ _ => true) fun i j => .bool (decide (j ≤ i))
theorem opd_lt : OpD X.K (rI0 fun i j => .bl (decide (i < j))) ltD := opd_int0 fun _ _ _ _ => .bl _
theorem opd_gt : OpD X.K (rI0 fun i j => .bl (decide (j < i))) gtD := opd_int0 fun _ _ _ _ => .bl _
theorem opd_ge : OpD X.K (rI0 fun i j => .bl (decide (j ≤ i))) geD := opd_int0 fun _ _ _ _ => .bl _
theorem ed_lt (ha : ED X W B a ma) (hb : ED X W B b mb) : ED X W B (.Compare a [.Lt] [b] pos) (M.op2 ltD ma mb) := ed_cmp op_lt opd_lt ha hb
theorem ed_gt (ha : ED X W B a ma) (hb : ED X W B b mb) : ED X W B (.Compare a [.Gt] [b] pos) (M.op2 gtD ma mb) := ed_cmp op_gt opd_gt ha hb
/-- is None, is True .. -/
def isD (d e : PyData) : Option PyData := match d, e with
  | .none, .none => some (.bool true)
  | _, .none => some (.bool false)
  | .bool a, .bool b => some (.bool (decide (a = b)))
  | _, _ => none
def rIsP : R2 := fun x y H Q => (y = .non ∧ Q (.bl (decide (x = .non))) H) ∨ rIsB x y H Q
theorem op_isP : OpR X (compareOp .Is) rIsP := OpR.or op_isN op_isBl
end
end DL

set_option maxHeartbeats 2000000
/-! DL5: tests, displays, items, slices, built-in calls by data. -/
namespace DL
open PySem PySem.Spec PyProof.Rows L2

/-! ### tests -/
def M.tru (m : M PyData) : M Bool := M.bind m fun d => match d with
  | .bool b => M.pure b
  | _ => M.fail
def M.not (m : M Bool) : M Bool := M.bind m fun b => M.pure (!b)
def M.and (a b : M Bool) : M Bool := M.bind a fun c => if c then b else M.pure false
def M.or (a b : M Bool) : M Bool := M.bind a fun c => if c then M.pure true else b
def M.ite {α : Type} (c : M Bool) (a b : M α) : M α := M.bind c fun k => if k then a else b
def M.val (m : M Bool) : M PyData := M.bind m fun b => M.pure (.bool b)
/-- truth of any value -/
def trueD : PyData → Option Bool
  | .none => some false
  | .bool b => some b
  | .int i => some (i != 0)
  | .str x => if x.length ≤ lim then some (x.length != 0) else none
  | .list xs => some (!xs.isEmpty)
  | .tuple xs => some (!xs.isEmpty)
  | .dict _ => none
def M.trt (m : M PyData) : M Bool := M.bind m fun d => M.opt (trueD d)
abbrev WD (X : Cx) (W : WX) (B : List Nat) (e : Expr) (m : M Bool) : Prop := PW X e (tT X.K X.mg W B m)
section
variable {X : Cx} {W : WX} {B : List Nat} {a b c e : Expr} {ma mb : M PyData} {ta tb tc : M Bool} {pos : Pos} {f : PyData → PyData → Option PyData} {r : R2} {rest : List Expr}
theorem rp_bool {K : PySem.W.Frag} {P : Hp} {v : V} {b : Bool} (h : Rp K P v (.bool b)) : v = .bl b := by cases h; rfl
theorem tB_of {σ : L2.St} {H : Hp} {Q : Bool → Hp → Prop} (h : tT X.K X.mg W B (M.tru ma) σ H Q) : tB (tD X.K X.mg W B ma) σ H Q := by
  obtain ⟨bv, R, P, Fs, env, S, q⟩ := h
  refine tD_bind (Same.refl _) S q fun d e1 v P1 H1 F1 S1 s1 r1 h1 => ?_
  cases d with
  | bool k => exact ⟨k, rp_bool r1, h1 P1 H1 F1 S1 s1⟩
  | _ => exact h1.elim
theorem td_cmp {op : CmpOp} (ho : OpR X (compareOp op) r) (hf : OpD X.K r f) (ha : ED X W B a ma) (hb : ED X W B b mb) (hm : behindInMarks op b = false := by first | exact nomark _ | rfl) : TD X W B (.Compare a [op] [b] pos) (M.tru (M.op2 f ma mb)) :=
  PT_mono (pt_cmpR ho ha hb hm) fun σ H Q q => by
    have h1 := tB_of q
    have h2 : tD X.K X.mg W B (M.op2 f ma mb) σ H (fun x H1 => ∃ c, x = .bl c ∧ Q c H1) := h1
    exact tD_op2 hf h2
theorem td_ne (g : Gd X) (hu : X.A.units + 65 < cLine) (ha : ED X W B a ma) (hb : ED X W B b mb) : TD X W B (.Compare a [.NotEq] [b] pos) (M.tru (M.op2 neD ma mb)) := td_cmp (op_neP g (by omega)) opd_ne ha hb
theorem td_lt (ha : ED X W B a ma) (hb : ED X W B b mb) : TD X W B (.Compare a [.Lt] [b] pos) (M.tru (M.op2 ltD ma mb)) := td_cmp op_lt opd_lt ha hb
theorem td_gt (ha : ED X W B a ma) (hb : ED X W B b mb) : TD X W B (.Compare a [.Gt] [b] pos) (M.tru (M.op2 gtD ma mb)) := td_cmp op_gt opd_gt ha hb
theorem td_ge (ha : ED X W B a ma) (hb : ED X W B b mb) : TD X W B (.Compare a [.GtE] [b] pos) (M.tru (M.op2 geD ma mb)) := td_cmp op_ge opd_ge ha hb
theorem truV_of {P H : Hp} {v : V} {d : PyData} {k : Bool} (ph : Same P H) (h : Rp X.K P v d) (e : trueD d = some k) : TruV X.K v H k := by
  cases h with
  | non => cases e; rfl
  | bl b => cases e; rfl
  | int i => cases e; rfl
  | str x =>
    simp only [trueD] at e
    split at e
    · rename_i hl
      cases e
      refine ⟨by rw [lim_eq]; exact hl, ?_⟩
      cases hx : x.length <;> simp <;> omega
    · cases e
  | lst h t =>
    cases e
    refine .inl ⟨_, .inl (rd_mono ph h), ?_⟩
    have := t.length
    cases t <;> rfl
  | tup h t =>
    cases e
    refine .inr (.inl ⟨_, seqT_mono ph h, ?_⟩)
    cases t <;> rfl
  | dK => cases e
  | dT => cases e
theorem td_trt (h : ED X W B e ma) (he : ∀ whole, isTrue e X.env whole = (do let v ← whole; standAt e.pos; holding [v] (truthy v)) := by intro _; rfl) : TD X W B e (M.trt ma) :=
  PT_mono (pt_truth h he) fun σ H Q ⟨bv, R, P, Fs, env, S, q⟩ => tD_bind (Same.refl _) S q fun d e1 v P1 H1 F1 S1 s1 r1 h1 => by
    cases e : trueD d with
    | none => rw [e] at h1; exact h1.elim
    | some k => rw [e] at h1; exact ⟨k, truV_of S1.ph r1 e, h1 P1 H1 F1 S1 s1⟩
theorem td_not (h : TD X W B a ta) : TD X W B (.UnaryOp .Not a pos) (M.not ta) :=
  PT_mono (pt_not h) fun σ H Q ⟨bv, R, P, Fs, env, S, q⟩ => tT_bind (Same.refl _) S q fun k e1 P1 H1 F1 S1 s1 h1 => h1 P1 H1 F1 S1 s1
theorem wd_and1 (h : TD X W B a ta) : WD X W B (.BoolOp .And [a] pos) ta := pw_and1 h
theorem wd_or1 (h : TD X W B a ta) : WD X W B (.BoolOp .Or [a] pos) ta := pw_or1 h
theorem tT_re {K : PySem.W.Frag} {mg : Str → Option Value} {bv : Nat → V} {R P P1 H1 : Hp} {F1 : Nat → List Addr} {σ : L2.St} {e1 : DEnv} {m : M Bool} {Q : Bool → Hp → Prop} (s : Same P P1) (S : Sta K mg B bv R P1 H1 F1 σ e1)
    (q : post (m e1) (OkT K mg B bv R P σ Q) (ExD K mg W B bv R P σ)) : tT K mg W B m σ H1 Q := by
  refine ⟨bv, R, P1, F1, e1, S, ?_⟩
  cases h : m e1 with
  | ok k e => rw [h] at q; exact fun P' H' Fs' S' s' => q P' H' Fs' S' (s.trans s')
  | ex x e => rw [h] at q; exact ExD.mono s q
  | no => rw [h] at q; exact q.elim
theorem tD_re {K : PySem.W.Frag} {mg : Str → Option Value} {bv : Nat → V} {R P P1 H1 : Hp} {F1 : Nat → List Addr} {σ : L2.St} {e1 : DEnv} {m : M PyData} {Q : VK} (s : Same P P1) (S : Sta K mg B bv R P1 H1 F1 σ e1)
    (q : post (m e1) (OkD K mg B bv R P σ Q) (ExD K mg W B bv R P σ)) : tD K mg W B m σ H1 Q := by
  refine ⟨bv, R, P1, F1, e1, S, ?_⟩
  cases h : m e1 with
  | ok k e => rw [h] at q; exact fun v P' H' Fs' S' s' r' => q v P' H' Fs' S' (s.trans s') r'
  | ex x e => rw [h] at q; exact ExD.mono s q
  | no => rw [h] at q; exact q.elim
theorem wd_and (ha : TD X W B a ta) (hb : WD X W B (.BoolOp .And (b :: rest) pos) tb) : WD X W B (.BoolOp .And (a :: b :: rest) pos) (M.and ta tb) :=
  PW_mono (pw_and ha hb) fun σ H Q ⟨bv, R, P, Fs, env, S, q⟩ => tT_bind (Same.refl _) S q fun k e1 P1 H1 F1 S1 s1 h1 => by
    cases k with
    | true => exact iteT (tT_re s1 S1 h1)
    | false => exact iteF (h1 P1 H1 F1 S1 s1)
theorem wd_or (ha : TD X W B a ta) (hb : WD X W B (.BoolOp .Or (b :: rest) pos) tb) : WD X W B (.BoolOp .Or (a :: b :: rest) pos) (M.or ta tb) :=
  PW_mono (pw_or ha hb) fun σ H Q ⟨bv, R, P, Fs, env, S, q⟩ => tT_bind (Same.refl _) S q fun k e1 P1 H1 F1 S1 s1 h1 => by
    cases k with
    | true => exact iteT (h1 P1 H1 F1 S1 s1)
    | false => exact iteF (tT_re s1 S1 h1)
theorem td_w (h : WD X W B e ta) : TD X W B e ta := h.pt
/-! and, or, not as values: each part but the last a truth -/
def M.andV (a b : M PyData) : M PyData := M.bind (M.tru a) fun c => if c then b else M.pure (.bool false)
def M.orV (a b : M PyData) : M PyData := M.bind (M.tru a) fun c => if c then M.pure (.bool true) else b
theorem ed_and (ha : ED X W B a ma) (hb : ED X W B (.BoolOp .And (b :: rest) pos) mb) : ED X W B (.BoolOp .And (a :: b :: rest) pos) (M.andV ma mb) :=
  PE_mono (pe_and ha hb) fun σ H Q ⟨bv, R, P, Fs, env, S, q⟩ => tB_of (Q := fun c H1 => if c = true then tD X.K X.mg W B mb σ H1 Q else Q (.bl false) H1) ⟨bv, R, P, Fs, env, S, bindD q (fun k e h1 P1 H1 F1 S1 s1 => by
    cases k with
    | true => exact iteT (tD_re s1 S1 h1)
    | false => exact iteF (h1 _ P1 H1 F1 S1 s1 (.bl false))) fun _ _ h => h⟩
theorem ed_one {op : BoolOp} (ha : ED X W B a ma) : ED X W B (.BoolOp op [a] pos) ma := pe_one ha
def M.notV (a : M PyData) : M PyData := M.bind (M.tru a) fun c => M.pure (.bool (!c))
/-- a < b < c -/
def M.chain (f f' : PyData → PyData → Option PyData) (a b c : M PyData) : M PyData := M.bind a fun x => M.bind b fun y => M.bind (M.opt (f x y)) fun k => match k with
  | .bool true => M.bind c fun z => M.opt (f' y z)
  | .bool false => M.pure (.bool false)
  | _ => M.fail
end

/-! ### arguments and displays -/
section
variable {X : Cx} {W : WX} {B : List Nat} {e : Expr} {es : List Expr} {m : M PyData} {ml : M (List PyData)} {pos : Pos}
def M.nil : M (List PyData) := M.pure []
def M.cons (a : M PyData) (l : M (List PyData)) : M (List PyData) := M.bind a fun x => M.bind l fun xs => M.pure (x :: xs)
theorem ad_nil : AD X W B [] M.nil := PA_mono pa_nil fun σ H Q ⟨bv, R, P, Fs, env, S, q⟩ => q [] P H Fs S (Same.refl _) .nil
theorem ad_cons (ha : ED X W B e m) (hr : AD X W B es ml) (hs : starEach (e :: es) X.env = (false, eval e X.env) :: starEach es X.env := by rfl) : AD X W B (e :: es) (M.cons m ml) :=
  PA_mono (pa_cons ha hr hs) fun σ H Q ⟨bv, R, P, Fs, env, S, q⟩ => tD_bind (Same.refl _) S q fun d e1 v P1 H1 F1 S1 s1 r1 h1 => tL_bind s1 S1 h1 fun ds e2 vs P2 H2 F2 S2 s2 r2 h2 =>
    h2 (v :: vs) P2 H2 F2 S2 (s1.trans s2) (.cons (r1.mono s2) r2)
def M.tup (l : M (List PyData)) : M PyData := M.bind l fun xs => if xs.length ≤ lim then M.pure (.tuple xs) else M.fail
theorem ed_tup {k : Nat} (h : AD X W B es ml) : ED X W B (.Tuple es k pos) (M.tup ml) :=
  PE_mono (pe_tup h) fun σ H Q ⟨bv, R, P, Fs, env, S, q⟩ => tL_bind (Same.refl _) S q fun ds e1 vs P1 H1 F1 S1 s1 r1 h1 => by
    by_cases hl : ds.length ≤ lim
    · rw [if_pos hl] at h1
      have := r1.length
      refine ⟨by rw [lim_eq]; omega, fun p hp => ?_⟩
      have x := ext_new S1.ph (.tup vs) hp
      exact h1 _ _ _ F1 (S1.ext x) (s1.trans x.pp) (.tup upd_same (r1.mono x.pp))
    · rw [if_neg hl] at h1; exact h1.elim
def ownL (ds : List PyData) : OD := .lst (ds.map .pur)
theorem dataL_pur : ∀ ds : List PyData, OD.dataL (ds.map .pur) = some ds
  | [] => rfl
  | d :: ds => by
    rw [List.map_cons]
    unfold OD.dataL
    rw [dataL_pur ds]
    simp only [OD.data]
theorem data_own (ds : List PyData) : (ownL ds).data = some (.list ds) := by
  unfold ownL OD.data
  rw [dataL_pur] <;> rfl
theorem owl_pur {K : PySem.W.Frag} {mg : Str → Option Value} {P H : Hp} : ∀ {vs : List V} {ds : List PyData}, RpA K P vs ds → OwL K mg P H [] vs (ds.map .pur)
  | _, _, .nil => .nil
  | _, _, .cons h t => .cons (F := []) (G := []) (.pur h) (owl_pur t)
/-- a new list of frozen items -/
def M.lst (l : M (List PyData)) : M OD := M.bind l fun xs => if xs.length ≤ lim then M.pure (ownL xs) else M.fail
theorem eo_lst (h : AD X W B es ml) : EO X W B (.List es pos) (M.lst ml) :=
  PE_mono (pe_lst h) fun σ H Q ⟨bv, R, P, Fs, env, S, q⟩ => tL_bind (Same.refl _) S q fun ds e1 vs P1 H1 F1 S1 s1 r1 h1 => by
    by_cases hl : ds.length ≤ lim
    · rw [if_pos hl] at h1
      have := r1.length
      refine ⟨by rw [lim_eq]; omega, fun p hp => ?_⟩
      have x := ext_heap S1.ph (.lst vs) hp
      exact h1 _ _ _ F1 [p] (S1.ext x) (s1.trans x.pp) (.lst upd_same (owl_pur r1)) (Free.one S1 hp)
    · rw [if_neg hl] at h1; exact h1.elim
end

/-! ### items and slices -/
/-- an index into n things -/
def ixD (n : Nat) (i : Int) : Option Nat := if 0 ≤ i then (if i < n then some i.toNat else none) else if -(n : Int) ≤ i then some (i + n).toNat else none
def itemD (c i : PyData) : Option PyData := match c with
  | .list xs => (match i with
    | .int k => (ixD xs.length k).bind fun j => xs[j]?
    | _ => none)
  | .tuple xs => (match i with
    | .int k => (ixD xs.length k).bind fun j => xs[j]?
    | _ => none)
  | .str x => (match i with
    | .int k => if x.length ≤ lim then ((ixD x.length k).bind fun j => x.cps.toList[j]?).map fun s => .str ⟨#[s]⟩ else none
    | _ => none)
  | .dict kvs => (match kvs with
    | [] => none
    | _ => if isKey i && kvs.all fun p => flatKey p.1 == flatKey i then lookD kvs i else none)
  | _ => none
def rIxP (K : PySem.W.Frag) : R2 := fun x y H Q => rIx K x y H Q ∨ ∃ a v, x = .ref a ∧ KGet K H a y (some v) ∧ Q v H
section
variable {X : Cx} {W : WX} {B : List Nat} {a b : Expr} {ma mb : M PyData} {pos : Pos}
theorem kget_dict {pins : List (Addr × Obj)} {σ : L2.St} {H : Hp} {s : Shared} {c : Addr} {y : V} {o : Option V} (I : Inv X pins σ H s) (g : KGet X.K H c y o) : s.TypeIs (.ref c) "dict" ∧ ∀ d, Value.ref c = .ref d → ∃ ob, s.heap.get? d = some ob ∧ ob.dict = none := by
  obtain ⟨h1, h2, _⟩ := isD_at I g.isD
  exact ⟨h1, h2⟩
theorem ix_P (hu : X.A.units + 1 < cLine) : IxR X (rIxP X.K) := by
  refine IxR.or ix_seq ?_
  intro value slice pins s σ H x y v u Q I rx ry ⟨c, w, ex, g, q⟩ hs
  subst ex
  cases (show v = Value.ref c from rx)
  exact tail_any (kget_dict I g).1 PySem.F.slot_dict_getitem.lookup (k_getItem hu I g ry fun w' s' I' rw' => ⟨w, H, I', rw', q⟩) hs
theorem ixD_eq (n : Nat) (i : Int) : ixD n i = ixN n i := rfl
theorem atI_of {xs : List V} {ds : List PyData} {K : PySem.W.Frag} {P : Hp} {k : Int} {d : PyData} (t : RpA K P xs ds) (h : (ixD ds.length k).bind (fun j => ds[j]?) = some d) : ∃ v, atI xs k = some v ∧ Rp K P v d := by
  rw [← t.length] at h
  cases e : ixD xs.length k with
  | none => rw [e] at h; cases h
  | some j =>
    rw [e] at h
    obtain ⟨v, h1, h2⟩ := t.getD (i := j) h
    refine ⟨v, ?_, h2⟩
    unfold atI
    rw [← ixD_eq, e]
    exact h1
theorem opd_ix : OpD X.K (rIxP X.K) itemD := by
  intro P H v w d e z Q ph r1 r2 ez k
  cases d with
  | list ds =>
    cases e with
    | int i =>
      cases r1 with
      | lst h t =>
        cases r2
        obtain ⟨y, h1, h2⟩ := atI_of t ez
        exact .inl (.inl ⟨_, _, i, y, rfl, rfl, .inl (rd_mono ph h), h1, k _ P H (.refl ph) h2⟩)
    | _ => cases ez
  | tuple ds =>
    cases e with
    | int i =>
      cases r1 with
      | tup h t =>
        cases r2
        obtain ⟨y, h1, h2⟩ := atI_of t ez
        exact .inl (.inr (.inl ⟨_, _, i, y, rfl, rfl, seqT_mono ph h, h1, k _ P H (.refl ph) h2⟩))
    | _ => cases ez
  | str x =>
    cases e with
    | int i =>
      simp only [itemD] at ez
      split at ez
      · rename_i hl
        cases r1
        cases r2
        obtain ⟨c, hc, ez⟩ := Option.map_eq_some_iff.mp ez
        subst ez
        refine .inl (.inr (.inr ⟨x, i, c, rfl, rfl, by rw [lim_eq]; exact hl, ?_, k _ P H (.refl ph) (.str _)⟩))
        have el : x.cps.toList.length = x.length := by simp [Str.length]
        unfold atI
        rw [el, ← ixD_eq]
        exact hc
      · cases ez
    | _ => cases ez
  | dict kvs =>
    cases kvs with
    | nil => cases ez
    | cons q qs =>
      simp only [itemD] at ez
      split at ez
      · rename_i h
        rw [Bool.and_eq_true] at h
        obtain ⟨a, rfl⟩ : ∃ a, v = .ref a := by
          generalize eq : PyData.dict (q :: qs) = dd at r1
          cases r1 <;> first | exact ⟨_, rfl⟩ | cases eq
        obtain ⟨o, g, h1, h2⟩ := look_KGet ph r1 r2 h.2 h.1
        cases o with
        | none => rw [h2 rfl] at ez; cases ez
        | some w =>
          obtain ⟨e, he, hr⟩ := h1 w rfl
          rw [he] at ez
          cases ez
          exact .inr ⟨a, w, rfl, g, k _ P H (.refl ph) hr⟩
      · cases ez
  | _ => cases ez
theorem ed_ix (hu : X.A.units + 65 < cLine) (ha : ED X W B a ma) (hb : ED X W B b mb) (hs : PlainIx b := by intro _ _; rfl) : ED X W B (.Subscript a b pos) (M.op2 itemD ma mb) :=
  PE_mono (pe_ix (ix_P (by omega)) ha hb hs) fun _ _ _ h => tD_op2 opd_ix h
end
/-! slices: x[a:b] -/
def cutD (xs : List PyData) (lo hi : Option Int) : List PyData := (xs.drop (HT.sIx xs.length 0 lo)).take (HT.sIx xs.length xs.length hi - HT.sIx xs.length 0 lo)
def sliceD (c : PyData) (lo hi : Option Int) : Option PyData := match c with
  | .list xs => some (.list (cutD xs lo hi))
  | .tuple xs => some (.tuple (cutD xs lo hi))
  | .str x => if x.length ≤ lim then some (.str (Txt.slice x lo hi)) else none
  | _ => none
/-- the slice's ends -/
def M.noEnd : M (Option Int) := M.pure none
def M.anEnd (m : M PyData) : M (Option Int) := M.bind m fun d => match d with
  | .int i => M.pure (some i)
  | _ => M.fail
def M.slice (c : M PyData) (lo hi : M (Option Int)) : M PyData := M.bind c fun x => M.bind lo fun l => M.bind hi fun h => M.opt (sliceD x l h)
section
variable {K : PySem.W.Frag} {mg : Str → Option Value} {W : WX} {B : List Nat}
def tE (K : PySem.W.Frag) (mg : Str → Option Value) (W : WX) (B : List Nat) (m : M (Option Int)) : TO := fun σ H Q => ∃ bv R P Fs env, Sta K mg B bv R P H Fs σ env ∧ post (m env) (OkT K mg B bv R P σ Q) (ExD K mg W B bv R P σ)
theorem tE_bind {bv : Nat → V} {R P P0 H : Hp} {Fs : Nat → List Addr} {σ : L2.St} {env : DEnv} {β : Type} {m : M (Option Int)} {f : Option Int → M β} {okβ : β → DEnv → Prop} {Q : Option Int → Hp → Prop} (s0 : Same P0 P) (S : Sta K mg B bv R P H Fs σ env) (h : post (M.bind m f env) okβ (ExD K mg W B bv R P0 σ))
    (k : ∀ d env1 P1 H1 Fs1, Sta K mg B bv R P1 H1 Fs1 σ env1 → Same P P1 → post (f d env1) okβ (ExD K mg W B bv R P0 σ) → Q d H1) : tE K mg W B m σ H Q :=
  ⟨bv, R, P, Fs, env, S, bindD h (fun d e q P1 H1 Fs1 S1 s1 => k d e P1 H1 Fs1 S1 s1 q) fun _ _ q => q.mono s0⟩
end
abbrev PD (X : Cx) (W : WX) (B : List Nat) (e : Option Expr) (m : M (Option Int)) : Prop := PO X e (tE X.K X.mg W B m)
def rSlP (K : PySem.W.Frag) : V → Option Int → Option Int → Hp → VK → Prop := fun x lo hi H Q => (∃ a xs, x = .ref a ∧ Rd H a (.lst xs) ∧ ∀ p, H p = none → Q (.ref p) (upd H p (.lst (cutV xs lo hi)))) ∨ rSlA K x lo hi H Q ∨ ∃ z, x = .str z ∧ z.length ≤ sizeLine ∧ Q (.str (Txt.slice z lo hi)) H
section
variable {X : Cx} {W : WX} {B : List Nat} {a e : Expr} {ma m : M PyData} {ml mh : M (Option Int)} {lo hi : Option Expr} {pos p2 : Pos}
theorem PO_mono {t t' : TO} (h : PO X lo t) (i : ∀ σ H Q, t' σ H Q → t σ H Q) : PO X lo t' := ⟨fun pins s σ H Q I q => h.run pins s σ H Q I (i σ H Q q)⟩
theorem pd_none : PD X W B none M.noEnd := PO_mono po_none fun σ H Q ⟨bv, R, P, Fs, env, S, q⟩ => q P H Fs S (Same.refl _)
theorem pd_some (h : ED X W B e m) : PD X W B (some e) (M.anEnd m) := PO_mono (po_some h) fun σ H Q ⟨bv, R, P, Fs, env, S, q⟩ => tD_bind (Same.refl _) S q fun d e1 v P1 H1 F1 S1 s1 r1 h1 => by
  cases d with
  | int i => cases r1; exact ⟨i, rfl, h1 P1 H1 F1 S1 s1⟩
  | _ => exact h1.elim
theorem cut_rp {K : PySem.W.Frag} {P : Hp} {xs : List V} {ds : List PyData} (t : RpA K P xs ds) (lo hi : Option Int) : RpA K P (cutV xs lo hi) (cutD ds lo hi) := by
  unfold cutV cutD
  rw [t.length]
  exact (t.drop _).take _
theorem cutD_all {ds : List PyData} {lo hi : Option Int} (h : HT.sIx ds.length 0 lo = 0 ∧ HT.sIx ds.length ds.length hi = ds.length) : cutD ds lo hi = ds := by
  unfold cutD
  rw [h.1, h.2, List.drop_zero, Nat.sub_zero, List.take_length]
theorem sl_listR : SlR X (fun x lo hi H Q => ∃ a xs, x = .ref a ∧ Rd H a (.lst xs) ∧ ∀ p, H p = none → Q (.ref p) (upd H p (.lst (cutV xs lo hi)))) := by
  intro pins s σ H x v vl vu lo hi sl Q I rx hs pl pu ⟨a, xs, e, h, q⟩
  exact sl_list pins s σ H x v vl vu lo hi sl Q I rx hs pl pu ⟨a, xs, e, .inl h, q⟩
theorem sl_P : SlR X (rSlP X.K) := SlR.or sl_listR (SlR.or sl_tupA C8.sl_txt)
theorem sld {P H : Hp} {v : V} {d z : PyData} {lo hi : Option Int} {Q : VK} (ph : Same P H) (r1 : Rp X.K P v d) (ez : sliceD d lo hi = some z) (k : ∀ u P' H', Ext P H P' H' → Rp X.K P' u z → Q u H') : rSlP X.K v lo hi H Q := by
  cases d with
  | list ds =>
    cases ez
    cases r1 with
    | lst h t =>
      exact .inl ⟨_, _, rfl, rd_mono ph h, fun p hp => k _ _ _ (ext_new ph _ hp) (.lst (.inl upd_same) ((cut_rp t lo hi).mono (ext_new ph _ hp).pp))⟩
  | tuple ds =>
    cases ez
    cases r1 with
    | tup h t =>
      refine .inr (.inl ⟨_, _, rfl, seqT_mono ph h, fun e => ?_, fun _ p hp => k _ _ _ (ext_new ph _ hp) (.tup upd_same ((cut_rp t lo hi).mono (ext_new ph _ hp).pp))⟩)
      refine k _ P H (.refl ph) ?_
      rw [t.length] at e
      rw [cutD_all e]
      exact .tup h t
  | str x =>
    simp only [sliceD] at ez
    split at ez
    · rename_i hl
      cases ez
      cases r1
      exact .inr (.inr ⟨x, rfl, by rw [lim_eq]; exact hl, k _ P H (.refl ph) (.str _)⟩)
    · cases ez
  | _ => cases ez
theorem ed_slice (he : ED X W B a ma) (hl : PD X W B lo ml) (hu : PD X W B hi mh) : ED X W B (.Subscript a (.Slice lo hi none p2) pos) (M.slice ma ml mh) :=
  PE_mono (pe_slice sl_P he hl hu) fun σ H Q ⟨bv, R, P, Fs, env, S, q⟩ => tD_bind (Same.refl _) S q fun d e1 v P1 H1 F1 S1 s1 r1 h1 => tE_bind s1 S1 h1 fun l e2 P2 H2 F2 S2 s2 h2 => tE_bind (s1.trans s2) S2 h2 fun h e3 P3 H3 F3 S3 s3 h3 => by
    cases e : sliceD d l h with
    | none => rw [e] at h3; exact h3.elim
    | some z => rw [e] at h3; exact sld S3.ph (r1.mono (s2.trans s3)) e fun u P4 H4 x r4 => h3 u P4 H4 F3 (S3.ext x) (s1.trans (s2.trans (s3.trans x.pp))) r4
end

/-! ### calls of what is built in -/
section
variable {X : Cx} {W : WX} {B : List Nat} {x : Str} {p pos : Pos} {e : Expr} {es : List Expr} {ml : M (List PyData)} {id T : String} {r : List V → Hp → VK → Prop} {f : List PyData → Option PyData}
theorem tD_opL {σ : L2.St} {H : Hp} {Q : VK} (hf : CallD X.K r f) (h : tD X.K X.mg W B (M.opL f ml) σ H Q) : tCB r (tL X.K X.mg W B ml) σ H Q := by
  obtain ⟨bv, R, P, Fs, env, S, q⟩ := h
  refine tL_bind (Same.refl _) S q fun ds e1 vs P1 H1 F1 S1 s1 r1 h1 => ?_
  cases e : f ds with
  | none => rw [e] at h1; exact h1.elim
  | some z => rw [e] at h1; exact hf P1 H1 vs ds z Q S1.ph r1 e fun u P3 H3 x r3 => h1 u P3 H3 F1 (S1.ext x) (s1.trans x.pp) r3
theorem ed_callB (hc : CallR X (.builtin id) r) (hf : CallD X.K r f) (hg : Gl X x) (hm : X.mg x = none) (hv : bootBuiltins x = some (.builtin id)) (ha : AD X W B (e :: es) ml) (hn : x ≠ "__name__" := by decide) (hdb : (x == ("__debug__" : Str)) = false := by decide)
    (he : starEach (e :: es) X.env = (false, eval e X.env) :: starEach es X.env := by rfl) (hpl : (backTo pos (starEach es X.env)).any (·.1) = false := by rfl) : ED X W B (.Call (.Name x p) (e :: es) [] pos) (M.opL f ml) :=
  PE_mono (pe_callB hc hg hm hv ha hn hdb he hpl) fun _ _ _ h => tD_opL hf h
theorem ed_callTy (hc : CallR X (.type T) r) (hf : CallD X.K r f) (hg : Gl X x) (hm : X.mg x = none) (hv : bootBuiltins x = some (.type T)) (ha : AD X W B (e :: es) ml) (hn : x ≠ "__name__" := by decide) (hdb : (x == ("__debug__" : Str)) = false := by decide)
    (he : starEach (e :: es) X.env = (false, eval e X.env) :: starEach es X.env := by rfl) (hpl : (backTo pos (starEach es X.env)).any (·.1) = false := by rfl) : ED X W B (.Call (.Name x p) (e :: es) [] pos) (M.opL f ml) :=
  PE_mono (pe_callTy hc hg hm hv ha hn hdb he hpl) fun _ _ _ h => tD_opL hf h

/-- one argument, two -/
def one (f : PyData → Option PyData) : List PyData → Option PyData
  | [d] => f d
  | _ => none
def two (f : PyData → PyData → Option PyData) : List PyData → Option PyData
  | [d, e] => f d e
  | _ => none
theorem calld1 {r : List V → Hp → VK → Prop} {f : PyData → Option PyData} (h : ∀ (P H : Hp) (v : V) (d z : PyData) (Q : VK), Same P H → Rp X.K P v d → f d = some z → (∀ u P' H', Ext P H P' H' → Rp X.K P' u z → Q u H') → r [v] H Q) : CallD X.K r (one f) := by
  intro P H vs ds z Q ph rs ez k
  match vs, ds, rs with
  | _, _, .nil => cases ez
  | _, _, .cons r1 .nil => exact h P H _ _ z Q ph r1 ez k
  | _, _, .cons r1 (.cons r2 t) => simp [one] at ez
theorem calld2 {r : List V → Hp → VK → Prop} {f : PyData → PyData → Option PyData} (h : ∀ (P H : Hp) (v w : V) (d e z : PyData) (Q : VK), Same P H → Rp X.K P v d → Rp X.K P w e → f d e = some z → (∀ u P' H', Ext P H P' H' → Rp X.K P' u z → Q u H') → r [v, w] H Q) : CallD X.K r (two f) := by
  intro P H vs ds z Q ph rs ez k
  match vs, ds, rs with
  | _, _, .nil => cases ez
  | _, _, .cons r1 .nil => cases ez
  | _, _, .cons r1 (.cons r2 .nil) => exact h P H _ _ _ _ z Q ph r1 r2 ez k
  | _, _, .cons r1 (.cons r2 (.cons r3 t)) => simp [two] at ez
/-! len -/
def lenD : PyData → Option PyData
  | .list xs => some (.int xs.length)
  | .tuple xs => some (.int xs.length)
  | .str x => if x.length ≤ lim then some (.int x.length) else none
  | .dict kvs => (match kvs with
    | [] => some (.int 0)
    | _ => if kvs.all fun p => flatKey p.1 then some (.int kvs.length) else none)
  | _ => none
def rLen (K : PySem.W.Frag) : List V → Hp → VK → Prop := fun xs H Q => (∃ x n, xs = [x] ∧ LenV K x H n ∧ Q (.int n) H) ∨ ∃ a kvs, xs = [.ref a] ∧ Rd H a (.dK kvs) ∧ Q (.int kvs.length) H
theorem call_lenP : CallR X (.builtin "len") (rLen X.K) := by
  refine CallR.or call_len ?_
  intro pins s σ H xs us Q I r ⟨a, kvs, e, h, q⟩
  subst e
  obtain ⟨u, rfl, ru⟩ := vals1 r
  cases ru
  exact d_len I h fun t s' I' => ⟨.int kvs.length, H, I', ⟨_, rfl⟩, q⟩
theorem cd_len : CallD X.K (rLen X.K) (one lenD) := calld1 fun P H v d z Q ph r1 ez k => by
  cases r1 with
  | lst h t =>
    cases ez
    exact .inl ⟨_, _, rfl, .inl ⟨_, .inl (rd_mono ph h), t.length.symm⟩, k _ P H (.refl ph) (.int _)⟩
  | tup h t =>
    cases ez
    exact .inl ⟨_, _, rfl, .inr ⟨_, seqT_mono ph h, t.length.symm⟩, k _ P H (.refl ph) (.int _)⟩
  | str x =>
    simp only [lenD] at ez
    split at ez
    · rename_i hl
      cases ez
      exact .inl ⟨_, _, rfl, ⟨by rw [lim_eq]; exact hl, rfl⟩, k _ P H (.refl ph) (.int _)⟩
    · cases ez
  | @dK a ks xs ds h hl t =>
    cases ks with
    | nil =>
      simp [lenD] at ez
      subst ez
      exact .inr ⟨a, _, rfl, rd_mono ph h, k _ P H (.refl ph) (by rw [List.zip_nil_left]; exact .int _)⟩
    | cons k1 ks =>
      cases t with
      | nil => simp at hl
      | cons h1 t =>
        simp only [lenD, List.map_cons, List.zip_cons_cons] at ez
        split at ez
        · cases ez
          have e1 := t.length
          refine .inr ⟨a, _, rfl, rd_mono ph h, k _ P H (.refl ph) ?_⟩
          simp only [List.length_cons, List.length_zip, List.length_map, List.zip_cons_cons] at hl ⊢
          rw [e1]
          exact .int _
        · cases ez
  | @dT a ks xs ds h hl hne t =>
    cases ks with
    | nil => exact absurd rfl hne
    | cons k1 ks =>
      cases t with
      | nil => simp at hl
      | cons h1 t => simp [lenD, flatKey] at ez
  | _ => cases ez
/-! isinstance -/
def tyName : PyData → String
  | .none => "NoneType"
  | .bool _ => "bool"
  | .int _ => "int"
  | .str _ => "str"
  | .list _ => "list"
  | .tuple _ => "tuple"
  | .dict _ => "dict"
/-- isinstance of data -/
def isA (T : String) (d : PyData) : Bool := tyName d == T || (T == "int" && tyName d == "bool")
def M.isi (T : String) (m : M PyData) : M PyData := M.op1 (fun d => some (.bool (isA T d))) m
end
end DL

set_option maxHeartbeats 2000000
/-! DL6: statements. -/
namespace DL
open PySem PySem.Spec PyProof.Rows L2

section
variable {K : PySem.W.Frag} {mg : Str → Option Value} {W : WX} {B : List Nat} {bv : Nat → V} {R P P0 H P' H' : Hp} {Fs Fs' : Nat → List Addr} {σ : L2.St} {env : DEnv}
theorem tD_bindS {β : Type} {m : M PyData} {f : PyData → M β} {okβ : β → DEnv → Prop} {Q : VK} (s0 : Same P0 P) (S : Sta K mg B bv R P H Fs σ env) (h : post (M.bind m f env) okβ (ExS K mg W B bv R P0))
    (k : ∀ d env1 v P1 H1 Fs1, Sta K mg B bv R P1 H1 Fs1 σ env1 → Same P P1 → Rp K P1 v d → post (f d env1) okβ (ExS K mg W B bv R P0) → Q v H1) : tD K mg W B m σ H Q :=
  ⟨bv, R, P, Fs, env, S, bindD h (fun d e q v P1 H1 Fs1 S1 s1 r1 => k d e v P1 H1 Fs1 S1 s1 r1 q) fun _ _ q => (ExS.mono s0 q).d⟩
theorem tO_bindS {β : Type} {m : M OD} {f : OD → M β} {okβ : β → DEnv → Prop} {Q : VK} (s0 : Same P0 P) (S : Sta K mg B bv R P H Fs σ env) (h : post (M.bind m f env) okβ (ExS K mg W B bv R P0))
    (k : ∀ x env1 v P1 H1 Fs1 G, Sta K mg B bv R P1 H1 Fs1 σ env1 → Same P P1 → Ow K mg P1 H1 G v x → Free R P1 Fs1 G → post (f x env1) okβ (ExS K mg W B bv R P0) → Q v H1) : tO K mg W B m σ H Q :=
  ⟨bv, R, P, Fs, env, S, bindD h (fun d e q v P1 H1 Fs1 G S1 s1 r1 f1 => k d e v P1 H1 Fs1 G S1 s1 r1 f1 q) fun _ _ q => (ExS.mono s0 q).d⟩
theorem tT_bindS {β : Type} {m : M Bool} {f : Bool → M β} {okβ : β → DEnv → Prop} {Q : Bool → Hp → Prop} (s0 : Same P0 P) (S : Sta K mg B bv R P H Fs σ env) (h : post (M.bind m f env) okβ (ExS K mg W B bv R P0))
    (k : ∀ d env1 P1 H1 Fs1, Sta K mg B bv R P1 H1 Fs1 σ env1 → Same P P1 → post (f d env1) okβ (ExS K mg W B bv R P0) → Q d H1) : tT K mg W B m σ H Q :=
  ⟨bv, R, P, Fs, env, S, bindD h (fun d e q P1 H1 Fs1 S1 s1 => k d e P1 H1 Fs1 S1 s1 q) fun _ _ q => (ExS.mono s0 q).d⟩
theorem OkS.mono {D : Ends} {f : Flw} {e : DEnv} (s : Same P0 P) (h : OkS K mg B bv R P0 D f e) : OkS K mg B bv R P D f e := by
  cases f with
  | nx => exact fun σ' P' H' Fs' S s' => h σ' P' H' Fs' S (s.trans s')
  | bk => exact fun σ' P' H' Fs' S s' => h σ' P' H' Fs' S (s.trans s')
  | ct => exact fun σ' P' H' Fs' S s' => h σ' P' H' Fs' S (s.trans s')
  | rt x => exact fun v σ' P' H' Fs' G S s' => h v σ' P' H' Fs' G S (s.trans s')
/-- a block goes on from a later state -/
theorem tS_re {D : Ends} {m : M Flw} (s : Same P0 P) (S : Sta K mg B bv R P H Fs σ env) (q : post (m env) (OkS K mg B bv R P0 D) (ExS K mg W B bv R P0)) : tS K mg W B m D σ H := by
  refine ⟨bv, R, P, Fs, env, S, ?_⟩
  cases h : m env with
  | ok f e => rw [h] at q; exact OkS.mono s q
  | ex x e => rw [h] at q; exact ExS.mono s q
  | no => rw [h] at q; exact q.elim
end

/-! ### blocks -/
def M.skip : M Flw := M.pure .nx
def M.seq (a b : M Flw) : M Flw := M.bind a fun f => match f with
  | .nx => b
  | f => M.pure f
section
variable {X : Cx} {W : WX} {B : List Nat} {st : Stmt} {rest : List Stmt} {m m2 : M Flw} {e c : Expr} {md : M PyData} {mo : M OD} {mt : M Bool} {pos : Pos}
theorem sds_nil : SDs X W B [] M.skip := PSs_mono pss_nil fun D σ H ⟨bv, R, P, Fs, env, S, q⟩ => q σ P H Fs S (Same.refl _)
theorem sds_cons (h1 : SD X W B st m) (h2 : SDs X W B rest m2) : SDs X W B (st :: rest) (M.seq m m2) :=
  PSs_mono (pss_cons h1 h2) fun D σ H ⟨bv, R, P, Fs, env, S, q⟩ => ⟨bv, R, P, Fs, env, S, bindD q (fun f e q => by
    cases f with
    | nx => exact fun σ' P' H' Fs' S' s' => tS_re s' S' q
    | bk => exact q
    | ct => exact q
    | rt x => exact q) fun _ _ q => q⟩
theorem sds_one (h1 : SD X W B st m) : SDs X W B [st] m := pss_one h1
def M.drop (m : M PyData) : M Flw := M.bind m fun _ => M.skip
theorem sd_expr (he : ED X W B e md) (hs : swapsWith e none pos.line X.env = pure false := by rfl) : SD X W B (.Expr e pos) (M.drop md) :=
  PS_mono (ps_expr he hs) fun D σ H ⟨bv, R, P, Fs, env, S, q⟩ => tD_bindS (Same.refl _) S q fun d e1 v P1 H1 F1 S1 s1 r1 h1 => h1 σ P1 H1 F1 S1 s1
def M.ret (m : M OD) : M Flw := M.bind m fun x => M.pure (.rt x)
theorem sd_ret (he : EO X W B e mo) : SD X W B (.Return (some e) pos) (M.ret mo) :=
  PS_mono (ps_ret he) fun D σ H ⟨bv, R, P, Fs, env, S, q⟩ => tO_bindS (Same.refl _) S q fun x e1 v P1 H1 F1 G S1 s1 o1 f1 h1 => h1 v σ P1 H1 F1 G S1 s1 o1 f1
def M.ifS (c : M Bool) (a b : M Flw) : M Flw := M.ite c a b
theorem sd_if {a b : List Stmt} (hc : TD X W B c mt) (ha : SDs X W B a m) (hb : SDs X W B b m2) : SD X W B (.If c a b pos) (M.ifS mt m m2) :=
  PS_mono (ps_if hc ha hb) fun D σ H ⟨bv, R, P, Fs, env, S, q⟩ => tT_bindS (Same.refl _) S q fun k e1 P1 H1 F1 S1 s1 h1 => by
    cases k with
    | true => exact iteT (tS_re s1 S1 h1)
    | false => exact iteF (tS_re s1 S1 h1)
/-- a name is stored -/
def M.put (i : Nat) (x : OD) : M Flw := fun env => if i < env.length then .ok .nx (env.set i (some x)) else .no
def M.set (i : Nat) (m : M OD) : M Flw := M.bind m fun x => M.put i x
theorem sd_set (i : Nat) {x : Str} {p : Pos} (hN : X.N.Nodup) (hB : i ∉ B) (he : EO X W B e mo) (hi : X.N[i]? = some x := by rfl) (hx : Loc X.env.scope x := by first | exact Or.inl rfl | exact Or.inr rfl)
    (hs : swapsWith e (some (.Name x p)) pos.line X.env = pure false := by rfl) (hf : X.fn x = true ∨ X.env.scope.names.lookup x = some .local := by first | exact .inl rfl | exact .inr rfl | assumption) :
    SD X W B (.Assign [.Name x p] e pos) (M.set i mo) :=
  PS_mono (ps_set hN hi hx he hs hf) fun D σ H ⟨bv, R, P, Fs, env, S, q⟩ => tO_bindS (Same.refl _) S q fun x e1 v P1 H1 F1 G S1 s1 o1 f1 h1 => by
    unfold M.put at h1
    by_cases hl : i < e1.length
    · rw [if_pos hl] at h1
      exact h1 _ P1 H1 _ (S1.store o1 f1 hB hl) s1
    · rw [if_neg hl] at h1; exact h1.elim
end

/-! ### targets -/
def OkG (K : PySem.W.Frag) (mg : Str → Option Value) (B : List Nat) (bv : Nat → V) (R P : Hp) (Q : L2.St → Hp → Prop) (e : DEnv) : Prop := ∀ σ' P' H' Fs', Sta K mg B bv R P' H' Fs' σ' e → Same P P' → Q σ' H'
/-- a target takes frozen data: the slots behind it -/
abbrev TG' := PyData → DEnv → Option DEnv
def tG (K : PySem.W.Frag) (mg : Str → Option Value) (B : List Nat) (g : TG') : TG := fun v σ H Q => ∃ bv R P Fs env d e, Sta K mg B bv R P H Fs σ env ∧ Rp K P v d ∧ g d env = some e ∧ OkG K mg B bv R P Q e
abbrev GT (X : Cx) (B : List Nat) (tg : Expr) (g : TG') : Prop := PG X tg (tG X.K X.mg B g)
abbrev TGs' := List PyData → DEnv → Option DEnv
theorem PG_mono {X : Cx} {tg : Expr} {t t' : TG} (h : PG X tg t) (i : ∀ v σ H Q, t' v σ H Q → t v σ H Q) : PG X tg t' := ⟨fun pins s σ H v u Q I r q => h.run pins s σ H v u Q I r (i v σ H Q q)⟩
theorem PGs_mono {X : Cx} {tg : List Expr} {t t' : TGs} (h : PGs X tg t) (i : ∀ v σ H Q, t' v σ H Q → t v σ H Q) : PGs X tg t' := ⟨fun pins s σ H v u Q I r q => h.run pins s σ H v u Q I r (i v σ H Q q)⟩
def gNameD (i : Nat) : TG' := fun d env => if i < env.length then some (env.set i (some (.pur d))) else none
def gNilD : TGs' := fun ds env => match ds with
  | [] => some env
  | _ => none
def gConsD (g : TG') (r : TGs') : TGs' := fun ds env => match ds with
  | d :: ds => (g d env).bind fun e => r ds e
  | _ => none
section
variable {X : Cx} {B : List Nat} {pos : Pos} {e : Expr} {es : List Expr}
end
end DL

set_option maxHeartbeats 2000000
/-! DL7: loops. -/
namespace DL
open PySem PySem.Spec PyProof.Rows L2

/-! ### what a loop walks, as data -/
/-- the iterator J hands out the items ds, whatever the heap becomes -/
def Fd (K : PySem.W.Frag) (P : Hp) (J : It) (ds : List PyData) : Prop := ∀ P1 H1, Same P P1 → Same P1 H1 →
  (∀ (i : Nat) d, ds[i]? = some d → J.go i H1 ∧ ∀ x H2, J.yld i H1 x H2 → ∃ P2, Ext P1 H1 P2 H2 ∧ Rp K P2 x d) ∧ J.stop ds.length H1
theorem Fd.mono {K : PySem.W.Frag} {P P' : Hp} {J : It} {ds : List PyData} (s : Same P P') (h : Fd K P J ds) : Fd K P' J ds := fun P1 H1 s1 s2 => h P1 H1 (s.trans s1) s2
def OkI (K : PySem.W.Frag) (mg : Str → Option Value) (B : List Nat) (bv : Nat → V) (R P : Hp) (σ : L2.St) (Q : It → Hp → Prop) : List PyData → DEnv → Prop := fun ds env' => ∀ J P' H' Fs', Sta K mg B bv R P' H' Fs' σ env' → Same P P' → Fd K P' J ds → Q J H'
def tI (K : PySem.W.Frag) (mg : Str → Option Value) (W : WX) (B : List Nat) (m : M (List PyData)) : TI := fun σ H Q => ∃ bv R P Fs env, Sta K mg B bv R P H Fs σ env ∧ post (m env) (OkI K mg B bv R P σ Q) (ExD K mg W B bv R P σ)
abbrev ID (X : Cx) (W : WX) (B : List Nat) (tg e : Expr) (m : M (List PyData)) : Prop := PI X tg e (tI X.K X.mg W B m)
theorem PI_mono {X : Cx} {tg e : Expr} {t t' : TI} (h : PI X tg e t) (i : ∀ σ H Q, t' σ H Q → t σ H Q) : PI X tg e t' := ⟨fun pins s σ H Q I q => h.run pins s σ H Q I (i σ H Q q)⟩

/-- the items of data that is walked -/
def itemsD : PyData → Option (List PyData)
  | .list xs => some xs
  | .tuple xs => some xs
  | .str x => some (x.cps.toList.map fun c => .str ⟨#[c]⟩)
  | _ => none
def M.items (m : M PyData) : M (List PyData) := M.bind m fun d => M.opt (itemsD d)
def iAny (K : PySem.W.Frag) (tl : TE) : TI := fun σ H R => tl σ H fun x H1 => (∃ a, x = .ref a ∧ (∃ xs, SqL K H1 a xs) ∧ R (Itl K a) H1) ∨ (∃ a, x = .ref a ∧ (∃ xs, SqT K H1 a xs) ∧ R (Itt K a) H1) ∨ ∃ z, x = .str z ∧ R (Its z) H1
section
variable {X : Cx} {tg e : Expr}
theorem pi_any {t : TE} (he : PE X e t) : PI X tg e (iAny X.K t) := by
  refine ⟨fun pins s σ H R I h => thn (he.run pins s σ H _ I h) fun v s1 ⟨x, H1, I1, r1, q1⟩ => ?_⟩
  rcases q1 with ⟨a, ex, ⟨xs, hq⟩, q⟩ | ⟨a, ex, ⟨xs, hq⟩, q⟩ | ⟨z, ex, q⟩
  · subst ex
    cases r1
    obtain ⟨its, rv, pl, _⟩ := I1.list hq
    exact wpAny_pyIter_list pl.isList (pi_one (tk := s1.toks) I1 _ (turn_list a _) ⟨_, Heap.get?_push_size _ rfl, rfl, rfl⟩ q)
  · subst ex
    cases r1
    obtain ⟨its, rv, pl, _⟩ := I1.tuple hq
    exact wpAny_pyIter_tuple (show s1.heap.IsTuple a its.toArray from pl) (pi_one (tk := s1.toks) I1 _ (turn_tuple a _) ⟨_, Heap.get?_push_size _ rfl, rfl, rfl⟩ q)
  · subst ex
    obtain ⟨t, rfl⟩ := r1
    cases ha : z.cps.all (· < 128) with
    | false => exact wpAny_pyIter_wide ha (pi_one (tk := s1.toks) I1 _ (turn_str _ z t "str_iterator" (Or.inr rfl)) ⟨_, Heap.get?_push_size _ rfl, rfl, rfl⟩ q)
    | true => exact wpAny_pyIter_ascii ha (pi_one (tk := s1.toks) I1 _ (turn_str _ z t "str_ascii_iterator" (Or.inl rfl)) ⟨_, Heap.get?_push_size _ rfl, rfl, rfl⟩ q)
end
/-! the items are handed out -/
section
variable {K : PySem.W.Frag} {P : Hp}
theorem fd_list {a : Addr} {xs : List V} {ds : List PyData} (h : Rd P a (.lst xs)) (t : RpA K P xs ds) : Fd K P (Itl K a) ds := fun P1 H1 s1 s2 => by
  have hq : SqL K H1 a xs := .inl (rd_mono (s1.trans s2) h)
  refine ⟨fun i d e => ?_, ⟨xs, hq, by rw [t.length]; exact Nat.le_refl _⟩⟩
  obtain ⟨v, h1, h2⟩ := t.getD e
  refine ⟨⟨xs, v, hq, h1⟩, fun x H2 y => ?_⟩
  obtain ⟨e1, y⟩ := y
  subst e1
  have z := y xs hq
  rw [h1] at z
  cases z
  exact ⟨P1, .refl s2, h2.mono s1⟩
theorem fd_tup {a : Addr} {xs : List V} {ds : List PyData} (h : P a = some (.tup xs)) (t : RpA K P xs ds) : Fd K P (Itt K a) ds := fun P1 H1 s1 s2 => by
  have hq : SqT K H1 a xs := seqT_mono (s1.trans s2) h
  refine ⟨fun i d e => ?_, ⟨xs, hq, by rw [t.length]; exact Nat.le_refl _⟩⟩
  obtain ⟨v, h1, h2⟩ := t.getD e
  refine ⟨⟨xs, v, hq, h1⟩, fun x H2 y => ?_⟩
  obtain ⟨e1, y⟩ := y
  subst e1
  have z := y xs hq
  rw [h1] at z
  cases z
  exact ⟨P1, .refl s2, h2.mono s1⟩
theorem fd_str (x : Str) : Fd K P (Its x) (x.cps.toList.map fun c => .str ⟨#[c]⟩) := fun P1 H1 s1 s2 => by
  refine ⟨fun i d e => ?_, by show x.cps.size ≤ _; simp⟩
  rw [List.getElem?_map] at e
  obtain ⟨c, hc, e⟩ := Option.map_eq_some_iff.mp e
  subst e
  have hlt : i < x.cps.size := by
    have := (List.getElem?_eq_some_iff.mp hc).1
    simpa using this
  refine ⟨hlt, fun v H2 y => ?_⟩
  obtain ⟨e1, c', hc', ev⟩ := y
  subst e1
  have : c' = c := by
    have z : x.cps.toList[i]? = some c' := by simpa using hc'
    rw [hc] at z; cases z; rfl
  subst this
  subst ev
  exact ⟨P1, .refl s2, .str _⟩
/-- lo, lo + c, .. -/
def rangeL (lo c : Int) (n : Nat) : List PyData := (List.range n).map fun (i : Nat) => .int (lo + (i : Int) * c)
theorem rangeL_get {lo c : Int} {n i : Nat} {d : PyData} (e : (rangeL lo c n)[i]? = some d) : i < n ∧ d = .int (lo + (i : Int) * c) := by
  unfold rangeL at e
  rw [List.getElem?_map] at e
  obtain ⟨j, hj, e⟩ := Option.map_eq_some_iff.mp e
  obtain ⟨h1, h2⟩ := List.getElem?_eq_some_iff.mp hj
  rw [List.getElem_range] at h2
  subst h2
  exact ⟨by simpa using h1, e.symm⟩
theorem fd_rng (lo : Int) (n : Nat) : Fd K P (Itr lo n) (rangeL lo 1 n) := fun P1 H1 s1 s2 => by
  refine ⟨fun i d e => ?_, by show n ≤ _; simp [rangeL]⟩
  obtain ⟨h1, h2⟩ := rangeL_get e
  subst h2
  refine ⟨h1, fun v H2 y => ?_⟩
  obtain ⟨e1, e2⟩ := y
  subst e1
  subst e2
  exact ⟨P1, .refl s2, by rw [Int.mul_one]; exact .int _⟩
def enumL (ds : List PyData) : List PyData := ds.mapIdx fun i d => .tuple [.int (i : Nat), d]
theorem fd_enum {a : Addr} {xs : List V} {ds : List PyData} (h : Rd P a (.lst xs)) (t : RpA K P xs ds) : Fd K P (Ite K a) (enumL ds) := fun P1 H1 s1 s2 => by
  have hq : SqL K H1 a xs := .inl (rd_mono (s1.trans s2) h)
  refine ⟨fun i d e => ?_, ⟨xs, hq, by unfold enumL; rw [List.length_mapIdx, t.length]; exact Nat.le_refl _⟩⟩
  unfold enumL at e
  rw [List.getElem?_mapIdx] at e
  obtain ⟨d', hd, e⟩ := Option.map_eq_some_iff.mp e
  subst e
  obtain ⟨v, h1, h2⟩ := t.getD hd
  refine ⟨⟨xs, v, hq, h1⟩, fun x H2 y => ?_⟩
  obtain ⟨T, x', e1, hT, e2, y⟩ := y
  subst e1
  subst e2
  have z := y xs hq
  rw [h1] at z
  cases z
  have ex := ext_new s2 (.tup [.int (i : Nat), v]) hT
  exact ⟨_, ex, .tup upd_same (.cons (.int _) (.cons (h2.mono (s1.trans ex.pp)) .nil))⟩
end
section
variable {X : Cx} {W : WX} {B : List Nat} {tg e a b c : Expr} {m : M PyData} {ml : M (List PyData)} {p pos tpos : Pos}
theorem id_any (he : ED X W B e m) : ID X W B tg e (M.items m) :=
  PI_mono (pi_any he) fun σ H Q ⟨bv, R, P, Fs, env, S, q⟩ => tD_bind (Same.refl _) S q fun d e1 v P1 H1 F1 S1 s1 r1 h1 => by
    cases r1 with
    | lst h t => exact .inl ⟨_, rfl, ⟨_, .inl (rd_mono S1.ph h)⟩, h1 _ P1 H1 F1 S1 s1 (fd_list h t)⟩
    | tup h t => exact .inr (.inl ⟨_, rfl, ⟨_, seqT_mono S1.ph h⟩, h1 _ P1 H1 F1 S1 s1 (fd_tup h t)⟩)
    | str x => exact .inr (.inr ⟨x, rfl, h1 _ P1 H1 F1 S1 s1 (fd_str x)⟩)
    | _ => exact h1.elim
/-! range -/
/-- a number that a range takes; never unfolded (a test of a length by whnf would go down digit by digit) -/
@[irreducible] def rgI (j : Int) : Bool := decide (-(2 ^ 62) ≤ j) && decide (j < 2 ^ 62)
theorem rgI_iff {j : Int} : rgI j = true ↔ -(2 ^ 62) ≤ j ∧ j < 2 ^ 62 := by unfold rgI; simp
def rangeD1 : List PyData → Option (List PyData)
  | [.int j] => if rgI j = true then some (rangeL 0 1 j.toNat) else none
  | _ => none
def M.iter (f : List PyData → Option (List PyData)) (l : M (List PyData)) : M (List PyData) := M.bind l fun ds => M.opt (f ds)
theorem tI_opt {r : List V → Hp → (It → Hp → Prop) → Prop} {f : List PyData → Option (List PyData)} (hf : ∀ P H vs ds l Q, Same P H → RpA X.K P vs ds → f ds = some l → (∀ J, Fd X.K P J l → Q J H) → r vs H Q) {σ : L2.St} {H : Hp} {Q : It → Hp → Prop}
    (h : tI X.K X.mg W B (M.iter f ml) σ H Q) : tL X.K X.mg W B ml σ H fun vs H1 => r vs H1 Q := by
  obtain ⟨bv, R, P, Fs, env, S, q⟩ := h
  refine tL_bind (Same.refl _) S q fun ds e1 vs P1 H1 F1 S1 s1 r1 h1 => ?_
  cases er : f ds with
  | none => rw [er] at h1; exact h1.elim
  | some l => rw [er] at h1; exact hf P1 H1 vs ds l Q S1.ph r1 er fun J k => h1 J P1 H1 F1 S1 s1 k
theorem id_rng1 (hg : Gl X "range") (hm : X.mg "range" = none) (ha : AD X W B [a] ml) (hs : starEach [a] X.env = [(false, eval a X.env)] := by rfl) : ID X W B tg (.Call (.Name "range" p) [a] [] pos) (M.iter rangeD1 ml) :=
  PI_mono (pi_range1 hg hm ha hs) fun σ H Q h => tI_opt (r := fun vs H1 Q => ∃ j : Int, vs = [.int j] ∧ -(2 ^ 62) ≤ j ∧ j < 2 ^ 62 ∧ Q (Itr 0 j.toNat) H1) (fun P H vs ds l Q ph r er k => by
    match ds, vs, r, er with
    | [.int j], _, .cons h .nil, er =>
      cases h
      simp only [rangeD1] at er
      split at er
      · rename_i hj
        cases er
        rw [rgI_iff] at hj
        exact ⟨j, rfl, hj.1, hj.2, k _ (fd_rng 0 _)⟩
      · cases er) h
/-! enumerate -/
end

/-! ### for -/
def forL (g : TG') (body : M Flw) : List PyData → M Flw
  | [] => M.skip
  | d :: ds => fun env => match g d env with
    | none => .no
    | some e => match body e with
      | .ok .nx e' => forL g body ds e'
      | .ok .ct e' => forL g body ds e'
      | .ok .bk e' => .ok .nx e'
      | .ok (.rt x) e' => .ok (.rt x) e'
      | .ex x e' => .ex x e'
      | .no => .no
def M.for (l : M (List PyData)) (g : TG') (body : M Flw) : M Flw := M.bind l fun ds => forL g body ds
section
variable {X : Cx} {W : WX} {B : List Nat} {tg iter : Expr} {body : List Stmt} {ml : M (List PyData)} {g : TG'} {mb : M Flw} {pos : Pos}
theorem tI_bindS {K : PySem.W.Frag} {mg : Str → Option Value} {bv : Nat → V} {R P P0 H : Hp} {Fs : Nat → List Addr} {σ : L2.St} {env : DEnv} {β : Type} {m : M (List PyData)} {f : List PyData → M β} {okβ : β → DEnv → Prop} {Q : It → Hp → Prop} (s0 : Same P0 P)
    (S : Sta K mg B bv R P H Fs σ env) (h : post (M.bind m f env) okβ (ExS K mg W B bv R P0))
    (k : ∀ ds env1 J P1 H1 Fs1, Sta K mg B bv R P1 H1 Fs1 σ env1 → Same P P1 → Fd K P1 J ds → post (f ds env1) okβ (ExS K mg W B bv R P0) → Q J H1) : tI K mg W B m σ H Q :=
  ⟨bv, R, P, Fs, env, S, bindD h (fun d e q J P1 H1 Fs1 S1 s1 r1 => k d e J P1 H1 Fs1 S1 s1 r1 q) fun _ _ q => (ExS.mono s0 q).d⟩
/-- what the items' walk asks -/
def ForIn (g : TG) (tb : TS) (D : Ends) (σ : L2.St) (J : It) (H1 : Hp) : Prop := ∃ W : Nat → Nat → L2.St → Hp → Prop, (∃ m, W 0 m σ H1) ∧ ∀ i m σ H, W i m σ H →
  (J.stop i H ∧ D.nx σ H) ∨ (J.go i H ∧ ∃ N : L2.St → Hp → Prop, (∀ σ' H', N σ' H' → ∃ m', m' < m ∧ W (i + 1) m' σ' H') ∧ ∀ x H', J.yld i H x H' → g x σ H' fun σ2 H2 => tb { D with nx := N, ct := N, bk := D.nx } σ2 H2)
theorem for_inner {K : PySem.W.Frag} {mg : Str → Option Value} {bv : Nat → V} {R P P1 H1 : Hp} {F1 : Nat → List Addr} {σ : L2.St} {e1 : DEnv} {ds : List PyData} {J : It} {D : Ends} (S1 : Sta K mg B bv R P1 H1 F1 σ e1) (s1 : Same P P1) (fd : Fd K P1 J ds)
    (h1 : post (forL g mb ds e1) (OkS K mg B bv R P D) (ExS K mg W B bv R P)) : ForIn (tG K mg B g) (tS K mg W B mb) D σ J H1 := by
  refine ⟨fun i m σ H => m = ds.length - i ∧ i ≤ ds.length ∧ ∃ P' Fs' env', Sta K mg B bv R P' H Fs' σ env' ∧ Same P1 P' ∧ post (forL g mb (ds.drop i) env') (OkS K mg B bv R P D) (ExS K mg W B bv R P), ⟨_, rfl, Nat.zero_le _, P1, F1, e1, S1, Same.refl _, by rw [List.drop_zero]; exact h1⟩, ?_⟩
  rintro i m σ2 H2 ⟨rfl, hi, P2, F2, e2, S2, s2, h2⟩
  obtain ⟨f1, f2⟩ := fd P2 H2 s2 S2.ph
  by_cases hlt : i < ds.length
  · rw [List.drop_eq_getElem_cons hlt] at h2
    obtain ⟨go, y⟩ := f1 i ds[i] (List.getElem?_eq_getElem hlt)
    refine .inr ⟨go, fun σ' H' => ∃ P' Fs' env', Sta K mg B bv R P' H' Fs' σ' env' ∧ Same P1 P' ∧ post (forL g mb (ds.drop (i + 1)) env') (OkS K mg B bv R P D) (ExS K mg W B bv R P), fun σ' H' h' => ⟨_, by omega, rfl, hlt, h'⟩, fun x H3 hx => ?_⟩
    obtain ⟨P3, ex, rx⟩ := y x H3 hx
    have S3 := S2.ext ex
    simp only [forL] at h2
    cases eg : g ds[i] e2 with
    | none => rw [eg] at h2; exact h2.elim
    | some e3 =>
      rw [eg] at h2
      simp only at h2
      refine ⟨bv, R, P3, F2, e2, ds[i], e3, S3, rx, eg, fun σ4 P4 H4 F4 S4 s4 => ⟨bv, R, P4, F4, e3, S4, ?_⟩⟩
      have s14 : Same P1 P4 := s2.trans (ex.pp.trans s4)
      have s04 : Same P P4 := s1.trans s14
      cases eb : mb e3 with
      | no => rw [eb] at h2; exact h2.elim
      | ex x e5 =>
        rw [eb] at h2
        exact ExS.mono s04 h2
      | ok f e5 =>
        rw [eb] at h2
        cases f with
        | nx => exact fun σ' P' H' Fs' S' s' => ⟨P', Fs', e5, S', s14.trans s', h2⟩
        | ct => exact fun σ' P' H' Fs' S' s' => ⟨P', Fs', e5, S', s14.trans s', h2⟩
        | bk => exact fun σ' P' H' Fs' S' s' => h2 σ' P' H' Fs' S' (s04.trans s')
        | rt x => exact fun v σ' P' H' Fs' G S' s' => h2 v σ' P' H' Fs' G S' (s04.trans s')
  · have e : i = ds.length := by omega
    subst e
    rw [List.drop_length] at h2
    exact .inl ⟨f2, h2 σ2 P2 H2 F2 S2 (s1.trans s2)⟩
theorem sd_for (hp : PassesOwn (model X.prog X.w) X.A X.env X.xe) (hc : X.calm = true) (hi : ID X W B tg iter ml) (hg : GT X B tg g) (hb : SDs X W B body mb) (hs : ∀ x, foldedSetIterable iter X.env x = pure x := by intro _; rfl) :
    SD X W B (.For tg iter body [] pos) (M.for ml g mb) :=
  PS_mono (ps_for hp hc hi hg hb hs) fun D σ H ⟨bv, R, P, Fs, env, S, q⟩ => tI_bindS (Same.refl _) S q fun ds e1 J P1 H1 F1 S1 s1 fd h1 => for_inner S1 s1 fd h1
/-! while: a fixed number of turns at most -/
end
end DL

set_option maxHeartbeats 2000000
/-! DL8: arguments (by value, given away, by reference), what a def promises, calls. -/
namespace DL
open PySem PySem.Spec PyProof.Rows L2

/-! ### frames of those who called -/
section
variable {K : PySem.W.Frag} {mg : Str → Option Value} {W : WX} {B : List Nat} {bv : Nat → V} {R R' P P0 H P' H' : Hp} {Fs Fs' : Nat → List Addr} {σ : L2.St} {env : DEnv} {G : List Addr}
theorem Sta.hasT (S : Sta K mg B bv R P H Fs σ env) : ∀ a ∈ TbA K, R a ≠ none := fun a h => by
  obtain ⟨p, hp, rfl⟩ := List.mem_map.mp h
  exact (S.tb p hp).2
theorem Sta.sub (s : Same R R') (hT : ∀ a ∈ TbA K, R a ≠ none) (S : Sta K mg B bv R' P H Fs σ env) : Sta K mg B bv R P H Fs σ env where
  rh := Same.transX s S.rh
  tb := fun p hp => ⟨(S.tb p hp).1, hT _ (List.mem_map.mpr ⟨p, hp, rfl⟩)⟩
  ph := S.ph
  rp := fun a h => S.rp a (by
    cases q : R a with
    | none => exact absurd q h
    | some o => rw [s _ _ q]; simp)
  slot := S.slot
  dead := S.dead
  nd := S.nd
  dj := S.dj
  fr := fun i a h => s.free (S.fr i a h)
  fp := S.fp
  len := S.len
  pin := S.pin
  nt := fun a xs h => S.nt a xs (s _ _ h)
theorem joinR_frame (S : Sta K mg B bv R P H Fs σ env) (f : Free R P Fs G) : Same R (joinR R H G) := fun a o e => by
  rw [joinR_out fun h => by rw [f.r a h] at e; cases e]
  exact e
/-- a temporary is put among what is to be kept -/
theorem Sta.push (S : Sta K mg B bv R P H Fs σ env) (f : Free R P Fs G) (hn : ∀ a ∈ G, ∀ xs, H a ≠ some (.tup xs)) : Sta K mg B bv (joinR R H G) P H Fs σ env where
  rh := fun a o e n => by
    by_cases h : a ∈ G
    · rw [joinR_in h] at e; exact e
    · rw [joinR_out h] at e; exact S.rh _ _ e n
  tb := fun p hp => ⟨(S.tb p hp).1, by rw [joinR_out fun h => (S.tb p hp).2 (f.r _ h)]; exact (S.tb p hp).2⟩
  ph := S.ph
  rp := fun a h => by
    by_cases q : a ∈ G
    · exact f.p a q
    · rw [joinR_out q] at h; exact S.rp a h
  slot := S.slot
  dead := S.dead
  nd := S.nd
  dj := S.dj
  fr := fun i a h => by
    rw [joinR_out fun q => f.f a q i h]
    exact S.fr i a h
  fp := S.fp
  len := S.len
  pin := S.pin
  nt := fun a xs e => by
    by_cases h : a ∈ G
    · rw [joinR_in h] at e; exact hn a h xs e
    · rw [joinR_out h] at e; exact S.nt a xs e
theorem Free.pop {G2 : List Addr} (there : ∀ a ∈ G, ∃ o, H a = some o) (ng : G.Nodup) (s : Same R R') (hR : ∀ a ∈ G, R' a = H a) (fr : ∀ a ∈ G, R a = none) (S : Sta K mg B bv R' P' H' Fs' σ env) (f2 : Free R' P' Fs' G2) : Free R P' Fs' (G ++ G2) where
  nd := List.nodup_append.mpr ⟨ng, f2.nd, fun a h b h2 e => by
    subst e
    obtain ⟨o, ho⟩ := there a h
    have := f2.r a h2
    rw [hR a h, ho] at this; cases this⟩
  r := fun a h => by
    rcases List.mem_append.mp h with h | h
    · exact fr a h
    · exact s.free (f2.r a h)
  p := fun a h => by
    rcases List.mem_append.mp h with h | h
    · obtain ⟨o, ho⟩ := there a h
      exact S.rp a (by rw [hR a h, ho]; simp)
    · exact f2.p a h
  f := fun a h i => by
    rcases List.mem_append.mp h with h | h
    · intro z
      obtain ⟨o, ho⟩ := there a h
      have := S.fr i a z
      rw [hR a h, ho] at this; cases this
    · exact f2.f a h i
end

/-! ### arguments -/
/-- a value; an object that is given away; the slot of an object that comes back -/
inductive AV where
  | v (d : PyData) | o (x : OD) | r (i : Nat)
inductive AvL (K : PySem.W.Frag) (mg : Str → Option Value) (P H : Hp) (σ : L2.St) : List Addr → List V → List AV → Prop
  | nil : AvL K mg P H σ [] [] []
  | v {G : List Addr} {x : V} {xs : List V} {d : PyData} {as : List AV} (h : Rp K P x d) (t : AvL K mg P H σ G xs as) : AvL K mg P H σ G (x :: xs) (.v d :: as)
  | o {F G : List Addr} {x : V} {xs : List V} {d : OD} {as : List AV} (h : Ow K mg P H F x d) (t : AvL K mg P H σ G xs as) : AvL K mg P H σ (F ++ G) (x :: xs) (.o d :: as)
  | r {G : List Addr} {x : V} {xs : List V} {i : Nat} {as : List AV} (h : σ[i]? = some (some x)) (t : AvL K mg P H σ G xs as) : AvL K mg P H σ G (x :: xs) (.r i :: as)
def OkA (K : PySem.W.Frag) (mg : Str → Option Value) (B : List Nat) (bv : Nat → V) (R P : Hp) (σ : L2.St) (Q : List V → Hp → Prop) : List AV → DEnv → Prop := fun as env' => ∀ vs P' H' Fs' G, Sta K mg B bv R P' H' Fs' σ env' → Same P P' → AvL K mg P' H' σ G vs as → Free R P' Fs' G → Q vs H'
def tA (K : PySem.W.Frag) (mg : Str → Option Value) (W : WX) (B : List Nat) (m : M (List AV)) : TA := fun σ H Q => ∃ bv R P Fs env, Sta K mg B bv R P H Fs σ env ∧ post (m env) (OkA K mg B bv R P σ Q) (ExD K mg W B bv R P σ)
abbrev AA (X : Cx) (W : WX) (B : List Nat) (es : List Expr) (m : M (List AV)) : Prop := PA X es (tA X.K X.mg W B m)
def M.aNil : M (List AV) := M.pure []
def M.aV (m : M PyData) (r : M (List AV)) : M (List AV) := M.bind m fun d => M.bind r fun l => M.pure (.v d :: l)
def M.aO (m : M OD) (r : M (List AV)) : M (List AV) := M.bind m fun d => M.bind r fun l => M.pure (.o d :: l)
def M.aR (i : Nat) (r : M (List AV)) : M (List AV) := fun env => match env[i]? with
  | some (some _) => M.bind r (fun l => M.pure (.r i :: l)) env
  | _ => .no
section
variable {K : PySem.W.Frag} {mg : Str → Option Value} {W : WX} {B : List Nat} {bv : Nat → V} {R P P0 H : Hp} {Fs : Nat → List Addr} {σ : L2.St} {env : DEnv}
theorem ExD.sub {R' : Hp} {x : Xn} {e : DEnv} (s : Same R R') (hT : ∀ a ∈ TbA K, R a ≠ none) (h : ExD K mg W B bv R P σ x e) : ExD K mg W B bv R' P σ x e := fun cls dx P' H' Fs' S s' q => h cls dx P' H' Fs' (S.sub s hT) s' q
theorem tA_bind {β : Type} {m : M (List AV)} {f : List AV → M β} {okβ : β → DEnv → Prop} {Q : List V → Hp → Prop} (s0 : Same P0 P) (S : Sta K mg B bv R P H Fs σ env) (h : post (M.bind m f env) okβ (ExD K mg W B bv R P0 σ))
    (k : ∀ l env1 vs P1 H1 Fs1 G, Sta K mg B bv R P1 H1 Fs1 σ env1 → Same P P1 → AvL K mg P1 H1 σ G vs l → Free R P1 Fs1 G → post (f l env1) okβ (ExD K mg W B bv R P0 σ) → Q vs H1) : tA K mg W B m σ H Q :=
  ⟨bv, R, P, Fs, env, S, bindD h (fun d e q v P1 H1 Fs1 G S1 s1 r1 f1 => k d e v P1 H1 Fs1 G S1 s1 r1 f1 q) fun _ _ q => q.mono s0⟩
end
section
variable {X : Cx} {W : WX} {B : List Nat} {e : Expr} {es : List Expr} {m : M PyData} {mo : M OD} {r : M (List AV)}
theorem aa_nil : AA X W B [] M.aNil := PA_mono pa_nil fun σ H Q ⟨bv, R, P, Fs, env, S, q⟩ => q [] P H Fs [] S (Same.refl _) .nil Free.nil
theorem aa_v (h : ED X W B e m) (hr : AA X W B es r) (hs : starEach (e :: es) X.env = (false, eval e X.env) :: starEach es X.env := by rfl) : AA X W B (e :: es) (M.aV m r) :=
  PA_mono (pa_cons h hr hs) fun σ H Q ⟨bv, R, P, Fs, env, S, q⟩ => tD_bind (Same.refl _) S q fun d e1 v P1 H1 F1 S1 s1 r1 q1 => tA_bind s1 S1 q1 fun l e2 vs P2 H2 F2 G S2 s2 r2 f2 q2 =>
    q2 (v :: vs) P2 H2 F2 G S2 (s1.trans s2) (.v (r1.mono s2) r2) f2
theorem aa_r (i : Nat) {x : Str} {p : Pos} (hr : AA X W B es r) (hN : X.N[i]? = some x := by rfl) (hv : Vis X.env.scope x := by first | exact Or.inl rfl | exact Or.inr (Or.inl rfl) | exact Or.inr (Or.inr rfl)) (hd : (x == ("__debug__" : Str)) = false := by decide)
    (hcd : (x == ("__classdict__" : Str)) = false := by decide) (hs : starEach ((.Name x p) :: es) X.env = (false, eval (.Name x p) X.env) :: starEach es X.env := by rfl) : AA X W B (.Name x p :: es) (M.aR i r) :=
  PA_mono (pa_cons (pe_var hN hv hd hcd) hr hs) fun σ H Q ⟨bv, R, P, Fs, env, S, q⟩ => by
    unfold M.aR at q
    cases hx : env[i]? with
    | none => rw [hx] at q; exact q.elim
    | some ox =>
      cases ox with
      | none => rw [hx] at q; exact q.elim
      | some y =>
        rw [hx] at q
        obtain ⟨v, h1, _⟩ := S.slot i y hx
        exact ⟨v, h1, tA_bind (Same.refl _) S q fun l e2 vs P2 H2 F2 G S2 s2 r2 f2 q2 => q2 (v :: vs) P2 H2 F2 G S2 s2 (.r h1 r2) f2⟩
end

/-! ### a call: what is handed over, what comes back -/
def takeAll : List AV → DEnv → Option (DEnv × DEnv)
  | [], env => some ([], env)
  | .v d :: as, env => (takeAll as env).map fun p => (some (.pur d) :: p.1, p.2)
  | .o x :: as, env => (takeAll as env).map fun p => (some x :: p.1, p.2)
  | .r i :: as, env => match env[i]? with
    | some (some x) => (takeAll as (env.set i none)).map fun p => (some x :: p.1, p.2)
    | _ => none
def putAll : List AV → DEnv → DEnv → DEnv
  | .r i :: as, o :: os, env => putAll as os (match o with | some x => env.set i (some x) | none => env)
  | _ :: as, _ :: os, env => putAll as os env
  | _, _, env => env
/-- f: what the def does with its arguments; its end holds the arguments that come back -/
def M.call (f : M OD) (l : M (List AV)) : M OD := M.bind l fun as env => match takeAll as env with
  | none => .no
  | some (args, rest) => match f args with
    | .ok x outs => .ok x (putAll as outs rest)
    | .ex x outs => .ex x (putAll as outs rest)
    | .no => .no
section
variable {K : PySem.W.Frag} {mg : Str → Option Value} {W : WX} {B : List Nat} {bv : Nat → V} {R P P0 H : Hp} {σ : L2.St}
/-- what is handed over is apart -/
structure Handed (K : PySem.W.Frag) (mg : Str → Option Value) (R P H : Hp) (Fs : Nat → List Addr) (Fc : Nat → List Addr) (vs : List V) (args : DEnv) : Prop where
  len : vs.length = args.length
  slot : ∀ (j : Nat) (x : OD), args[j]? = some (some x) → ∃ v, vs[j]? = some v ∧ Ow K mg P H (Fc j) v x
  dead : ∀ j, (∀ x, args[j]? ≠ some (some x)) → Fc j = []
  nd : ∀ j, (Fc j).Nodup
  dj : ∀ j k a, j ≠ k → a ∈ Fc j → a ∉ Fc k
  fr : ∀ j a, a ∈ Fc j → R a = none
  fp : ∀ j a, a ∈ Fc j → P a = none
  ap : ∀ j a, a ∈ Fc j → ∀ i, a ∉ Fs i
theorem Handed.cons {Fs Fc : Nat → List Addr} {vs : List V} {args : DEnv} {F : List Addr} {v : V} {x : OD} (h : Handed K mg R P H Fs Fc vs args) (o : Ow K mg P H F v x) (nd : F.Nodup) (fr : ∀ a ∈ F, R a = none) (fp : ∀ a ∈ F, P a = none) (ap : ∀ a ∈ F, ∀ i, a ∉ Fs i) (dj : ∀ a ∈ F, ∀ j, a ∉ Fc j) :
    Handed K mg R P H Fs (fun j => match j with | 0 => F | j + 1 => Fc j) (v :: vs) (some x :: args) where
  len := by simp [h.len]
  slot := fun j y e => by
    cases j with
    | zero => simp at e; subst e; exact ⟨v, rfl, o⟩
    | succ j => obtain ⟨w, h1, h2⟩ := h.slot j y (by simpa using e); exact ⟨w, by simpa using h1, h2⟩
  dead := fun j e => by
    cases j with
    | zero => exact absurd rfl (e x)
    | succ j => exact h.dead j fun y z => e y (by simpa using z)
  nd := fun j => by cases j with | zero => exact nd | succ j => exact h.nd j
  dj := fun j k a hjk ha => by
    cases j with
    | zero => cases k with
      | zero => exact absurd rfl hjk
      | succ k => exact dj a ha k
    | succ j => cases k with
      | zero => exact fun z => dj a z j ha
      | succ k => exact h.dj j k a (fun e => hjk (by rw [e])) ha
  fr := fun j a ha => by cases j with | zero => exact fr a ha | succ j => exact h.fr j a ha
  fp := fun j a ha => by cases j with | zero => exact fp a ha | succ j => exact h.fp j a ha
  ap := fun j a ha => by cases j with | zero => exact ap a ha | succ j => exact h.ap j a ha
theorem take_sta : ∀ {as : List AV} {G : List Addr} {vs : List V} {Fs : Nat → List Addr} {env args rest : DEnv}, AvL K mg P H σ G vs as → Sta K mg B bv R P H Fs σ env → Free R P Fs G → takeAll as env = some (args, rest) →
    ∃ Fs2 Fc, Sta K mg B bv R P H Fs2 σ rest ∧ Handed K mg R P H Fs2 Fc vs args ∧ (∀ i a, a ∈ Fs2 i → a ∈ Fs i) ∧ ∀ j a, a ∈ Fc j → a ∈ G ∨ ∃ i, a ∈ Fs i
  | [], _, _, Fs, env, args, rest, .nil, S, f, e => by
    simp only [takeAll, Option.some.injEq, Prod.mk.injEq] at e
    obtain ⟨rfl, rfl⟩ := e
    exact ⟨Fs, fun _ => [], S, ⟨rfl, fun j x h => by simp at h, fun _ _ => rfl, fun _ => .nil, fun _ _ _ _ h => (nomatch h), fun _ _ h => (nomatch h), fun _ _ h => (nomatch h), fun _ _ h => (nomatch h)⟩, fun _ _ h => h, fun _ _ h => (nomatch h)⟩
  | .v d :: as, G, v :: vs, Fs, env, args, rest, .v h t, S, f, e => by
    simp only [takeAll] at e
    obtain ⟨⟨a1, r1⟩, e1, e2⟩ := Option.map_eq_some_iff.mp e
    cases e2
    obtain ⟨Fs2, Fc, S2, hd, h3, h4⟩ := take_sta t S f e1
    exact ⟨Fs2, _, S2, hd.cons (F := []) (.pur h) .nil (fun _ h => (nomatch h)) (fun _ h => (nomatch h)) (fun _ h => (nomatch h)) (fun _ h => (nomatch h)), h3, fun j a ha => by cases j with | zero => cases ha | succ j => exact h4 j a ha⟩
  | .o x :: as, _, v :: vs, Fs, env, args, rest, .o (F := F) (G := G) h t, S, f, e => by
    simp only [takeAll] at e
    obtain ⟨⟨a1, r1⟩, e1, e2⟩ := Option.map_eq_some_iff.mp e
    cases e2
    have nd := List.nodup_append.mp f.nd
    obtain ⟨Fs2, Fc, S2, hd, h3, h4⟩ := take_sta t S ⟨nd.2.1, fun a ha => f.r a (List.mem_append_right _ ha), fun a ha => f.p a (List.mem_append_right _ ha), fun a ha => f.f a (List.mem_append_right _ ha)⟩ e1
    refine ⟨Fs2, _, S2, hd.cons h nd.1 (fun a ha => f.r a (List.mem_append_left _ ha)) (fun a ha => f.p a (List.mem_append_left _ ha)) (fun a ha i z => f.f a (List.mem_append_left _ ha) i (h3 i a z)) (fun a ha j z => ?_), h3, fun j a ha => ?_⟩
    · rcases h4 j a z with y | ⟨i, y⟩
      · exact nd.2.2 a ha a y rfl
      · exact f.f a (List.mem_append_left _ ha) i y
    · cases j with
      | zero => exact .inl (List.mem_append_left _ ha)
      | succ j =>
        rcases h4 j a ha with y | y
        · exact .inl (List.mem_append_right _ y)
        · exact .inr y
  | .r i :: as, G, v :: vs, Fs, env, args, rest, .r hi t, S, f, e => by
    simp only [takeAll] at e
    cases hx : env[i]? with
    | none => rw [hx] at e; cases e
    | some ox =>
      cases ox with
      | none => rw [hx] at e; cases e
      | some x =>
        rw [hx] at e
        simp only at e
        obtain ⟨⟨a1, r1⟩, e1, e2⟩ := Option.map_eq_some_iff.mp e
        cases e2
        obtain ⟨v', q1, q2, q3, q4⟩ := S.take hx
        rw [hi] at q1
        cases q1
        have sub : ∀ j a, a ∈ (if j = i then ([] : List Addr) else Fs j) → a ∈ Fs j ∧ j ≠ i := fun j a h => by
          by_cases z : j = i
          · rw [if_pos z] at h; cases h
          · rw [if_neg z] at h; exact ⟨h, z⟩
        obtain ⟨Fs2, Fc, S2, hd, h3, h4⟩ := take_sta t q4 ⟨f.nd, f.r, f.p, fun a ha j z => f.f a ha j (sub j a z).1⟩ e1
        refine ⟨Fs2, _, S2, hd.cons q2 q3.nd q3.r q3.p (fun a ha j z => q3.f a ha j (h3 j a z)) (fun a ha j z => ?_), fun j a h => (sub j a (h3 j a h)).1, fun j a ha => ?_⟩
        · rcases h4 j a z with y | ⟨k, y⟩
          · exact f.f a y i ha
          · exact q3.f a ha k y
        · cases j with
          | zero => exact .inr ⟨i, ha⟩
          | succ j =>
            rcases h4 j a ha with y | ⟨k, y⟩
            · exact .inl y
            · exact .inr ⟨k, (sub k a y).1⟩
theorem put_sta : ∀ {as : List AV} {G0 : List Addr} {vs : List V} {P1 H1 : Hp} {Fs Fo : Nat → List Addr} {env outs : DEnv}, AvL K mg P1 H1 σ G0 vs as → Sta K mg B bv R P H Fs σ env → Handed K mg R P H Fs Fo vs outs →
    ∃ Fs2, Sta K mg B bv R P H Fs2 σ (putAll as outs env) ∧ ∀ i a, a ∈ Fs2 i → a ∈ Fs i ∨ ∃ j, a ∈ Fo j := by
  have tl : ∀ {vs : List V} {v : V} {Fs Fo : Nat → List Addr} {o : Option OD} {outs : DEnv}, Handed K mg R P H Fs Fo (v :: vs) (o :: outs) → Handed K mg R P H Fs (fun j => Fo (j + 1)) vs outs := fun {vs v Fs Fo o outs} h =>
    ⟨by simpa using h.len, fun j x e => by
      obtain ⟨w, h1, h2⟩ := h.slot (j + 1) x (by simpa using e)
      exact ⟨w, by simpa using h1, h2⟩, fun j e => h.dead (j + 1) fun x z => e x (by simpa using z), fun j => h.nd (j + 1), fun j k a hjk => h.dj (j + 1) (k + 1) a (by omega), fun j => h.fr (j + 1), fun j => h.fp (j + 1), fun j => h.ap (j + 1)⟩
  intro as
  induction as with
  | nil => intro G0 vs P1 H1 Fs Fo env outs _ S _; exact ⟨Fs, S, fun i a h => .inl h⟩
  | cons a0 as ih =>
    intro G0 vs P1 H1 Fs Fo env outs av S h
    cases outs with
    | nil => cases a0 <;> exact ⟨Fs, S, fun i a h => .inl h⟩
    | cons o outs =>
      have plain : ∀ {v : V} {vs' : List V} {G' : List Addr}, AvL K mg P1 H1 σ G' vs' as → Handed K mg R P H Fs Fo (v :: vs') (o :: outs) → ∃ Fs2, Sta K mg B bv R P H Fs2 σ (putAll as outs env) ∧ ∀ i a, a ∈ Fs2 i → a ∈ Fs i ∨ ∃ j, a ∈ Fo j := fun {v vs' G'} t h => by
        obtain ⟨F2, S2, h2⟩ := ih t S (tl h)
        exact ⟨F2, S2, fun i a ha => (h2 i a ha).elim .inl fun ⟨j, y⟩ => .inr ⟨j + 1, y⟩⟩
      cases av with
      | v h0 t => exact plain t h
      | o h0 t => exact plain t h
      | @r G x xs i as' hi t =>
        cases o with
        | none =>
          obtain ⟨F2, S2, h2⟩ := ih t S (tl h)
          exact ⟨F2, S2, fun i a ha => (h2 i a ha).elim .inl fun ⟨j, y⟩ => .inr ⟨j + 1, y⟩⟩
        | some y =>
          obtain ⟨w, w1, w2⟩ := h.slot 0 y rfl
          simp at w1
          subst w1
          have fr : Free R P Fs (Fo 0) := ⟨h.nd 0, h.fr 0, h.fp 0, fun a ha => h.ap 0 a ha⟩
          have S1 := S.put hi w2 fr
          have h1 := tl h
          obtain ⟨F2, S2, h2⟩ := ih t S1 (Fo := fun j => Fo (j + 1)) ⟨h1.len, h1.slot, h1.dead, h1.nd, h1.dj, h1.fr, h1.fp, fun j a ha k z => by
            by_cases q : k = i
            · rw [if_pos q] at z
              exact h.dj (j + 1) 0 a (by omega) ha z
            · rw [if_neg q] at z
              exact h1.ap j a ha k z⟩
          refine ⟨F2, S2, fun k a ha => ?_⟩
          rcases h2 k a ha with z | ⟨j, z⟩
          · by_cases q : k = i
            · rw [if_pos q] at z; exact .inr ⟨0, z⟩
            · rw [if_neg q] at z; exact .inl z
          · exact .inr ⟨j + 1, z⟩
end
end DL

set_option maxHeartbeats 2000000
/-! DL9: what a def promises; calls of defs. -/
namespace DL
open PySem PySem.Spec PyProof.Rows L2

/-! ### the callee's state, and back -/
open Classical in
noncomputable def allR (R H : Hp) (Fs : Nat → List Addr) : Hp := fun a => if ∃ i, a ∈ Fs i then H a else R a
section
variable {K : PySem.W.Frag} {mg : Str → Option Value} {W : WX} {B Bc : List Nat} {bv : Nat → V} {R P P0 H P' H' : Hp} {Fs Fc Fs' : Nat → List Addr} {σ : L2.St} {env args : DEnv} {vs : List V}
theorem allR_in {a : Addr} (h : ∃ i, a ∈ Fs i) : allR R H Fs a = H a := by unfold allR; rw [if_pos h]
theorem allR_out {a : Addr} (h : ¬ ∃ i, a ∈ Fs i) : allR R H Fs a = R a := by unfold allR; rw [if_neg h]
theorem Sta.allR_same (S : Sta K mg B bv R P H Fs σ env) : Same R (allR R H Fs) := fun a o e => by
  rw [allR_out fun ⟨i, h⟩ => by rw [S.fr i a h] at e; cases e]
  exact e
theorem Sta.enter (S : Sta K mg B bv R P H Fs σ env) (h : Handed K mg R P H Fs Fc vs args) (hB : ∀ i ∈ Bc, i < vs.length) : Sta K mg Bc (fun i => vs.getD i .non) (allR R H Fs) P H Fc (vs.map some) args where
  rh := fun a o e n => by
    by_cases q : ∃ i, a ∈ Fs i
    · rw [allR_in q] at e; exact e
    · rw [allR_out q] at e; exact S.rh _ _ e n
  tb := fun p hp => ⟨(S.tb p hp).1, by rw [allR_out fun ⟨i, h⟩ => (S.tb p hp).2 (S.fr i _ h)]; exact (S.tb p hp).2⟩
  ph := S.ph
  rp := fun a e => by
    by_cases q : ∃ i, a ∈ Fs i
    · obtain ⟨i, q⟩ := q; exact S.fp i a q
    · rw [allR_out q] at e; exact S.rp a e
  slot := fun j x e => by
    obtain ⟨v, h1, h2⟩ := h.slot j x e
    exact ⟨v, by rw [List.getElem?_map, h1]; rfl, h2⟩
  dead := h.dead
  nd := h.nd
  dj := h.dj
  fr := fun j a q => by
    rw [allR_out fun ⟨i, z⟩ => h.ap j a q i z]
    exact h.fr j a q
  fp := h.fp
  len := by rw [List.length_map, h.len]
  pin := fun i hi => by
    have hl := hB i hi
    rw [List.getElem?_map, List.getElem?_eq_getElem hl]
    simp [List.getD, List.getElem?_eq_getElem hl]
  nt := fun a xs e => by
    by_cases q : ∃ i, a ∈ Fs i
    · rw [allR_in q] at e; obtain ⟨i, q⟩ := q; exact S.notup q xs e
    · rw [allR_out q] at e; exact S.nt a xs e
theorem Sta.back {rest outs : DEnv} {bc : Nat → V} (S : Sta K mg B bv R P H Fs σ rest) (C : Sta K mg Bc bc (allR R H Fs) P' H' Fs' (vs.map some) outs) (pp : Same P P') :
    Sta K mg B bv R P' H' Fs σ rest ∧ Handed K mg R P' H' Fs Fs' vs outs := by
  have hin : ∀ {i a}, a ∈ Fs i → ∃ o, H a = some o ∧ allR R H Fs a = some o := fun {i a} h => by
    obtain ⟨o, e⟩ := S.there h
    exact ⟨o, e, by rw [allR_in ⟨i, h⟩]; exact e⟩
  have notin : ∀ {a}, allR R H Fs a = none → ∀ i, a ∉ Fs i := fun {a} e i h => by
    obtain ⟨o, _, e2⟩ := hin h
    rw [e] at e2; cases e2
  have nz : ∀ {a}, R a ≠ none → allR R H Fs a ≠ none := fun {a} h => by
    cases q : R a with
    | none => exact absurd q h
    | some o => rw [S.allR_same _ _ q]; simp
  refine ⟨⟨Same.transX S.allR_same C.rh, fun p hp => ⟨(C.tb p hp).1, (S.tb p hp).2⟩, C.ph, fun a e => C.rp a (nz e), fun i x e => ?_, S.dead, S.nd, S.dj, S.fr, fun i a h => ?_, S.len, S.pin, S.nt⟩, ⟨?_, fun j x e => ?_, C.dead, C.nd, C.dj, fun j a h => S.allR_same.free (C.fr j a h), C.fp, fun j a h => notin (C.fr j a h)⟩⟩
  · obtain ⟨v, h1, h2⟩ := S.slot i x e
    exact ⟨v, h1, h2.keep pp fun a ha o ho => C.rh a o (by rw [allR_in ⟨i, ha⟩]; exact ho) (S.nota (S.fr i a ha))⟩
  · obtain ⟨o, _, e2⟩ := hin h
    exact C.rp a (by rw [e2]; simp)
  · have := C.len; rwa [List.length_map] at this
  · obtain ⟨v, h1, h2⟩ := C.slot j x e
    rw [List.getElem?_map] at h1
    obtain ⟨w, w1, w2⟩ := Option.map_eq_some_iff.mp h1
    cases w2
    exact ⟨v, w1, h2⟩
end

/-! ### a def's promise -/
def spF (K : PySem.W.Frag) (mg : Str → Option Value) (B : List Nat) (m : M OD) : Sp := fun vs H Q E => (∀ i ∈ B, i < vs.length) ∧ tO K mg (fun cls d _ H' => E cls d H') B m (vs.map some) H Q
structure FnG (P : Program) (w : World) (K : PySem.W.Frag) (mg : Str → Option Value) (base : Heap) (k : Nat) (f : Addr) (fd : FuncData) (ps : List Str) (B : List Nat) (m : M OD) : Prop where
  bs : ∀ i ∈ B, i < ps.length
  len : ∀ env, (∀ x e, m env ≠ .ok x e) ∧ (∀ x e, m env ≠ .ex x e) ∨ env.length = ps.length
  run : ∀ (A : Around) (outer : List Env) (s : Shared) (H : Hp) (args : Args) (us : List Value) (vs : List V) (Q : VK) (E : XK), Room k A → A.guards = some [] → (∃ o, base.get? sysModules = some o) → Env0 P w K mg base A outer s H →
    BindsTo s fd args (ps.zip us) → Vals vs us → spF K mg B m vs H Q E → codeAny (model P w) A (.call (.ref f) args) (CR (L2.CX P w) outer P w H s Q E) s
theorem FnG.mono {P : Program} {w : World} {K : PySem.W.Frag} {mg : Str → Option Value} {base : Heap} {j k : Nat} {f : Addr} {fd : FuncData} {ps : List Str} {B : List Nat} {m : M OD} (F : FnG P w K mg base j f fd ps B m) (h : j ≤ k) : FnG P w K mg base k f fd ps B m :=
  ⟨F.bs, F.len, fun A outer s H args us vs Q E hr => F.run A outer s H args us vs Q E (hr.mono h)⟩
/-- a body's end, as the def's: what of the arguments comes back -/
def keepB (B : List Nat) (n : Nat) (e : DEnv) : DEnv := (List.range n).map fun i => if i ∈ B then e.getD i none else none
def runF (n nn : Nat) (B : List Nat) (mb : M Flw) : M OD := fun env =>
  if env.length = n then
    match mb (env ++ List.replicate (nn - n) none) with
    | .ok (.rt x) e => .ok x (keepB B n e)
    | .ok .nx e => .ok (.pur .none) (keepB B n e)
    | .ok _ _ => .no
    | .ex x e => .ex x (keepB B n e)
    | .no => .no
  else .no
section
variable {K : PySem.W.Frag} {mg : Str → Option Value} {B : List Nat} {R P H P' H' : Hp} {Fs : Nat → List Addr} {σ : L2.St} {env : DEnv} {vs : List V}
theorem keepB_get {n i : Nat} {e : DEnv} {x : OD} : (keepB B n e)[i]? = some (some x) ↔ i < n ∧ i ∈ B ∧ e[i]? = some (some x) := by
  unfold keepB
  rw [List.getElem?_map]
  by_cases h : i < n
  · rw [List.getElem?_range h]
    simp only [Option.map_some, Option.some.injEq, h, true_and]
    by_cases hb : i ∈ B
    · simp only [hb, if_true, true_and]
      rw [List.getD_eq_getElem?_getD]
      cases q : e[i]? with
      | none => simp
      | some o => simp
    · simp [hb]
  · rw [List.getElem?_eq_none (by simpa using h)]
    simp [h]
/-- the slots of those that are pinned, alone -/
theorem Sta.kept {bv : Nat → V} (S : Sta K mg B bv R P H Fs σ env) (hB : ∀ i ∈ B, vs[i]? = some (bv i)) :
    Sta K mg B bv R P H (fun i => if i ∈ B ∧ i < vs.length then Fs i else []) (vs.map some) (keepB B vs.length env) where
  rh := S.rh
  tb := S.tb
  ph := S.ph
  rp := S.rp
  slot := fun i x e => by
    obtain ⟨h1, h2, h3⟩ := keepB_get.mp e
    obtain ⟨v, q1, q2⟩ := S.slot i x h3
    rw [S.pin i h2] at q1
    cases q1
    refine ⟨bv i, by rw [List.getElem?_map, hB i h2]; rfl, ?_⟩
    rw [if_pos ⟨h2, h1⟩]
    exact q2
  dead := fun i h => by
    by_cases q : i ∈ B ∧ i < vs.length
    · rw [if_pos q]
      exact S.dead i fun x e => h x (keepB_get.mpr ⟨q.2, q.1, e⟩)
    · rw [if_neg q]
  nd := fun i => by split; exact S.nd i; exact .nil
  dj := fun i j a hij h => by
    split at h
    · split
      · exact S.dj i j a hij h
      · simp
    · cases h
  fr := fun i a h => by
    split at h
    · exact S.fr i a h
    · cases h
  fp := fun i a h => by
    split at h
    · exact S.fp i a h
    · cases h
  len := by unfold keepB; simp
  pin := fun i hi => by rw [List.getElem?_map, hB i hi]; rfl
  nt := S.nt
theorem Sta.start {N : List Str} {bv : Nat → V} (S : Sta K mg B bv R P H Fs (vs.map some) env) (hB : ∀ i ∈ B, i < vs.length) (hN : vs.length ≤ N.length) : Sta K mg B bv R P H Fs (L2.start N vs) (env ++ List.replicate (N.length - vs.length) none) := by
  have hl : env.length = vs.length := by have := S.len; rw [List.length_map] at this; exact this.symm
  have get : ∀ {i : Nat} {x : OD}, (env ++ List.replicate (N.length - vs.length) none)[i]? = some (some x) → env[i]? = some (some x) := fun {i x} h => by
    by_cases q : i < env.length
    · rwa [List.getElem?_append_left q] at h
    · rw [List.getElem?_append_right (by omega), List.getElem?_replicate] at h
      split at h <;> cases h
  have sg : ∀ {i : Nat} {v : Option V}, (vs.map some)[i]? = some v → (L2.start N vs)[i]? = some v := fun {i v} h => by
    unfold L2.start
    rw [List.getElem?_append_left (List.getElem?_eq_some_iff.mp h).1]
    exact h
  refine ⟨S.rh, S.tb, S.ph, S.rp, fun i x h => ?_, fun i h => ?_, S.nd, S.dj, S.fr, S.fp, ?_, fun i hi => sg (S.pin i hi), S.nt⟩
  · obtain ⟨v, h1, h2⟩ := S.slot i x (get h)
    exact ⟨v, sg h1, h2⟩
  · refine S.dead i fun x e => h x ?_
    rw [List.getElem?_append_left (List.getElem?_eq_some_iff.mp e).1]
    exact e
  · unfold L2.start
    rw [List.length_append, List.length_append, List.length_map, List.length_replicate, List.length_replicate, hl]
end
/-- what a body's derivation is handed -/
abbrev CxF (P : Program) (w : World) (K : PySem.W.Frag) (mg : Str → Option Value) (base : Heap) (N : List Str) (qual : Str) (scope : Scope) (f : Addr) (cd : Value) (A : Around) (outer : List Env) (s : Shared) (H : Hp) (E : XK) : Cx := cxOf (L2.CX P w) P w K mg base N qual scope f cd A outer s H E
abbrev WF (E : XK) : WX := fun cls d _ H => E cls d H
theorem fng_of {P : Program} {w : World} {K : PySem.W.Frag} {mg : Str → Option Value} {base : Heap} {k : Nat} {f : Addr} {x qual : Str} {params : Arguments} {body : List Stmt} {scope : Scope} {dvs : List V} {kws : List (Str × V)} {fd : FuncData} {N ps : List Str} {B : List Nat} {mb : M Flw} {n nn : Nat}
    (F : FunD K x qual params body scope dvs kws f fd) (S : FnScope N ps scope) (hn : ps.length = n) (hnn : N.length = nn) (hB : ∀ i ∈ B, i < ps.length)
    (hb : ∀ (cd : Value) (A : Around) (outer : List Env) (s : Shared) (H : Hp) (E : XK), Room k (CxF P w K mg base N qual scope f cd A outer s H E).A → Gd (CxF P w K mg base N qual scope f cd A outer s H E) → SDs (CxF P w K mg base N qual scope f cd A outer s H E) (WF E) B body mb) :
    FnG P w K mg base (k + 1) f fd ps B (runF n nn B mb) := by
  subst hn hnn
  obtain ⟨oc, od, dV, kV, doc, pm, an, cdv, ct, osl, rfl, lk, hcd, _, _⟩ := F.ex
  have hle : ps.length ≤ N.length := by have := congrArg List.length S.pre; rw [List.length_take] at this; omega
  have hlen : ∀ env, ((∀ x e, runF ps.length N.length B mb env ≠ .ok x e) ∧ (∀ x e, runF ps.length N.length B mb env ≠ .ex x e)) ∨ env.length = ps.length := fun env => by
    by_cases h : env.length = ps.length
    · exact .inr h
    · refine .inl ⟨fun x e z => ?_, fun x e z => ?_⟩ <;> (unfold runF at z; rw [if_neg h] at z; cases z)
  refine ⟨hB, hlen, fun A outer s H args us vs Q E hr hg hsy e0 hbt r hsp => ?_⟩
  have KX : K.In s.heap := e0.mod.kin.keeps fun b o e => (e0.bs b o e).1
  obtain ⟨hBv, bv, R, P0, Fs, env, St, hpost⟩ := hsp
  have hl : vs.length = ps.length := by
    have h1 := St.len
    rw [List.length_map] at h1
    rcases hlen env with ⟨h2, h3⟩ | h2
    · cases q : runF ps.length N.length B mb env with
      | ok x e => exact absurd q (h2 x e)
      | ex x e => exact absurd q (h3 x e)
      | no => rw [q] at hpost; exact hpost.elim
    · omega
  have hle2 : env.length = ps.length := by have h1 := St.len; rw [List.length_map] at h1; omega
  refine codeAny_call_function hr.depth (KX _ _ lk) rfl S.co S.gen rfl (PySem.W.codeRec_of KX hcd) (hbt _ _ _ _ (wpAny_newFunctionEnv_cells S.kind (fun ⟨y, v⟩ hy => (S.par y (List.of_mem_zip hy).1).elim .inl fun q => .inr ⟨q, PySem.W.cellsFrom_some _ _ _ (.inl q)⟩) fun ev he s1 x => ?_))
  subst he
  refine ⟨(e0.mod.nolimit.keeps fun b o e => (e0.bs b o e).1).keeps x.toInCall.keep, codeAny_func ?_⟩
  have I : Inv (CxF P w K mg base N qual scope f cdv A outer s H E) [] (L2.start N vs) H s1 := inv_start S hr.hd e0 hl r x
  have S1 := St.start hBv (N := N) (by omega)
  rw [hl] at S1
  have hbd : ∀ i ∈ B, vs[i]? = some (bv i) := fun i hi => by
    have := St.pin i hi
    rw [List.getElem?_map] at this
    obtain ⟨u, u1, u2⟩ := Option.map_eq_some_iff.mp this
    cases u2
    exact u1
  have key : tS K mg (WF E) B mb { nx := fun _ H' => Q .non H', rt := Q } (L2.start N vs) H := by
    refine ⟨bv, R, P0, Fs, _, S1, ?_⟩
    unfold runF at hpost
    rw [if_pos hle2] at hpost
    cases q : mb (env ++ List.replicate (N.length - ps.length) none) with
    | no => rw [q] at hpost; exact hpost.elim
    | ex y e =>
      rw [q] at hpost
      exact fun cls dx σ' P' H' Fs' S' s' hx => hpost cls dx P' H' _ (hl ▸ S'.kept (vs := vs) hbd) s' hx
    | ok fl e =>
      rw [q] at hpost
      cases fl with
      | nx => exact fun σ' P' H' Fs' S' s' => hpost .non P' H' _ [] (hl ▸ S'.kept (vs := vs) hbd) s' (.pur .non) Free.nil
      | rt y => exact fun v σ' P' H' Fs' G S' s' o' f' => hpost v P' H' _ G (hl ▸ S'.kept (vs := vs) hbd) s' o' ⟨f'.nd, f'.r, f'.p, fun a ha i => by
          split
          · exact f'.f a ha i
          · simp⟩
      | bk => exact hpost.elim
      | ct => exact hpost.elim
  refine wpAny_mono ((hb cdv A outer s H E (hr.deeper _) ⟨hg, hsy⟩).run [] s1 (L2.start N vs) H _ I key) (fun fl s' hs => ?_) fun e s' hs => hs
  cases fl with
  | ret u =>
    obtain ⟨v, σ', H', J, rv, q⟩ := hs
    exact ⟨v, H', J.os, J.bare, J.base, J.hok, rv, q⟩
  | next =>
    obtain ⟨σ', H', J, q⟩ := hs
    exact ⟨V.non, H', J.os, J.bare, J.base, J.hok, rfl, q⟩
  | brk =>
    obtain ⟨_, _, _, q⟩ := hs
    exact q.elim
  | cont =>
    obtain ⟨_, _, _, q⟩ := hs
    exact q.elim
end DL

set_option maxHeartbeats 2000000
/-! DL10: calls of defs. -/
namespace DL
open PySem PySem.Spec PyProof.Rows L2

/-- the call itself, the arguments being there -/
def callA (f : M OD) (as : List AV) : M OD := fun env => match takeAll as env with
  | none => .no
  | some (args, rest) => match f args with
    | .ok x outs => .ok x (putAll as outs rest)
    | .ex x outs => .ex x (putAll as outs rest)
    | .no => .no
theorem call_eq (f : M OD) (l : M (List AV)) : M.call f l = M.bind l (callA f) := rfl
section
variable {K : PySem.W.Frag} {mg : Str → Option Value} {W : WX} {B Bc : List Nat} {bv : Nat → V} {R P P0 H : Hp} {Fs : Nat → List Addr} {σ : L2.St} {env : DEnv} {vs : List V} {as : List AV} {G : List Addr} {f : M OD} {Q : VK} {n : Nat}
theorem call_sp (s0 : Same P0 P) (S : Sta K mg B bv R P H Fs σ env) (av : AvL K mg P H σ G vs as) (fr : Free R P Fs G) (hB : ∀ i ∈ Bc, i < n) (hlen : ∀ e, ((∀ x e', f e ≠ .ok x e') ∧ ∀ x e', f e ≠ .ex x e') ∨ e.length = n)
    (h : post (callA f as env) (OkO K mg B bv R P0 σ Q) (ExD K mg W B bv R P0 σ)) : spF K mg Bc f vs H Q (fun cls d H' => W cls d σ H') ∧ vs.length = n := by
  unfold callA at h
  cases q : takeAll as env with
  | none => rw [q] at h; exact h.elim
  | some p =>
    obtain ⟨args, rest⟩ := p
    rw [q] at h
    simp only at h
    obtain ⟨Fs2, Fc, S2, hd, h3, h4⟩ := take_sta av S fr q
    have hvn : vs.length = n := by
      have h1 := hd.len
      rcases hlen args with ⟨z1, z2⟩ | z
      · cases qf : f args with
        | ok x e => exact absurd qf (z1 x e)
        | ex x e => exact absurd qf (z2 x e)
        | no => rw [qf] at h; exact h.elim
      · rw [h1]; exact z
    refine ⟨⟨fun i hi => by rw [hvn]; exact hB i hi, _, _, P, Fc, args, S2.enter hd (fun i hi => by rw [hvn]; exact hB i hi), ?_⟩, hvn⟩
    cases qf : f args with
    | no => rw [qf] at h; exact h.elim
    | ok x outs =>
      rw [qf] at h
      intro v P' H' Fs' G' C pp o' f'
      obtain ⟨T1, T2⟩ := S2.back C pp
      obtain ⟨F3, T3, T4⟩ := put_sta av T1 T2
      have np : ∀ a ∈ G', R a = none ∧ ∀ i, a ∉ Fs2 i := fun a ha => by
        have z := f'.r a ha
        refine ⟨S2.allR_same.free z, fun i hi => ?_⟩
        obtain ⟨o, e⟩ := S2.there hi
        rw [allR_in ⟨i, hi⟩, e] at z; cases z
      exact h v P' H' F3 G' T3 (s0.trans pp) o' ⟨f'.nd, fun a ha => (np a ha).1, f'.p, fun a ha i hi => (T4 i a hi).elim ((np a ha).2 i) fun ⟨j, z⟩ => f'.f a ha j z⟩
    | ex x outs =>
      rw [qf] at h
      intro cls dx P' H' Fs' C pp hx
      obtain ⟨T1, T2⟩ := S2.back C pp
      obtain ⟨F3, T3, _⟩ := put_sta av T1 T2
      exact h cls dx P' H' F3 T3 (s0.trans pp) hx
end
section
variable {X : Cx} {W : WX} {B Bc : List Nat} {k : Nat} {f : Addr} {fd : FuncData} {ps : List Str} {m : M OD} {ml : M (List AV)} {x : Str} {p pos kpos : Pos} {e : Expr} {es : List Expr}
/-- the call of a def, its arguments bound -/
theorem run_g {pins : List (Addr × Obj)} {σ : L2.St} {H : Hp} {s : Shared} {Q : VK} {args : Args} {us : List Value} {vs : List V} (g : Gd X) (F : FnG X.prog X.w X.K X.mg X.base k f fd ps Bc m) (hr : Room k X.A) (tk : Takes X W) (I : Inv X pins σ H s)
    (hb : BindsTo s fd args (ps.zip us)) (r : Vals vs us) (h : spF X.K X.mg Bc m vs H Q (fun cls d H' => W cls d σ H')) : codeAny (model X.prog X.w) X.A (.call (.ref f) args) (fun r s' => match r with
      | .ok (.ret u) => EP X pins σ Q u s'
      | .ok _ => False
      | .error e => X.xe e s') s := by
  refine codeAny_mono (F.run X.A X.stack s H args us vs Q _ hr g.guards g.sys I.env0 hb r h) fun r s' hq => ?_
  cases r with
  | error e => exact tk e s' (XE.of_call I (fun _ _ _ z => z) hq)
  | ok fl =>
    cases fl with
    | ret u => exact I.after hq
    | next => exact False.elim hq
    | brk => exact False.elim hq
    | cont => exact False.elim hq
theorem run_c {pins : List (Addr × Obj)} {σ : L2.St} {H : Hp} {s : Shared} {Q : VK} {us kw : List Value} {ks : List Str} {vs : List V} {bs : List Value} (g : Gd X) (F : FnG X.prog X.w X.K X.mg X.base k f fd ps Bc m) (hr : Room k X.A) (tk : Takes X W) (I : Inv X pins σ H s)
    (hb : BindsTo s fd ⟨us, ks.zip kw⟩ (ps.zip bs)) (r : Vals vs bs) (h : spF X.K X.mg Bc m vs H Q (fun cls d H' => W cls d σ H')) : wpAny (model X.prog X.w) X.A (call (.ref f) us (ks.zip kw)) (EP X pins σ Q) X.xe s := by
  refine wpAny_call (codeAny_mono (run_g g F hr tk I hb r h) fun r s' hq => ?_)
  cases r with
  | error e => exact hq
  | ok fl => cases fl with
    | ret u => exact hq
    | next => exact False.elim hq
    | brk => exact False.elim hq
    | cont => exact False.elim hq
theorem eo_call (g : Gd X) (F : FnG X.prog X.w X.K X.mg X.base k f fd ps Bc m) (hr : Room k X.A) (tk : Takes X W) (hg : Gl X x) (hm : X.mg x = some (.ref f)) (hk : PySem.W.keepIn X.K (.ref f) = true) (hb : Binds X.K fd ps [])
    (ha : AA X W B (e :: es) ml) (hdb : (x == ("__debug__" : Str)) = false := by decide) (he : starEach (e :: es) X.env = (false, eval e X.env) :: starEach es X.env := by rfl) (hpl : (backTo pos (starEach es X.env)).any (·.1) = false := by rfl) :
    EO X W B (.Call (.Name x p) (e :: es) [] pos) (M.call m ml) := ⟨fun pins s σ H Q I ⟨bv, R, P, Fs, env, S, q⟩ => by
  rw [call_eq] at q
  refine wpAny_Call_Name_kw (ld_glob I hg hm (PySem.W.callWith_K (h₀ := X.base) I.ok.mod.kin hk (thn (ha.run pos pins s σ H _ I (tA_bind (Q := fun vs H1 => spF X.K X.mg Bc m vs H1 Q (fun cls d H' => W cls d σ H') ∧ vs.length = ps.length) (Same.refl _) S q
    fun l e1 vs P1 H1 F1 G S1 s1 av fr q1 => call_sp s1 S1 av fr F.bs F.len q1)) fun us s1 ⟨vs, H1, I1, r, q1, hl⟩ => ⟨I1.kIn, ?_⟩) he hpl) hdb)
  have hb' := hb s1 us I1.kIn (by rw [List.append_nil, ← r.length, hl])
  rw [List.append_nil] at hb'
  exact run_c (ks := []) (kw := []) g F hr tk I1 hb' r q1⟩
/-! keywords -/
variable {kws : List Keyword} {md : M PyData} {mk : M (List AV)} {nm : Option Str}
/-- the arguments in the parameters' order: only values and slots -/
def AV.plain : AV → Bool
  | .o _ => false
  | _ => true
def permL {α : Type} (d : α) (pm : List Nat) (l : List α) : List α := pm.map fun i => l.getD i d
def permA (n : Nat) (pm : List Nat) (a b : List AV) : Option (List AV) := if (((a ++ b).all AV.plain && pm.all (· < (a ++ b).length)) && decide (a.length = n)) && decide ((a ++ b).length = pm.length) then some (permL (.v .none) pm (a ++ b)) else none
def M.perm (n : Nat) (pm : List Nat) (l r : M (List AV)) : M (List AV) := M.bind l fun a => M.bind r fun b => M.opt (permA n pm a b)
section
variable {K : PySem.W.Frag} {mg : Str → Option Value} {P H : Hp} {σ : L2.St}
theorem AvL.app {G G2 : List Addr} {vs ws : List V} {as bs : List AV} (h : AvL K mg P H σ G vs as) (q : AvL K mg P H σ G2 ws bs) (hp : as.all AV.plain = true) : AvL K mg P H σ G2 (vs ++ ws) (as ++ bs) := by
  induction h with
  | nil => exact q
  | v h t ih => exact .v h (ih (by simpa [AV.plain] using hp))
  | o h t ih => simp [AV.plain] at hp
  | r h t ih => exact .r h (ih (by simpa [AV.plain] using hp))
theorem AvL.len {G : List Addr} {vs : List V} {as : List AV} (h : AvL K mg P H σ G vs as) : vs.length = as.length := by
  induction h <;> simp_all
theorem AvL.pick {G G2 : List Addr} {vs xs : List V} {as bs : List AV} (h : AvL K mg P H σ G vs as) (q : AvL K mg P H σ G2 xs bs) (hp : as.all AV.plain = true) : ∀ {i : Nat}, i < as.length → AvL K mg P H σ G2 (vs.getD i .non :: xs) (as.getD i (.v .none) :: bs) := by
  induction h with
  | nil => intro i hi; exact absurd hi (by simp)
  | v h t ih =>
    intro i hi
    cases i with
    | zero => exact .v h q
    | succ i => simpa using ih (by simpa [AV.plain] using hp) (i := i) (by simpa using hi)
  | o h t ih => simp [AV.plain] at hp
  | r h t ih =>
    intro i hi
    cases i with
    | zero => exact .r h q
    | succ i => simpa using ih (by simpa [AV.plain] using hp) (i := i) (by simpa using hi)
theorem AvL.perm {G : List Addr} {vs : List V} {as : List AV} (h : AvL K mg P H σ G vs as) (hp : as.all AV.plain = true) : ∀ {pm : List Nat}, pm.all (· < as.length) = true → AvL K mg P H σ [] (permL .non pm vs) (permL (.v .none) pm as)
  | [], _ => .nil
  | i :: pm, hi => by
    simp only [List.all_cons, Bool.and_eq_true, decide_eq_true_eq] at hi
    exact h.pick (AvL.perm h hp hi.2) hp hi.1
end
/-- how n positional and the keywords ks are bound -/
def KB (K : PySem.W.Frag) (fd : FuncData) (ps ks : List Str) (n : Nat) (pm : List Nat) : Prop := ∀ (s : Shared) (us ws : List Value), K.In s.heap → us.length = n → ws.length = ks.length → BindsTo s fd ⟨us, ks.zip ws⟩ (ps.zip (permL .none pm (us ++ ws)))
end
end DL

set_option maxHeartbeats 2000000
/-! DL11: targets with their slots; comprehensions. -/
namespace DL
open PySem PySem.Spec PyProof.Rows L2

/-! ### targets, by the slots that they store -/
def Alike (is : List Nat) (σ σ' : L2.St) : Prop := σ'.length = σ.length ∧ ∀ i, i ∉ is → σ'[i]? = σ[i]?
theorem Alike.refl {is : List Nat} {σ : L2.St} : Alike is σ σ := ⟨rfl, fun _ _ => rfl⟩
theorem Alike.trans {is : List Nat} {σ σ' σ2 : L2.St} (a : Alike is σ σ') (b : Alike is σ' σ2) : Alike is σ σ2 := ⟨b.1.trans a.1, fun i h => (b.2 i h).trans (a.2 i h)⟩
theorem Alike.more {is js : List Nat} {σ σ' : L2.St} (a : Alike is σ σ') (h : ∀ i ∈ is, i ∈ js) : Alike js σ σ' := ⟨a.1, fun i n => a.2 i fun z => n (h i z)⟩
theorem wipe_get {σ : L2.St} {i : Nat} : ∀ {vs : List Nat}, (wipe σ vs)[i]? = if i ∈ vs ∧ i < σ.length then some none else σ[i]?
  | [] => by simp [wipe]
  | v :: vs => by
    unfold wipe
    by_cases h : v = i
    · subst h
      by_cases hl : v < σ.length
      · rw [List.getElem?_set_self (by rw [wipe_length]; exact hl), if_pos ⟨List.mem_cons_self, hl⟩]
      · rw [if_neg fun z => hl z.2, List.getElem?_eq_none (by rw [List.length_set, wipe_length]; omega), List.getElem?_eq_none (by omega)]
    · rw [List.getElem?_set_ne h, wipe_get]
      have : (i ∈ v :: vs) ↔ i ∈ vs := by simp [Ne.symm h]
      simp only [this]
theorem L2wipe_idem {σ : L2.St} {vs : List Nat} : L2.wipe (L2.wipe σ vs) vs = L2.wipe σ vs := by
  apply List.ext_getElem?
  intro i
  rw [wipe_get, wipe_length]
  by_cases h : i ∈ vs ∧ i < σ.length
  · rw [if_pos h, wipe_get, if_pos h]
  · rw [if_neg h]
theorem Alike.wipe {is : List Nat} {σ σ' : L2.St} (a : Alike is σ σ') : L2.wipe σ' is = L2.wipe σ is := by
  apply List.ext_getElem?
  intro i
  rw [wipe_get, wipe_get, a.1]
  by_cases h : i ∈ is
  · by_cases hl : i < σ.length
    · rw [if_pos ⟨h, hl⟩, if_pos ⟨h, hl⟩]
    · rw [if_neg fun z => hl z.2, if_neg fun z => hl z.2, List.getElem?_eq_none (by rw [a.1]; omega), List.getElem?_eq_none (by omega)]
  · rw [if_neg fun z => h z.1, if_neg fun z => h z.1, a.2 i h]
def tV (K : PySem.W.Frag) (mg : Str → Option Value) (B is : List Nat) (g : TG') : TG := fun v σ H Q => ∃ bv R P Fs env d e, Sta K mg B bv R P H Fs σ env ∧ Rp K P v d ∧ g d env = some e ∧ ∀ σ' P' H' Fs', Sta K mg B bv R P' H' Fs' σ' e → Same P P' → Alike is σ σ' → Q σ' H'
abbrev GV (X : Cx) (B is : List Nat) (tg : Expr) (g : TG') : Prop := PG X tg (tV X.K X.mg B is g)
def tVs (K : PySem.W.Frag) (mg : Str → Option Value) (B is : List Nat) (g : TGs') : TGs := fun vs σ H Q => ∃ bv R P Fs env ds e, Sta K mg B bv R P H Fs σ env ∧ RpA K P vs ds ∧ g ds env = some e ∧ ∀ σ' P' H' Fs', Sta K mg B bv R P' H' Fs' σ' e → Same P P' → Alike is σ σ' → Q σ' H'
abbrev GVs (X : Cx) (B is : List Nat) (tgs : List Expr) (g : TGs') : Prop := PGs X tgs (tVs X.K X.mg B is g)
def gTupE (n : Nat) (g : TGs') : TG' := fun d env => match d with
  | .tuple ds => if ds.length = n then g ds env else none
  | _ => none
section
variable {X : Cx} {B is : List Nat} {pos : Pos} {e : Expr} {es : List Expr}
theorem gv_gt {g : TG'} (h : GV X B is e g) : GT X B e g := PG_mono h fun v σ H Q ⟨bv, R, P, Fs, env, d, e, S, r, q, k⟩ => ⟨bv, R, P, Fs, env, d, e, S, r, q, fun σ' P' H' Fs' S' s' _ => k σ' P' H' Fs' S' s'⟩
theorem gv_name (i : Nat) {x : Str} (hN : X.N.Nodup) (hB : i ∉ B) (his : i ∈ is) (hi : X.N[i]? = some x := by rfl) (hx : Loc X.env.scope x := by first | exact Or.inl rfl | exact Or.inr rfl) (hf : X.fn x = true ∨ X.env.scope.names.lookup x = some .local := by first | exact .inl rfl | exact .inr rfl | assumption) :
    GV X B is (.Name x pos) (gNameD i) := PG_mono (pg_name hN hi hx hf) fun v σ H Q ⟨bv, R, P, Fs, env, d, e, S, r, q, k⟩ => by
  unfold gNameD at q
  by_cases hl : i < env.length
  · rw [if_pos hl] at q
    cases q
    exact k _ P H _ (S.store (.pur r) Free.nil hB hl) (Same.refl _) ⟨List.length_set .., fun j hj => List.getElem?_set_ne (fun (z : i = j) => hj (z ▸ his))⟩
  · rw [if_neg hl] at q; cases q
theorem gvs_nil : GVs X B is [] gNilD := PGs_mono pgs_nil fun v σ H Q ⟨bv, R, P, Fs, env, d, e, S, r, q, k⟩ => by
  cases r with
  | nil => cases q; exact ⟨rfl, k σ P H Fs S (Same.refl _) Alike.refl⟩
  | cons h t => cases q
theorem gvs_cons {g : TG'} {gs : TGs'} (h1 : GV X B is e g) (h2 : GVs X B is es gs) (hs : (assignEach (e :: es) X.env).map (·.2) = assign e X.env :: (assignEach es X.env).map (·.2) := by rfl) : GVs X B is (e :: es) (gConsD g gs) :=
  PGs_mono (pgs_cons h1 h2 hs) fun v σ H Q ⟨bv, R, P, Fs, env, d, e, S, r, q, k⟩ => by
    cases r with
    | nil => cases q
    | cons h t =>
      simp only [gConsD] at q
      obtain ⟨e1, q1, q2⟩ := Option.bind_eq_some_iff.mp q
      exact ⟨_, _, rfl, bv, R, P, Fs, env, _, e1, S, h, q1, fun σ1 P1 H1 F1 S1 s1 a1 => ⟨bv, R, P1, F1, e1, _, e, S1, t.mono s1, q2, fun σ2 P2 H2 F2 S2 s2 a2 => k σ2 P2 H2 F2 S2 (s1.trans s2) (a1.trans a2)⟩⟩
theorem gv_tup {gs : TGs'} {n kk : Nat} (hc : X.calm = true) (h : GVs X B is es gs) (hn : (assignEach es X.env).length = n := by rfl) (hst : (assignEach es X.env).findIdx? (·.1) = none := by rfl) : GV X B is (.Tuple es kk pos) (gTupE n gs) :=
  PG_mono (pg_tup hc h hn hst) fun v σ H Q ⟨bv, R, P, Fs, env, d, e, S, r, q, k⟩ => by
    cases r with
    | tup h t =>
      simp only [gTupE] at q
      split at q
      · rename_i hl
        exact ⟨_, _, rfl, seqT_mono S.ph h, by rw [t.length]; exact hl, bv, R, P, Fs, env, _, e, S, t, q, k⟩
      · cases q
    | _ => cases q
end

/-! ### a block's slots -/
def wipeE (vs : List Nat) (env : DEnv) : DEnv := match vs with
  | [] => env
  | v :: vs => (wipeE vs env).set v none
def pickP (env : DEnv) (v : Nat) : Option OD := match env[v]? with
  | some (some (.pur d)) => some (.pur d)
  | _ => none
def restE (vs : List Nat) (env0 e : DEnv) : DEnv := match vs with
  | [] => e
  | v :: vs => (restE vs env0 e).set v (pickP env0 v)
theorem wipeE_len (env : DEnv) : ∀ vs, (wipeE vs env).length = env.length
  | [] => rfl
  | v :: vs => by unfold wipeE; rw [List.length_set, wipeE_len env vs]
theorem wipeE_get {env : DEnv} {i : Nat} {x : OD} : ∀ {vs : List Nat}, (wipeE vs env)[i]? = some (some x) ↔ i ∉ vs ∧ env[i]? = some (some x)
  | [] => by simp [wipeE]
  | v :: vs => by
    unfold wipeE
    by_cases h : v = i
    · subst h
      constructor
      · intro e
        by_cases hl : v < (wipeE vs env).length
        · rw [List.getElem?_set_self hl] at e; cases e
        · rw [List.getElem?_eq_none (by rw [List.length_set]; omega)] at e; cases e
      · intro e; exact absurd List.mem_cons_self e.1
    · rw [List.getElem?_set_ne h, wipeE_get]
      simp [Ne.symm h]
theorem restE_len (env e : DEnv) : ∀ vs, (restE vs env e).length = e.length
  | [] => rfl
  | v :: vs => by unfold restE; rw [List.length_set, restE_len env e vs]
theorem restE_in {env e : DEnv} {i : Nat} {x : OD} : ∀ {vs : List Nat}, i ∈ vs → (restE vs env e)[i]? = some (some x) → ∃ d, x = .pur d ∧ env[i]? = some (some (.pur d))
  | v :: vs, h, q => by
    unfold restE at q
    by_cases hv : v = i
    · subst hv
      by_cases hl : v < (restE vs env e).length
      · rw [List.getElem?_set_self hl] at q
        unfold pickP at q
        split at q
        · rename_i d hd; cases q; exact ⟨d, rfl, hd⟩
        · cases q
      · rw [List.getElem?_eq_none (by rw [List.length_set]; omega)] at q; cases q
    · rw [List.getElem?_set_ne hv] at q
      exact restE_in (by rcases List.mem_cons.mp h with z | z; exact absurd z.symm hv; exact z) q
theorem restE_out {env e : DEnv} {i : Nat} : ∀ {vs : List Nat}, i ∉ vs → (restE vs env e)[i]? = e[i]?
  | [], _ => rfl
  | v :: vs, h => by
    unfold restE
    rw [List.getElem?_set_ne (fun (z : v = i) => h (z ▸ List.mem_cons_self)), restE_out fun z => h (List.mem_cons_of_mem _ z)]
section
variable {K : PySem.W.Frag} {mg : Str → Option Value} {B vs : List Nat} {bv : Nat → V} {R P P' H H' : Hp} {Fs Fs' : Nat → List Addr} {σ : L2.St} {env e : DEnv}
theorem Sta.wipe (S : Sta K mg B bv R P H Fs σ env) (hB : ∀ i ∈ vs, i ∉ B) : Sta K mg B bv R P H (fun i => if i ∈ vs then [] else Fs i) (L2.wipe σ vs) (wipeE vs env) where
  rh := S.rh
  tb := S.tb
  ph := S.ph
  rp := S.rp
  slot := fun i x h => by
    obtain ⟨h1, h2⟩ := wipeE_get.mp h
    obtain ⟨v, q1, q2⟩ := S.slot i x h2
    refine ⟨v, by rw [wipe_get, if_neg fun z => h1 z.1]; exact q1, ?_⟩
    rw [if_neg h1]; exact q2
  dead := fun i h => by
    split
    · rfl
    · rename_i hi
      exact S.dead i fun x z => h x (wipeE_get.mpr ⟨hi, z⟩)
  nd := fun i => by split; exact .nil; exact S.nd i
  dj := fun i j a hij h => by
    split at h
    · cases h
    · split
      · simp
      · exact S.dj i j a hij h
  fr := fun i a h => by
    split at h
    · cases h
    · exact S.fr i a h
  fp := fun i a h => by
    split at h
    · cases h
    · exact S.fp i a h
  len := by rw [wipe_length, wipeE_len, S.len]
  pin := fun i hi => by rw [wipe_get, if_neg fun z => hB i z.1 hi]; exact S.pin i hi
  nt := S.nt
theorem Ow.pur_inv {F : List Addr} {v : V} {d : PyData} (h : Ow K mg P H F v (.pur d)) : Rp K P v d := by
  cases h with
  | pur r => exact r
/-- back in the def's own slots -/
theorem Sta.unwipe (S : Sta K mg B bv R P H Fs σ env) (T : Sta K mg B bv R P' H' Fs' (L2.wipe σ vs) e) (pp : Same P P') (hB : ∀ i ∈ vs, i ∉ B) : Sta K mg B bv R P' H' (fun i => if i ∈ vs then [] else Fs' i) σ (restE vs env e) where
  rh := T.rh
  tb := T.tb
  ph := T.ph
  rp := T.rp
  slot := fun i x h => by
    by_cases hi : i ∈ vs
    · obtain ⟨d, rfl, h2⟩ := restE_in hi h
      obtain ⟨v, q1, q2⟩ := S.slot i _ h2
      refine ⟨v, q1, ?_⟩
      rw [if_pos hi]
      exact .pur (q2.pur_inv.mono pp)
    · rw [restE_out hi] at h
      obtain ⟨v, q1, q2⟩ := T.slot i x h
      rw [wipe_get, if_neg fun z => hi z.1] at q1
      refine ⟨v, q1, ?_⟩
      rw [if_neg hi]; exact q2
  dead := fun i h => by
    split
    · rfl
    · rename_i hi
      exact T.dead i fun x z => h x (by rw [restE_out hi]; exact z)
  nd := fun i => by split; exact .nil; exact T.nd i
  dj := fun i j a hij h => by
    split at h
    · cases h
    · split
      · simp
      · exact T.dj i j a hij h
  fr := fun i a h => by
    split at h
    · cases h
    · exact T.fr i a h
  fp := fun i a h => by
    split at h
    · cases h
    · exact T.fp i a h
  len := by rw [restE_len]; have := T.len; rwa [wipe_length] at this
  pin := S.pin
  nt := S.nt
theorem tabS_upd {H : Hp} {a D : Addr} {q : Str} {u' : HO} (h : a ≠ D) (hD : ∀ φ, H D ≠ some (.ext φ)) (t : LamX.TabS H a q) : LamX.TabS (upd H D u') a q := by
  obtain ⟨ps, h1, h2, h3⟩ := t
  refine ⟨ps, by rw [upd_ne h]; exact h1, h2, fun pos cv hc => ?_⟩
  obtain ⟨c, e1, e2⟩ := h3 pos cv hc
  refine ⟨c, e1, ?_⟩
  rw [upd_ne fun z => hD _ (z ▸ e2)]
  exact e2
/-- what is kept for those who called is written by us -/
theorem Sta.write {D : Addr} {u u' : HO} (S : Sta K mg B bv (upd R D u) P H Fs σ env) (hD : D ∉ TbA K) (hn : ∀ xs, u' ≠ .tup xs := by intro _ z; cases z) (hx : ∀ φ, u ≠ .ext φ := by intro _ z; cases z) : Sta K mg B bv (upd R D u') P (upd H D u') Fs σ env where
  rh := fun a o h n => by
    by_cases q : a = D
    · subst q; rw [upd_same] at h ⊢; exact h
    · rw [upd_ne q] at h ⊢; exact S.rh a o (by rw [upd_ne q]; exact h) n
  tb := fun p hp => by
    have ne : p.1 ≠ D := fun z => hD (z ▸ List.mem_map.mpr ⟨p, hp, rfl⟩)
    refine ⟨tabS_upd ne (fun φ z => ?_) (S.tb p hp).1, ?_⟩
    · rw [S.rh D u upd_same hD] at z
      exact hx φ (Option.some.inj z)
    · have := (S.tb p hp).2
      rw [upd_ne ne] at this ⊢
      exact this
  ph := fun a o h => by
    have : a ≠ D := fun q => by
      subst q
      rw [S.rp a (by rw [upd_same]; simp)] at h; cases h
    rw [upd_ne this]; exact S.ph a o h
  rp := fun a h => S.rp a (by
    by_cases q : a = D
    · subst q; rw [upd_same]; simp
    · rw [upd_ne q] at h ⊢; exact h)
  slot := fun i x h => by
    obtain ⟨v, q1, q2⟩ := S.slot i x h
    refine ⟨v, q1, q2.keep (Same.refl _) fun a ha o ho => ?_⟩
    have : a ≠ D := fun q => by
      subst q
      have z := S.fr i a ha
      rw [upd_same] at z; cases z
    rw [upd_ne this]; exact ho
  dead := S.dead
  nd := S.nd
  dj := S.dj
  fr := fun i a h => by
    have z := S.fr i a h
    by_cases q : a = D
    · subst q; rw [upd_same] at z; cases z
    · rw [upd_ne q] at z ⊢; exact z
  fp := S.fp
  len := S.len
  pin := S.pin
  nt := fun a xs e => by
    by_cases q : a = D
    · subst q; rw [upd_same] at e; exact hn xs (by injection e)
    · rw [upd_ne q] at e; exact S.nt a xs (by rw [upd_ne q]; exact e)
theorem Sta.newR {D : Addr} {u : HO} (S : Sta K mg B bv R P H Fs σ env) (hD : H D = none) (hn : ∀ xs, u ≠ .tup xs := by intro _ z; cases z) : Sta K mg B bv (upd R D u) P (upd H D u) Fs σ env where
  rh := fun a o h n => by
    by_cases q : a = D
    · subst q; rw [upd_same] at h ⊢; exact h
    · rw [upd_ne q] at h ⊢; exact S.rh a o h n
  tb := fun p hp => ⟨(S.tb p hp).1.ext (ext_heap S.ph u hD).hh, by
    by_cases q : p.1 = D
    · rw [q, upd_same]; simp
    · rw [upd_ne q]; exact (S.tb p hp).2⟩
  ph := (ext_heap S.ph u hD).ph
  rp := fun a h => by
    by_cases q : a = D
    · subst q; exact S.ph.free hD
    · rw [upd_ne q] at h; exact S.rp a h
  slot := (S.ext (ext_heap S.ph u hD)).slot
  dead := S.dead
  nd := S.nd
  dj := S.dj
  fr := fun i a h => by
    by_cases q : a = D
    · subst q; exact absurd h ((S.dh hD).2.2 i)
    · rw [upd_ne q]; exact S.fr i a h
  fp := S.fp
  len := S.len
  pin := S.pin
  nt := fun a xs e => by
    by_cases q : a = D
    · subst q; rw [upd_same] at e; exact hn xs (by injection e)
    · rw [upd_ne q] at e; exact S.nt a xs e
end

/-! ### [elt for target in iter if ..] -/
def W0 : WX := fun _ _ _ _ => False
def lcL (g : TG') (vs : List Nat) (tt : M Bool) (el : M PyData) : List PyData → M (List PyData)
  | [] => fun e => .ok [] e
  | d :: ds => fun e => match g d e with
    | none => .no
    | some e1 => match tt e1 with
      | .ok true e2 => (match el e2 with
        | .ok y e3 => (match lcL g vs tt el ds (wipeE vs e3) with
          | .ok ys e4 => .ok (y :: ys) e4
          | .ex x e4 => .no
          | .no => .no)
        | _ => .no)
      | .ok false e2 => lcL g vs tt el ds (wipeE vs e2)
      | _ => .no
def M.lc (it : M (List PyData)) (g : TG') (vs : List Nat) (tt : M Bool) (el : M PyData) : M OD := M.bind it fun ds env => match lcL g vs tt el ds (wipeE vs env) with
  | .ok ys e => if ys.length ≤ 16777216 then .ok (.lst (ys.map .pur)) (restE vs env e) else .no
  | _ => .no
section
variable {K : PySem.W.Frag} {mg : Str → Option Value} {W : WX} {B vs : List Nat} {m : M (List PyData)} {g : TG'} {mt : M Bool} {me : M PyData} {σ : L2.St} {H : Hp} {Q : VK}
/-- what the items' walk asks -/
def LcIn (g : TG) (tt : TT) (te : TE) (vs : List Nat) (σ : L2.St) (Q : VK) (J : It) (H1 : Hp) : Prop := ∀ D, H1 D = none → ∃ W : Nat → Nat → Hp → Prop, (∃ m, W 0 m (upd H1 D (.lst []))) ∧ ∀ i m H, W i m H →
  (J.stop i H ∧ Q (.ref D) H) ∨ (J.go i H ∧ ∃ Nx : Hp → Prop, (∀ H', Nx H' → ∃ m', m' < m ∧ W (i + 1) m' H') ∧ ∀ x H', J.yld i H x H' → g x (L2.wipe σ vs) H' fun σ2 H2 => L2.wipe σ2 vs = L2.wipe σ vs ∧ tt σ2 H2 fun b H3 =>
    if b = true then te σ2 H3 fun y H4 => ∃ acc, H4 D = some (.lst acc) ∧ acc.length < sizeLine ∧ Nx (upd H4 D (.lst (acc ++ [y]))) else Nx H3)
theorem lc_inner {bv : Nat → V} {R P P1 H1 : Hp} {F1 : Nat → List Addr} {e1 : DEnv} {ds : List PyData} {J : It} (hB : ∀ i ∈ vs, i ∉ B) (S1 : Sta K mg B bv R P1 H1 F1 σ e1) (s1 : Same P P1) (fd : Fd K P1 J ds)
    (q1 : post ((fun ds env => match lcL g vs mt me ds (wipeE vs env) with
      | .ok ys e => if ys.length ≤ 16777216 then Rs.ok (OD.lst (ys.map .pur)) (restE vs env e) else .no
      | _ => .no : List PyData → M OD) ds e1) (OkO K mg B bv R P σ Q) (ExD K mg W B bv R P σ)) : LcIn (tV K mg B vs g) (tT K mg W0 B mt) (tD K mg W0 B me) vs σ Q J H1 := by
  intro D hD
  simp only at q1
  cases hlc : lcL g vs mt me ds (wipeE vs e1) with
  | ex x e => rw [hlc] at q1; exact q1.elim
  | no => rw [hlc] at q1; exact q1.elim
  | ok T eF =>
    rw [hlc] at q1
    simp only at q1
    by_cases hT : T.length ≤ 16777216
    · rw [if_pos hT] at q1
      have Sw := (S1.wipe (vs := vs) hB).newR (u := .lst []) hD
      refine ⟨fun i m H => m = ds.length - i ∧ i ≤ ds.length ∧ ∃ P' Fs' e accV acc ys, Sta K mg B bv (upd R D (.lst accV)) P' H Fs' (L2.wipe σ vs) e ∧ Same P1 P' ∧ RpA K P' accV acc ∧ lcL g vs mt me (ds.drop i) e = .ok ys eF ∧ acc ++ ys = T,
        ⟨_, rfl, Nat.zero_le _, P1, _, _, [], [], T, Sw, Same.refl _, .nil, by rw [List.drop_zero]; exact hlc, rfl⟩, ?_⟩
      rintro i n H2 ⟨rfl, hi, P2, F2, e2, accV, acc, ys, S2, s2, ra, hl, ha⟩
      have hR : R D = none := S1.free hD
      have hDt := S1.nota hR
      obtain ⟨f1, f2⟩ := fd P2 H2 s2 S2.ph
      by_cases hlt : i < ds.length
      · obtain ⟨go, y⟩ := f1 i ds[i] (List.getElem?_eq_getElem hlt)
        refine .inr ⟨go, fun H' => ∃ P' Fs' e accV acc ys, Sta K mg B bv (upd R D (.lst accV)) P' H' Fs' (L2.wipe σ vs) e ∧ Same P1 P' ∧ RpA K P' accV acc ∧ lcL g vs mt me (ds.drop (i + 1)) e = .ok ys eF ∧ acc ++ ys = T,
          fun H' h' => ⟨_, by omega, rfl, hlt, h'⟩, fun x H3 hx => ?_⟩
        obtain ⟨P3, ex, rx⟩ := y x H3 hx
        have S3 := S2.ext ex
        rw [List.drop_eq_getElem_cons hlt] at hl
        simp only [lcL] at hl
        cases eg : g ds[i] e2 with
        | none => rw [eg] at hl; cases hl
        | some e3 =>
          rw [eg] at hl
          simp only at hl
          refine ⟨bv, _, P3, F2, e2, _, e3, S3, rx, eg, fun σ4 P4 H4 F4 S4 s4 al => ⟨by rw [al.wipe, L2wipe_idem], bv, _, P4, F4, e3, S4, ?_⟩⟩
          have s24 : Same P2 P4 := ex.pp.trans s4
          cases et : mt e3 with
          | ex x e => rw [et] at hl; cases hl
          | no => rw [et] at hl; cases hl
          | ok b e5 =>
            rw [et] at hl
            cases b with
            | false =>
              intro P5 H5 F5 S5 s5
              rw [if_neg Bool.false_ne_true]
              have S6 := S5.wipe (vs := vs) hB
              rw [al.wipe, L2wipe_idem] at S6
              exact ⟨P5, _, _, accV, acc, ys, S6, s2.trans (s24.trans s5), ra.mono (s24.trans s5), hl, ha⟩
            | true =>
              intro P5 H5 F5 S5 s5
              rw [if_pos rfl]
              simp only at hl
              refine ⟨bv, _, P5, F5, e5, S5, ?_⟩
              cases ee : me e5 with
              | ex x e => rw [ee] at hl; cases hl
              | no => rw [ee] at hl; cases hl
              | ok z e6 =>
                rw [ee] at hl
                simp only at hl
                cases er : lcL g vs mt me (ds.drop (i + 1)) (wipeE vs e6) with
                | ex x e => rw [er] at hl; cases hl
                | no => rw [er] at hl; cases hl
                | ok ys' e7 =>
                  rw [er] at hl
                  simp only [Rs.ok.injEq] at hl
                  obtain ⟨rfl, rfl⟩ := hl
                  intro v P6 H6 F6 S6 s6 rv
                  have hlen := ra.length
                  refine ⟨accV, S6.rh D _ upd_same hDt, ?_, ?_⟩
                  · have : acc.length + (ys'.length + 1) = T.length := by rw [← ha]; simp
                    show accV.length < sizeLine
                    rw [sizeLine_eq]; omega
                  · have S7 := (S6.write hDt (u' := .lst (accV ++ [v]))).wipe (vs := vs) hB
                    rw [al.wipe, L2wipe_idem] at S7
                    have s26 := s24.trans (s5.trans s6)
                    exact ⟨P6, _, _, accV ++ [v], acc ++ [z], ys', S7, s2.trans s26, (ra.mono s26).append (.cons rv .nil), er, by rw [← ha]; simp⟩
      · have e : i = ds.length := by omega
        subst e
        rw [List.drop_length] at hl
        simp only [lcL, Rs.ok.injEq] at hl
        obtain ⟨rfl, rfl⟩ := hl
        rw [List.append_nil] at ha
        subst ha
        have S3 := S2.sub (R := R) (fun a o h => by
          have : a ≠ D := fun z => by rw [z, hR] at h; cases h
          rw [upd_ne this]; exact h) S1.hasT
        have S4 := S1.unwipe S3 s2 hB
        refine .inl ⟨f2, q1 (.ref D) P2 H2 _ [D] S4 (s1.trans s2) (.lst (S2.rh D _ upd_same hDt) (owl_pur ra)) ⟨by simp, fun a h => ?_, fun a h => ?_, fun a h i z => ?_⟩⟩
        · simp at h; subst h; exact hR
        · simp at h; subst h; exact S2.rp a (by rw [upd_same]; simp)
        · simp at h; subst h
          split at z
          · cases z
          · have y := S2.fr i a z
            rw [upd_same] at y; cases y
    · rw [if_neg hT] at q1; exact q1.elim
theorem lc_law (hB : ∀ i ∈ vs, i ∉ B) (h : tO K mg W B (M.lc m g vs mt me) σ H Q) : tLc (tI K mg W B m) (tV K mg B vs g) (tT K mg W0 B mt) (tD K mg W0 B me) vs σ H Q := by
  obtain ⟨bv, R, P, Fs, env, S, q⟩ := h
  exact ⟨bv, R, P, Fs, env, S, bindD q (fun ds e1 q1 J P1 H1 F1 S1 s1 fd => lc_inner hB S1 s1 fd q1) fun _ _ q => q⟩
end
end DL

set_option maxHeartbeats 2000000
/-! DL12: comprehensions as expressions and statements; reading without freezing; lists and dicts that are changed. -/
namespace DL
open PySem PySem.Spec PyProof.Rows L2

/-- the context of a block of X -/
abbrev BX (X : Cx) (s : Shared) (H : Hp) (scope : Scope) (C : Addr) (cl : List (Str × Addr)) (fp : List Addr) : Cx := X.blk s H scope (compEnvC scope cl C X.env) fp
abbrev TDs (X : Cx) (W : WX) (B : List Nat) (ifs : List Expr) (m : M Bool) : Prop := PTs X ifs (tT X.K X.mg W B m)
section
variable {X : Cx} {W : WX} {B : List Nat} {e elt tg iter : Expr} {ifs : List Expr} {scope : Scope} {own : List (Str × Nat)} {pos spos py : Pos} {m : M (List PyData)} {g : TG'} {mt : M Bool} {me : M PyData}
theorem PTs_mono {X : Cx} {es : List Expr} {t t' : TT} (h : PTs X es t) (i : ∀ σ H Q, t' σ H Q → t σ H Q) : PTs X es t' := ⟨fun pins s σ H Q I q => h.run pins s σ H Q I (i σ H Q q)⟩
theorem tds_nil : TDs X W B [] (M.pure true) := PTs_mono pts_nil fun σ H Q ⟨bv, R, P, Fs, env, S, q⟩ => q P H Fs S (Same.refl _)
theorem tds_one {mt : M Bool} (h : TD X W B e mt) : TDs X W B [e] mt := pts_one h
/-- name = [..] on one line -/
theorem sd_setLc (i : Nat) (own : List (Str × Nat)) {y : Str} (hc : X.calm = true) (hN : X.N.Nodup) (hBi : i ∉ B) (hi : ID X W B tg iter m) (ok : BlkOk X.N X.env.scope scope own) (hB : ∀ i ∈ own.map (·.2), i ∉ B)
    (hg : ∀ s H C cl fp, GV (BX X s H scope C cl fp) B (own.map (·.2)) tg g) (ht : ∀ s H C cl fp, TDs (BX X s H scope C cl fp) W0 B ifs mt) (he : ∀ s H C cl fp, ED (BX X s H scope C cl fp) W0 B elt me)
    (hsw : swapsWith (.ListComp elt [⟨tg, iter, ifs, 0⟩] scope pos) (some (.Name y py)) spos.line X.env = pure true) (hy : X.N[i]? = some y := by rfl) (hyl : X.env.scope.names.lookup y = some .local := by rfl) (hs : ∀ x, foldedSetIterable iter X.env x = pure x := by intro _; rfl) :
    SD X W B (.Assign [.Name y py] (.ListComp elt [⟨tg, iter, ifs, 0⟩] scope pos) spos) (M.set i (M.lc m g (own.map (·.2)) mt me)) :=
  PS_mono (ps_setLc hc hN hy hyl hsw hi ok hg ht he hs) fun D σ H ⟨bv, R, P, Fs, env, S, q⟩ => lc_law hB (tO_bindS (Same.refl _) S q fun x e1 v P1 H1 F1 G S1 s1 o1 f1 h1 => by
    unfold M.put at h1
    by_cases hl : i < e1.length
    · rw [if_pos hl] at h1
      exact h1 _ P1 H1 _ (S1.store o1 f1 hBi hl) s1
    · rw [if_neg hl] at h1; exact h1.elim)
end

/-! ### reading a place without freezing it -/
/-- a place: the tree that stands there; nothing changes -/
def tR (K : PySem.W.Frag) (mg : Str → Option Value) (B : List Nat) (m : DEnv → Option OD) : TE := fun σ H Q => ∃ bv R P Fs env x, Sta K mg B bv R P H Fs σ env ∧ m env = some x ∧ ∀ v F, Ow K mg P H F v x → Q v H
abbrev RO (X : Cx) (B : List Nat) (e : Expr) (m : DEnv → Option OD) : Prop := PE X e (tR X.K X.mg B m)
/-- data for the moment -/
def tQ (K : PySem.W.Frag) (mg : Str → Option Value) (B : List Nat) (m : DEnv → Option PyData) : TE := fun σ H Q => ∃ bv R P Fs env d, Sta K mg B bv R P H Fs σ env ∧ m env = some d ∧ ∀ v, Rp K H v d → Q v H
abbrev QD (X : Cx) (B : List Nat) (e : Expr) (m : DEnv → Option PyData) : Prop := PE X e (tQ X.K X.mg B m)
def slotO (i : Nat) : DEnv → Option OD := fun env => (env[i]?).join
def dataO (m : DEnv → Option OD) : DEnv → Option PyData := fun env => (m env).bind OD.data
/-- what is read of a place and is frozen already -/
def M.ro (m : DEnv → Option OD) : M PyData := fun env => match m env with
  | some (.pur d) => .ok d env
  | _ => .no
section
variable {X : Cx} {W : WX} {B : List Nat} {e : Expr} {pos : Pos} {mr : DEnv → Option OD}
theorem ro_var (i : Nat) {x : Str} (hN : X.N[i]? = some x := by rfl) (hv : Vis X.env.scope x := by first | exact Or.inl rfl | exact Or.inr (Or.inl rfl) | exact Or.inr (Or.inr rfl)) (hd : (x == ("__debug__" : Str)) = false := by decide)
    (hcd : (x == ("__classdict__" : Str)) = false := by decide) : RO X B (.Name x pos) (slotO i) := PE_mono (pe_var hN hv hd hcd) fun σ H Q ⟨bv, R, P, Fs, env, x, S, q, k⟩ => by
  unfold slotO at q
  cases hx : env[i]? with
  | none => rw [hx] at q; cases q
  | some o =>
    rw [hx] at q
    simp only [Option.join_some] at q
    subst q
    obtain ⟨v, h1, h2⟩ := S.slot i _ hx
    exact ⟨v, h1, k v _ h2⟩
theorem qd_ro (h : RO X B e mr) : QD X B e (dataO mr) := PE_mono h fun σ H Q ⟨bv, R, P, Fs, env, d, S, q, k⟩ => by
  unfold dataO at q
  obtain ⟨x, h1, h2⟩ := Option.bind_eq_some_iff.mp q
  exact ⟨bv, R, P, Fs, env, x, S, h1, fun v F o => k v (o.frozen S.ph (fun _ _ _ e => e) h2)⟩
theorem ed_ro (h : RO X B e mr) : ED X W B e (M.ro mr) := PE_mono h fun σ H Q ⟨bv, R, P, Fs, env, S, q⟩ => by
  unfold M.ro at q
  cases hx : mr env with
  | none => rw [hx] at q; exact q.elim
  | some x =>
    rw [hx] at q
    cases x with
    | pur d => exact ⟨bv, R, P, Fs, env, _, S, hx, fun v F o => q v P H Fs S (Same.refl _) o.pur_inv⟩
    | _ => exact q.elim
theorem qd_int {i : Int} {j : Nat} : QD X B (.Constant (.int i) j pos) (fun _ => some (.int i)) := PE_mono pe_int fun σ H Q ⟨bv, R, P, Fs, env, d, S, q, k⟩ => by cases q; exact k _ (.int i)
end
end DL

set_option maxHeartbeats 2000000
/-! DL13: lists that are changed. -/
namespace DL
open PySem PySem.Spec PyProof.Rows L2

section
variable {K : PySem.W.Frag} {mg : Str → Option Value} {W : WX} {B : List Nat} {bv : Nat → V} {R P P0 H H' : Hp} {Fs : Nat → List Addr} {σ : L2.St} {env : DEnv}
/-- the tree at slot i becomes another one; nothing else is touched -/
theorem Sta.mut {F' : List Addr} {v : V} {x' : OD} {i : Nat} (S : Sta K mg B bv R P H Fs σ env) (hv : σ[i]? = some (some v)) (hh : ∀ b, b ∉ Fs i → H' b = H b) (o : Ow K mg P H' F' v x') (nd : F'.Nodup)
    (fr : ∀ a ∈ F', a ∈ Fs i ∨ (R a = none ∧ P a = none ∧ ∀ j, a ∉ Fs j)) : Sta K mg B bv R P H' (fun j => if j = i then F' else Fs j) σ (env.set i (some x')) := by
  have out : ∀ {a}, (R a ≠ none ∨ P a ≠ none) → a ∉ Fs i := fun {a} h q => by
    rcases h with h | h
    · exact h (S.fr i a q)
    · exact h (S.fp i a q)
  have keep : ∀ {T : Hp}, Same T H → (∀ a, T a ≠ none → a ∉ Fs i) → Same T H' := fun {T} s h a o e => by
    rw [hh a (h a (by rw [e]; simp))]; exact s a o e
  have hi : i < env.length := by rw [← S.len]; exact (List.getElem?_eq_some_iff.mp hv).1
  refine ⟨fun a o e n => by rw [hh a (out (.inl (by rw [e]; simp)))]; exact S.rh a o e n, fun p hp => ⟨?_, (S.tb p hp).2⟩, keep S.ph fun a h => out (.inr h), S.rp, fun j y h => ?_, fun j h => ?_, fun j => ?_, fun j k a hjk h => ?_, fun j a h => ?_, fun j a h => ?_, by rw [List.length_set, S.len], S.pin, S.nt⟩
  · obtain ⟨ps, h1, h2, h3⟩ := (S.tb p hp).1
    refine ⟨ps, by rw [hh _ (out (.inl (S.tb p hp).2))]; exact h1, h2, fun pos cv hc => ?_⟩
    obtain ⟨c, e1, e2⟩ := h3 pos cv hc
    exact ⟨c, e1, by rw [hh _ fun z => S.noext z _ e2]; exact e2⟩
  · by_cases q : j = i
    · subst q
      rw [List.getElem?_set_self hi] at h
      cases h
      exact ⟨v, hv, by rw [if_pos rfl]; exact o⟩
    · rw [List.getElem?_set_ne (Ne.symm q)] at h
      obtain ⟨w, h1, h2⟩ := S.slot j y h
      refine ⟨w, h1, ?_⟩
      rw [if_neg q]
      exact h2.keep (Same.refl _) fun a ha u e => by rw [hh a (S.dj j i a q ha)]; exact e
  · by_cases q : j = i
    · subst q; exact absurd (List.getElem?_set_self hi) (h x')
    · rw [if_neg q]
      exact S.dead j fun y z => h y (by rw [List.getElem?_set_ne (Ne.symm q)]; exact z)
  · by_cases q : j = i
    · rw [if_pos q]; exact nd
    · rw [if_neg q]; exact S.nd j
  · by_cases q : j = i
    · rw [if_pos q] at h
      have qk : k ≠ i := fun z => hjk (q.trans z.symm)
      rw [if_neg qk]
      rcases fr a h with z | z
      · exact fun y => S.dj i k a (Ne.symm qk) z y
      · exact z.2.2 k
    · rw [if_neg q] at h
      by_cases qk : k = i
      · rw [if_pos qk]
        intro y
        rcases fr a y with z | z
        · exact S.dj j i a q h z
        · exact z.2.2 j h
      · rw [if_neg qk]; exact S.dj j k a hjk h
  · by_cases q : j = i
    · rw [if_pos q] at h
      rcases fr a h with z | z
      · exact S.fr i a z
      · exact z.1
    · rw [if_neg q] at h; exact S.fr j a h
  · by_cases q : j = i
    · rw [if_pos q] at h
      rcases fr a h with z | z
      · exact S.fp i a z
      · exact z.2.1
    · rw [if_neg q] at h; exact S.fp j a h

theorem OwL.app {F G : List Addr} {vs ws : List V} {xs ys : List OD} (h : OwL K mg P H F vs xs) (q : OwL K mg P H G ws ys) : OwL K mg P H (F ++ G) (vs ++ ws) (xs ++ ys) := by
  induction vs generalizing F xs with
  | nil => cases h; exact q
  | cons v vs ih =>
    cases h with
    | cons h t =>
      have := ih t
      rw [List.append_assoc]
      exact .cons h this
theorem OwL.snoc {F G : List Addr} {vs : List V} {xs : List OD} {v : V} {x : OD} (h : OwL K mg P H F vs xs) (q : Ow K mg P H G v x) : OwL K mg P H (F ++ G) (vs ++ [v]) (xs ++ [x]) := by
  have := h.app (.cons q .nil)
  rwa [List.append_nil] at this
/-- a part of a list of trees, and what may be put there -/
theorem OwL.at_ {F : List Addr} {vs : List V} {xs : List OD} (h : OwL K mg P H F vs xs) (nd : F.Nodup) : ∀ {j : Nat} {x : OD}, xs[j]? = some x → ∃ v Fj, vs[j]? = some v ∧ Ow K mg P H Fj v x ∧ Fj.Nodup ∧ (∀ a ∈ Fj, a ∈ F) ∧
    ∀ P' H' F' v' x', Same P P' → (∀ a ∈ F, a ∉ Fj → ∀ o, H a = some o → H' a = some o) → Ow K mg P' H' F' v' x' → F'.Nodup → (∀ a ∈ F', a ∈ F → a ∈ Fj) → ∃ F2, OwL K mg P' H' F2 (vs.set j v') (xs.set j x') ∧ F2.Nodup ∧ ∀ a ∈ F2, (a ∈ F ∧ a ∉ Fj) ∨ a ∈ F' := by
  induction vs generalizing F xs with
  | nil => intro j x e; cases h; simp at e
  | cons v vs ih =>
    cases h with
    | @cons F1 G _ _ x0 xs h t =>
      obtain ⟨n1, n2, n3⟩ := List.nodup_append.mp nd
      intro j x e
      cases j with
      | zero =>
        simp at e
        subst e
        refine ⟨v, F1, rfl, h, n1, fun a ha => List.mem_append_left _ ha, fun P' H' F' v' x' s k o nd' dj => ⟨F' ++ G, .cons o (t.keep s fun a ha => k a (List.mem_append_right _ ha) fun z => n3 a z a ha rfl), ?_, fun a ha => ?_⟩⟩
        · exact List.nodup_append.mpr ⟨nd', n2, fun a h1 b h2 e => by subst e; exact n3 a (dj a h1 (List.mem_append_right _ h2)) a h2 rfl⟩
        · rcases List.mem_append.mp ha with z | z
          · exact .inr z
          · exact .inl ⟨List.mem_append_right _ z, fun y => n3 a y a z rfl⟩
      | succ j =>
        obtain ⟨w, Fj, q1, q2, q3, q4, q5⟩ := ih t n2 (j := j) (x := x) (by simpa using e)
        refine ⟨w, Fj, by simpa using q1, q2, q3, fun a ha => List.mem_append_right _ (q4 a ha), fun P' H' F' v' x' s k o nd' dj => ?_⟩
        obtain ⟨F2, r1, r2, r3⟩ := q5 P' H' F' v' x' s (fun a ha hn => k a (List.mem_append_right _ ha) hn) o nd' (fun a ha hG => dj a ha (List.mem_append_right _ hG))
        refine ⟨F1 ++ F2, .cons (h.keep s fun a ha => k a (List.mem_append_left _ ha) fun z => n3 a ha a (q4 a z) rfl) r1, ?_, fun a ha => ?_⟩
        · refine List.nodup_append.mpr ⟨n1, r2, fun a h1 b h2 e => ?_⟩
          subst e
          rcases r3 a h2 with z | z
          · exact n3 a h1 a z.1 rfl
          · exact n3 a h1 a (q4 a (dj a z (List.mem_append_left _ h1))) rfl
        · rcases List.mem_append.mp ha with z | z
          · exact .inl ⟨List.mem_append_left _ z, fun y => n3 a z a (q4 a y) rfl⟩
          · rcases r3 a z with y | y
            · exact .inl ⟨List.mem_append_right _ y.1, y.2⟩
            · exact .inr y
end

/-! ### methods of an own list at a slot -/
/-- the slot's tree is changed: f gives what the call is worth and the new tree -/
def M.chg (i : Nat) (f : OD → Option (OD × OD)) : M OD := fun env => match env[i]? with
  | some (some x) => (match f x with
    | some (r, x') => .ok r (env.set i (some x'))
    | none => .no)
  | _ => .no
/-- the slot's new list (values ys, trees xs) is written at its address -/
theorem chg_lst {K : PySem.W.Frag} {mg : Str → Option Value} {B : List Nat} {bv : Nat → V} {R P H : Hp} {Fs : Nat → List Addr} {σ : L2.St} {env : DEnv} {i : Nat} {a : Addr} {ys : List V} {zs : List OD} {F0 F2 G : List Addr}
    (S : Sta K mg B bv R P H Fs σ env) (hv : σ[i]? = some (some (.ref a))) (hF : Fs i = a :: F0) (o : OwL K mg P H F2 ys zs) (nd : (a :: F2).Nodup) (hG : ∀ b ∈ F2, b ∈ F0 ∨ b ∈ G) (f : Free R P Fs G) :
    Sta K mg B bv R P (upd H a (.lst ys)) (fun j => if j = i then a :: F2 else Fs j) σ (env.set i (some (.lst zs))) := by
  have na : a ∉ F2 := (List.nodup_cons.mp nd).1
  refine S.mut hv (fun b hb => upd_ne fun z => hb (by rw [hF, z]; exact List.mem_cons_self)) (.lst upd_same (o.keep (Same.refl _) fun b hb u e => by rw [upd_ne (fun (z : b = a) => na (z ▸ hb))]; exact e)) nd fun b hb => ?_
  rcases List.mem_cons.mp hb with z | z
  · subst z; exact .inl (by rw [hF]; exact List.mem_cons_self)
  · rcases hG b z with y | y
    · exact .inl (by rw [hF]; exact List.mem_cons_of_mem _ y)
    · exact .inr ⟨f.r b y, f.p b y, f.f b y⟩
theorem Ow.lst_inv {K : PySem.W.Frag} {mg : Str → Option Value} {P H : Hp} {F : List Addr} {v : V} {xs : List OD} (h : Ow K mg P H F v (.lst xs)) : ∃ a F0 vs, v = .ref a ∧ F = a :: F0 ∧ H a = some (.lst vs) ∧ OwL K mg P H F0 vs xs := by
  cases h with
  | lst h t => exact ⟨_, _, _, rfl, rfl, h, t⟩
theorem at_lst {K : PySem.W.Frag} {mg : Str → Option Value} {B : List Nat} {bv : Nat → V} {R P H : Hp} {Fs : Nat → List Addr} {σ : L2.St} {env : DEnv} {i : Nat} {xs : List OD} (S : Sta K mg B bv R P H Fs σ env) (hx : env[i]? = some (some (.lst xs))) :
    ∃ a vs F0, σ[i]? = some (some (.ref a)) ∧ Fs i = a :: F0 ∧ H a = some (.lst vs) ∧ OwL K mg P H F0 vs xs ∧ (a :: F0).Nodup ∧ vs.length = xs.length := by
  obtain ⟨u, hu, ou⟩ := S.slot i _ hx
  obtain ⟨a, F0, vs, rfl, hF, hH, ol⟩ := ou.lst_inv
  have nd := S.nd i
  rw [hF] at nd
  exact ⟨a, vs, F0, hu, hF, hH, ol, nd, ol.length⟩
/-- m, the slot i being as p says -/
def needO (p : OD → Bool) (i : Nat) (env : DEnv) : Bool := match env[i]? with
  | some (some x) => p x
  | _ => false
def M.need {α : Type} (p : OD → Bool) (i : Nat) (m : M α) : M α := fun env => if needO p i env = true then m env else .no
theorem need_post {α : Type} {p : OD → Bool} {i : Nat} {m : M α} {env : DEnv} {ok : α → DEnv → Prop} {ex : Xn → DEnv → Prop} (h : post (M.need p i m env) ok ex) : needO p i env = true ∧ post (m env) ok ex := by
  unfold M.need at h
  split at h
  · exact ⟨by assumption, h⟩
  · exact h.elim
section
variable {X : Cx} {W : WX} {B : List Nat} {e : Expr} {mo : M OD} {x : Str} {p apos cpos : Pos}
end
end DL

set_option maxHeartbeats 2000000
/-! DL14: peeks (operators on what is read for the moment), items of own lists and dicts, stores. -/
namespace DL
open PySem PySem.Spec PyProof.Rows L2

def scalD : PyData → Bool
  | .none => true
  | .bool _ => true
  | .int _ => true
  | .str _ => true
  | _ => false
theorem Rp.scal {K : PySem.W.Frag} {P P' : Hp} {v : V} {d : PyData} (h : Rp K P v d) (s : scalD d = true) : Rp K P' v d := by
  cases h with
  | non => exact .non
  | bl b => exact .bl b
  | int i => exact .int i
  | str x => exact .str x
  | _ => cases s
def qfin (o : Option PyData) (env : DEnv) : Rs PyData := match o with
  | some z => if scalD z = true then .ok z env else .no
  | none => .no
def M.q2 (f : PyData → PyData → Option PyData) (a b : DEnv → Option PyData) : M PyData := fun env => qfin ((a env).bind fun x => (b env).bind fun y => f x y) env
def M.dq2 (f : PyData → PyData → Option PyData) (a : M PyData) (b : DEnv → Option PyData) : M PyData := M.bind a fun x env => qfin ((b env).bind fun y => f x y) env
def M.q1 (f : PyData → Option PyData) (a : DEnv → Option PyData) : M PyData := fun env => qfin ((a env).bind f) env
section
variable {X : Cx} {W : WX} {B : List Nat} {a b e : Expr} {ma mb : DEnv → Option PyData} {md : M PyData} {pos : Pos} {f : PyData → PyData → Option PyData} {f1 : PyData → Option PyData} {r : R2}
theorem qfin_post {o : Option PyData} {env : DEnv} {ok : PyData → DEnv → Prop} {ex : Xn → DEnv → Prop} (h : post (qfin o env) ok ex) : ∃ z, o = some z ∧ scalD z = true ∧ ok z env := by
  unfold qfin at h
  split at h
  · split at h
    · exact ⟨_, rfl, by assumption, h⟩
    · exact h.elim
  · exact h.elim
theorem sta_ext {K : PySem.W.Frag} {mg : Str → Option Value} {bv : Nat → V} {R P H P' H' : Hp} {Fs : Nat → List Addr} {σ : L2.St} {env : DEnv} (S : Sta K mg B bv R P H Fs σ env) (x : Ext H H P' H') : Sta K mg B bv R P H' Fs σ env :=
  S.ext ⟨x.hh, Same.refl _, S.ph.trans x.hh, fun _ h => .inl h⟩
theorem ed_q1B {x : Str} {id : String} {p : Pos} {rl : List V → Hp → VK → Prop} (hc : CallR X (.builtin id) rl) (hf : CallD X.K rl (one f1)) (hg : Gl X x) (hm : X.mg x = none) (hv : bootBuiltins x = some (.builtin id)) (ha : QD X B e ma) (hn : x ≠ "__name__" := by decide) (hdb : (x == ("__debug__" : Str)) = false := by decide)
    (he : starEach (e :: []) X.env = (false, eval e X.env) :: starEach [] X.env := by rfl) (hpl : (backTo pos (starEach [] X.env)).any (·.1) = false := by rfl) : ED X W B (.Call (.Name x p) (e :: []) [] pos) (M.q1 f1 ma) :=
  PE_mono (pe_callB hc hg hm hv (pa_cons ha pa_nil he) hn hdb he hpl) fun σ H Q ⟨bv, R, P, Fs, env, S, q⟩ => by
    obtain ⟨z, e, hz, q⟩ := qfin_post q
    obtain ⟨d1, e1, e⟩ := Option.bind_eq_some_iff.mp e
    exact ⟨bv, R, P, Fs, env, d1, S, e1, fun v rv => hf H H [v] [d1] z Q (Same.refl _) (.cons rv .nil) e fun u P' H' x ru => q u P H' Fs (sta_ext S x) (Same.refl _) (ru.scal hz)⟩
/-! ### items of an own list, of an own dict -/
def lookO {κ : Type} [DecidableEq κ] : List κ → List OD → κ → Option OD
  | k :: ks, x :: xs, j => if k = j then some x else lookO ks xs j
  | _, _, _ => none
def itemO (x : OD) (i : PyData) : Option OD := match x with
  | .lst xs => (match i with
    | .int k => (ixD xs.length k).bind fun j => xs[j]?
    | _ => none)
  | .dK ks xs => (keyOfD i).bind fun k => lookO ks xs k
  | _ => none
theorem look_own {K : PySem.W.Frag} {mg : Str → Option Value} {P H : Hp} {κ : Type} [DecidableEq κ] {k : κ} {x : OD} : ∀ {ks : List κ} {vs : List V} {xs : List OD} {F : List Addr}, OwL K mg P H F vs xs → lookO ks xs k = some x → ∃ v F', valV (ks.zip vs) k = some v ∧ Ow K mg P H F' v x ∧ ∀ a ∈ F', a ∈ F
  | [], _, _, _, _, e => by simp [lookO] at e
  | j :: ks, _, _, _, .nil, e => by simp [lookO] at e
  | j :: ks, v :: vs, y :: xs, _, .cons (F := F1) h t, e => by
    simp only [lookO] at e
    by_cases q : j = k
    · rw [if_pos q] at e
      cases e
      exact ⟨v, F1, by rw [List.zip_cons_cons, valV_pos (by exact q)], h, fun a ha => List.mem_append_left _ ha⟩
    · rw [if_neg q] at e
      obtain ⟨w, F', h1, h2, h3⟩ := look_own t e
      exact ⟨w, F', by rw [List.zip_cons_cons, valV_neg (by exact q)]; exact h1, h2, fun a ha => List.mem_append_right _ (h3 a ha)⟩
theorem OwL.getO {K : PySem.W.Frag} {mg : Str → Option Value} {P H : Hp} {x : OD} : ∀ {vs : List V} {xs : List OD} {F : List Addr} {j : Nat}, OwL K mg P H F vs xs → xs[j]? = some x → ∃ v F', vs[j]? = some v ∧ Ow K mg P H F' v x ∧ ∀ a ∈ F', a ∈ F
  | _, _, _, _, .nil, e => by simp at e
  | _, _, _, 0, .cons h t, e => by simp at e; subst e; exact ⟨_, _, rfl, h, fun a ha => List.mem_append_left _ ha⟩
  | _, _, _, j + 1, .cons h t, e => by
    obtain ⟨v, F', h1, h2, h3⟩ := OwL.getO (j := j) t (by simpa using e)
    exact ⟨v, F', by simpa using h1, h2, fun a ha => List.mem_append_right _ (h3 a ha)⟩
/-- an item of a tree, as the subscript finds it -/
theorem item_at {P H : Hp} {F : List Addr} {v w : V} {x y : OD} {i : PyData} {Q : VK} (o : Ow X.K X.mg P H F v x) (ri : Rp X.K H w i) (e : itemO x i = some y) (q : ∀ u F', Ow X.K X.mg P H F' u y → Q u H) : rIxP X.K v w H Q := by
  cases x with
  | lst xs =>
    obtain ⟨a, F0, vs, rfl, rfl, hH, ol⟩ := o.lst_inv
    cases i with
    | int k =>
      cases ri
      simp only [itemO] at e
      obtain ⟨j, e1, e2⟩ := Option.bind_eq_some_iff.mp e
      obtain ⟨u, F', h1, h2, h3⟩ := ol.getO e2
      refine .inl (.inl ⟨a, vs, k, u, rfl, rfl, .inl (.inl hH), ?_, q u F' h2⟩)
      unfold atI
      rw [← ixD_eq, ol.length, e1]
      exact h1
    | _ => cases e
  | dK ks xs =>
    cases o with
    | dK h hl t =>
      simp only [itemO] at e
      obtain ⟨k, e1, e2⟩ := Option.bind_eq_some_iff.mp e
      obtain ⟨u, F', h1, h2, h3⟩ := look_own t e2
      have e3 := keyOfD_some e1
      subst e3
      exact .inr ⟨_, u, rfl, .inl ⟨_, k, .inl h, ri.key, h1.symm⟩, q u F' h2⟩
  | _ => cases e
def ixO (m : DEnv → Option OD) (i : DEnv → Option PyData) : DEnv → Option OD := fun env => (m env).bind fun x => (i env).bind fun d => itemO x d
theorem ro_ix {mr : DEnv → Option OD} {mi : DEnv → Option PyData} (hu : X.A.units + 65 < cLine) (ha : RO X B a mr) (hb : QD X B b mi) (hs : PlainIx b := by intro _ _; rfl) : RO X B (.Subscript a b pos) (ixO mr mi) :=
  PE_mono (pe_ix (ix_P (by omega)) ha hb hs) fun σ H Q ⟨bv, R, P, Fs, env, y, S, e, k⟩ => by
    obtain ⟨x, e1, e⟩ := Option.bind_eq_some_iff.mp e
    obtain ⟨d, e2, e⟩ := Option.bind_eq_some_iff.mp e
    exact ⟨bv, R, P, Fs, env, x, S, e1, fun v F o => ⟨bv, R, P, Fs, env, d, S, e2, fun w rw => item_at o rw e k⟩⟩
/-- slot[e], e with whatever it does -/
def M.ixS (i : Nat) (m : M PyData) : M PyData := M.need (fun _ => true) i (M.bind m fun d env => match (env[i]?).join.bind fun x => itemO x d with
  | some (.pur z) => .ok z env
  | _ => .no)
end
end DL

set_option maxHeartbeats 2000000
/-! DL15: stores into own lists and dicts; extend; displays of dicts. -/
namespace DL
open PySem PySem.Spec PyProof.Rows L2

/-! ### what a store makes of a tree -/
def replO {κ : Type} [DecidableEq κ] (k : κ) (y : OD) : List κ → List OD → List OD
  | j :: ks, x :: xs => (if j = k then y else x) :: replO k y ks xs
  | _, xs => xs
def putKs {κ : Type} [DecidableEq κ] (ks : List κ) (k : κ) : List κ := if k ∈ ks then ks else ks ++ [k]
def putXs {κ : Type} [DecidableEq κ] (ks : List κ) (xs : List OD) (k : κ) (y : OD) : List OD := if k ∈ ks then replO k y ks xs else xs ++ [y]
/-- an empty dict becomes one of tuples -/
def tup0 (ks : List Key) (i : PyData) (y : OD) : Option OD := match ks, i with
  | [], .tuple es => (keysOfD es).map fun k => .dT [k] [y]
  | _, _ => none
def setO (c : OD) (i : PyData) (y : OD) : Option OD := match c with
  | .lst xs => (match i with
    | .int k => (ixD xs.length k).map fun j => .lst (xs.set j y)
    | _ => none)
  | .dK ks xs => (match y with
    | .pur _ => (match (keyOfD i).bind fun k => if ks.length < 16777216 then some (OD.dK (putKs ks k) (putXs ks xs k y)) else none with
      | some z => some z
      | none => tup0 ks i y)
    | _ => none)
  | .dT ks xs => (match y with
    | .pur _ => (match i with
      | .tuple es => (keysOfD es).bind fun k => if ks.length < 16777216 then some (.dT (putKs ks k) (putXs ks xs k y)) else none
      | _ => none)
    | _ => none)
  | _ => none
section
variable {K : PySem.W.Frag} {mg : Str → Option Value} {P H : Hp} {κ : Type} [DecidableEq κ]
theorem any_mem {k : κ} : ∀ {ks : List κ} {vs : List V}, ks.length = vs.length → ((ks.zip vs).any fun kv => decide (kv.1 = k)) = decide (k ∈ ks)
  | [], _, _ => by simp
  | j :: ks, [], h => by simp at h
  | j :: ks, v :: vs, h => by
    rw [List.zip_cons_cons, List.any_cons, any_mem (by simpa using h)]
    by_cases q : j = k
    · subst q; simp
    · simp [q, Ne.symm q]
theorem repl_own {k : κ} {v : V} {y : OD} (ny : Ow K mg P H [] v y) : ∀ {ks : List κ} {vs : List V} {xs : List OD} {F : List Addr}, ks.length = vs.length → OwL K mg P H F vs xs → F.Nodup → ∃ vs' F', (ks.zip vs).map (fun kv => if kv.1 = k then (kv.1, v) else kv) = ks.zip vs' ∧ ks.length = vs'.length ∧ OwL K mg P H F' vs' (replO k y ks xs) ∧ F'.Nodup ∧ ∀ a ∈ F', a ∈ F
  | [], [], _, F, _, t, nd => by
    cases t
    exact ⟨[], [], rfl, rfl, .nil, nd, fun _ h => h⟩
  | j :: ks, w :: vs, _, _, hl, .cons (F := F1) (G := G) h t, nd => by
    obtain ⟨n1, n2, n3⟩ := List.nodup_append.mp nd
    obtain ⟨vs', F', e, l, o, nd', sub⟩ := repl_own ny (ks := ks) (by simpa using hl) t n2
    by_cases q : j = k
    · refine ⟨v :: vs', F', ?_, by simp [l], ?_, nd', fun a ha => List.mem_append_right _ (sub a ha)⟩
      · rw [List.zip_cons_cons, List.map_cons, e, List.zip_cons_cons, if_pos q]
      · simp only [replO, if_pos q]
        exact .cons (F := []) ny o
    · refine ⟨w :: vs', F1 ++ F', ?_, by simp [l], ?_, List.nodup_append.mpr ⟨n1, nd', fun a h1 b h2 e => n3 a h1 b (sub b h2) e⟩, fun a ha => ?_⟩
      · rw [List.zip_cons_cons, List.map_cons, e, List.zip_cons_cons, if_neg q]
      · simp only [replO, if_neg q]
        exact .cons h o
      · rcases List.mem_append.mp ha with z | z
        · exact List.mem_append_left _ z
        · exact List.mem_append_right _ (sub a z)
theorem put_own {k : κ} {v : V} {y : OD} {ks : List κ} {vs : List V} {xs : List OD} {F : List Addr} (ny : Ow K mg P H [] v y) (hl : ks.length = vs.length) (t : OwL K mg P H F vs xs) (nd : F.Nodup) :
    ∃ vs' F', putK (ks.zip vs) k v = (putKs ks k).zip vs' ∧ (putKs ks k).length = vs'.length ∧ OwL K mg P H F' vs' (putXs ks xs k y) ∧ F'.Nodup ∧ ∀ a ∈ F', a ∈ F := by
  unfold putK putKs putXs
  rw [any_mem hl]
  by_cases q : k ∈ ks
  · simp only [q, decide_true, if_true]
    exact repl_own ny hl t nd
  · simp only [q, decide_false, if_false, Bool.false_eq_true]
    refine ⟨vs ++ [v], F, ?_, by simp [hl], ?_, nd, fun _ h => h⟩
    · rw [List.zip_append hl]; rfl
    · have := t.snoc ny
      rwa [List.append_nil] at this
theorem Ow.pur_nil {F : List Addr} {v : V} {d : PyData} (h : Ow K mg P H F v (.pur d)) : F = [] ∧ Ow K mg P H [] v (.pur d) := by
  cases h with
  | pur r => exact ⟨rfl, .pur r⟩
end

/-! ### the store -/
def rSetP : TSet := fun o i v H Q => rSetL o i v H Q ∨ (∃ a H', o = .ref a ∧ DPut H a i v H' ∧ Q H') ∨ ∃ a k b, o = .ref a ∧ H a = some (.dK []) ∧ i = .ref b ∧ H b = some (.tup (List.map kV k)) ∧ Q (upd H a (.dT [(k, v)]))
theorem set_P {X : Cx} (hu : X.A.units + 1 < cLine) : PSet X rSetP := by
  intro pins s σ H o i v ov iv u Q I ro ri rv h
  rcases h with h | ⟨a, H', rfl, g, q⟩ | ⟨a, k, b, rfl, ha, rfl, hb, q⟩
  · exact set_list pins s σ H o i v ov iv u Q I ro ri rv h
  · cases (show ov = Value.ref a from ro)
    exact d_setItem hu I g ri rv fun s' I' => ⟨H', I', q⟩
  · cases (show ov = Value.ref a from ro)
    obtain ⟨hd, o, es, ep, h1, h2, h3, h4, _, h5⟩ := empty_t I (.inl ha)
    have hab : b ≠ a := fun z => by rw [z, ha] at hb; cases hb
    have I1 : Inv X pins σ (upd H a (.dT [])) { s with heap := s.heap, toks := s.toks } := I.write (by rw [ha]; trivial) (.inl rfl) (fun _ _ _ e => e) ⟨o, h1⟩ ⟨Nat.zero_le _, hd, [], .nil, o, es, ep, h1, h2, h3, h4, h5⟩
    have g : DPut (upd H a (.dT [])) a (.ref b) v _ := DPut.t (kvs := []) upd_same (by rw [upd_ne hab]; exact hb) (by rw [sizeLine_eq]; decide)
    have eu : upd (upd H a (.dT [])) a (.dT (putK [] k v)) = upd H a (.dT [(k, v)]) := by
      funext c
      by_cases hc : c = a
      · subst hc; rw [upd_same, upd_same]; rfl
      · rw [upd_ne hc, upd_ne hc, upd_ne hc]
    rw [eu] at g
    exact d_setItem hu I1 g ri rv fun s' I' => ⟨_, I', q⟩
theorem Ow.keep_out {K : PySem.W.Frag} {mg : Str → Option Value} {P H : Hp} {F : List Addr} {a : Addr} {u : HO} {vs : List V} {xs : List OD} (h : OwL K mg P H F vs xs) (n : a ∉ F) : OwL K mg P (upd H a u) F vs xs :=
  h.keep (Same.refl _) fun b hb o e => by rw [upd_ne (fun (z : b = a) => n (z ▸ hb))]; exact e
theorem set_dK {K : PySem.W.Frag} {mg : Str → Option Value} {B : List Nat} {bv : Nat → V} {R P H : Hp} {Fs : Nat → List Addr} {σ : L2.St} {env : DEnv} {i : Nat} {ks : List Key} {xs : List OD} {k : Key} {d dy : PyData} {v w u : V} {G : List Addr} {Q : Hp → Prop}
    (S : Sta K mg B bv R P H Fs σ env) (hx : env[i]? = some (some (.dK ks xs))) (hu : σ[i]? = some (some u)) (rd : Rp K P w d) (o : Ow K mg P H G v (.pur dy)) (f : Free R P Fs G) (e1 : keyOfD d = some k) (hz : ks.length < 16777216)
    (q : ∀ H' Fs', Sta K mg B bv R P H' Fs' σ (env.set i (some (.dK (putKs ks k) (putXs ks xs k (.pur dy))))) → Q H') : rSetP u w v H Q := by
  obtain ⟨u1, h1, o1⟩ := S.slot i _ hx
  rw [hu] at h1
  cases h1
  obtain ⟨rfl, o'⟩ := o.pur_nil
  generalize hFi : Fs i = Fi at o1
  cases o1 with
  | @dK a F0 _ vs _ h hl t =>
    have nd := S.nd i
    rw [hFi] at nd
    obtain ⟨n1, n2⟩ := List.nodup_cons.mp nd
    obtain ⟨vs', F', p1, p2, p3, p4, p5⟩ := put_own (k := k) o' hl t n2
    have e3 := keyOfD_some e1
    subst e3
    refine .inr (.inl ⟨a, _, rfl, .inl ⟨_, k, h, rd.key, by rw [List.length_zip, sizeLine_eq]; omega, rfl⟩, ?_⟩)
    rw [p1]
    have na : a ∉ F' := fun z => n1 (p5 a z)
    exact q _ _ (S.mut hu (fun b hb => upd_ne fun z => hb (by rw [hFi, z]; exact List.mem_cons_self)) (.dK upd_same p2 (Ow.keep_out p3 na)) (List.nodup_cons.mpr ⟨na, p4⟩) fun b hb => by
      rcases List.mem_cons.mp hb with z | z
      · exact .inl (by rw [hFi, z]; exact List.mem_cons_self)
      · exact .inl (by rw [hFi]; exact List.mem_cons_of_mem _ (p5 b z)))
theorem set_d0 {K : PySem.W.Frag} {mg : Str → Option Value} {B : List Nat} {bv : Nat → V} {R P H : Hp} {Fs : Nat → List Addr} {σ : L2.St} {env : DEnv} {i : Nat} {ks : List Key} {xs : List OD} {d dy : PyData} {c' : OD} {v w u : V} {G : List Addr} {Q : Hp → Prop}
    (S : Sta K mg B bv R P H Fs σ env) (hx : env[i]? = some (some (.dK ks xs))) (hu : σ[i]? = some (some u)) (rd : Rp K P w d) (o : Ow K mg P H G v (.pur dy)) (f : Free R P Fs G) (e : tup0 ks d (.pur dy) = some c')
    (q : ∀ H' Fs', Sta K mg B bv R P H' Fs' σ (env.set i (some c')) → Q H') : rSetP u w v H Q := by
  obtain ⟨u1, h1, o1⟩ := S.slot i _ hx
  rw [hu] at h1
  cases h1
  obtain ⟨rfl, o'⟩ := o.pur_nil
  cases ks with
  | cons _ _ => cases e
  | nil =>
    cases d with
    | tuple es =>
      simp only [tup0] at e
      obtain ⟨k, e1, rfl⟩ := Option.map_eq_some_iff.mp e
      have e3 := keysOfD_some e1
      subst e3
      generalize hFi : Fs i = Fi at o1
      cases o1 with
      | @dK a F0 _ vs _ h hl t =>
        cases vs with
        | cons _ _ => simp at hl
        | nil =>
          cases t
          cases rd with
          | tup hs ht =>
            rw [ht.keys] at hs
            refine .inr (.inr ⟨a, k, _, rfl, h, rfl, S.ph _ _ hs, ?_⟩)
            refine q _ _ (S.mut hu (fun b hb => upd_ne fun z => hb (by rw [hFi, z]; exact List.mem_cons_self)) (.dT (ks := [k]) (vs := [v]) upd_same rfl (.cons (Ow.keep (Same.refl _) o' fun b hb => nomatch hb) .nil)) (by simp) fun b hb => ?_)
            simp at hb
            exact .inl (by rw [hFi, hb]; exact List.mem_cons_self)
    | _ => cases e
/-- a store at a slot's tree, the key and the value being there -/
theorem set_core {K : PySem.W.Frag} {mg : Str → Option Value} {B : List Nat} {bv : Nat → V} {R P H : Hp} {Fs : Nat → List Addr} {σ : L2.St} {env : DEnv} {i : Nat} {c y c' : OD} {d : PyData} {v w u : V} {G : List Addr} {Q : Hp → Prop}
    (S : Sta K mg B bv R P H Fs σ env) (hx : env[i]? = some (some c)) (hu : σ[i]? = some (some u)) (rd : Rp K P w d) (o : Ow K mg P H G v y) (f : Free R P Fs G) (e : setO c d y = some c')
    (q : ∀ H' Fs', Sta K mg B bv R P H' Fs' σ (env.set i (some c')) → Q H') : rSetP u w v H Q := by
  obtain ⟨u1, h1, o1⟩ := S.slot i c hx
  rw [hu] at h1
  cases h1
  cases c with
  | lst xs =>
    cases d with
    | int k =>
      cases rd
      simp only [setO] at e
      obtain ⟨j, e1, e2⟩ := Option.map_eq_some_iff.mp e
      subst e2
      obtain ⟨a, vs, F0, hu2, hF, hH, ol, nd, hl⟩ := at_lst S hx
      rw [hu] at hu2
      cases hu2
      obtain ⟨n1, n2⟩ := List.nodup_cons.mp nd
      have hj : j < xs.length := by
        have := ixN_seq (show ixN xs.length k = some j from e1)
        exact this.2.1
      obtain ⟨z, Fj, a1, a2, a3, a4, a5⟩ := ol.at_ n2 (List.getElem?_eq_getElem hj)
      obtain ⟨F2, b1, b2, b3⟩ := a5 P H G v y (Same.refl _) (fun _ _ _ _ e => e) o f.nd (fun b hb hF0 => absurd (show b ∈ Fs i by rw [hF]; exact List.mem_cons_of_mem _ hF0) (f.f b hb i))
      refine .inl ⟨a, vs, k, j, rfl, rfl, hH, by rw [hl]; exact e1, ?_⟩
      refine q _ _ (chg_lst (G := G) S hu hF b1 (List.nodup_cons.mpr ⟨fun z => ?_, b2⟩) (fun b hb => ?_) f)
      · rcases b3 a z with y1 | y1
        · exact n1 y1.1
        · exact f.f a y1 i (by rw [hF]; exact List.mem_cons_self)
      · rcases b3 b hb with y1 | y1
        · exact .inl y1.1
        · exact .inr y1
    | _ => cases e
  | dK ks xs =>
    cases y with
    | pur dy =>
      simp only [setO] at e
      split at e
      · rename_i hzz
        cases e
        have e := hzz
        obtain ⟨k, e1, e⟩ := Option.bind_eq_some_iff.mp e
        split at e
        · rename_i hz
          cases e
          exact set_dK S hx hu rd o f e1 hz q
        · cases e
      · exact set_d0 S hx hu rd o f e q
    | _ => cases e
  | dT ks xs =>
    cases y with
    | pur dy =>
      cases d with
      | tuple es =>
        simp only [setO] at e
        obtain ⟨k, e1, e⟩ := Option.bind_eq_some_iff.mp e
        split at e
        · rename_i hz
          cases e
          obtain ⟨rfl, o'⟩ := o.pur_nil
          generalize hFi : Fs i = Fi at o1
          cases o1 with
          | @dT a F0 _ vs _ h hl t =>
            have nd := S.nd i
            rw [hFi] at nd
            obtain ⟨n1, n2⟩ := List.nodup_cons.mp nd
            obtain ⟨vs', F', p1, p2, p3, p4, p5⟩ := put_own (k := k) o' hl t n2
            have e3 := keysOfD_some e1
            subst e3
            cases rd with
            | tup hs ht =>
              rw [ht.keys] at hs
              refine .inr (.inl ⟨a, _, rfl, .inr ⟨_, k, _, h, rfl, S.ph _ _ hs, by rw [List.length_zip, sizeLine_eq]; omega, rfl⟩, ?_⟩)
              rw [p1]
              have na : a ∉ F' := fun z => n1 (p5 a z)
              exact q _ _ (S.mut hu (fun b hb => upd_ne fun z => hb (by rw [hFi, z]; exact List.mem_cons_self)) (.dT upd_same p2 (Ow.keep_out p3 na)) (List.nodup_cons.mpr ⟨na, p4⟩) fun b hb => by
                rcases List.mem_cons.mp hb with z | z
                · exact .inl (by rw [hFi, z]; exact List.mem_cons_self)
                · exact .inl (by rw [hFi]; exact List.mem_cons_of_mem _ (p5 b z)))
        · cases e
      | _ => cases e
    | _ => cases e
  | _ => cases e
/-- slot[key] = value: the value first -/
def M.setI (i : Nat) (mv : M OD) (mk : M PyData) : M Flw := M.bind mv fun y => M.need (fun _ => true) i (M.bind mk fun d env => match (env[i]?).join.bind fun c => setO c d y with
  | some c' => .ok .nx (env.set i (some c'))
  | none => .no)
theorem join_some {env : DEnv} {i : Nat} {x : OD} (e : (env[i]?).join = some x) : env[i]? = some (some x) := by
  cases h : env[i]? with
  | none => rw [h] at e; cases e
  | some o => rw [h] at e; simp only [Option.join_some] at e; rw [e]
section
variable {X : Cx} {W : WX} {B : List Nat} {e k : Expr} {mo : M OD} {mk : M PyData} {x : Str} {p pos pos' : Pos}
theorem ExS.sub {K : PySem.W.Frag} {mg : Str → Option Value} {W : WX} {B : List Nat} {bv : Nat → V} {R R' P : Hp} {x : Xn} {e : DEnv} (s : Same R R') (hT : ∀ a ∈ TbA K, R a ≠ none) (h : ExS K mg W B bv R P x e) : ExS K mg W B bv R' P x e := fun cls dx σ' P' H' Fs' S s' q => h cls dx σ' P' H' Fs' (S.sub s hT) s' q
theorem sd_setI (i : Nat) (hu : X.A.units + 65 < cLine) (he : EO X W B e mo) (hk : ED X W B k mk) (hN : X.N[i]? = some x := by rfl) (hv : Vis X.env.scope x := by first | exact Or.inl rfl | exact Or.inr (Or.inl rfl) | exact Or.inr (Or.inr rfl)) (hd : (x == ("__debug__" : Str)) = false := by decide)
    (hcd : (x == ("__classdict__" : Str)) = false := by decide)
    (ha : ∀ v, assign (.Subscript (.Name x p) k pos') X.env v = (do
      let ov ← holding [v] (eval (.Name x p) X.env)
      let iv ← holding [v, ov] (eval k X.env)
      standAt pos'
      holding [v, ov, iv] (setItem ov iv v)
      release [v, ov, iv] []) := by intro _; rfl)
    (hs : swapsWithSole [.Subscript (.Name x p) k pos'] e pos.line X.env = pure false := by rfl) (hw : swappedStores [.Subscript (.Name x p) k pos'] e X.env = pure none := by rfl) :
    SD X W B (.Assign [.Subscript (.Name x p) k pos'] e pos) (M.setI i mo mk) :=
  PS_mono (ps_asg he (pg_sub (pe_var hN hv hd hcd) hk (set_P (by omega)) ha) hs hw) fun D σ H ⟨bv, R, P, Fs, env, S, q⟩ => tO_bindS (Same.refl _) S q fun y e1 v P1 H1 F1 G S1 s1 o1 f1 q1 => by
    obtain ⟨hn, q1⟩ := need_post q1
    obtain ⟨c0, hc0⟩ : ∃ y, e1[i]? = some (some y) := by
      unfold needO at hn
      split at hn
      · exact ⟨_, by assumption⟩
      · cases hn
    obtain ⟨u, hu1, _⟩ := S1.slot i c0 hc0
    refine ⟨u, hu1, ⟨bv, joinR R H1 G, P1, F1, e1, S1.push f1 o1.notup, bindD q1 (fun d e2 q2 w P2 H2 F2 S2 s2 rw => ?_) fun _ _ q => (ExS.mono s1 q).d.sub (joinR_frame S1 f1) S1.hasT⟩⟩
    split at q2
    · rename_i c' hc'
      obtain ⟨c, e3, e4⟩ := Option.bind_eq_some_iff.mp hc'
      have f2 : Free R P2 F2 G := by
        have z := Free.pop (H := H1) o1.there f1.nd (joinR_frame S1 f1) (fun a ha => joinR_in ha) f1.r S2 (Free.nil (R := joinR R H1 G))
        rwa [List.append_nil] at z
      exact set_core (S2.sub (joinR_frame S1 f1) S1.hasT) (join_some e3) hu1 rw (o1.keep s2 fun a ha o e => S2.rh a o (by rw [joinR_in ha]; exact e) (S1.nota (f1.r a ha))) f2 e4 fun H' Fs' S' => q2 σ P2 H' Fs' S' (s1.trans s2)
    · exact q2.elim
end
end DL

set_option maxHeartbeats 2000000
/-! DL16: built-in calls. -/
namespace DL
open PySem PySem.Spec PyProof.Rows L2

/-! ### a new own object -/
def CallO (K : PySem.W.Frag) (mg : Str → Option Value) (r : List V → Hp → VK → Prop) (f : List PyData → Option OD) : Prop :=
  ∀ (P H : Hp) (vs : List V) (ds : List PyData) (x : OD) (Q : VK), Same P H → RpA K P vs ds → f ds = some x → (∀ p H', H p = none → Ext P H P H' → Ow K mg P H' [p] (.ref p) x → Q (.ref p) H') → r vs H Q
def M.opO (f : List PyData → Option OD) (a : M (List PyData)) : M OD := M.bind a fun x => M.opt (f x)
section
variable {X : Cx} {W : WX} {B : List Nat} {e : Expr} {es : List Expr} {ml : M (List PyData)} {fo : List PyData → Option OD} {r : List V → Hp → VK → Prop} {x : Str} {p pos : Pos} {id T : String}
theorem tO_opO {σ : L2.St} {H : Hp} {Q : VK} (hf : CallO X.K X.mg r fo) (h : tO X.K X.mg W B (M.opO fo ml) σ H Q) : tCB r (tL X.K X.mg W B ml) σ H Q := by
  obtain ⟨bv, R, P, Fs, env, S, q⟩ := h
  refine tL_bind (Same.refl _) S q fun ds e1 vs P1 H1 F1 S1 s1 r1 q1 => ?_
  cases e : fo ds with
  | none => rw [e] at q1; exact q1.elim
  | some x =>
    rw [e] at q1
    exact hf P1 H1 vs ds x Q S1.ph r1 e fun a H' ha ex o => q1 _ P1 H' F1 [a] (S1.ext ex) s1 o (Free.one S1 ha)
theorem eo_callTy (hc : CallR X (.type T) r) (hf : CallO X.K X.mg r fo) (hg : Gl X x) (hm : X.mg x = none) (hv : bootBuiltins x = some (.type T)) (ha : AD X W B (e :: es) ml) (hn : x ≠ "__name__" := by decide) (hdb : (x == ("__debug__" : Str)) = false := by decide)
    (he : starEach (e :: es) X.env = (false, eval e X.env) :: starEach es X.env := by rfl) (hpl : (backTo pos (starEach es X.env)).any (·.1) = false := by rfl) : EO X W B (.Call (.Name x p) (e :: es) [] pos) (M.opO fo ml) :=
  PE_mono (pe_callTy hc hg hm hv ha hn hdb he hpl) fun _ _ _ h => tO_opO hf h
theorem eo_callB (hc : CallR X (.builtin id) r) (hf : CallO X.K X.mg r fo) (hg : Gl X x) (hm : X.mg x = none) (hv : bootBuiltins x = some (.builtin id)) (ha : AD X W B (e :: es) ml) (hn : x ≠ "__name__" := by decide) (hdb : (x == ("__debug__" : Str)) = false := by decide)
    (he : starEach (e :: es) X.env = (false, eval e X.env) :: starEach es X.env := by rfl) (hpl : (backTo pos (starEach es X.env)).any (·.1) = false := by rfl) : EO X W B (.Call (.Name x p) (e :: es) [] pos) (M.opO fo ml) :=
  PE_mono (pe_callB hc hg hm hv ha hn hdb he hpl) fun _ _ _ h => tO_opO hf h
/-! list(x), tuple(x) -/
def listO : List PyData → Option OD
  | [.list ds] => some (.lst (ds.map .pur))
  | [.tuple ds] => some (.lst (ds.map .pur))
  | _ => none
theorem new_lst {P H : Hp} {q : Addr} {ys : List V} {ds : List PyData} (ph : Same P H) (t : RpA X.K P ys ds) (hq : H q = none) : Ext P H P (upd H q (.lst ys)) ∧ Ow X.K X.mg P (upd H q (.lst ys)) [q] (.ref q) (.lst (ds.map .pur)) :=
  ⟨ext_heap ph _ hq, .lst upd_same (owl_pur t)⟩
theorem co_list : CallO X.K X.mg (fun xs H Q => ∃ p ys, xs = [.ref p] ∧ (SqL X.K H p ys ∨ SqT X.K H p ys) ∧ ∀ l, H l = none → Q (.ref l) (upd H l (.lst ys))) listO := by
  intro P H vs ds x Q ph rs ez k
  match vs, ds, rs with
  | _, _, .nil => cases ez
  | _, _, .cons r1 (.cons r2 t) => cases r1 <;> cases ez
  | _, _, .cons r1 .nil =>
    cases r1 with
    | lst h t => cases ez; exact ⟨_, _, rfl, .inl (.inl (rd_mono ph h)), fun l hl => k l _ hl (new_lst ph t hl).1 (new_lst ph t hl).2⟩
    | tup h t => cases ez; exact ⟨_, _, rfl, .inr (seqT_mono ph h), fun l hl => k l _ hl (new_lst ph t hl).1 (new_lst ph t hl).2⟩
    | _ => cases ez
/-! numbers -/
def absD : PyData → Option PyData
  | .int i => some (.int (if i < 0 then -i else i))
  | _ => none
theorem cd_abs : CallD X.K (fun xs H Q => ∃ i, xs = [.int i] ∧ Q (.int (if i < 0 then -i else i)) H) (one absD) := calld1 fun P H v d z Q ph r1 ez k => by
  cases r1 with
  | int i => cases ez; exact ⟨i, rfl, k _ P H (.refl ph) (.int _)⟩
  | _ => cases ez
def intD : PyData → Option PyData
  | .int i => some (.int i)
  | .bool b => some (.int (if b then 1 else 0))
  | _ => none
theorem cd_int : CallD X.K (fun xs H Q => (∃ i, xs = [.int i] ∧ Q (.int i) H) ∨ ∃ k, xs = [.bl k] ∧ Q (.int (if k then 1 else 0)) H) (one intD) := calld1 fun P H v d z Q ph r1 ez k => by
  cases r1 with
  | int i => cases ez; exact .inl ⟨i, rfl, k _ P H (.refl ph) (.int _)⟩
  | bl b => cases ez; exact .inr ⟨b, rfl, k _ P H (.refl ph) (.int _)⟩
  | _ => cases ez
def minD : PyData → PyData → Option PyData
  | .int i, .int j => some (.int (if j < i then j else i))
  | _, _ => none
def maxD : PyData → PyData → Option PyData
  | .int i, .int j => some (.int (if j > i then j else i))
  | _, _ => none
theorem cd_min : CallD X.K (fun xs H Q => ∃ i j, xs = [.int i, .int j] ∧ Q (.int (if j < i then j else i)) H) (two minD) := calld2 fun P H v w d e z Q ph r1 r2 ez k => by
  cases r1 with
  | int i => cases r2 with
    | int j => cases ez; exact ⟨i, j, rfl, k _ P H (.refl ph) (.int _)⟩
    | _ => cases ez
  | _ => cases ez
theorem cd_max : CallD X.K (fun xs H Q => ∃ i j, xs = [.int i, .int j] ∧ Q (.int (if j > i then j else i)) H) (two maxD) := calld2 fun P H v w d e z Q ph r1 r2 ez k => by
  cases r1 with
  | int i => cases r2 with
    | int j => cases ez; exact ⟨i, j, rfl, k _ P H (.refl ph) (.int _)⟩
    | _ => cases ez
  | _ => cases ez
/-! sums, any, all -/
def intsOf : List PyData → Option (List Int)
  | [] => some []
  | .int i :: r => (intsOf r).map (i :: ·)
  | _ => none
def blsOf : List PyData → Option (List Bool)
  | [] => some []
  | .bool i :: r => (blsOf r).map (i :: ·)
  | _ => none
theorem ints_rp {K : PySem.W.Frag} {P : Hp} : ∀ {vs : List V} {ds : List PyData} {ns : List Int}, RpA K P vs ds → intsOf ds = some ns → vs = ns.map V.int
  | _, _, _, .nil, e => by cases e; rfl
  | _, _, _, .cons h t, e => by
    cases h with
    | int i =>
      simp only [intsOf] at e
      obtain ⟨ns, e1, e2⟩ := Option.map_eq_some_iff.mp e
      subst e2
      rw [ints_rp t e1]; rfl
    | _ => cases e
theorem bls_rp {K : PySem.W.Frag} {P : Hp} : ∀ {vs : List V} {ds : List PyData} {ns : List Bool}, RpA K P vs ds → blsOf ds = some ns → vs = ns.map V.bl
  | _, _, _, .nil, e => by cases e; rfl
  | _, _, _, .cons h t, e => by
    cases h with
    | bl i =>
      simp only [blsOf] at e
      obtain ⟨ns, e1, e2⟩ := Option.map_eq_some_iff.mp e
      subst e2
      rw [bls_rp t e1]; rfl
    | _ => cases e
def sumD : PyData → Option PyData
  | .list ds => (intsOf ds).map fun ns => .int ns.sum
  | _ => none
/-! repr -/
def reprD (d : PyData) : Option PyData := if (d.showable && decide (d.depth ≤ 64)) && decide (d.shown.length ≤ 16777216) then some (.str d.shown) else none
def rRepr (K : PySem.W.Frag) : List V → Hp → VK → Prop := fun xs H Q => ∃ x P d, xs = [x] ∧ Same P H ∧ Rp K P x d ∧ d.showable = true ∧ d.depth ≤ 64 ∧ d.shown.length ≤ sizeLine ∧ Q (.str d.shown) H
theorem call_reprP (g : Gd X) (hu : X.A.units + 70 < cLine) : CallR X (.builtin "repr") (rRepr X.K) := by
  intro pins s σ H xs us Q I r ⟨x, P, d, e, ph, hd, hs, hdp, hz, q⟩
  subst e
  obtain ⟨u, rfl, ru⟩ := vals1 r
  obtain ⟨as, rd, ns⟩ := hd.reads g I ph u ru
  have fin : ∀ a, u = .ref a → wpAny (model X.prog X.w) X.A (call (.builtin "repr") [u]) (EP X pins σ Q) X.xe s := fun a e => by
    subst e
    exact repr_of_reads' rd hs (fun _ => ns) g.guards (by omega) (fun _ _ e => e) (fun h' u tk k => ⟨.str d.shown, H, I.kept (t' := tk) k, ⟨_, rfl⟩, q⟩) hz
  cases hd with
  | non => cases ru; exact PySem.P.repr_of_none ⟨.str _, H, I.tok _, ⟨_, rfl⟩, q⟩
  | bl b => cases ru; exact PySem.P.repr_of_bool ⟨.str _, H, I.tok _, ⟨_, rfl⟩, by cases b <;> exact q⟩
  | int i => obtain ⟨t, rfl⟩ := ru; exact PySem.P.repr_of_int (by simpa [PyData.showable] using hs) ⟨.str _, H, I.tok _, ⟨_, rfl⟩, q⟩
  | str x => obtain ⟨t, rfl⟩ := ru; exact PySem.P.repr_of_str ⟨.str _, H, I.tok _, ⟨_, rfl⟩, q⟩ hz
  | lst h t => exact fin _ ru
  | tup h t => exact fin _ ru
  | dK h hl t => exact fin _ ru
  | dT h hl hne t => exact fin _ ru
theorem cd_repr : CallD X.K (rRepr X.K) (one reprD) := calld1 fun P H v d z Q ph r1 ez k => by
  unfold reprD at ez
  split at ez
  · rename_i h
    simp only [Bool.and_eq_true, decide_eq_true_eq] at h
    cases ez
    exact ⟨v, P, d, rfl, ph, r1, h.1.1, h.1.2, by rw [sizeLine_eq]; exact h.2, k _ P H (.refl ph) (.str _)⟩
  · cases ez
end
end DL

set_option maxHeartbeats 2000000
/-! DL17: enumerate over a tuple. -/
namespace DL
open PySem PySem.Spec PyProof.Rows L2

theorem new_enumB {v : Value} {o : Obj} {H : Heap → Prop} (B : Begins v o H) :
    Meets (Builtin.«enumerate.__new__» ⟨[.type "enumerate", v], []⟩) (fun _ R s => H s.heap ∧ R (.ok (.ret (.ref (s.heap.push o).objs.size))) { s with heap := (s.heap.push o).push { cls := .type "enumerate", data := .fields #[.none, .bool false, .ref s.heap.objs.size, rawInt 0, .none, .none] } }) := .of_wp fun prog w A R s h => by
  obtain ⟨hp, g, d, tk, os⟩ := s
  obtain ⟨h1, h⟩ := h
  have hsub := sub_enumerate
  have q1 : ∀ {A' : Around} {E : Value → Shared → Prop} {Q : Value → Shared → Prop}, Q (.ref hp.objs.size) ⟨hp.push o, g, d, tk, os⟩ → wpAny (model prog w) A' (pyIter v) Q E ⟨hp, g, d, tk, os⟩ := fun q => B.iter prog w _ _ ⟨hp, g, d, tk, os⟩ _ h1 q
  wp_walk using q1
  refine wpAny_stack_any fun st => wpAny_pure ?_
  split
  · rename_i c _ _ _ _ _
    cases (c == Value.type "enumerate") <;> (wp_walk using q1; exact ⟨_, rfl, h⟩)
  · wp_walk using q1
    exact ⟨_, rfl, h⟩
theorem call_enumB {prog : Program} {w : World} {A : Around} {E : Value → Shared → Prop} {s : Shared} {v : Value} {o : Obj} {H : Heap → Prop} {Q : Value → Shared → Prop} (B : Begins v o H) (h1 : H s.heap)
    (h : ∀ h', IsEnum h' (s.heap.objs.size + 1) s.heap.objs.size 0 .none → h'.get? s.heap.objs.size = some o → h'.objs.size = s.heap.objs.size + 2 → (∀ b o, s.heap.get? b = some o → h'.get? b = some o) → Q (.ref (s.heap.objs.size + 1)) { s with heap := h' }) :
    wpAny (model prog w) A (call (.type "enumerate") [v]) Q E s := by
  have hz : (s.heap.push o).objs.size = s.heap.objs.size + 1 := Heap.size_push ..
  refine callType_new F.called_enumerate (by decide) (F.typeCall_enumerate_1 _) (F.newCall_enumerate_1 _) (fun obj => F.args_object_init_2 obj _) F.entry_enumerate_new (new_enumB B) ⟨h1, ?_⟩
  show _ ∧ _
  have he := Heap.get?_push_size (s.heap.push o) (o := { cls := .type "enumerate", data := .fields #[.none, .bool false, .ref s.heap.objs.size, rawInt 0, .none, .none] }) rfl
  rw [hz] at he ⊢
  exact ⟨⟨_, he, rfl⟩, h _ he (Heap.get?_push_of_some _ (Heap.get?_push_size _ B.free)) (by rw [Heap.size_push, hz]) fun b o x => Heap.get?_push_of_some _ (Heap.get?_push_of_some _ x)⟩
/-- the tuple at t, each item in a new pair -/
def ItT (t : Addr) : It := ⟨fun i H => ∃ (xs : List V) (x : V), H t = some (.tup xs) ∧ xs[i]? = some x, fun i H v H' => ∃ T x, v = .ref T ∧ H T = none ∧ H' = upd H T (.tup [.int (i : Nat), x]) ∧ ∀ xs, H t = some (.tup xs) → xs[i]? = some x, fun i H => ∃ xs : List V, H t = some (.tup xs) ∧ xs.length = i⟩
theorem turn_enumT {P : Program} {w : World} {K : PySem.W.Frag} {elts : List Expr} {kk : Nat} {tpos : Pos} (t e it : Addr) : Turn P w K (.Tuple elts kk tpos) (ItT t) [e, it] e (fun i h => (∃ old, IsEnum h e it ((i : Nat) : Int) old) ∧ h.IsTupleIter it t i ∧ e ≠ it) where
  mem := List.mem_cons_self
  obj := fun i h ⟨⟨old, he⟩, ⟨o, ho, hc, hd⟩, _⟩ b hb => by
    rcases List.mem_cons.mp hb with z | hb
    · subst z; exact ⟨_, he, fun v q => nomatch q⟩
    · have z : b = it := by simpa using hb
      subst z; exact ⟨o, ho, fun v q => by rw [hd] at q; cases q⟩
  keep := fun i h h' ⟨⟨old, he⟩, hi, hne⟩ k => ⟨⟨old, k e (by simp) _ he⟩, hi.at fun o q => k it (by simp) o q, hne⟩
  item := fun X hP hw hK hc i pins s σ H E I hf ⟨⟨old, he⟩, hit, hne⟩ ⟨xs, x, hq, hx⟩ => by
    subst hP hw hK
    obtain ⟨hz, its, rv, p⟩ := I.hok t _ hq
    obtain ⟨u, hu, ru⟩ := rv.get hx
    have hel : e < s.heap.objs.size := Heap.lt_size he
    have hil : it < s.heap.objs.size := by obtain ⟨_, q, _⟩ := hit; exact Heap.lt_size q
    have nt : ∀ b ∈ [e, it], t ≠ b := fun b hb z => by have y := (hf b hb).1; rw [← z, hq] at y; cases y
    have D := Draws.tuple (prog := X.prog) (w := X.w) (A := X.A.in1) (show X.A.in1.handled = none from I.ok.hd hc) it t (nt it (by simp)) its.toArray
    have hlt : i < its.toArray.size := by
      have := (List.getElem?_eq_some_iff.mp hu).1
      simpa using this
    refine wpAny_pyNext_enum_itemD D he ⟨hit, p⟩ hlt hne (fun z => by
      rcases List.mem_cons.mp z with z | z
      · exact hne z
      · exact nt e (by simp) (by simpa using z : e = t).symm) fun x' h' tk hP' ho hit' hT hsz hk => ?_
    have ex : x' = u := by
      have z : its.toArray[i]? = some x' := hP'
      have : its[i]? = some x' := by simpa using z
      rw [hu] at this; cases this; rfl
    subst ex
    refine ⟨_, rfl, wpAny_letOwnedTupleGo_enum (s := { s with heap := h', toks := tk + 1 }) ho fun h'' he' sb => ?_⟩
    have hT2 : h''.get? s.heap.objs.size = some { cls := .type "tuple", data := .seq #[.int i tk, x'] } := (sb.2 _ (Nat.ne_of_gt hel)).trans hT
    have I1 : Inv X pins σ (upd H s.heap.objs.size (.tup [.int (i : Nat), x])) { s with heap := h'', toks := tk + 1 } :=
      I.turnedNew (ch := [e, it]) (fun b ob hb q => (sb.2 b (fun z => hb (by simp [z]))).trans (hk b ob (fun z => hb (by simp [z])) (fun z => hb (by simp [z])) q)) hf (Nat.le_refl _) ⟨by show 2 ≤ sizeLine; decide, [.int i tk, x'], .cons ⟨_, rfl⟩ (.cons ru .nil), ⟨_, hT2, rfl, _, rfl⟩⟩
    refine ⟨.ref s.heap.objs.size, _, I1, rfl, ⟨_, x, rfl, I.hok.fresh (Nat.le_refl _), rfl, fun ys hy => by rw [hq] at hy; cases hy; exact hx⟩, ⟨⟨x', by rw [show ((i + 1 : Nat) : Int) = (i : Int) + 1 by omega]; exact he'⟩, hit'.1.at fun o q => (sb.2 it (Ne.symm hne)).trans q, hne⟩, fun b hb => ?_⟩
    have hb' : b < s.heap.objs.size := by
      rcases List.mem_cons.mp hb with z | z
      · rw [z]; exact hel
      · rw [show b = it by simpa using z]; exact hil
    rw [upd_ne (Nat.ne_of_lt hb')]
    exact (hf b hb).1
  done := fun X hP hw hK hc i pins s σ H E I hf ⟨⟨old, he⟩, hit, hne⟩ ⟨xs, hq, hx⟩ => by
    subst hP hw hK
    obtain ⟨hz, its, rv, p⟩ := I.hok t _ hq
    obtain ⟨f0, f1, f2, f3, f4, f5⟩ := hf it (by simp)
    have hl := rv.length
    have nt : t ≠ it := fun z => by rw [← z, hq] at f0; cases f0
    have D := Draws.tuple (prog := X.prog) (w := X.w) (A := X.A.in1) (show X.A.in1.handled = none from I.ok.hd hc) it t nt its.toArray
    have hn : i = its.toArray.size := by simp; omega
    subst hn
    exact wpAny_pyNext_enum_endD D he ⟨hit, p⟩ fun h' eb => ⟨rfl, I.turned (t' := s.toks) (fun b o hb q => eb b o hb q) f0 f1 f3 f4 f5⟩
  self := fun A i s Q E ⟨⟨_, he⟩, _⟩ h => wpAny_pyIter_enum he h
theorem fd_enumT {K : PySem.W.Frag} {P : Hp} {a : Addr} {xs : List V} {ds : List PyData} (h : P a = some (.tup xs)) (t : RpA K P xs ds) : Fd K P (ItT a) (enumL ds) := fun P1 H1 s1 s2 => by
  have hq : H1 a = some (.tup xs) := s2 _ _ (s1 _ _ h)
  refine ⟨fun i d e => ?_, ⟨xs, hq, by unfold enumL; rw [List.length_mapIdx, t.length]⟩⟩
  unfold enumL at e
  rw [List.getElem?_mapIdx] at e
  obtain ⟨d', hd, e⟩ := Option.map_eq_some_iff.mp e
  subst e
  obtain ⟨v, h1, h2⟩ := t.getD hd
  refine ⟨⟨xs, v, hq, h1⟩, fun x H2 y => ?_⟩
  obtain ⟨T, x', e1, hT, e2, y⟩ := y
  subst e1
  subst e2
  have z := y xs hq
  rw [h1] at z
  cases z
  have ex := ext_new s2 (.tup [.int (i : Nat), v]) hT
  exact ⟨_, ex, .tup upd_same (.cons (.int _) (.cons (h2.mono (s1.trans ex.pp)) .nil))⟩
def enumA : List PyData → Option (List PyData)
  | [.list ds] => some (enumL ds)
  | [.tuple ds] => some (enumL ds)
  | _ => none
def iEnumA (K : PySem.W.Frag) (ta : TA) : TI := fun σ H R => ta σ H fun vs H1 => ∃ a, vs = [.ref a] ∧ ((∃ xs, SqL K H1 a xs ∧ R (Ite K a) H1) ∨ ∃ xs, H1 a = some (.tup xs) ∧ R (ItT a) H1)
theorem pi_enumA {X : Cx} {e : Expr} {ta : TA} {p pos tpos : Pos} {elts : List Expr} {kk : Nat} (hg : Gl X "enumerate") (hm : X.mg "enumerate" = none) (ha : PA X [e] ta) (hs : starEach [e] X.env = [(false, eval e X.env)] := by rfl) :
    PI X (.Tuple elts kk tpos) (.Call (.Name "enumerate" p) [e] [] pos) (iEnumA X.K ta) := ⟨fun pins s σ H R I h => by
  refine Call_ (ld_blt I hg hm boot_enumerate (PyProof.Rows.callWith_type1 (thn (ha.run pos pins s σ H _ I h) fun us s1 ⟨vs, H1, I1, r1, a, ex, q1⟩ => ?_) hs rfl))
  subst ex
  rw [Vals.ref1 r1]
  have hfp : ∀ b ∈ [s1.heap.objs.size + 1, s1.heap.objs.size], s1.heap.objs.size ≤ b := fun b hb => by
    rcases List.mem_cons.mp hb with z | z
    · omega
    · have : b = s1.heap.objs.size := by simpa using z
      omega
  rcases q1 with ⟨xs, hq, q⟩ | ⟨xs, hq, q⟩
  · obtain ⟨its, rv, p', hz⟩ := I1.list hq
    exact call_enumerate_list p'.isList fun h' he hit hsz hk => wpAny_pyIter_enum he ⟨s1.heap.objs.size + 1, [s1.heap.objs.size + 1, s1.heap.objs.size], _, _, H1, rfl, I1.kept (t' := s1.toks) hk, turn_enum a _ s1.heap.objs.size, ⟨⟨.none, he⟩, hit, Nat.succ_ne_self _⟩, fun b hb => I1.fpOk (hfp b hb) (I1.hok.fresh (hfp b hb)), q⟩
  · obtain ⟨hz, its, rv, p'⟩ := I1.hok a _ hq
    exact call_enumB (begins_tuple a its.toArray) p' fun h' he hit hsz hk => wpAny_pyIter_enum he ⟨s1.heap.objs.size + 1, [s1.heap.objs.size + 1, s1.heap.objs.size], _, _, H1, rfl, I1.kept (t' := s1.toks) hk, turn_enumT a _ s1.heap.objs.size, ⟨⟨.none, he⟩, ⟨_, hit, rfl, rfl⟩, Nat.succ_ne_self _⟩, fun b hb => I1.fpOk (hfp b hb) (I1.hok.fresh (hfp b hb)), q⟩⟩
theorem id_enumA {X : Cx} {W : WX} {B : List Nat} {e : Expr} {ml : M (List PyData)} {p pos tpos : Pos} {elts : List Expr} {kk : Nat} (hg : Gl X "enumerate") (hm : X.mg "enumerate" = none) (ha : AD X W B [e] ml) (hs : starEach [e] X.env = [(false, eval e X.env)] := by rfl) :
    ID X W B (.Tuple elts kk tpos) (.Call (.Name "enumerate" p) [e] [] pos) (M.iter enumA ml) :=
  PI_mono (pi_enumA hg hm ha hs) fun σ H Q h => tI_opt (r := fun vs H1 Q => ∃ a, vs = [.ref a] ∧ ((∃ xs, SqL X.K H1 a xs ∧ Q (Ite X.K a) H1) ∨ ∃ xs, H1 a = some (.tup xs) ∧ Q (ItT a) H1)) (fun P H vs ds l Q ph r er k => by
    match ds, vs, r, er with
    | [.list ds], _, .cons h .nil, er =>
      cases er
      cases h with
      | lst h t => exact ⟨_, rfl, .inl ⟨_, .inl (rd_mono ph h), k _ (fd_enum h t)⟩⟩
    | [.tuple ds], _, .cons h .nil, er =>
      cases er
      cases h with
      | tup h t => exact ⟨_, rfl, .inr ⟨_, ph _ _ h, k _ (fd_enumT h t)⟩⟩) h
end DL

set_option maxHeartbeats 2000000
/-! DL18: defs by name; recursion; the head's facts. -/
namespace DL
open PySem PySem.Spec PyProof.Rows L2

/-- a def of the module: what it does with its arguments -/
def DefK (P : Program) (w : World) (K : PySem.W.Frag) (mg : Str → Option Value) (base : Heap) (k : Nat) (x : Str) (ps : List Str) (B : List Nat) (m : M OD) (kb : List (List Str × Nat × List Nat)) : Prop :=
  ∃ f fd, mg x = some (.ref f) ∧ FnG P w K mg base k f fd ps B m ∧ Binds K fd ps [] ∧ PySem.W.keepIn K (.ref f) = true ∧ ∀ q ∈ kb, KB K fd ps q.1 q.2.1 q.2.2
theorem DefK.mono {P : Program} {w : World} {K : PySem.W.Frag} {mg : Str → Option Value} {base : Heap} {j k : Nat} {x : Str} {ps : List Str} {B : List Nat} {m : M OD} {kb : List (List Str × Nat × List Nat)} (D : DefK P w K mg base j x ps B m kb) (h : j ≤ k) : DefK P w K mg base k x ps B m kb :=
  let ⟨f, fd, h1, h2, h3⟩ := D
  ⟨f, fd, h1, h2.mono h, h3⟩
theorem u65 {k : Nat} {A : Around} (r : Room k A) : A.units + 65 < cLine := by have := r.un; omega
theorem u70 {k : Nat} {A : Around} (r : Room k A) : A.units + 70 < cLine := by have := r.un; omega
theorem Gd.blk {X : Cx} {s : Shared} {H : Hp} {scope : Scope} {C : Addr} {cl : List (Str × Addr)} {fp : List Addr} (g : Gd X) : Gd (BX X s H scope C cl fp) := ⟨g.guards, g.sys⟩
theorem takesW0 {X : Cx} : Takes X W0 := takes0
theorem takesF {P : Program} {w : World} {K : PySem.W.Frag} {mg : Str → Option Value} {base : Heap} {N : List Str} {qual : Str} {scope : Scope} {f : Addr} {cd : Value} {A : Around} {outer : List Env} {s : Shared} {H : Hp} {E : XK} (hf : (envOfC qual scope s.heap.objs.size f cd).frame = some (envOfC qual scope s.heap.objs.size f cd).locals) :
    Takes (CxF P w K mg base N qual scope f cd A outer s H E) (WF E) := takes_of (E := E) rfl hf rfl rfl
theorem passF {P : Program} {w : World} {K : PySem.W.Frag} {mg : Str → Option Value} {base : Heap} {N : List Str} {qual : Str} {scope : Scope} {f : Addr} {cd : Value} {A : Around} {outer : List Env} {s : Shared} {H : Hp} {E : XK} :
    PassesOwn (model P w) (CxF P w K mg base N qual scope f cd A outer s H E).A (CxF P w K mg base N qual scope f cd A outer s H E).env (CxF P w K mg base N qual scope f cd A outer s H E).xe := PassesOwn.leaving
section
variable {X : Cx} {W : WX} {B Bc : List Nat} {j k : Nat} {ps : List Str} {m : M OD} {ml mk : M (List AV)} {x : Str} {p pos : Pos} {e : Expr} {es : List Expr} {kws : List Keyword} {kb : List (List Str × Nat × List Nat)}
theorem eo_def (D : DefK X.prog X.w X.K X.mg X.base j x ps Bc m kb) (g : Gd X) (hr : Room k X.A) (tk : Takes X W) (ha : AA X W B (e :: es) ml) (hjk : j ≤ k := by decide) (hg : Gl X x := by rfl)
    (hdb : (x == ("__debug__" : Str)) = false := by decide) (he : starEach (e :: es) X.env = (false, eval e X.env) :: starEach es X.env := by rfl) (hpl : (backTo pos (starEach es X.env)).any (·.1) = false := by rfl) :
    EO X W B (.Call (.Name x p) (e :: es) [] pos) (M.call m ml) :=
  let ⟨f, fd, h1, h2, h3, h4, h5⟩ := D
  eo_call g (h2.mono hjk) hr tk hg h1 h4 h3 ha hdb he hpl
theorem ed_gint {z : Int} (h : ∃ t, X.mg x = some (.int z t)) (hg : Gl X x := by rfl) (hd : (x == ("__debug__" : Str)) = false := by decide) : ED X W B (.Name x pos) (M.pure (.int z)) := let ⟨t, h⟩ := h; ed_glob hg h (v := .int z) ⟨t, rfl⟩ (.int z) hd
end
/-! ### nothing is promised: the bottom of a recursion -/
/-! ### facts -/
structure Cn (fa : List He.Fa) (fn : List He.DefD) (K : PySem.W.Frag) (mg : Str → Option Value) (base : Heap) : Prop where
  kin : K.In base
  ns : base.Ns mainGlobals mg
  says : He.SaysD fa fn K
section
variable {fa : List He.Fa} {fn : List He.DefD} {K : PySem.W.Frag} {mg : Str → Option Value} {base : Heap}
theorem Cn.free (C : Cn fa fn K mg base) (i : Nat) {x : Str} (h : fa[i]? = some (.free x) := by rfl) : mg x = none := He.free_ok C.kin C.ns (C.says.fact i h)
theorem Cn.glo (C : Cn fa fn K mg base) (i : Nat) {x : Str} (h : fa[i]? = some (.glo x) := by rfl) : mg x = some (.ref (He.ga K x)) := He.glo_ok C.kin C.ns (C.says.fact i h)
theorem Cn.str (C : Cn fa fn K mg base) (i : Nat) {x z : Str} (h : fa[i]? = some (.str x z) := by rfl) : ∃ t, mg x = some (.str z t) := He.str_ok C.kin C.ns (C.says.fact i h)
theorem Cn.int (C : Cn fa fn K mg base) (i : Nat) {x : Str} {z : Int} (h : fa[i]? = some (.int x z) := by rfl) : ∃ t, mg x = some (.int z t) := He.int_ok C.kin C.ns (C.says.fact i h)
end
end DL

set_option maxHeartbeats 2000000
/-! DL19: the head with sys.modules; the law's end. -/
namespace DL
open PySem PySem.Spec PyProof.Rows L2

theorem mem_lk {β : Type} {a : Nat} {b : β} : ∀ {l : List (Nat × β)}, l.lookup a = some b → (a, b) ∈ l
  | [], h => nomatch (show (none : Option β) = some b from h)
  | (c, d) :: l, h => by
    rw [List.lookup_cons] at h
    by_cases e : a = c
    · subst e
      simp at h
      subst h
      exact List.mem_cons_self
    · have e2 : (a == c) = false := by simpa using e
      rw [e2] at h
      exact List.mem_cons_of_mem _ (mem_lk h)
def noList (p : Addr × Obj) : Bool := match p.2.cls with
  | .type n => !decide (n = "list")
  | .none => false
  | _ => true
/-- what the walk keeps of the top: no list among it -/
def frS (n : Nat) (g : Addr → Option Obj) : PySem.W.Frag := (He.frG g (sysModules :: He.asD g n)).filter noList
theorem frS_mem {n : Nat} {g : Addr → Option Obj} {p : Addr × Obj} (h : p ∈ frS n g) : g p.1 = some p.2 ∧ noList p = true := by
  obtain ⟨h1, h2⟩ := List.mem_filter.mp h
  obtain ⟨a, _, e⟩ := List.mem_filterMap.mp h1
  obtain ⟨o, ho, e⟩ := Option.map_eq_some_iff.mp e
  subst e
  exact ⟨ho, h2⟩
theorem frS_in {n : Nat} {h : Heap} : (frS n h.get?).In h := fun a o e => (frS_mem (p := (a, o)) (mem_lk e)).1
abbrev AlS : Type := He.AlD × Bool
/-- the module's tuples -/
abbrev Tbs : Type := List (Str × List He.Dv)
/-- the module "builtins" lies as a maker of functions wants it -/
def bltB (K : PySem.W.Frag) (P : Addr) : Bool := match PySem.W.nsIn K mainGlobals "__builtins__" with
  | some (some (.ref bm)) => decide (bm ≠ builtinsNs) && decide (bm ≠ mainGlobals) && decide (bm ≠ P) && (match K.lookup bm with
    | some ⟨.type n, some d, .plain, _⟩ => decide (n = "module") && decide (d = builtinsNs)
    | _ => false)
  | _ => false
/-- the code object of a function may make lambdas -/
def lamOk (K : PySem.W.Frag) (o : Obj) : Bool := match o.data with
  | .func fd => (match fd.code with
    | .ref c => (match K.lookup c with
      | some oc => (match tabOf oc with
        | some (P, q) => PySem.W.codeHdIn K c P && decide (mainGlobals ≠ P) && bltB K P && (tabsOf K).all (fun r => decide (r.1 ≠ P) || decide (r.2 = q))
        | none => false)
      | none => true)
    | _ => true)
  | _ => true
def codesOk (K : PySem.W.Frag) : Bool := K.all fun p => lamOk K p.2
/-- what isinstance asks of an own class of refusals -/
def excCB (K : PySem.W.Frag) (D : Addr) : Bool := decide (PySem.W.findIn K (.ref D) "__getattribute__" = some (some (.builtin "BaseException.__getattribute__"))) && (decide (PySem.W.findIn K (.ref D) "__getattr__" = some none) && (decide (PySem.W.subIn K (.ref D) (.type "BaseException") = some true) && (PySem.W.hasDictIn K D &&
  (decide (PySem.W.findIn K (.ref D) "__class__" = some (some (.builtin "object.__class__"))) && (decide (PySem.W.specialIn K (.builtin "object.__class__") "__get__" = some (some (.builtin "getset_descriptor.__get__"))) && (decide (PySem.W.takesIn K (.builtin "object.__class__") = some true) && decide (PySem.W.mroIn K D (.type "object") = some true)))))))
/-- a class, named by a fact -/
def dvC (K : PySem.W.Frag) : He.Dv → Value
  | .str d => .ref (He.ga K d)
  | .ty n => .type n
  | _ => .none
/-- own classes, then the built-in ones t -/
def tailX (t : List Value) : List Value → Bool
  | .ref _ :: r => tailX t r
  | l => l == t
def keTail : List Value := [.type "KeyError", .type "LookupError", .type "Exception", .type "BaseException", .type "object"]
/-- what makes an own class of refusals' instances, and over which built-in classes it stands -/
def overX (nn : String) (bm : List Value) : Bool := (decide (nn = "ValueError.__new__") && tailX PySem.HandSPX.veTail bm) || (decide (nn = "LookupError.__new__") && tailX keTail bm)
/-- an own class of refusals with an __init__ of its own, that lies as its maker wants it -/
def oexB (K : PySem.W.Frag) (C : Addr) : Bool := (match K.lookup C with
    | some ⟨.type t, _, .cls cd, sl⟩ => (match cd.mro, sl.toList with
      | .ref B :: bm, [_, _, _, _, some (.builtin nn), _] => decide (t = "type") && decide (B = C) && (!cd.hasDel && cd.hasDict && overX nn bm)
      | _, _ => false)
    | _ => false) && (decide (PySem.W.findIn K (.ref C) "__setattr__" = some (some (.builtin "object.__setattr__"))) && (decide (PySem.W.subIn K (.ref C) (.type "BaseException") = some true) && (decide (PySem.W.typeIn K (.ref C) = some (.type "type")) && PySem.W.keepIn K (.ref C))))
/-- an own class of refusals over ValueError without an __init__ of its own -/
def oex0B (K : PySem.W.Frag) (C : Addr) : Bool := PySem.W.excIn K C PySem.HandSPX.veTail "ValueError.__new__" && PySem.W.keepIn K (.ref C)
/-- a whole table: what isinstance tells of each of the classes -/
def pairsB (K : PySem.W.Frag) (d : He.Dv) : List He.Dv → Bool
  | [] => true
  | .str c :: .bl b :: ds => (excCB K (He.ga K c) && decide (PySem.W.kitAny K (.ref (He.ga K c)) [dvC K d] = some b)) && pairsB K d ds
  | _ => false
/-- an empty tuple lies there (a def's default) -/
def emptyTB (K : PySem.W.Frag) (a : Addr) : Bool := match K.lookup a with
  | some ⟨.type c, _, .seq its _, _⟩ => decide (c = "tuple") && its.isEmpty
  | _ => false
/-- facts about classes of refusals: what isinstance wants of one; what isinstance tells; what a clause of these classes takes -/
def xtB (K : PySem.W.Frag) : List He.Dv → Bool
  | [.str c] => excCB K (He.ga K c)
  | .bl _ :: .int _ :: d :: ds => pairsB K d ds
  | .bl b :: .str c :: ds => decide (PySem.W.kitAny K (.ref (He.ga K c)) (ds.map (dvC K)) = some b)
  | [.non, .str c] => oexB K (He.ga K c)
  | [.non, .non, .str c] => oex0B K (He.ga K c)
  | [.adr f] => emptyTB K (f K)
  | .int _ :: .bl b :: .str c :: ds => decide (PySem.W.exmAny K (.ref (He.ga K c)) (ds.map (dvC K)) = some b)
  | _ => false
/-- the module's tuples; "<lambda>" among the names: its functions may make lambdas; "<x>": facts about classes of refusals -/
def tbsOk (tb : Tbs) (K : PySem.W.Frag) : Bool := tb.all fun p => if p.1 == "<lambda>" then codesOk K else if p.1 == "<x>" then xtB K p.2 else He.tupB K p.1 p.2 && decide (PySem.W.nsIn K mainGlobals p.1 = some (some (.ref (He.ga K p.1))))
/-- the tables of the code objects are empty -/
def isEmptyTab (o : Option Obj) : Bool := match o with
  | some ⟨.none, none, .fields vs, sl⟩ => vs.isEmpty && sl.isEmpty
  | _ => false
def tabsEmpty (K : PySem.W.Frag) (g : Addr → Option Obj) : Bool := (tabsOf K).all fun p => isEmptyTab (g p.1)
theorem isEmptyTab_eq {o : Option Obj} (h : isEmptyTab o = true) : o = some { cls := .none, data := .fields #[] } := by
  unfold isEmptyTab at h
  split at h
  · rename_i vs sl
    simp only [Bool.and_eq_true, Array.isEmpty_iff] at h
    obtain ⟨rfl, rfl⟩ := h
    rfl
  · cases h
def obsS (n : Nat) (fa : List He.Fa) (fn : List He.DefD) (tb : Tbs) (g : Addr → Option Obj) : AlS := (He.obsD fa fn (frS n g), ((frS n g).lookup sysModules).isSome && tbsOk tb (frS n g) && tabsEmpty (frS n g) g)
def hookS (n : Nat) (fa : List He.Fa) (fn : List He.DefD) (tb : Tbs) : PySem.W.Hook where
  α := AlS
  obs := fun s => obsS n fa fn tb s.heap.get?
  val := fun _ => (He.valD fn, true)
  says := fun _ h => ∃ K : PySem.W.Frag, K.In h ∧ (He.SaysD fa fn K ∧ tbsOk tb K = true) ∧ (∃ o, K.lookup sysModules = some o) ∧ (∀ p ∈ K, noList p = true) ∧ (∀ p ∈ tabsOf K, h.get? p.1 = some { cls := .none, data := .fields #[] }) ∧ ∀ p ∈ K, h.get? p.1 = some p.2
  of := fun _ s e => by
    obtain ⟨e0, e3⟩ := Bool.and_eq_true_iff.mp (congrArg Prod.snd e : (((frS n s.heap.get?).lookup sysModules).isSome && tbsOk tb (frS n s.heap.get?) && tabsEmpty (frS n s.heap.get?) s.heap.get?) = true)
    obtain ⟨e1, e2⟩ := Bool.and_eq_true_iff.mp e0
    exact ⟨frS n s.heap.get?, frS_in, ⟨congrArg Prod.fst e, e2⟩, Option.isSome_iff_exists.mp e1, fun p hp => (frS_mem hp).2, fun p hp => isEmptyTab_eq (List.all_eq_true.mp e3 p hp), fun p hp => (frS_mem hp).1⟩
  keeps := fun _ _ _ ⟨K, hK, c1, c2, c3, c4, c5⟩ k => ⟨K, PySem.W.Frag.In.keeps hK k, c1, c2, c3, fun p hp => k _ _ (c4 p hp), fun p hp => k _ _ (c5 p hp)⟩
theorem obsS_eq {n : Nat} {fa : List He.Fa} {fn : List He.DefD} {tb : Tbs} {g : Addr → Option Obj} {s : Shared} (h : ∀ a, g a = s.heap.get? a) : (obsS n fa fn tb g : (hookS n fa fn tb).α) = (hookS n fa fn tb).obs s := by
  have e : g = s.heap.get? := funext h
  rw [e] <;> rfl

theorem tab_code {K : PySem.W.Frag} {h : Heap} (all : ∀ p ∈ K, h.get? p.1 = some p.2) {b : Addr} (hb : b ∈ TbA K) : isCodeTable h b := by
  obtain ⟨p, hp, rfl⟩ := List.mem_map.mp hb
  obtain ⟨⟨c, o⟩, hc, e⟩ := List.mem_filterMap.mp hp
  simp only [tabOf] at e
  split at e
  · rename_i hcls
    split at e
    · rename_i vs hd
      split at e
      · rename_i q t a h1 h2
        cases e
        exact ⟨c, o, vs, all _ hc, hcls, hd, h2⟩
      · cases e
    · cases e
  · cases e
/-- the law, called by the row with the script: what its mirror tells of every script is True -/
theorem call_law {P : Program} {w : World} {K : PySem.W.Frag} {mg mb : Str → Option Value} {k : Nat} {fa a : Addr} {fd : FuncData} {x : Str} {m : M OD} {s₁ : Shared} {vs : List Value} {ns : List Int}
    (KX : K.In s₁.heap) (hsy : ∃ o, K.lookup sysModules = some o) (hnl : ∀ p ∈ K, noList p = true) (hT : ∀ p ∈ tabsOf K, s₁.heap.get? p.1 = some { cls := .none, data := .fields #[] }) (hall : ∀ p ∈ K, s₁.heap.get? p.1 = some p.2) (hns : s₁.heap.Ns mainGlobals mg) (hb : s₁.heap.Ns builtinsNs mb) (hbb : ∀ x : Str, x ≠ "__name__" → mb x = bootBuiltins x) (hlim : s₁.heap.NoLimit) (hg : s₁.gens = #[])
    (ha : s₁.heap.get? a = some { cls := .type "list", data := .seq vs.toArray }) (hi : IntsAre vs ns) (hl : ns.length ≤ sizeLine) (hr : Room k callerA)
    (F : ∀ base : Heap, K.In base → base.Ns mainGlobals mg → FnG P w K mg base k fa fd [x] [] m) (hbind : ∀ (s : Shared) (u : Value), BindsTo s fd ⟨[u], []⟩ [(x, u)]) (law : ∃ e, m [some (.pur (.list (ns.map .int)))] = .ok (.pur (.bool true)) e) :
    codeAny (model P w) callerA (.call (.ref fa) ⟨[.ref a], []⟩) (fun r s' => r = .ok (.ret (.bool true)) ∧ OldK s₁.heap s'.heap ∧ s'.os = s₁.os ∧ AllBare s'.gens) s₁ := by
  have rv := vals_ints hi
  have lenV := hi.length
  have rpI : ∀ {T : Hp} (l : List Int), RpA K T (l.map V.int) (l.map PyData.int) := fun {T} l => by
    induction l with
    | nil => exact .nil
    | cons i l ih => exact .cons (.int i) ih
  have tabAt : ∀ b ∈ TbA K, s₁.heap.get? b = some { cls := .none, data := .fields #[] } := fun b hb => by
    obtain ⟨p, hp, rfl⟩ := List.mem_map.mp hb
    exact hT p hp
  have aT : a ∉ TbA K := fun z => by
    have q := tabAt a z
    rw [ha] at q
    cases q
  have nT : ∀ b ∈ TbA K, K.lookup b = none := fun b hb => by
    cases q : K.lookup b with
    | none => rfl
    | some o =>
      have e := KX b o q
      rw [tabAt b hb] at e
      cases e
      exact nomatch (show false = true from hnl (b, _) (mem_lk q))
  have core : ∀ H : Hp, (∀ b ∈ TbA K, H b = some (.tbl #[])) → HOk P w H s₁.heap → (∀ b, H b ≠ none → b = a ∨ b ∈ TbA K) → (H a ≠ none → K.lookup a = none) → H a = some (.frz { cls := .type "list", data := .seq vs.toArray } (.lst (ns.map V.int))) →
      codeAny (model P w) callerA (.call (.ref fa) ⟨[.ref a], []⟩) (fun r s' => r = .ok (.ret (.bool true)) ∧ OldK s₁.heap s'.heap ∧ s'.os = s₁.os ∧ AllBare s'.gens) s₁ := fun H hH hok hA hK hS => by
    have only : ∀ {b : Addr} {o : Obj}, s₁.heap.get? b = some o → (b = a → False) → (b ∈ TbA K → False) → H b = none := fun {b o} e n n2 => by
      cases q : H b with
      | none => rfl
      | some u => exact ((hA b (by rw [q]; simp)).elim n n2).elim
    have nsK : ∀ {b : Addr} {m : Str → Option Value}, s₁.heap.Ns b m → (hidT s₁.heap H).Ns b m := fun {b m} ⟨o, es, ep, e, d, r⟩ => by
      have n1 : b = a → False := fun z => by
        subst z
        rw [ha] at e
        cases e
        exact nomatch (show Data.seq vs.toArray _ = Data.dict es ep from d)
      have n2 : b ∈ TbA K → False := fun z => by
        rw [tabAt b z] at e
        cases e
        exact nomatch (show Data.fields #[] = Data.dict es ep from d)
      exact ⟨o, es, ep, hidT_get e (only e n1 n2), d, r⟩
    have hKb : K.In (hidT s₁.heap H) := fun b o e => by
      have n1 : b = a → False := fun z => by
        subst z
        rw [hK (by rw [hS]; simp)] at e
        cases e
      have n2 : b ∈ TbA K → False := fun z => by
        rw [nT b z] at e
        cases e
      exact hidT_get (KX b o e) (only (KX b o e) n1 n2)
    have hM : Mod K mg (hidT s₁.heap H) := ⟨hKb, nsK hns, ⟨mb, nsK hb, hbb⟩, let ⟨mc, h1, h2⟩ := hlim; ⟨mc, nsK h1, h2⟩⟩
    obtain ⟨e, he⟩ := law
    have hsp : spF K mg [] m [.ref a] H (fun v _ => v = .bl true) fun _ _ _ => False := by
      refine ⟨fun i hi => (nomatch hi), fun _ => .non, fun b => if b ∈ TbA K then some (.tbl #[]) else none, fun b => if b = a then H b else none, fun _ => [], [some (.pur (.list (ns.map .int)))], ⟨fun b o z n => ?_, fun p hp => ⟨LamX.TabS.nil (hH _ (List.mem_map.mpr ⟨p, hp, rfl⟩)), ?_⟩, fun b o z => ?_, fun b z => ?_, fun i y q => ?_, fun _ _ => rfl, fun _ => .nil, fun _ _ _ _ z => (nomatch z), fun _ _ z => (nomatch z), fun _ _ z => (nomatch z), rfl, fun i hi => (nomatch hi), fun b xs z => ?_⟩, ?_⟩
      · rw [if_neg n] at z; cases z
      · show (if p.1 ∈ TbA K then some (HO.tbl #[]) else none) ≠ none
        rw [if_pos (show p.1 ∈ TbA K from List.mem_map.mpr ⟨p, hp, rfl⟩)]; simp
      · by_cases e : b = a
        · rw [if_pos e] at z; exact z
        · rw [if_neg e] at z; cases z
      · by_cases e : b ∈ TbA K
        · show (if b = a then H b else none) = none
          rw [if_neg fun y => aT (by rw [← y]; exact e)]
        · rw [if_neg e] at z; exact absurd rfl z
      · cases i with
        | zero =>
          simp at q
          subst q
          exact ⟨_, rfl, .pur (.lst (.inr ⟨_, by show (if a = a then H a else none) = _; rw [if_pos rfl]; exact hS⟩) (rpI ns))⟩
        | succ i => simp at q
      · by_cases e : b ∈ TbA K
        · rw [if_pos e] at z; cases z
        · rw [if_neg e] at z; cases z
      · rw [he]
        intro v P' H' Fs' G S s' o f
        have z := o.pur_inv
        cases z
        rfl
    refine codeAny_mono ((F _ hKb (nsK hns)).run callerA [] s₁ H ⟨[.ref a], []⟩ [.ref a] [.ref a] _ _ hr rfl (let ⟨o, ho⟩ := hsy; ⟨o, hKb _ _ ho⟩) ⟨rfl, hM, fun b o e => of_hidT e, Nat.le_of_eq (hidT_size _ _), trivial, fun b hb => (nomatch hb), hok, .of_eq hg⟩ (hbind s₁ (.ref a)) (.cons rfl .nil) hsp) fun r s' h => ?_
    cases r with
    | error e =>
      obtain ⟨_, _, _, _, _, _, _, _, _, _, _, _, z⟩ := h
      exact z.elim
    | ok fl =>
      cases fl with
      | next => exact False.elim h
      | brk => exact False.elim h
      | cont => exact False.elim h
      | ret u =>
        obtain ⟨v, H', os, bare, un, hok', r', q⟩ := h
        have q' : v = .bl true := q
        subst q'
        obtain rfl : u = Value.bool true := r'
        have keep : ∀ b o, b ∉ TbA K → s₁.heap.get? b = some o → s'.heap.get? b = some o := fun b o nb e => by
          cases q : H b with
          | none => exact un.keep b o e q (fun z => nomatch z) (fun z => nomatch z)
          | some u =>
            rcases hA b (by rw [q]; simp) with eb | eb
            · subst eb
              have z2 := un.frzs _ _ _ hS
              obtain ⟨e2, _⟩ := hok' _ _ z2
              rw [ha] at e
              cases e
              exact e2
            · exact absurd eb nb
        have grown : ∀ b ∈ TbA K, ∃ more : Array Value, s'.heap.get? b = some { cls := .none, data := .fields more } := fun b hb => by
          obtain ⟨more, z⟩ := un.tbls b #[] (hH b hb)
          exact ⟨_, hok' b _ z⟩
        refine ⟨rfl, ⟨fun b o e => ?_, fun b o e => ?_⟩, os, bare⟩
        · by_cases hb : b ∈ TbA K
          · obtain ⟨more, hm⟩ := grown b hb
            rw [tabAt b hb] at e
            cases e
            exact .inr (.inl ⟨tab_code hall hb, rfl, #[], more, rfl, by rw [Array.empty_append]; exact hm⟩)
          · exact .inl (keep b o hb e)
        · by_cases hb : b ∈ TbA K
          · obtain ⟨more, hm⟩ := grown b hb
            exact ⟨_, hm⟩
          · exact ⟨o, keep b o hb e⟩
  cases hk : K.lookup a with
  | some o =>
    exfalso
    have e := KX a o hk
    rw [ha] at e
    cases e
    have z := hnl (a, _) (mem_lk hk)
    exact nomatch (show false = true from z)
  | none =>
    refine core (fun b => if b = a then some (.frz { cls := .type "list", data := .seq vs.toArray } (.lst (ns.map V.int))) else if b ∈ TbA K then some (.tbl #[]) else none) (fun b hb => ?_) (fun b u z => ?_) (fun b z => ?_) (fun _ => hk) (if_pos rfl)
    · show (if b = a then _ else _) = _
      rw [if_neg fun z => aT (by rw [← z]; exact hb), if_pos hb]
    · by_cases hb : b = a
      · have z' := (if_pos hb).symm.trans z
        cases z'
        subst hb
        exact ⟨ha, by rw [List.length_map]; exact hl, vs, _, rv, ha⟩
      · have z1 := (if_neg hb).symm.trans z
        by_cases hb2 : b ∈ TbA K
        · have z' := (if_pos hb2).symm.trans z1
          cases z'
          exact tabAt b hb2
        · exact nomatch (if_neg hb2).symm.trans z1
    · by_cases hb : b = a
      · exact .inl hb
      · by_cases hb2 : b ∈ TbA K
        · exact .inr hb2
        · exact absurd ((if_neg hb).trans (if_neg hb2)) z
theorem walk_G {l : PySem.W.OpenLaw} {n k dep : Nat} {fac : List He.Fa} {fn : List He.DefD} {tb : Tbs} {q : Program} {loose : List Str} {XP : (Str → Option Value) → Heap → Prop} {d : DefRec} {x : Str}
    (hn : l.most = some n) (hn2 : n ≤ sizeLine) (hdf : d.params.defaults = []) (hr : Room k callerA)
    (F : ∀ (w : World) (K : PySem.W.Frag) (mg : Str → Option Value) (fa : Addr) (h : Heap), K.In h → h.Ns mainGlobals mg → (He.SaysD fac fn K ∧ tbsOk tb K = true) → mg d.name = some (.ref fa) →
      ∃ (fd : FuncData) (m : M OD), (∀ (s : Shared) (u : Value), BindsTo s fd ⟨[u], []⟩ [(x, u)]) ∧ (∀ ns : List Int, ns.length ≤ n → ∃ e, m [some (.pur (.list (ns.map .int)))] = .ok (.pur (.bool true)) e) ∧
        ∀ base : Heap, K.In base → base.Ns mainGlobals mg → FnG l.prog w K mg base k fa fd [x] [] m) :
    PySem.W.WalkO q loose XP (hookS dep fac fn tb).says l.row.toRowW d [] (fun f vs => PySem.call f vs) := by
  refine Att.attach_call hn hdf fun w s₀ s₁ mg mb fa o pm cd doc a vs ns G Y ho hd hcd hmg hobj hints hlen hg => ?_
  obtain ⟨K, KX, c, hsy, hnl, hT, hall⟩ := Y
  obtain ⟨fd, m, hb, hlaw, hF⟩ := F w K mg fa _ KX G.T.g c hmg
  exact call_law KX hsy hnl hT hall G.T.g G.T.b G.T.builtins G.T.nolimit hg hobj hints (Nat.le_trans hlen hn2) hr hF hb (hlaw ns hlen)
/-- all that the walk knows of the module -/
structure Cm (fa : List He.Fa) (fn : List He.DefD) (tb : Tbs) (K : PySem.W.Frag) (mg : Str → Option Value) (base : Heap) : Prop extends Cn fa fn K mg base where
  tbs : tbsOk tb K = true
theorem Cm.tup {fa : List He.Fa} {fn : List He.DefD} {tb : Tbs} {K : PySem.W.Frag} {mg : Str → Option Value} {base : Heap} (C : Cm fa fn tb K mg base) (i : Nat) {x : Str} {zs : List Str} (h : tb[i]? = some (x, zs.map He.Dv.str) := by rfl) (hx : (x == "<lambda>") = false := by rfl) (hx2 : (x == "<x>") = false := by rfl) : ∃ b, mg x = some (.ref b) ∧ ∀ H, SqT K H b (zs.map V.str) := by
  have z := List.all_eq_true.mp C.tbs _ (List.mem_of_getElem? h)
  simp only [hx, hx2, Bool.false_eq_true, if_false] at z
  obtain ⟨z1, z2⟩ := Bool.and_eq_true_iff.mp z
  refine ⟨_, PySem.W.mg_of C.kin C.ns (of_decide_eq_true z2), fun H => ?_⟩
  have y := He.tupB_ok z1 H
  rw [List.map_map] at y
  exact y
end DL

set_option maxHeartbeats 2000000
namespace DL
open PySem PySem.Spec PyProof.Rows L2
end DL
namespace L42
open PySem PySem.Spec PyProof.Rows L2 DL
noncomputable section
def top (i : Nat) : Stmt := PySem.Challenge.pw_plansamid_k42_whole_how_many_mergings.main.body.getD i (.Pass ⟨0, 0, 0, 0⟩)

abbrev dd_law_pen : He.DefD := ⟨("_law_pen", none), "_law_pen", "_law_pen", defArgs (top 14), defBody (top 14), defScope (top 14), [], []⟩
abbrev dd_law_draw : He.DefD := ⟨("_law_draw", none), "_law_draw", "_law_draw", defArgs (top 15), defBody (top 15), defScope (top 15), [], []⟩
abbrev dd_law_row : He.DefD := ⟨("_law_row", none), "_law_row", "_law_row", defArgs (top 16), defBody (top 16), defScope (top 16), [], []⟩
abbrev ddPile___init__ : He.DefD := ⟨("Pile", some "__init__"), "__init__", "Pile.__init__", defArgs (inClass (top 12) 0), defBody (inClass (top 12) 0), defScope (inClass (top 12) 0), [], []⟩
abbrev ddPile_lay_out : He.DefD := ⟨("Pile", some "lay_out"), "lay_out", "Pile.lay_out", defArgs (inClass (top 12) 1), defBody (inClass (top 12) 1), defScope (inClass (top 12) 1), [], []⟩
abbrev ddPile_end : He.DefD := ⟨("Pile", some "end"), "end", "Pile.end", defArgs (inClass (top 12) 5), defBody (inClass (top 12) 5), defScope (inClass (top 12) 5), [], []⟩
abbrev ddPile_put : He.DefD := ⟨("Pile", some "put"), "put", "Pile.put", defArgs (inClass (top 12) 2), defBody (inClass (top 12) 2), defScope (inClass (top 12) 2), [], []⟩
abbrev dd_law_ended : He.DefD := ⟨("_law_ended", none), "_law_ended", "_law_ended", defArgs (top 21), defBody (top 21), defScope (top 21), [], []⟩
abbrev ddPile_call_back : He.DefD := ⟨("Pile", some "call_back"), "call_back", "Pile.call_back", defArgs (inClass (top 12) 4), defBody (inClass (top 12) 4), defScope (inClass (top 12) 4), [], []⟩
abbrev dd_law_lots : He.DefD := ⟨("_law_lots", none), "_law_lots", "_law_lots", defArgs (top 18), defBody (top 18), defScope (top 18), [], []⟩
abbrev ddPile_lend : He.DefD := ⟨("Pile", some "lend"), "lend", "Pile.lend", defArgs (inClass (top 12) 3), defBody (inClass (top 12) 3), defScope (inClass (top 12) 3), [], []⟩
abbrev ddPile_lots : He.DefD := ⟨("Pile", some "lots"), "lots", "Pile.lots", defArgs (inClass (top 12) 7), defBody (inClass (top 12) 7), defScope (inClass (top 12) 7), [], []⟩
abbrev ddmerged : He.DefD := ⟨("merged", none), "merged", "merged", defArgs (top 11), defBody (top 11), defScope (top 11), [], []⟩
abbrev ddPile_merge : He.DefD := ⟨("Pile", some "merge"), "merge", "Pile.merge", defArgs (inClass (top 12) 6), defBody (inClass (top 12) 6), defScope (inClass (top 12) 6), [], []⟩
abbrev dd_law_count : He.DefD := ⟨("_law_count", none), "_law_count", "_law_count", defArgs (top 20), defBody (top 20), defScope (top 20), [], []⟩
abbrev ddPile_steps : He.DefD := ⟨("Pile", some "steps"), "steps", "Pile.steps", defArgs (inClass (top 12) 8), defBody (inClass (top 12) 8), defScope (inClass (top 12) 8), [], []⟩
abbrev ddPile_hand : He.DefD := ⟨("Pile", some "hand"), "hand", "Pile.hand", defArgs (inClass (top 12) 9), defBody (inClass (top 12) 9), defScope (inClass (top 12) 9), [], []⟩
abbrev dd_law_lent_right : He.DefD := ⟨("_law_lent_right", none), "_law_lent_right", "_law_lent_right", defArgs (top 22), defBody (top 22), defScope (top 22), [], []⟩
abbrev dd_law_heard : He.DefD := ⟨("_law_heard", none), "_law_heard", "_law_heard", defArgs (top 17), defBody (top 17), defScope (top 17), [], []⟩
abbrev dd_law_mergings : He.DefD := ⟨("_law_mergings", none), "_law_mergings", "_law_mergings", defArgs (top 19), defBody (top 19), defScope (top 19), [], []⟩
abbrev ddPile_told : He.DefD := ⟨("Pile", some "told"), "told", "Pile.told", defArgs (inClass (top 12) 10), defBody (inClass (top 12) 10), defScope (inClass (top 12) 10), [], []⟩
abbrev dd_law_hands_right : He.DefD := ⟨("_law_hands_right", none), "_law_hands_right", "_law_hands_right", defArgs (top 23), defBody (top 23), defScope (top 23), [], []⟩
abbrev ddlaw : He.DefD := ⟨("law", none), "law", "law", defArgs (top 24), defBody (top 24), defScope (top 24), [], []⟩
def fn : List He.DefD := [dd_law_pen, dd_law_draw, dd_law_row, ddPile___init__, ddPile_lay_out, ddPile_end, ddPile_put, dd_law_ended, ddPile_call_back, dd_law_lots, ddPile_lend, ddPile_lots, ddmerged, ddPile_merge, dd_law_count, ddPile_steps, ddPile_hand, dd_law_lent_right, dd_law_heard, dd_law_mergings, ddPile_told, dd_law_hands_right, ddlaw]
def fa : List He.Fa := [.free "list", .free "len", .free "abs", .free "int", .free "range", .glo "Pile", .cls "Pile", .noat "Pile" "most_held", .noat "Pile" "held_rows", .noat "Pile" "laid_lots", .noat "Pile" "steps_taken", .noat "Pile" "is_ended", .free "sorted", .glo "Done", .exc "Done", .glo "NoRoom", .exc "NoRoom", .free "min", .glo "NotDone", .exc "NotDone", .int "FEWEST" 2, .free "max", .glo "PlanError", .exm "Done" "PlanError" true, .exm "NoRoom" "PlanError" true, .exm "NotDone" "PlanError" true, .free "isinstance", .free "sum", .glo "NoStand", .glo "NoDeed", .glo "Busy", .free "ValueError", .free "enumerate", .free "repr", .glo "_law_pen", .glo "_law_draw", .glo "_law_row", .glo "_law_ended", .glo "_law_lots", .glo "merged", .glo "_law_count", .glo "_law_lent_right", .glo "_law_heard", .glo "_law_mergings", .glo "_law_hands_right", .glo "law", .mkr "Pile", .meth "Pile" "lay_out", .meth "Pile" "end", .meth "Pile" "put", .meth "Pile" "call_back", .meth "Pile" "lend", .meth "Pile" "lots", .meth "Pile" "merge", .meth "Pile" "steps", .meth "Pile" "hand", .meth "Pile" "told"]
def tb : Tbs := ("<x>", [.str "NotDone"]) :: ("<x>", [.bl false, .str "NotDone", .str "Done"]) :: ("<x>", [.str "NoRoom"]) :: ("<x>", [.bl false, .str "NoRoom", .str "Done"]) :: ("<x>", [.str "Done"]) :: ("<x>", [.bl true, .str "Done", .str "Done"]) :: ("<x>", [.bl true, .str "NotDone", .str "NotDone"]) :: ("<x>", [.bl false, .str "NoRoom", .str "NotDone"]) :: ("<x>", [.bl false, .str "Done", .str "NotDone"]) :: ("<x>", [.bl false, .str "NotDone", .str "NoRoom"]) :: ("<x>", [.bl true, .str "NoRoom", .str "NoRoom"]) :: ("<x>", [.bl false, .str "Done", .str "NoRoom"]) :: ("<x>", [.bl false, .str "NotDone", .str "Busy", .str "NoDeed", .str "NoStand"]) :: ("<x>", [.bl false, .str "NoRoom", .str "Busy", .str "NoDeed", .str "NoStand"]) :: ("<x>", [.bl false, .str "Done", .str "Busy", .str "NoDeed", .str "NoStand"]) :: ("<x>", [.bl true, .str "NotDone", .ty "ValueError"]) :: ("<x>", [.bl true, .str "NoRoom", .ty "ValueError"]) :: ("<x>", [.bl true, .str "Done", .ty "ValueError"]) :: ("<lambda>", []) :: []
abbrev R : PySem.W.OpenRow := PySem.W.OpenLaw.row PySem.Challenge.rw_plansamid_k42_whole_how_many_mergings
abbrev hk : PySem.W.Hook := hookS 4 fa fn tb
def ob (s : PySem.W.SharedT) : AlS := obsS 4 fa fn tb (HandSHeadRun.getT s)
theorem ob_eq (s : PySem.W.SharedT) : ob s = hk.obs s.abs := obsS_eq (HandSHeadRun.getT_eq s)
theorem run (w : World) : HandSHeadRun.RunEq R (PySem.W.view R.prog [24]) hk ob 20000 (("_wall" :: "PlanError" :: "NoDeed" :: "NoRoom" :: "Done" :: "NotDone" :: "Busy" :: "NoStand" :: "FEWEST" :: "merged" :: "Pile" :: "_law_pen" :: "_law_draw" :: "_law_row" :: "_law_heard" :: "_law_lots" :: "_law_mergings" :: "_law_count" :: "_law_ended" :: "_law_lent_right" :: "_law_hands_right" :: []) : List Str) w := by
  intro os
  kernel_rfl

end
end L42

set_option maxHeartbeats 2000000
/-! DL20: extend; xs[::-1]; displays of dicts; dict(pairs); in a tuple of the module's; name op= e; slot[i] op= e. -/
namespace DL
open PySem PySem.Spec PyProof.Rows L2

section
variable {X : Cx} {W : WX} {B : List Nat} {e : Expr} {mo : M OD} {md : M PyData} {x : Str} {p apos cpos pos : Pos}
/-! xs[::-1] -/
/-! x in a tuple of the module's: texts -/
end
end DL

set_option maxHeartbeats 2000000
/-! DL21: displays of dicts; dict(pairs); name op= e; slot[k] op= e. -/
namespace DL
open PySem PySem.Spec PyProof.Rows L2

/-! ### {k: v, ..} -/
def M.pairs : List (M PyData × M PyData) → M (List (PyData × PyData))
  | [] => M.pure []
  | (k, v) :: r => M.bind k fun a => M.bind v fun b => M.bind (M.pairs r) fun l => M.pure ((a, b) :: l)
def keysO : List (PyData × PyData) → Option (List Key)
  | [] => some []
  | (k, _) :: r => match keyOfD k, keysO r with
    | some a, some l => some (a :: l)
    | _, _ => none
def dispO (l : List (PyData × PyData)) : Option OD := (keysO l).bind fun ks => if decide (ks.Nodup) && decide (ks.length ≤ 15) then some (.dK ks (l.map fun p => .pur p.2)) else none
def M.disp (pms : List (M PyData × M PyData)) : M OD := M.bind (M.pairs pms) fun l => M.opt (dispO l)
inductive RpP (K : PySem.W.Frag) (P : Hp) : List (V × V) → List (PyData × PyData) → Prop
  | nil : RpP K P [] []
  | cons {p : V × V} {q : PyData × PyData} {ps : List (V × V)} {qs : List (PyData × PyData)} (h1 : Rp K P p.1 q.1) (h2 : Rp K P p.2 q.2) (t : RpP K P ps qs) : RpP K P (p :: ps) (q :: qs)
theorem RpP.mono {K : PySem.W.Frag} {P P' : Hp} (s : Same P P') {ps : List (V × V)} {qs : List (PyData × PyData)} (h : RpP K P ps qs) : RpP K P' ps qs := by
  induction h with
  | nil => exact .nil
  | cons h1 h2 t ih => exact .cons (h1.mono s) (h2.mono s) ih
section
variable {X : Cx} {W : WX} {B : List Nat} {pos : Pos} {keys : List (Option Expr)} {values : List Expr} {pms : List (M PyData × M PyData)}
/-! {} -/
end
/-! ### dict(list of pairs) -/
end DL

set_option maxHeartbeats 2000000
/-! DL22: what a mirror's run comes to. -/
namespace DL
open PySem PySem.Spec PyProof.Rows L2

/-- the run ends, without an exception, and Q stands of its end -/
def Hs {α : Type} (r : Rs α) (Q : α → DEnv → Prop) : Prop := ∃ a e, r = .ok a e ∧ Q a e
theorem Hs.mono {α : Type} {r : Rs α} {Q Q' : α → DEnv → Prop} (h : Hs r Q) (k : ∀ a e, Q a e → Q' a e) : Hs r Q' := by
  obtain ⟨a, e, h1, h2⟩ := h
  exact ⟨a, e, h1, k a e h2⟩
theorem Hs.ok {α : Type} {r : Rs α} {Q : α → DEnv → Prop} (h : Hs r Q) : ∃ a e, r = .ok a e ∧ Q a e := h
theorem Hs.mk {α : Type} {a : α} {e : DEnv} {Q : α → DEnv → Prop} (h : Q a e) : Hs (.ok a e) Q := ⟨a, e, rfl, h⟩
section
variable {α β : Type} {env : DEnv}
@[simp] theorem hs_ok {a : α} {Q : α → DEnv → Prop} : Hs (.ok a env) Q = Q a env := propext ⟨fun ⟨_, _, h, q⟩ => by cases h; exact q, Hs.mk⟩
@[simp] theorem hs_no {Q : α → DEnv → Prop} : Hs (.no : Rs α) Q = False := propext ⟨fun ⟨_, _, h, _⟩ => (nomatch h), False.elim⟩
@[simp] theorem hs_ex {x : Xn} {Q : α → DEnv → Prop} : Hs (.ex x env : Rs α) Q = False := propext ⟨fun ⟨_, _, h, _⟩ => (nomatch h), False.elim⟩
@[simp] theorem hs_bind {m : M α} {f : α → M β} {Q : β → DEnv → Prop} : Hs (M.bind m f env) Q = Hs (m env) fun a e => Hs (f a e) Q := by
  unfold M.bind
  cases m env <;> simp only [hs_ok, hs_no, hs_ex]
@[simp] theorem hs_pure {a : α} {Q : α → DEnv → Prop} : Hs (M.pure a env) Q = Q a env := hs_ok
/-- what an option holds -/
def Bd {α : Type} (o : Option α) (Q : α → Prop) : Prop := ∃ a, o = some a ∧ Q a
@[simp] theorem bd_some {a : α} {Q : α → Prop} : Bd (some a) Q = Q a := propext ⟨fun ⟨_, h, q⟩ => by cases h; exact q, fun q => ⟨a, rfl, q⟩⟩
@[simp] theorem bd_none {Q : α → Prop} : Bd (none : Option α) Q = False := propext ⟨fun ⟨_, h, _⟩ => (nomatch h), False.elim⟩
@[simp] theorem bd_ite {c : Prop} [Decidable c] {a : α} {Q : α → Prop} : Bd (if c then some a else none) Q = (c ∧ Q a) := by by_cases h : c <;> simp [h]
theorem Bd.some {o : Option α} {Q : α → Prop} {a : α} (h : o = .some a) (q : Q a) : Bd o Q := ⟨a, h, q⟩
def boolP : PyData → Option Bool
  | .bool b => some b
  | _ => none
def intP : PyData → Option Int
  | .int b => some b
  | _ => none
def purD : OD → Option PyData
  | .pur d => some d
  | _ => none
@[simp] theorem boolP_bool {b : Bool} : boolP (.bool b) = some b := rfl
@[simp] theorem intP_int {b : Int} : intP (.int b) = some b := rfl
@[simp] theorem purD_pur {b : PyData} : purD (.pur b) = some b := rfl
@[simp] theorem hs_opt {o : Option α} {Q : α → DEnv → Prop} : Hs (M.opt o env) Q = Bd o fun a => Q a env := by cases o <;> simp [M.opt, M.pure, M.fail]
@[simp] theorem hs_op2 {f : PyData → PyData → Option PyData} {a b : M PyData} {Q : PyData → DEnv → Prop} : Hs (M.op2 f a b env) Q = Hs (a env) fun x e => Hs (b e) fun y e => Bd (f x y) fun z => Q z e := by simp only [M.op2, hs_bind, hs_opt]
@[simp] theorem hs_op1 {f : PyData → Option PyData} {a : M PyData} {Q : PyData → DEnv → Prop} : Hs (M.op1 f a env) Q = Hs (a env) fun x e => Bd (f x) fun z => Q z e := by simp only [M.op1, hs_bind, hs_opt]
@[simp] theorem hs_opL {f : List PyData → Option PyData} {a : M (List PyData)} {Q : PyData → DEnv → Prop} : Hs (M.opL f a env) Q = Hs (a env) fun x e => Bd (f x) fun z => Q z e := by simp only [M.opL, hs_bind, hs_opt]
@[simp] theorem hs_opO {f : List PyData → Option OD} {a : M (List PyData)} {Q : OD → DEnv → Prop} : Hs (M.opO f a env) Q = Hs (a env) fun x e => Bd (f x) fun z => Q z e := by simp only [M.opO, hs_bind, hs_opt]
@[simp] theorem hs_nil {Q : List PyData → DEnv → Prop} : Hs (M.nil env) Q = Q [] env := hs_pure
@[simp] theorem hs_cons {a : M PyData} {l : M (List PyData)} {Q : List PyData → DEnv → Prop} : Hs (M.cons a l env) Q = Hs (a env) fun x e => Hs (l e) fun xs e => Q (x :: xs) e := by simp only [M.cons, hs_bind, hs_pure]
@[simp] theorem hs_tup {l : M (List PyData)} {Q : PyData → DEnv → Prop} : Hs (M.tup l env) Q = Hs (l env) fun xs e => xs.length ≤ lim ∧ Q (.tuple xs) e := by
  rw [M.tup, hs_bind]
  congr 1
  funext xs e
  by_cases h : xs.length ≤ lim <;> simp [h, M.fail]
@[simp] theorem hs_lst {l : M (List PyData)} {Q : OD → DEnv → Prop} : Hs (M.lst l env) Q = Hs (l env) fun xs e => xs.length ≤ lim ∧ Q (.lst (xs.map .pur)) e := by
  rw [M.lst, hs_bind]
  congr 1
  funext xs e
  by_cases h : xs.length ≤ lim <;> simp [h, M.fail, ownL]
@[simp] theorem hs_own {m : M PyData} {Q : OD → DEnv → Prop} : Hs (M.own m env) Q = Hs (m env) fun d e => Q (.pur d) e := by rw [M.own, hs_bind]; simp only [hs_pure]
@[simp] theorem hs_frz {m : M OD} {Q : PyData → DEnv → Prop} : Hs (M.frz m env) Q = Hs (m env) fun x e => Bd x.data fun d => Q d e := by rw [M.frz, hs_bind]; simp only [hs_opt]
/-- behind a statement -/
def Then (b : M Flw) (Q : Flw → DEnv → Prop) : Flw → DEnv → Prop := fun f e => match f with
  | .nx => Hs (b e) Q
  | f => Q f e
@[simp] theorem then_nx {b : M Flw} {Q : Flw → DEnv → Prop} : Then b Q .nx env = Hs (b env) Q := rfl
@[simp] theorem then_rt {b : M Flw} {Q : Flw → DEnv → Prop} {x : OD} : Then b Q (.rt x) env = Q (.rt x) env := rfl
@[simp] theorem then_bk {b : M Flw} {Q : Flw → DEnv → Prop} : Then b Q .bk env = Q .bk env := rfl
@[simp] theorem then_ct {b : M Flw} {Q : Flw → DEnv → Prop} : Then b Q .ct env = Q .ct env := rfl
@[simp] theorem hs_seq {a b : M Flw} {Q : Flw → DEnv → Prop} : Hs (M.seq a b env) Q = Hs (a env) (Then b Q) := by
  rw [M.seq, hs_bind]
  congr 1
  funext f e
  cases f <;> simp [Then]
@[simp] theorem hs_skip {Q : Flw → DEnv → Prop} : Hs (M.skip env) Q = Q .nx env := hs_pure
/-- by cases of a test -/
def Iff2 (k : Bool) (A B : Prop) : Prop := match k with
  | true => A
  | false => B
@[simp] theorem iff2_t {A B : Prop} : Iff2 true A B = A := rfl
@[simp] theorem iff2_f {A B : Prop} : Iff2 false A B = B := rfl
theorem iff2_of {k : Bool} {A B : Prop} (h1 : k = true → A) (h2 : k = false → B) : Iff2 k A B := by cases k with
  | true => exact h1 rfl
  | false => exact h2 rfl
@[simp] theorem hs_ite {c : M Bool} {a b : M α} {Q : α → DEnv → Prop} : Hs (M.ite c a b env) Q = Hs (c env) fun k e => Iff2 k (Hs (a e) Q) (Hs (b e) Q) := by
  rw [M.ite, hs_bind]
  congr 1
  funext k e
  cases k <;> simp
@[simp] theorem hs_ifS {c : M Bool} {a b : M Flw} {Q : Flw → DEnv → Prop} : Hs (M.ifS c a b env) Q = Hs (c env) fun k e => Iff2 k (Hs (a e) Q) (Hs (b e) Q) := hs_ite
@[simp] theorem hs_tru {m : M PyData} {Q : Bool → DEnv → Prop} : Hs (M.tru m env) Q = Hs (m env) fun d e => Bd (boolP d) fun b => Q b e := by
  rw [M.tru, hs_bind]
  congr 1
  funext d e
  cases d <;> simp [boolP, M.fail]
@[simp] theorem hs_trt {m : M PyData} {Q : Bool → DEnv → Prop} : Hs (M.trt m env) Q = Hs (m env) fun d e => Bd (trueD d) fun b => Q b e := by rw [M.trt, hs_bind]; simp only [hs_opt]
@[simp] theorem hs_not {m : M Bool} {Q : Bool → DEnv → Prop} : Hs (M.not m env) Q = Hs (m env) fun b e => Q (!b) e := by rw [M.not, hs_bind]; simp only [hs_pure]
@[simp] theorem hs_and {a b : M Bool} {Q : Bool → DEnv → Prop} : Hs (M.and a b env) Q = Hs (a env) fun c e => Iff2 c (Hs (b e) Q) (Q false e) := by
  rw [M.and, hs_bind]
  congr 1
  funext k e
  cases k <;> simp
@[simp] theorem hs_or {a b : M Bool} {Q : Bool → DEnv → Prop} : Hs (M.or a b env) Q = Hs (a env) fun c e => Iff2 c (Q true e) (Hs (b e) Q) := by
  rw [M.or, hs_bind]
  congr 1
  funext k e
  cases k <;> simp
@[simp] theorem hs_andV {a b : M PyData} {Q : PyData → DEnv → Prop} : Hs (M.andV a b env) Q = Hs (a env) fun d e => Bd (boolP d) fun c => Iff2 c (Hs (b e) Q) (Q (.bool false) e) := by
  rw [M.andV, hs_bind, hs_tru]
  congr 1
  funext d e
  cases d with
  | bool c => cases c <;> simp
  | _ => simp [boolP]
@[simp] theorem hs_orV {a b : M PyData} {Q : PyData → DEnv → Prop} : Hs (M.orV a b env) Q = Hs (a env) fun d e => Bd (boolP d) fun c => Iff2 c (Q (.bool true) e) (Hs (b e) Q) := by
  rw [M.orV, hs_bind, hs_tru]
  congr 1
  funext d e
  cases d with
  | bool c => cases c <;> simp
  | _ => simp [boolP]
@[simp] theorem hs_notV {a : M PyData} {Q : PyData → DEnv → Prop} : Hs (M.notV a env) Q = Hs (a env) fun d e => Bd (boolP d) fun c => Q (.bool (!c)) e := by
  rw [M.notV, hs_bind, hs_tru]
  simp only [hs_pure]
@[simp] theorem hs_isi {T : String} {a : M PyData} {Q : PyData → DEnv → Prop} : Hs (M.isi T a env) Q = Hs (a env) fun d e => Q (.bool (isA T d)) e := by rw [M.isi, hs_op1]; simp only [bd_some]
/-- the tree in a slot -/
def sl (env : DEnv) (i : Nat) : Option OD := (env[i]?).join
@[simp] theorem sl_zero {o : Option OD} {env : DEnv} : sl (o :: env) 0 = o := by cases o <;> rfl
@[simp] theorem sl_succ {o : Option OD} {env : DEnv} {i : Nat} : sl (o :: env) (i + 1) = sl env i := rfl
theorem sl_some {i : Nat} {x : OD} (h : sl env i = some x) : env[i]? = some (some x) := join_some h
theorem sl_none {i : Nat} (h : sl env i = none) : env[i]? = none ∨ env[i]? = some none := by
  unfold sl at h
  cases q : env[i]? with
  | none => exact .inl rfl
  | some o => rw [q] at h; cases o with
    | none => exact .inr rfl
    | some x => cases h
@[simp] theorem hs_rd {i : Nat} {Q : PyData → DEnv → Prop} : Hs (M.rd i env) Q = Bd ((sl env i).bind OD.data) fun d => Q d (env.set i (some (.pur d))) := by
  unfold M.rd
  cases hs : sl env i with
  | none => rcases sl_none hs with h | h <;> rw [h] <;> simp
  | some x =>
    have h := sl_some hs
    rw [h]
    cases x with
    | pur d =>
      have e : env.set i (some (.pur d)) = env := by
        obtain ⟨h1, h2⟩ := List.getElem?_eq_some_iff.mp h
        rw [← h2]
        exact List.set_getElem_self h1
      show Hs (.ok d env) Q = Bd (some d) _
      rw [hs_ok, bd_some, e]
    | lst xs => cases hd : (OD.lst xs).data <;> simp [hd]
    | tup xs => cases hd : (OD.tup xs).data <;> simp [hd]
    | dK ks xs => cases hd : (OD.dK ks xs).data <;> simp [hd]
    | dT ks xs => cases hd : (OD.dT ks xs).data <;> simp [hd]
    | obj c ns xs => cases hd : (OD.obj c ns xs).data <;> simp [hd]
    | exn x => cases hd : (OD.exn x).data <;> simp [hd]
    | ref a => cases hd : (OD.ref a).data <;> simp [hd]
@[simp] theorem hs_mv {i : Nat} {Q : OD → DEnv → Prop} : Hs (M.mv i env) Q = Bd (sl env i) fun x => Q x (env.set i none) := by
  unfold M.mv
  cases hs : sl env i with
  | none => rcases sl_none hs with h | h <;> rw [h] <;> simp
  | some x => rw [sl_some hs]; simp
@[simp] theorem hs_ro {m : DEnv → Option OD} {Q : PyData → DEnv → Prop} : Hs (M.ro m env) Q = Bd ((m env).bind purD) fun d => Q d env := by
  unfold M.ro
  cases h : m env with
  | none => simp
  | some x => cases x <;> simp [purD]
@[simp] theorem hs_drop {m : M PyData} {Q : Flw → DEnv → Prop} : Hs (M.drop m env) Q = Hs (m env) fun _ e => Q .nx e := by rw [M.drop, hs_bind]; simp only [hs_skip]
@[simp] theorem hs_ret {m : M OD} {Q : Flw → DEnv → Prop} : Hs (M.ret m env) Q = Hs (m env) fun x e => Q (.rt x) e := by rw [M.ret, hs_bind]; simp only [hs_pure]
@[simp] theorem hs_put {i : Nat} {x : OD} {Q : Flw → DEnv → Prop} : Hs (M.put i x env) Q = (i < env.length ∧ Q .nx (env.set i (some x))) := by
  unfold M.put
  by_cases h : i < env.length <;> simp [h]
@[simp] theorem hs_set {i : Nat} {m : M OD} {Q : Flw → DEnv → Prop} : Hs (M.set i m env) Q = Hs (m env) fun x e => i < e.length ∧ Q .nx (e.set i (some x)) := by rw [M.set, hs_bind]; simp only [hs_put]
@[simp] theorem hs_chg {i : Nat} {f : OD → Option (OD × OD)} {Q : OD → DEnv → Prop} : Hs (M.chg i f env) Q = Bd ((sl env i).bind f) fun p => Q p.1 (env.set i (some p.2)) := by
  unfold M.chg
  cases hs : sl env i with
  | none => rcases sl_none hs with h | h <;> rw [h] <;> simp
  | some x =>
    rw [sl_some hs]
    cases hf : f x <;> simp [hf]
@[simp] theorem hs_need {p : OD → Bool} {i : Nat} {m : M α} {Q : α → DEnv → Prop} : Hs (M.need p i m env) Q = ((sl env i).any p = true ∧ Hs (m env) Q) := by
  have e : needO p i env = (sl env i).any p := by
    unfold needO
    cases hs : sl env i with
    | none => rcases sl_none hs with h | h <;> rw [h] <;> simp
    | some x => rw [sl_some hs]; simp
  unfold M.need
  rw [e]
  by_cases h : (sl env i).any p = true <;> simp [h]
@[simp] theorem hs_setI {i : Nat} {mv : M OD} {mk : M PyData} {Q : Flw → DEnv → Prop} : Hs (M.setI i mv mk env) Q = Hs (mv env) fun y e => (sl e i).isSome = true ∧ Hs (mk e) fun d e => Bd ((sl e i).bind fun c => setO c d y) fun c' => Q .nx (e.set i (some c')) := by
  rw [M.setI, hs_bind]
  congr 1
  funext y e
  rw [hs_need, hs_bind]
  have e1 : (sl e i).any (fun _ => true) = (sl e i).isSome := by cases sl e i <;> rfl
  rw [e1]
  congr 2
  funext d e
  show Hs (match (sl e i).bind fun c => setO c d y with
    | some c' => .ok .nx (e.set i (some c'))
    | none => .no) Q = _
  cases (sl e i).bind fun c => setO c d y <;> simp
@[simp] theorem hs_ixS {i : Nat} {mk : M PyData} {Q : PyData → DEnv → Prop} : Hs (M.ixS i mk env) Q = ((sl env i).isSome = true ∧ Hs (mk env) fun d e => Bd (((sl e i).bind fun c => itemO c d).bind purD) fun z => Q z e) := by
  rw [M.ixS, hs_need, hs_bind]
  have e1 : (sl env i).any (fun _ => true) = (sl env i).isSome := by cases sl env i <;> rfl
  rw [e1]
  congr 2
  funext d e
  show Hs (match (sl e i).bind fun x => itemO x d with
    | some (.pur z) => .ok z e
    | _ => .no) Q = _
  cases (sl e i).bind fun c => itemO c d with
  | none => simp
  | some x => cases x <;> simp [purD]
@[simp] theorem hs_items {m : M PyData} {Q : List PyData → DEnv → Prop} : Hs (M.items m env) Q = Hs (m env) fun d e => Bd (itemsD d) fun l => Q l e := by rw [M.items, hs_bind]; simp only [hs_opt]
@[simp] theorem hs_iter {f : List PyData → Option (List PyData)} {m : M (List PyData)} {Q : List PyData → DEnv → Prop} : Hs (M.iter f m env) Q = Hs (m env) fun ds e => Bd (f ds) fun l => Q l e := by rw [M.iter, hs_bind]; simp only [hs_opt]
@[simp] theorem hs_for {l : M (List PyData)} {g : TG'} {b : M Flw} {Q : Flw → DEnv → Prop} : Hs (M.for l g b env) Q = Hs (l env) fun ds e => Hs (forL g b ds e) Q := by rw [M.for, hs_bind]
@[simp] theorem hs_noEnd {Q : Option Int → DEnv → Prop} : Hs (M.noEnd env) Q = Q none env := hs_pure
@[simp] theorem hs_anEnd {m : M PyData} {Q : Option Int → DEnv → Prop} : Hs (M.anEnd m env) Q = Hs (m env) fun d e => Bd (intP d) fun i => Q (some i) e := by
  rw [M.anEnd, hs_bind]
  congr 1
  funext d e
  cases d <;> simp [intP, M.fail]
@[simp] theorem hs_slice {c : M PyData} {a b : M (Option Int)} {Q : PyData → DEnv → Prop} : Hs (M.slice c a b env) Q = Hs (c env) fun x e => Hs (a e) fun l e => Hs (b e) fun h e => Bd (sliceD x l h) fun z => Q z e := by simp only [M.slice, hs_bind, hs_opt]
@[simp] theorem hs_aNil {Q : List AV → DEnv → Prop} : Hs (M.aNil env) Q = Q [] env := hs_pure
@[simp] theorem hs_aV {m : M PyData} {r : M (List AV)} {Q : List AV → DEnv → Prop} : Hs (M.aV m r env) Q = Hs (m env) fun d e => Hs (r e) fun l e => Q (.v d :: l) e := by simp only [M.aV, hs_bind, hs_pure]
@[simp] theorem hs_aO {m : M OD} {r : M (List AV)} {Q : List AV → DEnv → Prop} : Hs (M.aO m r env) Q = Hs (m env) fun d e => Hs (r e) fun l e => Q (.o d :: l) e := by simp only [M.aO, hs_bind, hs_pure]
@[simp] theorem hs_aR {i : Nat} {r : M (List AV)} {Q : List AV → DEnv → Prop} : Hs (M.aR i r env) Q = ((sl env i).isSome = true ∧ Hs (r env) fun l e => Q (.r i :: l) e) := by
  unfold M.aR
  cases hs : sl env i with
  | none => rcases sl_none hs with h | h <;> rw [h] <;> simp
  | some x => rw [sl_some hs]; simp
@[simp] theorem hs_perm {n : Nat} {pm : List Nat} {l r : M (List AV)} {Q : List AV → DEnv → Prop} : Hs (M.perm n pm l r env) Q = Hs (l env) fun a e => Hs (r e) fun b e => Bd (permA n pm a b) fun c => Q c e := by simp only [M.perm, hs_bind, hs_opt]
@[simp] theorem hs_call {f : M OD} {l : M (List AV)} {Q : OD → DEnv → Prop} : Hs (M.call f l env) Q = Hs (l env) fun as e => Bd (takeAll as e) fun p => Hs (f p.1) fun x outs => Q x (putAll as outs p.2) := by
  rw [M.call, hs_bind]
  congr 1
  funext as e
  cases h : takeAll as e with
  | none => simp
  | some p =>
    obtain ⟨a, r⟩ := p
    show Hs (match f a with
      | .ok x outs => .ok x (putAll as outs r)
      | .ex x outs => .ex x (putAll as outs r)
      | .no => .no) Q = _
    rw [bd_some]
    cases hf : f a <;> simp
@[simp] theorem hs_pairs0 {Q : List (PyData × PyData) → DEnv → Prop} : Hs (M.pairs [] env) Q = Q [] env := hs_pure
@[simp] theorem hs_pairs {k v : M PyData} {r : List (M PyData × M PyData)} {Q : List (PyData × PyData) → DEnv → Prop} : Hs (M.pairs ((k, v) :: r) env) Q = Hs (k env) fun a e => Hs (v e) fun b e => Hs (M.pairs r e) fun l e => Q ((a, b) :: l) e := by simp only [M.pairs, hs_bind, hs_pure]
@[simp] theorem hs_disp {pms : List (M PyData × M PyData)} {Q : OD → DEnv → Prop} : Hs (M.disp pms env) Q = Hs (M.pairs pms env) fun l e => Bd (dispO l) fun x => Q x e := by rw [M.disp, hs_bind]; simp only [hs_opt]
/-- a def's end -/
def Fin (B : List Nat) (n : Nat) (Q : OD → DEnv → Prop) : Flw → DEnv → Prop := fun f e => match f with
  | .rt x => Q x (keepB B n e)
  | .nx => Q (.pur .none) (keepB B n e)
  | _ => False
@[simp] theorem fin_rt {B : List Nat} {n : Nat} {Q : OD → DEnv → Prop} {x : OD} : Fin B n Q (.rt x) env = Q x (keepB B n env) := rfl
@[simp] theorem fin_nx {B : List Nat} {n : Nat} {Q : OD → DEnv → Prop} : Fin B n Q .nx env = Q (.pur .none) (keepB B n env) := rfl
theorem hs_runF {n nn : Nat} {B : List Nat} {mb : M Flw} {Q : OD → DEnv → Prop} (h : env.length = n) : Hs (runF n nn B mb env) Q = Hs (mb (env ++ List.replicate (nn - n) none)) (Fin B n Q) := by
  unfold runF
  rw [if_pos h]
  cases q : mb (env ++ List.replicate (nn - n) none) with
  | ok f e => cases f <;> simp [Fin]
  | ex x e => simp
  | no => simp
/-- a loop: an invariant of what is left and the slots -/
theorem hs_forL {g : TG'} {b : M Flw} {Q : Flw → DEnv → Prop} (I : List PyData → DEnv → Prop) (step : ∀ d ds e, I (d :: ds) e → ∃ e1, g d e = some e1 ∧ Hs (b e1) fun f e2 => match f with
    | .nx => I ds e2
    | .ct => I ds e2
    | .bk => Q .nx e2
    | .rt x => Q (.rt x) e2) (done : ∀ e, I [] e → Q .nx e) : ∀ {ds : List PyData} {e : DEnv}, I ds e → Hs (forL g b ds e) Q
  | [], e, h => Hs.mk (done e h)
  | d :: ds, e, h => by
    obtain ⟨e1, h1, h2⟩ := step d ds e h
    simp only [forL, h1]
    cases hb : b e1 with
    | ex x e => rw [hb, hs_ex] at h2; exact h2.elim
    | no => rw [hb, hs_no] at h2; exact h2.elim
    | ok f e2 =>
      rw [hb, hs_ok] at h2
      cases f with
      | nx => exact hs_forL I step done h2
      | ct => exact hs_forL I step done h2
      | bk => exact Hs.mk h2
      | rt x => exact Hs.mk h2
@[simp] theorem hs_lc {it : M (List PyData)} {g : TG'} {vs : List Nat} {tt : M Bool} {el : M PyData} {Q : OD → DEnv → Prop} : Hs (M.lc it g vs tt el env) Q = Hs (it env) fun ds e => Hs (lcL g vs tt el ds (wipeE vs e)) fun ys e' => ys.length ≤ 16777216 ∧ Q (.lst (ys.map .pur)) (restE vs e e') := by
  simp only [M.lc, hs_bind]
  congr 1
  funext ds e
  cases h : lcL g vs tt el ds (wipeE vs e) with
  | ex x e => simp [h]
  | no => simp [h]
  | ok ys e' =>
    simp only [h, hs_ok]
    by_cases hl : ys.length ≤ 16777216 <;> simp [hl]
/-- a comprehension: an invariant of what is left, what is told, the slots -/
theorem hs_lcL {g : TG'} {vs : List Nat} {tt : M Bool} {el : M PyData} (I : List PyData → List PyData → DEnv → Prop) (step : ∀ d ds acc e, I (d :: ds) acc e → ∃ e1, g d e = some e1 ∧ Hs (tt e1) fun k e2 => if k = true then Hs (el e2) fun y e3 => I ds (acc ++ [y]) (wipeE vs e3) else I ds acc (wipeE vs e2)) :
    ∀ {ds acc : List PyData} {e : DEnv} {Q : List PyData → DEnv → Prop}, I ds acc e → (∀ ys e', I [] (acc ++ ys) e' → Q ys e') → Hs (lcL g vs tt el ds e) Q
  | [], acc, e, Q, h, k => Hs.mk (k [] e (by rw [List.append_nil]; exact h))
  | d :: ds, acc, e, Q, h, k => by
    obtain ⟨e1, h1, h2⟩ := step d ds acc e h
    simp only [lcL, h1]
    cases ht : tt e1 with
    | ex x e => rw [ht, hs_ex] at h2; exact h2.elim
    | no => rw [ht, hs_no] at h2; exact h2.elim
    | ok b e2 =>
      rw [ht, hs_ok] at h2
      cases b with
      | false => exact hs_lcL I step (by simpa using h2) k
      | true =>
        have h3 : Hs (el e2) fun y e3 => I ds (acc ++ [y]) (wipeE vs e3) := by simpa using h2
        simp only
        cases he : el e2 with
        | ex x e => rw [he, hs_ex] at h3; exact h3.elim
        | no => rw [he, hs_no] at h3; exact h3.elim
        | ok y e3 =>
          rw [he, hs_ok] at h3
          have h4 := hs_lcL I step (Q := fun ys e' => Q (y :: ys) e') (acc := acc ++ [y]) h3 fun ys e' q => k (y :: ys) e' (by simpa using q)
          simp only
          cases hl : lcL g vs tt el ds (wipeE vs e3) with
          | ex x e => rw [hl, hs_ex] at h4; exact h4.elim
          | no => rw [hl, hs_no] at h4; exact h4.elim
          | ok ys e4 => rw [hl, hs_ok] at h4; exact Hs.mk h4
end
end DL

set_option maxHeartbeats 2000000
/-! DL23: operators of data, as rewriting. -/
namespace DL
open PySem PySem.Spec PyProof.Rows L2

section
variable {i j : Int} {x y : Str} {xs ys : List PyData} {Q : PyData → Prop}
@[simp] theorem addD_int : addD (.int i) (.int j) = some (.int (i + j)) := rfl
@[simp] theorem addD_str : Bd (addD (.str x) (.str y)) Q = (x.length + y.length ≤ lim ∧ Q (.str (x ++ y))) := bd_ite
@[simp] theorem addD_list : Bd (addD (.list xs) (.list ys)) Q = (xs.length + ys.length ≤ lim ∧ Q (.list (xs ++ ys))) := bd_ite
@[simp] theorem addD_tup : Bd (addD (.tuple xs) (.tuple ys)) Q = (xs.length + ys.length ≤ lim ∧ Q (.tuple (xs ++ ys))) := bd_ite
@[simp] theorem subD_int : subD (.int i) (.int j) = some (.int (i - j)) := rfl
@[simp] theorem mulD_int : Bd (mulD (.int i) (.int j)) Q = (mulC i j = true ∧ Q (.int (i * j))) := bd_ite
@[simp] theorem divD_int : Bd (divD (.int i) (.int j)) Q = (divC i j = true ∧ Q (.int (i.fdiv j))) := bd_ite
@[simp] theorem modD_int : Bd (modD (.int i) (.int j)) Q = (j ≠ 0 ∧ Q (.int (i.fmod j))) := by
  have : modD (.int i) (.int j) = if decide (j ≠ 0) = true then some (.int (i.fmod j)) else none := rfl
  rw [this, bd_ite]
  simp
@[simp] theorem powD_int : Bd (powD (.int i) (.int j)) Q = (powC i j = true ∧ Q (.int (i ^ j.toNat))) := bd_ite
@[simp] theorem negD_int : negD (.int i) = some (.int (-i)) := rfl
@[simp] theorem ltD_int : ltD (.int i) (.int j) = some (.bool (decide (i < j))) := rfl
@[simp] theorem leD_int : leD (.int i) (.int j) = some (.bool (decide (i ≤ j))) := rfl
@[simp] theorem gtD_int : gtD (.int i) (.int j) = some (.bool (decide (j < i))) := rfl
@[simp] theorem geD_int : geD (.int i) (.int j) = some (.bool (decide (j ≤ i))) := rfl
theorem eqD_of {d e : PyData} (h1 : SeqAt.shaped d = true) (h2 : SeqAt.shaped e = true) : eqD d e = some (.bool (PyData.eqv d e)) := by unfold eqD; rw [h1, h2]; rfl
theorem neD_of {d e : PyData} (h1 : SeqAt.shaped d = true) (h2 : SeqAt.shaped e = true) : neD d e = some (.bool (!PyData.eqv d e)) := by unfold neD; rw [h1, h2]; rfl
theorem shaped_int : SeqAt.shaped (.int i) = true := by simp [SeqAt.shaped, PyData.canLay0, PyData.depth]
@[simp] theorem eqD_int : eqD (.int i) (.int j) = some (.bool (i == j)) := by rw [eqD_of shaped_int shaped_int]; simp [PyData.eqv]
@[simp] theorem neD_int : neD (.int i) (.int j) = some (.bool (!(i == j))) := by rw [neD_of shaped_int shaped_int]; simp [PyData.eqv]
@[simp] theorem neD_bool {a b : Bool} : neD (.bool a) (.bool b) = some (.bool (!(a == b))) := by rw [neD_of (by simp [SeqAt.shaped, PyData.canLay0, PyData.depth]) (by simp [SeqAt.shaped, PyData.canLay0, PyData.depth])]; simp [PyData.eqv]
@[simp] theorem eqD_str : Bd (eqD (.str x) (.str y)) Q = ((PyData.strOk x = true ∧ PyData.strOk y = true) ∧ Q (.bool (x == y))) := by
  unfold eqD
  rw [bd_ite]
  simp [SeqAt.shaped, PyData.canLay0, PyData.depth, PyData.eqv]
@[simp] theorem neD_str : Bd (neD (.str x) (.str y)) Q = ((PyData.strOk x = true ∧ PyData.strOk y = true) ∧ Q (.bool (!(x == y)))) := by
  unfold neD
  rw [bd_ite]
  simp [SeqAt.shaped, PyData.canLay0, PyData.depth, PyData.eqv]
@[simp] theorem absD_int : one absD [.int i] = some (.int (if i < 0 then -i else i)) := rfl
@[simp] theorem intD_int : one intD [.int i] = some (.int i) := rfl
@[simp] theorem intD_bool {b : Bool} : one intD [.bool b] = some (.int (if b then 1 else 0)) := rfl
@[simp] theorem lenD_list : one lenD [.list xs] = some (.int xs.length) := rfl
@[simp] theorem lenD_tup : one lenD [.tuple xs] = some (.int xs.length) := rfl
@[simp] theorem minD_int : two minD [.int i, .int j] = some (.int (if j < i then j else i)) := rfl
@[simp] theorem maxD_int : two maxD [.int i, .int j] = some (.int (if j > i then j else i)) := rfl
theorem ixD_nn {n : Nat} {k : Int} (h0 : 0 ≤ k) (h1 : k < n) : ixD n k = some k.toNat := by unfold ixD; rw [if_pos h0, if_pos h1]
theorem itemD_list {k : Int} (h0 : 0 ≤ k) (h1 : k < xs.length) : itemD (.list xs) (.int k) = xs[k.toNat]? := by simp [itemD, ixD_nn h0 h1]
@[simp] theorem dataL_purs {ds : List PyData} : OD.dataL (ds.map .pur) = some ds := dataL_pur ds
@[simp] theorem data_lst {ds : List PyData} : (OD.lst (ds.map .pur)).data = some (.list ds) := by simp [OD.data]
@[simp] theorem data_nil : (OD.lst []).data = some (.list []) := rfl
@[simp] theorem data_pur {d : PyData} : (OD.pur d).data = some d := rfl
theorem canLay_ints : ∀ {cs : List Int}, PyData.canLayAll0 (cs.map .int) = true
  | [] => rfl
  | c :: cs => by simp [PyData.canLayAll0, PyData.canLay0, canLay_ints (cs := cs)]
theorem depth_ints : ∀ {cs : List Int}, PyData.depthAll (cs.map .int) = 0
  | [] => rfl
  | c :: cs => by simp [PyData.depthAll, PyData.depth, depth_ints (cs := cs)]
theorem shaped_ints {cs : List Int} : SeqAt.shaped (.list (cs.map .int)) = true := by simp [SeqAt.shaped, PyData.canLay0, PyData.depth, canLay_ints, depth_ints]
@[simp] theorem neD_ints_nil {cs : List Int} : neD (.list (cs.map .int)) (.list []) = some (.bool (!cs.isEmpty)) := by
  rw [neD_of shaped_ints (by decide)]
  cases cs <;> simp [PyData.eqv, PyData.eqvAll]
end
/-! ### bounds -/
theorem divC_ok' {i j : Int} (h0 : 0 < j) (h1 : j < 2 ^ 64) : divC i j = true := by
  have : j.natAbs.log2 < 9000 := by
    have h2 : j.natAbs < 2 ^ 64 := by omega
    have := Nat.log2_lt (n := j.natAbs) (k := 64) (by omega)
    have := this.mpr h2
    omega
  simp [divC, this]
  omega
theorem powC_ok' {i j : Int} (h0 : 0 ≤ j) (h1 : j ≤ 1000000) (h2 : i.natAbs < 2 ^ 64) : powC i j = true := by simp [powC, h0, h1, h2]
theorem mulC_l {i j : Int} (h : i.natAbs < 2 ^ 64) : mulC i j = true := by simp [mulC, h]
theorem mulC_r {i j : Int} (h : j.natAbs < 2 ^ 64) : mulC i j = true := by simp [mulC, h]
end DL

set_option maxHeartbeats 2000000
/-! DL24: a mirror's run, step by step. -/
namespace DL
open PySem PySem.Spec PyProof.Rows L2
section
variable {α β : Type} {env : DEnv} {i j : Int} {Q : PyData → Prop}
theorem st_set {i : Nat} {m : M OD} {Q : Flw → DEnv → Prop} (h : Hs (m env) fun x e => Nat.ble (i + 1) e.length = true ∧ Q .nx (e.set i (some x))) : Hs (M.set i m env) Q := by
  rw [hs_set]
  exact h.mono fun x e ⟨h1, h2⟩ => ⟨Nat.le_of_ble_eq_true h1, h2⟩
theorem st_then {b : M Flw} {Q : Flw → DEnv → Prop} {e : DEnv} (h : env = e) (q : Hs (b e) Q) : Then b Q .nx env := by subst h; exact q
theorem hs_runE {n nn : Nat} {B : List Nat} {mb : M Flw} {Q : OD → DEnv → Prop} (e : DEnv) (h : env.length = n) (he : env ++ List.replicate (nn - n) none = e) (q : Hs (mb e) (Fin B n Q)) : Hs (runF n nn B mb env) Q := by subst he; rw [hs_runF h]; exact q
theorem st_rdp {i : Nat} {d : PyData} {Q : PyData → DEnv → Prop} (h : sl env i = some (.pur d)) (q : Q d env) : Hs (M.rd i env) Q := by
  unfold M.rd
  rw [sl_some h]
  exact Hs.mk q
theorem st_mul (c : mulC i j = true) (q : Q (.int (i * j))) : Bd (mulD (.int i) (.int j)) Q := by rw [mulD_int]; exact ⟨c, q⟩
theorem st_div (c : divC i j = true) (q : Q (.int (i.fdiv j))) : Bd (divD (.int i) (.int j)) Q := by rw [divD_int]; exact ⟨c, q⟩
theorem st_mod (c : j ≠ 0) (q : Q (.int (i.fmod j))) : Bd (modD (.int i) (.int j)) Q := by rw [modD_int]; exact ⟨c, q⟩
theorem st_pow (c : powC i j = true) (q : Q (.int (i ^ j.toNat))) : Bd (powD (.int i) (.int j)) Q := by rw [powD_int]; exact ⟨c, q⟩
theorem st_bd {o : Option α} {a : α} {Q : α → Prop} (h : o = some a) (q : Q a) : Bd o Q := Bd.some h q
theorem st_eqi (q : Q (.bool (i == j))) : Bd (eqD (.int i) (.int j)) Q := Bd.some eqD_int q
theorem st_nei (q : Q (.bool (!(i == j)))) : Bd (neD (.int i) (.int j)) Q := Bd.some neD_int q
theorem st_neb {a b : Bool} (q : Q (.bool (!(a == b)))) : Bd (neD (.bool a) (.bool b)) Q := Bd.some neD_bool q
theorem st_and {A C : Prop} (a : A) (c : C) : A ∧ C := ⟨a, c⟩
theorem st_sl {i : Nat} {d : PyData} {Q : PyData → Prop} (h : (sl env i).bind OD.data = some d) (q : Q d) : Bd ((sl env i).bind OD.data) Q := Bd.some h q
theorem st_mv {i : Nat} {x : OD} {Q : OD → Prop} (h : sl env i = some x) (q : Q x) : Bd (sl env i) Q := Bd.some h q
theorem st_ro {o : Option OD} {d : PyData} {Q : PyData → Prop} (h : o.bind purD = some d) (q : Q d) : Bd (o.bind purD) Q := Bd.some h q
theorem st_so {o : Option OD} {c : OD → Option OD} {d : OD} {Q : OD → Prop} (h : o.bind c = some d) (q : Q d) : Bd (o.bind c) Q := Bd.some h q
theorem st_chg {o : Option OD} {c : OD → Option (OD × OD)} {d : OD × OD} {Q : OD × OD → Prop} (h : o.bind c = some d) (q : Q d) : Bd (o.bind c) Q := Bd.some h q
theorem st_boolP {b : Bool} {Q : Bool → Prop} (q : Q b) : Bd (boolP (.bool b)) Q := ⟨_, rfl, q⟩
theorem st_intP {b : Int} {Q : Int → Prop} (q : Q b) : Bd (intP (.int b)) Q := ⟨_, rfl, q⟩
theorem st_trueB {b : Bool} {Q : Bool → Prop} (q : Q b) : Bd (trueD (.bool b)) Q := ⟨_, rfl, q⟩
theorem st_add (q : Q (.int (i + j))) : Bd (addD (.int i) (.int j)) Q := ⟨_, rfl, q⟩
theorem st_sub (q : Q (.int (i - j))) : Bd (subD (.int i) (.int j)) Q := ⟨_, rfl, q⟩
theorem st_neg (q : Q (.int (-i))) : Bd (negD (.int i)) Q := ⟨_, rfl, q⟩
theorem st_lt (q : Q (.bool (decide (i < j)))) : Bd (ltD (.int i) (.int j)) Q := ⟨_, rfl, q⟩
theorem st_le (q : Q (.bool (decide (i ≤ j)))) : Bd (leD (.int i) (.int j)) Q := ⟨_, rfl, q⟩
theorem st_gt (q : Q (.bool (decide (j < i)))) : Bd (gtD (.int i) (.int j)) Q := ⟨_, rfl, q⟩
theorem st_ge (q : Q (.bool (decide (j ≤ i)))) : Bd (geD (.int i) (.int j)) Q := ⟨_, rfl, q⟩
theorem st_abs (q : Q (.int (if i < 0 then -i else i))) : Bd (one absD [.int i]) Q := ⟨_, rfl, q⟩
theorem st_lenL {xs : List PyData} (q : Q (.int xs.length)) : Bd (one lenD [.list xs]) Q := ⟨_, rfl, q⟩
theorem st_lenT {xs : List PyData} (q : Q (.int xs.length)) : Bd (one lenD [.tuple xs]) Q := ⟨_, rfl, q⟩
theorem st_intB {b : Bool} (q : Q (.int (if b then 1 else 0))) : Bd (one intD [.bool b]) Q := ⟨_, rfl, q⟩
theorem st_min (q : Q (.int (if j < i then j else i))) : Bd (two minD [.int i, .int j]) Q := ⟨_, rfl, q⟩
theorem st_max (q : Q (.int (if j > i then j else i))) : Bd (two maxD [.int i, .int j]) Q := ⟨_, rfl, q⟩
theorem st_datL {xs : List PyData} (q : Q (.list xs)) : Bd (OD.lst (xs.map .pur)).data Q := Bd.some data_lst q
theorem st_datP {d : PyData} (q : Q d) : Bd (OD.pur d).data Q := ⟨_, rfl, q⟩
theorem st_neints {cs : List Int} (q : Q (.bool (!cs.isEmpty))) : Bd (neD (.list (cs.map .int)) (.list [])) Q := Bd.some neD_ints_nil q
theorem st_rng1 {Q : List PyData → Prop} (c : -(2 ^ 62) ≤ j ∧ j < 2 ^ 62) (q : Q (rangeL 0 1 j.toNat)) : Bd (rangeD1 [.int j]) Q := Bd.some (by simp only [rangeD1]; rw [if_pos (rgI_iff.mpr c)]) q
theorem st_itL {xs : List PyData} {Q : List PyData → Prop} (q : Q xs) : Bd (itemsD (.list xs)) Q := ⟨_, rfl, q⟩
theorem st_itT {xs : List PyData} {Q : List PyData → Prop} (q : Q xs) : Bd (itemsD (.tuple xs)) Q := ⟨_, rfl, q⟩
theorem st_enL {xs : List PyData} {Q : List PyData → Prop} (q : Q (enumL xs)) : Bd (enumA [.list xs]) Q := ⟨_, rfl, q⟩
theorem st_enT {xs : List PyData} {Q : List PyData → Prop} (q : Q (enumL xs)) : Bd (enumA [.tuple xs]) Q := ⟨_, rfl, q⟩
theorem st_take {as : List AV} {p : DEnv × DEnv} {Q : DEnv × DEnv → Prop} (h : takeAll as env = some p) (q : Q p) : Bd (takeAll as env) Q := Bd.some h q
theorem fm (a : Int) {m : Int} (h : 0 < m) : 0 ≤ a.fmod m ∧ a.fmod m < m := ⟨Int.fmod_nonneg_of_pos a h, Int.fmod_lt_of_pos a h⟩
theorem item_ints {cs : List Int} {k : Int} (h0 : 0 ≤ k) (h1 : k < cs.length) : ∃ c, itemD (.list (cs.map .int)) (.int k) = some (.int c) := by
  rw [itemD_list h0 (by simpa using h1)]
  have : k.toNat < cs.length := by omega
  exact ⟨cs[k.toNat], by simp [this]⟩
end
end DL

set_option maxHeartbeats 2000000
/-! DL25: data whose text is told without trouble. -/
namespace DL
open PySem PySem.Spec PyProof.Rows L2
def okS (x : Str) : Prop := ∀ c ∈ x.cps.toList, c < 0x110000
theorem okS_iff {x : Str} : PyData.strOk x = true ↔ okS x := by
  unfold PyData.strOk okS
  rw [Array.all_eq_true']
  simp
theorem okS_app {x y : Str} (h : okS x) (k : okS y) : okS (x ++ y) := fun c hc => by
  rcases mem_cps_append.mp hc with z | z
  · exact h c z
  · exact k c z
theorem okS_join {s : Str} (h : okS s) {ts : List Str} (k : ∀ t ∈ ts, okS t) : okS (Str.join s ts) := fun c hc => by
  rcases (mem_join s c ts).mp hc with ⟨t, ht, z⟩ | z
  · exact k t ht c z
  · exact h c z.2
theorem okS_textFrom : ∀ {ts : List Str} {k : Nat} {acc : Str}, okS acc → (∀ t ∈ ts, okS t) → okS (textFrom k acc ts)
  | [], k, acc, h, _ => h
  | t :: ts, k, acc, h, g => by
    show okS (textFrom (k + 1) (acc ++ (if k > 0 then ", " else "" : String) ++ t) ts)
    refine okS_textFrom (okS_app (okS_app h ?_) (g t (by simp))) fun t ht => g t (by simp [ht])
    split
    · exact okS_iff.mp (by decide +kernel)
    · exact okS_iff.mp (by decide +kernel)
theorem okS_list {ts : List Str} (h : ∀ t ∈ ts, okS t) : okS (listText ts) := okS_app (okS_textFrom (okS_iff.mp (by decide +kernel)) h) (okS_iff.mp (by decide +kernel))
theorem okS_tup {ts : List Str} (h : ∀ t ∈ ts, okS t) : okS (tupleText ts) := by
  refine okS_app (okS_app (okS_iff.mp (by decide +kernel)) (okS_join (okS_iff.mp (by decide +kernel)) h)) ?_
  split
  · exact okS_iff.mp (by decide +kernel)
  · exact okS_iff.mp (by decide +kernel)
/-- told in a text of at most so many signs, of at most so many floors -/
structure Gv (d : PyData) (n B : Nat) : Prop where
  sh : d.showable = true
  dp : d.depth ≤ n
  ok : PyData.strOk d.shown = true
  ln : d.shown.length ≤ B
theorem Gv.up {d : PyData} {n B n' B' : Nat} (h : Gv d n B) (h1 : n ≤ n') (h2 : B ≤ B') : Gv d n' B' := ⟨h.sh, Nat.le_trans h.dp h1, h.ok, Nat.le_trans h.ln h2⟩
theorem gw_int {i : Int} (h : i.natAbs < 10 ^ 500) : Gv (.int i) 0 501 where
  sh := by
    have h1 : i.natAbs < 2 ^ 1900 := Nat.lt_of_lt_of_le h (by decide +kernel)
    simp only [PyData.showable, decide_eq_true_eq]
    by_cases h0 : i.natAbs = 0
    · rw [h0]; decide +kernel
    · exact Nat.lt_trans ((Nat.log2_lt h0).mpr h1) (by decide)
  dp := by simp [PyData.depth]
  ok := okS_iff.mpr fun c hc => by
    apply Classical.byContradiction
    intro hn
    exact shown_int_free' (k := c) (by omega) i hc
  ln := by
    have e := int_text_length_le10 (k := 500) (by decide) h
    show (Str.ofString (toString i)).length ≤ 501
    rw [PySem.ofString_length]; exact e
theorem gw_intB {i : Int} {k : Nat} (hk : 0 < k) (hk5 : k ≤ 500) (h : i.natAbs < 10 ^ k) : Gv (.int i) 0 (k + 1) where
  sh := (gw_int (Nat.lt_of_lt_of_le h (Nat.pow_le_pow_right (by decide) hk5))).sh
  dp := by simp [PyData.depth]
  ok := (gw_int (Nat.lt_of_lt_of_le h (Nat.pow_le_pow_right (by decide) hk5))).ok
  ln := by
    have e := int_text_length_le10 (k := k) hk h
    show (Str.ofString (toString i)).length ≤ k + 1
    rw [PySem.ofString_length]; exact e
theorem showAll {xs : List PyData} (h : ∀ x ∈ xs, x.showable = true) : PyData.showableAll xs = true := by
  induction xs with
  | nil => rfl
  | cons x xs ih => simp only [PyData.showableAll, h x (by simp), ih fun y hy => h y (by simp [hy]), Bool.and_self]
theorem depAll {xs : List PyData} {n : Nat} (h : ∀ x ∈ xs, x.depth ≤ n) : PyData.depthAll xs ≤ n := by
  induction xs with
  | nil => simp [PyData.depthAll]
  | cons x xs ih =>
    have h1 := h x (by simp)
    have h2 := ih fun y hy => h y (by simp [hy])
    simp only [PyData.depthAll]
    omega
theorem mem_shownAll {xs : List PyData} {t : Str} (h : t ∈ PyData.shownAll xs) : ∃ x ∈ xs, t = x.shown := by
  induction xs with
  | nil => simp [PyData.shownAll] at h
  | cons x xs ih =>
    simp only [PyData.shownAll, List.mem_cons] at h
    rcases h with rfl | h
    · exact ⟨x, by simp, rfl⟩
    · obtain ⟨y, hy, e⟩ := ih h
      exact ⟨y, by simp [hy], e⟩
theorem sum_le {ts : List Str} {B : Nat} (h : ∀ t ∈ ts, t.length ≤ B) : (ts.map (·.length)).sum ≤ B * ts.length := by
  induction ts with
  | nil => simp
  | cons t ts ih =>
    have h1 := h t (by simp)
    have h2 := ih fun y hy => h y (by simp [hy])
    simp only [List.map_cons, List.sum_cons, List.length_cons, Nat.mul_add]
    omega
theorem gw_tup {xs : List PyData} {n B : Nat} (h : ∀ x ∈ xs, Gv x n B) : Gv (.tuple xs) (n + 1) ((B + 2) * xs.length + 3) where
  sh := by simp only [PyData.showable]; exact showAll fun x hx => (h x hx).sh
  dp := by have := depAll fun x hx => (h x hx).dp; simp only [PyData.depth]; omega
  ok := okS_iff.mpr (by
    simp only [PyData.shown]
    exact okS_tup fun t ht => by obtain ⟨x, hx, rfl⟩ := mem_shownAll ht; exact okS_iff.mp (h x hx).ok)
  ln := by
    have h1 := tupleText_len_le (PyData.shownAll xs)
    have h2 : ((PyData.shownAll xs).map (·.length)).sum ≤ B * (PyData.shownAll xs).length := sum_le fun t ht => by obtain ⟨x, hx, rfl⟩ := mem_shownAll ht; exact (h x hx).ln
    rw [PyData.shownAll_length] at h1 h2
    simp only [PyData.shown, Nat.add_mul]
    omega
theorem gw_list {xs : List PyData} {n B : Nat} (h : ∀ x ∈ xs, Gv x n B) : Gv (.list xs) (n + 1) ((B + 2) * xs.length + 3) where
  sh := by simp only [PyData.showable]; exact showAll fun x hx => (h x hx).sh
  dp := by have := depAll fun x hx => (h x hx).dp; simp only [PyData.depth]; omega
  ok := okS_iff.mpr (by
    simp only [PyData.shown]
    exact okS_list fun t ht => by obtain ⟨x, hx, rfl⟩ := mem_shownAll ht; exact okS_iff.mp (h x hx).ok)
  ln := by
    have h1 := listText_len_le (PyData.shownAll xs)
    have h2 : ((PyData.shownAll xs).map (·.length)).sum ≤ B * (PyData.shownAll xs).length := sum_le fun t ht => by obtain ⟨x, hx, rfl⟩ := mem_shownAll ht; exact (h x hx).ln
    rw [PyData.shownAll_length] at h1 h2
    simp only [PyData.shown, Nat.add_mul]
    omega
theorem st_repr {d : PyData} {n B : Nat} (h : Gv d n B) (hn : n ≤ 64) (hB : B ≤ 16777216) {Q : PyData → Prop} (q : Q (.str d.shown)) : Bd (one reprD [d]) Q := by
  refine Bd.some (a := .str d.shown) ?_ q
  show reprD d = _
  have h1 := Nat.le_trans h.dp hn
  have h2 := Nat.le_trans h.ln hB
  simp only [reprD, h.sh, decide_eq_true h1, decide_eq_true h2, Bool.and_self, if_true]
theorem st_neSame {d : PyData} {n B : Nat} (h : Gv d n B) {Q : PyData → Prop} (q : Q (.bool false)) : Bd (neD (.str d.shown) (.str d.shown)) Q := by
  rw [neD_str]
  refine ⟨⟨h.ok, h.ok⟩, ?_⟩
  have : (d.shown == d.shown) = true := beq_self_eq_true _
  rw [this]
  exact q
theorem rangeL01 {n : Nat} : rangeL 0 1 n = (List.range n).map fun (k : Nat) => .int (k : Int) := by
  unfold rangeL
  congr 1
  funext k
  simp
end DL

set_option maxHeartbeats 2000000
/-! DL26: loops and comprehensions by the number of the turn. -/
namespace DL
open PySem PySem.Spec PyProof.Rows L2
/-- what comes behind a loop's body -/
def LpQ (J : DEnv → Prop) (Q : Flw → DEnv → Prop) : Flw → DEnv → Prop := fun f e => match f with
  | .nx => J e
  | .ct => J e
  | .bk => Q .nx e
  | .rt x => Q (.rt x) e
theorem lp_nx {J : DEnv → Prop} {Q : Flw → DEnv → Prop} {e : DEnv} (q : J e) : LpQ J Q .nx e := q
theorem lp_ct {J : DEnv → Prop} {Q : Flw → DEnv → Prop} {e : DEnv} (q : J e) : LpQ J Q .ct e := q
theorem lp_bk {J : DEnv → Prop} {Q : Flw → DEnv → Prop} {e : DEnv} (q : Q .nx e) : LpQ J Q .bk e := q
theorem lp_rt {J : DEnv → Prop} {Q : Flw → DEnv → Prop} {e : DEnv} {x : OD} (q : Q (.rt x) e) : LpQ J Q (.rt x) e := q
theorem iff2_nf {A B : Prop} (q : A) : Iff2 (!false) A B := q
theorem iff2_nt {A B : Prop} (q : B) : Iff2 (!true) A B := q
theorem hs_forN {g : TG'} {b : M Flw} {Q : Flw → DEnv → Prop} {ds : List PyData} (J : Nat → DEnv → Prop) (step : ∀ i d, ds[i]? = some d → ∀ e, J i e → ∃ e1, g d e = some e1 ∧ Hs (b e1) (LpQ (J (i + 1)) Q)) (done : ∀ e, J ds.length e → Q .nx e) {e : DEnv} (h : J 0 e) : Hs (forL g b ds e) Q := by
  refine hs_forL (fun l e => ∃ i, i ≤ ds.length ∧ l = ds.drop i ∧ J i e) ?_ ?_ ⟨0, Nat.zero_le _, rfl, h⟩
  · rintro d l e ⟨i, hi, e1, hj⟩
    have hlt : i < ds.length := by
      apply Classical.byContradiction
      intro hn
      rw [List.drop_eq_nil_of_le (by omega)] at e1
      cases e1
    rw [List.drop_eq_getElem_cons hlt] at e1
    cases e1
    obtain ⟨e1, h1, h2⟩ := step i _ (List.getElem?_eq_getElem hlt) e hj
    refine ⟨e1, h1, h2.mono ?_⟩
    intro f e2 h3
    cases f with
    | nx => exact ⟨i + 1, hlt, rfl, h3⟩
    | ct => exact ⟨i + 1, hlt, rfl, h3⟩
    | bk => exact h3
    | rt x => exact h3
  · rintro e ⟨i, hi, e1, hj⟩
    have : ds.length ≤ i := by
      have := congrArg List.length e1
      simp only [List.length_nil, List.length_drop] at this
      omega
    have : i = ds.length := by omega
    subst this
    exact done e hj
theorem hs_lcN {g : TG'} {vs : List Nat} {tt : M Bool} {el : M PyData} {ds : List PyData} (J : Nat → List PyData → DEnv → Prop) (step : ∀ i d, ds[i]? = some d → ∀ acc e, J i acc e → ∃ e1, g d e = some e1 ∧ Hs (tt e1) fun k e2 => if k = true then Hs (el e2) fun y e3 => J (i + 1) (acc ++ [y]) (wipeE vs e3) else J (i + 1) acc (wipeE vs e2))
    {e : DEnv} {Q : List PyData → DEnv → Prop} (h : J 0 [] e) (q : ∀ ys e', J ds.length ys e' → Q ys e') : Hs (lcL g vs tt el ds e) Q := by
  refine hs_lcL (fun l acc e => ∃ i, i ≤ ds.length ∧ l = ds.drop i ∧ J i acc e) ?_ (acc := []) ⟨0, Nat.zero_le _, rfl, h⟩ ?_
  · rintro d l acc e ⟨i, hi, e1, hj⟩
    have hlt : i < ds.length := by
      apply Classical.byContradiction
      intro hn
      rw [List.drop_eq_nil_of_le (by omega)] at e1
      cases e1
    rw [List.drop_eq_getElem_cons hlt] at e1
    cases e1
    obtain ⟨e1, h1, h2⟩ := step i _ (List.getElem?_eq_getElem hlt) acc e hj
    refine ⟨e1, h1, h2.mono ?_⟩
    intro k e2 h3
    cases k with
    | true =>
      rw [if_pos rfl] at h3 ⊢
      exact h3.mono fun y e3 h4 => ⟨i + 1, hlt, rfl, h4⟩
    | false =>
      rw [if_neg (by simp)] at h3 ⊢
      exact ⟨i + 1, hlt, rfl, h3⟩
  · rintro ys e' ⟨i, hi, e1, hj⟩
    have : ds.length ≤ i := by
      have := congrArg List.length e1
      simp only [List.length_nil, List.length_drop] at this
      omega
    have : i = ds.length := by omega
    subst this
    exact q ys e' (by simpa using hj)
theorem enumL_get {xs : List PyData} {i : Nat} {d : PyData} (h : (enumL xs)[i]? = some d) : ∃ x, xs[i]? = some x ∧ d = .tuple [.int (i : Int), x] := by
  unfold enumL at h
  rw [List.getElem?_mapIdx] at h
  obtain ⟨x, h1, h2⟩ := Option.map_eq_some_iff.mp h
  exact ⟨x, h1, h2.symm⟩
theorem enumL_len {xs : List PyData} : (enumL xs).length = xs.length := by simp [enumL]
theorem map_get {α : Type} {f : α → PyData} {l : List α} {i : Nat} {d : PyData} (h : (l.map f)[i]? = some d) : ∃ x, l[i]? = some x ∧ d = f x := by
  rw [List.getElem?_map] at h
  obtain ⟨x, h1, h2⟩ := Option.map_eq_some_iff.mp h
  exact ⟨x, h1, h2.symm⟩
end DL

set_option maxHeartbeats 2000000
/-! DL27: (a, b) = e; e != {}; sorted(tuples of ints); chained comparisons. -/
namespace DL
open PySem PySem.Spec PyProof.Rows L2
def M.asgT (m : M PyData) (g : TG') : M Flw := M.bind m fun d env => match g d env with
  | some e => .ok .nx e
  | none => .no
section
variable {X : Cx} {W : WX} {B is : List Nat} {e tg a b c : Expr} {md ma mb mc : M PyData} {g : TG'} {pos pos' p2 : Pos}
/-! ### e != {} -/
/-! ### a < b < c -/
/-! ### sorted(a list of tuples of ints that stands in order already) -/
end
end DL

set_option maxHeartbeats 2000000
/-! DL28: sorted(..) of tuples of ints that stand in order already. -/
namespace DL
open PySem PySem.Spec PyProof.Rows L2
theorem mapM_cons {α β : Type} {f : α → Option β} {a : α} {l : List α} {r : List β} (h : (a :: l).mapM f = some r) : ∃ b bs, f a = some b ∧ l.mapM f = some bs ∧ r = b :: bs := by
  rw [List.mapM_cons] at h
  cases e : f a with
  | none => rw [e] at h; cases h
  | some b =>
    rw [e] at h
    cases e2 : l.mapM f with
    | none => rw [e2] at h; cases h
    | some bs => rw [e2] at h; cases h; exact ⟨b, bs, rfl, rfl, rfl⟩
section
variable {X : Cx}
end
end DL

set_option maxHeartbeats 2000000
/-! DL29: {k: v for target in x.items() if ..}, x an own dict of frozen values that nobody reads behind. -/
namespace DL
open PySem PySem.Spec PyProof.Rows L2
/-- the values of a dict, each frozen -/
def pursO : List OD → Option (List PyData)
  | [] => some []
  | .pur d :: xs => (pursO xs).map (d :: ·)
  | _ => none
section
variable {K : PySem.W.Frag} {mg : Str → Option Value} {W : WX} {B vs : List Nat} {g : TG'} {mt : M Bool} {mk mv : M PyData} {σ : L2.St} {H : Hp} {Q : VK}
end
section
variable {X : Cx} {W : WX} {B : List Nat} {kx vx tg : Expr} {ifs : List Expr} {scope : Scope} {own : List (Str × Nat)} {pos py apos cpos : Pos} {g : TG'} {mt : M Bool} {mk mv : M PyData} {elts : List Expr} {kk : Nat} {tpos : Pos} {x : Str}
end
end DL

set_option maxHeartbeats 2000000
/-! DL30: rules for a mirror's run that several laws want. -/
namespace DL
open PySem PySem.Spec PyProof.Rows L2
theorem st_itemL {α : Type} {f : α → PyData} {l : List α} {k : Nat} {x : α} (h : l[k]? = some x) {Q : PyData → Prop} (q : Q (f x)) : Bd (itemD (.list (l.map f)) (.int (k : Int))) Q := by
  have hk := (List.getElem?_eq_some_iff.mp h).1
  rw [itemD_list (by omega) (by simp; omega)]
  exact ⟨_, by simp [h], q⟩
theorem st_ixLm {xs : List PyData} {d : Int} {Q : PyData → Prop} (h0 : 0 ≤ d) (h1 : d < xs.length) (q : ∀ z ∈ xs, Q z) : Bd (itemD (.list xs) (.int d)) Q := by
  rw [itemD_list h0 h1]
  have : d.toNat < xs.length := by omega
  simp only [List.getElem?_eq_getElem this]
  exact ⟨_, rfl, q _ (List.getElem_mem _)⟩
theorem cut_takeD {xs : List PyData} {k : Int} (h : 0 ≤ k) : DL.cutD xs none (some k) = xs.take k.toNat := by
  unfold DL.cutD
  have e1 : HT.sIx xs.length 0 none = 0 := rfl
  have e2 : HT.sIx xs.length xs.length (some k) = min k.toNat xs.length := by
    simp only [HT.sIx]
    split <;> omega
  rw [e1, e2, List.drop_zero, Nat.sub_zero, List.take_eq_take_iff]
  omega
theorem st_cutL {α : Type} {f : α → PyData} {l : List α} {k : Int} (h : 0 ≤ k) {Q : PyData → Prop} (q : Q (.list ((l.take k.toNat).map f))) : Bd (sliceD (.list (l.map f)) none (some k)) Q := by
  refine st_bd ?_ q
  simp only [sliceD, cut_takeD h, List.map_take]
theorem st_cutT {α : Type} {f : α → PyData} {l : List α} {k : Int} (h : 0 ≤ k) {Q : PyData → Prop} (q : Q (.tuple ((l.take k.toNat).map f))) : Bd (sliceD (.tuple (l.map f)) none (some k)) Q := by
  refine st_bd ?_ q
  simp only [sliceD, cut_takeD h, List.map_take]
end DL
namespace DL
open PySem PySem.Spec PyProof.Rows L2
end DL

set_option maxHeartbeats 2000000
/-! DL31: runs of dict comprehensions, of (a, b) = e. -/
namespace DL
open PySem PySem.Spec PyProof.Rows L2
theorem hs_asgT {m : M PyData} {g : TG'} {env : DEnv} {Q : Flw → DEnv → Prop} (h : Hs (m env) fun d e => ∃ e', g d e = some e' ∧ Q .nx e') : Hs (M.asgT m g env) Q := by
  unfold M.asgT
  rw [hs_bind]
  refine h.mono ?_
  rintro d e ⟨e', h1, h2⟩
  rw [h1]
  exact Hs.mk h2
end DL
namespace DL
open PySem PySem.Spec PyProof.Rows L2
theorem st_put {env : DEnv} {i : Nat} {ks : List Key} {xs : List OD} {k : Key} {z : PyData} {Q : OD → Prop} (h : sl env i = some (.dK ks xs)) (hk : k ∉ ks) (hl : ks.length < 16777216) (q : Q (.dK (ks ++ [k]) (xs ++ [.pur z]))) : Bd ((sl env i).bind fun c => setO c (keyD k) (.pur z)) Q := by
  refine ⟨_, ?_, q⟩
  rw [h]
  have hkk : keyOfD (keyD k) = some k := by cases k <;> rfl
  simp only [Option.bind_some, setO, hkk, hl, if_true, putKs, putXs, hk, if_false]
end DL
namespace DL
open PySem PySem.Spec PyProof.Rows L2
theorem hs_q1 {f : PyData → Option PyData} {a : DEnv → Option PyData} {env : DEnv} {d z : PyData} {Q : PyData → DEnv → Prop} (h : a env = some d) (hz : f d = some z) (hs : scalD z = true) (q : Q z env) : Hs (M.q1 f a env) Q := by
  unfold M.q1 qfin
  rw [h]
  simp only [Option.bind_some, hz, hs, if_true]
  exact Hs.mk q
end DL
namespace DL
open PySem PySem.Spec PyProof.Rows L2
end DL

set_option maxHeartbeats 2000000
/-! DL32: zip of two lists or two tuples; x[k] -= e; x *= e; the runs of a while. -/
namespace DL
open PySem PySem.Spec PyProof.Rows L2
/-! ### x[k] -= e -/
section
variable {X : Cx} {W : WX} {B : List Nat} {e k : Expr} {me mk : M PyData} {x : Str} {p pos pos' : Pos}
end
/-! ### runs -/
end DL
namespace DL
open PySem PySem.Spec PyProof.Rows L2
theorem hs_chain {f f' : PyData → PyData → Option PyData} {a b c : M PyData} {env : DEnv} {Q : PyData → DEnv → Prop} : Hs (M.chain f f' a b c env) Q = Hs (a env) fun x e => Hs (b e) fun y e => Bd (f x y) fun z => Bd (boolP z) fun t => Iff2 t (Hs (c e) fun w e => Bd (f' y w) fun r => Q r e) (Q (.bool false) e) := by
  unfold M.chain
  simp only [hs_bind, hs_opt]
  congr 1
  funext x e
  congr 1
  funext y e
  congr 1
  funext z
  cases z with
  | bool k => cases k <;> simp
  | _ => simp [boolP, M.fail]
theorem hs_q2 {f : PyData → PyData → Option PyData} {a b : DEnv → Option PyData} {env : DEnv} {x y z : PyData} {Q : PyData → DEnv → Prop} (h1 : a env = some x) (h2 : b env = some y) (hz : f x y = some z) (hs : scalD z = true) (q : Q z env) : Hs (M.q2 f a b env) Q := by
  unfold M.q2 qfin
  rw [h1]
  simp only [Option.bind_some, h2, hz, hs, if_true]
  exact Hs.mk q
end DL
namespace DL
open PySem PySem.Spec PyProof.Rows L2
/-- told apart from other data without trouble -/
def Clr (d : PyData) : Prop := d.canLay0 = true ∧ d.depth ≤ 20
theorem cl_list {l : List PyData} (h : ∀ x ∈ l, Clr x) : SeqAt.shaped (.list l) = true := by
  have h2 : PyData.canLayAll0 l = true := by
    induction l with
    | nil => rfl
    | cons s l ih => simp [PyData.canLayAll0, (h s (by simp)).1, ih fun x hx => h x (by simp [hx])]
  have h3 : PyData.depthAll l ≤ 20 := depAll fun x hx => (h x hx).2
  simp [SeqAt.shaped, PyData.canLay0, PyData.depth, h2]
  omega
theorem cl_int {i : Int} : Clr (.int i) := ⟨by simp [PyData.canLay0], by simp [PyData.depth]⟩
end DL
namespace DL
open PySem PySem.Spec PyProof.Rows L2
end DL

set_option maxHeartbeats 2000000
/-! DL33: x += e (names); [c] * n; list(x), x[a:b], x.pop(e) of own lists; min, max of one list; x != [] peeked; x.index(e). -/
namespace DL
open PySem PySem.Spec PyProof.Rows L2
/-! ### x += e -/
def M.augN (i : Nat) (f : PyData → PyData → Option PyData) (me : M PyData) : M Flw := fun env => match (env[i]?).join with
  | some (.pur a) => M.bind me (fun b env2 => match f a b with
    | some z => M.put i (.pur z) env2
    | none => .no) env
  | _ => .no
def addI := int2 (fun _ _ => true) fun i j => .int (i + j)
def subI := int2 (fun _ _ => true) fun i j => .int (i - j)
section
variable {X : Cx} {W : WX} {B : List Nat} {e : Expr} {me : M PyData} {f : PyData → PyData → Option PyData} {r : R2} {op : Operator} {x : Str} {p pos : Pos}
end
/-! ### [c] * n -/
def M.rep (ml : M (List PyData)) (mn : M PyData) : M OD := M.bind ml fun ds => if ds.length ≤ lim then M.bind mn fun k => match k with
  | .int n => if -(2 ^ 62) ≤ n ∧ n < 2 ^ 62 ∧ ds.length * n.toNat ≤ lim then M.pure (.lst ((List.replicate n.toNat ds).flatten.map .pur)) else M.fail
  | _ => M.fail
  else M.fail
theorem rpa_rep {K : PySem.W.Frag} {P : Hp} {vs : List V} {ds : List PyData} (t : RpA K P vs ds) : ∀ n : Nat, RpA K P (List.replicate n vs).flatten (List.replicate n ds).flatten
  | 0 => by simpa using RpA.nil
  | n + 1 => by
    rw [List.replicate_succ, List.replicate_succ, List.flatten_cons, List.flatten_cons]
    exact t.append (rpa_rep t n)
section
variable {X : Cx} {W : WX} {B : List Nat} {e : Expr} {es : List Expr} {ml : M (List PyData)} {mn : M PyData} {x : Str} {p pos lpos : Pos}
theorem eo_rep (ha : AD X W B es ml) (he : ED X W B e mn) : EO X W B (.BinOp (.List es lpos) .Mult e pos) (M.rep ml mn) :=
  PE_mono (pe_op op_rep (pe_lst ha) he) fun σ H Q ⟨bv, R, P, Fs, env, S, q⟩ => tL_bind (Same.refl _) S q fun ds e1 vs P1 H1 F1 S1 s1 r1 h1 => by
    have hlen := r1.length
    by_cases hl : ds.length ≤ lim
    · rw [if_pos hl] at h1
      refine ⟨by rw [lim_eq]; omega, fun p hp => ?_⟩
      have x0 := ext_new S1.ph (.lst vs) hp
      refine tD_bind (P := upd P1 p (.lst vs)) (P0 := P) (s1.trans x0.pp) (S1.ext x0) h1 fun k e2 v P2 H2 F2 S2 s2 r2 h2 => ?_
      cases k with
      | int n =>
        simp only at h2
        split at h2
        · rename_i hh
          cases r2
          have hP : P2 p = some (.lst vs) := s2 _ _ upd_same
          refine ⟨p, n, vs, rfl, rfl, S2.ph _ _ hP, by omega, by omega, by rw [lim_eq, hlen]; exact hh.2.2, fun p2 hp2 => ?_⟩
          have x2 := ext_heap S2.ph (.lst (List.replicate n.toNat vs).flatten) hp2
          exact h2 _ _ _ F2 [p2] (S2.ext x2) ((s1.trans x0.pp).trans (s2.trans x2.pp)) (.lst upd_same (owl_pur (rpa_rep (r1.mono (x0.pp.trans s2)) _))) (Free.one S2 hp2)
        · exact h2.elim
      | _ => exact h2.elim
    · rw [if_neg hl] at h1; exact h1.elim
end
/-! ### list(x), x[a:b] of an own list of frozen items -/
section
variable {X : Cx} {W : WX} {B : List Nat} {e : Expr} {ml mh : M (Option Int)} {x y : Str} {p pos lpos p2 : Pos} {lo hi : Option Expr}
end
/-! ### min, max of one list of ints -/
section
variable {X : Cx} {W : WX} {B : List Nat}
end
/-! ### x != [], x == [] on what is peeked -/
section
variable {X : Cx} {W : WX} {B : List Nat} {a : Expr} {ma : DEnv → Option PyData} {f : PyData → PyData → Option PyData} {r : R2} {op : CmpOp} {pos lp : Pos}
theorem tD_qE {σ : L2.St} {H : Hp} {Q : VK} (hf : OpD X.K r f) (h : tD X.K X.mg W B (M.q2 f ma fun _ => some (.list [])) σ H Q) : tOp r (tQ X.K X.mg B ma) (tLst tNil) σ H Q := by
  obtain ⟨bv, R, P, Fs, env, S, q⟩ := h
  obtain ⟨z, e, hz, q⟩ := qfin_post q
  obtain ⟨d1, e1, e⟩ := Option.bind_eq_some_iff.mp e
  refine ⟨bv, R, P, Fs, env, d1, S, e1, fun v rv => ⟨Nat.zero_le _, fun p hp => ?_⟩⟩
  have x0 := ext_new (Same.refl H) (.lst []) hp
  exact hf _ _ v (.ref p) d1 (.list []) z Q (Same.refl _) (rv.mono x0.pp) (.lst (.inl upd_same) .nil) e fun u P' H' x ru => q u P H' Fs (sta_ext (S.ext (ext_heap S.ph (.lst []) hp)) x) (Same.refl _) (ru.scal hz)
theorem td_qE (ho : OpR X (compareOp op) r) (hf : OpD X.K r f) (ha : QD X B a ma) (hm : behindInMarks op (.List [] lp) = false := by first | exact nomark _ | rfl) : TD X W B (.Compare a [op] [.List [] lp] pos) (M.tru (M.q2 f ma fun _ => some (.list []))) :=
  PT_mono (pt_cmpR ho ha (pe_lst pa_nil) hm) fun σ H Q q => tD_qE hf (tB_of q : tD X.K X.mg W B (M.q2 f ma fun _ => some (.list [])) σ H (fun x H1 => ∃ c, x = .bl c ∧ Q c H1))
end
/-! ### x.pop(e) of an own list of frozen items -/
def popL (d : PyData) : OD → Option (OD × OD)
  | .lst xs => (match d with
    | .int k => if -(2 ^ 62) ≤ k ∧ k < 2 ^ 62 then (pursO xs).bind fun ds => (ixD ds.length k).bind fun j => (ds[j]?).map fun z => (.pur z, .lst ((ds.eraseIdx j).map .pur)) else none
    | _ => none)
  | _ => none
section
variable {X : Cx} {W : WX} {B : List Nat} {e : Expr} {me : M PyData} {x : Str} {p apos cpos : Pos}
end
/-! ### x.index(e): ints -/
def idxI (i : Int) : List Int → Nat → Option Nat
  | [], _ => none
  | a :: l, k => if a = i then some k else idxI i l (k + 1)
def indexD (c d : PyData) : Option PyData := match c, d with
  | .list ds, .int i => (intsOf ds).bind fun ns => (idxI i ns 0).map fun (j : Nat) => .int (j : Int)
  | _, _ => none
def isLstD : PyData → Bool
  | .list _ => true
  | _ => false
def M.index (a b : M PyData) : M PyData := M.bind a fun c => if isLstD c = true then M.bind b fun d => M.opt (indexD c d) else M.fail
section
variable {X : Cx} {W : WX} {B : List Nat} {a e : Expr} {ma me : M PyData} {apos cpos : Pos}
end
end DL

set_option maxHeartbeats 2000000
/-! DL34: running DL33's forms. -/
namespace DL
open PySem PySem.Spec PyProof.Rows L2
section
variable {env : DEnv}
theorem hs_rep {ml : M (List PyData)} {mn : M PyData} {Q : OD → DEnv → Prop} (h : Hs (ml env) fun ds e => ds.length ≤ lim ∧ Hs (mn e) fun k e2 => Bd (intP k) fun n => (-(2 ^ 62) ≤ n ∧ n < 2 ^ 62 ∧ ds.length * n.toNat ≤ lim) ∧ Q (.lst ((List.replicate n.toNat ds).flatten.map .pur)) e2) : Hs (M.rep ml mn env) Q := by
  unfold M.rep
  rw [hs_bind]
  refine h.mono ?_
  rintro ds e ⟨h1, k, e2, h2, n, h3, h4, h5⟩
  rw [if_pos h1, hs_bind]
  refine ⟨k, e2, h2, ?_⟩
  cases k with
  | int m =>
    cases h3
    simp only
    rw [if_pos h4]
    exact Hs.mk h5
  | _ => cases h3
theorem hs_augN {i : Nat} {f : PyData → PyData → Option PyData} {me : M PyData} {a : PyData} {Q : Flw → DEnv → Prop} (h : sl env i = some (.pur a)) (k : Hs (me env) fun b e2 => Bd (f a b) fun z => i < e2.length ∧ Q .nx (e2.set i (some (.pur z)))) : Hs (M.augN i f me env) Q := by
  have g : (env[i]?).join = some (.pur a) := h
  unfold M.augN
  rw [g]
  obtain ⟨b, e2, h1, z, h2, h3, h4⟩ := k
  unfold M.bind
  simp only [h1, h2]
  rw [hs_put]
  exact ⟨h3, h4⟩
end
/-! own lists of ints -/
theorem st_addI {a b : Int} {Q : PyData → Prop} (q : Q (.int (a + b))) : Bd (addI (.int a) (.int b)) Q := ⟨_, rfl, q⟩
theorem st_subI {a b : Int} {Q : PyData → Prop} (q : Q (.int (a - b))) : Bd (subI (.int a) (.int b)) Q := ⟨_, rfl, q⟩
theorem st_lenI {l : List Int} {Q : PyData → Prop} (q : Q (.int l.length)) : Bd (one lenD [.list (l.map .int)]) Q := by
  refine ⟨_, ?_, q⟩
  simp [one, lenD]
end DL

set_option maxHeartbeats 2000000
/-! DL35: zip of a list and a tuple, either way about (the kit's zip over any two iterators as a turn of the hand layer). -/
namespace DL
open PySem PySem.Spec PyProof.Rows L2
inductive Kd
  | l
  | t
def Kd.sq (K : PySem.W.Frag) (H : Hp) (a : Addr) (xs : List V) : Kd → Prop
  | .l => SqL K H a xs
  | .t => SqT K H a xs
def Kd.its (h : Heap) (a : Addr) (vs : Array Value) : Kd → Prop
  | .l => h.IsList a vs
  | .t => h.IsTuple a vs
def Kd.itr (h : Heap) (i a : Addr) (n : Nat) : Kd → Prop
  | .l => h.IsListIter i a n
  | .t => h.IsTupleIter i a n
def Kd.ob (a : Addr) : Kd → Obj
  | .l => { cls := .type "list_iterator", data := .fields #[.ref a, .int 0 0] }
  | .t => { cls := .type "tuple_iterator", data := .fields #[.ref a, .int 0 0] }
/-- the zip object z with its parts -/
def ZSt (k1 k2 : Kd) (z TI TO i1 i2 a b : Addr) (n : Nat) (h : Heap) : Prop := IsZip h z TI TO .none ∧ IsTupOf2 h TI (.ref i1) (.ref i2) ∧ (∃ u v, IsTupOf2 h TO u v) ∧ k1.itr h i1 a n ∧ k2.itr h i2 b n
end DL

set_option maxHeartbeats 2000000
/-! DL36: list(range(e)); small rules of running. -/
namespace DL
open PySem PySem.Spec PyProof.Rows L2
section
variable {X : Cx} {W : WX} {B : List Nat} {e : Expr} {mn : M PyData} {lpos rp rpos pos : Pos}
end
theorem st_frzX {env : DEnv} {i : Nat} {x : OD} {d : PyData} {Q : PyData → Prop} (h : sl env i = some x) (hx : x.data = some d) (q : Q d) : Bd ((sl env i).bind OD.data) Q := by
  rw [h]
  exact ⟨d, hx, q⟩
theorem eqvI : ∀ {l : List Int}, PyData.eqvAll (l.map .int) (l.map .int) = true
  | [] => by simp [PyData.eqvAll]
  | a :: l => by simp [PyData.eqvAll, PyData.eqv, eqvI (l := l)]
end DL

set_option maxHeartbeats 2000000
/-! DL37: a, *b = a tuple. -/
namespace DL
open PySem PySem.Spec PyProof.Rows L2
section
variable {X : Cx} {B is : List Nat} {pos p2 : Pos} {e e1 e2 : Expr}
end
end DL

set_option maxHeartbeats 2000000
/-! DL38: the keys of a frozen dict, walked (it is locked for as long). -/
namespace DL
open PySem PySem.Spec PyProof.Rows L2
/-- the same things read in another region -/
def IsM (u : HO) : Prop := (∃ xs, u = .lst xs) ∨ (∃ kvs, u = .dK kvs) ∨ ∃ kvs, u = .dT kvs
def RR (P P' : Hp) : Prop := (∀ b xs, P b = some (.tup xs) → P' b = some (.tup xs)) ∧ (∀ b u, IsM u → Rd P b u → Rd P' b u) ∧ (∀ b cls d, P b = some (ExcO cls d b) → P' b = some (ExcO cls d b)) ∧ ∀ b fs, P b = some (.xd fs) → P' b = some (.xd fs)
mutual
theorem Rp.relR {K : PySem.W.Frag} {P P' : Hp} (s : RR P P') : ∀ {v : V} {d : PyData}, Rp K P v d → Rp K P' v d
  | _, _, .non => .non
  | _, _, .bl b => .bl b
  | _, _, .int i => .int i
  | _, _, .str x => .str x
  | _, _, .lst h t => .lst (s.2.1 _ _ (.inl ⟨_, rfl⟩) h) (RpA.relR s t)
  | _, _, .tup h t => .tup (s.1 _ _ h) (RpA.relR s t)
  | _, _, .dK h hl t => .dK (s.2.1 _ _ (.inr (.inl ⟨_, rfl⟩)) h) hl (RpA.relR s t)
  | _, _, .dT h hl hne t => .dT (s.2.1 _ _ (.inr (.inr ⟨_, rfl⟩)) h) hl hne (RpA.relR s t)
theorem RpA.relR {K : PySem.W.Frag} {P P' : Hp} (s : RR P P') : ∀ {vs : List V} {ds : List PyData}, RpA K P vs ds → RpA K P' vs ds
  | _, _, .nil => .nil
  | _, _, .cons h t => .cons (Rp.relR s h) (RpA.relR s t)
end
mutual
theorem Ow.relR {K : PySem.W.Frag} {mg : Str → Option Value} {P P' H H' : Hp} (s : RR P P') : ∀ {F : List Addr} {v : V} {x : OD}, Ow K mg P H F v x → (∀ a ∈ F, ∀ o, H a = some o → H' a = some o) → Ow K mg P' H' F v x
  | _, _, _, .pur h, _ => .pur (h.relR s)
  | _, _, _, .lst h t, k => .lst (k _ (by simp) _ h) (OwL.relR s t fun a ha => k a (by simp [ha]))
  | _, _, _, .tup h t, k => .tup (s.1 _ _ h) (OwL.relR s t k)
  | _, _, _, .dK h hl t, k => .dK (k _ (by simp) _ h) hl (OwL.relR s t fun a ha => k a (by simp [ha]))
  | _, _, _, .dT h hl t, k => .dT (k _ (by simp) _ h) hl (OwL.relR s t fun a ha => k a (by simp [ha]))
  | _, _, _, .obj hc h hx hl t, k => .obj hc (k _ (by simp) _ h) (k _ (by simp) _ hx) hl (OwL.relR s t fun a ha => k a (by simp [ha]))
  | _, _, _, .exn hc h hf, _ => .exn hc (s.2.2.1 _ _ _ h) fun f e z => let ⟨dd, v, h1, h2, h3⟩ := hf f e z; ⟨dd, v, h1, s.2.2.2 _ _ h2, h3.relR s⟩
  | _, _, _, .ref, _ => .ref
theorem OwL.relR {K : PySem.W.Frag} {mg : Str → Option Value} {P P' H H' : Hp} (s : RR P P') : ∀ {F : List Addr} {vs : List V} {xs : List OD}, OwL K mg P H F vs xs → (∀ a ∈ F, ∀ o, H a = some o → H' a = some o) → OwL K mg P' H' F vs xs
  | _, _, _, .nil, _ => .nil
  | _, _, _, .cons h t, k => .cons (Ow.relR s h fun a ha => k a (by simp [ha])) (OwL.relR s t fun a ha => k a (by simp [ha]))
end
section
variable {K : PySem.W.Frag} {mg : Str → Option Value} {W : WX} {B : List Nat} {bv : Nat → V} {R P P0 H P' H' : Hp} {Fs Fs' : Nat → List Addr} {σ : L2.St} {env : DEnv}
end
def keysD : PyData → Option (List PyData)
  | .dict kvs => some (kvs.map Prod.fst)
  | _ => none
def noEx (m : M Flw) : M Flw := fun env => match m env with
  | .ex _ _ => .no
  | r => r
def M.forK (i : Nat) (g : TG') (b : M Flw) : M Flw := M.bind (M.rd i) fun d => match keysD d with
  | some ds => noEx (forL g b ds)
  | none => M.fail
def M.lcK (i : Nat) (g : TG') (vs : List Nat) (tt : M Bool) (el : M PyData) : M OD := M.bind (M.rd i) fun d => match keysD d with
  | some ds => fun env => match lcL g vs tt el ds (wipeE vs env) with
    | .ok ys e => if ys.length ≤ 16777216 then .ok (.lst (ys.map .pur)) (restE vs env e) else .no
    | _ => .no
  | none => M.fail
section
variable {K : PySem.W.Frag} {mg : Str → Option Value} {W : WX} {B : List Nat} {bv : Nat → V} {R P P0 H : Hp} {Fs : Nat → List Addr} {σ : L2.St} {env : DEnv}
end
section
variable {X : Cx} {W : WX} {B : List Nat} {x : Str} {p pos : Pos} {tg elt : Expr} {ifs : List Expr} {scope : Scope} {body : List Stmt} {g : TG'} {mb : M Flw} {mt : M Bool} {me : M PyData}
end
end DL

set_option maxHeartbeats 2000000
/-! DL39: d.get(k), d.get(k, x) of frozen dicts; running DL37's, DL38's forms. -/
namespace DL
open PySem PySem.Spec PyProof.Rows L2
section
variable {X : Cx} {o e f : Expr} {apos cpos : Pos} {td ty tx : TE}
end
def isDicD : PyData → Bool
  | .dict _ => true
  | _ => false
/-- what a dict holds at a key -/
def getO (c k : PyData) : Option (Option PyData) := match c with
  | .dict kvs => if isKey k && kvs.all fun p => flatKey p.1 == flatKey k then some (lookD kvs k) else none
  | _ => none
def M.get1 (mo me : M PyData) : M PyData := M.bind mo fun c => if isDicD c = true then M.bind me fun k => M.opt ((getO c k).map fun o => o.getD .none) else M.fail
def M.get2 (mo me mf : M PyData) : M PyData := M.bind mo fun c => if isDicD c = true then M.bind me fun k => M.bind mf fun z => M.opt ((getO c k).map fun o => o.getD z) else M.fail
section
variable {X : Cx} {W : WX} {B : List Nat} {o e f : Expr} {mo me mf : M PyData} {apos cpos : Pos}
end
/-! ### runs -/
section
variable {env : DEnv}
theorem hs_get1 {mo me : M PyData} {Q : PyData → DEnv → Prop} (h : Hs (mo env) fun c e => isDicD c = true ∧ Hs (me e) fun k e2 => ∃ o, getO c k = some o ∧ Q (o.getD .none) e2) : Hs (M.get1 mo me env) Q := by
  unfold M.get1
  rw [hs_bind]
  refine h.mono ?_
  rintro c e ⟨h1, h2⟩
  rw [if_pos h1, hs_bind]
  refine h2.mono ?_
  rintro k e2 ⟨o, h3, h4⟩
  rw [h3, hs_opt]
  exact ⟨_, rfl, h4⟩
theorem hs_get2 {mo me mf : M PyData} {Q : PyData → DEnv → Prop} (h : Hs (mo env) fun c e => isDicD c = true ∧ Hs (me e) fun k e2 => Hs (mf e2) fun z e3 => ∃ o, getO c k = some o ∧ Q (o.getD z) e3) : Hs (M.get2 mo me mf env) Q := by
  unfold M.get2
  rw [hs_bind]
  refine h.mono ?_
  rintro c e ⟨h1, h2⟩
  rw [if_pos h1, hs_bind]
  refine h2.mono fun k e2 h3 => ?_
  rw [hs_bind]
  refine h3.mono ?_
  rintro z e3 ⟨o, h3, h4⟩
  rw [h3, hs_opt]
  exact ⟨_, rfl, h4⟩
theorem hs_forK {i : Nat} {g : TG'} {b : M Flw} {Q : Flw → DEnv → Prop} (h : Hs (M.rd i env) fun d e => ∃ ds, keysD d = some ds ∧ Hs (forL g b ds e) Q) : Hs (M.forK i g b env) Q := by
  unfold M.forK
  rw [hs_bind]
  refine h.mono ?_
  rintro d e ⟨ds, h1, a, e', h2, h3⟩
  rw [h1]
  simp only [noEx, h2]
  exact Hs.mk h3
theorem hs_lcK {i : Nat} {g : TG'} {vs : List Nat} {tt : M Bool} {el : M PyData} {Q : OD → DEnv → Prop} (h : Hs (M.rd i env) fun d e => ∃ ds, keysD d = some ds ∧ Hs (lcL g vs tt el ds (wipeE vs e)) fun ys e' => ys.length ≤ 16777216 ∧ Q (.lst (ys.map .pur)) (restE vs e e')) : Hs (M.lcK i g vs tt el env) Q := by
  unfold M.lcK
  rw [hs_bind]
  refine h.mono ?_
  rintro d e ⟨ds, h1, a, e', h2, h3, h4⟩
  rw [h1]
  simp only [h2, if_pos h3]
  exact Hs.mk h4
end
end DL

set_option maxHeartbeats 2000000
/-! DL40: dicts by lists of keys and values: tuples for keys (dtO, dtD), ints and texts (dkO, dkD). -/
namespace DL
open PySem PySem.Spec PyProof.Rows L2
def dtO (L : List (List Key × PyData)) : OD := match L with
  | [] => .dK [] []
  | _ => .dT (L.map Prod.fst) (L.map fun p => .pur p.2)
def dtD (L : List (List Key × PyData)) : PyData := .dict (L.map fun p => (.tuple (p.1.map keyD), p.2))
def dkO (L : List (Key × PyData)) : OD := .dK (L.map Prod.fst) (L.map fun p => .pur p.2)
def dkD (L : List (Key × PyData)) : PyData := .dict (L.map fun p => (keyD p.1, p.2))
end DL

set_option maxHeartbeats 2000000
/-! DL41: small rules of running (from k24 on). -/
namespace DL
open PySem PySem.Spec PyProof.Rows L2
theorem hs_dq2 {f : PyData → PyData → Option PyData} {a : M PyData} {b : DEnv → Option PyData} {env : DEnv} {Q : PyData → DEnv → Prop} (h : Hs (a env) fun x e => ∃ y z, b e = some y ∧ f x y = some z ∧ scalD z = true ∧ Q z e) : Hs (M.dq2 f a b env) Q := by
  unfold M.dq2
  rw [hs_bind]
  refine h.mono ?_
  rintro x e ⟨y, z, h1, h2, h3, h4⟩
  unfold qfin
  rw [h1]
  simp only [Option.bind_some, h2, h3, if_true]
  exact Hs.mk h4
theorem st_perm {n : Nat} {pm : List Nat} {l r p : List AV} {Q : List AV → Prop} (h : permA n pm l r = some p) (q : Q p) : Bd (permA n pm l r) Q := Bd.some h q
end DL

set_option maxHeartbeats 2000000
/-! DL42: a == b, a != b of lists, told by their lengths where these are unlike. -/
namespace DL
open PySem PySem.Spec PyProof.Rows L2
def rEqLn : R2 := fun x y H Q => ∃ a b xs ys, x = .ref a ∧ y = .ref b ∧ Rd H a (.lst xs) ∧ Rd H b (.lst ys) ∧ xs.length ≠ ys.length ∧ Q (.bl false) H
def rNeLn : R2 := fun x y H Q => ∃ a b xs ys, x = .ref a ∧ y = .ref b ∧ Rd H a (.lst xs) ∧ Rd H b (.lst ys) ∧ xs.length ≠ ys.length ∧ Q (.bl true) H
section
variable {X : Cx}
theorem lst_is {P : Program} {w : World} {H : Hp} {h : Heap} {a : Addr} {xs : List V} (hk : ∀ a o, H a = some o → ObjOk P w H h a o) (r : Rd H a (.lst xs)) : ∃ its : List Value, its.length = xs.length ∧ h.IsList a its.toArray := by
  have ha' : ObjOk P w H h a (.lst xs) := by
    rcases r with ha | ⟨o, ha⟩
    · exact hk a _ ha
    · exact (show ObjOk P w H h a (.frz o (.lst xs)) from hk a _ ha).2
  obtain ⟨_, its, n, vs, e⟩ := ha'
  exact ⟨its, vs.length.symm, _, e, rfl, ⟨n, rfl⟩⟩
theorem op_eqLn (hu : X.A.units < cLine) : OpR X (compareOp .Eq) rEqLn := by
  rintro pins s σ H x y v u Q I rx ry ⟨a, b, xs, ys, rfl, rfl, ha, hb, hne, q⟩
  cases (show v = Value.ref a from rx)
  cases (show u = Value.ref b from ry)
  obtain ⟨i1, l1, e1⟩ := lst_is (fun a o h => I.hok a o h) ha
  obtain ⟨i2, l2, e2⟩ := lst_is (fun a o h => I.hok a o h) hb
  exact SeqAt.eq_list_lengthsAt e1 e2 (by simp; omega) hu ⟨.bl false, H, I, rfl, q⟩
theorem op_neLn (hu : X.A.units < cLine) : OpR X (compareOp .NotEq) rNeLn := by
  rintro pins s σ H x y v u Q I rx ry ⟨a, b, xs, ys, rfl, rfl, ha, hb, hne, q⟩
  cases (show v = Value.ref a from rx)
  cases (show u = Value.ref b from ry)
  obtain ⟨i1, l1, e1⟩ := lst_is (fun a o h => I.hok a o h) ha
  obtain ⟨i2, l2, e2⟩ := lst_is (fun a o h => I.hok a o h) hb
  exact SeqAt.RcNeAt.lists_lengths e1 e2 (by simp; omega) hu _ _ _ _ ⟨.bl true, H, I, rfl, q⟩
def eqL (d e : PyData) : Option PyData := match d, e with
  | .list xs, .list ys => if xs.length ≠ ys.length then some (.bool false) else eqD d e
  | _, _ => eqD d e
def rEqX (K : PySem.W.Frag) : R2 := fun x y H Q => rEqP K x y H Q ∨ rEqLn x y H Q
theorem op_eqX (g : Gd X) (hu : X.A.units + 64 < cLine) : OpR X (compareOp .Eq) (rEqX X.K) := OpR.or (op_eqP g hu) (op_eqLn (by omega))
theorem opd_eqX : OpD X.K (rEqX X.K) eqL := by
  intro P H v w d e z Q ph r1 r2 ez k
  have hgen : eqD d e = some z → rEqX X.K v w H Q := fun ez => .inl (opd_eq P H v w d e z Q ph r1 r2 ez k)
  cases r1 with
  | lst h t =>
    cases r2 with
    | lst h2 t2 =>
      simp only [eqL] at ez
      split at ez
      · rename_i hne
        cases ez
        refine .inr ⟨_, _, _, _, rfl, rfl, rd_mono ph h, rd_mono ph h2, by rw [t.length, t2.length]; exact hne, ?_⟩
        exact k _ P H (.refl ph) (.bl _)
      · exact hgen ez
    | _ => exact hgen ez
  | _ => exact hgen ez
def neL (d e : PyData) : Option PyData := match d, e with
  | .list xs, .list ys => if xs.length ≠ ys.length then some (.bool true) else neD d e
  | _, _ => neD d e
def rNeX (K : PySem.W.Frag) : R2 := fun x y H Q => rNeP K x y H Q ∨ rNeLn x y H Q
theorem op_neX (g : Gd X) (hu : X.A.units + 64 < cLine) : OpR X (compareOp .NotEq) (rNeX X.K) := OpR.or (op_neP g hu) (op_neLn (by omega))
theorem opd_neX : OpD X.K (rNeX X.K) neL := by
  intro P H v w d e z Q ph r1 r2 ez k
  have hgen : neD d e = some z → rNeX X.K v w H Q := fun ez => .inl (opd_ne P H v w d e z Q ph r1 r2 ez k)
  cases r1 with
  | lst h t =>
    cases r2 with
    | lst h2 t2 =>
      simp only [neL] at ez
      split at ez
      · rename_i hne
        cases ez
        refine .inr ⟨_, _, _, _, rfl, rfl, rd_mono ph h, rd_mono ph h2, by rw [t.length, t2.length]; exact hne, ?_⟩
        exact k _ P H (.refl ph) (.bl _)
      · exact hgen ez
    | _ => exact hgen ez
  | _ => exact hgen ez
variable {W : WX} {B : List Nat} {a b : Expr} {ma mb : M PyData} {pos : Pos}
theorem ed_eqX (g : Gd X) (hu : X.A.units + 65 < cLine) (ha : ED X W B a ma) (hb : ED X W B b mb) : ED X W B (.Compare a [.Eq] [b] pos) (M.op2 eqL ma mb) := ed_cmp (op_eqX g (by omega)) opd_eqX ha hb
theorem td_neX (g : Gd X) (hu : X.A.units + 65 < cLine) (ha : ED X W B a ma) (hb : ED X W B b mb) : TD X W B (.Compare a [.NotEq] [b] pos) (M.tru (M.op2 neL ma mb)) := td_cmp (op_neX g (by omega)) opd_neX ha hb
end
theorem st_eqLE {xs : List PyData} {Q : PyData → Prop} (q : Q (.bool xs.isEmpty)) : Bd (eqL (.list xs) (.list [])) Q := by
  refine ⟨_, ?_, q⟩
  cases xs with
  | nil => rfl
  | cons x xs =>
    show (if (x :: xs).length ≠ ([] : List PyData).length then some (PyData.bool false) else eqD (.list (x :: xs)) (.list [])) = some (.bool false)
    rw [if_pos (by simp)]
theorem st_neLE {xs : List PyData} {Q : PyData → Prop} (q : Q (.bool (!xs.isEmpty))) : Bd (neL (.list xs) (.list [])) Q := by
  refine ⟨_, ?_, q⟩
  cases xs with
  | nil => rfl
  | cons x xs =>
    show (if (x :: xs).length ≠ ([] : List PyData).length then some (PyData.bool true) else neD (.list (x :: xs)) (.list [])) = some (.bool true)
    rw [if_pos (by simp)]
end DL

set_option maxHeartbeats 2000000
/-! DL43: slot.clear() of a dict. -/
namespace DL
open PySem PySem.Spec PyProof.Rows L2
section
variable {X : Cx} {W : WX} {B : List Nat} {x : Str} {p apos cpos : Pos}
end
end DL

set_option maxHeartbeats 2000000
/-! DL44: a == b, a != b of dicts with ints and texts for keys. -/
namespace DL
open PySem PySem.Spec PyProof.Rows L2
section
variable {X : Cx}
variable {W : WX} {B : List Nat} {a b : Expr} {ma mb : M PyData} {pos : Pos}
end
end DL

set_option maxHeartbeats 2000000
/-! DL45: places within slots (fields of own instances, items of lists): paths, subtrees, hidden slots. -/
namespace DL
open PySem PySem.Spec PyProof.Rows L2
inductive Stp where
  | fld (c f : Str)
  | ix (k : Nat)
  | key (k : Key)
def posQ {κ : Type} [DecidableEq κ] (k : κ) : List κ → Option Nat
  | [] => none
  | a :: l => if a = k then some 0 else (posQ k l).map (· + 1)
theorem posQ_look {κ : Type} [DecidableEq κ] {k : κ} : ∀ {ks : List κ} {vs : List V} {n : Nat} {v : V}, posQ k ks = some n → vs[n]? = some v → valV (ks.zip vs) k = some v
  | [], _, _, _, h, _ => by cases h
  | a :: ks, [], n, v, _, h => by simp at h
  | a :: ks, w :: vs, n, v, h, hv => by
    simp only [posQ] at h
    by_cases e : a = k
    · rw [if_pos e] at h
      cases h
      simp at hv
      rw [List.zip_cons_cons, valV_pos (by exact e)]
      simp [hv]
    · rw [if_neg e] at h
      obtain ⟨m, hm, rfl⟩ := Option.map_eq_some_iff.mp h
      rw [List.zip_cons_cons, valV_neg (by exact e)]
      exact posQ_look hm (by simpa using hv)
def posN (f : Str) : List Str → Option Nat
  | [] => none
  | a :: l => if f = a then some 0 else (posN f l).map (· + 1)
def getP : List Stp → OD → Option OD
  | [], x => some x
  | .fld c f :: p, .obj c' ns xs => if c' = c then (posN f ns).bind fun n => (xs[n]?).bind (getP p) else none
  | .ix k :: p, .lst xs => (xs[k]?).bind (getP p)
  | .ix k :: p, .tup xs => (xs[k]?).bind (getP p)
  | .key k :: p, .dK ks xs => (posQ k ks).bind fun n => (xs[n]?).bind (getP p)
  | _, _ => none
def setP : List Stp → OD → OD → OD
  | [], _, y => y
  | .fld _ f :: p, .obj c' ns xs, y => match posN f ns with
    | some n => (match xs[n]? with
      | some z => .obj c' ns (xs.set n (setP p z y))
      | none => .obj c' ns xs)
    | none => .obj c' ns xs
  | .ix k :: p, .lst xs, y => (match xs[k]? with
    | some z => .lst (xs.set k (setP p z y))
    | none => .lst xs)
  | .ix k :: p, .tup xs, y => (match xs[k]? with
    | some z => .tup (xs.set k (setP p z y))
    | none => .tup xs)
  | .key k :: p, .dK ks xs, y => (match posQ k ks with
    | some n => (match xs[n]? with
      | some z => .dK ks (xs.set n (setP p z y))
      | none => .dK ks xs)
    | none => .dK ks xs)
  | _, x, _ => x
theorem getP_app : ∀ {p q : List Stp} {x : OD}, getP (p ++ q) x = (getP p x).bind (getP q)
  | [], q, x => rfl
  | .fld c f :: p, q, x => by
    cases x with
    | obj c' ns xs =>
      rw [List.cons_append]
      simp only [getP]
      by_cases h : c' = c
      · rw [if_pos h, if_pos h]
        cases posN f ns with
        | none => rfl
        | some n =>
          simp only [Option.bind_some]
          cases xs[n]? with
          | none => rfl
          | some z => exact getP_app
      · rw [if_neg h, if_neg h]; rfl
    | _ => rfl
  | .ix k :: p, q, x => by
    cases x with
    | lst xs =>
      rw [List.cons_append]
      simp only [getP]
      cases xs[k]? with
      | none => rfl
      | some z => exact getP_app
    | tup xs =>
      rw [List.cons_append]
      simp only [getP]
      cases xs[k]? with
      | none => rfl
      | some z => exact getP_app
    | _ => rfl
  | .key k :: p, q, x => by
    cases x with
    | dK ks xs =>
      rw [List.cons_append]
      simp only [getP]
      cases posQ k ks with
      | none => rfl
      | some n =>
        simp only [Option.bind_some]
        cases xs[n]? with
        | none => rfl
        | some z => exact getP_app
    | _ => rfl
/-- the value at a path -/
inductive PlV (mg : Str → Option Value) (H : Hp) : V → List Stp → V → Prop
  | nil {v : V} : PlV mg H v [] v
  | fld {a C dx : Addr} {fs : List (Str × V)} {c f : Str} {w u : V} {p : List Stp} (h : H a = some (.ins C dx fs)) (hc : mg c = some (.ref C)) (l : fs.lookup f = some w) (t : PlV mg H w p u) : PlV mg H (.ref a) (.fld c f :: p) u
  | ix {a : Addr} {vs : List V} {k : Nat} {w u : V} {p : List Stp} (h : H a = some (.lst vs)) (l : vs[k]? = some w) (t : PlV mg H w p u) : PlV mg H (.ref a) (.ix k :: p) u
  | tx {a : Addr} {vs : List V} {k : Nat} {w u : V} {p : List Stp} (h : H a = some (.tup vs)) (l : vs[k]? = some w) (t : PlV mg H w p u) : PlV mg H (.ref a) (.ix k :: p) u
  | key {a : Addr} {kvs : List (Key × V)} {k : Key} {w u : V} {p : List Stp} (h : H a = some (.dK kvs)) (l : valV kvs k = some w) (t : PlV mg H w p u) : PlV mg H (.ref a) (.key k :: p) u
theorem PlV.det {mg : Str → Option Value} {H : Hp} {v : V} {p : List Stp} {u u' : V} (h : PlV mg H v p u) : PlV mg H v p u' → u = u' := by
  induction h with
  | nil => intro h'; cases h'; rfl
  | fld h hc l t ih =>
    intro h'
    cases h' with
    | fld h2 hc2 l2 t2 =>
      rw [h] at h2
      cases h2
      rw [l] at l2
      cases l2
      exact ih t2
  | ix h l t ih =>
    intro h'
    cases h' with
    | ix h2 l2 t2 =>
      rw [h] at h2
      cases h2
      rw [l] at l2
      cases l2
      exact ih t2
    | tx h2 l2 t2 =>
      rw [h] at h2
      cases h2
  | tx h l t ih =>
    intro h'
    cases h' with
    | tx h2 l2 t2 =>
      rw [h] at h2
      cases h2
      rw [l] at l2
      cases l2
      exact ih t2
    | ix h2 l2 t2 =>
      rw [h] at h2
      cases h2
  | key h l t ih =>
    intro h'
    cases h' with
    | key h2 l2 t2 =>
      rw [h] at h2
      cases h2
      rw [l] at l2
      cases l2
      exact ih t2
theorem PlV.app {mg : Str → Option Value} {H : Hp} {v u w : V} {p q : List Stp} (h : PlV mg H v p u) (h' : PlV mg H u q w) : PlV mg H v (p ++ q) w := by
  induction h with
  | nil => exact h'
  | fld h hc l t ih => exact .fld h hc l (ih h')
  | ix h l t ih => exact .ix h l (ih h')
  | tx h l t ih => exact .tx h l (ih h')
  | key h l t ih => exact .key h l (ih h')
theorem pos_look {f : Str} : ∀ {ns : List Str} {vs : List V} {n : Nat} {v : V}, posN f ns = some n → vs[n]? = some v → (ns.zip vs).lookup f = some v
  | [], _, _, _, h, _ => by cases h
  | a :: ns, [], n, v, _, h => by simp at h
  | a :: ns, w :: vs, n, v, h, hv => by
    simp only [posN] at h
    rw [List.zip_cons_cons, List.lookup_cons]
    split at h
    · rename_i e
      cases h
      subst e
      simp at hv
      simp [hv]
    · rename_i e
      obtain ⟨m, hm, rfl⟩ := Option.map_eq_some_iff.mp h
      have : (f == a) = false := by simpa using e
      rw [this]
      exact pos_look hm (by simpa using hv)
section
variable {K : PySem.W.Frag} {mg : Str → Option Value} {P H : Hp}
theorem OwL.atp : ∀ {n : Nat} {F : List Addr} {vs : List V} {xs : List OD} {x : OD}, OwL K mg P H F vs xs → xs[n]? = some x → ∃ pre post G u, F = pre ++ (G ++ post) ∧ vs[n]? = some u ∧ Ow K mg P H G u x ∧
    ∀ {P' H' : Hp} {G' : List Addr} {x' : OD}, Same P P' → (∀ b, b ∈ pre ∨ b ∈ post → ∀ o, H b = some o → H' b = some o) → Ow K mg P' H' G' u x' → OwL K mg P' H' (pre ++ (G' ++ post)) vs (xs.set n x')
  | 0, _, _, _, x, @OwL.cons _ _ _ _ F1 G1 v vs y xs h t, e => by
    cases e
    refine ⟨[], G1, F1, v, rfl, rfl, h, fun {P2 H2 G2 x2} s k o => ?_⟩
    have := OwL.cons o (t.keep s fun a ha => k a (.inr ha))
    simpa using this
  | n + 1, _, _, _, x, @OwL.cons _ _ _ _ F1 G1 v vs y xs h t, e => by
    obtain ⟨pre, post, G, u, rfl, h2, h3, h4⟩ := OwL.atp (n := n) t (by simpa using e)
    refine ⟨F1 ++ pre, post, G, u, by simp, by simpa using h2, h3, fun s k o => ?_⟩
    rw [List.append_assoc, List.set_cons_succ]
    exact .cons (h.keep s fun a ha => k a (.inl (by simp [ha]))) (h4 s (fun b hb => k b (hb.elim (fun z => .inl (by simp [z])) .inr)) o)
theorem Ow.sub : ∀ {p : List Stp} {F : List Addr} {v : V} {x y : OD}, Ow K mg P H F v x → getP p x = some y → ∃ pre post G u, F = pre ++ (G ++ post) ∧ Ow K mg P H G u y ∧ (∀ H2 : Hp, (∀ b ∈ pre, ∀ o, H b = some o → H2 b = some o) → (∀ b xs, P b = some (.tup xs) → H2 b = some (.tup xs)) → PlV mg H2 v p u) ∧
    ∀ {P' H' : Hp} {G' : List Addr} {y' : OD}, Same P P' → (∀ b, b ∈ pre ∨ b ∈ post → ∀ o, H b = some o → H' b = some o) → Ow K mg P' H' G' u y' → Ow K mg P' H' (pre ++ (G' ++ post)) v (setP p x y')
  | [], F, v, x, y, o, e => by
    cases e
    exact ⟨[], [], F, v, by simp, o, fun _ _ _ => .nil, fun s k o => by simpa [setP] using o⟩
  | .fld c f :: p, _, _, x, y, o, e => by
    cases o with
    | @obj c' C a dx F0 ns vs xs hc h hx hl t =>
      simp only [getP] at e
      split at e
      · rename_i ec
        subst ec
        obtain ⟨n, hn, e⟩ := Option.bind_eq_some_iff.mp e
        obtain ⟨z, hz, e⟩ := Option.bind_eq_some_iff.mp e
        obtain ⟨pre, post, G, u, rfl, h2, h3, h4⟩ := OwL.atp t hz
        obtain ⟨pre', post', G', w, rfl, k2, k3, k4⟩ := Ow.sub h3 e
        refine ⟨a :: dx :: (pre ++ pre'), post' ++ post, G', w, by simp, k2, fun H2 kk kt => .fld (kk a (by simp) _ h) hc (pos_look hn h2) (k3 H2 (fun b hb => kk b (by simp [hb])) kt), fun s k o => ?_⟩
        have e1 : setP (.fld c' f :: p) (.obj c' ns xs) = fun y' => .obj c' ns (xs.set n (setP p z y')) := funext fun y' => by simp only [setP, hn, hz]
        rw [e1]
        have r := h4 s (fun b hb => k b (hb.elim (fun q => .inl (by simp [q])) fun q => .inr (by simp [q]))) (k4 s (fun b hb => k b (hb.elim (fun q => .inl (by simp [q])) fun q => .inr (by simp [q]))) o)
        have := Ow.obj hc (k a (.inl (by simp)) _ h) (k dx (.inl (by simp)) _ hx) hl r
        simpa using this
      · cases e
    | _ => cases e
  | .ix k :: p, _, _, x, y, o, e => by
    cases o with
    | @lst a F0 vs xs h t =>
      simp only [getP] at e
      obtain ⟨z, hz, e⟩ := Option.bind_eq_some_iff.mp e
      obtain ⟨pre, post, G, u, rfl, h2, h3, h4⟩ := OwL.atp t hz
      obtain ⟨pre', post', G', w, rfl, k2, k3, k4⟩ := Ow.sub h3 e
      refine ⟨a :: (pre ++ pre'), post' ++ post, G', w, by simp, k2, fun H2 kk kt => .ix (kk a (by simp) _ h) h2 (k3 H2 (fun b hb => kk b (by simp [hb])) kt), fun s kk o => ?_⟩
      have e1 : setP (.ix k :: p) (.lst xs) = fun y' => .lst (xs.set k (setP p z y')) := funext fun y' => by simp only [setP, hz]
      rw [e1]
      have r := h4 s (fun b hb => kk b (hb.elim (fun q => .inl (by simp [q])) fun q => .inr (by simp [q]))) (k4 s (fun b hb => kk b (hb.elim (fun q => .inl (by simp [q])) fun q => .inr (by simp [q]))) o)
      have := Ow.lst (kk a (.inl (by simp)) _ h) r
      simpa using this
    | @tup a F0 vs xs h t =>
      simp only [getP] at e
      obtain ⟨z, hz, e⟩ := Option.bind_eq_some_iff.mp e
      obtain ⟨pre, post, G, u, rfl, h2, h3, h4⟩ := OwL.atp t hz
      obtain ⟨pre', post', G', w, rfl, k2, k3, k4⟩ := Ow.sub h3 e
      refine ⟨pre ++ pre', post' ++ post, G', w, by simp, k2, fun H2 kk kt => .tx (kt a _ h) h2 (k3 H2 (fun b hb => kk b (by simp [hb])) kt), fun s kk o => ?_⟩
      have e1 : setP (.ix k :: p) (.tup xs) = fun y' => .tup (xs.set k (setP p z y')) := funext fun y' => by simp only [setP, hz]
      rw [e1]
      have r := h4 s (fun b hb => kk b (hb.elim (fun q => .inl (by simp [q])) fun q => .inr (by simp [q]))) (k4 s (fun b hb => kk b (hb.elim (fun q => .inl (by simp [q])) fun q => .inr (by simp [q]))) o)
      have := Ow.tup (s _ _ h) r
      simpa using this
    | _ => cases e
  | .key k :: p, _, _, x, y, o, e => by
    cases o with
    | @dK a F0 ks vs xs h hl t =>
      simp only [getP] at e
      obtain ⟨n, hn, e⟩ := Option.bind_eq_some_iff.mp e
      obtain ⟨z, hz, e⟩ := Option.bind_eq_some_iff.mp e
      obtain ⟨pre, post, G, u, rfl, h2, h3, h4⟩ := OwL.atp t hz
      obtain ⟨pre', post', G', w, rfl, k2, k3, k4⟩ := Ow.sub h3 e
      refine ⟨a :: (pre ++ pre'), post' ++ post, G', w, by simp, k2, fun H2 kk kt => .key (kk a (by simp) _ h) (posQ_look hn h2) (k3 H2 (fun b hb => kk b (by simp [hb])) kt), fun s kk o => ?_⟩
      have e1 : setP (.key k :: p) (.dK ks xs) = fun y' => .dK ks (xs.set n (setP p z y')) := funext fun y' => by simp only [setP, hn, hz]
      rw [e1]
      have r := h4 s (fun b hb => kk b (hb.elim (fun q => .inl (by simp [q])) fun q => .inr (by simp [q]))) (k4 s (fun b hb => kk b (hb.elim (fun q => .inl (by simp [q])) fun q => .inr (by simp [q]))) o)
      have := Ow.dK (kk a (.inl (by simp)) _ h) hl r
      simpa using this
    | _ => cases e
end
/-! ### a slot is hidden for a while -/
section
variable {K : PySem.W.Frag} {mg : Str → Option Value} {B : List Nat} {bv : Nat → V} {R P H P' H' H0 : Hp} {Fs Fs' : Nat → List Addr} {σ : L2.St} {env env' : DEnv} {i : Nat} {x : OD} {T F : List Addr}
theorem Sta.hide (S : Sta K mg B bv R P H Fs σ env) (i : Nat) : Sta K mg B bv (joinR R H (Fs i)) P H (fun j => if j = i then [] else Fs j) σ (env.set i none) where
  rh := fun a o e n => by
    by_cases h : a ∈ Fs i
    · rw [joinR_in h] at e; exact e
    · rw [joinR_out h] at e; exact S.rh _ _ e n
  tb := fun p hp => ⟨(S.tb p hp).1, by rw [joinR_out fun h => (S.tb p hp).2 (S.fr i _ h)]; exact (S.tb p hp).2⟩
  ph := S.ph
  rp := fun a h => by
    by_cases q : a ∈ Fs i
    · exact S.fp i a q
    · rw [joinR_out q] at h; exact S.rp a h
  slot := fun j y e => by
    by_cases hj : j = i
    · subst hj
      rw [List.getElem?_set] at e
      split at e
      · split at e <;> cases e
      · rename_i q; exact absurd rfl q
    · rw [List.getElem?_set_ne (Ne.symm hj)] at e
      simp only [hj, if_false]
      exact S.slot j y e
  dead := fun j h => by
    by_cases hj : j = i
    · simp [hj]
    · simp only [hj, if_false]
      refine S.dead j fun y e => h y ?_
      rw [List.getElem?_set_ne (Ne.symm hj)]
      exact e
  nd := fun j => by
    by_cases hj : j = i
    · simp [hj]
    · simp only [hj, if_false]; exact S.nd j
  dj := fun j k a hjk h => by
    by_cases hj : j = i
    · simp [hj] at h
    · simp only [hj, if_false] at h
      by_cases hk : k = i
      · simp [hk]
      · simp only [hk, if_false]; exact S.dj j k a hjk h
  fr := fun j a h => by
    by_cases hj : j = i
    · simp [hj] at h
    · simp only [hj, if_false] at h
      rw [joinR_out (S.dj j i a hj h)]
      exact S.fr j a h
  fp := fun j a h => by
    by_cases hj : j = i
    · simp [hj] at h
    · simp only [hj, if_false] at h; exact S.fp j a h
  len := by rw [List.length_set]; exact S.len
  pin := S.pin
  nt := fun a xs e => by
    by_cases h : a ∈ Fs i
    · rw [joinR_in h] at e; exact S.notup h xs e
    · rw [joinR_out h] at e; exact S.nt a xs e
theorem Sta.hide_same (S : Sta K mg B bv R P H Fs σ env) (i : Nat) : Same R (joinR R H (Fs i)) := fun a o e => by
  rw [joinR_out fun h => by rw [S.fr i a h] at e; cases e]
  exact e
/-- a slot that holds nothing gets a tree -/
theorem Sta.fill (S : Sta K mg B bv R P H Fs σ env) {v : V} (he : env[i]? = some none) (hv : σ[i]? = some (some v)) (o : Ow K mg P H F v x) (nd : F.Nodup) (fr : ∀ a ∈ F, R a = none) (fp : ∀ a ∈ F, P a = none) (ap : ∀ a ∈ F, ∀ j, a ∉ Fs j) :
    Sta K mg B bv R P H (fun j => if j = i then F else Fs j) σ (env.set i (some x)) where
  rh := S.rh
  tb := S.tb
  ph := S.ph
  rp := S.rp
  slot := fun j y e => by
    by_cases hj : j = i
    · subst hj
      have hl := (List.getElem?_eq_some_iff.mp he).1
      rw [List.getElem?_set_self hl] at e
      cases e
      exact ⟨v, hv, by simpa using o⟩
    · rw [List.getElem?_set_ne (Ne.symm hj)] at e
      simp only [hj, if_false]
      exact S.slot j y e
  dead := fun j h => by
    by_cases hj : j = i
    · subst hj
      have hl := (List.getElem?_eq_some_iff.mp he).1
      exact absurd (List.getElem?_set_self hl) (h x)
    · simp only [hj, if_false]
      refine S.dead j fun y e => h y ?_
      rw [List.getElem?_set_ne (Ne.symm hj)]
      exact e
  nd := fun j => by
    by_cases hj : j = i
    · simp only [hj, if_true]; exact nd
    · simp only [hj, if_false]; exact S.nd j
  dj := fun j k a hjk h => by
    by_cases hj : j = i
    · simp only [hj, if_true] at h
      by_cases hk : k = i
      · exact absurd (hj.trans hk.symm) hjk
      · simp only [hk, if_false]; exact ap a h k
    · simp only [hj, if_false] at h
      by_cases hk : k = i
      · simp only [hk, if_true]; exact fun z => ap a z j h
      · simp only [hk, if_false]; exact S.dj j k a hjk h
  fr := fun j a h => by
    by_cases hj : j = i
    · simp only [hj, if_true] at h; exact fr a h
    · simp only [hj, if_false] at h; exact S.fr j a h
  fp := fun j a h => by
    by_cases hj : j = i
    · simp only [hj, if_true] at h; exact fp a h
    · simp only [hj, if_false] at h; exact S.fp j a h
  len := by rw [List.length_set]; exact S.len
  pin := S.pin
  nt := S.nt
/-- what was hidden is as it was -/
theorem Sta.back_at (S : Sta K mg B bv R P H Fs σ env) (i : Nat) (S' : Sta K mg B bv (joinR R H (Fs i)) P' H' Fs' σ env') : (∀ a ∈ Fs i, ∀ o, H a = some o → H' a = some o) ∧ (∀ a ∈ Fs i, P' a = none) ∧ ∀ a ∈ Fs i, ∀ j, a ∉ Fs' j := by
  have key : ∀ a ∈ Fs i, joinR R H (Fs i) a ≠ none := fun a h => by
    obtain ⟨o, e⟩ := S.there h
    rw [joinR_in h, e]
    simp
  refine ⟨fun a h o e => S'.rh a o (by rw [joinR_in h]; exact e) (S.nota (S.fr i a h)), fun a h => S'.rp a (key a h), fun a h j hj => key a h (S'.fr j a hj)⟩
end
end DL

set_option maxHeartbeats 2000000
/-! DL46: a place as a state of its own (focus). -/
namespace DL
open PySem PySem.Spec PyProof.Rows L2
section
variable {K : PySem.W.Frag} {mg : Str → Option Value} {B : List Nat} {bv : Nat → V} {R P H P' H' : Hp} {Fs Fs' : Nat → List Addr} {σ : L2.St} {env : DEnv} {i : Nat} {x y : OD} {p : List Stp}
abbrev b0 : Nat → V := fun _ => .non
theorem Sta.focus (S : Sta K mg B bv R P H Fs σ env) (hx : env[i]? = some (some x)) (hy : getP p x = some y) : ∃ (v u : V) (G : List Addr) (Rv : Hp), σ[i]? = some (some v) ∧ PlV mg H v p u ∧ Same R Rv ∧
    Sta K mg [] b0 Rv P H (fun j => if j = 0 then G else []) [some u] [some y] ∧
    ∀ {y' : OD} {P' H' : Hp} {Fs' : Nat → List Addr}, Same P P' → Sta K mg [] b0 Rv P' H' Fs' [some u] [some y'] → ∃ Fs2, Sta K mg B bv R P' H' Fs2 σ (env.set i (some (setP p x y'))) ∧ ∀ a, Rv a = none → (∀ j, a ∉ Fs' j) → ∀ j, a ∉ Fs2 j := by
  obtain ⟨v, hv, ox⟩ := S.slot i x hx
  obtain ⟨pre, post, G, u, hF, oy, pl, rb⟩ := ox.sub hy
  have hil := (List.getElem?_eq_some_iff.mp hx).1
  have ndi := S.nd i
  rw [hF] at ndi
  obtain ⟨n1, n2, n3⟩ := List.nodup_append.mp ndi
  obtain ⟨n4, n5, n6⟩ := List.nodup_append.mp n2
  have hpre : ∀ a ∈ pre, a ∈ Fs i := fun a h => by rw [hF]; exact List.mem_append_left _ h
  have hpost : ∀ a ∈ post, a ∈ Fs i := fun a h => by rw [hF]; exact List.mem_append_right _ (List.mem_append_right _ h)
  have hG : ∀ a ∈ G, a ∈ Fs i := fun a h => by rw [hF]; exact List.mem_append_right _ (List.mem_append_left _ h)
  generalize hFo : (fun j => if j = i then pre ++ post else Fs j) = Fo
  have foi : ∀ {a j}, a ∈ Fo j → a ∈ Fs j := fun {a j} h => by
    rw [← hFo] at h
    by_cases hj : j = i
    · simp only [hj, if_true] at h
      rw [hj]
      exact (List.mem_append.mp h).elim (hpre a) (hpost a)
    · simpa only [hj, if_false] using h
  have fo1 : ∀ {a}, a ∈ pre → a ∈ Fo i := fun {a} h => by rw [← hFo]; simp [h]
  have fo2 : ∀ {a}, a ∈ post → a ∈ Fo i := fun {a} h => by rw [← hFo]; simp [h]
  have fo3 : ∀ {a j}, j ≠ i → a ∈ Fs j → a ∈ Fo j := fun {a j} hj h => by rw [← hFo]; simp only [hj, if_false]; exact h
  have gno : ∀ a ∈ G, ¬ ∃ j, a ∈ Fo j := fun a h => by
    rintro ⟨j, hj⟩
    by_cases e : j = i
    · rw [← hFo] at hj
      simp only [e, if_true] at hj
      rcases List.mem_append.mp hj with z | z
      · exact n3 a z a (List.mem_append_left _ h) rfl
      · exact n6 a h a z rfl
    · exact S.dj i j a (Ne.symm e) (hG a h) (foi hj)
  have rvs : ∀ {a j}, a ∈ Fo j → ∃ o, H a = some o ∧ allR R H Fo a = some o := fun {a j} h => by
    obtain ⟨o, e⟩ := S.there (foi h)
    exact ⟨o, e, by rw [allR_in ⟨j, h⟩]; exact e⟩
  have same : Same R (allR R H Fo) := fun a o e => by
    rw [allR_out fun ⟨j, h⟩ => by rw [S.fr j a (foi h)] at e; cases e]
    exact e
  refine ⟨v, u, G, allR R H Fo, hv, pl H (fun _ _ _ e => e) (fun b _ e => S.ph b _ e), same, ?_, ?_⟩
  · exact
    { rh := fun a o e n => by
        by_cases q : ∃ j, a ∈ Fo j
        · rw [allR_in q] at e; exact e
        · rw [allR_out q] at e; exact S.rh _ _ e n
      tb := fun p hp => ⟨(S.tb p hp).1, by rw [allR_out fun ⟨j, h⟩ => (S.tb p hp).2 (S.fr j _ (foi h))]; exact (S.tb p hp).2⟩
      ph := S.ph
      rp := fun a e => by
        by_cases q : ∃ j, a ∈ Fo j
        · obtain ⟨j, q⟩ := q; exact S.fp j a (foi q)
        · rw [allR_out q] at e; exact S.rp a e
      slot := fun j z e => by
        cases j with
        | zero => cases e; exact ⟨u, rfl, oy⟩
        | succ j => simp at e
      dead := fun j h => by
        cases j with
        | zero => exact absurd rfl (h y)
        | succ j => simp
      nd := fun j => by
        cases j with
        | zero => exact n4
        | succ j => simp
      dj := fun j k a hjk h => by
        cases j with
        | zero => cases k with
          | zero => exact absurd rfl hjk
          | succ k => simp
        | succ j => simp at h
      fr := fun j a h => by
        cases j with
        | zero => rw [allR_out (gno a (by simpa using h))]; exact S.fr i a (hG a (by simpa using h))
        | succ j => simp at h
      fp := fun j a h => by
        cases j with
        | zero => exact S.fp i a (hG a (by simpa using h))
        | succ j => simp at h
      len := rfl
      pin := fun j hj => by cases hj
      nt := fun a xs e => by
        by_cases q : ∃ j, a ∈ Fo j
        · rw [allR_in q] at e; obtain ⟨j, q⟩ := q; exact S.notup (foi q) xs e
        · rw [allR_out q] at e; exact S.nt a xs e }
  · intro y' P' H' Fs' pp Sv
    obtain ⟨u', h1, oy'⟩ := Sv.slot 0 y' rfl
    cases h1
    have keep : ∀ {a j}, a ∈ Fo j → ∀ o, H a = some o → H' a = some o := fun {a j} h o e => Sv.rh a o (by rw [allR_in ⟨j, h⟩]; exact e) (S.nota (S.fr j a (foi h)))
    have whole := rb pp (fun b hb => hb.elim (fun z => keep (fo1 z)) fun z => keep (fo2 z)) oy'
    have nz : ∀ {a}, R a ≠ none → allR R H Fo a ≠ none := fun {a} h => by
      cases q : R a with
      | none => exact absurd q h
      | some o => rw [same _ _ q]; simp
    have no0 : ∀ {a j}, a ∈ Fo j → allR R H Fo a ≠ none := fun {a j} h => by
      obtain ⟨o, _, e⟩ := rvs h
      rw [e]; simp
    have ap0 : ∀ {a k j}, a ∈ Fs' k → a ∉ Fo j := fun {a k j} h z => no0 z (Sv.fr k a h)
    refine ⟨fun j => if j = i then pre ++ (Fs' 0 ++ post) else Fs j, ?_, ?_⟩
    · exact
      { rh := Same.transX same Sv.rh
        tb := fun p hp => ⟨(Sv.tb p hp).1, (S.tb p hp).2⟩
        ph := Sv.ph
        rp := fun a h => Sv.rp a (nz h)
        slot := fun j z e => by
          by_cases hj : j = i
          · subst hj
            rw [List.getElem?_set_self hil] at e
            cases e
            exact ⟨v, hv, by simpa using whole⟩
          · rw [List.getElem?_set_ne (Ne.symm hj)] at e
            simp only [hj, if_false]
            obtain ⟨w, w1, w2⟩ := S.slot j z e
            exact ⟨w, w1, w2.keep pp fun a ha o eo => keep (fo3 hj ha) o eo⟩
        dead := fun j h => by
          by_cases hj : j = i
          · subst hj
            exact absurd (List.getElem?_set_self hil) (h _)
          · simp only [hj, if_false]
            refine S.dead j fun z e => h z ?_
            rw [List.getElem?_set_ne (Ne.symm hj)]
            exact e
        nd := fun j => by
          by_cases hj : j = i
          · simp only [hj, if_true]
            refine List.nodup_append.mpr ⟨n1, List.nodup_append.mpr ⟨Sv.nd 0, n5, fun a ha b hb e => ?_⟩, fun a ha b hb e => ?_⟩
            · subst e; exact ap0 ha (fo2 hb)
            · subst e
              rcases List.mem_append.mp hb with z | z
              · exact ap0 z (fo1 ha)
              · exact n3 a ha a (List.mem_append_right _ z) rfl
          · simp only [hj, if_false]; exact S.nd j
        dj := fun j k a hjk h => by
          have cross : ∀ {k}, k ≠ i → a ∈ pre ++ (Fs' 0 ++ post) → a ∉ Fs k := fun {k} hk h z => by
            rcases List.mem_append.mp h with h | h
            · exact S.dj i k a (Ne.symm hk) (hpre a h) z
            · rcases List.mem_append.mp h with h | h
              · exact ap0 h (fo3 hk z)
              · exact S.dj i k a (Ne.symm hk) (hpost a h) z
          by_cases hj : j = i
          · simp only [hj, if_true] at h
            by_cases hk : k = i
            · exact absurd (hj.trans hk.symm) hjk
            · simp only [hk, if_false]; exact cross hk h
          · simp only [hj, if_false] at h
            by_cases hk : k = i
            · simp only [hk, if_true]; exact fun z => cross hj z h
            · simp only [hk, if_false]; exact S.dj j k a hjk h
        fr := fun j a h => by
          by_cases hj : j = i
          · simp only [hj, if_true] at h
            rcases List.mem_append.mp h with h | h
            · exact S.fr i a (hpre a h)
            · rcases List.mem_append.mp h with h | h
              · exact same.free (Sv.fr 0 a h)
              · exact S.fr i a (hpost a h)
          · simp only [hj, if_false] at h; exact S.fr j a h
        fp := fun j a h => by
          by_cases hj : j = i
          · simp only [hj, if_true] at h
            rcases List.mem_append.mp h with h | h
            · exact Sv.rp a (no0 (fo1 h))
            · rcases List.mem_append.mp h with h | h
              · exact Sv.fp 0 a h
              · exact Sv.rp a (no0 (fo2 h))
          · simp only [hj, if_false] at h; exact Sv.rp a (no0 (fo3 hj h))
        len := by rw [List.length_set]; exact S.len
        pin := S.pin
        nt := S.nt }
    · intro a ha hno j hj
      by_cases e : j = i
      · simp only [e, if_true] at hj
        rcases List.mem_append.mp hj with h | h
        · exact no0 (fo1 h) ha
        · rcases List.mem_append.mp h with h | h
          · exact hno 0 h
          · exact no0 (fo2 h) ha
      · simp only [e, if_false] at hj; exact no0 (fo3 e hj) ha
/-- the hidden slot is shown again, as it was -/
theorem Sta.show_ (S : Sta K mg B bv R P H Fs σ env) {env' : DEnv} (hx : env[i]? = some (some x)) (pp : Same P P') (S' : Sta K mg B bv (joinR R H (Fs i)) P' H' Fs' σ env') (he : env'[i]? = some none) : Sta K mg B bv R P' H' (fun j => if j = i then Fs i else Fs' j) σ (env'.set i (some x)) := by
  obtain ⟨k1, k2, k3⟩ := S.back_at i S'
  obtain ⟨v, hv, ox⟩ := S.slot i x hx
  exact (S'.sub (S.hide_same i) S.hasT).fill he hv (ox.keep pp k1) (S.nd i) (S.fr i) k2 k3
end
end DL

set_option maxHeartbeats 2000000
/-! DL47: places as expressions; what is read of them; d.get at a place; place[k] = v. -/
namespace DL
open PySem PySem.Spec PyProof.Rows L2
def tP (K : PySem.W.Frag) (mg : Str → Option Value) (B : List Nat) (i : Nat) (pp : DEnv → Option (List Stp)) : TE := fun σ H Q => ∃ bv R P Fs env p x y, Sta K mg B bv R P H Fs σ env ∧ env[i]? = some (some x) ∧ pp env = some p ∧ getP p x = some y ∧
  ∀ v u, σ[i]? = some (some v) → PlV mg H v p u → Q u H
abbrev PL (X : Cx) (B : List Nat) (i : Nat) (e : Expr) (pp : DEnv → Option (List Stp)) : Prop := PE X e (tP X.K X.mg B i pp)
def pp0 : DEnv → Option (List Stp) := fun _ => some []
def ppF (c f : Str) (pp : DEnv → Option (List Stp)) : DEnv → Option (List Stp) := fun env => (pp env).map (· ++ [.fld c f])
def ixStp : PyData → Option (List Stp)
  | .int k => if 0 ≤ k then some [.ix k.toNat] else none
  | _ => none
def ppI (pp : DEnv → Option (List Stp)) (m : DEnv → Option PyData) : DEnv → Option (List Stp) := fun env => (pp env).bind fun p => (m env).bind fun d => (ixStp d).map (p ++ ·)
def placeO (i : Nat) (pp : DEnv → Option (List Stp)) : DEnv → Option OD := fun env => ((env[i]?).join).bind fun x => (pp env).bind fun p => getP p x
theorem place_some {i : Nat} {pp : DEnv → Option (List Stp)} {env : DEnv} {y : OD} (h : placeO i pp env = some y) : ∃ x p, env[i]? = some (some x) ∧ pp env = some p ∧ getP p x = some y := by
  unfold placeO at h
  obtain ⟨x, h1, h⟩ := Option.bind_eq_some_iff.mp h
  obtain ⟨p, h2, h3⟩ := Option.bind_eq_some_iff.mp h
  exact ⟨x, p, join_some h1, h2, h3⟩
theorem get_fld {c f : Str} {z y : OD} (h : getP [.fld c f] z = some y) : ∃ ns xs n, z = .obj c ns xs ∧ posN f ns = some n ∧ xs[n]? = some y := by
  cases z with
  | obj c' ns xs =>
    simp only [getP] at h
    split at h
    · rename_i e
      subst e
      obtain ⟨n, h1, h⟩ := Option.bind_eq_some_iff.mp h
      obtain ⟨w, h2, h3⟩ := Option.bind_eq_some_iff.mp h
      cases h3
      exact ⟨ns, xs, n, rfl, h1, h2⟩
    · cases h
  | _ => cases h
theorem get_ix {k : Nat} {z y : OD} (h : getP [.ix k] z = some y) : ∃ xs, (z = .lst xs ∨ z = .tup xs) ∧ xs[k]? = some y := by
  cases z with
  | lst xs =>
    simp only [getP] at h
    obtain ⟨w, h2, h3⟩ := Option.bind_eq_some_iff.mp h
    cases h3
    exact ⟨xs, .inl rfl, h2⟩
  | tup xs =>
    simp only [getP] at h
    obtain ⟨w, h2, h3⟩ := Option.bind_eq_some_iff.mp h
    cases h3
    exact ⟨xs, .inr rfl, h2⟩
  | _ => cases h
section
variable {X : Cx} {W : WX} {B : List Nat} {i : Nat} {pp : DEnv → Option (List Stp)} {e a b : Expr} {pos : Pos}
theorem pl_var (i : Nat) {x : Str} (hN : X.N[i]? = some x := by rfl) (hv : Vis X.env.scope x := by first | exact Or.inl rfl | exact Or.inr (Or.inl rfl) | exact Or.inr (Or.inr rfl)) (hd : (x == ("__debug__" : Str)) = false := by decide)
    (hcd : (x == ("__classdict__" : Str)) = false := by decide) : PL X B i (.Name x pos) pp0 := PE_mono (pe_var hN hv hd hcd) fun σ H Q ⟨bv, R, P, Fs, env, p, x, y, S, hx, hp, hy, k⟩ => by
  cases hp
  obtain ⟨v, h1, _⟩ := S.slot i _ hx
  exact ⟨v, h1, k v v h1 .nil⟩
theorem pl_fld (c f : Str) (he : PL X B i e pp) (hC : ∀ C, X.mg c = some (.ref C) → Cls X.K C ∧ NoAttr X.K C f) (hb : attributeBase e f X.env (eval e X.env) = eval e X.env := by rfl) : PL X B i (.Attribute e f pos) (ppF c f pp) :=
  PE_mono (pe_fld he hb) fun σ H Q ⟨bv, R, P, Fs, env, p, x, y, S, hx, hp, hy, k⟩ => by
    obtain ⟨p0, hp0, rfl⟩ := Option.map_eq_some_iff.mp hp
    rw [getP_app] at hy
    obtain ⟨z, hz, hy⟩ := Option.bind_eq_some_iff.mp hy
    refine ⟨bv, R, P, Fs, env, p0, x, z, S, hx, hp0, hz, fun v u hv hpl => ?_⟩
    obtain ⟨v', u', G, Rv, hv', pl', _, Sv, _⟩ := S.focus hx hz
    rw [hv] at hv'
    cases hv'
    have eu := pl'.det hpl
    subst eu
    obtain ⟨w0, h0, oz⟩ := Sv.slot 0 z rfl
    cases h0
    obtain ⟨ns, xs, n, rfl, hn, hxn⟩ := get_fld hy
    generalize (if (0 : Nat) = 0 then G else []) = G0 at oz
    cases oz with
    | @obj _ C a dx F0 _ vs _ hc h hdx hl t =>
      obtain ⟨_, _, _, w, _, hw, _, _⟩ := OwL.atp t hxn
      exact ⟨a, C, dx, _, w, rfl, h, (hC C hc).1, (hC C hc).2, pos_look hn hw, k v w hv (hpl.app (.fld h hc (pos_look hn hw) .nil))⟩
theorem pl_ix {m : DEnv → Option PyData} (he : PL X B i a pp) (hb : QD X B b m) (hs : PlainIx b := by intro _ _; rfl) : PL X B i (.Subscript a b pos) (ppI pp m) :=
  PE_mono (pe_ix ix_seq he hb hs) fun σ H Q ⟨bv, R, P, Fs, env, p, x, y, S, hx, hp, hy, k⟩ => by
    obtain ⟨p0, hp0, hp⟩ := Option.bind_eq_some_iff.mp hp
    obtain ⟨d, hd, hp⟩ := Option.bind_eq_some_iff.mp hp
    obtain ⟨q, hq, rfl⟩ := Option.map_eq_some_iff.mp hp
    rw [getP_app] at hy
    obtain ⟨z, hz, hy⟩ := Option.bind_eq_some_iff.mp hy
    refine ⟨bv, R, P, Fs, env, p0, x, z, S, hx, hp0, hz, fun v u hv hpl => ⟨bv, R, P, Fs, env, d, S, hd, fun w rw => ?_⟩⟩
    cases d with
    | int j =>
      simp only [ixStp] at hq
      split at hq
      · rename_i h0
        cases hq
        obtain ⟨v', u', G, Rv, hv', pl', _, Sv, _⟩ := S.focus hx hz
        rw [hv] at hv'
        cases hv'
        have eu := pl'.det hpl
        subst eu
        obtain ⟨w0, hw0, oz⟩ := Sv.slot 0 z rfl
        cases hw0
        obtain ⟨xs, (rfl | rfl), hxk⟩ := get_ix hy
        all_goals generalize (if (0 : Nat) = 0 then G else []) = G0 at oz
        · cases oz with
          | @lst a F0 vs _ h t =>
            obtain ⟨_, _, _, c, _, hc, _, _⟩ := OwL.atp t hxk
            have hlt := (List.getElem?_eq_some_iff.mp hc).1
            cases rw
            refine .inl ⟨a, vs, j, c, rfl, rfl, .inl (.inl h), ?_, k v c hv (hpl.app (.ix h hc .nil))⟩
            show (ixN vs.length j).bind (fun j => vs[j]?) = some c
            rw [← ixD_eq, ixD_nn h0 (by omega)]
            exact hc
        · cases oz with
          | @tup a F0 vs _ h t =>
            obtain ⟨_, _, _, c, _, hc, _, _⟩ := OwL.atp t hxk
            have hlt := (List.getElem?_eq_some_iff.mp hc).1
            cases rw
            have hh := Sv.ph _ _ h
            refine .inr (.inl ⟨a, vs, j, c, rfl, rfl, .inl (.inl hh), ?_, k v c hv (hpl.app (.tx hh hc .nil))⟩)
            show (ixN vs.length j).bind (fun j => vs[j]?) = some c
            rw [← ixD_eq, ixD_nn h0 (by omega)]
            exact hc
      · cases hq
    | _ => cases hq
/-- data of a place, for the moment -/
theorem qd_pl (he : PL X B i e pp) : QD X B e (dataO (placeO i pp)) := PE_mono he fun σ H Q ⟨bv, R, P, Fs, env, d, S, q, k⟩ => by
  unfold dataO at q
  obtain ⟨y, h1, h2⟩ := Option.bind_eq_some_iff.mp q
  obtain ⟨x, p, hx, hp, hy⟩ := place_some h1
  refine ⟨bv, R, P, Fs, env, p, x, y, S, hx, hp, hy, fun v u hv hpl => ?_⟩
  obtain ⟨v', u', G, Rv, hv', pl', _, Sv, _⟩ := S.focus hx hy
  rw [hv] at hv'
  cases hv'
  have eu := pl'.det hpl
  subst eu
  obtain ⟨w0, hw0, oz⟩ := Sv.slot 0 y rfl
  cases hw0
  exact k u' (oz.frozen Sv.ph (fun _ _ _ e => e) h2)
/-- what is read of a place, frozen already -/
theorem ed_pl (he : PL X B i e pp) : ED X W B e (M.ro (placeO i pp)) := PE_mono he fun σ H Q ⟨bv, R, P, Fs, env, S, q⟩ => by
  unfold M.ro at q
  cases hx : placeO i pp env with
  | none => rw [hx] at q; exact q.elim
  | some y =>
    rw [hx] at q
    cases y with
    | pur d =>
      obtain ⟨x, p, hx, hp, hy⟩ := place_some hx
      refine ⟨bv, R, P, Fs, env, p, x, _, S, hx, hp, hy, fun v u hv hpl => ?_⟩
      obtain ⟨v', u', G, Rv, hv', pl', _, Sv, _⟩ := S.focus hx hy
      rw [hv] at hv'
      cases hv'
      have eu := pl'.det hpl
      subst eu
      obtain ⟨w0, hw0, oz⟩ := Sv.slot 0 _ rfl
      cases hw0
      exact q u' P H Fs S (Same.refl _) oz.pur_inv
    | _ => exact q.elim
end
/-! ### m, the slot i being hidden -/
def M.hid {α : Type} (i : Nat) (m : M α) : M α := fun env => match env[i]? with
  | some (some x) => (match m (env.set i none) with
    | .ok a env1 => (match env1[i]? with
      | some none => .ok a (env1.set i (some x))
      | _ => .no)
    | _ => .no)
  | _ => .no
theorem hid_post {α β : Type} {i : Nat} {m : M α} {f : α → M β} {env : DEnv} {x : OD} {ok : β → DEnv → Prop} {ex : Xn → DEnv → Prop} (hx : env[i]? = some (some x)) (h : post (M.bind (M.hid i m) f env) ok ex) {ok' : α → DEnv → Prop} {ex' : Xn → DEnv → Prop}
    (k : ∀ a env1, env1[i]? = some none → post (f a (env1.set i (some x))) ok ex → ok' a env1) : post (m (env.set i none)) ok' ex' := by
  unfold M.bind M.hid at h
  rw [hx] at h
  simp only at h
  cases hm : m (env.set i none) with
  | no => rw [hm] at h; exact h.elim
  | ex z e => rw [hm] at h; exact h.elim
  | ok a env1 =>
    rw [hm] at h
    simp only at h
    cases he : env1[i]? with
    | none => rw [he] at h; exact h.elim
    | some o =>
      rw [he] at h
      cases o with
      | some z => exact h.elim
      | none => exact k a env1 he h
section
variable {K : PySem.W.Frag} {mg : Str → Option Value} {B : List Nat} {bv : Nat → V} {R P H P' H' : Hp} {Fs Fs' : Nat → List Addr} {σ : L2.St} {env env' : DEnv} {i : Nat} {x y : OD} {p : List Stp}
/-- the value at a place stays while the slot is hidden, and what it is -/
theorem Sta.stays (S : Sta K mg B bv R P H Fs σ env) (hx : env[i]? = some (some x)) (hy : getP p x = some y) {v u : V} (hv : σ[i]? = some (some v)) (pl : PlV mg H v p u) (pp : Same P P') (S' : Sta K mg B bv (joinR R H (Fs i)) P' H' Fs' σ env') :
    PlV mg H' v p u ∧ ∃ G, Ow K mg P' H' G u y := by
  obtain ⟨k1, k2, k3⟩ := S.back_at i S'
  obtain ⟨v', hv', ox⟩ := S.slot i x hx
  rw [hv] at hv'
  cases hv'
  obtain ⟨pre, post, G, u', hF, oy, pk, _⟩ := ox.sub hy
  have e := (pk H (fun _ _ _ e => e) fun b _ e => S.ph b _ e).det pl
  subst e
  exact ⟨pk H' (fun b hb => k1 b (by rw [hF]; exact List.mem_append_left _ hb)) (fun b _ e => S'.ph b _ (pp b _ e)), G, oy.keep pp fun b hb => k1 b (by rw [hF]; exact List.mem_append_right _ (List.mem_append_left _ hb))⟩
end
section
variable {X : Cx} {W : WX} {B : List Nat} {i : Nat} {pp : DEnv → Option (List Stp)} {o e f : Expr} {mk mz : M PyData} {apos cpos : Pos}
end
/-! ### place[k] = v, v frozen -/
section
variable {X : Cx} {W : WX} {B : List Nat} {i : Nat} {pp : DEnv → Option (List Stp)} {o e k : Expr} {mo : M OD} {mk : M PyData} {pos pos' : Pos}
end
end DL

set_option maxHeartbeats 2000000
/-! DL48: methods of own instances at places; new instances; displays of owned things. -/
namespace DL
open PySem PySem.Spec PyProof.Rows L2
section
variable {K : PySem.W.Frag} {mg : Str → Option Value} {W : WX} {B : List Nat} {bv : Nat → V} {R P P0 H P' H' Rv : Hp} {Fs Fs' : Nat → List Addr} {σ : L2.St} {env : DEnv} {i n : Nat} {x y y' : OD} {p : List Stp} {u v : V} {vs : List V} {ds : List PyData} {G : List Addr} {f : M OD} {Q : VK}
theorem rpa_at : ∀ {vs : List V} {ds : List PyData} {j : Nat} {d : PyData}, RpA K P vs ds → ds[j]? = some d → ∃ w, vs[j]? = some w ∧ Rp K P w d
  | _, _, 0, d, .cons h t, e => by cases e; exact ⟨_, rfl, h⟩
  | _, _, j + 1, d, .cons h t, e => by simpa using rpa_at (j := j) t (by simpa using e)
  | _, _, j, d, .nil, e => by simp at e
theorem pure_at (r : RpA K P vs ds) {j : Nat} {z : OD} (e : (ds.map fun d => some (OD.pur d))[j]? = some (some z)) : ∃ w, (vs.map some)[j]? = some (some w) ∧ Ow K mg P H [] w z := by
  rw [List.getElem?_map] at e
  obtain ⟨d, h1, h2⟩ := Option.map_eq_some_iff.mp e
  cases h2
  obtain ⟨w, h3, h4⟩ := rpa_at r h1
  exact ⟨w, by rw [List.getElem?_map, h3]; rfl, .pur h4⟩
theorem Sta.args (S : Sta K mg [] b0 Rv P H (fun j => if j = 0 then G else []) [some u] [some y]) (r : RpA K P vs ds) : Sta K mg [0] (fun _ => u) Rv P H (fun j => if j = 0 then G else []) ((u :: vs).map some) (some y :: ds.map fun d => some (.pur d)) where
  rh := S.rh
  tb := S.tb
  ph := S.ph
  rp := S.rp
  slot := fun j z e => by
    cases j with
    | zero =>
      cases e
      obtain ⟨w, h1, h2⟩ := S.slot 0 y rfl
      cases h1
      exact ⟨u, rfl, h2⟩
    | succ j =>
      obtain ⟨w, h1, h2⟩ := pure_at (mg := mg) (H := H) r (j := j) (z := z) (by simpa using e)
      exact ⟨w, by simpa using h1, by simpa using h2⟩
  dead := fun j h => by
    cases j with
    | zero => exact absurd rfl (h y)
    | succ j => simp
  nd := S.nd
  dj := S.dj
  fr := S.fr
  fp := S.fp
  len := by simp [r.length]
  pin := fun j hj => by
    rw [List.mem_singleton.mp hj]
    rfl
  nt := S.nt
theorem Sta.first {rest : DEnv} (S : Sta K mg [0] (fun _ => u) Rv P' H' Fs' ((u :: vs).map some) (some y' :: rest)) : Sta K mg [] b0 Rv P' H' (fun j => if j = 0 then Fs' 0 else []) [some u] [some y'] where
  rh := S.rh
  tb := S.tb
  ph := S.ph
  rp := S.rp
  slot := fun j z e => by
    cases j with
    | zero =>
      cases e
      obtain ⟨w, h1, h2⟩ := S.slot 0 y' rfl
      cases h1
      exact ⟨u, rfl, h2⟩
    | succ j => simp at e
  dead := fun j h => by
    cases j with
    | zero => exact absurd rfl (h y')
    | succ j => simp
  nd := fun j => by
    cases j with
    | zero => exact S.nd 0
    | succ j => simp
  dj := fun j k a hjk h => by
    cases j with
    | zero => cases k with
      | zero => exact absurd rfl hjk
      | succ k => simp
    | succ j => simp at h
  fr := fun j a h => by
    cases j with
    | zero => exact S.fr 0 a (by simpa using h)
    | succ j => simp at h
  fp := fun j a h => by
    cases j with
    | zero => exact S.fp 0 a (by simpa using h)
    | succ j => simp at h
  len := rfl
  pin := fun j hj => by cases hj
  nt := S.nt
/-- the call of a method at a place, the arguments being there -/
def methB (i : Nat) (p : List Stp) (x y : OD) (f : M OD) (ds : List PyData) : M OD := fun env => match f (some y :: ds.map fun d => some (.pur d)) with
  | .ok r (some y' :: _) => .ok r (env.set i (some (setP p x y')))
  | .ex z (some y' :: _) => .ex z (env.set i (some (setP p x y')))
  | _ => .no
theorem meth_sp (S : Sta K mg B bv R P H Fs σ env) (hx : env[i]? = some (some x)) (hy : getP p x = some y) (hv : σ[i]? = some (some v)) (pl : PlV mg H v p u) (s0 : Same P0 P) (r : RpA K P vs ds)
    (hlen : ∀ e, ((∀ x e', f e ≠ .ok x e') ∧ ∀ x e', f e ≠ .ex x e') ∨ e.length = n) (h : post (methB i p x y f ds env) (OkO K mg B bv R P0 σ Q) (ExD K mg W B bv R P0 σ)) :
    spF K mg [0] f (u :: vs) H Q (fun cls d H' => W cls d σ H') ∧ (u :: vs).length = n := by
  unfold methB at h
  cases qf : f (some y :: ds.map fun d => some (.pur d)) with
  | no => rw [qf] at h; exact h.elim
  | ex z outs =>
    rw [qf] at h
    cases outs with
    | nil => exact h.elim
    | cons o outs =>
      cases o with
      | none => exact h.elim
      | some y' =>
        simp only at h
        obtain ⟨v', u', G, Rv, hv', pl', same, Sv, back⟩ := S.focus hx hy
        rw [hv] at hv'
        cases hv'
        have eu := pl'.det pl
        subst eu
        refine ⟨⟨fun j hj => by rw [List.mem_singleton.mp hj]; simp, fun _ => u', Rv, P, _, _, Sv.args r, ?_⟩, ?_⟩
        · rw [qf]
          intro cls dx P' H' Fs' C pp xn
          obtain ⟨F2, T, ap⟩ := back pp C.first
          exact h cls dx P' H' F2 T (s0.trans pp) xn
        · rcases hlen (some y :: ds.map fun d => some (.pur d)) with ⟨_, z1⟩ | z
          · exact absurd qf (z1 _ _)
          · rw [List.length_cons, List.length_map] at z
            rw [List.length_cons, r.length]
            exact z
  | ok z outs =>
    rw [qf] at h
    cases outs with
    | nil => exact h.elim
    | cons o outs =>
      cases o with
      | none => exact h.elim
      | some y' =>
        simp only at h
        obtain ⟨v', u', G, Rv, hv', pl', same, Sv, back⟩ := S.focus hx hy
        rw [hv] at hv'
        cases hv'
        have eu := pl'.det pl
        subst eu
        refine ⟨⟨fun j hj => by rw [List.mem_singleton.mp hj]; simp, fun _ => u', Rv, P, _, _, Sv.args r, ?_⟩, ?_⟩
        · rw [qf]
          intro v1 P' H' Fs' G2 C pp ow fr
          obtain ⟨F2, T, ap⟩ := back pp C.first
          refine h v1 P' H' F2 G2 T (s0.trans pp) ow ⟨fr.nd, fun a ha => same.free (fr.r a ha), fr.p, fun a ha j => ap a (fr.r a ha) (fun k => ?_) j⟩
          by_cases e : k = 0
          · simp only [e, if_true]; exact fr.f a ha 0
          · simp [e]
        · rcases hlen (some y :: ds.map fun d => some (.pur d)) with ⟨z1, _⟩ | z
          · exact absurd qf (z1 _ _)
          · rw [List.length_cons, List.length_map] at z
            rw [List.length_cons, r.length]
            exact z
end
/-! ### methods -/
def isObj (c m : Str) : OD → Bool
  | .obj c' ns _ => decide (c' = c) && (posN m ns).isNone
  | _ => false
theorem no_look {f : Str} : ∀ {ns : List Str} {vs : List V}, posN f ns = none → (ns.zip vs).lookup f = none
  | [], _, _ => rfl
  | a :: ns, [], _ => rfl
  | a :: ns, w :: vs, h => by
    simp only [posN] at h
    split at h
    · cases h
    · rename_i e
      rw [List.zip_cons_cons, List.lookup_cons, show (f == a) = false by simpa using e]
      exact no_look (by simpa using h)
structure MethK (P : Program) (w : World) (K : PySem.W.Frag) (mg : Str → Option Value) (base : Heap) (k : Nat) (c mn : Str) (ps : List Str) (m : M OD) (kb : List (List Str × Nat × List Nat)) : Prop where
  ex : ∃ C f fd, mg c = some (.ref C) ∧ Cls K C ∧ Meth K C mn f ∧ FnG P w K mg base k f fd ps [0] m ∧ Binds K fd ps [] ∧ ∀ q ∈ kb, KB K fd ps q.1 q.2.1 q.2.2
def M.methP (i : Nat) (pp : DEnv → Option (List Stp)) (c mn : Str) (f : M OD) (l : M (List PyData)) : M OD := fun env => match (env[i]?).join, pp env, placeO i pp env with
  | some x, some p, some y => if isObj c mn y = true then M.bind (M.hid i l) (fun ds => methB i p x y f ds) env else .no
  | _, _, _ => .no
theorem meth_start {i : Nat} {pp : DEnv → Option (List Stp)} {c mn : Str} {f : M OD} {l : M (List PyData)} {env : DEnv} {ok : OD → DEnv → Prop} {ex : Xn → DEnv → Prop} (h : post (M.methP i pp c mn f l env) ok ex) :
    ∃ x p ns xs, env[i]? = some (some x) ∧ pp env = some p ∧ getP p x = some (.obj c ns xs) ∧ posN mn ns = none ∧ post (M.bind (M.hid i l) (fun ds => methB i p x (.obj c ns xs) f ds) env) ok ex := by
  unfold M.methP at h
  cases h1 : (env[i]?).join with
  | none => rw [h1] at h; exact h.elim
  | some x =>
    rw [h1] at h
    cases h2 : pp env with
    | none => rw [h2] at h; exact h.elim
    | some p =>
      rw [h2] at h
      cases h3 : placeO i pp env with
      | none => rw [h3] at h; exact h.elim
      | some y =>
        rw [h3] at h
        simp only at h
        split at h
        · rename_i ho
          have hy : getP p x = some y := by
            unfold placeO at h3
            rw [h1, h2] at h3
            exact h3
          cases y with
          | obj c' ns xs =>
            simp only [isObj, Bool.and_eq_true, decide_eq_true_eq] at ho
            obtain ⟨rfl, ho⟩ := ho
            exact ⟨x, p, ns, xs, join_some h1, rfl, hy, by simpa using ho, h⟩
          | _ => cases ho
        · exact h.elim
section
variable {X : Cx} {W : WX} {B : List Nat} {j k i : Nat} {c mn : Str} {ps : List Str} {m : M OD} {ml : M (List PyData)} {pp : DEnv → Option (List Stp)} {o e : Expr} {es : List Expr} {kws : List Keyword} {apos pos : Pos} {kb : List (List Str × Nat × List Nat)}
/-- the instance at a place -/
theorem obj_at {bv : Nat → V} {R P H : Hp} {Fs : Nat → List Addr} {σ : L2.St} {env : DEnv} {x : OD} {p : List Stp} {ns : List Str} {xs : List OD} {v u : V} {C : Addr} {K : PySem.W.Frag} {mg : Str → Option Value} (S : Sta K mg B bv R P H Fs σ env) (hx : env[i]? = some (some x)) (hy : getP p x = some (.obj c ns xs)) (hv : σ[i]? = some (some v)) (pl : PlV mg H v p u) (hC : mg c = some (.ref C)) (hn : posN mn ns = none) :
    ∃ a dx fs, u = .ref a ∧ H a = some (.ins C dx fs) ∧ fs.lookup mn = none := by
  obtain ⟨v', u', G, Rv, hv', pl', _, Sv, _⟩ := S.focus hx hy
  rw [hv] at hv'
  cases hv'
  have eu := pl'.det pl
  subst eu
  obtain ⟨w0, hw0, oz⟩ := Sv.slot 0 _ rfl
  cases hw0
  generalize (if (0 : Nat) = 0 then G else []) = G0 at oz
  cases oz with
  | @obj _ C' a dx F0 _ vs _ hc h hdx hl t =>
    rw [hC] at hc
    cases hc
    exact ⟨a, dx, _, rfl, h, no_look hn⟩
theorem eo_meth0 (D : MethK X.prog X.w X.K X.mg X.base j c mn ps m kb) (g : Gd X) (hr : Room k X.A) (tk : Takes X W) (ho : PL X B i o pp) (hjk : j ≤ k := by decide) {pl : Sem Bool}
    (ht : eval (.Call (.Attribute o mn apos) [] [] pos) X.env = (do
      let ov ← eval o X.env
      standAt apos.atName
      let (f, first) ← holding [ov] (getMethod ov mn pl)
      callWith pos f first (backTo pos (starEach [] X.env)) (backToKw pos (keywordEach [] X.env))) := by rfl) :
    EO X W B (.Call (.Attribute o mn apos) [] [] pos) (M.methP i pp c mn m M.nil) := ⟨fun pins s σ H Q I ⟨bv, R, P, Fs, env, S, q⟩ => by
  obtain ⟨C, f, fd, hC, hcl, hm, F, hb, _⟩ := D.ex
  obtain ⟨x, p, ns, xs, hx, hp, hy, hn, q⟩ := meth_start q
  refine PySem.W.methodCall_KW (pl := pl) (thn (ho.run pins s σ H (fun u H1 => H1 = H ∧ (∃ a dx fs, u = .ref a ∧ H a = some (.ins C dx fs) ∧ fs.lookup mn = none) ∧ ∃ v, σ[i]? = some (some v) ∧ PlV X.mg H v p u) I ⟨bv, R, P, Fs, env, p, x, _, S, hx, hp, hy, fun v u hv hpl => ⟨rfl, obj_at S hx hy hv hpl hC hn, v, hv, hpl⟩⟩) fun uu s1 ⟨u, H1, I1, rx, e1, ⟨a, dx, fs, ex, ea, l⟩, v, hv, hpl⟩ => ?_) ht
  subst e1
  subst ex
  obtain rfl : uu = Value.ref a := rx
  refine getmeth_ok I1 ea hcl hm l ?_
  have q1 : post (methB i p x (.obj c ns xs) m [] env) (OkO X.K X.mg B bv R P σ Q) (ExD X.K X.mg W B bv R P σ) := by
    have hn' : (env.set i none)[i]? = some none := List.getElem?_set_self (List.getElem?_eq_some_iff.mp hx).1
    have e2 : env.set i (some x) = env := by
      obtain ⟨h1, h2⟩ := List.getElem?_eq_some_iff.mp hx
      rw [← h2]
      exact List.set_getElem_self h1
    have e3 : M.hid i M.nil env = .ok [] env := by
      unfold M.hid
      rw [hx]
      show (match (env.set i none)[i]? with | some none => Rs.ok ([] : List PyData) ((env.set i none).set i (some x)) | _ => Rs.no) = _
      rw [hn']
      simp only [List.set_set, e2]
    unfold M.bind at q
    rw [e3] at q
    exact q
  obtain ⟨h1, h2⟩ := meth_sp S hx hy hv hpl (Same.refl _) .nil F.len q1
  exact PySem.W.callWith_K0 (first := [.ref a]) I1.kIn hm.kp (run_c (us := [.ref a]) (ks := []) (kw := []) (bs := [.ref a]) (vs := [.ref a]) g (F.mono hjk) hr tk I1 (hb s1 [.ref a] I1.kIn h2) (.cons rfl .nil) h1)⟩
/-- o.m(e, ..), o a place -/
theorem eo_meth (D : MethK X.prog X.w X.K X.mg X.base j c mn ps m kb) (g : Gd X) (hr : Room k X.A) (tk : Takes X W) (ho : PL X B i o pp) (ha : AD X W B (e :: es) ml) (hjk : j ≤ k := by decide) {pl : Sem Bool}
    (hst : starEach (e :: es) X.env = (false, eval e X.env) :: starEach es X.env := by rfl) (hpl : (backTo pos (starEach es X.env)).any (·.1) = false := by rfl)
    (ht : eval (.Call (.Attribute o mn apos) (e :: es) [] pos) X.env = (do
      let ov ← eval o X.env
      standAt apos.atName
      let (f, first) ← holding [ov] (getMethod ov mn pl)
      callWith pos f first (backTo pos (starEach (e :: es) X.env)) (backToKw pos (keywordEach [] X.env))) := by rfl) :
    EO X W B (.Call (.Attribute o mn apos) (e :: es) [] pos) (M.methP i pp c mn m ml) := ⟨fun pins s σ H Q I ⟨bv, R, P, Fs, env, S, q⟩ => by
  obtain ⟨C, f, fd, hC, hcl, hm, F, hb, _⟩ := D.ex
  obtain ⟨x, p, ns, xs, hx, hp, hy, hn, q⟩ := meth_start q
  refine PySem.W.methodCall_KW (pl := pl) (thn (ho.run pins s σ H (fun u H1 => H1 = H ∧ (∃ a dx fs, u = .ref a ∧ H1 a = some (.ins C dx fs) ∧ fs.lookup mn = none) ∧ ∃ v, σ[i]? = some (some v) ∧ PlV X.mg H v p u) I ⟨bv, R, P, Fs, env, p, x, _, S, hx, hp, hy, fun v u hv hpl => ⟨rfl, obj_at S hx hy hv hpl hC hn, v, hv, hpl⟩⟩) fun uu s1 ⟨u, H1, I1, rx, e1, ⟨a, dx, fs, ex, ea, l⟩, v, hv, hpv⟩ => ?_) ht
  subst e1
  subst ex
  obtain rfl : uu = Value.ref a := rx
  refine getmeth_ok I1 ea hcl hm l ?_
  have T : tL X.K X.mg W B ml σ H1 (fun vs H2 => spF X.K X.mg [0] m (.ref a :: vs) H2 Q (fun cls d H' => W cls d σ H') ∧ (V.ref a :: vs).length = ps.length) :=
    ⟨bv, joinR R H1 (Fs i), P, _, env.set i none, S.hide i, hid_post hx q fun ds e1 he1 q1 vs P2 H2 F2 S2 s2 rw => by
      have S3 := S.show_ hx s2 S2 he1
      have hx3 : (e1.set i (some x))[i]? = some (some x) := List.getElem?_set_self (List.getElem?_eq_some_iff.mp he1).1
      obtain ⟨pl3, _, _⟩ := S.stays hx hy hv hpv s2 S2
      exact meth_sp S3 hx3 hy hv pl3 s2 rw F.len q1⟩
  refine PySem.W.callWith_K (first := [.ref a]) (h₀ := X.base) I1.ok.mod.kin hm.kp (thn (ha.run pos pins s1 σ H1 _ I1 T) fun us s2 ⟨vs, H2, I2, r, q2, hl⟩ => ⟨I2.kIn, ?_⟩) hst hpl
  have hb' := hb s2 (.ref a :: us) I2.kIn (by rw [List.append_nil, ← hl, List.length_cons, List.length_cons, r.length])
  rw [List.append_nil] at hb'
  exact run_c (us := .ref a :: us) (ks := []) (kw := []) (bs := .ref a :: us) (vs := .ref a :: vs) g (F.mono hjk) hr tk I2 hb' (.cons rfl r) q2⟩
/-! keywords, each frozen -/
end
def M.permD (pm : List Nat) (l : M (List PyData)) : M (List PyData) := M.bind l fun ds => if pm.all (· < ds.length) && decide (ds.length = pm.length) then M.pure (permL .none pm ds) else M.fail
section
variable {X : Cx} {W : WX} {B : List Nat} {j k i : Nat} {c mn : Str} {ps : List Str} {m : M OD} {ml : M (List PyData)} {pp : DEnv → Option (List Stp)} {o e : Expr} {es : List Expr} {kws : List Keyword} {apos pos : Pos} {kb : List (List Str × Nat × List Nat)}
end
end DL

set_option maxHeartbeats 2000000
/-! DL49: displays of owned things; slot.f = e; new instances; methods of temporaries. -/
namespace DL
open PySem PySem.Spec PyProof.Rows L2
/-! ### [e, ..] of owned things -/
section
variable {K : PySem.W.Frag} {mg : Str → Option Value} {W : WX} {B : List Nat} {bv : Nat → V} {R P P0 H P' H' : Hp} {Fs : Nat → List Addr} {σ : L2.St} {env : DEnv}
theorem avl_len {G : List Addr} {vs : List V} {xs : List OD} (h : OwL K mg P H G vs xs) : vs.length = xs.length := by
  induction vs generalizing G xs with
  | nil => cases h; rfl
  | cons v vs ih =>
    cases h with
    | cons h t => simp [ih t]
end
section
variable {X : Cx} {W : WX} {B : List Nat} {es : List Expr} {ml : M (List AV)} {pos : Pos}
end
/-! ### slot.f = e -/
theorem putF_new {f : Str} {v : V} : ∀ {ns : List Str} {vs : List V}, posN f ns = none → ns.length = vs.length → putF f v (ns.zip vs) = (ns ++ [f]).zip (vs ++ [v])
  | [], [], _, _ => rfl
  | a :: ns, w :: vs, h, hl => by
    simp only [posN] at h
    split at h
    · cases h
    · rename_i e
      rw [List.zip_cons_cons, List.cons_append, List.cons_append, List.zip_cons_cons]
      show (if a = f then _ else _) = _
      rw [if_neg (fun z => e z.symm), putF_new (by simpa using h) (by simpa using hl)]
theorem putF_old {f : Str} {v : V} : ∀ {ns : List Str} {vs : List V} {n : Nat}, posN f ns = some n → ns.length = vs.length → putF f v (ns.zip vs) = ns.zip (vs.set n v) ∧ n < vs.length
  | [], _, n, h, _ => by cases h
  | a :: ns, w :: vs, n, h, hl => by
    simp only [posN] at h
    rw [List.zip_cons_cons]
    split at h
    · rename_i e
      cases h
      refine ⟨?_, by simp⟩
      show (if a = f then _ else _) = _
      rw [if_pos e.symm]
      rfl
    · rename_i e
      obtain ⟨m, hm, rfl⟩ := Option.map_eq_some_iff.mp h
      obtain ⟨h1, h2⟩ := putF_old (v := v) hm (by simpa using hl)
      refine ⟨?_, by simpa using h2⟩
      show (if a = f then _ else _) = _
      rw [if_neg (fun z => e z.symm), h1]
      rfl
  | _ :: _, [], _, _, hl => by simp at hl
def M.setF (i : Nat) (c f : Str) (mo : M OD) : M Flw := M.bind mo fun y env => match (env[i]?).join with
  | some (.obj c' ns xs) => if c' = c ∧ ns.length < 1000 then (match posN f ns with
    | some n => .ok .nx (env.set i (some (.obj c' ns (xs.set n y))))
    | none => .ok .nx (env.set i (some (.obj c' (ns ++ [f]) (xs ++ [y]))))) else .no
  | _ => .no
section
variable {X : Cx} {W : WX} {B : List Nat} {e : Expr} {mo : M OD} {x : Str} {px pos pos' : Pos}
theorem sd_setF (i : Nat) (c f : Str) (hC : ∀ C, X.mg c = some (.ref C) → Cls X.K C ∧ NoAttr X.K C f) (he : EO X W B e mo) (hN : X.N[i]? = some x := by rfl) (hv : Vis X.env.scope x := by first | exact Or.inl rfl | exact Or.inr (Or.inl rfl) | exact Or.inr (Or.inr rfl)) (hd : (x == ("__debug__" : Str)) = false := by decide)
    (hcd : (x == ("__classdict__" : Str)) = false := by decide) (hs : swapsWith e (some (.Attribute (.Name x px) f pos')) pos.line X.env = pure false := by rfl) : SD X W B (.Assign [.Attribute (.Name x px) f pos'] e pos) (M.setF i c f mo) :=
  PS_mono (ps_fld (pe_var hN hv hd hcd) he hs) fun D σ H ⟨bv, R, P, Fs, env, S, q⟩ => tO_bindS (Same.refl _) S q fun y e1 v P1 H1 F1 G S1 s1 o1 f1 q1 => by
    cases h1 : (e1[i]?).join with
    | none => rw [h1] at q1; exact q1.elim
    | some z =>
      rw [h1] at q1
      have hx := join_some h1
      cases z with
      | obj c' ns xs =>
        simp only at q1
        split at q1
        · rename_i hcc
          obtain ⟨rfl, hln⟩ := hcc
          obtain ⟨u, hu, oz⟩ := S1.slot i _ hx
          refine ⟨u, hu, ?_⟩
          have ndi := S1.nd i
          generalize hFi : F1 i = Fi at oz ndi
          cases oz with
          | @obj _ C a dx F0 _ vs _ hc h hdx hl t =>
            have na : ∀ {b}, b ∈ a :: dx :: F0 → b ∈ F1 i := fun hb => by rw [hFi]; exact hb
            have nd1 := List.nodup_cons.mp ndi
            have nd2 := List.nodup_cons.mp nd1.2
            have aF0 : a ∉ F0 := fun z => nd1.1 (List.mem_cons_of_mem _ z)
            have adx : dx ≠ a := fun z => nd1.1 (by rw [z]; exact List.mem_cons_self)
            have aG : ∀ {b}, b ∈ a :: dx :: F0 → b ∉ G := fun hb z => f1.f _ z i (na hb)
            have fin : ∀ {ns2 : List Str} {vs2 : List V} {xs2 : List OD} {F2 : List Addr}, putF f v (ns.zip vs) = ns2.zip vs2 → ns2.length = vs2.length → OwL X.K X.mg P1 H1 F2 vs2 xs2 → F2.Nodup → (∀ b ∈ F2, b ∈ F0 ∨ b ∈ G) →
                post (Rs.ok Flw.nx (e1.set i (some (.obj c' ns2 xs2)))) (OkS X.K X.mg B bv R P D) (ExS X.K X.mg W B bv R P) → D.nx σ (upd H1 a (.ins C dx (putF f v (ns.zip vs)))) := fun {ns2 vs2 xs2 F2} hp hl2 t2 nd hF2 q2 => by
              have n2 : ∀ {b}, b ∈ F2 → b ≠ a ∧ b ≠ dx := fun {b} hb => by
                rcases hF2 b hb with z | z
                · exact ⟨fun w => aF0 (w ▸ z), fun w => nd2.1 (w ▸ z)⟩
                · exact ⟨fun w => aG List.mem_cons_self (w ▸ z), fun w => aG (List.mem_cons_of_mem _ List.mem_cons_self) (w ▸ z)⟩
              refine q2 σ P1 _ _ (S1.mut (F' := a :: dx :: F2) hu (fun b hb => upd_ne fun z => hb (by rw [z]; exact na List.mem_cons_self)) (.obj hc (by rw [upd_same, hp]) (by rw [upd_ne adx]; exact hdx) hl2 (Ow.keep_out t2 fun z => (n2 z).1 rfl)) ?_ fun b hb => ?_) s1
              · refine List.nodup_cons.mpr ⟨fun z => ?_, List.nodup_cons.mpr ⟨fun z => (n2 z).2 rfl, nd⟩⟩
                rcases List.mem_cons.mp z with w | w
                · exact adx w.symm
                · exact (n2 w).1 rfl
              · rcases List.mem_cons.mp hb with z | z
                · subst z; exact .inl (na List.mem_cons_self)
                · rcases List.mem_cons.mp z with z | z
                  · subst z; exact .inl (na (List.mem_cons_of_mem _ List.mem_cons_self))
                  · rcases hF2 b z with w | w
                    · exact .inl (na (List.mem_cons_of_mem _ (List.mem_cons_of_mem _ w)))
                    · exact .inr ⟨f1.r b w, f1.p b w, f1.f b w⟩
            refine ⟨a, C, dx, _, rfl, h, (hC C hc).1, (hC C hc).2, by rw [List.length_zip]; omega, ?_⟩
            have dis : ∀ b ∈ F0, b ∉ G := fun b hb => aG (List.mem_cons_of_mem _ (List.mem_cons_of_mem _ hb))
            cases hn : posN f ns with
            | none =>
              rw [hn] at q1
              refine fin (putF_new hn hl) (by simp [hl]) (t.snoc o1) (List.nodup_append.mpr ⟨nd2.2, f1.nd, fun b hb b2 hb2 e => dis b hb (e ▸ hb2)⟩) (fun b hb => List.mem_append.mp hb) q1
            | some n =>
              rw [hn] at q1
              obtain ⟨h3, h4⟩ := putF_old (v := v) hn hl
              have hlx := avl_len t
              obtain ⟨z, Fj, a1, a2, a3, a4, a5⟩ := t.at_ nd2.2 (List.getElem?_eq_getElem (show n < xs.length by omega))
              obtain ⟨F2, b1, b2, b3⟩ := a5 P1 H1 G v y (Same.refl _) (fun _ _ _ _ e => e) o1 f1.nd (fun b hb hF0 => absurd hb (dis b hF0))
              exact fin h3 (by simp [hl]) b1 b2 (fun b hb => (b3 b hb).imp (·.1) id) q1
        · exact q1.elim
      | _ => exact q1.elim
end
end DL

set_option maxHeartbeats 2000000
/-! DL50: new instances; methods of temporaries. -/
namespace DL
open PySem PySem.Spec PyProof.Rows L2
structure MkK (P : Program) (w : World) (K : PySem.W.Frag) (mg : Str → Option Value) (base : Heap) (k : Nat) (c : Str) (ps : List Str) (m : M OD) : Prop where
  ex : ∃ C f fd, mg c = some (.ref C) ∧ Mk K C f ∧ FnG P w K mg base k f fd ps [0] m ∧ Binds K fd ps []
/-- C(..): what __init__ does with a new instance -/
def newI (c : Str) (f : M OD) (ds : List PyData) : M OD := fun env => match f (some (.obj c [] []) :: ds.map fun d => some (.pur d)) with
  | .ok (.pur .none) (some y :: _) => .ok y env
  | _ => .no
section
variable {K : PySem.W.Frag} {mg : Str → Option Value} {W : WX} {B : List Nat} {bv : Nat → V} {R P P0 H : Hp} {Fs : Nat → List Addr} {σ : L2.St} {env : DEnv} {c : Str} {C x dx : Addr} {f : M OD} {ds : List PyData} {vs : List V} {Q : VK} {n : Nat}
theorem Handed.cong {Fs F F' : Nat → List Addr} {args : DEnv} (h : Handed K mg R P H Fs F vs args) (e : ∀ j, F j = F' j) : Handed K mg R P H Fs F' vs args := by
  obtain rfl : F = F' := funext e
  exact h
theorem handed_pure : ∀ {Fs : Nat → List Addr} {vs : List V} {ds : List PyData}, RpA K P vs ds → Handed K mg R P H Fs (fun _ => []) vs (ds.map fun d => some (.pur d))
  | _, _, _, .nil => ⟨rfl, fun j x h => by simp at h, fun _ _ => rfl, fun _ => .nil, fun _ _ _ _ h => (nomatch h), fun _ _ h => (nomatch h), fun _ _ h => (nomatch h), fun _ _ h => (nomatch h)⟩
  | Fs, _, _, .cons h t => by
    have hd := (handed_pure (Fs := Fs) t).cons (F := []) (.pur h) .nil (fun _ h => (nomatch h)) (fun _ h => (nomatch h)) (fun _ h => (nomatch h)) (fun _ h => (nomatch h))
    exact hd.cong fun j => by cases j <;> rfl
theorem new_sp (hc : mg c = some (.ref C)) (S : Sta K mg B bv R P H Fs σ env) (s0 : Same P0 P) (r : RpA K P vs ds) (hx : H x = none) (hdx : H dx = none) (ne : dx ≠ x) (hn : 0 < n) (hlen : ∀ e, ((∀ x e', f e ≠ .ok x e') ∧ ∀ x e', f e ≠ .ex x e') ∨ e.length = n)
    (h : post (newI c f ds env) (OkO K mg B bv R P0 σ Q) (ExD K mg W B bv R P0 σ)) :
    spF K mg [0] f (.ref x :: vs) (upd (upd H dx (.own x)) x (.ins C dx [])) (fun v H2 => v = .non ∧ Q (.ref x) H2) (fun cls d H' => W cls d σ H') ∧ (V.ref x :: vs).length = n := by
  have d1 := S.dh hx
  have d2 := S.dh hdx
  have x1 := ext_heap S.ph (.own x) hdx
  have S1 := S.ext x1
  have x2 := ext_heap S1.ph (.ins C dx []) (show upd H dx (.own x) x = none by rw [upd_ne (Ne.symm ne)]; exact hx)
  have S2 := S1.ext x2
  have ow : Ow K mg P (upd (upd H dx (.own x)) x (.ins C dx [])) [x, dx] (.ref x) (.obj c [] []) := .obj hc (by rw [upd_same]; rfl) (by rw [upd_ne ne, upd_same]) rfl .nil
  have hd := (handed_pure (mg := mg) (R := R) (H := upd (upd H dx (.own x)) x (.ins C dx [])) (Fs := Fs) r).cons ow (by simp [Ne.symm ne]) (fun a ha => by
      rcases List.mem_cons.mp ha with z | z
      · subst z; exact d1.1
      · cases List.mem_singleton.mp z; exact d2.1) (fun a ha => by
      rcases List.mem_cons.mp ha with z | z
      · subst z; exact d1.2.1
      · cases List.mem_singleton.mp z; exact d2.2.1) (fun a ha => by
      rcases List.mem_cons.mp ha with z | z
      · subst z; exact d1.2.2
      · cases List.mem_singleton.mp z; exact d2.2.2) (fun _ _ _ h => (nomatch h))
  unfold newI at h
  have hl : (V.ref x :: vs).length = n := by
    rcases hlen (some (.obj c [] []) :: ds.map fun d => some (.pur d)) with ⟨z1, _⟩ | z
    · cases qf : f (some (.obj c [] []) :: ds.map fun d => some (.pur d)) with
      | ok a b => exact absurd qf (z1 _ _)
      | no => rw [qf] at h; exact h.elim
      | ex a b => rw [qf] at h; exact h.elim
    · rw [hd.len]; exact z
  refine ⟨⟨fun i hi => by rw [List.mem_singleton.mp hi]; simp, _, _, P, _, _, S2.enter (Bc := [0]) hd (fun i hi => by rw [List.mem_singleton.mp hi]; simp), ?_⟩, hl⟩
  cases qf : f (some (.obj c [] []) :: ds.map fun d => some (.pur d)) with
  | no => rw [qf] at h; exact h.elim
  | ex a b => rw [qf] at h; exact h.elim
  | ok z outs =>
    rw [qf] at h
    cases z with
    | pur d =>
      cases d with
      | none =>
        cases outs with
        | nil => exact h.elim
        | cons o outs =>
          cases o with
          | none => exact h.elim
          | some y =>
            intro v1 P' H' F' G' T pp o' f'
            obtain ⟨T1, T2⟩ := S2.back T pp
            obtain ⟨w, w1, w2⟩ := T2.slot 0 y rfl
            cases w1
            cases o' with
            | pur hp =>
              cases hp
              exact ⟨rfl, h _ P' H' _ (F' 0) T1 (s0.trans pp) w2 ⟨T2.nd 0, T2.fr 0, T2.fp 0, fun a ha i => T2.ap 0 a ha i⟩⟩
      | _ => exact h.elim
    | _ => exact h.elim
end
section
variable {X : Cx} {W : WX} {B : List Nat} {j k : Nat} {c x : Str} {ps : List Str} {m : M OD} {ml : M (List PyData)} {p pos apos : Pos} {e o : Expr} {es : List Expr}
theorem run_mk {pins : List (Addr × Obj)} {σ : L2.St} {H : Hp} {s : Shared} {Q : VK} {us : List Value} {vs : List V} {C f : Addr} {fd : FuncData} (M : Mk X.K C f) (g : Gd X) (F : FnG X.prog X.w X.K X.mg X.base j f fd ps [0] m) (hr : Room (j + 1) X.A) (hb : Binds X.K fd ps [])
    (tk : Takes X W) (I : Inv X pins σ H s) (r : Vals vs us)
    (h : ∀ x dx, H x = none → H dx = none → dx ≠ x → spF X.K X.mg [0] m (.ref x :: vs) (upd (upd H dx (.own x)) x (.ins C dx [])) (fun v H2 => v = .non ∧ Q (.ref x) H2) (fun cls d H' => W cls d σ H') ∧ (V.ref x :: vs).length = ps.length) :
    wpAny (model X.prog X.w) X.A (call (.ref C) us) (EP X pins σ Q) X.xe s := by
  obtain ⟨hq, hl⟩ := h (s.heap.objs.size + 1) s.heap.objs.size (I.hok.fresh (Nat.le_succ _)) (I.hok.fresh (Nat.le_refl _)) (Nat.ne_of_lt (Nat.lt_succ_self _))
  have I2 := Inv.made (C := C) I
  have r2 : Vals (V.ref (s.heap.objs.size + 1) :: vs) (Value.ref (s.heap.objs.size + 1) :: us) := .cons rfl r
  have hb' := hb _ (Value.ref (s.heap.objs.size + 1) :: us) I2.kIn (by rw [List.append_nil, ← hl]; exact r2.length.symm)
  rw [List.append_nil] at hb'
  refine wpAny_call (make_map (f := f) I.kIn M.makes M.init (beq_iff_eq.mp M.fn) (codeAny_mono (F.run _ X.stack _ _ ⟨Value.ref (s.heap.objs.size + 1) :: us, []⟩ (Value.ref (s.heap.objs.size + 1) :: us) _ _ (fun cls d H' => W cls d σ H') (hr.make C us []) g.guards g.sys
    (I2.env0.make C us []) hb' r2 hq) fun r s' hq' => ?_))
  cases r with
  | error e => exact tk e s' (XE.of_call I2 (fun _ _ _ z => z) hq')
  | ok fl =>
    cases fl with
    | ret u =>
      obtain ⟨v, H', I3, rv, ev, q3⟩ := I2.after hq'
      subst ev
      exact ⟨rv, ⟨V.ref (s.heap.objs.size + 1), H', I3, rfl, q3⟩⟩
    | next => exact False.elim hq'
    | brk => exact False.elim hq'
    | cont => exact False.elim hq'
/-- C(e, ..) -/
theorem eo_new (D : MkK X.prog X.w X.K X.mg X.base j c ps m) (g : Gd X) (hr : Room k X.A) (tk : Takes X W) (ha : AD X W B (e :: es) ml) (hjk : j + 1 ≤ k := by decide) (hg : Gl X c := by rfl) (hdb : (c == ("__debug__" : Str)) = false := by decide)
    (he : starEach (e :: es) X.env = (false, eval e X.env) :: starEach es X.env := by rfl) (hpl : (backTo pos (starEach es X.env)).any (·.1) = false := by rfl) :
    EO X W B (.Call (.Name c p) (e :: es) [] pos) (M.bind ml fun ds => newI c m ds) := ⟨fun pins s σ H Q I ⟨bv, R, P, Fs, env, S, q⟩ => by
  obtain ⟨C, f, fd, hC, M, F, hb⟩ := D.ex
  refine wpAny_Call_Name_kw (ld_glob I hg hC ?_ hdb)
  refine PySem.W.callWith_K (h₀ := X.base) I.ok.mod.kin M.kp (thn (ha.run pos pins s σ H _ I (tL_bind (Q := fun vs H1 => ∀ x dx, H1 x = none → H1 dx = none → dx ≠ x → spF X.K X.mg [0] m (.ref x :: vs) (upd (upd H1 dx (.own x)) x (.ins C dx [])) (fun v H2 => v = .non ∧ Q (.ref x) H2) (fun cls d H' => W cls d σ H') ∧ (V.ref x :: vs).length = ps.length) (Same.refl _) S q
    fun ds e1 vs P1 H1 F1 S1 s1 r1 q1 x dx hx hdx ne => new_sp hC S1 s1 r1 hx hdx ne (F.bs 0 (by simp)) F.len q1)) fun us s1 ⟨vs, H1, I1, r, q⟩ => ⟨I1.kIn, ?_⟩) he hpl
  exact run_mk M g F (hr.mono hjk) hb tk I1 r q⟩
end
end DL

set_option maxHeartbeats 2000000
/-! DL51: facts about classes. -/
namespace DL
open PySem PySem.Spec PyProof.Rows L2
section
variable {fa : List He.Fa} {fn : List He.DefD} {tb : Tbs} {K : PySem.W.Frag} {mg : Str → Option Value} {base : Heap}
theorem Cm.cls (C : Cm fa fn tb K mg base) (i : Nat) {x : Str} (h : fa[i]? = some (.cls x) := by rfl) : Cls K (He.ga K x) := He.cls_ok (C.says.fact i h)
theorem Cm.meth (C : Cm fa fn tb K mg base) (i : Nat) {x m : Str} (h : fa[i]? = some (.meth x m) := by rfl) : Meth K (He.ga K x) m (He.ma K (He.ga K x) m) := He.meth_ok (C.says.fact i h)
theorem Cm.mkr (C : Cm fa fn tb K mg base) (i : Nat) {x : Str} (h : fa[i]? = some (.mkr x) := by rfl) : Mk K (He.ga K x) (He.ma K (He.ga K x) "__init__") := He.mkr_ok (C.says.fact i h)
/-- what the rules of fields want -/
theorem Cm.fld (C : Cm fa fn tb K mg base) (ig ic ia : Nat) {x f : Str} (h1 : fa[ig]? = some (.glo x) := by rfl) (h2 : fa[ic]? = some (.cls x) := by rfl) (h3 : fa[ia]? = some (.noat x f) := by rfl) : ∀ A, mg x = some (.ref A) → Cls K A ∧ NoAttr K A f := fun A h => by
  have e := (C.glo ig h1).symm.trans h
  cases e
  exact ⟨C.cls ic h2, He.noat_ok (C.says.fact ia h3)⟩
end
end DL

set_option maxHeartbeats 2000000
/-! DL52: a, b = x, y. -/
namespace DL
open PySem PySem.Spec PyProof.Rows L2
def M.par (i j : Nat) (l : M (List PyData)) : M Flw := M.bind l fun ds env => match ds with
  | [d1, d2] => if i < env.length ∧ j < env.length then .ok .nx ((env.set i (some (.pur d1))).set j (some (.pur d2))) else .no
  | _ => .no
section
variable {X : Cx} {W : WX} {B : List Nat} {a b : Expr} {ml : M (List PyData)} {x y : Str} {px py pt pos : Pos} {kt k2 : Nat} {pt2 : Pos}
end
end DL

set_option maxHeartbeats 2000000
/-! DL53: runs of places, methods, new instances. -/
namespace DL
open PySem PySem.Spec PyProof.Rows L2
section
variable {env : DEnv} {i : Nat} {x y : OD} {p : List Stp} {pp : DEnv → Option (List Stp)} {c mn : Str} {f : M OD}
theorem hs_hid {α : Type} {m : M α} {env0 : DEnv} {Q : α → DEnv → Prop} (hx : sl env i = some x) (h0 : env.set i none = env0) (h : Hs (m env0) fun a e1 => e1[i]? = some none ∧ Q a (e1.set i (some x))) : Hs (M.hid i m env) Q := by
  subst h0
  obtain ⟨a, e1, h1, h2, h3⟩ := h
  refine ⟨a, _, ?_, h3⟩
  unfold M.hid
  rw [sl_some hx]
  simp only [h1, h2]
theorem placeO_of (hx : sl env i = some x) (hp : pp env = some p) (hy : getP p x = some y) : placeO i pp env = some y := by
  unfold placeO
  rw [sl_some hx, hp]
  exact hy
theorem hs_methP {l : M (List PyData)} {env0 : DEnv} {Q : OD → DEnv → Prop} (hx : sl env i = some x) (hp : pp env = some p) (hy : getP p x = some y) (ho : isObj c mn y = true) (h0 : env.set i none = env0)
    (h : Hs (l env0) fun ds e1 => e1[i]? = some none ∧ Hs (f (some y :: ds.map fun d => some (.pur d))) fun r outs => ∃ y' rest, outs = some y' :: rest ∧ Q r ((e1.set i (some x)).set i (some (setP p x y')))) : Hs (M.methP i pp c mn f l env) Q := by
  unfold M.methP
  rw [placeO_of hx hp hy, sl_some hx, hp]
  simp only [Option.join_some]
  rw [if_pos ho, hs_bind]
  refine hs_hid hx h0 (h.mono ?_)
  rintro ds e1 ⟨h1, r, outs, h2, y', rest, h3, h4⟩
  subst h3
  refine ⟨h1, r, _, ?_, h4⟩
  unfold methB
  rw [h2]
theorem hs_permD {pm : List Nat} {l : M (List PyData)} {Q : List PyData → DEnv → Prop} (h : Hs (l env) fun ds e => (pm.all (· < ds.length) && decide (ds.length = pm.length)) = true ∧ Q (permL .none pm ds) e) : Hs (M.permD pm l env) Q := by
  unfold M.permD
  rw [hs_bind]
  refine h.mono ?_
  rintro ds e ⟨h1, h2⟩
  rw [if_pos h1]
  exact Hs.mk h2
theorem hs_newI {ds : List PyData} {Q : OD → DEnv → Prop} (h : Hs (f (some (.obj c [] []) :: ds.map fun d => some (.pur d))) fun r outs => ∃ y rest, r = .pur .none ∧ outs = some y :: rest ∧ Q y env) : Hs (newI c f ds env) Q := by
  obtain ⟨r, outs, h1, y, rest, rfl, rfl, h2⟩ := h
  unfold newI
  rw [h1]
  exact Hs.mk h2
theorem hs_setF {fl : Str} {mo : M OD} {Q : Flw → DEnv → Prop} (h : Hs (mo env) fun y e => ∃ ns xs, sl e i = some (.obj c ns xs) ∧ ns.length < 1000 ∧ match posN fl ns with
    | some n => Q .nx (e.set i (some (.obj c ns (xs.set n y))))
    | none => Q .nx (e.set i (some (.obj c (ns ++ [fl]) (xs ++ [y]))))) : Hs (M.setF i c fl mo env) Q := by
  unfold M.setF
  rw [hs_bind]
  refine h.mono ?_
  rintro y e ⟨ns, xs, h1, h2, h3⟩
  rw [sl_some h1]
  simp only [Option.join_some]
  rw [if_pos ⟨trivial, h2⟩]
  cases hn : posN fl ns with
  | none => rw [hn] at h3; exact Hs.mk h3
  | some n => rw [hn] at h3; exact Hs.mk h3
end
end DL

set_option maxHeartbeats 2000000
/-! DL54: x == () of tuples; bools among ints; str(bool); join, upper. -/
namespace DL
open PySem PySem.Spec PyProof.Rows L2
/-! ### x == () -/
section
variable {X : Cx} {W : WX} {B : List Nat} {a b o e : Expr} {ma mb mo me : M PyData} {pos apos : Pos}
/-! ### bools among ints -/
def rBI (g : Int → Int → Int) : R2 := fun x y H Q => ∃ k i, x = .bl k ∧ y = .int i ∧ Q (.int (g (b2i k) i)) H
def rIB (g : Int → Int → Int) : R2 := fun x y H Q => ∃ i k, x = .int i ∧ y = .bl k ∧ Q (.int (g i (b2i k))) H
theorem op_addBI : OpR X (binaryOp .Add) (rBI (· + ·)) := by
  intro pins s σ H x y v u Q I rx ry h
  obtain ⟨k, i, rfl, rfl, q⟩ := h
  cases rx
  obtain ⟨t, rfl⟩ := ry
  exact PySem.IntBool.add_bool_int ⟨.int (b2i k + i), H, I.tok _, ⟨_, rfl⟩, q⟩
theorem op_subIB : OpR X (binaryOp .Sub) (rIB (· - ·)) := by
  intro pins s σ H x y v u Q I rx ry h
  obtain ⟨i, k, rfl, rfl, q⟩ := h
  obtain ⟨t, rfl⟩ := rx
  cases ry
  exact PySem.IntBool.sub_int_bool ⟨.int (i - b2i k), H, I.tok _, ⟨_, rfl⟩, q⟩
def addB (d e : PyData) : Option PyData := match d, e with
  | .bool k, .int i => some (.int (b2i k + i))
  | _, _ => addD d e
def subB (d e : PyData) : Option PyData := match d, e with
  | .int i, .bool k => some (.int (i - b2i k))
  | _, _ => subD d e
theorem ed_addB (ha : ED X W B a ma) (hb : ED X W B b mb) : ED X W B (.BinOp a .Add b pos) (M.op2 addB ma mb) := ed_op (OpR.or op_add4 op_addBI) (by
  intro P H v w d e z Q ph r1 r2 ez k
  cases r1 with
  | bl c =>
    cases r2 with
    | int i =>
      simp only [addB, Option.some.injEq] at ez
      subst ez
      exact .inr ⟨c, i, rfl, rfl, k _ P H (.refl ph) (.int _)⟩
    | _ => cases ez
  | int _ => exact .inl (opd_add P H _ _ _ _ z Q ph (.int _) r2 ez k)
  | str _ => exact .inl (opd_add P H _ _ _ _ z Q ph (.str _) r2 ez k)
  | lst h t => exact .inl (opd_add P H _ _ _ _ z Q ph (.lst h t) r2 ez k)
  | tup h t => exact .inl (opd_add P H _ _ _ _ z Q ph (.tup h t) r2 ez k)
  | _ => cases ez) ha hb
theorem ed_subB (ha : ED X W B a ma) (hb : ED X W B b mb) : ED X W B (.BinOp a .Sub b pos) (M.op2 subB ma mb) := ed_op (OpR.or op_sub op_subIB) (by
  intro P H v w d e z Q ph r1 r2 ez k
  cases r1 with
  | int i =>
    cases r2 with
    | bl c =>
      simp only [subB, Option.some.injEq] at ez
      subst ez
      exact .inr ⟨i, c, rfl, rfl, k _ P H (.refl ph) (.int _)⟩
    | int j => exact .inl (opd_int0 (fun _ _ _ _ => .int _) P H _ _ _ _ z Q ph (.int _) (.int _) ez k)
    | _ => cases ez
  | _ => cases ez) ha hb
/-! ### str(bool) -/
/-! ### join, upper -/
def strsD : List PyData → Option (List Str)
  | [] => some []
  | .str x :: l => (strsD l).map (x :: ·)
  | _ :: _ => none
def joinD (d c : PyData) : Option PyData := match d, c with
  | .str a, .list ds => (strsD ds).bind fun ys => if (ys.map (·.length)).sum + ys.length * a.length ≤ lim then some (.str (Txt.join a ys)) else none
  | _, _ => none
def isStr : PyData → Bool
  | .str _ => true
  | _ => false
def M.join (mo me : M PyData) : M PyData := M.bind mo fun d => if isStr d = true then M.bind me fun c => M.opt (joinD d c) else M.fail
end
/-! ### slot.pop() -/
section
variable {X : Cx} {W : WX} {B : List Nat} {x : Str} {p apos cpos : Pos}
end
end DL

set_option maxHeartbeats 2000000
/-! DL55: t[::-1] of tuples; x in a tuple of the module, as a value. -/
namespace DL
open PySem PySem.Spec PyProof.Rows L2 HT
section
variable {prog : Program} {w : World} {A : Around} {E : Value → Shared → Prop} {s : Shared}
end
/-! ### t[::-1] -/
section
variable {X : Cx}
end
section
variable {X : Cx} {W : WX} {B : List Nat} {e : Expr} {md : M PyData} {pos : Pos}
end
end DL

set_option maxHeartbeats 2000000
/-! DL56: a + b of lists, a new list. -/
namespace DL
open PySem PySem.Spec PyProof.Rows L2
def M.cat (a b : M PyData) : M OD := M.bind a fun d => M.bind b fun c => match d, c with
  | .list xs, .list ys => if xs.length + ys.length ≤ lim then M.pure (ownL (xs ++ ys)) else M.fail
  | _, _ => M.fail
section
variable {X : Cx} {W : WX} {B : List Nat} {a b : Expr} {ma mb : M PyData} {pos : Pos}
end
end DL

set_option maxHeartbeats 2000000
/-! DL57: sets of tuples whose items are keys of a kind (texts, say): what a set holds, one search, one addition. -/
namespace DL
open PySem PySem.Spec PyProof.Rows L2
section
variable {prog : Program} {w : World} {K : Type} [DecidableEq K]
/-- the kind's values are asked nothing of their class, and are told quietly whether a hash is by value -/
structure Meek (knd : KeyKind prog w K) : Prop where
  cls : ∀ (k : K) (v : Value) (n : Nat), knd.is k v = true → ofAClassStatement n v = pure false
  val : ∀ (k : K) (v : Value) (n : Nat), knd.is k v = true → ∃ b, hashByValue n v = pure b
abbrev Row (K : Type) : Type := Addr × List K
def rowH (knd : KeyKind prog w K) (r : Row K) : Int := tupleKeyHash knd r.2
def rowE (knd : KeyKind prog w K) (r : Row K) : Int × Value := (rowH knd r, .ref r.1)
abbrev Tup (knd : KeyKind prog w K) (h : Heap) (r : Row K) : Prop := IsTupleKey knd h r.2 r.1
theorem Tup.grow {knd : KeyKind prog w K} {h h' : Heap} {r : Row K} (x : Tup knd h r) (k : ∀ o, h.get? r.1 = some o → h'.get? r.1 = some o) : Tup knd h' r := by
  obtain ⟨o, its, n, e, q⟩ := x
  exact ⟨o, its, n, k o e, q⟩
/-- the set at S holds the rows L -/
structure Hol (knd : KeyKind prog w K) (h : Heap) (S : Addr) (L : List (Row K)) (es : Array (Int × Value)) (ep : Nat) (t : SetTable) : Prop where
  obj : ∃ o, h.get? S = some o ∧ o.ExactSet ∧ o.data = .set es ep t
  ent : es.toList = L.map (rowE knd)
  tab : TabOk t (L.map (rowH knd))
  nd : (L.map Prod.snd).Nodup
  led : w.params.followText "set-order" = true ∨ t.led = true
  room : L.length * 5 < t.mask * 3
  few : L.length < 64
section
variable {knd : KeyKind prog w K} {A : Around} {E : Value → Shared → Prop} {s : Shared} {S : Addr} {L : List (Row K)} {es : Array (Int × Value)} {ep : Nat} {t : SetTable}
theorem Hol.at {h : Heap} (T : Hol knd h S L es ep t) {i : Nat} {r : Row K} (e : L[i]? = some r) : es[i]? = some (rowE knd r) := by
  have q : es.toList[i]? = (L.map (rowE knd))[i]? := by rw [T.ent]
  rw [Array.getElem?_toList, List.getElem?_map, e] at q
  exact q
end
end
end DL

set_option maxHeartbeats 2000000
/-! DL58: one search in a set of tuples. -/
namespace DL
open PySem PySem.Spec PyProof.Rows L2
section
variable {prog : Program} {w : World} {K : Type} [DecidableEq K] {knd : KeyKind prog w K} {A : Around} {E : Value → Shared → Prop} {s : Shared} {S : Addr} {L : List (Row K)} {es : Array (Int × Value)} {ep : Nat} {t : SetTable}
theorem Hol.row {h : Heap} (T : Hol knd h S L es ep t) {i j : Nat} (e : t.place.toList[i]? = some j) : ∃ r, L[i]? = some r := by
  have h1 := (List.getElem?_eq_some_iff.mp e).1
  have h2 := T.tab.sz
  rw [Array.length_toList] at h1
  rw [List.length_map] at h2
  exact ⟨_, List.getElem?_eq_getElem (by omega)⟩
end
end DL

set_option maxHeartbeats 2000000
/-! DL59: a tuple added to a set of tuples; the table laid anew. -/
namespace DL
open PySem PySem.Spec PyProof.Rows L2
section
variable {prog : Program} {w : World} {K : Type} [DecidableEq K] {knd : KeyKind prog w K} {A : Around} {E : Value → Shared → Prop} {s : Shared} {S : Addr} {L : List (Row K)} {es : Array (Int × Value)} {ep : Nat} {t : SetTable}
theorem Tup.other {h h' : Heap} {r : Row K} {o : Obj} (x : Tup knd h r) (ho : h.get? S = some o) (hd : o.data = .set es ep t) (sb : Heap.SameBut S h h') : Tup knd h' r := by
  refine x.grow fun o' e => ?_
  obtain ⟨o2, its, n, e2, _, d2, _⟩ := x
  refine (sb.2 r.1 fun z => ?_).trans e
  rw [z, ho] at e2
  cases e2
  rw [hd] at d2
  cases d2
end
end DL

set_option maxHeartbeats 2000000
/-! DL60: set(list of tuples); sorted(that set). -/
namespace DL
open PySem PySem.Spec PyProof.Rows L2
section
variable {prog : Program} {w : World} {K : Type} [DecidableEq K] {knd : KeyKind prog w K} {A : Around} {E : Value → Shared → Prop} {s : Shared} {S : Addr} {L : List (Row K)} {es : Array (Int × Value)} {ep : Nat} {t : SetTable}
/-- L: the first i rows, each key once -/
structure Kept (rows : List (Row K)) (i : Nat) (L : List (Row K)) : Prop where
  from_ : ∀ r ∈ L, r ∈ rows.take i
  all : ∀ r ∈ rows.take i, r.2 ∈ L.map Prod.snd
  few : L.length ≤ i
theorem Kept.next {rows L L' : List (Row K)} {i : Nat} {x : Row K} (g : Kept rows i L) (e : rows[i]? = some x) (c : x.2 ∈ L.map Prod.snd ∧ L' = L ∨ x.2 ∉ L.map Prod.snd ∧ L'.Perm (x :: L)) : Kept rows (i + 1) L' := by
  have tk : rows.take (i + 1) = rows.take i ++ [x] := by rw [List.take_add_one, e]; rfl
  rcases c with ⟨c, rfl⟩ | ⟨_, p⟩
  · refine ⟨fun r hr => ?_, fun r hr => ?_, Nat.le_succ_of_le g.few⟩ <;> rw [tk] at *
    · exact List.mem_append_left _ (g.from_ r hr)
    · rcases List.mem_append.mp hr with hr | hr
      · exact g.all r hr
      · rw [List.mem_singleton.mp hr]; exact c
  · refine ⟨fun r hr => ?_, fun r hr => ?_, ?_⟩
    · rw [tk]
      rcases List.mem_cons.mp (p.mem_iff.mp hr) with rfl | hr
      · simp
      · exact List.mem_append_left _ (g.from_ r hr)
    · rw [tk] at hr
      rw [(p.map Prod.snd).mem_iff, List.map_cons, List.mem_cons]
      rcases List.mem_append.mp hr with hr | hr
      · exact .inr (g.all r hr)
      · rw [List.mem_singleton.mp hr]; exact .inl rfl
    · have := p.length_eq
      have := g.few
      simp only [List.length_cons] at *
      omega
end
end DL

set_option maxHeartbeats 3200000
/-! DL61: set(a list of tuples), called. -/
namespace DL
open PySem PySem.Spec PyProof.Rows L2
section
variable {prog : Program} {w : World} {K : Type} [DecidableEq K] {knd : KeyKind prog w K} {A : Around} {E : Value → Shared → Prop} {s : Shared}
end
end DL

set_option maxHeartbeats 2000000
/-! DL62: sorted(a set of tuples of texts). -/
namespace DL
open PySem PySem.Spec PyProof.Rows L2 PySem.W
/-- what a row reads as -/
def rowD (r : Row Str) : PyData := .tuple (r.2.map .str)
section
variable {prog : Program} {w : World} {A : Around} {E : Value → Shared → Prop} {s : Shared} {S : Addr} {L : List (Row Str)} {es : Array (Int × Value)} {ep : Nat} {t : SetTable}
theorem items_read {h : Heap} : ∀ {ks : List Str} {vs : List Value}, ItemsAre (PySem.strKind prog w) ks vs → ReadsAll h vs (ks.map PyData.str) []
  | _, _, .nil => .nil
  | _, _, .cons (k := k) (v := v) h1 t => by
    cases v with
    | str x tk =>
      have : k = x := ((PySem.strKind prog w).inj _ _ _ h1 (strKind_is _ _ _ _))
      subst this
      exact .cons (.str _ _) (items_read t)
    | _ => cases h1
theorem Tup.reads {h : Heap} {r : Row Str} (x : Tup (PySem.strKind prog w) h r) : Reads h (.ref r.1) (rowD r) [] := by
  obtain ⟨o, its, n, e, c, d, q⟩ := x
  exact .tuple e c d (items_read q)
theorem each_mono {α β : Type} {R R' : α → β → Prop} : ∀ {as : List α} {bs : List β}, EachIs R as bs → (∀ a b, b ∈ bs → R a b → R' a b) → EachIs R' as bs
  | _, _, .nil, _ => .nil
  | _, _, .cons h t, k => .cons (k _ _ List.mem_cons_self h) (each_mono t fun a b hb => k a b (List.mem_cons_of_mem _ hb))
end
end DL

set_option maxHeartbeats 2000000
/-! DL63: sorted(set(e)), e a list of tuples of texts. -/
namespace DL
open PySem PySem.Spec PyProof.Rows L2 PySem.W
section
variable {X : Cx}
end
end DL

set_option maxHeartbeats 2000000
/-! DL64: sorted(set(e)) of tuples of texts, sorted(e) of any alike data, as mirrors. -/
namespace DL
open PySem PySem.Spec PyProof.Rows L2 PySem.W
/-! ### the order of tuples of texts -/
/-! ### sorted(set(e)) -/
section
variable {K : PySem.W.Frag} {P H : Hp}
end
section
variable {X : Cx} {W : WX} {B : List Nat} {a : Expr} {m : M PyData} {p p2 q pos : Pos}
end
end DL

set_option maxHeartbeats 2000000
/-! DL65: sorted(e), e a list of alike data. -/
namespace DL
open PySem PySem.Spec PyProof.Rows L2 PySem.W
def leA : PyData → PyData → Bool := dataLe false fun d : PyData => d
section
variable {K : PySem.W.Frag} {P : Hp}
theorem each_pairs : ∀ {xs : List V} {ds : List PyData} {us : List Value}, Vals xs us → RpA K P xs ds → EachIs (fun u (b : V × PyData) => RelV b.1 u) us (xs.zip ds) ∧ (∀ b ∈ xs.zip ds, Rp K P b.1 b.2) ∧ (xs.zip ds).map Prod.snd = ds
  | _, _, _, .nil, .nil => ⟨.nil, fun b h => (nomatch h), rfl⟩
  | _, _, _, .cons r1 r2, .cons h t => by
    obtain ⟨e1, e2, e3⟩ := each_pairs r2 t
    refine ⟨.cons r1 e1, fun b hb => ?_, by rw [List.zip_cons_cons, List.map_cons, e3]⟩
    rcases List.mem_cons.mp hb with rfl | hb
    · exact h
    · exact e2 b hb
theorem rpa_pairs : ∀ {L : List (V × PyData)}, (∀ b ∈ L, Rp K P b.1 b.2) → RpA K P (L.map Prod.fst) (L.map Prod.snd)
  | [], _ => .nil
  | b :: L, h => .cons (h b List.mem_cons_self) (rpa_pairs fun c hc => h c (List.mem_cons_of_mem _ hc))
theorem each_vals : ∀ {us : List Value} {L : List (V × PyData)}, EachIs (fun u (b : V × PyData) => RelV b.1 u) us L → Vals (L.map Prod.fst) us
  | _, _, .nil => .nil
  | _, _, .cons h t => .cons h (each_vals t)
end
section
variable {X : Cx}
end
end DL

set_option maxHeartbeats 2000000
/-! DL66: [e for x in a for y in b(x)]. -/
namespace DL
open PySem PySem.Spec PyProof.Rows L2
def lc2L (g : TG') (vs : List Nat) (it1 : M (List PyData)) (g1 : TG') (vs1 : List Nat) (el : M PyData) : List PyData → M (List PyData)
  | [] => fun e => .ok [] e
  | d :: ds => fun e => match g d e with
    | none => .no
    | some e1 => match it1 e1 with
      | .ok ds1 e2 => (match lcL g1 vs1 (M.pure true) el ds1 (wipeE vs1 e2) with
        | .ok ys e3 => (match lc2L g vs it1 g1 vs1 el ds (wipeE vs e3) with
          | .ok zs e4 => .ok (ys ++ zs) e4
          | _ => .no)
        | _ => .no)
      | _ => .no
def M.lc2 (it : M (List PyData)) (g : TG') (vs : List Nat) (it1 : M (List PyData)) (g1 : TG') (vs1 : List Nat) (el : M PyData) : M OD := M.bind it fun ds env => match lc2L g vs it1 g1 vs1 el ds (wipeE vs env) with
  | .ok ys e => if ys.length ≤ 16777216 then .ok (.lst (ys.map .pur)) (restE vs env e) else .no
  | _ => .no
theorem wipe_wipe {σ : L2.St} {vs vs1 : List Nat} (h : ∀ i ∈ vs1, i ∈ vs) : L2.wipe (L2.wipe σ vs1) vs = L2.wipe σ vs := by
  apply List.ext_getElem?
  intro i
  have ln : (L2.wipe σ vs1).length = σ.length := by
    have : ∀ l : List Nat, (L2.wipe σ l).length = σ.length := fun l => by
      induction l with
      | nil => rfl
      | cons v l ih => unfold L2.wipe; rw [List.length_set, ih]
    exact this vs1
  rw [wipe_get, wipe_get, wipe_get, ln]
  by_cases c : i ∈ vs ∧ i < σ.length
  · rw [if_pos c, if_pos c]
  · rw [if_neg c, if_neg c, if_neg fun z => c ⟨h i z.1, z.2⟩]
section
variable {K : PySem.W.Frag} {mg : Str → Option Value} {W : WX} {B vs vs1 : List Nat} {m m1 : M (List PyData)} {g g1 : TG'} {me : M PyData} {σ : L2.St} {H : Hp} {Q : VK}
theorem lc2_law (hB : ∀ i ∈ vs, i ∉ B) (hv : ∀ i ∈ vs1, i ∈ vs) (h : tO K mg W B (M.lc2 m g vs m1 g1 vs1 me) σ H Q) :
    tLc2 (tI K mg W B m) (tV K mg B vs g) (tT K mg W0 B (M.pure true)) (tI K mg W0 B m1) (tV K mg B vs1 g1) (tT K mg W0 B (M.pure true)) (tD K mg W0 B me) vs vs1 σ H Q := by
  obtain ⟨bv, R, P, Fs, env, S, q⟩ := h
  refine ⟨bv, R, P, Fs, env, S, bindD q (fun ds e1 q1 J P1 H1 F1 S1 s1 fd => ?_) fun _ _ q => q⟩
  have hB1 : ∀ i ∈ vs1, i ∉ B := fun i h => hB i (hv i h)
  intro D hD
  cases hlc : lc2L g vs m1 g1 vs1 me ds (wipeE vs e1) with
  | ex x e => rw [hlc] at q1; exact q1.elim
  | no => rw [hlc] at q1; exact q1.elim
  | ok T eF =>
  rw [hlc] at q1
  simp only at q1
  have hT : T.length ≤ 16777216 := Classical.byContradiction fun z => by rw [if_neg z] at q1; exact q1.elim
  rw [if_pos hT] at q1
  have Sw := (S1.wipe (vs := vs) hB).newR (u := .lst []) hD
  refine ⟨fun i n H => n = ds.length - i ∧ i ≤ ds.length ∧ ∃ P' Fs' e accV acc ys, Sta K mg B bv (upd R D (.lst accV)) P' H Fs' (L2.wipe σ vs) e ∧ Same P1 P' ∧ RpA K P' accV acc ∧ lc2L g vs m1 g1 vs1 me (ds.drop i) e = .ok ys eF ∧ acc ++ ys = T,
    ⟨_, rfl, Nat.zero_le _, P1, _, _, [], [], T, Sw, Same.refl _, .nil, by rw [List.drop_zero]; exact hlc, rfl⟩, ?_⟩
  rintro i n H2 ⟨rfl, hi, P2, F2, e2, accV, acc, ys, S2, s2, ra, hl, ha⟩
  have hR : R D = none := S1.free hD
  have hDt := S1.nota hR
  obtain ⟨f1, f2⟩ := fd P2 H2 s2 S2.ph
  by_cases hlt : i < ds.length
  · obtain ⟨go, y⟩ := f1 i ds[i] (List.getElem?_eq_getElem hlt)
    refine .inr ⟨go, fun H' => ∃ P' Fs' e accV acc ys, Sta K mg B bv (upd R D (.lst accV)) P' H' Fs' (L2.wipe σ vs) e ∧ Same P1 P' ∧ RpA K P' accV acc ∧ lc2L g vs m1 g1 vs1 me (ds.drop (i + 1)) e = .ok ys eF ∧ acc ++ ys = T,
      fun H' h' => ⟨_, by omega, rfl, hlt, h'⟩, fun x H3 hx => ?_⟩
    obtain ⟨P3, ex, rx⟩ := y x H3 hx
    have S3 := S2.ext ex
    rw [List.drop_eq_getElem_cons hlt] at hl
    simp only [lc2L] at hl
    cases eg : g ds[i] e2 with
    | none => rw [eg] at hl; cases hl
    | some e3 =>
    rw [eg] at hl
    simp only at hl
    refine ⟨bv, _, P3, F2, e2, _, e3, S3, rx, eg, fun σ4 P4 H4 F4 S4 s4 al => ⟨by rw [al.wipe, L2wipe_idem], bv, _, P4, F4, e3, S4, ?_⟩⟩
    have s24 : Same P2 P4 := ex.pp.trans s4
    have w4 : L2.wipe σ4 vs = L2.wipe σ vs := by rw [al.wipe, L2wipe_idem]
    intro P5 H5 F5 S5 s5
    rw [if_pos rfl]
    refine ⟨bv, _, P5, F5, e3, S5, ?_⟩
    cases ei : m1 e3 with
    | ex x e => rw [ei] at hl; cases hl
    | no => rw [ei] at hl; cases hl
    | ok ds1 e6 =>
    rw [ei] at hl
    simp only at hl
    cases el : lcL g1 vs1 (M.pure true) me ds1 (wipeE vs1 e6) with
    | ex x e => rw [el] at hl; cases hl
    | no => rw [el] at hl; cases hl
    | ok ys1 e7 =>
    rw [el] at hl
    simp only at hl
    cases er : lc2L g vs m1 g1 vs1 me (ds.drop (i + 1)) (wipeE vs e7) with
    | ex x e => rw [er] at hl; cases hl
    | no => rw [er] at hl; cases hl
    | ok zs e8 =>
    rw [er] at hl
    simp only [Rs.ok.injEq] at hl
    obtain ⟨rfl, rfl⟩ := hl
    intro J1 P6 H6 F6 S6 s6 fd1
    have s26 : Same P2 P6 := s24.trans (s5.trans s6)
    refine ⟨fun j k H => k = ds1.length - j ∧ j ≤ ds1.length ∧ ∃ P' Fs' e accV acc ws, Sta K mg B bv (upd R D (.lst accV)) P' H Fs' (L2.wipe σ4 vs1) e ∧ Same P6 P' ∧ RpA K P' accV acc ∧ lcL g1 vs1 (M.pure true) me (ds1.drop j) e = .ok ws e7 ∧ acc ++ (ws ++ zs) = T, ?_, ?_⟩
    · exact ⟨_, rfl, Nat.zero_le _, P6, _, _, accV, acc, ys1, S6.wipe (vs := vs1) hB1, Same.refl _, ra.mono s26, by rw [List.drop_zero]; exact el, ha⟩
    rintro j k H7 ⟨rfl, hj, P7, F7, e9, accV7, acc7, ws, S7, s7, ra7, hl7, ha7⟩
    obtain ⟨h1, h2⟩ := fd1 P7 H7 s7 S7.ph
    by_cases hlt1 : j < ds1.length
    · obtain ⟨go1, y1⟩ := h1 j ds1[j] (List.getElem?_eq_getElem hlt1)
      refine .inr ⟨go1, fun H' => ∃ P' Fs' e accV acc ws, Sta K mg B bv (upd R D (.lst accV)) P' H' Fs' (L2.wipe σ4 vs1) e ∧ Same P6 P' ∧ RpA K P' accV acc ∧ lcL g1 vs1 (M.pure true) me (ds1.drop (j + 1)) e = .ok ws e7 ∧ acc ++ (ws ++ zs) = T,
        fun H' h' => ⟨_, by omega, rfl, hlt1, h'⟩, fun x H8 hx => ?_⟩
      obtain ⟨P8, ex8, rx8⟩ := y1 x H8 hx
      have S8 := S7.ext ex8
      rw [List.drop_eq_getElem_cons hlt1] at hl7
      simp only [lcL, M.pure] at hl7
      cases eg1 : g1 ds1[j] e9 with
      | none => rw [eg1] at hl7; cases hl7
      | some e10 =>
      rw [eg1] at hl7
      simp only at hl7
      refine ⟨bv, _, P8, F7, e9, _, e10, S8, rx8, eg1, fun σ9 P9 H9 F9 S9 s9 al9 => ⟨by rw [al9.wipe, L2wipe_idem], bv, _, P9, F9, e10, S9, ?_⟩⟩
      intro P10 H10 F10 S10 s10
      rw [if_pos rfl]
      refine ⟨bv, _, P10, F10, e10, S10, ?_⟩
      cases ee : me e10 with
      | ex x e => rw [ee] at hl7; cases hl7
      | no => rw [ee] at hl7; cases hl7
      | ok z e11 =>
      rw [ee] at hl7
      simp only at hl7
      cases er7 : lcL g1 vs1 (M.pure true) me (ds1.drop (j + 1)) (wipeE vs1 e11) with
      | ex x e => rw [er7] at hl7; cases hl7
      | no => rw [er7] at hl7; cases hl7
      | ok ws' e12 =>
      have er7' := er7
      rw [er7] at hl7
      simp only [Rs.ok.injEq] at hl7
      obtain ⟨rfl, rfl⟩ := hl7
      intro v P11 H11 F11 S11 s11 rv
      have hlen := ra7.length
      refine ⟨accV7, S11.rh D _ upd_same hDt, ?_, ?_⟩
      · have : acc7.length + (ws'.length + 1 + zs.length) = T.length := by rw [← ha7]; simp only [List.length_append, List.length_cons]
        show accV7.length < sizeLine
        rw [sizeLine_eq]; omega
      · have S12 := (S11.write hDt (u' := .lst (accV7 ++ [v]))).wipe (vs := vs1) hB1
        rw [al9.wipe, L2wipe_idem] at S12
        have s711 : Same P7 P11 := ex8.pp.trans (s9.trans (s10.trans s11))
        exact ⟨P11, _, _, accV7 ++ [v], acc7 ++ [z], ws', S12, s7.trans s711, (ra7.mono s711).append (.cons rv .nil), er7', by rw [← ha7]; simp⟩
    · have e : j = ds1.length := by omega
      subst e
      rw [List.drop_length] at hl7
      simp only [lcL, Rs.ok.injEq] at hl7
      obtain ⟨rfl, rfl⟩ := hl7
      have S8 := S7.wipe (vs := vs) hB
      rw [wipe_wipe hv, w4] at S8
      exact .inl ⟨h2, P7, _, _, accV7, acc7, zs, S8, s2.trans (s26.trans s7), ra7, er, ha7⟩
  · have e : i = ds.length := by omega
    subst e
    rw [List.drop_length] at hl
    simp only [lc2L, Rs.ok.injEq] at hl
    obtain ⟨rfl, rfl⟩ := hl
    rw [List.append_nil] at ha
    subst ha
    have S3 := S2.sub (R := R) (fun a o h => by
      have : a ≠ D := fun z => by rw [z, hR] at h; cases h
      rw [upd_ne this]; exact h) S1.hasT
    have S4 := S1.unwipe S3 s2 hB
    refine .inl ⟨f2, q1 (.ref D) P2 H2 _ [D] S4 (s1.trans s2) (.lst (S2.rh D _ upd_same hDt) (owl_pur ra)) ⟨by simp, fun a h => ?_, fun a h => ?_, fun a h i z => ?_⟩⟩
    · simp at h; subst h; exact hR
    · simp at h; subst h; exact S2.rp a (by rw [upd_same]; simp)
    · simp at h; subst h
      split at z
      · cases z
      · have y := S2.fr i a z
        rw [upd_same] at y; cases y
section
variable {X : Cx} {elt tg iter tg1 iter1 : Expr} {scope : Scope} {pos : Pos}
theorem eo_lc2 (own : List (Str × Nat)) (hc : X.calm = true) (hN : X.N.Nodup) (hi : ID X W B tg iter m) (ok : BlkOk X.N X.env.scope scope own) (hv : ∀ i ∈ vs1, i ∈ own.map (·.2)) (hB : ∀ i ∈ own.map (·.2), i ∉ B)
    (hg : ∀ s H C cl fp, GV (BX X s H scope C cl fp) B (own.map (·.2)) tg g) (hi1 : ∀ s H C cl fp, ID (BX X s H scope C cl fp) W0 B tg1 iter1 m1) (hg1 : ∀ s H C cl fp, GV (BX X s H scope C cl fp) B vs1 tg1 g1)
    (he : ∀ s H C cl fp, ED (BX X s H scope C cl fp) W0 B elt me) (hs : ∀ x, foldedSetIterable iter X.env x = pure x := by intro _; rfl) (hs1 : ∀ env x, foldedSetIterable iter1 env x = pure x := by intro _ _; rfl) :
    EO X W B (.ListComp elt [⟨tg, iter, [], 0⟩, ⟨tg1, iter1, [], 0⟩] scope pos) (M.lc2 m g (own.map (·.2)) m1 g1 vs1 me) :=
  PE_mono (pe_lc2 hc hN hi ok hv hg (fun _ _ _ _ _ => tds_nil) hi1 hg1 (fun _ _ _ _ _ => tds_nil) he hs hs1) fun _ _ _ h => lc2_law hB hv h
end
end
end DL

set_option maxHeartbeats 2000000
/-! DL67: runs of sorted(..), sorted(set(..)) and of two clauses. -/
namespace DL
open PySem PySem.Spec PyProof.Rows L2 PySem.W
theorem hs_lc2 {it it1 : M (List PyData)} {g g1 : TG'} {vs vs1 : List Nat} {el : M PyData} {env : DEnv} {Q : OD → DEnv → Prop} (h : Hs (it env) fun ds e => Hs (lc2L g vs it1 g1 vs1 el ds (wipeE vs e)) fun ys e' => ys.length ≤ 16777216 ∧ Q (.lst (ys.map .pur)) (restE vs e e')) : Hs (M.lc2 it g vs it1 g1 vs1 el env) Q := by
  unfold M.lc2
  rw [hs_bind]
  refine h.mono fun ds e h2 => ?_
  obtain ⟨ys, e', h3, h4, h5⟩ := h2.ok
  rw [h3]
  simp only
  rw [if_pos h4]
  exact Hs.mk h5
theorem hs_lc2_nil {it1 : M (List PyData)} {g g1 : TG'} {vs vs1 : List Nat} {el : M PyData} {e : DEnv} {Q : List PyData → DEnv → Prop} (q : Q [] e) : Hs (lc2L g vs it1 g1 vs1 el [] e) Q := Hs.mk q
theorem hs_lc2_cons {it1 : M (List PyData)} {g g1 : TG'} {vs vs1 : List Nat} {el : M PyData} {d : PyData} {ds : List PyData} {e e1 : DEnv} {Q : List PyData → DEnv → Prop} (hg : g d e = some e1)
    (h : Hs (it1 e1) fun ds1 e2 => Hs (lcL g1 vs1 (M.pure true) el ds1 (wipeE vs1 e2)) fun ys e3 => Hs (lc2L g vs it1 g1 vs1 el ds (wipeE vs e3)) fun zs e4 => Q (ys ++ zs) e4) : Hs (lc2L g vs it1 g1 vs1 el (d :: ds) e) Q := by
  obtain ⟨ds1, e2, h1, h2⟩ := h.ok
  obtain ⟨ys, e3, h3, h4⟩ := h2.ok
  obtain ⟨zs, e4, h5, h6⟩ := h4.ok
  simp only [lc2L, hg, h1, h3, h5]
  exact Hs.mk h6
end DL

set_option maxHeartbeats 2000000
/-! DL68: sorted(xs, key=f), f a function object whose calls keep what a predicate J tells. -/
namespace DL
open PySem PySem.Spec PyProof.Rows L2 PySem.W
section
variable {X : Cx} {pins : List (Addr × Obj)} {σ : L2.St} {H P : Hp} {s : Shared} {E : Value → Shared → Prop}
end
end DL

set_option maxHeartbeats 2000000
/-! DL69: lambdas with one parameter; sorted(e, key=lambda p: body). -/
namespace DL
open PySem PySem.Spec PyProof.Rows L2 LamX
/-! ### the maker's code object -/
structure LamT (K : PySem.W.Frag) (mg : Str → Option Value) (base : Heap) (cd : Value) (qual : Str) : Prop where
  ex : ∃ c P, cd = .ref c ∧ TabB base mg c P ∧ (P, qual ++ ".<locals>." ++ "<lambda>") ∈ tabsOf K ∧ ∀ p ∈ tabsOf K, p.1 = P → p.2 = qual ++ ".<locals>." ++ "<lambda>"
theorem bltB_ok {K : PySem.W.Frag} {mg : Str → Option Value} {base : Heap} {P : Addr} (kin : K.In base) (ns : base.Ns mainGlobals mg) (h : bltB K P = true) : base.BuiltinsAt mg P := by
  unfold bltB at h
  split at h
  · rename_i bm hn
    simp only [Bool.and_eq_true, decide_eq_true_eq] at h
    obtain ⟨⟨⟨h1, h2⟩, h3⟩, h4⟩ := h
    split at h4
    · rename_i n d sl hk
      simp only [Bool.and_eq_true, decide_eq_true_eq] at h4
      obtain ⟨rfl, rfl⟩ := h4
      exact ⟨bm, _, PySem.W.mg_of kin ns hn, h1, h2, h3, kin _ _ hk, rfl, rfl, rfl⟩
    · cases h4
  · cases h
theorem lamT_of {K : PySem.W.Frag} {mg : Str → Option Value} {base : Heap} (kin : K.In base) (ns : base.Ns mainGlobals mg) (hc : codesOk K = true) {f : Addr} {oc : Value} {od : Option Addr} {osl : Array (Option Value)} {fd : FuncData} {cd : Value} {qual : Str}
    (lk : K.lookup f = some ⟨oc, od, .func fd, osl⟩) (hcd : PySem.W.codeIn K fd.code qual = true) (e : fd.code = cd) : LamT K mg base cd qual := by
  subst e
  have h := List.all_eq_true.mp hc _ (mem_lk lk)
  simp only [lamOk] at h
  unfold PySem.W.codeIn at hcd
  split at hcd
  · rename_i c hcode
    split at hcd
    · rename_i cls dd vs sl hk
      rw [hcode] at h
      simp only [hk] at h
      cases ht : tabOf ⟨cls, dd, .fields vs, sl⟩ with
      | none => rw [ht] at h; cases h
      | some pq =>
        obtain ⟨P, q⟩ := pq
        rw [ht] at h
        simp only [Bool.and_eq_true, decide_eq_true_eq, List.all_eq_true, Bool.or_eq_true] at h
        obtain ⟨⟨⟨h1, h2⟩, h3⟩, h4⟩ := h
        have hq : q = qual ++ ".<locals>." ++ "<lambda>" := by
          simp only [tabOf] at ht
          split at ht
          · split at ht
            · rename_i q' t p e1 e2
              cases ht
              split at hcd
              · rename_i x n t' r hl
                have : vs[1]? = some (.str n t') := by rw [← Array.getElem?_toList, hl]; rfl
                rw [this] at e1
                cases e1
                rw [beq_iff_eq.mp hcd]
              · cases hcd
            · cases ht
          · cases ht
        subst hq
        refine ⟨c, P, hcode, ⟨PySem.W.codeHd_of_K kin h1, bltB_ok kin ns h3, h2⟩, List.mem_filterMap.mpr ⟨(c, _), mem_lk hk, ht⟩, fun p hp ep => (h4 p hp).resolve_left (fun z => z ep)⟩
    · cases hcd
  · cases hcd
theorem Cm.codes {fa : List He.Fa} {fn : List He.DefD} {tb : Tbs} {K : PySem.W.Frag} {mg : Str → Option Value} {base : Heap} (C : Cm fa fn tb K mg base) (i : Nat) {zs : List He.Dv} (h : tb[i]? = some (("<lambda>" : Str), zs) := by rfl) : codesOk K = true := by
  have z := List.all_eq_true.mp C.tbs _ (List.mem_of_getElem? h)
  simp only [beq_self_eq_true, if_true] at z
  exact z
/-- a def whose body makes lambdas -/
theorem fng_ofC {P : Program} {w : World} {K : PySem.W.Frag} {mg : Str → Option Value} {base : Heap} {k : Nat} {f : Addr} {x qual : Str} {params : Arguments} {body : List Stmt} {scope : Scope} {dvs : List V} {kws : List (Str × V)} {fd : FuncData} {N ps : List Str} {B : List Nat} {mb : M Flw} {n nn : Nat}
    (kin : K.In base) (ns : base.Ns mainGlobals mg) (hc : codesOk K = true)
    (F : FunD K x qual params body scope dvs kws f fd) (S : FnScope N ps scope) (hn : ps.length = n) (hnn : N.length = nn) (hB : ∀ i ∈ B, i < ps.length)
    (hb : ∀ (cd : Value) (A : Around) (outer : List Env) (s : Shared) (H : Hp) (E : XK), LamT K mg base cd qual → Room k (CxF P w K mg base N qual scope f cd A outer s H E).A → Gd (CxF P w K mg base N qual scope f cd A outer s H E) → SDs (CxF P w K mg base N qual scope f cd A outer s H E) (WF E) B body mb) :
    FnG P w K mg base (k + 1) f fd ps B (runF n nn B mb) := by
  obtain ⟨oc, od, dV, kV, doc, pm, an, cdv, ct, osl, e1, lk, hcd, q1, q2⟩ := F.ex
  have hL : LamT K mg base cdv qual := lamT_of kin ns hc lk (by rw [e1]; exact hcd) (by rw [e1])
  -- as in fng_of
  subst hn hnn
  subst e1
  have hle : ps.length ≤ N.length := by have := congrArg List.length S.pre; rw [List.length_take] at this; omega
  have hlen : ∀ env, ((∀ x e, runF ps.length N.length B mb env ≠ .ok x e) ∧ (∀ x e, runF ps.length N.length B mb env ≠ .ex x e)) ∨ env.length = ps.length := fun env => by
    by_cases h : env.length = ps.length
    · exact .inr h
    · refine .inl ⟨fun x e z => ?_, fun x e z => ?_⟩ <;> (unfold runF at z; rw [if_neg h] at z; cases z)
  refine ⟨hB, hlen, fun A outer s H args us vs Q E hr hg hsy e0 hbt r hsp => ?_⟩
  have KX : K.In s.heap := e0.mod.kin.keeps fun b o e => (e0.bs b o e).1
  obtain ⟨hBv, bv, R, P0, Fs, env, St, hpost⟩ := hsp
  have hl : vs.length = ps.length := by
    have h1 := St.len
    rw [List.length_map] at h1
    rcases hlen env with ⟨h2, h3⟩ | h2
    · cases q : runF ps.length N.length B mb env with
      | ok x e => exact absurd q (h2 x e)
      | ex x e => exact absurd q (h3 x e)
      | no => rw [q] at hpost; exact hpost.elim
    · omega
  have hle2 : env.length = ps.length := by have h1 := St.len; rw [List.length_map] at h1; omega
  refine codeAny_call_function hr.depth (KX _ _ lk) rfl S.co S.gen rfl (PySem.W.codeRec_of KX hcd) (hbt _ _ _ _ (wpAny_newFunctionEnv_cells S.kind (fun ⟨y, v⟩ hy => (S.par y (List.of_mem_zip hy).1).elim .inl fun q => .inr ⟨q, PySem.W.cellsFrom_some _ _ _ (.inl q)⟩) fun ev he s1 x => ?_))
  subst he
  refine ⟨(e0.mod.nolimit.keeps fun b o e => (e0.bs b o e).1).keeps x.toInCall.keep, codeAny_func ?_⟩
  have I : Inv (CxF P w K mg base N qual scope f cdv A outer s H E) [] (L2.start N vs) H s1 := inv_start S hr.hd e0 hl r x
  have S1 := St.start hBv (N := N) (by omega)
  rw [hl] at S1
  have hbd : ∀ i ∈ B, vs[i]? = some (bv i) := fun i hi => by
    have := St.pin i hi
    rw [List.getElem?_map] at this
    obtain ⟨u, u1, u2⟩ := Option.map_eq_some_iff.mp this
    cases u2
    exact u1
  have key : tS K mg (WF E) B mb { nx := fun _ H' => Q .non H', rt := Q } (L2.start N vs) H := by
    refine ⟨bv, R, P0, Fs, _, S1, ?_⟩
    unfold runF at hpost
    rw [if_pos hle2] at hpost
    cases q : mb (env ++ List.replicate (N.length - ps.length) none) with
    | no => rw [q] at hpost; exact hpost.elim
    | ex y e =>
      rw [q] at hpost
      exact fun cls dx σ' P' H' Fs' S' s' hx => hpost cls dx P' H' _ (hl ▸ S'.kept (vs := vs) hbd) s' hx
    | ok fl e =>
      rw [q] at hpost
      cases fl with
      | nx => exact fun σ' P' H' Fs' S' s' => hpost .non P' H' _ [] (hl ▸ S'.kept (vs := vs) hbd) s' (.pur .non) Free.nil
      | rt y => exact fun v σ' P' H' Fs' G S' s' o' f' => hpost v P' H' _ G (hl ▸ S'.kept (vs := vs) hbd) s' o' ⟨f'.nd, f'.r, f'.p, fun a ha i => by
          split
          · exact f'.f a ha i
          · simp⟩
      | bk => exact hpost.elim
      | ct => exact hpost.elim
  refine wpAny_mono ((hb cdv A outer s H E hL (hr.deeper _) ⟨hg, hsy⟩).run [] s1 (L2.start N vs) H _ I key) (fun fl s' hs => ?_) fun e s' hs => hs
  cases fl with
  | ret u =>
    obtain ⟨v, σ', H', J, rv, q⟩ := hs
    exact ⟨v, H', J.os, J.bare, J.base, J.hok, rv, q⟩
  | next =>
    obtain ⟨σ', H', J, q⟩ := hs
    exact ⟨V.non, H', J.os, J.bare, J.base, J.hok, rfl, q⟩
  | brk =>
    obtain ⟨_, _, _, q⟩ := hs
    exact q.elim
  | cont =>
    obtain ⟨_, _, _, q⟩ := hs
    exact q.elim
/-! ### the lambda is made -/
theorem among_hit {pos : Pos} {c : Value} (l : List Value) (h : TriplesOk l) (hn : codeAmong pos l = none) : codeAmong pos (l ++ [rawInt pos.line, rawInt pos.col, c]) = some c := by
  fun_induction TriplesOk l with
  | case1 => simp [rawInt, codeAmong]
  | case2 a t b u x rest ih =>
    simp only [List.cons_append, codeAmong] at hn ⊢
    split at hn
    · cases hn
    · rename_i q
      rw [if_neg q]
      exact ih h hn
  | case3 l h1 h2 => exact h.elim
section
variable {X : Cx} {pins : List (Addr × Obj)} {σ : L2.St} {H : Hp} {s : Shared}
theorem lam_make3 {T : List (Addr × Str)} {c P : Addr} {params : Arguments} {body : Expr} {scope : Scope} {pos : Pos} {E : Value → Shared → Prop} {Q : Value → Shared → Prop} (I : Inv X pins σ H s) (TB : TabB X.base X.mg c P) (hcode : X.env.code = .ref c)
    (hm : (P, X.env.qual ++ "<lambda>") ∈ T) (hu : ∀ p ∈ T, p.1 = P → p.2 = X.env.qual ++ "<lambda>") (hT : Tabs T H) (hdef : defaultsOf params X.env = ([], [])) (hfree : ∀ y ∈ scope.names, y.2 = .free → ∃ c, X.env.cells.lookup y.1 = some c)
    (h : ∀ (f c' : Addr) (pm ctv : Value) (H1 : Hp) (s' : Shared), Inv X pins σ H1 s' → (∀ b o, H b = some o → b ≠ P → H1 b = some o) → Tabs T H1 →
      s'.heap.get? f = some (PySem.W.kla_obj "<lambda>" (X.env.qual ++ "<lambda>") params body scope (cloFrom X.env.cells scope.names []) pm c' ctv) → H1 f = none → f ∉ frs X.stack → (∃ ps2, H1 P = some (.tbl ps2) ∧ TriplesOk ps2.toList ∧ codeAmong pos ps2.toList = some (.ref c')) → Q (.ref f) s') :
    wpAny (model X.prog X.w) X.A (eval (.Lambda params body scope pos) X.env) Q E s := by
  obtain ⟨ps, hP, ht, ha⟩ := hT _ hm
  refine PySem.W.kla_eval hdef ?_
  have bP : s.heap.BuiltinsAt X.mg P := TB.bm.keeps I.bk
  have hP' : s.heap.get? P = some { cls := .none, data := .fields ps } := I.hok P _ hP
  have nofr : ∀ f, s.heap.objs.size ≤ f → f ∉ frs X.stack := fun f hf z => by
    rcases List.mem_cons.mp (I.stkSub _ z) with e | e
    · have h1 := I.lt
      rw [← e] at h1
      exact Nat.lt_irrefl _ (Nat.lt_of_lt_of_le h1 hf)
    · exact I.nofs hf e
  cases hc : codeAmong pos ps.toList with
  | none =>
    refine PySem.W.kla_makeFunction (mg := X.mg) (c := c) (P := P) (ps := ps) (closure_ok hfree) I.ok.glob (I.mod.glob.keeps I.bk) hcode (TB.code.keeps I.bk) hP' ht hc TB.gP bP fun c' ctv h' tk hx hge hlt hrec htb => ?_
    obtain ⟨c2, oc, vs, t, e2, hoc, hd, hv⟩ := hrec
    cases e2
    have hsz : s.heap.objs.size ≤ h'.objs.size := Nat.le_trans hge (Nat.le_of_lt hlt)
    have nC : H c' = none := I.hok.fresh hge
    have I1 := inv_table (t' := tk) (more := #[rawInt pos.line, rawInt pos.col, .ref c']) (h' := h'.push (PySem.W.kla_obj "<lambda>" (X.env.qual ++ "<lambda>") params body scope (cloFrom X.env.cells scope.names []) ((X.mg "__name__").getD .none) c' ctv)) I hP
      (fun b o hb e => Heap.get?_push_of_some _ (hx b o hb e)) (Heap.get?_push_of_some _ htb) hge ⟨oc, vs, t, Heap.get?_push_of_some _ hoc, hd, hv⟩
    have hE : ∀ b o, H b = some o → b ≠ P → (upd (upd H P (.tbl (ps ++ #[rawInt pos.line, rawInt pos.col, .ref c']))) c' (CodeO c' (X.env.qual ++ "<lambda>"))) b = some o := fun b o e n => by
      rw [upd_ne (ne_of_none e nC), upd_ne n]
      exact e
    have hN : ∀ b o, H b = some o → (∀ ps, o ≠ .tbl ps) → b ≠ P := fun b o e n z => n ps (Option.some.inj (e.symm.trans (by rw [z]; exact hP)))
    have eL : (ps ++ #[rawInt pos.line, rawInt pos.col, .ref c']).toList = ps.toList ++ [rawInt pos.line, rawInt pos.col, .ref c'] := by simp
    refine h h'.objs.size c' ((X.mg "__name__").getD .none) ctv _ _ I1 hE (fun p hp => ?_) (Heap.get?_push_size _ rfl) ?_ (nofr _ hsz) ⟨_, by rw [upd_ne (ne_of_none hP nC), upd_same], by rw [eL]; exact PySem.TriplesOk_snoc _ _ _ _ ht, by rw [eL]; exact among_hit _ ht hc⟩
    · by_cases hb : p.1 = P
      · rw [hu p hp hb, hb]
        refine ⟨_, by rw [upd_ne (ne_of_none hP nC), upd_same], by rw [eL]; exact PySem.TriplesOk_snoc _ _ _ _ ht, fun p' cv hcv => ?_⟩
        rw [eL] at hcv
        rcases among_app _ ht hcv with z | z
        · obtain ⟨c0, e1, e2⟩ := ha p' cv z
          exact ⟨c0, e1, hE _ _ e2 (hN _ _ e2 codeO_ne)⟩
        · exact ⟨c', z, upd_same⟩
      · obtain ⟨ps', a1, a2, a3⟩ := hT p hp
        refine ⟨ps', by rw [upd_ne (ne_of_none a1 nC), upd_ne hb]; exact a1, a2, fun p' cv hcv => ?_⟩
        obtain ⟨c0, e1, e2⟩ := a3 p' cv hcv
        exact ⟨c0, e1, hE _ _ e2 (hN _ _ e2 codeO_ne)⟩
    · have n1 : h'.objs.size ≠ c' := Nat.ne_of_gt hlt
      have n2 : h'.objs.size ≠ P := Nat.ne_of_gt (Nat.lt_of_lt_of_le (Heap.lt_size hP') hsz)
      rw [upd_ne n1, upd_ne n2]
      exact I.hok.fresh hsz
  | some cv =>
    obtain ⟨c', e, hco⟩ := ha pos cv hc
    subst e
    refine PySem.W.kla_makeFunctionHit (mg := X.mg) (c := c) (P := P) (ps := ps) (closure_ok hfree) I.ok.glob (I.mod.glob.keeps I.bk) hcode (TB.code.keeps I.bk) hP' ht hc bP fun ctv h' tk hx hsz => ?_
    have I1 : Inv X pins σ H { s with heap := h'.push (PySem.W.kla_obj "<lambda>" (X.env.qual ++ "<lambda>") params body scope (cloFrom X.env.cells scope.names []) ((X.mg "__name__").getD .none) c' ctv), toks := tk } := I.kept fun b o e => Heap.get?_push_of_some _ (hx b o e)
    exact h h'.objs.size c' ((X.mg "__name__").getD .none) ctv H _ I1 (fun b o e _ => e) hT (Heap.get?_push_size _ rfl) (I.hok.fresh hsz) (nofr _ hsz) ⟨ps, hP, ht, hc⟩
end
/-! ### the lambda's names: one parameter -/
structure LamS1 (sc scope : Scope) (p : Str) : Prop where
  kind : scope.kind = .function
  co : scope.isCoroutine = false
  gen : scope.isGenerator = false
  par : scope.names.lookup p = some .local
  own : ∀ y ∈ scope.names, (y.2 = .local → y.1 = p) ∧ y.2 ≠ .cell
  free : ∀ y ∈ scope.names, y.2 = .free → sc.names.lookup y.1 = some .cell ∨ sc.names.lookup y.1 = some .free
def lamS1B (sc scope : Scope) (p : Str) : Bool :=
  decide (scope.kind = .function) && !scope.isCoroutine && !scope.isGenerator && decide (scope.names.lookup p = some .local) && scope.names.all fun y => (!decide (y.2 = .local) || decide (y.1 = p)) && !decide (y.2 = .cell) && (!decide (y.2 = .free) || decide (sc.names.lookup y.1 = some .cell) || decide (sc.names.lookup y.1 = some .free))
theorem lamS1_by {sc scope : Scope} {p : Str} (h : lamS1B sc scope p = true) : LamS1 sc scope p := by
  unfold lamS1B at h
  simp only [Bool.and_eq_true, Bool.or_eq_true, Bool.not_eq_true', decide_eq_true_eq, decide_eq_false_iff_not, List.all_eq_true] at h
  obtain ⟨⟨⟨⟨h1, h2⟩, h3⟩, h5⟩, h4⟩ := h
  refine ⟨h1, h2, h3, h5, fun y hy => ⟨fun e => (h4 y hy).1.1.resolve_left (fun z => z e), (h4 y hy).1.2⟩, fun y hy e => ?_⟩
  rcases (h4 y hy).2 with (z | z) | z
  · exact absurd e z
  · exact .inl z
  · exact .inr z
theorem LamS1.has {X : Cx} {scope : Scope} {p : Str} (L : LamS1 X.env.scope scope p) (ok : X.Ok) : ∀ y ∈ scope.names, y.2 = .free → ∃ c, X.env.cells.lookup y.1 = some c := fun y hy e => by
  rcases L.free y hy e with k | k
  · exact ok.has _ (.inl k)
  · exact ok.has _ (.inr k)
section
variable {X : Cx} {pins : List (Addr × Obj)} {σ : L2.St} {H : Hp} {s : Shared}
end
end DL

set_option maxHeartbeats 2000000
/-! DL70: sorted(e, key=lambda p: body). -/
namespace DL
open PySem PySem.Spec PyProof.Rows L2 LamX PySem.W
section
variable {K : PySem.W.Frag} {mg : Str → Option Value} {B : List Nat} {bv : Nat → V} {R P H H1 : Hp} {Fs : Nat → List Addr} {σ : L2.St} {env : DEnv}
/-- a table has grown -/
theorem Sta.grown (S : Sta K mg B bv R P H Fs σ env) {c : Addr} (hc : c ∈ TbA K) (e : ∀ b o, H b = some o → b ≠ c → H1 b = some o) (T : Tabs (tabsOf K) H1) : Sta K mg B bv R P H1 Fs σ env := by
  obtain ⟨p, hp, rfl⟩ := List.mem_map.mp hc
  have rc := (S.tb p hp).2
  have ph : Same P H1 := fun a o h => e a o (S.ph a o h) fun z => by
    rw [z, S.rp _ rc] at h
    cases h
  have sl : ∀ (i : Nat) (x : OD), env[i]? = some (some x) → ∃ v, σ[i]? = some (some v) ∧ Ow K mg P H1 (Fs i) v x := fun i x h => by
    obtain ⟨v, h1, h2⟩ := S.slot i x h
    exact ⟨v, h1, h2.keep (Same.refl _) fun a ha o ho => e a o ho fun z => rc (by rw [← z]; exact S.fr i a ha)⟩
  exact ⟨fun a o r n => e a o (S.rh a o r n) fun z => n (by rw [z]; exact hc), fun q hq => ⟨T q hq, (S.tb q hq).2⟩, ph, S.rp, sl, S.dead, S.nd, S.dj, S.fr, S.fp, S.len, S.pin, S.nt⟩
end
/-! ### the mirror -/
/-! ### the rule -/
section
variable {X : Cx} {W : WX} {B : List Nat}
end
end DL

set_option maxHeartbeats 2000000
/-! DL71: divmod; runs of sorted(.., key=..). -/
namespace DL
open PySem PySem.Spec PyProof.Rows L2 PySem.W
section
variable {X : Cx}
end
end DL

set_option maxHeartbeats 2000000
/-! DL72: list(zip(a, b)), both lists. -/
namespace DLZ
open PySem PySem.Spec PyProof.Rows PySem.Calls L2
/-- the zip object stands at its i-th turn -/
def ZSt (h : Heap) (z TI TO i1 i2 l1 l2 S : Addr) (xs ys : Array Value) (i : Nat) : Prop :=
  (IsPair h TI (.ref i1) (.ref i2) ∧ h.IsListIter i1 l1 i ∧ h.IsListIter i2 l2 i ∧ h.IsList l1 xs ∧ h.IsList l2 ys) ∧
  ((i = 0 ∧ IsZip h z TI TO .none ∧ ∃ a b, IsPair h TO a b) ∨ ∃ T f oT, IsZipHeld h z TI TO T f ∧ h.get? T = some oT ∧ T ≠ z ∧ T ≠ i1 ∧ T ≠ i2 ∧ T ≠ S)
structure ZOff (z TI TO i1 i2 l1 l2 S : Addr) : Prop where
  z : z ≠ S
  TI : TI ≠ S
  TO : TO ≠ S
  i1 : i1 ≠ S
  i2 : i2 ≠ S
  l1 : l1 ≠ S
  l2 : l2 ≠ S
theorem ZSt.keep {h h' : Heap} {z TI TO i1 i2 l1 l2 S : Addr} {xs ys : Array Value} {i : Nat} (x : ZSt h z TI TO i1 i2 l1 l2 S xs ys i) (O : ZOff z TI TO i1 i2 l1 l2 S) (hk : ∀ b o, b ≠ S → h.get? b = some o → h'.get? b = some o) : ZSt h' z TI TO i1 i2 l1 l2 S xs ys i := by
  obtain ⟨⟨a1, a2, a3, a4, a5⟩, x⟩ := x
  refine ⟨⟨hk _ _ O.TI a1, a2.at fun o e => hk _ o O.i1 e, a3.at fun o e => hk _ o O.i2 e, a4.at fun o e => hk _ o O.l1 e, a5.at fun o e => hk _ o O.l2 e⟩, ?_⟩
  rcases x with ⟨e, b1, a, b, b2⟩ | ⟨T, f, oT, b1, b2, b3, b4, b5, b6⟩
  · exact .inl ⟨e, hk _ _ O.z b1, a, b, hk _ _ O.TO b2⟩
  · exact .inr ⟨T, f, oT, hk _ _ O.z b1, hk _ _ b6 b2, b3, b4, b5, b6⟩
section
variable {prog : Program} {w : World} {A : Around} {E : Value → Shared → Prop} {s : Shared} {z TI TO i1 i2 l1 l2 S : Addr} {xs ys : Array Value} {i : Nat}
/-- the tuples that were made -/
structure ZG (xs ys : Array Value) (lo : Addr) (h : Heap) (as : List Addr) : Prop where
  rise : as.Pairwise (· < ·)
  above : ∀ a ∈ as, lo < a
  pairs : ∀ (j : Nat) (a : Addr), as[j]? = some a → ∃ x y, xs[j]? = some x ∧ ys[j]? = some y ∧ h.get? a = some { cls := .type "tuple", data := .seq #[x, y] }
theorem ZG.there {lo : Addr} {h : Heap} {as : List Addr} (g : ZG xs ys lo h as) {a : Addr} (ha : a ∈ as) : a < h.objs.size := by
  obtain ⟨j, hj⟩ := List.mem_iff_getElem?.mp ha
  obtain ⟨_, _, _, _, e⟩ := g.pairs j a hj
  exact Heap.lt_size e
end
section
variable {prog : Program} {w : World} {A : Around} {s : Shared} {R : Result → Shared → Prop} {z TI TO i1 i2 l1 l2 S lo : Addr} {xs ys : Array Value}
end
end DLZ

set_option maxHeartbeats 2000000
/-! DL73: list(zip(a, b)), list(d), dict(d). -/
namespace DL
open PySem PySem.Spec PyProof.Rows L2 DLZ
section
variable {X : Cx} {pins : List (Addr × Obj)} {σ : L2.St} {H : Hp} {s : Shared}
end
section
variable {X : Cx} {e e2 : Expr} {ta : TA} {p p2 zpos pos : Pos}
end
end DL

set_option maxHeartbeats 2000000
/-! DL74: list(zip(a, b)), list(d), dict(d) over mirrors. -/
namespace DL
open PySem PySem.Spec PyProof.Rows L2
section
variable {X : Cx} {W : WX} {B : List Nat} {e e2 : Expr} {ml : M (List PyData)} {p p2 zpos pos : Pos}
/-! ### list(d), dict(d) -/
end
end DL

set_option maxHeartbeats 2000000
/-! DL75: list comprehensions that an exception may leave. -/
namespace DL
open PySem PySem.Spec PyProof.Rows L2
section
variable {M : Model} {A : Around} {E : Value → Shared → Prop} {s : Shared} {env : Env}
end
section
variable {X : Cx} {pins : List (Addr × Obj)} {σ : L2.St} {H : Hp} {s : Shared}
end
end DL

set_option maxHeartbeats 2000000
/-! DL76: what a block lets out its def takes; list comprehensions with exceptions, by the hand layer's terms. -/
namespace DL
open PySem PySem.Spec PyProof.Rows L2
section
variable {X : Cx} {W : WX} {pins : List (Addr × Obj)} {σ : L2.St} {H3 : Hp} {s3 : Shared}
end
end DL

set_option maxHeartbeats 2000000
/-! DL77: [e for x in it if ..], exceptions leaving it. -/
namespace DL
open PySem PySem.Spec PyProof.Rows L2
end DL

set_option maxHeartbeats 2000000
/-! DL78: [e for x in it if ..] with exceptions: the mirror, the law, the rules. -/
namespace DL
open PySem PySem.Spec PyProof.Rows L2
section
variable {K : PySem.W.Frag} {mg : Str → Option Value} {W : WX} {B vs : List Nat} {m : M (List PyData)} {g : TG'} {mt : M Bool} {me : M PyData} {σ : L2.St} {H : Hp} {Q : VK}
end
end DL

set_option maxHeartbeats 2000000
/-! DL79: comprehensions with exceptions as expressions and statements; raise C(); try .. except C. -/
namespace DL
open PySem PySem.Spec PyProof.Rows L2
section
variable {X : Cx} {W : WX} {B : List Nat} {e elt tg iter : Expr} {ifs : List Expr} {scope : Scope} {own : List (Str × Nat)} {pos spos py : Pos} {m : M (List PyData)} {g : TG'} {mt : M Bool} {me : M PyData}
end
theorem Gd.tr {X : Cx} {pn : List (Addr × Obj)} {xe : Value → Shared → Prop} (g : Gd X) : Gd (X.tr pn xe) := ⟨g.guards, g.sys⟩
theorem Gd.suite {X : Cx} {a : Addr} {pn : List (Addr × Obj)} (g : Gd X) : Gd (X.suite a pn) := ⟨g.guards, g.sys⟩
/-! ### raise C() -/
section
variable {X : Cx} {W : WX} {B : List Nat} {C : Addr} {bmB : List Value} {Bn newId initId : String} {x : Str} {p pos rpos : Pos}
theorem pmk_own0 (F : ExcBaseFacts Bn newId initId bmB) (q : PySem.W.excIn X.K C bmB newId = true) (gC : X.mg x = some (.ref C)) (kC : PySem.W.keepIn X.K (.ref C) = true) (r : Raises X (.ref C)) (hg : Gl X x)
    (hdb : (x == ("__debug__" : Str)) = false := by decide) : PMk X (.Call (.Name x p) [] [] pos) (fun _ H Q => Q (.ref C) none H) := fun pins s σ H Q I h => by
  refine wpAny_Call_Name_kw (ld_glob I hg gC ?_ hdb)
  refine PySem.W.callWith_K0 I.kIn kC ?_
  obtain ⟨bm, N, nm, qn, bs, hdct, sn, sub, ab, col, dd, k0, k1, k2, k3, k5, mN, hC, hN, hni, T⟩ := exc_obj I.kIn q
  exact wpAny_call_exc_subT F T hC hN hni (fun h' e hm => mk_of I hm r h (I.hok.gone hm.new)) (by show 0 ≤ sizeLine; rw [sizeLine_eq]; omega)
def M.raise (c : Str) : M Flw := fun env => .ex ⟨.own c, none⟩ env
/-- what is known of an own class of refusals: no field -/
structure ExcK (K : PySem.W.Frag) (mg : Str → Option Value) (c : Str) : Prop where
  ex : ∃ C, mg c = some (.ref C) ∧ PySem.W.excIn K C He.veBase "ValueError.__new__" = true ∧ PySem.W.keepIn K (.ref C) = true ∧ PySem.W.subIn K (.ref C) (.type "BaseException") = some true ∧ PySem.W.typeIn K (.ref C) = some (.type "type")
theorem sd_raise0 (hx : ExcK X.K X.mg x) (hc : X.calm = true) (tk : Takes X W) (hg : Gl X x) (hdb : (x == ("__debug__" : Str)) = false := by decide) : SD X W B (.Raise (some (.Call (.Name x p) [] [] pos)) none rpos) (M.raise x) := by
  obtain ⟨C, h1, h2, h3, h4, h5⟩ := hx
  exact PS_mono (ps_raise hc tk (pmk_own0 PySem.F.excBase_ValueError h2 h1 h3 (raises_own h4 h5) hg hdb)) fun D σ H ⟨bv, R, P, Fs, env, S, q⟩ => q (.ref C) none σ P H Fs S (Same.refl _) ⟨⟨C, h1, rfl⟩, rfl⟩
end
/-! ### try .. except C: -/
/-- whether a clause takes a class, by a table -/
def takesB (tbl : List (Str × Bool)) (x : Xn) : Option Bool := match x.cls with
  | .own c => tbl.lookup c
  | .bt _ => none
section
variable {X : Cx} {W : WX} {B : List Nat} {c : Str} {body suite : List Stmt} {b₀ : Stmt} {np pos pos' : Pos} {mb mh : M Flw} {Cc : Addr}
end
/-! ### facts -/
section
variable {fa : List He.Fa} {fn : List He.DefD} {tb : Tbs} {K : PySem.W.Frag} {mg : Str → Option Value} {base : Heap}
theorem Cm.exck (C : Cm fa fn tb K mg base) (i j : Nat) {x : Str} (h1 : fa[i]? = some (.glo x) := by rfl) (h2 : fa[j]? = some (.exc x) := by rfl) : ExcK K mg x :=
  ⟨_, C.glo i h1, He.exc_ok (C.says.fact j h2)⟩
def okQ (fa : List He.Fa) (y : Str) (p : Str × Bool) (q : Nat × Nat) : Bool := match fa[q.1]?, fa[q.2]? with
  | some (.glo a), some (.exm b c d) => decide (a = p.1) && decide (b = p.1) && decide (c = y) && decide (d = p.2)
  | _, _ => false
/-- the clause's class: what the table says holds -/
theorem Cm.exmt (C : Cm fa fn tb K mg base) {y : Str} {tbl : List (Str × Bool)} (qs : List (Nat × Nat)) (h : (tbl.zip qs).all (fun z => okQ fa y z.1 z.2) = true) (hl : tbl.length = qs.length) :
    ∀ n b, tbl.lookup n = some b → ∀ C', mg n = some (.ref C') → PySem.W.exmOne K (.ref C') (.ref (He.ga K y)) = some b := fun n b hlk C' hm => by
  have hmem : (n, b) ∈ tbl := PySem.mem_of_lookup hlk
  obtain ⟨k, hk⟩ := List.getElem?_of_mem hmem
  have hkl : k < qs.length := by rw [← hl]; exact (List.getElem?_eq_some_iff.mp hk).1
  have hz : ((n, b), qs[k]) ∈ tbl.zip qs := List.mem_of_getElem? (i := k) (by rw [List.getElem?_zip_eq_some]; exact ⟨hk, List.getElem?_eq_getElem hkl⟩)
  have h2 := List.all_eq_true.mp h _ hz
  generalize qs[k] = q at h2
  unfold okQ at h2
  split at h2
  · rename_i a b' c d e1 e2
    simp only [Bool.and_eq_true, decide_eq_true_eq] at h2
    obtain ⟨⟨⟨rfl, rfl⟩, rfl⟩, rfl⟩ := h2
    have e := C.glo _ e1
    rw [e] at hm
    cases hm
    exact He.exm_ok (C.says.fact _ e2)
  · cases h2
end
end DL

set_option maxHeartbeats 2000000
/-! DL80: try: .. except T as n: .., and what comes behind it with the caught exception still known. -/
namespace DL
open PySem PySem.Spec PyProof.Rows L2
/-- the clause's class expression: b tells whether it takes cls -/
def TestOk (X : Cx) (te : Expr) (cls : Value) (b : Bool) : Prop :=
  ∀ (a : Addr) (oe : Obj) (pn : List (Addr × Obj)) (σ : L2.St) (H : Hp) (s : Shared) (E : Value → Shared → Prop) (Q : Bool → Shared → Prop), L2.Inv (X.suite a ((a, oe) :: pn)) [] σ H s → oe.cls = cls →
    (∀ s2 : Shared, L2.Inv (X.suite a ((a, oe) :: pn)) [] σ H s2 → (∀ c o, s.heap.get? c = some o → s2.heap.get? c = some o) → s2.os = s.os → Q b s2) →
    wpAny (model X.prog X.w) (X.A.mark (some (.ref a))) (eval te X.env) (fun c s1 => wpAny (model X.prog X.w) (X.A.mark (some (.ref a))) (excMatches (.ref a) c) Q E s1) E s
section
variable {X : Cx}
theorem looks_cls {P : Program} {w : World} {h : Heap} {a : Addr} {oe : Obj} (e : h.get? a = some oe) : PySem.W.Looks (model P w) h (typeOf (.ref a)) oe.cls := fun A Q E s k q => wpAny_typeOf_ref (k _ _ e) q
theorem nm_suite {a : Addr} {pn : List (Addr × Obj)} {σ : L2.St} {H : Hp} {s : Shared} {x : Str} {c : Value} {np : Pos} {Q : Value → Shared → Prop} {E : Value → Shared → Prop} (I : L2.Inv (X.suite a pn) [] σ H s) (hc : Names X x c) (q : Q c s) : wpAny (model X.prog X.w) (X.A.mark (some (.ref a))) (eval (.Name x np) X.env) Q E s := by
  obtain ⟨h1, h2, h3 | ⟨h3, h4, h5⟩⟩ := hc
  · exact ld_glob (X := X.suite a pn) I h1 h3 q h2
  · exact ld_blt (X := X.suite a pn) I h1 h3 h4 q h5 h2
theorem test_one {x : Str} {c cls : Value} {np : Pos} {b : Bool} (hc : Names X x c) (h : PySem.W.exmOne X.K cls c = some b) : TestOk X (.Name x np) cls b := fun a oe pn σ H s E Q I e q => by
  refine nm_suite I hc ?_
  obtain ⟨hget, _⟩ := I.pin (a, oe) (List.mem_append.mpr (.inl List.mem_cons_self))
  subst e
  exact (PySem.W.exm_one (M := model X.prog X.w) I.kIn (looks_cls hget) h).here (q s I (fun _ _ z => z) rfl)
end
/-- an untracked exception is tracked from now on -/
theorem Inv.track {X : Cx} {pins : List (Addr × Obj)} {σ : L2.St} {H : Hp} {s : Shared} {a : Addr} {oe : Obj} {vs : Array Value} {cls : Value} {d : Option Addr} (I : L2.Inv X pins σ H s) (e : s.heap.get? a = some oe) (hz : Zc cls d oe) (hd : oe.data = .fields vs) (na : H a = none) (n0 : X.s_0.heap.get? a = none)
    (np : ∀ p ∈ X.pn ++ pins, p.1 ≠ a) (nL : a ≠ X.env.locals) : L2.Inv X pins σ (upd H a (ExcO cls d a)) s := by
  have ot : ∀ {b : Addr} {o : HO}, H b = some o → upd H a (ExcO cls d a) b = some o := fun {b o} h => (upd_ne fun z => by rw [z, na] at h; cases h).trans h
  have on : ∀ {b : Addr}, b ≠ a → upd H a (ExcO cls d a) b = H b := fun h => upd_ne h
  refine ⟨I.ok, I.os, I.bare, ⟨I.base.keep, I.base.slot, fun b o h1 h2 h3 => ?_, I.base.there, fun b xs h => ot (I.base.tups b xs h), fun b o u h => ot (I.base.frzs b o u h), fun b ps h => ?_⟩, I.loc, I.cell, ?_, fun x c h => ?_, fun p hp => ?_, fun b o h => ?_, I.len⟩
  · rw [on fun z => by rw [z, n0] at h1; cases h1]
    exact I.base.free b o h1 h2 h3
  · obtain ⟨more, h2⟩ := I.base.tbls b ps h
    exact ⟨more, ot h2⟩
  · rw [on nL.symm]; exact I.free
  · rw [on fun z => ?_]
    · exact I.freeC x c h
    · obtain ⟨v, ob, e1, e2⟩ := I.cell x c h
      rw [z, e] at e1
      cases e1
      rw [hd] at e2
      cases e2
  · obtain ⟨h1, h2, h3⟩ := I.pin p hp
    exact ⟨h1, by rw [on (np p hp)]; exact h2, h3⟩
  · by_cases z : b = a
    · subst z
      rw [upd_same] at h
      cases h
      exact ⟨⟨oe, vs, e, hz, hd⟩, ⟨oe, e⟩, fun h1 h2 ⟨o, v, g1, g2⟩ k => ⟨o, v, k _ g1, g2⟩⟩
    · rw [on z] at h
      exact (I.hok b o h).stay (fun _ _ _ q => q) (fun c q => ot q) fun c xs q => ot q
/-- the exception is tracked in what comes behind -/
def wAsR (X : Cx) (te : Expr) (i : Nat) (ts : Addr → Value → Option Addr → TS) (Wout : WX) (D : Ends) (t0 : TS) : WX := fun cls d σ H =>
  ∃ b, TestOk X te cls b ∧ (b = true → ∀ a, H a = none → ts a cls d { nx := fun σ' H' => H' a = none → t0 D (σ'.set i none) (upd H' a (ExcO cls d a)), rt := fun _ _ => False } (σ.set i (some (.ref a))) H) ∧ (b = false → Wout cls d σ H)
theorem flying_keeps {B h h' : Heap} {l : List Env} {a : Addr} {Z : Obj → Prop} (f : HandSPX.FlyingZ B l a Z h) (k : ∀ c o, h.get? c = some o → h'.get? c = some o) : HandSPX.FlyingZ B l a Z h' := by
  obtain ⟨f1, f2, f3, o1, v1, T, o2, v2, e1, z1, d1, x1, n1, n2, e2, d2, x2⟩ := f
  exact ⟨fun c o z => k _ _ (f1 c o z), f2, f3.of_keeps fun c o z _ => ⟨o, k _ _ z, rfl⟩, o1, v1, T, o2, v2, k _ _ e1, z1, d1, x1, n1, n2, k _ _ e2, d2, x2⟩
section
variable {X : Cx} {te : Expr} {n : Str} {i : Nat} {body suite rest : List Stmt} {b₀ : Stmt} {pos pos' : Pos} {tb : WX → TS} {ts : Addr → Value → Option Addr → TS} {t0 : TS} {Wout : WX}
set_option maxHeartbeats 4000000 in
theorem pss_try_as (hs : X.stack = X.env :: X.outer) (hf : X.env.frame = some X.env.locals) (hN : X.N.Nodup) (hex : X.ex = []) (hi : X.N[i]? = some n) (hln : X.env.kindOf n = some .local) (tk : Takes X Wout)
    (hb : ∀ (W : WX) (pn : List (Addr × Obj)) (xe : Value → Shared → Prop), Takes (X.tr pn xe) W → PassesOwn (model X.prog X.w) X.A X.env xe → PSs (X.tr pn xe) body (tb W))
    (hsu : ∀ (a : Addr) (oe : Obj) (cls : Value) (d : Option Addr) (pn : List (Addr × Obj)), Zc cls d oe → (∃ vs, oe.data = .fields vs) → PSs (X.suite a ((a, oe) :: pn)) (b₀ :: suite) (ts a cls d))
    (h0 : PSs X rest t0) :
    PSs X (.Try body [.ExceptHandler (some te) (some n) (b₀ :: suite) pos'] [] [] pos :: rest) (fun D σ H => tb (wAsR X te i ts Wout D t0) { D with nx := t0 D } σ H) := by
  refine ⟨fun pins s σ H D I h => ?_⟩
  have ok := I.ok
  have hfr : X.A.frames = some (X.env :: X.outer) := by rw [ok.frames, hs]
  refine wpAny_execs_cons ?_
  generalize hP : (fun (f : Flow) (s1 : Shared) => match f with
    | .next => wpAny (model X.prog X.w) X.A (execs rest X.env) (SP X pins D) X.xe s1
    | f => SP X pins D f s1) = Pf
  have pfN : ∀ s1, wpAny (model X.prog X.w) X.A (execs rest X.env) (SP X pins D) X.xe s1 → Pf .next s1 := fun s1 z => by rw [← hP]; exact z
  have pfO : ∀ f s1, f ≠ .next → SP X pins D f s1 → Pf f s1 := fun f s1 nf z => by rw [← hP]; cases f <;> first | exact absurd rfl nf | exact z
  refine wpAny_Try_except ?_
  refine wpAny_mono ((hb (wAsR X te i ts Wout D t0) (X.pn ++ pins) (fun e s1 => wpAny (model X.prog X.w) X.A (noteFrame e X.env) (fun _ s2 => wpAny (model X.prog X.w) X.A (setFlight e none) (fun _ s3 =>
    wpAny (model X.prog X.w) X.A (handleBy e X.env [.ExceptHandler (some te) (some n) (b₀ :: suite) pos']) Pf X.xe s3) X.xe s2) X.xe s1) (fun u s' xx => ?_) PassesOwn.looking).run [] s σ H { D with nx := t0 D } (I.toTry _) h) (fun f s1 hsp => ?_) (fun e s1 he => he)
  · obtain ⟨a, B, sI, pins', σ', H', cls, d, rfl, J', nb, up, sky, na, os, ag, b, hb1, hyes, hno⟩ := xx
    have J : L2.Inv X pins σ' H' sI := J'.ofTry ok
    have sky' : Sky B (X.env :: X.outer) a (Zc cls d) X.env.locals s'.heap := by rw [← hs]; exact sky
    show wpAny (model X.prog X.w) X.A (noteFrame (.ref a) X.env) _ _ _
    refine Sky.land Zc.steady hfr hf sky' fun h3 fl3 up3 => ?_
    have J3 : L2.Inv X pins σ' H' { s' with heap := h3 } := J.landed nb fl3.1 (up.trans up3) os ag
    obtain ⟨oe3, vs3, he3, hz3, hd3⟩ := fl3.there
    have nfr : a ∉ frs (X.env :: X.outer) := fun hm => by
      obtain ⟨_, o', e', hnf⟩ := fl3.2.2.1.mem hm
      rw [he3] at e'; cases e'
      exact hnf _ hd3
    have nL : a ≠ X.env.locals := fun z => nfr (List.mem_filterMap.mpr ⟨X.env, List.mem_cons_self, by rw [hf, z]⟩)
    have nF : a ∉ X.fs := fun hm => by
      obtain ⟨e, he, q⟩ := List.mem_filterMap.mp hm
      exact nfr (List.mem_filterMap.mpr ⟨e, List.mem_cons_of_mem _ he, q⟩)
    have S3 := J3.suite he3 hd3 na nL nF
    refine wpAny_handleBy_cons (codeAny_handlers_test ?_) (by intro q; cases q)
    refine hb1 a oe3 (X.pn ++ pins) σ' H' { s' with heap := h3 } _ _ S3 hz3.1 fun s4 S4 k4 os4 => ?_
    have fl4 : HandSPX.FlyingZ B (X.env :: X.outer) a (Zc cls d) s4.heap := flying_keeps fl3 k4
    have up4 : sI.heap.UpToSlots s4.heap := (up.trans up3).trans (Heap.UpToSlots.of_keeps k4)
    cases b with
    | true =>
      refine codeAny_handlers_suite_as ?_
      refine HandSPX.lands_againZ fl4 fun h5 fl5 up5 => ?_
      have J5 : L2.Inv X pins σ' H' { s4 with heap := h5 } := J.landed nb fl5.1 (up4.trans up5) (os4.trans os) S4.bare
      obtain ⟨oe5, vs5, he5, hz5, hd5⟩ := fl5.there
      have S5 := J5.suite he5 hd5 na nL nF
      refine store_ok (X := X.suite a ((a, oe5) :: (X.pn ++ pins))) (v := .ref a) S5 hN hi (.inl hln) rfl (fun s6 S6 => ?_) (.inr hln)
      refine wpAny_mono ((hsu a oe5 cls d (X.pn ++ pins) hz5 ⟨_, hd5⟩).run [] s6 _ H' _ S6 (hyes rfl a na)) (fun f s7 hsp => ?_) (fun _ _ z => False.elim z)
      cases f with
      | next =>
        obtain ⟨σ7, H7, S7, q7⟩ := hsp
        have T7 : L2.Inv (X.tr ((a, oe5) :: (X.pn ++ pins)) X.xe) [] σ7 H7 s7 := ⟨ok.toTry _ _, S7.os, S7.bare, S7.base, S7.loc, S7.cell, S7.free, S7.freeC, S7.pin, S7.hok, S7.len⟩
        refine gone_ok (X := X.tr ((a, oe5) :: (X.pn ++ pins)) X.xe) T7 hN hi hln fun s8 T8 => pfN s8 ?_
        obtain ⟨p1, p2, p3, _⟩ := T8.pin (a, oe5) (List.mem_append_left _ List.mem_cons_self)
        have J8 : L2.Inv X pins _ H7 s8 := ⟨ok, T8.os, T8.bare, T8.base, T8.loc, T8.cell, T8.free, T8.freeC, fun p hp => T8.pin p (List.mem_append_left _ (List.mem_cons_of_mem _ hp)), T8.hok, T8.len⟩
        have Ba : B.get? a = none := fl3.2.1
        have n0 : X.s_0.heap.get? a = none := by
          cases e0 : X.s_0.heap.get? a with
          | none => rfl
          | some o0 =>
            obtain ⟨o1, e1⟩ := J.base.there a o0 e0 (by rw [hex]; simp)
            have := nb a o1 e1 (by rw [hs]; exact nfr)
            rw [Ba] at this; cases this
        have np : ∀ p ∈ X.pn ++ pins, p.1 ≠ a := fun p hp z => by
          obtain ⟨e1, _, e3, e4, _⟩ := J.pin p hp
          have := nb p.1 _ e1 fun hm => (List.mem_cons.mp (J.stkSub p.1 hm)).elim e3 e4
          rw [z, Ba] at this; cases this
        exact h0.run pins s8 _ _ D (Inv.track J8 p1 hz5 hd5 p2 n0 np p3) (q7 p2)
      | brk => obtain ⟨_, _, _, q7⟩ := hsp; exact False.elim q7
      | cont => obtain ⟨_, _, _, q7⟩ := hsp; exact False.elim q7
      | ret u => obtain ⟨_, _, _, _, _, q7⟩ := hsp; exact False.elim q7
    | false =>
      show wpAny _ X.A (handleBy (.ref a) X.env []) _ _ _
      refine wpAny_handleBy_nil ?_
      obtain ⟨k1, k2, k3, o1, v1, T, o2, v2, g1, z1, d1, x1, hr⟩ := id fl4
      unfold PySem.passOn
      refine wpAny_bind (wpAny_field g1 d1 x1 ?_)
      rw [if_neg (by simp : ¬ ((Value.ref T == Value.none) = true))]
      have fin : wpAny (model X.prog X.w) X.A (setFlight (.ref a) X.env.frame) (fun _ s5 => wpAny (model X.prog X.w) X.A (throw (.ref a) : Sem Flow) Pf X.xe s5) X.xe s4 := by
        rw [hf]
        refine HandSPX.setFlight_upZ fl4 fun h5 hh5 up5 => wpAny_throw (tk _ _ ?_)
        exact ⟨a, B, sI, pins, σ', H', cls, d, rfl, J, nb, up4.trans up5, .inr (.inr (by rw [hs]; exact hh5)), na, os4.trans os, S4.bare, hno rfl⟩
      first
        | exact wpAny_bind (wpAny_pure (wpAny_bind fin))
        | exact wpAny_bind fin
  · cases f with
    | next =>
      obtain ⟨σ', H', J', q⟩ := hsp
      exact wpAny_execs_nil (pfN _ (h0.run pins s1 σ' H' D (J'.ofTry ok) q))
    | brk => obtain ⟨σ', H', J', q⟩ := hsp; exact pfO _ _ (by simp) ⟨σ', H', J'.ofTry ok, q⟩
    | cont => obtain ⟨σ', H', J', q⟩ := hsp; exact pfO _ _ (by simp) ⟨σ', H', J'.ofTry ok, q⟩
    | ret u => obtain ⟨v, σ', H', J', r, q⟩ := hsp; exact pfO _ _ (by simp) ⟨v, σ', H', J'.ofTry ok, r, q⟩
end
end DL

set_option maxHeartbeats 2000000
/-! DL81: a def that is handed a lambda: its own slots beside its caller's. -/
namespace DL
open PySem PySem.Spec PyProof.Rows L2 LamX
section
variable {K : PySem.W.Frag} {mg : Str → Option Value} {B BZ : List Nat} {bv bz : Nat → V} {R P P' H H' : Hp} {Fs Fz : Nat → List Addr} {σC σZ : L2.St} {eC eZ : DEnv}
/-- the caller's state, behind steps of the def -/
theorem Sta.back1 (S : Sta K mg B bv R P H Fs σC eC) (C : Sta K mg BZ bz (allR R H Fs) P' H' Fz σZ eZ) (pp : Same P P') : Sta K mg B bv R P' H' Fs σC eC ∧ allR R H' Fs = allR R H Fs := by
  have own : ∀ {i a}, a ∈ Fs i → ∃ o, H a = some o ∧ allR R H Fs a = some o := fun {i a} h => by
    obtain ⟨o, e⟩ := S.there h
    exact ⟨o, e, (allR_in ⟨i, h⟩).trans e⟩
  have nz : ∀ {a}, R a ≠ none → allR R H Fs a ≠ none := fun {a} h => by
    cases q : R a with
    | none => exact absurd q h
    | some o => rw [S.allR_same _ _ q]; simp
  have kept : ∀ {i a}, a ∈ Fs i → H' a = H a := fun {i a} h => by
    obtain ⟨o, e1, e2⟩ := own h
    rw [e1]
    exact C.rh a o e2 (S.nota (S.fr i a h))
  refine ⟨⟨Same.transX S.allR_same C.rh, fun p hp => ⟨(C.tb p hp).1, (S.tb p hp).2⟩, C.ph, fun a e => C.rp a (nz e), fun i x e => ?_, S.dead, S.nd, S.dj, S.fr, fun i a h => ?_, S.len, S.pin, S.nt⟩, funext fun a => ?_⟩
  · obtain ⟨v, h1, h2⟩ := S.slot i x e
    exact ⟨v, h1, h2.keep pp fun a ha o ho => (kept ha).trans ho⟩
  · obtain ⟨o, _, e2⟩ := own h
    exact C.rp a (by rw [e2]; simp)
  · by_cases q : ∃ i, a ∈ Fs i
    · rw [allR_in q, allR_in q]
      obtain ⟨i, q⟩ := q
      exact kept q
    · rw [allR_out q, allR_out q]
theorem Free.outR {G : List Addr} (S : Sta K mg B bv R P H Fs σC eC) (f : Free (allR R H Fs) P' Fz G) : Free R P' Fs G :=
  have np : ∀ a ∈ G, R a = none ∧ ∀ i, a ∉ Fs i := fun a ha => by
    have z := f.r a ha
    refine ⟨S.allR_same.free z, fun i hi => ?_⟩
    obtain ⟨o, e⟩ := S.there hi
    rw [allR_in ⟨i, hi⟩, e] at z; cases z
  ⟨f.nd, fun a ha => (np a ha).1, f.p, fun a ha => (np a ha).2⟩
/-- all slots hold frozen data or nothing -/
def pureE : DEnv → Bool
  | [] => true
  | none :: l => pureE l
  | some (.pur _) :: l => pureE l
  | _ => false
theorem pureE_at : ∀ {e : DEnv} {i : Nat} {x : OD}, pureE e = true → e[i]? = some (some x) → ∃ d, x = .pur d
  | [], i, x, _, h => by simp at h
  | none :: l, 0, x, _, h => by simp at h
  | none :: l, i + 1, x, p, h => pureE_at (e := l) (i := i) p (by simpa using h)
  | some (.pur d) :: l, 0, x, _, h => ⟨d, by simpa using h.symm⟩
  | some (.pur d) :: l, i + 1, x, p, h => pureE_at (e := l) (i := i) p (by simpa using h)
/-- the def's state, its slots being frozen data, behind steps of the caller's things -/
theorem Sta.pureK {Fs' : Nat → List Addr} {eC' : DEnv} (C : Sta K mg BZ bz (allR R H Fs) P H Fz σZ eZ) (hp : pureE eZ = true) (S : Sta K mg B bv R P' H' Fs' σC eC') (pp : Same P P') : Sta K mg BZ bz (allR R H' Fs') P' H' (fun _ => []) σZ eZ where
  rh := fun a o e n => by
    by_cases q : ∃ i, a ∈ Fs' i
    · rw [allR_in q] at e; exact e
    · rw [allR_out q] at e; exact S.rh _ _ e n
  tb := fun p hp => ⟨(S.tb p hp).1, by rw [allR_out fun ⟨i, h⟩ => (S.tb p hp).2 (S.fr i _ h)]; exact (S.tb p hp).2⟩
  ph := S.ph
  rp := fun a e => by
    by_cases q : ∃ i, a ∈ Fs' i
    · obtain ⟨i, q⟩ := q; exact S.fp i a q
    · rw [allR_out q] at e; exact S.rp a e
  slot := fun i x e => by
    obtain ⟨d, rfl⟩ := pureE_at hp e
    obtain ⟨v, h1, h2⟩ := C.slot i _ e
    exact ⟨v, h1, .pur (h2.pur_inv.mono pp)⟩
  dead := fun _ _ => rfl
  nd := fun _ => .nil
  dj := fun _ _ _ _ h => (nomatch h)
  fr := fun _ _ h => (nomatch h)
  fp := fun _ _ h => (nomatch h)
  len := C.len
  pin := C.pin
  nt := fun a xs e => by
    by_cases q : ∃ i, a ∈ Fs' i
    · rw [allR_in q] at e; obtain ⟨i, q⟩ := q; exact S.notup q xs e
    · rw [allR_out q] at e; exact S.nt a xs e
/-- a def's state with no slot but pinned ones -/
theorem Sta.bare {n : Nat} (S : Sta K mg B bv R P H Fs σC eC) (hl : σZ.length = n) (hb : ∀ i ∈ BZ, σZ[i]? = some (some (bz i))) : Sta K mg BZ bz (allR R H Fs) P H (fun _ => []) σZ (List.replicate n none) where
  rh := fun a o e n => by
    by_cases q : ∃ i, a ∈ Fs i
    · rw [allR_in q] at e; exact e
    · rw [allR_out q] at e; exact S.rh _ _ e n
  tb := fun p hp => ⟨(S.tb p hp).1, by rw [allR_out fun ⟨i, h⟩ => (S.tb p hp).2 (S.fr i _ h)]; exact (S.tb p hp).2⟩
  ph := S.ph
  rp := fun a e => by
    by_cases q : ∃ i, a ∈ Fs i
    · obtain ⟨i, q⟩ := q; exact S.fp i a q
    · rw [allR_out q] at e; exact S.rp a e
  slot := fun i x e => by
    rw [List.getElem?_replicate] at e
    split at e <;> cases e
  dead := fun _ _ => rfl
  nd := fun _ => .nil
  dj := fun _ _ _ _ h => (nomatch h)
  fr := fun _ _ h => (nomatch h)
  fp := fun _ _ h => (nomatch h)
  len := by rw [List.length_replicate]; exact hl
  pin := hb
  nt := fun a xs e => by
    by_cases q : ∃ i, a ∈ Fs i
    · rw [allR_in q] at e; obtain ⟨i, q⟩ := q; exact S.notup q xs e
    · rw [allR_out q] at e; exact S.nt a xs e
end
/-- the code object stays known -/
def CodeK (K : PySem.W.Frag) (R P : Hp) (c' : Addr) (q : Str) : Prop := c' ∉ TbA K ∧ (R c' = some (CodeO c' q) ∨ P c' = some (CodeO c' q))
section
variable {K : PySem.W.Frag} {mg : Str → Option Value} {B BZ : List Nat} {bv bz : Nat → V} {R R' P P' H H' : Hp} {Fs Fz : Nat → List Addr} {σC σZ : L2.St} {eC eZ : DEnv} {c' : Addr} {q : Str}
theorem CodeK.at (S : Sta K mg B bv R P H Fs σC eC) (h : CodeK K R P c' q) : H c' = some (CodeO c' q) := h.2.elim (fun z => S.rh _ _ z h.1) fun z => S.ph _ _ z
theorem CodeK.mono (h : CodeK K R P c' q) (pp : Same P P') : CodeK K R P' c' q := ⟨h.1, h.2.elim .inl fun h => .inr (pp _ _ h)⟩
theorem codeO_tup {xs : List V} : CodeO c' q ≠ .tup xs := fun z => by unfold CodeO at z; cases z
theorem Sta.codeR (S : Sta K mg B bv R P H Fs σC eC) (h : H c' = some (CodeO c' q)) : ∃ R', Same R R' ∧ Sta K mg B bv R' P H Fs σC eC ∧ CodeK K R' P c' q := by
  have nt : c' ∉ TbA K := fun hm => by
    obtain ⟨p, hp, rfl⟩ := List.mem_map.mp hm
    obtain ⟨⟨ps, e, _⟩, _⟩ := S.tb p hp
    rw [h] at e
    exact codeO_ne ps (Option.some.inj e)
  cases hR : R c' with
  | some o =>
    have e := S.rh _ _ hR nt
    rw [h] at e
    cases e
    exact ⟨R, Same.refl _, S, nt, .inl hR⟩
  | none =>
    cases hP : P c' with
    | some o =>
      have e := S.ph _ _ hP
      rw [h] at e
      cases e
      exact ⟨R, Same.refl _, S, nt, .inr hP⟩
    | none =>
      have other : ∀ {a}, a ≠ c' → upd R c' (CodeO c' q) a = R a := fun n => upd_ne n
      refine ⟨upd R c' (CodeO c' q), fun a o e => ?_, ⟨fun a o e n => ?_, fun p hp => ⟨(S.tb p hp).1, ?_⟩, S.ph, fun a e => ?_, S.slot, S.dead, S.nd, S.dj, fun i a ha => ?_, S.fp, S.len, S.pin, fun a xs e => ?_⟩, nt, .inl upd_same⟩
      · rw [other fun z => by rw [z, hR] at e; cases e]; exact e
      · by_cases z : a = c'
        · subst z; rw [upd_same] at e; cases e; exact h
        · rw [other z] at e; exact S.rh _ _ e n
      · by_cases z : p.1 = c'
        · exact absurd (List.mem_map.mpr ⟨p, hp, z⟩) nt
        · rw [other z]; exact (S.tb p hp).2
      · by_cases z : a = c'
        · rw [z]; exact hP
        · rw [other z] at e; exact S.rp _ e
      · by_cases z : a = c'
        · subst z
          have hx : ∃ x, eC[i]? = some (some x) := by
            cases hi : eC[i]? with
            | none => rw [S.dead i (fun x y => by rw [hi] at y; cases y)] at ha; cases ha
            | some o => cases o with
              | none => rw [S.dead i (fun x y => by rw [hi] at y; cases y)] at ha; cases ha
              | some x => exact ⟨x, rfl⟩
          obtain ⟨x, hx⟩ := hx
          obtain ⟨v, _, ow⟩ := S.slot i x hx
          exact absurd h (ow.noext _ ha _)
        · rw [other z]; exact S.fr i a ha
      · by_cases z : a = c'
        · subst z; rw [upd_same] at e; exact codeO_tup (Option.some.inj e)
        · rw [other z] at e; exact S.nt a xs e
theorem OkO.sub {Q : VK} {x : OD} {e : DEnv} (s : Same R R') (hT : ∀ a ∈ TbA K, R a ≠ none) (h : OkO K mg B bv R P σC Q x e) : OkO K mg B bv R' P σC Q x e := fun v P' H' Fs' G S' pp o f =>
  h v P' H' Fs' G (S'.sub s hT) pp o ⟨f.nd, fun a ha => s.free (f.r a ha), f.p, f.f⟩
end
/-- the reading of the def's statements: k tells, by the def's slots, what is told and what becomes of the caller's -/
def tX (K : PySem.W.Frag) (mg : Str → Option Value) (B BZ : List Nat) (bz : Nat → V) (σC : L2.St) (c' : Addr) (q : Str) (k : DEnv → M OD) : TS := fun D σZ H => ∃ bv R P Fs Fz eC eZ, Sta K mg B bv R P H Fs σC eC ∧ Sta K mg BZ bz (allR R H Fs) P H Fz σZ eZ ∧ CodeK K R P c' q ∧
  post (k eZ eC) (OkO K mg B bv R P σC D.rt) (fun _ _ => False)
def kLast (m : M Flw) : DEnv → M OD := fun eZ eC => match m eZ with
  | .ok (.rt x) _ => .ok x eC
  | _ => .no
def kCons (m : M Flw) (k : DEnv → M OD) : DEnv → M OD := fun eZ eC => match m eZ with
  | .ok .nx e2 => k e2 eC
  | .ok (.rt x) _ => .ok x eC
  | _ => .no
section
variable {Z : Cx} {B BZ : List Nat} {bz : Nat → V} {σC : L2.St} {c' : Addr} {q : Str} {st : Stmt} {rest : List Stmt} {m : M Flw} {k : DEnv → M OD}
theorem x_ret {bv : Nat → V} {R P H : Hp} {Fs Fz : Nat → List Addr} {eC : DEnv} {Q : VK} {x : OD} {v : V} {σ' : L2.St} {P' H' : Hp} {Fz' : Nat → List Addr} {G : List Addr} {e2 : DEnv} (S : Sta Z.K Z.mg B bv R P H Fs σC eC) (h : OkO Z.K Z.mg B bv R P σC Q x eC)
    (C : Sta Z.K Z.mg BZ bz (allR R H Fs) P' H' Fz' σ' e2) (pp : Same P P') (o : Ow Z.K Z.mg P' H' G v x) (f : Free (allR R H Fs) P' Fz' G) : Q v H' := by
  obtain ⟨S1, _⟩ := S.back1 C pp
  exact h v P' H' Fs G S1 pp o (Free.outR S f)
theorem x_last (h : PSs Z rest (tS Z.K Z.mg W0 BZ m)) : PSs Z rest (tX Z.K Z.mg B BZ bz σC c' q (kLast m)) := PSs_mono h fun D σZ H ⟨bv, R, P, Fs, Fz, eC, eZ, S, C, _, p⟩ => by
  refine ⟨bz, _, P, Fz, eZ, C, ?_⟩
  unfold kLast at p
  cases hm : m eZ with
  | no => rw [hm] at p; exact p.elim
  | ex x e => rw [hm] at p; exact p.elim
  | ok f e =>
    rw [hm] at p
    cases f with
    | rt x => exact fun v σ' P' H' Fz' G C' pp o f => x_ret (BZ := BZ) (bz := bz) (Fz := Fz) S p C' pp o f
    | nx => exact p.elim
    | bk => exact p.elim
    | ct => exact p.elim
theorem x_cons (h : PS Z st (tS Z.K Z.mg W0 BZ m)) (hr : PSs Z rest (tX Z.K Z.mg B BZ bz σC c' q k)) : PSs Z (st :: rest) (tX Z.K Z.mg B BZ bz σC c' q (kCons m k)) := PSs_mono (pss_cons h hr) fun D σZ H ⟨bv, R, P, Fs, Fz, eC, eZ, S, C, hc, p⟩ => by
  refine ⟨bz, _, P, Fz, eZ, C, ?_⟩
  unfold kCons at p
  cases hm : m eZ with
  | no => rw [hm] at p; exact p.elim
  | ex x e => rw [hm] at p; exact p.elim
  | ok f e =>
    rw [hm] at p
    cases f with
    | rt x => exact fun v σ' P' H' Fz' G C' pp o f => x_ret (BZ := BZ) (bz := bz) (Fz := Fz) S p C' pp o f
    | nx =>
      intro σ' P' H' Fz' C' pp
      obtain ⟨S1, eR⟩ := S.back1 C' pp
      refine ⟨bv, R, P', Fs, Fz', eC, e, S1, by rw [eR]; exact C', hc.mono pp, ?_⟩
      simp only at p
      cases hk : k e eC with
      | no => rw [hk] at p; exact p.elim
      | ex x e => rw [hk] at p; exact p.elim
      | ok x e2 => rw [hk] at p; exact fun v P2 H2 F2 G S2 s2 o f => p v P2 H2 F2 G S2 (pp.trans s2) o f
    | bk => exact p.elim
    | ct => exact p.elim
end
end DL

set_option maxHeartbeats 2000000
/-! DL82: try: x = a() except T as n: y = n, a the lambda that was handed on. -/
namespace DL
open PySem PySem.Spec PyProof.Rows L2 LamX
def kTry (lst : Bool) (xf yf n : Nat) (tbl : List (Str × Bool)) (ask : M OD) (k0 : DEnv → M OD) : DEnv → M OD := fun eZ eC => if pureE eZ = true then (match ask eC with
  | .ok x e2 => if xf < eZ.length then k0 (eZ.set xf (some (if lst = true then .lst [x] else x))) e2 else .no
  | .ex x e2 => (match takesB tbl x with
    | some true => k0 ((List.replicate n none).set yf (some (.exn x))) e2
    | _ => .no)
  | .no => .no) else .no
/-- what is told of the value that a() tells -/
def wrapQ (lst : Bool) (v : V) (H : Hp) (Q : VK) : Prop := if lst = true then ∀ p, H p = none → Q (.ref p) (upd H p (.lst [v])) else Q v H
def tLen (n : Nat) (t : TS) : TS := fun D σ H => σ.length = n → t D σ H
theorem pss_len {X : Cx} {ss : List Stmt} {t : TS} (h : PSs X ss t) : PSs X ss (tLen X.N.length t) := ⟨fun pins s σ H D I q => h.run pins s σ H D I (q I.len)⟩
theorem Sta.unpin {K : PySem.W.Frag} {mg : Str → Option Value} {B : List Nat} {bv bv2 : Nat → V} {R P H : Hp} {Fs : Nat → List Addr} {σ : L2.St} {env : DEnv} (S : Sta K mg B bv R P H Fs σ env) : Sta K mg [] bv2 R P H Fs σ env :=
  ⟨S.rh, S.tb, S.ph, S.rp, S.slot, S.dead, S.nd, S.dj, S.fr, S.fp, S.len, fun _ h => (nomatch h), S.nt⟩
section
variable {Z : Cx} {B : List Nat} {σC : L2.St} {f c' : Addr} {q : Str} {rest : List Stmt} {m : M OD} {k0 : DEnv → M OD} {te callE : Expr} {n yn xn : Str} {ni yi xi nn : Nat} {px ps py pn2 ps2 pos' pos : Pos} {tbl : List (Str × Bool)} {tE : XK → TE}
set_option maxHeartbeats 4000000 in
theorem x_try (lst : Bool) (hs : Z.stack = Z.env :: Z.outer) (hf : Z.env.frame = some Z.env.locals) (hN : Z.N.Nodup) (hex : Z.ex = []) (hnn : Z.N.length = nn) (hi : Z.N[ni]? = some n) (hln : Z.env.kindOf n = some .local) (hy : Z.N[yi]? = some yn) (hyl : Z.env.scope.names.lookup yn = some .local) (hx : Z.N[xi]? = some xn) (hxl : Z.env.scope.names.lookup xn = some .local)
    (hvn : Vis Z.env.scope n) (hny : ni ≠ yi) (hx0 : xi ≠ 0) (hsw : swapsWith callE (some (.Name xn px)) ps.line Z.env = pure false) (hsw2 : swapsWith (.Name n pn2) (some (.Name yn py)) ps2.line Z.env = pure false)
    (hd1 : (n == ("__debug__" : Str)) = false) (hd2 : (n == ("__classdict__" : Str)) = false)
    (hE : ∀ (W : WX) (pn : List (Addr × Obj)) (xe : Value → Shared → Prop) (E : XK), Takes (Z.tr pn xe) W → (∀ cls d σ' H', E cls d H' → W cls d σ' H') → PE (Z.tr pn xe) callE (tE E))
    (hEt : ∀ (E : XK) (σ : L2.St) (H : Hp) (Q : VK), σ[0]? = some (some (.ref f)) → H c' = some (CodeO c' q) → tO Z.K Z.mg (WF E) B m σC H (fun v H1 => wrapQ lst v H1 Q) → tE E σ H Q)
    (ht : ∀ a b, tbl.lookup a = some b → ∀ C', Z.mg a = some (.ref C') → TestOk Z te (.ref C') b)
    (h0 : PSs Z rest (tX Z.K Z.mg B [] (fun _ => .non) σC c' q k0)) :
    PSs Z (.Try [.Assign [.Name xn px] callE ps] [.ExceptHandler (some te) (some n) [.Assign [.Name yn py] (.Name n pn2) ps2] pos'] [] [] pos :: rest) (tX Z.K Z.mg B [0] (fun _ => .ref f) σC c' q (kTry lst xi yi nn tbl m k0)) := by
  subst hnn
  have hxiL : xi < Z.N.length := (List.getElem?_eq_some_iff.mp hx).1
  have hyiL : yi < Z.N.length := (List.getElem?_eq_some_iff.mp hy).1
  have hniL : ni < Z.N.length := (List.getElem?_eq_some_iff.mp hi).1
  refine PSs_mono (pss_try_as (te := te) (i := ni) (tb := fun W D σ H => ∃ E : XK, (∀ cls d σ' H', E cls d H' → W cls d σ' H') ∧ tE E σ H (fun v H1 => D.nx (σ.set xi (some v)) H1))
    (ts := fun _ _ _ => tLen Z.N.length (tAsg (tVar ni) (gName yi)))
    (Wout := W0) (pos' := pos') (pos := pos) hs hf hN hex hi hln L2.takes0 (fun W pn xe tk _ => ⟨fun pins s σ H D I ⟨E, hW, h⟩ => (pss_one (ps_set (X := Z.tr pn xe) hN hx (.inl hxl) (hE W pn xe E tk hW) hsw (.inr hxl))).run pins s σ H D I h⟩)
    (fun a oe cls d pn _ _ => pss_len (X := Z.suite a ((a, oe) :: pn)) (pss_one (ps_set (X := Z.suite a ((a, oe) :: pn)) hN hy (.inl hyl) (pe_var hi hvn hd1 hd2) hsw2 (.inr hyl)))) (pss_len h0)) fun D σZ H ⟨bv, R, P, Fs, Fz, eC, eZ, S, C, hc, p⟩ => ?_
  have hcode : H c' = some (CodeO c' q) := hc.at S
  have h0f : σZ[0]? = some (some (.ref f)) := C.pin 0 (by simp)
  unfold kTry at p
  by_cases hp : pureE eZ = true
  · rw [if_pos hp] at p
    cases hm : m eC with
    | no => rw [hm] at p; exact p.elim
    | ok x e2 =>
      rw [hm] at p
      simp only at p
      by_cases hl : xi < eZ.length
      · rw [if_pos hl] at p
        refine ⟨fun _ _ _ => False, fun _ _ _ _ z => z.elim, hEt _ _ _ _ h0f hcode ⟨bv, R, P, Fs, eC, S, ?_⟩⟩
        rw [hm]
        intro v P' H' Fs' G S' pp o fr
        have C1 : Sta Z.K Z.mg [] (fun _ => V.non) (allR R H' Fs') P' H' (fun _ => []) σZ eZ := (C.pureK hp S' pp).unpin
        have fin : ∀ {w : V} {y : OD} {H2 : Hp} {G2 : List Addr}, Sta Z.K Z.mg B bv R P' H2 Fs' σC e2 → Sta Z.K Z.mg [] (fun _ => .non) (allR R H2 Fs') P' H2 (fun _ => []) σZ eZ → Ow Z.K Z.mg P' H2 G2 w y → Free R P' Fs' G2 → y = (if lst = true then OD.lst [x] else x) →
            tLen Z.N.length (tX Z.K Z.mg B [] (fun _ => .non) σC c' q k0) D (σZ.set xi (some w)) H2 := fun {w y H2 G2} S2 C2 o2 f2 ey _ => by
          have fz : Free (allR R H2 Fs') P' (fun _ => []) G2 := ⟨f2.nd, fun a ha => by rw [allR_out fun ⟨i, z⟩ => f2.f a ha i z]; exact f2.r a ha, f2.p, fun _ _ _ z => (nomatch z)⟩
          refine ⟨bv, R, P', Fs', _, e2, eZ.set xi (some y), S2, C2.store o2 fz (by simp) hl, hc.mono pp, ?_⟩
          rw [ey]
          cases hk : k0 (eZ.set xi (some (if lst = true then OD.lst [x] else x))) e2 with
          | no => rw [hk] at p; exact p.elim
          | ex x e => rw [hk] at p; exact p.elim
          | ok z e => rw [hk] at p; exact fun v P2 H2 F2 G S2 s2 o f => p v P2 H2 F2 G S2 (pp.trans s2) o f
        cases lst with
        | false => exact fin S' C1 o fr rfl
        | true =>
          intro pA hA
          have S2 := S'.ext (ext_heap S'.ph (.lst [v]) hA)
          have o2 : Ow Z.K Z.mg P' (upd H' pA (.lst [v])) (pA :: (G ++ [])) (.ref pA) (.lst [x]) := .lst upd_same (.cons (o.keep (Same.refl _) fun a ha ob e => by rw [upd_ne fun z => by rw [z, hA] at e; cases e]; exact e) .nil)
          obtain ⟨hR, hP, hF⟩ := S'.dh hA
          have f2 : Free R P' Fs' (pA :: (G ++ [])) := by
            rw [List.append_nil]
            refine ⟨List.nodup_cons.mpr ⟨fun z => ?_, fr.nd⟩, fun a ha => ?_, fun a ha => ?_, fun a ha i => ?_⟩
            · obtain ⟨ob, e⟩ := o.there _ z
              rw [hA] at e; cases e
            · rcases List.mem_cons.mp ha with rfl | ha; exact hR; exact fr.r a ha
            · rcases List.mem_cons.mp ha with rfl | ha; exact hP; exact fr.p a ha
            · rcases List.mem_cons.mp ha with rfl | ha; exact hF i; exact fr.f a ha i
          exact fin S2 (C.pureK hp S2 pp).unpin o2 f2 rfl
      · rw [if_neg hl] at p; exact p.elim
    | ex x e2 =>
      rw [hm] at p
      simp only at p
      cases htb : takesB tbl x with
      | none => rw [htb] at p; exact p.elim
      | some b =>
        cases b with
        | false => rw [htb] at p; exact p.elim
        | true =>
          rw [htb] at p
          simp only at p
          refine ⟨fun cls d H' => ∀ σ', wAsR Z te ni (fun _ _ _ => tLen Z.N.length (tAsg (tVar ni) (gName yi))) W0 D (tLen Z.N.length (tX Z.K Z.mg B [] (fun _ => .non) σC c' q k0)) cls d σ' H', fun _ _ σ' _ z => z σ', hEt _ _ _ _ h0f hcode ⟨bv, R, P, Fs, eC, S, ?_⟩⟩
          rw [hm]
          intro cls dx P' H' Fs' S' pp hxn σ'
          have hcl : clsOf Z.mg cls dx x := ⟨hxn.1, fun z => by have := hxn.2; rw [z] at this; exact this⟩
          have htest : TestOk Z te cls true := by
            unfold takesB at htb
            obtain ⟨hcl, _⟩ := hcl
            obtain ⟨xc, xf⟩ := x
            cases xc with
            | own c =>
              obtain ⟨C', e1, e2⟩ := hcl
              rw [e2]
              exact ht c true htb C' e1
            | bt c => cases htb
          refine ⟨true, htest, fun _ a na => fun hl1 => ?_, fun z => by cases z⟩
          have hl0 : σ'.length = Z.N.length := by simpa using hl1
          refine ⟨.ref a, by rw [List.getElem?_set_self (by rw [hl0]; exact hniL)], fun hna hl2 => ?_⟩
          have S2 := S'.ext (ext_new S'.ph (ExcO cls dx a) hna)
          have s2 : Same P' (upd P' a (ExcO cls dx a)) := (ext_new S'.ph (ExcO cls dx a) hna).pp
          have hff : ∀ f e, x.fld = some (f, e) → ∃ dd v, dx = some dd ∧ upd P' a (ExcO cls dx a) dd = some (.xd [(f, v)]) ∧ Rp Z.K (upd P' a (ExcO cls dx a)) v e := fun f e z => by
            have h0 := hxn.2
            rw [z] at h0
            obtain ⟨dd, v, h1, h2, h3⟩ := h0
            exact ⟨dd, v, h1, s2 _ _ h2, h3.mono s2⟩
          have C2 := (S2.bare (BZ := []) (bz := fun _ => .non) hl2 (fun j hj => (nomatch hj))).store (i := yi) (v := .ref a) (.exn hcl upd_same hff) Free.nil (by simp) (by rw [List.length_replicate]; exact hyiL)
          have e0 : (((σ'.set ni (some (.ref a))).set yi (some (.ref a))).set ni none).set yi (some (.ref a)) = ((σ'.set ni (some (.ref a))).set yi (some (.ref a))).set ni none := by
            rw [List.set_comm _ _ hny, List.set_set, List.set_comm _ _ hny.symm]
          rw [e0] at C2
          refine ⟨bv, R, _, Fs', _, e2, (List.replicate Z.N.length none).set yi (some (.exn x)), S2, C2, (hc.mono pp).mono s2, ?_⟩
          cases hk : k0 ((List.replicate Z.N.length none).set yi (some (.exn x))) e2 with
          | no => rw [hk] at p; exact p.elim
          | ex x e => rw [hk] at p; exact p.elim
          | ok z e => rw [hk] at p; exact fun v P2 H2 F2 G S2' s2' o f => p v P2 H2 F2 G S2' ((pp.trans s2).trans s2') o f
  · rw [if_neg hp] at p; exact p.elim
end
end DL

set_option maxHeartbeats 2000000
/-! DL83: f(lambda: e), f a def that catches; isinstance and is None of caught exceptions. -/
namespace DL
open PySem PySem.Spec PyProof.Rows L2 LamX PySem.W
abbrev gCx (X : Cx) (Ng : List Str) (x : Str) (sg : Scope) (g : Addr) (cdg : Value) (s : Shared) (H : Hp) : Cx := cxOf C8.CX0 X.prog X.w X.K X.mg X.base Ng x sg g cdg X.A X.stack s H C8.E0
section
variable {X : Cx} {pins : List (Addr × Obj)} {σ : L2.St} {H : Hp} {s : Shared}
/-- a(), in the def that got the lambda: as pe_act, the guards known -/
theorem pe_actG {CXg : CXT} {Eg : XK} {Ng : List Str} {qg : Str} {sg : Scope} {g f c' : Addr} {cdg pm ctv : Value} {params : Arguments} {body : Expr} {scope : Scope} {k i : Nat} {a : Str} {pn : List (Addr × Obj)} {xe : Value → Shared → Prop} {W : WX} {E : XK} {tb : TE} {p1 p2 : Pos}
    (I : L2.Inv X pins σ H s) (L : LamS X.env.scope scope) (hf : s.heap.get? f = some (PySem.W.kla_obj "<lambda>" (X.env.qual ++ "<lambda>") params body scope (cloFrom X.env.cells scope.names []) pm c' ctv)) (hfn : H f = none) (hfr : f ∉ frs X.stack)
    (hbind : bindArgs (PySem.W.kla_fn "<lambda>" (X.env.qual ++ "<lambda>") params body scope (cloFrom X.env.cells scope.names []) pm (.ref c') ctv) ⟨[], []⟩ = pure [])
    (tk : Takes ((cxOf CXg X.prog X.w X.K X.mg X.base Ng qg sg g cdg X.A X.stack s H Eg).tr pn xe) W) (hW : ∀ cls d σ' H', E cls d H' → W cls d σ' H') (hr : Room (k + 1) (X.A.deeper (envOfC qg sg s.heap.objs.size g cdg)))
    (hbody : ∀ (A : Around) (outer : List Env) (s : Shared) (H : Hp), A.guards = X.A.guards → Room k (A.deeper (lamEnv X scope s.heap.objs.size f c')) → PE (lamCx X A outer s H E scope f c') body tb)
    (hN : Ng[i]? = some a) (hv : Vis sg a) (hd : (a == ("__debug__" : Str)) = false) (hcd : (a == ("__classdict__" : Str)) = false) :
    PE ((cxOf CXg X.prog X.w X.K X.mg X.base Ng qg sg g cdg X.A X.stack s H Eg).tr pn xe) (.Call (.Name a p1) [] [] p2)
      (fun σZ HZ Q => σZ[i]? = some (some (.ref f)) ∧ HZ c' = some (CodeO c' (X.env.qual ++ "<lambda>")) ∧ tb σ HZ Q) := by
  refine ⟨fun pinsZ sZ σZ HZ Q IZ ⟨hs, hc, ht⟩ => ?_⟩
  refine wpAny_Call_Name_kw (thn ((pe_var (pos := p1) (i := i) hN hv hd hcd).run pinsZ sZ σZ HZ (fun v H1 => v = .ref f ∧ H1 = HZ) IZ ⟨.ref f, hs, rfl, rfl⟩) fun u s1 ⟨v, H1, I1, r1, ev, eH⟩ => ?_)
  subst ev
  rw [eH] at I1
  obtain rfl : u = Value.ref f := r1
  have of1 := I1.base.keep f _ hf hfn hfr (fun z => nomatch (show f ∈ ([] : List Addr) from z))
  have of1 : s1.heap.get? f = some (PySem.W.kla_obj "<lambda>" (X.env.qual ++ "<lambda>") params body scope (cloFrom X.env.cells scope.names []) pm c' ctv) := of1
  refine PySem.W.callWith_F0 ⟨_, _, _, _, of1⟩ ?_
  have un : Un (frs X.stack) [] H HZ s.heap s1.heap := I1.base
  obtain ⟨⟨oc, vs, t, hoc, hdc, hvc⟩, _, _⟩ := I1.hok c' _ hc
  have rc : codeAny (model X.prog X.w) (X.A.deeper (envOfC qg sg s.heap.objs.size g cdg)) (.call (.ref f) ⟨[], []⟩) (CR (L2.CX X.prog X.w) (envOfC qg sg s.heap.objs.size g cdg :: X.stack) X.prog X.w HZ s1 Q E) s1 := by
    refine PySem.W.kla_callFunE hr.depth of1 rfl L.co L.gen rfl ⟨c', oc, vs, t, rfl, hoc, hdc, hvc⟩ ?_
    rw [hbind]
    refine wpAny_pure (wpAny_newFunctionEnv (fun y hy => (L.own y hy).2) (fun y hy => absurd hy (by simp)) (fun h₁ hns hsb => ⟨I1.nolimit.fresh _ hsb, ?_⟩) L.kind)
    have kp : ∀ b o, s1.heap.get? b = some o → h₁.get? b = some o := fun b o e => hsb.extBut b o (Nat.ne_of_lt (Heap.lt_size e)) (Heap.get?_push_of_some _ e)
    have J : L2.Inv (lamCx X (X.A.deeper (envOfC qg sg s.heap.objs.size g cdg)) (envOfC qg sg s.heap.objs.size g cdg :: X.stack) s1 HZ E scope f c') [] σ HZ { s1 with heap := h₁, toks := s1.toks + ([] : List (Str × Value)).length } := lam_start2 I L I1.env0 hr.hd un hns kp
    refine PySem.W.kla_codeExpr (wpAny_mono ((hbody (X.A.deeper (envOfC qg sg s.heap.objs.size g cdg)) (envOfC qg sg s.heap.objs.size g cdg :: X.stack) s1 HZ rfl (hr.deeper _)).run [] _ _ HZ Q J ht) (fun v s' hq => ?_) fun e s' hq => hq)
    obtain ⟨w', H', J', rv, q⟩ := hq
    exact ⟨w', H', J'.os, J'.bare, J'.base, J'.hok, rv, q⟩
  have hx : Passes (L2.CX X.prog X.w) ((cxOf CXg X.prog X.w X.K X.mg X.base Ng qg sg g cdg X.A X.stack s H Eg).tr pn xe) E := passes_call tk hW
  refine wpAny_call (codeAny_mono rc fun r s' hq => ?_)
  cases r with
  | error e => exact hx pinsZ σZ HZ s1 e s' I1 hq
  | ok fl =>
    cases fl with
    | ret u => exact I1.after hq
    | next => exact False.elim hq
    | brk => exact False.elim hq
    | cont => exact False.elim hq
end
def M.heard (n : Nat) (kA : M OD → DEnv → M OD) (m : M OD) : M OD := fun eC => match kA m (List.replicate n none) eC with
  | .ok x e => .ok x e
  | _ => .no
theorem takesL {X : Cx} {A : Around} {outer : List Env} {s : Shared} {H : Hp} {E : XK} {scope : Scope} {f c' : Addr} : Takes (lamCx X A outer s H E scope f c') (WF E) := takes_of (E := E) rfl rfl rfl rfl
section
variable {X : Cx} {W : WX} {B : List Nat}
end
/-! ### isinstance of a caught exception -/
def rIsX (K : PySem.W.Frag) : List V → Hp → VK → Prop := fun xs H Q => ∃ (a D : Addr) (dx : Option Addr) (c : V) (cv : Value) (b : Bool), xs = [.ref a, c] ∧ H a = some (ExcO (.ref D) dx a) ∧ (∀ dd, dx = some dd → ∃ fs, H dd = some (.xd fs)) ∧ ExcC K D ∧ (∀ u, RelV c u → u = cv) ∧ PySem.W.kitOne K (.ref D) cv = some b ∧ Q (.bl b) H
def rIsXT (K : PySem.W.Frag) : List V → Hp → VK → Prop := fun xs H Q => ∃ (a D tp : Addr) (dx : Option Addr) (cs : List V) (us : List Value) (b : Bool), xs = [.ref a, .ref tp] ∧ H a = some (ExcO (.ref D) dx a) ∧ (∀ dd, dx = some dd → ∃ fs, H dd = some (.xd fs)) ∧ ExcC K D ∧ H tp = some (.tup cs) ∧ (∀ ws, Vals cs ws → ws = us) ∧ PySem.W.kitAny K (.ref D) us = some b ∧ Q (.bl b) H
section
variable {X : Cx}
theorem inst_exc {pins : List (Addr × Obj)} {σ : L2.St} {H : Hp} {s : Shared} {a D : Addr} {dx : Option Addr} (I : L2.Inv X pins σ H s) (h : H a = some (ExcO (.ref D) dx a)) (hd : ∀ dd, dx = some dd → ∃ fs, H dd = some (.xd fs)) : ∃ ox od, PySem.W.InstAt s.heap a ox D od := by
  obtain ⟨⟨oe, vs, h1, h2, h3⟩, _⟩ := I.hok a _ h
  obtain ⟨oc, od, oda, osl⟩ := oe
  obtain ⟨e1, e2⟩ := h2
  dsimp only at e1 e2 h3
  subst e1 e2 h3
  cases od with
  | none => exact ⟨_, none, h1, rfl, rfl, trivial⟩
  | some dd =>
    obtain ⟨fs, hf⟩ := hd dd rfl
    obtain ⟨mA, hns, _⟩ := (show ObjOk X.prog X.w H s.heap dd (.xd fs) from I.hok dd _ hf)
    obtain ⟨od, ho, _⟩ := lookIn_ns hns
    exact ⟨_, some od, h1, rfl, rfl, ho⟩
theorem cls_some {K : PySem.W.Frag} {D : Addr} (h : PySem.W.hasDictIn K D = true) : (PySem.W.clsIn K D).isSome = true := by
  unfold PySem.W.hasDictIn at h
  cases e : PySem.W.clsIn K D with
  | none => rw [e] at h; cases h
  | some c => rfl
theorem call_isX : CallR X (.builtin "isinstance") (rIsX X.K) := by
  intro pins s σ H xs us Q I r h
  obtain ⟨a, D, dx, c, cv, b, rfl, ha, hdx, C, hcv, e, q⟩ := h
  obtain ⟨u1, u2, rfl, r1, r2⟩ := vals2 r
  cases (show u1 = Value.ref a from r1)
  have ec := hcv _ r2
  subst ec
  obtain ⟨ox, od, J⟩ := inst_exc I ha hdx
  exact PySem.W.kia_one (PySem.W.kitx_exc (cls_some C.hd) C.hg C.hk C.hs C.ha C.hn C.ht C.hm) I.kIn J e (fun z => nomatch z) fun tk => ⟨.bl b, H, I.tok tk, rfl, q⟩
theorem call_isXT : CallR X (.builtin "isinstance") (rIsXT X.K) := by
  intro pins s σ H xs us Q I r h
  obtain ⟨a, D, tp, dx, cs, ws, b, rfl, ha, hdx, C, hT, hw, e, q⟩ := h
  obtain ⟨u1, u2, rfl, r1, r2⟩ := vals2 r
  cases (show u1 = Value.ref a from r1)
  cases (show u2 = Value.ref tp from r2)
  obtain ⟨ox, od, J⟩ := inst_exc I ha hdx
  obtain ⟨_, its, rv, o, h1, h2, n, h3⟩ := (show ObjOk X.prog X.w H s.heap tp (.tup cs) from I.hok tp _ hT)
  have e3 := hw _ rv
  subst e3
  obtain ⟨oc, od, dt, sl⟩ := o
  simp only at h2 h3
  subst h2 h3
  exact PySem.W.kia_tup (PySem.W.kitx_exc (cls_some C.hd) C.hg C.hk C.hs C.ha C.hn C.ht C.hm) I.kIn J h1 e (fun z => nomatch z) fun tk => ⟨.bl b, H, I.tok tk, rfl, q⟩
end
/-- classes, told one after the other -/
def tCs (cs : List V) : TA := fun _ H Q => Q cs H
theorem pcs_nil {X : Cx} : PA X [] (tCs []) := PA_mono pa_nil fun _ _ _ q => q
theorem pcs_cons {X : Cx} {e : Expr} {es : List Expr} {v : V} {cs : List V} (h : PE X e (tC v)) (r : PA X es (tCs cs)) (hs : starEach (e :: es) X.env = (false, eval e X.env) :: starEach es X.env := by rfl) : PA X (e :: es) (tCs (v :: cs)) := PA_mono (pa_cons h r hs) fun _ _ _ q => q
def isXb (tbl : List (Str × Bool)) : OD → Option Bool
  | .exn x => takesB tbl x
  | _ => none
def M.isX (i : Nat) (tbl : List (Str × Bool)) : M PyData := fun env => match ((env[i]?).join).bind (isXb tbl) with
  | some b => .ok (.bool b) env
  | none => .no
def M.isN (i : Nat) : M Bool := fun env => match (env[i]?).join with
  | some (.pur d) => (match isD d .none with
    | some (.bool b) => .ok b env
    | _ => .no)
  | some (.exn _) => .ok false env
  | _ => .no
section
variable {X : Cx} {W : WX} {B : List Nat} {y : Str} {p p2 p3 pos : Pos} {ce : Expr} {c : V} {cv : Value} {tbl : List (Str × Bool)}
theorem exn_at {bv : Nat → V} {R P H : Hp} {Fs : Nat → List Addr} {σ : L2.St} {env : DEnv} {i : Nat} {b : Bool} (S : Sta X.K X.mg B bv R P H Fs σ env) (h : ((env[i]?).join).bind (isXb tbl) = some b) :
    ∃ a C dx, σ[i]? = some (some (.ref a)) ∧ H a = some (ExcO (.ref C) dx a) ∧ P a = some (ExcO (.ref C) dx a) ∧ (∀ dd, dx = some dd → ∃ fs, H dd = some (.xd fs)) ∧ ∃ n, tbl.lookup n = some b ∧ X.mg n = some (.ref C) := by
  obtain ⟨o, h1, h2⟩ := Option.bind_eq_some_iff.mp h
  obtain ⟨v, h3, h4⟩ := S.slot i o (join_some h1)
  cases o with
  | exn x =>
    unfold isXb at h2
    simp only at h2
    unfold takesB at h2
    generalize Fs i = F at h4
    cases h4 with
    | @exn a cls d _ hc hp hf =>
      obtain ⟨c1, c2⟩ := hc
      obtain ⟨xc, xf⟩ := x
      cases xc with
      | own n =>
        obtain ⟨C, m1, m2⟩ := c1
        rw [m2] at hp
        refine ⟨a, C, d, h3, S.ph _ _ hp, hp, fun dd e => ?_, n, h2, m1⟩
        cases xf with
        | none =>
          have dn := c2 rfl
          rw [dn] at e
          cases e
        | some p =>
          obtain ⟨dd', v', e1, e2, _⟩ := hf p.1 p.2 rfl
          rw [e1] at e
          cases e
          exact ⟨_, S.ph _ _ e2⟩
      | bt n => cases h2
  | _ => cases h2
theorem ed_isX (i : Nat) (tbl : List (Str × Bool)) (hg : Gl X "isinstance") (hm : X.mg "isinstance" = none) (hce : PE X ce (tC c)) (hcv : ∀ u, RelV c u → u = cv)
    (ht : ∀ n b, tbl.lookup n = some b → ∀ C', X.mg n = some (.ref C') → ExcC X.K C' ∧ PySem.W.kitOne X.K (.ref C') cv = some b) (hN : X.N[i]? = some y := by rfl) (hv : Vis X.env.scope y := by first | exact Or.inl rfl | exact Or.inr (Or.inl rfl) | exact Or.inr (Or.inr rfl)) (hd : (y == ("__debug__" : Str)) = false := by decide) (hcd : (y == ("__classdict__" : Str)) = false := by decide)
    (hs1 : starEach [.Name y p2, ce] X.env = (false, eval (.Name y p2) X.env) :: starEach [ce] X.env := by rfl) (hs2 : starEach [ce] X.env = (false, eval ce X.env) :: starEach [] X.env := by rfl) (hpl : (backTo pos (starEach [ce] X.env)).any (·.1) = false := by rfl) :
    ED X W B (.Call (.Name "isinstance" p) [.Name y p2, ce] [] pos) (M.isX i tbl) :=
  PE_mono (pe_callB (call_isX) hg hm (by decide +kernel) (pa_cons (pe_var hN hv hd hcd) (pa_cons hce pa_nil hs2) hs1) (by decide) (by decide) hs1 hpl) fun σ H Q ⟨bv, R, P, Fs, env, S, q⟩ => by
    unfold M.isX at q
    cases hb : ((env[i]?).join).bind (isXb tbl) with
    | none => rw [hb] at q; exact q.elim
    | some b =>
      rw [hb] at q
      obtain ⟨a, C, dx, h1, h2, h3, hdx, n, h4, h5⟩ := exn_at S hb
      obtain ⟨k1, k2⟩ := ht n b h4 C h5
      exact ⟨.ref a, h1, a, C, dx, c, cv, b, rfl, h2, hdx, k1, hcv, k2, q (.bl b) P H Fs S (Same.refl _) (.bl b)⟩
theorem ed_isXT {ces : List Expr} {cs : List V} {us : List Value} {ctx : Nat} (i : Nat) (tbl : List (Str × Bool)) (hg : Gl X "isinstance") (hm : X.mg "isinstance" = none) (hce : PA X ces (tCs cs)) (hcl : cs.length ≤ 100) (hcv : ∀ ws, Vals cs ws → ws = us)
    (ht : ∀ n b, tbl.lookup n = some b → ∀ C', X.mg n = some (.ref C') → ExcC X.K C' ∧ PySem.W.kitAny X.K (.ref C') us = some b) (hN : X.N[i]? = some y := by rfl) (hv : Vis X.env.scope y := by first | exact Or.inl rfl | exact Or.inr (Or.inl rfl) | exact Or.inr (Or.inr rfl)) (hd : (y == ("__debug__" : Str)) = false := by decide) (hcd : (y == ("__classdict__" : Str)) = false := by decide)
    (hs1 : starEach [.Name y p2, .Tuple ces ctx p3] X.env = (false, eval (.Name y p2) X.env) :: starEach [.Tuple ces ctx p3] X.env := by rfl) (hs2 : starEach [.Tuple ces ctx p3] X.env = (false, eval (.Tuple ces ctx p3) X.env) :: starEach [] X.env := by rfl) (hpl : (backTo pos (starEach [.Tuple ces ctx p3] X.env)).any (·.1) = false := by rfl) :
    ED X W B (.Call (.Name "isinstance" p) [.Name y p2, .Tuple ces ctx p3] [] pos) (M.isX i tbl) :=
  PE_mono (pe_callB (call_isXT) hg hm (by decide +kernel) (pa_cons (pe_var hN hv hd hcd) (pa_cons (pe_tup hce) pa_nil hs2) hs1) (by decide) (by decide) hs1 hpl) fun σ H Q ⟨bv, R, P, Fs, env, S, q⟩ => by
    unfold M.isX at q
    cases hb : ((env[i]?).join).bind (isXb tbl) with
    | none => rw [hb] at q; exact q.elim
    | some b =>
      rw [hb] at q
      obtain ⟨a, C, dx, h1, h2, h3, hdx, n, h4, h5⟩ := exn_at S hb
      obtain ⟨k1, k2⟩ := ht n b h4 C h5
      refine ⟨.ref a, h1, by rw [sizeLine_eq]; omega, fun tp htp => ⟨a, C, tp, dx, cs, us, b, rfl, ?_, fun dd e => ?_, k1, upd_same, hcv, k2, ?_⟩⟩
      · rw [upd_ne fun z => by rw [z, htp] at h2; cases h2]; exact h2
      · obtain ⟨fs, hfs⟩ := hdx dd e
        exact ⟨fs, by rw [upd_ne fun z => by rw [z, htp] at hfs; cases hfs]; exact hfs⟩
      · have e := ext_heap S.ph (.tup cs) htp
        exact q (.bl b) P _ Fs (S.ext e) e.pp (.bl b)
theorem td_isNX (i : Nat) {j : Nat} (hN : X.N[i]? = some y := by rfl) (hv : Vis X.env.scope y := by first | exact Or.inl rfl | exact Or.inr (Or.inl rfl) | exact Or.inr (Or.inr rfl)) (hd : (y == ("__debug__" : Str)) = false := by decide) (hcd : (y == ("__classdict__" : Str)) = false := by decide) :
    TD X W B (.Compare (.Name y p2) [.Is] [.Constant .none j p3] pos) (M.isN i) :=
  PT_mono (pt_cmpR op_isP (pe_var hN hv hd hcd) pe_non (by first | exact nomark _ | rfl)) fun σ H Q ⟨bv, R, P, Fs, env, S, q⟩ => by
    unfold M.isN at q
    cases ho : (env[i]?).join with
    | none => rw [ho] at q; exact q.elim
    | some o =>
      rw [ho] at q
      obtain ⟨v, h1, h2⟩ := S.slot i o (join_some ho)
      refine ⟨v, h1, .inl ⟨rfl, ?_⟩⟩
      cases o with
      | pur d =>
        simp only at q
        have r := h2.pur_inv
        cases hz : isD d .none with
        | none => rw [hz] at q; exact q.elim
        | some z =>
          rw [hz] at q
          cases z with
          | bool b =>
            have eb : decide (v = V.non) = b := by
              cases r <;> (cases hz; simp)
            exact ⟨_, rfl, by rw [eb]; exact q P H Fs S (Same.refl _)⟩
          | _ => exact q.elim
      | exn x =>
        generalize Fs i = F at h2
        cases h2
        exact ⟨_, rfl, by simp; exact q P H Fs S (Same.refl _)⟩
      | _ => exact q.elim
end
end DL

set_option maxHeartbeats 2000000
/-! DL84: facts about classes of refusals, tables of them; a def that catches, for the maker's derivation. -/
namespace DL
open PySem PySem.Spec PyProof.Rows L2 LamX PySem.W
section
variable {fa : List He.Fa} {fn : List He.DefD} {tb : Tbs} {K : PySem.W.Frag} {mg : Str → Option Value} {base : Heap}
theorem Cm.xt (C : Cm fa fn tb K mg base) (i : Nat) {ds : List He.Dv} (h : tb[i]? = some (("<x>" : Str), ds) := by rfl) : xtB K ds = true := by
  have z := List.all_eq_true.mp C.tbs _ (List.mem_of_getElem? h)
  have e1 : (("<x>" : Str) == "<lambda>") = false := by decide
  simp only [e1, Bool.false_eq_true, if_false, beq_self_eq_true, if_true] at z
  exact z
theorem excCB_ok {D : Addr} (h : excCB K D = true) : ExcC K D := by
  unfold excCB at h
  simp only [Bool.and_eq_true, decide_eq_true_eq] at h
  obtain ⟨h1, h2, h3, h4, h5, h6, h7, h8⟩ := h
  exact ⟨h1, h2, h3, h4, h5, h6, h7, h8⟩
/-- what isinstance tells of the classes of a table -/
def XT (K : PySem.W.Frag) (mg : Str → Option Value) (ds : List He.Dv) (tbl : List (Str × Bool)) : Prop := ∀ n b, tbl.lookup n = some b → ∀ C', mg n = some (.ref C') → ExcC K C' ∧ PySem.W.kitAny K (.ref C') (ds.map (dvC K)) = some b
/-- what a clause of classes takes -/
def XM (K : PySem.W.Frag) (mg : Str → Option Value) (ds : List He.Dv) (tbl : List (Str × Bool)) : Prop := ∀ n b, tbl.lookup n = some b → ∀ C', mg n = some (.ref C') → PySem.W.exmAny K (.ref C') (ds.map (dvC K)) = some b
theorem xt_nil {ds : List He.Dv} : XT K mg ds [] := fun _ _ h => by cases h
theorem xt_cons (C : Cm fa fn tb K mg base) (i j k : Nat) {c : Str} {b : Bool} {ds : List He.Dv} {tbl : List (Str × Bool)} (r : XT K mg ds tbl) (h1 : fa[i]? = some (.glo c) := by rfl) (h2 : tb[j]? = some (("<x>" : Str), [.str c]) := by rfl) (h3 : tb[k]? = some (("<x>" : Str), .bl b :: .str c :: ds) := by rfl) : XT K mg ds ((c, b) :: tbl) := fun n b' hl C' hm => by
  rw [List.lookup_cons] at hl
  by_cases e : (n == c) = true
  · rw [e] at hl
    cases hl
    have := eq_of_beq e
    subst this
    have e2 := C.glo _ h1
    rw [e2] at hm
    cases hm
    refine ⟨excCB_ok ?_, ?_⟩
    · exact C.xt j h2
    · exact of_decide_eq_true (C.xt k h3)
  · have e2 : (n == c) = false := by simpa using e
    rw [e2] at hl
    exact r n b' hl C' hm
theorem XT.one {d : He.Dv} {tbl : List (Str × Bool)} (h : XT K mg [d] tbl) : ∀ n b, tbl.lookup n = some b → ∀ C', mg n = some (.ref C') → ExcC K C' ∧ PySem.W.kitOne K (.ref C') (dvC K d) = some b := fun n b hl C' hm => by
  obtain ⟨h1, h2⟩ := h n b hl C' hm
  refine ⟨h1, ?_⟩
  simp only [List.map_cons, List.map_nil, PySem.W.kitAny] at h2
  split at h2 <;> simp_all
end
/-- the values of classes, told by facts -/
def dvV (K : PySem.W.Frag) : He.Dv → V
  | .str d => .ref (He.ga K d)
  | .ty n => .ty n
  | _ => .non
theorem rel_dvC {K : PySem.W.Frag} {d : He.Dv} : ∀ u, RelV (dvV K d) u → u = dvC K d := fun u h => by
  cases d <;> exact h
theorem vals_dvC {K : PySem.W.Frag} : ∀ {ds : List He.Dv} {ws : List Value}, Vals (ds.map (dvV K)) ws → ws = ds.map (dvC K)
  | [], _, .nil => rfl
  | d :: ds, _, .cons h t => by rw [rel_dvC _ h, vals_dvC t]; rfl
section
variable {X : Cx} {W : WX} {B : List Nat}
/-- a class's name -/
theorem pe_cls {x : Str} {a : Addr} {p : Pos} (hg : Gl X x) (hm : X.mg x = some (.ref a)) (hdb : (x == ("__debug__" : Str)) = false := by decide) : PE X (.Name x p) (tC (.ref a)) := pe_glob (v := .ref a) hg hm rfl hdb
end
section
variable {Z : Cx} {B : List Nat} {σC : L2.St} {f c' : Addr} {q : Str} {rest : List Stmt} {m : M OD} {k0 : DEnv → M OD} {te callE : Expr} {n yn xn : Str} {ni yi xi nn : Nat} {px ps py pn2 ps2 pos' pos : Pos} {tbl : List (Str × Bool)}
end
/-- a def that catches what its lambda raises -/
def HrdK (K : PySem.W.Frag) (mg : Str → Option Value) (x a : Str) (Ng : List Str) (sg : Scope) (pg : Arguments) (bg : List Stmt) : Prop :=
  ∃ gA fd, mg x = some (.ref gA) ∧ PySem.W.keepIn K (.ref gA) = true ∧ FunD K x x pg bg sg [] [] gA fd ∧ Binds K fd [a] [] ∧ FnScope Ng [a] sg
section
variable {X : Cx} {W : WX} {B : List Nat}
end
end DL


set_option maxHeartbeats 2000000
/-! DL85: runs of mirrors that end with an exception; comprehensions that may raise; a def that catches. -/
namespace DL
open PySem PySem.Spec PyProof.Rows L2
/-- the run ends with an exception -/
def Ex {α : Type} (r : Rs α) (P : Xn → DEnv → Prop) : Prop := ∃ x e, r = .ex x e ∧ P x e
section
variable {α β : Type} {env : DEnv} {P : Xn → DEnv → Prop}
theorem Ex.mono {r : Rs α} {P Q : Xn → DEnv → Prop} (h : Ex r P) (k : ∀ x e, P x e → Q x e) : Ex r Q := by
  obtain ⟨x, e, h1, h2⟩ := h
  exact ⟨x, e, h1, k x e h2⟩
theorem ex_bind1 {m : M α} {f : α → M β} (h : Ex (m env) P) : Ex (M.bind m f env) P := by
  obtain ⟨x, e, h1, h2⟩ := h
  exact ⟨x, e, by unfold M.bind; rw [h1], h2⟩
theorem ex_bind2 {m : M α} {f : α → M β} (h : Hs (m env) fun a e => Ex (f a e) P) : Ex (M.bind m f env) P := by
  obtain ⟨a, e, h1, x, e2, h2, h3⟩ := h
  exact ⟨x, e2, by unfold M.bind; rw [h1]; exact h2, h3⟩
theorem ex_seq1 {a b : M Flw} (h : Ex (a env) P) : Ex (M.seq a b env) P := ex_bind1 h
theorem ex_seq2 {a b : M Flw} (h : Hs (a env) fun f e => f = .nx ∧ Ex (b e) P) : Ex (M.seq a b env) P := ex_bind2 (h.mono fun f e ⟨h1, h2⟩ => by subst h1; exact h2)
theorem ex_ite {c : M Bool} {a b : M α} (h : Hs (c env) fun k e => (k = true → Ex (a e) P) ∧ (k = false → Ex (b e) P)) : Ex (M.ite c a b env) P := ex_bind2 (h.mono fun k e ⟨h1, h2⟩ => by
  cases k with
  | true => exact h1 rfl
  | false => exact h2 rfl)
theorem ex_run {n nn : Nat} {B : List Nat} {mb : M Flw} (e : DEnv) (h : env.length = n) (he : env ++ List.replicate (nn - n) none = e) (q : Ex (mb e) fun x e' => P x (keepB B n e')) : Ex (runF n nn B mb env) P := by
  subst he
  obtain ⟨x, e, h1, h2⟩ := q
  exact ⟨x, _, by unfold runF; rw [if_pos h, h1], h2⟩
/-- a def that catches: told -/
theorem hs_heard {n : Nat} {kA : M OD → DEnv → M OD} {m : M OD} {Q : OD → DEnv → Prop} (h : Hs (kA m (List.replicate n none) env) Q) : Hs (M.heard n kA m env) Q := by
  obtain ⟨x, e, h1, h2⟩ := h
  exact ⟨x, e, by unfold M.heard; rw [h1], h2⟩
theorem hs_kCons {m : M Flw} {k : DEnv → M OD} {eZ eC : DEnv} {Q : OD → DEnv → Prop} (e2 : DEnv) (h1 : m eZ = .ok .nx e2) (h2 : Hs (k e2 eC) Q) : Hs (kCons m k eZ eC) Q := by
  unfold kCons
  rw [h1]
  exact h2
theorem hs_kLast {m : M Flw} {eZ eC : DEnv} {Q : OD → DEnv → Prop} (h : Hs (m eZ) fun f _ => match f with
    | .rt x => Q x eC
    | _ => False) : Hs (kLast m eZ eC) Q := by
  obtain ⟨f, e, h1, h2⟩ := h
  unfold kLast
  rw [h1]
  cases f with
  | rt x => exact Hs.mk h2
  | nx => exact h2.elim
  | bk => exact h2.elim
  | ct => exact h2.elim
theorem hs_kTryX {lst : Bool} {xf yf n : Nat} {tbl : List (Str × Bool)} {ask : M OD} {k0 : DEnv → M OD} {eZ eC : DEnv} {Q : OD → DEnv → Prop} (hp : pureE eZ = true) (h : Ex (ask eC) fun x e2 => takesB tbl x = some true ∧ Hs (k0 ((List.replicate n none).set yf (some (.exn x))) e2) Q) : Hs (kTry lst xf yf n tbl ask k0 eZ eC) Q := by
  obtain ⟨x, e2, h1, h2, h3⟩ := h
  unfold kTry
  rw [if_pos hp, h1]
  simp only [h2]
  exact h3
end
end DL

set_option maxHeartbeats 2000000
/-! DL86: (a, b) = a list. -/
namespace DL
open PySem PySem.Spec PyProof.Rows L2
section
variable {X : Cx} {B is : List Nat} {pos : Pos} {es : List Expr}
end
end DL

set_option maxHeartbeats 2000000
/-! DL87: displays of dicts whose keys are tuples. -/
namespace DL
open PySem PySem.Spec PyProof.Rows L2
section
variable {X : Cx} {W : WX} {B : List Nat} {pos : Pos} {keys : List (Option Expr)} {values : List Expr} {pms : List (M PyData × M PyData)}
end
end DL

set_option maxHeartbeats 2000000
/-! DL88: dicts of the module with text keys: D.get(e). The hook that tells of them. -/
namespace DL
open PySem PySem.Spec PyProof.Rows L2
section
variable {X : Cx} {W : WX} {B : List Nat} {e : Expr} {me : M PyData} {x : Str} {l : List (Str × PyData)} {np apos cpos : Pos}
end
/-! ### the hook -/
end DL

set_option maxHeartbeats 2000000
/-! DL89: x != () of tuples, whatever stands in x. -/
namespace DL
open PySem PySem.Spec PyProof.Rows L2
section
variable {X : Cx} {W : WX} {B : List Nat} {a b : Expr} {ma mb : M PyData} {pos : Pos}
end
end DL

set_option maxHeartbeats 2000000
/-! DL90: slot.f += e, slot.f -= e of ints. -/
namespace DL
open PySem PySem.Spec PyProof.Rows L2
/-- the int at a field of the instance in a slot -/
def fieldI (i : Nat) (c f : Str) (env : DEnv) : Option Int := match (env[i]?).join with
  | some (.obj c' ns xs) => if c' = c then (posN f ns).bind fun n => (match xs[n]? with
    | some (.pur (.int k)) => some k
    | _ => none) else none
  | _ => none
def setFI (i : Nat) (c f : Str) (k : Int) : DEnv → Rs Flw := fun env => match (env[i]?).join with
  | some (.obj c' ns xs) => if c' = c ∧ ns.length < 1000 then (match posN f ns with
    | some n => .ok .nx (env.set i (some (.obj c' ns (xs.set n (.pur (.int k))))))
    | none => .no) else .no
  | _ => .no
def M.augF (i : Nat) (c f : Str) (g : Int → Int → Int) (me : M PyData) : M Flw := fun env => match fieldI i c f env with
  | some k => M.bind me (fun d => match d with
    | .int j => setFI i c f (g k j)
    | _ => M.fail) env
  | none => .no
theorem fieldI_some {i : Nat} {c f : Str} {env : DEnv} {k : Int} (h : fieldI i c f env = some k) : ∃ ns xs n, env[i]? = some (some (.obj c ns xs)) ∧ posN f ns = some n ∧ xs[n]? = some (.pur (.int k)) := by
  unfold fieldI at h
  split at h
  · rename_i c' ns xs hx
    split at h
    · rename_i e
      subst e
      obtain ⟨n, h1, h⟩ := Option.bind_eq_some_iff.mp h
      split at h
      · rename_i k' hk
        cases h
        exact ⟨ns, xs, n, join_some hx, h1, hk⟩
      · cases h
    · cases h
  · cases h
section
variable {X : Cx} {W : WX} {B : List Nat} {e : Expr} {me : M PyData} {x : Str} {px pos tpos : Pos}
theorem setFI_post {i : Nat} {c f : Str} {k : Int} {bv : Nat → V} {R P P1 H1 : Hp} {F1 : Nat → List Addr} {σ : L2.St} {e1 : DEnv} {D : Ends} {z : V} {a : Addr} (S1 : Sta X.K X.mg B bv R P1 H1 F1 σ e1) (s1 : Same P P1) (hz : z = .int k) (hu : σ[i]? = some (some (.ref a)))
    (q1 : post (setFI i c f k e1) (OkS X.K X.mg B bv R P D) (ExS X.K X.mg W B bv R P)) : ∃ C dx' fs', X.mg c = some (.ref C) ∧ H1 a = some (.ins C dx' fs') ∧ fs'.length < 1000 ∧ D.nx σ (upd H1 a (.ins C dx' (putF f z fs'))) := by
  subst hz
  unfold setFI at q1
  cases h1 : (e1[i]?).join with
  | none => rw [h1] at q1; exact q1.elim
  | some z =>
    rw [h1] at q1
    have hx := join_some h1
    cases z with
    | obj c' ns xs =>
      simp only at q1
      split at q1
      · rename_i hcc
        obtain ⟨rfl, hln⟩ := hcc
        obtain ⟨u, hu', oz⟩ := S1.slot i _ hx
        rw [hu] at hu'
        cases hu'
        have ndi := S1.nd i
        generalize hFi : F1 i = Fi at oz ndi
        cases oz with
        | @obj _ C _ dx F0 _ vs _ hc h hdx hl t =>
          have na : ∀ {b}, b ∈ a :: dx :: F0 → b ∈ F1 i := fun hb => by rw [hFi]; exact hb
          have nd1 := List.nodup_cons.mp ndi
          have nd2 := List.nodup_cons.mp nd1.2
          have aF0 : a ∉ F0 := fun z => nd1.1 (List.mem_cons_of_mem _ z)
          have adx : dx ≠ a := fun z => nd1.1 (by rw [z]; exact List.mem_cons_self)
          refine ⟨C, dx, _, hc, h, by rw [List.length_zip]; omega, ?_⟩
          cases hn : posN f ns with
          | none => rw [hn] at q1; exact q1.elim
          | some n =>
            rw [hn] at q1
            obtain ⟨h3, h4⟩ := putF_old (v := V.int k) hn hl
            have hlx := avl_len t
            obtain ⟨z, Fj, a1, a2, a3, a4, a5⟩ := t.at_ nd2.2 (List.getElem?_eq_getElem (show n < xs.length by omega))
            obtain ⟨F2, b1, b2, b3⟩ := a5 P1 H1 [] (.int k) (.pur (.int k)) (Same.refl _) (fun _ _ _ _ e => e) (.pur (.int k)) .nil (fun b hb => nomatch hb)
            have hF2 : ∀ b ∈ F2, b ∈ F0 := fun b hb => (b3 b hb).elim (·.1) fun z => nomatch z
            have n2 : ∀ {b}, b ∈ F2 → b ≠ a ∧ b ≠ dx := fun {b} hb => ⟨fun w => aF0 (w ▸ hF2 b hb), fun w => nd2.1 (w ▸ hF2 b hb)⟩
            refine q1 σ P1 _ _ (S1.mut (F' := a :: dx :: F2) hu (fun b hb => upd_ne fun z => hb (by rw [z]; exact na List.mem_cons_self)) (.obj hc (by rw [upd_same, h3]) (by rw [upd_ne adx]; exact hdx) (by simp [hl]) (Ow.keep_out b1 fun z => (n2 z).1 rfl)) ?_ fun b hb => ?_) s1
            · refine List.nodup_cons.mpr ⟨fun z => ?_, List.nodup_cons.mpr ⟨fun z => (n2 z).2 rfl, b2⟩⟩
              rcases List.mem_cons.mp z with w | w
              · exact adx w.symm
              · exact (n2 w).1 rfl
            · rcases List.mem_cons.mp hb with z | z
              · subst z; exact .inl (na List.mem_cons_self)
              · rcases List.mem_cons.mp z with z | z
                · subst z; exact .inl (na (List.mem_cons_of_mem _ List.mem_cons_self))
                · exact .inl (na (List.mem_cons_of_mem _ (List.mem_cons_of_mem _ (hF2 b z))))
      · exact q1.elim
    | _ => exact q1.elim
theorem sd_augF (i : Nat) (c f : Str) {op : Operator} {rd : V → V → Hp → VK → Prop} {g : Int → Int → Int} (hop : InOp X op rd) (hg : ∀ (a b : Int) (H : Hp) (Q : VK), Q (.int (g a b)) H → rd (.int a) (.int b) H Q)
    (hC : ∀ C, X.mg c = some (.ref C) → Cls X.K C ∧ NoAttr X.K C f) (he : ED X W B e me) (hN : X.N[i]? = some x := by rfl) (hv : Vis X.env.scope x := by first | exact Or.inl rfl | exact Or.inr (Or.inl rfl) | exact Or.inr (Or.inr rfl)) (hd : (x == ("__debug__" : Str)) = false := by decide)
    (hcd : (x == ("__classdict__" : Str)) = false := by decide) : SD X W B (.AugAssign (.Attribute (.Name x px) f tpos) op e pos) (M.augF i c f g me) :=
  PS_mono (ps_fldaug (pe_var hN hv hd hcd) he hop) fun D σ H ⟨bv, R, P, Fs, env, S, q⟩ => by
    unfold M.augF at q
    cases hk : fieldI i c f env with
    | none => rw [hk] at q; exact q.elim
    | some k =>
      rw [hk] at q
      simp only at q
      obtain ⟨ns, xs, n, hx, hn, hxn⟩ := fieldI_some hk
      obtain ⟨u, hu, oz⟩ := S.slot i _ hx
      generalize Fs i = Fi at oz
      cases oz with
      | @obj _ C a dx F0 _ vs _ hc h hdx hl t =>
        obtain ⟨_, _, _, w, _, hw, ow, _⟩ := OwL.atp t hxn
        have hwk : w = .int k := by cases ow with | pur r => cases r; rfl
        subst hwk
        refine ⟨.ref a, hu, a, C, dx, _, .int k, rfl, h, (hC C hc).1, (hC C hc).2, pos_look hn hw, ?_⟩
        refine ⟨bv, R, P, Fs, env, S, bindD q (fun d e1 q1 v P1 H1 F1 S1 s1 r1 => ?_) fun x e z => z.d⟩
        cases d with
        | int j =>
          cases r1
          refine hg k j H1 _ ?_
          obtain ⟨C', dx', fs', hc', h1, h2, h3⟩ := setFI_post S1 s1 rfl hu q1
          rw [hc] at hc'
          cases hc'
          exact ⟨dx', fs', h1, h2, h3⟩
        | _ => exact q1.elim
theorem sd_augAdd (i : Nat) (c f : Str) (hC : ∀ C, X.mg c = some (.ref C) → Cls X.K C ∧ NoAttr X.K C f) (he : ED X W B e me) (hN : X.N[i]? = some x := by rfl) (hv : Vis X.env.scope x := by first | exact Or.inl rfl | exact Or.inr (Or.inl rfl) | exact Or.inr (Or.inr rfl)) (hd : (x == ("__debug__" : Str)) = false := by decide)
    (hcd : (x == ("__classdict__" : Str)) = false := by decide) : SD X W B (.AugAssign (.Attribute (.Name x px) f tpos) .Add e pos) (M.augF i c f (· + ·) me) := sd_augF i c f in_add (fun a b H Q q => ⟨a, b, rfl, rfl, q⟩) hC he hN hv hd hcd
theorem sd_augSub (i : Nat) (c f : Str) (hC : ∀ C, X.mg c = some (.ref C) → Cls X.K C ∧ NoAttr X.K C f) (he : ED X W B e me) (hN : X.N[i]? = some x := by rfl) (hv : Vis X.env.scope x := by first | exact Or.inl rfl | exact Or.inr (Or.inl rfl) | exact Or.inr (Or.inr rfl)) (hd : (x == ("__debug__" : Str)) = false := by decide)
    (hcd : (x == ("__classdict__" : Str)) = false := by decide) : SD X W B (.AugAssign (.Attribute (.Name x px) f tpos) .Sub e pos) (M.augF i c f (· - ·) me) := sd_augF i c f in_sub (fun a b H Q q => ⟨a, b, rfl, rfl, q⟩) hC he hN hv hd hcd
end
end DL

set_option maxHeartbeats 2000000
/-! DL91: a place's data frozen; place.append(e), e an expression that changes nothing. -/
namespace DL
open PySem PySem.Spec PyProof.Rows L2
section
variable {K : PySem.W.Frag} {mg : Str → Option Value} {B : List Nat} {bv : Nat → V} {R P H P' H' : Hp} {Fs Fs' : Nat → List Addr} {σ : L2.St} {env : DEnv} {i : Nat} {x y : OD} {p : List Stp}
theorem Sta.focus2 (S : Sta K mg B bv R P H Fs σ env) (hx : env[i]? = some (some x)) (hy : getP p x = some y) : ∃ (v u : V) (G : List Addr) (Rv : Hp), σ[i]? = some (some v) ∧ PlV mg H v p u ∧ Same R Rv ∧ (∀ a, R a = none → (∀ j, a ∉ Fs j) → Rv a = none) ∧ (∀ a ∈ G, a ∈ Fs i) ∧
    Sta K mg [] b0 Rv P H (fun j => if j = 0 then G else []) [some u] [some y] ∧
    ∀ {y' : OD} {P' H' : Hp} {Fs' : Nat → List Addr}, Same P P' → Sta K mg [] b0 Rv P' H' Fs' [some u] [some y'] → ∃ Fs2, Sta K mg B bv R P' H' Fs2 σ (env.set i (some (setP p x y'))) ∧ ∀ a, Rv a = none → (∀ j, a ∉ Fs' j) → ∀ j, a ∉ Fs2 j := by
  obtain ⟨v, hv, ox⟩ := S.slot i x hx
  obtain ⟨pre, post, G, u, hF, oy, pl, rb⟩ := ox.sub hy
  have hil := (List.getElem?_eq_some_iff.mp hx).1
  have ndi := S.nd i
  rw [hF] at ndi
  obtain ⟨n1, n2, n3⟩ := List.nodup_append.mp ndi
  obtain ⟨n4, n5, n6⟩ := List.nodup_append.mp n2
  have hpre : ∀ a ∈ pre, a ∈ Fs i := fun a h => by rw [hF]; exact List.mem_append_left _ h
  have hpost : ∀ a ∈ post, a ∈ Fs i := fun a h => by rw [hF]; exact List.mem_append_right _ (List.mem_append_right _ h)
  have hG : ∀ a ∈ G, a ∈ Fs i := fun a h => by rw [hF]; exact List.mem_append_right _ (List.mem_append_left _ h)
  generalize hFo : (fun j => if j = i then pre ++ post else Fs j) = Fo
  have foi : ∀ {a j}, a ∈ Fo j → a ∈ Fs j := fun {a j} h => by
    rw [← hFo] at h
    by_cases hj : j = i
    · simp only [hj, if_true] at h
      rw [hj]
      exact (List.mem_append.mp h).elim (hpre a) (hpost a)
    · simpa only [hj, if_false] using h
  have fo1 : ∀ {a}, a ∈ pre → a ∈ Fo i := fun {a} h => by rw [← hFo]; simp [h]
  have fo2 : ∀ {a}, a ∈ post → a ∈ Fo i := fun {a} h => by rw [← hFo]; simp [h]
  have fo3 : ∀ {a j}, j ≠ i → a ∈ Fs j → a ∈ Fo j := fun {a j} hj h => by rw [← hFo]; simp only [hj, if_false]; exact h
  have gno : ∀ a ∈ G, ¬ ∃ j, a ∈ Fo j := fun a h => by
    rintro ⟨j, hj⟩
    by_cases e : j = i
    · rw [← hFo] at hj
      simp only [e, if_true] at hj
      rcases List.mem_append.mp hj with z | z
      · exact n3 a z a (List.mem_append_left _ h) rfl
      · exact n6 a h a z rfl
    · exact S.dj i j a (Ne.symm e) (hG a h) (foi hj)
  have rvs : ∀ {a j}, a ∈ Fo j → ∃ o, H a = some o ∧ allR R H Fo a = some o := fun {a j} h => by
    obtain ⟨o, e⟩ := S.there (foi h)
    exact ⟨o, e, by rw [allR_in ⟨j, h⟩]; exact e⟩
  have same : Same R (allR R H Fo) := fun a o e => by
    rw [allR_out fun ⟨j, h⟩ => by rw [S.fr j a (foi h)] at e; cases e]
    exact e
  refine ⟨v, u, G, allR R H Fo, hv, pl H (fun _ _ _ e => e) (fun b _ e => S.ph b _ e), same, fun a h1 h2 => by rw [allR_out fun ⟨j, h⟩ => h2 j (foi h)]; exact h1, hG, ?_, ?_⟩
  · exact
    { rh := fun a o e n => by
        by_cases q : ∃ j, a ∈ Fo j
        · rw [allR_in q] at e; exact e
        · rw [allR_out q] at e; exact S.rh _ _ e n
      tb := fun p hp => ⟨(S.tb p hp).1, by rw [allR_out fun ⟨j, h⟩ => (S.tb p hp).2 (S.fr j _ (foi h))]; exact (S.tb p hp).2⟩
      ph := S.ph
      rp := fun a e => by
        by_cases q : ∃ j, a ∈ Fo j
        · obtain ⟨j, q⟩ := q; exact S.fp j a (foi q)
        · rw [allR_out q] at e; exact S.rp a e
      slot := fun j z e => by
        cases j with
        | zero => cases e; exact ⟨u, rfl, oy⟩
        | succ j => simp at e
      dead := fun j h => by
        cases j with
        | zero => exact absurd rfl (h y)
        | succ j => simp
      nd := fun j => by
        cases j with
        | zero => exact n4
        | succ j => simp
      dj := fun j k a hjk h => by
        cases j with
        | zero => cases k with
          | zero => exact absurd rfl hjk
          | succ k => simp
        | succ j => simp at h
      fr := fun j a h => by
        cases j with
        | zero => rw [allR_out (gno a (by simpa using h))]; exact S.fr i a (hG a (by simpa using h))
        | succ j => simp at h
      fp := fun j a h => by
        cases j with
        | zero => exact S.fp i a (hG a (by simpa using h))
        | succ j => simp at h
      len := rfl
      pin := fun j hj => by cases hj
      nt := fun a xs e => by
        by_cases q : ∃ j, a ∈ Fo j
        · rw [allR_in q] at e; obtain ⟨j, q⟩ := q; exact S.notup (foi q) xs e
        · rw [allR_out q] at e; exact S.nt a xs e }
  · intro y' P' H' Fs' pp Sv
    obtain ⟨u', h1, oy'⟩ := Sv.slot 0 y' rfl
    cases h1
    have keep : ∀ {a j}, a ∈ Fo j → ∀ o, H a = some o → H' a = some o := fun {a j} h o e => Sv.rh a o (by rw [allR_in ⟨j, h⟩]; exact e) (S.nota (S.fr j a (foi h)))
    have whole := rb pp (fun b hb => hb.elim (fun z => keep (fo1 z)) fun z => keep (fo2 z)) oy'
    have nz : ∀ {a}, R a ≠ none → allR R H Fo a ≠ none := fun {a} h => by
      cases q : R a with
      | none => exact absurd q h
      | some o => rw [same _ _ q]; simp
    have no0 : ∀ {a j}, a ∈ Fo j → allR R H Fo a ≠ none := fun {a j} h => by
      obtain ⟨o, _, e⟩ := rvs h
      rw [e]; simp
    have ap0 : ∀ {a k j}, a ∈ Fs' k → a ∉ Fo j := fun {a k j} h z => no0 z (Sv.fr k a h)
    refine ⟨fun j => if j = i then pre ++ (Fs' 0 ++ post) else Fs j, ?_, ?_⟩
    · exact
      { rh := Same.transX same Sv.rh
        tb := fun p hp => ⟨(Sv.tb p hp).1, (S.tb p hp).2⟩
        ph := Sv.ph
        rp := fun a h => Sv.rp a (nz h)
        slot := fun j z e => by
          by_cases hj : j = i
          · subst hj
            rw [List.getElem?_set_self hil] at e
            cases e
            exact ⟨v, hv, by simpa using whole⟩
          · rw [List.getElem?_set_ne (Ne.symm hj)] at e
            simp only [hj, if_false]
            obtain ⟨w, w1, w2⟩ := S.slot j z e
            exact ⟨w, w1, w2.keep pp fun a ha o eo => keep (fo3 hj ha) o eo⟩
        dead := fun j h => by
          by_cases hj : j = i
          · subst hj
            exact absurd (List.getElem?_set_self hil) (h _)
          · simp only [hj, if_false]
            refine S.dead j fun z e => h z ?_
            rw [List.getElem?_set_ne (Ne.symm hj)]
            exact e
        nd := fun j => by
          by_cases hj : j = i
          · simp only [hj, if_true]
            refine List.nodup_append.mpr ⟨n1, List.nodup_append.mpr ⟨Sv.nd 0, n5, fun a ha b hb e => ?_⟩, fun a ha b hb e => ?_⟩
            · subst e; exact ap0 ha (fo2 hb)
            · subst e
              rcases List.mem_append.mp hb with z | z
              · exact ap0 z (fo1 ha)
              · exact n3 a ha a (List.mem_append_right _ z) rfl
          · simp only [hj, if_false]; exact S.nd j
        dj := fun j k a hjk h => by
          have cross : ∀ {k}, k ≠ i → a ∈ pre ++ (Fs' 0 ++ post) → a ∉ Fs k := fun {k} hk h z => by
            rcases List.mem_append.mp h with h | h
            · exact S.dj i k a (Ne.symm hk) (hpre a h) z
            · rcases List.mem_append.mp h with h | h
              · exact ap0 h (fo3 hk z)
              · exact S.dj i k a (Ne.symm hk) (hpost a h) z
          by_cases hj : j = i
          · simp only [hj, if_true] at h
            by_cases hk : k = i
            · exact absurd (hj.trans hk.symm) hjk
            · simp only [hk, if_false]; exact cross hk h
          · simp only [hj, if_false] at h
            by_cases hk : k = i
            · simp only [hk, if_true]; exact fun z => cross hj z h
            · simp only [hk, if_false]; exact S.dj j k a hjk h
        fr := fun j a h => by
          by_cases hj : j = i
          · simp only [hj, if_true] at h
            rcases List.mem_append.mp h with h | h
            · exact S.fr i a (hpre a h)
            · rcases List.mem_append.mp h with h | h
              · exact same.free (Sv.fr 0 a h)
              · exact S.fr i a (hpost a h)
          · simp only [hj, if_false] at h; exact S.fr j a h
        fp := fun j a h => by
          by_cases hj : j = i
          · simp only [hj, if_true] at h
            rcases List.mem_append.mp h with h | h
            · exact Sv.rp a (no0 (fo1 h))
            · rcases List.mem_append.mp h with h | h
              · exact Sv.fp 0 a h
              · exact Sv.rp a (no0 (fo2 h))
          · simp only [hj, if_false] at h; exact Sv.rp a (no0 (fo3 hj h))
        len := by rw [List.length_set]; exact S.len
        pin := S.pin
        nt := S.nt }
    · intro a ha hno j hj
      by_cases e : j = i
      · simp only [e, if_true] at hj
        rcases List.mem_append.mp hj with h | h
        · exact no0 (fo1 h) ha
        · rcases List.mem_append.mp h with h | h
          · exact hno 0 h
          · exact no0 (fo2 h) ha
      · simp only [e, if_false] at hj; exact no0 (fo3 e hj) ha
theorem PlV.keep {H H' : Hp} (hh : Same H H') {v u : V} {p : List Stp} (h : PlV mg H v p u) : PlV mg H' v p u := by
  induction h with
  | nil => exact .nil
  | fld h hc l t ih => exact .fld (hh _ _ h) hc l ih
  | ix h l t ih => exact .ix (hh _ _ h) l ih
  | tx h l t ih => exact .tx (hh _ _ h) l ih
  | key h l t ih => exact .key (hh _ _ h) l ih
end
/-! ### a place's data, frozen -/
def M.rdP (i : Nat) (pp : DEnv → Option (List Stp)) : M PyData := fun env => match (env[i]?).join, pp env with
  | some x, some p => (match (getP p x).bind OD.data with
    | some d => .ok d (env.set i (some (setP p x (.pur d))))
    | none => .no)
  | _, _ => .no
section
variable {X : Cx} {W : WX} {B : List Nat} {i : Nat} {pp : DEnv → Option (List Stp)} {e : Expr}
theorem ed_rdP (he : PL X B i e pp) : ED X W B e (M.rdP i pp) := PE_mono he fun σ H Q ⟨bv, R, P, Fs, env, S, q⟩ => by
  unfold M.rdP at q
  cases h1 : (env[i]?).join with
  | none => rw [h1] at q; exact q.elim
  | some x =>
    rw [h1] at q
    cases h2 : pp env with
    | none => rw [h2] at q; exact q.elim
    | some p =>
      rw [h2] at q
      simp only at q
      cases h3 : (getP p x).bind OD.data with
      | none => rw [h3] at q; exact q.elim
      | some d =>
        rw [h3] at q
        obtain ⟨y, hy, hd⟩ := Option.bind_eq_some_iff.mp h3
        have hx := join_some h1
        refine ⟨bv, R, P, Fs, env, p, x, y, S, hx, h2, hy, fun v u hv hpl => ?_⟩
        obtain ⟨v', u', G, Rv, hv', pl', _, _, _, Sv, back⟩ := S.focus2 hx hy
        rw [hv] at hv'
        cases hv'
        have eu := pl'.det hpl
        subst eu
        obtain ⟨w, hw, ow, fr, S2⟩ := Sv.take (i := 0) (x := y) rfl
        cases hw
        have S3 := S2.freeze fr
        have S4 := S3.put (i := 0) (v := u') rfl (.pur (ow.toRp Sv.ph hd)) Free.nil
        obtain ⟨Fs2, S5, _⟩ := back (y' := .pur d) (joinR_same S.ph) S4
        exact q u' _ H Fs2 S5 (joinR_same S.ph) (ow.toRp Sv.ph hd)
end
/-! ### expressions that change nothing -/
def tOQ (K : PySem.W.Frag) (mg : Str → Option Value) (B : List Nat) (m : DEnv → Option OD) : TE := fun σ H Q => ∃ bv R P Fs env y, Sta K mg B bv R P H Fs σ env ∧ m env = some y ∧
  ∀ v P' H' G, Ext P H P' H' → Ow K mg P' H' G v y → Free R P' Fs G → Q v H'
abbrev EQ (X : Cx) (B : List Nat) (e : Expr) (m : DEnv → Option OD) : Prop := PE X e (tOQ X.K X.mg B m)
def purS (i : Nat) : DEnv → Option OD := fun env => match (env[i]?).join with
  | some (.pur d) => some (.pur d)
  | _ => none
def pursD : List OD → Option (List PyData)
  | [] => some []
  | .pur d :: xs => (pursD xs).map (d :: ·)
  | _ :: _ => none
theorem purs_owl {K : PySem.W.Frag} {mg : Str → Option Value} {P H : Hp} : ∀ {xs : List OD} {ds : List PyData} {F : List Addr} {vs : List V}, pursD xs = some ds → OwL K mg P H F vs xs → RpA K P vs ds
  | [], _, _, _, e, .nil => by cases e; exact .nil
  | .pur d :: xs, _, _, _, e, .cons h t => by
    unfold pursD at e
    obtain ⟨ds, h1, rfl⟩ := Option.map_eq_some_iff.mp e
    exact .cons h.pur_inv (purs_owl h1 t)
section
variable {X : Cx} {W : WX} {B : List Nat} {i : Nat} {pp : DEnv → Option (List Stp)} {e : Expr}
theorem eq_var (i : Nat) {x : Str} {pos : Pos} (hN : X.N[i]? = some x := by rfl) (hv : Vis X.env.scope x := by first | exact Or.inl rfl | exact Or.inr (Or.inl rfl) | exact Or.inr (Or.inr rfl)) (hd : (x == ("__debug__" : Str)) = false := by decide)
    (hcd : (x == ("__classdict__" : Str)) = false := by decide) : EQ X B (.Name x pos) (purS i) := PE_mono (pe_var hN hv hd hcd) fun σ H Q ⟨bv, R, P, Fs, env, y, S, hm, k⟩ => by
  unfold purS at hm
  split at hm
  · rename_i d hx
    cases hm
    obtain ⟨v, h1, o⟩ := S.slot i _ (join_some hx)
    exact ⟨v, h1, k v P H [] (.refl S.ph) (.pur o.pur_inv) Free.nil⟩
  · cases hm
/-! ### place.append(e) -/
def M.appP (i : Nat) (pp : DEnv → Option (List Stp)) (m : DEnv → Option OD) : M OD := fun env => match (env[i]?).join, pp env, m env with
  | some x, some p, some y => (match getP p x with
    | some (.lst zs) => if zs.length < 16777216 then .ok (.pur .none) (env.set i (some (setP p x (.lst (zs ++ [y]))))) else .no
    | _ => .no)
  | _, _, _ => .no
theorem eo_appP {o : Expr} {m : DEnv → Option OD} {apos cpos : Pos} (ho : PL X B i o pp) (he : EQ X B e m)
    (hbase : attributeBase o "append" X.env (eval o X.env) = eval o X.env := by rfl)
    (hfew : ((backTo cpos (starEach (e :: []) X.env)).all (fun x => !x.1) && (backToKw cpos (keywordEach [] X.env)).all (fun x => x.1.isSome)
      && decide ((e :: ([] : List Expr)).length + ([] : List Keyword).length + (if ([] : List Keyword).isEmpty then 0 else 1) < 30)) = true := by rfl)
    (hline : (apos.endLine == cpos.line) = true := by rfl) (hs : starEach (e :: []) X.env = (false, eval e X.env) :: starEach [] X.env := by rfl) :
    EO X W B (.Call (.Attribute o "append" apos) [e] [] cpos) (M.appP i pp m) :=
  PE_mono (pe_bm PySem.F.plainAttrs_list PySem.F.slot_list_append PySem.F.type_list_append mt_append ho (pa_cons he pa_nil hs) hbase hfew hline hs rfl) fun σ H Q ⟨bv, R, P, Fs, env, S, q⟩ => by
    unfold M.appP at q
    cases h1 : (env[i]?).join with
    | none => rw [h1] at q; exact q.elim
    | some x =>
      rw [h1] at q
      cases h2 : pp env with
      | none => rw [h2] at q; exact q.elim
      | some p =>
        rw [h2] at q
        cases h3 : m env with
        | none => rw [h3] at q; exact q.elim
        | some y =>
          rw [h3] at q
          simp only at q
          cases h4 : getP p x with
          | none => rw [h4] at q; exact q.elim
          | some z =>
            rw [h4] at q
            have hx := join_some h1
            cases z with
            | lst zs =>
              simp only at q
              split at q
              · rename_i hz
                refine ⟨bv, R, P, Fs, env, p, x, _, S, hx, h2, h4, fun v u hv pl => ?_⟩
                have tl : ∃ a vs, u = .ref a ∧ H a = some (.lst vs) := by
                  obtain ⟨v', u', G, Rv, hv', pl', _, _, _, Sv, _⟩ := S.focus2 hx h4
                  rw [hv] at hv'
                  cases hv'
                  have eu := pl'.det pl
                  subst eu
                  obtain ⟨w0, hw0, oz⟩ := Sv.slot 0 _ rfl
                  cases hw0
                  obtain ⟨a, F0, vs, rfl, _, hH, ol⟩ := oz.lst_inv
                  exact ⟨a, vs, rfl, hH⟩
                obtain ⟨a, vs0, rfl, hH0⟩ := tl
                refine ⟨.inl ⟨rfl, _, .inl (.inl hH0)⟩, bv, R, P, Fs, env, y, S, h3, fun w P' H' G ex ow fr => ?_⟩
                have S1 := S.ext ex
                obtain ⟨v', u', G0, Rv, hv', pl', sR, fR, gF, Sv, back⟩ := S1.focus2 hx h4
                rw [hv] at hv'
                cases hv'
                have eu := pl'.det (pl.keep ex.hh)
                subst eu
                obtain ⟨a1, vs, F0, hu, hF, hH, ol, nd, hl⟩ := at_lst Sv (i := 0) (xs := zs) rfl
                obtain rfl : a = a1 := by cases hu; rfl
                have fr' : Free Rv P' (fun j => if j = 0 then G0 else []) G := ⟨fr.nd, fun b hb => fR b (fr.r b hb) fun j => fr.f b hb j, fr.p, fun b hb j hj => by
                  by_cases z : j = 0
                  · simp only [z, if_true] at hj
                    exact fr.f b hb i (gF b hj)
                  · simp only [z, if_false] at hj
                    cases hj⟩
                have nap : (a :: (F0 ++ G)).Nodup := by
                  obtain ⟨n1, n2⟩ := List.nodup_cons.mp nd
                  refine List.nodup_cons.mpr ⟨fun z => ?_, List.nodup_append.mpr ⟨n2, fr.nd, fun b hb c hc e => ?_⟩⟩
                  · rcases List.mem_append.mp z with z | z
                    · exact n1 z
                    · exact fr'.f a z 0 (by rw [hF]; exact List.mem_cons_self)
                  · subst e; exact fr'.f b hc 0 (by rw [hF]; exact List.mem_cons_of_mem _ hb)
                have S2 := chg_lst (ys := vs ++ [w]) (zs := zs ++ [y]) Sv rfl hF (ol.snoc ow) nap (fun b hb => List.mem_append.mp hb) fr'
                obtain ⟨Fs2, S3, _⟩ := back (y' := .lst (zs ++ [y])) (Same.refl _) S2
                exact ⟨a, vs, w, rfl, rfl, hH, by rw [sizeLine_eq]; omega, q .non P' _ Fs2 [] S3 ex.pp (.pur .non) Free.nil⟩
              · exact q.elim
            | _ => exact q.elim
end
end DL

set_option maxHeartbeats 2000000
/-! DL92: min(x, key=lambda p: p[0]), x a list of lists. -/
namespace DL
open PySem PySem.Spec PyProof.Rows L2 LamX PySem.W
/-- the context of a lambda's body of which its one parameter alone is looked at -/
def lamCx0 (X : Cx) (A : Around) (outer : List Env) (s : Shared) (H : Hp) (scope : Scope) (p : Str) (f c' : Addr) : Cx where
  prog := X.prog
  w := X.w
  K := X.K
  mg := X.mg
  base := X.base
  A := A.deeper (lamEnv X scope s.heap.objs.size f c')
  N := [p]
  s_0 := s
  H_0 := H
  env := lamEnv X scope s.heap.objs.size f c'
  outer := outer
  stack := lamEnv X scope s.heap.objs.size f c' :: outer
  ex := []
  fn := fun _ => false
  calm := true
  pn := []
  xe := fun _ _ => False
section
variable {X : Cx} {pins : List (Addr × Obj)} {σ : L2.St} {H : Hp} {s : Shared}
theorem lam_start0 {A : Around} {outer : List Env} {scope : Scope} {p : Str} {f c' : Addr} {h₁ : Heap} {tk : Nat} {v : V} {u : Value} (I : Inv X pins σ H s) (L : LamS1 X.env.scope scope p) (rv : RelV v u) (e0 : Env0 X.prog X.w X.K X.mg X.base A outer s H) (hd : A.handled = none)
    (hns : h₁.Ns s.heap.objs.size fun y => ([(p, u)] : List (Str × Value)).reverse.lookup y) (kp : ∀ b o, s.heap.get? b = some o → h₁.get? b = some o) :
    Inv (lamCx0 X A outer s H scope p f c') [] [some v] H { s with heap := h₁, toks := tk } := by
  have hfree := L.has I.ok
  have cm : ∀ {y c}, (cloFrom X.env.cells scope.names []).lookup y = some c → X.env.cells.lookup y = some c := fun {y c} e => by
    rcases cloFrom_mem (PySem.mem_of_lookup e) with hm | ⟨h1, h2⟩
    · cases hm
    · obtain ⟨c1, hc⟩ := hfree _ h1 rfl
      have hc : X.env.cells.lookup y = some c1 := hc
      have e2 : c = c1 := by
        rw [h2, hc] <;> rfl
      rw [e2]
      exact hc
  have look : ∀ {y}, scope.names.lookup y = some .free → ∃ c, (cloFrom X.env.cells scope.names []).lookup y = some c := fun {y} hl => by
    have hy : (y, NameKind.free) ∈ scope.names := PySem.mem_of_lookup hl
    exact mem_lookup (cloFrom_has (cells := X.env.cells) (acc := []) hy)
  have cellK : ∀ {c : Addr} {v : Option Value}, s.heap.IsCell c v → h₁.IsCell c v := fun {c v} ⟨o, ho, hd⟩ => ⟨o, kp _ _ ho, hd⟩
  have noA : ∀ b : Addr, b ∉ (lamCx0 X A outer s H scope p f c').ex := fun b z => absurd (show b ∈ ([] : List Addr) from z) (by simp)
  refine ⟨⟨e0.mod, L.kind, rfl, rfl, Nat.le_refl _, fun y z c e1 e2 => I.ok.inj y z c (cm e1) (cm e2), fun y hy => ?_, fun y c z _ => ?_, fun _ => hd, Around.frames_deeper e0.frames, .inr ⟨rfl, rfl⟩, fun b z => absurd z (noA b), e0.bs, e0.bsz, fun b _ _ => noA b,
      fun b z => absurd z (noA b), e0.funs, e0.frf⟩,
    rfl, e0.bare, Un.kept kp, ⟨_, hns, fun i y v' e1 e2 e3 => ?_⟩, fun y c e => ?_, e0.hok.fresh (Nat.le_refl _), fun y c e => I.freeC y c (cm e), fun q hq => absurd (show q ∈ ([] : List (Addr × Obj)) ++ [] from hq) (by simp), e0.hok.kept kp, rfl⟩
  · have hy : scope.names.lookup y = some .cell ∨ scope.names.lookup y = some .free := hy
    rcases hy with hy | hy
    · exact absurd rfl (L.own _ (PySem.mem_of_lookup hy)).2
    · exact look hy
  · have z : false = true := z
    cases z
  · have e1 : [p][i]? = some y := e1
    cases i with
    | succ j => simp at e1
    | zero =>
      simp at e1 e2
      subst e1 e2
      exact ⟨u, rv, .inl ⟨L.par, by simp⟩⟩
  · obtain ⟨w', z⟩ := I.cell y c (cm e)
    exact ⟨w', cellK z⟩
end
/-- the first of the least keys -/
def minIx (kds : List PyData) : Nat := argBest (fun i j => dataLt (kds.getD i .none) (kds.getD j .none)) (kds.length - 1)
def okMin (kds : List PyData) : Prop := (∀ d ∈ kds, ∀ d' ∈ kds, alike d d' = true) ∧ ∀ d ∈ kds, d ≠ .none ∧ d.depth ≤ 30
def tMinH (K : PySem.W.Frag) (mg : Str → Option Value) (tl : TE) : TE := fun σ H Q => tl σ H fun v H1 => ∃ (B : List Nat) (bv : Nat → V) (R P : Hp) (Fs : Nat → List Addr) (σ' : L2.St) (env : DEnv) (l : Addr) (xs : List V) (kds : List PyData),
  Sta K mg B bv R P H1 Fs σ' env ∧ v = .ref l ∧ Rd H1 l (.lst xs) ∧ kds.length = xs.length ∧ 0 < xs.length ∧ okMin kds ∧
  (∀ (k : Nat) x d, xs[k]? = some x → kds[k]? = some d → ∃ a w ws, x = .ref a ∧ Rd H1 a (.lst (w :: ws)) ∧ Rp K P w d) ∧
  ∀ H2 x, Sta K mg B bv R P H2 Fs σ' env → (∀ b o, H1 b = some o → b ∉ TbA K → H2 b = some o) → xs[minIx kds]? = some x → Q x H2
theorem vals_refs : ∀ {xs : List V} {us us' : List Value}, (∀ x ∈ xs, ∃ a, x = .ref a) → Vals xs us → Vals xs us' → us = us'
  | _, _, _, _, .nil, .nil => rfl
  | _, _, _, h, .cons r t, .cons r' t' => by
    obtain ⟨a, rfl⟩ := h _ List.mem_cons_self
    have e1 : _ = Value.ref a := r
    have e2 : _ = Value.ref a := r'
    rw [e1, e2, vals_refs (fun x hx => h x (List.mem_cons_of_mem _ hx)) t t']
section
variable {X : Cx}
theorem pe_minH {k : Nat} {e : Expr} {tl : TE} {params : Arguments} {scope : Scope} {p qual : Str} {np lpos kpos pos p1 p2 p3 : Pos} {k0 : Nat} (g : Gd X) (hr : Room (k + 1) X.A) (hcm : X.calm = true) (LT : LamT X.K X.mg X.base X.env.code qual) (hq : X.env.qual = qual ++ ".<locals>.")
    (L : LamS1 X.env.scope scope p) (hg : Gl X "min") (hm : X.mg "min" = none) (hdef : defaultsOf params X.env = ([], []))
    (hbind : ∀ (q : Str) (cl : List (Str × Addr)) (pm cv ctv u : Value), bindArgs (PySem.W.kla_fn "<lambda>" q params (.Subscript (.Name p p1) (.Constant (.int 0) k0 p2) p3) scope cl pm cv ctv) ⟨[u], []⟩ = pure [(p, u)])
    (hpd : (p == ("__debug__" : Str)) = false) (hpc : (p == ("__classdict__" : Str)) = false)
    (he : PE X e tl)
    (na : backTo pos (starEach [e] X.env) = (false, eval e X.env) :: backTo pos (starEach [] X.env) := by rfl) (hpl : (backTo pos (starEach [e] X.env)).any (·.1) = false := by rfl) :
    PE X (.Call (.Name "min" np) [e] [⟨some "key", .Lambda params (.Subscript (.Name p p1) (.Constant (.int 0) k0 p2) p3) scope lpos, kpos⟩] pos) (tMinH X.K X.mg tl) := ⟨fun pins s σ H Q I h => by
  obtain ⟨c, Pt, hcd, TB, hmT, huT⟩ := LT.ex
  have mem : Pt ∈ TbA X.K := List.mem_map.mpr ⟨_, hmT, rfl⟩
  refine wpAny_Call_Name_kw (ld_blt I hg hm (by decide +kernel : bootBuiltins "min" = some (.builtin "min")) ?_)
  refine callWith_kw ?_ na hpl
  rw [na]
  refine Calls.spliced_cons (thn (he.run pins s σ H _ I h) fun u s1 ⟨v, H1, I1, r1, B, bv, R, P, Fs, σ', env, l, xs, kds, S1, ev, hl, hlen, hpos, ok, hk, q⟩ => ?_)
  subst ev
  obtain rfl : u = Value.ref l := r1
  refine Calls.spliced_nil ?_
  show wpAny _ _ (evalAll [do let v ← eval (.Lambda params (.Subscript (.Name p p1) (.Constant (.int 0) k0 p2) p3) scope lpos) X.env; standAt pos; pure v]) _ _ s1
  have hT1 : Tabs (tabsOf X.K) H1 := fun p hp => (S1.tb p hp).1
  refine wpAny_evalAll_cons (wpAny_bind (lam_make3 I1 TB hcd (by rw [hq]; exact hmT) (by rw [hq]; exact huT) hT1 hdef (L.has I1.ok) fun f c' pm ctv H2 s2 I2 e2 T2 hf hfn hfr hco => wpAny_bind (wpAny_standAt (wpAny_pure (wpAny_evalAll_nil ?_)))))
  have S2 := S1.grown mem e2 T2
  have nt : ∀ {b o}, H1 b = some o → (∀ ps, o ≠ .tbl ps) → b ≠ Pt := fun {b o} e n z => by
    obtain ⟨ps, e3⟩ := S1.tbl mem
    rw [z, e3] at e
    exact n ps (Option.some.inj e).symm
  have rd2 : ∀ {b ys}, Rd H1 b (.lst ys) → Rd H2 b (.lst ys) := fun {b ys} h => by
    rcases h with h | ⟨o, h⟩
    · exact .inl (e2 _ _ h (nt h fun ps z => by cases z))
    · exact .inr ⟨o, e2 _ _ h (nt h fun ps z => by cases z)⟩
  have hl2 : SqL X.K H2 l xs := .inl (rd2 hl)
  show wpAny _ _ (call (.builtin "min") [.ref l] [(Str.ofString "key", .ref f)]) _ _ s2
  obtain ⟨its, rv, pl, hz⟩ := I2.list hl2
  have il : its.length = xs.length := rv.length.symm
  have xrefs : ∀ x ∈ xs, ∃ a, x = V.ref a := fun x hx => by
    obtain ⟨j, hj⟩ := List.getElem?_of_mem hx
    have hjl := (List.getElem?_eq_some_iff.mp hj).1
    obtain ⟨a, w, ws, e, _⟩ := hk j x _ hj (List.getElem?_eq_getElem (show j < kds.length by omega))
    exact ⟨a, e⟩
  have hd0 : X.A.handled = none := I2.ok.hd hcm
  refine call_min_walkK (iter_listW (A := X.A.in1) hd0 pl.isList fun s3 e3 W st hfp hw hk3 => ?_)
  have itN : H2 s2.heap.objs.size = none := I2.hok.fresh (Nat.le_refl _)
  have sz3 : s3.heap.objs.size = s2.heap.objs.size + 1 := by rw [e3]; exact Heap.size_push ..
  have SN : H2 s3.heap.objs.size = none := I2.hok.fresh (by rw [sz3]; exact Nat.le_succ _)
  have fpI : FpOk X pins H2 s2.heap.objs.size := I2.fpOk (Nat.le_refl _) itN
  have fpS : FpOk X pins H2 s3.heap.objs.size := I2.fpOk (by rw [sz3]; exact Nat.le_succ _) SN
  have nofr : ∀ a, s2.heap.objs.size ≤ a → a ∉ frs X.stack := fun a ha z => by
    rcases List.mem_cons.mp (I2.stkSub _ z) with e | e
    · exact absurd I2.lt (Nat.not_lt.mpr (e ▸ ha))
    · exact I2.nofs ha e
  have I3 : Inv X pins σ H2 s3 := by
    have := I2.kept (h' := s3.heap) (t' := s2.toks) hk3
    rw [e3] at this ⊢
    exact this
  have hf3 := hk3 _ _ hf
  have fS : f ≠ s3.heap.objs.size := fun z => by
    have h1 : f < s2.heap.objs.size := Heap.lt_size hf
    rw [sz3] at z
    rw [z] at h1
    exact absurd h1 (Nat.not_lt.mpr (Nat.le_succ _))
  have fI : f ≠ s2.heap.objs.size := fun z => by
    have h1 := Heap.lt_size hf
    rw [z] at h1
    exact Nat.lt_irrefl _ h1
  have hcode : ∃ (oc : Obj) (vs : Array Value) (t : Tok), (∀ s' : Shared, Inv X pins σ H2 s' → ∃ (oc : Obj) (vs : Array Value) (t : Tok), s'.heap.get? c' = some oc ∧ oc.data = .fields vs ∧ vs[1]? = some (.str (X.env.qual ++ "<lambda>") t)) := by
    obtain ⟨ps2, h1, h2, h3⟩ := hco
    obtain ⟨⟨ps3, hp3, ht3, ha3⟩, _⟩ := S2.tb _ hmT
    have hp3 : H2 Pt = some (.tbl ps3) := hp3
    rw [h1] at hp3
    cases hp3
    obtain ⟨c2, e4, e5⟩ := ha3 lpos (.ref c') h3
    cases e4
    refine ⟨default, #[], default, fun s' I' => ?_⟩
    obtain ⟨z, _, _⟩ := I'.hok c' _ e5
    rw [hq]
    exact z
  obtain ⟨_, _, _, hcode⟩ := hcode
  refine ⟨_, _, _, _, _, _, _, fun s' => Inv X pins σ H2 s' ∧ s'.heap.get? f = some (PySem.W.kla_obj "<lambda>" (X.env.qual ++ "<lambda>") params (.Subscript (.Name p p1) (.Constant (.int 0) k0 p2) p3) scope (cloFrom X.env.cells scope.names []) pm c' ctv),
    fun i k _ => ∃ w d, kds[i]? = some d ∧ RelV w k ∧ Rp X.K P w d, fun i j => dataLt (kds.getD i .none) (kds.getD j .none), rfl, W, st, hfp, by simpa [il] using hpos, ⟨?keep, fun i k s s' h _ => h, ?turn, ?cmp⟩, ⟨I3, hf3⟩, fun v s' hP hJ => ?done⟩
  case keep =>
    rintro t t' ⟨It, ft⟩ mv
    have It' := It.turnedL (h' := t'.heap) (t' := t'.toks) (ch := [s3.heap.objs.size, s2.heap.objs.size]) (fun b o hb e => mv.heap b o hb e) (fun b hb => by
      simp only [List.mem_cons, List.not_mem_nil, or_false] at hb
      rcases hb with rfl | rfl
      · exact fpS
      · exact fpI)
    refine ⟨?_, mv.heap f _ (by simp only [List.mem_cons, List.not_mem_nil, or_false, not_or]; exact ⟨fS, fI⟩) ft⟩
    obtain ⟨h', g', d', tk, os⟩ := t'
    have e5 : g' = t.gens := mv.gens
    have e6 : d' = t.drawn := mv.drawn
    have e7 : os = t.os := mv.os
    subst e5 e6 e7
    exact It'
  case cmp =>
    rintro i j ki kj t Q2 E2 ⟨It, ft⟩ ⟨w1, d1, h1, r1, p1⟩ ⟨w2, d2, h2, r2, p2⟩ hq2
    obtain ⟨as1, rd1, _⟩ := p1.reads g It S2.ph _ r1
    obtain ⟨as2, rd2, _⟩ := p2.reads g It S2.ph _ r2
    have m1 := List.mem_of_getElem? h1
    have m2 := List.mem_of_getElem? h2
    refine rcLt_alike d1 d2 X.A.in1 t ki kj as1 as2 rd1 rd2 (ok.1 _ m1 _ m2) (ok.2 _ m1).1 ?_ _ _ _ _ ?_
    · have := (ok.2 _ m1).2
      have := hr.un
      show X.A.units + 1 + _ < _
      omega
    · rw [List.getD_eq_getElem?_getD, List.getD_eq_getElem?_getD, h1, h2] at hq2
      exact hq2
  case turn =>
    rintro i v t oS Q2 E2 hi hv ⟨It, ft⟩ st2 hS k2
    have hil : i < its.length := by simpa using hi
    have hx : xs[i]? = some xs[i] := List.getElem?_eq_getElem (by omega)
    have hkd : kds[i]? = some kds[i] := List.getElem?_eq_getElem (by omega)
    obtain ⟨u2, hu2, rx⟩ := rv.get hx
    have eu : u2 = v := by
      have hv' : its.toArray[i]? = some v := hv
      rw [List.getElem?_toArray, hu2] at hv'
      exact Option.some.inj hv'
    subst eu
    obtain ⟨a, w, ws, ex, hra, hrp⟩ := hk i _ _ hx hkd
    have kp : ∀ {h₁ : Heap}, (∀ b o, b ≠ t.heap.objs.size → (t.heap.push default).get? b = some o → h₁.get? b = some o) → ∀ b o, t.heap.get? b = some o → h₁.get? b = some o := fun hsb b o e => hsb b o (Nat.ne_of_lt (Heap.lt_size e)) (Heap.get?_push_of_some _ e)
    obtain ⟨oc, vs, tq, hoc, hdc, hvc⟩ := hcode t It
    have rc : codeAny (model X.prog X.w) X.A.in1 (.call (.ref f) ⟨[u2], []⟩) (CR (fun _ _ _ _ _ _ => False) X.stack X.prog X.w H2 t (fun w' H4 => w' = w ∧ H4 = H2) (fun _ _ _ => False)) t := by
      refine PySem.W.kla_callFunE (by have := hr.dp; show X.A.depth < _; omega) ft rfl L.co L.gen rfl ⟨c', oc, vs, tq, rfl, hoc, hdc, hvc⟩ ?_
      rw [hbind]
      refine wpAny_pure (wpAny_newFunctionEnv (fun y hy => (L.own y hy).2) (fun y hy => by rw [List.mem_singleton.mp hy]; exact L.par) (fun h₁ hns hsb => ⟨It.nolimit.fresh _ hsb, ?_⟩) L.kind)
      show codeAny _ _ (.expr (.Subscript (.Name p p1) (.Constant (.int 0) k0 p2) p3) (lamEnv X scope t.heap.objs.size f c')) _ _
      have kp : ∀ b o, t.heap.get? b = some o → h₁.get? b = some o := fun b o e => hsb.extBut b o (Nat.ne_of_lt (Heap.lt_size e)) (Heap.get?_push_of_some _ e)
      have e0 : Env0 X.prog X.w X.K X.mg X.base X.A.in1 X.stack t H2 := let z := It.env0; ⟨z.frames, z.mod, z.bs, z.bsz, z.funs, z.frf, z.hok, z.bare⟩
      have J : Inv (lamCx0 X X.A.in1 X.stack t H2 scope p f c') [] [some xs[i]] H2 { t with heap := h₁, toks := t.toks + ([(p, u2)] : List (Str × Value)).length } := lam_start0 It L rx e0 hd0 hns kp
      have B0 : PE (lamCx0 X X.A.in1 X.stack t H2 scope p f c') (.Subscript (.Name p p1) (.Constant (.int 0) k0 p2) p3) _ := pe_ix ix_list (pe_var (i := 0) rfl (.inl L.par) hpd hpc) pe_int (by intro _ _; rfl)
      refine PySem.W.kla_codeExpr (wpAny_mono (B0.run [] _ _ H2 (fun w' H4 => w' = w ∧ H4 = H2) J ?_) (fun v s' hq => ?_) fun e s' hq => hq.elim)
      · exact ⟨xs[i], rfl, a, w :: ws, 0, w, ex, rfl, .inl (rd2 hra), by unfold atI ixN; simp, rfl, rfl⟩
      · obtain ⟨w', H', J', rv', q'⟩ := hq
        exact ⟨w', H', J'.os, J'.bare, J'.base, J'.hok, rv', q'⟩
    refine wpAny_call (codeAny_mono rc fun r s4 hq => ?_)
    cases r with
    | error e => exact hq.elim
    | ok fl =>
      cases fl with
      | ret u' =>
        obtain ⟨w', H4, os, bare, un, hok, rw_, rfl, rfl⟩ := hq
        obtain ⟨hh, gg, dd, tt, os'⟩ := s4
        obtain rfl : os' = t.os := os
        have I4 := It.call (h' := hh) (g' := gg) (d' := dd) (t' := tt) (ch := []) un hok bare (fun b z => absurd z (by simp))
        refine k2 u' _ ⟨I4, un.keep f _ ft hfn hfr (by simp)⟩ ⟨?_, ?_⟩ (un.keep _ _ hS SN (nofr _ (by rw [sz3]; exact Nat.le_succ _)) (by simp)) ⟨w', kds[i], hkd, rw_, hrp⟩ fun j k' h => h
        · obtain ⟨o, h1, h2⟩ := st2.1
          exact ⟨o, un.keep _ _ h1 itN (nofr _ (Nat.le_refl _)) (by simp), h2⟩
        · obtain ⟨its', rv', pl', _⟩ := I4.list hl2
          rw [vals_refs xrefs rv rv']
          exact pl'.isList
      | next => exact False.elim hq
      | brk => exact False.elim hq
      | cont => exact False.elim hq
  case done =>
    have hP' : its.toArray[argBest (fun i j => dataLt (kds.getD i .none) (kds.getD j .none)) (its.toArray.size - 1)]? = some v := hP
    rw [List.getElem?_toArray, List.size_toArray, il, ← hlen] at hP'
    obtain ⟨I', _⟩ := hJ
    have hlt := (List.getElem?_eq_some_iff.mp hP').1
    have hx : xs[minIx kds]? = some (xs[minIx kds]'(by show argBest _ _ < _; omega)) := List.getElem?_eq_getElem _
    obtain ⟨u2, hu2, rx⟩ := rv.get hx
    have eu : u2 = v := by
      have : its[minIx kds]? = some v := hP'
      rw [hu2] at this
      exact Option.some.inj this
    subst eu
    exact ⟨_, H2, I', rx, q H2 _ S2 (fun b o e n => e2 b o e fun z => n (z ▸ mem)) hx⟩⟩
end
end DL

set_option maxHeartbeats 2000000
/-! DL93: lists that a walk keeps track of by itself (R), beside the slots. -/
namespace DL
open PySem PySem.Spec PyProof.Rows L2 LamX PySem.W
/-- the state without slots -/
abbrev Z (K : PySem.W.Frag) (mg : Str → Option Value) (R P H : Hp) : Prop := Sta K mg [] b0 R P H (fun _ => []) [] []
/-- a list of data at an address -/
def At (K : PySem.W.Frag) (R P : Hp) (a : Addr) (ds : List PyData) : Prop := ∃ vs, R a = some (.lst vs) ∧ RpA K P vs ds
section
variable {K : PySem.W.Frag} {mg : Str → Option Value} {B : List Nat} {bv : Nat → V} {R R' P H H' : Hp} {Fs : Nat → List Addr} {σ : L2.St} {env : DEnv}
theorem upd_self {R : Hp} {a : Addr} {o : HO} (h : R a = some o) : upd R a o = R := by
  funext b
  by_cases e : b = a
  · rw [e, upd_same, h]
  · rw [upd_ne e]
theorem Z.wr {a : Addr} {u u' : HO} (z : Z K mg R P H) (h : R a = some u) (ha : a ∉ TbA K) (hn : ∀ xs, u' ≠ .tup xs := by intro _ z; cases z) (hx : ∀ φ, u ≠ .ext φ := by intro _ z; cases z) : Z K mg (upd R a u') P (upd H a u') := by
  have z' : Sta K mg [] b0 (upd R a u) P H (fun _ => []) [] [] := by rw [upd_self h]; exact z
  have r := z'.write (u' := u') ha hn hx
  have e : upd (upd R a u) a u' = upd R a u' := upd_upd
  first | exact r | (rw [e] at r; exact r)
theorem Z.new {a : Addr} {u : HO} (z : Z K mg R P H) (h : H a = none) (hn : ∀ xs, u ≠ .tup xs := by intro _ z; cases z) : Z K mg (upd R a u) P (upd H a u) := z.newR h hn
theorem Z.junk {a : Addr} (z : Z K mg R P H) (o : HO) (h : H a = none) : Z K mg R P (upd H a o) := Sta.ext z (ext_heap z.ph o h)
theorem Z.of (S : Sta K mg B bv R P H Fs σ env) : Z K mg (allR R H Fs) P H := S.bare (σZ := []) (n := 0) (BZ := []) (bz := b0) rfl fun i h => nomatch h
theorem At.put {a b : Addr} {u : HO} {ds : List PyData} (h : At K R P a ds) (n : a ≠ b) : At K (upd R b u) P a ds := by
  obtain ⟨vs, h1, h2⟩ := h
  exact ⟨vs, by rw [upd_ne n]; exact h1, h2⟩
/-- the slots are nothing: the state of a body that is left -/
theorem Z.to {n : Nat} (z : Z K mg R P H) (hl : σ.length = n) : Sta K mg [] bv R P H (fun _ => []) σ (List.replicate n none) where
  rh := z.rh
  tb := z.tb
  ph := z.ph
  rp := z.rp
  slot := fun i x h => by
    rw [List.getElem?_replicate] at h
    split at h <;> cases h
  dead := fun _ _ => rfl
  nd := fun _ => .nil
  dj := fun i j a _ h => nomatch h
  fr := fun i a h => nomatch h
  fp := fun i a h => nomatch h
  len := by rw [hl, List.length_replicate]
  pin := fun i h => nomatch h
  nt := z.nt
/-- x != [] of a list -/
theorem ne_law {i : Nat} {a : Addr} {vs : List V} {Q : Bool → Hp → Prop} (h1 : σ[i]? = some (some (.ref a))) (h2 : Rd H a (.lst vs)) (q : ∀ p, H p = none → Q (!vs.isEmpty) (upd H p (.lst []))) : tTest (tOp (rNeX K) (tVar i) (tLst tNil)) σ H Q := by
  refine ⟨.ref a, h1, Nat.zero_le _, fun p hp => ?_⟩
  have h3 : Rd (upd H p (.lst [])) a (.lst vs) := by
    rcases h2 with h | ⟨o, h⟩
    · exact .inl (by rw [upd_ne (ne_of_none h hp)]; exact h)
    · exact .inr ⟨o, by rw [upd_ne (ne_of_none h hp)]; exact h⟩
  cases vs with
  | nil => exact .inl ⟨upd H p (.lst []), .list [], .list [], Same.refl _, .lst h3 .nil, .lst (.inl upd_same) .nil, by decide, by decide, _, rfl, q p hp⟩
  | cons v vs => exact .inr ⟨a, p, v :: vs, [], rfl, rfl, h3, .inl upd_same, by simp, _, rfl, q p hp⟩
end
end DL

set_option maxHeartbeats 2000000
/-! DL94: lots of rows: the ones that aren't empty, copied and kept. -/
namespace DL
open PySem PySem.Spec PyProof.Rows L2 LamX PySem.W
/-- a lot: where it lies, its rows -/
abbrev Lot : Type := Addr × List PyData
def neL0 (q : Lot) : Bool := !q.2.isEmpty
/-- the lots lie there -/
structure Lots (K : PySem.W.Frag) (R P : Hp) (ps : List Lot) : Prop where
  at_ : ∀ q ∈ ps, At K R P q.1 q.2
def refs (ps : List Lot) : List V := ps.map fun q => .ref q.1
theorem Lots.put {K : PySem.W.Frag} {R P : Hp} {ps : List Lot} {b : Addr} {u : HO} (h : Lots K R P ps) (n : b ∉ ps.map Prod.fst) : Lots K (upd R b u) P ps := ⟨fun q hq => (h.at_ q hq).put fun z => n (z ▸ List.mem_map.mpr ⟨q, hq, rfl⟩)⟩
theorem Lots.sub {K : PySem.W.Frag} {R P : Hp} {ps qs : List Lot} (h : Lots K R P ps) (s : ∀ q ∈ qs, q ∈ ps) : Lots K R P qs := ⟨fun q hq => h.at_ q (s q hq)⟩
section
variable {K : PySem.W.Frag} {mg : Str → Option Value} {R0 R R' P H H' : Hp} {σ : L2.St}
/-- what is tracked: R0 stays, the addresses as are new -/
structure Trk (K : PySem.W.Frag) (mg : Str → Option Value) (R0 R P H : Hp) (as : List Addr) : Prop where
  z : Z K mg R P H
  s : Same R0 R
  nd : as.Nodup
  new : ∀ a ∈ as, R0 a = none ∧ a ∉ TbA K
  tr : ∀ a ∈ as, R a ≠ none
variable {as bs : List Addr}
theorem Trk.hp (t : Trk K mg R0 R P H as) {a : Addr} {o : HO} (ha : a ∈ as) (h : R a = some o) : H a = some o := t.z.rh a o h (t.new a ha).2
theorem Trk.wr (t : Trk K mg R0 R P H as) {a : Addr} {u u' : HO} (ha : a ∈ as) (h : R a = some u) (hn : ∀ xs, u' ≠ .tup xs := by intro _ z; cases z) (hx : ∀ φ, u ≠ .ext φ := by intro _ z; cases z) : Trk K mg R0 (upd R a u') P (upd H a u') as :=
  ⟨t.z.wr h (t.new a ha).2 hn hx, fun b o e => by rw [upd_ne fun z => by rw [z, (t.new a ha).1] at e; cases e]; exact t.s b o e, t.nd, t.new, fun b hb => by
    by_cases e : b = a
    · rw [e, upd_same]; simp
    · rw [upd_ne e]; exact t.tr b hb⟩
theorem Trk.nw (t : Trk K mg R0 R P H as) {a : Addr} {u : HO} (h : H a = none) (hn : ∀ xs, u ≠ .tup xs := by intro _ z; cases z) : Trk K mg R0 (upd R a u) P (upd H a u) (a :: as) := by
  have hR := t.z.free h
  have h0 : R0 a = none := t.s.free hR
  refine ⟨t.z.new h hn, fun b o e => by rw [upd_ne fun z => by rw [z, h0] at e; cases e]; exact t.s b o e, List.nodup_cons.mpr ⟨fun z => t.tr a z hR, t.nd⟩, fun b hb => ?_, fun b hb => ?_⟩
  · rcases List.mem_cons.mp hb with rfl | hb
    · exact ⟨h0, t.z.nota hR⟩
    · exact t.new b hb
  · by_cases e : b = a
    · rw [e, upd_same]; simp
    · rw [upd_ne e]
      rcases List.mem_cons.mp hb with rfl | hb
      · exact absurd rfl e
      · exact t.tr b hb
theorem Trk.junk (t : Trk K mg R0 R P H as) {a : Addr} (o : HO) (h : H a = none) : Trk K mg R0 R P (upd H a o) as := ⟨t.z.junk o h, t.s, t.nd, t.new, t.tr⟩
theorem Trk.perm (t : Trk K mg R0 R P H as) (p : as.Perm bs) : Trk K mg R0 R P H bs := ⟨t.z, t.s, p.nodup_iff.mp t.nd, fun a ha => t.new a (p.mem_iff.mpr ha), fun a ha => t.tr a (p.mem_iff.mpr ha)⟩
theorem wipe1 {i : Nat} {x : Option V} : L2.wipe ((L2.wipe σ [i]).set i x) [i] = L2.wipe σ [i] := by
  show ((σ.set i none).set i x).set i none = σ.set i none
  rw [List.set_set, List.set_set]
theorem wipe_at {i : Nat} (h : i < σ.length) {x : Option V} : ((L2.wipe σ [i]).set i x)[i]? = some x := by
  show ((σ.set i none).set i x)[i]? = _
  rw [List.getElem?_set_self (by rw [List.length_set]; exact h)]
def rListOf (K : PySem.W.Frag) : List V → Hp → VK → Prop := fun xs H Q => ∃ p ys, xs = [.ref p] ∧ (SqL K H p ys ∨ SqT K H p ys) ∧ ∀ l, H l = none → Q (.ref l) (upd H l (.lst ys))
def nes (dss : List (List PyData)) : List (List PyData) := dss.filter fun ds => !ds.isEmpty
theorem lc_copy {i0 iv : Nat} {l0 : Addr} {lvs : List V} {dss : List (List PyData)} {Q : VK} (t : Trk K mg R0 R P H as) (h0 : σ[i0]? = some (some (.ref l0))) (hv : iv < σ.length) (hl : Rd P l0 (.lst lvs)) (hd : RpA K P lvs (dss.map .list)) (hn : dss.length ≤ 100000)
    (q : ∀ H' R' D ps, Trk K mg R0 R' P H' (D :: (ps.map Prod.fst ++ as)) → Same R R' → R' D = some (.lst (refs ps)) → Lots K R' P ps → ps.map Prod.snd = nes dss → Q (.ref D) H') :
    tLc (iList K (tVar i0)) (gName iv) (tTest (tOp (rNeX K) (tVar iv) (tLst tNil))) (tCB (rListOf K) (tCons (tVar iv) tNil)) [iv] σ H Q := by
  have hlen : lvs.length = dss.length := by rw [hd.length, List.length_map]
  refine ⟨.ref l0, h0, l0, rfl, ⟨lvs, .inl (rd_mono t.z.ph hl)⟩, fun D hD => ?_⟩
  refine ⟨fun i m H' => m = dss.length - i ∧ i ≤ dss.length ∧ ∃ R' ps, Trk K mg R0 R' P H' (D :: (ps.map Prod.fst ++ as)) ∧ Same R R' ∧ R' D = some (.lst (refs ps)) ∧ Lots K R' P ps ∧ ps.map Prod.snd = nes (dss.take i),
    ⟨_, rfl, Nat.zero_le _, upd R D (.lst []), [], t.nw hD, fun b o e => by rw [upd_ne fun z => by rw [z, t.z.free hD] at e; cases e]; exact e, upd_same, ⟨fun q hq => nomatch hq⟩, rfl⟩, ?_⟩
  rintro i m H2 ⟨rfl, hi, R2, ps, t2, s2, hD2, L2', e2⟩
  have sq : SqL K H2 l0 lvs := .inl (rd_mono t2.z.ph hl)
  by_cases hlt : i < dss.length
  · have hx : lvs[i]? = some lvs[i] := List.getElem?_eq_getElem (by omega)
    have tk : dss.take (i + 1) = dss.take i ++ [dss[i]] := by rw [List.take_add_one, List.getElem?_eq_getElem hlt]; rfl
    refine .inr ⟨⟨lvs, _, sq, hx⟩, fun H' => ∃ R' ps, Trk K mg R0 R' P H' (D :: (ps.map Prod.fst ++ as)) ∧ Same R R' ∧ R' D = some (.lst (refs ps)) ∧ Lots K R' P ps ∧ ps.map Prod.snd = nes (dss.take (i + 1)), fun H' h' => ⟨_, by omega, rfl, hlt, h'⟩, ?_⟩
    rintro x H3 ⟨rfl, hx2⟩
    have ex := hx2 lvs sq
    rw [hx] at ex
    cases ex
    obtain ⟨d, hd1, hd2⟩ := hd.get hx
    rw [List.getElem?_map, List.getElem?_eq_getElem hlt] at hd1
    cases hd1
    generalize lvs[i] = x at hd2 hx
    cases hd2 with
    | @lst b vs _ hb tb =>
      refine ⟨wipe1, ne_law (wipe_at hv) (rd_mono t2.z.ph hb) fun p hp => ?_⟩
      have t3 := t2.junk (.lst []) hp
      have hvl := tb.length
      cases vs with
      | nil =>
        have ed : dss[i] = [] := List.eq_nil_of_length_eq_zero hvl.symm
        rw [if_neg (by simp)]
        exact ⟨R2, ps, t3, s2, hD2, L2', by rw [tk, nes, List.filter_append, ed]; simpa [nes] using e2⟩
      | cons v vs =>
        have nd : dss[i].isEmpty = false := by
          cases hh : dss[i] with
          | nil => rw [hh] at hvl; simp at hvl
          | cons _ _ => rfl
        refine (if_pos (show (!(v :: vs).isEmpty) = true from rfl)).mpr ?_
        refine ⟨.ref b, wipe_at hv, b, v :: vs, rfl, .inl (.inl (rd_mono t3.z.ph hb)), fun l' hl' => ?_⟩
        have t4 := t3.nw (u := .lst (v :: vs)) hl'
        have nD : D ≠ l' := fun z => by
          have := t3.tr D List.mem_cons_self
          rw [z] at this
          exact this (t3.z.free hl')
        have hD4 : upd R2 l' (.lst (v :: vs)) D = some (.lst (refs ps)) := by rw [upd_ne nD]; exact hD2
        have t5 := t4.wr (u' := .lst (refs ps ++ [.ref l'])) (List.mem_cons_of_mem _ List.mem_cons_self) hD4
        have hpl : ps.length ≤ i := by
          have h1 : ps.length = (nes (dss.take i)).length := by rw [← e2, List.length_map]
          have h2 : (nes (dss.take i)).length ≤ (dss.take i).length := List.length_filter_le _ _
          rw [List.length_take] at h2
          omega
        refine ⟨refs ps, t4.hp (List.mem_cons_of_mem _ List.mem_cons_self) hD4, by rw [refs, List.length_map, sizeLine_eq]; omega, upd (upd R2 l' (.lst (v :: vs))) D (.lst (refs ps ++ [.ref l'])), ps ++ [(l', dss[i])], t5.perm ?_, ?_, ?_, ?_, ?_⟩
        · rw [List.map_append]
          refine (List.Perm.swap D l' _).trans (.cons D ?_)
          simp only [List.map_cons, List.map_nil, List.append_assoc, List.singleton_append]
          exact (List.perm_middle).symm
        · exact fun b o e => by
            have h1 := s2 b o e
            have hl0 : R2 l' = none := t3.z.free hl'
            have n1 : b ≠ l' := fun z => by rw [z, hl0] at h1; cases h1
            have n2 : b ≠ D := fun z => by
              have h2 : R D = none := t.z.free hD
              rw [z, h2] at e
              cases e
            rw [upd_ne n2, upd_ne n1]
            exact h1
        · rw [upd_same, refs, refs, List.map_append]; rfl
        · refine ⟨fun q hq => ?_⟩
          rcases List.mem_append.mp hq with hq | hq
          · have hm : q.1 ∈ ps.map Prod.fst := List.mem_map.mpr ⟨q, hq, rfl⟩
            refine ((L2'.at_ q hq).put fun z => ?_).put fun z => ?_
            · exact t3.tr q.1 (List.mem_cons_of_mem _ (List.mem_append_left _ hm)) (by rw [z]; exact t3.z.free hl')
            · exact (List.nodup_cons.mp t2.nd).1 (z ▸ List.mem_append_left _ hm)
          · rw [List.mem_singleton.mp hq]
            exact ⟨v :: vs, by rw [upd_ne (Ne.symm nD), upd_same], tb⟩
        · rw [tk, nes, List.filter_append, List.map_append, e2]
          simp [nes, nd]
  · have e : i = dss.length := by omega
    subst e
    rw [List.take_length] at e2
    exact .inl ⟨⟨lvs, sq, by omega⟩, q H2 R2 D ps t2 s2 hD2 L2' e2⟩
end
end DL

set_option maxHeartbeats 2000000
/-! DL95: the lots that have rows yet are kept. -/
namespace DL
open PySem PySem.Spec PyProof.Rows L2 LamX PySem.W
section
variable {K : PySem.W.Frag} {mg : Str → Option Value} {R0 R R' P H H' : Hp} {σ : L2.St} {as bs : List Addr}
theorem Trk.sub (t : Trk K mg R0 R P H as) (nd : bs.Nodup) (s : ∀ b ∈ bs, b ∈ as) : Trk K mg R0 R P H bs := ⟨t.z, t.s, nd, fun a ha => t.new a (s a ha), fun a ha => t.tr a (s a ha)⟩
theorem lc_keep {i1 iv : Nat} {l : Addr} {ps : List Lot} {Q : VK} (t : Trk K mg R0 R P H (l :: (ps.map Prod.fst ++ as))) (h1 : σ[i1]? = some (some (.ref l))) (hv : iv < σ.length) (hl : R l = some (.lst (refs ps))) (L : Lots K R P ps) (hn : ps.length ≤ 100000)
    (q : ∀ H' R' D, Trk K mg R0 R' P H' (D :: ((ps.filter neL0).map Prod.fst ++ as)) → Same R R' → R' D = some (.lst (refs (ps.filter neL0))) → Q (.ref D) H') :
    tLc (iList K (tVar i1)) (gName iv) (tTest (tOp (rNeX K) (tVar iv) (tLst tNil))) (tVar iv) [iv] σ H Q := by
  refine ⟨.ref l, h1, l, rfl, ⟨refs ps, .inl (.inl (t.hp List.mem_cons_self hl))⟩, fun D hD => ?_⟩
  refine ⟨fun i m H' => m = ps.length - i ∧ i ≤ ps.length ∧ ∃ R', Trk K mg R0 R' P H' (D :: l :: (ps.map Prod.fst ++ as)) ∧ Same R R' ∧ R' D = some (.lst (refs ((ps.take i).filter neL0))),
    ⟨_, rfl, Nat.zero_le _, upd R D (.lst []), t.nw hD, fun b o e => by rw [upd_ne fun z => by rw [z, t.z.free hD] at e; cases e]; exact e, upd_same⟩, ?_⟩
  rintro i m H2 ⟨rfl, hi, R2, t2, s2, hD2⟩
  have hl2 := t2.hp (List.mem_cons_of_mem _ List.mem_cons_self) (s2 _ _ hl)
  have sq : SqL K H2 l (refs ps) := .inl (.inl hl2)
  have rl : (refs ps).length = ps.length := by rw [refs, List.length_map]
  by_cases hlt : i < ps.length
  · have hx : (refs ps)[i]? = some (.ref ps[i].1) := by rw [refs, List.getElem?_map, List.getElem?_eq_getElem hlt]; rfl
    have tk : ps.take (i + 1) = ps.take i ++ [ps[i]] := by rw [List.take_add_one, List.getElem?_eq_getElem hlt]; rfl
    refine .inr ⟨⟨_, _, sq, hx⟩, fun H' => ∃ R', Trk K mg R0 R' P H' (D :: l :: (ps.map Prod.fst ++ as)) ∧ Same R R' ∧ R' D = some (.lst (refs ((ps.take (i + 1)).filter neL0))), fun H' h' => ⟨_, by omega, rfl, hlt, h'⟩, ?_⟩
    rintro x H3 ⟨rfl, hx2⟩
    have ex := hx2 _ sq
    rw [hx] at ex
    cases ex
    have hm : ps[i] ∈ ps := List.getElem_mem hlt
    obtain ⟨vs, ha, ra⟩ := L.at_ _ hm
    have hma : ps[i].1 ∈ D :: l :: (ps.map Prod.fst ++ as) := List.mem_cons_of_mem _ (List.mem_cons_of_mem _ (List.mem_append_left _ (List.mem_map.mpr ⟨_, hm, rfl⟩)))
    refine ⟨wipe1, ne_law (wipe_at hv) (.inl (t2.hp hma (s2 _ _ ha))) fun p hp => ?_⟩
    have t3 := t2.junk (.lst []) hp
    have hvl := ra.length
    have eb : (!vs.isEmpty) = neL0 ps[i] := by
      unfold neL0
      cases vs <;> cases hh : ps[i].2 <;> simp_all
    rw [eb]
    cases hb : neL0 ps[i] with
    | false =>
      rw [if_neg Bool.false_ne_true]
      exact ⟨R2, t3, s2, by rw [tk, List.filter_append, List.filter_cons_of_neg (by rw [hb]; exact Bool.false_ne_true)]; simpa using hD2⟩
    | true =>
      rw [if_pos rfl]
      have t5 := t3.wr (u' := .lst (refs ((ps.take i).filter neL0) ++ [.ref ps[i].1])) List.mem_cons_self hD2
      have hpl : (refs ((ps.take i).filter neL0)).length ≤ i := by
        rw [refs, List.length_map]
        refine Nat.le_trans (List.length_filter_le _ _) ?_
        rw [List.length_take]
        omega
      refine ⟨.ref ps[i].1, wipe_at hv, _, t3.hp List.mem_cons_self hD2, by rw [sizeLine_eq]; omega, _, t5, ?_, ?_⟩
      · exact fun b o e => by
          have n2 : b ≠ D := fun z => by
            have h2 : R D = none := t.z.free hD
            rw [z, h2] at e
            cases e
          rw [upd_ne n2]
          exact s2 b o e
      · rw [upd_same, tk, List.filter_append, List.filter_cons_of_pos hb, refs, refs, List.map_append]
        rfl
  · have e : i = ps.length := by omega
    subst e
    rw [List.take_length] at hD2
    refine .inl ⟨⟨_, sq, by omega⟩, q H2 R2 D (t2.sub ?_ ?_) s2 hD2⟩
    · obtain ⟨n1, n2⟩ := List.nodup_cons.mp t2.nd
      obtain ⟨n3, n4⟩ := List.nodup_cons.mp n2
      obtain ⟨n5, n6, n7⟩ := List.nodup_append.mp n4
      have sb : ∀ b ∈ (ps.filter neL0).map Prod.fst, b ∈ ps.map Prod.fst := fun b hb => by
        obtain ⟨q, hq, rfl⟩ := List.mem_map.mp hb
        exact List.mem_map.mpr ⟨q, (List.mem_filter.mp hq).1, rfl⟩
      refine List.nodup_cons.mpr ⟨fun z => ?_, List.nodup_append.mpr ⟨?_, n6, fun a ha b hb e => n7 a (sb a ha) b hb e⟩⟩
      · rcases List.mem_append.mp z with z | z
        · exact n1 (List.mem_cons_of_mem _ (List.mem_append_left _ (sb D z)))
        · exact n1 (List.mem_cons_of_mem _ (List.mem_append_right _ z))
      · exact (List.filter_sublist.map _).nodup n5
    · intro b hb
      rcases List.mem_cons.mp hb with rfl | hb
      · exact List.mem_cons_self
      · refine List.mem_cons_of_mem _ (List.mem_cons_of_mem _ ?_)
        rcases List.mem_append.mp hb with hb | hb
        · obtain ⟨q, hq, rfl⟩ := List.mem_map.mp hb
          exact List.mem_append_left _ (List.mem_map.mpr ⟨q, (List.mem_filter.mp hq).1, rfl⟩)
        · exact List.mem_append_right _ hb
end
end DL

set_option maxHeartbeats 2000000
/-! DL96: sorted lots, merged by always taking the least of the first rows. -/
namespace DL
open PySem PySem.Spec PyProof.Rows L2 LamX PySem.W
def hdD (ds : List PyData) : PyData := ds.headD .none
def popMin (dss : List (List PyData)) : Option (PyData × List (List PyData)) := match dss[minIx (dss.map hdD)]? with
  | some (d :: ds) => some (d, nes (dss.set (minIx (dss.map hdD)) ds))
  | _ => none
def mrg : Nat → List (List PyData) → Option (List PyData)
  | _, [] => some []
  | 0, _ :: _ => none
  | n + 1, ds :: dss => match popMin (ds :: dss) with
    | some (d, dss') => (mrg n dss').map (d :: ·)
    | none => none
def noneB : PyData → Bool
  | .none => true
  | _ => false
def okLots (dss : List (List PyData)) : Bool := (dss.flatten.all fun d => dss.flatten.all (alike d)) && (dss.flatten.all fun d => !noneB d && decide (d.depth ≤ 30)) && decide (dss.length ≤ 100000) && decide (dss.flatten.length ≤ 100000)
def lotsD : List PyData → Option (List (List PyData))
  | [] => some []
  | .list ds :: l => (lotsD l).map (ds :: ·)
  | _ :: _ => none
theorem lotsD_map : ∀ {ls : List PyData} {dss : List (List PyData)}, lotsD ls = some dss → ls = dss.map .list
  | [], _, e => by cases e; rfl
  | .list ds :: l, _, e => by
    unfold lotsD at e
    obtain ⟨x, h1, rfl⟩ := Option.map_eq_some_iff.mp e
    rw [List.map_cons, ← lotsD_map h1]
/-- the body of such a def -/
def M.merged : M Flw := fun env => match env with
  | [some (.pur (.list ls)), none, none, none, none] => (match lotsD ls with
    | some dss => if okLots dss = true then (match mrg (nes dss).flatten.length (nes dss) with
      | some out => .ok (.rt (.lst (out.map .pur))) [none, none, none, none, none]
      | none => .no) else .no
    | none => .no)
  | _ => .no
theorem nes_flat : ∀ dss : List (List PyData), (nes dss).flatten = dss.flatten
  | [] => rfl
  | [] :: dss => nes_flat dss
  | (d :: ds) :: dss => by
    show (d :: ds) ++ (nes dss).flatten = _
    rw [nes_flat dss]
    rfl
theorem okLots_iff {dss : List (List PyData)} (h : okLots dss = true) : (∀ d ∈ dss.flatten, ∀ d' ∈ dss.flatten, alike d d' = true) ∧ (∀ d ∈ dss.flatten, d ≠ .none ∧ d.depth ≤ 30) ∧ dss.length ≤ 100000 ∧ dss.flatten.length ≤ 100000 := by
  unfold okLots at h
  simp only [Bool.and_eq_true, decide_eq_true_eq, List.all_eq_true] at h
  obtain ⟨⟨⟨h1, h2⟩, h3⟩, h4⟩ := h
  refine ⟨h1, fun d hd => ⟨fun e => ?_, (h2 d hd).2⟩, h3, h4⟩
  have := (h2 d hd).1
  rw [e] at this
  cases this
section
variable {K : PySem.W.Frag} {mg : Str → Option Value} {R0 R R' P H H' : Hp} {σ : L2.St} {as bs : List Addr}
def tBody (K : PySem.W.Frag) (mg : Str → Option Value) : TS :=
  tSeq (tAsg (tMinH K mg (tVar 1)) (gName 3))
    (tSeq (tDrop (tBM K "list" rAppend (tVar 2) (tCons (tBM K "list" rPopAt (tVar 3) (tCons (tC (.int 0)) tNil)) tNil)))
      (tAsg (tLc (iList K (tVar 1)) (gName 4) (tTest (tOp (rNeX K) (tVar 4) (tLst tNil))) (tVar 4) [4]) (gName 1)))
def tMerged (K : PySem.W.Frag) (mg : Str → Option Value) : TS :=
  tSeq (tAsg (tLc (iList K (tVar 0)) (gName 4) (tTest (tOp (rNeX K) (tVar 4) (tLst tNil))) (tCB (rListOf K) (tCons (tVar 4) tNil)) [4]) (gName 1))
    (tSeq (tAsg (tLst tNil) (gName 2))
      (tSeq (tWhile (tTest (tOp (rNeX K) (tVar 1) (tLst tNil))) (tBody K mg))
        (tRet (tVar 2))))
/-- what holds at each turn -/
structure MInv (K : PySem.W.Frag) (mg : Str → Option Value) (R0 P : Hp) (all out0 : List PyData) (n : Nat) (σ : L2.St) (H R : Hp) (ps : List Lot) (l f : Addr) (ys : List V) (out : List PyData) : Prop where
  sl : σ.length = 5
  s1 : σ[1]? = some (some (.ref l))
  s2 : σ[2]? = some (some (.ref f))
  t : Trk K mg R0 R P H (l :: (ps.map Prod.fst ++ [f]))
  hl : R l = some (.lst (refs ps))
  hf : R f = some (.lst ys)
  ro : RpA K P ys out
  L : Lots K R P ps
  ne : ∀ q ∈ ps, q.2 ≠ []
  sub : ∀ q ∈ ps, ∀ d ∈ q.2, d ∈ all
  ln : ps.length ≤ 100000
  lo : out.length + n ≤ 100000
  eq : (mrg n (ps.map Prod.snd)).map (out ++ ·) = some out0
theorem body_law {all out0 : List PyData} {n : Nat} {H1 R1 : Hp} {qs : List Lot} {l f : Addr} {ys : List V} {out : List PyData} {D : Ends} (al : ∀ d ∈ all, ∀ d' ∈ all, alike d d' = true) (dn : ∀ d ∈ all, d ≠ .none ∧ d.depth ≤ 30) (qpos : 0 < qs.length)
    (t3 : Trk K mg R0 R1 P H1 (l :: (qs.map Prod.fst ++ [f]))) (I : MInv K mg R0 P all out0 (n + 1) σ H R1 qs l f ys out) :
    tBody K mg { D with nx := fun σ' H' => ∃ R' ps l f ys out, MInv K mg R0 P all out0 n σ' H' R' ps l f ys out, ct := fun σ' H' => ∃ R' ps l f ys out, MInv K mg R0 P all out0 n σ' H' R' ps l f ys out, bk := D.nx } σ H1 := by
  have hkl : ((qs.map Prod.snd).map hdD).length = (refs qs).length := by simp [refs]
  have hget : ∀ {j : Nat} {x : V}, (refs qs)[j]? = some x → ∃ q, qs[j]? = some q ∧ x = .ref q.1 := fun {j x} h => by
    rw [refs, List.getElem?_map] at h
    obtain ⟨q, h1, rfl⟩ := Option.map_eq_some_iff.mp h
    exact ⟨q, h1, rfl⟩
  have hd : ∀ q ∈ qs, ∃ d ds, q.2 = d :: ds ∧ d ∈ all := fun q hq => by
    cases h : q.2 with
    | nil => exact absurd h (I.ne q hq)
    | cons d ds => exact ⟨d, ds, rfl, I.sub q hq d (by rw [h]; exact List.mem_cons_self)⟩
  have hk : ∀ d ∈ (qs.map Prod.snd).map hdD, d ∈ all := fun d h => by
    obtain ⟨x, hx, rfl⟩ := List.mem_map.mp h
    obtain ⟨q, hq, rfl⟩ := List.mem_map.mp hx
    obtain ⟨d, ds, e, hm⟩ := hd q hq
    rw [e]
    exact hm
  refine ⟨.ref l, I.s1, [], b0, R1, P, fun _ => [], [], [], l, refs qs, (qs.map Prod.snd).map hdD, t3.z, rfl, .inl (t3.hp List.mem_cons_self I.hl), hkl, by simpa [refs] using qpos, ⟨fun d h d' h' => al d (hk d h) d' (hk d' h'), fun d h => dn d (hk d h)⟩, ?_, ?_⟩
  · intro j x d hx hdj
    obtain ⟨q, hq, rfl⟩ := hget hx
    have hm := List.mem_of_getElem? hq
    rw [List.getElem?_map, List.getElem?_map, hq] at hdj
    obtain ⟨vs, ha, ra⟩ := I.L.at_ q hm
    obtain ⟨d0, ds, e, _⟩ := hd q hm
    rw [e] at ra
    cases ra with
    | cons r rt =>
      have ed : hdD q.2 = d := Option.some.inj hdj
      rw [e] at ed
      subst ed
      exact ⟨q.1, _, _, rfl, .inl (t3.hp (List.mem_cons_of_mem _ (List.mem_append_left _ (List.mem_map.mpr ⟨q, hm, rfl⟩))) ha), r⟩
  · intro H2 x S2 he2 hx
    have t4 : Trk K mg R0 R1 P H2 (l :: (qs.map Prod.fst ++ [f])) := ⟨S2, t3.s, t3.nd, t3.new, t3.tr⟩
    generalize hj : minIx ((qs.map Prod.snd).map hdD) = j at hx
    obtain ⟨q, hq, rfl⟩ := hget hx
    have hm := List.mem_of_getElem? hq
    obtain ⟨vs0, ha, ra⟩ := I.L.at_ q hm
    obtain ⟨d, ds, e, hda⟩ := hd q hm
    rw [e] at ra
    cases ra with
    | @cons v vs _ _ r rt =>
      have hma : q.1 ∈ qs.map Prod.fst := List.mem_map.mpr ⟨q, hm, rfl⟩
      have hmA : q.1 ∈ l :: (qs.map Prod.fst ++ [f]) := List.mem_cons_of_mem _ (List.mem_append_left _ hma)
      have hmf : f ∈ l :: (qs.map Prod.fst ++ [f]) := by simp
      obtain ⟨n1, n2⟩ := List.nodup_cons.mp t4.nd
      obtain ⟨n3, n4, n5⟩ := List.nodup_append.mp n2
      have naf : q.1 ≠ f := n5 _ hma f (by simp)
      have nla : q.1 ≠ l := fun z => n1 (by rw [← z]; exact List.mem_append_left _ hma)
      have nlf : f ≠ l := fun z => n1 (by rw [← z]; simp)
      have t5 := t4.wr (u' := .lst vs) hmA ha
      have hf5 : upd R1 q.1 (.lst vs) f = some (.lst ys) := by rw [upd_ne (Ne.symm naf)]; exact I.hf
      have t6 := t5.wr (u' := .lst (ys ++ [v])) hmf hf5
      have hyl := I.ro.length
      have hlo := I.lo
      refine ⟨.ref f, by show (σ.set 3 _)[2]? = _; rw [List.getElem?_set_ne (by decide)]; exact I.s2, .inl ⟨rfl, ys, .inl (.inl (t4.hp hmf I.hf))⟩, .ref q.1, by show (σ.set 3 _)[3]? = _; rw [List.getElem?_set_self (by rw [I.sl]; decide)], .inl ⟨rfl, v :: vs, .inl (.inl (t4.hp hmA ha))⟩, ?_⟩
      refine ⟨q.1, v :: vs, 0, 0, v, rfl, rfl, t4.hp hmA ha, by decide, by decide, by simp [seqIndex?], rfl, ?_⟩
      refine ⟨f, ys, v, rfl, rfl, t5.hp hmf hf5, by rw [sizeLine_eq]; omega, ?_⟩
      -- the lots left
      have hjl : j < qs.length := (List.getElem?_eq_some_iff.mp hq).1
      have er : refs (qs.set j (q.1, ds)) = refs qs := by
        rw [refs, refs, List.map_set]
        refine List.ext_getElem? fun i => ?_
        by_cases z : i = j
        · subst z
          rw [List.getElem?_set_self (by rw [List.length_map]; exact hjl), List.getElem?_map, hq]
          rfl
        · rw [List.getElem?_set_ne (Ne.symm z)]
      have ef : (qs.set j (q.1, ds)).map Prod.fst = qs.map Prod.fst := by
        rw [List.map_set]
        refine List.ext_getElem? fun i => ?_
        by_cases z : i = j
        · subst z
          rw [List.getElem?_set_self (by rw [List.length_map]; exact hjl), List.getElem?_map, hq]
          rfl
        · rw [List.getElem?_set_ne (Ne.symm z)]
      have hlR : upd (upd R1 q.1 (.lst vs)) f (.lst (ys ++ [v])) l = some (.lst (refs (qs.set j (q.1, ds)))) := by
        rw [upd_ne (Ne.symm nlf), upd_ne (Ne.symm nla), er]
        exact I.hl
      have L6 : Lots K (upd (upd R1 q.1 (.lst vs)) f (.lst (ys ++ [v]))) P (qs.set j (q.1, ds)) := ⟨fun p hp => by
        obtain ⟨i, hi⟩ := List.getElem?_of_mem hp
        by_cases z : i = j
        · subst z
          rw [List.getElem?_set_self hjl] at hi
          cases hi
          exact ⟨vs, by rw [upd_ne naf, upd_same], rt⟩
        · rw [List.getElem?_set_ne (Ne.symm z)] at hi
          have hpm := List.mem_of_getElem? hi
          have hpf : p.1 ∈ qs.map Prod.fst := List.mem_map.mpr ⟨p, hpm, rfl⟩
          have ne : p.1 ≠ q.1 := fun w => by
            have h1 : (qs.map Prod.fst)[i]? = some p.1 := by rw [List.getElem?_map, hi]; rfl
            have h2 : (qs.map Prod.fst)[j]? = some q.1 := by rw [List.getElem?_map, hq]; rfl
            rw [w, ← h2] at h1
            exact z ((List.getElem?_inj (by rw [List.length_map]; exact (List.getElem?_eq_some_iff.mp hi).1) n3).mp h1)
          exact ((I.L.at_ p hpm).put ne).put (n5 _ hpf f (by simp))⟩
      have pl : (qs.set j (q.1, ds)).length ≤ 100000 := by rw [List.length_set]; exact I.ln
      show tLc (iList K (tVar 1)) (gName 4) (tTest (tOp (rNeX K) (tVar 4) (tLst tNil))) (tVar 4) [4] (List.set σ 3 (some (.ref q.1))) (upd (upd H2 q.1 (.lst vs)) f (.lst (ys ++ [v]))) (fun x H' => ∃ R' ps l f ys out, MInv K mg R0 P all out0 n (List.set (List.set σ 3 (some (.ref q.1))) 1 (some x)) H' R' ps l f ys out)
      refine lc_keep (σ := List.set σ 3 (some (.ref q.1))) (i1 := 1) (iv := 4) (ps := qs.set j (q.1, ds)) (as := [f]) (by rw [ef]; exact t6) (by show (σ.set 3 _)[1]? = _; rw [List.getElem?_set_ne (by decide)]; exact I.s1) (by show 4 < (σ.set 3 _).length; rw [List.length_set, I.sl]; decide) hlR L6 pl fun H' R' D' t7 s7 hD7 => ?_
      have sF : ∀ p ∈ (qs.set j (q.1, ds)), p = (q.1, ds) ∨ p ∈ qs := fun p hp => by
        rcases List.mem_or_eq_of_mem_set hp with h | h
        · exact .inr h
        · exact .inl h
      refine ⟨R', (qs.set j (q.1, ds)).filter neL0, D', f, ys ++ [v], out ++ [d], ?_, ?_, ?_, t7, hD7, s7 _ _ upd_same, I.ro.append (.cons r .nil), ⟨fun p hp => ?_⟩, fun p hp => ?_, fun p hp d' hd' => ?_, Nat.le_trans (List.length_filter_le _ _) pl, by rw [List.length_append, List.length_singleton]; omega, ?_⟩
      · show (List.set (List.set σ 3 _) 1 _).length = 5
        rw [List.length_set, List.length_set, I.sl]
      · show (List.set (List.set σ 3 _) 1 _)[1]? = _
        rw [List.getElem?_set_self (by rw [List.length_set, I.sl]; decide)]
      · show (List.set (List.set σ 3 _) 1 _)[2]? = _
        rw [List.getElem?_set_ne (by decide), List.getElem?_set_ne (by decide)]
        exact I.s2
      · obtain ⟨vs', h1, h2⟩ := L6.at_ p (List.mem_filter.mp hp).1
        exact ⟨vs', s7 _ _ h1, h2⟩
      · have := (List.mem_filter.mp hp).2
        intro z
        unfold neL0 at this
        rw [z] at this
        cases this
      · rcases sF p (List.mem_filter.mp hp).1 with z | z
        · rw [z] at hd'
          exact I.sub q hm d' (by rw [e]; exact List.mem_cons_of_mem _ hd')
        · exact I.sub p z d' hd'
      · have h1 : ((qs.set j (q.1, ds)).filter neL0).map Prod.snd = nes ((qs.map Prod.snd).set j ds) := by
          rw [show (qs.map Prod.snd).set j ds = (qs.set j (q.1, ds)).map Prod.snd by rw [List.map_set], nes, List.filter_map]
          rfl
        have h2 : popMin (qs.map Prod.snd) = some (d, nes ((qs.map Prod.snd).set j ds)) := by
          unfold popMin
          rw [hj, List.getElem?_map, hq, Option.map_some, e]
        have h3 := I.eq
        have h4 : mrg (n + 1) (qs.map Prod.snd) = (mrg n (nes ((qs.map Prod.snd).set j ds))).map (d :: ·) := by
          cases hh : qs.map Prod.snd with
          | nil => rw [List.map_eq_nil_iff.mp hh] at qpos; simp at qpos
          | cons a l => 
            rw [hh] at h2
            simp only [mrg, h2]
        rw [h4, Option.map_map] at h3
        rw [h1, ← h3]
        congr 1
        funext x
        simp
theorem merged_law {W : WX} {D : Ends} {H : Hp} (h : tS K mg W [] M.merged D σ H) : tMerged K mg D σ H := by
  obtain ⟨bv, R, P, Fs, env, S, q⟩ := h
  unfold M.merged at q
  split at q
  · rename_i ls
    cases hls : lotsD ls with
    | none => rw [hls] at q; exact q.elim
    | some dss =>
      rw [hls] at q
      simp only at q
      split at q
      · rename_i ok
        cases hm : mrg (nes dss).flatten.length (nes dss) with
        | none => rw [hm] at q; exact q.elim
        | some out0 =>
          rw [hm] at q
          obtain ⟨al, dn, ln, fl⟩ := okLots_iff ok
          have hls' := lotsD_map hls
          subst hls'
          have sl : σ.length = 5 := S.len
          obtain ⟨v, h0, r⟩ := S.pure (i := 0) rfl
          cases r with
          | @lst l0 lvs _ hl0 hd0 =>
            have sR := S.allR_same
            have zS := Z.of S
            generalize allR R H Fs = R00 at sR zS
            have t0 : Trk K mg R00 R00 P H [] := ⟨zS, Same.refl _, .nil, fun a h => (nomatch h), fun a h => (nomatch h)⟩
            show tLc (iList K (tVar 0)) (gName 4) (tTest (tOp (rNeX K) (tVar 4) (tLst tNil))) (tCB (rListOf K) (tCons (tVar 4) tNil)) [4] σ H (fun x H1 => tSeq (tAsg (tLst tNil) (gName 2)) (tSeq (tWhile (tTest (tOp (rNeX K) (tVar 1) (tLst tNil))) (tBody K mg)) (tRet (tVar 2))) D (List.set σ 1 (some x)) H1)
            refine lc_copy (i0 := 0) (iv := 4) t0 h0 (by omega) hl0 hd0 ln fun H1 R1 D1 ps t1 s1 hD1 L1 e1 => ?_
            refine ⟨Nat.zero_le _, fun F hF => ?_⟩
            have t2 := t1.nw (u := .lst []) hF
            refine ⟨fun n σ H => ∃ R' ps l f ys out, MInv K mg R00 P dss.flatten out0 n σ H R' ps l f ys out, ⟨(nes dss).flatten.length, ?_⟩, ?_⟩
            · have fD : F ≠ D1 := fun z => t1.tr D1 List.mem_cons_self (by rw [← z]; exact t1.z.free hF)
              have fps : F ∉ ps.map Prod.fst := fun z => t1.tr F (List.mem_cons_of_mem _ (List.mem_append_left _ z)) (t1.z.free hF)
              have pl : ps.length ≤ 100000 := by
                have h1 : ps.length = (nes dss).length := by rw [← e1, List.length_map]
                have h2 : (nes dss).length ≤ dss.length := List.length_filter_le _ _
                omega
              refine ⟨_, ps, D1, F, [], [], by simp [sl], by simp [sl], by simp [sl], t2.perm ?_, by rw [upd_ne (Ne.symm fD)]; exact hD1, upd_same, .nil, L1.put fps, fun p0 hq => ?_, fun p0 hq d hd => ?_, pl, ?_, ?_⟩
              · simp only [List.append_nil]
                refine (List.Perm.swap D1 F _).trans (.cons D1 ?_)
                exact (List.perm_append_comm (l₁ := [F])).trans (.refl _)
              · have hm0 : p0.2 ∈ nes dss := by rw [← e1]; exact List.mem_map.mpr ⟨p0, hq, rfl⟩
                have := (List.mem_filter.mp hm0).2
                intro z
                rw [z] at this
                cases this
              · have hm0 : p0.2 ∈ nes dss := by rw [← e1]; exact List.mem_map.mpr ⟨p0, hq, rfl⟩
                exact List.mem_flatten.mpr ⟨p0.2, (List.mem_filter.mp hm0).1, hd⟩
              · rw [nes_flat]; simpa using fl
              · rw [e1, hm]; rfl
            · rintro n σ1 H2 ⟨R2, ps2, l, f, ys, out, I⟩
              have hl := I.t.hp List.mem_cons_self I.hl
              refine ne_law I.s1 (.inl hl) fun p hp => ?_
              have t3 := I.t.junk (.lst []) hp
              cases ps2 with
              | nil =>
                rw [if_neg (by simp [refs])]
                have eo : out = out0 := by
                  have := I.eq
                  cases n <;> simpa [mrg] using this
                subst eo
                have hf3 := t3.hp (a := f) (by simp) I.hf
                have R1f := (t3.new f (by simp)).1
                refine ⟨.ref f, I.s2, q (.ref f) σ1 P _ (fun _ => []) [f] (Sta.sub (sR.trans t3.s) S.hasT (t3.z.to I.sl)) (Same.refl _) (.lst hf3 (owl_pur I.ro)) ⟨by simp, fun a ha => ?_, fun a ha => ?_, fun a _ i z => nomatch z⟩⟩
                · rw [List.mem_singleton.mp ha]; exact sR.free R1f
                · rw [List.mem_singleton.mp ha]; exact t3.z.rp f (by rw [I.hf]; simp)
              | cons p0 ps3 =>
                refine (if_pos (show (!(refs (p0 :: ps3)).isEmpty) = true from rfl)).mpr ?_
                generalize hps : p0 :: ps3 = qs at I t3
                have qpos : 0 < qs.length := by rw [← hps]; simp
                cases n with
                | zero =>
                  have := I.eq
                  rw [← hps] at this
                  cases this
                | succ k =>
                  refine ⟨fun σ' H' => ∃ R' ps l f ys out, MInv K mg R00 P dss.flatten out0 k σ' H' R' ps l f ys out, fun σ' H' h => ⟨k, Nat.lt_succ_self k, h⟩, ?_⟩
                  exact body_law al dn qpos t3 I
      · exact q.elim
  · exact q.elim
end
end DL

set_option maxHeartbeats 2000000
/-! DL97: runs of the rules since DL89. -/
namespace DL
open PySem PySem.Spec PyProof.Rows L2
theorem hs_rdP {i : Nat} {pp : DEnv → Option (List Stp)} {env : DEnv} {x : OD} {p : List Stp} {d : PyData} {Q : PyData → DEnv → Prop} (h1 : env[i]? = some (some x)) (h2 : pp env = some p) (h3 : (getP p x).bind OD.data = some d) (q : Q d (env.set i (some (setP p x (.pur d))))) : Hs (M.rdP i pp env) Q := by
  unfold M.rdP
  rw [h1, h2]
  simp only [Option.join_some, h3]
  exact Hs.mk q
theorem hs_appP {i : Nat} {pp : DEnv → Option (List Stp)} {m : DEnv → Option OD} {env : DEnv} {x y : OD} {p : List Stp} {zs : List OD} {Q : OD → DEnv → Prop} (h1 : env[i]? = some (some x)) (h2 : pp env = some p) (h3 : m env = some y) (h4 : getP p x = some (.lst zs)) (hz : zs.length < 16777216)
    (q : Q (.pur .none) (env.set i (some (setP p x (.lst (zs ++ [y])))))) : Hs (M.appP i pp m env) Q := by
  unfold M.appP
  rw [h1, h2, h3]
  simp only [Option.join_some, h4, if_pos hz]
  exact Hs.mk q
theorem hs_augF {i : Nat} {c f : Str} {g : Int → Int → Int} {me : M PyData} {env : DEnv} {k : Int} {Q : Flw → DEnv → Prop} (h1 : fieldI i c f env = some k) (h : Hs (me env) fun d e => ∃ j, d = .int j ∧ Hs (setFI i c f (g k j) e) Q) : Hs (M.augF i c f g me env) Q := by
  unfold M.augF
  rw [h1]
  simp only
  rw [hs_bind]
  refine h.mono fun d e h2 => ?_
  obtain ⟨j, rfl, h3⟩ := h2
  exact h3
theorem hs_merged {ls : List PyData} {dss : List (List PyData)} {out : List PyData} {Q : Flw → DEnv → Prop} (h1 : lotsD ls = some dss) (h2 : okLots dss = true) (h3 : mrg (nes dss).flatten.length (nes dss) = some out) (q : Q (.rt (.lst (out.map .pur))) [none, none, none, none, none]) : Hs (M.merged [some (.pur (.list ls)), none, none, none, none]) Q := by
  unfold M.merged
  simp only [h1, if_pos h2, h3]
  exact Hs.mk q
end DL

set_option maxHeartbeats 2000000
/-! DL98: try: x = [a()] except ..: y = n.
-/
namespace DL
open PySem PySem.Spec PyProof.Rows L2 LamX
theorem tO_mono {K : PySem.W.Frag} {mg : Str → Option Value} {W : WX} {B : List Nat} {m : M OD} {σ : L2.St} {H : Hp} {Q Q' : VK} (h : tO K mg W B m σ H Q) (k : ∀ v H, Q v H → Q' v H) : tO K mg W B m σ H Q' := by
  obtain ⟨bv, R, P, Fs, env, S, q⟩ := h
  refine ⟨bv, R, P, Fs, env, S, ?_⟩
  unfold post at q ⊢
  split
  · rename_i a e h
    rw [h] at q
    exact fun v P' H' Fs' G S' s' o f => k v H' (q v P' H' Fs' G S' s' o f)
  · rename_i x e h
    rw [h] at q
    exact q
  · rename_i h
    rw [h] at q
    exact q
section
variable {Z : Cx} {B : List Nat} {σC : L2.St} {f c' : Addr} {q : Str} {rest : List Stmt} {m : M OD} {k0 : DEnv → M OD} {te callE : Expr} {n yn xn : Str} {ni yi xi nn : Nat} {px ps py pn2 ps2 pos' pos pL : Pos}
theorem x_tryL (tbl : List (Str × Bool)) (hs : Z.stack = Z.env :: Z.outer) (hf : Z.env.frame = some Z.env.locals) (hN : Z.N.Nodup) (hex : Z.ex = []) (hnn : Z.N.length = nn) (hi : Z.N[ni]? = some n) (hln : Z.env.kindOf n = some .local) (hy : Z.N[yi]? = some yn) (hyl : Z.env.scope.names.lookup yn = some .local) (hx : Z.N[xi]? = some xn) (hxl : Z.env.scope.names.lookup xn = some .local)
    (hvn : Vis Z.env.scope n) (hny : ni ≠ yi) (hx0 : xi ≠ 0) (hsw : swapsWith (.List [callE] pL) (some (.Name xn px)) ps.line Z.env = pure false) (hsw2 : swapsWith (.Name n pn2) (some (.Name yn py)) ps2.line Z.env = pure false)
    (hd1 : (n == ("__debug__" : Str)) = false) (hd2 : (n == ("__classdict__" : Str)) = false)
    (hE : ∀ (W : WX) (pn : List (Addr × Obj)) (xe : Value → Shared → Prop) (E : XK), Takes (Z.tr pn xe) W → (∀ cls d σ' H', E cls d H' → W cls d σ' H') → PE (Z.tr pn xe) callE (fun σZ HZ Q => σZ[0]? = some (some (.ref f)) ∧ HZ c' = some (CodeO c' q) ∧ tO Z.K Z.mg (WF E) B m σC HZ Q))
    (ht : ∀ a b, tbl.lookup a = some b → ∀ C', Z.mg a = some (.ref C') → TestOk Z te (.ref C') b)
    (h0 : PSs Z rest (tX Z.K Z.mg B [] (fun _ => .non) σC c' q k0)) (hse : ∀ (pn : List (Addr × Obj)) (xe : Value → Shared → Prop), starEach (callE :: []) (Z.tr pn xe).env = (false, eval callE (Z.tr pn xe).env) :: starEach [] (Z.tr pn xe).env := by intros; rfl) :
    PSs Z (.Try [.Assign [.Name xn px] (.List [callE] pL) ps] [.ExceptHandler (some te) (some n) [.Assign [.Name yn py] (.Name n pn2) ps2] pos'] [] [] pos :: rest) (tX Z.K Z.mg B [0] (fun _ => .ref f) σC c' q (kTry true xi yi nn tbl m k0)) :=
  x_try (tE := fun E => tLst (tCons (fun σZ HZ Q => σZ[0]? = some (some (.ref f)) ∧ HZ c' = some (CodeO c' q) ∧ tO Z.K Z.mg (WF E) B m σC HZ Q) tNil)) true hs hf hN hex hnn hi hln hy hyl hx hxl hvn hny hx0 hsw hsw2 hd1 hd2
    (fun W pn xe E tk hW => pe_lst (pa_cons (hE W pn xe E tk hW) pa_nil (hse pn xe)))
    (fun E σ H Q h1 h2 h3 => ⟨h1, h2, tO_mono h3 fun v H' hq => ⟨by rw [sizeLine_eq]; simp, fun p hp => hq p hp⟩⟩) ht h0
end
end DL

set_option maxHeartbeats 2000000
/-! DL99: a def that catches what its lambda raises, its room and guards known. -/
namespace DL
open PySem PySem.Spec PyProof.Rows L2 LamX PySem.W
/-- what the def's body makes of the lambda's mirror -/
def GivesR (X : Cx) (B : List Nat) (Ng : List Str) (x : Str) (sg : Scope) (g : Addr) (bg : List Stmt) (a : Str) (q : Str) (kA : M OD → DEnv → M OD) : Prop :=
  ∀ (cdg : Value) (σC : L2.St) (m : M OD) (f c' : Addr) (s : Shared) (H : Hp), Room 1 (gCx X Ng x sg g cdg s H).nox.A → Gd (gCx X Ng x sg g cdg s H).nox →
    (∀ (W : WX) (pn : List (Addr × Obj)) (xe : Value → Shared → Prop) (E : XK) (p1 p2 : Pos), Takes ((gCx X Ng x sg g cdg s H).tr pn xe) W → (∀ cls d σ' H', E cls d H' → W cls d σ' H') →
      PE ((gCx X Ng x sg g cdg s H).tr pn xe) (.Call (.Name a p1) [] [] p2) (fun σZ HZ Q => σZ[0]? = some (some (.ref f)) ∧ HZ c' = some (CodeO c' q) ∧ tO X.K X.mg (WF E) B m σC HZ Q)) →
    PSs (gCx X Ng x sg g cdg s H).nox bg (tX X.K X.mg B [0] (fun _ => .ref f) σC c' q (kA m))
section
variable {X : Cx} {W : WX} {B : List Nat}
theorem eo_heardR {x a qual : Str} {gA : Addr} {k n : Nat} {pg params : Arguments} {bg : List Stmt} {sg scope : Scope} {fd : FuncData} {Ng : List Str} {kA : M OD → DEnv → M OD} {mb : M OD} {body : Expr} {p lpos pos : Pos} (g : Gd X) (hr : Room (k + 2) X.A) (LT : LamT X.K X.mg X.base X.env.code qual) (hq : X.env.qual = qual ++ ".<locals>.")
    (L : LamS X.env.scope scope) (F : FunD X.K x x pg bg sg [] [] gA fd) (hm : X.mg x = some (.ref gA)) (hk : PySem.W.keepIn X.K (.ref gA) = true) (hb : Binds X.K fd [a] []) (Sg : FnScope Ng [a] sg) (hn : Ng.length = n) (hNg : Ng[0]? = some a) (hva : Vis sg a)
    (hG : GivesR X B Ng x sg gA bg a (X.env.qual ++ "<lambda>") kA) (hdef : defaultsOf params X.env = ([], []))
    (hbind : ∀ (q : Str) (cl : List (Str × Addr)) (pm cv ctv : Value), bindArgs (PySem.W.kla_fn "<lambda>" q params body scope cl pm cv ctv) ⟨[], []⟩ = pure [])
    (hbody : ∀ (A : Around) (outer : List Env) (s : Shared) (H : Hp) (E : XK) (f c' : Addr), Gd (lamCx X A outer s H E scope f c') → Room k (lamCx X A outer s H E scope f c').A → EO (lamCx X A outer s H E scope f c') (WF E) B body mb)
    (hg : Gl X x := by rfl) (hdb : (x == ("__debug__" : Str)) = false := by decide) (hd : (a == ("__debug__" : Str)) = false := by decide) (hcd : (a == ("__classdict__" : Str)) = false := by decide) :
    EO X W B (.Call (.Name x p) [.Lambda params body scope lpos] [] pos) (M.heard n kA mb) := ⟨fun pins s σ H Q I ⟨bv, R, P, Fs, env, S, q⟩ => by
  obtain ⟨c, Pt, hcode, TB, hmT, huT⟩ := LT.ex
  have mem : Pt ∈ TbA X.K := List.mem_map.mpr ⟨_, hmT, rfl⟩
  obtain ⟨oc, od, dV, kV, doc, pm0, an, cdv, ct, osl, rfl, lk, hcdq, _, _⟩ := F.ex
  refine wpAny_Call_Name_kw (ld_glob I hg hm ?_ hdb)
  refine PySem.W.callWith_K (h₀ := X.base) I.ok.mod.kin hk ?_ (by rfl) (by rfl)
  show wpAny _ _ (spliced ((false, eval (.Lambda params body scope lpos) X.env) :: backTo pos (starEach [] X.env))) _ _ s
  have hT : Tabs (tabsOf X.K) H := fun p hp => (S.tb p hp).1
  refine Calls.spliced_cons (lam_make3 I TB hcode (by rw [hq]; exact hmT) (by rw [hq]; exact huT) hT hdef (L.has I.ok) fun f c' pm ctv H1 s' I1 e1 T1 hf hfn hfr hco => ?_)
  refine Calls.spliced_nil ⟨I1.kIn, ?_⟩
  have S1 := S.grown mem e1 T1
  have hc : H1 c' = some (CodeO c' (X.env.qual ++ "<lambda>")) := by
    obtain ⟨ps2, hps, hpt, hpa⟩ := hco
    obtain ⟨ps3, hp3, _, al⟩ := T1 _ hmT
    rw [hps] at hp3
    cases hp3
    obtain ⟨c2, e2, e3⟩ := al lpos _ hpa
    cases e2
    rw [hq]
    exact e3
  obtain ⟨R', sR, S2, hck⟩ := S1.codeR hc
  have rc : codeAny (model X.prog X.w) X.A (.call (.ref gA) ⟨[.ref f], []⟩) (CR C8.CX0 X.stack X.prog X.w H1 s' Q C8.E0) s' := by
    refine run_ofS (CX := C8.CX0) (N := Ng) (ps := [a]) (us := [.ref f]) (vs := [.ref f]) lk hcdq Sg hr I1.env0 (hb s' [.ref f] I1.kIn rfl) (.cons rfl .nil) rfl fun hr' => ?_
    have hP := hG cdv σ mb f c' s' H1 (hr'.mono (by omega)) ⟨g.guards, g.sys⟩ (fun W pn xe E p1 p2 tk hW => pe_actG (i := 0) I1 L hf hfn hfr (hbind _ _ _ _ _) tk hW hr' (fun A outer s H hg hr2 => hbody A outer s H E f c' ⟨hg.trans g.guards, g.sys⟩ hr2) hNg hva hd hcd)
    refine ⟨_, hP.nox, bv, R', P, Fs, fun _ => [], env, List.replicate n none, S2, S2.bare (by unfold L2.start; have := congrArg List.length Sg.pre; rw [List.length_take] at this; simp at this ⊢; omega) (fun i hi => ?_), hck, ?_⟩
    · rw [List.mem_singleton.mp hi]; rfl
    · unfold M.heard at q
      cases hk : kA mb (List.replicate n none) env with
      | no => rw [hk] at q; exact q.elim
      | ex x e => rw [hk] at q; exact q.elim
      | ok x e => rw [hk] at q; exact OkO.sub sR S.hasT q
  refine wpAny_call (codeAny_mono rc fun r s2 hq2 => ?_)
  cases r with
  | error e => exact (show False from hq2).elim
  | ok fl =>
    cases fl with
    | ret u => exact I1.after hq2
    | next => exact False.elim hq2
    | brk => exact False.elim hq2
    | cont => exact False.elim hq2⟩
theorem eo_heardDR {x a qual : Str} {k n : Nat} {pg params : Arguments} {bg : List Stmt} {sg scope : Scope} {Ng : List Str} {kA : M OD → DEnv → M OD} {mb : M OD} {body : Expr} {p lpos pos : Pos} (D : HrdK X.K X.mg x a Ng sg pg bg) (hG : ∀ gA, GivesR X B Ng x sg gA bg a (X.env.qual ++ "<lambda>") kA) (g : Gd X) (hr : Room (k + 2) X.A) (LT : LamT X.K X.mg X.base X.env.code qual) (hq : X.env.qual = qual ++ ".<locals>.")
    (L : LamS X.env.scope scope) (hn : Ng.length = n) (hNg : Ng[0]? = some a) (hva : Vis sg a) (hdef : defaultsOf params X.env = ([], []))
    (hbind : ∀ (q : Str) (cl : List (Str × Addr)) (pm cv ctv : Value), bindArgs (PySem.W.kla_fn "<lambda>" q params body scope cl pm cv ctv) ⟨[], []⟩ = pure [])
    (hbody : ∀ (A : Around) (outer : List Env) (s : Shared) (H : Hp) (E : XK) (f c' : Addr), Gd (lamCx X A outer s H E scope f c') → Room k (lamCx X A outer s H E scope f c').A → EO (lamCx X A outer s H E scope f c') (WF E) B body mb)
    (hg : Gl X x := by rfl) (hdb : (x == ("__debug__" : Str)) = false := by decide) (hd : (a == ("__debug__" : Str)) = false := by decide) (hcd : (a == ("__classdict__" : Str)) = false := by decide) :
    EO X W B (.Call (.Name x p) [.Lambda params body scope lpos] [] pos) (M.heard n kA mb) := by
  obtain ⟨gA, fd, h1, h2, h3, h4, h5⟩ := D
  exact eo_heardR (gA := gA) (fd := fd) g hr LT hq L h3 h1 h2 h4 h5 hn hNg hva (hG gA) hdef hbind hbody hg hdb hd hcd
end
end DL

set_option maxHeartbeats 2000000
/-! DL100: sorted(e), e a list of alike data: tuples may be empty too. -/
namespace DL
open PySem PySem.Spec PySem.Calls PyProof.Rows L2 PySem.W PySem.SeqAt
def isTup : PyData → Bool
  | .tuple _ => true
  | _ => false
def noTN : PyData → Bool
  | .none => false
  | .tuple _ => false
  | _ => true
def okSortB (ds : List PyData) : Bool := (ds.all fun d => ds.all fun d' => alike d d') && (ds.all isTup || ds.all noTN) && decide (ds.length ≤ 100000) && ds.all fun d => decide (d.depth ≤ 30)
def sortB : List PyData → Option OD
  | [.list ds] => if okSortB ds = true then some (.lst ((ds.mergeSort leA).map .pur)) else none
  | _ => none
def SortableB (ds : List PyData) : Prop := (∀ d ∈ ds, ∃ xs, d = .tuple xs) ∨ ∀ d ∈ ds, d ≠ .none ∧ ∀ xs, d ≠ .tuple xs
theorem okSortB_iff {ds : List PyData} : okSortB ds = true ↔ AllAlike ds ∧ SortableB ds ∧ ds.length ≤ 100000 ∧ ∀ d ∈ ds, d.depth ≤ 30 := by
  unfold okSortB
  simp only [Bool.and_eq_true, Bool.or_eq_true, List.all_eq_true, decide_eq_true_eq]
  have e1 : ∀ d : PyData, isTup d = true ↔ ∃ xs, d = .tuple xs := fun d => by cases d <;> simp [isTup]
  have e2 : ∀ d : PyData, noTN d = true ↔ d ≠ .none ∧ ∀ xs, d ≠ .tuple xs := fun d => by cases d <;> simp [noTN]
  constructor
  · rintro ⟨⟨⟨h1, h2⟩, h3⟩, h4⟩
    exact ⟨h1, h2.imp (fun h d hd => (e1 d).mp (h d hd)) fun h d hd => (e2 d).mp (h d hd), h3, h4⟩
  · rintro ⟨h1, h2, h3, h4⟩
    exact ⟨⟨⟨h1, h2.imp (fun h d hd => (e1 d).mpr (h d hd)) fun h d hd => (e2 d).mpr (h d hd)⟩, h3⟩, h4⟩
section
variable {prog : Program} {w : World} {A : Around} {E : Value → Shared → Prop} {s : Shared}
theorem call_tuple_lt {Q : Value → Shared → Prop} {l b : Addr} {items items2 : Array Value} {e r : Nat → Bool} (hl : s.heap.IsTuple l items) (hb : s.heap.IsTuple b items2)
    (he : ∀ j (h1 : j < items.size) (h2 : j < items2.size), EqAt A.in1 s items[j] items2[j] (e j)) (hr : ∀ j (h1 : j < items.size) (h2 : j < items2.size), e j = false → RcLt A.in1 s items[j] items2[j] (r j))
    (h : Q (.bool (firstLt e r (decide (items.size < items2.size)) (List.range (min items.size items2.size)))) s) : wpAny (model prog w) A (call (.builtin "tuple.__lt__") [.ref l, .ref b]) Q E s := by
  obtain ⟨⟨cls, dd, data, sl⟩, ho, hc, n, hd⟩ := id hl
  obtain ⟨⟨cls2, dd2, data2, sl2⟩, ho2, hc2, n2, hd2⟩ := id hb
  simp only at hc hd hc2 hd2
  subst hc hd hc2 hd2
  exact call_meets F.slot_tuple_lt ⟨_, ho, rfl⟩ F.entry_tuple_lt (F.args_tuple_lt_2 _ _) (tuple_ltAt l b items items2 n n2 dd dd2 sl sl2 e r) ⟨ho, ho2, he, hr, h⟩
theorem oneLt_tup {xs ys : List PyData} {a b : Value} {as bs : List Addr} {Q : Bool → Shared → Prop} (ra : Reads s.heap a (.tuple xs) as) (rb : Reads s.heap b (.tuple ys) bs) (h : alike (.tuple xs) (.tuple ys) = true)
    (hu : A.units + min (PyData.tuple xs).depth (PyData.tuple ys).depth < cLine) (hq : Q (dataLt (.tuple xs) (.tuple ys)) s) : wpAny (model prog w) A (oneLt' true a b) Q E s := by
  have hal : alikeAll xs ys = true := by simpa [alike] using h
  cases ra with
  | @tuple l o vs n _ as₁ h1 h2 h3 h4 =>
    cases rb with
    | @tuple l' o' vs' n' _ bs₁ k1 k2 k3 k4 =>
      have n1 : vs.size = xs.length := by simpa using ReadsAll.length _ _ _ h4
      have n2 : vs'.size = ys.length := by simpa using ReadsAll.length _ _ _ k4
      rw [dataLt_tuple, ← firstLt_toks xs ys hal, ← n1, ← n2] at hq
      rw [oneLt'_eq]
      simp only [if_true]
      refine wpAny_bind (wpAny_cRoomFor (room_here hu) ?_)
      refine wpAny_bind (wpAny_callSpecialIfBound?_slot (T := "tuple") ⟨_, h1, h2⟩ F.slot_tuple_lt (call_tuple_lt (e := pairEq xs ys) (r := fun j => dataLt (xs.getD j .none) (ys.getD j .none)) ⟨_, h1, h2, _, h3⟩ ⟨_, k1, k2, _, k3⟩ (fun j j1 j2 => ?_) (fun j j1 j2 hj => ?_) ?_))
      · have := eqAt_alikeAll xs ys A.in1 s vs.toList vs'.toList _ _ h4 k4 hal (room_in hu) j (by simpa using j1) (by simpa using j2)
        simpa using this
      · have := rcLt_alikeAll xs ys A.in1 s vs.toList vs'.toList _ _ h4 k4 hal (room_in hu) j (by simpa using j1) (by simpa using j2) hj
        simpa using this
      · exact wpAny_truthy_bool hq
def hasF : PyData → Bool
  | .tuple (_ :: _) => true
  | _ => false
theorem firstsB {M : Model} : ∀ {vs : List Value} {ds : List PyData}, EachIs (fun v d => ∃ as, Reads s.heap v d as) vs ds → (∀ d ∈ ds, ∃ xs, d = .tuple xs) → ∃ fs : List (Option Value), fs.map Option.isSome = ds.map hasF ∧ ∀ {Q : List (Option Value) → Shared → Prop}, Q fs s → wpAny M A (vs.mapM firstOfTuple') Q E s
  | _, _, .nil, _ => ⟨[], rfl, fun h => by rw [List.mapM_nil]; exact wpAny_pure h⟩
  | _, _, .cons (b := d) ⟨as, r⟩ t, ht => by
    obtain ⟨fs, h1, h2⟩ := firstsB (M := M) t fun d hd => ht d (List.mem_cons_of_mem _ hd)
    obtain ⟨xs, rfl⟩ := ht d List.mem_cons_self
    cases r with
    | @tuple a o ws n _ _ ho hc hd hr =>
      refine ⟨ws[0]? :: fs, ?_, fun {Q} h => ?_⟩
      · rw [List.map_cons, List.map_cons, h1]
        have hl : ws.size = xs.length := by simpa using SeqAt.ReadsAll.length _ _ _ hr
        cases xs with
        | nil => rw [Array.getElem?_eq_none (by rw [hl]; exact Nat.le_refl 0)]; rfl
        | cons x xs => rw [Array.getElem?_eq_getElem (by rw [hl]; exact Nat.succ_pos _)]; rfl
      · rw [List.mapM_cons]
        refine wpAny_bind ?_
        rw [kas_first_eq]
        refine wpAny_bind (Looks.here (show Looks M s.heap (typeOf (.ref a)) o.cls from (Looks.ld ho).andThen .now) ?_)
        rw [hc, if_neg (by first | decide | simp)]
        refine wpAny_bind (listItems_at ho hd (wpAny_pure ?_))
        exact wpAny_bind (h2 (Q := fun bs s' => wpAny M A (pure (ws[0]? :: bs)) Q E s') (wpAny_pure h))
theorem kindB {vs : List Value} {ds : List PyData} {Q : SortKind → Shared → Prop} (e : EachIs (fun v d => ∃ as, Reads s.heap v d as) vs ds) (ht : ∀ d ∈ ds, ∃ xs, d = .tuple xs) (he : (ds.all hasF) = false) (hq : Q (if (ds.head?.any hasF) = true then general' else oneType') s) :
    wpAny (model prog w) A (keyKind' vs.toArray) Q E s := by
  obtain ⟨fs, h1, h2⟩ := firstsB (M := model prog w) (A := A) (E := E) e ht
  rw [kat_kind_eq, List.mapM_toArray, map_eq_pure_bind]
  refine wpAny_bind (wpAny_bind (h2 (wpAny_pure ?_)))
  have ha : (fs.toArray.all fun x => x.isSome) = false := by
    rw [List.all_toArray, ← he]
    have : (fs.map Option.isSome).all id = (ds.map hasF).all id := by rw [h1]
    rw [List.all_map, List.all_map] at this
    exact this
  rw [ha, if_neg (by simp)]
  have hf : ((fs.toArray[0]?).bind id).isSome = ds.head?.any hasF := by
    rw [List.getElem?_toArray]
    cases fs with
    | nil => cases ds with
      | nil => rfl
      | cons d ds => cases h1
    | cons f fs => cases ds with
      | nil => cases h1
      | cons d ds =>
        injection h1
  rw [hf]
  by_cases c : ds.head?.any hasF = true
  · rw [if_pos c]
    rw [if_pos c] at hq
    exact wpAny_pure hq
  · rw [if_neg c]
    rw [if_neg c] at hq
    rw [oneTypeOnly'_eq, List.mapM_toArray, map_eq_pure_bind]
    have hT : ∀ v ∈ vs, Looks (model prog w) s.heap (typeOf v) (.type "tuple") := fun v hv => by
      obtain ⟨d, hd, as, r⟩ := e.left v hv
      obtain ⟨xs, rfl⟩ := ht d hd
      exact looks_reads r
    refine wpAny_bind (wpAny_bind (wpAny_bind (kas_mapM (r := Value.type "tuple") _ (fun v hv Q' hq => (hT v hv).here hq) (wpAny_pure ?_))))
    have hv : vs ≠ [] := fun z => by
      subst z
      cases e
      simp at he
    cases vs with
    | nil => exact absurd rfl hv
    | cons v vs =>
      have hall : ((List.map (fun _ => Value.type "tuple") (v :: vs)).toArray.all fun x => x == Value.type "tuple") = true := by
        simp only [List.all_toArray, List.all_map, List.all_eq_true]
        intro _ _
        rfl
      have h0 : (List.map (fun _ => Value.type "tuple") (v :: vs)).toArray[0]? = some (Value.type "tuple") := by simp
      rw [h0]
      simp only [hall, if_true]
      exact wpAny_pure (wpAny_pure hq)
theorem sortsB {vs : List Value} {ds : List PyData} (e : EachIs (fun v d => ∃ as, Reads s.heap v d as) vs ds) (hal : AllAlike ds) (hk : SortableB ds) (hu : ∀ d, d ∈ ds → A.units + d.depth < cLine) : SortsAt prog w A s (dataKind s.heap ds) vs := by
  rcases hk with ht | hn
  · cases he : ds.all hasF with
    | true =>
      refine SortsAt.data e hal (.inl fun d hd => ?_) hu
      have := List.all_eq_true.mp he d hd
      obtain ⟨xs, rfl⟩ := ht d hd
      cases xs with
      | nil => cases this
      | cons x r => exact ⟨x, r, rfl⟩
    | false =>
      refine ⟨fun v hv => ?_, if (ds.head?.any hasF) = true then general' else oneType', fun E x y a b Q ha hb hq => ?_, fun h2 E Q hq => kindB e ht he hq⟩
      · obtain ⟨d, hd, as, r⟩ := e.left v hv
        exact ⟨_, dataKind_some hal hd r⟩
      · obtain ⟨d, as, hd, ra, rfl⟩ := dataKind_inv ha
        obtain ⟨d', as', hd', rb, rfl⟩ := dataKind_inv hb
        have hdd := hal d hd d' hd'
        have hroom : A.units + min d.depth d'.depth < cLine := Nat.lt_of_le_of_lt (Nat.add_le_add_left (Nat.min_le_left _ _) _) (hu d hd)
        obtain ⟨xs, rfl⟩ := ht d hd
        obtain ⟨ys, rfl⟩ := ht d' hd'
        by_cases c : ds.head?.any hasF = true
        · rw [if_pos c]
          exact oneLt_alike (f := false) (fun z => by cases z) ra rb hdd (fun z => by cases z) hroom hq
        · rw [if_neg c, keyLt'_oneType]
          exact oneLt_tup ra rb hdd hroom hq
  · exact SortsAt.data e hal (.inr hn) hu
end
section
variable {X : Cx}
def rSortB (K : PySem.W.Frag) : List V → Hp → VK → Prop := fun vs H Q => ∃ (l : Addr) (xs : List V) (ds : List PyData) (P : Hp), vs = [.ref l] ∧ SqL K H l xs ∧ Same P H ∧ RpA K P xs ds ∧ okSortB ds = true ∧
  ∀ ys p, RpA K P ys (ds.mergeSort leA) → H p = none → Q (.ref p) (upd H p (.lst ys))
theorem cr_sortB (g : Gd X) (hu : X.A.units + 65 < cLine) : CallR X (.builtin "sorted") (rSortB X.K) := by
  rintro pins s σ H vs us Q I r ⟨l, xs, ds, P, rfl, hl, ph, rp, ok, q⟩
  obtain ⟨al, so, ln, dp⟩ := okSortB_iff.mp ok
  rw [Vals.ref1 r]
  obtain ⟨its, rv, pl, hz⟩ := I.list hl
  obtain ⟨e1, e2, e3⟩ := each_pairs rv rp
  have len : (xs.zip ds).length = ds.length := by rw [← e3, List.length_map, e3]
  have er : EachIs (fun u (b : V × PyData) => ∃ as, Reads s.heap u b.2 as) its (xs.zip ds) := each_mono e1 fun u b hb h => by obtain ⟨as, r, _⟩ := (e2 b hb).reads g I ph u h; exact ⟨as, r⟩
  have er' : EachIs (fun u (b : V × PyData) => ∃ as, Reads (sortingHeap (copyHeap s.heap its) (s.heap.objs.size + 1) its) u b.2 as) its (xs.zip ds) := er.mono fun _ _ ⟨as, r⟩ => ⟨as, PyProof.Rows.Reads.keeps (fun _ _ => sorting_copy_old) r⟩
  have alb : AllAlike ((xs.zip ds).map Prod.snd) := by rw [e3]; exact al
  have sob : SortableB ((xs.zip ds).map Prod.snd) := by rw [e3]; exact so
  have dpb : ∀ d, d ∈ (xs.zip ds).map Prod.snd → X.A.in1.in1.units + d.depth < cLine := fun d hd => by
    rw [e3] at hd
    have h1 := dp d hd
    have h2 : X.A.in1.in1.units = X.A.units + 2 := rfl
    omega
  refine sorted_vals pl.isList (sortsB (s := { s with heap := sortingHeap (copyHeap s.heap its) (s.heap.objs.size + 1) its }) (each_map (R := fun v d => ∃ as, Reads (sortingHeap (copyHeap s.heap its) (s.heap.objs.size + 1) its) v d as) Prod.snd er') alb sob dpb) (by rw [e1.length, len, sizeLine_eq]; omega) ?_
  have he := sortVals_data (h' := sortingHeap (copyHeap s.heap its) (s.heap.objs.size + 1) its) (R := fun u (b : V × PyData) => RelV b.1 u) (enc := Prod.snd) false e1 er' alb
  generalize sortVals (dataKind (sortingHeap (copyHeap s.heap its) (s.heap.objs.size + 1) its) ((xs.zip ds).map Prod.snd)) false its its = out at he ⊢
  have rp2 : RpA X.K P (((xs.zip ds).mergeSort (dataLe false Prod.snd)).map Prod.fst) (ds.mergeSort leA) := by
    have e4 : ((xs.zip ds).mergeSort (dataLe false Prod.snd)).map Prod.snd = ds.mergeSort leA := by
      have := sort_maps (r := dataLe false (Prod.snd : V × PyData → PyData)) (s := leA) Prod.snd (l := xs.zip ds) fun a _ b _ => rfl
      rw [e3] at this
      exact this
    rw [← e4]
    exact rpa_pairs fun b hb => e2 b ((List.mergeSort_perm _ _).mem_iff.mp hb)
  obtain ⟨c, hc⟩ := sortedAll_at s.heap its out.toArray
  have hp : s.heap.objs.size ≤ s.heap.objs.size + 1 := Nat.le_succ _
  have hn : H (s.heap.objs.size + 1) = none := I.hok.fresh hp
  refine ⟨.ref (s.heap.objs.size + 1), upd H (s.heap.objs.size + 1) (.lst (((xs.zip ds).mergeSort (dataLe false Prod.snd)).map Prod.fst)), I.laid (t' := s.toks) (fun b o e => sortedAll_old e) hp ⟨?_, out, c, each_vals he, ?_⟩, rfl, q _ _ rp2 hn⟩
  · rw [List.length_map, (List.mergeSort_perm _ _).length_eq, len, sizeLine_eq]
    omega
  · exact hc
theorem co_sortB : CallO X.K X.mg (rSortB X.K) sortB := by
  intro P H vs ds x Q ph rs ez k
  match vs, ds, rs with
  | _, _, .nil => cases ez
  | _, _, .cons r1 (.cons r2 t) => cases r1 <;> cases ez
  | _, _, .cons r1 .nil =>
    cases r1 with
    | @lst a xs ds h t =>
      simp only [sortB] at ez
      split at ez
      · rename_i ok
        cases ez
        exact ⟨a, xs, ds, P, rfl, .inl (rd_mono ph h), ph, t, ok, fun ys p rp hp => k p _ hp (new_lst ph rp hp).1 (new_lst ph rp hp).2⟩
      · cases ez
    | _ => cases ez
def sortBS (i : Nat) (pp : DEnv → Option (List Stp)) : DEnv → Option OD := fun env => (placeO i pp env).bind fun y => match y with
  | .lst xs => (match pursD xs with
    | some ds => if okSortB ds = true then some (.lst ((ds.mergeSort leA).map .pur)) else none
    | none => none)
  | _ => none
variable {W : WX} {B : List Nat} {i : Nat} {pp : DEnv → Option (List Stp)} {e : Expr}
theorem eq_sortB {p0 pos : Pos} (g : Gd X) (hu : X.A.units + 65 < cLine) (hg : Gl X "sorted") (hm : X.mg "sorted" = none) (he : PL X B i e pp)
    (hs : starEach (e :: []) X.env = (false, eval e X.env) :: starEach [] X.env := by rfl) (hpl : (backTo pos (starEach [] X.env)).any (·.1) = false := by rfl) :
    EQ X B (.Call (.Name "sorted" p0) [e] [] pos) (sortBS i pp) := PE_mono (pe_callB (cr_sortB g hu) hg hm (by decide +kernel) (pa_cons he pa_nil hs) (by decide) (by decide) hs hpl) fun σ H Q ⟨bv, R, P, Fs, env, y, S, hm, k⟩ => by
  unfold sortBS at hm
  obtain ⟨z, hz, hm⟩ := Option.bind_eq_some_iff.mp hm
  obtain ⟨x, p, hx, hp, hy⟩ := place_some hz
  cases z with
  | lst xs =>
    simp only at hm
    split at hm
    · rename_i ds hds
      split at hm
      · rename_i ok
        cases hm
        refine ⟨bv, R, P, Fs, env, p, x, _, S, hx, hp, hy, fun v u hv hpl => ?_⟩
        obtain ⟨v', u', G, Rv, hv', pl', _, _, _, Sv, _⟩ := S.focus2 hx hy
        rw [hv] at hv'
        cases hv'
        have eu := pl'.det hpl
        subst eu
        obtain ⟨w0, hw0, oz⟩ := Sv.slot 0 _ rfl
        cases hw0
        obtain ⟨a, F0, vs, rfl, _, hH, ol⟩ := oz.lst_inv
        exact ⟨a, vs, ds, P, rfl, .inl (.inl hH), S.ph, purs_owl hds ol, ok, fun ys q rp hq => k _ P _ [q] (new_lst (X := X) S.ph rp hq).1 (new_lst (X := X) S.ph rp hq).2 (Free.one S hq)⟩
      · cases hm
    · cases hm
  | _ => cases hm
end
end DL

set_option maxHeartbeats 2000000
/-! DL101: the order of alike data; lots merged are sorted. -/
namespace DL
open PySem PySem.Spec PyProof.Rows L2 PySem.W
theorem leA_tot : TotalLe leA := by unfold leA dataLe; exact sortLe_total _ _ _
theorem leA_def (a b : PyData) : leA a b = !dataLt b a := rfl
mutual
theorem tok_inj : ∀ (x y : PyData) {l m : List (Int ⊕ List Nat)}, alike x y = true → keyToks x ++ l = keyToks y ++ m → x = y ∧ l = m
  | .none, y, l, m, h, e => by
    cases y with
    | none => exact ⟨rfl, e⟩
    | _ => exact absurd h (by simp [alike])
  | .bool a, y, l, m, h, e => by
    cases y with
    | bool b =>
      simp only [keyToks, List.cons_append, List.nil_append] at e
      injection e with e1 e2
      have q := Sum.inl.inj e1
      refine ⟨?_, e2⟩
      cases a <;> cases b <;> simp_all
    | _ => exact absurd h (by simp [alike])
  | .int a, y, l, m, h, e => by
    cases y with
    | int b =>
      simp only [keyToks, List.cons_append, List.nil_append] at e
      injection e with e1 e2
      exact ⟨by rw [Sum.inl.inj e1], e2⟩
    | _ => exact absurd h (by simp [alike])
  | .str a, y, l, m, h, e => by
    cases y with
    | str b =>
      simp only [keyToks, List.cons_append, List.nil_append] at e
      injection e with e1 e2
      exact ⟨by rw [str_of_cps (Sum.inr.inj e1)], e2⟩
    | _ => exact absurd h (by simp [alike])
  | .list xs, y, l, m, h, e => by
    cases y with
    | list ys =>
      simp only [keyToks] at e
      obtain ⟨h1, h2⟩ := tokAll_inj xs ys (by simpa [alike] using h) e
      exact ⟨by rw [h1], h2⟩
    | _ => exact absurd h (by simp [alike])
  | .tuple xs, y, l, m, h, e => by
    cases y with
    | tuple ys =>
      simp only [keyToks] at e
      obtain ⟨h1, h2⟩ := tokAll_inj xs ys (by simpa [alike] using h) e
      exact ⟨by rw [h1], h2⟩
    | _ => exact absurd h (by simp [alike])
  | .dict _, y, l, m, h, e => absurd h (by cases y <;> simp [alike])
theorem tokAll_inj : ∀ (xs ys : List PyData) {l m : List (Int ⊕ List Nat)}, alikeAll xs ys = true → keyToksAll xs ++ l = keyToksAll ys ++ m → xs = ys ∧ l = m
  | [], [], l, m, _, e => ⟨rfl, by simpa using e⟩
  | [], y :: ys, l, m, _, e => by
    rw [toks_all_cons] at e
    simp only [keyToksAll, List.cons_append, List.nil_append] at e
    injection e with e1 _
    exact absurd (Sum.inl.inj e1) (by decide)
  | x :: xs, [], l, m, _, e => by
    rw [toks_all_cons] at e
    simp only [keyToksAll, List.cons_append, List.nil_append] at e
    injection e with e1 _
    exact absurd (Sum.inl.inj e1) (by decide)
  | x :: xs, y :: ys, l, m, h, e => by
    rw [toks_all_cons, toks_all_cons] at e
    simp only [List.cons_append, List.append_assoc] at e
    injection e with _ e
    obtain ⟨h1, h2⟩ := tok_inj x y (alike_all_cons h).1 e
    obtain ⟨h3, h4⟩ := tokAll_inj xs ys (alike_all_cons h).2 h2
    exact ⟨by rw [h1, h3], h4⟩
end
theorem leA_anti {a b : PyData} (h : alike a b = true) (h1 : leA a b = true) (h2 : leA b a = true) : a = b := by
  rw [leA_def, Bool.not_eq_true'] at h1 h2
  have e : keyToks a = keyToks b := (listOrd itemOrd).total _ _ h2 h1
  exact (tok_inj a b (l := []) (m := []) h (by rw [e])).1
theorem argBest_le {bt : Nat → Nat → Bool} : ∀ k, argBest bt k ≤ k
  | 0 => Nat.le_refl _
  | k + 1 => by
    unfold argBest
    split
    · exact Nat.le_refl _
    · exact Nat.le_succ_of_le (argBest_le k)
theorem argBest_min {kds : List PyData} : ∀ k j, j ≤ k → leA (kds.getD (argBest (fun i j => dataLt (kds.getD i .none) (kds.getD j .none)) k) .none) (kds.getD j .none) = true
  | 0, j, h => by
    obtain rfl : j = 0 := by omega
    exact leA_tot.refl _
  | k + 1, j, h => by
    unfold argBest
    by_cases hb : dataLt (kds.getD (k + 1) .none) (kds.getD (argBest (fun i j => dataLt (kds.getD i .none) (kds.getD j .none)) k) .none) = true
    · rw [if_pos hb]
      by_cases e : j = k + 1
      · subst e; exact leA_tot.refl _
      · refine leA_tot.trans _ _ _ ?_ (argBest_min k j (by omega))
        refine (leA_tot.total _ _).resolve_right fun z => ?_
        rw [leA_def, Bool.not_eq_true'] at z
        rw [z] at hb
        cases hb
    · rw [if_neg hb]
      by_cases e : j = k + 1
      · subst e
        rw [leA_def, Bool.not_eq_true']
        simpa using hb
      · exact argBest_min k j (by omega)
theorem minIx_lt {kds : List PyData} (h : 0 < kds.length) : minIx kds < kds.length := by
  have := argBest_le (bt := fun i j => dataLt (kds.getD i .none) (kds.getD j .none)) (kds.length - 1)
  unfold minIx
  omega
theorem minIx_le {kds : List PyData} {d : PyData} (h : d ∈ kds) : leA (kds.getD (minIx kds) .none) d = true := by
  obtain ⟨j, hj, rfl⟩ := List.mem_iff_getElem.mp h
  have := argBest_min (kds := kds) (kds.length - 1) j (by omega)
  rw [show kds.getD j .none = kds[j] by rw [List.getD_eq_getElem?_getD, List.getElem?_eq_getElem hj]; rfl] at this
  exact this
abbrev Srt (l : List PyData) : Prop := l.Pairwise fun a b => leA a b = true
theorem flat_set : ∀ {dss : List (List PyData)} {i : Nat} {d : PyData} {ds : List PyData}, dss[i]? = some (d :: ds) → dss.flatten.Perm (d :: (dss.set i ds).flatten)
  | [], _, _, _, h => by cases h
  | l :: dss, 0, d, ds, h => by
    cases h
    exact .refl _
  | l :: dss, i + 1, d, ds, h => by
    have := flat_set (dss := dss) (i := i) h
    rw [List.set_cons_succ, List.flatten_cons, List.flatten_cons]
    exact (this.append_left l).trans List.perm_middle
theorem nes_mem {dss : List (List PyData)} {l : List PyData} (h : l ∈ nes dss) : l ∈ dss ∧ l ≠ [] := by
  obtain ⟨h1, h2⟩ := List.mem_filter.mp h
  refine ⟨h1, fun z => ?_⟩
  rw [z] at h2
  cases h2
theorem hd_le {l : List PyData} (h : Srt l) {e : PyData} (he : e ∈ l) : leA (hdD l) e = true := by
  cases l with
  | nil => cases he
  | cons a l =>
    rcases List.mem_cons.mp he with rfl | he
    · exact leA_tot.refl _
    · exact (List.pairwise_cons.mp h).1 e he
theorem mrg_ok : ∀ (n : Nat) {dss : List (List PyData)}, (∀ l ∈ dss, l ≠ []) → (∀ l ∈ dss, Srt l) → dss.flatten.length ≤ n → ∃ out, mrg n dss = some out ∧ out.Perm dss.flatten ∧ Srt out
  | n, [], _, _, _ => ⟨[], by cases n <;> rfl, .refl _, .nil⟩
  | 0, l :: dss, h1, _, h3 => by
    have h := h1 l List.mem_cons_self
    cases l with
    | nil => exact absurd rfl h
    | cons a l => rw [List.flatten_cons, List.length_append, List.length_cons] at h3; omega
  | n + 1, l :: dss, h1, h2, h3 => by
    have hi := minIx_lt (kds := (l :: dss).map hdD) (by simp)
    rw [List.length_map] at hi
    have hg : (l :: dss)[minIx ((l :: dss).map hdD)]? = some (l :: dss)[minIx ((l :: dss).map hdD)] := List.getElem?_eq_getElem hi
    have hm := List.getElem_mem hi
    generalize hx : (l :: dss)[minIx ((l :: dss).map hdD)] = x at hg hm
    cases x with
    | nil => exact absurd rfl (h1 _ hm)
    | cons d ds =>
      have hp : popMin (l :: dss) = some (d, nes ((l :: dss).set (minIx ((l :: dss).map hdD)) ds)) := by
        unfold popMin
        rw [hg]
      have pf := flat_set hg
      have hsub : ∀ l' ∈ (l :: dss).set (minIx ((l :: dss).map hdD)) ds, Srt l' := fun l' hl' => by
        rcases List.mem_or_eq_of_mem_set hl' with h | h
        · exact h2 l' h
        · subst h
          exact (List.pairwise_cons.mp (h2 _ hm)).2
      have hlen : (nes ((l :: dss).set (minIx ((l :: dss).map hdD)) ds)).flatten.length ≤ n := by
        rw [nes_flat]
        have := pf.length_eq
        rw [List.length_cons] at this
        omega
      obtain ⟨out, o1, o2, o3⟩ := mrg_ok n (dss := nes ((l :: dss).set (minIx ((l :: dss).map hdD)) ds)) (fun l' h => (nes_mem h).2) (fun l' h => hsub l' (nes_mem h).1) hlen
      rw [nes_flat] at o2
      refine ⟨d :: out, ?_, (o2.cons d).trans pf.symm, List.pairwise_cons.mpr ⟨fun e he => ?_, o3⟩⟩
      · show (match popMin (l :: dss) with
          | some (d, dss') => (mrg n dss').map (d :: ·)
          | none => none) = _
        rw [hp]
        simp only [o1, Option.map_some]
      · have he2 : e ∈ (l :: dss).flatten := pf.symm.mem_iff.mp (List.mem_cons_of_mem _ (o2.mem_iff.mp he))
        obtain ⟨l', hl', hel⟩ := List.mem_flatten.mp he2
        have hd1 := minIx_le (kds := (l :: dss).map hdD) (List.mem_map.mpr ⟨l', hl', rfl⟩)
        rw [show ((l :: dss).map hdD).getD (minIx ((l :: dss).map hdD)) .none = d by
          rw [List.getD_eq_getElem?_getD, List.getElem?_map, hg]; rfl] at hd1
        exact leA_tot.trans _ _ _ hd1 (hd_le (h2 l' hl') hel)
theorem srt_sort (l : List PyData) : Srt (l.mergeSort leA) := sort_pairwise leA_tot l
/-- two sorted lists of the same alike data are one -/
theorem srt_one {l m : List PyData} (hal : ∀ a ∈ l, ∀ b ∈ l, alike a b = true) (h1 : Srt l) (h2 : Srt m) (p : m.Perm l) : m = l :=
  p.eq_of_pairwise (le := fun a b => leA a b = true) (fun a b ha hb => leA_anti (hal a (p.mem_iff.mp ha) b hb)) h2 h1
theorem srt_eq {l m : List PyData} (hal : ∀ a ∈ l, ∀ b ∈ l, alike a b = true) (h2 : Srt m) (p : m.Perm l) : m = l.mergeSort leA := by
  have pm := List.mergeSort_perm l leA
  exact srt_one (fun a ha b hb => hal a (pm.mem_iff.mp ha) b (pm.mem_iff.mp hb)) (srt_sort l) h2 (p.trans pm.symm)
end DL

set_option maxHeartbeats 2000000
/-! DL102: runs: a method at a place that raises. -/
namespace DL
open PySem PySem.Spec PyProof.Rows L2
section
variable {env : DEnv} {i : Nat} {x y : OD} {p : List Stp} {pp : DEnv → Option (List Stp)} {c mn : Str} {f : M OD}
theorem ex_hid {α β : Type} {m : M α} {g : α → M β} {env0 : DEnv} {P : Xn → DEnv → Prop} (hx : sl env i = some x) (h0 : env.set i none = env0) (h : Hs (m env0) fun a e1 => e1[i]? = some none ∧ Ex (g a (e1.set i (some x))) P) : Ex (M.bind (M.hid i m) g env) P :=
  ex_bind2 (hs_hid hx h0 h)
theorem ex_methP {l : M (List PyData)} {env0 : DEnv} {P : Xn → DEnv → Prop} (hx : sl env i = some x) (hp : pp env = some p) (hy : getP p x = some y) (ho : isObj c mn y = true) (h0 : env.set i none = env0)
    (h : Hs (l env0) fun ds e1 => e1[i]? = some none ∧ Ex (f (some y :: ds.map fun d => some (.pur d))) fun z outs => ∃ y' rest, outs = some y' :: rest ∧ P z ((e1.set i (some x)).set i (some (setP p x y')))) : Ex (M.methP i pp c mn f l env) P := by
  unfold M.methP
  rw [placeO_of hx hp hy, sl_some hx, hp]
  simp only [Option.join_some]
  rw [if_pos ho]
  refine ex_hid hx h0 (h.mono ?_)
  rintro ds e1 ⟨h1, z, outs, h2, y', rest, h3, h4⟩
  subst h3
  refine ⟨h1, z, _, ?_, h4⟩
  unfold methB
  rw [h2]
theorem ex_raise {c : Str} {P : Xn → DEnv → Prop} (q : P ⟨.own c, none⟩ env) : Ex (M.raise c env) P := ⟨_, _, rfl, q⟩
end
end DL

set_option maxHeartbeats 2000000
/-! DL103: sum of truth values; the index of one. -/
namespace DL
open PySem PySem.Spec PySem.Calls PyProof.Rows L2 PySem.W
def boI (b : Bool) : Int := if b = true then 1 else 0
section
variable {prog : Program} {w : World} {A : Around} {R : Result → Shared → Prop} {I : Addr} {fp wr : List Addr} {G : Array GenState → Array GenState → Prop} {n : Nat} {P : Nat → Value → Prop} {St : Nat → Shared → Prop}
theorem iteB {α : Type} {M : Model} {A : Around} {c : Bool} {x y : Sem α} {Q : α → Shared → Prop} {E : Value → Shared → Prop} {s : Shared} (h1 : wpAny M A x Q E s) (h2 : wpAny M A y Q E s) : wpAny M A (if c = true then x else y) Q E s := by
  cases c
  · exact h2
  · exact h1
theorem sum_loopB (W : WalksS prog w A.in1 I fp wr G n P St) (bs : Nat → Bool) (hval : ∀ i v, P i v → v = .bool (bs i)) (S : Addr) (hSf : S ∉ fp) :
    ∀ (k i : Nat) (s : Shared) (tA : Tok) (c : Nat) (st : Int), (st = 0 ∨ st = 2) → n - i = k → i ≤ n → St i s → s.heap.get? S = some { cls := .type "list", dict := none, data := .seq #[.int (preSum (fun i => boI (bs i)) i) tA] c, slots := #[] } →
    (∀ s' t', Moved (S :: wr) G s s' → R (.ok (.ret (.int (preSum (fun i => boI (bs i)) n) t'))) s') → codeAny (model prog w) A (.builtin "sum.loop" ⟨[.ref I, .ref S, rawInt st, rawInt 0], []⟩) R s := by
  have hSw : S ∉ wr := fun h => hSf (W.sub _ h)
  have hsub : ∀ b ∈ wr, b ∈ S :: wr := fun b hb => List.mem_cons_of_mem _ hb
  intro k
  induction k with
  | zero =>
    intro i s tA c st hst2 hk hi hst hS hR
    have hin : i = n := by omega
    subst hin
    refine codeAny_builtin F.entry_sum_loop ?_
    rw [Around.under_plainId F.plain_sum_loop _]
    show wpAny _ A.in1 (seqItems? (.ref S) >>= _) _ _ s
    refine wpAny_bind (wpAny_seqItems hS rfl ?_)
    show wpAny _ A.in1 (tryCatch (pyNext (.ref I)) _ >>= _) _ _ s
    refine wpAny_bind (wpAny_tryCatch (W.done s _ _ hst fun s' hm => ?_))
    exact wpAny_pure (hR s' tA (hm.mono hsub))
  | succ k ih =>
    intro i s tA c st hst2 hk hi hst hS hR
    have hlt : i < n := by omega
    refine codeAny_builtin F.entry_sum_loop ?_
    rw [Around.under_plainId F.plain_sum_loop _]
    show wpAny _ A.in1 (seqItems? (.ref S) >>= _) _ _ s
    refine wpAny_bind (wpAny_seqItems hS rfl ?_)
    show wpAny _ A.in1 (tryCatch (pyNext (.ref I)) _ >>= _) _ _ s
    refine wpAny_bind (wpAny_tryCatch (W.item i s _ _ hlt hst fun v s' hP hst' hm => ?_))
    obtain rfl := hval i v hP
    have hS' := hm.heap S _ hSw hS
    rcases hst2 with rfl | rfl
    · show wpAny _ A.in1 (if (_ : Bool) = true then (mkInt (preSum (fun i => boI (bs i)) i + boI (bs i)) >>= _) else _) _ _ _
      refine iteB ?_ ?_
      · refine wpAny_bind (wpAny_mkInt ?_)
        show wpAny _ A.in1 (updateSeq S (fun _ => #[.int (preSum (fun i => boI (bs i)) i + boI (bs i)) s'.toks]) >>= _) _ _ _
        refine wpAny_bind ?_
        refine wpAny_updateSeq hS' rfl (wpAny_pure ⟨plainId_quiet F.plain_sum_loop _, ih (i + 1) _ s'.toks _ 0 (.inl rfl) (by omega) hlt (W.frame _ s' _ _ hst' (by first | exact Nat.le_refl _ | exact Nat.le_succ _ | omega) fun b hb o e => ?_) (Heap.get?_update_self _ hS' rfl) fun s'' t'' hm'' => ?_⟩)
        · exact (Heap.get?_update_other _ _ (fun h : S = b => hSf (by rw [h]; exact hb))).trans e
        · refine hR s'' t'' (Moved.trans W.gtrans ((hm.mono hsub).then_heap (by first | exact Nat.le_refl _ | exact Nat.le_succ _ | omega) fun b o hb e => ?_) hm'')
          exact (Heap.get?_update_other _ _ (fun h : S = b => hb (by rw [h]; exact List.mem_cons_self))).trans e
      · refine wpAny_bind (wpAny_rule ?_)
        refine wpAny_bind (wpAny_attempt (wpAny_holding (PySem.add_int_bool ?_)))
        show wpAny _ A.in1 (updateSeq S (fun _ => #[.int (preSum (fun i => boI (bs i)) i + boI (bs i)) s'.toks]) >>= _) _ _ _
        refine wpAny_bind (wpAny_updateSeq hS' rfl ?_)
        have hS₂ := Heap.get?_update_self (Obj.mapSeq fun _ => #[Value.int (preSum (fun i => boI (bs i)) i + boI (bs i)) s'.toks]) hS' rfl
        refine wpAny_bind (wpAny_letGo ?_)
        refine wpAny_bind (wpAny_updateSeq hS₂ rfl (wpAny_pure ⟨plainId_quiet F.plain_sum_loop _, ih (i + 1) _ s'.toks _ 2 (.inr rfl) (by omega) hlt (W.frame _ s' _ _ hst' (by first | exact Nat.le_refl _ | exact Nat.le_succ _ | omega) fun b hb o e => ?_) (Heap.get?_update_self _ hS₂ rfl) fun s'' t'' hm'' => ?_⟩))
        · exact (Heap.get?_update_other _ _ (fun h : S = b => hSf (by rw [h]; exact hb))).trans ((Heap.get?_update_other _ _ (fun h : S = b => hSf (by rw [h]; exact hb))).trans e)
        · refine hR s'' t'' (Moved.trans W.gtrans ((hm.mono hsub).then_heap (by first | exact Nat.le_refl _ | exact Nat.le_succ _ | omega) fun b o hb e => ?_) hm'')
          exact (Heap.get?_update_other _ _ (fun h : S = b => hb (by rw [h]; exact List.mem_cons_self))).trans ((Heap.get?_update_other _ _ (fun h : S = b => hb (by rw [h]; exact List.mem_cons_self))).trans e)
    · show wpAny _ A.in1 ((holding [Value.bool (bs i)] (binaryOp .Add (.int (preSum (fun i => boI (bs i)) i) tA) (.bool (bs i)))).attempt >>= _) _ _ _
      refine wpAny_bind (wpAny_attempt (wpAny_holding (PySem.add_int_bool ?_)))
      show wpAny _ A.in1 (updateSeq S (fun _ => #[.int (preSum (fun i => boI (bs i)) i + boI (bs i)) s'.toks]) >>= _) _ _ _
      refine wpAny_bind (wpAny_updateSeq hS' rfl ?_)
      have hS₂ := Heap.get?_update_self (Obj.mapSeq fun _ => #[Value.int (preSum (fun i => boI (bs i)) i + boI (bs i)) s'.toks]) hS' rfl
      refine wpAny_bind (wpAny_letGo ?_)
      refine wpAny_bind (wpAny_updateSeq hS₂ rfl (wpAny_pure ⟨plainId_quiet F.plain_sum_loop _, ih (i + 1) _ s'.toks _ 2 (.inr rfl) (by omega) hlt (W.frame _ s' _ _ hst' (by first | exact Nat.le_refl _ | exact Nat.le_succ _ | omega) fun b hb o e => ?_) (Heap.get?_update_self _ hS₂ rfl) fun s'' t'' hm'' => ?_⟩))
      · exact (Heap.get?_update_other _ _ (fun h : S = b => hSf (by rw [h]; exact hb))).trans ((Heap.get?_update_other _ _ (fun h : S = b => hSf (by rw [h]; exact hb))).trans e)
      · refine hR s'' t'' (Moved.trans W.gtrans ((hm.mono hsub).then_heap (by first | exact Nat.le_refl _ | exact Nat.le_succ _ | omega) fun b o hb e => ?_) hm'')
        exact (Heap.get?_update_other _ _ (fun h : S = b => hb (by rw [h]; exact List.mem_cons_self))).trans ((Heap.get?_update_other _ _ (fun h : S = b => hb (by rw [h]; exact List.mem_cons_self))).trans e)
end
section
variable {prog : Program} {w : World} {A : Around} {E : Value → Shared → Prop} {s : Shared}
theorem sum_bools {l : Addr} {bs : List Bool} {Q : Value → Shared → Prop} (hh : A.handled = none) (hl : s.heap.IsList l (bs.map Value.bool).toArray)
    (h : ∀ h' tk t', (∀ b o, s.heap.get? b = some o → h'.get? b = some o) → Q (.int (bs.map boI).sum t') { s with heap := h', toks := tk }) : wpAny (model prog w) A (call (.builtin "sum") [.ref l]) Q E s := by
  refine call_function_tree F.kind_sum F.plain_sum F.entry_sum (F.args_sum1 _) ?_
  unfold Builtin.«sum»
  simp only [List.length_cons, List.length_nil]
  rw [if_neg (by decide)]
  refine wpAny_bind (wpAny_of_eq (show Builtin.Builtins.bindParams "sum" ["start"] 0 { } = pure [none] from rfl) ?_)
  refine wpAny_bind (PySem.Flt.iter_list_ hl fun s₂ e st hfp hlI => ?_)
  subst e
  have W := (Walks.list (prog := prog) (w := w) (A := A.in1) hh _ l hlI (bs.map Value.bool).toArray).toS
  refine wpAny_bind (wpAny_mkInt ?_)
  refine wpAny_bind (wpAny_pure ?_)
  simp only [List.forIn_cons, List.forIn_nil]
  refine wpAny_bind (wpAny_bind (wpAny_bind (wpAny_isInstance (T := "int") (b := false) (typeIs_int _ _ _) PySem.sub_int_str ?_)))
  simp only [Bool.false_eq_true, if_false]
  refine wpAny_pure (wpAny_bind (wpAny_bind (wpAny_isInstance (T := "int") (b := false) (typeIs_int _ _ _) PySem.sub_int_bytes ?_)))
  simp only [Bool.false_eq_true, if_false]
  refine wpAny_pure (wpAny_bind (wpAny_bind (wpAny_isInstance (T := "int") (b := false) (typeIs_int _ _ _) PySem.sub_int_bytearray ?_)))
  simp only [Bool.false_eq_true, if_false]
  refine wpAny_pure (wpAny_pure ?_)
  refine wpAny_bind (wpAny_newObj_type ?_)
  refine wpAny_pure ⟨plainId_quiet F.plain_sum_loop _, sum_loopB W (fun i => bs.getD i false) (fun i v hP => ?_) _ (fun hm => Nat.lt_irrefl _ (hfp _ hm)) _ 0 _ _ 0 0 (.inl rfl) rfl (Nat.zero_le _)
    (W.frame 0 _ _ _ st (by first | exact Nat.le_refl _ | exact Nat.le_succ _ | omega) fun b _ o e => Heap.get?_push_of_some _ e) (Heap.get?_push_size _ rfl) fun s' t' hm => ?_⟩
  · have hP : (bs.map Value.bool).toArray[i]? = some v := hP
    rw [List.getElem?_toArray, List.getElem?_map] at hP
    obtain ⟨b, hb, rfl⟩ := Option.map_eq_some_iff.mp hP
    rw [List.getD_eq_getElem?_getD, hb]; rfl
  · have hm := hm.drop_new (by first | exact Nat.le_refl _ | exact Nat.le_succ _ | omega)
    obtain ⟨hp, g, d, tk, os⟩ := s'
    have kp := PySem.Flt.kept_iter hm.heap
    have := h hp tk t' kp
    have e1 : g = s.gens := hm.gens
    have e2 : d = s.drawn := hm.drawn
    have e3 : os = s.os := hm.os
    subst e1 e2 e3
    have es : preSum (fun i => boI (bs.getD i false)) (bs.map Value.bool).toArray.size = (bs.map boI).sum := by
      have hs : (bs.map Value.bool).toArray.size = bs.length := by simp
      rw [hs]
      have key : ∀ n, n ≤ bs.length → preSum (fun i => boI (bs.getD i false)) n = ((bs.map boI).take n).sum := by
        intro n
        induction n with
        | zero => intro _; rfl
        | succ n ih =>
          intro hn
          show preSum _ n + boI (bs.getD n false) = _
          rw [ih (by omega), List.take_add_one, List.getElem?_map, List.getElem?_eq_getElem (show n < bs.length by omega), List.getD_eq_getElem?_getD, List.getElem?_eq_getElem (show n < bs.length by omega)]
          simp
      rw [key _ (Nat.le_refl _), List.take_of_length_le (by simp)]
    rw [es]
    exact this
end
section
variable {X : Cx}
def rSumBl (K : PySem.W.Frag) : List V → Hp → VK → Prop := fun vs H Q => ∃ (a : Addr) (bs : List Bool), vs = [V.ref a] ∧ SqL K H a (bs.map V.bl) ∧ Q (.int (bs.map boI).sum) H
theorem vals_bls : ∀ {bs : List Bool} {us : List Value}, Vals (bs.map V.bl) us → us = bs.map Value.bool
  | [], _, .nil => rfl
  | b :: bs, _, .cons r t => by
    have r : _ = Value.bool b := r
    rw [r, vals_bls t]; rfl
def rSumX (K : PySem.W.Frag) : List V → Hp → VK → Prop := fun vs H Q => rSum K vs H Q ∨ rSumBl K vs H Q
theorem cr_sumX (hc : X.calm = true) : CallR X (.builtin "sum") (rSumX X.K) := by
  intro pins s σ H vs us Q I r h
  rcases h with h | ⟨a, bs, rfl, hs, q⟩
  · exact cr_sum hc pins s σ H vs us Q I r h
  · obtain ⟨its, rv, hl, _⟩ := I.list hs
    rw [Vals.ref1 r]
    rw [vals_bls rv] at hl
    exact sum_bools (I.ok.hd hc) hl.isList fun h' tk t' hk => ⟨.int _, H, I.kept hk, ⟨_, rfl⟩, q⟩
def sumX (d : PyData) : Option PyData := match sumD d with
  | some z => some z
  | none => (match d with
    | .list ds => (blsOf ds).map fun bs => .int (bs.map boI).sum
    | _ => none)
theorem cd_sumX : CallD X.K (rSumX X.K) (one sumX) := calld1 fun P H v d z Q ph r1 ez k => by
  unfold sumX at ez
  cases hd : sumD d with
  | some y =>
    rw [hd] at ez
    cases ez
    cases r1 with
    | lst h t =>
      simp only [sumD] at hd
      obtain ⟨ns, e1, e2⟩ := Option.map_eq_some_iff.mp hd
      subst e2
      have := ints_rp t e1
      subst this
      exact .inl ⟨_, ns, rfl, .inl (rd_mono ph h), k _ P H (.refl ph) (.int _)⟩
    | _ => cases hd
  | none =>
    rw [hd] at ez
    cases r1 with
    | lst h t =>
      simp only at ez
      obtain ⟨bs, e1, e2⟩ := Option.map_eq_some_iff.mp ez
      subst e2
      have := bls_rp t e1
      subst this
      exact .inr ⟨_, bs, rfl, .inl (rd_mono ph h), k _ P H (.refl ph) (.int _)⟩
    | _ => cases ez
/-! ### x.index(e), truth values too -/
def idxB (i : Bool) : List Bool → Nat → Option Nat
  | [], _ => none
  | a :: l, k => if a = i then some k else idxB i l (k + 1)
theorem idxB_spec {i : Bool} : ∀ {l : List Bool} {k j : Nat}, idxB i l k = some j → ∃ m, j = k + m ∧ l[m]? = some i ∧ ∀ n < m, ∀ z, l[n]? = some z → z ≠ i
  | [], _, _, h => by cases h
  | a :: l, k, j, h => by
    simp only [idxB] at h
    split at h
    · rename_i ha
      cases h
      exact ⟨0, rfl, by simp [ha], fun n hn => absurd hn (Nat.not_lt_zero _)⟩
    · rename_i ha
      obtain ⟨m, h1, h2, h3⟩ := idxB_spec h
      refine ⟨m + 1, by omega, by simpa using h2, fun n hn z hz => ?_⟩
      cases n with
      | zero => simp at hz; rw [← hz]; exact ha
      | succ n => exact h3 n (by omega) z (by simpa using hz)
def indexBD (c d : PyData) : Option PyData := match c, d with
  | .list ds, .bool i => (blsOf ds).bind fun bs => (idxB i bs 0).map fun (j : Nat) => .int (j : Int)
  | _, _ => none
def M.indexB (a b : M PyData) : M PyData := M.bind a fun c => if isLstD c = true then M.bind b fun d => M.opt (indexBD c d) else M.fail
variable {W : WX} {B : List Nat} {a e : Expr} {ma me : M PyData} {apos cpos : Pos}
theorem ed_indexB (ha : ED X W B a ma) (he : ED X W B e me)
    (hbase : attributeBase a "index" X.env (eval a X.env) = eval a X.env := by rfl)
    (hfew : ((backTo cpos (starEach (e :: []) X.env)).all (fun x => !x.1) && (backToKw cpos (keywordEach [] X.env)).all (fun x => x.1.isSome)
      && decide ((e :: ([] : List Expr)).length + ([] : List Keyword).length + (if ([] : List Keyword).isEmpty then 0 else 1) < 30)) = true := by rfl)
    (hline : (apos.endLine == cpos.line) = true := by rfl) (hs : starEach (e :: []) X.env = (false, eval e X.env) :: starEach [] X.env := by rfl) :
    ED X W B (.Call (.Attribute a "index" apos) [e] [] cpos) (M.indexB ma me) :=
  PE_mono (pe_bm PySem.F.plainAttrs_list PySem.F.slot_list_index PySem.F.type_list_index mt_index ha (pa_cons he pa_nil hs) hbase hfew hline hs rfl) fun σ H Q ⟨bv, R, P, Fs, env, S, q⟩ =>
    tD_bind (Same.refl _) S q fun c e1 v P1 H1 F1 S1 s1 r1 h1 => by
    by_cases hc : isLstD c = true
    · rw [if_pos hc] at h1
      cases c with
      | list ds =>
        cases r1 with
        | @lst p vs _ h t =>
          refine ⟨.inl ⟨rfl, vs, .inl (rd_mono S1.ph h)⟩, tD_bind s1 S1 h1 fun d e2 w P2 H2 F2 S2 s2 r2 h2 => ?_⟩
          cases hd : indexBD (.list ds) d with
          | none => rw [hd] at h2; exact h2.elim
          | some z =>
            rw [hd] at h2
            cases d with
            | bool i =>
              obtain ⟨ns, h3, h4⟩ := Option.bind_eq_some_iff.mp hd
              obtain ⟨j, h5, h6⟩ := Option.map_eq_some_iff.mp h4
              subst h6
              cases r2
              have := bls_rp t h3
              subst this
              obtain ⟨m, hm, h7, h8⟩ := idxB_spec h5
              have hjm : j = m := by omega
              subst hjm
              refine ⟨p, _, .bl i, j, .bl i, rfl, rfl, .inl (rd_mono S2.ph (rd_mono s2 h)), rfl, ?_, by rw [List.getElem?_map, h7]; rfl, by simp [eqV], fun n z' hn hz' => ?_, h2 _ P2 H2 F2 S2 (s1.trans s2) (.int _)⟩
              · rw [List.all_eq_true]
                intro x hx
                obtain ⟨y, _, rfl⟩ := List.mem_map.mp hx
                rfl
              · rw [List.getElem?_map, Option.map_eq_some_iff] at hz'
                obtain ⟨y, hy, rfl⟩ := hz'
                have := h8 n hn y hy
                simpa [eqV] using this
            | _ => cases hd
      | _ => cases hc
    · rw [if_neg hc] at h1; exact h1.elim
end
end DL

set_option maxHeartbeats 2000000
/-! DL104: C(k = e, ..). -/
namespace DL
open PySem PySem.Spec PyProof.Rows L2
/-- an own class whose instances are made with keywords -/
structure MkKW (P : Program) (w : World) (K : PySem.W.Frag) (mg : Str → Option Value) (base : Heap) (k : Nat) (c : Str) (ps : List Str) (m : M OD) (kb : List (List Str × Nat × List Nat)) : Prop where
  ex : ∃ C f fd, mg c = some (.ref C) ∧ Mk K C f ∧ FnG P w K mg base k f fd ps [0] m ∧ Binds K fd ps [] ∧ ∀ q ∈ kb, KB K fd ps q.1 q.2.1 q.2.2
theorem MkKW.mkK {P : Program} {w : World} {K : PySem.W.Frag} {mg : Str → Option Value} {base : Heap} {k : Nat} {c : Str} {ps : List Str} {m : M OD} {kb : List (List Str × Nat × List Nat)} (h : MkKW P w K mg base k c ps m kb) : MkK P w K mg base k c ps m := by
  obtain ⟨C, f, fd, h1, h2, h3, h4, _⟩ := h.ex
  exact ⟨C, f, fd, h1, h2, h3, h4⟩
section
variable {X : Cx} {W : WX} {B : List Nat} {j k : Nat} {c x : Str} {ps : List Str} {m : M OD} {ml : M (List PyData)} {p pos apos : Pos} {kws : List Keyword} {kb : List (List Str × Nat × List Nat)}
end
end DL

set_option maxHeartbeats 2000000
/-! DL105: places by dict keys: d[k] is a place. -/
namespace DL
open PySem PySem.Spec PyProof.Rows L2
section
variable {X : Cx} {W : WX} {B : List Nat} {i : Nat} {pp : DEnv → Option (List Stp)} {a b : Expr} {pos : Pos}
end
end DL

set_option maxHeartbeats 2000000
/-! DL106: displays of dicts with text keys, of owned values. -/
namespace DL
open PySem PySem.Spec PyProof.Rows L2
inductive AvM where
  | o (m : M OD)
  | v (m : M PyData)
section
variable {K : PySem.W.Frag} {mg : Str → Option Value} {W : WX} {B : List Nat} {σ : L2.St} {β : Type} {okβ : β → DEnv → Prop} {exβ : Xn → DEnv → Prop} {bv : Nat → V}
end
section
variable {X : Cx} {W : WX} {B : List Nat} {pos : Pos} {keys : List (Option Expr)} {values : List Expr} {l : List (Str × AvM)}
end
end DL

set_option maxHeartbeats 2000000
/-! DL107: place.reverse(); None as what changes nothing. -/
namespace DL
open PySem PySem.Spec PyProof.Rows L2
section
variable {X : Cx} {W : WX} {B : List Nat} {i : Nat} {pp : DEnv → Option (List Stp)} {o : Expr} {apos cpos pos : Pos}
end
end DL

set_option maxHeartbeats 2000000
/-! DL108: sum(x, []), x a list of lists. -/
namespace DL
open PySem PySem.Spec PySem.Calls PyProof.Rows L2 PySem.W
section
variable {prog : Program} {w : World} {A : Around} {E : Value → Shared → Prop} {s : Shared}
end
section
variable {prog : Program} {w : World} {A : Around} {R : Result → Shared → Prop} {I ax : Addr} {items : Array Value}
/-- the heap moved: all but I and S kept, no smaller -/
structure Mv (I S : Addr) (s s' : Shared) : Prop where
  kp : ∀ b o, b ≠ I → b ≠ S → s.heap.get? b = some o → s'.heap.get? b = some o
  eq : ∃ h', s' = { s with heap := h' }
theorem Mv.trans {I S : Addr} {s s' s'' : Shared} (a : Mv I S s s') (b : Mv I S s' s'') : Mv I S s s'' :=
  ⟨fun x o h1 h2 e => b.kp x o h1 h2 (a.kp x o h1 h2 e), by obtain ⟨h1, e1⟩ := a.eq; obtain ⟨h2, e2⟩ := b.eq; exact ⟨h2, by rw [e2, e1]⟩⟩
end
section
variable {prog : Program} {w : World} {A : Around} {E : Value → Shared → Prop} {s : Shared}
end
section
variable {K : PySem.W.Frag} {P : Hp}
end
section
variable {X : Cx} {pins : List (Addr × Obj)} {σ : L2.St} {H : Hp} {s : Shared}
end
end DL

set_option maxHeartbeats 2000000
/-! DL109: slot[k] = an owned value, where the slot's dict has the key. -/
namespace DL
open PySem PySem.Spec PyProof.Rows L2
section
variable {X : Cx} {W : WX} {B : List Nat} {e k : Expr} {mo : M OD} {mk : M PyData} {x : Str} {p pos pos' : Pos}
end
section
variable {env : DEnv}
end
end DL

set_option maxHeartbeats 2000000
/-! DL110: defs and methods with keyword-only parameters that have defaults. -/
namespace DL
open PySem PySem.Spec PyProof.Rows L2
/-- data that is no object -/
def immV : PyData → V
  | .bool b => .bl b
  | .int i => .int i
  | .str x => .str x
  | _ => .non
def isImm : PyData → Bool
  | .none | .bool _ | .int _ | .str _ => true
  | _ => false
/-- how n positional ones and the keywords ks are bound, the others by their defaults dd -/
def KQ (K : PySem.W.Frag) (fd : FuncData) (ps ks : List Str) (n : Nat) (pm : List Nat) (dd : List PyData) : Prop := dd.all isImm = true ∧ ∃ dv : List Value, Vals (dd.map immV) dv ∧
  ∀ (s : Shared) (us ws : List Value), K.In s.heap → us.length = n → ws.length = ks.length → BindsTo s fd ⟨us, ks.zip ws⟩ (ps.zip (permL .none pm (us ++ (ws ++ dv))))
structure MethQ (P : Program) (w : World) (K : PySem.W.Frag) (mg : Str → Option Value) (base : Heap) (k : Nat) (c mn : Str) (ps : List Str) (m : M OD) (kq : List (List Str × Nat × List Nat × List PyData)) : Prop where
  ex : ∃ C f fd, mg c = some (.ref C) ∧ Cls K C ∧ Meth K C mn f ∧ FnG P w K mg base k f fd ps [0] m ∧ ∀ q ∈ kq, KQ K fd ps q.1 q.2.1 q.2.2.1 q.2.2.2
section
variable {X : Cx} {W : WX} {B Bc : List Nat} {j k : Nat} {m : M OD} {ml mk : M (List AV)} {x : Str} {p pos : Pos} {e : Expr} {es : List Expr} {kws : List Keyword} {ps : List Str} {kq : List (List Str × Nat × List Nat × List PyData)}
end
section
variable {X : Cx} {W : WX} {B : List Nat} {j k i : Nat} {c mn : Str} {ps : List Str} {m : M OD} {ml mk : M (List PyData)} {pp : DEnv → Option (List Stp)} {o e : Expr} {es : List Expr} {kws : List Keyword} {apos pos : Pos} {kq : List (List Str × Nat × List Nat × List PyData)}
end
end DL

set_option maxHeartbeats 2000000
/-! DL111: places read on; place[k] = an owned value. -/
namespace DL
open PySem PySem.Spec PyProof.Rows L2
section
variable {X : Cx} {W : WX} {B : List Nat} {i : Nat} {pp : DEnv → Option (List Stp)} {e : Expr}
end
section
variable {X : Cx} {W : WX} {B : List Nat} {i : Nat} {pp : DEnv → Option (List Stp)} {o e k : Expr} {mo : M OD} {mk : M PyData} {pos pos' : Pos}
end
section
variable {env : DEnv}
end
end DL

set_option maxHeartbeats 2000000
/-! DL112: for .. in enumerate(place): the list is read as it stands, its slot (a by-reference parameter) hidden in the body. -/
namespace DL
open PySem PySem.Spec PyProof.Rows L2
section
variable {K : PySem.W.Frag} {mg : Str → Option Value} {B : List Nat} {bv : Nat → V} {R P H P' H' : Hp} {Fs Fs' : Nat → List Addr} {σ σ2 : L2.St} {env env' : DEnv} {i : Nat} {x : OD}
end
section
variable {X : Cx} {W : WX} {B : List Nat} {i : Nat} {pp : DEnv → Option (List Stp)} {o : Expr} {body : List Stmt} {g : TG'} {mb : M Flw} {p pos pos2 tpos : Pos} {elts : List Expr} {kk : Nat}
end
section
variable {env : DEnv}
end
end DL

set_option maxHeartbeats 2000000
/-! DL113: name = place: the part is lent to the name (a reference stands in its place), and given back where the block ends. -/
namespace DL
open PySem PySem.Spec PyProof.Rows L2
def isNode : OD → Bool
  | .lst _ => true
  | .dK _ _ => true
  | .dT _ _ => true
  | .obj _ _ _ => true
  | _ => false
section
variable {K : PySem.W.Frag} {mg : Str → Option Value} {B : List Nat} {bv : Nat → V} {R P H : Hp} {Fs : Nat → List Addr} {σ : L2.St} {env : DEnv} {i j : Nat} {x y : OD} {p : List Stp} {a : Addr}
theorem own_ref {G : List Addr} {u : V} (o : Ow K mg P H G u y) (h : isNode y = true) : ∃ a, u = .ref a := by
  cases o with
  | pur => cases h
  | exn => cases h
  | ref => cases h
  | tup => cases h
  | lst => exact ⟨_, rfl⟩
  | dK => exact ⟨_, rfl⟩
  | dT => exact ⟨_, rfl⟩
  | obj => exact ⟨_, rfl⟩
theorem Sta.lend (S : Sta K mg B bv R P H Fs σ env) (hx : env[i]? = some (some x)) (hy : getP p x = some y) : ∃ (v u : V) (G : List Addr) (Fs0 : Nat → List Addr), σ[i]? = some (some v) ∧ PlV mg H v p u ∧ Ow K mg P H G u y ∧ Free R P Fs0 G ∧
    ∀ a, u = .ref a → Sta K mg B bv R P H Fs0 σ (env.set i (some (setP p x (.ref a)))) := by
  obtain ⟨v, hv, ox⟩ := S.slot i x hx
  obtain ⟨pre, post, G, u, hF, oy, pl, rb⟩ := ox.sub hy
  have ndi := S.nd i
  rw [hF] at ndi
  obtain ⟨n1, n2, n3⟩ := List.nodup_append.mp ndi
  obtain ⟨n4, n5, n6⟩ := List.nodup_append.mp n2
  have hG : ∀ b ∈ G, b ∈ Fs i := fun b h => by rw [hF]; exact List.mem_append_right _ (List.mem_append_left _ h)
  refine ⟨v, u, G, fun n => if n = i then pre ++ post else Fs n, hv, pl H (fun _ _ _ e => e) (fun b _ e => S.ph b _ e), oy, ⟨n4, fun b h => S.fr i b (hG b h), fun b h => S.fp i b (hG b h), fun b h n z => ?_⟩, fun a hu => ?_⟩
  · by_cases e : n = i
    · simp only [e, if_true] at z
      rcases List.mem_append.mp z with z | z
      · exact n3 b z b (List.mem_append_left _ h) rfl
      · exact n6 b h b z rfl
    · simp only [e, if_false] at z
      exact S.dj i n b (Ne.symm e) (hG b h) z
  · subst hu
    have o0 := rb (P' := P) (H' := H) (G' := []) (y' := .ref a) (Same.refl _) (fun b _ o e => e) .ref
    rw [List.nil_append] at o0
    refine S.mut hv (fun b _ => rfl) o0 (List.nodup_append.mpr ⟨n1, n5, fun b h c hc => n3 b h c (List.mem_append_right _ hc)⟩) fun b hb => .inl ?_
    rw [hF]
    rcases List.mem_append.mp hb with z | z
    · exact List.mem_append_left _ z
    · exact List.mem_append_right _ (List.mem_append_right _ z)
theorem Sta.giveback (S : Sta K mg B bv R P H Fs σ env) (hij : i ≠ j) (hx : env[i]? = some (some x)) (hy : getP p x = some (.ref a)) (hj : env[j]? = some (some y)) (hv : σ[j]? = some (some (.ref a))) :
    ∃ Fs2, Sta K mg B bv R P H Fs2 σ ((env.set j none).set i (some (setP p x y))) ∧ ∀ b, (∀ n, b ∉ Fs n) → ∀ n, b ∉ Fs2 n := by
  obtain ⟨w, h1, o, f, S1⟩ := S.take hj
  rw [hv] at h1
  cases h1
  have hx1 : (env.set j none)[i]? = some (some x) := by rw [List.getElem?_set_ne (Ne.symm hij)]; exact hx
  obtain ⟨v, hv', ox⟩ := S1.slot i x hx1
  have ndi := S1.nd i
  have fi := fun b hb => f.f b hb i
  simp only [hij, if_false] at ox ndi fi
  obtain ⟨pre, post, G, u, hF, oy, pl, rb⟩ := ox.sub hy
  rw [hF] at ndi
  cases oy
  rw [List.nil_append] at ndi hF
  obtain ⟨n1, n2, n3⟩ := List.nodup_append.mp ndi
  have o2 := rb (P' := P) (H' := H) (G' := Fs j) (y' := y) (Same.refl _) (fun b _ o e => e) o
  have hpre : ∀ b ∈ pre, b ∈ Fs i := fun b h => by rw [hF]; exact List.mem_append_left _ h
  have hpost : ∀ b ∈ post, b ∈ Fs i := fun b h => by rw [hF]; exact List.mem_append_right _ h
  refine ⟨_, S1.mut hv' (fun b _ => rfl) o2 (List.nodup_append.mpr ⟨n1, List.nodup_append.mpr ⟨f.nd, n2, fun b h c hc e => fi b h (hpost b (e ▸ hc))⟩, fun b h c hc e => ?_⟩) fun b hb => ?_, fun b hb n z => ?_⟩
  · rcases List.mem_append.mp hc with z | z
    · exact fi c z (hpre c (e ▸ h))
    · exact n3 b h c z e
  · rcases List.mem_append.mp hb with z | z
    · exact .inl (by simp only [hij, if_false]; exact hpre b z)
    · rcases List.mem_append.mp z with z | z
      · exact .inr ⟨f.r b z, f.p b z, f.f b z⟩
      · exact .inl (by simp only [hij, if_false]; exact hpost b z)
  · by_cases e : n = i
    · simp only [e, if_true] at z
      rcases List.mem_append.mp z with z | z
      · exact hb i (hpre b z)
      · rcases List.mem_append.mp z with z | z
        · exact hb j z
        · exact hb i (hpost b z)
    · simp only [e, if_false] at z
      by_cases e2 : n = j
      · simp [e2] at z
      · simp only [e2, if_false] at z
        exact hb n z
end
def plug (i : Nat) (p : List Stp) (j : Nat) (a : Addr) (e : DEnv) : Option DEnv := match (e[i]?).join, (e[j]?).join with
  | some x, some y => (match getP p x with
    | some (.ref b) => if b = a then some ((e.set j none).set i (some (setP p x y))) else none
    | _ => none)
  | _, _ => none
def plugR (i : Nat) (p : List Stp) (j : Nat) (a : Addr) : Rs Flw → Rs Flw
  | .ok f e => (match plug i p j a e with
    | some e' => .ok f e'
    | none => .no)
  | .ex x e => (match plug i p j a e with
    | some e' => .ex x e'
    | none => .no)
  | .no => .no
/-- what comes whatever the address is -/
noncomputable def sameA (f : Addr → Rs Flw) : Rs Flw := open Classical in if h : ∃ r, ∀ a, f a = r then Classical.choose h else .no
theorem sameA_of {f : Addr → Rs Flw} {r : Rs Flw} (h : ∀ a, f a = r) : sameA f = r := by
  have hh : ∃ r, ∀ a, f a = r := ⟨r, h⟩
  unfold sameA
  rw [dif_pos hh, ← Classical.choose_spec hh 0, h 0]
theorem plug_sta {K : PySem.W.Frag} {mg : Str → Option Value} {B : List Nat} {bv bv' : Nat → V} {R P H : Hp} {Fs : Nat → List Addr} {σ : L2.St} {e e' : DEnv} {i j : Nat} {p : List Stp} {a : Addr} (hij : i ≠ j) (S : Sta K mg (j :: B) bv' R P H Fs σ e) (ha : bv' j = .ref a) (hb : ∀ n ∈ B, bv' n = bv n) (h : plug i p j a e = some e') :
    ∃ Fs2, Sta K mg B bv R P H Fs2 σ e' ∧ ∀ b, (∀ n, b ∉ Fs n) → ∀ n, b ∉ Fs2 n := by
  unfold plug at h
  cases h1 : (e[i]?).join with
  | none => rw [h1] at h; cases h
  | some x =>
    rw [h1] at h
    cases h2 : (e[j]?).join with
    | none => rw [h2] at h; cases h
    | some y =>
      rw [h2] at h
      simp only at h
      cases h3 : getP p x with
      | none => rw [h3] at h; cases h
      | some z =>
        rw [h3] at h
        cases z with
        | ref b =>
          simp only at h
          split at h
          · rename_i hba
            subst hba
            cases h
            have S0 : Sta K mg B bv R P H Fs σ e := ⟨S.rh, S.tb, S.ph, S.rp, S.slot, S.dead, S.nd, S.dj, S.fr, S.fp, S.len, fun n hn => by rw [S.pin n (List.mem_cons_of_mem _ hn), hb n hn], S.nt⟩
            exact S0.giveback hij (join_some h1) h3 (join_some h2) (by rw [S.pin j List.mem_cons_self, ha])
          · cases h
        | _ => cases h
section
variable {X : Cx} {W : WX} {B : List Nat} {o : Expr} {rest : List Stmt} {pp : DEnv → Option (List Stp)} {k : M Flw} {y : Str} {py pos : Pos}
end
end DL

set_option maxHeartbeats 4000000
/-! DL114: own classes of refusals with an __init__, over ValueError or KeyError: how one is made. -/
namespace DL
open PySem PySem.Spec PyProof.Rows L2 PySem.W PySem.Calls Builtin Builtin.ObjectAttr PySem.HandSPX
/-- what the maker looks at: B the class whose maker nid is, z the classes above -/
structure MkF (B nid : String) (z : List Value) : Prop where
  facts : ∃ iid zB, ExcBaseFacts B nid iid zB
  hasB : z.contains (.type B) = true
  noA : z.contains (.type "AttributeError") = false
  noN : z.contains (.type "NameError") = false
  hasO : z.contains (.type "object") = true
  pass : ∀ self, refuseLoop self "__setattr__" z = pure ()
/-- the class, as its maker wants it -/
structure OexX (K : PySem.W.Frag) (C : Addr) : Prop where
  cls : ∃ B nid nm q N bs z sn sub ab col dd k0 k1 k2 k3 k5, K.lookup C = some (excClassObj nm q C N bs z true sn sub ab col dd k0 k1 k2 k3 k5 nid) ∧ MkF B nid z
  sa : PySem.W.findIn K (.ref C) "__setattr__" = some (some (.builtin "object.__setattr__"))
  exC : PySem.W.subIn K (.ref C) (.type "BaseException") = some true
  tyC : PySem.W.typeIn K (.ref C) = some (.type "type")
  kC : PySem.W.keepIn K (.ref C) = true
section
variable {Md : Model} {A : Around} {Er : Value → Shared → Prop} {h0 : Heap} {gs : Array GenState} {dr : Drawn} {n0 : Nat} {os0 : OsState}
variable {nm q : Str} {C N : Addr} {bs z : List Value} {hdct : Bool} {sn : List Str} {sub : List Value} {ab : Bool} {col : Option Bool} {dd : Option Addr} {k0 k1 k2 k3 k5 : Option Value} {B nid : String}
end
section
variable {prog : Program} {w : World} {A : Around} {Er : Value → Shared → Prop} {Rq : Result → Shared → Prop} {h0 : Heap} {gs : Array GenState} {dr : Drawn} {n0 : Nat} {os0 : OsState}
variable {nm q : Str} {C N : Addr} {bs z : List Value} {hdct : Bool} {sn : List Str} {sub : List Value} {ab : Bool} {col : Option Bool} {dd : Option Addr} {k0 k1 k2 k3 k5 : Option Value} {B nid : String}
end
end DL

set_option maxHeartbeats 4000000
/-! DL115: self.f = e in such an __init__; C(e) raised or kept; raise C(e), caught.f. -/
namespace DL
open PySem PySem.Spec PyProof.Rows L2
section
variable {X : Cx} {pins : List (Addr × Obj)} {σ : L2.St} {H : Hp} {s : Shared} {a C dx : Addr} {f : Str} {y : V} {u : Value} {Q : Unit → Shared → Prop} {E : Value → Shared → Prop} {A : Around}
end
section
variable {X : Cx} {es : List Expr} {e : Expr} {ta : TA} {p pos : Pos}
end
section
variable {X : Cx} {c f : Str} {e : Expr} {te : TE} {p pos : Pos} {k : Nat}
end
end DL

set_option maxHeartbeats 4000000
/-! DL116: try: .. except T as n: .., the exception known (and its field) in the suite; except of a built-in class. -/
namespace DL
open PySem PySem.Spec PyProof.Rows L2
section
variable {X : Cx} {te : Expr} {n : Str} {i : Nat} {body suite : List Stmt} {b₀ : Stmt} {pos pos' : Pos} {tb : WX → TS} {ts : TS} {Wout : WX}
end
end DL

set_option maxHeartbeats 4000000
/-! DL117: M.raiseF, M.mkX (exceptions kept), M.xfld, M.tryAs, isinstance and fields of temporaries. -/
namespace DL
open PySem PySem.Spec PyProof.Rows L2
/-! ### raise C(e) -/
def M.raiseF (c f : Str) (me : M PyData) : M Flw := M.bind me fun d env => .ex ⟨.own c, some (f, d)⟩ env
section
variable {X : Cx} {W : WX} {B : List Nat} {c f : Str} {e : Expr} {me : M PyData} {p pos rpos : Pos} {k : Nat}
/-! ### C(e), C() kept -/
def M.mkX (c f : Str) (me : M PyData) : M OD := M.bind me fun d => M.pure (.exn ⟨.own c, some (f, d)⟩)
end
/-! ### the field of one -/
def xfldO (f : Str) (cs : List Str) : OD → Option PyData
  | .exn ⟨.own c, some (g, d)⟩ => if g = f ∧ c ∈ cs then some d else none
  | _ => none
def M.xfld (i : Nat) (f : Str) (cs : List Str) : M PyData := fun env => match ((env[i]?).join).bind (xfldO f cs) with
  | some d => .ok d env
  | none => .no
section
variable {X : Cx} {W : WX} {B : List Nat} {y f : Str} {p2 pos : Pos} {cs : List Str}
end
/-! ### try: .. except T as n: .. -/
def M.tryAs (i : Nat) (tbl : List (Str × Bool)) (mb mh : M Flw) : M Flw := fun env => match mb env with
  | .ex x e => (match takesB tbl x with
    | some true => (match mh (e.set i (some (.exn x))) with
      | .ok .nx e2 => .ok .nx (e2.set i none)
      | .ok (.rt o) e2 => .ok (.rt o) (e2.set i none)
      | _ => .no)
    | some false => .ex x e
    | none => .no)
  | r => r
section
variable {X : Cx} {W : WX} {B : List Nat} {c n : Str} {body suite : List Stmt} {b₀ : Stmt} {np pos pos' : Pos} {mb mh : M Flw} {cv : Value} {i : Nat}
end
end DL

set_option maxHeartbeats 4000000
/-! DL118: list.count of a truth value; isinstance of a temporary; for k, x in enumerate(xs), xs a list of exceptions; facts. -/
namespace DL
open PySem PySem.Spec PySem.SeqAt PyProof.Rows L2
/-! ### x.count(e) -/
section
variable {X : Cx}
variable {W : WX} {B : List Nat} {a e : Expr} {ma me : M PyData} {apos cpos : Pos}
end
/-! ### isinstance(C(..), D) -/
section
variable {X : Cx} {W : WX} {B : List Nat} {e ce : Expr} {p pos : Pos} {c : V} {cv : Value} {tbl : List (Str × Bool)} {m : M OD}
end
/-! ### facts -/
section
variable {fa : List He.Fa} {fn : List He.DefD} {tb : Tbs} {K : PySem.W.Frag} {mg : Str → Option Value} {base : Heap}
end
end DL

set_option maxHeartbeats 4000000
/-! DL119: for k, x in enumerate(xs), xs a slot that holds a list of exceptions (let go by the walk). -/
namespace DL
open PySem PySem.Spec PyProof.Rows L2
section
variable {K : PySem.W.Frag} {mg : Str → Option Value} {B : List Nat} {bv : Nat → V} {R P H : Hp} {Fs : Nat → List Addr} {σ : L2.St} {env : DEnv}
end
section
variable {X : Cx} {W : WX} {B : List Nat} {y kn xn : Str} {body : List Stmt} {mb : M Flw} {p p1 p2 p3 pos pos2 tpos : Pos} {kk : Nat}
end
/-! ### except of any class -/
section
variable {X : Cx} {W : WX} {B : List Nat} {c : Str} {body suite : List Stmt} {b₀ : Stmt} {np pos pos' : Pos} {mb mh : M Flw} {cv : Value}
theorem XM.one {K : PySem.W.Frag} {mg : Str → Option Value} {d : He.Dv} {tbl : List (Str × Bool)} (h : XM K mg [d] tbl) : ∀ n b, tbl.lookup n = some b → ∀ C', mg n = some (.ref C') → PySem.W.exmOne K (.ref C') (dvC K d) = some b := fun n b hl C' hm => by
  have h2 := h n b hl C' hm
  simp only [List.map_cons, List.map_nil, PySem.W.exmAny] at h2
  split at h2 <;> simp_all
end
end DL

set_option maxHeartbeats 4000000
/-! DL120: slot + [C(), ..], lists of exceptions; runs of M.tryAs and what DL117..DL119 bring. -/
namespace DL
open PySem PySem.Spec PyProof.Rows L2
section
variable {K : PySem.W.Frag} {mg : Str → Option Value} {P H P' H' : Hp}
end
section
variable {X : Cx} {W : WX} {B : List Nat} {y : Str} {e : Expr} {m : M OD} {p2 pos : Pos}
end
end DL

set_option maxHeartbeats 4000000
/-! DL121: place.pop(f(x, e)), f a def that changes x alone, e read as it stands. -/
namespace DL
open PySem PySem.Spec PyProof.Rows L2
def M.popPC (i : Nat) (pp : DEnv → Option (List Stp)) (j : Nat) (f : M OD) (q : DEnv → Option OD) : M OD := fun env => match (env[i]?).join, pp env, q env with
  | some x, some p, some (.pur c) => (match getP p x with
    | some (.lst zs) => (match callA f [.r j, .v c] (env.set i none) with
      | .ok (.pur d) e2 => (match e2[i]?, popL d (.lst zs) with
        | some none, some (r, y') => .ok r (e2.set i (some (setP p x y')))
        | _, _ => .no)
      | _ => .no)
    | _ => .no)
  | _, _, _ => .no
section
variable {X : Cx} {W : WX} {B Bc : List Nat} {fx xj : Str} {ps : List Str} {m : M OD} {kb : List (List Str × Nat × List Nat)} {e : Expr} {es : List Expr} {p p1 cp apos cpos pos : Pos} {j0 k : Nat} {o e2 : Expr} {i j : Nat} {pp : DEnv → Option (List Stp)} {q : DEnv → Option OD}
end
end DL

set_option maxHeartbeats 4000000
/-! DL122: what is read as it stands: a place's data, len(place). -/
namespace DL
open PySem PySem.Spec PyProof.Rows L2
section
variable {X : Cx} {W : WX} {B : List Nat} {e : Expr} {mr : DEnv → Option OD} {ma : DEnv → Option PyData} {f1 : PyData → Option PyData} {pos : Pos}
end
end DL

set_option maxHeartbeats 4000000
/-! DL123: set(t) of a tuple of ints and texts, and its length. -/
namespace DL
open PySem PySem.Spec PyProof.Rows L2
section
variable {P : Program} {w : World} {A : Around} {E : Value → Shared → Prop} {s : Shared}
end
end DL

set_option maxHeartbeats 4000000
/-! DL124: len(set(e)), e a tuple of ints and texts. -/
namespace DL
open PySem PySem.Spec PyProof.Rows L2
section
variable {X : Cx}
variable {W : WX} {B : List Nat} {e : Expr} {me : M PyData} {p1 p2 p3 p4 : Pos}
end
end DL

set_option maxHeartbeats 4000000
/-! DL125: [.. for k, v in place.items() if ..], the dict at the place frozen by it. -/
namespace DL
open PySem PySem.Spec PyProof.Rows L2
def itemsKV : PyData → Option (List PyData)
  | .dict kvs => if kvs.all (fun p => (keyOfD p.1).isSome) = true then some (kvs.map fun p => .tuple [p.1, p.2]) else none
  | _ => none
def lcB (g : TG') (vs : List Nat) (tt : M Bool) (el : M PyData) (ds : List PyData) : M OD := fun env => match lcL g vs tt el ds (wipeE vs env) with
  | .ok ys e => if ys.length ≤ 16777216 then .ok (.lst (ys.map .pur)) (restE vs env e) else .no
  | _ => .no
def M.lcI (i : Nat) (pp : DEnv → Option (List Stp)) (g : TG') (vs : List Nat) (tt : M Bool) (el : M PyData) : M OD := M.bind (M.rdP i pp) fun _ env => match (placeO i pp env).bind purD, (placeO i pp env).bind fun o => (purD o).bind itemsKV with
  | some _, some ds => lcB g vs tt el ds env
  | _, _ => .no
section
variable {K : PySem.W.Frag} {mg : Str → Option Value} {W : WX} {B : List Nat} {bv : Nat → V} {R P P0 H : Hp} {Fs : Nat → List Addr} {σ : L2.St} {env : DEnv} {i : Nat} {pp : DEnv → Option (List Stp)}
end
section
variable {X : Cx} {W : WX} {B : List Nat} {i : Nat} {pp : DEnv → Option (List Stp)} {o elt : Expr} {elts : List Expr} {kk : Nat} {ifs : List Expr} {scope : Scope} {g : TG'} {mt : M Bool} {me : M PyData} {pos tpos apos cpos : Pos}
end
end DL

set_option maxHeartbeats 4000000
/-! DL126: a def with positional defaults, all its parameters given. -/
namespace DL
open PySem PySem.Spec PyProof.Rows L2
end DL

set_option maxHeartbeats 400000
/-! DL127: steps for bodies with addB, subB and frozen slots. -/
namespace DL
open PySem PySem.Spec PyProof.Rows L2
theorem st_addBI {i j : Int} {Q : PyData → Prop} (q : Q (.int (i + j))) : Bd (addB (.int i) (.int j)) Q := ⟨_, rfl, q⟩
theorem st_subBI {i j : Int} {Q : PyData → Prop} (q : Q (.int (i - j))) : Bd (subB (.int i) (.int j)) Q := ⟨_, rfl, q⟩
theorem st_addBL {xs ys : List PyData} {Q : PyData → Prop} (h : xs.length + ys.length ≤ lim) (q : Q (.list (xs ++ ys))) : Bd (addB (.list xs) (.list ys)) Q := ⟨_, by show (if _ then _ else _) = _; exact if_pos h, q⟩
end DL

set_option maxHeartbeats 400000
/-! DL128: runs of M.popPC, and of what was run ahead. -/
namespace DL
open PySem PySem.Spec PyProof.Rows L2
end DL

set_option maxHeartbeats 2000000
/-! DL129: an item of frozen data, peeked. -/
namespace DL
open PySem PySem.Spec PyProof.Rows L2
section
variable {X : Cx} {B : List Nat} {a b : Expr} {ma mb : DEnv → Option PyData} {pos : Pos}
end
end DL

set_option maxHeartbeats 4000000
/-! DL130: tuple * int. -/
namespace DL
open PySem PySem.Spec PyProof.Rows L2
section
variable {X : Cx} {W : WX} {B : List Nat} {a b : Expr} {ma mb : M PyData} {pos : Pos}
end
end DL

set_option maxHeartbeats 4000000
/-! DL131: sorted(d), d a dict whose keys are texts. -/
namespace DL
open PySem PySem.Spec PyProof.Rows L2 PySem.W
section
variable {X : Cx}
end
end DL

set_option maxHeartbeats 400000
/-! DL132: runs of M.lcI; loops that an exception leaves. -/
namespace DL
open PySem PySem.Spec PyProof.Rows L2
section
variable {g : TG'} {b : M Flw} {P : Xn → DEnv → Prop} {d : PyData} {ds : List PyData} {e e1 : DEnv}
end
end DL

set_option maxHeartbeats 2000000
/-! DL133: list(place), the place left as it is. -/
namespace DL
open PySem PySem.Spec PyProof.Rows L2
section
variable {X : Cx} {W : WX} {B : List Nat} {a : Expr} {mr : DEnv → Option OD} {pos lpos : Pos}
end
end DL

set_option maxHeartbeats 2000000
/-! DL134: len(place) and repr(place) of an own instance with a plain __len__, __repr__. -/
namespace DL
open PySem PySem.Spec PyProof.Rows L2
section
variable {X : Cx} {W : WX} {B Bc : List Nat} {j k i : Nat} {c mn x : Str} {ps : List Str} {m : M OD} {pp : DEnv → Option (List Stp)} {o e : Expr} {p pos : Pos} {f : Addr} {fd : FuncData} {kb : List (List Str × Nat × List Nat)} {ok : V → Prop}
end
end DL

set_option maxHeartbeats 2000000
/-! DL135: f-strings of texts and ints. -/
namespace DL
open PySem PySem.Spec PyProof.Rows L2
section
variable {X : Cx} {W : WX} {B : List Nat} {m : M PyData} {ms : List (M PyData)} {e : Expr} {es : List Expr} {pos : Pos}
end
end DL

set_option maxHeartbeats 2000000
/-! DL136: a def run with its default `()`: the parameter's slot is dead, its value is told by the pin; a loop over it does nothing. -/
namespace DL
open PySem PySem.Spec PyProof.Rows L2
section
variable {X : Cx} {W : WX} {B : List Nat} {φ : (Nat → V) → Prop} {m m2 : M Flw} {st : Stmt} {rest body : List Stmt} {tg : Expr} {pos np : Pos} {x : Str} {i : Nat} {a : Addr} {g : TG} {tb : TS}
end
end DL

set_option maxHeartbeats 2000000
/-! DL137: C() of a class whose __init__ has the one default `()`. -/
namespace DL
open PySem PySem.Spec PyProof.Rows L2
/-- a def's promise, something being known of its arguments -/
structure FnGV (P : Program) (w : World) (K : PySem.W.Frag) (mg : Str → Option Value) (base : Heap) (k : Nat) (f : Addr) (fd : FuncData) (ps : List Str) (B : List Nat) (m : M OD) (φ : List V → Prop) : Prop where
  bs : ∀ i ∈ B, i < ps.length
  len : ∀ env, (∀ x e, m env ≠ .ok x e) ∧ (∀ x e, m env ≠ .ex x e) ∨ env.length = ps.length
  run : ∀ (A : Around) (outer : List Env) (s : Shared) (H : Hp) (args : Args) (us : List Value) (vs : List V) (Q : VK) (E : XK), Room k A → A.guards = some [] → (∃ o, base.get? sysModules = some o) → Env0 P w K mg base A outer s H →
    BindsTo s fd args (ps.zip us) → Vals vs us → φ vs → spF K mg B m vs H Q E → codeAny (model P w) A (.call (.ref f) args) (CR (L2.CX P w) outer P w H s Q E) s
theorem FnGV.mono {P : Program} {w : World} {K : PySem.W.Frag} {mg : Str → Option Value} {base : Heap} {j k : Nat} {f : Addr} {fd : FuncData} {ps : List Str} {B : List Nat} {m : M OD} {φ : List V → Prop} (F : FnGV P w K mg base j f fd ps B m φ) (h : j ≤ k) : FnGV P w K mg base k f fd ps B m φ :=
  ⟨F.bs, F.len, fun A outer s H args us vs Q E hr => F.run A outer s H args us vs Q E (hr.mono h)⟩
structure MkK0 (P : Program) (w : World) (K : PySem.W.Frag) (mg : Str → Option Value) (base : Heap) (k : Nat) (c : Str) (ps : List Str) (m : M OD) : Prop where
  ex : ∃ C f fd adr, mg c = some (.ref C) ∧ Mk K C f ∧ FnGV P w K mg base k f fd ps [0, 1] m (fun vs => vs[1]? = some (.ref adr)) ∧ Binds K fd ps [.ref adr]
section
variable {K : PySem.W.Frag} {mg : Str → Option Value} {W : WX} {B : List Nat} {bv : Nat → V} {R P P0 H : Hp} {Fs : Nat → List Addr} {σ : L2.St} {env : DEnv} {c : Str} {C x dx : Addr} {f : M OD} {v0 : V} {Q : VK} {n : Nat}
end
section
variable {X : Cx} {W : WX} {B : List Nat} {j k : Nat} {c x : Str} {ps : List Str} {m : M OD} {p pos apos : Pos}
end
end DL

set_option maxHeartbeats 2000000
/-! DL138: D[e] and D.items() of a dict of the module. -/
namespace DL
open PySem PySem.Spec PyProof.Rows L2
section
variable {X : Cx} {W : WX} {B : List Nat} {e : Expr} {me : M PyData} {x : Str} {l : List (Str × PyData)} {np pos apos cpos tpos : Pos} {elts : List Expr} {kk : Nat}
end
end DL

set_option maxHeartbeats 2000000
/-! DL139: texts: split, partition, startswith, int of a text. -/
namespace DL
open PySem PySem.Spec PyProof.Rows L2
/-- a method of a text, with one argument -/
def M.sm (f : PyData → PyData → Option PyData) (mo me : M PyData) : M PyData := M.bind mo fun d => if isStr d = true then M.bind me fun c => M.opt (f d c) else M.fail
section
variable {X : Cx} {W : WX} {B : List Nat} {o e : Expr} {mo me : M PyData} {apos pos : Pos}
end
end DL

set_option maxHeartbeats 2000000
/-! DL140: enumerate(text), text[::-1], text * int. -/
namespace DL
open PySem PySem.Spec PyProof.Rows L2
end DL
namespace DL
open PySem PySem.Spec PyProof.Rows L2
/-! text[::-1] -/
section
variable {X : Cx} {W : WX} {B : List Nat} {e : Expr} {md : M PyData} {pos : Pos}
end
/-! text * int -/
end DL

set_option maxHeartbeats 2000000
/-! DL141: a block in two pieces; name = place if .. else ..: the place is lent to the name for the first piece. -/
namespace DL
open PySem PySem.Spec PyProof.Rows L2
section
variable {X : Cx} {W : WX} {B : List Nat} {ss : List Stmt} {m m2 : M Flw}
end
section
variable {K : PySem.W.Frag} {mg : Str → Option Value} {W : WX} {B : List Nat} {bv bv' : Nat → V} {R P H : Hp} {Fs : Nat → List Addr} {σ : L2.St} {env : DEnv} {i j : Nat} {D : Ends} {k : M Flw} {pp : DEnv → Option (List Stp)}
theorem Sta.unpin1 (S : Sta K mg (j :: B) bv' R P H Fs σ env) (hb : ∀ n ∈ B, bv' n = bv n) : Sta K mg B bv R P H Fs σ env :=
  ⟨S.rh, S.tb, S.ph, S.rp, S.slot, S.dead, S.nd, S.dj, S.fr, S.fp, S.len, fun n hn => by rw [S.pin n (List.mem_cons_of_mem _ hn), hb n hn], S.nt⟩
theorem OkS.pin {f : Flw} {e : DEnv} (hb : ∀ n ∈ B, bv' n = bv n) (h : OkS K mg B bv R P D f e) : OkS K mg (j :: B) bv' R P D f e := by
  cases f with
  | nx => exact fun σ' P' H' Fs' S s => h σ' P' H' Fs' (S.unpin1 hb) s
  | bk => exact fun σ' P' H' Fs' S s => h σ' P' H' Fs' (S.unpin1 hb) s
  | ct => exact fun σ' P' H' Fs' S s => h σ' P' H' Fs' (S.unpin1 hb) s
  | rt x => exact fun v σ' P' H' Fs' G S s => h v σ' P' H' Fs' G (S.unpin1 hb) s
theorem ExS.pin {x : Xn} {e : DEnv} (hb : ∀ n ∈ B, bv' n = bv n) (h : ExS K mg W B bv R P x e) : ExS K mg W (j :: B) bv' R P x e :=
  fun cls dx σ' P' H' Fs' S s => h cls dx σ' P' H' Fs' (S.unpin1 hb) s
end
section
variable {X : Cx} {W : WX} {B : List Nat} {o c e2 : Expr} {rest : List Stmt} {pp : DEnv → Option (List Stp)} {k : M Flw} {mt : M Bool} {mo : M OD} {y : Str} {py pos p2 : Pos}
end
end DL

set_option maxHeartbeats 2000000
/-! DL142: a comprehension or a loop over a list that is owned by a slot (hidden meanwhile); C(..) with by-reference arguments. -/
namespace DL
open PySem PySem.Spec PyProof.Rows L2
section
variable {K : PySem.W.Frag} {mg : Str → Option Value} {W : WX} {B vs : List Nat} {bv : Nat → V} {R P P0 H P' H' : Hp} {Fs Fs' : Nat → List Addr} {σ : L2.St} {env env' : DEnv} {i : Nat} {x : OD} {g : TG'} {mt : M Bool} {me : M PyData} {Q : VK}
end
section
variable {X : Cx} {W : WX} {B : List Nat} {tg elt : Expr} {ifs : List Expr} {scope : Scope} {g : TG'} {mt : M Bool} {me : M PyData} {mb : M Flw} {body : List Stmt} {p pos : Pos} {x : Str}
end
end DL

set_option maxHeartbeats 2000000
/-! DL143: C(..) with by-reference arguments. -/
namespace DL
open PySem PySem.Spec PyProof.Rows L2
structure MkB (P : Program) (w : World) (K : PySem.W.Frag) (mg : Str → Option Value) (base : Heap) (k : Nat) (c : Str) (ps : List Str) (Bc : List Nat) (m : M OD) : Prop where
  ex : ∃ C f fd, mg c = some (.ref C) ∧ Mk K C f ∧ FnG P w K mg base k f fd ps Bc m ∧ Binds K fd ps []
section
variable {K : PySem.W.Frag} {mg : Str → Option Value} {W : WX} {B Bc : List Nat} {bv : Nat → V} {R P P0 H H' : Hp} {Fs Fc : Nat → List Addr} {G : List Addr} {σ : L2.St} {env args : DEnv} {c : Str} {C x dx : Addr} {f : M OD} {as : List AV} {vs : List V} {Q : VK} {n : Nat}
theorem Handed.grow (h : Handed K mg R P H Fs Fc vs args) (s : Same H H') : Handed K mg R P H' Fs Fc vs args :=
  ⟨h.len, fun j x e => let ⟨v, h1, h2⟩ := h.slot j x e; ⟨v, h1, h2.keep (Same.refl _) fun a _ o ho => s a o ho⟩, h.dead, h.nd, h.dj, h.fr, h.fp, h.ap⟩
theorem Handed.tl {v : V} {o : Option OD} {outs : DEnv} (h : Handed K mg R P H Fs Fc (v :: vs) (o :: outs)) : Handed K mg R P H Fs (fun j => Fc (j + 1)) vs outs :=
  ⟨by simpa using h.len, fun j x e => by
    obtain ⟨w, h1, h2⟩ := h.slot (j + 1) x (by simpa using e)
    exact ⟨w, by simpa using h1, h2⟩, fun j e => h.dead (j + 1) fun x z => e x (by simpa using z), fun j => h.nd (j + 1), fun j k a hjk => h.dj (j + 1) (k + 1) a (by omega), fun j => h.fr (j + 1), fun j => h.fp (j + 1), fun j => h.ap (j + 1)⟩
end
section
variable {X : Cx} {W : WX} {B Bc : List Nat} {j k : Nat} {c x : Str} {ps : List Str} {m : M OD} {ma : M (List AV)} {p pos apos : Pos} {e o : Expr} {es : List Expr}
end
end DL

set_option maxHeartbeats 2000000
/-! DL144: name += tuple. -/
namespace DL
open PySem PySem.Spec PyProof.Rows L2
section
variable {prog : Program} {w : World} {A : Around} {E : Value → Shared → Prop} {s : Shared} {t b : Addr} {vs ws : List Value} {Q : Value → Shared → Prop}
end
section
variable {X : Cx}
end
end DL

set_option maxHeartbeats 2000000
/-! DL145: a or b, a and b as values of any kind. -/
namespace DL
open PySem PySem.Spec PyProof.Rows L2
section
variable {X : Cx} {W : WX} {B : List Nat} {a b : Expr} {rest : List Expr} {ma mb : M PyData} {pos : Pos}
end
end DL

set_option maxHeartbeats 2000000
/-! DL146: displays of tuples with owned parts; what is evaluated with slots lent as frozen data (M.lend, M.lendO): its value holds no part of them. -/
namespace DL
open PySem PySem.Spec PyProof.Rows L2
section
variable {X : Cx} {W : WX} {B : List Nat} {es : List Expr} {ml : M (List AV)} {pos : Pos}
end
/-! ### slots lent -/
mutual
/-- neither lists nor dicts -/
def tsD : PyData → Bool
  | .tuple ds => tsL ds
  | .list _ => false
  | .dict _ => false
  | d => scalD d
def tsL : List PyData → Bool
  | [] => true
  | d :: ds => tsD d && tsL ds
end
mutual
def tsO : OD → Bool
  | .pur d => tsD d
  | .lst xs => tsOL xs
  | .tup xs => tsOL xs
  | .dK _ xs => tsOL xs
  | .dT _ xs => tsOL xs
  | .obj _ _ xs => tsOL xs
  | _ => false
def tsOL : List OD → Bool
  | [] => true
  | x :: xs => tsO x && tsOL xs
end
mutual
theorem Rp.ts {K : PySem.W.Frag} {P P' : Hp} (k : ∀ a xs, P a = some (.tup xs) → P' a = some (.tup xs)) : ∀ {v : V} {d : PyData}, Rp K P v d → tsD d = true → Rp K P' v d
  | _, _, .non, _ => .non
  | _, _, .bl b, _ => .bl b
  | _, _, .int i, _ => .int i
  | _, _, .str x, _ => .str x
  | _, _, .lst h t, e => by simp [tsD] at e
  | _, _, .tup h t, e => .tup (k _ _ h) (RpA.ts k t (by simpa only [tsD] using e))
  | _, _, .dK h hl t, e => by simp [tsD] at e
  | _, _, .dT h hl hne t, e => by simp [tsD] at e
theorem RpA.ts {K : PySem.W.Frag} {P P' : Hp} (k : ∀ a xs, P a = some (.tup xs) → P' a = some (.tup xs)) : ∀ {vs : List V} {ds : List PyData}, RpA K P vs ds → tsL ds = true → RpA K P' vs ds
  | _, _, .nil, _ => .nil
  | _, _, .cons h t, e => by
    simp only [tsL, Bool.and_eq_true] at e
    exact .cons (Rp.ts k h e.1) (RpA.ts k t e.2)
end
mutual
theorem Ow.ts {K : PySem.W.Frag} {mg : Str → Option Value} {P P' H : Hp} (k : ∀ a xs, P a = some (.tup xs) → P' a = some (.tup xs)) : ∀ {F : List Addr} {v : V} {x : OD}, Ow K mg P H F v x → tsO x = true → Ow K mg P' H F v x
  | _, _, _, .pur h, e => .pur (h.ts k (by simpa only [tsO] using e))
  | _, _, _, .lst h t, e => .lst h (OwL.ts k t (by simpa only [tsO] using e))
  | _, _, _, .tup h t, e => .tup (k _ _ h) (OwL.ts k t (by simpa only [tsO] using e))
  | _, _, _, .dK h hl t, e => .dK h hl (OwL.ts k t (by simpa only [tsO] using e))
  | _, _, _, .dT h hl t, e => .dT h hl (OwL.ts k t (by simpa only [tsO] using e))
  | _, _, _, .obj hc h hx hl t, e => .obj hc h hx hl (OwL.ts k t (by simpa only [tsO] using e))
  | _, _, _, .exn .., e => by simp [tsO] at e
  | _, _, _, .ref, e => by simp [tsO] at e
theorem OwL.ts {K : PySem.W.Frag} {mg : Str → Option Value} {P P' H : Hp} (k : ∀ a xs, P a = some (.tup xs) → P' a = some (.tup xs)) : ∀ {F : List Addr} {vs : List V} {xs : List OD}, OwL K mg P H F vs xs → tsOL xs = true → OwL K mg P' H F vs xs
  | _, _, _, .nil, _ => .nil
  | _, _, _, .cons h t, e => by
    simp only [tsOL, Bool.and_eq_true] at e
    exact .cons (Ow.ts k h e.1) (OwL.ts k t e.2)
end
/-- 0: not seen; 1: seen, where it is frozen data; 2: seen as the data that it holds; 3: seen, and may be changed -/
def lendE : List Nat → DEnv → Option DEnv
  | [], [] => some []
  | 0 :: bs, _ :: e => (lendE bs e).map (none :: ·)
  | 1 :: bs, some (.pur d) :: e => (lendE bs e).map (some (.pur d) :: ·)
  | 1 :: bs, none :: e => (lendE bs e).map (none :: ·)
  | 2 :: bs, some x :: e => x.data.bind fun d => (lendE bs e).map (some (.pur d) :: ·)
  | 3 :: bs, o :: e => (lendE bs e).map (o :: ·)
  | _, _ => none
theorem le_n : lendE [] [] = some [] := rfl
theorem le_0 {bs : List Nat} {o : Option OD} {e e' : DEnv} (t : lendE bs e = some e') : lendE (0 :: bs) (o :: e) = some (none :: e') := by simp only [lendE, t, Option.map_some]
theorem le_1 {bs : List Nat} {d : PyData} {e e' : DEnv} (t : lendE bs e = some e') : lendE (1 :: bs) (some (.pur d) :: e) = some (some (.pur d) :: e') := by simp only [lendE, t, Option.map_some]
theorem le_1n {bs : List Nat} {e e' : DEnv} (t : lendE bs e = some e') : lendE (1 :: bs) (none :: e) = some (none :: e') := by simp only [lendE, t, Option.map_some]
theorem le_2 {bs : List Nat} {x : OD} {d : PyData} {e e' : DEnv} (h : x.data = some d) (t : lendE bs e = some e') : lendE (2 :: bs) (some x :: e) = some (some (.pur d) :: e') := by simp only [lendE, h, t, Option.bind_some, Option.map_some]
theorem le_3 {bs : List Nat} {o : Option OD} {e e' : DEnv} (t : lendE bs e = some e') : lendE (3 :: bs) (o :: e) = some (o :: e') := by simp only [lendE, t, Option.map_some]
def LendAt (bs : List Nat) (e e' : DEnv) : Prop := e'.length = e.length ∧ ∀ j : Nat, (bs[j]? = some 3 → e'[j]? = e[j]?) ∧
  ∀ z : OD, e'[j]? = some (some z) → bs[j]? = some 3 ∨ ∃ x d, e[j]? = some (some x) ∧ z = .pur d ∧ ((bs[j]? = some 2 ∧ x.data = some d) ∨ x = .pur d)
theorem LendAt.cons {b : Nat} {bs : List Nat} {o o' : Option OD} {e e' : DEnv} (h : LendAt bs e e') (h3 : b = 3 → o' = o) (hz : ∀ z, o' = some z → b = 3 ∨ ∃ x d, o = some x ∧ z = .pur d ∧ ((b = 2 ∧ x.data = some d) ∨ x = .pur d)) : LendAt (b :: bs) (o :: e) (o' :: e') := by
  refine ⟨by simp [h.1], fun j => ?_⟩
  cases j with
  | zero =>
    refine ⟨fun q => by simp at q ⊢; exact h3 q, fun z q => ?_⟩
    simp at q
    rcases hz z q with r | ⟨x, d, r1, r2, r3⟩
    · exact .inl (by simp [r])
    · exact .inr ⟨x, d, by simp [r1], r2, by simpa using r3⟩
  | succ j => simpa using h.2 j
def tsOo : Option OD → Bool
  | none => true
  | some x => tsO x
/-- what comes back -/
def mergeE : List Nat → DEnv → DEnv → Option DEnv
  | [], [], [] => some []
  | b :: bs, o :: e, o2 :: e2 => if b = 3 then (if tsOo o2 = true then (mergeE bs e e2).map (o2 :: ·) else none) else (mergeE bs e e2).map (o :: ·)
  | _, _, _ => none
theorem me_n : mergeE [] [] [] = some [] := rfl
theorem me_3 {bs : List Nat} {o : Option OD} {x : OD} {e e2 e' : DEnv} (h : tsO x = true) (t : mergeE bs e e2 = some e') : mergeE (3 :: bs) (o :: e) (some x :: e2) = some (some x :: e') := by simp only [mergeE, tsOo, h, t, if_true, Option.map_some]
theorem me_o {b : Nat} {bs : List Nat} {o o2 : Option OD} {e e2 e' : DEnv} (hb : b ≠ 3) (t : mergeE bs e e2 = some e') : mergeE (b :: bs) (o :: e) (o2 :: e2) = some (o :: e') := by simp only [mergeE, if_neg hb, t, Option.map_some]
theorem me_0 {bs : List Nat} {o o2 : Option OD} {e e2 e' : DEnv} (t : mergeE bs e e2 = some e') : mergeE (0 :: bs) (o :: e) (o2 :: e2) = some (o :: e') := me_o (by decide) t
theorem me_1 {bs : List Nat} {o o2 : Option OD} {e e2 e' : DEnv} (t : mergeE bs e e2 = some e') : mergeE (1 :: bs) (o :: e) (o2 :: e2) = some (o :: e') := me_o (by decide) t
theorem me_2 {bs : List Nat} {o o2 : Option OD} {e e2 e' : DEnv} (t : mergeE bs e e2 = some e') : mergeE (2 :: bs) (o :: e) (o2 :: e2) = some (o :: e') := me_o (by decide) t
theorem mergeE_at : ∀ {bs : List Nat} {e e2 e' : DEnv}, mergeE bs e e2 = some e' → e'.length = e.length ∧ ∀ j : Nat, (bs[j]? = some 3 → e'[j]? = e2[j]? ∧ ∀ x, e2[j]? = some (some x) → tsO x = true) ∧ (bs[j]? ≠ some 3 → e'[j]? = e[j]?)
  | [], [], [], e', h => by cases h; exact ⟨rfl, fun j => ⟨fun h => by simp at h, fun _ => rfl⟩⟩
  | b :: bs, o :: e, o2 :: e2, e', h => by
    simp only [mergeE] at h
    by_cases hb : b = 3
    · rw [if_pos hb] at h
      by_cases ht : tsOo o2 = true
      · rw [if_pos ht] at h
        obtain ⟨e1, h1, rfl⟩ := Option.map_eq_some_iff.mp h
        obtain ⟨i1, i2⟩ := mergeE_at h1
        refine ⟨by simp [i1], fun j => ?_⟩
        cases j with
        | zero =>
          refine ⟨fun _ => ⟨by simp, fun x hx => ?_⟩, fun q => absurd (by simp [hb]) q⟩
          simp at hx
          rw [hx] at ht
          exact ht
        | succ j => simpa using i2 j
      · rw [if_neg ht] at h; cases h
    · rw [if_neg hb] at h
      obtain ⟨e1, h1, rfl⟩ := Option.map_eq_some_iff.mp h
      obtain ⟨i1, i2⟩ := mergeE_at h1
      refine ⟨by simp [i1], fun j => ?_⟩
      cases j with
      | zero => exact ⟨fun q => absurd (by simpa using q) hb, fun _ => by simp⟩
      | succ j => simpa using i2 j
  | [], [], _ :: _, _, h => by simp [mergeE] at h
  | [], _ :: _, _, _, h => by simp [mergeE] at h
  | _ :: _, [], _, _, h => by simp [mergeE] at h
  | _ :: _, _ :: _, [], _, h => by simp [mergeE] at h
section
variable {K : PySem.W.Frag} {mg : Str → Option Value} {B : List Nat} {bv : Nat → V} {R P H P' H' : Hp} {Fs Fs' : Nat → List Addr} {σ : L2.St} {env env1 env2 env3 : DEnv} {bs : List Nat}
def lenF (bs : List Nat) (Fs : Nat → List Addr) : Nat → List Addr := fun j => if bs[j]? = some 2 then Fs j else []
def keepF (bs : List Nat) (Fs : Nat → List Addr) : Nat → List Addr := fun j => if bs[j]? = some 2 ∨ bs[j]? = some 3 then [] else Fs j
theorem lenF_sub {j : Nat} {a : Addr} (h : a ∈ lenF bs Fs j) : a ∈ Fs j ∧ bs[j]? = some 2 := by
  unfold lenF at h
  split at h
  · exact ⟨h, by assumption⟩
  · cases h
theorem keepF_sub {j : Nat} {a : Addr} (h : a ∈ keepF bs Fs j) : a ∈ Fs j ∧ ¬ (bs[j]? = some 2 ∨ bs[j]? = some 3) := by
  unfold keepF at h
  split at h
  · cases h
  · exact ⟨h, by assumption⟩
theorem lenF_in {j : Nat} {a : Addr} (h : a ∈ Fs j) (q : bs[j]? = some 2) : a ∈ lenF bs Fs j := by unfold lenF; rw [if_pos q]; exact h
theorem keepF_in {j : Nat} {a : Addr} (h : a ∈ Fs j) (q : ¬ (bs[j]? = some 2 ∨ bs[j]? = some 3)) : a ∈ keepF bs Fs j := by unfold keepF; rw [if_neg q]; exact h
open Classical in
/-- what was frozen meanwhile, without what was lent -/
noncomputable def outP (P' : Hp) (Fs : Nat → List Addr) : Hp := fun a => if ∃ j, a ∈ Fs j then none else P' a
theorem outP_in {a : Addr} (h : ∃ j, a ∈ Fs j) : outP P' Fs a = none := by unfold outP; rw [if_pos h]
theorem outP_out {a : Addr} (h : ¬ ∃ j, a ∈ Fs j) : outP P' Fs a = P' a := by unfold outP; rw [if_neg h]
theorem outP_none {a : Addr} (h : P' a = none) : outP P' Fs a = none := by unfold outP; split; rfl; exact h
def backF (bs : List Nat) (Fs Fs' : Nat → List Addr) : Nat → List Addr := fun j => if bs[j]? = some 3 then Fs' j else Fs j
theorem Sta.lent_keep (S : Sta K mg B bv R P H Fs σ env) (S2 : Sta K mg B bv (allR R H (keepF bs Fs)) P' H' Fs' σ env2) (pp : Same (allR P H (lenF bs Fs)) P') : ∀ j, bs[j]? ≠ some 3 → ∀ a ∈ Fs j, ∀ o, H a = some o → H' a = some o := fun j h3 a ha o e => by
  by_cases q : bs[j]? = some 2
  · exact S2.ph _ _ (pp _ _ (by rw [allR_in ⟨j, lenF_in ha q⟩]; exact e))
  · exact S2.rh _ _ (by rw [allR_in ⟨j, keepF_in ha (fun z => z.elim q h3)⟩]; exact e) (S.nota (S.fr j a ha))
theorem Sta.lent_same (S : Sta K mg B bv R P H Fs σ env) (pp : Same (allR P H (lenF bs Fs)) P') : Same P (outP P' (lenF bs Fs)) := fun a o e => by
  have n : ¬ ∃ j, a ∈ lenF bs Fs j := fun ⟨j, z⟩ => by rw [S.fp j a (lenF_sub z).1] at e; cases e
  rw [outP_out n]
  exact pp _ _ (by rw [allR_out n]; exact e)
theorem Sta.lent_tup (S : Sta K mg B bv R P H Fs σ env) (pp : Same (allR P H (lenF bs Fs)) P') : ∀ a xs, P' a = some (.tup xs) → outP P' (lenF bs Fs) a = some (.tup xs) := fun a xs e => by
  rw [outP_out fun ⟨j, z⟩ => by
    obtain ⟨o, eo⟩ := S.there (lenF_sub z).1
    have h := pp a o (by rw [allR_in ⟨j, z⟩]; exact eo)
    rw [e] at h
    cases h
    exact S.notup (lenF_sub z).1 xs eo]
  exact e
/-- and are back -/
theorem Sta.lent (S : Sta K mg B bv R P H Fs σ env) (S2 : Sta K mg B bv (allR R H (keepF bs Fs)) P' H' Fs' σ env2) (pp : Same (allR P H (lenF bs Fs)) P') (hm : mergeE bs env env2 = some env3) :
    Sta K mg B bv R (outP P' (lenF bs Fs)) H' (backF bs Fs Fs') σ env3 := by
  obtain ⟨m1, m2⟩ := mergeE_at hm
  have sR : Same R (allR R H (keepF bs Fs)) := fun a o e => by
    rw [allR_out fun ⟨j, z⟩ => by rw [S.fr j a (keepF_sub z).1] at e; cases e]
    exact e
  have cross : ∀ {j k a}, bs[k]? ≠ some 3 → a ∈ Fs' j → a ∉ Fs k := fun {j k a} h3 h z => by
    obtain ⟨o, eo⟩ := S.there z
    by_cases q : bs[k]? = some 2
    · have := pp a o (by rw [allR_in ⟨k, lenF_in z q⟩]; exact eo)
      rw [S2.fp j a h] at this
      cases this
    · have := S2.fr j a h
      rw [allR_in ⟨k, keepF_in z fun r => r.elim q h3⟩, eo] at this
      cases this
  exact
  { rh := fun a o e n => S2.rh a o (sR _ _ e) n
    tb := fun p hp => ⟨(S2.tb p hp).1, (S.tb p hp).2⟩
    ph := fun a o e => by
      by_cases q : ∃ j, a ∈ lenF bs Fs j
      · rw [outP_in q] at e; cases e
      · rw [outP_out q] at e; exact S2.ph _ _ e
    rp := fun a h => outP_none (S2.rp a (by
      cases e : R a with
      | none => exact absurd e h
      | some o => rw [sR _ _ e]; simp))
    slot := fun j x h => by
      by_cases h3 : bs[j]? = some 3
      · rw [((m2 j).1 h3).1] at h
        obtain ⟨v, h1, h2⟩ := S2.slot j x h
        refine ⟨v, h1, ?_⟩
        unfold backF
        rw [if_pos h3]
        exact h2.ts (S.lent_tup pp) (((m2 j).1 h3).2 x h)
      · rw [(m2 j).2 h3] at h
        obtain ⟨v, h1, h2⟩ := S.slot j x h
        refine ⟨v, h1, ?_⟩
        unfold backF
        rw [if_neg h3]
        exact h2.keep (S.lent_same pp) (S.lent_keep S2 pp j h3)
    dead := fun j h => by
      unfold backF
      split
      · rename_i h3
        refine S2.dead j fun x e => h x ?_
        rw [((m2 j).1 h3).1]
        exact e
      · rename_i h3
        refine S.dead j fun x e => h x ?_
        rw [(m2 j).2 h3]
        exact e
    nd := fun j => by
      unfold backF
      split
      · exact S2.nd j
      · exact S.nd j
    dj := fun i j a hij h z => by
      unfold backF at h z
      split at h
      · split at z
        · exact S2.dj i j a hij h z
        · rename_i h3
          exact cross h3 h z
      · rename_i h3
        split at z
        · exact cross h3 z h
        · exact S.dj i j a hij h z
    fr := fun j a h => by
      unfold backF at h
      split at h
      · exact sR.free (S2.fr j a h)
      · exact S.fr j a h
    fp := fun j a h => by
      unfold backF at h
      split at h
      · exact outP_none (S2.fp j a h)
      · rename_i h3
        by_cases q : bs[j]? = some 2
        · exact outP_in ⟨j, lenF_in h q⟩
        · obtain ⟨o, eo⟩ := S.there h
          exact outP_none (S2.rp a (by rw [allR_in ⟨j, keepF_in h fun r => r.elim q h3⟩, eo]; simp))
    len := by rw [S.len, m1]
    pin := S.pin
    nt := S.nt }
end
def lendR {α : Type} (bs : List Nat) (ok : α → Bool) (m : M α) : M α := fun env => match lendE bs env with
  | some env1 => (match m env1 with
    | .ok d env2 => if ok d = true then (match mergeE bs env env2 with
      | some env3 => .ok d env3
      | none => .no) else .no
    | _ => .no)
  | none => .no
abbrev M.lend (bs : List Nat) (m : M PyData) : M PyData := lendR bs tsD m
abbrev M.lendO (bs : List Nat) (m : M OD) : M OD := lendR bs tsO m
section
variable {X : Cx} {W : WX} {B : List Nat} {e : Expr}
theorem hs_lendR {α : Type} {env env1 : DEnv} {bs : List Nat} {ok : α → Bool} {m : M α} {Q : α → DEnv → Prop} (he : lendE bs env = some env1) (h : Hs (m env1) fun d e2 => ok d = true ∧ ∃ e3, mergeE bs env e2 = some e3 ∧ Q d e3) : Hs (lendR bs ok m env) Q := by
  obtain ⟨d, e2, h1, h2, e3, h3, h4⟩ := h
  unfold lendR
  rw [he]
  simp only
  rw [h1]
  simp only
  rw [if_pos h2, h3]
  exact Hs.mk h4
end
end DL

set_option maxHeartbeats 2000000
/-! DL147: a def that returns a part of its first argument: `return ([one for one in xs if one[0] == t] + [None])[0]`. -/
namespace DL
open PySem PySem.Spec PyProof.Rows L2
/-- what a def does with its arguments, without mirrors -/
structure FnP (P : Program) (w : World) (K : PySem.W.Frag) (mg : Str → Option Value) (base : Heap) (k : Nat) (f : Addr) (fd : FuncData) (ps : List Str) (sp : List V → Hp → VK → Prop) : Prop where
  len : ∀ vs H Q, sp vs H Q → vs.length = ps.length
  run : ∀ (A : Around) (outer : List Env) (s : Shared) (H : Hp) (args : Args) (us : List Value) (vs : List V) (Q : VK) (E : XK), Room k A → A.guards = some [] → (∃ o, base.get? sysModules = some o) → Env0 P w K mg base A outer s H →
    BindsTo s fd args (ps.zip us) → Vals vs us → sp vs H Q → codeAny (model P w) A (.call (.ref f) args) (CR (L2.CX P w) outer P w H s Q E) s
theorem FnP.mono {P : Program} {w : World} {K : PySem.W.Frag} {mg : Str → Option Value} {base : Heap} {j k : Nat} {f : Addr} {fd : FuncData} {ps : List Str} {sp : List V → Hp → VK → Prop} (F : FnP P w K mg base j f fd ps sp) (h : j ≤ k) : FnP P w K mg base k f fd ps sp :=
  ⟨F.len, fun A outer s H args us vs Q E hr => F.run A outer s H args us vs Q E (hr.mono h)⟩
/-! ### [one for one in xs if one[0] == t] -/
section
variable {X : Cx} {xs tg elt one1 tt : Expr} {scope : Scope} {own : List (Str × Nat)} {k1 k2 k3 : Nat} {p1 p2 p3 p4 p5 p6 p7 p8 p9 p10 : Pos}
end
end DL

set_option maxHeartbeats 2000000
/-! DL148: places that are reached by a call (PLM): f(xs, t), f(xs, t)[k]; place.append(e), place[k] = v of such places. -/
namespace DL
open PySem PySem.Spec PyProof.Rows L2
def tPM (K : PySem.W.Frag) (mg : Str → Option Value) (B : List Nat) (i : Nat) (mp : M (List Stp)) : TE := fun σ H Q => ∃ bv R P Fs env, Sta K mg B bv R P H Fs σ env ∧
  post (mp env) (fun p env' => ∀ P' H' Fs' x y v u, Sta K mg B bv R P' H' Fs' σ env' → Same P P' → env'[i]? = some (some x) → getP p x = some y → σ[i]? = some (some v) → PlV mg H' v p u → Q u H') fun _ _ => False
abbrev PLM (X : Cx) (B : List Nat) (i : Nat) (e : Expr) (mp : M (List Stp)) : Prop := PE X e (tPM X.K X.mg B i mp)
section
variable {X : Cx} {W : WX} {B : List Nat} {i j k : Nat} {a b : Expr} {x : Str} {ps : List Str} {mt : DEnv → Option PyData} {mp : M (List Stp)} {m : DEnv → Option PyData} {p pos : Pos}
end
end DL

set_option maxHeartbeats 2000000
/-! DL149: f(xs, t)[k]; place.append(e), place[k] = v of places that are reached by a call. -/
namespace DL
open PySem PySem.Spec PyProof.Rows L2
section
variable {X : Cx} {W : WX} {B : List Nat} {i : Nat} {a b o e k : Expr} {mp : M (List Stp)} {m : DEnv → Option PyData} {mo : M OD} {mk : M PyData} {pos pos' : Pos}
/-! ### how they run -/
variable {env e1 : DEnv}
end
end DL

set_option maxHeartbeats 2000000
/-! DL150: a slice of a list as an owned list. -/
namespace DL
open PySem PySem.Spec PyProof.Rows L2
section
variable {X : Cx} {W : WX} {B : List Nat} {a : Expr} {ma : M PyData} {ml mh : M (Option Int)} {p2 pos : Pos} {lo hi : Option Expr}
end
end DL

set_option maxHeartbeats 2000000
/-! DL151: steps for what is evaluated with slots lent. -/
namespace DL
open PySem PySem.Spec PyProof.Rows L2
def LQ {α : Type} (bs : List Nat) (ok : α → Bool) (env : DEnv) (Q : α → DEnv → Prop) : α → DEnv → Prop := fun d e2 => ok d = true ∧ ∃ e3, mergeE bs env e2 = some e3 ∧ Q d e3
theorem hs_lq {α : Type} {env env1 : DEnv} {bs : List Nat} {ok : α → Bool} {m : M α} {Q : α → DEnv → Prop} (he : lendE bs env = some env1) (h : Hs (m env1) (LQ bs ok env Q)) : Hs (lendR bs ok m env) Q := hs_lendR he h
theorem lq {α : Type} {env e2 e3 : DEnv} {bs : List Nat} {ok : α → Bool} {Q : α → DEnv → Prop} {d : α} (h1 : ok d = true) (h2 : mergeE bs env e2 = some e3) (h3 : Q d e3) : LQ bs ok env Q d e2 := ⟨h1, e3, h2, h3⟩
theorem tsI {i : Int} : tsD (.int i) = true := by simp only [tsD, scalD]
theorem tsS {x : Str} : tsD (.str x) = true := by simp only [tsD, scalD]
theorem tsB {b : Bool} : tsD (.bool b) = true := by simp only [tsD, scalD]
theorem tsN : tsD .none = true := by simp only [tsD, scalD]
end DL

set_option maxHeartbeats 2000000
/-! DL152: str(place) of an own instance with a plain __str__. -/
namespace DL
open PySem PySem.Spec PyProof.Rows L2
section
variable {X : Cx} {W : WX} {B Bc : List Nat} {j k i : Nat} {c mn x : Str} {ps : List Str} {m : M OD} {pp : DEnv → Option (List Stp)} {o e : Expr} {p pos : Pos} {f : Addr} {fd : FuncData} {kb : List (List Str × Nat × List Nat)} {ok : V → Prop}
end
end DL

set_option maxHeartbeats 2000000
/-! DL153: for name in name, over a list of own trees: each turn the element is lent to the target's name. -/
namespace DL
open PySem PySem.Spec PyProof.Rows L2
noncomputable def forBL (i j : Nat) (mb : M Flw) : Nat → Nat → M Flw
  | 0, k => fun env => match (env[i]?).join with
    | some (.lst zs) => if zs.length = k then .ok .nx env else .no
    | _ => .no
  | n + 1, k => fun env => match (env[i]?).join with
    | some (.lst zs) => (match zs[k]? with
      | some y => if isNode y = true ∧ i ≠ j ∧ j < env.length then
          (match sameA fun a => plugR i [.ix k] j a (mb ((env.set i (some (setP [.ix k] (.lst zs) (.ref a)))).set j (some y))) with
          | .ok .nx e => forBL i j mb n (k + 1) e
          | .ok .ct e => forBL i j mb n (k + 1) e
          | .ok .bk e => .ok .nx e
          | .ok (.rt x) e => .ok (.rt x) e
          | .ex x e => .ex x e
          | .no => .no)
        else .no
      | none => .no)
    | _ => .no
noncomputable def M.forB (i j : Nat) (mb : M Flw) : M Flw := fun env => match (env[i]?).join with
  | some (.lst zs) => forBL i j mb zs.length 0 env
  | _ => .no
section
variable {K : PySem.W.Frag} {mg : Str → Option Value} {W : WX} {B : List Nat} {bv : Nat → V} {R P H : Hp} {Fs : Nat → List Addr} {σ : L2.St} {env : DEnv} {i j : Nat} {mb : M Flw} {D : Ends}
def pinV (i : Nat) (a : V) (bv : Nat → V) : Nat → V := fun n => if n = i then a else bv n
theorem Sta.pin1 (S : Sta K mg B bv R P H Fs σ env) {a : V} (h : σ[i]? = some (some a)) : Sta K mg (i :: B) (pinV i a bv) R P H Fs σ env :=
  ⟨S.rh, S.tb, S.ph, S.rp, S.slot, S.dead, S.nd, S.dj, S.fr, S.fp, S.len, fun n hn => by
    unfold pinV
    by_cases e : n = i
    · subst e; simp only [if_true]; exact h
    · simp only [e, if_false]
      rcases List.mem_cons.mp hn with z | z
      · exact absurd z e
      · exact S.pin n z, S.nt⟩
theorem Sta.pin0 {bv1 : Nat → V} (S : Sta K mg (i :: B) bv1 R P H Fs σ env) (hb : ∀ n ∈ B, bv1 n = bv n) : Sta K mg B bv R P H Fs σ env :=
  ⟨S.rh, S.tb, S.ph, S.rp, S.slot, S.dead, S.nd, S.dj, S.fr, S.fp, S.len, fun n hn => by rw [S.pin n (List.mem_cons_of_mem _ hn), hb n hn], S.nt⟩
theorem pinV_keep (S : Sta K mg B bv R P H Fs σ env) {a : V} (h : σ[i]? = some (some a)) : ∀ n ∈ B, pinV i a bv n = bv n := fun n hn => by
  unfold pinV
  by_cases e : n = i
  · subst e
    simp only [if_true]
    have := S.pin n hn
    rw [h] at this
    cases this; rfl
  · simp only [e, if_false]
theorem forB_inner {P1 H1 : Hp} {F1 : Nat → List Addr} {e1 : DEnv} {a0 : Addr} {zs0 : List OD} (hjB : j ∉ B) (S1 : Sta K mg B bv R P1 H1 F1 σ e1) (s1 : Same P P1) (hx : e1[i]? = some (some (.lst zs0))) (hv0 : σ[i]? = some (some (.ref a0)))
    (h1 : post (forBL i j mb zs0.length 0 e1) (OkS K mg B bv R P D) (ExS K mg W B bv R P)) : ForIn (gName j) (tS K mg W (j :: i :: B) mb) D σ (Itl K a0) H1 := by
  have hb1 := pinV_keep S1 hv0
  generalize hbv : pinV i (.ref a0) bv = bv1 at hb1
  have hbi : bv1 i = .ref a0 := by rw [← hbv]; unfold pinV; simp
  have S1' : Sta K mg (i :: B) bv1 R P1 H1 F1 σ e1 := by rw [← hbv]; exact S1.pin1 hv0
  refine ⟨fun k m σ H => m = zs0.length - k ∧ k ≤ zs0.length ∧ ∃ P' Fs' env', Sta K mg (i :: B) bv1 R P' H Fs' σ env' ∧ Same P P' ∧ post (forBL i j mb (zs0.length - k) k env') (OkS K mg B bv R P D) (ExS K mg W B bv R P), ⟨_, rfl, Nat.zero_le _, P1, F1, e1, S1', s1, h1⟩, ?_⟩
  rintro k m σ2 H2 ⟨rfl, hk, P2, F2, e2, S2, s2, h2⟩
  have hvi : σ2[i]? = some (some (.ref a0)) := by rw [S2.pin i List.mem_cons_self, hbi]
  by_cases hlt : k < zs0.length
  · obtain ⟨n, hn⟩ : ∃ n, zs0.length - k = n + 1 := ⟨zs0.length - k - 1, by omega⟩
    rw [hn] at h2
    unfold forBL at h2
    cases q1 : (e2[i]?).join with
    | none => rw [q1] at h2; exact h2.elim
    | some x =>
      rw [q1] at h2
      have hx2 := join_some q1
      cases x with
      | lst zs =>
        simp only at h2
        cases q2 : zs[k]? with
        | none => rw [q2] at h2; exact h2.elim
        | some y =>
          rw [q2] at h2
          simp only at h2
          split at h2
          · rename_i hc
            obtain ⟨hnode, hij, hlen⟩ := hc
            have hy : getP [.ix k] (.lst zs) = some y := by simp only [getP, q2, Option.bind_some]
            obtain ⟨v, hv, ox⟩ := S2.slot i _ hx2
            rw [hvi] at hv
            cases hv
            obtain ⟨a1, F0, vs, hae, hF, hH, ol⟩ := ox.lst_inv
            cases hae
            obtain ⟨v', u, G, Fs0, hv', pl, oy, fr, Sl⟩ := S2.lend hx2 hy
            rw [hvi] at hv'
            cases hv'
            obtain ⟨b, rfl⟩ := own_ref oy hnode
            have hvk : vs[k]? = some (.ref b) := by
              cases pl with
              | ix hh hc t =>
                rw [hH] at hh
                cases hh
                cases t
                exact hc
              | tx hh hc t =>
                rw [hH] at hh
                cases hh
            have hsq : SqL K H2 a0 vs := .inl (.inl hH)
            refine .inr ⟨⟨vs, _, hsq, hvk⟩, fun σ' H' => ∃ P' Fs' env', Sta K mg (i :: B) bv1 R P' H' Fs' σ' env' ∧ Same P P' ∧ post (forBL i j mb n (k + 1) env') (OkS K mg B bv R P D) (ExS K mg W B bv R P), fun σ' H' h' => ⟨n, by omega, by omega, hlt, by rw [show zs0.length - (k + 1) = n by omega]; exact h'⟩, ?_⟩
            rintro x H3 ⟨rfl, hx3⟩
            have ex := hx3 vs hsq
            rw [hvk] at ex
            cases ex
            have hjiB : j ∉ i :: B := fun z => by
              rcases List.mem_cons.mp z with z | z
              · exact hij z.symm
              · exact hjB z
            have S3 := (Sl b rfl).store oy fr hjiB (by rw [List.length_set]; exact hlen)
            have hσj : (σ2.set j (some (.ref b)))[j]? = some (some (.ref b)) := List.getElem?_set_self (by rw [S2.len]; exact hlen)
            have S4 := S3.pin1 hσj
            have hbv2 : ∀ n ∈ i :: B, pinV j (.ref b) bv1 n = bv1 n := fun n hn => by
              unfold pinV
              exact if_neg fun (e : n = j) => hjiB (e ▸ hn)
            have hpj : pinV j (.ref b) bv1 j = .ref b := by unfold pinV; simp
            show tS K mg W (j :: i :: B) mb _ _ _
            refine ⟨_, R, P2, _, _, S4, ?_⟩
            have q3 : ∀ {r : Rs Flw}, (sameA fun a => plugR i [.ix k] j a (mb ((e2.set i (some (setP [.ix k] (.lst zs) (.ref a)))).set j (some y)))) = r → r ≠ .no → plugR i [.ix k] j b (mb ((e2.set i (some (setP [.ix k] (.lst zs) (.ref b)))).set j (some y))) = r := fun {r} hr hne => by
              unfold sameA at hr
              split at hr
              · rename_i h
                rw [← hr]
                exact Classical.choose_spec h b
              · exact absurd hr.symm hne
            have go : ∀ {σ' : L2.St} {P' H' : Hp} {Fs' : Nat → List Addr} {e e' : DEnv}, plug i [.ix k] j b e = some e' → Sta K mg (j :: i :: B) (pinV j (.ref b) bv1) R P' H' Fs' σ' e → ∃ Fs2, Sta K mg (i :: B) bv1 R P' H' Fs2 σ' e' ∧ ∀ c, (∀ n, c ∉ Fs' n) → ∀ n, c ∉ Fs2 n := fun hp S' => plug_sta hij S' hpj hbv2 hp
            cases hr : (sameA fun a => plugR i [.ix k] j a (mb ((e2.set i (some (setP [.ix k] (.lst zs) (.ref a)))).set j (some y)))) with
            | no => rw [hr] at h2; exact h2.elim
            | ex xn e' =>
              rw [hr] at h2
              have hp := q3 hr (fun z => nomatch z)
              cases hm : mb ((e2.set i (some (setP [.ix k] (.lst zs) (.ref b)))).set j (some y)) with
              | no => rw [hm] at hp; cases hp
              | ok f e =>
                rw [hm] at hp
                simp only [plugR] at hp
                cases hpl : plug i [.ix k] j b e with
                | none => rw [hpl] at hp; cases hp
                | some e3 => rw [hpl] at hp; cases hp
              | ex x2 e =>
                rw [hm] at hp
                simp only [plugR] at hp
                cases hpl : plug i [.ix k] j b e with
                | none => rw [hpl] at hp; cases hp
                | some e3 =>
                  rw [hpl] at hp
                  cases hp
                  intro cls dx σ' P' H' Fs' S' s' xx
                  obtain ⟨Fs2, S5, _⟩ := go hpl S'
                  exact h2 cls dx σ' P' H' Fs2 (S5.pin0 hb1) (s2.trans s') xx
            | ok f e' =>
              rw [hr] at h2
              have hp := q3 hr (fun z => nomatch z)
              cases hm : mb ((e2.set i (some (setP [.ix k] (.lst zs) (.ref b)))).set j (some y)) with
              | no => rw [hm] at hp; cases hp
              | ex x2 e =>
                rw [hm] at hp
                simp only [plugR] at hp
                cases hpl : plug i [.ix k] j b e with
                | none => rw [hpl] at hp; cases hp
                | some e3 => rw [hpl] at hp; cases hp
              | ok f2 e =>
                rw [hm] at hp
                simp only [plugR] at hp
                cases hpl : plug i [.ix k] j b e with
                | none => rw [hpl] at hp; cases hp
                | some e3 =>
                  rw [hpl] at hp
                  cases hp
                  cases f with
                  | nx => exact fun σ' P' H' Fs' S' s' => let ⟨Fs2, S5, _⟩ := go hpl S'; ⟨P', Fs2, _, S5, s2.trans s', h2⟩
                  | ct => exact fun σ' P' H' Fs' S' s' => let ⟨Fs2, S5, _⟩ := go hpl S'; ⟨P', Fs2, _, S5, s2.trans s', h2⟩
                  | bk => exact fun σ' P' H' Fs' S' s' => let ⟨Fs2, S5, _⟩ := go hpl S'; h2 σ' P' H' Fs2 (S5.pin0 hb1) (s2.trans s')
                  | rt w => exact fun v σ' P' H' Fs' G S' s' ow fr' => let ⟨Fs2, S5, nn⟩ := go hpl S'; h2 v σ' P' H' Fs2 G (S5.pin0 hb1) (s2.trans s') ow ⟨fr'.nd, fr'.r, fr'.p, fun c hc n => nn c (fr'.f c hc) n⟩
          · exact h2.elim
      | _ => exact h2.elim
  · have e : k = zs0.length := by omega
    subst e
    rw [Nat.sub_self] at h2
    unfold forBL at h2
    cases q1 : (e2[i]?).join with
    | none => rw [q1] at h2; exact h2.elim
    | some x =>
      rw [q1] at h2
      have hx2 := join_some q1
      cases x with
      | lst zs =>
        simp only at h2
        split at h2
        · rename_i hl
          obtain ⟨v, hv, ox⟩ := S2.slot i _ hx2
          rw [hvi] at hv
          cases hv
          obtain ⟨a1, F0, vs, hae, hF, hH, ol⟩ := ox.lst_inv
          cases hae
          have hlen : vs.length = zs.length := ol.length
          exact .inl ⟨⟨vs, .inl (.inl hH), by omega⟩, h2 σ2 P2 H2 F2 (S2.pin0 hb1) s2⟩
        · exact h2.elim
      | _ => exact h2.elim
end
section
variable {X : Cx} {W : WX} {B : List Nat} {mb : M Flw} {body : List Stmt} {p py pos : Pos} {x y : Str}
theorem sd_forB (i j : Nat) (hjB : j ∉ B) (hN : X.N.Nodup) (hp : PassesOwn (model X.prog X.w) X.A X.env X.xe) (hc : X.calm = true) (hb : SDs X W (j :: i :: B) body mb)
    (hNi : X.N[i]? = some x := by rfl) (hNj : X.N[j]? = some y := by rfl) (hx : Loc X.env.scope y := by first | exact Or.inl rfl | exact Or.inr rfl)
    (hf : X.fn y = true ∨ X.env.scope.names.lookup y = some .local := by first | exact .inl rfl | exact .inr rfl | assumption)
    (hv : Vis X.env.scope x := by first | exact Or.inl rfl | exact Or.inr (Or.inl rfl) | exact Or.inr (Or.inr rfl)) (hd : (x == ("__debug__" : Str)) = false := by decide) (hcd : (x == ("__classdict__" : Str)) = false := by decide)
    (hs2 : ∀ z, foldedSetIterable (.Name x p) X.env z = pure z := by intro _; rfl) :
    SD X W B (.For (.Name y py) (.Name x p) body [] pos) (M.forB i j mb) :=
  PS_mono (ps_for hp hc (pi_any (pe_var hNi hv hd hcd)) (pg_name hN hNj hx hf) hb hs2) fun D σ H ⟨bv, R, P, Fs, env, S, q⟩ => by
    unfold M.forB at q
    cases h1 : (env[i]?).join with
    | none => rw [h1] at q; exact q.elim
    | some z =>
      rw [h1] at q
      have hx := join_some h1
      cases z with
      | lst zs =>
        simp only at q
        obtain ⟨v, hv, ox⟩ := S.slot i _ hx
        obtain ⟨a, F0, ws, rfl, hF, hH, ol⟩ := ox.lst_inv
        exact ⟨.ref a, hv, .inl ⟨a, rfl, ⟨ws, .inl (.inl hH)⟩, forB_inner hjB S (Same.refl _) hx hv q⟩⟩
      | _ => exact q.elim
end
/-- by the number of the turn; I tells the environment at each -/
theorem hs_forBL {i j : Nat} {mb : M Flw} {Q : Flw → DEnv → Prop} (I : Nat → List OD → DEnv → Prop) {n : Nat} (hI : ∀ k zs e, I k zs e → sl e i = some (.lst zs) ∧ zs.length = n ∧ i ≠ j ∧ j < e.length)
    (step : ∀ k zs e y, k < n → I k zs e → zs[k]? = some y → isNode y = true ∧ ∃ zs' e', I (k + 1) zs' e' ∧ ∀ a, Hs (mb ((e.set i (some (.lst (zs.set k (.ref a))))).set j (some y))) fun f e2 => f = .nx ∧ plug i [.ix k] j a e2 = some e')
    (done : ∀ zs e, I n zs e → Q .nx e) : ∀ (m k : Nat) (zs : List OD) (e : DEnv), k + m = n → I k zs e → Hs (forBL i j mb m k e) Q
  | 0, k, zs, e, hk, h => by
    obtain ⟨h1, h2, _⟩ := hI k zs e h
    have e1 : k = n := by omega
    subst e1
    unfold forBL
    rw [sl_some h1]
    simp only [Option.join_some, h2, if_true]
    exact Hs.mk (done zs e h)
  | m + 1, k, zs, e, hk, h => by
    obtain ⟨h1, h2, h3, h4⟩ := hI k zs e h
    have hlt : k < zs.length := by omega
    obtain ⟨hn, zs', e', h5, h6⟩ := step k zs e zs[k] (by omega) h (List.getElem?_eq_getElem hlt)
    unfold forBL
    rw [sl_some h1]
    simp only [Option.join_some, List.getElem?_eq_getElem hlt]
    rw [if_pos ⟨hn, h3, h4⟩]
    have es : ∀ a, setP [.ix k] (.lst zs) (.ref a) = .lst (zs.set k (.ref a)) := fun a => by simp only [setP, List.getElem?_eq_getElem hlt]
    rw [sameA_of (r := .ok .nx e') fun a => ?_]
    · exact hs_forBL I hI step done m (k + 1) zs' e' (by omega) h5
    · obtain ⟨f, e2, k1, rfl, k2⟩ := h6 a
      rw [es, k1]
      simp only [plugR, k2]
theorem hs_forB {i j : Nat} {mb : M Flw} {Q : Flw → DEnv → Prop} {zs0 : List OD} {env : DEnv} (I : Nat → List OD → DEnv → Prop) (hx : sl env i = some (.lst zs0)) (hI : ∀ k zs e, I k zs e → sl e i = some (.lst zs) ∧ zs.length = zs0.length ∧ i ≠ j ∧ j < e.length)
    (step : ∀ k zs e y, k < zs0.length → I k zs e → zs[k]? = some y → isNode y = true ∧ ∃ zs' e', I (k + 1) zs' e' ∧ ∀ a, Hs (mb ((e.set i (some (.lst (zs.set k (.ref a))))).set j (some y))) fun f e2 => f = .nx ∧ plug i [.ix k] j a e2 = some e')
    (done : ∀ zs e, I zs0.length zs e → Q .nx e) (h : I 0 zs0 env) : Hs (M.forB i j mb env) Q := by
  unfold M.forB
  rw [sl_some hx]
  simp only [Option.join_some]
  exact hs_forBL I hI step done _ 0 zs0 env (by omega) h
end DL

set_option maxHeartbeats 2000000
/-! DL154: [.. for name in name ..] over a list of own trees: each turn the element is lent to the target's name. -/
namespace DL
open PySem PySem.Spec PyProof.Rows L2
def plugQ {α : Type} (i : Nat) (p : List Stp) (j : Nat) (a : Addr) : Rs α → Rs α
  | .ok f e => (match plug i p j a e with
    | some e' => .ok f e'
    | none => .no)
  | _ => .no
/-- what comes whatever the address is -/
noncomputable def sameQ {α : Type} (f : Addr → Rs α) : Rs α := open Classical in if h : ∃ r, ∀ a, f a = r then Classical.choose h else .no
theorem sameQ_of {α : Type} {f : Addr → Rs α} {r : Rs α} (h : ∀ a, f a = r) : sameQ f = r := by
  have hh : ∃ r, ∀ a, f a = r := ⟨r, h⟩
  unfold sameQ
  rw [dif_pos hh, ← Classical.choose_spec hh 0, h 0]
theorem sameQ_at {α : Type} {f : Addr → Rs α} {r : Rs α} (h : sameQ f = r) (hn : r ≠ .no) (b : Addr) : f b = r := by
  unfold sameQ at h
  split at h
  · rename_i hh
    rw [← h]
    exact Classical.choose_spec hh b
  · exact absurd h.symm hn
def turnB (mt : M Bool) (me : M PyData) : M (Option PyData) := fun e => match mt e with
  | .ok true e1 => (match me e1 with
    | .ok d e2 => .ok (some d) e2
    | _ => .no)
  | .ok false e1 => .ok none e1
  | _ => .no
noncomputable def lcBL (i j : Nat) (vs : List Nat) (mt : M Bool) (me : M PyData) : Nat → Nat → M (List PyData)
  | 0, k => fun env => match (env[i]?).join with
    | some (.lst zs) => if zs.length = k then .ok [] env else .no
    | _ => .no
  | n + 1, k => fun env => match (env[i]?).join with
    | some (.lst zs) => (match zs[k]? with
      | some y => if isNode y = true ∧ i ≠ j ∧ j < env.length then
          (match sameQ fun a => plugQ i [.ix k] j a (turnB mt me ((env.set i (some (setP [.ix k] (.lst zs) (.ref a)))).set j (some y))) with
          | .ok (some d) e => (match lcBL i j vs mt me n (k + 1) (wipeE vs e) with
            | .ok ds e2 => .ok (d :: ds) e2
            | _ => .no)
          | .ok none e => lcBL i j vs mt me n (k + 1) (wipeE vs e)
          | _ => .no)
        else .no
      | none => .no)
    | _ => .no
noncomputable def M.lcBo (i j : Nat) (vs : List Nat) (mt : M Bool) (me : M PyData) : M OD := fun env => match (env[i]?).join with
  | some (.lst zs) => (match lcBL i j vs mt me zs.length 0 (wipeE vs env) with
    | .ok T eF => if T.length ≤ 16777216 then .ok (.lst (T.map .pur)) (restE vs env eF) else .no
    | _ => .no)
  | _ => .no
section
variable {K : PySem.W.Frag} {mg : Str → Option Value} {W : WX} {B vs : List Nat} {bv : Nat → V} {R P H : Hp} {Fs : Nat → List Addr} {σ : L2.St} {env : DEnv} {i j : Nat} {mt : M Bool} {me : M PyData} {Q : VK}
theorem lcB_inner {P1 H1 : Hp} {F1 : Nat → List Addr} {e1 : DEnv} {a0 : Addr} {zs0 : List OD} (hB : ∀ n ∈ vs, n ∉ B) (hjv : j ∈ vs) (hiv : i ∉ vs) (S1 : Sta K mg B bv R P1 H1 F1 σ e1) (s1 : Same P P1) (hx : e1[i]? = some (some (.lst zs0))) (hv0 : σ[i]? = some (some (.ref a0)))
    (q1 : post (match lcBL i j vs mt me zs0.length 0 (wipeE vs e1) with
      | .ok T eF => if T.length ≤ 16777216 then Rs.ok (OD.lst (T.map .pur)) (restE vs e1 eF) else .no
      | _ => .no) (OkO K mg B bv R P σ Q) (ExD K mg W B bv R P σ)) : LcIn (gName j) (tT K mg W0 (j :: i :: B) mt) (tD K mg W0 (j :: i :: B) me) vs σ Q (Itl K a0) H1 := by
  intro D hD
  have hb1 := pinV_keep S1 hv0
  generalize hbv : pinV i (.ref a0) bv = bv1 at hb1
  have hbi : bv1 i = .ref a0 := by rw [← hbv]; unfold pinV; simp
  have hB1 : ∀ n ∈ vs, n ∉ i :: B := fun n hn z => by
    rcases List.mem_cons.mp z with z | z
    · exact hiv (z ▸ hn)
    · exact hB n hn z
  have hjB : j ∉ B := hB j hjv
  have hjiB : j ∉ i :: B := hB1 j hjv
  have hij : i ≠ j := fun z => hiv (z ▸ hjv)
  cases hlc : lcBL i j vs mt me zs0.length 0 (wipeE vs e1) with
  | ex x e => rw [hlc] at q1; exact q1.elim
  | no => rw [hlc] at q1; exact q1.elim
  | ok T eF =>
    rw [hlc] at q1
    simp only at q1
    by_cases hT : T.length ≤ 16777216
    · rw [if_pos hT] at q1
      have Sw0 := (S1.wipe (vs := vs) hB).newR (u := .lst []) hD
      have hvw : (L2.wipe σ vs)[i]? = some (some (.ref a0)) := by rw [wipe_get, if_neg fun z => hiv z.1]; exact hv0
      have Sw : Sta K mg (i :: B) bv1 (upd R D (.lst [])) P1 (upd H1 D (.lst [])) (fun n => if n ∈ vs then [] else F1 n) (L2.wipe σ vs) (wipeE vs e1) := by rw [← hbv]; exact Sw0.pin1 hvw
      refine ⟨fun k m H => m = zs0.length - k ∧ k ≤ zs0.length ∧ ∃ P' Fs' e accV acc ys, Sta K mg (i :: B) bv1 (upd R D (.lst accV)) P' H Fs' (L2.wipe σ vs) e ∧ Same P1 P' ∧ RpA K P' accV acc ∧ lcBL i j vs mt me (zs0.length - k) k e = .ok ys eF ∧ acc ++ ys = T,
        ⟨_, rfl, Nat.zero_le _, P1, _, _, [], [], T, Sw, Same.refl _, .nil, hlc, rfl⟩, ?_⟩
      rintro k m H2 ⟨rfl, hk, P2, F2, e2, accV, acc, ys, S2, s2, ra, hl, ha⟩
      have hR : R D = none := S1.free hD
      have hDt := S1.nota hR
      have hvi : (L2.wipe σ vs)[i]? = some (some (.ref a0)) := hvw
      by_cases hlt : k < zs0.length
      · obtain ⟨n, hn⟩ : ∃ n, zs0.length - k = n + 1 := ⟨zs0.length - k - 1, by omega⟩
        rw [hn] at hl
        unfold lcBL at hl
        cases q2 : (e2[i]?).join with
        | none => rw [q2] at hl; cases hl
        | some x =>
          rw [q2] at hl
          have hx2 := join_some q2
          cases x with
          | lst zs =>
            simp only at hl
            cases q3 : zs[k]? with
            | none => rw [q3] at hl; cases hl
            | some y =>
              rw [q3] at hl
              simp only at hl
              split at hl
              · rename_i hc
                obtain ⟨hnode, _, hlen⟩ := hc
                have hy : getP [.ix k] (.lst zs) = some y := by simp only [getP, q3, Option.bind_some]
                obtain ⟨v, hv, ox⟩ := S2.slot i _ hx2
                rw [hvi] at hv
                cases hv
                obtain ⟨a1, F0, ws, hae, hF, hH, ol⟩ := ox.lst_inv
                cases hae
                obtain ⟨v', u, G, Fs0, hv', pl, oy, fr, Sl⟩ := S2.lend hx2 hy
                rw [hvi] at hv'
                cases hv'
                obtain ⟨b, rfl⟩ := own_ref oy hnode
                have hvk : ws[k]? = some (.ref b) := by
                  cases pl with
                  | ix hh hc t =>
                    rw [hH] at hh
                    cases hh
                    cases t
                    exact hc
                  | tx hh hc t =>
                    rw [hH] at hh
                    cases hh
                have hsq : SqL K H2 a0 ws := .inl (.inl hH)
                refine .inr ⟨⟨ws, _, hsq, hvk⟩, fun H' => ∃ P' Fs' e accV acc ys, Sta K mg (i :: B) bv1 (upd R D (.lst accV)) P' H' Fs' (L2.wipe σ vs) e ∧ Same P1 P' ∧ RpA K P' accV acc ∧ lcBL i j vs mt me n (k + 1) e = .ok ys eF ∧ acc ++ ys = T,
                  fun H' h' => ⟨n, by omega, by omega, hlt, by rw [show zs0.length - (k + 1) = n by omega]; exact h'⟩, ?_⟩
                rintro x H3 ⟨rfl, hx3⟩
                have ex := hx3 ws hsq
                rw [hvk] at ex
                cases ex
                have al : L2.wipe ((L2.wipe σ vs).set j (some (.ref b))) vs = L2.wipe σ vs := by
                  have al : Alike vs (L2.wipe σ vs) ((L2.wipe σ vs).set j (some (.ref b))) := ⟨List.length_set .., fun n hn => List.getElem?_set_ne (fun (z : j = n) => hn (z ▸ hjv))⟩
                  rw [al.wipe, L2wipe_idem]
                have S3 := (Sl b rfl).store oy fr hjiB (by rw [List.length_set]; exact hlen)
                have hσj : ((L2.wipe σ vs).set j (some (.ref b)))[j]? = some (some (.ref b)) := List.getElem?_set_self (by rw [S2.len]; exact hlen)
                have S4 := S3.pin1 hσj
                have hbv2 : ∀ n ∈ i :: B, pinV j (.ref b) bv1 n = bv1 n := fun n hn => by
                  unfold pinV
                  exact if_neg fun (e : n = j) => hjiB (e ▸ hn)
                have hpj : pinV j (.ref b) bv1 j = .ref b := by unfold pinV; simp
                have go : ∀ {σ' : L2.St} {R' P' H' : Hp} {Fs' : Nat → List Addr} {e e' : DEnv}, plug i [.ix k] j b e = some e' → Sta K mg (j :: i :: B) (pinV j (.ref b) bv1) R' P' H' Fs' σ' e → ∃ Fs2, Sta K mg (i :: B) bv1 R' P' H' Fs2 σ' e' := fun hp S' => let ⟨F, S, _⟩ := plug_sta hij S' hpj hbv2 hp; ⟨F, S⟩
                refine ⟨al, _, _, P2, _, _, S4, ?_⟩
                cases hr : (sameQ fun a => plugQ i [.ix k] j a (turnB mt me ((e2.set i (some (setP [.ix k] (.lst zs) (.ref a)))).set j (some y)))) with
                | no => rw [hr] at hl; cases hl
                | ex xn e' => rw [hr] at hl; cases hl
                | ok od e' =>
                  rw [hr] at hl
                  have hp := sameQ_at hr (fun z => nomatch z) b
                  unfold turnB at hp
                  cases et : mt ((e2.set i (some (setP [.ix k] (.lst zs) (.ref b)))).set j (some y)) with
                  | ex x e => rw [et] at hp; cases hp
                  | no => rw [et] at hp; cases hp
                  | ok bb e5 =>
                    rw [et] at hp
                    cases bb with
                    | false =>
                      intro P5 H5 F5 S5 s5
                      rw [if_neg Bool.false_ne_true]
                      simp only [plugQ] at hp
                      cases hpl : plug i [.ix k] j b e5 with
                      | none => rw [hpl] at hp; cases hp
                      | some e3 =>
                        rw [hpl] at hp
                        cases hp
                        simp only at hl
                        obtain ⟨Fx, S6⟩ := go hpl S5
                        have S7 := S6.wipe (vs := vs) hB1
                        rw [al] at S7
                        exact ⟨P5, _, _, accV, acc, ys, S7, s2.trans s5, ra.mono s5, hl, ha⟩
                    | true =>
                      intro P5 H5 F5 S5 s5
                      rw [if_pos rfl]
                      simp only at hp
                      refine ⟨_, _, P5, F5, e5, S5, ?_⟩
                      cases ee : me e5 with
                      | ex x e => rw [ee] at hp; cases hp
                      | no => rw [ee] at hp; cases hp
                      | ok z e6 =>
                        rw [ee] at hp
                        simp only [plugQ] at hp
                        cases hpl : plug i [.ix k] j b e6 with
                        | none => rw [hpl] at hp; cases hp
                        | some e3 =>
                          rw [hpl] at hp
                          cases hp
                          simp only at hl
                          cases er : lcBL i j vs mt me n (k + 1) (wipeE vs e') with
                          | ex x e => rw [er] at hl; cases hl
                          | no => rw [er] at hl; cases hl
                          | ok ys' e7 =>
                            rw [er] at hl
                            simp only [Rs.ok.injEq] at hl
                            obtain ⟨rfl, rfl⟩ := hl
                            intro v P6 H6 F6 S6 s6 rv
                            have hlen := ra.length
                            refine ⟨accV, S6.rh D _ upd_same hDt, ?_, ?_⟩
                            · have : acc.length + (ys'.length + 1) = T.length := by rw [← ha]; simp
                              show accV.length < sizeLine
                              rw [sizeLine_eq]; omega
                            · obtain ⟨Fx, S7⟩ := go hpl S6
                              have S8 := (S7.write hDt (u' := .lst (accV ++ [v]))).wipe (vs := vs) hB1
                              rw [al] at S8
                              have s26 := s5.trans s6
                              exact ⟨P6, _, _, accV ++ [v], acc ++ [z], ys', S8, s2.trans s26, (ra.mono s26).append (.cons rv .nil), er, by rw [← ha]; simp⟩
              · cases hl
          | _ => cases hl
      · have e : k = zs0.length := by omega
        subst e
        rw [Nat.sub_self] at hl
        unfold lcBL at hl
        cases q2 : (e2[i]?).join with
        | none => rw [q2] at hl; cases hl
        | some x =>
          rw [q2] at hl
          have hx2 := join_some q2
          cases x with
          | lst zs =>
            simp only at hl
            split at hl
            · rename_i hzl
              simp only [Rs.ok.injEq] at hl
              obtain ⟨rfl, rfl⟩ := hl
              rw [List.append_nil] at ha
              subst ha
              obtain ⟨v, hv, ox⟩ := S2.slot i _ hx2
              rw [hvi] at hv
              cases hv
              obtain ⟨a1, F0, ws, hae, hF, hH, ol⟩ := ox.lst_inv
              cases hae
              have hwl : ws.length = zs.length := ol.length
              have S3 := (S2.pin0 hb1).sub (R := R) (fun a o h => by
                have : a ≠ D := fun z => by rw [z, hR] at h; cases h
                rw [upd_ne this]; exact h) S1.hasT
              have S4 := S1.unwipe S3 s2 hB
              refine .inl ⟨⟨ws, .inl (.inl hH), by omega⟩, q1 (.ref D) P2 H2 _ [D] S4 (s1.trans s2) (.lst (S2.rh D _ upd_same hDt) (owl_pur ra)) ⟨by simp, fun a h => ?_, fun a h => ?_, fun a h i z => ?_⟩⟩
              · simp at h; subst h; exact hR
              · simp at h; subst h; exact S2.rp a (by rw [upd_same]; simp)
              · simp at h; subst h
                split at z
                · cases z
                · have y := S2.fr i a z
                  rw [upd_same] at y; cases y
            · cases hl
          | _ => cases hl
    · rw [if_neg hT] at q1; exact q1.elim
end
section
variable {X : Cx} {W : WX} {B : List Nat} {elt : Expr} {ifs : List Expr} {scope : Scope} {mt : M Bool} {me : M PyData} {p py pos : Pos} {x y : Str}
theorem gn_name (j : Nat) {y : Str} {py : Pos} (hN : X.N.Nodup) (hj : X.N[j]? = some y := by rfl) (hx : Loc X.env.scope y := by first | exact Or.inl rfl | exact Or.inr rfl)
    (hf : X.fn y = true ∨ X.env.scope.names.lookup y = some .local := by first | exact .inl rfl | exact .inr rfl | assumption) : PG X (.Name y py) (gName j) := pg_name hN hj hx hf
/-- an element that is never told -/
theorem ed_never : ED X W B elt (fun _ => .no) := ⟨fun pins s σ H Q I ⟨bv, R, P, Fs, env, S, q⟩ => q.elim⟩
theorem eo_lcBo (i j : Nat) (own : List (Str × Nat)) (hc : X.calm = true) (hN : X.N.Nodup) (ok : BlkOk X.N X.env.scope scope own) (hB : ∀ n ∈ own.map (·.2), n ∉ B) (hjv : j ∈ own.map (·.2)) (hiv : i ∉ own.map (·.2))
    (hg : ∀ s H C cl fp, PG (BX X s H scope C cl fp) (.Name y py) (gName j)) (ht : ∀ s H C cl fp, TDs (BX X s H scope C cl fp) W0 (j :: i :: B) ifs mt) (he : ∀ s H C cl fp, ED (BX X s H scope C cl fp) W0 (j :: i :: B) elt me)
    (hNi : X.N[i]? = some x := by rfl) (hv : Vis X.env.scope x := by first | exact Or.inl rfl | exact Or.inr (Or.inl rfl) | exact Or.inr (Or.inr rfl)) (hd : (x == ("__debug__" : Str)) = false := by decide) (hcd : (x == ("__classdict__" : Str)) = false := by decide)
    (hs2 : ∀ z, foldedSetIterable (.Name x p) X.env z = pure z := by intro _; rfl) :
    EO X W B (.ListComp elt [⟨.Name y py, .Name x p, ifs, 0⟩] scope pos) (M.lcBo i j (own.map (·.2)) mt me) :=
  PE_mono (pe_lc hc hN (pi_any (pe_var hNi hv hd hcd)) ok hg ht he hs2) fun σ H Q ⟨bv, R, P, Fs, env, S, q⟩ => by
    unfold M.lcBo at q
    cases h1 : (env[i]?).join with
    | none => rw [h1] at q; exact q.elim
    | some z =>
      rw [h1] at q
      have hx := join_some h1
      cases z with
      | lst zs =>
        simp only at q
        obtain ⟨v, hv, ox⟩ := S.slot i _ hx
        obtain ⟨a, F0, ws, rfl, hF, hH, ol⟩ := ox.lst_inv
        exact ⟨.ref a, hv, .inl ⟨a, rfl, ⟨ws, .inl (.inl hH)⟩, lcB_inner hB hjv hiv S (Same.refl _) hx hv q⟩⟩
      | _ => exact q.elim
end
theorem hs_turnB {mt : M Bool} {me : M PyData} {env : DEnv} {Q : Option PyData → DEnv → Prop} (h : Hs (mt env) fun b e => if b = true then Hs (me e) fun d e2 => Q (some d) e2 else Q none e) : Hs (turnB mt me env) Q := by
  obtain ⟨b, e, h1, h2⟩ := h
  unfold turnB
  rw [h1]
  cases b with
  | true =>
    rw [if_pos rfl] at h2
    obtain ⟨d, e2, h3, h4⟩ := h2
    simp only [h3]
    exact Hs.mk h4
  | false =>
    rw [if_neg Bool.false_ne_true] at h2
    exact Hs.mk h2
theorem hs_lcBL {i j : Nat} {vs : List Nat} {mt : M Bool} {me : M PyData} {Q : List PyData → DEnv → Prop} (I : Nat → List OD → List PyData → DEnv → Prop) {n : Nat} (hI : ∀ k zs acc e, I k zs acc e → sl e i = some (.lst zs) ∧ zs.length = n ∧ i ≠ j ∧ j < e.length)
    (step : ∀ k zs acc e y, k < n → I k zs acc e → zs[k]? = some y → isNode y = true ∧ ∃ zs' e' o, I (k + 1) zs' (acc ++ o.toList) (wipeE vs e') ∧ ∀ a, Hs (turnB mt me ((e.set i (some (.lst (zs.set k (.ref a))))).set j (some y))) fun r e2 => r = o ∧ plug i [.ix k] j a e2 = some e')
    (done : ∀ zs acc e, I n zs acc e → Q acc e) : ∀ (m k : Nat) (zs : List OD) (acc : List PyData) (e : DEnv), k + m = n → I k zs acc e → Hs (lcBL i j vs mt me m k e) fun T e' => Q (acc ++ T) e'
  | 0, k, zs, acc, e, hk, h => by
    obtain ⟨h1, h2, _⟩ := hI k zs acc e h
    have e1 : k = n := by omega
    subst e1
    unfold lcBL
    rw [sl_some h1]
    simp only [Option.join_some, h2, if_true]
    exact Hs.mk (by rw [List.append_nil]; exact done zs acc e h)
  | m + 1, k, zs, acc, e, hk, h => by
    obtain ⟨h1, h2, h3, h4⟩ := hI k zs acc e h
    have hlt : k < zs.length := by omega
    obtain ⟨hn, zs', e', o, h5, h6⟩ := step k zs acc e zs[k] (by omega) h (List.getElem?_eq_getElem hlt)
    unfold lcBL
    rw [sl_some h1]
    simp only [Option.join_some, List.getElem?_eq_getElem hlt]
    rw [if_pos ⟨hn, h3, h4⟩]
    have es : ∀ a, setP [.ix k] (.lst zs) (.ref a) = .lst (zs.set k (.ref a)) := fun a => by simp only [setP, List.getElem?_eq_getElem hlt]
    rw [sameQ_of (r := .ok o e') fun a => ?_]
    · have ih := hs_lcBL I hI step done m (k + 1) zs' (acc ++ o.toList) (wipeE vs e') (by omega) h5
      cases o with
      | none =>
        simp only
        rw [Option.toList_none, List.append_nil] at ih
        exact ih
      | some d =>
        obtain ⟨T, e3, k1, k2⟩ := ih
        simp only [k1]
        exact Hs.mk (by simpa using k2)
    · obtain ⟨f, e2, k1, rfl, k2⟩ := h6 a
      rw [es, k1]
      simp only [plugQ, k2]
theorem hs_lcBo {i j : Nat} {vs : List Nat} {mt : M Bool} {me : M PyData} {Q : OD → DEnv → Prop} {zs0 : List OD} {env : DEnv} (I : Nat → List OD → List PyData → DEnv → Prop) (hx : sl env i = some (.lst zs0)) (hI : ∀ k zs acc e, I k zs acc e → sl e i = some (.lst zs) ∧ zs.length = zs0.length ∧ i ≠ j ∧ j < e.length)
    (step : ∀ k zs acc e y, k < zs0.length → I k zs acc e → zs[k]? = some y → isNode y = true ∧ ∃ zs' e' o, I (k + 1) zs' (acc ++ o.toList) (wipeE vs e') ∧ ∀ a, Hs (turnB mt me ((e.set i (some (.lst (zs.set k (.ref a))))).set j (some y))) fun r e2 => r = o ∧ plug i [.ix k] j a e2 = some e')
    (done : ∀ zs acc e, I zs0.length zs acc e → acc.length ≤ 16777216 ∧ Q (.lst (acc.map .pur)) (restE vs env e)) (h : I 0 zs0 [] (wipeE vs env)) : Hs (M.lcBo i j vs mt me env) Q := by
  unfold M.lcBo
  rw [sl_some hx]
  simp only [Option.join_some]
  obtain ⟨T, e3, k1, k2⟩ := hs_lcBL (Q := fun acc e => acc.length ≤ 16777216 ∧ Q (.lst (acc.map .pur)) (restE vs env e)) I hI step done zs0.length 0 zs0 [] (wipeE vs env) (by omega) h
  rw [List.nil_append] at k2
  rw [k1]
  simp only
  rw [if_pos k2.1]
  exact Hs.mk k2.2
end DL

set_option maxHeartbeats 2000000
/-! DL155: [e for .. in ..], e an own tree (C(..)). -/
namespace DL
open PySem PySem.Spec PyProof.Rows L2
def lcOL (g : TG') (vs : List Nat) (tt : M Bool) (el : M OD) : List PyData → M (List OD)
  | [] => fun e => .ok [] e
  | d :: ds => fun e => match g d e with
    | none => .no
    | some e1 => match tt e1 with
      | .ok true e2 => (match el e2 with
        | .ok y e3 => (match lcOL g vs tt el ds (wipeE vs e3) with
          | .ok ys e4 => .ok (y :: ys) e4
          | _ => .no)
        | _ => .no)
      | .ok false e2 => lcOL g vs tt el ds (wipeE vs e2)
      | _ => .no
def M.lcA (it : M (List PyData)) (g : TG') (vs : List Nat) (tt : M Bool) (el : M OD) : M OD := M.bind it fun ds env => match lcOL g vs tt el ds (wipeE vs env) with
  | .ok ys e => if ys.length ≤ 16777216 then .ok (.lst ys) (restE vs env e) else .no
  | _ => .no
section
variable {K : PySem.W.Frag} {mg : Str → Option Value} {W : WX} {B vs : List Nat} {m : M (List PyData)} {g : TG'} {mt : M Bool} {mo : M OD} {σ : L2.St} {H : Hp} {Q : VK}
theorem lcA_inner {bv : Nat → V} {R P P1 H1 : Hp} {F1 : Nat → List Addr} {e1 : DEnv} {ds : List PyData} {J : It} (hB : ∀ i ∈ vs, i ∉ B) (S1 : Sta K mg B bv R P1 H1 F1 σ e1) (s1 : Same P P1) (fd : Fd K P1 J ds)
    (q1 : post (match lcOL g vs mt mo ds (wipeE vs e1) with
      | .ok ys e => if ys.length ≤ 16777216 then Rs.ok (OD.lst ys) (restE vs e1 e) else .no
      | _ => .no) (OkO K mg B bv R P σ Q) (ExD K mg W B bv R P σ)) : LcIn (tV K mg B vs g) (tT K mg W0 B mt) (tO K mg W0 B mo) vs σ Q J H1 := by
  intro D hD
  cases hlc : lcOL g vs mt mo ds (wipeE vs e1) with
  | ex x e => rw [hlc] at q1; exact q1.elim
  | no => rw [hlc] at q1; exact q1.elim
  | ok T eF =>
    rw [hlc] at q1
    simp only at q1
    by_cases hT : T.length ≤ 16777216
    · rw [if_pos hT] at q1
      have Sw := (S1.wipe (vs := vs) hB).newR (u := .lst []) hD
      have hR : R D = none := S1.free hD
      have hDt := S1.nota hR
      refine ⟨fun i m H => m = ds.length - i ∧ i ≤ ds.length ∧ ∃ Rk P' Fs' e accV acc ys G, Sta K mg B bv (upd Rk D (.lst accV)) P' H Fs' (L2.wipe σ vs) e ∧ Same P1 P' ∧ Same R Rk ∧ OwL K mg P' H G accV acc ∧ G.Nodup ∧ (∀ a ∈ G, R a = none ∧ a ≠ D ∧ Rk a = H a ∧ Rk a ≠ none) ∧ lcOL g vs mt mo (ds.drop i) e = .ok ys eF ∧ acc ++ ys = T,
        ⟨_, rfl, Nat.zero_le _, R, P1, _, _, [], [], T, [], Sw, Same.refl _, Same.refl _, .nil, .nil, fun a h => (nomatch h), by rw [List.drop_zero]; exact hlc, rfl⟩, ?_⟩
      rintro i m H2 ⟨rfl, hi, Rk, P2, F2, e2, accV, acc, ys, G, S2, s2, sR, ow, nd, hG, hl, ha⟩
      obtain ⟨f1, f2⟩ := fd P2 H2 s2 S2.ph
      by_cases hlt : i < ds.length
      · obtain ⟨go, y⟩ := f1 i ds[i] (List.getElem?_eq_getElem hlt)
        refine .inr ⟨go, fun H' => ∃ Rk P' Fs' e accV acc ys G, Sta K mg B bv (upd Rk D (.lst accV)) P' H' Fs' (L2.wipe σ vs) e ∧ Same P1 P' ∧ Same R Rk ∧ OwL K mg P' H' G accV acc ∧ G.Nodup ∧ (∀ a ∈ G, R a = none ∧ a ≠ D ∧ Rk a = H' a ∧ Rk a ≠ none) ∧ lcOL g vs mt mo (ds.drop (i + 1)) e = .ok ys eF ∧ acc ++ ys = T,
          fun H' h' => ⟨_, by omega, rfl, hlt, h'⟩, fun x H3 hx => ?_⟩
        obtain ⟨P3, ex, rx⟩ := y x H3 hx
        have S3 := S2.ext ex
        have kept : ∀ {P' H' : Hp} {Fs' : Nat → List Addr} {σ' : L2.St} {e : DEnv}, Sta K mg B bv (upd Rk D (.lst accV)) P' H' Fs' σ' e → ∀ a ∈ G, H' a = H2 a := fun S' a ha => by
          obtain ⟨g1, g2, g3, g4⟩ := hG a ha
          cases hk : Rk a with
          | none => exact absurd hk g4
          | some o =>
            have := S'.rh a o (by rw [upd_ne g2]; exact hk) (S1.nota g1)
            rw [this, ← g3, hk]
        rw [List.drop_eq_getElem_cons hlt] at hl
        simp only [lcOL] at hl
        cases eg : g ds[i] e2 with
        | none => rw [eg] at hl; cases hl
        | some e3 =>
          rw [eg] at hl
          simp only at hl
          refine ⟨bv, _, P3, F2, e2, _, e3, S3, rx, eg, fun σ4 P4 H4 F4 S4 s4 al => ⟨by rw [al.wipe, L2wipe_idem], bv, _, P4, F4, e3, S4, ?_⟩⟩
          have s24 : Same P2 P4 := ex.pp.trans s4
          cases et : mt e3 with
          | ex x e => rw [et] at hl; cases hl
          | no => rw [et] at hl; cases hl
          | ok b e5 =>
            rw [et] at hl
            cases b with
            | false =>
              intro P5 H5 F5 S5 s5
              rw [if_neg Bool.false_ne_true]
              have S6 := S5.wipe (vs := vs) hB
              rw [al.wipe, L2wipe_idem] at S6
              exact ⟨Rk, P5, _, _, accV, acc, ys, G, S6, s2.trans (s24.trans s5), sR, ow.keep (s24.trans s5) (fun a ha o e => by rw [kept S5 a ha]; exact e), nd, fun a ha => by rw [kept S5 a ha]; exact hG a ha, hl, ha⟩
            | true =>
              intro P5 H5 F5 S5 s5
              rw [if_pos rfl]
              simp only at hl
              refine ⟨bv, _, P5, F5, e5, S5, ?_⟩
              cases ee : mo e5 with
              | ex x e => rw [ee] at hl; cases hl
              | no => rw [ee] at hl; cases hl
              | ok z e6 =>
                rw [ee] at hl
                simp only at hl
                cases er : lcOL g vs mt mo (ds.drop (i + 1)) (wipeE vs e6) with
                | ex x e => rw [er] at hl; cases hl
                | no => rw [er] at hl; cases hl
                | ok ys' e7 =>
                  rw [er] at hl
                  simp only [Rs.ok.injEq] at hl
                  obtain ⟨rfl, rfl⟩ := hl
                  intro v P6 H6 F6 G2 S6 s6 oz fz
                  have hlen := ow.length
                  refine ⟨accV, S6.rh D _ upd_same hDt, ?_, ?_⟩
                  · have : acc.length + (ys'.length + 1) = T.length := by rw [← ha]; simp
                    show accV.length < sizeLine
                    rw [sizeLine_eq]; omega
                  · have hDG2 : D ∉ G2 := fun h => by
                      have := fz.r D h
                      rw [upd_same] at this; cases this
                    have f7 : Free (upd Rk D (.lst (accV ++ [v]))) P6 F6 G2 := ⟨fz.nd, fun a h => by
                      have := fz.r a h
                      have ne : a ≠ D := fun z => hDG2 (z ▸ h)
                      rw [upd_ne ne] at this ⊢; exact this, fz.p, fz.f⟩
                    have oz7 : Ow K mg P6 (upd H6 D (.lst (accV ++ [v]))) G2 v z := oz.keep (Same.refl _) fun a h o e => by rw [upd_ne fun (z : a = D) => hDG2 (z ▸ h)]; exact e
                    have S7 := (S6.write hDt (u' := .lst (accV ++ [v]))).push f7 oz7.notup
                    have eR : joinR (upd Rk D (.lst (accV ++ [v]))) (upd H6 D (.lst (accV ++ [v]))) G2 = upd (joinR Rk (upd H6 D (.lst (accV ++ [v]))) G2) D (.lst (accV ++ [v])) := by
                      funext a
                      by_cases h : a = D
                      · subst h; rw [joinR_out hDG2, upd_same, upd_same]
                      · rw [upd_ne h]
                        by_cases h2 : a ∈ G2
                        · rw [joinR_in h2, joinR_in h2]
                        · rw [joinR_out h2, joinR_out h2, upd_ne h]
                    rw [eR] at S7
                    have S8 := S7.wipe (vs := vs) hB
                    rw [al.wipe, L2wipe_idem] at S8
                    have s26 := s24.trans (s5.trans s6)
                    have dis : ∀ a ∈ G, a ∉ G2 := fun a ha h2 => by
                      have := fz.r a h2
                      rw [upd_ne (hG a ha).2.1] at this
                      exact (hG a ha).2.2.2 this
                    have ow6 : OwL K mg P6 (upd H6 D (.lst (accV ++ [v]))) G accV acc := ow.keep s26 fun a ha o e => by
                      rw [upd_ne (hG a ha).2.1, kept S6 a ha]; exact e
                    refine ⟨_, P6, _, _, accV ++ [v], acc ++ [z], ys', G ++ G2, S8, s2.trans s26, fun a o h => ?_, ow6.snoc oz7, List.nodup_append.mpr ⟨nd, fz.nd, fun a h b h2 e => dis a h (e ▸ h2)⟩, fun a h => ?_, er, by rw [← ha]; simp⟩
                    · rw [joinR_out fun h2 => by
                        have r0 := f7.r a h2
                        have ne : a ≠ D := fun z => hDG2 (z ▸ h2)
                        rw [upd_ne ne, sR a o h] at r0
                        cases r0]
                      exact sR a o h
                    · rcases List.mem_append.mp h with h | h
                      · obtain ⟨g1, g2, g3, g4⟩ := hG a h
                        refine ⟨g1, g2, ?_, ?_⟩
                        · rw [joinR_out (dis a h), upd_ne g2, kept S6 a h]; exact g3
                        · rw [joinR_out (dis a h)]; exact g4
                      · have ne : a ≠ D := fun z => hDG2 (z ▸ h)
                        have r0 := f7.r a h
                        rw [upd_ne ne] at r0
                        obtain ⟨o, ho⟩ := oz7.there a h
                        refine ⟨?_, ne, joinR_in h, by rw [joinR_in h, ho]; simp⟩
                        cases hra : R a with
                        | none => rfl
                        | some o2 => rw [sR a o2 hra] at r0; cases r0
      · have e : i = ds.length := by omega
        subst e
        rw [List.drop_length] at hl
        simp only [lcOL, Rs.ok.injEq] at hl
        obtain ⟨rfl, rfl⟩ := hl
        rw [List.append_nil] at ha
        subst ha
        have S3 := S2.sub (R := R) (fun a o h => by
          have : a ≠ D := fun z => by rw [z, hR] at h; cases h
          rw [upd_ne this]; exact sR a o h) S1.hasT
        have S4 := S1.unwipe S3 s2 hB
        have fsD : ∀ a, (upd Rk D (.lst accV)) a ≠ none → ∀ n, a ∉ F2 n := fun a h n z => h (S2.fr n a z)
        have inG : ∀ a ∈ D :: G, (upd Rk D (.lst accV)) a ≠ none := fun a h => by
          rcases List.mem_cons.mp h with rfl | h
          · rw [upd_same]; simp
          · rw [upd_ne (hG a h).2.1]; exact (hG a h).2.2.2
        refine .inl ⟨f2, q1 (.ref D) P2 H2 _ (D :: G) S4 (s1.trans s2) (.lst (S2.rh D _ upd_same hDt) ow) ⟨List.nodup_cons.mpr ⟨fun h => (hG D h).2.1 rfl, nd⟩, fun a h => ?_, fun a h => S2.rp a (inG a h), fun a h n z => ?_⟩⟩
        · rcases List.mem_cons.mp h with rfl | h
          · exact hR
          · exact (hG a h).1
        · split at z
          · cases z
          · exact fsD a (inG a h) n z
    · rw [if_neg hT] at q1; exact q1.elim
theorem lcA_law (hB : ∀ i ∈ vs, i ∉ B) (h : tO K mg W B (M.lcA m g vs mt mo) σ H Q) : tLc (tI K mg W B m) (tV K mg B vs g) (tT K mg W0 B mt) (tO K mg W0 B mo) vs σ H Q := by
  obtain ⟨bv, R, P, Fs, env, S, q⟩ := h
  exact ⟨bv, R, P, Fs, env, S, bindD q (fun ds e1 q1 J P1 H1 F1 S1 s1 fd => lcA_inner hB S1 s1 fd q1) fun _ _ q => q⟩
end
section
variable {X : Cx} {W : WX} {B : List Nat} {elt tg iter : Expr} {ifs : List Expr} {scope : Scope} {pos : Pos} {m : M (List PyData)} {g : TG'} {mt : M Bool} {mo : M OD}
end
theorem hs_lcA {it : M (List PyData)} {g : TG'} {vs : List Nat} {tt : M Bool} {el : M OD} {env : DEnv} {Q : OD → DEnv → Prop} (h : Hs (it env) fun ds e => Hs (lcOL g vs tt el ds (wipeE vs e)) fun ys e2 => ys.length ≤ 16777216 ∧ Q (.lst ys) (restE vs e e2)) : Hs (M.lcA it g vs tt el env) Q := by
  unfold M.lcA
  rw [hs_bind]
  refine h.mono ?_
  rintro ds e ⟨ys, e2, h1, h2, h3⟩
  simp only [h1]
  rw [if_pos h2]
  exact Hs.mk h3
theorem hs_lcO0 {g : TG'} {vs : List Nat} {tt : M Bool} {el : M OD} {e : DEnv} {Q : List OD → DEnv → Prop} (q : Q [] e) : Hs (lcOL g vs tt el [] e) Q := Hs.mk q
theorem hs_lcO1 {g : TG'} {vs : List Nat} {el : M OD} {d : PyData} {ds : List PyData} {e e1 : DEnv} {Q : List OD → DEnv → Prop} (hg : g d e = some e1)
    (h : Hs (el e1) fun y e3 => Hs (lcOL g vs (M.pure true) el ds (wipeE vs e3)) fun ys e4 => Q (y :: ys) e4) : Hs (lcOL g vs (M.pure true) el (d :: ds) e) Q := by
  obtain ⟨y, e3, h1, ys, e4, h3, h4⟩ := h
  have e : lcOL g vs (M.pure true) el (d :: ds) e = .ok (y :: ys) e4 := by
    have e0 : M.pure true e1 = .ok true e1 := rfl
    simp only [lcOL, hg, e0, h1, h3]
  rw [e]
  exact Hs.mk h4
end DL

set_option maxHeartbeats 2000000
/-! DL156: xs[-k] as a place; f(place, e, ..) with the place by reference; an item of a list that a call gives. -/
namespace DL
open PySem PySem.Spec PyProof.Rows L2
def ppN (i : Nat) (pp : DEnv → Option (List Stp)) (k : Nat) : DEnv → Option (List Stp) := fun env => ((env[i]?).join).bind fun x => (pp env).bind fun p => match getP p x with
  | some (.lst zs) => if 1 ≤ k ∧ k ≤ zs.length then some (p ++ [.ix (zs.length - k)]) else none
  | _ => none
section
variable {X : Cx} {W : WX} {B : List Nat} {i : Nat} {a : Expr} {pp : DEnv → Option (List Stp)} {pos p1 p2 : Pos}
theorem qd_negi {k : Int} {kk : Nat} : QD X B (.UnaryOp .USub (.Constant (.int k) kk p1) p2) (fun _ => some (.int (-k))) :=
  PE_mono (pe_un un_neg pe_int) fun σ H Q ⟨bv, R, P, Fs, env, d, S, q, key⟩ => by
    cases q
    exact ⟨k, rfl, key _ (.int _)⟩
theorem pl_ixN {k : Nat} {kk : Nat} (he : PL X B i a pp) (hs : PlainIx (.UnaryOp .USub (.Constant (.int (k : Int)) kk p1) p2) := by intro _ _; rfl) : PL X B i (.Subscript a (.UnaryOp .USub (.Constant (.int (k : Int)) kk p1) p2) pos) (ppN i pp k) :=
  PE_mono (pe_ix ix_seq he qd_negi hs) fun σ H Q ⟨bv, R, P, Fs, env, p, x, y, S, hx, hp, hy, key⟩ => by
    unfold ppN at hp
    rw [hx] at hp
    simp only [Option.join_some, Option.bind_some] at hp
    obtain ⟨p0, hp0, hp⟩ := Option.bind_eq_some_iff.mp hp
    cases hz : getP p0 x with
    | none => rw [hz] at hp; cases hp
    | some z =>
      rw [hz] at hp
      cases z with
      | lst zs =>
        simp only at hp
        split at hp
        · rename_i hk
          cases hp
          rw [getP_app, hz, Option.bind_some] at hy
          refine ⟨bv, R, P, Fs, env, p0, x, _, S, hx, hp0, hz, fun v u hv hpl => ⟨bv, R, P, Fs, env, _, S, rfl, fun w rw => ?_⟩⟩
          obtain ⟨v', u', G, Rv, hv', pl', _, Sv, _⟩ := S.focus hx hz
          rw [hv] at hv'
          cases hv'
          have eu := pl'.det hpl
          subst eu
          obtain ⟨w0, hw0, oz⟩ := Sv.slot 0 _ rfl
          cases hw0
          obtain ⟨xs, (e | e), hxk⟩ := get_ix hy
          · cases e
            generalize (if (0 : Nat) = 0 then G else []) = G0 at oz
            cases oz with
            | @lst b F0 vs _ h t =>
              obtain ⟨_, _, _, c, _, hc, _, _⟩ := OwL.atp t hxk
              have hlt := (List.getElem?_eq_some_iff.mp hc).1
              have hvl : vs.length = zs.length := t.length
              cases rw
              refine .inl ⟨b, vs, -(k : Int), c, rfl, rfl, .inl (.inl h), ?_, key v c hv (hpl.app (.ix h hc .nil))⟩
              show (ixN vs.length (-(k : Int))).bind (fun j => vs[j]?) = some c
              unfold ixN
              rw [if_neg (by omega), if_pos (by omega)]
              show vs[(-(k : Int) + (vs.length : Int)).toNat]? = some c
              rw [show (-(k : Int) + (vs.length : Int)).toNat = zs.length - k by omega]
              exact hc
          · cases e
        · cases hp
      | _ => cases hp
end
def M.callP (i : Nat) (pp : DEnv → Option (List Stp)) (f : M OD) (l : M (List PyData)) : M OD := fun env => match (env[i]?).join, pp env with
  | some x, some p => (match getP p x with
    | some y => M.bind (M.hid i l) (fun ds => methB i p x y f ds) env
    | none => .no)
  | _, _ => .no
section
variable {X : Cx} {W : WX} {B : List Nat} {j k i : Nat} {f : Addr} {fd : FuncData} {ps : List Str} {m : M OD} {ml : M (List PyData)} {pp : DEnv → Option (List Stp)} {x : Str} {o e : Expr} {es : List Expr} {p pos : Pos}
theorem eo_callP (g : Gd X) (F : FnG X.prog X.w X.K X.mg X.base k f fd ps [0] m) (hr : Room k X.A) (tk : Takes X W) (hg : Gl X x) (hm : X.mg x = some (.ref f)) (hk : PySem.W.keepIn X.K (.ref f) = true) (hb : Binds X.K fd ps [])
    (ho : PL X B i o pp) (ha : AD X W B es ml) (hdb : (x == ("__debug__" : Str)) = false := by decide) (he : starEach (o :: es) X.env = (false, eval o X.env) :: starEach es X.env := by rfl) (hpl : (backTo pos (starEach es X.env)).any (·.1) = false := by rfl) :
    EO X W B (.Call (.Name x p) (o :: es) [] pos) (M.callP i pp m ml) := ⟨fun pins s σ H Q I ⟨bv, R, P, Fs, env, S, q⟩ => by
  unfold M.callP at q
  cases h1 : (env[i]?).join with
  | none => rw [h1] at q; exact q.elim
  | some y0 =>
    rw [h1] at q
    have hx := join_some h1
    cases h2 : pp env with
    | none => rw [h2] at q; exact q.elim
    | some pt =>
      rw [h2] at q
      simp only at q
      cases hy : getP pt y0 with
      | none => rw [hy] at q; exact q.elim
      | some y =>
        rw [hy] at q
        simp only at q
        refine wpAny_Call_Name_kw (ld_glob I hg hm (PySem.W.callWith_K (h₀ := X.base) I.ok.mod.kin hk (thn ((pa_cons ho ha he).run pos pins s σ H (fun vs H1 => spF X.K X.mg [0] m vs H1 Q (fun cls d H' => W cls d σ H') ∧ vs.length = ps.length) I
          ⟨bv, R, P, Fs, env, pt, y0, y, S, hx, h2, hy, fun v u hv hpv => ⟨bv, joinR R H (Fs i), P, _, env.set i none, S.hide i, hid_post hx q fun ds e1 he1 q1 vs P2 H2 F2 S2 s2 rw => by
            have S3 := S.show_ hx s2 S2 he1
            have hx3 : (e1.set i (some y0))[i]? = some (some y0) := List.getElem?_set_self (List.getElem?_eq_some_iff.mp he1).1
            obtain ⟨pl3, _, _⟩ := S.stays hx hy hv hpv s2 S2
            exact meth_sp S3 hx3 hy hv pl3 s2 rw F.len q1⟩⟩) fun us s1 ⟨vs, H1, I1, r, q1, hl⟩ => ⟨I1.kIn, ?_⟩) he hpl) hdb)
        have hb' := hb s1 us I1.kIn (by rw [List.append_nil, ← r.length, hl])
        rw [List.append_nil] at hb'
        exact run_c (ks := []) (kw := []) g F hr tk I1 hb' r q1⟩
end
theorem hs_callP {i : Nat} {pp : DEnv → Option (List Stp)} {f : M OD} {l : M (List PyData)} {env env0 : DEnv} {x y : OD} {p : List Stp} {Q : OD → DEnv → Prop} (hx : sl env i = some x) (hp : pp env = some p) (hy : getP p x = some y) (h0 : env.set i none = env0)
    (h : Hs (l env0) fun ds e1 => e1[i]? = some none ∧ Hs (f (some y :: ds.map fun d => some (.pur d))) fun r outs => ∃ y' rest, outs = some y' :: rest ∧ Q r ((e1.set i (some x)).set i (some (setP p x y')))) : Hs (M.callP i pp f l env) Q := by
  unfold M.callP
  rw [sl_some hx, hp]
  simp only [Option.join_some, hy]
  rw [hs_bind]
  refine hs_hid hx h0 (h.mono ?_)
  rintro ds e1 ⟨h1, r, outs, h2, y', rest, h3, h4⟩
  subst h3
  refine ⟨h1, ?_⟩
  unfold methB
  rw [h2]
  exact Hs.mk h4
end DL

set_option maxHeartbeats 2000000
/-! DL157: e[0], e a list of own trees that nobody else has. -/
namespace DL
open PySem PySem.Spec PyProof.Rows L2
def M.pick0 (mo : M OD) : M OD := M.bind mo fun o => match o with
  | .lst (y :: _) => M.pure y
  | _ => M.fail
section
variable {X : Cx} {W : WX} {B : List Nat} {e : Expr} {mo : M OD} {pos p1 : Pos} {kk : Nat}
theorem eo_pick0 (he : EO X W B e mo) (hs : PlainIx (.Constant (.int 0) kk p1) := by intro _ _; rfl) : EO X W B (.Subscript e (.Constant (.int 0) kk p1) pos) (M.pick0 mo) :=
  PE_mono (pe_ix ix_seq he (qd_int (B := B)) hs) fun σ H Q ⟨bv, R, P, Fs, env, S, q⟩ => tO_bind (Same.refl _) S q fun o e1 v P1 H1 F1 G S1 s1 o1 f1 h1 => by
    cases o with
    | lst zs =>
      cases zs with
      | nil => exact h1.elim
      | cons y zs =>
        simp only at h1
        cases o1 with
        | @lst a F0 vs _ h t =>
          cases t with
          | @cons Fa Fb w u _ _ ow ot =>
            refine ⟨bv, R, P1, F1, e1, _, S1, rfl, fun w2 rw => ?_⟩
            cases rw
            refine .inl ⟨a, _, 0, w, rfl, rfl, .inl (.inl h), by unfold atI ixN; rw [if_pos (by decide), if_pos (by rw [List.length_cons]; omega)]; rfl, h1 w P1 H1 F1 Fa S1 s1 ow ?_⟩
            have sub : ∀ b ∈ Fa, b ∈ a :: (Fa ++ Fb) := fun b hb => List.mem_cons_of_mem _ (List.mem_append_left _ hb)
            exact ⟨(List.nodup_append.mp (List.nodup_cons.mp f1.nd).2).1, fun b hb => f1.r b (sub b hb), fun b hb => f1.p b (sub b hb), fun b hb => f1.f b (sub b hb)⟩
    | _ => exact h1.elim
theorem hs_pick0 {env : DEnv} {Q : OD → DEnv → Prop} (h : Hs (mo env) fun o e => ∃ y zs, o = .lst (y :: zs) ∧ Q y e) : Hs (M.pick0 mo env) Q := by
  unfold M.pick0
  rw [hs_bind]
  refine h.mono ?_
  rintro o e ⟨y, zs, rfl, q⟩
  exact Hs.mk q
end
end DL

set_option maxHeartbeats 2000000
/-! DL158: len of a name that holds an owned list, whatever its items are. -/
namespace DL
open PySem PySem.Spec PyProof.Rows L2
def M.lenO (i : Nat) : M PyData := fun env => match (env[i]?).join with
  | some (.lst zs) => .ok (.int (zs.length : Nat)) env
  | _ => .no
section
variable {X : Cx} {W : WX} {B : List Nat} {pos p1 p2 : Pos}
theorem ed_lenO (i : Nat) {x : Str} (hg : Gl X "len") (hm : X.mg "len" = none) (hN : X.N[i]? = some x := by rfl) (hv : Vis X.env.scope x := by first | exact Or.inl rfl | exact Or.inr (Or.inl rfl) | exact Or.inr (Or.inr rfl)) (hd : (x == ("__debug__" : Str)) = false := by decide)
    (hcd : (x == ("__classdict__" : Str)) = false := by decide) (he : starEach (.Name x p1 :: []) X.env = (false, eval (.Name x p1) X.env) :: starEach [] X.env := by rfl) (hpl : (backTo pos (starEach [] X.env)).any (·.1) = false := by rfl) : ED X W B (.Call (.Name "len" p2) (.Name x p1 :: []) [] pos) (M.lenO i) :=
  PE_mono (pe_callB call_lenP hg hm (by decide +kernel) (pa_cons (pe_var hN hv hd hcd) pa_nil he) (by decide) (by decide) he hpl) fun σ H Q ⟨bv, R, P, Fs, env, S, q⟩ => by
    unfold M.lenO at q
    cases hx : (env[i]?).join with
    | none => rw [hx] at q; exact q.elim
    | some o =>
      rw [hx] at q
      cases o with
      | lst zs =>
        obtain ⟨a, vs, F0, hu, hF, hH, ol, nd, hl⟩ := at_lst S (join_some hx)
        exact ⟨_, hu, .inl ⟨_, _, rfl, .inl ⟨_, .inl (.inl hH), hl.symm⟩, q _ P H Fs S (Same.refl _) (.int _)⟩⟩
      | _ => exact q.elim
theorem hs_lenO {i : Nat} {zs : List OD} {env : DEnv} {Q : PyData → DEnv → Prop} (h : sl env i = some (.lst zs)) (q : Q (.int (zs.length : Nat)) env) : Hs (M.lenO i env) Q := by
  unfold M.lenO
  rw [show (env[i]?).join = some (.lst zs) from h]
  exact Hs.mk q
end
section
variable {X : Cx} {W : WX} {B : List Nat} {elt tg iter o : Expr} {ifs es : List Expr} {scope : Scope} {pos spos py p : Pos} {m mf : M (List PyData)} {g : TG'} {mt : M Bool} {mo mb : M OD} {ml : M (List PyData)} {i j k : Nat} {x : Str} {ps : List Str} {kb : List (List Str × Nat × List Nat)} {pp : DEnv → Option (List Stp)}
/-- name = [.., new own trees] on one line -/
theorem sd_setLcA (i : Nat) (own : List (Str × Nat)) {y : Str} (hc : X.calm = true) (hN : X.N.Nodup) (hBi : i ∉ B) (hi : ID X W B tg iter m) (ok : BlkOk X.N X.env.scope scope own) (hB : ∀ i ∈ own.map (·.2), i ∉ B)
    (hg : ∀ s H C cl fp, GV (BX X s H scope C cl fp) B (own.map (·.2)) tg g) (ht : ∀ s H C cl fp, TDs (BX X s H scope C cl fp) W0 B ifs mt) (he : ∀ s H C cl fp, EO (BX X s H scope C cl fp) W0 B elt mo)
    (hsw : swapsWith (.ListComp elt [⟨tg, iter, ifs, 0⟩] scope pos) (some (.Name y py)) spos.line X.env = pure true) (hy : X.N[i]? = some y := by rfl) (hyl : X.env.scope.names.lookup y = some .local := by rfl) (hs : ∀ x, foldedSetIterable iter X.env x = pure x := by intro _; rfl) :
    SD X W B (.Assign [.Name y py] (.ListComp elt [⟨tg, iter, ifs, 0⟩] scope pos) spos) (M.set i (M.lcA m g (own.map (·.2)) mt mo)) :=
  PS_mono (ps_setLc hc hN hy hyl hsw hi ok hg ht he hs) fun D σ H ⟨bv, R, P, Fs, env, S, q⟩ => lcA_law hB (tO_bindS (Same.refl _) S q fun x e1 v P1 H1 F1 G S1 s1 o1 f1 h1 => by
    unfold M.put at h1
    by_cases hl : i < e1.length
    · rw [if_pos hl] at h1
      exact h1 _ P1 H1 _ (S1.store o1 f1 hBi hl) s1
    · rw [if_neg hl] at h1; exact h1.elim)
theorem eo_defP (D : DefK X.prog X.w X.K X.mg X.base j x ps [0] mb kb) (g : Gd X) (hr : Room k X.A) (tk : Takes X W) (ho : PL X B i o pp) (ha : AD X W B es ml) (hjk : j ≤ k := by decide) (hg : Gl X x := by rfl)
    (hdb : (x == ("__debug__" : Str)) = false := by decide) (he : starEach (o :: es) X.env = (false, eval o X.env) :: starEach es X.env := by rfl) (hpl : (backTo pos (starEach es X.env)).any (·.1) = false := by rfl) :
    EO X W B (.Call (.Name x p) (o :: es) [] pos) (M.callP i pp mb ml) :=
  let ⟨f, fd, h1, h2, h3, h4, h5⟩ := D
  eo_callP g (h2.mono hjk) hr tk hg h1 h4 h3 ho ha hdb he hpl
end
end DL

set_option maxHeartbeats 2000000
/-! DL159: o.m(e, ..), o a whole slot that the arguments may read (and change in place). -/
namespace DL
open PySem PySem.Spec PyProof.Rows L2
def M.methV (i : Nat) (c mn : Str) (f : M OD) (l : M (List PyData)) : M OD := fun env => match (env[i]?).join with
  | some x => if isObj c mn x = true then M.bind l (fun ds env1 => match (env1[i]?).join with
      | some y => methB i [] y y f ds env1
      | none => .no) env else .no
  | none => .no
section
variable {X : Cx} {W : WX} {B : List Nat} {j k i : Nat} {c mn : Str} {ps : List Str} {m : M OD} {ml : M (List PyData)} {o e : Expr} {es : List Expr} {apos pos : Pos} {kb : List (List Str × Nat × List Nat)}
theorem eo_methV (D : MethK X.prog X.w X.K X.mg X.base j c mn ps m kb) (g : Gd X) (hr : Room k X.A) (tk : Takes X W) (ho : PL X B i o pp0) (ha : AD X W B (e :: es) ml) (hjk : j ≤ k := by decide) {pl : Sem Bool}
    (hst : starEach (e :: es) X.env = (false, eval e X.env) :: starEach es X.env := by rfl) (hpl : (backTo pos (starEach es X.env)).any (·.1) = false := by rfl)
    (ht : eval (.Call (.Attribute o mn apos) (e :: es) [] pos) X.env = (do
      let ov ← eval o X.env
      standAt apos.atName
      let (f, first) ← holding [ov] (getMethod ov mn pl)
      callWith pos f first (backTo pos (starEach (e :: es) X.env)) (backToKw pos (keywordEach [] X.env))) := by rfl) :
    EO X W B (.Call (.Attribute o mn apos) (e :: es) [] pos) (M.methV i c mn m ml) := ⟨fun pins s σ H Q I ⟨bv, R, P, Fs, env, S, q⟩ => by
  obtain ⟨C, f, fd, hC, hcl, hm, F, hb, _⟩ := D.ex
  unfold M.methV at q
  cases hx0 : (env[i]?).join with
  | none => rw [hx0] at q; exact q.elim
  | some x =>
    rw [hx0] at q
    simp only at q
    by_cases hob : isObj c mn x = true
    · rw [if_pos hob] at q
      have hx := join_some hx0
      cases x with
      | obj c' ns xs =>
        simp only [isObj, Bool.and_eq_true, decide_eq_true_eq] at hob
        obtain ⟨rfl, hn⟩ := hob
        have hn : posN mn ns = none := by simpa using hn
        refine PySem.W.methodCall_KW (pl := pl) (thn (ho.run pins s σ H (fun u H1 => H1 = H ∧ (∃ a dx fs, u = .ref a ∧ H1 a = some (.ins C dx fs) ∧ fs.lookup mn = none) ∧ ∃ v, σ[i]? = some (some v) ∧ PlV X.mg H v [] u) I ⟨bv, R, P, Fs, env, [], _, _, S, hx, rfl, rfl, fun v u hv hpl => ⟨rfl, obj_at S hx rfl hv hpl hC hn, v, hv, hpl⟩⟩) fun uu s1 ⟨u, H1, I1, rx, e1, ⟨a, dx, fs, ex, ea, l⟩, v, hv, hpv⟩ => ?_) ht
        subst e1
        subst ex
        cases hpv
        obtain rfl : uu = Value.ref a := rx
        refine getmeth_ok I1 ea hcl hm l ?_
        have T : tL X.K X.mg W B ml σ H1 (fun vs H2 => spF X.K X.mg [0] m (.ref a :: vs) H2 Q (fun cls d H' => W cls d σ H') ∧ (V.ref a :: vs).length = ps.length) :=
          ⟨bv, R, P, Fs, env, S, bindD q (fun ds e1 q1 vs P2 H2 F2 S2 s2 rw => by
            cases hy0 : (e1[i]?).join with
            | none => rw [hy0] at q1; exact q1.elim
            | some y =>
              rw [hy0] at q1
              exact meth_sp S2 (join_some hy0) rfl hv .nil s2 rw F.len q1) fun _ _ q => q⟩
        refine PySem.W.callWith_K (first := [.ref a]) (h₀ := X.base) I1.ok.mod.kin hm.kp (thn (ha.run pos pins s1 σ H1 _ I1 T) fun us s2 ⟨vs, H2, I2, r, q2, hl⟩ => ⟨I2.kIn, ?_⟩) hst hpl
        have hb' := hb s2 (.ref a :: us) I2.kIn (by rw [List.append_nil, ← hl, List.length_cons, List.length_cons, r.length])
        rw [List.append_nil] at hb'
        exact run_c (us := .ref a :: us) (ks := []) (kw := []) (bs := .ref a :: us) (vs := .ref a :: vs) g (F.mono hjk) hr tk I2 hb' (.cons rfl r) q2
      | _ => cases hob
    · rw [if_neg hob] at q; exact q.elim⟩
theorem hs_methV {l : M (List PyData)} {f : M OD} {env : DEnv} {x : OD} {Q : OD → DEnv → Prop} (hx : sl env i = some x) (ho : isObj c mn x = true)
    (h : Hs (l env) fun ds e1 => ∃ y, sl e1 i = some y ∧ Hs (f (some y :: ds.map fun d => some (.pur d))) fun r outs => ∃ y' rest, outs = some y' :: rest ∧ Q r (e1.set i (some y'))) : Hs (M.methV i c mn f l env) Q := by
  unfold M.methV
  rw [sl_some hx]
  simp only [Option.join_some]
  rw [if_pos ho, hs_bind]
  refine h.mono ?_
  rintro ds e1 ⟨y, h1, r, outs, h2, y', rest, rfl, h4⟩
  rw [sl_some h1]
  simp only [Option.join_some]
  unfold methB
  rw [h2]
  exact Hs.mk h4
end
end DL

set_option maxHeartbeats 2000000
namespace L42
open PySem PySem.Spec PyProof.Rows L2 DL
noncomputable section
abbrev n_law_pen : List Str := ["_law_script"]
def m_law_pen : M OD := runF 1 1 [] (M.ret (M.lst (M.cons (M.frz (M.opO listO (M.cons (M.slice (M.rd 0) M.noEnd (M.anEnd (M.pure (.int 63)))) M.nil))) (M.cons (M.pure (.int 0)) (M.cons (M.pure (.int 0)) M.nil)))))
abbrev k_law_pen : List (List Str × Nat × List Nat) := []
abbrev n_law_draw : List Str := ["_law_pen_here", "_law_many", "_law_digit", "_law_at", "_law_cell", "_law_great", "_law_mixed"]
def m_law_draw : M OD := runF 2 7 [0] (M.seq (M.ifS (M.tru (M.op2 gtD (M.ro (ixO (slotO 0) (fun _ => some (.int 2)))) (M.pure (.int 0))))
  (M.seq (M.set 2 (M.own (M.op2 modD (M.ro (ixO (slotO 0) (fun _ => some (.int 2)))) (M.rd 1))))
  (M.seq (M.setI 0 (M.own (M.op2 divD (M.ro (ixO (slotO 0) (fun _ => some (.int 2)))) (M.rd 1))) (M.pure (.int 2)))
  (M.ret (M.own (M.rd 2)))))
  M.skip)
  (M.seq (M.set 3 (M.own (M.ro (ixO (slotO 0) (fun _ => some (.int 1))))))
  (M.seq (M.setI 0 (M.own (M.op2 addB (M.rd 3) (M.pure (.int 1)))) (M.pure (.int 1)))
  (M.seq (M.set 4 (M.own (M.op2 addB (M.op2 mulD (M.pure (.int 54001)) (M.rd 3)) (M.pure (.int 41)))))
  (M.seq (M.ifS (M.tru (M.op2 neL (M.ro (ixO (slotO 0) (fun _ => some (.int 0)))) (M.frz (M.lst M.nil))))
  (M.set 4 (M.own (M.op2 itemD (M.ro (ixO (slotO 0) (fun _ => some (.int 0)))) (M.op2 modD (M.rd 3) (M.opL (one lenD) (M.cons (M.ro (ixO (slotO 0) (fun _ => some (.int 0)))) M.nil))))))
  M.skip)
  (M.seq (M.ifS (M.and (M.tru (M.op2 ltD (M.rd 3) (M.opL (one lenD) (M.cons (M.ro (ixO (slotO 0) (fun _ => some (.int 0)))) M.nil)))) (M.tru (M.op2 geD (M.opL (one absD) (M.cons (M.rd 4) M.nil)) (M.op2 powD (M.pure (.int 10)) (M.pure (.int 18))))))
  (M.seq (M.set 5 (M.own (M.op2 addB (M.op2 mulD (M.pure (.int 2)) (M.opL (one absD) (M.cons (M.rd 4) M.nil))) (M.opL (one intD) (M.cons (M.op2 ltD (M.rd 4) (M.pure (.int 0))) M.nil)))))
  (M.seq (M.setI 0 (M.own (M.op2 divD (M.rd 5) (M.rd 1))) (M.pure (.int 2)))
  (M.ret (M.own (M.op2 modD (M.rd 5) (M.rd 1))))))
  M.skip)
  (M.seq (M.set 6 (M.own (M.op2 modD (M.op2 powD (M.op2 addB (M.op2 addB (M.op2 addB (M.op2 modD (M.rd 4) (M.pure (.int 2147483579))) (M.op2 mulD (M.op2 mulD (M.pure (.int 47017)) (M.rd 3)) (M.rd 3))) (M.op2 mulD (M.pure (.int 20021)) (M.rd 3))) (M.pure (.int 43))) (M.pure (.int 5))) (M.pure (.int 2147483647)))))
  (M.seq (M.set 6 (M.own (M.op2 modD (M.op2 powD (M.op2 addB (M.op2 addB (M.op2 mulD (M.rd 6) (M.op2 addB (M.rd 3) (M.pure (.int 16807)))) (M.op2 mulD (M.pure (.int 50033)) (M.rd 3))) (M.pure (.int 7))) (M.pure (.int 3))) (M.pure (.int 2147483587)))))
  (M.ret (M.own (M.op2 modD (M.op2 divD (M.rd 6) (M.pure (.int 32))) (M.rd 1))))))))))))
abbrev k_law_draw : List (List Str × Nat × List Nat) := []
abbrev n_law_row : List Str := ["_law_pen_here", "_law_form", "_law_few", "_law_far", "_law_number", "_law_some", "_law_k"]
def m_law_row : M OD := runF 2 7 [0] (M.seq (M.set 2 (M.lc (M.iter rangeD1 (M.cons (M.pure (.int 2)) M.nil)) (gNameD 6) [6] (M.pure true) (M.frz (M.call m_law_draw (M.aR 0 (M.aV (M.pure (.int 4)) M.aNil))))))
  (M.seq (M.set 3 (M.own (M.op2 itemD (M.frz (M.lst (M.cons (M.pure (.int 0)) (M.cons (M.pure (.int 9)) (M.cons (M.pure (.int 10)) (M.cons (M.op1 negD (M.pure (.int 10))) (M.cons (M.pure (.int 99)) (M.cons (M.pure (.int 100)) (M.cons (M.op2 subB (M.op2 powD (M.pure (.int 10)) (M.pure (.int 30))) (M.pure (.int 1))) (M.cons (M.op2 subB (M.pure (.int 1)) (M.op2 powD (M.pure (.int 10)) (M.pure (.int 30)))) M.nil)))))))))) (M.frz (M.call m_law_draw (M.aR 0 (M.aV (M.pure (.int 8)) M.aNil)))))))
  (M.seq (M.set 4 (M.own (M.op2 itemD (M.frz (M.lst (M.cons (M.op2 itemD (M.rd 2) (M.pure (.int 0))) (M.cons (M.op2 itemD (M.rd 2) (M.pure (.int 0))) (M.cons (M.op2 subB (M.op2 itemD (M.rd 2) (M.pure (.int 1))) (M.pure (.int 2))) (M.cons (M.rd 3) M.nil)))))) (M.frz (M.call m_law_draw (M.aR 0 (M.aV (M.pure (.int 4)) M.aNil)))))))
  (M.seq (M.set 5 (M.own (M.frz (M.lst (M.cons (M.tup (M.cons (M.rd 4) M.nil)) (M.cons (M.tup (M.cons (M.rd 4) (M.cons (M.op2 itemD (M.rd 2) (M.pure (.int 1))) M.nil))) (M.cons (M.tup (M.cons (M.tup (M.cons (M.opL (one intD) (M.cons (M.op2 gtD (M.op2 itemD (M.rd 2) (M.pure (.int 0))) (M.pure (.int 0))) M.nil)) (M.cons (M.rd 4) M.nil))) (M.cons (M.op2 itemD (M.rd 2) (M.pure (.int 1))) M.nil))) (M.cons (M.tup (M.cons (M.tup M.nil) (M.cons (M.rd 4) M.nil))) M.nil))))))))
  (M.seq (M.set 5 (M.own (M.op2 addB (M.rd 5) (M.frz (M.lst (M.cons (M.tup (M.cons (M.op2 divD (M.rd 4) (M.pure (.int 2))) (M.cons (M.op2 modD (M.op2 itemD (M.rd 2) (M.pure (.int 0))) (M.pure (.int 2))) (M.cons (M.op2 itemD (M.rd 2) (M.pure (.int 1))) M.nil)))) (M.cons (M.slice (M.tup (M.cons (M.op2 itemD (M.rd 2) (M.pure (.int 0))) (M.cons (M.op2 itemD (M.rd 2) (M.pure (.int 1))) (M.cons (M.rd 4) M.nil)))) M.noEnd (M.anEnd (M.op2 itemD (M.rd 2) (M.pure (.int 0))))) M.nil)))))))
  (M.ret (M.own (M.op2 itemD (M.op2 addB (M.rd 5) (M.frz (M.lst (M.cons (M.tup (M.cons (M.op2 itemD (M.frz (M.lst (M.cons (M.pure (.str "a")) (M.cons (M.pure (.str "ab")) (M.cons (M.pure (.str "B")) (M.cons (M.pure (.str "")) M.nil)))))) (M.op2 itemD (M.rd 2) (M.pure (.int 0)))) (M.cons (M.rd 4) M.nil))) M.nil)))) (M.rd 1)))))))))
abbrev k_law_row : List (List Str × Nat × List Nat) := []
abbrev nPile___init__ : List Str := ["self", "hand"]
def mPile___init__ : M OD := runF 2 2 [0] (M.seq (M.setF 0 "Pile" "most_held" (M.own (M.rd 1)))
  (M.seq (M.setF 0 "Pile" "held_rows" (M.lst M.nil))
  (M.seq (M.setF 0 "Pile" "laid_lots" (M.lst M.nil))
  (M.seq (M.setF 0 "Pile" "steps_taken" (M.own (M.pure (.int 0))))
  (M.setF 0 "Pile" "is_ended" (M.own (M.pure (.bool false))))))))
abbrev nPile_lay_out : List Str := ["self"]
def mPile_lay_out : M OD := runF 1 1 [0] (M.seq (M.drop (M.frz (M.appP 0 (ppF "Pile" "laid_lots" pp0) (sortBS 0 (ppF "Pile" "held_rows" pp0)))))
  (M.seq (M.augF 0 "Pile" "steps_taken" (· + ·) (M.q1 lenD (dataO (placeO 0 (ppF "Pile" "held_rows" pp0)))))
  (M.setF 0 "Pile" "held_rows" (M.lst M.nil))))
abbrev kPile_lay_out : List (List Str × Nat × List Nat) := []
abbrev nPile_end : List Str := ["self"]
def mPile_end : M OD := runF 1 1 [0] (M.seq (M.ifS (M.trt (M.ro (placeO 0 (ppF "Pile" "is_ended" pp0))))
  (M.raise "Done")
  M.skip)
  (M.seq (M.setF 0 "Pile" "is_ended" (M.own (M.pure (.bool true))))
  (M.ifS (M.tru (M.q2 neL (dataO (placeO 0 (ppF "Pile" "held_rows" pp0))) (fun _ => some (.list []))))
  (M.drop (M.frz (M.methP 0 pp0 "Pile" "lay_out" mPile_lay_out M.nil)))
  M.skip)))
abbrev kPile_end : List (List Str × Nat × List Nat) := []
abbrev nPile_put : List Str := ["self", "row"]
def mPile_put : M OD := runF 2 2 [0] (M.seq (M.ifS (M.trt (M.ro (placeO 0 (ppF "Pile" "is_ended" pp0))))
  (M.raise "Done")
  M.skip)
  (M.seq (M.ifS (M.tru (M.op2 geD (M.q1 lenD (dataO (placeO 0 (ppF "Pile" "held_rows" pp0)))) (M.ro (placeO 0 (ppF "Pile" "most_held" pp0)))))
  (M.drop (M.frz (M.methP 0 pp0 "Pile" "lay_out" mPile_lay_out M.nil)))
  M.skip)
  (M.drop (M.frz (M.appP 0 (ppF "Pile" "held_rows" pp0) (purS 1))))))
abbrev kPile_put : List (List Str × Nat × List Nat) := []
abbrev n_law_ended : List Str := ["_law_rows", "_law_hands", "_law_piles", "_law_row_here", "_law_pile", "_law_hand"]
def m_law_ended : M OD := runF 2 6 [] (M.seq (M.set 2 (M.lcA (M.items (M.rd 1)) (gNameD 5) [5] (M.pure true) (M.bind (M.cons (M.rd 5) M.nil) fun ds => newI "Pile" mPile___init__ ds)))
  (M.seq (M.for (M.items (M.rd 0)) (gNameD 3)
  (M.forB 2 4
  (M.drop (M.frz (M.methP 4 pp0 "Pile" "put" mPile_put (M.cons (M.rd 3) M.nil))))))
  (M.seq (M.forB 2 4
  (M.drop (M.frz (M.methP 4 pp0 "Pile" "end" mPile_end M.nil))))
  (M.ret (M.mv 2)))))
abbrev k_law_ended : List (List Str × Nat × List Nat) := []
abbrev nPile_call_back : List Str := ["self", "n"]
def mPile_call_back : M OD := runF 2 2 [0] (M.seq (M.ifS (M.tru (M.op2 ltD (M.op2 subB (M.ro (placeO 0 (ppF "Pile" "most_held" pp0))) (M.rd 1)) (M.pure (.int 1))))
  (M.raise "NoRoom")
  M.skip)
  (M.seq (M.augF 0 "Pile" "most_held" (· - ·) (M.rd 1))
  (M.ifS (M.tru (M.op2 gtD (M.q1 lenD (dataO (placeO 0 (ppF "Pile" "held_rows" pp0)))) (M.ro (placeO 0 (ppF "Pile" "most_held" pp0)))))
  (M.drop (M.frz (M.methP 0 pp0 "Pile" "lay_out" mPile_lay_out M.nil)))
  M.skip)))
abbrev kPile_call_back : List (List Str × Nat × List Nat) := []
abbrev n_law_lots : List Str := ["_law_many", "_law_hand"]
def m_law_lots : M OD := runF 2 2 [] (M.ret (M.own (M.op2 divD (M.op2 subB (M.op2 addB (M.rd 0) (M.rd 1)) (M.pure (.int 1))) (M.rd 1))))
abbrev k_law_lots : List (List Str × Nat × List Nat) := []
abbrev nPile_lend : List Str := ["self", "n"]
def mPile_lend : M OD := runF 2 2 [0] (M.augF 0 "Pile" "most_held" (· + ·) (M.rd 1))
abbrev kPile_lend : List (List Str × Nat × List Nat) := []
abbrev nPile_lots : List Str := ["self"]
def mPile_lots : M OD := runF 1 1 [0] (M.ret (M.own (M.q1 lenD (dataO (placeO 0 (ppF "Pile" "laid_lots" pp0))))))
abbrev kPile_lots : List (List Str × Nat × List Nat) := []
abbrev nmerged : List Str := ["lots", "left", "found", "first", "lot"]
def mmerged : M OD := runF 1 5 [] M.merged
abbrev kmerged : List (List Str × Nat × List Nat) := []
abbrev nPile_merge : List Str := ["self", "many", "lot"]
def mPile_merge : M OD := runF 1 3 [0] (M.seq (M.ifS (M.not (M.trt (M.ro (placeO 0 (ppF "Pile" "is_ended" pp0)))))
  (M.raise "NotDone")
  M.skip)
  (M.seq (M.ifS (M.tru (M.op2 ltD (M.frz (M.methP 0 pp0 "Pile" "lots" mPile_lots M.nil)) (M.pure (.int 2))))
  (M.raise "Done")
  M.skip)
  (M.seq (M.set 1 (M.own (M.opL (two maxD) (M.cons (M.pure (.int 2)) (M.cons (M.ro (placeO 0 (ppF "Pile" "most_held" pp0))) M.nil)))))
  (M.seq (M.set 2 (M.own (M.frz (M.call mmerged (M.aV (M.slice (M.rdP 0 (ppF "Pile" "laid_lots" pp0)) M.noEnd (M.anEnd (M.rd 1))) M.aNil)))))
  (M.seq (M.setF 0 "Pile" "laid_lots" (M.own (M.op2 addB (M.slice (M.rdP 0 (ppF "Pile" "laid_lots" pp0)) (M.anEnd (M.rd 1)) M.noEnd) (M.frz (M.lst (M.cons (M.rd 2) M.nil))))))
  (M.augF 0 "Pile" "steps_taken" (· + ·) (M.opL (one lenD) (M.cons (M.rd 2) M.nil))))))))
abbrev kPile_merge : List (List Str × Nat × List Nat) := []
abbrev n_law_count : List Str := ["_law_pile", "_law_most", "_law_found", "_law_step"]
def m_law_count : M OD := runF 2 4 [0] (M.seq (M.set 2 (M.own (M.pure (.int 0))))
  (M.seq (M.for (M.iter rangeD1 (M.cons (M.rd 1) M.nil)) (gNameD 3)
  (M.ifS (M.tru (M.op2 gtD (M.frz (M.methP 0 pp0 "Pile" "lots" mPile_lots M.nil)) (M.pure (.int 1))))
  (M.seq (M.drop (M.frz (M.methP 0 pp0 "Pile" "merge" mPile_merge M.nil)))
  (M.set 2 (M.own (M.op2 addB (M.rd 2) (M.pure (.int 1))))))
  M.skip))
  (M.ret (M.own (M.rd 2)))))
abbrev k_law_count : List (List Str × Nat × List Nat) := []
abbrev nPile_steps : List Str := ["self"]
def mPile_steps : M OD := runF 1 1 [0] (M.ret (M.own (M.ro (placeO 0 (ppF "Pile" "steps_taken" pp0)))))
abbrev kPile_steps : List (List Str × Nat × List Nat) := []
abbrev nPile_hand : List Str := ["self"]
def mPile_hand : M OD := runF 1 1 [0] (M.ret (M.own (M.ro (placeO 0 (ppF "Pile" "most_held" pp0)))))
abbrev kPile_hand : List (List Str × Nat × List Nat) := []
abbrev n_law_lent_right : List Str := ["_law_pile", "_law_lots_here", "_law_many", "_law_found"]
def m_law_lent_right : M OD := runF 3 4 [0] (M.seq (M.drop (M.frz (M.methV 0 "Pile" "lend" mPile_lend (M.cons (M.opL (two maxD) (M.cons (M.pure (.int 0)) (M.cons (M.op2 subB (M.rd 1) (M.frz (M.methP 0 pp0 "Pile" "hand" mPile_hand M.nil))) M.nil))) M.nil))))
  (M.seq (M.ifS (M.or (M.tru (M.op2 neD (M.frz (M.methP 0 pp0 "Pile" "lots" mPile_lots M.nil)) (M.rd 1))) (M.tru (M.op2 neD (M.frz (M.methP 0 pp0 "Pile" "steps" mPile_steps M.nil)) (M.rd 2))))
  (M.ret (M.own (M.pure (.bool false))))
  M.skip)
  (M.seq (M.set 3 (M.own (M.frz (M.call m_law_count (M.aR 0 (M.aV (M.pure (.int 1)) M.aNil))))))
  (M.ret (M.own (M.andV (M.op2 eqD (M.tup (M.cons (M.rd 3) (M.cons (M.frz (M.methP 0 pp0 "Pile" "steps" mPile_steps M.nil)) M.nil))) (M.tup (M.cons (M.opL (one intD) (M.cons (M.op2 gtD (M.rd 1) (M.pure (.int 1))) M.nil)) (M.cons (M.op2 mulD (M.rd 2) (M.op2 addB (M.pure (.int 1)) (M.opL (one intD) (M.cons (M.op2 gtD (M.rd 1) (M.pure (.int 1))) M.nil)))) M.nil)))) (M.op2 eqD (M.frz (M.methP 0 pp0 "Pile" "lots" mPile_lots M.nil)) (M.opL (two minD) (M.cons (M.pure (.int 1)) (M.cons (M.rd 1) M.nil))))))))))
abbrev k_law_lent_right : List (List Str × Nat × List Nat) := []
abbrev n_law_heard : List Str := ["_law_ask", "_law_caught", "_law_found", "e", "_law_words"]
abbrev h_law_heard : M OD → DEnv → M OD := fun ask => (kCons (M.set 1 (M.own (M.pure .none))) (kTry true 2 1 5 [("Done", true), ("NoRoom", true), ("NotDone", true)] ask (kLast (M.seq (M.ifS (M.isN 1)
  (M.ret (M.own (M.rd 2)))
  M.skip)
  (M.seq (M.set 4 (M.own (M.frz (M.lst (M.cons (M.isX 1 [("Done", true), ("NoRoom", false), ("NotDone", false)]) (M.cons (M.isX 1 [("Done", false), ("NoRoom", false), ("NotDone", true)]) (M.cons (M.isX 1 [("Done", false), ("NoRoom", true), ("NotDone", false)]) M.nil)))))))
  (M.seq (M.ifS (M.or (M.not (M.trt (M.isX 1 [("Done", true), ("NoRoom", true), ("NotDone", true)]))) (M.or (M.trt (M.isX 1 [("Done", false), ("NoRoom", false), ("NotDone", false)])) (M.tru (M.op2 neD (M.opL (one sumX) (M.cons (M.rd 4) M.nil)) (M.pure (.int 1))))))
  (M.ret (M.own (M.pure (.str "odd"))))
  M.skip)
  (M.ret (M.own (M.op2 itemD (M.frz (M.lst (M.cons (M.pure (.str "done")) (M.cons (M.pure (.str "not done")) (M.cons (M.pure (.str "no room")) M.nil))))) (M.indexB (M.rd 4) (M.pure (.bool true))))))))))))
abbrev n_law_mergings : List Str := ["_law_lots_here", "_law_hand", "_law_by"]
def m_law_mergings : M OD := runF 2 3 [] (M.seq (M.set 2 (M.own (M.op2 subB (M.opL (two maxD) (M.cons (M.pure (.int 2)) (M.cons (M.rd 1) M.nil))) (M.pure (.int 1)))))
  (M.ret (M.own (M.op2 divD (M.op2 subB (M.op2 addB (M.op2 subB (M.opL (two maxD) (M.cons (M.pure (.int 1)) (M.cons (M.rd 0) M.nil))) (M.pure (.int 1))) (M.rd 2)) (M.pure (.int 1))) (M.rd 2)))))
abbrev k_law_mergings : List (List Str × Nat × List Nat) := []
abbrev nPile_told : List Str := ["self", "lot", "row"]
def mPile_told : M OD := runF 1 3 [0] (M.seq (M.ifS (M.or (M.not (M.trt (M.ro (placeO 0 (ppF "Pile" "is_ended" pp0))))) (M.tru (M.op2 geD (M.frz (M.methP 0 pp0 "Pile" "lots" mPile_lots M.nil)) (M.pure (.int 2)))))
  (M.raise "NotDone")
  M.skip)
  (M.ret (M.lc2 (M.items (M.rdP 0 (ppF "Pile" "laid_lots" pp0))) (gNameD 1) [1, 2] (M.items (M.rd 1)) (gNameD 2) [2] (M.rd 2))))
abbrev kPile_told : List (List Str × Nat × List Nat) := []
abbrev n_law_hands_right : List Str := ["_law_rows", "_law_hands", "_law_many", "_law_piles", "_law_lots_here", "_law_k", "_law_hand", "_law_pile"]
def m_law_hands_right : M OD := runF 2 8 [] (M.seq (M.set 2 (M.own (M.opL (one lenD) (M.cons (M.rd 0) M.nil))))
  (M.seq (M.set 3 (M.call m_law_ended (M.aV (M.rd 0) (M.aV (M.op2 addB (M.rd 1) (M.frz (M.lst (M.cons (M.op2 itemD (M.rd 1) (M.pure (.int 0))) (M.cons (M.op2 itemD (M.rd 1) (M.pure (.int 0))) M.nil))))) M.aNil))))
  (M.seq (M.set 4 (M.lc (M.items (M.op2 addB (M.rd 1) (M.frz (M.lst (M.cons (M.op2 itemD (M.rd 1) (M.pure (.int 0))) (M.cons (M.op2 itemD (M.rd 1) (M.pure (.int 0))) M.nil)))))) (gNameD 6) [6] (M.pure true) (M.frz (M.call m_law_lots (M.aV (M.rd 2) (M.aV (M.rd 6) M.aNil))))))
  (M.seq (M.ifS (M.or (M.tru (M.op2 neD (M.frz (M.lcBo 3 7 [7] (M.pure true) (M.frz (M.methP 7 pp0 "Pile" "lots" mPile_lots M.nil)))) (M.rd 4))) (M.tru (M.op2 neD (M.frz (M.lcBo 3 7 [7] (M.pure true) (M.frz (M.methP 7 pp0 "Pile" "steps" mPile_steps M.nil)))) (M.frz (M.rep (M.cons (M.rd 2) M.nil) (M.lenO 3))))))
  (M.ret (M.own (M.pure (.bool false))))
  M.skip)
  (M.seq (M.ifS (M.not (M.trt (M.frz (M.callP 3 (ppN 3 pp0 2) m_law_lent_right (M.cons (M.op2 itemD (M.rd 4) (M.op1 negD (M.pure (.int 2)))) (M.cons (M.rd 2) M.nil))))))
  (M.ret (M.own (M.pure (.bool false))))
  M.skip)
  (M.seq (M.for (M.iter enumA (M.cons (M.rd 1) M.nil)) (gTupE 2 (gConsD (gNameD 5) (gConsD (gNameD 6) gNilD)))
  (M.ifS (M.or (M.tru (M.op2 neD (M.frz (M.callP 3 (ppI pp0 (dataO (slotO 5))) m_law_count (M.cons (M.rd 2) M.nil))) (M.frz (M.call m_law_mergings (M.aV (M.op2 itemD (M.rd 4) (M.rd 5)) (M.aV (M.rd 6) M.aNil)))))) (M.tru (M.op2 neD (M.frz (M.methP 3 (ppI pp0 (dataO (slotO 5))) "Pile" "lots" mPile_lots M.nil)) (M.opL (two minD) (M.cons (M.pure (.int 1)) (M.cons (M.rd 2) M.nil))))))
  (M.ret (M.own (M.pure (.bool false))))
  M.skip))
  (M.seq (M.drop (M.frz (M.methP 3 (ppN 3 pp0 1) "Pile" "call_back" mPile_call_back (M.cons (M.op2 subB (M.op2 itemD (M.rd 1) (M.pure (.int 0))) (M.pure (.int 1))) M.nil))))
  (M.seq (M.ifS (M.or (M.tru (M.op2 neD (M.frz (M.methP 3 (ppN 3 pp0 1) "Pile" "steps" mPile_steps M.nil)) (M.rd 2))) (M.tru (M.op2 neD (M.frz (M.callP 3 (ppN 3 pp0 1) m_law_count (M.cons (M.rd 2) M.nil))) (M.frz (M.call m_law_mergings (M.aV (M.op2 itemD (M.rd 4) (M.op1 negD (M.pure (.int 1)))) (M.aV (M.pure (.int 1)) M.aNil)))))))
  (M.ret (M.own (M.pure (.bool false))))
  M.skip)
  (M.seq (M.ifS (M.tru (M.op2 neD (M.frz (M.heard 5 h_law_heard (M.methP 3 (ppN 3 pp0 1) "Pile" "merge" mPile_merge M.nil))) (M.pure (.str "done"))))
  (M.ret (M.own (M.pure (.bool false))))
  M.skip)
  (M.ret (M.own (M.op2 eqL (M.frz (M.lcBo 3 7 [7] (M.tru (M.op2 neD (M.opL (one reprD) (M.cons (M.frz (M.methP 7 pp0 "Pile" "told" mPile_told M.nil)) M.nil)) (M.opL (one reprD) (M.cons (M.frz (M.opO sortB (M.cons (M.rd 0) M.nil))) M.nil)))) (fun _ => .no))) (M.frz (M.lst M.nil))))))))))))))
abbrev k_law_hands_right : List (List Str × Nat × List Nat) := []
abbrev nlaw : List Str := ["_law_script", "_law_pen_here", "_law_form", "_law_many", "_law_rows", "_law_hands", "_law_far_rows", "_law_great", "_law_whole", "_law_k"]
def mlaw : M OD := runF 1 10 [] (M.seq (M.set 1 (M.call m_law_pen (M.aV (M.rd 0) M.aNil)))
  (M.seq (M.set 2 (M.own (M.frz (M.call m_law_draw (M.aR 1 (M.aV (M.pure (.int 7)) M.aNil))))))
  (M.seq (M.set 3 (M.own (M.op2 itemD (M.frz (M.lst (M.cons (M.pure (.int 11)) (M.cons (M.pure (.int 0)) (M.cons (M.pure (.int 1)) (M.cons (M.pure (.int 2)) (M.cons (M.pure (.int 200)) (M.cons (M.pure (.int 60)) (M.cons (M.frz (M.call m_law_draw (M.aR 1 (M.aV (M.pure (.int 201)) M.aNil)))) M.nil))))))))) (M.frz (M.call m_law_draw (M.aR 1 (M.aV (M.pure (.int 7)) M.aNil)))))))
  (M.seq (M.set 4 (M.lc (M.iter rangeD1 (M.cons (M.rd 3) M.nil)) (gNameD 9) [9] (M.pure true) (M.frz (M.call m_law_row (M.aR 1 (M.aV (M.rd 2) M.aNil))))))
  (M.seq (M.set 5 (M.own (M.frz (M.lst (M.cons (M.pure (.int 3)) (M.cons (M.pure (.int 1)) (M.cons (M.pure (.int 2)) (M.cons (M.pure (.int 4)) (M.cons (M.pure (.int 14)) (M.cons (M.pure (.int 15)) (M.cons (M.op2 addB (M.pure (.int 1)) (M.frz (M.call m_law_draw (M.aR 1 (M.aV (M.pure (.int 40)) M.aNil))))) M.nil)))))))))))
  (M.seq (M.set 5 (M.own (M.frz (M.lst (M.cons (M.op2 itemD (M.rd 5) (M.frz (M.call m_law_draw (M.aR 1 (M.aV (M.pure (.int 7)) M.aNil))))) (M.cons (M.op2 addB (M.pure (.int 2)) (M.frz (M.call m_law_draw (M.aR 1 (M.aV (M.pure (.int 9)) M.aNil))))) (M.cons (M.op2 addB (M.pure (.int 1)) (M.frz (M.call m_law_draw (M.aR 1 (M.aV (M.pure (.int 3)) M.aNil))))) (M.cons (M.opL (two maxD) (M.cons (M.pure (.int 1)) (M.cons (M.rd 3) M.nil))) M.nil))))))))
  (M.seq (M.ifS (M.not (M.trt (M.frz (M.call m_law_hands_right (M.aV (M.rd 4) (M.aV (M.rd 5) M.aNil))))))
  (M.ret (M.own (M.pure (.bool false))))
  M.skip)
  (M.seq (M.set 6 (M.lc (M.iter rangeD1 (M.cons (M.pure (.int 1500)) M.nil)) (gNameD 9) [9] (M.pure true) (M.tup (M.cons (M.op2 modD (M.op2 mulD (M.rd 9) (M.pure (.int 7919))) (M.pure (.int 1500))) (M.cons (M.rd 9) M.nil)))))
  (M.seq (M.set 7 (M.pick0 (M.call m_law_ended (M.aV (M.rd 6) (M.aV (M.frz (M.lst (M.cons (M.pure (.int 800)) M.nil))) M.aNil)))))
  (M.seq (M.ifS (M.or (M.tru (M.op2 neD (M.frz (M.call m_law_count (M.aR 7 (M.aV (M.pure (.int 2)) M.aNil)))) (M.pure (.int 1)))) (M.or (M.tru (M.op2 neD (M.frz (M.methP 7 pp0 "Pile" "steps" mPile_steps M.nil)) (M.pure (.int 3000)))) (M.tru (M.op2 neD (M.opL (one reprD) (M.cons (M.frz (M.methP 7 pp0 "Pile" "told" mPile_told M.nil)) M.nil)) (M.opL (one reprD) (M.cons (M.frz (M.opO sortB (M.cons (M.rd 6) M.nil))) M.nil))))))
  (M.ret (M.own (M.pure (.bool false))))
  M.skip)
  (M.seq (M.set 8 (M.pick0 (M.call m_law_ended (M.aV (M.rd 4) (M.aV (M.frz (M.lst (M.cons (M.op2 itemD (M.rd 5) (M.pure (.int 3))) M.nil))) M.aNil)))))
  (M.ret (M.own (M.andV (M.op2 eqD (M.frz (M.methP 8 pp0 "Pile" "steps" mPile_steps M.nil)) (M.rd 3)) (M.andV (M.op2 eqD (M.frz (M.methP 8 pp0 "Pile" "lots" mPile_lots M.nil)) (M.opL (two minD) (M.cons (M.pure (.int 1)) (M.cons (M.rd 3) M.nil)))) (M.op2 eqD (M.opL (one reprD) (M.cons (M.frz (M.methP 8 pp0 "Pile" "told" mPile_told M.nil)) M.nil)) (M.opL (one reprD) (M.cons (M.frz (M.opO sortB (M.cons (M.rd 4) M.nil))) M.nil))))))))))))))))))
end
end L42

set_option maxHeartbeats 2000000
namespace L42
open PySem PySem.Spec PyProof.Rows L2 DL

section
variable {P : Program} {w : World} {K : PySem.W.Frag} {mg : Str → Option Value} {base : Heap}
theorem s_law_pen : FnScope n_law_pen ["_law_script"] (defScope (top 14)) := ⟨rfl, rfl, rfl, by decide +kernel, rfl, by decide +kernel, by decide +kernel⟩
theorem b_law_pen (C : Cm fa fn tb K mg base) {f : Addr} {cd : Value} {A : Around} {outer : List Env} {s : Shared} {H : Hp} {E : XK} (hr : Room (0) (CxF P w K mg base n_law_pen "_law_pen" (defScope (top 14)) f cd A outer s H E).A) (g : Gd (CxF P w K mg base n_law_pen "_law_pen" (defScope (top 14)) f cd A outer s H E)) :
    SDs (CxF P w K mg base n_law_pen "_law_pen" (defScope (top 14)) f cd A outer s H E) (WF E) [] (defBody (top 14)) (M.ret (M.lst (M.cons (M.frz (M.opO listO (M.cons (M.slice (M.rd 0) M.noEnd (M.anEnd (M.pure (.int 63)))) M.nil))) (M.cons (M.pure (.int 0)) (M.cons (M.pure (.int 0)) M.nil))))) :=
  have nd : n_law_pen.Nodup := s_law_pen.nd
  (sds_one (sd_ret (eo_lst (ad_cons (ed_frz (eo_callTy call_list_of co_list rfl (C.free 0) (by decide +kernel) (ad_cons (ed_slice (ed_var 0) pd_none (pd_some ed_int)) ad_nil))) (ad_cons ed_int (ad_cons ed_int ad_nil))))))
theorem d_law_pen (C : Cm fa fn tb K mg base) : DefK P w K mg base 1 "_law_pen" ["_law_script"] [] m_law_pen k_law_pen := by
  obtain ⟨fd, F⟩ := C.says.def_ 0 (d := dd_law_pen) rfl
  exact ⟨_, fd, C.glo 34, fng_of (N := n_law_pen) (k := 0) F s_law_pen rfl rfl (by decide) fun cd A outer s H E hr g => b_law_pen C hr g, F.bindsN fun _ _ _ _ _ _ us hl => match us, hl with | [_], _ => rfl, F.kp, fun q hq => nomatch hq⟩
theorem s_law_draw : FnScope n_law_draw ["_law_pen_here", "_law_many"] (defScope (top 15)) := ⟨rfl, rfl, rfl, by decide +kernel, rfl, by decide +kernel, by decide +kernel⟩
theorem b_law_draw (C : Cm fa fn tb K mg base) {f : Addr} {cd : Value} {A : Around} {outer : List Env} {s : Shared} {H : Hp} {E : XK} (hr : Room (0) (CxF P w K mg base n_law_draw "_law_draw" (defScope (top 15)) f cd A outer s H E).A) (g : Gd (CxF P w K mg base n_law_draw "_law_draw" (defScope (top 15)) f cd A outer s H E)) :
    SDs (CxF P w K mg base n_law_draw "_law_draw" (defScope (top 15)) f cd A outer s H E) (WF E) [0] (defBody (top 15)) (M.seq (M.ifS (M.tru (M.op2 gtD (M.ro (ixO (slotO 0) (fun _ => some (.int 2)))) (M.pure (.int 0))))
  (M.seq (M.set 2 (M.own (M.op2 modD (M.ro (ixO (slotO 0) (fun _ => some (.int 2)))) (M.rd 1))))
  (M.seq (M.setI 0 (M.own (M.op2 divD (M.ro (ixO (slotO 0) (fun _ => some (.int 2)))) (M.rd 1))) (M.pure (.int 2)))
  (M.ret (M.own (M.rd 2)))))
  M.skip)
  (M.seq (M.set 3 (M.own (M.ro (ixO (slotO 0) (fun _ => some (.int 1))))))
  (M.seq (M.setI 0 (M.own (M.op2 addB (M.rd 3) (M.pure (.int 1)))) (M.pure (.int 1)))
  (M.seq (M.set 4 (M.own (M.op2 addB (M.op2 mulD (M.pure (.int 54001)) (M.rd 3)) (M.pure (.int 41)))))
  (M.seq (M.ifS (M.tru (M.op2 neL (M.ro (ixO (slotO 0) (fun _ => some (.int 0)))) (M.frz (M.lst M.nil))))
  (M.set 4 (M.own (M.op2 itemD (M.ro (ixO (slotO 0) (fun _ => some (.int 0)))) (M.op2 modD (M.rd 3) (M.opL (one lenD) (M.cons (M.ro (ixO (slotO 0) (fun _ => some (.int 0)))) M.nil))))))
  M.skip)
  (M.seq (M.ifS (M.and (M.tru (M.op2 ltD (M.rd 3) (M.opL (one lenD) (M.cons (M.ro (ixO (slotO 0) (fun _ => some (.int 0)))) M.nil)))) (M.tru (M.op2 geD (M.opL (one absD) (M.cons (M.rd 4) M.nil)) (M.op2 powD (M.pure (.int 10)) (M.pure (.int 18))))))
  (M.seq (M.set 5 (M.own (M.op2 addB (M.op2 mulD (M.pure (.int 2)) (M.opL (one absD) (M.cons (M.rd 4) M.nil))) (M.opL (one intD) (M.cons (M.op2 ltD (M.rd 4) (M.pure (.int 0))) M.nil)))))
  (M.seq (M.setI 0 (M.own (M.op2 divD (M.rd 5) (M.rd 1))) (M.pure (.int 2)))
  (M.ret (M.own (M.op2 modD (M.rd 5) (M.rd 1))))))
  M.skip)
  (M.seq (M.set 6 (M.own (M.op2 modD (M.op2 powD (M.op2 addB (M.op2 addB (M.op2 addB (M.op2 modD (M.rd 4) (M.pure (.int 2147483579))) (M.op2 mulD (M.op2 mulD (M.pure (.int 47017)) (M.rd 3)) (M.rd 3))) (M.op2 mulD (M.pure (.int 20021)) (M.rd 3))) (M.pure (.int 43))) (M.pure (.int 5))) (M.pure (.int 2147483647)))))
  (M.seq (M.set 6 (M.own (M.op2 modD (M.op2 powD (M.op2 addB (M.op2 addB (M.op2 mulD (M.rd 6) (M.op2 addB (M.rd 3) (M.pure (.int 16807)))) (M.op2 mulD (M.pure (.int 50033)) (M.rd 3))) (M.pure (.int 7))) (M.pure (.int 3))) (M.pure (.int 2147483587)))))
  (M.ret (M.own (M.op2 modD (M.op2 divD (M.rd 6) (M.pure (.int 32))) (M.rd 1)))))))))))) :=
  have nd : n_law_draw.Nodup := s_law_draw.nd
  (sds_cons (sd_if (td_gt (ed_ro (ro_ix (u65 hr) (ro_var 0) qd_int)) ed_int)
  (sds_cons (sd_set 2 nd (by decide) (eo_of (ed_mod (ed_ro (ro_ix (u65 hr) (ro_var 0) qd_int)) (ed_var 1))))
  (sds_cons (sd_setI 0 (u65 hr) (eo_of (ed_fdiv (ed_ro (ro_ix (u65 hr) (ro_var 0) qd_int)) (ed_var 1))) ed_int)
  (sds_one (sd_ret (eo_of (ed_var 2))))))
  sds_nil)
  (sds_cons (sd_set 3 nd (by decide) (eo_of (ed_ro (ro_ix (u65 hr) (ro_var 0) qd_int))))
  (sds_cons (sd_setI 0 (u65 hr) (eo_of (ed_addB (ed_var 3) ed_int)) ed_int)
  (sds_cons (sd_set 4 nd (by decide) (eo_of (ed_addB (ed_mul ed_int (ed_var 3)) ed_int)))
  (sds_cons (sd_if (td_neX g (u65 hr) (ed_ro (ro_ix (u65 hr) (ro_var 0) qd_int)) (ed_frz (eo_lst ad_nil)))
  (sds_one (sd_set 4 nd (by decide) (eo_of (ed_ix (u65 hr) (ed_ro (ro_ix (u65 hr) (ro_var 0) qd_int)) (ed_mod (ed_var 3) (ed_callB call_lenP cd_len rfl (C.free 1) (by decide +kernel) (ad_cons (ed_ro (ro_ix (u65 hr) (ro_var 0) qd_int)) ad_nil)))))))
  sds_nil)
  (sds_cons (sd_if (td_w (wd_and (td_lt (ed_var 3) (ed_callB call_lenP cd_len rfl (C.free 1) (by decide +kernel) (ad_cons (ed_ro (ro_ix (u65 hr) (ro_var 0) qd_int)) ad_nil))) (wd_and1 (td_ge (ed_callB call_abs cd_abs rfl (C.free 2) (by decide +kernel) (ad_cons (ed_var 4) ad_nil)) (ed_pow ed_int ed_int)))))
  (sds_cons (sd_set 5 nd (by decide) (eo_of (ed_addB (ed_mul ed_int (ed_callB call_abs cd_abs rfl (C.free 2) (by decide +kernel) (ad_cons (ed_var 4) ad_nil))) (ed_callTy call_int1 cd_int rfl (C.free 3) (by decide +kernel) (ad_cons (ed_lt (ed_var 4) ed_int) ad_nil)))))
  (sds_cons (sd_setI 0 (u65 hr) (eo_of (ed_fdiv (ed_var 5) (ed_var 1))) ed_int)
  (sds_one (sd_ret (eo_of (ed_mod (ed_var 5) (ed_var 1)))))))
  sds_nil)
  (sds_cons (sd_set 6 nd (by decide) (eo_of (ed_mod (ed_pow (ed_addB (ed_addB (ed_addB (ed_mod (ed_var 4) ed_int) (ed_mul (ed_mul ed_int (ed_var 3)) (ed_var 3))) (ed_mul ed_int (ed_var 3))) ed_int) ed_int) ed_int)))
  (sds_cons (sd_set 6 nd (by decide) (eo_of (ed_mod (ed_pow (ed_addB (ed_addB (ed_mul (ed_var 6) (ed_addB (ed_var 3) ed_int)) (ed_mul ed_int (ed_var 3))) ed_int) ed_int) ed_int)))
  (sds_one (sd_ret (eo_of (ed_mod (ed_fdiv (ed_var 6) ed_int) (ed_var 1)))))))))))))
theorem d_law_draw (C : Cm fa fn tb K mg base) : DefK P w K mg base 1 "_law_draw" ["_law_pen_here", "_law_many"] [0] m_law_draw k_law_draw := by
  obtain ⟨fd, F⟩ := C.says.def_ 1 (d := dd_law_draw) rfl
  exact ⟨_, fd, C.glo 35, fng_of (N := n_law_draw) (k := 0) F s_law_draw rfl rfl (by decide) fun cd A outer s H E hr g => b_law_draw C hr g, F.bindsN fun _ _ _ _ _ _ us hl => match us, hl with | [_, _], _ => rfl, F.kp, fun q hq => nomatch hq⟩
theorem s_law_row : FnScope n_law_row ["_law_pen_here", "_law_form"] (defScope (top 16)) := ⟨rfl, rfl, rfl, by decide +kernel, rfl, by decide +kernel, by decide +kernel⟩
theorem b_law_row (C : Cm fa fn tb K mg base) (D_law_draw : DefK P w K mg base 1 "_law_draw" ["_law_pen_here", "_law_many"] [0] m_law_draw k_law_draw) {f : Addr} {cd : Value} {A : Around} {outer : List Env} {s : Shared} {H : Hp} {E : XK} (hr : Room (1) (CxF P w K mg base n_law_row "_law_row" (defScope (top 16)) f cd A outer s H E).A) (g : Gd (CxF P w K mg base n_law_row "_law_row" (defScope (top 16)) f cd A outer s H E)) :
    SDs (CxF P w K mg base n_law_row "_law_row" (defScope (top 16)) f cd A outer s H E) (WF E) [0] (defBody (top 16)) (M.seq (M.set 2 (M.lc (M.iter rangeD1 (M.cons (M.pure (.int 2)) M.nil)) (gNameD 6) [6] (M.pure true) (M.frz (M.call m_law_draw (M.aR 0 (M.aV (M.pure (.int 4)) M.aNil))))))
  (M.seq (M.set 3 (M.own (M.op2 itemD (M.frz (M.lst (M.cons (M.pure (.int 0)) (M.cons (M.pure (.int 9)) (M.cons (M.pure (.int 10)) (M.cons (M.op1 negD (M.pure (.int 10))) (M.cons (M.pure (.int 99)) (M.cons (M.pure (.int 100)) (M.cons (M.op2 subB (M.op2 powD (M.pure (.int 10)) (M.pure (.int 30))) (M.pure (.int 1))) (M.cons (M.op2 subB (M.pure (.int 1)) (M.op2 powD (M.pure (.int 10)) (M.pure (.int 30)))) M.nil)))))))))) (M.frz (M.call m_law_draw (M.aR 0 (M.aV (M.pure (.int 8)) M.aNil)))))))
  (M.seq (M.set 4 (M.own (M.op2 itemD (M.frz (M.lst (M.cons (M.op2 itemD (M.rd 2) (M.pure (.int 0))) (M.cons (M.op2 itemD (M.rd 2) (M.pure (.int 0))) (M.cons (M.op2 subB (M.op2 itemD (M.rd 2) (M.pure (.int 1))) (M.pure (.int 2))) (M.cons (M.rd 3) M.nil)))))) (M.frz (M.call m_law_draw (M.aR 0 (M.aV (M.pure (.int 4)) M.aNil)))))))
  (M.seq (M.set 5 (M.own (M.frz (M.lst (M.cons (M.tup (M.cons (M.rd 4) M.nil)) (M.cons (M.tup (M.cons (M.rd 4) (M.cons (M.op2 itemD (M.rd 2) (M.pure (.int 1))) M.nil))) (M.cons (M.tup (M.cons (M.tup (M.cons (M.opL (one intD) (M.cons (M.op2 gtD (M.op2 itemD (M.rd 2) (M.pure (.int 0))) (M.pure (.int 0))) M.nil)) (M.cons (M.rd 4) M.nil))) (M.cons (M.op2 itemD (M.rd 2) (M.pure (.int 1))) M.nil))) (M.cons (M.tup (M.cons (M.tup M.nil) (M.cons (M.rd 4) M.nil))) M.nil))))))))
  (M.seq (M.set 5 (M.own (M.op2 addB (M.rd 5) (M.frz (M.lst (M.cons (M.tup (M.cons (M.op2 divD (M.rd 4) (M.pure (.int 2))) (M.cons (M.op2 modD (M.op2 itemD (M.rd 2) (M.pure (.int 0))) (M.pure (.int 2))) (M.cons (M.op2 itemD (M.rd 2) (M.pure (.int 1))) M.nil)))) (M.cons (M.slice (M.tup (M.cons (M.op2 itemD (M.rd 2) (M.pure (.int 0))) (M.cons (M.op2 itemD (M.rd 2) (M.pure (.int 1))) (M.cons (M.rd 4) M.nil)))) M.noEnd (M.anEnd (M.op2 itemD (M.rd 2) (M.pure (.int 0))))) M.nil)))))))
  (M.ret (M.own (M.op2 itemD (M.op2 addB (M.rd 5) (M.frz (M.lst (M.cons (M.tup (M.cons (M.op2 itemD (M.frz (M.lst (M.cons (M.pure (.str "a")) (M.cons (M.pure (.str "ab")) (M.cons (M.pure (.str "B")) (M.cons (M.pure (.str "")) M.nil)))))) (M.op2 itemD (M.rd 2) (M.pure (.int 0)))) (M.cons (M.rd 4) M.nil))) M.nil)))) (M.rd 1))))))))) :=
  have nd : n_law_row.Nodup := s_law_row.nd
  (sds_cons (sd_setLc 2 [("_law_k", 6)] rfl nd (by decide) (id_rng1 rfl (C.free 4) (ad_cons ed_int ad_nil)) (blkOk_by (by show blkC n_law_row (defScope (top 16)) _ _ = true; decide +kernel)) (by decide) (fun _ _ _ _ _ => (gv_name 6 nd (by decide) (by decide))) (fun _ _ _ _ _ => tds_nil) (fun _ _ _ _ _ => (ed_frz (eo_def D_law_draw (Gd.blk g) hr takesW0 (aa_r 0 (aa_v ed_int aa_nil)) (by omega)))) (sw_true rfl rfl rfl rfl))
  (sds_cons (sd_set 3 nd (by decide) (eo_of (ed_ix (u65 hr) (ed_frz (eo_lst (ad_cons ed_int (ad_cons ed_int (ad_cons ed_int (ad_cons (ed_neg ed_int) (ad_cons ed_int (ad_cons ed_int (ad_cons (ed_subB (ed_pow ed_int ed_int) ed_int) (ad_cons (ed_subB ed_int (ed_pow ed_int ed_int)) ad_nil)))))))))) (ed_frz (eo_def D_law_draw g hr (takesF rfl) (aa_r 0 (aa_v ed_int aa_nil)) (by omega))))))
  (sds_cons (sd_set 4 nd (by decide) (eo_of (ed_ix (u65 hr) (ed_frz (eo_lst (ad_cons (ed_ix (u65 hr) (ed_var 2) ed_int) (ad_cons (ed_ix (u65 hr) (ed_var 2) ed_int) (ad_cons (ed_subB (ed_ix (u65 hr) (ed_var 2) ed_int) ed_int) (ad_cons (ed_var 3) ad_nil)))))) (ed_frz (eo_def D_law_draw g hr (takesF rfl) (aa_r 0 (aa_v ed_int aa_nil)) (by omega))))))
  (sds_cons (sd_set 5 nd (by decide) (eo_of (ed_frz (eo_lst (ad_cons (ed_tup (ad_cons (ed_var 4) ad_nil)) (ad_cons (ed_tup (ad_cons (ed_var 4) (ad_cons (ed_ix (u65 hr) (ed_var 2) ed_int) ad_nil))) (ad_cons (ed_tup (ad_cons (ed_tup (ad_cons (ed_callTy call_int1 cd_int rfl (C.free 3) (by decide +kernel) (ad_cons (ed_gt (ed_ix (u65 hr) (ed_var 2) ed_int) ed_int) ad_nil)) (ad_cons (ed_var 4) ad_nil))) (ad_cons (ed_ix (u65 hr) (ed_var 2) ed_int) ad_nil))) (ad_cons (ed_tup (ad_cons (ed_tup ad_nil) (ad_cons (ed_var 4) ad_nil))) ad_nil))))))))
  (sds_cons (sd_set 5 nd (by decide) (eo_of (ed_addB (ed_var 5) (ed_frz (eo_lst (ad_cons (ed_tup (ad_cons (ed_fdiv (ed_var 4) ed_int) (ad_cons (ed_mod (ed_ix (u65 hr) (ed_var 2) ed_int) ed_int) (ad_cons (ed_ix (u65 hr) (ed_var 2) ed_int) ad_nil)))) (ad_cons (ed_slice (ed_tup (ad_cons (ed_ix (u65 hr) (ed_var 2) ed_int) (ad_cons (ed_ix (u65 hr) (ed_var 2) ed_int) (ad_cons (ed_var 4) ad_nil)))) pd_none (pd_some (ed_ix (u65 hr) (ed_var 2) ed_int))) ad_nil)))))))
  (sds_one (sd_ret (eo_of (ed_ix (u65 hr) (ed_addB (ed_var 5) (ed_frz (eo_lst (ad_cons (ed_tup (ad_cons (ed_ix (u65 hr) (ed_frz (eo_lst (ad_cons ed_str (ad_cons ed_str (ad_cons ed_str (ad_cons ed_str ad_nil)))))) (ed_ix (u65 hr) (ed_var 2) ed_int)) (ad_cons (ed_var 4) ad_nil))) ad_nil)))) (ed_var 1))))))))))
theorem d_law_row (C : Cm fa fn tb K mg base) (D_law_draw : DefK P w K mg base 1 "_law_draw" ["_law_pen_here", "_law_many"] [0] m_law_draw k_law_draw) : DefK P w K mg base 2 "_law_row" ["_law_pen_here", "_law_form"] [0] m_law_row k_law_row := by
  obtain ⟨fd, F⟩ := C.says.def_ 2 (d := dd_law_row) rfl
  exact ⟨_, fd, C.glo 36, fng_of (N := n_law_row) (k := 1) F s_law_row rfl rfl (by decide) fun cd A outer s H E hr g => b_law_row C D_law_draw hr g, F.bindsN fun _ _ _ _ _ _ us hl => match us, hl with | [_, _], _ => rfl, F.kp, fun q hq => nomatch hq⟩
theorem sPile___init__ : FnScope nPile___init__ ["self", "hand"] (defScope (inClass (top 12) 0)) := ⟨rfl, rfl, rfl, by decide +kernel, rfl, by decide +kernel, by decide +kernel⟩
theorem bPile___init__ (C : Cm fa fn tb K mg base) {f : Addr} {cd : Value} {A : Around} {outer : List Env} {s : Shared} {H : Hp} {E : XK} (hr : Room (0) (CxF P w K mg base nPile___init__ "Pile.__init__" (defScope (inClass (top 12) 0)) f cd A outer s H E).A) (g : Gd (CxF P w K mg base nPile___init__ "Pile.__init__" (defScope (inClass (top 12) 0)) f cd A outer s H E)) :
    SDs (CxF P w K mg base nPile___init__ "Pile.__init__" (defScope (inClass (top 12) 0)) f cd A outer s H E) (WF E) [0] (defBody (inClass (top 12) 0)) (M.seq (M.setF 0 "Pile" "most_held" (M.own (M.rd 1)))
  (M.seq (M.setF 0 "Pile" "held_rows" (M.lst M.nil))
  (M.seq (M.setF 0 "Pile" "laid_lots" (M.lst M.nil))
  (M.seq (M.setF 0 "Pile" "steps_taken" (M.own (M.pure (.int 0))))
  (M.setF 0 "Pile" "is_ended" (M.own (M.pure (.bool false)))))))) :=
  have nd : nPile___init__.Nodup := sPile___init__.nd
  (sds_cons (sd_setF 0 "Pile" "most_held" (C.fld 5 6 7) (eo_of (ed_var 1)))
  (sds_cons (sd_setF 0 "Pile" "held_rows" (C.fld 5 6 8) (eo_lst ad_nil))
  (sds_cons (sd_setF 0 "Pile" "laid_lots" (C.fld 5 6 9) (eo_lst ad_nil))
  (sds_cons (sd_setF 0 "Pile" "steps_taken" (C.fld 5 6 10) (eo_of ed_int))
  (sds_one (sd_setF 0 "Pile" "is_ended" (C.fld 5 6 11) (eo_of ed_bl)))))))
theorem dPile___init__ (C : Cm fa fn tb K mg base) : MkK P w K mg base 1 "Pile" ["self", "hand"] mPile___init__ := by
  obtain ⟨fd, F⟩ := C.says.def_ 3 (d := ddPile___init__) rfl
  exact ⟨_, _, fd, C.glo 5, C.mkr 46, fng_of (N := nPile___init__) (k := 0) F sPile___init__ rfl rfl (by decide) fun cd A outer s H E hr g => bPile___init__ C hr g, F.bindsN fun _ _ _ _ _ _ us hl => match us, hl with | [_, _], _ => rfl⟩
theorem sPile_lay_out : FnScope nPile_lay_out ["self"] (defScope (inClass (top 12) 1)) := ⟨rfl, rfl, rfl, by decide +kernel, rfl, by decide +kernel, by decide +kernel⟩
theorem bPile_lay_out (C : Cm fa fn tb K mg base) {f : Addr} {cd : Value} {A : Around} {outer : List Env} {s : Shared} {H : Hp} {E : XK} (hr : Room (0) (CxF P w K mg base nPile_lay_out "Pile.lay_out" (defScope (inClass (top 12) 1)) f cd A outer s H E).A) (g : Gd (CxF P w K mg base nPile_lay_out "Pile.lay_out" (defScope (inClass (top 12) 1)) f cd A outer s H E)) :
    SDs (CxF P w K mg base nPile_lay_out "Pile.lay_out" (defScope (inClass (top 12) 1)) f cd A outer s H E) (WF E) [0] (defBody (inClass (top 12) 1)) (M.seq (M.drop (M.frz (M.appP 0 (ppF "Pile" "laid_lots" pp0) (sortBS 0 (ppF "Pile" "held_rows" pp0)))))
  (M.seq (M.augF 0 "Pile" "steps_taken" (· + ·) (M.q1 lenD (dataO (placeO 0 (ppF "Pile" "held_rows" pp0)))))
  (M.setF 0 "Pile" "held_rows" (M.lst M.nil)))) :=
  have nd : nPile_lay_out.Nodup := sPile_lay_out.nd
  (sds_cons (sd_expr (ed_frz (eo_appP (pl_fld "Pile" "laid_lots" (pl_var 0) (C.fld 5 6 9)) (eq_sortB g (u65 hr) rfl (C.free 12) (pl_fld "Pile" "held_rows" (pl_var 0) (C.fld 5 6 8))))))
  (sds_cons (sd_augAdd 0 "Pile" "steps_taken" (C.fld 5 6 10) (ed_q1B call_lenP cd_len rfl (C.free 1) (by decide +kernel) (qd_pl (pl_fld "Pile" "held_rows" (pl_var 0) (C.fld 5 6 8)))))
  (sds_one (sd_setF 0 "Pile" "held_rows" (C.fld 5 6 8) (eo_lst ad_nil)))))
theorem dPile_lay_out (C : Cm fa fn tb K mg base) : MethK P w K mg base 1 "Pile" "lay_out" ["self"] mPile_lay_out kPile_lay_out := by
  obtain ⟨fd, F⟩ := C.says.def_ 4 (d := ddPile_lay_out) rfl
  exact ⟨_, _, fd, C.glo 5, C.cls 6, C.meth 47, fng_of (N := nPile_lay_out) (k := 0) F sPile_lay_out rfl rfl (by decide) fun cd A outer s H E hr g => bPile_lay_out C hr g, F.bindsN fun _ _ _ _ _ _ us hl => match us, hl with | [_], _ => rfl, fun q hq => nomatch hq⟩
theorem sPile_end : FnScope nPile_end ["self"] (defScope (inClass (top 12) 5)) := ⟨rfl, rfl, rfl, by decide +kernel, rfl, by decide +kernel, by decide +kernel⟩
theorem bPile_end (C : Cm fa fn tb K mg base) (DPile_lay_out : MethK P w K mg base 1 "Pile" "lay_out" ["self"] mPile_lay_out kPile_lay_out) {f : Addr} {cd : Value} {A : Around} {outer : List Env} {s : Shared} {H : Hp} {E : XK} (hr : Room (1) (CxF P w K mg base nPile_end "Pile.end" (defScope (inClass (top 12) 5)) f cd A outer s H E).A) (g : Gd (CxF P w K mg base nPile_end "Pile.end" (defScope (inClass (top 12) 5)) f cd A outer s H E)) :
    SDs (CxF P w K mg base nPile_end "Pile.end" (defScope (inClass (top 12) 5)) f cd A outer s H E) (WF E) [0] (defBody (inClass (top 12) 5)) (M.seq (M.ifS (M.trt (M.ro (placeO 0 (ppF "Pile" "is_ended" pp0))))
  (M.raise "Done")
  M.skip)
  (M.seq (M.setF 0 "Pile" "is_ended" (M.own (M.pure (.bool true))))
  (M.ifS (M.tru (M.q2 neL (dataO (placeO 0 (ppF "Pile" "held_rows" pp0))) (fun _ => some (.list []))))
  (M.drop (M.frz (M.methP 0 pp0 "Pile" "lay_out" mPile_lay_out M.nil)))
  M.skip))) :=
  have nd : nPile_end.Nodup := sPile_end.nd
  (sds_cons (sd_if (td_trt (ed_pl (pl_fld "Pile" "is_ended" (pl_var 0) (C.fld 5 6 11))))
  (sds_one (sd_raise0 (C.exck 13 14) rfl (takesF rfl) rfl))
  sds_nil)
  (sds_cons (sd_setF 0 "Pile" "is_ended" (C.fld 5 6 11) (eo_of ed_bl))
  (sds_one (sd_if (td_qE (op_neX g (by have := u65 hr; omega)) opd_neX (qd_pl (pl_fld "Pile" "held_rows" (pl_var 0) (C.fld 5 6 8))))
  (sds_one (sd_expr (ed_frz (eo_meth0 DPile_lay_out g hr (takesF rfl) (pl_var 0) (by omega)))))
  sds_nil))))
theorem dPile_end (C : Cm fa fn tb K mg base) (DPile_lay_out : MethK P w K mg base 1 "Pile" "lay_out" ["self"] mPile_lay_out kPile_lay_out) : MethK P w K mg base 2 "Pile" "end" ["self"] mPile_end kPile_end := by
  obtain ⟨fd, F⟩ := C.says.def_ 5 (d := ddPile_end) rfl
  exact ⟨_, _, fd, C.glo 5, C.cls 6, C.meth 48, fng_of (N := nPile_end) (k := 1) F sPile_end rfl rfl (by decide) fun cd A outer s H E hr g => bPile_end C DPile_lay_out hr g, F.bindsN fun _ _ _ _ _ _ us hl => match us, hl with | [_], _ => rfl, fun q hq => nomatch hq⟩
theorem sPile_put : FnScope nPile_put ["self", "row"] (defScope (inClass (top 12) 2)) := ⟨rfl, rfl, rfl, by decide +kernel, rfl, by decide +kernel, by decide +kernel⟩
theorem bPile_put (C : Cm fa fn tb K mg base) (DPile_lay_out : MethK P w K mg base 1 "Pile" "lay_out" ["self"] mPile_lay_out kPile_lay_out) {f : Addr} {cd : Value} {A : Around} {outer : List Env} {s : Shared} {H : Hp} {E : XK} (hr : Room (1) (CxF P w K mg base nPile_put "Pile.put" (defScope (inClass (top 12) 2)) f cd A outer s H E).A) (g : Gd (CxF P w K mg base nPile_put "Pile.put" (defScope (inClass (top 12) 2)) f cd A outer s H E)) :
    SDs (CxF P w K mg base nPile_put "Pile.put" (defScope (inClass (top 12) 2)) f cd A outer s H E) (WF E) [0] (defBody (inClass (top 12) 2)) (M.seq (M.ifS (M.trt (M.ro (placeO 0 (ppF "Pile" "is_ended" pp0))))
  (M.raise "Done")
  M.skip)
  (M.seq (M.ifS (M.tru (M.op2 geD (M.q1 lenD (dataO (placeO 0 (ppF "Pile" "held_rows" pp0)))) (M.ro (placeO 0 (ppF "Pile" "most_held" pp0)))))
  (M.drop (M.frz (M.methP 0 pp0 "Pile" "lay_out" mPile_lay_out M.nil)))
  M.skip)
  (M.drop (M.frz (M.appP 0 (ppF "Pile" "held_rows" pp0) (purS 1)))))) :=
  have nd : nPile_put.Nodup := sPile_put.nd
  (sds_cons (sd_if (td_trt (ed_pl (pl_fld "Pile" "is_ended" (pl_var 0) (C.fld 5 6 11))))
  (sds_one (sd_raise0 (C.exck 13 14) rfl (takesF rfl) rfl))
  sds_nil)
  (sds_cons (sd_if (td_ge (ed_q1B call_lenP cd_len rfl (C.free 1) (by decide +kernel) (qd_pl (pl_fld "Pile" "held_rows" (pl_var 0) (C.fld 5 6 8)))) (ed_pl (pl_fld "Pile" "most_held" (pl_var 0) (C.fld 5 6 7))))
  (sds_one (sd_expr (ed_frz (eo_meth0 DPile_lay_out g hr (takesF rfl) (pl_var 0) (by omega)))))
  sds_nil)
  (sds_one (sd_expr (ed_frz (eo_appP (pl_fld "Pile" "held_rows" (pl_var 0) (C.fld 5 6 8)) (eq_var 1)))))))
theorem dPile_put (C : Cm fa fn tb K mg base) (DPile_lay_out : MethK P w K mg base 1 "Pile" "lay_out" ["self"] mPile_lay_out kPile_lay_out) : MethK P w K mg base 2 "Pile" "put" ["self", "row"] mPile_put kPile_put := by
  obtain ⟨fd, F⟩ := C.says.def_ 6 (d := ddPile_put) rfl
  exact ⟨_, _, fd, C.glo 5, C.cls 6, C.meth 49, fng_of (N := nPile_put) (k := 1) F sPile_put rfl rfl (by decide) fun cd A outer s H E hr g => bPile_put C DPile_lay_out hr g, F.bindsN fun _ _ _ _ _ _ us hl => match us, hl with | [_, _], _ => rfl, fun q hq => nomatch hq⟩
theorem s_law_ended : FnScope n_law_ended ["_law_rows", "_law_hands"] (defScope (top 21)) := ⟨rfl, rfl, rfl, by decide +kernel, rfl, by decide +kernel, by decide +kernel⟩
theorem b_law_ended (C : Cm fa fn tb K mg base) (DPile___init__ : MkK P w K mg base 1 "Pile" ["self", "hand"] mPile___init__) (DPile_end : MethK P w K mg base 2 "Pile" "end" ["self"] mPile_end kPile_end) (DPile_put : MethK P w K mg base 2 "Pile" "put" ["self", "row"] mPile_put kPile_put) {f : Addr} {cd : Value} {A : Around} {outer : List Env} {s : Shared} {H : Hp} {E : XK} (hr : Room (2) (CxF P w K mg base n_law_ended "_law_ended" (defScope (top 21)) f cd A outer s H E).A) (g : Gd (CxF P w K mg base n_law_ended "_law_ended" (defScope (top 21)) f cd A outer s H E)) :
    SDs (CxF P w K mg base n_law_ended "_law_ended" (defScope (top 21)) f cd A outer s H E) (WF E) [] (defBody (top 21)) (M.seq (M.set 2 (M.lcA (M.items (M.rd 1)) (gNameD 5) [5] (M.pure true) (M.bind (M.cons (M.rd 5) M.nil) fun ds => newI "Pile" mPile___init__ ds)))
  (M.seq (M.for (M.items (M.rd 0)) (gNameD 3)
  (M.forB 2 4
  (M.drop (M.frz (M.methP 4 pp0 "Pile" "put" mPile_put (M.cons (M.rd 3) M.nil))))))
  (M.seq (M.forB 2 4
  (M.drop (M.frz (M.methP 4 pp0 "Pile" "end" mPile_end M.nil))))
  (M.ret (M.mv 2))))) :=
  have nd : n_law_ended.Nodup := s_law_ended.nd
  (sds_cons (sd_setLcA 2 [("_law_hand", 5)] rfl nd (by decide) (id_any (ed_var 1)) (blkOk_by (by show blkC n_law_ended (defScope (top 21)) _ _ = true; decide +kernel)) (by decide) (fun _ _ _ _ _ => (gv_name 5 nd (by decide) (by decide))) (fun _ _ _ _ _ => tds_nil) (fun _ _ _ _ _ => (eo_new DPile___init__ (Gd.blk g) hr takesW0 (ad_cons (ed_var 5) ad_nil) (by omega))) (sw_true rfl rfl rfl rfl))
  (sds_cons (sd_for passF rfl (id_any (ed_var 0)) (gv_gt (is := [3]) (gv_name 3 nd (by decide) (by decide)))
  (sds_one (sd_forB 2 4 (by decide) nd passF rfl
  (sds_one (sd_expr (ed_frz (eo_meth DPile_put g hr (takesF rfl) (pl_var 4) (ad_cons (ed_var 3) ad_nil) (by omega))))))))
  (sds_cons (sd_forB 2 4 (by decide) nd passF rfl
  (sds_one (sd_expr (ed_frz (eo_meth0 DPile_end g hr (takesF rfl) (pl_var 4) (by omega))))))
  (sds_one (sd_ret (eo_mv 2))))))
theorem d_law_ended (C : Cm fa fn tb K mg base) (DPile___init__ : MkK P w K mg base 1 "Pile" ["self", "hand"] mPile___init__) (DPile_end : MethK P w K mg base 2 "Pile" "end" ["self"] mPile_end kPile_end) (DPile_put : MethK P w K mg base 2 "Pile" "put" ["self", "row"] mPile_put kPile_put) : DefK P w K mg base 3 "_law_ended" ["_law_rows", "_law_hands"] [] m_law_ended k_law_ended := by
  obtain ⟨fd, F⟩ := C.says.def_ 7 (d := dd_law_ended) rfl
  exact ⟨_, fd, C.glo 37, fng_of (N := n_law_ended) (k := 2) F s_law_ended rfl rfl (by decide) fun cd A outer s H E hr g => b_law_ended C DPile___init__ DPile_end DPile_put hr g, F.bindsN fun _ _ _ _ _ _ us hl => match us, hl with | [_, _], _ => rfl, F.kp, fun q hq => nomatch hq⟩
theorem sPile_call_back : FnScope nPile_call_back ["self", "n"] (defScope (inClass (top 12) 4)) := ⟨rfl, rfl, rfl, by decide +kernel, rfl, by decide +kernel, by decide +kernel⟩
theorem bPile_call_back (C : Cm fa fn tb K mg base) (DPile_lay_out : MethK P w K mg base 1 "Pile" "lay_out" ["self"] mPile_lay_out kPile_lay_out) {f : Addr} {cd : Value} {A : Around} {outer : List Env} {s : Shared} {H : Hp} {E : XK} (hr : Room (1) (CxF P w K mg base nPile_call_back "Pile.call_back" (defScope (inClass (top 12) 4)) f cd A outer s H E).A) (g : Gd (CxF P w K mg base nPile_call_back "Pile.call_back" (defScope (inClass (top 12) 4)) f cd A outer s H E)) :
    SDs (CxF P w K mg base nPile_call_back "Pile.call_back" (defScope (inClass (top 12) 4)) f cd A outer s H E) (WF E) [0] (defBody (inClass (top 12) 4)) (M.seq (M.ifS (M.tru (M.op2 ltD (M.op2 subB (M.ro (placeO 0 (ppF "Pile" "most_held" pp0))) (M.rd 1)) (M.pure (.int 1))))
  (M.raise "NoRoom")
  M.skip)
  (M.seq (M.augF 0 "Pile" "most_held" (· - ·) (M.rd 1))
  (M.ifS (M.tru (M.op2 gtD (M.q1 lenD (dataO (placeO 0 (ppF "Pile" "held_rows" pp0)))) (M.ro (placeO 0 (ppF "Pile" "most_held" pp0)))))
  (M.drop (M.frz (M.methP 0 pp0 "Pile" "lay_out" mPile_lay_out M.nil)))
  M.skip))) :=
  have nd : nPile_call_back.Nodup := sPile_call_back.nd
  (sds_cons (sd_if (td_lt (ed_subB (ed_pl (pl_fld "Pile" "most_held" (pl_var 0) (C.fld 5 6 7))) (ed_var 1)) ed_int)
  (sds_one (sd_raise0 (C.exck 15 16) rfl (takesF rfl) rfl))
  sds_nil)
  (sds_cons (sd_augSub 0 "Pile" "most_held" (C.fld 5 6 7) (ed_var 1))
  (sds_one (sd_if (td_gt (ed_q1B call_lenP cd_len rfl (C.free 1) (by decide +kernel) (qd_pl (pl_fld "Pile" "held_rows" (pl_var 0) (C.fld 5 6 8)))) (ed_pl (pl_fld "Pile" "most_held" (pl_var 0) (C.fld 5 6 7))))
  (sds_one (sd_expr (ed_frz (eo_meth0 DPile_lay_out g hr (takesF rfl) (pl_var 0) (by omega)))))
  sds_nil))))
theorem dPile_call_back (C : Cm fa fn tb K mg base) (DPile_lay_out : MethK P w K mg base 1 "Pile" "lay_out" ["self"] mPile_lay_out kPile_lay_out) : MethK P w K mg base 2 "Pile" "call_back" ["self", "n"] mPile_call_back kPile_call_back := by
  obtain ⟨fd, F⟩ := C.says.def_ 8 (d := ddPile_call_back) rfl
  exact ⟨_, _, fd, C.glo 5, C.cls 6, C.meth 50, fng_of (N := nPile_call_back) (k := 1) F sPile_call_back rfl rfl (by decide) fun cd A outer s H E hr g => bPile_call_back C DPile_lay_out hr g, F.bindsN fun _ _ _ _ _ _ us hl => match us, hl with | [_, _], _ => rfl, fun q hq => nomatch hq⟩
theorem s_law_lots : FnScope n_law_lots ["_law_many", "_law_hand"] (defScope (top 18)) := ⟨rfl, rfl, rfl, by decide +kernel, rfl, by decide +kernel, by decide +kernel⟩
theorem b_law_lots (C : Cm fa fn tb K mg base) {f : Addr} {cd : Value} {A : Around} {outer : List Env} {s : Shared} {H : Hp} {E : XK} (hr : Room (0) (CxF P w K mg base n_law_lots "_law_lots" (defScope (top 18)) f cd A outer s H E).A) (g : Gd (CxF P w K mg base n_law_lots "_law_lots" (defScope (top 18)) f cd A outer s H E)) :
    SDs (CxF P w K mg base n_law_lots "_law_lots" (defScope (top 18)) f cd A outer s H E) (WF E) [] (defBody (top 18)) (M.ret (M.own (M.op2 divD (M.op2 subB (M.op2 addB (M.rd 0) (M.rd 1)) (M.pure (.int 1))) (M.rd 1)))) :=
  have nd : n_law_lots.Nodup := s_law_lots.nd
  (sds_one (sd_ret (eo_of (ed_fdiv (ed_subB (ed_addB (ed_var 0) (ed_var 1)) ed_int) (ed_var 1)))))
theorem d_law_lots (C : Cm fa fn tb K mg base) : DefK P w K mg base 1 "_law_lots" ["_law_many", "_law_hand"] [] m_law_lots k_law_lots := by
  obtain ⟨fd, F⟩ := C.says.def_ 9 (d := dd_law_lots) rfl
  exact ⟨_, fd, C.glo 38, fng_of (N := n_law_lots) (k := 0) F s_law_lots rfl rfl (by decide) fun cd A outer s H E hr g => b_law_lots C hr g, F.bindsN fun _ _ _ _ _ _ us hl => match us, hl with | [_, _], _ => rfl, F.kp, fun q hq => nomatch hq⟩
theorem sPile_lend : FnScope nPile_lend ["self", "n"] (defScope (inClass (top 12) 3)) := ⟨rfl, rfl, rfl, by decide +kernel, rfl, by decide +kernel, by decide +kernel⟩
theorem bPile_lend (C : Cm fa fn tb K mg base) {f : Addr} {cd : Value} {A : Around} {outer : List Env} {s : Shared} {H : Hp} {E : XK} (hr : Room (0) (CxF P w K mg base nPile_lend "Pile.lend" (defScope (inClass (top 12) 3)) f cd A outer s H E).A) (g : Gd (CxF P w K mg base nPile_lend "Pile.lend" (defScope (inClass (top 12) 3)) f cd A outer s H E)) :
    SDs (CxF P w K mg base nPile_lend "Pile.lend" (defScope (inClass (top 12) 3)) f cd A outer s H E) (WF E) [0] (defBody (inClass (top 12) 3)) (M.augF 0 "Pile" "most_held" (· + ·) (M.rd 1)) :=
  have nd : nPile_lend.Nodup := sPile_lend.nd
  (sds_one (sd_augAdd 0 "Pile" "most_held" (C.fld 5 6 7) (ed_var 1)))
theorem dPile_lend (C : Cm fa fn tb K mg base) : MethK P w K mg base 1 "Pile" "lend" ["self", "n"] mPile_lend kPile_lend := by
  obtain ⟨fd, F⟩ := C.says.def_ 10 (d := ddPile_lend) rfl
  exact ⟨_, _, fd, C.glo 5, C.cls 6, C.meth 51, fng_of (N := nPile_lend) (k := 0) F sPile_lend rfl rfl (by decide) fun cd A outer s H E hr g => bPile_lend C hr g, F.bindsN fun _ _ _ _ _ _ us hl => match us, hl with | [_, _], _ => rfl, fun q hq => nomatch hq⟩
theorem sPile_lots : FnScope nPile_lots ["self"] (defScope (inClass (top 12) 7)) := ⟨rfl, rfl, rfl, by decide +kernel, rfl, by decide +kernel, by decide +kernel⟩
theorem bPile_lots (C : Cm fa fn tb K mg base) {f : Addr} {cd : Value} {A : Around} {outer : List Env} {s : Shared} {H : Hp} {E : XK} (hr : Room (0) (CxF P w K mg base nPile_lots "Pile.lots" (defScope (inClass (top 12) 7)) f cd A outer s H E).A) (g : Gd (CxF P w K mg base nPile_lots "Pile.lots" (defScope (inClass (top 12) 7)) f cd A outer s H E)) :
    SDs (CxF P w K mg base nPile_lots "Pile.lots" (defScope (inClass (top 12) 7)) f cd A outer s H E) (WF E) [0] (defBody (inClass (top 12) 7)) (M.ret (M.own (M.q1 lenD (dataO (placeO 0 (ppF "Pile" "laid_lots" pp0)))))) :=
  have nd : nPile_lots.Nodup := sPile_lots.nd
  (sds_one (sd_ret (eo_of (ed_q1B call_lenP cd_len rfl (C.free 1) (by decide +kernel) (qd_pl (pl_fld "Pile" "laid_lots" (pl_var 0) (C.fld 5 6 9)))))))
theorem dPile_lots (C : Cm fa fn tb K mg base) : MethK P w K mg base 1 "Pile" "lots" ["self"] mPile_lots kPile_lots := by
  obtain ⟨fd, F⟩ := C.says.def_ 11 (d := ddPile_lots) rfl
  exact ⟨_, _, fd, C.glo 5, C.cls 6, C.meth 52, fng_of (N := nPile_lots) (k := 0) F sPile_lots rfl rfl (by decide) fun cd A outer s H E hr g => bPile_lots C hr g, F.bindsN fun _ _ _ _ _ _ us hl => match us, hl with | [_], _ => rfl, fun q hq => nomatch hq⟩
theorem smerged : FnScope nmerged ["lots"] (defScope (top 11)) := ⟨rfl, rfl, rfl, by decide +kernel, rfl, by decide +kernel, by decide +kernel⟩
theorem bmerged (C : Cm fa fn tb K mg base) {f : Addr} {cd : Value} {A : Around} {outer : List Env} {s : Shared} {H : Hp} {E : XK} (LT : LamT K mg base cd "merged") (hr : Room (1) (CxF P w K mg base nmerged "merged" (defScope (top 11)) f cd A outer s H E).A) (g : Gd (CxF P w K mg base nmerged "merged" (defScope (top 11)) f cd A outer s H E)) :
    SDs (CxF P w K mg base nmerged "merged" (defScope (top 11)) f cd A outer s H E) (WF E) [] (defBody (top 11)) M.merged :=
  have nd : nmerged.Nodup := smerged.nd
  (PSs_mono (pss_cons (ps_setLc (i := 1) (own := [("lot", 4)]) rfl nd rfl rfl (sw_true rfl rfl rfl rfl) (pi_list (pe_var (i := 0) rfl (by first | exact Or.inl rfl | exact Or.inr (Or.inl rfl) | exact Or.inr (Or.inr rfl)) (by decide) (by decide))) (blkOk_by (by show blkC nmerged (defScope (top 11)) _ _ = true; decide +kernel)) (fun _ _ _ _ _ => pg_name nd rfl (by first | exact Or.inl rfl | exact Or.inr rfl)) (fun _ _ _ _ _ => (pts_one (pt_cmpR (op_neX (Gd.blk g) (Nat.lt_of_succ_lt (u65 hr))) (pe_var (i := 4) rfl (by first | exact Or.inl rfl | exact Or.inr (Or.inl rfl) | exact Or.inr (Or.inr rfl)) (by decide) (by decide)) (pe_lst pa_nil) (by first | exact nomark _ | rfl)))) (fun _ _ _ _ _ => (pe_callTy call_list_of rfl (C.free 0) (by decide +kernel) (pa_cons (pe_var (i := 4) rfl (by first | exact Or.inl rfl | exact Or.inr (Or.inl rfl) | exact Or.inr (Or.inr rfl)) (by decide) (by decide)) pa_nil))))
  (pss_cons (ps_set (i := 2) nd rfl (by first | exact Or.inl rfl | exact Or.inr rfl) (pe_lst pa_nil))
  (pss_cons (ps_while passF (pt_cmpR (op_neX g (Nat.lt_of_succ_lt (u65 hr))) (pe_var (i := 1) rfl (by first | exact Or.inl rfl | exact Or.inr (Or.inl rfl) | exact Or.inr (Or.inr rfl)) (by decide) (by decide)) (pe_lst pa_nil) (by first | exact nomark _ | rfl)) (pss_cons (ps_set (i := 3) nd rfl (by first | exact Or.inl rfl | exact Or.inr rfl) (pe_minH (p := "lot") g hr rfl LT rfl (lamS1_by (p := "lot") (by show lamS1B (defScope (top 11)) _ _ = true; decide +kernel)) rfl (C.free 17) rfl (fun _ _ _ _ _ _ => rfl) (by decide) (by decide) (pe_var (i := 1) rfl (by first | exact Or.inl rfl | exact Or.inr (Or.inl rfl) | exact Or.inr (Or.inr rfl)) (by decide) (by decide))))
  (pss_cons (ps_expr (pe_bm PySem.F.plainAttrs_list PySem.F.slot_list_append PySem.F.type_list_append mt_append (pe_var (i := 2) rfl (by first | exact Or.inl rfl | exact Or.inr (Or.inl rfl) | exact Or.inr (Or.inr rfl)) (by decide) (by decide)) (pa_cons (pe_bm PySem.F.plainAttrs_list PySem.F.slot_list_pop PySem.F.type_list_pop mt_popAt (pe_var (i := 3) rfl (by first | exact Or.inl rfl | exact Or.inr (Or.inl rfl) | exact Or.inr (Or.inr rfl)) (by decide) (by decide)) (pa_cons pe_int pa_nil)) pa_nil)))
  (pss_one (ps_setLc (i := 1) (own := [("lot", 4)]) rfl nd rfl rfl (sw_true rfl rfl rfl rfl) (pi_list (pe_var (i := 1) rfl (by first | exact Or.inl rfl | exact Or.inr (Or.inl rfl) | exact Or.inr (Or.inr rfl)) (by decide) (by decide))) (blkOk_by (by show blkC nmerged (defScope (top 11)) _ _ = true; decide +kernel)) (fun _ _ _ _ _ => pg_name nd rfl (by first | exact Or.inl rfl | exact Or.inr rfl)) (fun _ _ _ _ _ => (pts_one (pt_cmpR (op_neX (Gd.blk g) (Nat.lt_of_succ_lt (u65 hr))) (pe_var (i := 4) rfl (by first | exact Or.inl rfl | exact Or.inr (Or.inl rfl) | exact Or.inr (Or.inr rfl)) (by decide) (by decide)) (pe_lst pa_nil) (by first | exact nomark _ | rfl)))) (fun _ _ _ _ _ => (pe_var (i := 4) rfl (by first | exact Or.inl rfl | exact Or.inr (Or.inl rfl) | exact Or.inr (Or.inr rfl)) (by decide) (by decide))))))))
  (pss_one (ps_ret (pe_var (i := 2) rfl (by first | exact Or.inl rfl | exact Or.inr (Or.inl rfl) | exact Or.inr (Or.inr rfl)) (by decide) (by decide))))))) fun D σ H h => merged_law h)
theorem dmerged (C : Cm fa fn tb K mg base) : DefK P w K mg base 2 "merged" ["lots"] [] mmerged kmerged := by
  obtain ⟨fd, F⟩ := C.says.def_ 12 (d := ddmerged) rfl
  exact ⟨_, fd, C.glo 39, fng_ofC C.kin C.ns (C.codes 18 (zs := [])) (N := nmerged) (k := 1) F smerged rfl rfl (by decide) fun cd A outer s H E LT hr g => bmerged C LT hr g, F.bindsN fun _ _ _ _ _ _ us hl => match us, hl with | [_], _ => rfl, F.kp, fun q hq => nomatch hq⟩
theorem sPile_merge : FnScope nPile_merge ["self"] (defScope (inClass (top 12) 6)) := ⟨rfl, rfl, rfl, by decide +kernel, rfl, by decide +kernel, by decide +kernel⟩
theorem bPile_merge (C : Cm fa fn tb K mg base) (Dmerged : DefK P w K mg base 2 "merged" ["lots"] [] mmerged kmerged) (DPile_lots : MethK P w K mg base 1 "Pile" "lots" ["self"] mPile_lots kPile_lots) {f : Addr} {cd : Value} {A : Around} {outer : List Env} {s : Shared} {H : Hp} {E : XK} (hr : Room (2) (CxF P w K mg base nPile_merge "Pile.merge" (defScope (inClass (top 12) 6)) f cd A outer s H E).A) (g : Gd (CxF P w K mg base nPile_merge "Pile.merge" (defScope (inClass (top 12) 6)) f cd A outer s H E)) :
    SDs (CxF P w K mg base nPile_merge "Pile.merge" (defScope (inClass (top 12) 6)) f cd A outer s H E) (WF E) [0] (defBody (inClass (top 12) 6)) (M.seq (M.ifS (M.not (M.trt (M.ro (placeO 0 (ppF "Pile" "is_ended" pp0)))))
  (M.raise "NotDone")
  M.skip)
  (M.seq (M.ifS (M.tru (M.op2 ltD (M.frz (M.methP 0 pp0 "Pile" "lots" mPile_lots M.nil)) (M.pure (.int 2))))
  (M.raise "Done")
  M.skip)
  (M.seq (M.set 1 (M.own (M.opL (two maxD) (M.cons (M.pure (.int 2)) (M.cons (M.ro (placeO 0 (ppF "Pile" "most_held" pp0))) M.nil)))))
  (M.seq (M.set 2 (M.own (M.frz (M.call mmerged (M.aV (M.slice (M.rdP 0 (ppF "Pile" "laid_lots" pp0)) M.noEnd (M.anEnd (M.rd 1))) M.aNil)))))
  (M.seq (M.setF 0 "Pile" "laid_lots" (M.own (M.op2 addB (M.slice (M.rdP 0 (ppF "Pile" "laid_lots" pp0)) (M.anEnd (M.rd 1)) M.noEnd) (M.frz (M.lst (M.cons (M.rd 2) M.nil))))))
  (M.augF 0 "Pile" "steps_taken" (· + ·) (M.opL (one lenD) (M.cons (M.rd 2) M.nil)))))))) :=
  have nd : nPile_merge.Nodup := sPile_merge.nd
  (sds_cons (sd_if (td_not (td_trt (ed_pl (pl_fld "Pile" "is_ended" (pl_var 0) (C.fld 5 6 11)))))
  (sds_one (sd_raise0 (C.exck 18 19) rfl (takesF rfl) rfl))
  sds_nil)
  (sds_cons (sd_if (td_lt (ed_frz (eo_meth0 DPile_lots g hr (takesF rfl) (pl_var 0) (by omega))) (ed_gint (C.int 20)))
  (sds_one (sd_raise0 (C.exck 13 14) rfl (takesF rfl) rfl))
  sds_nil)
  (sds_cons (sd_set 1 nd (by decide) (eo_of (ed_callB (call_max2 rfl) cd_max rfl (C.free 21) (by decide +kernel) (ad_cons (ed_gint (C.int 20)) (ad_cons (ed_pl (pl_fld "Pile" "most_held" (pl_var 0) (C.fld 5 6 7))) ad_nil)))))
  (sds_cons (sd_set 2 nd (by decide) (eo_of (ed_frz (eo_def Dmerged g hr (takesF rfl) (aa_v (ed_slice (ed_rdP (pl_fld "Pile" "laid_lots" (pl_var 0) (C.fld 5 6 9))) pd_none (pd_some (ed_var 1))) aa_nil) (by omega)))))
  (sds_cons (sd_setF 0 "Pile" "laid_lots" (C.fld 5 6 9) (eo_of (ed_addB (ed_slice (ed_rdP (pl_fld "Pile" "laid_lots" (pl_var 0) (C.fld 5 6 9))) (pd_some (ed_var 1)) pd_none) (ed_frz (eo_lst (ad_cons (ed_var 2) ad_nil))))))
  (sds_one (sd_augAdd 0 "Pile" "steps_taken" (C.fld 5 6 10) (ed_callB call_lenP cd_len rfl (C.free 1) (by decide +kernel) (ad_cons (ed_var 2) ad_nil)))))))))
theorem dPile_merge (C : Cm fa fn tb K mg base) (Dmerged : DefK P w K mg base 2 "merged" ["lots"] [] mmerged kmerged) (DPile_lots : MethK P w K mg base 1 "Pile" "lots" ["self"] mPile_lots kPile_lots) : MethK P w K mg base 3 "Pile" "merge" ["self"] mPile_merge kPile_merge := by
  obtain ⟨fd, F⟩ := C.says.def_ 13 (d := ddPile_merge) rfl
  exact ⟨_, _, fd, C.glo 5, C.cls 6, C.meth 53, fng_of (N := nPile_merge) (k := 2) F sPile_merge rfl rfl (by decide) fun cd A outer s H E hr g => bPile_merge C Dmerged DPile_lots hr g, F.bindsN fun _ _ _ _ _ _ us hl => match us, hl with | [_], _ => rfl, fun q hq => nomatch hq⟩
theorem s_law_count : FnScope n_law_count ["_law_pile", "_law_most"] (defScope (top 20)) := ⟨rfl, rfl, rfl, by decide +kernel, rfl, by decide +kernel, by decide +kernel⟩
theorem b_law_count (C : Cm fa fn tb K mg base) (DPile_lots : MethK P w K mg base 1 "Pile" "lots" ["self"] mPile_lots kPile_lots) (DPile_merge : MethK P w K mg base 3 "Pile" "merge" ["self"] mPile_merge kPile_merge) {f : Addr} {cd : Value} {A : Around} {outer : List Env} {s : Shared} {H : Hp} {E : XK} (hr : Room (3) (CxF P w K mg base n_law_count "_law_count" (defScope (top 20)) f cd A outer s H E).A) (g : Gd (CxF P w K mg base n_law_count "_law_count" (defScope (top 20)) f cd A outer s H E)) :
    SDs (CxF P w K mg base n_law_count "_law_count" (defScope (top 20)) f cd A outer s H E) (WF E) [0] (defBody (top 20)) (M.seq (M.set 2 (M.own (M.pure (.int 0))))
  (M.seq (M.for (M.iter rangeD1 (M.cons (M.rd 1) M.nil)) (gNameD 3)
  (M.ifS (M.tru (M.op2 gtD (M.frz (M.methP 0 pp0 "Pile" "lots" mPile_lots M.nil)) (M.pure (.int 1))))
  (M.seq (M.drop (M.frz (M.methP 0 pp0 "Pile" "merge" mPile_merge M.nil)))
  (M.set 2 (M.own (M.op2 addB (M.rd 2) (M.pure (.int 1))))))
  M.skip))
  (M.ret (M.own (M.rd 2))))) :=
  have nd : n_law_count.Nodup := s_law_count.nd
  (sds_cons (sd_set 2 nd (by decide) (eo_of ed_int))
  (sds_cons (sd_for passF rfl (id_rng1 rfl (C.free 4) (ad_cons (ed_var 1) ad_nil)) (gv_gt (is := [3]) (gv_name 3 nd (by decide) (by decide)))
  (sds_one (sd_if (td_gt (ed_frz (eo_meth0 DPile_lots g hr (takesF rfl) (pl_var 0) (by omega))) ed_int)
  (sds_cons (sd_expr (ed_frz (eo_meth0 DPile_merge g hr (takesF rfl) (pl_var 0) (by omega))))
  (sds_one (sd_set 2 nd (by decide) (eo_of (ed_addB (ed_var 2) ed_int)))))
  sds_nil)))
  (sds_one (sd_ret (eo_of (ed_var 2))))))
theorem d_law_count (C : Cm fa fn tb K mg base) (DPile_lots : MethK P w K mg base 1 "Pile" "lots" ["self"] mPile_lots kPile_lots) (DPile_merge : MethK P w K mg base 3 "Pile" "merge" ["self"] mPile_merge kPile_merge) : DefK P w K mg base 4 "_law_count" ["_law_pile", "_law_most"] [0] m_law_count k_law_count := by
  obtain ⟨fd, F⟩ := C.says.def_ 14 (d := dd_law_count) rfl
  exact ⟨_, fd, C.glo 40, fng_of (N := n_law_count) (k := 3) F s_law_count rfl rfl (by decide) fun cd A outer s H E hr g => b_law_count C DPile_lots DPile_merge hr g, F.bindsN fun _ _ _ _ _ _ us hl => match us, hl with | [_, _], _ => rfl, F.kp, fun q hq => nomatch hq⟩
theorem sPile_steps : FnScope nPile_steps ["self"] (defScope (inClass (top 12) 8)) := ⟨rfl, rfl, rfl, by decide +kernel, rfl, by decide +kernel, by decide +kernel⟩
theorem bPile_steps (C : Cm fa fn tb K mg base) {f : Addr} {cd : Value} {A : Around} {outer : List Env} {s : Shared} {H : Hp} {E : XK} (hr : Room (0) (CxF P w K mg base nPile_steps "Pile.steps" (defScope (inClass (top 12) 8)) f cd A outer s H E).A) (g : Gd (CxF P w K mg base nPile_steps "Pile.steps" (defScope (inClass (top 12) 8)) f cd A outer s H E)) :
    SDs (CxF P w K mg base nPile_steps "Pile.steps" (defScope (inClass (top 12) 8)) f cd A outer s H E) (WF E) [0] (defBody (inClass (top 12) 8)) (M.ret (M.own (M.ro (placeO 0 (ppF "Pile" "steps_taken" pp0))))) :=
  have nd : nPile_steps.Nodup := sPile_steps.nd
  (sds_one (sd_ret (eo_of (ed_pl (pl_fld "Pile" "steps_taken" (pl_var 0) (C.fld 5 6 10))))))
theorem dPile_steps (C : Cm fa fn tb K mg base) : MethK P w K mg base 1 "Pile" "steps" ["self"] mPile_steps kPile_steps := by
  obtain ⟨fd, F⟩ := C.says.def_ 15 (d := ddPile_steps) rfl
  exact ⟨_, _, fd, C.glo 5, C.cls 6, C.meth 54, fng_of (N := nPile_steps) (k := 0) F sPile_steps rfl rfl (by decide) fun cd A outer s H E hr g => bPile_steps C hr g, F.bindsN fun _ _ _ _ _ _ us hl => match us, hl with | [_], _ => rfl, fun q hq => nomatch hq⟩
theorem sPile_hand : FnScope nPile_hand ["self"] (defScope (inClass (top 12) 9)) := ⟨rfl, rfl, rfl, by decide +kernel, rfl, by decide +kernel, by decide +kernel⟩
theorem bPile_hand (C : Cm fa fn tb K mg base) {f : Addr} {cd : Value} {A : Around} {outer : List Env} {s : Shared} {H : Hp} {E : XK} (hr : Room (0) (CxF P w K mg base nPile_hand "Pile.hand" (defScope (inClass (top 12) 9)) f cd A outer s H E).A) (g : Gd (CxF P w K mg base nPile_hand "Pile.hand" (defScope (inClass (top 12) 9)) f cd A outer s H E)) :
    SDs (CxF P w K mg base nPile_hand "Pile.hand" (defScope (inClass (top 12) 9)) f cd A outer s H E) (WF E) [0] (defBody (inClass (top 12) 9)) (M.ret (M.own (M.ro (placeO 0 (ppF "Pile" "most_held" pp0))))) :=
  have nd : nPile_hand.Nodup := sPile_hand.nd
  (sds_one (sd_ret (eo_of (ed_pl (pl_fld "Pile" "most_held" (pl_var 0) (C.fld 5 6 7))))))
theorem dPile_hand (C : Cm fa fn tb K mg base) : MethK P w K mg base 1 "Pile" "hand" ["self"] mPile_hand kPile_hand := by
  obtain ⟨fd, F⟩ := C.says.def_ 16 (d := ddPile_hand) rfl
  exact ⟨_, _, fd, C.glo 5, C.cls 6, C.meth 55, fng_of (N := nPile_hand) (k := 0) F sPile_hand rfl rfl (by decide) fun cd A outer s H E hr g => bPile_hand C hr g, F.bindsN fun _ _ _ _ _ _ us hl => match us, hl with | [_], _ => rfl, fun q hq => nomatch hq⟩
theorem s_law_lent_right : FnScope n_law_lent_right ["_law_pile", "_law_lots_here", "_law_many"] (defScope (top 22)) := ⟨rfl, rfl, rfl, by decide +kernel, rfl, by decide +kernel, by decide +kernel⟩
theorem b_law_lent_right (C : Cm fa fn tb K mg base) (DPile_lend : MethK P w K mg base 1 "Pile" "lend" ["self", "n"] mPile_lend kPile_lend) (D_law_count : DefK P w K mg base 4 "_law_count" ["_law_pile", "_law_most"] [0] m_law_count k_law_count) (DPile_lots : MethK P w K mg base 1 "Pile" "lots" ["self"] mPile_lots kPile_lots) (DPile_steps : MethK P w K mg base 1 "Pile" "steps" ["self"] mPile_steps kPile_steps) (DPile_hand : MethK P w K mg base 1 "Pile" "hand" ["self"] mPile_hand kPile_hand) {f : Addr} {cd : Value} {A : Around} {outer : List Env} {s : Shared} {H : Hp} {E : XK} (hr : Room (4) (CxF P w K mg base n_law_lent_right "_law_lent_right" (defScope (top 22)) f cd A outer s H E).A) (g : Gd (CxF P w K mg base n_law_lent_right "_law_lent_right" (defScope (top 22)) f cd A outer s H E)) :
    SDs (CxF P w K mg base n_law_lent_right "_law_lent_right" (defScope (top 22)) f cd A outer s H E) (WF E) [0] (defBody (top 22)) (M.seq (M.drop (M.frz (M.methV 0 "Pile" "lend" mPile_lend (M.cons (M.opL (two maxD) (M.cons (M.pure (.int 0)) (M.cons (M.op2 subB (M.rd 1) (M.frz (M.methP 0 pp0 "Pile" "hand" mPile_hand M.nil))) M.nil))) M.nil))))
  (M.seq (M.ifS (M.or (M.tru (M.op2 neD (M.frz (M.methP 0 pp0 "Pile" "lots" mPile_lots M.nil)) (M.rd 1))) (M.tru (M.op2 neD (M.frz (M.methP 0 pp0 "Pile" "steps" mPile_steps M.nil)) (M.rd 2))))
  (M.ret (M.own (M.pure (.bool false))))
  M.skip)
  (M.seq (M.set 3 (M.own (M.frz (M.call m_law_count (M.aR 0 (M.aV (M.pure (.int 1)) M.aNil))))))
  (M.ret (M.own (M.andV (M.op2 eqD (M.tup (M.cons (M.rd 3) (M.cons (M.frz (M.methP 0 pp0 "Pile" "steps" mPile_steps M.nil)) M.nil))) (M.tup (M.cons (M.opL (one intD) (M.cons (M.op2 gtD (M.rd 1) (M.pure (.int 1))) M.nil)) (M.cons (M.op2 mulD (M.rd 2) (M.op2 addB (M.pure (.int 1)) (M.opL (one intD) (M.cons (M.op2 gtD (M.rd 1) (M.pure (.int 1))) M.nil)))) M.nil)))) (M.op2 eqD (M.frz (M.methP 0 pp0 "Pile" "lots" mPile_lots M.nil)) (M.opL (two minD) (M.cons (M.pure (.int 1)) (M.cons (M.rd 1) M.nil)))))))))) :=
  have nd : n_law_lent_right.Nodup := s_law_lent_right.nd
  (sds_cons (sd_expr (ed_frz (eo_methV DPile_lend g hr (takesF rfl) (pl_var 0) (ad_cons (ed_callB (call_max2 rfl) cd_max rfl (C.free 21) (by decide +kernel) (ad_cons ed_int (ad_cons (ed_subB (ed_var 1) (ed_frz (eo_meth0 DPile_hand g hr (takesF rfl) (pl_var 0) (by omega)))) ad_nil))) ad_nil) (by omega))))
  (sds_cons (sd_if (td_w (wd_or (td_ne g (u65 hr) (ed_frz (eo_meth0 DPile_lots g hr (takesF rfl) (pl_var 0) (by omega))) (ed_var 1)) (wd_or1 (td_ne g (u65 hr) (ed_frz (eo_meth0 DPile_steps g hr (takesF rfl) (pl_var 0) (by omega))) (ed_var 2)))))
  (sds_one (sd_ret (eo_of ed_bl)))
  sds_nil)
  (sds_cons (sd_set 3 nd (by decide) (eo_of (ed_frz (eo_def D_law_count g hr (takesF rfl) (aa_r 0 (aa_v ed_int aa_nil)) (by omega)))))
  (sds_one (sd_ret (eo_of (ed_and (ed_eq g (u65 hr) (ed_tup (ad_cons (ed_var 3) (ad_cons (ed_frz (eo_meth0 DPile_steps g hr (takesF rfl) (pl_var 0) (by omega))) ad_nil))) (ed_tup (ad_cons (ed_callTy call_int1 cd_int rfl (C.free 3) (by decide +kernel) (ad_cons (ed_gt (ed_var 1) ed_int) ad_nil)) (ad_cons (ed_mul (ed_var 2) (ed_addB ed_int (ed_callTy call_int1 cd_int rfl (C.free 3) (by decide +kernel) (ad_cons (ed_gt (ed_var 1) ed_int) ad_nil)))) ad_nil)))) (ed_one (ed_eq g (u65 hr) (ed_frz (eo_meth0 DPile_lots g hr (takesF rfl) (pl_var 0) (by omega))) (ed_callB (call_min2 rfl) cd_min rfl (C.free 17) (by decide +kernel) (ad_cons ed_int (ad_cons (ed_var 1) ad_nil))))))))))))
theorem d_law_lent_right (C : Cm fa fn tb K mg base) (DPile_lend : MethK P w K mg base 1 "Pile" "lend" ["self", "n"] mPile_lend kPile_lend) (D_law_count : DefK P w K mg base 4 "_law_count" ["_law_pile", "_law_most"] [0] m_law_count k_law_count) (DPile_lots : MethK P w K mg base 1 "Pile" "lots" ["self"] mPile_lots kPile_lots) (DPile_steps : MethK P w K mg base 1 "Pile" "steps" ["self"] mPile_steps kPile_steps) (DPile_hand : MethK P w K mg base 1 "Pile" "hand" ["self"] mPile_hand kPile_hand) : DefK P w K mg base 5 "_law_lent_right" ["_law_pile", "_law_lots_here", "_law_many"] [0] m_law_lent_right k_law_lent_right := by
  obtain ⟨fd, F⟩ := C.says.def_ 17 (d := dd_law_lent_right) rfl
  exact ⟨_, fd, C.glo 41, fng_of (N := n_law_lent_right) (k := 4) F s_law_lent_right rfl rfl (by decide) fun cd A outer s H E hr g => b_law_lent_right C DPile_lend D_law_count DPile_lots DPile_steps DPile_hand hr g, F.bindsN fun _ _ _ _ _ _ us hl => match us, hl with | [_, _, _], _ => rfl, F.kp, fun q hq => nomatch hq⟩
theorem s_law_heard : FnScope n_law_heard ["_law_ask"] (defScope (top 17)) := ⟨rfl, rfl, rfl, by decide +kernel, rfl, by decide +kernel, by decide +kernel⟩
theorem x_law_heard (C : Cm fa fn tb K mg base) {X : Cx} {B : List Nat} {qq : Str} {gA : Addr} (hK : X.K = K) (hmg : X.mg = mg) : GivesR X B n_law_heard "_law_heard" (defScope (top 17)) gA (defBody (top 17)) "_law_ask" qq h_law_heard := by
  subst hK hmg
  have nd : n_law_heard.Nodup := s_law_heard.nd
  exact fun cdg σC m f2 c' s2 H2 hr g hE =>
  (x_cons (sd_set 1 nd (by decide) (eo_of ed_non))
  (x_tryL (xi := 2) (yi := 1) (ni := 3) [("Done", true), ("NoRoom", true), ("NotDone", true)] rfl rfl nd rfl rfl rfl rfl rfl rfl rfl rfl (.inl rfl) (by decide) (by decide) rfl rfl (by decide) (by decide) (fun W pn xe E tk hW => hE W pn xe E _ _ tk hW) (fun a b h C' hm => test_one ⟨rfl, by decide, .inl (C.glo 22)⟩ (C.exmt [(13, 23), (15, 24), (18, 25)] (by decide +kernel) rfl a b h C' hm))
  (x_last (sds_cons (sd_if (td_isNX 1)
  (sds_one (sd_ret (eo_of (ed_var 2))))
  sds_nil)
  (sds_cons (sd_set 4 nd (by decide) (eo_of (ed_frz (eo_lst (ad_cons (ed_isX 1 [("Done", true), ("NoRoom", false), ("NotDone", false)] rfl (C.free 26) (pe_cls rfl (C.glo 13)) (rel_dvC (K := X.K) (d := .str "Done")) (XT.one (xt_cons (ds := [.str "Done"]) C 13 4 5 (xt_cons (ds := [.str "Done"]) C 15 2 3 (xt_cons (ds := [.str "Done"]) C 18 0 1 xt_nil))))) (ad_cons (ed_isX 1 [("Done", false), ("NoRoom", false), ("NotDone", true)] rfl (C.free 26) (pe_cls rfl (C.glo 18)) (rel_dvC (K := X.K) (d := .str "NotDone")) (XT.one (xt_cons (ds := [.str "NotDone"]) C 13 4 8 (xt_cons (ds := [.str "NotDone"]) C 15 2 7 (xt_cons (ds := [.str "NotDone"]) C 18 0 6 xt_nil))))) (ad_cons (ed_isX 1 [("Done", false), ("NoRoom", true), ("NotDone", false)] rfl (C.free 26) (pe_cls rfl (C.glo 15)) (rel_dvC (K := X.K) (d := .str "NoRoom")) (XT.one (xt_cons (ds := [.str "NoRoom"]) C 13 4 11 (xt_cons (ds := [.str "NoRoom"]) C 15 2 10 (xt_cons (ds := [.str "NoRoom"]) C 18 0 9 xt_nil))))) ad_nil)))))))
  (sds_cons (sd_if (td_w (wd_or (td_not (td_trt (ed_isX 1 [("Done", true), ("NoRoom", true), ("NotDone", true)] rfl (C.free 26) (pe_bltn (v := .ty "ValueError") rfl (C.free 31) (by decide +kernel) rfl) (rel_dvC (K := X.K) (d := .ty "ValueError")) (XT.one (xt_cons (ds := [.ty "ValueError"]) C 13 4 17 (xt_cons (ds := [.ty "ValueError"]) C 15 2 16 (xt_cons (ds := [.ty "ValueError"]) C 18 0 15 xt_nil))))))) (wd_or (td_trt (ed_isXT 1 [("Done", false), ("NoRoom", false), ("NotDone", false)] rfl (C.free 26) (pcs_cons (pe_cls rfl (C.glo 30)) (pcs_cons (pe_cls rfl (C.glo 29)) (pcs_cons (pe_cls rfl (C.glo 28)) pcs_nil))) (by simp) (fun _ => vals_dvC (K := X.K) (ds := [.str "Busy", .str "NoDeed", .str "NoStand"])) (xt_cons (ds := [.str "Busy", .str "NoDeed", .str "NoStand"]) C 13 4 14 (xt_cons (ds := [.str "Busy", .str "NoDeed", .str "NoStand"]) C 15 2 13 (xt_cons (ds := [.str "Busy", .str "NoDeed", .str "NoStand"]) C 18 0 12 xt_nil))))) (wd_or1 (td_ne g (u65 hr) (ed_callB (cr_sumX rfl) cd_sumX rfl (C.free 27) (by decide +kernel) (ad_cons (ed_var 4) ad_nil)) ed_int)))))
  (sds_one (sd_ret (eo_of ed_str)))
  sds_nil)
  (sds_one (sd_ret (eo_of (ed_ix (u65 hr) (ed_frz (eo_lst (ad_cons ed_str (ad_cons ed_str (ad_cons ed_str ad_nil))))) (ed_indexB (ed_var 4) ed_bl)))))))))))
theorem d_law_heard (C : Cm fa fn tb K mg base) : HrdK K mg "_law_heard" "_law_ask" n_law_heard (defScope (top 17)) (defArgs (top 17)) (defBody (top 17)) := by
  obtain ⟨fd, F⟩ := C.says.def_ 18 (d := dd_law_heard) rfl
  exact ⟨_, fd, C.glo 42, F.kp, F, F.bindsN fun _ _ _ _ _ _ us hl => match us, hl with | [_], _ => rfl, s_law_heard⟩
theorem s_law_mergings : FnScope n_law_mergings ["_law_lots_here", "_law_hand"] (defScope (top 19)) := ⟨rfl, rfl, rfl, by decide +kernel, rfl, by decide +kernel, by decide +kernel⟩
theorem b_law_mergings (C : Cm fa fn tb K mg base) {f : Addr} {cd : Value} {A : Around} {outer : List Env} {s : Shared} {H : Hp} {E : XK} (hr : Room (0) (CxF P w K mg base n_law_mergings "_law_mergings" (defScope (top 19)) f cd A outer s H E).A) (g : Gd (CxF P w K mg base n_law_mergings "_law_mergings" (defScope (top 19)) f cd A outer s H E)) :
    SDs (CxF P w K mg base n_law_mergings "_law_mergings" (defScope (top 19)) f cd A outer s H E) (WF E) [] (defBody (top 19)) (M.seq (M.set 2 (M.own (M.op2 subB (M.opL (two maxD) (M.cons (M.pure (.int 2)) (M.cons (M.rd 1) M.nil))) (M.pure (.int 1)))))
  (M.ret (M.own (M.op2 divD (M.op2 subB (M.op2 addB (M.op2 subB (M.opL (two maxD) (M.cons (M.pure (.int 1)) (M.cons (M.rd 0) M.nil))) (M.pure (.int 1))) (M.rd 2)) (M.pure (.int 1))) (M.rd 2))))) :=
  have nd : n_law_mergings.Nodup := s_law_mergings.nd
  (sds_cons (sd_set 2 nd (by decide) (eo_of (ed_subB (ed_callB (call_max2 rfl) cd_max rfl (C.free 21) (by decide +kernel) (ad_cons ed_int (ad_cons (ed_var 1) ad_nil))) ed_int)))
  (sds_one (sd_ret (eo_of (ed_fdiv (ed_subB (ed_addB (ed_subB (ed_callB (call_max2 rfl) cd_max rfl (C.free 21) (by decide +kernel) (ad_cons ed_int (ad_cons (ed_var 0) ad_nil))) ed_int) (ed_var 2)) ed_int) (ed_var 2))))))
theorem d_law_mergings (C : Cm fa fn tb K mg base) : DefK P w K mg base 1 "_law_mergings" ["_law_lots_here", "_law_hand"] [] m_law_mergings k_law_mergings := by
  obtain ⟨fd, F⟩ := C.says.def_ 19 (d := dd_law_mergings) rfl
  exact ⟨_, fd, C.glo 43, fng_of (N := n_law_mergings) (k := 0) F s_law_mergings rfl rfl (by decide) fun cd A outer s H E hr g => b_law_mergings C hr g, F.bindsN fun _ _ _ _ _ _ us hl => match us, hl with | [_, _], _ => rfl, F.kp, fun q hq => nomatch hq⟩
theorem sPile_told : FnScope nPile_told ["self"] (defScope (inClass (top 12) 10)) := ⟨rfl, rfl, rfl, by decide +kernel, rfl, by decide +kernel, by decide +kernel⟩
theorem bPile_told (C : Cm fa fn tb K mg base) (DPile_lots : MethK P w K mg base 1 "Pile" "lots" ["self"] mPile_lots kPile_lots) {f : Addr} {cd : Value} {A : Around} {outer : List Env} {s : Shared} {H : Hp} {E : XK} (hr : Room (1) (CxF P w K mg base nPile_told "Pile.told" (defScope (inClass (top 12) 10)) f cd A outer s H E).A) (g : Gd (CxF P w K mg base nPile_told "Pile.told" (defScope (inClass (top 12) 10)) f cd A outer s H E)) :
    SDs (CxF P w K mg base nPile_told "Pile.told" (defScope (inClass (top 12) 10)) f cd A outer s H E) (WF E) [0] (defBody (inClass (top 12) 10)) (M.seq (M.ifS (M.or (M.not (M.trt (M.ro (placeO 0 (ppF "Pile" "is_ended" pp0))))) (M.tru (M.op2 geD (M.frz (M.methP 0 pp0 "Pile" "lots" mPile_lots M.nil)) (M.pure (.int 2)))))
  (M.raise "NotDone")
  M.skip)
  (M.ret (M.lc2 (M.items (M.rdP 0 (ppF "Pile" "laid_lots" pp0))) (gNameD 1) [1, 2] (M.items (M.rd 1)) (gNameD 2) [2] (M.rd 2)))) :=
  have nd : nPile_told.Nodup := sPile_told.nd
  (sds_cons (sd_if (td_w (wd_or (td_not (td_trt (ed_pl (pl_fld "Pile" "is_ended" (pl_var 0) (C.fld 5 6 11))))) (wd_or1 (td_ge (ed_frz (eo_meth0 DPile_lots g hr (takesF rfl) (pl_var 0) (by omega))) (ed_gint (C.int 20))))))
  (sds_one (sd_raise0 (C.exck 18 19) rfl (takesF rfl) rfl))
  sds_nil)
  (sds_one (sd_ret (eo_lc2 [("lot", 1), ("row", 2)] rfl nd (id_any (ed_rdP (pl_fld "Pile" "laid_lots" (pl_var 0) (C.fld 5 6 9)))) (blkOk_by (by show blkC nPile_told (defScope (inClass (top 12) 10)) _ _ = true; decide +kernel)) (by decide) (by decide) (fun _ _ _ _ _ => (gv_name 1 nd (by decide) (by decide))) (fun _ _ _ _ _ => (id_any (ed_var 1))) (fun _ _ _ _ _ => (gv_name 2 nd (by decide) (by decide))) (fun _ _ _ _ _ => (ed_var 2))))))
theorem dPile_told (C : Cm fa fn tb K mg base) (DPile_lots : MethK P w K mg base 1 "Pile" "lots" ["self"] mPile_lots kPile_lots) : MethK P w K mg base 2 "Pile" "told" ["self"] mPile_told kPile_told := by
  obtain ⟨fd, F⟩ := C.says.def_ 20 (d := ddPile_told) rfl
  exact ⟨_, _, fd, C.glo 5, C.cls 6, C.meth 56, fng_of (N := nPile_told) (k := 1) F sPile_told rfl rfl (by decide) fun cd A outer s H E hr g => bPile_told C DPile_lots hr g, F.bindsN fun _ _ _ _ _ _ us hl => match us, hl with | [_], _ => rfl, fun q hq => nomatch hq⟩
theorem s_law_hands_right : FnScope n_law_hands_right ["_law_rows", "_law_hands"] (defScope (top 23)) := ⟨rfl, rfl, rfl, by decide +kernel, rfl, by decide +kernel, by decide +kernel⟩
theorem b_law_hands_right (C : Cm fa fn tb K mg base) (D_law_ended : DefK P w K mg base 3 "_law_ended" ["_law_rows", "_law_hands"] [] m_law_ended k_law_ended) (DPile_call_back : MethK P w K mg base 2 "Pile" "call_back" ["self", "n"] mPile_call_back kPile_call_back) (D_law_lots : DefK P w K mg base 1 "_law_lots" ["_law_many", "_law_hand"] [] m_law_lots k_law_lots) (D_law_lent_right : DefK P w K mg base 5 "_law_lent_right" ["_law_pile", "_law_lots_here", "_law_many"] [0] m_law_lent_right k_law_lent_right) (D_law_heard : HrdK K mg "_law_heard" "_law_ask" n_law_heard (defScope (top 17)) (defArgs (top 17)) (defBody (top 17))) (DPile_steps : MethK P w K mg base 1 "Pile" "steps" ["self"] mPile_steps kPile_steps) (D_law_count : DefK P w K mg base 4 "_law_count" ["_law_pile", "_law_most"] [0] m_law_count k_law_count) (D_law_mergings : DefK P w K mg base 1 "_law_mergings" ["_law_lots_here", "_law_hand"] [] m_law_mergings k_law_mergings) (DPile_lots : MethK P w K mg base 1 "Pile" "lots" ["self"] mPile_lots kPile_lots) (DPile_merge : MethK P w K mg base 3 "Pile" "merge" ["self"] mPile_merge kPile_merge) (DPile_told : MethK P w K mg base 2 "Pile" "told" ["self"] mPile_told kPile_told) {f : Addr} {cd : Value} {A : Around} {outer : List Env} {s : Shared} {H : Hp} {E : XK} (LT : LamT K mg base cd "_law_hands_right") (hr : Room (7) (CxF P w K mg base n_law_hands_right "_law_hands_right" (defScope (top 23)) f cd A outer s H E).A) (g : Gd (CxF P w K mg base n_law_hands_right "_law_hands_right" (defScope (top 23)) f cd A outer s H E)) :
    SDs (CxF P w K mg base n_law_hands_right "_law_hands_right" (defScope (top 23)) f cd A outer s H E) (WF E) [] (defBody (top 23)) (M.seq (M.set 2 (M.own (M.opL (one lenD) (M.cons (M.rd 0) M.nil))))
  (M.seq (M.set 3 (M.call m_law_ended (M.aV (M.rd 0) (M.aV (M.op2 addB (M.rd 1) (M.frz (M.lst (M.cons (M.op2 itemD (M.rd 1) (M.pure (.int 0))) (M.cons (M.op2 itemD (M.rd 1) (M.pure (.int 0))) M.nil))))) M.aNil))))
  (M.seq (M.set 4 (M.lc (M.items (M.op2 addB (M.rd 1) (M.frz (M.lst (M.cons (M.op2 itemD (M.rd 1) (M.pure (.int 0))) (M.cons (M.op2 itemD (M.rd 1) (M.pure (.int 0))) M.nil)))))) (gNameD 6) [6] (M.pure true) (M.frz (M.call m_law_lots (M.aV (M.rd 2) (M.aV (M.rd 6) M.aNil))))))
  (M.seq (M.ifS (M.or (M.tru (M.op2 neD (M.frz (M.lcBo 3 7 [7] (M.pure true) (M.frz (M.methP 7 pp0 "Pile" "lots" mPile_lots M.nil)))) (M.rd 4))) (M.tru (M.op2 neD (M.frz (M.lcBo 3 7 [7] (M.pure true) (M.frz (M.methP 7 pp0 "Pile" "steps" mPile_steps M.nil)))) (M.frz (M.rep (M.cons (M.rd 2) M.nil) (M.lenO 3))))))
  (M.ret (M.own (M.pure (.bool false))))
  M.skip)
  (M.seq (M.ifS (M.not (M.trt (M.frz (M.callP 3 (ppN 3 pp0 2) m_law_lent_right (M.cons (M.op2 itemD (M.rd 4) (M.op1 negD (M.pure (.int 2)))) (M.cons (M.rd 2) M.nil))))))
  (M.ret (M.own (M.pure (.bool false))))
  M.skip)
  (M.seq (M.for (M.iter enumA (M.cons (M.rd 1) M.nil)) (gTupE 2 (gConsD (gNameD 5) (gConsD (gNameD 6) gNilD)))
  (M.ifS (M.or (M.tru (M.op2 neD (M.frz (M.callP 3 (ppI pp0 (dataO (slotO 5))) m_law_count (M.cons (M.rd 2) M.nil))) (M.frz (M.call m_law_mergings (M.aV (M.op2 itemD (M.rd 4) (M.rd 5)) (M.aV (M.rd 6) M.aNil)))))) (M.tru (M.op2 neD (M.frz (M.methP 3 (ppI pp0 (dataO (slotO 5))) "Pile" "lots" mPile_lots M.nil)) (M.opL (two minD) (M.cons (M.pure (.int 1)) (M.cons (M.rd 2) M.nil))))))
  (M.ret (M.own (M.pure (.bool false))))
  M.skip))
  (M.seq (M.drop (M.frz (M.methP 3 (ppN 3 pp0 1) "Pile" "call_back" mPile_call_back (M.cons (M.op2 subB (M.op2 itemD (M.rd 1) (M.pure (.int 0))) (M.pure (.int 1))) M.nil))))
  (M.seq (M.ifS (M.or (M.tru (M.op2 neD (M.frz (M.methP 3 (ppN 3 pp0 1) "Pile" "steps" mPile_steps M.nil)) (M.rd 2))) (M.tru (M.op2 neD (M.frz (M.callP 3 (ppN 3 pp0 1) m_law_count (M.cons (M.rd 2) M.nil))) (M.frz (M.call m_law_mergings (M.aV (M.op2 itemD (M.rd 4) (M.op1 negD (M.pure (.int 1)))) (M.aV (M.pure (.int 1)) M.aNil)))))))
  (M.ret (M.own (M.pure (.bool false))))
  M.skip)
  (M.seq (M.ifS (M.tru (M.op2 neD (M.frz (M.heard 5 h_law_heard (M.methP 3 (ppN 3 pp0 1) "Pile" "merge" mPile_merge M.nil))) (M.pure (.str "done"))))
  (M.ret (M.own (M.pure (.bool false))))
  M.skip)
  (M.ret (M.own (M.op2 eqL (M.frz (M.lcBo 3 7 [7] (M.tru (M.op2 neD (M.opL (one reprD) (M.cons (M.frz (M.methP 7 pp0 "Pile" "told" mPile_told M.nil)) M.nil)) (M.opL (one reprD) (M.cons (M.frz (M.opO sortB (M.cons (M.rd 0) M.nil))) M.nil)))) (fun _ => .no))) (M.frz (M.lst M.nil)))))))))))))) :=
  have nd : n_law_hands_right.Nodup := s_law_hands_right.nd
  (sds_cons (sd_set 2 nd (by decide) (eo_of (ed_callB call_lenP cd_len rfl (C.free 1) (by decide +kernel) (ad_cons (ed_var 0) ad_nil))))
  (sds_cons (sd_set 3 nd (by decide) (eo_def D_law_ended g hr (takesF rfl) (aa_v (ed_var 0) (aa_v (ed_addB (ed_var 1) (ed_frz (eo_lst (ad_cons (ed_ix (u65 hr) (ed_var 1) ed_int) (ad_cons (ed_ix (u65 hr) (ed_var 1) ed_int) ad_nil))))) aa_nil)) (by omega)))
  (sds_cons (sd_setLc 4 [("_law_hand", 6)] rfl nd (by decide) (id_any (ed_addB (ed_var 1) (ed_frz (eo_lst (ad_cons (ed_ix (u65 hr) (ed_var 1) ed_int) (ad_cons (ed_ix (u65 hr) (ed_var 1) ed_int) ad_nil)))))) (blkOk_by (by show blkC n_law_hands_right (defScope (top 23)) _ _ = true; decide +kernel)) (by decide) (fun _ _ _ _ _ => (gv_name 6 nd (by decide) (by decide))) (fun _ _ _ _ _ => tds_nil) (fun _ _ _ _ _ => (ed_frz (eo_def D_law_lots (Gd.blk g) hr takesW0 (aa_v (ed_var 2) (aa_v (ed_var 6) aa_nil)) (by omega)))) (sw_true rfl rfl rfl rfl))
  (sds_cons (sd_if (td_w (wd_or (td_ne g (u65 hr) (ed_frz (eo_lcBo 3 7 [("_law_pile", 7)] rfl nd (blkOk_by (by show blkC n_law_hands_right (defScope (top 23)) _ _ = true; decide +kernel)) (by decide) (by decide) (by decide) (fun _ _ _ _ _ => gn_name 7 nd) (fun _ _ _ _ _ => tds_nil) (fun _ _ _ _ _ => (ed_frz (eo_meth0 DPile_lots (Gd.blk g) hr takesW0 (pl_var 7) (by omega)))))) (ed_var 4)) (wd_or1 (td_ne g (u65 hr) (ed_frz (eo_lcBo 3 7 [("_law_pile", 7)] rfl nd (blkOk_by (by show blkC n_law_hands_right (defScope (top 23)) _ _ = true; decide +kernel)) (by decide) (by decide) (by decide) (fun _ _ _ _ _ => gn_name 7 nd) (fun _ _ _ _ _ => tds_nil) (fun _ _ _ _ _ => (ed_frz (eo_meth0 DPile_steps (Gd.blk g) hr takesW0 (pl_var 7) (by omega)))))) (ed_frz (eo_rep (ad_cons (ed_var 2) ad_nil) (ed_lenO 3 rfl (C.free 1))))))))
  (sds_one (sd_ret (eo_of ed_bl)))
  sds_nil)
  (sds_cons (sd_if (td_not (td_trt (ed_frz (eo_defP D_law_lent_right g hr (takesF rfl) (pl_ixN (k := 2) (pl_var 3)) (ad_cons (ed_ix (u65 hr) (ed_var 4) (ed_neg ed_int)) (ad_cons (ed_var 2) ad_nil)) (by omega)))))
  (sds_one (sd_ret (eo_of ed_bl)))
  sds_nil)
  (sds_cons (sd_for passF rfl (id_enumA rfl (C.free 32) (ad_cons (ed_var 1) ad_nil)) (gv_gt (is := [5, 6]) (gv_tup rfl (gvs_cons (gv_name 5 nd (by decide) (by decide)) (gvs_cons (gv_name 6 nd (by decide) (by decide)) gvs_nil))))
  (sds_one (sd_if (td_w (wd_or (td_ne g (u65 hr) (ed_frz (eo_defP D_law_count g hr (takesF rfl) (pl_ix (pl_var 3) (qd_ro (ro_var 5))) (ad_cons (ed_var 2) ad_nil) (by omega))) (ed_frz (eo_def D_law_mergings g hr (takesF rfl) (aa_v (ed_ix (u65 hr) (ed_var 4) (ed_var 5)) (aa_v (ed_var 6) aa_nil)) (by omega)))) (wd_or1 (td_ne g (u65 hr) (ed_frz (eo_meth0 DPile_lots g hr (takesF rfl) (pl_ix (pl_var 3) (qd_ro (ro_var 5))) (by omega))) (ed_callB (call_min2 rfl) cd_min rfl (C.free 17) (by decide +kernel) (ad_cons ed_int (ad_cons (ed_var 2) ad_nil)))))))
  (sds_one (sd_ret (eo_of ed_bl)))
  sds_nil)))
  (sds_cons (sd_expr (ed_frz (eo_meth DPile_call_back g hr (takesF rfl) (pl_ixN (k := 1) (pl_var 3)) (ad_cons (ed_subB (ed_ix (u65 hr) (ed_var 1) ed_int) ed_int) ad_nil) (by omega))))
  (sds_cons (sd_if (td_w (wd_or (td_ne g (u65 hr) (ed_frz (eo_meth0 DPile_steps g hr (takesF rfl) (pl_ixN (k := 1) (pl_var 3)) (by omega))) (ed_var 2)) (wd_or1 (td_ne g (u65 hr) (ed_frz (eo_defP D_law_count g hr (takesF rfl) (pl_ixN (k := 1) (pl_var 3)) (ad_cons (ed_var 2) ad_nil) (by omega))) (ed_frz (eo_def D_law_mergings g hr (takesF rfl) (aa_v (ed_ix (u65 hr) (ed_var 4) (ed_neg ed_int)) (aa_v ed_int aa_nil)) (by omega)))))))
  (sds_one (sd_ret (eo_of ed_bl)))
  sds_nil)
  (sds_cons (sd_if (td_ne g (u65 hr) (ed_frz (eo_heardDR D_law_heard (fun _ => x_law_heard C rfl rfl) g hr LT rfl (LamX.lamS_by (by show LamX.lamSB (defScope (top 23)) _ = true; decide +kernel)) rfl rfl (.inl rfl) rfl (fun _ _ _ _ _ => rfl) (fun _ _ _ _ _ _ _ g hr => (eo_meth0 DPile_merge g hr takesL (pl_ixN (k := 1) (pl_var 3)) (by omega))))) ed_str)
  (sds_one (sd_ret (eo_of ed_bl)))
  sds_nil)
  (sds_one (sd_ret (eo_of (ed_eqX g (u65 hr) (ed_frz (eo_lcBo 3 7 [("_law_pile", 7)] rfl nd (blkOk_by (by show blkC n_law_hands_right (defScope (top 23)) _ _ = true; decide +kernel)) (by decide) (by decide) (by decide) (fun _ _ _ _ _ => gn_name 7 nd) (fun _ _ _ _ _ => (tds_one (td_ne (Gd.blk g) (u65 hr) (ed_callB (call_reprP (Gd.blk g) (u70 hr)) cd_repr rfl (C.free 33) (by decide +kernel) (ad_cons (ed_frz (eo_meth0 DPile_told (Gd.blk g) hr takesW0 (pl_var 7) (by omega))) ad_nil)) (ed_callB (call_reprP (Gd.blk g) (u70 hr)) cd_repr rfl (C.free 33) (by decide +kernel) (ad_cons (ed_frz (eo_callB (cr_sortB (Gd.blk g) (u65 hr)) co_sortB rfl (C.free 12) (by decide +kernel) (ad_cons (ed_var 0) ad_nil))) ad_nil))))) (fun _ _ _ _ _ => ed_never))) (ed_frz (eo_lst ad_nil)))))))))))))))
theorem d_law_hands_right (C : Cm fa fn tb K mg base) (D_law_ended : DefK P w K mg base 3 "_law_ended" ["_law_rows", "_law_hands"] [] m_law_ended k_law_ended) (DPile_call_back : MethK P w K mg base 2 "Pile" "call_back" ["self", "n"] mPile_call_back kPile_call_back) (D_law_lots : DefK P w K mg base 1 "_law_lots" ["_law_many", "_law_hand"] [] m_law_lots k_law_lots) (D_law_lent_right : DefK P w K mg base 5 "_law_lent_right" ["_law_pile", "_law_lots_here", "_law_many"] [0] m_law_lent_right k_law_lent_right) (D_law_heard : HrdK K mg "_law_heard" "_law_ask" n_law_heard (defScope (top 17)) (defArgs (top 17)) (defBody (top 17))) (DPile_steps : MethK P w K mg base 1 "Pile" "steps" ["self"] mPile_steps kPile_steps) (D_law_count : DefK P w K mg base 4 "_law_count" ["_law_pile", "_law_most"] [0] m_law_count k_law_count) (D_law_mergings : DefK P w K mg base 1 "_law_mergings" ["_law_lots_here", "_law_hand"] [] m_law_mergings k_law_mergings) (DPile_lots : MethK P w K mg base 1 "Pile" "lots" ["self"] mPile_lots kPile_lots) (DPile_merge : MethK P w K mg base 3 "Pile" "merge" ["self"] mPile_merge kPile_merge) (DPile_told : MethK P w K mg base 2 "Pile" "told" ["self"] mPile_told kPile_told) : DefK P w K mg base 8 "_law_hands_right" ["_law_rows", "_law_hands"] [] m_law_hands_right k_law_hands_right := by
  obtain ⟨fd, F⟩ := C.says.def_ 21 (d := dd_law_hands_right) rfl
  exact ⟨_, fd, C.glo 44, fng_ofC C.kin C.ns (C.codes 18 (zs := [])) (N := n_law_hands_right) (k := 7) F s_law_hands_right rfl rfl (by decide) fun cd A outer s H E LT hr g => b_law_hands_right C D_law_ended DPile_call_back D_law_lots D_law_lent_right D_law_heard DPile_steps D_law_count D_law_mergings DPile_lots DPile_merge DPile_told LT hr g, F.bindsN fun _ _ _ _ _ _ us hl => match us, hl with | [_, _], _ => rfl, F.kp, fun q hq => nomatch hq⟩
theorem slaw : FnScope nlaw ["_law_script"] (defScope (top 24)) := ⟨rfl, rfl, rfl, by decide +kernel, rfl, by decide +kernel, by decide +kernel⟩
theorem blaw (C : Cm fa fn tb K mg base) (D_law_pen : DefK P w K mg base 1 "_law_pen" ["_law_script"] [] m_law_pen k_law_pen) (D_law_draw : DefK P w K mg base 1 "_law_draw" ["_law_pen_here", "_law_many"] [0] m_law_draw k_law_draw) (D_law_row : DefK P w K mg base 2 "_law_row" ["_law_pen_here", "_law_form"] [0] m_law_row k_law_row) (D_law_hands_right : DefK P w K mg base 8 "_law_hands_right" ["_law_rows", "_law_hands"] [] m_law_hands_right k_law_hands_right) (D_law_ended : DefK P w K mg base 3 "_law_ended" ["_law_rows", "_law_hands"] [] m_law_ended k_law_ended) (D_law_count : DefK P w K mg base 4 "_law_count" ["_law_pile", "_law_most"] [0] m_law_count k_law_count) (DPile_steps : MethK P w K mg base 1 "Pile" "steps" ["self"] mPile_steps kPile_steps) (DPile_lots : MethK P w K mg base 1 "Pile" "lots" ["self"] mPile_lots kPile_lots) (DPile_told : MethK P w K mg base 2 "Pile" "told" ["self"] mPile_told kPile_told) {f : Addr} {cd : Value} {A : Around} {outer : List Env} {s : Shared} {H : Hp} {E : XK} (hr : Room (8) (CxF P w K mg base nlaw "law" (defScope (top 24)) f cd A outer s H E).A) (g : Gd (CxF P w K mg base nlaw "law" (defScope (top 24)) f cd A outer s H E)) :
    SDs (CxF P w K mg base nlaw "law" (defScope (top 24)) f cd A outer s H E) (WF E) [] (defBody (top 24)) (M.seq (M.set 1 (M.call m_law_pen (M.aV (M.rd 0) M.aNil)))
  (M.seq (M.set 2 (M.own (M.frz (M.call m_law_draw (M.aR 1 (M.aV (M.pure (.int 7)) M.aNil))))))
  (M.seq (M.set 3 (M.own (M.op2 itemD (M.frz (M.lst (M.cons (M.pure (.int 11)) (M.cons (M.pure (.int 0)) (M.cons (M.pure (.int 1)) (M.cons (M.pure (.int 2)) (M.cons (M.pure (.int 200)) (M.cons (M.pure (.int 60)) (M.cons (M.frz (M.call m_law_draw (M.aR 1 (M.aV (M.pure (.int 201)) M.aNil)))) M.nil))))))))) (M.frz (M.call m_law_draw (M.aR 1 (M.aV (M.pure (.int 7)) M.aNil)))))))
  (M.seq (M.set 4 (M.lc (M.iter rangeD1 (M.cons (M.rd 3) M.nil)) (gNameD 9) [9] (M.pure true) (M.frz (M.call m_law_row (M.aR 1 (M.aV (M.rd 2) M.aNil))))))
  (M.seq (M.set 5 (M.own (M.frz (M.lst (M.cons (M.pure (.int 3)) (M.cons (M.pure (.int 1)) (M.cons (M.pure (.int 2)) (M.cons (M.pure (.int 4)) (M.cons (M.pure (.int 14)) (M.cons (M.pure (.int 15)) (M.cons (M.op2 addB (M.pure (.int 1)) (M.frz (M.call m_law_draw (M.aR 1 (M.aV (M.pure (.int 40)) M.aNil))))) M.nil)))))))))))
  (M.seq (M.set 5 (M.own (M.frz (M.lst (M.cons (M.op2 itemD (M.rd 5) (M.frz (M.call m_law_draw (M.aR 1 (M.aV (M.pure (.int 7)) M.aNil))))) (M.cons (M.op2 addB (M.pure (.int 2)) (M.frz (M.call m_law_draw (M.aR 1 (M.aV (M.pure (.int 9)) M.aNil))))) (M.cons (M.op2 addB (M.pure (.int 1)) (M.frz (M.call m_law_draw (M.aR 1 (M.aV (M.pure (.int 3)) M.aNil))))) (M.cons (M.opL (two maxD) (M.cons (M.pure (.int 1)) (M.cons (M.rd 3) M.nil))) M.nil))))))))
  (M.seq (M.ifS (M.not (M.trt (M.frz (M.call m_law_hands_right (M.aV (M.rd 4) (M.aV (M.rd 5) M.aNil))))))
  (M.ret (M.own (M.pure (.bool false))))
  M.skip)
  (M.seq (M.set 6 (M.lc (M.iter rangeD1 (M.cons (M.pure (.int 1500)) M.nil)) (gNameD 9) [9] (M.pure true) (M.tup (M.cons (M.op2 modD (M.op2 mulD (M.rd 9) (M.pure (.int 7919))) (M.pure (.int 1500))) (M.cons (M.rd 9) M.nil)))))
  (M.seq (M.set 7 (M.pick0 (M.call m_law_ended (M.aV (M.rd 6) (M.aV (M.frz (M.lst (M.cons (M.pure (.int 800)) M.nil))) M.aNil)))))
  (M.seq (M.ifS (M.or (M.tru (M.op2 neD (M.frz (M.call m_law_count (M.aR 7 (M.aV (M.pure (.int 2)) M.aNil)))) (M.pure (.int 1)))) (M.or (M.tru (M.op2 neD (M.frz (M.methP 7 pp0 "Pile" "steps" mPile_steps M.nil)) (M.pure (.int 3000)))) (M.tru (M.op2 neD (M.opL (one reprD) (M.cons (M.frz (M.methP 7 pp0 "Pile" "told" mPile_told M.nil)) M.nil)) (M.opL (one reprD) (M.cons (M.frz (M.opO sortB (M.cons (M.rd 6) M.nil))) M.nil))))))
  (M.ret (M.own (M.pure (.bool false))))
  M.skip)
  (M.seq (M.set 8 (M.pick0 (M.call m_law_ended (M.aV (M.rd 4) (M.aV (M.frz (M.lst (M.cons (M.op2 itemD (M.rd 5) (M.pure (.int 3))) M.nil))) M.aNil)))))
  (M.ret (M.own (M.andV (M.op2 eqD (M.frz (M.methP 8 pp0 "Pile" "steps" mPile_steps M.nil)) (M.rd 3)) (M.andV (M.op2 eqD (M.frz (M.methP 8 pp0 "Pile" "lots" mPile_lots M.nil)) (M.opL (two minD) (M.cons (M.pure (.int 1)) (M.cons (M.rd 3) M.nil)))) (M.op2 eqD (M.opL (one reprD) (M.cons (M.frz (M.methP 8 pp0 "Pile" "told" mPile_told M.nil)) M.nil)) (M.opL (one reprD) (M.cons (M.frz (M.opO sortB (M.cons (M.rd 4) M.nil))) M.nil)))))))))))))))))) :=
  have nd : nlaw.Nodup := slaw.nd
  (sds_cons (sd_set 1 nd (by decide) (eo_def D_law_pen g hr (takesF rfl) (aa_v (ed_var 0) aa_nil) (by omega)))
  (sds_cons (sd_set 2 nd (by decide) (eo_of (ed_frz (eo_def D_law_draw g hr (takesF rfl) (aa_r 1 (aa_v ed_int aa_nil)) (by omega)))))
  (sds_cons (sd_set 3 nd (by decide) (eo_of (ed_ix (u65 hr) (ed_frz (eo_lst (ad_cons ed_int (ad_cons ed_int (ad_cons ed_int (ad_cons ed_int (ad_cons ed_int (ad_cons ed_int (ad_cons (ed_frz (eo_def D_law_draw g hr (takesF rfl) (aa_r 1 (aa_v ed_int aa_nil)) (by omega))) ad_nil))))))))) (ed_frz (eo_def D_law_draw g hr (takesF rfl) (aa_r 1 (aa_v ed_int aa_nil)) (by omega))))))
  (sds_cons (sd_setLc 4 [("_law_k", 9)] rfl nd (by decide) (id_rng1 rfl (C.free 4) (ad_cons (ed_var 3) ad_nil)) (blkOk_by (by show blkC nlaw (defScope (top 24)) _ _ = true; decide +kernel)) (by decide) (fun _ _ _ _ _ => (gv_name 9 nd (by decide) (by decide))) (fun _ _ _ _ _ => tds_nil) (fun _ _ _ _ _ => (ed_frz (eo_def D_law_row (Gd.blk g) hr takesW0 (aa_r 1 (aa_v (ed_var 2) aa_nil)) (by omega)))) (sw_true rfl rfl rfl rfl))
  (sds_cons (sd_set 5 nd (by decide) (eo_of (ed_frz (eo_lst (ad_cons ed_int (ad_cons ed_int (ad_cons ed_int (ad_cons ed_int (ad_cons ed_int (ad_cons ed_int (ad_cons (ed_addB ed_int (ed_frz (eo_def D_law_draw g hr (takesF rfl) (aa_r 1 (aa_v ed_int aa_nil)) (by omega)))) ad_nil)))))))))))
  (sds_cons (sd_set 5 nd (by decide) (eo_of (ed_frz (eo_lst (ad_cons (ed_ix (u65 hr) (ed_var 5) (ed_frz (eo_def D_law_draw g hr (takesF rfl) (aa_r 1 (aa_v ed_int aa_nil)) (by omega)))) (ad_cons (ed_addB ed_int (ed_frz (eo_def D_law_draw g hr (takesF rfl) (aa_r 1 (aa_v ed_int aa_nil)) (by omega)))) (ad_cons (ed_addB ed_int (ed_frz (eo_def D_law_draw g hr (takesF rfl) (aa_r 1 (aa_v ed_int aa_nil)) (by omega)))) (ad_cons (ed_callB (call_max2 rfl) cd_max rfl (C.free 21) (by decide +kernel) (ad_cons ed_int (ad_cons (ed_var 3) ad_nil))) ad_nil))))))))
  (sds_cons (sd_if (td_not (td_trt (ed_frz (eo_def D_law_hands_right g hr (takesF rfl) (aa_v (ed_var 4) (aa_v (ed_var 5) aa_nil)) (by omega)))))
  (sds_one (sd_ret (eo_of ed_bl)))
  sds_nil)
  (sds_cons (sd_setLc 6 [("_law_k", 9)] rfl nd (by decide) (id_rng1 rfl (C.free 4) (ad_cons ed_int ad_nil)) (blkOk_by (by show blkC nlaw (defScope (top 24)) _ _ = true; decide +kernel)) (by decide) (fun _ _ _ _ _ => (gv_name 9 nd (by decide) (by decide))) (fun _ _ _ _ _ => tds_nil) (fun _ _ _ _ _ => (ed_tup (ad_cons (ed_mod (ed_mul (ed_var 9) ed_int) ed_int) (ad_cons (ed_var 9) ad_nil)))) (sw_true rfl rfl rfl rfl))
  (sds_cons (sd_set 7 nd (by decide) (eo_pick0 (eo_def D_law_ended g hr (takesF rfl) (aa_v (ed_var 6) (aa_v (ed_frz (eo_lst (ad_cons ed_int ad_nil))) aa_nil)) (by omega))))
  (sds_cons (sd_if (td_w (wd_or (td_ne g (u65 hr) (ed_frz (eo_def D_law_count g hr (takesF rfl) (aa_r 7 (aa_v ed_int aa_nil)) (by omega))) ed_int) (wd_or (td_ne g (u65 hr) (ed_frz (eo_meth0 DPile_steps g hr (takesF rfl) (pl_var 7) (by omega))) ed_int) (wd_or1 (td_ne g (u65 hr) (ed_callB (call_reprP g (u70 hr)) cd_repr rfl (C.free 33) (by decide +kernel) (ad_cons (ed_frz (eo_meth0 DPile_told g hr (takesF rfl) (pl_var 7) (by omega))) ad_nil)) (ed_callB (call_reprP g (u70 hr)) cd_repr rfl (C.free 33) (by decide +kernel) (ad_cons (ed_frz (eo_callB (cr_sortB g (u65 hr)) co_sortB rfl (C.free 12) (by decide +kernel) (ad_cons (ed_var 6) ad_nil))) ad_nil)))))))
  (sds_one (sd_ret (eo_of ed_bl)))
  sds_nil)
  (sds_cons (sd_set 8 nd (by decide) (eo_pick0 (eo_def D_law_ended g hr (takesF rfl) (aa_v (ed_var 4) (aa_v (ed_frz (eo_lst (ad_cons (ed_ix (u65 hr) (ed_var 5) ed_int) ad_nil))) aa_nil)) (by omega))))
  (sds_one (sd_ret (eo_of (ed_and (ed_eq g (u65 hr) (ed_frz (eo_meth0 DPile_steps g hr (takesF rfl) (pl_var 8) (by omega))) (ed_var 3)) (ed_and (ed_eq g (u65 hr) (ed_frz (eo_meth0 DPile_lots g hr (takesF rfl) (pl_var 8) (by omega))) (ed_callB (call_min2 rfl) cd_min rfl (C.free 17) (by decide +kernel) (ad_cons ed_int (ad_cons (ed_var 3) ad_nil)))) (ed_one (ed_eq g (u65 hr) (ed_callB (call_reprP g (u70 hr)) cd_repr rfl (C.free 33) (by decide +kernel) (ad_cons (ed_frz (eo_meth0 DPile_told g hr (takesF rfl) (pl_var 8) (by omega))) ad_nil)) (ed_callB (call_reprP g (u70 hr)) cd_repr rfl (C.free 33) (by decide +kernel) (ad_cons (ed_frz (eo_callB (cr_sortB g (u65 hr)) co_sortB rfl (C.free 12) (by decide +kernel) (ad_cons (ed_var 4) ad_nil))) ad_nil))))))))))))))))))))
end
end L42


set_option maxHeartbeats 2000000
namespace L42
open PySem PySem.Spec PyProof.Rows L2 DL
theorem facts {P : Program} {w : World} {K : PySem.W.Frag} {mg : Str → Option Value} {base : Heap} (C : Cm fa fn tb K mg base) : ∃ fd, FnG P w K mg base 9 (He.ga K "law") fd ["_law_script"] [] mlaw := by
  have D_law_pen := d_law_pen (P := P) (w := w) C
  have D_law_draw := d_law_draw (P := P) (w := w) C
  have D_law_row := d_law_row (P := P) (w := w) C D_law_draw
  have DPile___init__ := dPile___init__ (P := P) (w := w) C
  have DPile_lay_out := dPile_lay_out (P := P) (w := w) C
  have DPile_end := dPile_end (P := P) (w := w) C DPile_lay_out
  have DPile_put := dPile_put (P := P) (w := w) C DPile_lay_out
  have D_law_ended := d_law_ended (P := P) (w := w) C DPile___init__ DPile_end DPile_put
  have DPile_call_back := dPile_call_back (P := P) (w := w) C DPile_lay_out
  have D_law_lots := d_law_lots (P := P) (w := w) C
  have DPile_lend := dPile_lend (P := P) (w := w) C
  have DPile_lots := dPile_lots (P := P) (w := w) C
  have Dmerged := dmerged (P := P) (w := w) C
  have DPile_merge := dPile_merge (P := P) (w := w) C Dmerged DPile_lots
  have D_law_count := d_law_count (P := P) (w := w) C DPile_lots DPile_merge
  have DPile_steps := dPile_steps (P := P) (w := w) C
  have DPile_hand := dPile_hand (P := P) (w := w) C
  have D_law_lent_right := d_law_lent_right (P := P) (w := w) C DPile_lend D_law_count DPile_lots DPile_steps DPile_hand
  have D_law_heard := d_law_heard C
  have D_law_mergings := d_law_mergings (P := P) (w := w) C
  have DPile_told := dPile_told (P := P) (w := w) C DPile_lots
  have D_law_hands_right := d_law_hands_right (P := P) (w := w) C D_law_ended DPile_call_back D_law_lots D_law_lent_right D_law_heard DPile_steps D_law_count D_law_mergings DPile_lots DPile_merge DPile_told
  obtain ⟨fd, F⟩ := C.says.def_ 22 (d := ddlaw) rfl
  exact ⟨fd, fng_of (N := nlaw) (k := 8) F slaw rfl rfl (by decide) fun cd A outer s H E hr g => blaw C D_law_pen D_law_draw D_law_row D_law_hands_right D_law_ended D_law_count DPile_steps DPile_lots DPile_told hr g⟩
theorem facts2 {l : PySem.W.OpenLaw} {w : World} (K : PySem.W.Frag) (mg : Str → Option Value) (f : Addr) (h : Heap) (KX : K.In h) (G : h.Ns mainGlobals mg) (c : He.SaysD fa fn K ∧ tbsOk tb K = true) (hfa : mg ("law" : Str) = some (.ref f)) :
    ∃ fd : FuncData, (∀ (s : Shared) (u : Value), BindsTo s fd ⟨[u], []⟩ [("_law_script", u)]) ∧ ∀ base : Heap, K.In base → base.Ns mainGlobals mg → FnG l.prog w K mg base 9 f fd ["_law_script"] [] mlaw := by

  have e := hfa.symm.trans ((⟨⟨KX, G, c.1⟩, c.2⟩ : Cm fa fn tb K mg h).glo 45)
  cases e
  obtain ⟨fd, F⟩ := c.1.def_ 22 (d := ddlaw) rfl
  refine ⟨fd, fun s u => FunD.bindsA (ps := ["_law_script"]) F (fun _ _ _ _ _ _ us hl => match us, hl with | [_], _ => rfl) s [u] rfl, fun base hb hn => ?_⟩
  have C : Cm fa fn tb K mg base := ⟨⟨hb, hn, c.1⟩, c.2⟩
  have D_law_pen := d_law_pen (P := l.prog) (w := w) C
  have D_law_draw := d_law_draw (P := l.prog) (w := w) C
  have D_law_row := d_law_row (P := l.prog) (w := w) C D_law_draw
  have DPile___init__ := dPile___init__ (P := l.prog) (w := w) C
  have DPile_lay_out := dPile_lay_out (P := l.prog) (w := w) C
  have DPile_end := dPile_end (P := l.prog) (w := w) C DPile_lay_out
  have DPile_put := dPile_put (P := l.prog) (w := w) C DPile_lay_out
  have D_law_ended := d_law_ended (P := l.prog) (w := w) C DPile___init__ DPile_end DPile_put
  have DPile_call_back := dPile_call_back (P := l.prog) (w := w) C DPile_lay_out
  have D_law_lots := d_law_lots (P := l.prog) (w := w) C
  have DPile_lend := dPile_lend (P := l.prog) (w := w) C
  have DPile_lots := dPile_lots (P := l.prog) (w := w) C
  have Dmerged := dmerged (P := l.prog) (w := w) C
  have DPile_merge := dPile_merge (P := l.prog) (w := w) C Dmerged DPile_lots
  have D_law_count := d_law_count (P := l.prog) (w := w) C DPile_lots DPile_merge
  have DPile_steps := dPile_steps (P := l.prog) (w := w) C
  have DPile_hand := dPile_hand (P := l.prog) (w := w) C
  have D_law_lent_right := d_law_lent_right (P := l.prog) (w := w) C DPile_lend D_law_count DPile_lots DPile_steps DPile_hand
  have D_law_heard := d_law_heard C
  have D_law_mergings := d_law_mergings (P := l.prog) (w := w) C
  have DPile_told := dPile_told (P := l.prog) (w := w) C DPile_lots
  have D_law_hands_right := d_law_hands_right (P := l.prog) (w := w) C D_law_ended DPile_call_back D_law_lots D_law_lent_right D_law_heard DPile_steps D_law_count D_law_mergings DPile_lots DPile_merge DPile_told
  exact fng_of (N := nlaw) (k := 8) F slaw rfl rfl (by decide) fun cd A outer s H E hr g => blaw C D_law_pen D_law_draw D_law_row D_law_hands_right D_law_ended D_law_count DPile_steps DPile_lots DPile_told hr g
end L42

set_option maxHeartbeats 400000
namespace L42
open PySem PySem.Spec PyProof.Rows L2 DL
local macro_rules | `(tactic| symm_saturate) => `(tactic| first | exact data_pur | exact data_own _ | exact data_lst)
local macro_rules | `(tactic| and_intros) => `(tactic| first | exact tsI | exact tsB | exact tsN | exact tsS | rfl)
local macro_rules | `(tactic| subst_eqs) => `(tactic| (repeat (first
  | with_reducible exact le_n
  | with_reducible apply le_0
  | with_reducible apply le_1
  | with_reducible apply le_1n
  | ((with_reducible apply le_2); (· symm_saturate))
  | with_reducible apply le_3)))
local macro_rules | `(tactic| trace_state) => `(tactic| (repeat (first
  | with_reducible exact me_n
  | with_reducible apply me_0
  | with_reducible apply me_1
  | with_reducible apply me_2
  | ((with_reducible apply me_3); (· and_intros)))))
local macro_rules | `(tactic| fail) => `(tactic| first
  | with_reducible refine Eq.mpr hs_seq ?_
  | ((with_reducible apply st_then); (try simp only [DL.putAll, List.set_cons_zero, List.set_cons_succ]); exact rfl)
  | with_reducible refine Eq.mpr then_rt ?_
  | with_reducible refine Eq.mpr hs_skip ?_
  | with_reducible refine st_set ?_
  | with_reducible refine Eq.mpr hs_own ?_
  | with_reducible refine Eq.mpr hs_frz ?_
  | with_reducible refine Eq.mpr hs_op2 ?_
  | with_reducible refine Eq.mpr hs_op1 ?_
  | with_reducible refine Eq.mpr hs_opL ?_
  | with_reducible refine Eq.mpr hs_cons ?_
  | with_reducible refine Eq.mpr hs_nil ?_
  | with_reducible refine Eq.mpr hs_lst ?_
  | with_reducible refine Eq.mpr hs_tup ?_
  | with_reducible refine Eq.mpr hs_pure ?_
  | ((with_reducible apply st_rdp); exact rfl)
  | with_reducible refine Eq.mpr hs_rd ?_
  | with_reducible refine Eq.mpr hs_mv ?_
  | with_reducible refine Eq.mpr hs_ro ?_
  | with_reducible refine Eq.mpr hs_ret ?_
  | with_reducible refine Eq.mpr hs_drop ?_
  | with_reducible refine Eq.mpr hs_ifS ?_
  | with_reducible refine Eq.mpr hs_ite ?_
  | with_reducible refine Eq.mpr hs_and ?_
  | with_reducible refine Eq.mpr hs_or ?_
  | with_reducible refine Eq.mpr hs_andV ?_
  | with_reducible refine Eq.mpr hs_orV ?_
  | with_reducible refine Eq.mpr hs_not ?_
  | with_reducible refine Eq.mpr hs_notV ?_
  | with_reducible refine Eq.mpr hs_tru ?_
  | with_reducible refine Eq.mpr hs_trt ?_
  | with_reducible refine Eq.mpr hs_isi ?_
  | with_reducible refine Eq.mpr hs_setI ?_
  | with_reducible refine Eq.mpr hs_call ?_
  | with_reducible refine Eq.mpr hs_aNil ?_
  | with_reducible refine Eq.mpr hs_aV ?_
  | with_reducible refine Eq.mpr hs_aR ?_
  | with_reducible refine Eq.mpr hs_aO ?_
  | with_reducible refine Eq.mpr hs_perm ?_
  | with_reducible refine Eq.mpr hs_iter ?_
  | with_reducible refine Eq.mpr hs_items ?_
  | with_reducible refine Eq.mpr hs_for ?_
  | with_reducible refine Eq.mpr hs_lc ?_
  | with_reducible refine Eq.mpr hs_slice ?_
  | with_reducible refine Eq.mpr hs_noEnd ?_
  | with_reducible refine Eq.mpr hs_anEnd ?_
  | with_reducible refine Eq.mpr hs_need ?_
  | with_reducible refine Eq.mpr hs_chg ?_
  | with_reducible refine Eq.mpr hs_bind ?_
  | with_reducible refine Eq.mpr hs_opO ?_
  | with_reducible refine Eq.mpr hs_disp ?_
  | with_reducible refine Eq.mpr hs_pairs ?_
  | with_reducible refine Eq.mpr hs_pairs0 ?_
  | with_reducible refine Eq.mpr iff2_t ?_
  | with_reducible refine Eq.mpr iff2_f ?_
  | with_reducible refine iff2_nf ?_
  | with_reducible refine iff2_nt ?_
  | with_reducible refine lp_nx ?_
  | with_reducible refine lp_ct ?_
  | with_reducible refine lp_bk ?_
  | with_reducible refine lp_rt ?_
  | with_reducible refine st_boolP ?_
  | with_reducible refine st_intP ?_
  | with_reducible refine st_trueB ?_
  | with_reducible refine st_add ?_
  | with_reducible refine st_sub ?_
  | with_reducible refine st_neg ?_
  | with_reducible refine st_lt ?_
  | with_reducible refine st_le ?_
  | with_reducible refine st_gt ?_
  | with_reducible refine st_ge ?_
  | with_reducible refine st_abs ?_
  | with_reducible refine st_lenL ?_
  | with_reducible refine st_lenT ?_
  | with_reducible refine st_intB ?_
  | with_reducible refine st_min ?_
  | with_reducible refine st_max ?_
  | with_reducible refine st_datL ?_
  | with_reducible refine st_datP ?_
  | with_reducible refine st_neints ?_
  | with_reducible refine st_nei ?_
  | with_reducible refine st_neb ?_
  | with_reducible refine st_eqi ?_
  | with_reducible refine st_itL ?_
  | with_reducible refine st_itT ?_
  | with_reducible refine st_enL ?_
  | with_reducible refine st_enT ?_
  | with_reducible refine st_mul (by first | exact mulC_l (by decide) | exact mulC_l (by omega) | exact mulC_r (by omega)) ?_
  | with_reducible refine st_div (divC_ok' (by omega) (by omega)) ?_
  | with_reducible refine st_mod (by omega) ?_
  | with_reducible refine st_pow (powC_ok' (by decide) (by decide) (by omega)) ?_
  | with_reducible refine st_rng1 (by omega) ?_
  | ((with_reducible apply st_sl); exact rfl)
  | ((with_reducible apply st_mv); exact rfl)
  | ((with_reducible apply st_ro); exact rfl)
  | ((with_reducible apply st_so); exact rfl)
  | ((with_reducible apply st_chg); exact rfl)
  | ((with_reducible apply st_take); exact rfl)
  | with_reducible refine st_and rfl ?_
  | with_reducible refine st_and (Nat.le_of_ble_eq_true rfl) ?_)

local macro_rules | `(tactic| fail) => `(tactic| first
  | with_reducible refine Eq.mpr hs_chain ?_
  | with_reducible refine hs_asgT ?_
  | with_reducible refine hs_rep ?_
  | with_reducible refine st_lenI ?_
  | with_reducible refine st_addI ?_
  | with_reducible refine st_subI ?_
  | ((with_reducible apply hs_augN); exact rfl))

local macro_rules | `(tactic| fail) => `(tactic| first
  | ((with_reducible apply st_perm); exact rfl)
  | with_reducible refine hs_dq2 ?_
  | with_reducible refine hs_get1 ?_
  | with_reducible refine hs_get2 ?_
  | with_reducible refine hs_lcK ?_
  | with_reducible refine hs_forK ?_)

local macro_rules | `(tactic| fail) => `(tactic| first
  | with_reducible refine st_eqLE ?_
  | with_reducible refine st_neLE ?_)

local macro_rules | `(tactic| fail) => `(tactic| ((with_reducible apply st_then); (try simp only [DL.putAll, restE, wipeE, pickP, List.set_cons_zero, List.set_cons_succ, List.getElem?_cons_zero, List.getElem?_cons_succ]); exact rfl))

local macro_rules | `(tactic| fail) => `(tactic| first
  | ((with_reducible apply st_frzX); exact rfl; exact data_lst)
  | with_reducible refine st_addBI ?_
  | with_reducible refine st_subBI ?_)

local macro_rules | `(tactic| fail) => `(tactic| first
  | ((with_reducible apply hs_lq); (· subst_eqs))
  | ((with_reducible apply lq); (· and_intros); (· trace_state)))

section
theorem st_addBI {i j : Int} {Q : PyData → Prop} (q : Q (.int (i + j))) : Bd (addB (.int i) (.int j)) Q := ⟨_, rfl, q⟩
theorem st_subBI {i j : Int} {Q : PyData → Prop} (q : Q (.int (i - j))) : Bd (subB (.int i) (.int j)) Q := ⟨_, rfl, q⟩
def pen (cs : List Int) (t ov : Int) : OD := .lst [.pur (.list (cs.map .int)), .pur (.int t), .pur (.int ov)]
section
variable {cs : List Int} {t ov x : Int} {env : DEnv} {Q : PyData → Prop} {Q' : OD → Prop}
theorem pen_cells (h : sl env 0 = some (pen cs t ov)) (q : Q (.list (cs.map .int))) : Bd ((ixO (slotO 0) (fun _ => some (.int 0)) env).bind purD) Q := by
  have : ixO (slotO 0) (fun _ => some (.int 0)) env = some (.pur (.list (cs.map .int))) := by show ((sl env 0).bind _) = _; rw [h]; rfl
  rw [this]; exact ⟨_, rfl, q⟩
theorem pen_at (h : sl env 0 = some (pen cs t ov)) (q : Q (.int t)) : Bd ((ixO (slotO 0) (fun _ => some (.int 1)) env).bind purD) Q := by
  have : ixO (slotO 0) (fun _ => some (.int 1)) env = some (.pur (.int t)) := by show ((sl env 0).bind _) = _; rw [h]; rfl
  rw [this]; exact ⟨_, rfl, q⟩
theorem pen_over (h : sl env 0 = some (pen cs t ov)) (q : Q (.int ov)) : Bd ((ixO (slotO 0) (fun _ => some (.int 2)) env).bind purD) Q := by
  have : ixO (slotO 0) (fun _ => some (.int 2)) env = some (.pur (.int ov)) := by show ((sl env 0).bind _) = _; rw [h]; rfl
  rw [this]; exact ⟨_, rfl, q⟩
theorem pen_sat (h : sl env 0 = some (pen cs t ov)) (q : Q' (pen cs x ov)) : Bd ((sl env 0).bind fun c => setO c (.int 1) (.pur (.int x))) Q' := by
  rw [h]; exact ⟨_, rfl, q⟩
theorem pen_sover (h : sl env 0 = some (pen cs t ov)) (q : Q' (pen cs t x)) : Bd ((sl env 0).bind fun c => setO c (.int 2) (.pur (.int x))) Q' := by
  rw [h]; exact ⟨_, rfl, q⟩
end
local macro_rules | `(tactic| fail) => `(tactic| first
  | ((with_reducible apply pen_cells); exact rfl)
  | ((with_reducible apply pen_at); exact rfl)
  | ((with_reducible apply pen_over); exact rfl)
  | ((with_reducible apply pen_sat); exact rfl)
  | ((with_reducible apply pen_sover); exact rfl))
local macro_rules | `(tactic| fail) => `(tactic| first
  | with_reducible refine st_addBI ?_
  | with_reducible refine st_subBI ?_)
set_option maxHeartbeats 0 in
theorem tail_ok {p : OD} {s2 s5 s6 : Option OD} {many t c : Int} (hm : 0 < many) (hm2 : many < 2 ^ 60) (ht : 0 ≤ t) (ht2 : t < 10000) {Q : Flw → DEnv → Prop}
    (q : ∀ d, 0 ≤ d ∧ d < many → ∀ z, Q (.rt (.pur (.int d))) [some p, some (.pur (.int many)), s2, some (.pur (.int t)), some (.pur (.int c)), s5, z]) :
    Hs ((M.seq (M.set 6 (M.own (M.op2 modD (M.op2 powD (M.op2 addB (M.op2 addB (M.op2 addB (M.op2 modD (M.rd 4) (M.pure (.int 2147483579))) (M.op2 mulD (M.op2 mulD (M.pure (.int 47017)) (M.rd 3)) (M.rd 3))) (M.op2 mulD (M.pure (.int 20021)) (M.rd 3))) (M.pure (.int 43))) (M.pure (.int 5))) (M.pure (.int 2147483647)))))
  (M.seq (M.set 6 (M.own (M.op2 modD (M.op2 powD (M.op2 addB (M.op2 addB (M.op2 mulD (M.rd 6) (M.op2 addB (M.rd 3) (M.pure (.int 16807)))) (M.op2 mulD (M.pure (.int 50033)) (M.rd 3))) (M.pure (.int 7))) (M.pure (.int 3))) (M.pure (.int 2147483587)))))
  (M.ret (M.own (M.op2 modD (M.op2 divD (M.rd 6) (M.pure (.int 32))) (M.rd 1)))))) [some p, some (.pur (.int many)), s2, some (.pur (.int t)), some (.pur (.int c)), s5, s6]) Q := by
  have q1 := fm c (m := 2147483579) (by decide)
  have g1 : 0 ≤ 47017 * t * t ∧ 47017 * t * t ≤ 4703700000000 := by
    have a := Int.mul_nonneg ht ht
    have b := Int.mul_le_mul (Int.le_of_lt ht2) (Int.le_of_lt ht2) ht (by decide)
    rw [Int.mul_assoc]
    constructor <;> omega
  repeat fail
  generalize hm1 : Int.fmod ((c.fmod 2147483579 + 47017 * t * t + 20021 * t + 43) ^ Int.toNat 5) 2147483647 = m1
  have q2 : 0 ≤ m1 ∧ m1 < 2147483647 := by rw [← hm1]; exact fm _ (by decide)
  clear hm1
  have g2 : 0 ≤ m1 * (t + 16807) ∧ m1 * (t + 16807) ≤ 2147483647 * 26807 := by
    have b := Int.mul_le_mul (Int.le_of_lt q2.2) (show t + 16807 ≤ 26807 by omega) (by omega) (by decide)
    exact ⟨Int.mul_nonneg q2.1 (by omega), b⟩
  repeat fail
  generalize hm3 : Int.fmod ((m1 * (t + 16807) + 50033 * t + 7) ^ Int.toNat 3) 2147483587 = m2
  have q3 : 0 ≤ m2 ∧ m2 < 2147483587 := by rw [← hm3]; exact fm _ (by decide)
  clear hm3
  repeat fail
  exact q _ (fm _ hm) _
local macro_rules | `(tactic| fail) => `(tactic| (with_reducible refine tail_ok (by omega) (by omega) (by omega) (by omega) ?_))
set_option maxHeartbeats 0 in
theorem draw_ok {cs : List Int} {t ov many : Int} (hm : 0 < many) (hm2 : many < 2 ^ 60) (ht : 0 ≤ t) (ht2 : t < 10000) (hov : 0 ≤ ov) :
    Hs (m_law_draw [some (pen cs t ov), some (.pur (.int many))]) fun x outs => ∃ d t' ov', x = .pur (.int d) ∧ (0 ≤ d ∧ d < many) ∧ outs = [some (pen cs t' ov'), none] ∧ t ≤ t' ∧ t' ≤ t + 1 ∧ 0 ≤ ov' := by
  unfold m_law_draw
  refine hs_runE [_, _, none, none, none, none, none] rfl rfl ?_
  repeat fail
  refine iff2_of (fun h => ?_) fun h => ?_
  · repeat fail
    exact ⟨_, t, ov.fdiv many, rfl, fm _ hm, rfl, by omega, by omega, Int.fdiv_nonneg hov (by omega)⟩
  · repeat fail
    refine iff2_of (fun h1 => ?GA) fun h1 => ?GB
    case' GA =>
      have hlen : 0 < cs.length := by
        cases cs with
        | nil => simp at h1
        | cons a l => simp
      repeat fail
      have hk := fm t (m := (cs.length : Int)) (by omega)
      obtain ⟨c, hc⟩ := item_ints (cs := cs) hk.1 hk.2
      with_reducible refine st_bd hc ?_
      clear hc hk hlen
      repeat fail
    case' GB =>
      repeat fail
      generalize 54001 * t + 41 = c
    all_goals
      refine iff2_of (fun h2 => ?_) fun h2 => ?_
    all_goals repeat fail
    all_goals try with_reducible refine iff2_of (fun h3 => ?_) fun h3 => ?_
    all_goals repeat fail
    all_goals first
      | exact ⟨_, t + 1, _, rfl, fm _ hm, rfl, by omega, by omega, Int.fdiv_nonneg (by split <;> split <;> omega) (by omega)⟩
      | exact fun d hd z => ⟨d, t + 1, ov, rfl, hd, rfl, by omega, by omega, hov⟩
theorem st_tk {cs : List Int} {t ov many : Int} (hm : 0 < many) (hm2 : many < 2 ^ 60) (ht : 0 ≤ t) (ht2 : t < 10000) (hov : 0 ≤ ov) {Q : OD → DEnv → Prop}
    (q : ∀ d t' ov', 0 ≤ d → d < many → t ≤ t' → t' ≤ t + 1 → 0 ≤ ov' → Q (.pur (.int d)) [some (pen cs t' ov'), none]) : Hs (m_law_draw [some (pen cs t ov), some (.pur (.int many))]) Q := by
  refine (draw_ok hm hm2 ht ht2 hov).mono ?_
  rintro x outs ⟨d, t', ov', rfl, ⟨h1, h2⟩, rfl, h3, h4, h5⟩
  exact q d t' ov' h1 h2 h3 h4 h5
theorem lpen_ok {ns : List Int} {Q : OD → DEnv → Prop} (q : Q (pen (ns.take 63) 0 0) [none]) : Hs (m_law_pen [some (.pur (.list (ns.map .int)))]) Q := by
  unfold m_law_pen
  refine hs_runE (env := [some (.pur (.list (ns.map .int)))]) [some (.pur (.list (ns.map .int)))] rfl rfl ?_
  repeat fail
  refine st_cutL (by decide) ?_
  repeat fail
  refine st_bd (a := OD.lst (((ns.take 63).map .int).map .pur)) rfl ?_
  refine st_datL ?_
  repeat fail
  exact q
end
section
open PySem.W (alike alikeAll alike_ints)
def Sm (n : Int) : Prop := n.natAbs < 10 ^ 32
def rTx : List Str := ["a", "ab", "B", ""]
/-- a row of a form -/
def RowC : Nat → PyData → Prop
  | 0, d => ∃ n, Sm n ∧ d = .tuple [.int n]
  | 1, d => ∃ n k, Sm n ∧ Sm k ∧ d = .tuple [.int n, .int k]
  | 2, d => ∃ i n k, Sm i ∧ Sm n ∧ Sm k ∧ d = .tuple [.tuple [.int i, .int n], .int k]
  | 3, d => ∃ n, Sm n ∧ d = .tuple [.tuple [], .int n]
  | 4, d => ∃ i n k, Sm i ∧ Sm n ∧ Sm k ∧ d = .tuple [.int i, .int n, .int k]
  | 5, d => ∃ l : List Int, l.length ≤ 3 ∧ (∀ n ∈ l, Sm n) ∧ d = .tuple (l.map .int)
  | 6, d => ∃ s n, s ∈ rTx ∧ Sm n ∧ d = .tuple [.str s, .int n]
  | _, _ => False
theorem rowC_alike : ∀ {f : Nat} {a b : PyData}, RowC f a → RowC f b → alike a b = true
  | 0, _, _, ⟨_, _, e⟩, ⟨_, _, e'⟩ => by subst e e'; simp [alike, alikeAll]
  | 1, _, _, ⟨_, _, _, _, e⟩, ⟨_, _, _, _, e'⟩ => by subst e e'; simp [alike, alikeAll]
  | 2, _, _, ⟨_, _, _, _, _, _, e⟩, ⟨_, _, _, _, _, _, e'⟩ => by subst e e'; simp [alike, alikeAll]
  | 3, _, _, ⟨_, _, e⟩, ⟨_, _, e'⟩ => by subst e e'; simp [alike, alikeAll]
  | 4, _, _, ⟨_, _, _, _, _, _, e⟩, ⟨_, _, _, _, _, _, e'⟩ => by subst e e'; simp [alike, alikeAll]
  | 5, _, _, ⟨_, _, _, e⟩, ⟨_, _, _, e'⟩ => by subst e e'; simp only [alike]; exact alike_ints _ _
  | 6, _, _, ⟨_, _, _, _, e⟩, ⟨_, _, _, _, e'⟩ => by subst e e'; simp [alike, alikeAll]
  | _ + 7, _, _, h, _ => h.elim
theorem rowC_tup : ∀ {f : Nat} {a : PyData}, RowC f a → ∃ xs, a = .tuple xs
  | 0, _, ⟨_, _, e⟩ => ⟨_, e⟩
  | 1, _, ⟨_, _, _, _, e⟩ => ⟨_, e⟩
  | 2, _, ⟨_, _, _, _, _, _, e⟩ => ⟨_, e⟩
  | 3, _, ⟨_, _, e⟩ => ⟨_, e⟩
  | 4, _, ⟨_, _, _, _, _, _, e⟩ => ⟨_, e⟩
  | 5, _, ⟨_, _, _, e⟩ => ⟨_, e⟩
  | 6, _, ⟨_, _, _, _, e⟩ => ⟨_, e⟩
  | _ + 7, _, h => h.elim
theorem rowC_depth : ∀ {f : Nat} {a : PyData}, RowC f a → a.depth ≤ 30
  | 0, _, ⟨_, _, e⟩ => by subst e; simp [PyData.depth, PyData.depthAll]
  | 1, _, ⟨_, _, _, _, e⟩ => by subst e; simp [PyData.depth, PyData.depthAll]
  | 2, _, ⟨_, _, _, _, _, _, e⟩ => by subst e; simp [PyData.depth, PyData.depthAll]
  | 3, _, ⟨_, _, e⟩ => by subst e; simp [PyData.depth, PyData.depthAll]
  | 4, _, ⟨_, _, _, _, _, _, e⟩ => by subst e; simp [PyData.depth, PyData.depthAll]
  | 5, _, ⟨_, _, _, e⟩ => by subst e; simp only [PyData.depth]; rw [PySem.W.depth_ints]; decide
  | 6, _, ⟨_, _, _, _, e⟩ => by subst e; simp [PyData.depth, PyData.depthAll]
  | _ + 7, _, h => h.elim
theorem gv_sm {n : Int} (h : Sm n) : Gv (.int n) 0 33 := gw_intB (k := 32) (by decide) (by decide) h
theorem gv_tx : ∀ s ∈ rTx, Gv (.str s) 0 33 := by
  intro s hs
  simp only [rTx, List.mem_cons, List.not_mem_nil, or_false] at hs
  rcases hs with rfl | rfl | rfl | rfl <;> exact ⟨by decide +kernel, by decide +kernel, by decide +kernel, by decide +kernel⟩
theorem gv_t1 {xs : List PyData} (hl : xs.length ≤ 3) (h : ∀ x ∈ xs, Gv x 0 33) : Gv (.tuple xs) 1 108 := (gw_tup h).up (Nat.le_refl _) (by omega)
theorem rowC_gv {f : Nat} {a : PyData} (h : RowC f a) : Gv a 2 400 := by
  have t2 : ∀ {xs : List PyData}, xs.length ≤ 3 → (∀ x ∈ xs, Gv x 1 108) → Gv (.tuple xs) 2 400 := fun hl h => (gw_tup h).up (Nat.le_refl _) (by omega)
  have up : ∀ {x : PyData}, Gv x 0 33 → Gv x 1 108 := fun h => h.up (by decide) (by decide)
  have t1 : ∀ {xs : List PyData}, xs.length ≤ 3 → (∀ x ∈ xs, Gv x 0 33) → Gv (.tuple xs) 2 400 := fun hl h => (gv_t1 hl h).up (by decide) (by decide)
  match f, h with
  | _ + 7, h => exact h.elim
  | 0, ⟨n, h1, e⟩ => subst e; exact t1 (by simp) (by simp only [List.mem_cons, List.not_mem_nil, or_false]; rintro x rfl; exact gv_sm h1)
  | 1, ⟨n, k, h1, h2, e⟩ => subst e; exact t1 (by simp) (by simp only [List.mem_cons, List.not_mem_nil, or_false]; rintro x (rfl | rfl); (first | exact gv_sm h1 | exact gv_sm h2); exact gv_sm h2)
  | 2, ⟨i, n, k, h1, h2, h3, e⟩ =>
    subst e
    refine t2 (by simp) ?_
    simp only [List.mem_cons, List.not_mem_nil, or_false]
    rintro x (rfl | rfl)
    · exact gv_t1 (by simp) (by simp only [List.mem_cons, List.not_mem_nil, or_false]; rintro x (rfl | rfl); (first | exact gv_sm h1 | exact gv_sm h2); exact gv_sm h2)
    · exact up (gv_sm h3)
  | 3, ⟨n, h1, e⟩ =>
    subst e
    refine t2 (by simp) ?_
    simp only [List.mem_cons, List.not_mem_nil, or_false]
    rintro x (rfl | rfl)
    · exact gv_t1 (by simp) (by simp)
    · exact up (gv_sm h1)
  | 4, ⟨i, n, k, h1, h2, h3, e⟩ => subst e; exact t1 (by simp) (by simp only [List.mem_cons, List.not_mem_nil, or_false]; rintro x (rfl | rfl | rfl); exact gv_sm h1; exact gv_sm h2; exact gv_sm h3)
  | 5, ⟨l, h1, h2, e⟩ => subst e; exact t1 (by simpa using h1) (fun x hx => by obtain ⟨n, hn, rfl⟩ := List.mem_map.mp hx; exact gv_sm (h2 n hn))
  | 6, ⟨s, n, h1, h2, e⟩ => subst e; exact t1 (by simp) (by simp only [List.mem_cons, List.not_mem_nil, or_false]; rintro x (rfl | rfl); exact gv_tx _ h1; exact gv_sm h2)
theorem st_addBL {xs ys : List PyData} {Q : PyData → Prop} (h : xs.length + ys.length ≤ lim) (q : Q (.list (xs ++ ys))) : Bd (addB (.list xs) (.list ys)) Q := ⟨_, by show (if _ then _ else _) = _; exact if_pos h, q⟩
theorem st_i0 {a b : Int} {Q : PyData → Prop} (q : Q (.int a)) : Bd (itemD (.list (List.map .int [a, b])) (.int 0)) Q := st_itemL (f := PyData.int) (l := [a, b]) (k := 0) rfl q
theorem st_i1 {a b : Int} {Q : PyData → Prop} (q : Q (.int b)) : Bd (itemD (.list (List.map .int [a, b])) (.int 1)) Q := st_itemL (f := PyData.int) (l := [a, b]) (k := 1) rfl q
theorem st_j0 {a b : Int} {Q : PyData → Prop} (q : Q (.int a)) : Bd (itemD (.list [.int a, .int b]) (.int 0)) Q := st_i0 q
theorem st_j1 {a b : Int} {Q : PyData → Prop} (q : Q (.int b)) : Bd (itemD (.list [.int a, .int b]) (.int 1)) Q := st_i1 q
local macro_rules | `(tactic| fail) => `(tactic| first
  | with_reducible refine st_j0 ?_
  | with_reducible refine st_j1 ?_
  | with_reducible refine st_i0 ?_
  | with_reducible refine st_i1 ?_
  | with_reducible refine st_addBI ?_
  | with_reducible refine st_subBI ?_)
local macro_rules | `(tactic| fail) => `(tactic| ((with_reducible refine st_tk (by omega) (by omega) (by omega) (by omega) (by omega) ?_); intro _ _ _ _ _ _ _ _))
set_option maxHeartbeats 0 in
theorem row_ok {cs : List Int} {t ov form : Int} (hf0 : 0 ≤ form) (hf : form < 7) (ht : 0 ≤ t) (ht2 : t < 9000) (hov : 0 ≤ ov) :
    Hs (m_law_row [some (pen cs t ov), some (.pur (.int form))]) fun x outs => ∃ d t' ov', x = .pur d ∧ RowC form.toNat d ∧ outs = [some (pen cs t' ov'), none] ∧ t ≤ t' ∧ t' ≤ t + 4 ∧ 0 ≤ ov' := by
  unfold m_law_row
  refine hs_runE [_, _, none, none, none, none, none] rfl rfl ?_
  repeat fail
  rw [rangeL01]
  refine hs_lcN (fun i acc e => ∃ (ls : List Int) (t' ov' : Int), acc = ls.map .int ∧ ls.length = i ∧ (∀ n ∈ ls, 0 ≤ n ∧ n < 4) ∧ e = [some (pen cs t' ov'), some (.pur (.int form)), none, none, none, none, none] ∧ t ≤ t' ∧ t' ≤ t + i ∧ 0 ≤ ov') ?_ ⟨[], t, ov, rfl, rfl, by simp, rfl, by omega, by omega, hov⟩ ?_
  · rintro i d hd acc e ⟨ls, t', ov', rfl, hl, hb, rfl, h1, h2, h3⟩
    obtain ⟨k, hk, rfl⟩ := map_get hd
    have hi : i < 2 := by
      have := (List.getElem?_eq_some_iff.mp hk).1
      rw [List.length_range] at this
      omega
    refine ⟨_, rfl, ?_⟩
    repeat fail
    rw [if_pos rfl]
    repeat fail
    rename_i d1 t1 ov1 a1 a2 a3 a4 a5
    refine ⟨ls ++ [d1], t1, ov1, by simp, by simp [hl], fun n hn => ?_, rfl, by omega, by omega, a5⟩
    rcases List.mem_append.mp hn with hn | hn
    · exact hb n hn
    · rw [List.mem_singleton.mp hn]; exact ⟨a1, a2⟩
  · rintro ys e ⟨ls, t', ov', rfl, hl, hb, rfl, h1, h2, h3⟩
    rw [List.length_map, List.length_range] at hl h2
    obtain ⟨f0, f1, rfl⟩ : ∃ f0 f1, ls = [f0, f1] := by
      match ls, hl with
      | [a, b], _ => exact ⟨a, b, rfl⟩
    have hf0' := hb f0 (by simp)
    have hf1' := hb f1 (by simp)
    repeat fail
    rename_i d1 t1 o1 a1 a2 a3 a4 a5
    refine st_ixLm a1 a2 fun z hz => ?_
    obtain ⟨far, rfl, hfar⟩ : ∃ v : Int, z = .int v ∧ v.natAbs ≤ 10 ^ 30 := by
      simp only [List.mem_cons, List.not_mem_nil, or_false] at hz
      rcases hz with rfl | rfl | rfl | rfl | rfl | rfl | rfl | rfl <;> exact ⟨_, rfl, by decide⟩
    clear hz
    repeat fail
    rename_i d2 t2 o2 b1 b2 b3 b4 b5
    refine st_ixLm b1 b2 fun z hz => ?_
    obtain ⟨n, rfl, hn⟩ : ∃ v : Int, z = .int v ∧ v.natAbs ≤ 10 ^ 30 := by
      simp only [List.mem_cons, List.not_mem_nil, or_false] at hz
      rcases hz with rfl | rfl | rfl | rfl
      · exact ⟨_, rfl, by omega⟩
      · exact ⟨_, rfl, by omega⟩
      · exact ⟨_, rfl, by omega⟩
      · exact ⟨_, rfl, hfar⟩
    clear hz
    repeat fail
    refine st_cutT (f := PyData.int) (l := [f0, f1, n]) (by omega) ?_
    repeat fail
    refine st_addBL (by simp [lim]) ?_
    repeat fail
    refine st_ixLm (by omega) (by simp; omega) fun z hz => ?_
    obtain ⟨s, rfl, hs⟩ : ∃ s, z = .str s ∧ s ∈ rTx := by
      simp only [List.mem_cons, List.not_mem_nil, or_false] at hz
      rcases hz with rfl | rfl | rfl | rfl <;> exact ⟨_, rfl, by simp [rTx]⟩
    clear hz
    repeat fail
    refine st_addBL (by simp [lim]) ?_
    simp only [List.cons_append, List.nil_append]
    repeat fail
    have sn : Sm n := by unfold Sm; omega
    have s1 : Sm f1 := by unfold Sm; omega
    have s0 : Sm f0 := by unfold Sm; omega
    have sd : Sm (n.fdiv 2) := by unfold Sm; rw [Int.fdiv_eq_ediv_of_nonneg _ (by decide)]; omega
    have sm : Sm (f0.fmod 2) := by unfold Sm; rw [Int.fmod_eq_emod_of_nonneg _ (by decide)]; omega
    have si : Sm (if decide (0 < f0) = true then (1 : Int) else 0) := by unfold Sm; split <;> omega
    have key : ∃ z, itemD (.list [.tuple [.int n], .tuple [.int n, .int f1], .tuple [.tuple [.int (if decide (0 < f0) = true then 1 else 0), .int n], .int f1], .tuple [.tuple [], .int n], .tuple [.int (n.fdiv 2), .int (f0.fmod 2), .int f1], .tuple (List.map .int (List.take f0.toNat [f0, f1, n])), .tuple [.str s, .int n]]) (.int form) = some z ∧ RowC form.toNat z := by
      have hc : form = 0 ∨ form = 1 ∨ form = 2 ∨ form = 3 ∨ form = 4 ∨ form = 5 ∨ form = 6 := by omega
      rcases hc with rfl | rfl | rfl | rfl | rfl | rfl | rfl
      · exact ⟨_, rfl, n, sn, rfl⟩
      · exact ⟨_, rfl, n, f1, sn, s1, rfl⟩
      · exact ⟨_, rfl, _, n, f1, si, sn, s1, rfl⟩
      · exact ⟨_, rfl, n, sn, rfl⟩
      · exact ⟨_, rfl, _, _, f1, sd, sm, s1, rfl⟩
      · refine ⟨_, rfl, _, ?_, ?_, rfl⟩
        · rw [List.length_take]; simp only [List.length_cons, List.length_nil]; omega
        · intro m hm
          have := List.mem_of_mem_take hm
          simp only [List.mem_cons, List.not_mem_nil, or_false] at this
          rcases this with rfl | rfl | rfl
          · exact s0
          · exact s1
          · exact sn
      · exact ⟨_, rfl, s, n, hs, sn, rfl⟩
    obtain ⟨z, hz, hr⟩ := key
    refine st_bd hz ?_
    exact ⟨z, t2, o2, rfl, hr, rfl, by omega, by omega, by omega⟩
end
section
abbrev PN : List Str := ["most_held", "held_rows", "laid_lots", "steps_taken", "is_ended"]
abbrev pile (h : Int) (held : List PyData) (x : OD) (st : Int) (e : Bool) : OD := .obj "Pile" PN [.pur (.int h), .lst (held.map .pur), x, .pur (.int st), .pur (.bool e)]
abbrev lotO (l : List PyData) : OD := .lst (l.map .pur)
abbrev lotsO (ls : List (List PyData)) : OD := .lst (ls.map lotO)
def LO (x : OD) (ls : List (List PyData)) : Prop := x.data = some (.list (ls.map .list))
theorem lotsO_data (ls : List (List PyData)) : LO (lotsO ls) ls := by
  have e : OD.dataL (ls.map lotO) = some (ls.map .list) := by
    induction ls with
    | nil => rfl
    | cons l ls ih =>
      rw [List.map_cons, List.map_cons]
      show (match OD.data (lotO l), OD.dataL (ls.map lotO) with | some d, some ds => some (d :: ds) | _, _ => none) = _
      rw [ih, show OD.data (lotO l) = some (.list l) from by show (OD.dataL (l.map .pur)).map PyData.list = _; rw [dataL_pur]; rfl]
  show (OD.dataL _).map PyData.list = _
  rw [e]; rfl
theorem purO_data (ls : List (List PyData)) : LO (.pur (.list (ls.map .list))) ls := rfl
section
variable {h st : Int} {held : List PyData} {x : OD} {e : Bool} {rest : DEnv} {Q : PyData → Prop} {ls : List (List PyData)}
theorem bd_most (q : Q (.int h)) : Bd ((placeO 0 (ppF "Pile" "most_held" pp0) (some (pile h held x st e) :: rest)).bind purD) Q := ⟨_, rfl, q⟩
theorem bd_steps (q : Q (.int st)) : Bd ((placeO 0 (ppF "Pile" "steps_taken" pp0) (some (pile h held x st e) :: rest)).bind purD) Q := ⟨_, rfl, q⟩
theorem bd_end (q : Q (.bool e)) : Bd ((placeO 0 (ppF "Pile" "is_ended" pp0) (some (pile h held x st e) :: rest)).bind purD) Q := ⟨_, rfl, q⟩
theorem dt_held : dataO (placeO 0 (ppF "Pile" "held_rows" pp0)) (some (pile h held x st e) :: rest) = some (.list held) := by
  show (OD.dataL (held.map .pur)).map PyData.list = _
  rw [dataL_pur]; rfl
theorem dt_lots (hx : LO x ls) : dataO (placeO 0 (ppF "Pile" "laid_lots" pp0)) (some (pile h held x st e) :: rest) = some (.list (ls.map .list)) := hx
theorem q_held {Q : PyData → DEnv → Prop} (q : Q (.int held.length) (some (pile h held x st e) :: rest)) : Hs (M.q1 lenD (dataO (placeO 0 (ppF "Pile" "held_rows" pp0))) (some (pile h held x st e) :: rest)) Q := hs_q1 dt_held rfl rfl q
theorem q_lots (hx : LO x ls) {Q : PyData → DEnv → Prop} (q : Q (.int ls.length) (some (pile h held x st e) :: rest)) : Hs (M.q1 lenD (dataO (placeO 0 (ppF "Pile" "laid_lots" pp0))) (some (pile h held x st e) :: rest)) Q := hs_q1 (dt_lots hx) (by show some (PyData.int _) = _; rw [List.length_map]) rfl q
end
local macro_rules | `(tactic| fail) => `(tactic| first
  | ((with_reducible apply bd_most))
  | ((with_reducible apply bd_steps))
  | ((with_reducible apply bd_end))
  | ((with_reducible apply q_held))
  | with_reducible refine st_addBI ?_
  | with_reducible refine st_subBI ?_)
section
variable {h st n : Int} {held : List PyData} {x : OD} {e : Bool} {ls : List (List PyData)} {Q : OD → DEnv → Prop}
theorem st_setFn {i : Nat} {c fl : Str} {mo : M OD} {env : DEnv} {Q : Flw → DEnv → Prop} (h : Hs (mo env) fun y e => ∃ ns xs, sl e i = some (.obj c ns xs) ∧ ns.length < 1000 ∧ posN fl ns = none ∧ Q .nx (e.set i (some (.obj c (ns ++ [fl]) (xs ++ [y]))))) : Hs (M.setF i c fl mo env) Q :=
  hs_setF (h.mono fun y e ⟨ns, xs, a, b, k, d⟩ => ⟨ns, xs, a, b, by rw [k]; exact d⟩)
theorem st_setFs {i n : Nat} {c fl : Str} {mo : M OD} {env : DEnv} {Q : Flw → DEnv → Prop} (h : Hs (mo env) fun y e => ∃ ns xs, sl e i = some (.obj c ns xs) ∧ ns.length < 1000 ∧ posN fl ns = some n ∧ Q .nx (e.set i (some (.obj c ns (xs.set n y))))) : Hs (M.setF i c fl mo env) Q :=
  hs_setF (h.mono fun y e ⟨ns, xs, a, b, k, d⟩ => ⟨ns, xs, a, b, by rw [k]; exact d⟩)
theorem init_ok (q : Q (.pur .none) [some (pile h [] (.lst []) 0 false), none]) : Hs (mPile___init__ [some (.obj "Pile" [] []), some (.pur (.int h))]) Q := by
  unfold mPile___init__
  refine hs_runE [_, _] rfl rfl ?_
  repeat fail
  refine st_setFn ?_
  repeat fail
  refine ⟨[], [], rfl, by decide, rfl, ?_⟩
  simp only [List.set_cons_zero, List.nil_append, List.cons_append]
  repeat fail
  refine st_setFn ?_
  repeat fail
  refine ⟨_, _, rfl, by simp, rfl, ?_⟩
  simp only [List.set_cons_zero, List.nil_append, List.cons_append]
  repeat fail
  refine st_setFn ?_
  repeat fail
  refine ⟨_, _, rfl, by simp, rfl, ?_⟩
  simp only [List.set_cons_zero, List.nil_append, List.cons_append]
  repeat fail
  refine st_setFn ?_
  repeat fail
  refine ⟨_, _, rfl, by simp, rfl, ?_⟩
  simp only [List.set_cons_zero, List.nil_append, List.cons_append]
  repeat fail
  refine st_setFn ?_
  repeat fail
  refine ⟨_, _, rfl, by simp, rfl, ?_⟩
  exact q
theorem lots_ok (hx : LO x ls) (q : Q (.pur (.int ls.length)) [some (pile h held x st e)]) : Hs (mPile_lots [some (pile h held x st e)]) Q := by
  unfold mPile_lots
  refine hs_runE [_] rfl rfl ?_
  repeat fail
  refine q_lots hx ?_
  repeat fail
  exact q
theorem steps_ok (q : Q (.pur (.int st)) [some (pile h held x st e)]) : Hs (mPile_steps [some (pile h held x st e)]) Q := by
  unfold mPile_steps
  refine hs_runE [_] rfl rfl ?_
  repeat fail
  exact q
theorem hand_ok (q : Q (.pur (.int h)) [some (pile h held x st e)]) : Hs (mPile_hand [some (pile h held x st e)]) Q := by
  unfold mPile_hand
  refine hs_runE [_] rfl rfl ?_
  repeat fail
  exact q
theorem lend_ok (q : Q (.pur .none) [some (pile (h + n) held x st e), none]) : Hs (mPile_lend [some (pile h held x st e), some (.pur (.int n))]) Q := by
  unfold mPile_lend
  refine hs_runE [_, _] rfl rfl ?_
  refine hs_augF (k := h) rfl ?_
  repeat fail
  exact ⟨_, rfl, ⟨_, _, rfl, q⟩⟩
theorem lay_ok (hl : ls.length < 2000) (ok : okSortB held = true) (q : Q (.pur .none) [some (pile h [] (lotsO (ls ++ [held.mergeSort leA])) (st + held.length) e)]) : Hs (mPile_lay_out [some (pile h held (lotsO ls) st e)]) Q := by
  unfold mPile_lay_out
  refine hs_runE [_] rfl rfl ?_
  repeat fail
  refine hs_appP (x := pile h held (lotsO ls) st e) (y := lotO (held.mergeSort leA)) (p := [.fld "Pile" "laid_lots"]) (zs := ls.map lotO) rfl rfl ?_ rfl (by rw [List.length_map]; omega) ?_
  · show (match OD.lst (held.map .pur) with
      | .lst xs => (match pursD xs with
        | some ds => if okSortB ds = true then some (OD.lst ((ds.mergeSort leA).map .pur)) else none
        | none => none)
      | _ => none) = _
    have e : pursD (held.map .pur) = some held := by
      clear ok q
      induction held with
      | nil => rfl
      | cons d ds ih => rw [List.map_cons]; unfold pursD; rw [ih]; rfl
    simp only [e, if_pos ok]
  repeat fail
  rw [show setP [.fld "Pile" "laid_lots"] (pile h held (lotsO ls) st e) (.lst (ls.map lotO ++ [lotO (held.mergeSort leA)])) = pile h held (lotsO (ls ++ [held.mergeSort leA])) st e from by
    show pile h held (.lst (ls.map lotO ++ [lotO (held.mergeSort leA)])) st e = _
    unfold lotsO
    rw [List.map_append]; rfl]
  refine hs_augF (k := st) rfl ?_
  repeat fail
  refine ⟨_, rfl, ⟨_, _, rfl, ?_⟩⟩
  simp only [List.set_cons_zero]
  repeat fail
  refine st_setFs (n := 1) ?_
  repeat fail
  refine ⟨_, _, rfl, by simp, rfl, ?_⟩
  exact q
end
end
section
local macro_rules | `(tactic| fail) => `(tactic| first
  | ((with_reducible apply bd_most))
  | ((with_reducible apply bd_steps))
  | ((with_reducible apply bd_end))
  | ((with_reducible apply q_held))
  | with_reducible refine st_addBI ?_
  | with_reducible refine st_subBI ?_)
section
variable {h st n : Int} {held : List PyData} {x : OD} {e : Bool} {ls : List (List PyData)} {Q : OD → DEnv → Prop} {d : PyData}
theorem st_lay {rest : DEnv} {Q : OD → DEnv → Prop} (hl : ls.length < 2000) (ok : okSortB held = true) (q : Q (.pur .none) (some (pile h [] (lotsO (ls ++ [held.mergeSort leA])) (st + held.length) e) :: rest)) :
    Hs (M.methP 0 pp0 "Pile" "lay_out" mPile_lay_out M.nil (some (pile h held (lotsO ls) st e) :: rest)) Q := by
  refine hs_methP (x := pile h held (lotsO ls) st e) (y := pile h held (lotsO ls) st e) (p := []) (env0 := none :: rest) rfl rfl rfl rfl rfl ?_
  repeat fail
  exact lay_ok hl ok ⟨_, [], rfl, q⟩
theorem put_full (hf : h ≤ held.length) (hl : ls.length < 2000) (ok : okSortB held = true) (q : Q (.pur .none) [some (pile h [d] (lotsO (ls ++ [held.mergeSort leA])) (st + held.length) false), none]) :
    Hs (mPile_put [some (pile h held (lotsO ls) st false), some (.pur d)]) Q := by
  unfold mPile_put
  refine hs_runE [_, _] rfl rfl ?_
  repeat fail
  refine iff2_of (fun hc => ?_) fun hc => ?_
  · repeat fail
    refine st_lay hl ok ?_
    repeat fail
    refine hs_appP (x := pile h [] (lotsO (ls ++ [held.mergeSort leA])) (st + held.length) false) (y := .pur d) (p := [.fld "Pile" "held_rows"]) (zs := []) rfl rfl rfl rfl (by decide) ?_
    repeat fail
    exact q
  · exact absurd hf (by simpa using hc)
theorem put_room (hf : held.length < h) (hl : held.length < 2000) (q : Q (.pur .none) [some (pile h (held ++ [d]) x st false), none]) :
    Hs (mPile_put [some (pile h held x st false), some (.pur d)]) Q := by
  unfold mPile_put
  refine hs_runE [_, _] rfl rfl ?_
  repeat fail
  refine iff2_of (fun hc => ?_) fun hc => ?_
  · exact absurd hf (by simpa using hc)
  · repeat fail
    refine hs_appP (x := pile h held x st false) (y := .pur d) (p := [.fld "Pile" "held_rows"]) (zs := held.map .pur) rfl rfl rfl rfl (by rw [List.length_map]; omega) ?_
    rw [show setP [.fld "Pile" "held_rows"] (pile h held x st false) (.lst (held.map .pur ++ [.pur d])) = pile h (held ++ [d]) x st false from by
      show OD.obj "Pile" PN [.pur (.int h), .lst (held.map .pur ++ [.pur d]), x, .pur (.int st), .pur (.bool false)] = _
      unfold pile
      rw [List.map_append]; rfl]
    repeat fail
    exact q
theorem back_room (hn : n < h) (hf : held.length ≤ h - n) (q : Q (.pur .none) [some (pile (h - n) held x st e), none]) :
    Hs (mPile_call_back [some (pile h held x st e), some (.pur (.int n))]) Q := by
  unfold mPile_call_back
  refine hs_runE [_, _] rfl rfl ?_
  repeat fail
  refine iff2_of (fun hc => ?_) fun hc => ?_
  · exact absurd hn (by simp at hc; omega)
  repeat fail
  refine hs_augF (k := h) rfl ?_
  repeat fail
  refine ⟨_, rfl, ⟨_, _, rfl, ?_⟩⟩
  simp only [List.set_cons_zero]
  repeat fail
  refine iff2_of (fun hc => ?_) fun hc => ?_
  · exact absurd hf (by simp at hc; omega)
  · repeat fail
    exact q
theorem end_none (q : Q (.pur .none) [some (pile h [] x st true)]) : Hs (mPile_end [some (pile h [] x st false)]) Q := by
  unfold mPile_end
  refine hs_runE [_] rfl rfl ?_
  repeat fail
  refine st_setFs (n := 4) ?_
  repeat fail
  refine ⟨_, _, rfl, by simp, rfl, ?_⟩
  simp only [List.set_cons_zero, List.set_cons_succ]
  repeat fail
  refine hs_q2 (x := .list []) (z := .bool false) dt_held rfl rfl rfl ?_
  repeat fail
  exact q
theorem end_some (hh : held ≠ []) (hl : ls.length < 2000) (ok : okSortB held = true) (q : Q (.pur .none) [some (pile h [] (lotsO (ls ++ [held.mergeSort leA])) (st + held.length) true)]) : Hs (mPile_end [some (pile h held (lotsO ls) st false)]) Q := by
  unfold mPile_end
  refine hs_runE [_] rfl rfl ?_
  repeat fail
  refine st_setFs (n := 4) ?_
  repeat fail
  refine ⟨_, _, rfl, by simp, rfl, ?_⟩
  simp only [List.set_cons_zero, List.set_cons_succ]
  repeat fail
  refine hs_q2 (x := .list held) (y := .list []) (z := .bool true) dt_held rfl ?_ rfl ?_
  · cases held with
    | nil => exact absurd rfl hh
    | cons a l => rfl
  repeat fail
  refine st_lay hl ok ?_
  repeat fail
  exact q
end
end
section
local macro_rules | `(tactic| fail) => `(tactic| first
  | ((with_reducible apply bd_most))
  | ((with_reducible apply bd_steps))
  | ((with_reducible apply bd_end))
  | ((with_reducible apply q_held))
  | with_reducible refine st_addBI ?_
  | with_reducible refine st_subBI ?_)
/-- rows of one form -/
abbrev Rws (f : Nat) (ds : List PyData) : Prop := ∀ d ∈ ds, RowC f d
theorem ok_sort {f : Nat} {ds : List PyData} (h : Rws f ds) (hl : ds.length ≤ 2000) : okSortB ds = true :=
  okSortB_iff.mpr ⟨fun a ha b hb => rowC_alike (h a ha) (h b hb), .inl fun d hd => rowC_tup (h d hd), by omega, fun d hd => rowC_depth (h d hd)⟩
theorem ok_lots {f : Nat} {ls : List (List PyData)} (h : Rws f ls.flatten) (hl : ls.length ≤ 2000) (hf : ls.flatten.length ≤ 2000) : okLots ls = true := by
  unfold okLots
  simp only [Bool.and_eq_true, decide_eq_true_eq, List.all_eq_true]
  refine ⟨⟨⟨fun a ha b hb => rowC_alike (h a ha) (h b hb), fun a ha => ⟨?_, rowC_depth (h a ha)⟩⟩, by omega⟩, by omega⟩
  obtain ⟨xs, e⟩ := rowC_tup (h a ha)
  rw [e]; rfl
theorem lotsD_of : ∀ ls : List (List PyData), lotsD (ls.map .list) = some ls
  | [] => rfl
  | l :: ls => by
    rw [List.map_cons]
    unfold lotsD
    rw [lotsD_of ls]; rfl
theorem nes_id {ls : List (List PyData)} (h : ∀ l ∈ ls, l ≠ []) : nes ls = ls := by
  unfold nes
  refine List.filter_eq_self.mpr fun l hl => ?_
  cases l with
  | nil => exact absurd rfl (h _ hl)
  | cons a l => rfl
theorem st_cutF {α : Type} {f : α → PyData} {l : List α} {k : Int} (h : 0 ≤ k) {Q : PyData → Prop} (q : Q (.list ((l.drop k.toNat).map f))) : Bd (sliceD (.list (l.map f)) (some k) none) Q := by
  refine st_bd ?_ q
  have key : DL.cutD (l.map f) (some k) none = (l.map f).drop k.toNat := by
    unfold DL.cutD
    have e1 : HT.sIx (l.map f).length (l.map f).length none = (l.map f).length := rfl
    have e2 : HT.sIx (l.map f).length 0 (some k) = min k.toNat (l.map f).length := by
      simp only [HT.sIx]
      split <;> omega
    rw [e1, e2]
    by_cases hk : k.toNat ≤ (l.map f).length
    · rw [Nat.min_eq_left hk, List.take_of_length_le (by rw [List.length_drop]; exact Nat.le_refl _)]
    · rw [Nat.min_eq_right (by omega), Nat.sub_self, List.take_zero, List.drop_eq_nil_of_le (by omega)]
  simp only [sliceD, key, List.map_drop]
section
variable {h st n : Int} {held : List PyData} {x : OD} {e : Bool} {ls : List (List PyData)} {d : PyData} {f : Nat}
theorem st_lots {rest : DEnv} {Q : OD → DEnv → Prop} (hx : LO x ls) (q : Q (.pur (.int ls.length)) (some (pile h held x st e) :: rest)) :
    Hs (M.methP 0 pp0 "Pile" "lots" mPile_lots M.nil (some (pile h held x st e) :: rest)) Q := by
  refine hs_methP (x := pile h held x st e) (y := pile h held x st e) (p := []) (env0 := none :: rest) rfl rfl rfl rfl rfl ?_
  repeat fail
  exact lots_ok hx ⟨_, [], rfl, q⟩
theorem merged_ok {Q : OD → DEnv → Prop} (hr : Rws f ls.flatten) (hl : ls.length ≤ 2000) (hf : ls.flatten.length ≤ 2000) (ne : ∀ l ∈ ls, l ≠ []) (srt : ∀ l ∈ ls, Srt l) (q : ∀ out : List PyData, out.Perm ls.flatten → Srt out → Q (.lst (out.map .pur)) [none]) :
    Hs (mmerged [some (.pur (.list (ls.map .list)))]) Q := by
  obtain ⟨out, h1, h2, h3⟩ := mrg_ok ls.flatten.length ne srt (Nat.le_refl _)
  unfold mmerged
  refine hs_runE [_, none, none, none, none] rfl rfl ?_
  refine hs_merged (lotsD_of ls) (ok_lots hr hl hf) (out := out) (by rw [nes_id ne]; exact h1) ?_
  exact q out h2 h3
theorem merge_ok {Q : OD → DEnv → Prop} (hx : LO x ls) (h2 : 2 ≤ ls.length) (hr : Rws f ls.flatten) (hl : ls.length ≤ 2000) (hf : ls.flatten.length ≤ 2000) (ne : ∀ l ∈ ls, l ≠ []) (srt : ∀ l ∈ ls, Srt l)
    (q : ∀ (m : Nat) (out : List PyData), (m : Int) = (if h > 2 then h else 2) → out.Perm (ls.take m).flatten → Srt out → Q (.pur .none) [some (pile h [] (.pur (.list ((ls.drop m ++ [out]).map .list))) (st + out.length) true)]) :
    Hs (mPile_merge [some (pile h [] x st true)]) Q := by
  unfold mPile_merge
  refine hs_runE [_, none, none] rfl rfl ?_
  repeat fail
  refine st_lots hx ?_
  repeat fail
  refine iff2_of (fun hc => ?_) fun hc => ?_
  · exact absurd h2 (by simp at hc; omega)
  repeat fail
  have hm0 : 0 ≤ (if h > 2 then h else 2 : Int) := by split <;> omega
  obtain ⟨m, hm⟩ : ∃ m : Nat, (m : Int) = (if h > 2 then h else 2) := ⟨_, Int.toNat_of_nonneg hm0⟩
  rw [← hm]
  refine hs_rdP (x := pile h [] x st true) (p := [.fld "Pile" "laid_lots"]) (d := .list (ls.map .list)) rfl rfl hx ?_
  rw [show setP [.fld "Pile" "laid_lots"] (pile h [] x st true) (.pur (.list (ls.map .list))) = pile h [] (.pur (.list (ls.map .list))) st true from rfl]
  simp only [List.set_cons_zero]
  repeat fail
  refine st_cutL (by omega) ?_
  rw [Int.toNat_natCast]
  repeat fail
  have hsub : ∀ l ∈ ls.take m, l ∈ ls := fun l hl => List.mem_of_mem_take hl
  have hfl : (ls.take m).flatten.length ≤ ls.flatten.length := by
    have := congrArg (fun x => x.flatten.length) (List.take_append_drop m ls)
    simp only [List.flatten_append, List.length_append] at this
    omega
  refine merged_ok (f := f) (fun d hd => ?_) (by rw [List.length_take]; omega) (by omega) (fun l hl => ne l (hsub l hl)) (fun l hl => srt l (hsub l hl)) fun out o1 o2 => ?_
  · obtain ⟨l, hl, hdl⟩ := List.mem_flatten.mp hd
    exact hr d (List.mem_flatten.mpr ⟨l, hsub l hl, hdl⟩)
  repeat fail
  refine st_setFs (n := 2) ?_
  repeat fail
  refine hs_rdP (x := pile h [] (.pur (.list (ls.map .list))) st true) (p := [.fld "Pile" "laid_lots"]) (d := .list (ls.map .list)) rfl rfl rfl ?_
  rw [show setP [.fld "Pile" "laid_lots"] (pile h [] (.pur (.list (ls.map .list))) st true) (.pur (.list (ls.map .list))) = pile h [] (.pur (.list (ls.map .list))) st true from rfl]
  simp only [List.set_cons_zero]
  repeat fail
  refine st_cutF (by omega) ?_
  rw [Int.toNat_natCast]
  repeat fail
  refine st_addBL (by rw [List.length_map, List.length_drop]; simp only [List.length_cons, List.length_nil, lim]; omega) ?_
  rw [show (ls.drop m).map PyData.list ++ [PyData.list out] = (ls.drop m ++ [out]).map .list by rw [List.map_append]; rfl]
  repeat fail
  refine ⟨_, _, rfl, by simp, rfl, ?_⟩
  simp only [List.set_cons_zero, List.set_cons_succ]
  repeat fail
  refine hs_augF (k := st) rfl ?_
  repeat fail
  refine ⟨_, rfl, ⟨_, _, rfl, ?_⟩⟩
  exact q m out hm o1 o2
end
section
variable {h st n : Int} {held : List PyData} {x : OD} {e : Bool} {ls : List (List PyData)} {d : PyData} {f : Nat}
theorem told_lc : ∀ {ls : List (List PyData)} {y : OD} {Q : List PyData → DEnv → Prop}, (Q ls.flatten [some y, none, none]) → Hs (lc2L (gNameD 1) [1, 2] (M.items (M.rd 1)) (gNameD 2) [2] (M.rd 2) (ls.map .list) [some y, none, none]) Q
  | [], _, _, q => hs_lc2_nil q
  | l :: ls, y, Q, q => by
    rw [List.map_cons]
    refine hs_lc2_cons rfl ?_
    repeat fail
    show Hs (lcL (gNameD 2) [2] (M.pure true) (M.rd 2) l [some y, some (.pur (.list l)), none]) _
    refine hs_lcN (fun n acc e => acc = l.take n ∧ e = [some y, some (.pur (.list l)), none]) ?_ ⟨rfl, rfl⟩ ?_
    · rintro n d hd acc e ⟨rfl, rfl⟩
      refine ⟨_, rfl, ?_⟩
      repeat fail
      rw [if_pos rfl]
      repeat fail
      exact ⟨by rw [List.take_add_one, hd]; rfl, rfl⟩
    · rintro ys e ⟨rfl, rfl⟩
      rw [List.take_length]
      show Hs (lc2L (gNameD 1) [1, 2] (M.items (M.rd 1)) (gNameD 2) [2] (M.rd 2) (ls.map .list) [some y, none, none]) _
      exact told_lc q
theorem told_ok {Q : OD → DEnv → Prop} (hx : LO x ls) (h1 : ls.length < 2) (hl : ls.flatten.length ≤ 2000) (q : Q (.lst (ls.flatten.map .pur)) [some (pile h held (.pur (.list (ls.map .list))) st true)]) : Hs (mPile_told [some (pile h held x st true)]) Q := by
  unfold mPile_told
  refine hs_runE [_, none, none] rfl rfl ?_
  repeat fail
  refine st_lots hx ?_
  repeat fail
  refine iff2_of (fun hc => ?_) fun hc => ?_
  · exact absurd h1 (by simp at hc; omega)
  repeat fail
  refine hs_lc2 ?_
  repeat fail
  refine hs_rdP (x := pile h held x st true) (p := [.fld "Pile" "laid_lots"]) (d := .list (ls.map .list)) rfl rfl hx ?_
  rw [show setP [.fld "Pile" "laid_lots"] (pile h held x st true) (.pur (.list (ls.map .list))) = pile h held (.pur (.list (ls.map .list))) st true from rfl]
  simp only [List.set_cons_zero]
  repeat fail
  show Hs (lc2L (gNameD 1) [1, 2] (M.items (M.rd 1)) (gNameD 2) [2] (M.rd 2) (ls.map .list) [some (pile h held (.pur (.list (ls.map .list))) st true), none, none]) _
  exact told_lc ⟨by omega, q⟩
end
end
section
local macro_rules | `(tactic| fail) => `(tactic| first
  | ((with_reducible refine st_tk (by omega) (by omega) (by omega) (by omega) (by omega) ?_); intro _ _ _ _ _ _ _ _)
  | with_reducible refine st_addBI ?_
  | with_reducible refine st_subBI ?_
  | with_reducible refine hs_heard ?_)
theorem hs_indexB {env : DEnv} {a b : M PyData} {Q : PyData → DEnv → Prop} (h : Hs (a env) fun c e => isLstD c = true ∧ Hs (b e) fun d e2 => Bd (indexBD c d) fun z => Q z e2) : Hs (M.indexB a b env) Q := by
  unfold M.indexB
  rw [hs_bind]
  refine h.mono ?_
  rintro c e ⟨h1, d, e2, h2, z, h3, h4⟩
  rw [if_pos h1, hs_bind]
  refine ⟨d, e2, h2, ?_⟩
  show Hs (M.opt _ _) _
  rw [hs_opt]
  exact ⟨z, h3, h4⟩
theorem st_hs {α : Type} {r : Rs α} {a : α} {e : DEnv} {Q : α → DEnv → Prop} (h : r = .ok a e) (q : Q a e) : Hs r Q := ⟨a, e, h, q⟩
theorem st_isX {i : Nat} {tbl : List (Str × Bool)} {env : DEnv} {b : Bool} {Q : PyData → DEnv → Prop} (h : ((env[i]?).join).bind (isXb tbl) = some b) (q : Q (.bool b) env) : Hs (M.isX i tbl env) Q := ⟨_, _, by unfold M.isX; rw [h], q⟩
theorem heard_dn {m : M OD} {env : DEnv} {Q : OD → DEnv → Prop} (h : Ex (m env) fun x e => x = ⟨.own "Done", none⟩ ∧ Q (.pur (.str "done")) e) : Hs (h_law_heard m (List.replicate 5 none) env) Q := by
  refine hs_kCons [none, some (.pur .none), none, none, none] rfl ?_
  refine hs_kTryX rfl (h.mono ?_)
  rintro x e ⟨rfl, q⟩
  refine ⟨by kernel_rfl, ?_⟩
  refine hs_kLast ?_
  show Hs (M.seq _ _ [none, some (.exn ⟨.own "Done", none⟩), none, none, none]) _
  repeat fail
  refine st_hs (a := false) rfl ?_
  repeat fail
  refine st_isX (b := true) (by kernel_rfl) ?_
  repeat fail
  refine st_isX (b := false) (by kernel_rfl) ?_
  repeat fail
  refine st_isX (b := false) (by kernel_rfl) ?_
  repeat fail
  refine st_isX (b := true) (by kernel_rfl) ?_
  repeat fail
  refine st_isX (b := false) (by kernel_rfl) ?_
  repeat fail
  refine st_bd (a := .int 1) (by rfl) ?_
  repeat fail
  refine iff2_of (fun hc => absurd hc (by decide)) fun _ => ?_
  repeat fail
  refine hs_indexB ?_
  repeat fail
  refine st_bd (a := .int 0) (by rfl) ?_
  repeat fail
  refine st_bd (a := .str "done") (by rfl) ?_
  exact q
local macro_rules | `(tactic| fail) => `(tactic| first
  | ((with_reducible apply bd_most))
  | ((with_reducible apply bd_steps))
  | ((with_reducible apply bd_end))
  | ((with_reducible apply q_held)))
section
variable {h st n : Int} {held : List PyData} {x : OD} {e : Bool} {ls : List (List PyData)} {d : PyData} {f : Nat} {P : Xn → DEnv → Prop}
theorem merge_no (hx : LO x ls) (h2 : ls.length < 2) (q : P ⟨.own "Done", none⟩ [some (pile h held x st true)]) : Ex (mPile_merge [some (pile h held x st true)]) P := by
  unfold mPile_merge
  refine ex_run [_, none, none] rfl rfl ?_
  refine ex_seq2 ?_
  repeat fail
  refine ex_seq1 ?_
  refine ex_ite ?_
  repeat fail
  refine st_lots hx ?_
  repeat fail
  refine ⟨fun _ => ex_raise q, fun hc => absurd h2 (by simp at hc; omega)⟩
end
end
section
local macro_rules | `(tactic| fail) => `(tactic| first
  | with_reducible refine st_addBI ?_
  | with_reducible refine st_subBI ?_
  | with_reducible refine hs_permD ?_
  | with_reducible refine hs_heard ?_)
section
variable {h st n : Int} {held : List PyData} {x : OD} {e : Bool} {ls : List (List PyData)} {d : PyData} {f : Nat} {rest : DEnv} {Q : OD → DEnv → Prop}
theorem m0_hand (q : Q (.pur (.int h)) (some (pile h held x st e) :: rest)) : Hs (M.methP 0 pp0 "Pile" "hand" mPile_hand M.nil (some (pile h held x st e) :: rest)) Q := by
  refine hs_methP (x := pile h held x st e) (y := pile h held x st e) (p := []) (env0 := none :: rest) rfl rfl rfl rfl rfl ?_
  repeat fail
  exact hand_ok ⟨_, [], rfl, q⟩
theorem m0_steps (q : Q (.pur (.int st)) (some (pile h held x st e) :: rest)) : Hs (M.methP 0 pp0 "Pile" "steps" mPile_steps M.nil (some (pile h held x st e) :: rest)) Q := by
  refine hs_methP (x := pile h held x st e) (y := pile h held x st e) (p := []) (env0 := none :: rest) rfl rfl rfl rfl rfl ?_
  repeat fail
  exact steps_ok ⟨_, [], rfl, q⟩
end
theorem ne_same {w : Str} (hw : PyData.strOk w = true) {Q : PyData → Prop} (q : Q (.bool false)) : Bd (neD (.str w) (.str w)) Q := by
  rw [neD_str]
  refine ⟨⟨hw, hw⟩, ?_⟩
  rw [show (w == w) = true from beq_self_eq_true _]
  exact q
theorem eq_same {w : Str} (hw : PyData.strOk w = true) {Q : PyData → Prop} (q : Q (.bool true)) : Bd (eqD (.str w) (.str w)) Q := by
  rw [eqD_str]
  refine ⟨⟨hw, hw⟩, ?_⟩
  rw [show (w == w) = true from beq_self_eq_true _]
  exact q
/-- a pile of a steady hand that isn't ended, i rows put -/
structure S0 (f s i : Nat) (held : List PyData) (ls : List (List PyData)) : Prop where
  len : ∀ l ∈ ls, l.length = s
  srt : ∀ l ∈ ls, Srt l
  rw : Rws f (ls.flatten ++ held)
  cnt : ls.length * s + held.length = i
  hl : held.length ≤ s
  pos : 0 < i → held ≠ []
theorem lay_perm (held : List PyData) (ls : List (List PyData)) : (ls ++ [held.mergeSort leA]).flatten.Perm (ls.flatten ++ held) := by
  rw [List.flatten_append, List.flatten_cons, List.flatten_nil, List.append_nil]
  exact (List.mergeSort_perm held leA).append_left _
theorem S0.lay {f s i : Nat} {held : List PyData} {ls : List (List PyData)} (p : S0 f s i held ls) : (∀ l ∈ ls ++ [held.mergeSort leA], Srt l) ∧ Rws f (ls ++ [held.mergeSort leA]).flatten := ⟨fun l hl => by
    rcases List.mem_append.mp hl with hl | hl
    · exact p.srt l hl
    · rw [List.mem_singleton.mp hl]; exact srt_sort held, fun d hd => p.rw d ((lay_perm held ls).mem_iff.mp hd)⟩
theorem put_s {f s i : Nat} {held : List PyData} {ls : List (List PyData)} {d : PyData} {Q : OD → DEnv → Prop} (hs : 1 ≤ s) (p : S0 f s i held ls) (hd : RowC f d) (hi : i ≤ 1500)
    (q : ∀ held' ls', S0 f s (i + 1) held' ls' → (ls'.flatten ++ held').Perm (ls.flatten ++ held ++ [d]) → Q (.pur .none) [some (pile s held' (lotsO ls') ((ls'.length * s : Nat) : Int) false), none]) :
    Hs (mPile_put [some (pile s held (lotsO ls) ((ls.length * s : Nat) : Int) false), some (.pur d)]) Q := by
  have hle := p.cnt
  have hll : ls.length ≤ ls.length * s := Nat.le_mul_of_pos_right _ hs
  have hrh : Rws f held := fun e he => p.rw e (List.mem_append_right _ he)
  by_cases hf : s ≤ held.length
  · have he : held.length = s := Nat.le_antisymm p.hl hf
    refine put_full (by omega) (by omega) (ok_sort hrh (by omega)) ?_
    obtain ⟨l1, l2⟩ := p.lay
    have e1 : ((ls.length * s : Nat) : Int) + (held.length : Int) = (((ls ++ [held.mergeSort leA]).length * s : Nat) : Int) := by
      rw [List.length_append, List.length_cons, List.length_nil, Nat.zero_add, Nat.succ_mul, he]; push_cast; rfl
    rw [e1]
    refine q [d] _ ⟨fun l hl => ?_, l1, fun e he => ?_, ?_, by simpa using hs, fun _ => by simp⟩ ?_
    · rcases List.mem_append.mp hl with hl | hl
      · exact p.len l hl
      · rw [List.mem_singleton.mp hl, (List.mergeSort_perm held leA).length_eq]; exact he
    · rcases List.mem_append.mp he with he | he
      · exact l2 e he
      · rw [List.mem_singleton.mp he]; exact hd
    · rw [List.length_append, List.length_cons, List.length_nil, Nat.zero_add, Nat.succ_mul]; simp; omega
    · exact (lay_perm held ls).append_right [d]
  · refine put_room (by omega) (by omega) ?_
    refine q (held ++ [d]) ls ⟨p.len, p.srt, fun e he => ?_, by rw [List.length_append, List.length_cons, List.length_nil]; omega, by rw [List.length_append, List.length_cons, List.length_nil]; omega, fun _ => by simp⟩ (by rw [List.append_assoc])
    rcases List.mem_append.mp he with he | he
    · exact p.rw e (List.mem_append_left _ he)
    · rcases List.mem_append.mp he with he | he
      · exact hrh e he
      · rw [List.mem_singleton.mp he]; exact hd
theorem fdiv_nat (i s : Nat) : ((i : Int)).fdiv (s : Int) = ((i / s : Nat) : Int) := by
  rw [Int.fdiv_eq_ediv_of_nonneg _ (by omega)]
  norm_cast
/-- a pile of hand s, i rows put -/
def MP (f s i : Nat) (rows : List PyData) (o : OD) : Prop := ∃ held ls, o = pile s held (lotsO ls) ((ls.length * s : Nat) : Int) false ∧ S0 f s i held ls ∧ (ls.flatten ++ held).Perm (rows.take i)
/-- an ended pile of hand h, not merged yet -/
structure E0 (f : Nat) (rows : List PyData) (ls : List (List PyData)) : Prop where
  srt : ∀ l ∈ ls, Srt l
  rw : Rws f ls.flatten
  perm : ls.flatten.Perm rows
  ne : ∀ l ∈ ls, l ≠ []
def lotN (n s : Nat) : Nat := (n + s - 1) / s
def EP (f s : Nat) (rows : List PyData) (o : OD) : Prop := ∃ x ls, o = pile s [] x (rows.length : Int) true ∧ LO x ls ∧ E0 f rows ls ∧ ls.length = lotN rows.length s
theorem mp0 {f s : Nat} {rows : List PyData} : MP f s 0 rows (pile s [] (.lst []) 0 false) := ⟨[], [], by rw [List.length_nil, Nat.zero_mul]; rfl, ⟨fun l hl => (by cases hl), fun l hl => (by cases hl), fun d hd => (by cases hd), by simp, by simp, fun h => absurd h (by omega)⟩, by simp⟩
theorem put_run {f s i : Nat} {rows : List PyData} {d : PyData} {y : OD} (hs : 1 ≤ s) (h : MP f s i rows y) (hr : Rws f rows) (hn : rows.length ≤ 1500) (hd : rows[i]? = some d) :
    ∃ y', mPile_put [some y, some (.pur d)] = .ok (.pur .none) [some y', none] ∧ MP f s (i + 1) rows y' := by
  obtain ⟨held, ls, rfl, p, pm⟩ := h
  have hi := (List.getElem?_eq_some_iff.mp hd).1
  obtain ⟨r, outs, h1, held', ls', p', pm', rfl, rfl⟩ := put_s (Q := fun r outs => ∃ held' ls', S0 f s (i + 1) held' ls' ∧ (ls'.flatten ++ held').Perm (ls.flatten ++ held ++ [d]) ∧ r = .pur .none ∧ outs = [some (pile s held' (lotsO ls') ((ls'.length * s : Nat) : Int) false), none]) hs p (hr d (List.mem_of_getElem? hd)) (by omega)
    fun held' ls' p' pm' => ⟨held', ls', p', pm', rfl, rfl⟩
  refine ⟨_, h1, held', ls', rfl, p', pm'.trans ?_⟩
  rw [List.take_add_one, hd]
  exact pm.append_right _
theorem lot_eq {s L r n : Nat} (h : L * s + r = n) (h1 : 1 ≤ r) (h2 : r ≤ s) : L + 1 = lotN n s := by
  unfold lotN
  refine (Nat.div_eq_of_lt_le ?_ ?_).symm
  · rw [Nat.succ_mul]; omega
  · rw [Nat.succ_mul, Nat.succ_mul]; omega
theorem end_run {f s : Nat} {rows : List PyData} {y : OD} (hs : 1 ≤ s) (h : MP f s rows.length rows y) (hn : rows.length ≤ 1500) :
    ∃ y', mPile_end [some y] = .ok (.pur .none) [some y'] ∧ EP f s rows y' := by
  obtain ⟨held, ls, rfl, p, pm⟩ := h
  rw [List.take_length] at pm
  have hcnt := p.cnt
  have hll : ls.length ≤ ls.length * s := Nat.le_mul_of_pos_right _ hs
  by_cases hn0 : held = []
  · subst hn0
    have hr0 : rows.length = 0 := Nat.eq_zero_of_not_pos fun h => p.pos h rfl
    obtain rfl : rows = [] := List.eq_nil_of_length_eq_zero hr0
    obtain rfl : ls = [] := List.eq_nil_of_length_eq_zero (by simp at hcnt; omega)
    obtain ⟨r, outs, h1, rfl, rfl⟩ := end_none (h := (s : Int)) (x := lotsO []) (st := (([] : List (List PyData)).length * s : Nat)) (Q := fun r outs => r = .pur .none ∧ outs = [some (pile s [] (lotsO []) (([] : List (List PyData)).length * s : Nat) true)]) ⟨rfl, rfl⟩
    refine ⟨_, h1, lotsO [], [], ?_, rfl, ⟨fun l hl => (by cases hl), fun d hd => (by cases hd), .refl _, fun l hl => (by cases hl)⟩, ?_⟩
    · rw [List.length_nil, Nat.zero_mul]; rfl
    · unfold lotN
      rw [List.length_nil, List.length_nil, Nat.zero_add]
      exact (Nat.div_eq_of_lt (by omega)).symm
  · obtain ⟨r, outs, h1, rfl, rfl⟩ := end_some (h := (s : Int)) (st := ((ls.length * s : Nat) : Int)) (ls := ls) (held := held) (Q := fun r outs => r = .pur .none ∧ outs = [some (pile s [] (lotsO (ls ++ [held.mergeSort leA])) (((ls.length * s : Nat) : Int) + held.length) true)]) hn0 (by omega) (ok_sort (fun d hd => p.rw d (List.mem_append_right _ hd)) (by omega)) ⟨rfl, rfl⟩
    obtain ⟨l1, l2⟩ := p.lay
    refine ⟨_, h1, _, _, ?_, lotsO_data _, ⟨l1, l2, (lay_perm held ls).trans pm, fun l hl => ?_⟩, ?_⟩
    · rw [show ((ls.length * s : Nat) : Int) + (held.length : Int) = (rows.length : Int) by rw [← hcnt]; push_cast; rfl]
    · rcases List.mem_append.mp hl with hl | hl
      · intro z
        have := p.len l hl
        rw [z] at this; simp at this; omega
      · rw [List.mem_singleton.mp hl]
        intro z
        have := (List.mergeSort_perm held leA).length_eq
        rw [z] at this
        exact hn0 (List.eq_nil_of_length_eq_zero this.symm)
    · rw [List.length_append, List.length_cons, List.length_nil]
      exact lot_eq hcnt (List.length_pos_iff.mpr hn0) p.hl
end
section
local macro_rules | `(tactic| fail) => `(tactic| first
  | with_reducible refine hs_newI ?_)
abbrev intsN (ss : List Nat) : List PyData := ss.map fun (k : Nat) => .int (k : Int)
abbrev newP (s : Nat) : OD := pile (s : Int) [] (.lst []) 0 false
theorem lc_new {a b : Option OD} : ∀ {ss : List Nat} {Q : List OD → DEnv → Prop}, Q (ss.map newP) [a, b, none, none, none, none] →
    Hs (lcOL (gNameD 5) [5] (M.pure true) (M.bind (M.cons (M.rd 5) M.nil) fun ds => newI "Pile" mPile___init__ ds) (intsN ss) [a, b, none, none, none, none]) Q
  | [], _, q => hs_lcO0 q
  | s :: ss, Q, q => by
    show Hs (lcOL _ _ _ _ (.int (s : Int) :: intsN ss) _) _
    refine hs_lcO1 rfl ?_
    simp only [List.set_cons_zero, List.set_cons_succ]
    repeat fail
    refine init_ok ⟨_, _, rfl, rfl, ?_⟩
    show Hs (lcOL _ _ _ _ (intsN ss) [a, b, none, none, none, none]) _
    exact lc_new q
theorem plug6 {a : Addr} {zs : List OD} {k : Nat} {s0 s1 s3 s5 : Option OD} {y' : OD} (h : k < zs.length) : plug 2 [.ix k] 4 a [s0, s1, some (.lst (zs.set k (.ref a))), s3, some y', s5] = some [s0, s1, some (.lst (zs.set k y')), s3, none, s5] := by
  have h1 : (zs.set k (.ref a))[k]? = some (.ref a) := by rw [List.getElem?_set_self h]
  simp [plug, getP, setP, h1, List.set_set]
/-- what stands beside each hand -/
def At (ss : List Nat) (zs : List OD) (P : Nat → Nat → OD → Prop) : Prop := zs.length = ss.length ∧ ∀ (j s : Nat) (z : OD), ss[j]? = some s → zs[j]? = some z → P j s z
theorem At.set {ss : List Nat} {zs : List OD} {P P' : Nat → Nat → OD → Prop} {k : Nat} {y : OD} (h : At ss zs P) (hy : ∀ s, ss[k]? = some s → P' k s y) (ho : ∀ j s z, j ≠ k → P j s z → P' j s z) : At ss (zs.set k y) P' := by
  refine ⟨by rw [List.length_set]; exact h.1, fun j s z h1 h2 => ?_⟩
  by_cases e : k = j
  · subst e
    have hk : k < zs.length := by rw [h.1]; exact (List.getElem?_eq_some_iff.mp h1).1
    rw [List.getElem?_set_self hk] at h2
    cases h2
    exact hy s h1
  · rw [List.getElem?_set_ne e] at h2
    exact ho j s z (fun q => e q.symm) (h.2 j s z h1 h2)
theorem At.get {ss : List Nat} {zs : List OD} {P : Nat → Nat → OD → Prop} {k : Nat} {y : OD} (h : At ss zs P) (hk : zs[k]? = some y) : ∃ s, ss[k]? = some s ∧ P k s y := by
  have hl : k < ss.length := by rw [← h.1]; exact (List.getElem?_eq_some_iff.mp hk).1
  exact ⟨_, List.getElem?_eq_getElem hl, h.2 _ _ _ (List.getElem?_eq_getElem hl) hk⟩
theorem st_put {s0 s1 s2 s5 : Option OD} {d : PyData} {y y' : OD} {Q : Flw → DEnv → Prop} (hy : isObj "Pile" "put" y = true) (h : mPile_put [some y, some (.pur d)] = .ok (.pur .none) [some y', none]) (q : Q .nx [s0, s1, s2, some (.pur d), some y', s5]) :
    Hs (M.drop (M.frz (M.methP 4 pp0 "Pile" "put" mPile_put (M.cons (M.rd 3) M.nil))) [s0, s1, s2, some (.pur d), some y, s5]) Q := by
  repeat fail
  refine hs_methP (x := y) (y := y) (p := []) (env0 := [s0, s1, s2, some (.pur d), none, s5]) rfl rfl rfl hy rfl ?_
  repeat fail
  refine ⟨_, _, h, _, _, rfl, ?_⟩
  repeat fail
  exact q
theorem st_end {s0 s1 s2 s3 s5 : Option OD} {y y' : OD} {Q : Flw → DEnv → Prop} (hy : isObj "Pile" "end" y = true) (h : mPile_end [some y] = .ok (.pur .none) [some y']) (q : Q .nx [s0, s1, s2, s3, some y', s5]) :
    Hs (M.drop (M.frz (M.methP 4 pp0 "Pile" "end" mPile_end M.nil)) [s0, s1, s2, s3, some y, s5]) Q := by
  repeat fail
  refine hs_methP (x := y) (y := y) (p := []) (env0 := [s0, s1, s2, s3, none, s5]) rfl rfl rfl hy rfl ?_
  repeat fail
  refine ⟨_, _, h, _, _, rfl, ?_⟩
  repeat fail
  exact q
set_option maxHeartbeats 0 in
theorem ended_ok {f : Nat} {ss : List Nat} {rows : List PyData} {Q : OD → DEnv → Prop} (hss : ∀ s ∈ ss, 1 ≤ s) (hl : ss.length ≤ 100) (hr : Rws f rows) (hn : rows.length ≤ 1500)
    (q : ∀ zs, At ss zs (fun _ s z => EP f s rows z) → Q (.lst zs) [none, none]) : Hs (m_law_ended [some (.pur (.list rows)), some (.pur (.list (intsN ss)))]) Q := by
  unfold m_law_ended
  refine hs_runE [_, _, none, none, none, none] rfl rfl ?_
  repeat fail
  refine hs_lcA ?_
  repeat fail
  show Hs (lcOL (gNameD 5) [5] _ _ (intsN ss) [some (.pur (.list rows)), some (.pur (.list (intsN ss))), none, none, none, none]) _
  refine lc_new ⟨by rw [List.length_map]; omega, ?_⟩
  repeat fail
  refine hs_forN (fun i e => ∃ (zs : List OD) (s3 s4 : Option OD), e = [some (.pur (.list rows)), some (.pur (.list (intsN ss))), some (.lst zs), s3, s4, none] ∧ At ss zs (fun _ s z => MP f s i rows z)) ?_ ?_
    ⟨_, none, none, rfl, by rw [List.length_map], fun j s z h1 h2 => ?_⟩
  rotate_left 2
  · rw [List.getElem?_map, h1] at h2
    cases h2
    exact mp0
  · rintro i d hd e ⟨zs, s3, s4, rfl, h⟩
    refine ⟨_, rfl, ?_⟩
    simp only [List.set_cons_zero, List.set_cons_succ]
    refine hs_forB (zs0 := zs) (fun k zs' e => ∃ s4, e = [some (.pur (.list rows)), some (.pur (.list (intsN ss))), some (.lst zs'), some (.pur d), s4, none] ∧ At ss zs' (fun j s z => MP f s (if j < k then i + 1 else i) rows z)) rfl ?_ ?_ ?_ ⟨s4, rfl, h.1, fun j s z h1 h2 => by show MP f s (if j < 0 then i + 1 else i) rows z; rw [if_neg (by omega)]; exact h.2 j s z h1 h2⟩
    · rintro k zs' e ⟨s4, rfl, h2⟩
      exact ⟨rfl, by rw [h2.1, h.1], by decide, by simp⟩
    · rintro k zs' e y hk ⟨s4, rfl, h2⟩ hy
      obtain ⟨s, hs, hm⟩ := h2.get hy
      rw [if_neg (by omega)] at hm
      obtain ⟨y', h3, h4⟩ := put_run (hss s (List.mem_of_getElem? hs)) hm hr hn hd
      have hob : isNode y = true ∧ isObj "Pile" "put" y = true := by
        obtain ⟨held, ls, rfl, _⟩ := hm
        exact ⟨rfl, rfl⟩
      refine ⟨hob.1, zs'.set k y', _, ⟨none, rfl, h2.set (fun s' hs' => ?_) fun j s' z hj hz => ?_⟩, fun a => ?_⟩
      · rw [hs] at hs'
        cases hs'
        rw [if_pos (by omega)]
        exact h4
      · by_cases hjk : j < k
        · rw [if_pos hjk] at hz
          rw [if_pos (by omega)]; exact hz
        · rw [if_neg hjk] at hz
          rw [if_neg (by omega)]; exact hz
      · simp only [List.set_cons_zero, List.set_cons_succ]
        exact st_put hob.2 h3 ⟨rfl, plug6 (List.getElem?_eq_some_iff.mp hy).1⟩
    · rintro zs' e ⟨s4, rfl, h2⟩
      repeat fail
      refine ⟨zs', _, s4, rfl, h2.1, fun j s z h3 h4 => ?_⟩
      have : MP f s (if j < zs.length then i + 1 else i) rows z := h2.2 j s z h3 h4
      rw [if_pos (by rw [h.1]; exact (List.getElem?_eq_some_iff.mp h3).1)] at this
      exact this
  · rintro e ⟨zs, s3, s4, rfl, h⟩
    repeat fail
    refine hs_forB (zs0 := zs) (fun k zs' e => ∃ s4, e = [some (.pur (.list rows)), some (.pur (.list (intsN ss))), some (.lst zs'), s3, s4, none] ∧ At ss zs' (fun j s z => if j < k then EP f s rows z else MP f s rows.length rows z)) rfl ?_ ?_ ?_ ⟨s4, rfl, h.1, fun j s z h1 h2 => by show if j < 0 then EP f s rows z else MP f s rows.length rows z; rw [if_neg (by omega)]; exact h.2 j s z h1 h2⟩
    · rintro k zs' e ⟨s4, rfl, h2⟩
      exact ⟨rfl, by rw [h2.1, h.1], by decide, by simp⟩
    · rintro k zs' e y hk ⟨s4, rfl, h2⟩ hy
      obtain ⟨s, hs, hm⟩ := h2.get hy
      rw [if_neg (by omega)] at hm
      obtain ⟨y', h3, h4⟩ := end_run (hss s (List.mem_of_getElem? hs)) hm hn
      have hob : isNode y = true ∧ isObj "Pile" "end" y = true := by
        obtain ⟨held, ls, rfl, _⟩ := hm
        exact ⟨rfl, rfl⟩
      refine ⟨hob.1, zs'.set k y', _, ⟨none, rfl, h2.set (fun s' hs' => ?_) fun j s' z hj hz => ?_⟩, fun a => ?_⟩
      · rw [hs] at hs'
        cases hs'
        rw [if_pos (by omega)]
        exact h4
      · by_cases hjk : j < k
        · rw [if_pos hjk] at hz
          rw [if_pos (by omega)]; exact hz
        · rw [if_neg hjk] at hz
          rw [if_neg (by omega)]; exact hz
      · simp only [List.set_cons_zero, List.set_cons_succ]
        exact st_end hob.2 h3 ⟨rfl, plug6 (List.getElem?_eq_some_iff.mp hy).1⟩
    · rintro zs' e ⟨s4, rfl, h2⟩
      repeat fail
      refine q zs' ⟨h2.1, fun j s z h3 h4 => ?_⟩
      have : if j < zs.length then EP f s rows z else MP f s rows.length rows z := h2.2 j s z h3 h4
      rw [if_pos (by rw [h.1]; exact (List.getElem?_eq_some_iff.mp h3).1)] at this
      exact this
end
section
local macro_rules | `(tactic| fail) => `(tactic| first
  | with_reducible refine m0_hand ?_
  | with_reducible refine m0_steps ?_
  | with_reducible refine st_addBI ?_
  | with_reducible refine st_subBI ?_)
theorem len_ne : ∀ {ls : List (List PyData)}, (∀ l ∈ ls, l ≠ []) → ls.length ≤ ls.flatten.length
  | [], _ => by simp
  | l :: ls, h => by
    rw [List.flatten_cons, List.length_append, List.length_cons]
    have := len_ne fun l hl => h l (List.mem_cons_of_mem _ hl)
    have := List.length_pos_iff.mpr (h l List.mem_cons_self)
    omega
def Cnt (i b L L' k : Nat) : Prop := k ≤ i ∧ (1 < L' → k = i) ∧ ((L = 0 ∧ L' = 0 ∧ k = 0) ∨ (1 ≤ L' ∧ (L' + k * b = L ∨ (L' = 1 ∧ 1 ≤ k ∧ (k - 1) * b + 1 < L ∧ L < k * b + 1))))
theorem Cnt.start {b L : Nat} : Cnt 0 b L L 0 := ⟨Nat.le_refl _, fun _ => rfl, by
  rcases Nat.eq_zero_or_pos L with h | h
  · exact .inl ⟨h, h, rfl⟩
  · exact .inr ⟨h, .inl (by omega)⟩⟩
theorem Cnt.stay {i b L L' k : Nat} (c : Cnt i b L L' k) (h : ¬ 1 < L') : Cnt (i + 1) b L L' k := ⟨by have := c.1; omega, fun q => absurd q h, c.2.2⟩
theorem Cnt.step {i b L L' k : Nat} (c : Cnt i b L L' k) (hb : 1 ≤ b) (h : 1 < L') : Cnt (i + 1) b L (L' - (b + 1) + 1) (k + 1) := by
  obtain ⟨h1, h2, h3⟩ := c
  have hk := h2 h
  subst hk
  refine ⟨Nat.le_refl _, fun _ => rfl, .inr ⟨by omega, ?_⟩⟩
  rcases h3 with ⟨_, h3, _⟩ | ⟨_, h3 | ⟨h3, _⟩⟩
  · omega
  · rw [Nat.add_sub_cancel, Nat.succ_mul]
    by_cases hl : b + 1 ≤ L'
    · left; omega
    · right; omega
  · omega
theorem Cnt.small {i b L L' k : Nat} (c : Cnt i b L L' k) (hb : 1 ≤ b) (h : 1 < L') (hl : L ≤ b + 1) : k = 0 ∧ L' = L := by
  obtain ⟨h1, h2, h3⟩ := c
  rcases h3 with ⟨_, h3, _⟩ | ⟨_, h3 | ⟨h3, _⟩⟩
  · omega
  · have : k = 0 := by
      apply Classical.byContradiction
      intro hk
      have : 1 * b ≤ k * b := Nat.mul_le_mul_right _ (by omega)
      omega
    subst this
    omega
  · omega
/-- how many mergings -/
def merN (L s : Nat) : Nat := (max 1 L - 1 + (max 2 s - 1) - 1) / (max 2 s - 1)
theorem Cnt.fin {i s L L' k : Nat} (c : Cnt i (max 2 s - 1) L L' k) (hi : L ≤ i + 1) : k = merN L s ∧ L' = min 1 L := by
  obtain ⟨h1, h2, h3⟩ := c
  unfold merN
  generalize hb : max 2 s - 1 = b at *
  have hb1 : 1 ≤ b := by omega
  have h4 : ¬ 1 < L' := fun h => by
    have hk := h2 h
    subst hk
    rcases h3 with ⟨_, h3, _⟩ | ⟨_, h3 | ⟨h3, _⟩⟩
    · omega
    · have : k * 1 ≤ k * b := Nat.mul_le_mul_left _ hb1
      omega
    · omega
  rcases h3 with ⟨h5, h6, h7⟩ | ⟨h5, h6 | ⟨h6, h7, h8, h9⟩⟩
  · subst h5 h6 h7
    refine ⟨(Nat.div_eq_of_lt (by omega)).symm, by omega⟩
  · have e : L' = 1 := by omega
    subst e
    refine ⟨(Nat.div_eq_of_lt_le ?_ ?_).symm, by omega⟩
    · omega
    · rw [Nat.succ_mul]; omega
  · subst h6
    refine ⟨(Nat.div_eq_of_lt_le ?_ ?_).symm, by omega⟩
    · have : (k - 1) * b + b = k * b := by rw [← Nat.succ_mul]; congr 1; omega
      omega
    · rw [Nat.succ_mul]; omega
theorem E0.cat {f m : Nat} {rows out : List PyData} {ls : List (List PyData)} (E : E0 f rows ls) (h2 : 2 ≤ ls.length) (hm : 1 ≤ m) (hp : out.Perm (ls.take m).flatten) (hs : Srt out) : E0 f rows (ls.drop m ++ [out]) := by
  have pm : (ls.drop m ++ [out]).flatten.Perm ls.flatten := by
    rw [List.flatten_append, List.flatten_cons, List.flatten_nil, List.append_nil]
    refine (hp.append_left _).trans ?_
    refine List.perm_append_comm.trans ?_
    rw [← List.flatten_append, List.take_append_drop]
  have hsub : ∀ l ∈ ls.drop m, l ∈ ls := fun l hl => List.mem_of_mem_drop hl
  refine ⟨fun l hl => ?_, fun d hd => E.rw d (pm.mem_iff.mp hd), pm.trans E.perm, fun l hl => ?_⟩
  · rcases List.mem_append.mp hl with hl | hl
    · exact E.srt l (hsub l hl)
    · rw [List.mem_singleton.mp hl]; exact hs
  · rcases List.mem_append.mp hl with hl | hl
    · exact E.ne l (hsub l hl)
    · rw [List.mem_singleton.mp hl]
      intro z
      subst z
      have h0 := hp.length_eq
      have h1 := len_ne (ls := ls.take m) fun l hl => E.ne l (List.mem_of_mem_take hl)
      rw [List.length_take] at h1
      simp only [List.length_nil] at h0
      omega
theorem st_merge {f s : Nat} {rows : List PyData} {x : OD} {ls : List (List PyData)} {st : Int} {rest : DEnv} {Q : OD → DEnv → Prop} (hx : LO x ls) (E : E0 f rows ls) (hn : rows.length ≤ 1500) (h2 : 2 ≤ ls.length)
    (q : ∀ (out : List PyData), out.Perm (ls.take (max 2 s)).flatten → E0 f rows (ls.drop (max 2 s) ++ [out]) → Q (.pur .none) (some (pile s [] (.pur (.list ((ls.drop (max 2 s) ++ [out]).map .list))) (st + out.length) true) :: rest)) :
    Hs (M.methP 0 pp0 "Pile" "merge" mPile_merge M.nil (some (pile s [] x st true) :: rest)) Q := by
  have hf := E.perm.length_eq
  have hl := len_ne E.ne
  refine hs_methP (x := pile s [] x st true) (y := pile s [] x st true) (p := []) (env0 := none :: rest) rfl rfl rfl rfl rfl ?_
  repeat fail
  refine merge_ok hx h2 E.rw (by omega) (by omega) E.ne E.srt fun m out hm o1 o2 => ⟨_, [], rfl, ?_⟩
  have em : m = max 2 s := by split at hm <;> omega
  subst em
  exact q out o1 (E.cat h2 (by omega) o1 o2)
set_option maxHeartbeats 0 in
theorem count_ok {f s : Nat} {rows : List PyData} {x : OD} {ls : List (List PyData)} {st : Int} {most : Nat} {Q : OD → DEnv → Prop} (hx : LO x ls) (E : E0 f rows ls) (hn : rows.length ≤ 1500) (hm : most ≤ 1500)
    (q : ∀ (k : Nat) x' ls' st', LO x' ls' → E0 f rows ls' → Cnt most (max 2 s - 1) ls.length ls'.length k → (ls.length ≤ max 2 s → st' = st + ((k * rows.length : Nat) : Int)) → Q (.pur (.int (k : Int))) [some (pile s [] x' st' true), none]) :
    Hs (m_law_count [some (pile s [] x st true), some (.pur (.int (most : Int)))]) Q := by
  unfold m_law_count
  refine hs_runE [_, _, none, none] rfl rfl ?_
  repeat fail
  rw [rangeL01, Int.toNat_natCast]
  refine hs_forN (fun i e => ∃ (k : Nat) (x' : OD) (ls' : List (List PyData)) (st' : Int) (s3 : Option OD), e = [some (pile s [] x' st' true), some (.pur (.int (most : Int))), some (.pur (.int (k : Int))), s3] ∧ LO x' ls' ∧ E0 f rows ls' ∧ Cnt i (max 2 s - 1) ls.length ls'.length k ∧ (ls.length ≤ max 2 s → st' = st + ((k * rows.length : Nat) : Int))) ?_ ?_
    ⟨0, x, ls, st, none, rfl, hx, E, .start, fun _ => by simp⟩
  · rintro i d hd e ⟨k, x', ls', st', s3, rfl, hx', E', c, g⟩
    refine ⟨_, rfl, ?_⟩
    simp only [List.set_cons_zero, List.set_cons_succ]
    repeat fail
    refine st_lots hx' ?_
    repeat fail
    refine iff2_of (fun hc => ?_) fun hc => ?_
    · have h1 : 1 < ls'.length := by simp at hc; omega
      repeat fail
      refine st_merge hx' E' hn h1 fun out o1 o2 => ?_
      repeat fail
      refine ⟨k + 1, .pur (.list ((ls'.drop (max 2 s) ++ [out]).map .list)), ls'.drop (max 2 s) ++ [out], st' + out.length, _, by push_cast; rfl, purO_data _, o2, ?_, fun hl => ?_⟩
      · have := c.step (by omega) h1
        rw [List.length_append, List.length_drop, List.length_cons, List.length_nil]
        rw [show max 2 s - 1 + 1 = max 2 s by omega] at this
        exact this
      · obtain ⟨k0, e0⟩ := c.small (by omega) h1 (by omega)
        subst k0
        rw [g hl, o1.length_eq, List.take_of_length_le (by omega), E'.perm.length_eq]
        push_cast
        omega
    · have h1 : ¬ 1 < ls'.length := by simp at hc; omega
      repeat fail
      exact ⟨k, x', ls', st', _, rfl, hx', E', c.stay h1, g⟩
  · rintro e ⟨k, x', ls', st', s3, rfl, hx', E', c, g⟩
    rw [List.length_map, List.length_range] at c
    repeat fail
    exact q k x' ls' st' hx' E' c g
end
section
local macro_rules | `(tactic| fail) => `(tactic| first
  | with_reducible refine m0_hand ?_
  | with_reducible refine m0_steps ?_
  | with_reducible refine st_addBI ?_
  | with_reducible refine st_subBI ?_)
theorem st_neN {l : List Int} {Q : PyData → Prop} (q : Q (.bool false)) : Bd (neD (.list (l.map .int)) (.list (l.map .int))) Q := by
  refine ⟨_, ?_, q⟩
  rw [neD_of (cl_list fun x hx => by obtain ⟨_, _, rfl⟩ := List.mem_map.mp hx; exact cl_int) (cl_list fun x hx => by obtain ⟨_, _, rfl⟩ := List.mem_map.mp hx; exact cl_int)]
  simp [PyData.eqv, eqvI]
theorem st_eqT2 {a b : Int} {Q : PyData → Prop} (q : Q (.bool true)) : Bd (eqD (.tuple [.int a, .int b]) (.tuple [.int a, .int b])) Q := by
  refine ⟨.bool true, ?_, q⟩
  have hs : SeqAt.shaped (.tuple [.int a, .int b]) = true := rfl
  have he : PyData.eqv (.tuple [.int a, .int b]) (.tuple [.int a, .int b]) = true := by simp [PyData.eqv, PyData.eqvAll]
  unfold eqD
  rw [hs, he]
  rfl
theorem lotsI_ok {n s : Nat} {Q : OD → DEnv → Prop} (hs : 1 ≤ s) (hn : n ≤ 1500) (h2 : s ≤ 1500) (q : Q (.pur (.int (lotN n s : Nat))) [none, none]) : Hs (m_law_lots [some (.pur (.int (n : Int))), some (.pur (.int (s : Int)))]) Q := by
  unfold m_law_lots
  refine hs_runE [_, _] rfl rfl ?_
  repeat fail
  rw [show (n : Int) + (s : Int) - 1 = ((n + s - 1 : Nat) : Int) by omega, fdiv_nat]
  exact q
theorem max_nat (a b : Nat) : (if (b : Int) > (a : Int) then (b : Int) else (a : Int)) = ((max a b : Nat) : Int) := by
  split <;> omega
theorem min_nat (a b : Nat) : (if (b : Int) < (a : Int) then (b : Int) else (a : Int)) = ((min a b : Nat) : Int) := by
  split <;> omega
theorem mergI_ok {L s : Nat} {Q : OD → DEnv → Prop} (hs : 1 ≤ s) (hn : L ≤ 1500) (h2 : s ≤ 1500) (q : Q (.pur (.int (merN L s : Nat))) [none, none]) : Hs (m_law_mergings [some (.pur (.int (L : Int))), some (.pur (.int (s : Int)))]) Q := by
  unfold m_law_mergings
  refine hs_runE [_, _, none] rfl rfl ?_
  repeat fail
  rw [show (if (s : Int) > 2 then (s : Int) else 2) = ((max 2 s : Nat) : Int) from max_nat 2 s, show ((max 2 s : Nat) : Int) - 1 = ((max 2 s - 1 : Nat) : Int) by omega]
  repeat fail
  rw [show (if (L : Int) > 1 then (L : Int) else 1) = ((max 1 L : Nat) : Int) from max_nat 1 L]
  have hb : 1 ≤ max 2 s - 1 := by omega
  unfold merN at q
  generalize max 2 s - 1 = b at *
  repeat fail
  rw [show ((max 1 L : Nat) : Int) - 1 + (b : Int) - 1 = ((max 1 L - 1 + b - 1 : Nat) : Int) by omega, fdiv_nat]
  exact q
/-- a pile that tells -/
def TP (f : Nat) (rows : List PyData) (o : OD) : Prop := ∃ (h : Int) (x : OD) (ls : List (List PyData)) (st : Int), o = pile h [] x st true ∧ LO x ls ∧ E0 f rows ls ∧ ls.length = min 1 rows.length
theorem lot_le {n s : Nat} (hs : 1 ≤ s) : lotN n s ≤ n := by
  unfold lotN
  rcases Nat.eq_zero_or_pos n with rfl | hn
  · rw [Nat.zero_add, Nat.div_eq_of_lt (by omega)]; exact Nat.le_refl _
  · apply Nat.le_of_lt_succ
    rw [Nat.div_lt_iff_lt_mul hs, Nat.succ_mul]
    have : n * 1 ≤ n * s := Nat.mul_le_mul_left _ hs
    omega
theorem lot_pos {n s : Nat} (hs : 1 ≤ s) (hn : 1 ≤ n) : 1 ≤ lotN n s := by
  unfold lotN
  rw [Nat.le_div_iff_mul_le hs]; omega
theorem lot_min {n s : Nat} (hs : 1 ≤ s) : min 1 (lotN n s) = min 1 n := by
  rcases Nat.eq_zero_or_pos n with rfl | hn
  · have := lot_le (n := 0) hs; omega
  · have := lot_pos hs hn; omega
theorem Cnt.one {b L L' k : Nat} (c : Cnt 1 b L L' k) (hb : 1 ≤ b) (hl : L ≤ b + 1) : k = (if 1 < L then 1 else 0) ∧ L' = min 1 L := by
  obtain ⟨h1, h2, h3⟩ := c
  have hk : k = 0 ∨ k = 1 := by omega
  rcases hk with rfl | rfl
  · simp only [Nat.zero_mul] at h3
    split <;> omega
  · simp only [Nat.one_mul, Nat.sub_self, Nat.zero_mul] at h3
    split <;> omega
set_option maxHeartbeats 0 in
theorem lent_ok {f s : Nat} {rows : List PyData} {y : OD} {Q : OD → DEnv → Prop} (hs : 1 ≤ s) (hs2 : s ≤ 1500) (hn : rows.length ≤ 1500) (h : EP f s rows y)
    (q : ∀ y', TP f rows y' → Q (.pur (.bool true)) [some y', none, none]) :
    Hs (m_law_lent_right [some y, some (.pur (.int (lotN rows.length s : Nat))), some (.pur (.int (rows.length : Nat)))]) Q := by
  obtain ⟨x, ls, rfl, hx, E, hl⟩ := h
  have hle := lot_le (n := rows.length) hs
  have hmin := lot_min (n := rows.length) hs
  unfold m_law_lent_right
  refine hs_runE [_, _, _, none] rfl rfl ?_
  generalize hL : lotN rows.length s = L at *
  repeat fail
  refine hs_methV (x := pile s [] x (rows.length : Int) true) rfl rfl ?_
  repeat fail
  refine ⟨_, rfl, ?_⟩
  refine lend_ok ⟨_, _, rfl, ?_⟩
  rw [show (s : Int) + (if (L : Int) - (s : Int) > 0 then (L : Int) - (s : Int) else 0) = ((max s L : Nat) : Int) by split <;> omega]
  simp only [List.set_cons_zero, List.set_cons_succ]
  repeat fail
  refine st_lots hx ?_
  repeat fail
  rw [hl]
  repeat fail
  refine iff2_of (fun hc => absurd hc (by simp)) fun _ => ?_
  repeat fail
  refine iff2_of (fun hc => absurd hc (by simp)) fun _ => ?_
  repeat fail
  show Hs (m_law_count [some (pile (max s L : Nat) [] x (rows.length : Int) true), some (.pur (.int ((1 : Nat) : Int)))]) _
  refine count_ok hx E hn (by decide) fun k x' ls' st' hx' E' c g => ?_
  rw [hl] at c g
  obtain ⟨hk, hl'⟩ := c.one (by omega) (by omega)
  have hst := g (by omega)
  have hki : (if decide (1 < (L : Int)) = true then 1 else 0 : Int) = (k : Int) := by
    rw [hk]
    by_cases h : 1 < L
    · rw [if_pos h, if_pos (by simp; omega)]; rfl
    · rw [if_neg h, if_neg (by simp; omega)]; rfl
  have h2 : (rows.length : Int) * (1 + (k : Int)) = st' := by
    rw [hst]
    have : k = 0 ∨ k = 1 := by rw [hk]; split <;> omega
    rcases this with h | h <;> rw [h]
    · push_cast; omega
    · push_cast; omega
  repeat fail
  rw [hki, h2]
  refine st_eqT2 ?_
  repeat fail
  refine st_lots hx' ?_
  repeat fail
  rw [show (if (L : Int) < 1 then (L : Int) else 1) = ((min 1 L : Nat) : Int) from min_nat 1 L, hl']
  repeat fail
  have : (((min 1 L : Nat) : Int) == ((min 1 L : Nat) : Int)) = true := by simp
  rw [this]
  refine q _ ⟨_, x', ls', st', rfl, hx', E', ?_⟩
  rw [hl', hmin]
end
section
local macro_rules | `(tactic| fail) => `(tactic| first
  | with_reducible refine st_addBI ?_
  | with_reducible refine st_subBI ?_)
theorem dL {ds : List PyData} : OD.data (.lst (ds.map .pur)) = some (.list ds) := by show (OD.dataL (ds.map .pur)).map PyData.list = _; rw [dataL_pur]; rfl
theorem rws_gv {f : Nat} {ds : List PyData} (h : Rws f ds) (hl : ds.length ≤ 1500) : Gv (.list ds) 3 700000 := (gw_list fun d hd => rowC_gv (h d hd)).up (by decide) (by have : (400 + 2) * ds.length ≤ 402 * 1500 := Nat.mul_le_mul_left _ hl; omega)
theorem rws_sort {f : Nat} {ds : List PyData} (h : Rws f ds) : Rws f (ds.mergeSort leA) := fun d hd => h d ((List.mergeSort_perm ds leA).mem_iff.mp hd)
theorem st_sortB {f : Nat} {ds : List PyData} (h : Rws f ds) (hl : ds.length ≤ 1500) {Q : OD → Prop} (q : Q (.lst ((ds.mergeSort leA).map .pur))) : Bd (sortB [.list ds]) Q :=
  ⟨_, by unfold sortB; exact if_pos (ok_sort h (by omega)), q⟩
theorem sorted_gv {f : Nat} {rows : List PyData} (hr : Rws f rows) (hn : rows.length ≤ 1500) : Gv (.list (rows.mergeSort leA)) 3 700000 := rws_gv (rws_sort hr) (by rw [(List.mergeSort_perm _ _).length_eq]; omega)
/-- what a pile tells -/
theorem told_run {f : Nat} {rows : List PyData} {y : OD} (hr : Rws f rows) (hn : rows.length ≤ 1500) (h : TP f rows y) :
    (isNode y = true ∧ isObj "Pile" "told" y = true) ∧ ∃ y', TP f rows y' ∧ mPile_told [some y] = .ok (.lst ((rows.mergeSort leA).map .pur)) [some y'] := by
  obtain ⟨h, x, ls, st, rfl, hx, E, hl⟩ := h
  have hf := E.perm.length_eq
  obtain ⟨r, outs, h1, rfl, rfl⟩ := told_ok (h := h) (st := st) (held := []) (Q := fun r outs => r = .lst (ls.flatten.map .pur) ∧ outs = [some (pile h [] (.pur (.list (ls.map .list))) st true)]) hx (by omega) (by omega) ⟨rfl, rfl⟩
  have hfl : ls.flatten = rows.mergeSort leA := by
    refine srt_eq (fun a ha b hb => rowC_alike (hr a ha) (hr b hb)) ?_ E.perm
    have h2 : ls.length < 2 := by omega
    have srt := E.srt
    clear hl hf hx h1 E
    match ls, h2, srt with
    | [], _, _ => exact .nil
    | [l], _, srt =>
      rw [List.flatten_cons, List.flatten_nil, List.append_nil]
      exact srt l List.mem_cons_self
  rw [hfl] at h1
  exact ⟨⟨rfl, rfl⟩, _, ⟨h, _, ls, st, rfl, purO_data _, E, hl⟩, h1⟩
theorem plug8 {a : Addr} {zs : List OD} {k : Nat} {s0 s1 s2 s4 s5 s6 : Option OD} {y' : OD} (h : k < zs.length) : plug 3 [.ix k] 7 a [s0, s1, s2, some (.lst (zs.set k (.ref a))), s4, s5, s6, some y'] = some [s0, s1, s2, some (.lst (zs.set k y')), s4, s5, s6, none] := by
  have h1 : (zs.set k (.ref a))[k]? = some (.ref a) := by rw [List.getElem?_set_self h]
  simp [plug, getP, setP, h1, List.set_set]
theorem set_same {α : Type} {zs : List α} {k : Nat} {y : α} (h : zs[k]? = some y) : zs.set k y = zs := by
  obtain ⟨h1, h2⟩ := List.getElem?_eq_some_iff.mp h
  rw [← h2]
  exact List.set_getElem_self h1
theorem lc_ro {ss : List Nat} {zs : List OD} {P : Nat → Nat → OD → Prop} {v : Nat → PyData} {me : M PyData} {s0 s1 s2 s4 s5 s6 : Option OD} {Q : OD → DEnv → Prop} (h : At ss zs P) (hl : ss.length ≤ 100)
    (run : ∀ j s z, P j s z → isNode z = true ∧ ∀ l, Hs (me [s0, s1, s2, l, s4, s5, s6, some z]) fun d e => d = v s ∧ e = [s0, s1, s2, l, s4, s5, s6, some z])
    (q : Q (.lst ((ss.map v).map .pur)) [s0, s1, s2, some (.lst zs), s4, s5, s6, none]) : Hs (M.lcBo 3 7 [7] (M.pure true) me [s0, s1, s2, some (.lst zs), s4, s5, s6, none]) Q := by
  refine hs_lcBo (zs0 := zs) (fun k zs' acc e => zs' = zs ∧ acc = (ss.take k).map v ∧ e = [s0, s1, s2, some (.lst zs), s4, s5, s6, none]) rfl ?_ ?_ ?_ ⟨rfl, rfl, rfl⟩
  · rintro k zs' acc e ⟨rfl, rfl, rfl⟩
    exact ⟨rfl, rfl, by decide, by simp⟩
  · rintro k zs' acc e y hk ⟨rfl, rfl, rfl⟩ hy
    obtain ⟨s, hs, hp⟩ := h.get hy
    obtain ⟨h1, h2⟩ := run k s y hp
    refine ⟨h1, zs', [s0, s1, s2, some (.lst zs'), s4, s5, s6, none], some (v s), ⟨rfl, ?_, rfl⟩, fun a => ?_⟩
    · rw [List.take_add_one, hs, List.map_append]; rfl
    · simp only [List.set_cons_zero, List.set_cons_succ]
      refine hs_turnB ?_
      repeat fail
      rw [if_pos rfl]
      refine (h2 _).mono ?_
      rintro d e ⟨rfl, rfl⟩
      exact ⟨rfl, by rw [plug8 hk, set_same hy]⟩
  · rintro zs' acc e ⟨rfl, rfl, rfl⟩
    rw [h.1, List.take_length]
    exact ⟨by rw [List.length_map]; omega, q⟩
section
variable {h st : Int} {held : List PyData} {x : OD} {e : Bool} {ls : List (List PyData)} {s0 s1 s2 l s4 s5 s6 : Option OD} {Q : PyData → DEnv → Prop}
theorem m7_lots (hx : LO x ls) (q : Q (.int ls.length) [s0, s1, s2, l, s4, s5, s6, some (pile h held x st e)]) : Hs (M.frz (M.methP 7 pp0 "Pile" "lots" mPile_lots M.nil) [s0, s1, s2, l, s4, s5, s6, some (pile h held x st e)]) Q := by
  repeat fail
  refine hs_methP (x := pile h held x st e) (y := pile h held x st e) (p := []) (env0 := [s0, s1, s2, l, s4, s5, s6, none]) rfl rfl rfl rfl rfl ?_
  repeat fail
  refine lots_ok hx ⟨_, [], rfl, ?_⟩
  repeat fail
  exact q
theorem m7_steps (q : Q (.int st) [s0, s1, s2, l, s4, s5, s6, some (pile h held x st e)]) : Hs (M.frz (M.methP 7 pp0 "Pile" "steps" mPile_steps M.nil) [s0, s1, s2, l, s4, s5, s6, some (pile h held x st e)]) Q := by
  repeat fail
  refine hs_methP (x := pile h held x st e) (y := pile h held x st e) (p := []) (env0 := [s0, s1, s2, l, s4, s5, s6, none]) rfl rfl rfl rfl rfl ?_
  repeat fail
  refine steps_ok ⟨_, [], rfl, ?_⟩
  repeat fail
  exact q
end
theorem lc_told {f : Nat} {rows : List PyData} {zs : List OD} {s1 s2 s4 s5 s6 : Option OD} {Q : OD → DEnv → Prop} (hr : Rws f rows) (hn : rows.length ≤ 1500) (h : ∀ z ∈ zs, TP f rows z)
    (q : ∀ zs', Q (.lst []) [some (.pur (.list rows)), s1, s2, some (.lst zs'), s4, s5, s6, none]) : Hs (M.lcBo 3 7 [7] (M.tru (M.op2 neD (M.opL (one reprD) (M.cons (M.frz (M.methP 7 pp0 "Pile" "told" mPile_told M.nil)) M.nil)) (M.opL (one reprD) (M.cons (M.frz (M.opO sortB (M.cons (M.rd 0) M.nil))) M.nil)))) (fun _ => .no) [some (.pur (.list rows)), s1, s2, some (.lst zs), s4, s5, s6, none]) Q := by
  have hg := sorted_gv hr hn
  refine hs_lcBo (zs0 := zs) (fun k zs' acc e => acc = [] ∧ zs'.length = zs.length ∧ (∀ z ∈ zs', TP f rows z) ∧ e = [some (.pur (.list rows)), s1, s2, some (.lst zs'), s4, s5, s6, none]) rfl ?_ ?_ ?_ ⟨rfl, rfl, h, rfl⟩
  · rintro k zs' acc e ⟨rfl, hl, _, rfl⟩
    exact ⟨rfl, hl, by decide, by simp⟩
  · rintro k zs' acc e y hk ⟨rfl, hl, hz, rfl⟩ hy
    obtain ⟨⟨h1, h2⟩, y', h3, h4⟩ := told_run hr hn (hz y (List.mem_of_getElem? hy))
    refine ⟨h1, zs'.set k y', [some (.pur (.list rows)), s1, s2, some (.lst (zs'.set k y')), s4, s5, s6, none], none, ⟨rfl, by rw [List.length_set, hl], fun z hz' => ?_, rfl⟩, fun a => ?_⟩
    · rcases List.mem_or_eq_of_mem_set hz' with hz' | hz'
      · exact hz z hz'
      · rw [hz']; exact h3
    · simp only [List.set_cons_zero, List.set_cons_succ]
      refine hs_turnB ?_
      repeat fail
      refine hs_methP (x := y) (y := y) (p := []) (env0 := [some (.pur (.list rows)), s1, s2, some (.lst (zs'.set k (.ref a))), s4, s5, s6, none]) rfl rfl rfl h2 rfl ?_
      repeat fail
      refine ⟨_, _, h4, _, _, rfl, ?_⟩
      refine st_bd (a := PyData.list (rows.mergeSort leA)) dL ?_
      repeat fail
      refine st_repr hg (by decide) (by decide) ?_
      repeat fail
      refine st_sortB hr hn ?_
      refine st_bd (a := PyData.list (rows.mergeSort leA)) dL ?_
      repeat fail
      refine st_repr hg (by decide) (by decide) ?_
      repeat fail
      refine st_neSame hg ?_
      repeat fail
      rw [if_neg (by decide)]
      exact ⟨rfl, plug8 (by omega)⟩
  · rintro zs' acc e ⟨rfl, hl, hz, rfl⟩
    exact ⟨by simp, q zs'⟩
end
section
local macro_rules | `(tactic| fail) => `(tactic| first
  | with_reducible refine st_addBI ?_
  | with_reducible refine st_subBI ?_)
theorem getP_ix {zs : List OD} {i : Nat} {y : OD} (h : zs[i]? = some y) : getP [.ix i] (.lst zs) = some y := by simp [getP, h]
theorem setP_ix {zs : List OD} {i : Nat} {y y' : OD} (h : zs[i]? = some y) : setP [.ix i] (.lst zs) y' = .lst (zs.set i y') := by simp [setP, h]
section
variable {f s i n : Nat} {rows : List PyData} {zs : List OD} {x : OD} {ls : List (List PyData)} {h st : Int} {s0 s1 s2 s4 s5 s6 s7 : Option OD} {pp : DEnv → Option (List Stp)} {Q : OD → DEnv → Prop}
theorem at_count (hp : pp [s0, s1, some (.pur (.int (n : Int))), some (.lst zs), s4, s5, s6, s7] = some [.ix i]) (hy : zs[i]? = some (pile s [] x st true)) (hx : LO x ls) (E : E0 f rows ls) (hn : rows.length ≤ 1500) (hm : n ≤ 1500)
    (q : ∀ (k : Nat) x' ls' st', LO x' ls' → E0 f rows ls' → Cnt n (max 2 s - 1) ls.length ls'.length k → Q (.pur (.int (k : Int))) [s0, s1, some (.pur (.int (n : Int))), some (.lst (zs.set i (pile s [] x' st' true))), s4, s5, s6, s7]) :
    Hs (M.callP 3 pp m_law_count (M.cons (M.rd 2) M.nil) [s0, s1, some (.pur (.int (n : Int))), some (.lst zs), s4, s5, s6, s7]) Q := by
  refine hs_callP (x := .lst zs) (y := pile s [] x st true) (p := [.ix i]) (env0 := [s0, s1, some (.pur (.int (n : Int))), none, s4, s5, s6, s7]) rfl hp (getP_ix hy) rfl ?_
  repeat fail
  refine count_ok hx E hn hm fun k x' ls' st' hx' E' c _ => ⟨_, _, rfl, ?_⟩
  rw [setP_ix hy]
  exact q k x' ls' st' hx' E' c
theorem at_lots (hp : pp [s0, s1, s2, some (.lst zs), s4, s5, s6, s7] = some [.ix i]) (hy : zs[i]? = some (pile h [] x st true)) (hx : LO x ls)
    (q : Q (.pur (.int ls.length)) [s0, s1, s2, some (.lst zs), s4, s5, s6, s7]) :
    Hs (M.methP 3 pp "Pile" "lots" mPile_lots M.nil [s0, s1, s2, some (.lst zs), s4, s5, s6, s7]) Q := by
  refine hs_methP (x := .lst zs) (y := pile h [] x st true) (p := [.ix i]) (env0 := [s0, s1, s2, none, s4, s5, s6, s7]) rfl hp (getP_ix hy) rfl rfl ?_
  repeat fail
  refine lots_ok hx ⟨_, _, rfl, ?_⟩
  rw [setP_ix hy, set_same hy]
  exact q
theorem at_steps (hp : pp [s0, s1, s2, some (.lst zs), s4, s5, s6, s7] = some [.ix i]) (hy : zs[i]? = some (pile h [] x st true))
    (q : Q (.pur (.int st)) [s0, s1, s2, some (.lst zs), s4, s5, s6, s7]) :
    Hs (M.methP 3 pp "Pile" "steps" mPile_steps M.nil [s0, s1, s2, some (.lst zs), s4, s5, s6, s7]) Q := by
  refine hs_methP (x := .lst zs) (y := pile h [] x st true) (p := [.ix i]) (env0 := [s0, s1, s2, none, s4, s5, s6, s7]) rfl hp (getP_ix hy) rfl rfl ?_
  repeat fail
  refine steps_ok ⟨_, _, rfl, ?_⟩
  rw [setP_ix hy, set_same hy]
  exact q
theorem at_merge_no {P : Xn → DEnv → Prop} (hp : pp [s0, s1, s2, some (.lst zs), s4, s5, s6, s7] = some [.ix i]) (hy : zs[i]? = some (pile h [] x st true)) (hx : LO x ls) (h2 : ls.length < 2)
    (q : P ⟨.own "Done", none⟩ [s0, s1, s2, some (.lst zs), s4, s5, s6, s7]) :
    Ex (M.methP 3 pp "Pile" "merge" mPile_merge M.nil [s0, s1, s2, some (.lst zs), s4, s5, s6, s7]) P := by
  refine ex_methP (x := .lst zs) (y := pile h [] x st true) (p := [.ix i]) (env0 := [s0, s1, s2, none, s4, s5, s6, s7]) rfl hp (getP_ix hy) rfl rfl ?_
  repeat fail
  refine merge_no hx h2 ⟨_, _, rfl, ?_⟩
  rw [setP_ix hy, set_same hy]
  exact q
end
theorem ppN_at {zs : List OD} {s0 s1 s2 s4 s5 s6 s7 : Option OD} {k : Nat} (h1 : 1 ≤ k) (h2 : k ≤ zs.length) : ppN 3 pp0 k [s0, s1, s2, some (.lst zs), s4, s5, s6, s7] = some [.ix (zs.length - k)] := by
  show (match some (OD.lst zs) with | some (OD.lst zs) => if 1 ≤ k ∧ k ≤ zs.length then some ([] ++ [Stp.ix (zs.length - k)]) else none | _ => none) = _
  simp only [h1, h2, and_self, if_true]
  rfl
theorem ppI_at {s0 s1 s2 s3 s4 s6 s7 : Option OD} {k : Nat} : ppI pp0 (dataO (slotO 5)) [s0, s1, s2, s3, s4, some (.pur (.int (k : Int))), s6, s7] = some [.ix k] := by
  show (if (0 : Int) ≤ (k : Int) then some [Stp.ix ((k : Int)).toNat] else none).map _ = _
  rw [if_pos (by omega)]
  rfl
theorem st_itN {l : List Nat} {k : Nat} {a : Nat} (h : l[k]? = some a) {Q : PyData → Prop} (q : Q (.int (a : Int))) : Bd (itemD (.list (intsN l)) (.int (k : Int))) Q := st_itemL (f := fun (k : Nat) => PyData.int (k : Int)) h q
theorem st_it0 {a : PyData} {l : List PyData} {Q : PyData → Prop} (q : Q a) : Bd (itemD (.list (a :: l)) (.int 0)) Q := st_itemL (f := id) (l := a :: l) (k := 0) rfl (by simpa using q) |> fun z => by simpa using z
theorem st_neNN {l : List Nat} {Q : PyData → Prop} (q : Q (.bool false)) : Bd (neD (.list (intsN l)) (.list (intsN l))) Q := by
  have e : intsN l = (l.map fun (k : Nat) => (k : Int)).map .int := by unfold intsN; rw [List.map_map]; rfl
  rw [e]
  exact st_neN q
abbrev S6 (s0 s1 s2 s3 : Nat) : List Nat := [s0, s1, s2, s3, s0, s0]
theorem lc_lotsI {ss : List Nat} {n : Nat} {s0 s1 s3 s4 s5 s7 : Option OD} {Q : List PyData → DEnv → Prop} (hn : n ≤ 1500) (hs : ∀ s ∈ ss, 1 ≤ s ∧ s ≤ 1500) (q : Q (intsN (ss.map (lotN n))) [s0, s1, some (.pur (.int (n : Int))), s3, s4, s5, none, s7]) :
    Hs (lcL (gNameD 6) [6] (M.pure true) (M.frz (M.call m_law_lots (M.aV (M.rd 2) (M.aV (M.rd 6) M.aNil)))) (intsN ss) [s0, s1, some (.pur (.int (n : Int))), s3, s4, s5, none, s7]) Q := by
  refine hs_lcN (fun i acc e => acc = intsN ((ss.take i).map (lotN n)) ∧ e = [s0, s1, some (.pur (.int (n : Int))), s3, s4, s5, none, s7]) ?_ ⟨rfl, rfl⟩ ?_
  · rintro i d hd acc e ⟨rfl, rfl⟩
    obtain ⟨s, hs1, rfl⟩ := map_get hd
    obtain ⟨g1, g2⟩ := hs s (List.mem_of_getElem? hs1)
    refine ⟨_, rfl, ?_⟩
    simp only [List.set_cons_zero, List.set_cons_succ]
    repeat fail
    rw [if_pos rfl]
    repeat fail
    refine lotsI_ok g1 hn g2 ?_
    repeat fail
    refine ⟨?_, rfl⟩
    rw [List.take_add_one, hs1, List.map_append]
    show _ = List.map _ (_ ++ _)
    rw [List.map_append]; rfl
  · rintro ys e ⟨rfl, rfl⟩
    rw [List.length_map, List.take_length]
    exact q
set_option maxHeartbeats 0 in
theorem hands_ok {f : Nat} {rows : List PyData} {s0 s1 s2 s3 : Nat} {Q : OD → DEnv → Prop} (h0 : 1 ≤ s0 ∧ s0 ≤ 1500) (h1 : 1 ≤ s1 ∧ s1 ≤ 1500) (h2 : 1 ≤ s2 ∧ s2 ≤ 1500) (h3 : 1 ≤ s3 ∧ s3 ≤ 1500) (hr : Rws f rows) (hn : rows.length ≤ 1500)
    (q : Q (.pur (.bool true)) [none, none]) : Hs (m_law_hands_right [some (.pur (.list rows)), some (.pur (.list (intsN [s0, s1, s2, s3])))]) Q := by
  have hall : ∀ s ∈ S6 s0 s1 s2 s3, 1 ≤ s ∧ s ≤ 1500 := by
    intro s hs
    simp only [List.mem_cons, List.not_mem_nil, or_false] at hs
    rcases hs with rfl | rfl | rfl | rfl | rfl | rfl <;> assumption
  unfold m_law_hands_right
  refine hs_runE [_, _, none, none, none, none, none, none] rfl rfl ?_
  repeat fail
  refine st_it0 ?_
  repeat fail
  refine st_it0 ?_
  repeat fail
  refine st_addBL (by simp [lim]) ?_
  repeat fail
  show Hs (m_law_ended [some (.pur (.list rows)), some (.pur (.list (intsN (S6 s0 s1 s2 s3))))]) _
  refine ended_ok (fun s hs => (hall s hs).1) (by simp) hr hn fun zs hz => ?_
  repeat fail
  refine st_it0 ?_
  repeat fail
  refine st_it0 ?_
  repeat fail
  refine st_addBL (by simp [lim]) ?_
  repeat fail
  refine lc_lotsI (ss := S6 s0 s1 s2 s3) hn hall ⟨by simp, ?_⟩
  repeat fail
  refine lc_ro (v := fun s => .int (lotN rows.length s : Nat)) hz (by simp) (fun j s z hp => ?_) ?_
  · obtain ⟨x, ls, rfl, hx, E, hl⟩ := hp
    exact ⟨rfl, fun l => m7_lots hx ⟨by rw [hl], rfl⟩⟩
  rw [show (S6 s0 s1 s2 s3).map (fun s => PyData.int (lotN rows.length s : Nat)) = intsN ((S6 s0 s1 s2 s3).map (lotN rows.length)) from rfl]
  generalize hLL : (S6 s0 s1 s2 s3).map (lotN rows.length) = LL
  refine st_bd (a := PyData.list (intsN LL)) dL ?_
  repeat fail
  refine st_neNN ?_
  repeat fail
  refine lc_ro (v := fun _ => .int (rows.length : Nat)) hz (by simp) (fun j s z hp => ?_) ?_
  · obtain ⟨x, ls, rfl, hx, E, hl⟩ := hp
    exact ⟨rfl, fun l => m7_steps ⟨rfl, rfl⟩⟩
  refine st_bd (a := PyData.list (intsN (List.replicate 6 rows.length))) dL ?_
  repeat fail
  have hzl : zs.length = 6 := hz.1
  refine hs_lenO (zs := zs) rfl ?_
  rw [hzl]
  repeat fail
  refine ⟨by simp [lim], ?_⟩
  refine st_bd (a := PyData.list (intsN (List.replicate 6 rows.length))) (dL (ds := intsN (List.replicate 6 rows.length))) ?_
  refine st_neNN ?_
  repeat fail
  obtain ⟨z4, hz4⟩ : ∃ z, zs[4]? = some z := ⟨_, List.getElem?_eq_getElem (by omega)⟩
  have e4 : EP f s0 rows z4 := hz.2 4 s0 z4 rfl hz4
  have hm2 : itemD (.list (intsN LL)) (.int (-2)) = some (.int (lotN rows.length s0 : Nat)) := by rw [← hLL]; rfl
  have hm1 : itemD (.list (intsN LL)) (.int (-1)) = some (.int (lotN rows.length s0 : Nat)) := by rw [← hLL]; rfl
  have hLk : ∀ {k s : Nat}, (S6 s0 s1 s2 s3)[k]? = some s → LL[k]? = some (lotN rows.length s) := fun {k s} h => by rw [← hLL, List.getElem?_map, h]; rfl
  clear hLL
  refine hs_callP (x := .lst zs) (y := z4) (p := [.ix 4]) (env0 := [some (.pur (.list rows)), some (.pur (.list (intsN [s0, s1, s2, s3]))), some (.pur (.int (rows.length : Int))), none, some (.pur (.list (intsN LL))), none, none, none]) rfl (by rw [ppN_at (by decide) (by omega), hzl]) (getP_ix hz4) rfl ?_
  repeat fail
  refine st_bd hm2 ?_
  repeat fail
  refine lent_ok h0.1 h0.2 hn e4 fun y' t4 => ⟨_, _, rfl, ?_⟩
  rw [setP_ix hz4]
  repeat fail
  have hz1 : At (S6 s0 s1 s2 s3) (zs.set 4 y') (fun j s z => if j < 0 ∨ j = 4 then TP f rows z else EP f s rows z) :=
    hz.set (fun s _ => by rw [if_pos (Or.inr rfl)]; exact t4) fun j s z hj hp => by rw [if_neg (by omega)]; exact hp
  generalize zs.set 4 y' = zs1 at hz1
  clear hz4 e4 t4 hz hzl
  refine hs_forN (fun i e => ∃ (zs : List OD) (s5 s6 : Option OD), e = [some (.pur (.list rows)), some (.pur (.list (intsN [s0, s1, s2, s3]))), some (.pur (.int (rows.length : Int))), some (.lst zs), some (.pur (.list (intsN LL))), s5, s6, none] ∧ At (S6 s0 s1 s2 s3) zs (fun j s z => if j < i ∨ j = 4 then TP f rows z else EP f s rows z)) ?_ ?_ ⟨zs1, none, none, rfl, hz1⟩
  · clear hz1
    rintro i d hd e ⟨zs, s5, s6, rfl, hz⟩
    obtain ⟨z, hz0, rfl⟩ := enumL_get hd
    obtain ⟨s, hs, rfl⟩ := map_get hz0
    have hi : i < 4 := (List.getElem?_eq_some_iff.mp hs).1
    have hs6 : (S6 s0 s1 s2 s3)[i]? = some s := by
      show ([s0, s1, s2, s3] ++ [s0, s0])[i]? = some s
      rw [List.getElem?_append_left (by simpa using hi)]
      exact hs
    obtain ⟨g1, g2⟩ := hall s (List.mem_of_getElem? hs6)
    obtain ⟨y, hy⟩ : ∃ z, zs[i]? = some z := ⟨_, List.getElem?_eq_getElem (by rw [hz.1]; simp; omega)⟩
    have ey : EP f s rows y := by
      have : if i < i ∨ i = 4 then TP f rows y else EP f s rows y := hz.2 i s y hs6 hy
      rw [if_neg (by omega)] at this
      exact this
    obtain ⟨x, ls, rfl, hx, E, hl⟩ := ey
    have hle := lot_le (n := rows.length) g1
    have hmin := lot_min (n := rows.length) g1
    refine ⟨_, rfl, ?_⟩
    simp only [List.set_cons_zero, List.set_cons_succ]
    repeat fail
    refine at_count ppI_at hy hx E hn hn fun k x' ls' st' hx' E' c => ?_
    rw [hl] at c
    obtain ⟨hk, hl'⟩ := c.fin (by omega)
    repeat fail
    refine st_itN (hLk hs6) ?_
    repeat fail
    refine mergI_ok g1 (by omega) g2 ?_
    rw [hk]
    repeat fail
    refine iff2_of (fun hc => absurd hc (by simp)) fun _ => ?_
    repeat fail
    refine at_lots ppI_at (List.getElem?_set_self (List.getElem?_eq_some_iff.mp hy).1) hx' ?_
    repeat fail
    rw [show (if (rows.length : Int) < 1 then (rows.length : Int) else 1) = ((min 1 rows.length : Nat) : Int) from min_nat 1 _, hl', hmin]
    repeat fail
    refine iff2_of (fun hc => absurd hc (by simp)) fun _ => ?_
    repeat fail
    refine ⟨_, _, _, rfl, hz.set (fun s' hs' => ?_) fun j s' z' hj hp => ?_⟩
    · rw [if_pos (Or.inl (Nat.lt_succ_self _))]
      exact ⟨_, x', ls', st', rfl, hx', E', by rw [hl', hmin]⟩
    · by_cases hji : j < i ∨ j = 4
      · rw [if_pos hji] at hp
        rw [if_pos (by omega)]; exact hp
      · rw [if_neg hji] at hp
        rw [if_neg (by omega)]; exact hp
  · clear hz1
    rintro e ⟨zs, s5, s6, rfl, hz⟩
    rw [enumL_len] at hz
    have hzl : zs.length = 6 := hz.1
    obtain ⟨z5, hz5⟩ : ∃ z, zs[5]? = some z := ⟨_, List.getElem?_eq_getElem (by omega)⟩
    have e5 : EP f s0 rows z5 := hz.2 5 s0 z5 rfl hz5
    obtain ⟨x, ls, rfl, hx, E, hl⟩ := e5
    have hle := lot_le (n := rows.length) h0.1
    have hmin := lot_min (n := rows.length) h0.1
    repeat fail
    refine hs_methP (x := .lst zs) (y := pile s0 [] x (rows.length : Int) true) (p := [.ix 5]) (env0 := [some (.pur (.list rows)), some (.pur (.list (intsN [s0, s1, s2, s3]))), some (.pur (.int (rows.length : Int))), none, some (.pur (.list (intsN LL))), s5, s6, none]) rfl (by rw [ppN_at (by decide) (by omega), hzl]) (getP_ix hz5) rfl rfl ?_
    repeat fail
    refine st_it0 ?_
    repeat fail
    refine back_room (by omega) (by simp; omega) ⟨_, _, rfl, ?_⟩
    rw [show (s0 : Int) - ((s0 : Int) - 1) = ((1 : Nat) : Int) by omega, setP_ix hz5]
    have hy1 : (zs.set 5 (pile ((1 : Nat) : Int) [] x (rows.length : Int) true))[5]? = some (pile ((1 : Nat) : Int) [] x (rows.length : Int) true) := List.getElem?_set_self (by omega)
    have hl1 : (zs.set 5 (pile ((1 : Nat) : Int) [] x (rows.length : Int) true)).length = 6 := by rw [List.length_set, hzl]
    have hall1 : ∀ (j : Nat) (z : OD), (zs.set 5 (pile ((1 : Nat) : Int) [] x (rows.length : Int) true))[j]? = some z → j ≠ 5 → TP f rows z := fun j z h1 h2 => by
      rw [List.getElem?_set_ne (fun q => h2 q.symm)] at h1
      have hj : j < 6 := by rw [← hzl]; exact (List.getElem?_eq_some_iff.mp h1).1
      have hj6 : (S6 s0 s1 s2 s3)[j]? = some ((S6 s0 s1 s2 s3)[j]'hj) := List.getElem?_eq_getElem hj
      have : if j < (intsN [s0, s1, s2, s3]).length ∨ j = 4 then TP f rows z else EP f ((S6 s0 s1 s2 s3)[j]'hj) rows z := hz.2 j _ z hj6 h1
      rw [if_pos (by show j < 4 ∨ j = 4; omega)] at this
      exact this
    generalize zs.set 5 (pile ((1 : Nat) : Int) [] x (rows.length : Int) true) = zs1 at *
    simp only [List.set_cons_zero, List.set_cons_succ]
    repeat fail
    refine at_steps (i := 5) (by rw [ppN_at (by decide) (by omega), hl1]) hy1 ?_
    repeat fail
    refine iff2_of (fun hc => absurd hc (by simp)) fun _ => ?_
    repeat fail
    refine at_count (i := 5) (by rw [ppN_at (by decide) (by omega), hl1]) hy1 hx E hn hn fun k x' ls' st' hx' E' c => ?_
    rw [hl] at c
    obtain ⟨hk, hl'⟩ := c.fin (by omega)
    repeat fail
    refine st_bd hm1 ?_
    repeat fail
    show Hs (m_law_mergings [some (.pur (.int (lotN rows.length s0 : Nat))), some (.pur (.int ((1 : Nat) : Int)))]) _
    refine mergI_ok (by decide) (by omega) (by decide) ?_
    rw [hk]
    repeat fail
    refine iff2_of (fun hc => absurd hc (by simp)) fun _ => ?_
    repeat fail
    have hy2 : (zs1.set 5 (pile ((1 : Nat) : Int) [] x' st' true))[5]? = some (pile ((1 : Nat) : Int) [] x' st' true) := List.getElem?_set_self (by omega)
    have hl2 : (zs1.set 5 (pile ((1 : Nat) : Int) [] x' st' true)).length = 6 := by rw [List.length_set, hl1]
    have hall2 : ∀ z ∈ zs1.set 5 (pile ((1 : Nat) : Int) [] x' st' true), TP f rows z := fun z hz => by
      obtain ⟨j, hj⟩ := List.mem_iff_getElem?.mp hz
      by_cases h5 : j = 5
      · subst h5
        rw [hy2] at hj
        cases hj
        exact ⟨_, x', ls', st', rfl, hx', E', by rw [hl', hmin]⟩
      · rw [List.getElem?_set_ne (fun q => h5 q.symm)] at hj
        exact hall1 j z hj h5
    generalize zs1.set 5 (pile ((1 : Nat) : Int) [] x' st' true) = zs2 at *
    refine hs_heard ?_
    refine heard_dn (at_merge_no (i := 5) (by rw [ppN_at (by decide) (by omega), hl2]) hy2 hx' (by rw [hl', hmin]; omega) ⟨rfl, ?_⟩)
    repeat fail
    refine ne_same (by kernel_rfl) ?_
    repeat fail
    refine lc_told hr hn hall2 fun zs3 => ?_
    refine st_bd (a := PyData.list []) rfl ?_
    repeat fail
    exact q
end
section
theorem st_row {cs : List Int} {t ov form : Int} (hf0 : 0 ≤ form) (hf : form < 7) (ht : 0 ≤ t) (ht2 : t < 9000) (hov : 0 ≤ ov) {Q : OD → DEnv → Prop}
    (q : ∀ d t' ov', RowC form.toNat d → t ≤ t' → t' ≤ t + 4 → 0 ≤ ov' → Q (.pur d) [some (pen cs t' ov'), none]) : Hs (m_law_row [some (pen cs t ov), some (.pur (.int form))]) Q := by
  refine (row_ok hf0 hf ht ht2 hov).mono ?_
  rintro x outs ⟨d, t', ov', rfl, h1, rfl, h2, h3, h4⟩
  exact q d t' ov' h1 h2 h3 h4
local macro_rules | `(tactic| fail) => `(tactic| first
  | ((with_reducible refine st_tk (by omega) (by omega) (by omega) (by omega) (by omega) ?_); intro _ _ _ _ _ _ _ _)
  | with_reducible refine st_addBI ?_
  | with_reducible refine st_subBI ?_)
local macro_rules | `(tactic| fail) => `(tactic| ((with_reducible refine st_row (by omega) (by omega) (by omega) (by omega) (by omega) ?_); intro _ _ _ _ _ _ _))
theorem rows_lc {a r3 r4 r5 r6 r7 r8 : Option OD} {cs : List Int} {t ov form : Int} {n : Nat} {Q : List PyData → DEnv → Prop} (hf0 : 0 ≤ form) (hf : form < 7) (ht : 0 ≤ t) (ht2 : t < 5000) (hov : 0 ≤ ov) (hn : n ≤ 200)
    (q : ∀ ds t' ov', ds.length = n → Rws form.toNat ds → t ≤ t' → t' ≤ t + 800 → 0 ≤ ov' → Q ds [a, some (pen cs t' ov'), some (.pur (.int form)), r3, r4, r5, r6, r7, r8, none]) :
    Hs (lcL (gNameD 9) [9] (M.pure true) (M.frz (M.call m_law_row (M.aR 1 (M.aV (M.rd 2) M.aNil)))) ((List.range n).map fun (k : Nat) => .int (k : Int)) [a, some (pen cs t ov), some (.pur (.int form)), r3, r4, r5, r6, r7, r8, none]) Q := by
  refine hs_lcN (fun i acc e => ∃ t' ov', e = [a, some (pen cs t' ov'), some (.pur (.int form)), r3, r4, r5, r6, r7, r8, none] ∧ acc.length = i ∧ Rws form.toNat acc ∧ t ≤ t' ∧ t' ≤ t + 4 * i ∧ 0 ≤ ov') ?_ ⟨t, ov, rfl, rfl, fun d hd => by (cases hd), by omega, by omega, hov⟩ ?_
  · rintro i d hd acc e ⟨t', ov', rfl, hl, hr, g1, g2, g3⟩
    obtain ⟨k, hk, rfl⟩ := map_get hd
    have hi : i < 200 := by
      have := (List.getElem?_eq_some_iff.mp hk).1
      rw [List.length_range] at this
      omega
    refine ⟨_, rfl, ?_⟩
    repeat fail
    rw [if_pos rfl]
    repeat fail
    rename_i d t1 o1 b1 b2 b3 b4
    refine ⟨t1, o1, rfl, by simp [hl], fun e he => ?_, by omega, by push_cast; omega, b4⟩
    rcases List.mem_append.mp he with he | he
    · exact hr e he
    · rw [List.mem_singleton.mp he]; exact b1
  · rintro ys e ⟨t', ov', rfl, hl, hr, g1, g2, g3⟩
    rw [List.length_map, List.length_range] at hl g2
    exact q ys t' ov' hl hr g1 (by omega) g3

theorem far_lc {a r1 r2 r3 r4 r5 r6 r7 r8 : Option OD} {n : Nat} {Q : List PyData → DEnv → Prop} (hn : n ≤ 1500)
    (q : ∀ ds, ds.length = n → Rws 1 ds → Q ds [a, r1, r2, r3, r4, r5, r6, r7, r8, none]) :
    Hs (lcL (gNameD 9) [9] (M.pure true) (M.tup (M.cons (M.op2 modD (M.op2 mulD (M.rd 9) (M.pure (.int 7919))) (M.pure (.int 1500))) (M.cons (M.rd 9) M.nil))) ((List.range n).map fun (k : Nat) => .int (k : Int)) [a, r1, r2, r3, r4, r5, r6, r7, r8, none]) Q := by
  refine hs_lcN (fun i acc e => e = [a, r1, r2, r3, r4, r5, r6, r7, r8, none] ∧ acc.length = i ∧ Rws 1 acc) ?_ ⟨rfl, rfl, fun d hd => by (cases hd)⟩ ?_
  · rintro i d hd acc e ⟨rfl, hl, hr⟩
    obtain ⟨k, hk, rfl⟩ := map_get hd
    have hi : i < 1500 := by
      have := (List.getElem?_eq_some_iff.mp hk).1
      rw [List.length_range] at this
      omega
    have hk2 : k = i := by
      have := (List.getElem?_eq_some_iff.mp hk).2
      simpa using this.symm
    subst hk2
    refine ⟨_, rfl, ?_⟩
    repeat fail
    rw [if_pos rfl]
    repeat fail
    refine ⟨by simp [hl], fun e he => ?_⟩
    rcases List.mem_append.mp he with he | he
    · exact hr e he
    · rw [List.mem_singleton.mp he]
      have := fm ((k : Int) * 7919) (m := 1500) (by decide)
      exact ⟨_, _, by unfold Sm; omega, by unfold Sm; omega, rfl⟩
  · rintro ys e ⟨rfl, hl, hr⟩
    rw [List.length_map, List.length_range] at hl
    exact q ys hl hr
section
variable {h st : Int} {held : List PyData} {x y y' r : OD} {e : Bool} {ls : List (List PyData)} {a0 a1 a2 a3 a4 a5 a6 a8 a9 : Option OD} {Q : OD → DEnv → Prop}
theorem s7_steps (q : Q (.pur (.int st)) [a0, a1, a2, a3, a4, a5, a6, some (pile h held x st e), a8, a9]) : Hs (M.methP 7 pp0 "Pile" "steps" mPile_steps M.nil [a0, a1, a2, a3, a4, a5, a6, some (pile h held x st e), a8, a9]) Q := by
  refine hs_methP (x := pile h held x st e) (y := pile h held x st e) (p := []) (env0 := [a0, a1, a2, a3, a4, a5, a6, none, a8, a9]) rfl rfl rfl rfl rfl ?_
  repeat fail
  exact steps_ok ⟨_, [], rfl, q⟩
theorem s7_told (ho : isObj "Pile" "told" y = true) (hr : mPile_told [some y] = .ok r [some y']) (q : Q r [a0, a1, a2, a3, a4, a5, a6, some y', a8, a9]) : Hs (M.methP 7 pp0 "Pile" "told" mPile_told M.nil [a0, a1, a2, a3, a4, a5, a6, some y, a8, a9]) Q := by
  refine hs_methP (x := y) (y := y) (p := []) (env0 := [a0, a1, a2, a3, a4, a5, a6, none, a8, a9]) rfl rfl rfl ho rfl ?_
  repeat fail
  exact ⟨_, _, hr, _, _, rfl, q⟩
end
section
variable {h st : Int} {held : List PyData} {x y y' r : OD} {e : Bool} {ls : List (List PyData)} {a0 a1 a2 a3 a4 a5 a6 a7 a9 : Option OD} {Q : OD → DEnv → Prop}
theorem s8_steps (q : Q (.pur (.int st)) [a0, a1, a2, a3, a4, a5, a6, a7, some (pile h held x st e), a9]) : Hs (M.methP 8 pp0 "Pile" "steps" mPile_steps M.nil [a0, a1, a2, a3, a4, a5, a6, a7, some (pile h held x st e), a9]) Q := by
  refine hs_methP (x := pile h held x st e) (y := pile h held x st e) (p := []) (env0 := [a0, a1, a2, a3, a4, a5, a6, a7, none, a9]) rfl rfl rfl rfl rfl ?_
  repeat fail
  exact steps_ok ⟨_, [], rfl, q⟩
theorem s8_lots (hx : LO x ls) (q : Q (.pur (.int ls.length)) [a0, a1, a2, a3, a4, a5, a6, a7, some (pile h held x st e), a9]) : Hs (M.methP 8 pp0 "Pile" "lots" mPile_lots M.nil [a0, a1, a2, a3, a4, a5, a6, a7, some (pile h held x st e), a9]) Q := by
  refine hs_methP (x := pile h held x st e) (y := pile h held x st e) (p := []) (env0 := [a0, a1, a2, a3, a4, a5, a6, a7, none, a9]) rfl rfl rfl rfl rfl ?_
  repeat fail
  exact lots_ok hx ⟨_, [], rfl, q⟩
theorem s8_told (ho : isObj "Pile" "told" y = true) (hr : mPile_told [some y] = .ok r [some y']) (q : Q r [a0, a1, a2, a3, a4, a5, a6, a7, some y', a9]) : Hs (M.methP 8 pp0 "Pile" "told" mPile_told M.nil [a0, a1, a2, a3, a4, a5, a6, a7, some y, a9]) Q := by
  refine hs_methP (x := y) (y := y) (p := []) (env0 := [a0, a1, a2, a3, a4, a5, a6, a7, none, a9]) rfl rfl rfl ho rfl ?_
  repeat fail
  exact ⟨_, _, hr, _, _, rfl, q⟩
end
theorem lot_far : lotN 1500 800 = 2 := by decide
theorem mer_far : merN 2 800 = 1 := by decide
theorem lot_whole (n : Nat) : lotN n (max 1 n) = min 1 n := by
  unfold lotN
  rcases Nat.eq_zero_or_pos n with rfl | h
  · rfl
  · rw [show max 1 n = n by omega, show min 1 n = 1 by omega]
    refine Nat.div_eq_of_lt_le (by omega) (by rw [Nat.succ_mul]; omega)
set_option maxHeartbeats 0 in
theorem law_hs {ns : List Int} : Hs (mlaw [some (.pur (.list (ns.map .int)))]) fun x _ => x = .pur (.bool true) := by
  unfold mlaw
  refine hs_runE (env := [some (.pur (.list (ns.map .int)))]) [some (.pur (.list (ns.map .int))), none, none, none, none, none, none, none, none, none] rfl rfl ?_
  repeat fail
  refine lpen_ok ?_
  generalize ns.take 63 = cs
  generalize PyData.list (ns.map .int) = NS
  repeat fail
  rename_i form t1 o1 a1 a2 a3 a4 a5 d1 t2 o2 b1 b2 b3 b4 b5 d2 t3 o3 c1 c2 c3 c4 c5
  refine st_ixLm c1 c2 fun z hz => ?_
  obtain ⟨n, rfl, hn⟩ : ∃ n : Nat, z = .int (n : Int) ∧ n ≤ 200 := by
    simp only [List.mem_cons, List.not_mem_nil, or_false] at hz
    rcases hz with rfl | rfl | rfl | rfl | rfl | rfl | rfl
    · exact ⟨11, rfl, by decide⟩
    · exact ⟨0, rfl, by decide⟩
    · exact ⟨1, rfl, by decide⟩
    · exact ⟨2, rfl, by decide⟩
    · exact ⟨200, rfl, by decide⟩
    · exact ⟨60, rfl, by decide⟩
    · exact ⟨d1.toNat, by rw [Int.toNat_of_nonneg b1], by omega⟩
  clear hz
  repeat fail
  rw [rangeL01, Int.toNat_natCast]
  refine rows_lc a1 a2 (by omega) (by omega) (by omega) hn fun rows t6 o6 hl hr g4 g5 g6 => ?_
  refine ⟨by omega, ?_⟩
  repeat fail
  rename_i d3 t7 o7 e1 e2 e3 e4 e5 d4 t8 o8 f1 f2 f3 f4 f5
  refine st_ixLm f1 f2 fun z hz => ?_
  obtain ⟨s0, rfl, hs0⟩ : ∃ s : Nat, z = .int (s : Int) ∧ (1 ≤ s ∧ s ≤ 1500) := by
    simp only [List.mem_cons, List.not_mem_nil, or_false] at hz
    rcases hz with rfl | rfl | rfl | rfl | rfl | rfl | rfl
    · exact ⟨3, rfl, by decide⟩
    · exact ⟨1, rfl, by decide⟩
    · exact ⟨2, rfl, by decide⟩
    · exact ⟨4, rfl, by decide⟩
    · exact ⟨14, rfl, by decide⟩
    · exact ⟨15, rfl, by decide⟩
    · exact ⟨(1 + d3).toNat, by rw [Int.toNat_of_nonneg (by omega)], by omega⟩
  clear hz
  repeat fail
  rename_i d5 t9 o9 i1 i2 i3 i4 i5 d6 t10 o10 j1 j2 j3 j4 j5
  obtain ⟨n5, rfl⟩ : ∃ m : Nat, d5 = (m : Int) := ⟨d5.toNat, by omega⟩
  obtain ⟨n6, rfl⟩ : ∃ m : Nat, d6 = (m : Int) := ⟨d6.toNat, by omega⟩
  rw [show (2 + (n5 : Int)) = ((2 + n5 : Nat) : Int) by push_cast; rfl, show (1 + (n6 : Int)) = ((1 + n6 : Nat) : Int) by push_cast; rfl, show (if (n : Int) > 1 then (n : Int) else 1) = ((max 1 n : Nat) : Int) from max_nat 1 n]
  show Hs (m_law_hands_right [some (.pur (.list rows)), some (.pur (.list (intsN [s0, 2 + n5, 1 + n6, max 1 n])))]) _
  refine hands_ok hs0 (by omega) (by omega) (by omega) hr (by omega) ?_
  clear a4 a5 b1 b2 b3 b4 b5 c1 c2 c3 c4 c5 e1 e2 e3 e4 e5 f1 f2 f3 f4 f5
  repeat fail
  rw [rangeL01]
  refine far_lc (n := 1500) (by decide) fun far fl fr => ?_
  refine ⟨by omega, ?_⟩
  repeat fail
  refine hs_pick0 ?_
  repeat fail
  show Hs (m_law_ended [some (.pur (.list far)), some (.pur (.list (intsN [800])))]) _
  refine ended_ok (by simp) (by simp) fr (by omega) fun zs hz => ?_
  obtain ⟨z, rfl⟩ : ∃ z, zs = [z] := by
    have := hz.1
    match zs, this with
    | [z], _ => exact ⟨z, rfl⟩
  have ez : EP 1 800 far z := hz.2 0 800 z rfl rfl
  obtain ⟨x, ls, rfl, hx, E, hlz⟩ := ez
  clear hz
  rw [fl] at hlz
  refine ⟨_, _, rfl, ?_⟩
  simp only [DL.putAll, List.set_cons_zero, List.set_cons_succ]
  repeat fail
  show Hs (m_law_count [some (pile ((800 : Nat) : Int) [] x (far.length : Int) true), some (.pur (.int ((2 : Nat) : Int)))]) _
  refine count_ok hx E (by omega) (by decide) fun k x' ls' st' hx' E' c g => ?_
  rw [hlz, lot_far] at c g
  obtain ⟨hk, hl'⟩ := c.fin (by decide)
  have hk1 : k = 1 := hk.trans mer_far
  subst hk1
  have hst := g (by decide)
  rw [fl] at hst
  have hst : st' = 3000 := by rw [hst]; rfl
  subst hst
  clear g c hk
  obtain ⟨⟨q1, q2⟩, y', ty, q3⟩ := told_run fr (by omega) (show TP 1 far (pile ((800 : Nat) : Int) [] x' 3000 true) from ⟨_, x', ls', _, rfl, hx', E', by rw [hl', fl]; rfl⟩)
  repeat fail
  refine iff2_of (fun hc => absurd hc (by simp)) fun _ => ?_
  repeat fail
  simp only [DL.putAll, List.set_cons_zero, List.set_cons_succ]
  refine s7_steps ?_
  repeat fail
  refine iff2_of (fun hc => absurd hc (by simp)) fun _ => ?_
  repeat fail
  refine s7_told q2 q3 ?_
  refine st_bd (a := PyData.list (far.mergeSort leA)) dL ?_
  have hgf := sorted_gv fr (by omega)
  repeat fail
  refine st_repr hgf (by decide) (by decide) ?_
  repeat fail
  refine st_sortB fr (by omega) ?_
  refine st_bd (a := PyData.list (far.mergeSort leA)) dL ?_
  repeat fail
  refine st_repr hgf (by decide) (by decide) ?_
  repeat fail
  refine st_neSame hgf ?_
  repeat fail
  refine hs_pick0 ?_
  repeat fail
  refine st_bd (a := .int ((max 1 n : Nat) : Int)) rfl ?_
  repeat fail
  show Hs (m_law_ended [some (.pur (.list rows)), some (.pur (.list (intsN [max 1 n])))]) _
  refine ended_ok (by simp; omega) (by simp) hr (by omega) fun zs hz => ?_
  obtain ⟨z, rfl⟩ : ∃ z, zs = [z] := by
    have := hz.1
    match zs, this with
    | [z], _ => exact ⟨z, rfl⟩
  have ez : EP form.toNat (max 1 n) rows z := hz.2 0 (max 1 n) z rfl rfl
  obtain ⟨x2, ls2, rfl, hx2, E2, hl2⟩ := ez
  clear hz
  rw [hl, lot_whole] at hl2
  refine ⟨_, _, rfl, ?_⟩
  simp only [DL.putAll, List.set_cons_zero, List.set_cons_succ]
  repeat fail
  have hli : (rows.length : Int) = (n : Int) := by rw [hl]
  rw [hli]
  refine s8_steps ?_
  repeat fail
  have hnn : ((n : Int) == (n : Int)) = true := by simp
  rw [hnn]
  repeat fail
  refine s8_lots hx2 ?_
  repeat fail
  rw [show (if (n : Int) < 1 then (n : Int) else 1) = ((min 1 n : Nat) : Int) from min_nat 1 n, hl2]
  repeat fail
  have hmm : (((min 1 n : Nat) : Int) == ((min 1 n : Nat) : Int)) = true := by simp
  rw [hmm]
  repeat fail
  obtain ⟨⟨q4, q5⟩, y2, ty2, q6⟩ := told_run hr (by omega) (show TP form.toNat rows (pile ((max 1 n : Nat) : Int) [] x2 (n : Int) true) from ⟨_, x2, ls2, _, rfl, hx2, E2, by rw [hl2, hl]⟩)
  refine s8_told q5 q6 ?_
  have hgr := sorted_gv hr (by omega)
  refine st_bd (a := PyData.list (rows.mergeSort leA)) dL ?_
  repeat fail
  refine st_repr hgr (by decide) (by decide) ?_
  repeat fail
  refine st_sortB hr (by omega) ?_
  refine st_bd (a := PyData.list (rows.mergeSort leA)) dL ?_
  repeat fail
  refine st_repr hgr (by decide) (by decide) ?_
  repeat fail
  refine eq_same hgr.ok ?_
  repeat fail
  rfl
theorem law_true (ns : List Int) (h : ns.length ≤ 63) : ∃ e, mlaw [some (.pur (.list (ns.map .int)))] = .ok (.pur (.bool true)) e := by
  obtain ⟨x, e, h1, rfl⟩ := law_hs (ns := ns)
  exact ⟨e, h1⟩
end
end L42

set_option maxHeartbeats 4000000
open PySem PySem.W PySem.Calls PyProof.Rows
theorem PySem.Challenge.cw_plansamid_k42_whole_how_many_mergings_holds : PySem.Challenge.rw_plansamid_k42_whole_how_many_mergings.Holds := by
  w_on; o_law
  refine HandSHeadRun.head_any (r := OpenLaw.row PySem.Challenge.rw_plansamid_k42_whole_how_many_mergings) (q := view (OpenLaw.row PySem.Challenge.rw_plansamid_k42_whole_how_many_mergings).prog [24]) (H := L42.hk) (ob := L42.ob) (M := 20000) (loose := (("_wall" :: "PlanError" :: "NoDeed" :: "NoRoom" :: "Done" :: "NotDone" :: "Busy" :: "NoStand" :: "FEWEST" :: "merged" :: "Pile" :: "_law_pen" :: "_law_draw" :: "_law_row" :: "_law_heard" :: "_law_lots" :: "_law_mergings" :: "_law_count" :: "_law_ended" :: "_law_lent_right" :: "_law_hands_right" :: []) : List Str)) (d := HandSHeadRun.topDef (OpenLaw.row PySem.Challenge.rw_plansamid_k42_whole_how_many_mergings).prog 24) (kwd := []) L42.ob_eq
    (by kernel_rfl) (fun s => by kernel_rfl) L42.run (by kernel_rfl) (by kernel_rfl) (by kernel_rfl) (by rfl) (by first | assumption | decide +kernel) (by decide +kernel) ⟨rfl, rfl, rfl, rfl, rfl, by decide +kernel⟩ ?hw ?hc
  case hw => w_witness2
  case hc =>
    refine DL.walk_G (l := PySem.Challenge.rw_plansamid_k42_whole_how_many_mergings) (n := 63) (k := 9) (x := "_law_script") rfl (by decide) (by kernel_rfl) ⟨rfl, by decide, by decide⟩ ?F
    intro w K mg f h KX G c hmg0
    have hmg : mg ("law" : PySem.Str) = some (.ref f) := by
      have e : (HandSHeadRun.topDef (OpenLaw.row PySem.Challenge.rw_plansamid_k42_whole_how_many_mergings).prog 24).name = ("law" : PySem.Str) := by kernel_rfl
      rw [← e]
      exact hmg0
    obtain ⟨fd, hb, hF⟩ := L42.facts2 (l := PySem.Challenge.rw_plansamid_k42_whole_how_many_mergings) (w := w) K mg f h KX G c hmg
    exact ⟨fd, L42.mlaw, hb, L42.law_true, hF⟩
