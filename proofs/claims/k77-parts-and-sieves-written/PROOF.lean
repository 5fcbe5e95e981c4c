import PyProof.Rows.All
import Wide.All
import OpenK.AllK
import Wide.FinOn
import HandS.ForMost
import HandS.Exc
import HandS.TryOnly
import HandS.ExcOwn
import HandS.WordsExc
import HandS.Wide
import HandS.IsInst
import HandS.Deep
import HandS.TupAny
import HandS.Flow
import HandS.StrMore
import HandS.Conv
import HandS.Lambda
import HandS.Style
import HandS.Codes
import HandS.RaiseMore
import HandS.Defaults
import HandS.Comp
import HandS.TupSets
import KE.GoesEnum
import KE.GoesMore
import HandS.Head0
import HandS.Head1
import HandS.Head2
import HandS.HeadEnd
import HandS.HeadHook1
import HandS.HeadHook2
import KE.KIsAll
import KE.KNestM
import HandS.ExcInit
import PyProof.ReprLen
import PyProof.Rows.ReprOcc
import KE.KEqDict
import HandS.DeepEq
import HandS.DictComp
import HandS.Zip
import KE.GoesZip
import KE.KUnpackStar
import HandS.Iter
import HandS.Finally
import HandS.Text
import KE.SortData
import KE.SortKeyHeap
import HandS.WideBits
import KE.KDictZip
import KE.KItemsList
import HandS.ListItems
import HandS.More
import PyProof.ExcBaseAll.ValueError
import KE.KTryMore
import KE.KExcIs
import HandS.ExcIs
import HandS.NoneIn
import KE.KDictDisplayH
import KE.KDictCopyH
import HandS.HeadHook3
import KE.DataMinKey
import Flt.Sum
import HandS.ExcField
import HandS.ExcValue
import PyProof.Rows.CountFlat
import HandS.ExcBuiltin
import HandS.SetFor
import HandS.SetKeys
import HandS.TupMul
import OpenK.KOps
import HandS.FStr
import KE.KDictWalk
import HandS.DictSubView0
import PySem.Challenge.RW_plansamid_k77_parts_and_sieves_written
set_option Elab.async false
set_option linter.all false
set_option maxRecDepth 100000
set_option exponentiation.threshold 3000
set_option maxHeartbeats 2000000
/-! DL1: data over the hand layer. Frozen data (Rp), owned trees (Ow), the state of a body (Sta), the monad of mirrors. -/
namespace DL
open PySem PySem.Spec PyProof.Rows L2

/-! ### data -/
def keyD : Key → PyData
  | .inl i => .int i
  | .inr x => .str x

mutual
/-- frozen data: v stands for d in the region P -/
inductive Rp (K : PySem.W.Frag) (P : Hp) : V → PyData → Prop
  | non : Rp K P .non .none
  | bl (b : Bool) : Rp K P (.bl b) (.bool b)
  | int (i : Int) : Rp K P (.int i) (.int i)
  | str (x : Str) : Rp K P (.str x) (.str x)
  | lst {a : Addr} {xs : List V} {ds : List PyData} (h : Rd P a (.lst xs)) (t : RpA K P xs ds) : Rp K P (.ref a) (.list ds)
  | tup {a : Addr} {xs : List V} {ds : List PyData} (h : P a = some (.tup xs)) (t : RpA K P xs ds) : Rp K P (.ref a) (.tuple ds)
  | dK {a : Addr} {ks : List Key} {xs : List V} {ds : List PyData} (h : Rd P a (.dK (ks.zip xs))) (hl : ks.length = xs.length) (t : RpA K P xs ds) : Rp K P (.ref a) (.dict ((ks.map keyD).zip ds))
  | dT {a : Addr} {ks : List (List Key)} {xs : List V} {ds : List PyData} (h : Rd P a (.dT (ks.zip xs))) (hl : ks.length = xs.length) (hne : ks ≠ []) (t : RpA K P xs ds) : Rp K P (.ref a) (.dict ((ks.map fun k => .tuple (k.map keyD)).zip ds))
inductive RpA (K : PySem.W.Frag) (P : Hp) : List V → List PyData → Prop
  | nil : RpA K P [] []
  | cons {v : V} {vs : List V} {d : PyData} {ds : List PyData} (h : Rp K P v d) (t : RpA K P vs ds) : RpA K P (v :: vs) (d :: ds)
end

theorem rd_mono {P P' : Hp} (s : Same P P') {a : Addr} {u : HO} (h : Rd P a u) : Rd P' a u := by
  rcases h with h | ⟨o, h⟩
  · exact .inl (s _ _ h)
  · exact .inr ⟨o, s _ _ h⟩
theorem seqT_mono {K : PySem.W.Frag} {P P' : Hp} (s : Same P P') {a : Addr} {xs : List V} (h : P a = some (.tup xs)) : SqT K P' a xs := .inl (.inl (s _ _ h))

mutual
theorem Rp.mono {K : PySem.W.Frag} {P P' : Hp} (s : Same P P') : ∀ {v : V} {d : PyData}, Rp K P v d → Rp K P' v d
  | _, _, .non => .non
  | _, _, .bl b => .bl b
  | _, _, .int i => .int i
  | _, _, .str x => .str x
  | _, _, .lst h t => .lst (rd_mono s h) (RpA.mono s t)
  | _, _, .tup h t => .tup (s _ _ h) (RpA.mono s t)
  | _, _, .dK h hl t => .dK (rd_mono s h) hl (RpA.mono s t)
  | _, _, .dT h hl hne t => .dT (rd_mono s h) hl hne (RpA.mono s t)
theorem RpA.mono {K : PySem.W.Frag} {P P' : Hp} (s : Same P P') : ∀ {vs : List V} {ds : List PyData}, RpA K P vs ds → RpA K P' vs ds
  | _, _, .nil => .nil
  | _, _, .cons h t => .cons (Rp.mono s h) (RpA.mono s t)
end
theorem RpA.length {K : PySem.W.Frag} {P : Hp} : ∀ {vs : List V} {ds : List PyData}, RpA K P vs ds → vs.length = ds.length
  | _, _, .nil => rfl
  | _, _, .cons _ t => by simp [RpA.length t]
theorem RpA.append {K : PySem.W.Frag} {P : Hp} : ∀ {vs ws : List V} {ds es : List PyData}, RpA K P vs ds → RpA K P ws es → RpA K P (vs ++ ws) (ds ++ es)
  | _, _, _, _, .nil, q => q
  | _, _, _, _, .cons h t, q => .cons h (RpA.append t q)
theorem RpA.get {K : PySem.W.Frag} {P : Hp} : ∀ {vs : List V} {ds : List PyData} {i : Nat} {v : V}, RpA K P vs ds → vs[i]? = some v → ∃ d, ds[i]? = some d ∧ Rp K P v d
  | _, _, _, _, .nil, e => by simp at e
  | _, _, 0, _, .cons h _, e => by simp at e; subst e; exact ⟨_, rfl, h⟩
  | _, _, i + 1, _, .cons _ t, e => by
    obtain ⟨d, h1, h2⟩ := RpA.get (i := i) t (by simpa using e)
    exact ⟨d, by simpa using h1, h2⟩
theorem RpA.getD {K : PySem.W.Frag} {P : Hp} : ∀ {vs : List V} {ds : List PyData} {i : Nat} {d : PyData}, RpA K P vs ds → ds[i]? = some d → ∃ v, vs[i]? = some v ∧ Rp K P v d
  | _, _, _, _, .nil, e => by simp at e
  | _, _, 0, _, .cons h _, e => by simp at e; subst e; exact ⟨_, rfl, h⟩
  | _, _, i + 1, _, .cons _ t, e => by
    obtain ⟨d, h1, h2⟩ := RpA.getD (i := i) t (by simpa using e)
    exact ⟨d, by simpa using h1, h2⟩
theorem RpA.take {K : PySem.W.Frag} {P : Hp} : ∀ {vs : List V} {ds : List PyData} (n : Nat), RpA K P vs ds → RpA K P (vs.take n) (ds.take n)
  | _, _, 0, _ => by simpa using RpA.nil
  | _, _, _ + 1, .nil => .nil
  | _, _, n + 1, .cons h t => .cons h (RpA.take n t)
theorem RpA.drop {K : PySem.W.Frag} {P : Hp} : ∀ {vs : List V} {ds : List PyData} (n : Nat), RpA K P vs ds → RpA K P (vs.drop n) (ds.drop n)
  | _, _, 0, h => by simpa using h
  | _, _, _ + 1, .nil => .nil
  | _, _, n + 1, .cons _ t => RpA.drop n t
theorem RpA.reverse {K : PySem.W.Frag} {P : Hp} : ∀ {vs : List V} {ds : List PyData}, RpA K P vs ds → RpA K P vs.reverse ds.reverse
  | _, _, .nil => .nil
  | _, _, .cons h t => by
    rw [List.reverse_cons, List.reverse_cons]
    exact RpA.append (RpA.reverse t) (.cons h .nil)
theorem RpA.set {K : PySem.W.Frag} {P : Hp} {v : V} {d : PyData} (h : Rp K P v d) : ∀ {vs : List V} {ds : List PyData} (i : Nat), RpA K P vs ds → RpA K P (vs.set i v) (ds.set i d)
  | _, _, _, .nil => .nil
  | _, _, 0, .cons _ t => .cons h t
  | _, _, i + 1, .cons q t => .cons q (RpA.set h i t)

/-- an exception's class: of the module, or built in; its one field -/
inductive XC where
  | own (c : Str) | bt (n : String)
  deriving DecidableEq
structure Xn where
  cls : XC
  fld : Option (Str × PyData) := none
/-- the class that an exception of a mirror has; its dict -/
def clsOf (mg : Str → Option Value) (cls : Value) (d : Option Addr) (x : Xn) : Prop := (match x.cls with
  | .own c => ∃ C, mg c = some (.ref C) ∧ cls = .ref C
  | .bt n => cls = .type n) ∧ (x.fld = none → d = none)
/-- a caught exception that is kept -/
def ExcO (cls : Value) (d : Option Addr) (a : Addr) : HO := .ext fun h => ∃ (oe : Obj) (vs : Array Value), h.get? a = some oe ∧ Zc cls d oe ∧ oe.data = .fields vs
/-! ### owned trees: what a slot may hold -/
inductive OD where
  /-- frozen data -/
  | pur (d : PyData)
  /-- a list that nobody else knows -/
  | lst (xs : List OD)
  | dK (ks : List Key) (xs : List OD)
  | dT (ks : List (List Key)) (xs : List OD)
  /-- an instance of the module's class c -/
  | obj (c : Str) (ns : List Str) (xs : List OD)
  /-- a caught exception -/
  | exn (x : Xn)
  /-- what stands here is owned elsewhere: the object at a -/
  | ref (a : Addr)
  deriving Inhabited

mutual
inductive Ow (K : PySem.W.Frag) (mg : Str → Option Value) (P H : Hp) : List Addr → V → OD → Prop
  | pur {v : V} {d : PyData} (h : Rp K P v d) : Ow K mg P H [] v (.pur d)
  | lst {a : Addr} {F : List Addr} {vs : List V} {xs : List OD} (h : H a = some (.lst vs)) (t : OwL K mg P H F vs xs) : Ow K mg P H (a :: F) (.ref a) (.lst xs)
  | dK {a : Addr} {F : List Addr} {ks : List Key} {vs : List V} {xs : List OD} (h : H a = some (.dK (ks.zip vs))) (hl : ks.length = vs.length) (t : OwL K mg P H F vs xs) : Ow K mg P H (a :: F) (.ref a) (.dK ks xs)
  | dT {a : Addr} {F : List Addr} {ks : List (List Key)} {vs : List V} {xs : List OD} (h : H a = some (.dT (ks.zip vs))) (hl : ks.length = vs.length) (t : OwL K mg P H F vs xs) : Ow K mg P H (a :: F) (.ref a) (.dT ks xs)
  | obj {c : Str} {C a dx : Addr} {F : List Addr} {ns : List Str} {vs : List V} {xs : List OD} (hc : mg c = some (.ref C)) (h : H a = some (.ins C dx (ns.zip vs))) (hx : H dx = some (.own a)) (hl : ns.length = vs.length) (t : OwL K mg P H F vs xs) :
      Ow K mg P H (a :: dx :: F) (.ref a) (.obj c ns xs)
  | exn {a : Addr} {cls : Value} {d : Option Addr} {x : Xn} (hc : clsOf mg cls d x) (h : P a = some (ExcO cls d a)) (hf : ∀ f e, x.fld = some (f, e) → ∃ dd v, d = some dd ∧ P dd = some (.xd [(f, v)]) ∧ Rp K P v e) : Ow K mg P H [] (.ref a) (.exn x)
  | ref {a : Addr} : Ow K mg P H [] (.ref a) (.ref a)
inductive OwL (K : PySem.W.Frag) (mg : Str → Option Value) (P H : Hp) : List Addr → List V → List OD → Prop
  | nil : OwL K mg P H [] [] []
  | cons {F G : List Addr} {v : V} {vs : List V} {x : OD} {xs : List OD} (h : Ow K mg P H F v x) (t : OwL K mg P H G vs xs) : OwL K mg P H (F ++ G) (v :: vs) (x :: xs)
end

mutual
theorem Ow.keep {K : PySem.W.Frag} {mg : Str → Option Value} {P P' H H' : Hp} (s : Same P P') : ∀ {F : List Addr} {v : V} {x : OD}, Ow K mg P H F v x → (∀ a ∈ F, ∀ o, H a = some o → H' a = some o) → Ow K mg P' H' F v x
  | _, _, _, .pur h, _ => .pur (h.mono s)
  | _, _, _, .lst h t, k => .lst (k _ (by simp) _ h) (OwL.keep s t fun a ha => k a (by simp [ha]))
  | _, _, _, .dK h hl t, k => .dK (k _ (by simp) _ h) hl (OwL.keep s t fun a ha => k a (by simp [ha]))
  | _, _, _, .dT h hl t, k => .dT (k _ (by simp) _ h) hl (OwL.keep s t fun a ha => k a (by simp [ha]))
  | _, _, _, .obj hc h hx hl t, k => .obj hc (k _ (by simp) _ h) (k _ (by simp) _ hx) hl (OwL.keep s t fun a ha => k a (by simp [ha]))
  | _, _, _, .exn hc h hf, _ => .exn hc (s _ _ h) fun f e z => let ⟨dd, v, h1, h2, h3⟩ := hf f e z; ⟨dd, v, h1, s _ _ h2, h3.mono s⟩
  | _, _, _, .ref, _ => .ref
theorem OwL.keep {K : PySem.W.Frag} {mg : Str → Option Value} {P P' H H' : Hp} (s : Same P P') : ∀ {F : List Addr} {vs : List V} {xs : List OD}, OwL K mg P H F vs xs → (∀ a ∈ F, ∀ o, H a = some o → H' a = some o) → OwL K mg P' H' F vs xs
  | _, _, _, .nil, _ => .nil
  | _, _, _, .cons h t, k => .cons (Ow.keep s h fun a ha => k a (by simp [ha])) (OwL.keep s t fun a ha => k a (by simp [ha]))
end
mutual
theorem Ow.there {K : PySem.W.Frag} {mg : Str → Option Value} {P H : Hp} : ∀ {F : List Addr} {v : V} {x : OD}, Ow K mg P H F v x → ∀ a ∈ F, ∃ o, H a = some o
  | _, _, _, .pur _, _, q => nomatch q
  | _, _, _, .exn _ _ _, _, q => nomatch q
  | _, _, _, .ref, _, q => nomatch q
  | _, _, _, .lst h t, a, q => by
    rcases List.mem_cons.mp q with rfl | q
    · exact ⟨_, h⟩
    · exact OwL.there t a q
  | _, _, _, .dK h hl t, a, q => by
    rcases List.mem_cons.mp q with rfl | q
    · exact ⟨_, h⟩
    · exact OwL.there t a q
  | _, _, _, .dT h hl t, a, q => by
    rcases List.mem_cons.mp q with rfl | q
    · exact ⟨_, h⟩
    · exact OwL.there t a q
  | _, _, _, .obj _ h hx hl t, a, q => by
    rcases List.mem_cons.mp q with rfl | q
    · exact ⟨_, h⟩
    · rcases List.mem_cons.mp q with rfl | q
      · exact ⟨_, hx⟩
      · exact OwL.there t a q
theorem OwL.there {K : PySem.W.Frag} {mg : Str → Option Value} {P H : Hp} : ∀ {F : List Addr} {vs : List V} {xs : List OD}, OwL K mg P H F vs xs → ∀ a ∈ F, ∃ o, H a = some o
  | _, _, _, .nil, _, q => nomatch q
  | _, _, _, .cons h t, a, q => by
    rcases List.mem_append.mp q with q | q
    · exact Ow.there h a q
    · exact OwL.there t a q
end
mutual
theorem Ow.notup {K : PySem.W.Frag} {mg : Str → Option Value} {P H : Hp} : ∀ {F : List Addr} {v : V} {x : OD}, Ow K mg P H F v x → ∀ a ∈ F, ∀ xs, H a ≠ some (.tup xs)
  | _, _, _, .pur _, _, q => nomatch q
  | _, _, _, .exn _ _ _, _, q => nomatch q
  | _, _, _, .ref, _, q => nomatch q
  | _, _, _, .lst h t, a, q => by
    rcases List.mem_cons.mp q with rfl | q
    · intro xs e; rw [h] at e; cases e
    · exact OwL.notup t a q
  | _, _, _, .dK h hl t, a, q => by
    rcases List.mem_cons.mp q with rfl | q
    · intro xs e; rw [h] at e; cases e
    · exact OwL.notup t a q
  | _, _, _, .dT h hl t, a, q => by
    rcases List.mem_cons.mp q with rfl | q
    · intro xs e; rw [h] at e; cases e
    · exact OwL.notup t a q
  | _, _, _, .obj _ h hx hl t, a, q => by
    rcases List.mem_cons.mp q with rfl | q
    · intro xs e; rw [h] at e; cases e
    · rcases List.mem_cons.mp q with rfl | q
      · intro xs e; rw [hx] at e; cases e
      · exact OwL.notup t a q
theorem OwL.notup {K : PySem.W.Frag} {mg : Str → Option Value} {P H : Hp} : ∀ {F : List Addr} {vs : List V} {xs : List OD}, OwL K mg P H F vs xs → ∀ a ∈ F, ∀ xs, H a ≠ some (.tup xs)
  | _, _, _, .nil, _, q => nomatch q
  | _, _, _, .cons h t, a, q => by
    rcases List.mem_append.mp q with q | q
    · exact Ow.notup h a q
    · exact OwL.notup t a q
end
mutual
theorem Ow.noext {K : PySem.W.Frag} {mg : Str → Option Value} {P H : Hp} : ∀ {F : List Addr} {v : V} {x : OD}, Ow K mg P H F v x → ∀ a ∈ F, ∀ φ, H a ≠ some (.ext φ)
  | _, _, _, .pur _, _, q => nomatch q
  | _, _, _, .exn _ _ _, _, q => nomatch q
  | _, _, _, .ref, _, q => nomatch q
  | _, _, _, .lst h t, a, q => by
    rcases List.mem_cons.mp q with rfl | q
    · intro φ e; rw [h] at e; cases e
    · exact OwL.noext t a q
  | _, _, _, .dK h hl t, a, q => by
    rcases List.mem_cons.mp q with rfl | q
    · intro φ e; rw [h] at e; cases e
    · exact OwL.noext t a q
  | _, _, _, .dT h hl t, a, q => by
    rcases List.mem_cons.mp q with rfl | q
    · intro φ e; rw [h] at e; cases e
    · exact OwL.noext t a q
  | _, _, _, .obj _ h hx hl t, a, q => by
    rcases List.mem_cons.mp q with rfl | q
    · intro φ e; rw [h] at e; cases e
    · rcases List.mem_cons.mp q with rfl | q
      · intro φ e; rw [hx] at e; cases e
      · exact OwL.noext t a q
theorem OwL.noext {K : PySem.W.Frag} {mg : Str → Option Value} {P H : Hp} : ∀ {F : List Addr} {vs : List V} {xs : List OD}, OwL K mg P H F vs xs → ∀ a ∈ F, ∀ φ, H a ≠ some (.ext φ)
  | _, _, _, .nil, _, q => nomatch q
  | _, _, _, .cons h t, a, q => by
    rcases List.mem_append.mp q with q | q
    · exact Ow.noext h a q
    · exact OwL.noext t a q
end
theorem OwL.length {K : PySem.W.Frag} {mg : Str → Option Value} {P H : Hp} : ∀ {F : List Addr} {vs : List V} {xs : List OD}, OwL K mg P H F vs xs → vs.length = xs.length
  | _, _, _, .nil => rfl
  | _, _, _, .cons _ t => by simp [OwL.length t]

/-- the region P with what H has at G -/
def joinR (P H : Hp) (G : List Addr) : Hp := fun a => if a ∈ G then H a else P a
theorem joinR_in {P H : Hp} {G : List Addr} {a : Addr} (h : a ∈ G) : joinR P H G a = H a := by unfold joinR; rw [if_pos h]
theorem joinR_out {P H : Hp} {G : List Addr} {a : Addr} (h : a ∉ G) : joinR P H G a = P a := by unfold joinR; rw [if_neg h]
theorem joinR_same {P H : Hp} {G : List Addr} (ph : Same P H) : Same P (joinR P H G) := fun b o e => by
  by_cases h : b ∈ G
  · rw [joinR_in h]; exact ph b o e
  · rw [joinR_out h]; exact e
theorem joinR_sub {P H : Hp} {G : List Addr} (ph : Same P H) : Same (joinR P H G) H := fun b o e => by
  by_cases h : b ∈ G
  · rw [joinR_in h] at e; exact e
  · rw [joinR_out h] at e; exact ph b o e

mutual
/-- what an owned tree is as data, if no instance stands in it -/
def OD.data : OD → Option PyData
  | .pur d => some d
  | .lst xs => (OD.dataL xs).map .list
  | .dK ks xs => (OD.dataL xs).map fun ds => .dict ((ks.map keyD).zip ds)
  | .dT ks xs => if ks.isEmpty then none else (OD.dataL xs).map fun ds => .dict ((ks.map fun k => .tuple (k.map keyD)).zip ds)
  | .obj _ _ _ => none
  | .exn _ => none
  | .ref _ => none
def OD.dataL : List OD → Option (List PyData)
  | [] => some []
  | x :: xs => match OD.data x, OD.dataL xs with
    | some d, some ds => some (d :: ds)
    | _, _ => none
end

mutual
theorem Ow.frozen {K : PySem.W.Frag} {mg : Str → Option Value} {P H Q : Hp} (s : Same P Q) : ∀ {F : List Addr} {v : V} {x : OD} {d : PyData}, Ow K mg P H F v x → (∀ a ∈ F, ∀ o, H a = some o → Q a = some o) → x.data = some d → Rp K Q v d
  | _, _, _, _, .pur h, _, e => by
    simp only [OD.data, Option.some.injEq] at e
    subst e
    exact h.mono s
  | _, _, .lst xs, _, .lst h t, k, e => by
    unfold OD.data at e
    cases q : OD.dataL xs with
    | none => rw [q] at e; cases e
    | some ds =>
      rw [q] at e
      cases e
      exact .lst (.inl (k _ (by simp) _ h)) (OwL.frozen s t (fun a ha => k a (by simp [ha])) q)
  | _, _, .dK ks xs, _, .dK h hl t, k, e => by
    unfold OD.data at e
    cases q : OD.dataL xs with
    | none => rw [q] at e; cases e
    | some ds =>
      rw [q] at e
      cases e
      exact .dK (.inl (k _ (by simp) _ h)) hl (OwL.frozen s t (fun a ha => k a (by simp [ha])) q)
  | _, _, .dT ks xs, _, .dT h hl t, k, e => by
    unfold OD.data at e
    split at e
    · cases e
    rename_i hne
    cases q : OD.dataL xs with
    | none => rw [q] at e; cases e
    | some ds =>
      rw [q] at e
      cases e
      exact .dT (.inl (k _ (by simp) _ h)) hl (fun z => hne (by rw [z]; rfl)) (OwL.frozen s t (fun a ha => k a (by simp [ha])) q)
  | _, _, _, _, .obj _ _ _ _ _, _, e => by
    simp only [OD.data] at e
    cases e
  | _, _, _, _, .exn _ _ _, _, e => by
    simp only [OD.data] at e
    cases e
  | _, _, _, _, .ref, _, e => by
    simp only [OD.data] at e
    cases e
theorem OwL.frozen {K : PySem.W.Frag} {mg : Str → Option Value} {P H Q : Hp} (s : Same P Q) : ∀ {F : List Addr} {vs : List V} {xs : List OD} {ds : List PyData}, OwL K mg P H F vs xs → (∀ a ∈ F, ∀ o, H a = some o → Q a = some o) → OD.dataL xs = some ds → RpA K Q vs ds
  | _, _, _, _, .nil, _, e => by
    simp only [OD.dataL, Option.some.injEq] at e
    subst e
    exact .nil
  | _, _, x :: xs, _, .cons h t, k, e => by
    unfold OD.dataL at e
    cases q1 : OD.data x with
    | none => rw [q1] at e; cases e
    | some d =>
      cases q2 : OD.dataL xs with
      | none => rw [q1, q2] at e; cases e
      | some ds =>
        rw [q1, q2] at e
        cases e
        exact .cons (Ow.frozen s h (fun a ha => k a (by simp [ha])) q1) (OwL.frozen s t (fun a ha => k a (by simp [ha])) q2)
end

/-! ### mirrors -/
abbrev DEnv := List (Option OD)
inductive Rs (α : Type) where
  | ok (a : α) (e : DEnv)
  | ex (x : Xn) (e : DEnv)
  /-- not covered -/
  | no
abbrev M (α : Type) := DEnv → Rs α
def M.pure {α : Type} (a : α) : M α := fun e => .ok a e
def M.bind {α β : Type} (m : M α) (f : α → M β) : M β := fun e => match m e with
  | .ok a e' => f a e'
  | .ex x e' => .ex x e'
  | .no => .no
instance : Monad M where
  pure := M.pure
  bind := M.bind
def M.fail {α : Type} : M α := fun _ => .no
def M.opt {α : Type} (o : Option α) : M α := match o with
  | some a => M.pure a
  | none => M.fail
/-- how a statement ends -/
inductive Flw where
  | nx | bk | ct | rt (x : OD)

/-! ### the tables of code objects that lambdas are noted in -/
/-- a code object's table, and the name of its lambdas -/
def tabOf (o : Obj) : Option (Addr × Str) := if o.cls = .type "code" then (match o.data with
  | .fields vs => (match vs[1]?, vs[11]? with
    | some (Value.str q _), some (Value.ref p) => some (p, q ++ ".<locals>." ++ "<lambda>")
    | _, _ => none)
  | _ => none) else none
def tabsOf (K : PySem.W.Frag) : List (Addr × Str) := K.filterMap fun p => tabOf p.2
def TbA (K : PySem.W.Frag) : List Addr := (tabsOf K).map Prod.fst
/-- H has what R has, but at the tables -/
def SameX (K : PySem.W.Frag) (R H : Hp) : Prop := ∀ a o, R a = some o → a ∉ TbA K → H a = some o
theorem SameX.trans {K : PySem.W.Frag} {R H H' : Hp} (a : SameX K R H) (b : Same H H') : SameX K R H' := fun c o h n => b _ _ (a c o h n)
theorem SameX.of {K : PySem.W.Frag} {R H : Hp} (a : Same R H) : SameX K R H := fun c o h _ => a c o h
theorem Same.transX {K : PySem.W.Frag} {R R' H : Hp} (a : Same R R') (b : SameX K R' H) : SameX K R H := fun c o h n => b c o (a c o h) n
/-! ### the state of a body -/
/-- bv i: the object handed in by reference as the i-th argument (i in B). R: what belongs to those who called, kept as it is; P: frozen data; Fs i: what the slot i owns -/
structure Sta (K : PySem.W.Frag) (mg : Str → Option Value) (B : List Nat) (bv : Nat → V) (R P H : Hp) (Fs : Nat → List Addr) (σ : L2.St) (env : DEnv) : Prop where
  rh : SameX K R H
  tb : ∀ p ∈ tabsOf K, LamX.TabS H p.1 p.2 ∧ R p.1 ≠ none
  ph : Same P H
  rp : ∀ a, R a ≠ none → P a = none
  slot : ∀ (i : Nat) (x : OD), env[i]? = some (some x) → ∃ v, σ[i]? = some (some v) ∧ Ow K mg P H (Fs i) v x
  dead : ∀ i : Nat, (∀ x, env[i]? ≠ some (some x)) → Fs i = []
  nd : ∀ i, (Fs i).Nodup
  dj : ∀ i j a, i ≠ j → a ∈ Fs i → a ∉ Fs j
  fr : ∀ i a, a ∈ Fs i → R a = none
  fp : ∀ i a, a ∈ Fs i → P a = none
  len : σ.length = env.length
  pin : ∀ i ∈ B, σ[i]? = some (some (bv i))
  nt : ∀ a xs, R a ≠ some (.tup xs)

/-- the heap has grown by new things, some of them frozen -/
structure Ext (P H P' H' : Hp) : Prop where
  hh : Same H H'
  pp : Same P P'
  ph : Same P' H'
  new : ∀ a, P' a ≠ none → P a ≠ none ∨ H a = none ∨ ∃ xs, H a = some (.tup xs)

section
variable {K : PySem.W.Frag} {mg : Str → Option Value} {B : List Nat} {bv : Nat → V} {R P H P' H' P2 H2 : Hp} {Fs : Nat → List Addr} {σ : L2.St} {env : DEnv}
theorem Ext.refl (ph : Same P H) : Ext P H P H := ⟨Same.refl _, Same.refl _, ph, fun _ h => .inl h⟩
theorem Ext.trans (a : Ext P H P' H') (b : Ext P' H' P2 H2) : Ext P H P2 H2 := ⟨a.hh.trans b.hh, a.pp.trans b.pp, b.ph, fun c h => by
  rcases b.new c h with h | h
  · exact a.new c h
  · rcases h with h | ⟨xs, h⟩
    · exact .inr (.inl (a.hh.free h))
    · cases q : H c with
      | none => exact .inr (.inl rfl)
      | some o =>
        have := a.hh _ _ q
        rw [h] at this
        cases this
        exact .inr (.inr ⟨_, rfl⟩)⟩
theorem Sta.nota (S : Sta K mg B bv R P H Fs σ env) {a : Addr} (h : R a = none) : a ∉ TbA K := fun z => by
  obtain ⟨p, hp, rfl⟩ := List.mem_map.mp z
  exact (S.tb p hp).2 h
theorem Sta.tbl (S : Sta K mg B bv R P H Fs σ env) {a : Addr} (h : a ∈ TbA K) : ∃ ps, H a = some (.tbl ps) := by
  obtain ⟨p, hp, rfl⟩ := List.mem_map.mp h
  obtain ⟨ps, e, _⟩ := (S.tb p hp).1
  exact ⟨ps, e⟩
theorem Sta.free (S : Sta K mg B bv R P H Fs σ env) {a : Addr} (h : H a = none) : R a = none := by
  cases q : R a with
  | none => rfl
  | some o =>
    by_cases z : a ∈ TbA K
    · obtain ⟨ps, e⟩ := S.tbl z
      rw [h] at e
      cases e
    · rw [S.rh a o q z] at h
      cases h
theorem Sta.ext (S : Sta K mg B bv R P H Fs σ env) (e : Ext P H P' H') : Sta K mg B bv R P' H' Fs σ env where
  rh := S.rh.trans e.hh
  tb := fun p hp => ⟨(S.tb p hp).1.ext e.hh, (S.tb p hp).2⟩
  ph := e.ph
  rp := fun a h => by
    cases q : P' a with
    | none => rfl
    | some o =>
      rcases e.new a (by rw [q]; simp) with z | z
      · exact absurd (S.rp a h) z
      · cases r : R a with
        | none => exact absurd r h
        | some u =>
          rcases z with z | ⟨xs, z⟩
          · rw [S.free z] at r; cases r
          · have := S.rh _ _ r fun y => by
              obtain ⟨ps, e⟩ := S.tbl y
              rw [z] at e
              cases e
            rw [z] at this; cases this
            exact absurd r (S.nt a xs)
  slot := fun i x h => by
    obtain ⟨v, h1, h2⟩ := S.slot i x h
    exact ⟨v, h1, h2.keep e.pp fun a _ o => e.hh a o⟩
  dead := S.dead
  nd := S.nd
  dj := S.dj
  fr := S.fr
  fp := fun i a h => by
    cases q : P' a with
    | none => rfl
    | some o =>
      rcases e.new a (by rw [q]; simp) with z | z
      · exact absurd (S.fp i a h) z
      · cases hx : env[i]? with
        | none => rw [S.dead i fun x z => by rw [hx] at z; cases z] at h; cases h
        | some ox =>
          cases ox with
          | none => rw [S.dead i fun x z => by rw [hx] at z; cases z] at h; cases h
          | some x =>
            obtain ⟨v, _, h2⟩ := S.slot i x hx
            obtain ⟨o, ho⟩ := h2.there a h
            rcases z with z | ⟨xs, z⟩
            · rw [z] at ho; cases ho
            · exact absurd z (h2.notup a h xs)
  len := S.len
  pin := S.pin
  nt := S.nt
theorem Sta.there (S : Sta K mg B bv R P H Fs σ env) {i : Nat} {a : Addr} (h : a ∈ Fs i) : ∃ o, H a = some o := by
  cases hx : env[i]? with
  | none => rw [S.dead i fun x z => by rw [hx] at z; cases z] at h; cases h
  | some ox =>
    cases ox with
    | none => rw [S.dead i fun x z => by rw [hx] at z; cases z] at h; cases h
    | some x =>
      obtain ⟨v, _, h2⟩ := S.slot i x hx
      exact h2.there a h
theorem Sta.notup (S : Sta K mg B bv R P H Fs σ env) {i : Nat} {a : Addr} (h : a ∈ Fs i) (xs : List V) : H a ≠ some (.tup xs) := by
  cases hx : env[i]? with
  | none => rw [S.dead i fun x z => by rw [hx] at z; cases z] at h; cases h
  | some ox =>
    cases ox with
    | none => rw [S.dead i fun x z => by rw [hx] at z; cases z] at h; cases h
    | some x =>
      obtain ⟨v, _, h2⟩ := S.slot i x hx
      exact h2.notup a h xs
theorem Sta.noext (S : Sta K mg B bv R P H Fs σ env) {i : Nat} {a : Addr} (h : a ∈ Fs i) (φ : Heap → Prop) : H a ≠ some (.ext φ) := by
  cases hx : env[i]? with
  | none => rw [S.dead i fun x z => by rw [hx] at z; cases z] at h; cases h
  | some ox =>
    cases ox with
    | none => rw [S.dead i fun x z => by rw [hx] at z; cases z] at h; cases h
    | some x =>
      obtain ⟨v, _, h2⟩ := S.slot i x hx
      exact h2.noext a h φ
/-- a new frozen object -/
theorem ext_new (ph : Same P H) {p : Addr} (o : HO) (hp : H p = none) : Ext P H (upd P p o) (upd H p o) where
  hh := fun b u e => by rw [upd_ne (ne_of_none e hp)]; exact e
  pp := fun b u e => by rw [upd_ne (ne_of_none (ph _ _ e) hp)]; exact e
  ph := fun b u e => by
    by_cases h : b = p
    · subst h; rw [upd_same] at e ⊢; exact e
    · rw [upd_ne h] at e ⊢; exact ph _ _ e
  new := fun a h => by
    by_cases q : a = p
    · subst q; exact .inr (.inl hp)
    · rw [upd_ne q] at h; exact .inl h
/-- a new object that is not frozen (yet) -/
theorem ext_heap (ph : Same P H) {p : Addr} (o : HO) (hp : H p = none) : Ext P H P (upd H p o) where
  hh := fun b u e => by rw [upd_ne (ne_of_none e hp)]; exact e
  pp := Same.refl _
  ph := fun b u e => by rw [upd_ne (ne_of_none (ph _ _ e) hp)]; exact ph _ _ e
  new := fun a h => .inl h
end
end DL

set_option maxHeartbeats 2000000
/-! DL2: the judgements over mirrors, and how they go together. -/
namespace DL
open PySem PySem.Spec PyProof.Rows L2

/-! ### the judgements -/
section
variable (K : PySem.W.Frag) (mg : Str → Option Value) (W : WX) (B : List Nat)
/-- the exception x of a mirror, as it lies -/
def XnIs (P H : Hp) (x : Xn) (cls : Value) (d : Option Addr) : Prop :=
  (match x.cls with
    | .own c => ∃ C, mg c = some (.ref C) ∧ cls = .ref C
    | .bt n => cls = .type n) ∧
  (match x.fld with
    | none => d = none
    | some (f, e) => ∃ a v, d = some a ∧ P a = some (.xd [(f, v)]) ∧ Rp K P v e)
def post {α : Type} (r : Rs α) (ok : α → DEnv → Prop) (ex : Xn → DEnv → Prop) : Prop := match r with
  | .ok a e => ok a e
  | .ex x e => ex x e
  | .no => False
variable (bv : Nat → V) (R P : Hp)
/-- what a temporary owns is nobody else's -/
structure Free (P : Hp) (Fs : Nat → List Addr) (G : List Addr) : Prop where
  nd : G.Nodup
  r : ∀ a ∈ G, R a = none
  p : ∀ a ∈ G, P a = none
  f : ∀ a ∈ G, ∀ i, a ∉ Fs i
def OkT {α : Type} (σ : L2.St) (Q : α → Hp → Prop) : α → DEnv → Prop := fun a env' => ∀ P' H' Fs', Sta K mg B bv R P' H' Fs' σ env' → Same P P' → Q a H'
def OkD (σ : L2.St) (Q : VK) : PyData → DEnv → Prop := fun d env' => ∀ v P' H' Fs', Sta K mg B bv R P' H' Fs' σ env' → Same P P' → Rp K P' v d → Q v H'
def OkL (σ : L2.St) (Q : List V → Hp → Prop) : List PyData → DEnv → Prop := fun ds env' => ∀ vs P' H' Fs', Sta K mg B bv R P' H' Fs' σ env' → Same P P' → RpA K P' vs ds → Q vs H'
def OkO (σ : L2.St) (Q : VK) : OD → DEnv → Prop := fun x env' => ∀ v P' H' Fs' G, Sta K mg B bv R P' H' Fs' σ env' → Same P P' → Ow K mg P' H' G v x → Free R P' Fs' G → Q v H'
def ExD (σ : L2.St) : Xn → DEnv → Prop := fun x env' => ∀ cls dx P' H' Fs', Sta K mg B bv R P' H' Fs' σ env' → Same P P' → XnIs K mg P' H' x cls dx → W cls dx σ H'
end
section
variable (K : PySem.W.Frag) (mg : Str → Option Value) (W : WX) (B : List Nat)
def tD (m : M PyData) : TE := fun σ H Q => ∃ bv R P Fs env, Sta K mg B bv R P H Fs σ env ∧ post (m env) (OkD K mg B bv R P σ Q) (ExD K mg W B bv R P σ)
def tO (m : M OD) : TE := fun σ H Q => ∃ bv R P Fs env, Sta K mg B bv R P H Fs σ env ∧ post (m env) (OkO K mg B bv R P σ Q) (ExD K mg W B bv R P σ)
def tL (m : M (List PyData)) : TA := fun σ H Q => ∃ bv R P Fs env, Sta K mg B bv R P H Fs σ env ∧ post (m env) (OkL K mg B bv R P σ Q) (ExD K mg W B bv R P σ)
def tT (m : M Bool) : TT := fun σ H Q => ∃ bv R P Fs env, Sta K mg B bv R P H Fs σ env ∧ post (m env) (OkT K mg B bv R P σ Q) (ExD K mg W B bv R P σ)
/-- a statement: the slots may be stored -/
def OkS (bv : Nat → V) (R P : Hp) (D : Ends) : Flw → DEnv → Prop := fun f env' => match f with
  | .nx => ∀ σ' P' H' Fs', Sta K mg B bv R P' H' Fs' σ' env' → Same P P' → D.nx σ' H'
  | .bk => ∀ σ' P' H' Fs', Sta K mg B bv R P' H' Fs' σ' env' → Same P P' → D.bk σ' H'
  | .ct => ∀ σ' P' H' Fs', Sta K mg B bv R P' H' Fs' σ' env' → Same P P' → D.ct σ' H'
  | .rt x => ∀ v σ' P' H' Fs' G, Sta K mg B bv R P' H' Fs' σ' env' → Same P P' → Ow K mg P' H' G v x → Free R P' Fs' G → D.rt v H'
def ExS (bv : Nat → V) (R P : Hp) : Xn → DEnv → Prop := fun x env' => ∀ cls dx σ' P' H' Fs', Sta K mg B bv R P' H' Fs' σ' env' → Same P P' → XnIs K mg P' H' x cls dx → W cls dx σ' H'
def tS (m : M Flw) : TS := fun D σ H => ∃ bv R P Fs env, Sta K mg B bv R P H Fs σ env ∧ post (m env) (OkS K mg B bv R P D) (ExS K mg W B bv R P)
end

/-- an expression whose value is frozen data; an owned tree; arguments; a test; a statement; a block -/
abbrev ED (X : Cx) (W : WX) (B : List Nat) (e : Expr) (m : M PyData) : Prop := PE X e (tD X.K X.mg W B m)
abbrev EO (X : Cx) (W : WX) (B : List Nat) (e : Expr) (m : M OD) : Prop := PE X e (tO X.K X.mg W B m)
abbrev AD (X : Cx) (W : WX) (B : List Nat) (es : List Expr) (m : M (List PyData)) : Prop := PA X es (tL X.K X.mg W B m)
abbrev TD (X : Cx) (W : WX) (B : List Nat) (e : Expr) (m : M Bool) : Prop := PT X e (tT X.K X.mg W B m)
abbrev SD (X : Cx) (W : WX) (B : List Nat) (s : Stmt) (m : M Flw) : Prop := PS X s (tS X.K X.mg W B m)
abbrev SDs (X : Cx) (W : WX) (B : List Nat) (ss : List Stmt) (m : M Flw) : Prop := PSs X ss (tS X.K X.mg W B m)

theorem PE_mono {X : Cx} {e : Expr} {t t' : TE} (h : PE X e t) (i : ∀ σ H Q, t' σ H Q → t σ H Q) : PE X e t' := ⟨fun pins s σ H Q I q => h.run pins s σ H Q I (i σ H Q q)⟩
theorem PT_mono {X : Cx} {e : Expr} {t t' : TT} (h : PT X e t) (i : ∀ σ H Q, t' σ H Q → t σ H Q) : PT X e t' := ⟨fun pins s σ H Q I q => h.run pins s σ H Q I (i σ H Q q)⟩
theorem PW_mono {X : Cx} {e : Expr} {t t' : TT} (h : PW X e t) (i : ∀ σ H Q, t' σ H Q → t σ H Q) : PW X e t' := ⟨fun wh pins s σ H Q I q => h.run wh pins s σ H Q I (i σ H Q q)⟩
theorem PA_mono {X : Cx} {es : List Expr} {t t' : TA} (h : PA X es t) (i : ∀ σ H Q, t' σ H Q → t σ H Q) : PA X es t' := ⟨fun pos pins s σ H Q I q => h.run pos pins s σ H Q I (i σ H Q q)⟩
theorem PS_mono {X : Cx} {st : Stmt} {t t' : TS} (h : PS X st t) (i : ∀ D σ H, t' D σ H → t D σ H) : PS X st t' := ⟨fun pins s σ H D I q => h.run pins s σ H D I (i D σ H q)⟩
theorem PSs_mono {X : Cx} {st : List Stmt} {t t' : TS} (h : PSs X st t) (i : ∀ D σ H, t' D σ H → t D σ H) : PSs X st t' := ⟨fun pins s σ H D I q => h.run pins s σ H D I (i D σ H q)⟩

section
variable {K : PySem.W.Frag} {mg : Str → Option Value} {W : WX} {B : List Nat} {bv : Nat → V} {R P P0 H P' H' : Hp} {Fs Fs' : Nat → List Addr} {σ : L2.St} {env : DEnv}

theorem ExD.mono {x : Xn} {e : DEnv} (s : Same P0 P) (h : ExD K mg W B bv R P0 σ x e) : ExD K mg W B bv R P σ x e := fun cls dx P' H' Fs' S s' q => h cls dx P' H' Fs' S (s.trans s') q
theorem ExS.mono {x : Xn} {e : DEnv} (s : Same P0 P) (h : ExS K mg W B bv R P0 x e) : ExS K mg W B bv R P x e := fun cls dx σ' P' H' Fs' S s' q => h cls dx σ' P' H' Fs' S (s.trans s') q
theorem ExS.d {x : Xn} {e : DEnv} (h : ExS K mg W B bv R P x e) : ExD K mg W B bv R P σ x e := fun cls dx P' H' Fs' S s' q => h cls dx σ P' H' Fs' S s' q

/-- a part runs first; what comes behind it goes on -/
theorem bindD {α β : Type} {m : M α} {f : α → M β} {okα : α → DEnv → Prop} {okβ : β → DEnv → Prop} {ex : Xn → DEnv → Prop} {ex2 : Xn → DEnv → Prop} (h : post (M.bind m f env) okβ ex) (k : ∀ a e, post (f a e) okβ ex → okα a e) (kx : ∀ x e, ex x e → ex2 x e) : post (m env) okα ex2 := by
  unfold M.bind at h
  cases q : m env with
  | ok a e => rw [q] at h; exact k a e h
  | ex x e => rw [q] at h; exact kx x e h
  | no => rw [q] at h; exact h.elim

theorem tD_bind {β : Type} {m : M PyData} {f : PyData → M β} {okβ : β → DEnv → Prop} {Q : VK} (s0 : Same P0 P) (S : Sta K mg B bv R P H Fs σ env) (h : post (M.bind m f env) okβ (ExD K mg W B bv R P0 σ))
    (k : ∀ d env1 v P1 H1 Fs1, Sta K mg B bv R P1 H1 Fs1 σ env1 → Same P P1 → Rp K P1 v d → post (f d env1) okβ (ExD K mg W B bv R P0 σ) → Q v H1) : tD K mg W B m σ H Q :=
  ⟨bv, R, P, Fs, env, S, bindD h (fun d e q v P1 H1 Fs1 S1 s1 r1 => k d e v P1 H1 Fs1 S1 s1 r1 q) fun _ _ q => q.mono s0⟩
theorem tL_bind {β : Type} {m : M (List PyData)} {f : List PyData → M β} {okβ : β → DEnv → Prop} {Q : List V → Hp → Prop} (s0 : Same P0 P) (S : Sta K mg B bv R P H Fs σ env) (h : post (M.bind m f env) okβ (ExD K mg W B bv R P0 σ))
    (k : ∀ d env1 v P1 H1 Fs1, Sta K mg B bv R P1 H1 Fs1 σ env1 → Same P P1 → RpA K P1 v d → post (f d env1) okβ (ExD K mg W B bv R P0 σ) → Q v H1) : tL K mg W B m σ H Q :=
  ⟨bv, R, P, Fs, env, S, bindD h (fun d e q v P1 H1 Fs1 S1 s1 r1 => k d e v P1 H1 Fs1 S1 s1 r1 q) fun _ _ q => q.mono s0⟩
theorem tT_bind {β : Type} {m : M Bool} {f : Bool → M β} {okβ : β → DEnv → Prop} {Q : Bool → Hp → Prop} (s0 : Same P0 P) (S : Sta K mg B bv R P H Fs σ env) (h : post (M.bind m f env) okβ (ExD K mg W B bv R P0 σ))
    (k : ∀ d env1 P1 H1 Fs1, Sta K mg B bv R P1 H1 Fs1 σ env1 → Same P P1 → post (f d env1) okβ (ExD K mg W B bv R P0 σ) → Q d H1) : tT K mg W B m σ H Q :=
  ⟨bv, R, P, Fs, env, S, bindD h (fun d e q P1 H1 Fs1 S1 s1 => k d e P1 H1 Fs1 S1 s1 q) fun _ _ q => q.mono s0⟩
theorem tO_bind {β : Type} {m : M OD} {f : OD → M β} {okβ : β → DEnv → Prop} {Q : VK} (s0 : Same P0 P) (S : Sta K mg B bv R P H Fs σ env) (h : post (M.bind m f env) okβ (ExD K mg W B bv R P0 σ))
    (k : ∀ x env1 v P1 H1 Fs1 G, Sta K mg B bv R P1 H1 Fs1 σ env1 → Same P P1 → Ow K mg P1 H1 G v x → Free R P1 Fs1 G → post (f x env1) okβ (ExD K mg W B bv R P0 σ) → Q v H1) : tO K mg W B m σ H Q :=
  ⟨bv, R, P, Fs, env, S, bindD h (fun d e q v P1 H1 Fs1 G S1 s1 r1 f1 => k d e v P1 H1 Fs1 G S1 s1 r1 f1 q) fun _ _ q => q.mono s0⟩

theorem Sta.dh (S : Sta K mg B bv R P H Fs σ env) {p : Addr} (hp : H p = none) : R p = none ∧ P p = none ∧ ∀ i, p ∉ Fs i := by
  refine ⟨S.free hp, S.ph.free hp, fun i h => ?_⟩
  obtain ⟨o, e⟩ := S.there h
  rw [hp] at e; cases e
/-- what a temporary owns is frozen -/
theorem Sta.freeze {G : List Addr} (S : Sta K mg B bv R P H Fs σ env) (f : Free R P Fs G) : Sta K mg B bv R (joinR P H G) H Fs σ env where
  rh := S.rh
  tb := S.tb
  ph := joinR_sub S.ph
  rp := fun a h => by
    by_cases q : a ∈ G
    · exact absurd (f.r a q) h
    · rw [joinR_out q]; exact S.rp a h
  slot := fun i x h => by
    obtain ⟨v, h1, h2⟩ := S.slot i x h
    exact ⟨v, h1, h2.keep (joinR_same S.ph) fun _ _ _ e => e⟩
  dead := S.dead
  nd := S.nd
  dj := S.dj
  fr := S.fr
  fp := fun i a h => by
    by_cases q : a ∈ G
    · exact absurd h (f.f a q i)
    · rw [joinR_out q]; exact S.fp i a h
  len := S.len
  pin := S.pin
  nt := S.nt
theorem Ow.toRp {G : List Addr} {v : V} {x : OD} {d : PyData} (ph : Same P H) (o : Ow K mg P H G v x) (e : x.data = some d) : Rp K (joinR P H G) v d := o.frozen (joinR_same ph) (fun a ha o e => by rw [joinR_in ha]; exact e) e
theorem Free.nil : Free R P Fs [] := ⟨.nil, fun _ h => (nomatch h), fun _ h => (nomatch h), fun _ h => (nomatch h)⟩
/-- a new object of a temporary's own -/
theorem Free.one {p : Addr} (S : Sta K mg B bv R P H Fs σ env) (hp : H p = none) : Free R P Fs [p] := by
  obtain ⟨h1, h2, h3⟩ := S.dh hp
  refine ⟨by simp, fun a h => ?_, fun a h => ?_, fun a h => ?_⟩ <;> (simp at h; subst h)
  · exact h1
  · exact h2
  · exact h3
/-- a slot is stored -/
theorem Sta.store {G : List Addr} {v : V} {x : OD} {i : Nat} (S : Sta K mg B bv R P H Fs σ env) (o : Ow K mg P H G v x) (f : Free R P Fs G) (hB : i ∉ B) (hi : i < env.length) :
    Sta K mg B bv R P H (fun j => if j = i then G else Fs j) (σ.set i (some v)) (env.set i (some x)) where
  rh := S.rh
  tb := S.tb
  ph := S.ph
  rp := S.rp
  slot := fun j y h => by
    by_cases q : j = i
    · subst q
      rw [List.getElem?_set_self hi] at h
      cases h
      refine ⟨v, by rw [List.getElem?_set_self (by rw [S.len]; exact hi)], ?_⟩
      simp only [if_true]
      exact o
    · rw [List.getElem?_set_ne (Ne.symm q)] at h
      obtain ⟨w, h1, h2⟩ := S.slot j y h
      refine ⟨w, by rw [List.getElem?_set_ne (Ne.symm q)]; exact h1, ?_⟩
      simp only [q, if_false]
      exact h2
  dead := fun j h => by
    by_cases q : j = i
    · subst q
      exact absurd (List.getElem?_set_self hi) (h x)
    · simp only [q, if_false]
      exact S.dead j fun y z => h y (by rw [List.getElem?_set_ne (Ne.symm q)]; exact z)
  nd := fun j => by
    by_cases q : j = i
    · simp only [q, if_true]; exact f.nd
    · simp only [q, if_false]; exact S.nd j
  dj := fun j k a hjk h => by
    by_cases q : j = i
    · have qk : k ≠ i := fun z => hjk (q.trans z.symm)
      simp only [q, if_true] at h
      simp only [qk, if_false]
      exact f.f a h k
    · simp only [q, if_false] at h
      by_cases qk : k = i
      · simp only [qk, if_true]
        exact fun z => f.f a z j h
      · simp only [qk, if_false]
        exact S.dj j k a hjk h
  fr := fun j a h => by
    by_cases q : j = i
    · simp only [q, if_true] at h; exact f.r a h
    · simp only [q, if_false] at h; exact S.fr j a h
  fp := fun j a h => by
    by_cases q : j = i
    · simp only [q, if_true] at h; exact f.p a h
    · simp only [q, if_false] at h; exact S.fp j a h
  len := by rw [List.length_set, List.length_set, S.len]
  pin := fun j hj => by
    have q : i ≠ j := fun z => hB (z ▸ hj)
    rw [List.getElem?_set_ne q]
    exact S.pin j hj
  nt := S.nt
/-- a slot's tree is taken out (its value stays known to nobody) -/
theorem Sta.take {x : OD} {i : Nat} (S : Sta K mg B bv R P H Fs σ env) (hx : env[i]? = some (some x)) : ∃ v, σ[i]? = some (some v) ∧ Ow K mg P H (Fs i) v x ∧ Free R P (fun j => if j = i then [] else Fs j) (Fs i) ∧
    Sta K mg B bv R P H (fun j => if j = i then [] else Fs j) σ (env.set i none) := by
  have hi : i < env.length := (List.getElem?_eq_some_iff.mp hx).1
  obtain ⟨v, h1, h2⟩ := S.slot i x hx
  refine ⟨v, h1, h2, ⟨S.nd i, fun a h => S.fr i a h, fun a h => S.fp i a h, fun a h j => ?_⟩, ?_⟩
  · by_cases q : j = i
    · simp [q]
    · simp only [q, if_false]
      exact S.dj i j a (Ne.symm q) h
  · refine ⟨S.rh, S.tb, S.ph, S.rp, fun j y h => ?_, fun j h => ?_, fun j => ?_, fun j k a hjk h => ?_, fun j a h => ?_, fun j a h => ?_, by rw [List.length_set, S.len], S.pin, S.nt⟩
    · by_cases q : j = i
      · subst q
        rw [List.getElem?_set_self hi] at h
        cases h
      · rw [List.getElem?_set_ne (Ne.symm q)] at h
        simp only [q, if_false]
        exact S.slot j y h
    · by_cases q : j = i
      · simp only [q, if_true]
      · simp only [q, if_false]
        exact S.dead j fun y z => h y (by rw [List.getElem?_set_ne (Ne.symm q)]; exact z)
    · by_cases q : j = i
      · simp only [q, if_true]; exact .nil
      · simp only [q, if_false]; exact S.nd j
    · by_cases q : j = i
      · simp only [q, if_true] at h; cases h
      · simp only [q, if_false] at h
        by_cases qk : k = i
        · simp only [qk, if_true]; simp
        · simp only [qk, if_false]; exact S.dj j k a hjk h
    · by_cases q : j = i
      · simp only [q, if_true] at h; cases h
      · simp only [q, if_false] at h; exact S.fr j a h
    · by_cases q : j = i
      · simp only [q, if_true] at h; cases h
      · simp only [q, if_false] at h; exact S.fp j a h
/-- a tree is put where its value stands -/
theorem Sta.put {x : OD} {i : Nat} {v : V} {G : List Addr} (S : Sta K mg B bv R P H Fs σ env) (hv : σ[i]? = some (some v)) (o : Ow K mg P H G v x) (f : Free R P Fs G) :
    Sta K mg B bv R P H (fun j => if j = i then G else Fs j) σ (env.set i (some x)) := by
  have hi : i < env.length := by rw [← S.len]; exact (List.getElem?_eq_some_iff.mp hv).1
  refine ⟨S.rh, S.tb, S.ph, S.rp, fun j y h => ?_, fun j h => ?_, fun j => ?_, fun j k a hjk h => ?_, fun j a h => ?_, fun j a h => ?_, by rw [List.length_set, S.len], S.pin, S.nt⟩
  · by_cases q : j = i
    · subst q
      rw [List.getElem?_set_self hi] at h
      cases h
      refine ⟨v, hv, ?_⟩
      simp only [if_true]
      exact o
    · rw [List.getElem?_set_ne (Ne.symm q)] at h
      simp only [q, if_false]
      exact S.slot j y h
  · by_cases q : j = i
    · subst q
      exact absurd (List.getElem?_set_self hi) (h x)
    · simp only [q, if_false]
      exact S.dead j fun y z => h y (by rw [List.getElem?_set_ne (Ne.symm q)]; exact z)
  · by_cases q : j = i
    · simp only [q, if_true]; exact f.nd
    · simp only [q, if_false]; exact S.nd j
  · by_cases q : j = i
    · have qk : k ≠ i := fun z => hjk (q.trans z.symm)
      simp only [q, if_true] at h
      simp only [qk, if_false]
      exact f.f a h k
    · simp only [q, if_false] at h
      by_cases qk : k = i
      · simp only [qk, if_true]
        exact fun z => f.f a z j h
      · simp only [qk, if_false]
        exact S.dj j k a hjk h
  · by_cases q : j = i
    · simp only [q, if_true] at h; exact f.r a h
    · simp only [q, if_false] at h; exact S.fr j a h
  · by_cases q : j = i
    · simp only [q, if_true] at h; exact f.p a h
    · simp only [q, if_false] at h; exact S.fp j a h
theorem Free.to {P' : Hp} {G : List Addr} (f : Free R P Fs G) (h : ∀ a, P' a ≠ none → P a ≠ none ∨ a ∉ G) : Free R P' Fs G := ⟨f.nd, f.r, fun a ha => by
  cases q : P' a with
  | none => rfl
  | some o =>
    rcases h a (by rw [q]; simp) with z | z
    · exact absurd (f.p a ha) z
    · exact absurd ha z, f.f⟩
end

/-! ### own and frozen -/
/-- what is owned is frozen -/
def M.frz (m : M OD) : M PyData := M.bind m fun x => M.opt x.data
section
variable {X : Cx} {W : WX} {B : List Nat} {e : Expr}
theorem ed_frz {m : M OD} (h : EO X W B e m) : ED X W B e (M.frz m) := PE_mono h fun σ H Q ⟨bv, R, P, Fs, env, S, q⟩ =>
  tO_bind (Same.refl _) S q fun x env1 v P1 H1 Fs1 G S1 s1 o1 f1 q1 => by
    cases e : x.data with
    | none => rw [e] at q1; exact q1.elim
    | some d =>
      rw [e] at q1
      exact q1 v _ H1 Fs1 (S1.freeze f1) (s1.trans (joinR_same S1.ph)) (o1.toRp S1.ph e)
def M.own (m : M PyData) : M OD := M.bind m fun d => M.pure (.pur d)
theorem eo_of {m : M PyData} (h : ED X W B e m) : EO X W B e (M.own m) := PE_mono h fun σ H Q ⟨bv, R, P, Fs, env, S, q⟩ =>
  tD_bind (Same.refl _) S q fun d env1 v P1 H1 Fs1 S1 s1 r1 q1 => q1 v P1 H1 Fs1 [] S1 s1 (.pur r1) Free.nil
end
end DL

set_option maxHeartbeats 2000000
/-! DL3: frozen data is read off the heap; operators; names and constants. -/
namespace DL
open PySem PySem.Spec PyProof.Rows L2

/-! ### data is read off the heap -/
theorem reads_key {h : Heap} {k : Key} {u : Value} (e : keyIs k u = true) : Reads h u (keyD k) [] := by
  rcases keyIs_shape e with ⟨i, t, rfl, rfl⟩ | ⟨x, t, rfl, rfl⟩
  · exact .int i t
  · exact .str x t
theorem reads_rel {h : Heap} {k : Key} {u : Value} (e : RelV (kV k) u) : Reads h u (keyD k) [] := by
  cases k with
  | inl i => obtain ⟨t, rfl⟩ := e; exact .int i t
  | inr x => obtain ⟨t, rfl⟩ := e; exact .str x t
theorem reads_keys {P : Program} {w : World} {h : Heap} : ∀ {es : List DictEntry} {kvs : List (Key × Value)}, Pairs (mixKind P w) es kvs → ReadsAll h (es.map (·.key)) (kvs.map fun p => keyD p.1) [] ∧ es.map (·.val) = kvs.map (·.2)
  | _, _, .nil => ⟨.nil, rfl⟩
  | _, _, .cons h1 h2 t => by
    obtain ⟨q1, q2⟩ := reads_keys t
    refine ⟨?_, by simp [h2, q2]⟩
    exact .cons (as := []) (bs := []) (reads_key h1) q1
theorem reads_vals {h : Heap} : ∀ {ks : List Key} {us : List Value}, Vals (ks.map kV) us → ReadsAll h us (ks.map keyD) []
  | [], _, .nil => .nil
  | _ :: _, _, .cons r t => .cons (as := []) (bs := []) (reads_rel r) (reads_vals t)
theorem kv_zip {κ : Type} : ∀ {ks : List κ} {xs : List V} {vs : List (κ × Value)}, ks.length = xs.length → KV (ks.zip xs) vs → vs.map (·.1) = ks ∧ Vals xs (vs.map (·.2))
  | [], [], _, _, .nil => ⟨rfl, .nil⟩
  | _ :: _, _ :: _, _, hl, .cons r t => by
    obtain ⟨q1, q2⟩ := kv_zip (by simpa using hl) t
    have e : _ = _ ∧ RelV _ _ := r
    exact ⟨by simp [q1, e.1.symm], .cons e.2 q2⟩
theorem kt_zip {H : Hp} {h : Heap} (ok : ∀ b xs, H b = some (.tup xs) → ∃ its, Vals xs its ∧ IsTup h b its.toArray) : ∀ {ks : List (List Key)} {xs : List V} {vs : List (List Key × Addr × Value)}, ks.length = xs.length → KT H (ks.zip xs) vs →
    (∃ as, ReadsAll h (vs.map fun p => Value.ref p.2.1) (ks.map fun k => .tuple (k.map keyD)) as ∧ as = []) ∧ Vals xs (vs.map (·.2.2))
  | [], [], _, _, .nil => ⟨⟨[], .nil, rfl⟩, .nil⟩
  | k :: _, _ :: _, _, hl, .cons (b := q) r t => by
    obtain ⟨⟨as, q1, e1⟩, q2⟩ := kt_zip ok (by simpa using hl) t
    obtain ⟨r1, r2, r3⟩ : _ = _ ∧ H q.2.1 = some (.tup (_)) ∧ RelV _ _ := r
    obtain ⟨its, rv, o, ho, hc, n, hd⟩ := ok _ _ r2
    subst e1
    refine ⟨⟨[], .cons (as := []) (bs := []) (.tuple ho hc hd (reads_vals rv)) q1, rfl⟩, .cons r3 q2⟩

/-- what the text's frame knows: nothing is being shown, sys.modules stands -/
structure Gd (X : Cx) : Prop where
  guards : X.A.guards = some []
  sys : ∃ o, X.base.get? sysModules = some o

section
variable {X : Cx} {pins : List (Addr × Obj)} {σ : L2.St} {H P : Hp} {s : Shared}
theorem no_sys (g : Gd X) (I : Inv X pins σ H s) {a : Addr} {u : HO} (h : Rd H a u) : a ≠ sysModules := fun e => by
  obtain ⟨o, ho⟩ := g.sys
  have n := (I.bs _ _ ho).2
  rw [← e] at n
  rcases h with h | ⟨_, h⟩ <;> (rw [n] at h; cases h)
theorem tup_its (I : Inv X pins σ H s) : ∀ b xs, H b = some (.tup xs) → ∃ its, Vals xs its ∧ IsTup s.heap b its.toArray := fun b xs h => by
  obtain ⟨_, its, rv, p⟩ := I.hok b _ h
  exact ⟨its, rv, p⟩
theorem zip_fst {α β : Type} : ∀ {as : List α} {bs : List β}, as.length = bs.length → (as.zip bs).map (·.1) = as
  | [], [], _ => rfl
  | _ :: _, _ :: _, h => by simp [zip_fst (by simpa using h : _ = _)]
theorem zip_snd {α β : Type} : ∀ {as : List α} {bs : List β}, as.length = bs.length → (as.zip bs).map (·.2) = bs
  | [], [], _ => rfl
  | _ :: _, _ :: _, h => by simp [zip_snd (by simpa using h : _ = _)]
mutual
theorem Rp.reads (g : Gd X) (I : Inv X pins σ H s) (ph : Same P H) : ∀ {v : V} {d : PyData} (u : Value), Rp X.K P v d → RelV v u → ∃ as, Reads s.heap u d as ∧ sysModules ∉ as
  | _, _, _, .non, r => by cases r; exact ⟨_, .none, by simp⟩
  | _, _, _, .bl b, r => by cases r; exact ⟨_, .bool b, by simp⟩
  | _, _, _, .int i, r => by obtain ⟨t, rfl⟩ := r; exact ⟨_, .int i t, by simp⟩
  | _, _, _, .str x, r => by obtain ⟨t, rfl⟩ := r; exact ⟨_, .str x t, by simp⟩
  | _, _, _, .lst (a := a) h t, r => by
    cases r
    obtain ⟨_, its, n, rv, e⟩ := (rd_mono ph h).ok I.hok
    obtain ⟨as, q, nm⟩ := RpA.reads g I ph its t rv
    refine ⟨_, .list e rfl rfl q, fun m => ?_⟩
    rcases List.mem_cons.mp m with m | m
    · exact no_sys g I (rd_mono ph h) m.symm
    · exact nm m
  | _, _, _, .tup h t, r => by
    cases r
    obtain ⟨its, rv, ⟨o, ho, hc, n, hd⟩, _⟩ := I.tuple (seqT_mono ph h)
    obtain ⟨as, q, nm⟩ := RpA.reads g I ph its t rv
    exact ⟨_, .tuple ho hc hd q, nm⟩
  | _, _, _, .dK h hl t, r => by
    cases r
    obtain ⟨_, ns, vs, rk, o, es, ep, e, ex, d, _, pr, _⟩ := (rd_mono ph h).ok I.hok
    obtain ⟨k1, k2⟩ := kv_zip hl rk
    obtain ⟨q1, q2⟩ := reads_keys (h := s.heap) pr
    obtain ⟨as, q, nm⟩ := RpA.reads g I ph _ t k2
    have hlen := t.length
    refine ⟨_, .dict e ex.1 d (as := []) (bs := as) ?_ ?_, fun m => ?_⟩
    · rw [zip_fst (by rw [List.length_map]; omega), ← k1, List.map_map]
      exact q1
    · rw [zip_snd (by rw [List.length_map]; omega), q2]
      exact q
    · rcases List.mem_append.mp m with m | m
      · exact no_sys g I (rd_mono ph h) (by simpa using m : sysModules = _).symm
      · exact nm m
  | _, _, _, .dT h hl hne t, r => by
    cases r
    obtain ⟨_, ns, vs, rk, o, es, ep, e, ex, d, he, _⟩ := (rd_mono ph h).ok I.hok
    obtain ⟨⟨as1, q1, e1⟩, k2⟩ := kt_zip (h := s.heap) (tup_its I) hl rk
    subst e1
    obtain ⟨as, q, nm⟩ := RpA.reads g I ph _ t k2
    have hlen := t.length
    refine ⟨_, .dict e ex.1 d (as := []) (bs := as) ?_ ?_, fun m => ?_⟩
    · rw [zip_fst (by rw [List.length_map]; omega), he, List.map_map]
      exact q1
    · rw [zip_snd (by rw [List.length_map]; omega), he, List.map_map]
      exact q
    · rcases List.mem_append.mp m with m | m
      · exact no_sys g I (rd_mono ph h) (by simpa using m : sysModules = _).symm
      · exact nm m
theorem RpA.reads (g : Gd X) (I : Inv X pins σ H s) (ph : Same P H) : ∀ {vs : List V} {ds : List PyData} (us : List Value), RpA X.K P vs ds → Vals vs us → ∃ as, ReadsAll s.heap us ds as ∧ sysModules ∉ as
  | _, _, _, .nil, r => by cases r; exact ⟨_, .nil, by simp⟩
  | _, _, _, .cons h t, .cons r1 r2 => by
    obtain ⟨as, q1, n1⟩ := Rp.reads g I ph _ h r1
    obtain ⟨bs, q2, n2⟩ := RpA.reads g I ph _ t r2
    exact ⟨_, .cons q1 q2, fun m => (List.mem_append.mp m).elim n1 n2⟩
end
end

/-! ### names and constants -/
/-- a name is read: what it owns is frozen -/
def M.rd (i : Nat) : M PyData := fun env => match env[i]? with
  | some (some (.pur d)) => .ok d env
  | some (some x) => (match x.data with
    | some d => .ok d (env.set i (some (.pur d)))
    | none => .no)
  | _ => .no
/-- a name's tree is taken: the name holds nothing from then on -/
def M.mv (i : Nat) : M OD := fun env => match env[i]? with
  | some (some x) => .ok x (env.set i none)
  | _ => .no
section
variable {K : PySem.W.Frag} {mg : Str → Option Value} {W : WX} {B : List Nat} {bv : Nat → V} {R P H : Hp} {Fs : Nat → List Addr} {σ : L2.St} {env : DEnv}
theorem Sta.pure {i : Nat} {d : PyData} (S : Sta K mg B bv R P H Fs σ env) (h : env[i]? = some (some (.pur d))) : ∃ v, σ[i]? = some (some v) ∧ Rp K P v d := by
  obtain ⟨v, h1, h2⟩ := S.slot i _ h
  refine ⟨v, h1, ?_⟩
  generalize Fs i = F at h2
  cases h2 with
  | pur h => exact h
/-- what a slot owns is frozen where it stands -/
theorem Sta.frz {i : Nat} {x : OD} {d : PyData} (S : Sta K mg B bv R P H Fs σ env) (h : env[i]? = some (some x)) (e : x.data = some d) :
    ∃ v, σ[i]? = some (some v) ∧ Rp K (joinR P H (Fs i)) v d ∧ Same P (joinR P H (Fs i)) ∧ ∃ Fs', Sta K mg B bv R (joinR P H (Fs i)) H Fs' σ (env.set i (some (.pur d))) := by
  obtain ⟨v, h1, o, f, S1⟩ := S.take h
  have r : Rp K (joinR P H (Fs i)) v d := o.toRp S.ph e
  refine ⟨v, h1, r, joinR_same S.ph, ?_⟩
  have S2 := (S1.freeze f).put (i := i) (x := .pur d) h1 (.pur r) Free.nil
  rw [List.set_set] at S2
  exact ⟨_, S2⟩
theorem tD_rd {i : Nat} {σ : L2.St} {H : Hp} {Q : VK} (h : tD K mg W B (M.rd i) σ H Q) : tVar i σ H Q := by
  obtain ⟨bv, R, P, Fs, env, S, q⟩ := h
  unfold M.rd at q
  split at q
  · rename_i d e
    obtain ⟨v, h1, h2⟩ := S.pure e
    exact ⟨v, h1, q v P H Fs S (Same.refl _) h2⟩
  · rename_i x _ e
    cases ed : x.data with
    | none => rw [ed] at q; exact q.elim
    | some d =>
      rw [ed] at q
      obtain ⟨v, h1, h2, h3, Fs', S2⟩ := S.frz e ed
      exact ⟨v, h1, q v _ H Fs' S2 h3 h2⟩
  · exact q.elim
theorem tD_pure {d : PyData} {v : V} {σ : L2.St} {H : Hp} {Q : VK} (r : Rp K (fun _ => none) v d) (h : tD K mg W B (M.pure d) σ H Q) : tC v σ H Q := by
  obtain ⟨bv, R, P, Fs, env, S, q⟩ := h
  exact q v P H Fs S (Same.refl _) (r.mono fun _ _ e => by cases e)
end
section
variable {X : Cx} {W : WX} {B : List Nat} {pos : Pos}
theorem ed_var (i : Nat) {x : Str} (hN : X.N[i]? = some x := by rfl) (hv : Vis X.env.scope x := by first | exact Or.inl rfl | exact Or.inr (Or.inl rfl) | exact Or.inr (Or.inr rfl)) (hd : (x == ("__debug__" : Str)) = false := by decide)
    (hcd : (x == ("__classdict__" : Str)) = false := by decide) : ED X W B (.Name x pos) (M.rd i) := PE_mono (pe_var hN hv hd hcd) fun _ _ _ h => tD_rd h
theorem ed_int {i : Int} {j : Nat} : ED X W B (.Constant (.int i) j pos) (M.pure (.int i)) := PE_mono pe_int fun _ _ _ h => tD_pure (.int i) h
theorem ed_bl {b : Bool} {j : Nat} : ED X W B (.Constant (.bool b) j pos) (M.pure (.bool b)) := PE_mono pe_bl fun _ _ _ h => tD_pure (.bl b) h
theorem ed_non {j : Nat} : ED X W B (.Constant .none j pos) (M.pure .none) := PE_mono pe_non fun _ _ _ h => tD_pure .non h
theorem ed_str {x : Str} {j : Nat} : ED X W B (.Constant (.str x) j pos) (M.pure (.str x)) := PE_mono pe_str fun _ _ _ h => tD_pure (.str x) h
/-- a name of the module that holds data -/
theorem ed_glob {x : Str} {v : V} {u : Value} {d : PyData} (hg : Gl X x) (hm : X.mg x = some u) (r : RelV v u) (hr : Rp X.K (fun _ => none) v d) (hd : (x == ("__debug__" : Str)) = false := by decide) : ED X W B (.Name x pos) (M.pure d) :=
  PE_mono (pe_glob hg hm r hd) fun _ _ _ h => tD_pure hr h
end

/-! ### operators by data -/
/-- what an operator's rule asks is there where the mirror's operator gives a value -/
def OpD (K : PySem.W.Frag) (r : R2) (f : PyData → PyData → Option PyData) : Prop :=
  ∀ (P H : Hp) (v w : V) (d e z : PyData) (Q : VK), Same P H → Rp K P v d → Rp K P w e → f d e = some z → (∀ u P' H', Ext P H P' H' → Rp K P' u z → Q u H') → r v w H Q
def UnD (K : PySem.W.Frag) (r : V → Hp → VK → Prop) (f : PyData → Option PyData) : Prop :=
  ∀ (P H : Hp) (v : V) (d z : PyData) (Q : VK), Same P H → Rp K P v d → f d = some z → (∀ u P' H', Ext P H P' H' → Rp K P' u z → Q u H') → r v H Q
def CallD (K : PySem.W.Frag) (r : List V → Hp → VK → Prop) (f : List PyData → Option PyData) : Prop :=
  ∀ (P H : Hp) (vs : List V) (ds : List PyData) (z : PyData) (Q : VK), Same P H → RpA K P vs ds → f ds = some z → (∀ u P' H', Ext P H P' H' → Rp K P' u z → Q u H') → r vs H Q
def M.op2 (f : PyData → PyData → Option PyData) (a b : M PyData) : M PyData := M.bind a fun x => M.bind b fun y => M.opt (f x y)
def M.op1 (f : PyData → Option PyData) (a : M PyData) : M PyData := M.bind a fun x => M.opt (f x)
def M.opL (f : List PyData → Option PyData) (a : M (List PyData)) : M PyData := M.bind a fun x => M.opt (f x)
section
variable {X : Cx} {W : WX} {B : List Nat} {a b : Expr} {ma mb : M PyData} {pos : Pos} {f : PyData → PyData → Option PyData} {f1 : PyData → Option PyData} {r : R2} {r1 : V → Hp → VK → Prop}
theorem tD_op2 {σ : L2.St} {H : Hp} {Q : VK} (hf : OpD X.K r f) (h : tD X.K X.mg W B (M.op2 f ma mb) σ H Q) : tOp r (tD X.K X.mg W B ma) (tD X.K X.mg W B mb) σ H Q := by
  obtain ⟨bv, R, P, Fs, env, S, q⟩ := h
  refine tD_bind (Same.refl _) S q fun d1 e1 v1 P1 H1 F1 S1 s1 r1 h1 => tD_bind s1 S1 h1 fun d2 e2 v2 P2 H2 F2 S2 s2 r2 h2 => ?_
  cases e : f d1 d2 with
  | none => rw [e] at h2; exact h2.elim
  | some z =>
    rw [e] at h2
    exact hf P2 H2 v1 v2 d1 d2 z Q S2.ph (r1.mono s2) r2 e fun u P3 H3 x r3 => h2 u P3 H3 F2 (S2.ext x) (s1.trans (s2.trans x.pp)) r3
theorem ed_op {op : Operator} (ho : OpR X (binaryOp op) r) (hf : OpD X.K r f) (ha : ED X W B a ma) (hb : ED X W B b mb) : ED X W B (.BinOp a op b pos) (M.op2 f ma mb) :=
  PE_mono (pe_op ho ha hb) fun _ _ _ h => tD_op2 hf h
theorem ed_cmp {op : CmpOp} (ho : OpR X (compareOp op) r) (hf : OpD X.K r f) (ha : ED X W B a ma) (hb : ED X W B b mb) (hm : behindInMarks op b = false := by first | exact nomark _ | rfl) : ED X W B (.Compare a [op] [b] pos) (M.op2 f ma mb) :=
  PE_mono (pe_cmpR ho ha hb hm) fun _ _ _ h => tD_op2 hf h
theorem ed_un {op : UnaryOp} (ho : UnR X (unaryOp op) r1) (hf : UnD X.K r1 f1) (ha : ED X W B a ma) : ED X W B (.UnaryOp op a pos) (M.op1 f1 ma) :=
  PE_mono (pe_un ho ha) fun σ H Q ⟨bv, R, P, Fs, env, S, q⟩ => tD_bind (Same.refl _) S q fun d1 e1 v1 P1 H1 F1 S1 s1 r1 h1 => by
    cases e : f1 d1 with
    | none => rw [e] at h1; exact h1.elim
    | some z =>
      rw [e] at h1
      exact hf P1 H1 v1 d1 z Q S1.ph r1 e fun u P3 H3 x r3 => h1 u P3 H3 F1 (S1.ext x) (s1.trans x.pp) r3

/-! ### the operators -/
abbrev lim : Nat := 16777216
theorem lim_eq : sizeLine = lim := sizeLine_eq
def addD : PyData → PyData → Option PyData
  | .int i, .int j => some (.int (i + j))
  | .str x, .str y => if x.length + y.length ≤ lim then some (.str (x ++ y)) else none
  | .list xs, .list ys => if xs.length + ys.length ≤ lim then some (.list (xs ++ ys)) else none
  | .tuple xs, .tuple ys => if xs.length + ys.length ≤ lim then some (.tuple (xs ++ ys)) else none
  | _, _ => none
def rAddS : R2 := fun x y H Q => ∃ i j, x = .str i ∧ y = .str j ∧ i.length + j.length ≤ sizeLine ∧ Q (.str (i ++ j)) H
def rCatR : R2 := fun x y H Q => ∃ l b xs zs, x = .ref l ∧ y = .ref b ∧ Rd H l (.lst xs) ∧ Rd H b (.lst zs) ∧ xs.length + zs.length ≤ sizeLine ∧ ∀ p, H p = none → Q (.ref p) (upd H p (.lst (xs ++ zs)))
theorem op_catR : OpR X (binaryOp .Add) rCatR := by
  intro pins s σ H x y v u Q I rx ry h
  obtain ⟨l, b, xs, zs, rfl, rfl, hl, hb, hz, q⟩ := h
  cases rx
  cases ry
  obtain ⟨_, its, n, rv, e⟩ := hl.ok I.hok
  obtain ⟨_, its2, n2, rv2, e2⟩ := hb.ok I.hok
  have l1 := rv.length
  have l2 := rv2.length
  refine PySem.P.add_list e e2 ?_ (by simp only [List.size_toArray]; omega)
  rw [show its.toArray ++ its2.toArray = (its ++ its2).toArray from by simp]
  exact ⟨.ref _, _, I.lnew (t' := s.toks) (rv.append rv2) (by rw [List.length_append]; omega), rfl, q _ I.fresh⟩
def rAdd4 (K : PySem.W.Frag) : R2 := fun x y H Q => (rI0 fun i j => .int (i + j)) x y H Q ∨ rAddS x y H Q ∨ rCatR x y H Q ∨ rCatA K x y H Q
theorem op_add4 : OpR X (binaryOp .Add) (rAdd4 X.K) := OpR.or op_add (OpR.or op_add_str (OpR.or op_catR op_catA))
theorem RpA.rd {K : PySem.W.Frag} {P H : Hp} {xs : List V} {ds : List PyData} (ph : Same P H) {a : Addr} (h : Rd P a (.lst xs)) : Rd H a (.lst xs) := rd_mono ph h
theorem opd_add : OpD X.K (rAdd4 X.K) addD := by
  intro P H v w d e z Q ph r1 r2 ez k
  cases r1 with
  | int i => cases r2 with
    | int j => cases ez; exact .inl ⟨i, j, rfl, rfl, k _ P H (.refl ph) (.int _)⟩
    | _ => cases ez
  | str x => cases r2 with
    | str y =>
      simp only [addD] at ez
      split at ez
      · rename_i hl; cases ez; exact .inr (.inl ⟨x, y, rfl, rfl, by rw [lim_eq]; exact hl, k _ P H (.refl ph) (.str _)⟩)
      · cases ez
    | _ => cases ez
  | lst h t => cases r2 with
    | lst h2 t2 =>
      simp only [addD] at ez
      split at ez
      · rename_i hl
        cases ez
        have q1 := t.length
        have q2 := t2.length
        refine .inr (.inr (.inl ⟨_, _, _, _, rfl, rfl, rd_mono ph h, rd_mono ph h2, by rw [lim_eq]; omega, fun p hp => k _ _ _ (ext_new ph _ hp) (.lst (.inl upd_same) ((t.append t2).mono (ext_new ph _ hp).pp))⟩))
      · cases ez
    | _ => cases ez
  | tup h t => cases r2 with
    | tup h2 t2 =>
      simp only [addD] at ez
      split at ez
      · rename_i hl
        cases ez
        have q1 := t.length
        have q2 := t2.length
        refine .inr (.inr (.inr ⟨_, _, _, _, rfl, rfl, seqT_mono ph h, seqT_mono ph h2, by rw [lim_eq]; omega, fun e => ?_, fun _ e => ?_, fun _ _ p hp => k _ _ _ (ext_new ph _ hp) (.tup upd_same ((t.append t2).mono (ext_new ph _ hp).pp))⟩))
        · subst e
          cases t
          exact k _ P H (.refl ph) (.tup h2 t2)
        · subst e
          cases t2
          exact k _ P H (.refl ph) (.tup h (by rw [List.append_nil]; exact t))
      · cases ez
    | _ => cases ez
  | _ => cases ez
/-- operators of two ints -/
def int2 (C : Int → Int → Bool) (g : Int → Int → PyData) : PyData → PyData → Option PyData
  | .int i, .int j => if C i j then some (g i j) else none
  | _, _ => none
theorem opd_int {C : Int → Int → Prop} {Cb : Int → Int → Bool} {g : Int → Int → V} {g' : Int → Int → PyData} (hC : ∀ i j, Cb i j = true → C i j) (hg : ∀ K P i j, Rp K P (g i j) (g' i j)) : OpD X.K (rI C g) (int2 Cb g') := by
  intro P H v w d e z Q ph r1 r2 ez k
  cases r1 with
  | int i => cases r2 with
    | int j =>
      simp only [int2] at ez
      split at ez
      · rename_i hc; cases ez; exact ⟨i, j, rfl, rfl, hC i j hc, k _ P H (.refl ph) (hg _ _ _ _)⟩
      · cases ez
    | _ => cases ez
  | _ => cases ez
theorem opd_int0 {g : Int → Int → V} {g' : Int → Int → PyData} (hg : ∀ K P i j, Rp K P (g i j) (g' i j)) : OpD X.K (rI0 g) (int2 (fun _ _ => true) g') := by
  intro P H v w d e z Q ph r1 r2 ez k
  cases r1 with
  | int i => cases r2 with
    | int j => cases ez; exact ⟨i, j, rfl, rfl, k _ P H (.refl ph) (hg _ _ _ _)⟩
    | _ => cases ez
  | _ => cases ez
def subD := int2 (fun _ _ => true) fun i j => .int (i - j)
def mulC (i j : Int) : Bool := (decide (i.natAbs < 2 ^ 64) || decide (j.natAbs < 2 ^ 64)) || decide (i.natAbs.log2 + j.natAbs.log2 < 1000000)
def mulD := int2 mulC fun i j => .int (i * j)
theorem op_mulA {X : Cx} : OpR X (binaryOp .Mult) (rI (fun i j => mulC i j = true) fun i j => .int (i * j)) := opI fun i j _ _ _ _ _ hc q => by
  unfold mulC at hc
  simp only [Bool.or_eq_true, decide_eq_true_eq] at hc
  rcases hc with (h | h) | h
  · exact mul_int q (CMul.ok (.inl ⟨by omega, by omega⟩))
  · exact mul_int q (CMul.ok (.inr ⟨by omega, by omega⟩))
  · exact mul_int q (CMulW.ok h)
theorem ed_mul (ha : ED X W B a ma) (hb : ED X W B b mb) : ED X W B (.BinOp a .Mult b pos) (M.op2 mulD ma mb) := ed_op op_mulA (opd_int (fun i j h => h) fun _ _ _ _ => .int _) ha hb
def divC (_ j : Int) : Bool := decide (j ≠ 0) && decide (j.natAbs.log2 < 9000)
def CDivA (_ j : Int) : Prop := j ≠ 0 ∧ j.natAbs.log2 < 9000
theorem op_fdivA : OpR X (binaryOp .FloorDiv) (rI CDivA fun i j => .int (i.fdiv j)) := opI fun i j _ _ _ _ _ hc q => floordiv_int hc.1 q (.inl (PyProof.noPylong_of_log2 hc.2))
def divD := int2 divC fun i j => .int (i.fdiv j)
theorem divC_ok (i j : Int) (h : divC i j = true) : CDivA i j := by
  unfold divC at h
  rw [Bool.and_eq_true] at h
  exact ⟨of_decide_eq_true h.1, of_decide_eq_true h.2⟩
theorem ed_fdiv (ha : ED X W B a ma) (hb : ED X W B b mb) : ED X W B (.BinOp a .FloorDiv b pos) (M.op2 divD ma mb) := ed_op op_fdivA (opd_int divC_ok fun _ _ _ _ => .int _) ha hb
def modD := int2 (fun _ j => decide (j ≠ 0)) fun i j => .int (i.fmod j)
theorem ed_mod (ha : ED X W B a ma) (hb : ED X W B b mb) : ED X W B (.BinOp a .Mod b pos) (M.op2 modD ma mb) := ed_op op_modN (opd_int (fun _ _ h => of_decide_eq_true h) fun _ _ _ _ => .int _) ha hb
def powC (i j : Int) : Bool := decide (0 ≤ j) && (decide (j ≤ 1000000) && decide (i.natAbs < 2 ^ 64))
theorem powC_ok (i j : Int) (h : powC i j = true) : CPow i j := by
  unfold powC at h
  rw [Bool.and_eq_true, Bool.and_eq_true] at h
  exact ⟨of_decide_eq_true h.1, of_decide_eq_true h.2.1, of_decide_eq_true h.2.2⟩
def powD := int2 powC fun i j => .int (i ^ j.toNat)
theorem ed_pow (ha : ED X W B a ma) (hb : ED X W B b mb) : ED X W B (.BinOp a .Pow b pos) (M.op2 powD ma mb) := ed_op op_pow (opd_int powC_ok fun _ _ _ _ => .int _) ha hb
def negD : PyData → Option PyData
  | .int i => some (.int (-i))
  | _ => none
theorem ed_neg (ha : ED X W B a ma) : ED X W B (.UnaryOp .USub a pos) (M.op1 negD ma) := ed_un un_neg (fun P H v d z Q ph r1 ez k => by
  cases r1 with
  | int i => cases ez; exact ⟨i, rfl, k _ P H (.refl ph) (.int _)⟩
  | _ => cases ez) ha
end
end DL

set_option maxHeartbeats 2000000
/-! DL4: comparisons, tests, displays, items, built-in calls. -/
namespace DL
open PySem PySem.Spec PyProof.Rows L2

/-! ### == and in, by data -/
def eqD (d e : PyData) : Option PyData := if SeqAt.shaped d && SeqAt.shaped e then some (.bool (PyData.eqv d e)) else none
def neD (d e : PyData) : Option PyData := if SeqAt.shaped d && SeqAt.shaped e then some (.bool (!PyData.eqv d e)) else none
def inL (d : PyData) (ds : List PyData) : Bool := ds.any fun z => PyData.eqv z d
def keyOfD : PyData → Option Key
  | .int i => some (.inl i)
  | .str x => some (.inr x)
  | _ => none
def keysOfD : List PyData → Option (List Key)
  | [] => some []
  | d :: ds => match keyOfD d, keysOfD ds with
    | some k, some ks => some (k :: ks)
    | _, _ => none
/-- the same key: an int, a text, a tuple of such -/
def keyEq (a b : PyData) : Bool := match a, b with
  | .int i, .int j => i == j
  | .str x, .str y => x == y
  | .tuple xs, .tuple ys => (match keysOfD xs, keysOfD ys with
    | some k, some l => decide (k = l)
    | _, _ => false)
  | _, _ => false
def isKey : PyData → Bool
  | .int _ => true
  | .str _ => true
  | .tuple xs => (keysOfD xs).isSome
  | _ => false
def lookD (kvs : List (PyData × PyData)) (k : PyData) : Option PyData := (kvs.find? fun p => keyEq p.1 k).map (·.2)
/-- which keys a dict has: all ints and texts, or all tuples -/
def flatKey : PyData → Bool
  | .int _ => true
  | .str _ => true
  | _ => false
def inD (d c : PyData) : Option PyData := match c with
  | .list ds => if SeqAt.shaped d && SeqAt.shaped (.list ds) then some (.bool (inL d ds)) else none
  | .tuple ds => if SeqAt.shaped d && SeqAt.shaped (.tuple ds) then some (.bool (inL d ds)) else none
  | .str y => (match d with
    | .str x => some (.bool (!(Builtin.Str.occurrences y x 0 y.length 1).isEmpty))
    | _ => none)
  | .dict kvs => if isKey d && kvs.all fun p => flatKey p.1 == flatKey d then some (.bool (lookD kvs d).isSome) else none
  | _ => none
def notD (o : Option PyData) : Option PyData := match o with
  | some (.bool b) => some (.bool (!b))
  | _ => none

theorem keyOfD_some {d : PyData} {k : Key} (h : keyOfD d = some k) : d = keyD k := by
  cases d <;> simp [keyOfD] at h <;> subst h <;> rfl
theorem keyOfD_key (k : Key) : keyOfD (keyD k) = some k := by cases k <;> rfl
theorem keysOfD_some : ∀ {ds : List PyData} {ks : List Key}, keysOfD ds = some ks → ds = ks.map keyD
  | [], _, h => by simp [keysOfD] at h; subst h; rfl
  | d :: ds, _, h => by
    unfold keysOfD at h
    cases q1 : keyOfD d with
    | none => rw [q1] at h; cases h
    | some k =>
      cases q2 : keysOfD ds with
      | none => rw [q1, q2] at h; cases h
      | some ks =>
        rw [q1, q2] at h
        cases h
        rw [List.map_cons, ← keyOfD_some q1, ← keysOfD_some q2]
theorem keysOfD_keys : ∀ ks : List Key, keysOfD (ks.map keyD) = some ks
  | [] => rfl
  | k :: ks => by unfold keysOfD; rw [List.map_cons]; simp only [keyOfD_key, keysOfD_keys ks]
theorem keyEq_key (a b : Key) : keyEq (keyD a) (keyD b) = decide (a = b) := by
  cases a <;> cases b <;> simp [keyEq, keyD, Bool.beq_eq_decide_eq]
theorem keyEq_tup (a b : List Key) : keyEq (.tuple (a.map keyD)) (.tuple (b.map keyD)) = decide (a = b) := by
  simp only [keyEq, keysOfD_keys]
section
variable {K : PySem.W.Frag} {P H : Hp}
theorem Rp.key {k : Key} {v : V} (h : Rp K P v (keyD k)) : v = kV k := by
  cases k with
  | inl i => cases h; rfl
  | inr x => cases h; rfl
theorem RpA.keys : ∀ {ks : List Key} {vs : List V}, RpA K P vs (ks.map keyD) → vs = ks.map kV
  | [], _, .nil => rfl
  | _ :: _, _, .cons h t => by rw [List.map_cons, ← h.key, ← RpA.keys t]
theorem look_dK {ks : List Key} {k : Key} : ∀ {xs : List V} {ds : List PyData}, ks.length = xs.length → RpA K P xs ds →
    (∀ v, valV (ks.zip xs) k = some v → ∃ d, lookD ((ks.map keyD).zip ds) (keyD k) = some d ∧ Rp K P v d) ∧ (valV (ks.zip xs) k = none → lookD ((ks.map keyD).zip ds) (keyD k) = none) := by
  induction ks with
  | nil => intro xs ds _ _; exact ⟨fun v h => by simp [valV] at h, fun _ => by simp [lookD]⟩
  | cons a ks ih =>
    intro xs ds hl t
    cases t with
    | nil => simp at hl
    | cons h t =>
      have q := ih (by simpa using hl) t
      simp only [List.zip_cons_cons, List.map_cons]
      by_cases e : a = k
      · subst e
        rw [valV_pos (by rfl)]
        have : ∀ d r, lookD ((keyD a, d) :: r) (keyD a) = some d := fun d r => by
          unfold lookD; rw [List.find?_cons]; simp [keyEq_key]
        exact ⟨fun v hv => ⟨_, this _ _, by cases hv; exact h⟩, fun hv => by cases hv⟩
      · rw [valV_neg (by exact e)]
        have : ∀ d r, lookD ((keyD a, d) :: r) (keyD k) = lookD r (keyD k) := fun d r => by
          unfold lookD; rw [List.find?_cons]; simp [keyEq_key, e]
        rw [this]
        exact q
theorem look_dT {ks : List (List Key)} {k : List Key} : ∀ {xs : List V} {ds : List PyData}, ks.length = xs.length → RpA K P xs ds →
    (∀ v, valV (ks.zip xs) k = some v → ∃ d, lookD ((ks.map fun k => PyData.tuple (k.map keyD)).zip ds) (.tuple (k.map keyD)) = some d ∧ Rp K P v d) ∧
      (valV (ks.zip xs) k = none → lookD ((ks.map fun k => PyData.tuple (k.map keyD)).zip ds) (.tuple (k.map keyD)) = none) := by
  induction ks with
  | nil => intro xs ds _ _; exact ⟨fun v h => by simp [valV] at h, fun _ => by simp [lookD]⟩
  | cons a ks ih =>
    intro xs ds hl t
    cases t with
    | nil => simp at hl
    | cons h t =>
      have q := ih (by simpa using hl) t
      simp only [List.zip_cons_cons, List.map_cons]
      by_cases e : a = k
      · subst e
        rw [valV_pos (by rfl)]
        have : ∀ d r, lookD ((PyData.tuple (a.map keyD), d) :: r) (.tuple (a.map keyD)) = some d := fun d r => by
          unfold lookD; rw [List.find?_cons]; simp [keyEq_tup]
        exact ⟨fun v hv => ⟨_, this _ _, by cases hv; exact h⟩, fun hv => by cases hv⟩
      · rw [valV_neg (by exact e)]
        have : ∀ d r, lookD ((PyData.tuple (a.map keyD), d) :: r) (.tuple (k.map keyD)) = lookD r (.tuple (k.map keyD)) := fun d r => by
          unfold lookD; rw [List.find?_cons]; simp [keyEq_tup, e]
        rw [this]
        exact q
/-- what the dict at a holds at y, a tuple of the module's own among the keys -/
def KGet (K : PySem.W.Frag) (H : Hp) (a : Addr) (y : V) (r : Option V) : Prop :=
  (∃ kvs k, Rd H a (.dK kvs) ∧ y = kV k ∧ r = valV kvs k) ∨ (∃ kvs k b, Rd H a (.dT kvs) ∧ y = .ref b ∧ SqT K H b (k.map kV) ∧ r = valV kvs k) ∨
  ∃ k b, Rd H a (.dK []) ∧ y = .ref b ∧ SqT K H b (List.map kV k) ∧ r = none
theorem look_KGet {a : Addr} {v : V} {kvs : List (PyData × PyData)} {d : PyData} (ph : Same P H) (hc : Rp K P (.ref a) (.dict kvs)) (hk : Rp K P v d)
    (hf : kvs.all (fun p => flatKey p.1 == flatKey d) = true) (hi : isKey d = true) :
    ∃ o, KGet K H a v o ∧ (∀ w, o = some w → ∃ e, lookD kvs d = some e ∧ Rp K P w e) ∧ (o = none → lookD kvs d = none) := by
  have mkK : ∀ k, keyOfD d = some k → ∀ (ks : List Key) (xs : List V) (ds : List PyData), Rd P a (.dK (ks.zip xs)) → ks.length = xs.length → RpA K P xs ds → kvs = (ks.map keyD).zip ds → ∃ o, KGet K H a v o ∧ (∀ w, o = some w → ∃ e, lookD kvs d = some e ∧ Rp K P w e) ∧ (o = none → lookD kvs d = none) := by
    intro k e ks xs ds h hl t ez
    have e2 := keyOfD_some e
    subst e2
    have q := look_dK (k := k) hl t
    subst ez
    exact ⟨valV (ks.zip xs) k, .inl ⟨_, k, rd_mono ph h, hk.key, rfl⟩, fun w hw => q.1 w hw, q.2⟩
  have mkT : ∀ es, d = .tuple es → ∀ k, keysOfD es = some k → ∀ (ks : List (List Key)) (xs : List V) (ds : List PyData), Rd P a (.dT (ks.zip xs)) → ks.length = xs.length → RpA K P xs ds → kvs = (ks.map fun k => PyData.tuple (k.map keyD)).zip ds → ∃ o, KGet K H a v o ∧ (∀ w, o = some w → ∃ e, lookD kvs d = some e ∧ Rp K P w e) ∧ (o = none → lookD kvs d = none) := by
    intro es ed k e ks xs ds h hl t ez
    have e2 := keysOfD_some e
    subst e2
    subst ed
    have q := look_dT (k := k) hl t
    subst ez
    cases hk with
    | tup hs ht =>
      rw [ht.keys] at hs
      exact ⟨valV (ks.zip xs) k, .inr (.inl ⟨_, k, _, rd_mono ph h, rfl, seqT_mono ph hs, rfl⟩), fun w hw => q.1 w hw, q.2⟩
  obtain ⟨kvs0, ez⟩ : ∃ k, kvs = k := ⟨_, rfl⟩
  rw [ez] at hc
  cases hc with
  | @dK a ks xs ds h hl t =>
    cases d with
    | int i => exact mkK _ rfl ks xs ds h hl t ez
    | str x => exact mkK _ rfl ks xs ds h hl t ez
    | tuple es =>
      subst ez
      cases ks with
      | nil =>
        cases q : keysOfD es with
        | none =>
          have : (keysOfD es).isSome = true := hi
          rw [q] at this; cases this
        | some k =>
          have e2 := keysOfD_some q
          subst e2
          cases hk with
          | tup hs ht =>
            rw [ht.keys] at hs
            exact ⟨none, .inr (.inr ⟨k, _, by have := rd_mono ph h; rwa [List.zip_nil_left] at this, rfl, seqT_mono ph hs, rfl⟩), ⟨fun w (hw : none = some w) => (nomatch hw), fun _ => rfl⟩⟩
      | cons k ks =>
        exfalso
        cases t with
        | nil => simp at hl
        | cons h t =>
          simp only [List.map_cons, List.zip_cons_cons, List.all_cons, Bool.and_eq_true] at hf
          have := hf.1
          cases k <;> simp [flatKey, keyD] at this
    | _ => cases hi
  | @dT a ks xs ds h hl hk0 t =>
    cases d with
    | tuple es =>
      cases q : keysOfD es with
      | none =>
        have : (keysOfD es).isSome = true := hi
        rw [q] at this; cases this
      | some k => exact mkT es rfl k q ks xs ds h hl t ez
    | int i =>
      exfalso
      subst ez
      cases ks with
      | nil => exact hk0 rfl
      | cons k ks =>
        cases t with
        | nil => simp at hl
        | cons h t => simp [flatKey] at hf
    | str i =>
      exfalso
      subst ez
      cases ks with
      | nil => exact hk0 rfl
      | cons k ks =>
        cases t with
        | nil => simp at hl
        | cons h t => simp [flatKey] at hf
    | _ => cases hi
end

/-! ### dicts by such keys, at the library's rules -/
section
variable {X : Cx} {pins : List (Addr × Obj)} {σ : L2.St} {H : Hp} {s : Shared} {a : Addr} {y d : V} {u r : Value} {o : Option V} {A : Around} {E : Value → Shared → Prop}
theorem key_at {ks : List Key} {b : Addr} (I : Inv X pins σ H s) (h : SqT X.K H b (ks.map kV)) : (tupleKind (mixKind X.prog X.w)).is s.heap ks b := by
  obtain ⟨its, rv, ⟨o, h1, h2, n, h3⟩, _⟩ := I.tuple h
  exact ⟨o, its.toArray, n, h1, h2, h3, by simpa using items_are rv⟩
theorem KGet.isD (g : KGet X.K H a y o) : IsD H a := by
  rcases g with ⟨kvs, _, e, _⟩ | ⟨kvs, _, _, e, _⟩ | ⟨_, _, e, _⟩
  · exact .inl ⟨kvs, e⟩
  · exact .inr ⟨kvs, e⟩
  · exact .inl ⟨_, e⟩
/-- an empty dict has no kind -/
theorem empty_t (I : Inv X pins σ H s) (e : Rd H a (.dK [])) : (a == sysModules) = false ∧ s.heap.DictOfH (tupleKind (mixKind X.prog X.w)) a [] := by
  obtain ⟨_, hd, vs, rel, o, es, ep, h1, h2, h3, _, h5, _⟩ := dk_rd I.hok e
  cases rel
  have h6 := h5.length
  refine ⟨hd, o, es, ep, h1, h2, h3, ?_, fun x hx => (nomatch hx), .nil⟩
  exact List.eq_nil_of_length_eq_zero h6
theorem k_getItem {v : V} {Q : Value → Shared → Prop} (hu : A.units + 1 < cLine) (I : Inv X pins σ H s) (g : KGet X.K H a y (some v)) (ry : RelV y u) (h : ∀ w' s', Inv X pins σ H s' → RelV v w' → Q w' s') :
    wpAny (model X.prog X.w) A (getItem (.ref a) u) Q E s := by
  rcases g with ⟨kvs, k, e, ey, l⟩ | ⟨kvs, k, b, e, ey, eb, l⟩ | ⟨k, b, e, ey, eb, l⟩
  · exact d_getItem hu I (.inl ⟨kvs, k, e, ey, l⟩) ry h
  · subst ey
    cases (show u = Value.ref b from ry)
    obtain ⟨_, _, xs, rel, dd⟩ := dt_rd I.hok e
    obtain ⟨w', hw, rw'⟩ := RelO.some_of (v := v) (o := (atKey xs k).map (·.2)) (by rw [l]; exact rel.val k)
    obtain ⟨p, hp, hp2⟩ := Option.map_eq_some_iff.mp hw
    refine wpAny_getItem_heap (tupleKind_room_in1 hu) (key_at I eb) dd hp ?_
    rw [hp2]
    exact h w' _ (I.tok _) rw'
  · cases l
theorem k_in {Q : Value → Shared → Prop} (hu : A.units + 1 < cLine) (I : Inv X pins σ H s) (g : KGet X.K H a y o) (ry : RelV y u) (h : ∀ s', Inv X pins σ H s' → Q (.bool o.isSome) s') :
    wpAny (model X.prog X.w) A (compareOp .In u (.ref a)) Q E s := by
  rcases g with ⟨kvs, k, e, ey, l⟩ | ⟨kvs, k, b, e, ey, eb, l⟩ | ⟨k, b, e, ey, eb, l⟩
  · exact d_in hu I (.inl ⟨kvs, k, e, ey, l⟩) ry h
  · subst ey
    cases (show u = Value.ref b from ry)
    obtain ⟨_, hd, xs, rel, dd⟩ := dt_rd I.hok e
    refine wpAny_in_heap (tupleKind_room_in1 hu) (key_at I eb) hd dd ?_
    have q := (rel.val k).isSome_eq
    rw [Option.isSome_map, ← l] at q
    rw [← q]
    exact h _ (I.tok _)
  · subst ey l
    cases (show u = Value.ref b from ry)
    obtain ⟨hd, dd⟩ := empty_t I e
    exact wpAny_in_heap (tupleKind_room_in1 hu) (key_at I eb) hd dd (h _ (I.tok _))
theorem k_notIn {Q : Value → Shared → Prop} (hu : A.units + 1 < cLine) (I : Inv X pins σ H s) (g : KGet X.K H a y o) (ry : RelV y u) (h : ∀ s', Inv X pins σ H s' → Q (.bool (!o.isSome)) s') :
    wpAny (model X.prog X.w) A (compareOp .NotIn u (.ref a)) Q E s := by
  rcases g with ⟨kvs, k, e, ey, l⟩ | ⟨kvs, k, b, e, ey, eb, l⟩ | ⟨k, b, e, ey, eb, l⟩
  · exact d_notIn hu I (.inl ⟨kvs, k, e, ey, l⟩) ry h
  · subst ey
    cases (show u = Value.ref b from ry)
    obtain ⟨_, hd, xs, rel, dd⟩ := dt_rd I.hok e
    refine wpAny_notIn_heap (tupleKind_room_in1 hu) (key_at I eb) hd dd ?_
    have q := (rel.val k).isSome_eq
    rw [Option.isSome_map, ← l] at q
    rw [← q]
    exact h _ (I.tok _)
  · subst ey l
    cases (show u = Value.ref b from ry)
    obtain ⟨hd, dd⟩ := empty_t I e
    exact wpAny_notIn_heap (tupleKind_room_in1 hu) (key_at I eb) hd dd (h _ (I.tok _))
end

/-! ### the comparisons as operators -/
def rEqP (K : PySem.W.Frag) : R2 := fun x y H Q => ∃ P d e, Same P H ∧ Rp K P x d ∧ Rp K P y e ∧ SeqAt.shaped d = true ∧ SeqAt.shaped e = true ∧ Q (.bl (PyData.eqv d e)) H
def rNeP (K : PySem.W.Frag) : R2 := fun x y H Q => ∃ P d e, Same P H ∧ Rp K P x d ∧ Rp K P y e ∧ SeqAt.shaped d = true ∧ SeqAt.shaped e = true ∧ Q (.bl (!PyData.eqv d e)) H
def rInP (K : PySem.W.Frag) : R2 := fun x y H Q =>
  (∃ P d ds, Same P H ∧ Rp K P x d ∧ (Rp K P y (.list ds) ∧ SeqAt.shaped (.list ds) = true ∨ Rp K P y (.tuple ds) ∧ SeqAt.shaped (.tuple ds) = true) ∧ SeqAt.shaped d = true ∧ Q (.bl (inL d ds)) H) ∨
  (∃ i j, x = .str i ∧ y = .str j ∧ Q (.bl (!(Builtin.Str.occurrences j i 0 j.length 1).isEmpty)) H) ∨ (∃ a o, y = .ref a ∧ KGet K H a x o ∧ Q (.bl o.isSome) H)
def rNinP (K : PySem.W.Frag) : R2 := fun x y H Q =>
  (∃ P d ds, Same P H ∧ Rp K P x d ∧ (Rp K P y (.list ds) ∧ SeqAt.shaped (.list ds) = true ∨ Rp K P y (.tuple ds) ∧ SeqAt.shaped (.tuple ds) = true) ∧ SeqAt.shaped d = true ∧ Q (.bl (!inL d ds)) H) ∨
  (∃ i j, x = .str i ∧ y = .str j ∧ Q (.bl (!(!(Builtin.Str.occurrences j i 0 j.length 1).isEmpty))) H) ∨ (∃ a o, y = .ref a ∧ KGet K H a x o ∧ Q (.bl (!o.isSome)) H)
section
variable {X : Cx} {W : WX} {B : List Nat} {a b : Expr} {ma mb : M PyData} {pos : Pos}
theorem op_eqP (g : Gd X) (hu : X.A.units + 64 < cLine) : OpR X (compareOp .Eq) (rEqP X.K) := by
  intro pins s σ H x y v u Q I rx ry ⟨P, d, e, ph, hd, he, sd, se, q⟩
  obtain ⟨as, r1, _⟩ := hd.reads g I ph v rx
  obtain ⟨bs, r2, _⟩ := he.reads g I ph u ry
  exact SeqAt.compareEq_shaped r1 r2 sd se hu ⟨.bl _, H, I, rfl, q⟩
theorem op_neP (g : Gd X) (hu : X.A.units + 64 < cLine) : OpR X (compareOp .NotEq) (rNeP X.K) := by
  intro pins s σ H x y v u Q I rx ry ⟨P, d, e, ph, hd, he, sd, se, q⟩
  obtain ⟨as, r1, _⟩ := hd.reads g I ph v rx
  obtain ⟨bs, r2, _⟩ := he.reads g I ph u ry
  exact SeqAt.compareNe_shaped r1 r2 sd se hu ⟨.bl _, H, I, rfl, q⟩
theorem op_inP (g : Gd X) (hu : X.A.units + 65 < cLine) : OpR X (compareOp .In) (rInP X.K) := by
  intro pins s σ H x y v u Q I rx ry h
  rcases h with ⟨P, d, ds, ph, hd, hc, sd, q⟩ | h | ⟨a, o, rfl, k, q⟩
  · obtain ⟨as, r1, _⟩ := hd.reads g I ph v rx
    rcases hc with ⟨hc, sc⟩ | ⟨hc, sc⟩
    · obtain ⟨bs, r2, _⟩ := hc.reads g I ph u ry
      exact SeqAt.in_list_reads r2 r1 (SeqAt.canLay_of_shaped sc) (SeqAt.canLay_of_shaped sd) (room_in_shaped sd hu) ⟨.bl _, H, I, rfl, q⟩
    · obtain ⟨bs, r2, _⟩ := hc.reads g I ph u ry
      exact SeqAt.in_tuple_reads r2 r1 (SeqAt.canLay_of_shaped sc) (SeqAt.canLay_of_shaped sd) (room_in_shaped sd hu) ⟨.bl _, H, I, rfl, q⟩
  · exact op_in_str pins s σ H x y v u Q I rx ry h
  · cases ry
    exact k_in (by omega) I k rx fun s' I' => ⟨.bl _, H, I', rfl, q⟩
theorem op_ninP (g : Gd X) (hu : X.A.units + 65 < cLine) : OpR X (compareOp .NotIn) (rNinP X.K) := by
  intro pins s σ H x y v u Q I rx ry h
  rcases h with ⟨P, d, ds, ph, hd, hc, sd, q⟩ | h | ⟨a, o, rfl, k, q⟩
  · obtain ⟨as, r1, _⟩ := hd.reads g I ph v rx
    rcases hc with ⟨hc, sc⟩ | ⟨hc, sc⟩
    · obtain ⟨bs, r2, _⟩ := hc.reads g I ph u ry
      exact SeqAt.notIn_list_reads r2 r1 (SeqAt.canLay_of_shaped sc) (SeqAt.canLay_of_shaped sd) (room_in_shaped sd hu) ⟨.bl _, H, I, rfl, q⟩
    · obtain ⟨bs, r2, _⟩ := hc.reads g I ph u ry
      exact SeqAt.notIn_tuple_reads r2 r1 (SeqAt.canLay_of_shaped sc) (SeqAt.canLay_of_shaped sd) (room_in_shaped sd hu) ⟨.bl _, H, I, rfl, q⟩
  · exact op_notin_str pins s σ H x y v u Q I rx ry h
  · cases ry
    exact k_notIn (by omega) I k rx fun s' I' => ⟨.bl _, H, I', rfl, q⟩
theorem opd_eq : OpD X.K (rEqP X.K) eqD := by
  intro P H v w d e z Q ph r1 r2 ez k
  unfold eqD at ez
  split at ez
  · rename_i h
    rw [Bool.and_eq_true] at h
    cases ez
    exact ⟨P, d, e, ph, r1, r2, h.1, h.2, k _ P H (.refl ph) (.bl _)⟩
  · cases ez
theorem opd_ne : OpD X.K (rNeP X.K) neD := by
  intro P H v w d e z Q ph r1 r2 ez k
  unfold neD at ez
  split at ez
  · rename_i h
    rw [Bool.and_eq_true] at h
    cases ez
    exact ⟨P, d, e, ph, r1, r2, h.1, h.2, k _ P H (.refl ph) (.bl _)⟩
  · cases ez
/-- whether a dict's emptiness is known: an empty dict has no kind -/
def inX (d c : PyData) : Option PyData := match c with
  | .dict [] => if isKey d then some (.bool false) else none
  | _ => inD d c
def ninX (d c : PyData) : Option PyData := notD (inX d c)
theorem opd_in : OpD X.K (rInP X.K) inX := by
  intro P H v w d e z Q ph r1 r2 ez k
  cases e with
  | list ds =>
    simp only [inX, inD] at ez
    split at ez
    · rename_i h
      rw [Bool.and_eq_true] at h
      cases ez
      exact .inl ⟨P, d, ds, ph, r1, .inl ⟨r2, h.2⟩, h.1, k _ P H (.refl ph) (.bl _)⟩
    · cases ez
  | tuple ds =>
    simp only [inX, inD] at ez
    split at ez
    · rename_i h
      rw [Bool.and_eq_true] at h
      cases ez
      exact .inl ⟨P, d, ds, ph, r1, .inr ⟨r2, h.2⟩, h.1, k _ P H (.refl ph) (.bl _)⟩
    · cases ez
  | str y => cases d with
    | str x =>
      cases ez
      cases r1
      cases r2
      exact .inr (.inl ⟨x, y, rfl, rfl, k _ P H (.refl ph) (.bl _)⟩)
    | _ => cases ez
  | dict kvs => cases kvs with
    | nil =>
      simp only [inX] at ez
      split at ez
      · rename_i h
        cases ez
        obtain ⟨a, rfl⟩ : ∃ a, w = .ref a := by
          generalize eq : PyData.dict [] = dd at r2
          cases r2 <;> first | exact ⟨_, rfl⟩ | cases eq
        obtain ⟨o, g, h1, h2⟩ := look_KGet ph r2 r1 rfl h
        have eo : o = none := by
          cases o with
          | none => rfl
          | some w => obtain ⟨e, he, _⟩ := h1 w rfl; cases he
        subst eo
        exact .inr (.inr ⟨a, none, rfl, g, k _ P H (.refl ph) (.bl _)⟩)
      · cases ez
    | cons q qs =>
      simp only [inX, inD] at ez
      split at ez
      · rename_i h
        rw [Bool.and_eq_true] at h
        cases ez
        obtain ⟨a, rfl⟩ : ∃ a, w = .ref a := by
          generalize eq : PyData.dict (q :: qs) = dd at r2
          cases r2 <;> first | exact ⟨_, rfl⟩ | cases eq
        obtain ⟨o, g, h1, h2⟩ := look_KGet ph r2 r1 h.2 h.1
        have eo : (lookD (q :: qs) d).isSome = o.isSome := by
          cases o with
          | none => rw [h2 rfl]; rfl
          | some w => obtain ⟨e, he, _⟩ := h1 w rfl; rw [he]; rfl
        rw [eo] at k
        exact .inr (.inr ⟨a, o, rfl, g, k _ P H (.refl ph) (.bl _)⟩)
      · cases ez
  | _ => cases ez
theorem opd_nin : OpD X.K (rNinP X.K) ninX := by
  intro P H v w d e z Q ph r1 r2 ez k
  have ez' : ∃ b, inX d e = some (.bool b) ∧ z = .bool (!b) := by
    unfold ninX notD at ez
    split at ez
    · rename_i b hb; cases ez; exact ⟨b, hb, rfl⟩
    · cases ez
  obtain ⟨b, hb, rfl⟩ := ez'
  cases e with
  | list ds =>
    simp only [inX, inD] at hb
    split at hb
    · rename_i h
      rw [Bool.and_eq_true] at h
      cases hb
      exact .inl ⟨P, d, ds, ph, r1, .inl ⟨r2, h.2⟩, h.1, k _ P H (.refl ph) (.bl _)⟩
    · cases hb
  | tuple ds =>
    simp only [inX, inD] at hb
    split at hb
    · rename_i h
      rw [Bool.and_eq_true] at h
      cases hb
      exact .inl ⟨P, d, ds, ph, r1, .inr ⟨r2, h.2⟩, h.1, k _ P H (.refl ph) (.bl _)⟩
    · cases hb
  | str y => cases d with
    | str x =>
      cases hb
      cases r1
      cases r2
      exact .inr (.inl ⟨x, y, rfl, rfl, k _ P H (.refl ph) (.bl _)⟩)
    | _ => cases hb
  | dict kvs => cases kvs with
    | nil =>
      simp only [inX] at hb
      split at hb
      · rename_i h
        cases hb
        obtain ⟨a, rfl⟩ : ∃ a, w = .ref a := by
          generalize eq : PyData.dict [] = dd at r2
          cases r2 <;> first | exact ⟨_, rfl⟩ | cases eq
        obtain ⟨o, g, h1, h2⟩ := look_KGet ph r2 r1 rfl h
        have eo : o = none := by
          cases o with
          | none => rfl
          | some w => obtain ⟨e, he, _⟩ := h1 w rfl; cases he
        subst eo
        exact .inr (.inr ⟨a, none, rfl, g, k _ P H (.refl ph) (.bl _)⟩)
      · cases hb
    | cons q qs =>
      simp only [inX, inD] at hb
      split at hb
      · rename_i h
        rw [Bool.and_eq_true] at h
        cases hb
        obtain ⟨a, rfl⟩ : ∃ a, w = .ref a := by
          generalize eq : PyData.dict (q :: qs) = dd at r2
          cases r2 <;> first | exact ⟨_, rfl⟩ | cases eq
        obtain ⟨o, g, h1, h2⟩ := look_KGet ph r2 r1 h.2 h.1
        have eo : (lookD (q :: qs) d).isSome = o.isSome := by
          cases o with
          | none => rw [h2 rfl]; rfl
          | some w => obtain ⟨e, he, _⟩ := h1 w rfl; rw [he]; rfl
        rw [eo] at k
        exact .inr (.inr ⟨a, o, rfl, g, k _ P H (.refl ph) (.bl _)⟩)
      · cases hb
  | _ => cases hb
theorem ed_eq (g : Gd X) (hu : X.A.units + 65 < cLine) (ha : ED X W B a ma) (hb : ED X W B b mb) : ED X W B (.Compare a [.Eq] [b] pos) (M.op2 eqD ma mb) := ed_cmp (op_eqP g (by omega)) opd_eq ha hb
theorem ed_in (g : Gd X) (hu : X.A.units + 65 < cLine) (ha : ED X W B a ma) (hb : ED X W B b mb) (hm : behindInMarks .In b = false := by rfl) : ED X W B (.Compare a [.In] [b] pos) (M.op2 inX ma mb) := ed_cmp (op_inP g hu) opd_in ha hb hm
def ltD := int2 (fun _ _ => true) fun i j => .bool (decide (i < j))
def leD := int2 (fun _ _ => true) fun i j => .bool (decide (i ≤ j))
def gtD := int2 (fun _ _ => true) fun i j => .bool (decide (j < i))
def geD := int2 (fun _ _ => true) fun i j => .bool (decide (j ≤ i))
theorem opd_lt : OpD X.K (rI0 fun i j => .bl (decide (i < j))) ltD := opd_int0 fun _ _ _ _ => .bl _
theorem opd_le : OpD X.K (rI0 fun i j => .bl (decide (i ≤ j))) leD := opd_int0 fun _ _ _ _ => .bl _
theorem opd_gt : OpD X.K (rI0 fun i j => .bl (decide (j < i))) gtD := opd_int0 fun _ _ _ _ => .bl _
theorem ed_le (ha : ED X W B a ma) (hb : ED X W B b mb) : ED X W B (.Compare a [.LtE] [b] pos) (M.op2 leD ma mb) := ed_cmp op_le opd_le ha hb
theorem ed_gt (ha : ED X W B a ma) (hb : ED X W B b mb) : ED X W B (.Compare a [.Gt] [b] pos) (M.op2 gtD ma mb) := ed_cmp op_gt opd_gt ha hb
/-- is None, is True .. -/
def isD (d e : PyData) : Option PyData := match d, e with
  | .none, .none => some (.bool true)
  | _, .none => some (.bool false)
  | .bool a, .bool b => some (.bool (decide (a = b)))
  | _, _ => none
def rIsP : R2 := fun x y H Q => (y = .non ∧ Q (.bl (decide (x = .non))) H) ∨ rIsB x y H Q
theorem op_isP : OpR X (compareOp .Is) rIsP := OpR.or op_isN op_isBl
end
end DL

set_option maxHeartbeats 2000000
/-! DL5: tests, displays, items, slices, built-in calls by data. -/
namespace DL
open PySem PySem.Spec PyProof.Rows L2

/-! ### tests -/
def M.tru (m : M PyData) : M Bool := M.bind m fun d => match d with
  | .bool b => M.pure b
  | _ => M.fail
def M.not (m : M Bool) : M Bool := M.bind m fun b => M.pure (!b)
def M.and (a b : M Bool) : M Bool := M.bind a fun c => if c then b else M.pure false
def M.or (a b : M Bool) : M Bool := M.bind a fun c => if c then M.pure true else b
def M.ite {α : Type} (c : M Bool) (a b : M α) : M α := M.bind c fun k => if k then a else b
def M.val (m : M Bool) : M PyData := M.bind m fun b => M.pure (.bool b)
/-- truth of any value -/
def trueD : PyData → Option Bool
  | .none => some false
  | .bool b => some b
  | .int i => some (i != 0)
  | .str x => if x.length ≤ lim then some (x.length != 0) else none
  | .list xs => some (!xs.isEmpty)
  | .tuple xs => some (!xs.isEmpty)
  | .dict _ => none
def M.trt (m : M PyData) : M Bool := M.bind m fun d => M.opt (trueD d)
abbrev WD (X : Cx) (W : WX) (B : List Nat) (e : Expr) (m : M Bool) : Prop := PW X e (tT X.K X.mg W B m)
section
variable {X : Cx} {W : WX} {B : List Nat} {a b c e : Expr} {ma mb : M PyData} {ta tb tc : M Bool} {pos : Pos} {f : PyData → PyData → Option PyData} {r : R2} {rest : List Expr}
theorem rp_bool {K : PySem.W.Frag} {P : Hp} {v : V} {b : Bool} (h : Rp K P v (.bool b)) : v = .bl b := by cases h; rfl
theorem tB_of {σ : L2.St} {H : Hp} {Q : Bool → Hp → Prop} (h : tT X.K X.mg W B (M.tru ma) σ H Q) : tB (tD X.K X.mg W B ma) σ H Q := by
  obtain ⟨bv, R, P, Fs, env, S, q⟩ := h
  refine tD_bind (Same.refl _) S q fun d e1 v P1 H1 F1 S1 s1 r1 h1 => ?_
  cases d with
  | bool k => exact ⟨k, rp_bool r1, h1 P1 H1 F1 S1 s1⟩
  | _ => exact h1.elim
theorem td_cmp {op : CmpOp} (ho : OpR X (compareOp op) r) (hf : OpD X.K r f) (ha : ED X W B a ma) (hb : ED X W B b mb) (hm : behindInMarks op b = false := by first | exact nomark _ | rfl) : TD X W B (.Compare a [op] [b] pos) (M.tru (M.op2 f ma mb)) :=
  PT_mono (pt_cmpR ho ha hb hm) fun σ H Q q => by
    have h1 := tB_of q
    have h2 : tD X.K X.mg W B (M.op2 f ma mb) σ H (fun x H1 => ∃ c, x = .bl c ∧ Q c H1) := h1
    exact tD_op2 hf h2
theorem td_eq (g : Gd X) (hu : X.A.units + 65 < cLine) (ha : ED X W B a ma) (hb : ED X W B b mb) : TD X W B (.Compare a [.Eq] [b] pos) (M.tru (M.op2 eqD ma mb)) := td_cmp (op_eqP g (by omega)) opd_eq ha hb
theorem td_ne (g : Gd X) (hu : X.A.units + 65 < cLine) (ha : ED X W B a ma) (hb : ED X W B b mb) : TD X W B (.Compare a [.NotEq] [b] pos) (M.tru (M.op2 neD ma mb)) := td_cmp (op_neP g (by omega)) opd_ne ha hb
theorem td_nin (g : Gd X) (hu : X.A.units + 65 < cLine) (ha : ED X W B a ma) (hb : ED X W B b mb) (hm : behindInMarks .NotIn b = false := by rfl) : TD X W B (.Compare a [.NotIn] [b] pos) (M.tru (M.op2 ninX ma mb)) := td_cmp (op_ninP g hu) opd_nin ha hb hm
theorem td_lt (ha : ED X W B a ma) (hb : ED X W B b mb) : TD X W B (.Compare a [.Lt] [b] pos) (M.tru (M.op2 ltD ma mb)) := td_cmp op_lt opd_lt ha hb
theorem td_gt (ha : ED X W B a ma) (hb : ED X W B b mb) : TD X W B (.Compare a [.Gt] [b] pos) (M.tru (M.op2 gtD ma mb)) := td_cmp op_gt opd_gt ha hb
theorem truV_of {P H : Hp} {v : V} {d : PyData} {k : Bool} (ph : Same P H) (h : Rp X.K P v d) (e : trueD d = some k) : TruV X.K v H k := by
  cases h with
  | non => cases e; rfl
  | bl b => cases e; rfl
  | int i => cases e; rfl
  | str x =>
    simp only [trueD] at e
    split at e
    · rename_i hl
      cases e
      refine ⟨by rw [lim_eq]; exact hl, ?_⟩
      cases hx : x.length <;> simp <;> omega
    · cases e
  | lst h t =>
    cases e
    refine .inl ⟨_, .inl (rd_mono ph h), ?_⟩
    have := t.length
    cases t <;> rfl
  | tup h t =>
    cases e
    refine .inr (.inl ⟨_, seqT_mono ph h, ?_⟩)
    cases t <;> rfl
  | dK => cases e
  | dT => cases e
theorem td_trt (h : ED X W B e ma) (he : ∀ whole, isTrue e X.env whole = (do let v ← whole; standAt e.pos; holding [v] (truthy v)) := by intro _; rfl) : TD X W B e (M.trt ma) :=
  PT_mono (pt_truth h he) fun σ H Q ⟨bv, R, P, Fs, env, S, q⟩ => tD_bind (Same.refl _) S q fun d e1 v P1 H1 F1 S1 s1 r1 h1 => by
    cases e : trueD d with
    | none => rw [e] at h1; exact h1.elim
    | some k => rw [e] at h1; exact ⟨k, truV_of S1.ph r1 e, h1 P1 H1 F1 S1 s1⟩
theorem td_not (h : TD X W B a ta) : TD X W B (.UnaryOp .Not a pos) (M.not ta) :=
  PT_mono (pt_not h) fun σ H Q ⟨bv, R, P, Fs, env, S, q⟩ => tT_bind (Same.refl _) S q fun k e1 P1 H1 F1 S1 s1 h1 => h1 P1 H1 F1 S1 s1
theorem wd_and1 (h : TD X W B a ta) : WD X W B (.BoolOp .And [a] pos) ta := pw_and1 h
theorem wd_or1 (h : TD X W B a ta) : WD X W B (.BoolOp .Or [a] pos) ta := pw_or1 h
theorem tT_re {K : PySem.W.Frag} {mg : Str → Option Value} {bv : Nat → V} {R P P1 H1 : Hp} {F1 : Nat → List Addr} {σ : L2.St} {e1 : DEnv} {m : M Bool} {Q : Bool → Hp → Prop} (s : Same P P1) (S : Sta K mg B bv R P1 H1 F1 σ e1)
    (q : post (m e1) (OkT K mg B bv R P σ Q) (ExD K mg W B bv R P σ)) : tT K mg W B m σ H1 Q := by
  refine ⟨bv, R, P1, F1, e1, S, ?_⟩
  cases h : m e1 with
  | ok k e => rw [h] at q; exact fun P' H' Fs' S' s' => q P' H' Fs' S' (s.trans s')
  | ex x e => rw [h] at q; exact ExD.mono s q
  | no => rw [h] at q; exact q.elim
theorem tD_re {K : PySem.W.Frag} {mg : Str → Option Value} {bv : Nat → V} {R P P1 H1 : Hp} {F1 : Nat → List Addr} {σ : L2.St} {e1 : DEnv} {m : M PyData} {Q : VK} (s : Same P P1) (S : Sta K mg B bv R P1 H1 F1 σ e1)
    (q : post (m e1) (OkD K mg B bv R P σ Q) (ExD K mg W B bv R P σ)) : tD K mg W B m σ H1 Q := by
  refine ⟨bv, R, P1, F1, e1, S, ?_⟩
  cases h : m e1 with
  | ok k e => rw [h] at q; exact fun v P' H' Fs' S' s' r' => q v P' H' Fs' S' (s.trans s') r'
  | ex x e => rw [h] at q; exact ExD.mono s q
  | no => rw [h] at q; exact q.elim
theorem wd_and (ha : TD X W B a ta) (hb : WD X W B (.BoolOp .And (b :: rest) pos) tb) : WD X W B (.BoolOp .And (a :: b :: rest) pos) (M.and ta tb) :=
  PW_mono (pw_and ha hb) fun σ H Q ⟨bv, R, P, Fs, env, S, q⟩ => tT_bind (Same.refl _) S q fun k e1 P1 H1 F1 S1 s1 h1 => by
    cases k with
    | true => exact iteT (tT_re s1 S1 h1)
    | false => exact iteF (h1 P1 H1 F1 S1 s1)
theorem wd_or (ha : TD X W B a ta) (hb : WD X W B (.BoolOp .Or (b :: rest) pos) tb) : WD X W B (.BoolOp .Or (a :: b :: rest) pos) (M.or ta tb) :=
  PW_mono (pw_or ha hb) fun σ H Q ⟨bv, R, P, Fs, env, S, q⟩ => tT_bind (Same.refl _) S q fun k e1 P1 H1 F1 S1 s1 h1 => by
    cases k with
    | true => exact iteT (h1 P1 H1 F1 S1 s1)
    | false => exact iteF (tT_re s1 S1 h1)
theorem td_w (h : WD X W B e ta) : TD X W B e ta := h.pt
/-! and, or, not as values: each part but the last a truth -/
def M.andV (a b : M PyData) : M PyData := M.bind (M.tru a) fun c => if c then b else M.pure (.bool false)
def M.orV (a b : M PyData) : M PyData := M.bind (M.tru a) fun c => if c then M.pure (.bool true) else b
theorem ed_and (ha : ED X W B a ma) (hb : ED X W B (.BoolOp .And (b :: rest) pos) mb) : ED X W B (.BoolOp .And (a :: b :: rest) pos) (M.andV ma mb) :=
  PE_mono (pe_and ha hb) fun σ H Q ⟨bv, R, P, Fs, env, S, q⟩ => tB_of (Q := fun c H1 => if c = true then tD X.K X.mg W B mb σ H1 Q else Q (.bl false) H1) ⟨bv, R, P, Fs, env, S, bindD q (fun k e h1 P1 H1 F1 S1 s1 => by
    cases k with
    | true => exact iteT (tD_re s1 S1 h1)
    | false => exact iteF (h1 _ P1 H1 F1 S1 s1 (.bl false))) fun _ _ h => h⟩
theorem ed_or (ha : ED X W B a ma) (hb : ED X W B (.BoolOp .Or (b :: rest) pos) mb) : ED X W B (.BoolOp .Or (a :: b :: rest) pos) (M.orV ma mb) :=
  PE_mono (pe_or ha hb) fun σ H Q ⟨bv, R, P, Fs, env, S, q⟩ => tB_of (Q := fun c H1 => if c = true then Q (.bl true) H1 else tD X.K X.mg W B mb σ H1 Q) ⟨bv, R, P, Fs, env, S, bindD q (fun k e h1 P1 H1 F1 S1 s1 => by
    cases k with
    | true => exact iteT (h1 _ P1 H1 F1 S1 s1 (.bl true))
    | false => exact iteF (tD_re s1 S1 h1)) fun _ _ h => h⟩
theorem ed_one {op : BoolOp} (ha : ED X W B a ma) : ED X W B (.BoolOp op [a] pos) ma := pe_one ha
def M.notV (a : M PyData) : M PyData := M.bind (M.tru a) fun c => M.pure (.bool (!c))
theorem ed_if (hc : TD X W B c tc) (ha : ED X W B a ma) (hb : ED X W B b mb) : ED X W B (.IfExp c a b pos) (M.ite tc ma mb) :=
  PE_mono (pe_ifExp hc ha hb) fun σ H Q ⟨bv, R, P, Fs, env, S, q⟩ => tT_bind (Same.refl _) S q fun k e1 P1 H1 F1 S1 s1 h1 => by
    cases k with
    | true => exact iteT (tD_re s1 S1 h1)
    | false => exact iteF (tD_re s1 S1 h1)
/-- a < b < c -/
def M.chain (f f' : PyData → PyData → Option PyData) (a b c : M PyData) : M PyData := M.bind a fun x => M.bind b fun y => M.bind (M.opt (f x y)) fun k => match k with
  | .bool true => M.bind c fun z => M.opt (f' y z)
  | .bool false => M.pure (.bool false)
  | _ => M.fail
end

/-! ### arguments and displays -/
section
variable {X : Cx} {W : WX} {B : List Nat} {e : Expr} {es : List Expr} {m : M PyData} {ml : M (List PyData)} {pos : Pos}
def M.nil : M (List PyData) := M.pure []
def M.cons (a : M PyData) (l : M (List PyData)) : M (List PyData) := M.bind a fun x => M.bind l fun xs => M.pure (x :: xs)
theorem ad_nil : AD X W B [] M.nil := PA_mono pa_nil fun σ H Q ⟨bv, R, P, Fs, env, S, q⟩ => q [] P H Fs S (Same.refl _) .nil
theorem ad_cons (ha : ED X W B e m) (hr : AD X W B es ml) (hs : starEach (e :: es) X.env = (false, eval e X.env) :: starEach es X.env := by rfl) : AD X W B (e :: es) (M.cons m ml) :=
  PA_mono (pa_cons ha hr hs) fun σ H Q ⟨bv, R, P, Fs, env, S, q⟩ => tD_bind (Same.refl _) S q fun d e1 v P1 H1 F1 S1 s1 r1 h1 => tL_bind s1 S1 h1 fun ds e2 vs P2 H2 F2 S2 s2 r2 h2 =>
    h2 (v :: vs) P2 H2 F2 S2 (s1.trans s2) (.cons (r1.mono s2) r2)
def M.tup (l : M (List PyData)) : M PyData := M.bind l fun xs => if xs.length ≤ lim then M.pure (.tuple xs) else M.fail
theorem ed_tup {k : Nat} (h : AD X W B es ml) : ED X W B (.Tuple es k pos) (M.tup ml) :=
  PE_mono (pe_tup h) fun σ H Q ⟨bv, R, P, Fs, env, S, q⟩ => tL_bind (Same.refl _) S q fun ds e1 vs P1 H1 F1 S1 s1 r1 h1 => by
    by_cases hl : ds.length ≤ lim
    · rw [if_pos hl] at h1
      have := r1.length
      refine ⟨by rw [lim_eq]; omega, fun p hp => ?_⟩
      have x := ext_new S1.ph (.tup vs) hp
      exact h1 _ _ _ F1 (S1.ext x) (s1.trans x.pp) (.tup upd_same (r1.mono x.pp))
    · rw [if_neg hl] at h1; exact h1.elim
def ownL (ds : List PyData) : OD := .lst (ds.map .pur)
theorem dataL_pur : ∀ ds : List PyData, OD.dataL (ds.map .pur) = some ds
  | [] => rfl
  | d :: ds => by
    rw [List.map_cons]
    unfold OD.dataL
    rw [dataL_pur ds]
    simp only [OD.data]
theorem owl_pur {K : PySem.W.Frag} {mg : Str → Option Value} {P H : Hp} : ∀ {vs : List V} {ds : List PyData}, RpA K P vs ds → OwL K mg P H [] vs (ds.map .pur)
  | _, _, .nil => .nil
  | _, _, .cons h t => .cons (F := []) (G := []) (.pur h) (owl_pur t)
/-- a new list of frozen items -/
def M.lst (l : M (List PyData)) : M OD := M.bind l fun xs => if xs.length ≤ lim then M.pure (ownL xs) else M.fail
theorem eo_lst (h : AD X W B es ml) : EO X W B (.List es pos) (M.lst ml) :=
  PE_mono (pe_lst h) fun σ H Q ⟨bv, R, P, Fs, env, S, q⟩ => tL_bind (Same.refl _) S q fun ds e1 vs P1 H1 F1 S1 s1 r1 h1 => by
    by_cases hl : ds.length ≤ lim
    · rw [if_pos hl] at h1
      have := r1.length
      refine ⟨by rw [lim_eq]; omega, fun p hp => ?_⟩
      have x := ext_heap S1.ph (.lst vs) hp
      exact h1 _ _ _ F1 [p] (S1.ext x) (s1.trans x.pp) (.lst upd_same (owl_pur r1)) (Free.one S1 hp)
    · rw [if_neg hl] at h1; exact h1.elim
end

/-! ### items and slices -/
/-- an index into n things -/
def ixD (n : Nat) (i : Int) : Option Nat := if 0 ≤ i then (if i < n then some i.toNat else none) else if -(n : Int) ≤ i then some (i + n).toNat else none
def itemD (c i : PyData) : Option PyData := match c with
  | .list xs => (match i with
    | .int k => (ixD xs.length k).bind fun j => xs[j]?
    | _ => none)
  | .tuple xs => (match i with
    | .int k => (ixD xs.length k).bind fun j => xs[j]?
    | _ => none)
  | .str x => (match i with
    | .int k => if x.length ≤ lim then ((ixD x.length k).bind fun j => x.cps.toList[j]?).map fun s => .str ⟨#[s]⟩ else none
    | _ => none)
  | .dict kvs => (match kvs with
    | [] => none
    | _ => if isKey i && kvs.all fun p => flatKey p.1 == flatKey i then lookD kvs i else none)
  | _ => none
def rIxP (K : PySem.W.Frag) : R2 := fun x y H Q => rIx K x y H Q ∨ ∃ a v, x = .ref a ∧ KGet K H a y (some v) ∧ Q v H
section
variable {X : Cx} {W : WX} {B : List Nat} {a b : Expr} {ma mb : M PyData} {pos : Pos}
theorem kget_dict {pins : List (Addr × Obj)} {σ : L2.St} {H : Hp} {s : Shared} {c : Addr} {y : V} {o : Option V} (I : Inv X pins σ H s) (g : KGet X.K H c y o) : s.TypeIs (.ref c) "dict" ∧ ∀ d, Value.ref c = .ref d → ∃ ob, s.heap.get? d = some ob ∧ ob.dict = none := by
  obtain ⟨h1, h2, _⟩ := isD_at I g.isD
  exact ⟨h1, h2⟩
theorem ix_P (hu : X.A.units + 1 < cLine) : IxR X (rIxP X.K) := by
  refine IxR.or ix_seq ?_
  intro value slice pins s σ H x y v u Q I rx ry ⟨c, w, ex, g, q⟩ hs
  subst ex
  cases (show v = Value.ref c from rx)
  exact tail_any (kget_dict I g).1 PySem.F.slot_dict_getitem.lookup (k_getItem hu I g ry fun w' s' I' rw' => ⟨w, H, I', rw', q⟩) hs
theorem ixD_eq (n : Nat) (i : Int) : ixD n i = ixN n i := rfl
theorem atI_of {xs : List V} {ds : List PyData} {K : PySem.W.Frag} {P : Hp} {k : Int} {d : PyData} (t : RpA K P xs ds) (h : (ixD ds.length k).bind (fun j => ds[j]?) = some d) : ∃ v, atI xs k = some v ∧ Rp K P v d := by
  rw [← t.length] at h
  cases e : ixD xs.length k with
  | none => rw [e] at h; cases h
  | some j =>
    rw [e] at h
    obtain ⟨v, h1, h2⟩ := t.getD (i := j) h
    refine ⟨v, ?_, h2⟩
    unfold atI
    rw [← ixD_eq, e]
    exact h1
theorem opd_ix : OpD X.K (rIxP X.K) itemD := by
  intro P H v w d e z Q ph r1 r2 ez k
  cases d with
  | list ds =>
    cases e with
    | int i =>
      cases r1 with
      | lst h t =>
        cases r2
        obtain ⟨y, h1, h2⟩ := atI_of t ez
        exact .inl (.inl ⟨_, _, i, y, rfl, rfl, .inl (rd_mono ph h), h1, k _ P H (.refl ph) h2⟩)
    | _ => cases ez
  | tuple ds =>
    cases e with
    | int i =>
      cases r1 with
      | tup h t =>
        cases r2
        obtain ⟨y, h1, h2⟩ := atI_of t ez
        exact .inl (.inr (.inl ⟨_, _, i, y, rfl, rfl, seqT_mono ph h, h1, k _ P H (.refl ph) h2⟩))
    | _ => cases ez
  | str x =>
    cases e with
    | int i =>
      simp only [itemD] at ez
      split at ez
      · rename_i hl
        cases r1
        cases r2
        obtain ⟨c, hc, ez⟩ := Option.map_eq_some_iff.mp ez
        subst ez
        refine .inl (.inr (.inr ⟨x, i, c, rfl, rfl, by rw [lim_eq]; exact hl, ?_, k _ P H (.refl ph) (.str _)⟩))
        have el : x.cps.toList.length = x.length := by simp [Str.length]
        unfold atI
        rw [el, ← ixD_eq]
        exact hc
      · cases ez
    | _ => cases ez
  | dict kvs =>
    cases kvs with
    | nil => cases ez
    | cons q qs =>
      simp only [itemD] at ez
      split at ez
      · rename_i h
        rw [Bool.and_eq_true] at h
        obtain ⟨a, rfl⟩ : ∃ a, v = .ref a := by
          generalize eq : PyData.dict (q :: qs) = dd at r1
          cases r1 <;> first | exact ⟨_, rfl⟩ | cases eq
        obtain ⟨o, g, h1, h2⟩ := look_KGet ph r1 r2 h.2 h.1
        cases o with
        | none => rw [h2 rfl] at ez; cases ez
        | some w =>
          obtain ⟨e, he, hr⟩ := h1 w rfl
          rw [he] at ez
          cases ez
          exact .inr ⟨a, w, rfl, g, k _ P H (.refl ph) hr⟩
      · cases ez
  | _ => cases ez
theorem ed_ix (hu : X.A.units + 65 < cLine) (ha : ED X W B a ma) (hb : ED X W B b mb) (hs : PlainIx b := by intro _ _; rfl) : ED X W B (.Subscript a b pos) (M.op2 itemD ma mb) :=
  PE_mono (pe_ix (ix_P (by omega)) ha hb hs) fun _ _ _ h => tD_op2 opd_ix h
end
/-! slices: x[a:b] -/
def cutD (xs : List PyData) (lo hi : Option Int) : List PyData := (xs.drop (HT.sIx xs.length 0 lo)).take (HT.sIx xs.length xs.length hi - HT.sIx xs.length 0 lo)
def sliceD (c : PyData) (lo hi : Option Int) : Option PyData := match c with
  | .list xs => some (.list (cutD xs lo hi))
  | .tuple xs => some (.tuple (cutD xs lo hi))
  | .str x => if x.length ≤ lim then some (.str (Txt.slice x lo hi)) else none
  | _ => none
/-- the slice's ends -/
def M.noEnd : M (Option Int) := M.pure none
def M.anEnd (m : M PyData) : M (Option Int) := M.bind m fun d => match d with
  | .int i => M.pure (some i)
  | _ => M.fail
def M.slice (c : M PyData) (lo hi : M (Option Int)) : M PyData := M.bind c fun x => M.bind lo fun l => M.bind hi fun h => M.opt (sliceD x l h)
section
variable {K : PySem.W.Frag} {mg : Str → Option Value} {W : WX} {B : List Nat}
def tE (K : PySem.W.Frag) (mg : Str → Option Value) (W : WX) (B : List Nat) (m : M (Option Int)) : TO := fun σ H Q => ∃ bv R P Fs env, Sta K mg B bv R P H Fs σ env ∧ post (m env) (OkT K mg B bv R P σ Q) (ExD K mg W B bv R P σ)
theorem tE_bind {bv : Nat → V} {R P P0 H : Hp} {Fs : Nat → List Addr} {σ : L2.St} {env : DEnv} {β : Type} {m : M (Option Int)} {f : Option Int → M β} {okβ : β → DEnv → Prop} {Q : Option Int → Hp → Prop} (s0 : Same P0 P) (S : Sta K mg B bv R P H Fs σ env) (h : post (M.bind m f env) okβ (ExD K mg W B bv R P0 σ))
    (k : ∀ d env1 P1 H1 Fs1, Sta K mg B bv R P1 H1 Fs1 σ env1 → Same P P1 → post (f d env1) okβ (ExD K mg W B bv R P0 σ) → Q d H1) : tE K mg W B m σ H Q :=
  ⟨bv, R, P, Fs, env, S, bindD h (fun d e q P1 H1 Fs1 S1 s1 => k d e P1 H1 Fs1 S1 s1 q) fun _ _ q => q.mono s0⟩
end
abbrev PD (X : Cx) (W : WX) (B : List Nat) (e : Option Expr) (m : M (Option Int)) : Prop := PO X e (tE X.K X.mg W B m)
def rSlP (K : PySem.W.Frag) : V → Option Int → Option Int → Hp → VK → Prop := fun x lo hi H Q => (∃ a xs, x = .ref a ∧ Rd H a (.lst xs) ∧ ∀ p, H p = none → Q (.ref p) (upd H p (.lst (cutV xs lo hi)))) ∨ rSlA K x lo hi H Q ∨ ∃ z, x = .str z ∧ z.length ≤ sizeLine ∧ Q (.str (Txt.slice z lo hi)) H
section
variable {X : Cx} {W : WX} {B : List Nat} {a e : Expr} {ma m : M PyData} {ml mh : M (Option Int)} {lo hi : Option Expr} {pos p2 : Pos}
theorem PO_mono {t t' : TO} (h : PO X lo t) (i : ∀ σ H Q, t' σ H Q → t σ H Q) : PO X lo t' := ⟨fun pins s σ H Q I q => h.run pins s σ H Q I (i σ H Q q)⟩
theorem pd_none : PD X W B none M.noEnd := PO_mono po_none fun σ H Q ⟨bv, R, P, Fs, env, S, q⟩ => q P H Fs S (Same.refl _)
theorem pd_some (h : ED X W B e m) : PD X W B (some e) (M.anEnd m) := PO_mono (po_some h) fun σ H Q ⟨bv, R, P, Fs, env, S, q⟩ => tD_bind (Same.refl _) S q fun d e1 v P1 H1 F1 S1 s1 r1 h1 => by
  cases d with
  | int i => cases r1; exact ⟨i, rfl, h1 P1 H1 F1 S1 s1⟩
  | _ => exact h1.elim
theorem cut_rp {K : PySem.W.Frag} {P : Hp} {xs : List V} {ds : List PyData} (t : RpA K P xs ds) (lo hi : Option Int) : RpA K P (cutV xs lo hi) (cutD ds lo hi) := by
  unfold cutV cutD
  rw [t.length]
  exact (t.drop _).take _
theorem cutD_all {ds : List PyData} {lo hi : Option Int} (h : HT.sIx ds.length 0 lo = 0 ∧ HT.sIx ds.length ds.length hi = ds.length) : cutD ds lo hi = ds := by
  unfold cutD
  rw [h.1, h.2, List.drop_zero, Nat.sub_zero, List.take_length]
theorem sl_listR : SlR X (fun x lo hi H Q => ∃ a xs, x = .ref a ∧ Rd H a (.lst xs) ∧ ∀ p, H p = none → Q (.ref p) (upd H p (.lst (cutV xs lo hi)))) := by
  intro pins s σ H x v vl vu lo hi sl Q I rx hs pl pu ⟨a, xs, e, h, q⟩
  exact sl_list pins s σ H x v vl vu lo hi sl Q I rx hs pl pu ⟨a, xs, e, .inl h, q⟩
theorem sl_P : SlR X (rSlP X.K) := SlR.or sl_listR (SlR.or sl_tupA C8.sl_txt)
theorem sld {P H : Hp} {v : V} {d z : PyData} {lo hi : Option Int} {Q : VK} (ph : Same P H) (r1 : Rp X.K P v d) (ez : sliceD d lo hi = some z) (k : ∀ u P' H', Ext P H P' H' → Rp X.K P' u z → Q u H') : rSlP X.K v lo hi H Q := by
  cases d with
  | list ds =>
    cases ez
    cases r1 with
    | lst h t =>
      exact .inl ⟨_, _, rfl, rd_mono ph h, fun p hp => k _ _ _ (ext_new ph _ hp) (.lst (.inl upd_same) ((cut_rp t lo hi).mono (ext_new ph _ hp).pp))⟩
  | tuple ds =>
    cases ez
    cases r1 with
    | tup h t =>
      refine .inr (.inl ⟨_, _, rfl, seqT_mono ph h, fun e => ?_, fun _ p hp => k _ _ _ (ext_new ph _ hp) (.tup upd_same ((cut_rp t lo hi).mono (ext_new ph _ hp).pp))⟩)
      refine k _ P H (.refl ph) ?_
      rw [t.length] at e
      rw [cutD_all e]
      exact .tup h t
  | str x =>
    simp only [sliceD] at ez
    split at ez
    · rename_i hl
      cases ez
      cases r1
      exact .inr (.inr ⟨x, rfl, by rw [lim_eq]; exact hl, k _ P H (.refl ph) (.str _)⟩)
    · cases ez
  | _ => cases ez
theorem ed_slice (he : ED X W B a ma) (hl : PD X W B lo ml) (hu : PD X W B hi mh) : ED X W B (.Subscript a (.Slice lo hi none p2) pos) (M.slice ma ml mh) :=
  PE_mono (pe_slice sl_P he hl hu) fun σ H Q ⟨bv, R, P, Fs, env, S, q⟩ => tD_bind (Same.refl _) S q fun d e1 v P1 H1 F1 S1 s1 r1 h1 => tE_bind s1 S1 h1 fun l e2 P2 H2 F2 S2 s2 h2 => tE_bind (s1.trans s2) S2 h2 fun h e3 P3 H3 F3 S3 s3 h3 => by
    cases e : sliceD d l h with
    | none => rw [e] at h3; exact h3.elim
    | some z => rw [e] at h3; exact sld S3.ph (r1.mono (s2.trans s3)) e fun u P4 H4 x r4 => h3 u P4 H4 F3 (S3.ext x) (s1.trans (s2.trans (s3.trans x.pp))) r4
end

/-! ### calls of what is built in -/
section
variable {X : Cx} {W : WX} {B : List Nat} {x : Str} {p pos : Pos} {e : Expr} {es : List Expr} {ml : M (List PyData)} {id T : String} {r : List V → Hp → VK → Prop} {f : List PyData → Option PyData}
theorem tD_opL {σ : L2.St} {H : Hp} {Q : VK} (hf : CallD X.K r f) (h : tD X.K X.mg W B (M.opL f ml) σ H Q) : tCB r (tL X.K X.mg W B ml) σ H Q := by
  obtain ⟨bv, R, P, Fs, env, S, q⟩ := h
  refine tL_bind (Same.refl _) S q fun ds e1 vs P1 H1 F1 S1 s1 r1 h1 => ?_
  cases e : f ds with
  | none => rw [e] at h1; exact h1.elim
  | some z => rw [e] at h1; exact hf P1 H1 vs ds z Q S1.ph r1 e fun u P3 H3 x r3 => h1 u P3 H3 F1 (S1.ext x) (s1.trans x.pp) r3
theorem ed_callB (hc : CallR X (.builtin id) r) (hf : CallD X.K r f) (hg : Gl X x) (hm : X.mg x = none) (hv : bootBuiltins x = some (.builtin id)) (ha : AD X W B (e :: es) ml) (hn : x ≠ "__name__" := by decide) (hdb : (x == ("__debug__" : Str)) = false := by decide)
    (he : starEach (e :: es) X.env = (false, eval e X.env) :: starEach es X.env := by rfl) (hpl : (backTo pos (starEach es X.env)).any (·.1) = false := by rfl) : ED X W B (.Call (.Name x p) (e :: es) [] pos) (M.opL f ml) :=
  PE_mono (pe_callB hc hg hm hv ha hn hdb he hpl) fun _ _ _ h => tD_opL hf h
theorem ed_callTy (hc : CallR X (.type T) r) (hf : CallD X.K r f) (hg : Gl X x) (hm : X.mg x = none) (hv : bootBuiltins x = some (.type T)) (ha : AD X W B (e :: es) ml) (hn : x ≠ "__name__" := by decide) (hdb : (x == ("__debug__" : Str)) = false := by decide)
    (he : starEach (e :: es) X.env = (false, eval e X.env) :: starEach es X.env := by rfl) (hpl : (backTo pos (starEach es X.env)).any (·.1) = false := by rfl) : ED X W B (.Call (.Name x p) (e :: es) [] pos) (M.opL f ml) :=
  PE_mono (pe_callTy hc hg hm hv ha hn hdb he hpl) fun _ _ _ h => tD_opL hf h

/-- one argument, two -/
def one (f : PyData → Option PyData) : List PyData → Option PyData
  | [d] => f d
  | _ => none
def two (f : PyData → PyData → Option PyData) : List PyData → Option PyData
  | [d, e] => f d e
  | _ => none
theorem calld1 {r : List V → Hp → VK → Prop} {f : PyData → Option PyData} (h : ∀ (P H : Hp) (v : V) (d z : PyData) (Q : VK), Same P H → Rp X.K P v d → f d = some z → (∀ u P' H', Ext P H P' H' → Rp X.K P' u z → Q u H') → r [v] H Q) : CallD X.K r (one f) := by
  intro P H vs ds z Q ph rs ez k
  match vs, ds, rs with
  | _, _, .nil => cases ez
  | _, _, .cons r1 .nil => exact h P H _ _ z Q ph r1 ez k
  | _, _, .cons r1 (.cons r2 t) => simp [one] at ez
theorem calld2 {r : List V → Hp → VK → Prop} {f : PyData → PyData → Option PyData} (h : ∀ (P H : Hp) (v w : V) (d e z : PyData) (Q : VK), Same P H → Rp X.K P v d → Rp X.K P w e → f d e = some z → (∀ u P' H', Ext P H P' H' → Rp X.K P' u z → Q u H') → r [v, w] H Q) : CallD X.K r (two f) := by
  intro P H vs ds z Q ph rs ez k
  match vs, ds, rs with
  | _, _, .nil => cases ez
  | _, _, .cons r1 .nil => cases ez
  | _, _, .cons r1 (.cons r2 .nil) => exact h P H _ _ _ _ z Q ph r1 r2 ez k
  | _, _, .cons r1 (.cons r2 (.cons r3 t)) => simp [two] at ez
/-! len -/
def lenD : PyData → Option PyData
  | .list xs => some (.int xs.length)
  | .tuple xs => some (.int xs.length)
  | .str x => if x.length ≤ lim then some (.int x.length) else none
  | .dict kvs => (match kvs with
    | [] => some (.int 0)
    | _ => if kvs.all fun p => flatKey p.1 then some (.int kvs.length) else none)
  | _ => none
def rLen (K : PySem.W.Frag) : List V → Hp → VK → Prop := fun xs H Q => (∃ x n, xs = [x] ∧ LenV K x H n ∧ Q (.int n) H) ∨ ∃ a kvs, xs = [.ref a] ∧ Rd H a (.dK kvs) ∧ Q (.int kvs.length) H
theorem call_lenP : CallR X (.builtin "len") (rLen X.K) := by
  refine CallR.or call_len ?_
  intro pins s σ H xs us Q I r ⟨a, kvs, e, h, q⟩
  subst e
  obtain ⟨u, rfl, ru⟩ := vals1 r
  cases ru
  exact d_len I h fun t s' I' => ⟨.int kvs.length, H, I', ⟨_, rfl⟩, q⟩
theorem cd_len : CallD X.K (rLen X.K) (one lenD) := calld1 fun P H v d z Q ph r1 ez k => by
  cases r1 with
  | lst h t =>
    cases ez
    exact .inl ⟨_, _, rfl, .inl ⟨_, .inl (rd_mono ph h), t.length.symm⟩, k _ P H (.refl ph) (.int _)⟩
  | tup h t =>
    cases ez
    exact .inl ⟨_, _, rfl, .inr ⟨_, seqT_mono ph h, t.length.symm⟩, k _ P H (.refl ph) (.int _)⟩
  | str x =>
    simp only [lenD] at ez
    split at ez
    · rename_i hl
      cases ez
      exact .inl ⟨_, _, rfl, ⟨by rw [lim_eq]; exact hl, rfl⟩, k _ P H (.refl ph) (.int _)⟩
    · cases ez
  | @dK a ks xs ds h hl t =>
    cases ks with
    | nil =>
      simp [lenD] at ez
      subst ez
      exact .inr ⟨a, _, rfl, rd_mono ph h, k _ P H (.refl ph) (by rw [List.zip_nil_left]; exact .int _)⟩
    | cons k1 ks =>
      cases t with
      | nil => simp at hl
      | cons h1 t =>
        simp only [lenD, List.map_cons, List.zip_cons_cons] at ez
        split at ez
        · cases ez
          have e1 := t.length
          refine .inr ⟨a, _, rfl, rd_mono ph h, k _ P H (.refl ph) ?_⟩
          simp only [List.length_cons, List.length_zip, List.length_map, List.zip_cons_cons] at hl ⊢
          rw [e1]
          exact .int _
        · cases ez
  | @dT a ks xs ds h hl hne t =>
    cases ks with
    | nil => exact absurd rfl hne
    | cons k1 ks =>
      cases t with
      | nil => simp at hl
      | cons h1 t => simp [lenD, flatKey] at ez
  | _ => cases ez
/-! isinstance -/
def tyName : PyData → String
  | .none => "NoneType"
  | .bool _ => "bool"
  | .int _ => "int"
  | .str _ => "str"
  | .list _ => "list"
  | .tuple _ => "tuple"
  | .dict _ => "dict"
theorem kit_P {pins : List (Addr × Obj)} {σ : L2.St} {s : Shared} {P H : Hp} {v : V} {u : Value} {d : PyData} (I : Inv X pins σ H s) (ph : Same P H) (h : Rp X.K P v d) (rx : RelV v u) :
    ∃ Z : Heap → Prop, PySem.W.KitX X.K u (.type (tyName d)) Z ∧ Z s.heap ∧ u ≠ .builtin "__main__.__loader__#opaque" := by
  cases h with
  | non => exact kit_of I rx (.base .non)
  | bl b => exact kit_of I rx (.base (.bl b))
  | int i => exact kit_of I rx (.base (.int i))
  | str x => exact kit_of I rx (.base (.str x))
  | lst h t =>
    rcases h with h | ⟨o, h⟩
    · exact kit_of I rx (.base (.lst (ph _ _ h)))
    · exact kit_of I rx (.base (.frz (ph _ _ h)))
  | tup h t =>
    exact kit_of I rx (.base (.tup (ph _ _ h)))
  | dK h hl t =>
    rcases h with h | ⟨o, h⟩
    · exact kit_of I rx (.base (.dK (ph _ _ h)))
    · exact kit_of I rx (.fDict (ph _ _ h))
  | dT h hl hne t =>
    cases (show u = Value.ref _ from rx)
    obtain ⟨_, _, xs, _, o, es, ep, h1, h2, _⟩ := (rd_mono ph h).ok I.hok
    exact ⟨_, PySem.W.kitx_dict, ⟨o, h1, h2.1⟩, fun z => nomatch z⟩
def rIsiP (K : PySem.W.Frag) (T : String) : List V → Hp → VK → Prop := fun xs H Q => ∃ x P d b, xs = [x, .ty T] ∧ Same P H ∧ Rp K P x d ∧ kitB (tyName d) T = some b ∧ Q (.bl b) H
theorem call_isiP {T : String} : CallR X (.builtin "isinstance") (rIsiP X.K T) := by
  intro pins s σ H xs us Q I r ⟨x, P, d, b, e, ph, hd, k, q⟩
  subst e
  obtain ⟨u1, u2, rfl, r1, r2⟩ := vals2 r
  cases (show u2 = Value.type T from r2)
  obtain ⟨Z, hz, p, hx⟩ := kit_P I ph hd r1
  exact PySem.W.kia_one hz I.kIn p (kit_ty k) hx fun tk => ⟨.bl b, H, I.tok tk, rfl, q⟩
/-- isinstance of data -/
def isA (T : String) (d : PyData) : Bool := tyName d == T || (T == "int" && tyName d == "bool")
def M.isi (T : String) (m : M PyData) : M PyData := M.op1 (fun d => some (.bool (isA T d))) m
theorem ed_isi {T : String} {y : Str} {m : M PyData} {p1 p2 : Pos} (hT : ∀ d, kitB (tyName d) T = some (isA T d)) (hv : bootBuiltins y = some (.type T)) (hg : Gl X "isinstance") (hm : X.mg "isinstance" = none) (hgT : Gl X y) (hmT : X.mg y = none) (he : ED X W B e m)
    (hn : y ≠ "__name__" := by decide) (hdb : (y == ("__debug__" : Str)) = false := by decide)
    (hs1 : starEach [e, .Name y p2] X.env = (false, eval e X.env) :: starEach [.Name y p2] X.env := by rfl) (hs2 : starEach [.Name y p2] X.env = (false, eval (.Name y p2) X.env) :: starEach [] X.env := by rfl)
    (hpl : (backTo pos (starEach [.Name y p2] X.env)).any (·.1) = false := by rfl) : ED X W B (.Call (.Name "isinstance" p1) [e, .Name y p2] [] pos) (M.isi T m) :=
  PE_mono (pe_callB (call_isiP (T := T)) hg hm (by decide +kernel) (pa_cons he (pa_cons (pe_bltn (v := .ty T) hgT hmT hv rfl hn hdb) pa_nil hs2) hs1) (by decide) (by decide) hs1 hpl) fun σ H Q ⟨bv, R, P, Fs, env, S, q⟩ =>
    tD_bind (Same.refl _) S q fun d e1 v P1 H1 F1 S1 s1 r1 h1 => ⟨v, P1, d, _, rfl, S1.ph, r1, hT d, h1 _ P1 H1 F1 S1 s1 (.bl _)⟩
theorem isA_str (d : PyData) : kitB (tyName d) "str" = some (isA "str" d) := by cases d <;> (simp only [isA, tyName]; decide +kernel)
end
end DL

set_option maxHeartbeats 2000000
/-! DL6: statements. -/
namespace DL
open PySem PySem.Spec PyProof.Rows L2

section
variable {K : PySem.W.Frag} {mg : Str → Option Value} {W : WX} {B : List Nat} {bv : Nat → V} {R P P0 H P' H' : Hp} {Fs Fs' : Nat → List Addr} {σ : L2.St} {env : DEnv}
theorem tD_bindS {β : Type} {m : M PyData} {f : PyData → M β} {okβ : β → DEnv → Prop} {Q : VK} (s0 : Same P0 P) (S : Sta K mg B bv R P H Fs σ env) (h : post (M.bind m f env) okβ (ExS K mg W B bv R P0))
    (k : ∀ d env1 v P1 H1 Fs1, Sta K mg B bv R P1 H1 Fs1 σ env1 → Same P P1 → Rp K P1 v d → post (f d env1) okβ (ExS K mg W B bv R P0) → Q v H1) : tD K mg W B m σ H Q :=
  ⟨bv, R, P, Fs, env, S, bindD h (fun d e q v P1 H1 Fs1 S1 s1 r1 => k d e v P1 H1 Fs1 S1 s1 r1 q) fun _ _ q => (ExS.mono s0 q).d⟩
theorem tO_bindS {β : Type} {m : M OD} {f : OD → M β} {okβ : β → DEnv → Prop} {Q : VK} (s0 : Same P0 P) (S : Sta K mg B bv R P H Fs σ env) (h : post (M.bind m f env) okβ (ExS K mg W B bv R P0))
    (k : ∀ x env1 v P1 H1 Fs1 G, Sta K mg B bv R P1 H1 Fs1 σ env1 → Same P P1 → Ow K mg P1 H1 G v x → Free R P1 Fs1 G → post (f x env1) okβ (ExS K mg W B bv R P0) → Q v H1) : tO K mg W B m σ H Q :=
  ⟨bv, R, P, Fs, env, S, bindD h (fun d e q v P1 H1 Fs1 G S1 s1 r1 f1 => k d e v P1 H1 Fs1 G S1 s1 r1 f1 q) fun _ _ q => (ExS.mono s0 q).d⟩
theorem tT_bindS {β : Type} {m : M Bool} {f : Bool → M β} {okβ : β → DEnv → Prop} {Q : Bool → Hp → Prop} (s0 : Same P0 P) (S : Sta K mg B bv R P H Fs σ env) (h : post (M.bind m f env) okβ (ExS K mg W B bv R P0))
    (k : ∀ d env1 P1 H1 Fs1, Sta K mg B bv R P1 H1 Fs1 σ env1 → Same P P1 → post (f d env1) okβ (ExS K mg W B bv R P0) → Q d H1) : tT K mg W B m σ H Q :=
  ⟨bv, R, P, Fs, env, S, bindD h (fun d e q P1 H1 Fs1 S1 s1 => k d e P1 H1 Fs1 S1 s1 q) fun _ _ q => (ExS.mono s0 q).d⟩
theorem OkS.mono {D : Ends} {f : Flw} {e : DEnv} (s : Same P0 P) (h : OkS K mg B bv R P0 D f e) : OkS K mg B bv R P D f e := by
  cases f with
  | nx => exact fun σ' P' H' Fs' S s' => h σ' P' H' Fs' S (s.trans s')
  | bk => exact fun σ' P' H' Fs' S s' => h σ' P' H' Fs' S (s.trans s')
  | ct => exact fun σ' P' H' Fs' S s' => h σ' P' H' Fs' S (s.trans s')
  | rt x => exact fun v σ' P' H' Fs' G S s' => h v σ' P' H' Fs' G S (s.trans s')
/-- a block goes on from a later state -/
theorem tS_re {D : Ends} {m : M Flw} (s : Same P0 P) (S : Sta K mg B bv R P H Fs σ env) (q : post (m env) (OkS K mg B bv R P0 D) (ExS K mg W B bv R P0)) : tS K mg W B m D σ H := by
  refine ⟨bv, R, P, Fs, env, S, ?_⟩
  cases h : m env with
  | ok f e => rw [h] at q; exact OkS.mono s q
  | ex x e => rw [h] at q; exact ExS.mono s q
  | no => rw [h] at q; exact q.elim
end

/-! ### blocks -/
def M.skip : M Flw := M.pure .nx
def M.seq (a b : M Flw) : M Flw := M.bind a fun f => match f with
  | .nx => b
  | f => M.pure f
section
variable {X : Cx} {W : WX} {B : List Nat} {st : Stmt} {rest : List Stmt} {m m2 : M Flw} {e c : Expr} {md : M PyData} {mo : M OD} {mt : M Bool} {pos : Pos}
theorem sds_nil : SDs X W B [] M.skip := PSs_mono pss_nil fun D σ H ⟨bv, R, P, Fs, env, S, q⟩ => q σ P H Fs S (Same.refl _)
theorem sds_cons (h1 : SD X W B st m) (h2 : SDs X W B rest m2) : SDs X W B (st :: rest) (M.seq m m2) :=
  PSs_mono (pss_cons h1 h2) fun D σ H ⟨bv, R, P, Fs, env, S, q⟩ => ⟨bv, R, P, Fs, env, S, bindD q (fun f e q => by
    cases f with
    | nx => exact fun σ' P' H' Fs' S' s' => tS_re s' S' q
    | bk => exact q
    | ct => exact q
    | rt x => exact q) fun _ _ q => q⟩
theorem sds_one (h1 : SD X W B st m) : SDs X W B [st] m := pss_one h1
def M.drop (m : M PyData) : M Flw := M.bind m fun _ => M.skip
theorem sd_expr (he : ED X W B e md) (hs : swapsWith e none pos.line X.env = pure false := by rfl) : SD X W B (.Expr e pos) (M.drop md) :=
  PS_mono (ps_expr he hs) fun D σ H ⟨bv, R, P, Fs, env, S, q⟩ => tD_bindS (Same.refl _) S q fun d e1 v P1 H1 F1 S1 s1 r1 h1 => h1 σ P1 H1 F1 S1 s1
def M.ret (m : M OD) : M Flw := M.bind m fun x => M.pure (.rt x)
theorem sd_ret (he : EO X W B e mo) : SD X W B (.Return (some e) pos) (M.ret mo) :=
  PS_mono (ps_ret he) fun D σ H ⟨bv, R, P, Fs, env, S, q⟩ => tO_bindS (Same.refl _) S q fun x e1 v P1 H1 F1 G S1 s1 o1 f1 h1 => h1 v σ P1 H1 F1 G S1 s1 o1 f1
def M.ifS (c : M Bool) (a b : M Flw) : M Flw := M.ite c a b
theorem sd_if {a b : List Stmt} (hc : TD X W B c mt) (ha : SDs X W B a m) (hb : SDs X W B b m2) : SD X W B (.If c a b pos) (M.ifS mt m m2) :=
  PS_mono (ps_if hc ha hb) fun D σ H ⟨bv, R, P, Fs, env, S, q⟩ => tT_bindS (Same.refl _) S q fun k e1 P1 H1 F1 S1 s1 h1 => by
    cases k with
    | true => exact iteT (tS_re s1 S1 h1)
    | false => exact iteF (tS_re s1 S1 h1)
/-- a name is stored -/
def M.put (i : Nat) (x : OD) : M Flw := fun env => if i < env.length then .ok .nx (env.set i (some x)) else .no
def M.set (i : Nat) (m : M OD) : M Flw := M.bind m fun x => M.put i x
theorem sd_set (i : Nat) {x : Str} {p : Pos} (hN : X.N.Nodup) (hB : i ∉ B) (he : EO X W B e mo) (hi : X.N[i]? = some x := by rfl) (hx : Loc X.env.scope x := by first | exact Or.inl rfl | exact Or.inr rfl)
    (hs : swapsWith e (some (.Name x p)) pos.line X.env = pure false := by rfl) (hf : X.fn x = true ∨ X.env.scope.names.lookup x = some .local := by first | exact .inl rfl | exact .inr rfl | assumption) :
    SD X W B (.Assign [.Name x p] e pos) (M.set i mo) :=
  PS_mono (ps_set hN hi hx he hs hf) fun D σ H ⟨bv, R, P, Fs, env, S, q⟩ => tO_bindS (Same.refl _) S q fun x e1 v P1 H1 F1 G S1 s1 o1 f1 h1 => by
    unfold M.put at h1
    by_cases hl : i < e1.length
    · rw [if_pos hl] at h1
      exact h1 _ P1 H1 _ (S1.store o1 f1 hB hl) s1
    · rw [if_neg hl] at h1; exact h1.elim
end

/-! ### targets -/
def OkG (K : PySem.W.Frag) (mg : Str → Option Value) (B : List Nat) (bv : Nat → V) (R P : Hp) (Q : L2.St → Hp → Prop) (e : DEnv) : Prop := ∀ σ' P' H' Fs', Sta K mg B bv R P' H' Fs' σ' e → Same P P' → Q σ' H'
/-- a target takes frozen data: the slots behind it -/
abbrev TG' := PyData → DEnv → Option DEnv
def tG (K : PySem.W.Frag) (mg : Str → Option Value) (B : List Nat) (g : TG') : TG := fun v σ H Q => ∃ bv R P Fs env d e, Sta K mg B bv R P H Fs σ env ∧ Rp K P v d ∧ g d env = some e ∧ OkG K mg B bv R P Q e
abbrev GT (X : Cx) (B : List Nat) (tg : Expr) (g : TG') : Prop := PG X tg (tG X.K X.mg B g)
abbrev TGs' := List PyData → DEnv → Option DEnv
theorem PG_mono {X : Cx} {tg : Expr} {t t' : TG} (h : PG X tg t) (i : ∀ v σ H Q, t' v σ H Q → t v σ H Q) : PG X tg t' := ⟨fun pins s σ H v u Q I r q => h.run pins s σ H v u Q I r (i v σ H Q q)⟩
theorem PGs_mono {X : Cx} {tg : List Expr} {t t' : TGs} (h : PGs X tg t) (i : ∀ v σ H Q, t' v σ H Q → t v σ H Q) : PGs X tg t' := ⟨fun pins s σ H v u Q I r q => h.run pins s σ H v u Q I r (i v σ H Q q)⟩
def gNameD (i : Nat) : TG' := fun d env => if i < env.length then some (env.set i (some (.pur d))) else none
def gNilD : TGs' := fun ds env => match ds with
  | [] => some env
  | _ => none
def gConsD (g : TG') (r : TGs') : TGs' := fun ds env => match ds with
  | d :: ds => (g d env).bind fun e => r ds e
  | _ => none
section
variable {X : Cx} {B : List Nat} {pos : Pos} {e : Expr} {es : List Expr}
end
end DL

set_option maxHeartbeats 2000000
/-! DL7: loops. -/
namespace DL
open PySem PySem.Spec PyProof.Rows L2

/-! ### what a loop walks, as data -/
/-- the iterator J hands out the items ds, whatever the heap becomes -/
def Fd (K : PySem.W.Frag) (P : Hp) (J : It) (ds : List PyData) : Prop := ∀ P1 H1, Same P P1 → Same P1 H1 →
  (∀ (i : Nat) d, ds[i]? = some d → J.go i H1 ∧ ∀ x H2, J.yld i H1 x H2 → ∃ P2, Ext P1 H1 P2 H2 ∧ Rp K P2 x d) ∧ J.stop ds.length H1
theorem Fd.mono {K : PySem.W.Frag} {P P' : Hp} {J : It} {ds : List PyData} (s : Same P P') (h : Fd K P J ds) : Fd K P' J ds := fun P1 H1 s1 s2 => h P1 H1 (s.trans s1) s2
def OkI (K : PySem.W.Frag) (mg : Str → Option Value) (B : List Nat) (bv : Nat → V) (R P : Hp) (σ : L2.St) (Q : It → Hp → Prop) : List PyData → DEnv → Prop := fun ds env' => ∀ J P' H' Fs', Sta K mg B bv R P' H' Fs' σ env' → Same P P' → Fd K P' J ds → Q J H'
def tI (K : PySem.W.Frag) (mg : Str → Option Value) (W : WX) (B : List Nat) (m : M (List PyData)) : TI := fun σ H Q => ∃ bv R P Fs env, Sta K mg B bv R P H Fs σ env ∧ post (m env) (OkI K mg B bv R P σ Q) (ExD K mg W B bv R P σ)
abbrev ID (X : Cx) (W : WX) (B : List Nat) (tg e : Expr) (m : M (List PyData)) : Prop := PI X tg e (tI X.K X.mg W B m)
theorem PI_mono {X : Cx} {tg e : Expr} {t t' : TI} (h : PI X tg e t) (i : ∀ σ H Q, t' σ H Q → t σ H Q) : PI X tg e t' := ⟨fun pins s σ H Q I q => h.run pins s σ H Q I (i σ H Q q)⟩

/-- the items of data that is walked -/
def itemsD : PyData → Option (List PyData)
  | .list xs => some xs
  | .tuple xs => some xs
  | .str x => some (x.cps.toList.map fun c => .str ⟨#[c]⟩)
  | _ => none
def M.items (m : M PyData) : M (List PyData) := M.bind m fun d => M.opt (itemsD d)
def iAny (K : PySem.W.Frag) (tl : TE) : TI := fun σ H R => tl σ H fun x H1 => (∃ a, x = .ref a ∧ (∃ xs, SqL K H1 a xs) ∧ R (Itl K a) H1) ∨ (∃ a, x = .ref a ∧ (∃ xs, SqT K H1 a xs) ∧ R (Itt K a) H1) ∨ ∃ z, x = .str z ∧ R (Its z) H1
section
variable {X : Cx} {tg e : Expr}
theorem pi_any {t : TE} (he : PE X e t) : PI X tg e (iAny X.K t) := by
  refine ⟨fun pins s σ H R I h => thn (he.run pins s σ H _ I h) fun v s1 ⟨x, H1, I1, r1, q1⟩ => ?_⟩
  rcases q1 with ⟨a, ex, ⟨xs, hq⟩, q⟩ | ⟨a, ex, ⟨xs, hq⟩, q⟩ | ⟨z, ex, q⟩
  · subst ex
    cases r1
    obtain ⟨its, rv, pl, _⟩ := I1.list hq
    exact wpAny_pyIter_list pl.isList (pi_one (tk := s1.toks) I1 _ (turn_list a _) ⟨_, Heap.get?_push_size _ rfl, rfl, rfl⟩ q)
  · subst ex
    cases r1
    obtain ⟨its, rv, pl, _⟩ := I1.tuple hq
    exact wpAny_pyIter_tuple (show s1.heap.IsTuple a its.toArray from pl) (pi_one (tk := s1.toks) I1 _ (turn_tuple a _) ⟨_, Heap.get?_push_size _ rfl, rfl, rfl⟩ q)
  · subst ex
    obtain ⟨t, rfl⟩ := r1
    cases ha : z.cps.all (· < 128) with
    | false => exact wpAny_pyIter_wide ha (pi_one (tk := s1.toks) I1 _ (turn_str _ z t "str_iterator" (Or.inr rfl)) ⟨_, Heap.get?_push_size _ rfl, rfl, rfl⟩ q)
    | true => exact wpAny_pyIter_ascii ha (pi_one (tk := s1.toks) I1 _ (turn_str _ z t "str_ascii_iterator" (Or.inl rfl)) ⟨_, Heap.get?_push_size _ rfl, rfl, rfl⟩ q)
end
/-! the items are handed out -/
section
variable {K : PySem.W.Frag} {P : Hp}
theorem fd_list {a : Addr} {xs : List V} {ds : List PyData} (h : Rd P a (.lst xs)) (t : RpA K P xs ds) : Fd K P (Itl K a) ds := fun P1 H1 s1 s2 => by
  have hq : SqL K H1 a xs := .inl (rd_mono (s1.trans s2) h)
  refine ⟨fun i d e => ?_, ⟨xs, hq, by rw [t.length]; exact Nat.le_refl _⟩⟩
  obtain ⟨v, h1, h2⟩ := t.getD e
  refine ⟨⟨xs, v, hq, h1⟩, fun x H2 y => ?_⟩
  obtain ⟨e1, y⟩ := y
  subst e1
  have z := y xs hq
  rw [h1] at z
  cases z
  exact ⟨P1, .refl s2, h2.mono s1⟩
theorem fd_tup {a : Addr} {xs : List V} {ds : List PyData} (h : P a = some (.tup xs)) (t : RpA K P xs ds) : Fd K P (Itt K a) ds := fun P1 H1 s1 s2 => by
  have hq : SqT K H1 a xs := seqT_mono (s1.trans s2) h
  refine ⟨fun i d e => ?_, ⟨xs, hq, by rw [t.length]; exact Nat.le_refl _⟩⟩
  obtain ⟨v, h1, h2⟩ := t.getD e
  refine ⟨⟨xs, v, hq, h1⟩, fun x H2 y => ?_⟩
  obtain ⟨e1, y⟩ := y
  subst e1
  have z := y xs hq
  rw [h1] at z
  cases z
  exact ⟨P1, .refl s2, h2.mono s1⟩
theorem fd_str (x : Str) : Fd K P (Its x) (x.cps.toList.map fun c => .str ⟨#[c]⟩) := fun P1 H1 s1 s2 => by
  refine ⟨fun i d e => ?_, by show x.cps.size ≤ _; simp⟩
  rw [List.getElem?_map] at e
  obtain ⟨c, hc, e⟩ := Option.map_eq_some_iff.mp e
  subst e
  have hlt : i < x.cps.size := by
    have := (List.getElem?_eq_some_iff.mp hc).1
    simpa using this
  refine ⟨hlt, fun v H2 y => ?_⟩
  obtain ⟨e1, c', hc', ev⟩ := y
  subst e1
  have : c' = c := by
    have z : x.cps.toList[i]? = some c' := by simpa using hc'
    rw [hc] at z; cases z; rfl
  subst this
  subst ev
  exact ⟨P1, .refl s2, .str _⟩
/-- lo, lo + c, .. -/
def rangeL (lo c : Int) (n : Nat) : List PyData := (List.range n).map fun (i : Nat) => .int (lo + (i : Int) * c)
theorem rangeL_get {lo c : Int} {n i : Nat} {d : PyData} (e : (rangeL lo c n)[i]? = some d) : i < n ∧ d = .int (lo + (i : Int) * c) := by
  unfold rangeL at e
  rw [List.getElem?_map] at e
  obtain ⟨j, hj, e⟩ := Option.map_eq_some_iff.mp e
  obtain ⟨h1, h2⟩ := List.getElem?_eq_some_iff.mp hj
  rw [List.getElem_range] at h2
  subst h2
  exact ⟨by simpa using h1, e.symm⟩
theorem fd_rng (lo : Int) (n : Nat) : Fd K P (Itr lo n) (rangeL lo 1 n) := fun P1 H1 s1 s2 => by
  refine ⟨fun i d e => ?_, by show n ≤ _; simp [rangeL]⟩
  obtain ⟨h1, h2⟩ := rangeL_get e
  subst h2
  refine ⟨h1, fun v H2 y => ?_⟩
  obtain ⟨e1, e2⟩ := y
  subst e1
  subst e2
  exact ⟨P1, .refl s2, by rw [Int.mul_one]; exact .int _⟩
def enumL (ds : List PyData) : List PyData := ds.mapIdx fun i d => .tuple [.int (i : Nat), d]
end
section
variable {X : Cx} {W : WX} {B : List Nat} {tg e a b c : Expr} {m : M PyData} {ml : M (List PyData)} {p pos tpos : Pos}
theorem id_any (he : ED X W B e m) : ID X W B tg e (M.items m) :=
  PI_mono (pi_any he) fun σ H Q ⟨bv, R, P, Fs, env, S, q⟩ => tD_bind (Same.refl _) S q fun d e1 v P1 H1 F1 S1 s1 r1 h1 => by
    cases r1 with
    | lst h t => exact .inl ⟨_, rfl, ⟨_, .inl (rd_mono S1.ph h)⟩, h1 _ P1 H1 F1 S1 s1 (fd_list h t)⟩
    | tup h t => exact .inr (.inl ⟨_, rfl, ⟨_, seqT_mono S1.ph h⟩, h1 _ P1 H1 F1 S1 s1 (fd_tup h t)⟩)
    | str x => exact .inr (.inr ⟨x, rfl, h1 _ P1 H1 F1 S1 s1 (fd_str x)⟩)
    | _ => exact h1.elim
/-! range -/
/-- a number that a range takes; never unfolded (a test of a length by whnf would go down digit by digit) -/
@[irreducible] def rgI (j : Int) : Bool := decide (-(2 ^ 62) ≤ j) && decide (j < 2 ^ 62)
theorem rgI_iff {j : Int} : rgI j = true ↔ -(2 ^ 62) ≤ j ∧ j < 2 ^ 62 := by unfold rgI; simp
def rangeD1 : List PyData → Option (List PyData)
  | [.int j] => if rgI j = true then some (rangeL 0 1 j.toNat) else none
  | _ => none
def M.iter (f : List PyData → Option (List PyData)) (l : M (List PyData)) : M (List PyData) := M.bind l fun ds => M.opt (f ds)
theorem tI_opt {r : List V → Hp → (It → Hp → Prop) → Prop} {f : List PyData → Option (List PyData)} (hf : ∀ P H vs ds l Q, Same P H → RpA X.K P vs ds → f ds = some l → (∀ J, Fd X.K P J l → Q J H) → r vs H Q) {σ : L2.St} {H : Hp} {Q : It → Hp → Prop}
    (h : tI X.K X.mg W B (M.iter f ml) σ H Q) : tL X.K X.mg W B ml σ H fun vs H1 => r vs H1 Q := by
  obtain ⟨bv, R, P, Fs, env, S, q⟩ := h
  refine tL_bind (Same.refl _) S q fun ds e1 vs P1 H1 F1 S1 s1 r1 h1 => ?_
  cases er : f ds with
  | none => rw [er] at h1; exact h1.elim
  | some l => rw [er] at h1; exact hf P1 H1 vs ds l Q S1.ph r1 er fun J k => h1 J P1 H1 F1 S1 s1 k
theorem id_rng1 (hg : Gl X "range") (hm : X.mg "range" = none) (ha : AD X W B [a] ml) (hs : starEach [a] X.env = [(false, eval a X.env)] := by rfl) : ID X W B tg (.Call (.Name "range" p) [a] [] pos) (M.iter rangeD1 ml) :=
  PI_mono (pi_range1 hg hm ha hs) fun σ H Q h => tI_opt (r := fun vs H1 Q => ∃ j : Int, vs = [.int j] ∧ -(2 ^ 62) ≤ j ∧ j < 2 ^ 62 ∧ Q (Itr 0 j.toNat) H1) (fun P H vs ds l Q ph r er k => by
    match ds, vs, r, er with
    | [.int j], _, .cons h .nil, er =>
      cases h
      simp only [rangeD1] at er
      split at er
      · rename_i hj
        cases er
        rw [rgI_iff] at hj
        exact ⟨j, rfl, hj.1, hj.2, k _ (fd_rng 0 _)⟩
      · cases er) h
/-! enumerate -/
end

/-! ### for -/
def forL (g : TG') (body : M Flw) : List PyData → M Flw
  | [] => M.skip
  | d :: ds => fun env => match g d env with
    | none => .no
    | some e => match body e with
      | .ok .nx e' => forL g body ds e'
      | .ok .ct e' => forL g body ds e'
      | .ok .bk e' => .ok .nx e'
      | .ok (.rt x) e' => .ok (.rt x) e'
      | .ex x e' => .ex x e'
      | .no => .no
def M.for (l : M (List PyData)) (g : TG') (body : M Flw) : M Flw := M.bind l fun ds => forL g body ds
section
variable {X : Cx} {W : WX} {B : List Nat} {tg iter : Expr} {body : List Stmt} {ml : M (List PyData)} {g : TG'} {mb : M Flw} {pos : Pos}
theorem tI_bindS {K : PySem.W.Frag} {mg : Str → Option Value} {bv : Nat → V} {R P P0 H : Hp} {Fs : Nat → List Addr} {σ : L2.St} {env : DEnv} {β : Type} {m : M (List PyData)} {f : List PyData → M β} {okβ : β → DEnv → Prop} {Q : It → Hp → Prop} (s0 : Same P0 P)
    (S : Sta K mg B bv R P H Fs σ env) (h : post (M.bind m f env) okβ (ExS K mg W B bv R P0))
    (k : ∀ ds env1 J P1 H1 Fs1, Sta K mg B bv R P1 H1 Fs1 σ env1 → Same P P1 → Fd K P1 J ds → post (f ds env1) okβ (ExS K mg W B bv R P0) → Q J H1) : tI K mg W B m σ H Q :=
  ⟨bv, R, P, Fs, env, S, bindD h (fun d e q J P1 H1 Fs1 S1 s1 r1 => k d e J P1 H1 Fs1 S1 s1 r1 q) fun _ _ q => (ExS.mono s0 q).d⟩
/-- what the items' walk asks -/
def ForIn (g : TG) (tb : TS) (D : Ends) (σ : L2.St) (J : It) (H1 : Hp) : Prop := ∃ W : Nat → Nat → L2.St → Hp → Prop, (∃ m, W 0 m σ H1) ∧ ∀ i m σ H, W i m σ H →
  (J.stop i H ∧ D.nx σ H) ∨ (J.go i H ∧ ∃ N : L2.St → Hp → Prop, (∀ σ' H', N σ' H' → ∃ m', m' < m ∧ W (i + 1) m' σ' H') ∧ ∀ x H', J.yld i H x H' → g x σ H' fun σ2 H2 => tb { D with nx := N, ct := N, bk := D.nx } σ2 H2)
theorem for_inner {K : PySem.W.Frag} {mg : Str → Option Value} {bv : Nat → V} {R P P1 H1 : Hp} {F1 : Nat → List Addr} {σ : L2.St} {e1 : DEnv} {ds : List PyData} {J : It} {D : Ends} (S1 : Sta K mg B bv R P1 H1 F1 σ e1) (s1 : Same P P1) (fd : Fd K P1 J ds)
    (h1 : post (forL g mb ds e1) (OkS K mg B bv R P D) (ExS K mg W B bv R P)) : ForIn (tG K mg B g) (tS K mg W B mb) D σ J H1 := by
  refine ⟨fun i m σ H => m = ds.length - i ∧ i ≤ ds.length ∧ ∃ P' Fs' env', Sta K mg B bv R P' H Fs' σ env' ∧ Same P1 P' ∧ post (forL g mb (ds.drop i) env') (OkS K mg B bv R P D) (ExS K mg W B bv R P), ⟨_, rfl, Nat.zero_le _, P1, F1, e1, S1, Same.refl _, by rw [List.drop_zero]; exact h1⟩, ?_⟩
  rintro i m σ2 H2 ⟨rfl, hi, P2, F2, e2, S2, s2, h2⟩
  obtain ⟨f1, f2⟩ := fd P2 H2 s2 S2.ph
  by_cases hlt : i < ds.length
  · rw [List.drop_eq_getElem_cons hlt] at h2
    obtain ⟨go, y⟩ := f1 i ds[i] (List.getElem?_eq_getElem hlt)
    refine .inr ⟨go, fun σ' H' => ∃ P' Fs' env', Sta K mg B bv R P' H' Fs' σ' env' ∧ Same P1 P' ∧ post (forL g mb (ds.drop (i + 1)) env') (OkS K mg B bv R P D) (ExS K mg W B bv R P), fun σ' H' h' => ⟨_, by omega, rfl, hlt, h'⟩, fun x H3 hx => ?_⟩
    obtain ⟨P3, ex, rx⟩ := y x H3 hx
    have S3 := S2.ext ex
    simp only [forL] at h2
    cases eg : g ds[i] e2 with
    | none => rw [eg] at h2; exact h2.elim
    | some e3 =>
      rw [eg] at h2
      simp only at h2
      refine ⟨bv, R, P3, F2, e2, ds[i], e3, S3, rx, eg, fun σ4 P4 H4 F4 S4 s4 => ⟨bv, R, P4, F4, e3, S4, ?_⟩⟩
      have s14 : Same P1 P4 := s2.trans (ex.pp.trans s4)
      have s04 : Same P P4 := s1.trans s14
      cases eb : mb e3 with
      | no => rw [eb] at h2; exact h2.elim
      | ex x e5 =>
        rw [eb] at h2
        exact ExS.mono s04 h2
      | ok f e5 =>
        rw [eb] at h2
        cases f with
        | nx => exact fun σ' P' H' Fs' S' s' => ⟨P', Fs', e5, S', s14.trans s', h2⟩
        | ct => exact fun σ' P' H' Fs' S' s' => ⟨P', Fs', e5, S', s14.trans s', h2⟩
        | bk => exact fun σ' P' H' Fs' S' s' => h2 σ' P' H' Fs' S' (s04.trans s')
        | rt x => exact fun v σ' P' H' Fs' G S' s' => h2 v σ' P' H' Fs' G S' (s04.trans s')
  · have e : i = ds.length := by omega
    subst e
    rw [List.drop_length] at h2
    exact .inl ⟨f2, h2 σ2 P2 H2 F2 S2 (s1.trans s2)⟩
theorem sd_for (hp : PassesOwn (model X.prog X.w) X.A X.env X.xe) (hc : X.calm = true) (hi : ID X W B tg iter ml) (hg : GT X B tg g) (hb : SDs X W B body mb) (hs : ∀ x, foldedSetIterable iter X.env x = pure x := by intro _; rfl) :
    SD X W B (.For tg iter body [] pos) (M.for ml g mb) :=
  PS_mono (ps_for hp hc hi hg hb hs) fun D σ H ⟨bv, R, P, Fs, env, S, q⟩ => tI_bindS (Same.refl _) S q fun ds e1 J P1 H1 F1 S1 s1 fd h1 => for_inner S1 s1 fd h1
/-! while: a fixed number of turns at most -/
def whileL (c : M Bool) (body : M Flw) : Nat → M Flw
  | 0 => M.fail
  | n + 1 => fun env => match c env with
    | .ok false e => .ok .nx e
    | .ok true e => (match body e with
      | .ok .nx e' => whileL c body n e'
      | .ok .ct e' => whileL c body n e'
      | .ok .bk e' => .ok .nx e'
      | .ok (.rt x) e' => .ok (.rt x) e'
      | .ex x e' => .ex x e'
      | .no => .no)
    | .ex x e => .ex x e
    | .no => .no
theorem sd_while {c : Expr} {mc : M Bool} (n : Nat) (hp : PassesOwn (model X.prog X.w) X.A X.env X.xe) (hc : TD X W B c mc) (hb : SDs X W B body mb) : SD X W B (.While c body [] pos) (whileL mc mb n) :=
  PS_mono (ps_while hp hc hb) fun D σ H ⟨bv, R, P, Fs, env, S, q⟩ => by
    refine ⟨fun m σ H => ∃ P' Fs' env', Sta X.K X.mg B bv R P' H Fs' σ env' ∧ Same P P' ∧ post (whileL mc mb m env') (OkS X.K X.mg B bv R P D) (ExS X.K X.mg W B bv R P), ⟨n, P, Fs, env, S, Same.refl _, q⟩, ?_⟩
    rintro m σ2 H2 ⟨P2, F2, e2, S2, s2, h2⟩
    cases m with
    | zero => exact h2.elim
    | succ m =>
      simp only [whileL] at h2
      refine ⟨bv, R, P2, F2, e2, S2, ?_⟩
      cases ec : mc e2 with
      | no => rw [ec] at h2; exact h2.elim
      | ex x e3 => rw [ec] at h2; exact (ExS.mono s2 h2).d
      | ok k e3 =>
        rw [ec] at h2
        intro P3 H3 F3 S3 s3
        cases k with
        | false => exact iteF (h2 σ2 P3 H3 F3 S3 (s2.trans s3))
        | true =>
          refine iteT ⟨fun σ' H' => ∃ P' Fs' env', Sta X.K X.mg B bv R P' H' Fs' σ' env' ∧ Same P P' ∧ post (whileL mc mb m env') (OkS X.K X.mg B bv R P D) (ExS X.K X.mg W B bv R P), fun σ' H' h' => ⟨m, Nat.lt_succ_self _, h'⟩, bv, R, P3, F3, e3, S3, ?_⟩
          have s04 : Same P P3 := s2.trans s3
          simp only at h2
          cases eb : mb e3 with
          | no => rw [eb] at h2; exact h2.elim
          | ex x e5 => rw [eb] at h2; exact ExS.mono s04 h2
          | ok f e5 =>
            rw [eb] at h2
            cases f with
            | nx => exact fun σ' P' H' Fs' S' s' => ⟨P', Fs', e5, S', s04.trans s', h2⟩
            | ct => exact fun σ' P' H' Fs' S' s' => ⟨P', Fs', e5, S', s04.trans s', h2⟩
            | bk => exact fun σ' P' H' Fs' S' s' => h2 σ' P' H' Fs' S' (s04.trans s')
            | rt x => exact fun v σ' P' H' Fs' G S' s' => h2 v σ' P' H' Fs' G S' (s04.trans s')
end
end DL

set_option maxHeartbeats 2000000
/-! DL8: arguments (by value, given away, by reference), what a def promises, calls. -/
namespace DL
open PySem PySem.Spec PyProof.Rows L2

/-! ### frames of those who called -/
section
variable {K : PySem.W.Frag} {mg : Str → Option Value} {W : WX} {B : List Nat} {bv : Nat → V} {R R' P P0 H P' H' : Hp} {Fs Fs' : Nat → List Addr} {σ : L2.St} {env : DEnv} {G : List Addr}
theorem Sta.hasT (S : Sta K mg B bv R P H Fs σ env) : ∀ a ∈ TbA K, R a ≠ none := fun a h => by
  obtain ⟨p, hp, rfl⟩ := List.mem_map.mp h
  exact (S.tb p hp).2
theorem Sta.sub (s : Same R R') (hT : ∀ a ∈ TbA K, R a ≠ none) (S : Sta K mg B bv R' P H Fs σ env) : Sta K mg B bv R P H Fs σ env where
  rh := Same.transX s S.rh
  tb := fun p hp => ⟨(S.tb p hp).1, hT _ (List.mem_map.mpr ⟨p, hp, rfl⟩)⟩
  ph := S.ph
  rp := fun a h => S.rp a (by
    cases q : R a with
    | none => exact absurd q h
    | some o => rw [s _ _ q]; simp)
  slot := S.slot
  dead := S.dead
  nd := S.nd
  dj := S.dj
  fr := fun i a h => s.free (S.fr i a h)
  fp := S.fp
  len := S.len
  pin := S.pin
  nt := fun a xs h => S.nt a xs (s _ _ h)
theorem joinR_frame (S : Sta K mg B bv R P H Fs σ env) (f : Free R P Fs G) : Same R (joinR R H G) := fun a o e => by
  rw [joinR_out fun h => by rw [f.r a h] at e; cases e]
  exact e
/-- a temporary is put among what is to be kept -/
theorem Sta.push (S : Sta K mg B bv R P H Fs σ env) (f : Free R P Fs G) (hn : ∀ a ∈ G, ∀ xs, H a ≠ some (.tup xs)) : Sta K mg B bv (joinR R H G) P H Fs σ env where
  rh := fun a o e n => by
    by_cases h : a ∈ G
    · rw [joinR_in h] at e; exact e
    · rw [joinR_out h] at e; exact S.rh _ _ e n
  tb := fun p hp => ⟨(S.tb p hp).1, by rw [joinR_out fun h => (S.tb p hp).2 (f.r _ h)]; exact (S.tb p hp).2⟩
  ph := S.ph
  rp := fun a h => by
    by_cases q : a ∈ G
    · exact f.p a q
    · rw [joinR_out q] at h; exact S.rp a h
  slot := S.slot
  dead := S.dead
  nd := S.nd
  dj := S.dj
  fr := fun i a h => by
    rw [joinR_out fun q => f.f a q i h]
    exact S.fr i a h
  fp := S.fp
  len := S.len
  pin := S.pin
  nt := fun a xs e => by
    by_cases h : a ∈ G
    · rw [joinR_in h] at e; exact hn a h xs e
    · rw [joinR_out h] at e; exact S.nt a xs e
theorem Free.pop {G2 : List Addr} (there : ∀ a ∈ G, ∃ o, H a = some o) (ng : G.Nodup) (s : Same R R') (hR : ∀ a ∈ G, R' a = H a) (fr : ∀ a ∈ G, R a = none) (S : Sta K mg B bv R' P' H' Fs' σ env) (f2 : Free R' P' Fs' G2) : Free R P' Fs' (G ++ G2) where
  nd := List.nodup_append.mpr ⟨ng, f2.nd, fun a h b h2 e => by
    subst e
    obtain ⟨o, ho⟩ := there a h
    have := f2.r a h2
    rw [hR a h, ho] at this; cases this⟩
  r := fun a h => by
    rcases List.mem_append.mp h with h | h
    · exact fr a h
    · exact s.free (f2.r a h)
  p := fun a h => by
    rcases List.mem_append.mp h with h | h
    · obtain ⟨o, ho⟩ := there a h
      exact S.rp a (by rw [hR a h, ho]; simp)
    · exact f2.p a h
  f := fun a h i => by
    rcases List.mem_append.mp h with h | h
    · intro z
      obtain ⟨o, ho⟩ := there a h
      have := S.fr i a z
      rw [hR a h, ho] at this; cases this
    · exact f2.f a h i
end

/-! ### arguments -/
/-- a value; an object that is given away; the slot of an object that comes back -/
inductive AV where
  | v (d : PyData) | o (x : OD) | r (i : Nat)
inductive AvL (K : PySem.W.Frag) (mg : Str → Option Value) (P H : Hp) (σ : L2.St) : List Addr → List V → List AV → Prop
  | nil : AvL K mg P H σ [] [] []
  | v {G : List Addr} {x : V} {xs : List V} {d : PyData} {as : List AV} (h : Rp K P x d) (t : AvL K mg P H σ G xs as) : AvL K mg P H σ G (x :: xs) (.v d :: as)
  | o {F G : List Addr} {x : V} {xs : List V} {d : OD} {as : List AV} (h : Ow K mg P H F x d) (t : AvL K mg P H σ G xs as) : AvL K mg P H σ (F ++ G) (x :: xs) (.o d :: as)
  | r {G : List Addr} {x : V} {xs : List V} {i : Nat} {as : List AV} (h : σ[i]? = some (some x)) (t : AvL K mg P H σ G xs as) : AvL K mg P H σ G (x :: xs) (.r i :: as)
def OkA (K : PySem.W.Frag) (mg : Str → Option Value) (B : List Nat) (bv : Nat → V) (R P : Hp) (σ : L2.St) (Q : List V → Hp → Prop) : List AV → DEnv → Prop := fun as env' => ∀ vs P' H' Fs' G, Sta K mg B bv R P' H' Fs' σ env' → Same P P' → AvL K mg P' H' σ G vs as → Free R P' Fs' G → Q vs H'
def tA (K : PySem.W.Frag) (mg : Str → Option Value) (W : WX) (B : List Nat) (m : M (List AV)) : TA := fun σ H Q => ∃ bv R P Fs env, Sta K mg B bv R P H Fs σ env ∧ post (m env) (OkA K mg B bv R P σ Q) (ExD K mg W B bv R P σ)
abbrev AA (X : Cx) (W : WX) (B : List Nat) (es : List Expr) (m : M (List AV)) : Prop := PA X es (tA X.K X.mg W B m)
def M.aNil : M (List AV) := M.pure []
def M.aV (m : M PyData) (r : M (List AV)) : M (List AV) := M.bind m fun d => M.bind r fun l => M.pure (.v d :: l)
def M.aO (m : M OD) (r : M (List AV)) : M (List AV) := M.bind m fun d => M.bind r fun l => M.pure (.o d :: l)
def M.aR (i : Nat) (r : M (List AV)) : M (List AV) := fun env => match env[i]? with
  | some (some _) => M.bind r (fun l => M.pure (.r i :: l)) env
  | _ => .no
section
variable {K : PySem.W.Frag} {mg : Str → Option Value} {W : WX} {B : List Nat} {bv : Nat → V} {R P P0 H : Hp} {Fs : Nat → List Addr} {σ : L2.St} {env : DEnv}
theorem ExD.sub {R' : Hp} {x : Xn} {e : DEnv} (s : Same R R') (hT : ∀ a ∈ TbA K, R a ≠ none) (h : ExD K mg W B bv R P σ x e) : ExD K mg W B bv R' P σ x e := fun cls dx P' H' Fs' S s' q => h cls dx P' H' Fs' (S.sub s hT) s' q
theorem tA_bind {β : Type} {m : M (List AV)} {f : List AV → M β} {okβ : β → DEnv → Prop} {Q : List V → Hp → Prop} (s0 : Same P0 P) (S : Sta K mg B bv R P H Fs σ env) (h : post (M.bind m f env) okβ (ExD K mg W B bv R P0 σ))
    (k : ∀ l env1 vs P1 H1 Fs1 G, Sta K mg B bv R P1 H1 Fs1 σ env1 → Same P P1 → AvL K mg P1 H1 σ G vs l → Free R P1 Fs1 G → post (f l env1) okβ (ExD K mg W B bv R P0 σ) → Q vs H1) : tA K mg W B m σ H Q :=
  ⟨bv, R, P, Fs, env, S, bindD h (fun d e q v P1 H1 Fs1 G S1 s1 r1 f1 => k d e v P1 H1 Fs1 G S1 s1 r1 f1 q) fun _ _ q => q.mono s0⟩
end
section
variable {X : Cx} {W : WX} {B : List Nat} {e : Expr} {es : List Expr} {m : M PyData} {mo : M OD} {r : M (List AV)}
theorem aa_nil : AA X W B [] M.aNil := PA_mono pa_nil fun σ H Q ⟨bv, R, P, Fs, env, S, q⟩ => q [] P H Fs [] S (Same.refl _) .nil Free.nil
theorem aa_v (h : ED X W B e m) (hr : AA X W B es r) (hs : starEach (e :: es) X.env = (false, eval e X.env) :: starEach es X.env := by rfl) : AA X W B (e :: es) (M.aV m r) :=
  PA_mono (pa_cons h hr hs) fun σ H Q ⟨bv, R, P, Fs, env, S, q⟩ => tD_bind (Same.refl _) S q fun d e1 v P1 H1 F1 S1 s1 r1 q1 => tA_bind s1 S1 q1 fun l e2 vs P2 H2 F2 G S2 s2 r2 f2 q2 =>
    q2 (v :: vs) P2 H2 F2 G S2 (s1.trans s2) (.v (r1.mono s2) r2) f2
theorem aa_o (h : EO X W B e mo) (hr : AA X W B es r) (hs : starEach (e :: es) X.env = (false, eval e X.env) :: starEach es X.env := by rfl) : AA X W B (e :: es) (M.aO mo r) :=
  PA_mono (pa_cons h hr hs) fun σ H Q ⟨bv, R, P, Fs, env, S, q⟩ => tO_bind (Same.refl _) S q fun d e1 v P1 H1 F1 G1 S1 s1 o1 f1 q1 =>
    ⟨bv, joinR R H1 G1, P1, F1, e1, S1.push f1 o1.notup, bindD q1 (fun l e2 q2 vs P2 H2 F2 G S2 s2 r2 f2 =>
      q2 (v :: vs) P2 H2 F2 (G1 ++ G) (S2.sub (joinR_frame S1 f1) S1.hasT) (s1.trans s2) (.o (o1.keep s2 fun a ha o e => S2.rh a o (by rw [joinR_in ha]; exact e) (S1.nota (f1.r a ha))) r2)
        (Free.pop o1.there f1.nd (joinR_frame S1 f1) (fun a ha => joinR_in ha) f1.r S2 f2)) fun _ _ q => (q.mono s1).sub (joinR_frame S1 f1) S1.hasT⟩
theorem aa_r (i : Nat) {x : Str} {p : Pos} (hr : AA X W B es r) (hN : X.N[i]? = some x := by rfl) (hv : Vis X.env.scope x := by first | exact Or.inl rfl | exact Or.inr (Or.inl rfl) | exact Or.inr (Or.inr rfl)) (hd : (x == ("__debug__" : Str)) = false := by decide)
    (hcd : (x == ("__classdict__" : Str)) = false := by decide) (hs : starEach ((.Name x p) :: es) X.env = (false, eval (.Name x p) X.env) :: starEach es X.env := by rfl) : AA X W B (.Name x p :: es) (M.aR i r) :=
  PA_mono (pa_cons (pe_var hN hv hd hcd) hr hs) fun σ H Q ⟨bv, R, P, Fs, env, S, q⟩ => by
    unfold M.aR at q
    cases hx : env[i]? with
    | none => rw [hx] at q; exact q.elim
    | some ox =>
      cases ox with
      | none => rw [hx] at q; exact q.elim
      | some y =>
        rw [hx] at q
        obtain ⟨v, h1, _⟩ := S.slot i y hx
        exact ⟨v, h1, tA_bind (Same.refl _) S q fun l e2 vs P2 H2 F2 G S2 s2 r2 f2 q2 => q2 (v :: vs) P2 H2 F2 G S2 s2 (.r h1 r2) f2⟩
end

/-! ### a call: what is handed over, what comes back -/
def takeAll : List AV → DEnv → Option (DEnv × DEnv)
  | [], env => some ([], env)
  | .v d :: as, env => (takeAll as env).map fun p => (some (.pur d) :: p.1, p.2)
  | .o x :: as, env => (takeAll as env).map fun p => (some x :: p.1, p.2)
  | .r i :: as, env => match env[i]? with
    | some (some x) => (takeAll as (env.set i none)).map fun p => (some x :: p.1, p.2)
    | _ => none
def putAll : List AV → DEnv → DEnv → DEnv
  | .r i :: as, o :: os, env => putAll as os (match o with | some x => env.set i (some x) | none => env)
  | _ :: as, _ :: os, env => putAll as os env
  | _, _, env => env
/-- f: what the def does with its arguments; its end holds the arguments that come back -/
def M.call (f : M OD) (l : M (List AV)) : M OD := M.bind l fun as env => match takeAll as env with
  | none => .no
  | some (args, rest) => match f args with
    | .ok x outs => .ok x (putAll as outs rest)
    | .ex x outs => .ex x (putAll as outs rest)
    | .no => .no
section
variable {K : PySem.W.Frag} {mg : Str → Option Value} {W : WX} {B : List Nat} {bv : Nat → V} {R P P0 H : Hp} {σ : L2.St}
/-- what is handed over is apart -/
structure Handed (K : PySem.W.Frag) (mg : Str → Option Value) (R P H : Hp) (Fs : Nat → List Addr) (Fc : Nat → List Addr) (vs : List V) (args : DEnv) : Prop where
  len : vs.length = args.length
  slot : ∀ (j : Nat) (x : OD), args[j]? = some (some x) → ∃ v, vs[j]? = some v ∧ Ow K mg P H (Fc j) v x
  dead : ∀ j, (∀ x, args[j]? ≠ some (some x)) → Fc j = []
  nd : ∀ j, (Fc j).Nodup
  dj : ∀ j k a, j ≠ k → a ∈ Fc j → a ∉ Fc k
  fr : ∀ j a, a ∈ Fc j → R a = none
  fp : ∀ j a, a ∈ Fc j → P a = none
  ap : ∀ j a, a ∈ Fc j → ∀ i, a ∉ Fs i
theorem Handed.cons {Fs Fc : Nat → List Addr} {vs : List V} {args : DEnv} {F : List Addr} {v : V} {x : OD} (h : Handed K mg R P H Fs Fc vs args) (o : Ow K mg P H F v x) (nd : F.Nodup) (fr : ∀ a ∈ F, R a = none) (fp : ∀ a ∈ F, P a = none) (ap : ∀ a ∈ F, ∀ i, a ∉ Fs i) (dj : ∀ a ∈ F, ∀ j, a ∉ Fc j) :
    Handed K mg R P H Fs (fun j => match j with | 0 => F | j + 1 => Fc j) (v :: vs) (some x :: args) where
  len := by simp [h.len]
  slot := fun j y e => by
    cases j with
    | zero => simp at e; subst e; exact ⟨v, rfl, o⟩
    | succ j => obtain ⟨w, h1, h2⟩ := h.slot j y (by simpa using e); exact ⟨w, by simpa using h1, h2⟩
  dead := fun j e => by
    cases j with
    | zero => exact absurd rfl (e x)
    | succ j => exact h.dead j fun y z => e y (by simpa using z)
  nd := fun j => by cases j with | zero => exact nd | succ j => exact h.nd j
  dj := fun j k a hjk ha => by
    cases j with
    | zero => cases k with
      | zero => exact absurd rfl hjk
      | succ k => exact dj a ha k
    | succ j => cases k with
      | zero => exact fun z => dj a z j ha
      | succ k => exact h.dj j k a (fun e => hjk (by rw [e])) ha
  fr := fun j a ha => by cases j with | zero => exact fr a ha | succ j => exact h.fr j a ha
  fp := fun j a ha => by cases j with | zero => exact fp a ha | succ j => exact h.fp j a ha
  ap := fun j a ha => by cases j with | zero => exact ap a ha | succ j => exact h.ap j a ha
theorem take_sta : ∀ {as : List AV} {G : List Addr} {vs : List V} {Fs : Nat → List Addr} {env args rest : DEnv}, AvL K mg P H σ G vs as → Sta K mg B bv R P H Fs σ env → Free R P Fs G → takeAll as env = some (args, rest) →
    ∃ Fs2 Fc, Sta K mg B bv R P H Fs2 σ rest ∧ Handed K mg R P H Fs2 Fc vs args ∧ (∀ i a, a ∈ Fs2 i → a ∈ Fs i) ∧ ∀ j a, a ∈ Fc j → a ∈ G ∨ ∃ i, a ∈ Fs i
  | [], _, _, Fs, env, args, rest, .nil, S, f, e => by
    simp only [takeAll, Option.some.injEq, Prod.mk.injEq] at e
    obtain ⟨rfl, rfl⟩ := e
    exact ⟨Fs, fun _ => [], S, ⟨rfl, fun j x h => by simp at h, fun _ _ => rfl, fun _ => .nil, fun _ _ _ _ h => (nomatch h), fun _ _ h => (nomatch h), fun _ _ h => (nomatch h), fun _ _ h => (nomatch h)⟩, fun _ _ h => h, fun _ _ h => (nomatch h)⟩
  | .v d :: as, G, v :: vs, Fs, env, args, rest, .v h t, S, f, e => by
    simp only [takeAll] at e
    obtain ⟨⟨a1, r1⟩, e1, e2⟩ := Option.map_eq_some_iff.mp e
    cases e2
    obtain ⟨Fs2, Fc, S2, hd, h3, h4⟩ := take_sta t S f e1
    exact ⟨Fs2, _, S2, hd.cons (F := []) (.pur h) .nil (fun _ h => (nomatch h)) (fun _ h => (nomatch h)) (fun _ h => (nomatch h)) (fun _ h => (nomatch h)), h3, fun j a ha => by cases j with | zero => cases ha | succ j => exact h4 j a ha⟩
  | .o x :: as, _, v :: vs, Fs, env, args, rest, .o (F := F) (G := G) h t, S, f, e => by
    simp only [takeAll] at e
    obtain ⟨⟨a1, r1⟩, e1, e2⟩ := Option.map_eq_some_iff.mp e
    cases e2
    have nd := List.nodup_append.mp f.nd
    obtain ⟨Fs2, Fc, S2, hd, h3, h4⟩ := take_sta t S ⟨nd.2.1, fun a ha => f.r a (List.mem_append_right _ ha), fun a ha => f.p a (List.mem_append_right _ ha), fun a ha => f.f a (List.mem_append_right _ ha)⟩ e1
    refine ⟨Fs2, _, S2, hd.cons h nd.1 (fun a ha => f.r a (List.mem_append_left _ ha)) (fun a ha => f.p a (List.mem_append_left _ ha)) (fun a ha i z => f.f a (List.mem_append_left _ ha) i (h3 i a z)) (fun a ha j z => ?_), h3, fun j a ha => ?_⟩
    · rcases h4 j a z with y | ⟨i, y⟩
      · exact nd.2.2 a ha a y rfl
      · exact f.f a (List.mem_append_left _ ha) i y
    · cases j with
      | zero => exact .inl (List.mem_append_left _ ha)
      | succ j =>
        rcases h4 j a ha with y | y
        · exact .inl (List.mem_append_right _ y)
        · exact .inr y
  | .r i :: as, G, v :: vs, Fs, env, args, rest, .r hi t, S, f, e => by
    simp only [takeAll] at e
    cases hx : env[i]? with
    | none => rw [hx] at e; cases e
    | some ox =>
      cases ox with
      | none => rw [hx] at e; cases e
      | some x =>
        rw [hx] at e
        simp only at e
        obtain ⟨⟨a1, r1⟩, e1, e2⟩ := Option.map_eq_some_iff.mp e
        cases e2
        obtain ⟨v', q1, q2, q3, q4⟩ := S.take hx
        rw [hi] at q1
        cases q1
        have sub : ∀ j a, a ∈ (if j = i then ([] : List Addr) else Fs j) → a ∈ Fs j ∧ j ≠ i := fun j a h => by
          by_cases z : j = i
          · rw [if_pos z] at h; cases h
          · rw [if_neg z] at h; exact ⟨h, z⟩
        obtain ⟨Fs2, Fc, S2, hd, h3, h4⟩ := take_sta t q4 ⟨f.nd, f.r, f.p, fun a ha j z => f.f a ha j (sub j a z).1⟩ e1
        refine ⟨Fs2, _, S2, hd.cons q2 q3.nd q3.r q3.p (fun a ha j z => q3.f a ha j (h3 j a z)) (fun a ha j z => ?_), fun j a h => (sub j a (h3 j a h)).1, fun j a ha => ?_⟩
        · rcases h4 j a z with y | ⟨k, y⟩
          · exact f.f a y i ha
          · exact q3.f a ha k y
        · cases j with
          | zero => exact .inr ⟨i, ha⟩
          | succ j =>
            rcases h4 j a ha with y | ⟨k, y⟩
            · exact .inl y
            · exact .inr ⟨k, (sub k a y).1⟩
theorem put_sta : ∀ {as : List AV} {G0 : List Addr} {vs : List V} {P1 H1 : Hp} {Fs Fo : Nat → List Addr} {env outs : DEnv}, AvL K mg P1 H1 σ G0 vs as → Sta K mg B bv R P H Fs σ env → Handed K mg R P H Fs Fo vs outs →
    ∃ Fs2, Sta K mg B bv R P H Fs2 σ (putAll as outs env) ∧ ∀ i a, a ∈ Fs2 i → a ∈ Fs i ∨ ∃ j, a ∈ Fo j := by
  have tl : ∀ {vs : List V} {v : V} {Fs Fo : Nat → List Addr} {o : Option OD} {outs : DEnv}, Handed K mg R P H Fs Fo (v :: vs) (o :: outs) → Handed K mg R P H Fs (fun j => Fo (j + 1)) vs outs := fun {vs v Fs Fo o outs} h =>
    ⟨by simpa using h.len, fun j x e => by
      obtain ⟨w, h1, h2⟩ := h.slot (j + 1) x (by simpa using e)
      exact ⟨w, by simpa using h1, h2⟩, fun j e => h.dead (j + 1) fun x z => e x (by simpa using z), fun j => h.nd (j + 1), fun j k a hjk => h.dj (j + 1) (k + 1) a (by omega), fun j => h.fr (j + 1), fun j => h.fp (j + 1), fun j => h.ap (j + 1)⟩
  intro as
  induction as with
  | nil => intro G0 vs P1 H1 Fs Fo env outs _ S _; exact ⟨Fs, S, fun i a h => .inl h⟩
  | cons a0 as ih =>
    intro G0 vs P1 H1 Fs Fo env outs av S h
    cases outs with
    | nil => cases a0 <;> exact ⟨Fs, S, fun i a h => .inl h⟩
    | cons o outs =>
      have plain : ∀ {v : V} {vs' : List V} {G' : List Addr}, AvL K mg P1 H1 σ G' vs' as → Handed K mg R P H Fs Fo (v :: vs') (o :: outs) → ∃ Fs2, Sta K mg B bv R P H Fs2 σ (putAll as outs env) ∧ ∀ i a, a ∈ Fs2 i → a ∈ Fs i ∨ ∃ j, a ∈ Fo j := fun {v vs' G'} t h => by
        obtain ⟨F2, S2, h2⟩ := ih t S (tl h)
        exact ⟨F2, S2, fun i a ha => (h2 i a ha).elim .inl fun ⟨j, y⟩ => .inr ⟨j + 1, y⟩⟩
      cases av with
      | v h0 t => exact plain t h
      | o h0 t => exact plain t h
      | @r G x xs i as' hi t =>
        cases o with
        | none =>
          obtain ⟨F2, S2, h2⟩ := ih t S (tl h)
          exact ⟨F2, S2, fun i a ha => (h2 i a ha).elim .inl fun ⟨j, y⟩ => .inr ⟨j + 1, y⟩⟩
        | some y =>
          obtain ⟨w, w1, w2⟩ := h.slot 0 y rfl
          simp at w1
          subst w1
          have fr : Free R P Fs (Fo 0) := ⟨h.nd 0, h.fr 0, h.fp 0, fun a ha => h.ap 0 a ha⟩
          have S1 := S.put hi w2 fr
          have h1 := tl h
          obtain ⟨F2, S2, h2⟩ := ih t S1 (Fo := fun j => Fo (j + 1)) ⟨h1.len, h1.slot, h1.dead, h1.nd, h1.dj, h1.fr, h1.fp, fun j a ha k z => by
            by_cases q : k = i
            · rw [if_pos q] at z
              exact h.dj (j + 1) 0 a (by omega) ha z
            · rw [if_neg q] at z
              exact h1.ap j a ha k z⟩
          refine ⟨F2, S2, fun k a ha => ?_⟩
          rcases h2 k a ha with z | ⟨j, z⟩
          · by_cases q : k = i
            · rw [if_pos q] at z; exact .inr ⟨0, z⟩
            · rw [if_neg q] at z; exact .inl z
          · exact .inr ⟨j + 1, z⟩
end
end DL

set_option maxHeartbeats 2000000
/-! DL9: what a def promises; calls of defs. -/
namespace DL
open PySem PySem.Spec PyProof.Rows L2

/-! ### the callee's state, and back -/
open Classical in
noncomputable def allR (R H : Hp) (Fs : Nat → List Addr) : Hp := fun a => if ∃ i, a ∈ Fs i then H a else R a
section
variable {K : PySem.W.Frag} {mg : Str → Option Value} {W : WX} {B Bc : List Nat} {bv : Nat → V} {R P P0 H P' H' : Hp} {Fs Fc Fs' : Nat → List Addr} {σ : L2.St} {env args : DEnv} {vs : List V}
theorem allR_in {a : Addr} (h : ∃ i, a ∈ Fs i) : allR R H Fs a = H a := by unfold allR; rw [if_pos h]
theorem allR_out {a : Addr} (h : ¬ ∃ i, a ∈ Fs i) : allR R H Fs a = R a := by unfold allR; rw [if_neg h]
theorem Sta.allR_same (S : Sta K mg B bv R P H Fs σ env) : Same R (allR R H Fs) := fun a o e => by
  rw [allR_out fun ⟨i, h⟩ => by rw [S.fr i a h] at e; cases e]
  exact e
theorem Sta.enter (S : Sta K mg B bv R P H Fs σ env) (h : Handed K mg R P H Fs Fc vs args) (hB : ∀ i ∈ Bc, i < vs.length) : Sta K mg Bc (fun i => vs.getD i .non) (allR R H Fs) P H Fc (vs.map some) args where
  rh := fun a o e n => by
    by_cases q : ∃ i, a ∈ Fs i
    · rw [allR_in q] at e; exact e
    · rw [allR_out q] at e; exact S.rh _ _ e n
  tb := fun p hp => ⟨(S.tb p hp).1, by rw [allR_out fun ⟨i, h⟩ => (S.tb p hp).2 (S.fr i _ h)]; exact (S.tb p hp).2⟩
  ph := S.ph
  rp := fun a e => by
    by_cases q : ∃ i, a ∈ Fs i
    · obtain ⟨i, q⟩ := q; exact S.fp i a q
    · rw [allR_out q] at e; exact S.rp a e
  slot := fun j x e => by
    obtain ⟨v, h1, h2⟩ := h.slot j x e
    exact ⟨v, by rw [List.getElem?_map, h1]; rfl, h2⟩
  dead := h.dead
  nd := h.nd
  dj := h.dj
  fr := fun j a q => by
    rw [allR_out fun ⟨i, z⟩ => h.ap j a q i z]
    exact h.fr j a q
  fp := h.fp
  len := by rw [List.length_map, h.len]
  pin := fun i hi => by
    have hl := hB i hi
    rw [List.getElem?_map, List.getElem?_eq_getElem hl]
    simp [List.getD, List.getElem?_eq_getElem hl]
  nt := fun a xs e => by
    by_cases q : ∃ i, a ∈ Fs i
    · rw [allR_in q] at e; obtain ⟨i, q⟩ := q; exact S.notup q xs e
    · rw [allR_out q] at e; exact S.nt a xs e
theorem Sta.back {rest outs : DEnv} {bc : Nat → V} (S : Sta K mg B bv R P H Fs σ rest) (C : Sta K mg Bc bc (allR R H Fs) P' H' Fs' (vs.map some) outs) (pp : Same P P') :
    Sta K mg B bv R P' H' Fs σ rest ∧ Handed K mg R P' H' Fs Fs' vs outs := by
  have hin : ∀ {i a}, a ∈ Fs i → ∃ o, H a = some o ∧ allR R H Fs a = some o := fun {i a} h => by
    obtain ⟨o, e⟩ := S.there h
    exact ⟨o, e, by rw [allR_in ⟨i, h⟩]; exact e⟩
  have notin : ∀ {a}, allR R H Fs a = none → ∀ i, a ∉ Fs i := fun {a} e i h => by
    obtain ⟨o, _, e2⟩ := hin h
    rw [e] at e2; cases e2
  have nz : ∀ {a}, R a ≠ none → allR R H Fs a ≠ none := fun {a} h => by
    cases q : R a with
    | none => exact absurd q h
    | some o => rw [S.allR_same _ _ q]; simp
  refine ⟨⟨Same.transX S.allR_same C.rh, fun p hp => ⟨(C.tb p hp).1, (S.tb p hp).2⟩, C.ph, fun a e => C.rp a (nz e), fun i x e => ?_, S.dead, S.nd, S.dj, S.fr, fun i a h => ?_, S.len, S.pin, S.nt⟩, ⟨?_, fun j x e => ?_, C.dead, C.nd, C.dj, fun j a h => S.allR_same.free (C.fr j a h), C.fp, fun j a h => notin (C.fr j a h)⟩⟩
  · obtain ⟨v, h1, h2⟩ := S.slot i x e
    exact ⟨v, h1, h2.keep pp fun a ha o ho => C.rh a o (by rw [allR_in ⟨i, ha⟩]; exact ho) (S.nota (S.fr i a ha))⟩
  · obtain ⟨o, _, e2⟩ := hin h
    exact C.rp a (by rw [e2]; simp)
  · have := C.len; rwa [List.length_map] at this
  · obtain ⟨v, h1, h2⟩ := C.slot j x e
    rw [List.getElem?_map] at h1
    obtain ⟨w, w1, w2⟩ := Option.map_eq_some_iff.mp h1
    cases w2
    exact ⟨v, w1, h2⟩
end

/-! ### a def's promise -/
def spF (K : PySem.W.Frag) (mg : Str → Option Value) (B : List Nat) (m : M OD) : Sp := fun vs H Q E => (∀ i ∈ B, i < vs.length) ∧ tO K mg (fun cls d _ H' => E cls d H') B m (vs.map some) H Q
structure FnG (P : Program) (w : World) (K : PySem.W.Frag) (mg : Str → Option Value) (base : Heap) (k : Nat) (f : Addr) (fd : FuncData) (ps : List Str) (B : List Nat) (m : M OD) : Prop where
  bs : ∀ i ∈ B, i < ps.length
  len : ∀ env, (∀ x e, m env ≠ .ok x e) ∧ (∀ x e, m env ≠ .ex x e) ∨ env.length = ps.length
  run : ∀ (A : Around) (outer : List Env) (s : Shared) (H : Hp) (args : Args) (us : List Value) (vs : List V) (Q : VK) (E : XK), Room k A → A.guards = some [] → (∃ o, base.get? sysModules = some o) → Env0 P w K mg base A outer s H →
    BindsTo s fd args (ps.zip us) → Vals vs us → spF K mg B m vs H Q E → codeAny (model P w) A (.call (.ref f) args) (CR (L2.CX P w) outer P w H s Q E) s
theorem FnG.mono {P : Program} {w : World} {K : PySem.W.Frag} {mg : Str → Option Value} {base : Heap} {j k : Nat} {f : Addr} {fd : FuncData} {ps : List Str} {B : List Nat} {m : M OD} (F : FnG P w K mg base j f fd ps B m) (h : j ≤ k) : FnG P w K mg base k f fd ps B m :=
  ⟨F.bs, F.len, fun A outer s H args us vs Q E hr => F.run A outer s H args us vs Q E (hr.mono h)⟩
/-- a body's end, as the def's: what of the arguments comes back -/
def keepB (B : List Nat) (n : Nat) (e : DEnv) : DEnv := (List.range n).map fun i => if i ∈ B then e.getD i none else none
def runF (n nn : Nat) (B : List Nat) (mb : M Flw) : M OD := fun env =>
  if env.length = n then
    match mb (env ++ List.replicate (nn - n) none) with
    | .ok (.rt x) e => .ok x (keepB B n e)
    | .ok .nx e => .ok (.pur .none) (keepB B n e)
    | .ok _ _ => .no
    | .ex x e => .ex x (keepB B n e)
    | .no => .no
  else .no
section
variable {K : PySem.W.Frag} {mg : Str → Option Value} {B : List Nat} {R P H P' H' : Hp} {Fs : Nat → List Addr} {σ : L2.St} {env : DEnv} {vs : List V}
theorem keepB_get {n i : Nat} {e : DEnv} {x : OD} : (keepB B n e)[i]? = some (some x) ↔ i < n ∧ i ∈ B ∧ e[i]? = some (some x) := by
  unfold keepB
  rw [List.getElem?_map]
  by_cases h : i < n
  · rw [List.getElem?_range h]
    simp only [Option.map_some, Option.some.injEq, h, true_and]
    by_cases hb : i ∈ B
    · simp only [hb, if_true, true_and]
      rw [List.getD_eq_getElem?_getD]
      cases q : e[i]? with
      | none => simp
      | some o => simp
    · simp [hb]
  · rw [List.getElem?_eq_none (by simpa using h)]
    simp [h]
/-- the slots of those that are pinned, alone -/
theorem Sta.kept {bv : Nat → V} (S : Sta K mg B bv R P H Fs σ env) (hB : ∀ i ∈ B, vs[i]? = some (bv i)) :
    Sta K mg B bv R P H (fun i => if i ∈ B ∧ i < vs.length then Fs i else []) (vs.map some) (keepB B vs.length env) where
  rh := S.rh
  tb := S.tb
  ph := S.ph
  rp := S.rp
  slot := fun i x e => by
    obtain ⟨h1, h2, h3⟩ := keepB_get.mp e
    obtain ⟨v, q1, q2⟩ := S.slot i x h3
    rw [S.pin i h2] at q1
    cases q1
    refine ⟨bv i, by rw [List.getElem?_map, hB i h2]; rfl, ?_⟩
    rw [if_pos ⟨h2, h1⟩]
    exact q2
  dead := fun i h => by
    by_cases q : i ∈ B ∧ i < vs.length
    · rw [if_pos q]
      exact S.dead i fun x e => h x (keepB_get.mpr ⟨q.2, q.1, e⟩)
    · rw [if_neg q]
  nd := fun i => by split; exact S.nd i; exact .nil
  dj := fun i j a hij h => by
    split at h
    · split
      · exact S.dj i j a hij h
      · simp
    · cases h
  fr := fun i a h => by
    split at h
    · exact S.fr i a h
    · cases h
  fp := fun i a h => by
    split at h
    · exact S.fp i a h
    · cases h
  len := by unfold keepB; simp
  pin := fun i hi => by rw [List.getElem?_map, hB i hi]; rfl
  nt := S.nt
theorem Sta.start {N : List Str} {bv : Nat → V} (S : Sta K mg B bv R P H Fs (vs.map some) env) (hB : ∀ i ∈ B, i < vs.length) (hN : vs.length ≤ N.length) : Sta K mg B bv R P H Fs (L2.start N vs) (env ++ List.replicate (N.length - vs.length) none) := by
  have hl : env.length = vs.length := by have := S.len; rw [List.length_map] at this; exact this.symm
  have get : ∀ {i : Nat} {x : OD}, (env ++ List.replicate (N.length - vs.length) none)[i]? = some (some x) → env[i]? = some (some x) := fun {i x} h => by
    by_cases q : i < env.length
    · rwa [List.getElem?_append_left q] at h
    · rw [List.getElem?_append_right (by omega), List.getElem?_replicate] at h
      split at h <;> cases h
  have sg : ∀ {i : Nat} {v : Option V}, (vs.map some)[i]? = some v → (L2.start N vs)[i]? = some v := fun {i v} h => by
    unfold L2.start
    rw [List.getElem?_append_left (List.getElem?_eq_some_iff.mp h).1]
    exact h
  refine ⟨S.rh, S.tb, S.ph, S.rp, fun i x h => ?_, fun i h => ?_, S.nd, S.dj, S.fr, S.fp, ?_, fun i hi => sg (S.pin i hi), S.nt⟩
  · obtain ⟨v, h1, h2⟩ := S.slot i x (get h)
    exact ⟨v, sg h1, h2⟩
  · refine S.dead i fun x e => h x ?_
    rw [List.getElem?_append_left (List.getElem?_eq_some_iff.mp e).1]
    exact e
  · unfold L2.start
    rw [List.length_append, List.length_append, List.length_map, List.length_replicate, List.length_replicate, hl]
end
/-- what a body's derivation is handed -/
abbrev CxF (P : Program) (w : World) (K : PySem.W.Frag) (mg : Str → Option Value) (base : Heap) (N : List Str) (qual : Str) (scope : Scope) (f : Addr) (cd : Value) (A : Around) (outer : List Env) (s : Shared) (H : Hp) (E : XK) : Cx := cxOf (L2.CX P w) P w K mg base N qual scope f cd A outer s H E
abbrev WF (E : XK) : WX := fun cls d _ H => E cls d H
theorem fng_of {P : Program} {w : World} {K : PySem.W.Frag} {mg : Str → Option Value} {base : Heap} {k : Nat} {f : Addr} {x qual : Str} {params : Arguments} {body : List Stmt} {scope : Scope} {dvs : List V} {kws : List (Str × V)} {fd : FuncData} {N ps : List Str} {B : List Nat} {mb : M Flw} {n nn : Nat}
    (F : FunD K x qual params body scope dvs kws f fd) (S : FnScope N ps scope) (hn : ps.length = n) (hnn : N.length = nn) (hB : ∀ i ∈ B, i < ps.length)
    (hb : ∀ (cd : Value) (A : Around) (outer : List Env) (s : Shared) (H : Hp) (E : XK), Room k (CxF P w K mg base N qual scope f cd A outer s H E).A → Gd (CxF P w K mg base N qual scope f cd A outer s H E) → SDs (CxF P w K mg base N qual scope f cd A outer s H E) (WF E) B body mb) :
    FnG P w K mg base (k + 1) f fd ps B (runF n nn B mb) := by
  subst hn hnn
  obtain ⟨oc, od, dV, kV, doc, pm, an, cdv, ct, osl, rfl, lk, hcd, _, _⟩ := F.ex
  have hle : ps.length ≤ N.length := by have := congrArg List.length S.pre; rw [List.length_take] at this; omega
  have hlen : ∀ env, ((∀ x e, runF ps.length N.length B mb env ≠ .ok x e) ∧ (∀ x e, runF ps.length N.length B mb env ≠ .ex x e)) ∨ env.length = ps.length := fun env => by
    by_cases h : env.length = ps.length
    · exact .inr h
    · refine .inl ⟨fun x e z => ?_, fun x e z => ?_⟩ <;> (unfold runF at z; rw [if_neg h] at z; cases z)
  refine ⟨hB, hlen, fun A outer s H args us vs Q E hr hg hsy e0 hbt r hsp => ?_⟩
  have KX : K.In s.heap := e0.mod.kin.keeps fun b o e => (e0.bs b o e).1
  obtain ⟨hBv, bv, R, P0, Fs, env, St, hpost⟩ := hsp
  have hl : vs.length = ps.length := by
    have h1 := St.len
    rw [List.length_map] at h1
    rcases hlen env with ⟨h2, h3⟩ | h2
    · cases q : runF ps.length N.length B mb env with
      | ok x e => exact absurd q (h2 x e)
      | ex x e => exact absurd q (h3 x e)
      | no => rw [q] at hpost; exact hpost.elim
    · omega
  have hle2 : env.length = ps.length := by have h1 := St.len; rw [List.length_map] at h1; omega
  refine codeAny_call_function hr.depth (KX _ _ lk) rfl S.co S.gen rfl (PySem.W.codeRec_of KX hcd) (hbt _ _ _ _ (wpAny_newFunctionEnv_cells S.kind (fun ⟨y, v⟩ hy => (S.par y (List.of_mem_zip hy).1).elim .inl fun q => .inr ⟨q, PySem.W.cellsFrom_some _ _ _ (.inl q)⟩) fun ev he s1 x => ?_))
  subst he
  refine ⟨(e0.mod.nolimit.keeps fun b o e => (e0.bs b o e).1).keeps x.toInCall.keep, codeAny_func ?_⟩
  have I : Inv (CxF P w K mg base N qual scope f cdv A outer s H E) [] (L2.start N vs) H s1 := inv_start S hr.hd e0 hl r x
  have S1 := St.start hBv (N := N) (by omega)
  rw [hl] at S1
  have hbd : ∀ i ∈ B, vs[i]? = some (bv i) := fun i hi => by
    have := St.pin i hi
    rw [List.getElem?_map] at this
    obtain ⟨u, u1, u2⟩ := Option.map_eq_some_iff.mp this
    cases u2
    exact u1
  have key : tS K mg (WF E) B mb { nx := fun _ H' => Q .non H', rt := Q } (L2.start N vs) H := by
    refine ⟨bv, R, P0, Fs, _, S1, ?_⟩
    unfold runF at hpost
    rw [if_pos hle2] at hpost
    cases q : mb (env ++ List.replicate (N.length - ps.length) none) with
    | no => rw [q] at hpost; exact hpost.elim
    | ex y e =>
      rw [q] at hpost
      exact fun cls dx σ' P' H' Fs' S' s' hx => hpost cls dx P' H' _ (hl ▸ S'.kept (vs := vs) hbd) s' hx
    | ok fl e =>
      rw [q] at hpost
      cases fl with
      | nx => exact fun σ' P' H' Fs' S' s' => hpost .non P' H' _ [] (hl ▸ S'.kept (vs := vs) hbd) s' (.pur .non) Free.nil
      | rt y => exact fun v σ' P' H' Fs' G S' s' o' f' => hpost v P' H' _ G (hl ▸ S'.kept (vs := vs) hbd) s' o' ⟨f'.nd, f'.r, f'.p, fun a ha i => by
          split
          · exact f'.f a ha i
          · simp⟩
      | bk => exact hpost.elim
      | ct => exact hpost.elim
  refine wpAny_mono ((hb cdv A outer s H E (hr.deeper _) ⟨hg, hsy⟩).run [] s1 (L2.start N vs) H _ I key) (fun fl s' hs => ?_) fun e s' hs => hs
  cases fl with
  | ret u =>
    obtain ⟨v, σ', H', J, rv, q⟩ := hs
    exact ⟨v, H', J.os, J.bare, J.base, J.hok, rv, q⟩
  | next =>
    obtain ⟨σ', H', J, q⟩ := hs
    exact ⟨V.non, H', J.os, J.bare, J.base, J.hok, rfl, q⟩
  | brk =>
    obtain ⟨_, _, _, q⟩ := hs
    exact q.elim
  | cont =>
    obtain ⟨_, _, _, q⟩ := hs
    exact q.elim
end DL

set_option maxHeartbeats 2000000
/-! DL10: calls of defs. -/
namespace DL
open PySem PySem.Spec PyProof.Rows L2

/-- the call itself, the arguments being there -/
def callA (f : M OD) (as : List AV) : M OD := fun env => match takeAll as env with
  | none => .no
  | some (args, rest) => match f args with
    | .ok x outs => .ok x (putAll as outs rest)
    | .ex x outs => .ex x (putAll as outs rest)
    | .no => .no
theorem call_eq (f : M OD) (l : M (List AV)) : M.call f l = M.bind l (callA f) := rfl
section
variable {K : PySem.W.Frag} {mg : Str → Option Value} {W : WX} {B Bc : List Nat} {bv : Nat → V} {R P P0 H : Hp} {Fs : Nat → List Addr} {σ : L2.St} {env : DEnv} {vs : List V} {as : List AV} {G : List Addr} {f : M OD} {Q : VK} {n : Nat}
theorem call_sp (s0 : Same P0 P) (S : Sta K mg B bv R P H Fs σ env) (av : AvL K mg P H σ G vs as) (fr : Free R P Fs G) (hB : ∀ i ∈ Bc, i < n) (hlen : ∀ e, ((∀ x e', f e ≠ .ok x e') ∧ ∀ x e', f e ≠ .ex x e') ∨ e.length = n)
    (h : post (callA f as env) (OkO K mg B bv R P0 σ Q) (ExD K mg W B bv R P0 σ)) : spF K mg Bc f vs H Q (fun cls d H' => W cls d σ H') ∧ vs.length = n := by
  unfold callA at h
  cases q : takeAll as env with
  | none => rw [q] at h; exact h.elim
  | some p =>
    obtain ⟨args, rest⟩ := p
    rw [q] at h
    simp only at h
    obtain ⟨Fs2, Fc, S2, hd, h3, h4⟩ := take_sta av S fr q
    have hvn : vs.length = n := by
      have h1 := hd.len
      rcases hlen args with ⟨z1, z2⟩ | z
      · cases qf : f args with
        | ok x e => exact absurd qf (z1 x e)
        | ex x e => exact absurd qf (z2 x e)
        | no => rw [qf] at h; exact h.elim
      · rw [h1]; exact z
    refine ⟨⟨fun i hi => by rw [hvn]; exact hB i hi, _, _, P, Fc, args, S2.enter hd (fun i hi => by rw [hvn]; exact hB i hi), ?_⟩, hvn⟩
    cases qf : f args with
    | no => rw [qf] at h; exact h.elim
    | ok x outs =>
      rw [qf] at h
      intro v P' H' Fs' G' C pp o' f'
      obtain ⟨T1, T2⟩ := S2.back C pp
      obtain ⟨F3, T3, T4⟩ := put_sta av T1 T2
      have np : ∀ a ∈ G', R a = none ∧ ∀ i, a ∉ Fs2 i := fun a ha => by
        have z := f'.r a ha
        refine ⟨S2.allR_same.free z, fun i hi => ?_⟩
        obtain ⟨o, e⟩ := S2.there hi
        rw [allR_in ⟨i, hi⟩, e] at z; cases z
      exact h v P' H' F3 G' T3 (s0.trans pp) o' ⟨f'.nd, fun a ha => (np a ha).1, f'.p, fun a ha i hi => (T4 i a hi).elim ((np a ha).2 i) fun ⟨j, z⟩ => f'.f a ha j z⟩
    | ex x outs =>
      rw [qf] at h
      intro cls dx P' H' Fs' C pp hx
      obtain ⟨T1, T2⟩ := S2.back C pp
      obtain ⟨F3, T3, _⟩ := put_sta av T1 T2
      exact h cls dx P' H' F3 T3 (s0.trans pp) hx
end
section
variable {X : Cx} {W : WX} {B Bc : List Nat} {k : Nat} {f : Addr} {fd : FuncData} {ps : List Str} {m : M OD} {ml : M (List AV)} {x : Str} {p pos kpos : Pos} {e : Expr} {es : List Expr}
/-- the call of a def, its arguments bound -/
theorem run_g {pins : List (Addr × Obj)} {σ : L2.St} {H : Hp} {s : Shared} {Q : VK} {args : Args} {us : List Value} {vs : List V} (g : Gd X) (F : FnG X.prog X.w X.K X.mg X.base k f fd ps Bc m) (hr : Room k X.A) (tk : Takes X W) (I : Inv X pins σ H s)
    (hb : BindsTo s fd args (ps.zip us)) (r : Vals vs us) (h : spF X.K X.mg Bc m vs H Q (fun cls d H' => W cls d σ H')) : codeAny (model X.prog X.w) X.A (.call (.ref f) args) (fun r s' => match r with
      | .ok (.ret u) => EP X pins σ Q u s'
      | .ok _ => False
      | .error e => X.xe e s') s := by
  refine codeAny_mono (F.run X.A X.stack s H args us vs Q _ hr g.guards g.sys I.env0 hb r h) fun r s' hq => ?_
  cases r with
  | error e => exact tk e s' (XE.of_call I (fun _ _ _ z => z) hq)
  | ok fl =>
    cases fl with
    | ret u => exact I.after hq
    | next => exact False.elim hq
    | brk => exact False.elim hq
    | cont => exact False.elim hq
theorem run_c {pins : List (Addr × Obj)} {σ : L2.St} {H : Hp} {s : Shared} {Q : VK} {us kw : List Value} {ks : List Str} {vs : List V} {bs : List Value} (g : Gd X) (F : FnG X.prog X.w X.K X.mg X.base k f fd ps Bc m) (hr : Room k X.A) (tk : Takes X W) (I : Inv X pins σ H s)
    (hb : BindsTo s fd ⟨us, ks.zip kw⟩ (ps.zip bs)) (r : Vals vs bs) (h : spF X.K X.mg Bc m vs H Q (fun cls d H' => W cls d σ H')) : wpAny (model X.prog X.w) X.A (call (.ref f) us (ks.zip kw)) (EP X pins σ Q) X.xe s := by
  refine wpAny_call (codeAny_mono (run_g g F hr tk I hb r h) fun r s' hq => ?_)
  cases r with
  | error e => exact hq
  | ok fl => cases fl with
    | ret u => exact hq
    | next => exact False.elim hq
    | brk => exact False.elim hq
    | cont => exact False.elim hq
theorem eo_call (g : Gd X) (F : FnG X.prog X.w X.K X.mg X.base k f fd ps Bc m) (hr : Room k X.A) (tk : Takes X W) (hg : Gl X x) (hm : X.mg x = some (.ref f)) (hk : PySem.W.keepIn X.K (.ref f) = true) (hb : Binds X.K fd ps [])
    (ha : AA X W B (e :: es) ml) (hdb : (x == ("__debug__" : Str)) = false := by decide) (he : starEach (e :: es) X.env = (false, eval e X.env) :: starEach es X.env := by rfl) (hpl : (backTo pos (starEach es X.env)).any (·.1) = false := by rfl) :
    EO X W B (.Call (.Name x p) (e :: es) [] pos) (M.call m ml) := ⟨fun pins s σ H Q I ⟨bv, R, P, Fs, env, S, q⟩ => by
  rw [call_eq] at q
  refine wpAny_Call_Name_kw (ld_glob I hg hm (PySem.W.callWith_K (h₀ := X.base) I.ok.mod.kin hk (thn (ha.run pos pins s σ H _ I (tA_bind (Q := fun vs H1 => spF X.K X.mg Bc m vs H1 Q (fun cls d H' => W cls d σ H') ∧ vs.length = ps.length) (Same.refl _) S q
    fun l e1 vs P1 H1 F1 G S1 s1 av fr q1 => call_sp s1 S1 av fr F.bs F.len q1)) fun us s1 ⟨vs, H1, I1, r, q1, hl⟩ => ⟨I1.kIn, ?_⟩) he hpl) hdb)
  have hb' := hb s1 us I1.kIn (by rw [List.append_nil, ← r.length, hl])
  rw [List.append_nil] at hb'
  exact run_c (ks := []) (kw := []) g F hr tk I1 hb' r q1⟩
/-! keywords -/
abbrev KA (X : Cx) (W : WX) (B : List Nat) (kws : List Keyword) (m : M (List AV)) : Prop := PK X kws (tA X.K X.mg W B m)
theorem PK_mono {X : Cx} {es : List Keyword} {t t' : TA} (h : PK X es t) (i : ∀ σ H Q, t' σ H Q → t σ H Q) : PK X es t' := ⟨fun pos pins s σ H Q I q => h.run pos pins s σ H Q I (i σ H Q q)⟩
variable {kws : List Keyword} {md : M PyData} {mk : M (List AV)} {nm : Option Str}
theorem ka_nil : KA X W B [] M.aNil := PK_mono pk_nil fun σ H Q ⟨bv, R, P, Fs, env, S, q⟩ => q [] P H Fs [] S (Same.refl _) .nil Free.nil
theorem ka_v (h : ED X W B e md) (hr : KA X W B kws mk) : KA X W B (⟨nm, e, kpos⟩ :: kws) (M.aV md mk) :=
  PK_mono (pk_cons h hr) fun σ H Q ⟨bv, R, P, Fs, env, S, q⟩ => tD_bind (Same.refl _) S q fun d e1 v P1 H1 F1 S1 s1 r1 q1 => tA_bind s1 S1 q1 fun l e2 vs P2 H2 F2 G S2 s2 r2 f2 q2 =>
    q2 (v :: vs) P2 H2 F2 G S2 (s1.trans s2) (.v (r1.mono s2) r2) f2
/-- the arguments in the parameters' order: only values and slots -/
def AV.plain : AV → Bool
  | .o _ => false
  | _ => true
def permL {α : Type} (d : α) (pm : List Nat) (l : List α) : List α := pm.map fun i => l.getD i d
def permA (n : Nat) (pm : List Nat) (a b : List AV) : Option (List AV) := if (((a ++ b).all AV.plain && pm.all (· < (a ++ b).length)) && decide (a.length = n)) && decide ((a ++ b).length = pm.length) then some (permL (.v .none) pm (a ++ b)) else none
def M.perm (n : Nat) (pm : List Nat) (l r : M (List AV)) : M (List AV) := M.bind l fun a => M.bind r fun b => M.opt (permA n pm a b)
section
variable {K : PySem.W.Frag} {mg : Str → Option Value} {P H : Hp} {σ : L2.St}
theorem AvL.mono' {P' H' : Hp} {G : List Addr} {vs : List V} {as : List AV} (s : Same P P') (h : AvL K mg P H σ G vs as) (hp : as.all AV.plain = true) : AvL K mg P' H' σ [] vs as ∧ G = [] := by
  induction h with
  | nil => exact ⟨.nil, rfl⟩
  | v h t ih => obtain ⟨i1, i2⟩ := ih (by simpa [AV.plain] using hp); exact ⟨.v (h.mono s) i1, i2⟩
  | o h t ih => simp [AV.plain] at hp
  | r h t ih => obtain ⟨i1, i2⟩ := ih (by simpa [AV.plain] using hp); exact ⟨.r h i1, i2⟩
theorem AvL.app {G G2 : List Addr} {vs ws : List V} {as bs : List AV} (h : AvL K mg P H σ G vs as) (q : AvL K mg P H σ G2 ws bs) (hp : as.all AV.plain = true) : AvL K mg P H σ G2 (vs ++ ws) (as ++ bs) := by
  induction h with
  | nil => exact q
  | v h t ih => exact .v h (ih (by simpa [AV.plain] using hp))
  | o h t ih => simp [AV.plain] at hp
  | r h t ih => exact .r h (ih (by simpa [AV.plain] using hp))
theorem AvL.len {G : List Addr} {vs : List V} {as : List AV} (h : AvL K mg P H σ G vs as) : vs.length = as.length := by
  induction h <;> simp_all
theorem AvL.pick {G G2 : List Addr} {vs xs : List V} {as bs : List AV} (h : AvL K mg P H σ G vs as) (q : AvL K mg P H σ G2 xs bs) (hp : as.all AV.plain = true) : ∀ {i : Nat}, i < as.length → AvL K mg P H σ G2 (vs.getD i .non :: xs) (as.getD i (.v .none) :: bs) := by
  induction h with
  | nil => intro i hi; exact absurd hi (by simp)
  | v h t ih =>
    intro i hi
    cases i with
    | zero => exact .v h q
    | succ i => simpa using ih (by simpa [AV.plain] using hp) (i := i) (by simpa using hi)
  | o h t ih => simp [AV.plain] at hp
  | r h t ih =>
    intro i hi
    cases i with
    | zero => exact .r h q
    | succ i => simpa using ih (by simpa [AV.plain] using hp) (i := i) (by simpa using hi)
theorem AvL.perm {G : List Addr} {vs : List V} {as : List AV} (h : AvL K mg P H σ G vs as) (hp : as.all AV.plain = true) : ∀ {pm : List Nat}, pm.all (· < as.length) = true → AvL K mg P H σ [] (permL .non pm vs) (permL (.v .none) pm as)
  | [], _ => .nil
  | i :: pm, hi => by
    simp only [List.all_cons, Bool.and_eq_true, decide_eq_true_eq] at hi
    exact h.pick (AvL.perm h hp hi.2) hp hi.1
end
theorem vals_perm {vs : List V} {us : List Value} (h : Vals vs us) : ∀ {pm : List Nat}, (∀ i ∈ pm, i < vs.length) → Vals (permL .non pm vs) (permL .none pm us)
  | [], _ => .nil
  | i :: pm, hi => by
    have hl := hi i List.mem_cons_self
    obtain ⟨u, u1, u2⟩ := h.get (i := i) (List.getElem?_eq_getElem hl)
    refine .cons ?_ (vals_perm h fun j hj => hi j (List.mem_cons_of_mem _ hj))
    show RelV (vs.getD i .non) (us.getD i .none)
    rw [List.getD_eq_getElem?_getD, List.getD_eq_getElem?_getD, u1, List.getElem?_eq_getElem hl]
    exact u2
/-- how n positional and the keywords ks are bound -/
def KB (K : PySem.W.Frag) (fd : FuncData) (ps ks : List Str) (n : Nat) (pm : List Nat) : Prop := ∀ (s : Shared) (us ws : List Value), K.In s.heap → us.length = n → ws.length = ks.length → BindsTo s fd ⟨us, ks.zip ws⟩ (ps.zip (permL .none pm (us ++ ws)))
theorem kb_of {K : PySem.W.Frag} {x qual : Str} {params : Arguments} {body : List Stmt} {scope : Scope} {kws : List (Str × V)} {f : Addr} {fd : FuncData} {ps ks : List Str} {n : Nat} {pm : List Nat} (F : FunD K x qual params body scope [] kws f fd)
    (h : ∀ (kV doc pm' : Value) (an : Option Addr) (cdv ct : Value) (us ws : List Value), us.length = n → ws.length = ks.length → bindArgs (PySem.W.fnOf x qual params body scope .none kV doc pm' an cdv ct) ⟨us, ks.zip ws⟩ = pure (ps.zip (permL .none pm (us ++ ws)))) : KB K fd ps ks n pm := by
  obtain ⟨oc, od, dV, kV, doc, pm', an, cdv, ct, osl, rfl, lk, hcd, hD, hK⟩ := F.ex
  rcases hD with ⟨_, rfl⟩ | ⟨z, _⟩
  · exact fun s us ws _ h1 h2 => .of_eq (h kV doc pm' an cdv ct us ws h1 h2)
  · exact absurd rfl z
theorem kperm_sp {σ : L2.St} {pm : List Nat} {n : Nat} {bv : Nat → V} {R P0 P1 P2 H1 H2 : Hp} {F2 : Nat → List Addr} {e2 : DEnv} {l1 l2 : List AV} {G1 G2 : List Addr} {vs zs : List V} {Q : VK} {ps : List Str}
    (hB : ∀ i ∈ Bc, i < ps.length) (hlen : ∀ e, ((∀ x e', m e ≠ .ok x e') ∧ ∀ x e', m e ≠ .ex x e') ∨ e.length = ps.length) (s01 : Same P0 P1) (a1 : AvL X.K X.mg P1 H1 σ G1 vs l1) (s2 : Same P1 P2) (S2 : Sta X.K X.mg B bv R P2 H2 F2 σ e2) (a2 : AvL X.K X.mg P2 H2 σ G2 zs l2)
    (q2 : post (M.bind (M.opt (permA n pm l1 l2)) (callA m) e2) (OkO X.K X.mg B bv R P0 σ Q) (ExD X.K X.mg W B bv R P0 σ)) :
    spF X.K X.mg Bc m (permL .non pm (vs ++ zs)) H2 Q (fun cls d H' => W cls d σ H') ∧ (permL V.non pm (vs ++ zs)).length = ps.length ∧ (∀ i ∈ pm, i < (vs ++ zs).length) ∧ vs.length = n ∧ (vs ++ zs).length = pm.length := by
  unfold permA at q2
  split at q2
  · rename_i hc
    simp only [Bool.and_eq_true, decide_eq_true_eq, List.all_append] at hc
    obtain ⟨⟨⟨⟨c1, c2⟩, c3⟩, c4⟩, c5⟩ := hc
    obtain ⟨b1, _⟩ := a1.mono' (H' := H2) s2 c1
    have b := b1.app a2 c1
    have bl := b.len
    obtain ⟨h1, h2⟩ := call_sp (s01.trans s2) S2 (b.perm (by rw [List.all_append, c1, c2]; rfl) c3) Free.nil hB hlen q2
    exact ⟨h1, h2, fun i hi => by rw [bl]; simpa using List.all_eq_true.mp c3 i hi, by rw [a1.len, c4], by rw [bl, c5]⟩
  · exact q2.elim
theorem eo_callK0 (pm : List Nat) {ks : List Str} (g : Gd X) (F : FnG X.prog X.w X.K X.mg X.base k f fd ps Bc m) (hr : Room k X.A) (tk : Takes X W) (hg : Gl X x) (hm : X.mg x = some (.ref f)) (hk : PySem.W.keepIn X.K (.ref f) = true) (hb : KB X.K fd ps ks 0 pm)
    (hkw : KA X W B kws mk) (hpm : pm.length = ks.length := by rfl) (hall : (backToKw pos (keywordEach kws X.env)).all (·.1.isSome) = true := by rfl) (hks : (backToKw pos (keywordEach kws X.env)).filterMap (·.1) = ks := by rfl)
    (hdb : (x == ("__debug__" : Str)) = false := by decide)
    (hpl : ((backTo pos (starEach [] X.env)).any (·.1) || (backToKw pos (keywordEach kws X.env)).any (·.1.isNone)) = false := by rfl) :
    EO X W B (.Call (.Name x p) [] kws pos) (M.call m (M.perm 0 pm M.aNil mk)) := ⟨fun pins s σ H Q I ⟨bv, R, P, Fs, env, S, q⟩ => by
  rw [call_eq] at q
  have q' : post (M.bind mk (fun b => M.bind (M.opt (permA 0 pm [] b)) (callA m)) env) (OkO X.K X.mg B bv R P σ Q) (ExD X.K X.mg W B bv R P σ) := by
    have e1 : M.bind (M.perm 0 pm M.aNil mk) (callA m) env = M.bind mk (fun b => M.bind (M.opt (permA 0 pm [] b)) (callA m)) env := by
      simp only [M.perm, M.aNil, M.bind, M.pure]
      cases mk env <;> rfl
    rw [← e1]; exact q
  refine wpAny_Call_Name_kw (ld_glob I hg hm ?_ hdb)
  refine PySem.W.callWith_KW0 (h₀ := X.base) I.ok.mod.kin hk hall (thn (hkw.run pos pins s σ H _ I (tA_bind (Q := fun zs H1 => spF X.K X.mg Bc m (permL .non pm ([] ++ zs)) H1 Q (fun cls d H' => W cls d σ H') ∧ (permL V.non pm ([] ++ zs)).length = ps.length ∧ (∀ i ∈ pm, i < (([] : List V) ++ zs).length) ∧ ([] : List V).length = 0 ∧ (([] : List V) ++ zs).length = pm.length) (Same.refl _) S q'
    fun l e1 zs P1 H1 F1 G S1 s1 av fr q1 => kperm_sp (H1 := H1) F.bs F.len (Same.refl _) .nil s1 S1 av q1)) fun ws s1 ⟨zs, H1, I1, r, q1, hl, hi, _, hz⟩ => ⟨I1.kIn, ?_⟩) hpl
  rw [hks]
  have lw := r.length
  have hb' := hb s1 [] ws I1.kIn rfl (by simp only [List.nil_append] at hz; omega)
  exact run_c g F hr tk I1 hb' (vals_perm (vs := [] ++ zs) (us := [] ++ ws) r hi) q1⟩
end
end DL

set_option maxHeartbeats 2000000
/-! DL11: targets with their slots; comprehensions. -/
namespace DL
open PySem PySem.Spec PyProof.Rows L2

/-! ### targets, by the slots that they store -/
def Alike (is : List Nat) (σ σ' : L2.St) : Prop := σ'.length = σ.length ∧ ∀ i, i ∉ is → σ'[i]? = σ[i]?
theorem Alike.refl {is : List Nat} {σ : L2.St} : Alike is σ σ := ⟨rfl, fun _ _ => rfl⟩
theorem Alike.trans {is : List Nat} {σ σ' σ2 : L2.St} (a : Alike is σ σ') (b : Alike is σ' σ2) : Alike is σ σ2 := ⟨b.1.trans a.1, fun i h => (b.2 i h).trans (a.2 i h)⟩
theorem Alike.more {is js : List Nat} {σ σ' : L2.St} (a : Alike is σ σ') (h : ∀ i ∈ is, i ∈ js) : Alike js σ σ' := ⟨a.1, fun i n => a.2 i fun z => n (h i z)⟩
theorem wipe_get {σ : L2.St} {i : Nat} : ∀ {vs : List Nat}, (wipe σ vs)[i]? = if i ∈ vs ∧ i < σ.length then some none else σ[i]?
  | [] => by simp [wipe]
  | v :: vs => by
    unfold wipe
    by_cases h : v = i
    · subst h
      by_cases hl : v < σ.length
      · rw [List.getElem?_set_self (by rw [wipe_length]; exact hl), if_pos ⟨List.mem_cons_self, hl⟩]
      · rw [if_neg fun z => hl z.2, List.getElem?_eq_none (by rw [List.length_set, wipe_length]; omega), List.getElem?_eq_none (by omega)]
    · rw [List.getElem?_set_ne h, wipe_get]
      have : (i ∈ v :: vs) ↔ i ∈ vs := by simp [Ne.symm h]
      simp only [this]
theorem L2wipe_idem {σ : L2.St} {vs : List Nat} : L2.wipe (L2.wipe σ vs) vs = L2.wipe σ vs := by
  apply List.ext_getElem?
  intro i
  rw [wipe_get, wipe_length]
  by_cases h : i ∈ vs ∧ i < σ.length
  · rw [if_pos h, wipe_get, if_pos h]
  · rw [if_neg h]
theorem Alike.wipe {is : List Nat} {σ σ' : L2.St} (a : Alike is σ σ') : L2.wipe σ' is = L2.wipe σ is := by
  apply List.ext_getElem?
  intro i
  rw [wipe_get, wipe_get, a.1]
  by_cases h : i ∈ is
  · by_cases hl : i < σ.length
    · rw [if_pos ⟨h, hl⟩, if_pos ⟨h, hl⟩]
    · rw [if_neg fun z => hl z.2, if_neg fun z => hl z.2, List.getElem?_eq_none (by rw [a.1]; omega), List.getElem?_eq_none (by omega)]
  · rw [if_neg fun z => h z.1, if_neg fun z => h z.1, a.2 i h]
def tV (K : PySem.W.Frag) (mg : Str → Option Value) (B is : List Nat) (g : TG') : TG := fun v σ H Q => ∃ bv R P Fs env d e, Sta K mg B bv R P H Fs σ env ∧ Rp K P v d ∧ g d env = some e ∧ ∀ σ' P' H' Fs', Sta K mg B bv R P' H' Fs' σ' e → Same P P' → Alike is σ σ' → Q σ' H'
abbrev GV (X : Cx) (B is : List Nat) (tg : Expr) (g : TG') : Prop := PG X tg (tV X.K X.mg B is g)
def tVs (K : PySem.W.Frag) (mg : Str → Option Value) (B is : List Nat) (g : TGs') : TGs := fun vs σ H Q => ∃ bv R P Fs env ds e, Sta K mg B bv R P H Fs σ env ∧ RpA K P vs ds ∧ g ds env = some e ∧ ∀ σ' P' H' Fs', Sta K mg B bv R P' H' Fs' σ' e → Same P P' → Alike is σ σ' → Q σ' H'
abbrev GVs (X : Cx) (B is : List Nat) (tgs : List Expr) (g : TGs') : Prop := PGs X tgs (tVs X.K X.mg B is g)
def gTupE (n : Nat) (g : TGs') : TG' := fun d env => match d with
  | .tuple ds => if ds.length = n then g ds env else none
  | _ => none
section
variable {X : Cx} {B is : List Nat} {pos : Pos} {e : Expr} {es : List Expr}
theorem gv_gt {g : TG'} (h : GV X B is e g) : GT X B e g := PG_mono h fun v σ H Q ⟨bv, R, P, Fs, env, d, e, S, r, q, k⟩ => ⟨bv, R, P, Fs, env, d, e, S, r, q, fun σ' P' H' Fs' S' s' _ => k σ' P' H' Fs' S' s'⟩
theorem gv_name (i : Nat) {x : Str} (hN : X.N.Nodup) (hB : i ∉ B) (his : i ∈ is) (hi : X.N[i]? = some x := by rfl) (hx : Loc X.env.scope x := by first | exact Or.inl rfl | exact Or.inr rfl) (hf : X.fn x = true ∨ X.env.scope.names.lookup x = some .local := by first | exact .inl rfl | exact .inr rfl | assumption) :
    GV X B is (.Name x pos) (gNameD i) := PG_mono (pg_name hN hi hx hf) fun v σ H Q ⟨bv, R, P, Fs, env, d, e, S, r, q, k⟩ => by
  unfold gNameD at q
  by_cases hl : i < env.length
  · rw [if_pos hl] at q
    cases q
    exact k _ P H _ (S.store (.pur r) Free.nil hB hl) (Same.refl _) ⟨List.length_set .., fun j hj => List.getElem?_set_ne (fun (z : i = j) => hj (z ▸ his))⟩
  · rw [if_neg hl] at q; cases q
theorem gvs_nil : GVs X B is [] gNilD := PGs_mono pgs_nil fun v σ H Q ⟨bv, R, P, Fs, env, d, e, S, r, q, k⟩ => by
  cases r with
  | nil => cases q; exact ⟨rfl, k σ P H Fs S (Same.refl _) Alike.refl⟩
  | cons h t => cases q
theorem gvs_cons {g : TG'} {gs : TGs'} (h1 : GV X B is e g) (h2 : GVs X B is es gs) (hs : (assignEach (e :: es) X.env).map (·.2) = assign e X.env :: (assignEach es X.env).map (·.2) := by rfl) : GVs X B is (e :: es) (gConsD g gs) :=
  PGs_mono (pgs_cons h1 h2 hs) fun v σ H Q ⟨bv, R, P, Fs, env, d, e, S, r, q, k⟩ => by
    cases r with
    | nil => cases q
    | cons h t =>
      simp only [gConsD] at q
      obtain ⟨e1, q1, q2⟩ := Option.bind_eq_some_iff.mp q
      exact ⟨_, _, rfl, bv, R, P, Fs, env, _, e1, S, h, q1, fun σ1 P1 H1 F1 S1 s1 a1 => ⟨bv, R, P1, F1, e1, _, e, S1, t.mono s1, q2, fun σ2 P2 H2 F2 S2 s2 a2 => k σ2 P2 H2 F2 S2 (s1.trans s2) (a1.trans a2)⟩⟩
theorem gv_tup {gs : TGs'} {n kk : Nat} (hc : X.calm = true) (h : GVs X B is es gs) (hn : (assignEach es X.env).length = n := by rfl) (hst : (assignEach es X.env).findIdx? (·.1) = none := by rfl) : GV X B is (.Tuple es kk pos) (gTupE n gs) :=
  PG_mono (pg_tup hc h hn hst) fun v σ H Q ⟨bv, R, P, Fs, env, d, e, S, r, q, k⟩ => by
    cases r with
    | tup h t =>
      simp only [gTupE] at q
      split at q
      · rename_i hl
        exact ⟨_, _, rfl, seqT_mono S.ph h, by rw [t.length]; exact hl, bv, R, P, Fs, env, _, e, S, t, q, k⟩
      · cases q
    | _ => cases q
end

/-! ### a block's slots -/
def wipeE (vs : List Nat) (env : DEnv) : DEnv := match vs with
  | [] => env
  | v :: vs => (wipeE vs env).set v none
def pickP (env : DEnv) (v : Nat) : Option OD := match env[v]? with
  | some (some (.pur d)) => some (.pur d)
  | _ => none
def restE (vs : List Nat) (env0 e : DEnv) : DEnv := match vs with
  | [] => e
  | v :: vs => (restE vs env0 e).set v (pickP env0 v)
theorem wipeE_len (env : DEnv) : ∀ vs, (wipeE vs env).length = env.length
  | [] => rfl
  | v :: vs => by unfold wipeE; rw [List.length_set, wipeE_len env vs]
theorem wipeE_get {env : DEnv} {i : Nat} {x : OD} : ∀ {vs : List Nat}, (wipeE vs env)[i]? = some (some x) ↔ i ∉ vs ∧ env[i]? = some (some x)
  | [] => by simp [wipeE]
  | v :: vs => by
    unfold wipeE
    by_cases h : v = i
    · subst h
      constructor
      · intro e
        by_cases hl : v < (wipeE vs env).length
        · rw [List.getElem?_set_self hl] at e; cases e
        · rw [List.getElem?_eq_none (by rw [List.length_set]; omega)] at e; cases e
      · intro e; exact absurd List.mem_cons_self e.1
    · rw [List.getElem?_set_ne h, wipeE_get]
      simp [Ne.symm h]
theorem restE_len (env e : DEnv) : ∀ vs, (restE vs env e).length = e.length
  | [] => rfl
  | v :: vs => by unfold restE; rw [List.length_set, restE_len env e vs]
theorem restE_in {env e : DEnv} {i : Nat} {x : OD} : ∀ {vs : List Nat}, i ∈ vs → (restE vs env e)[i]? = some (some x) → ∃ d, x = .pur d ∧ env[i]? = some (some (.pur d))
  | v :: vs, h, q => by
    unfold restE at q
    by_cases hv : v = i
    · subst hv
      by_cases hl : v < (restE vs env e).length
      · rw [List.getElem?_set_self hl] at q
        unfold pickP at q
        split at q
        · rename_i d hd; cases q; exact ⟨d, rfl, hd⟩
        · cases q
      · rw [List.getElem?_eq_none (by rw [List.length_set]; omega)] at q; cases q
    · rw [List.getElem?_set_ne hv] at q
      exact restE_in (by rcases List.mem_cons.mp h with z | z; exact absurd z.symm hv; exact z) q
theorem restE_out {env e : DEnv} {i : Nat} : ∀ {vs : List Nat}, i ∉ vs → (restE vs env e)[i]? = e[i]?
  | [], _ => rfl
  | v :: vs, h => by
    unfold restE
    rw [List.getElem?_set_ne (fun (z : v = i) => h (z ▸ List.mem_cons_self)), restE_out fun z => h (List.mem_cons_of_mem _ z)]
section
variable {K : PySem.W.Frag} {mg : Str → Option Value} {B vs : List Nat} {bv : Nat → V} {R P P' H H' : Hp} {Fs Fs' : Nat → List Addr} {σ : L2.St} {env e : DEnv}
theorem Sta.wipe (S : Sta K mg B bv R P H Fs σ env) (hB : ∀ i ∈ vs, i ∉ B) : Sta K mg B bv R P H (fun i => if i ∈ vs then [] else Fs i) (L2.wipe σ vs) (wipeE vs env) where
  rh := S.rh
  tb := S.tb
  ph := S.ph
  rp := S.rp
  slot := fun i x h => by
    obtain ⟨h1, h2⟩ := wipeE_get.mp h
    obtain ⟨v, q1, q2⟩ := S.slot i x h2
    refine ⟨v, by rw [wipe_get, if_neg fun z => h1 z.1]; exact q1, ?_⟩
    rw [if_neg h1]; exact q2
  dead := fun i h => by
    split
    · rfl
    · rename_i hi
      exact S.dead i fun x z => h x (wipeE_get.mpr ⟨hi, z⟩)
  nd := fun i => by split; exact .nil; exact S.nd i
  dj := fun i j a hij h => by
    split at h
    · cases h
    · split
      · simp
      · exact S.dj i j a hij h
  fr := fun i a h => by
    split at h
    · cases h
    · exact S.fr i a h
  fp := fun i a h => by
    split at h
    · cases h
    · exact S.fp i a h
  len := by rw [wipe_length, wipeE_len, S.len]
  pin := fun i hi => by rw [wipe_get, if_neg fun z => hB i z.1 hi]; exact S.pin i hi
  nt := S.nt
theorem Ow.pur_inv {F : List Addr} {v : V} {d : PyData} (h : Ow K mg P H F v (.pur d)) : Rp K P v d := by
  cases h with
  | pur r => exact r
/-- back in the def's own slots -/
theorem Sta.unwipe (S : Sta K mg B bv R P H Fs σ env) (T : Sta K mg B bv R P' H' Fs' (L2.wipe σ vs) e) (pp : Same P P') (hB : ∀ i ∈ vs, i ∉ B) : Sta K mg B bv R P' H' (fun i => if i ∈ vs then [] else Fs' i) σ (restE vs env e) where
  rh := T.rh
  tb := T.tb
  ph := T.ph
  rp := T.rp
  slot := fun i x h => by
    by_cases hi : i ∈ vs
    · obtain ⟨d, rfl, h2⟩ := restE_in hi h
      obtain ⟨v, q1, q2⟩ := S.slot i _ h2
      refine ⟨v, q1, ?_⟩
      rw [if_pos hi]
      exact .pur (q2.pur_inv.mono pp)
    · rw [restE_out hi] at h
      obtain ⟨v, q1, q2⟩ := T.slot i x h
      rw [wipe_get, if_neg fun z => hi z.1] at q1
      refine ⟨v, q1, ?_⟩
      rw [if_neg hi]; exact q2
  dead := fun i h => by
    split
    · rfl
    · rename_i hi
      exact T.dead i fun x z => h x (by rw [restE_out hi]; exact z)
  nd := fun i => by split; exact .nil; exact T.nd i
  dj := fun i j a hij h => by
    split at h
    · cases h
    · split
      · simp
      · exact T.dj i j a hij h
  fr := fun i a h => by
    split at h
    · cases h
    · exact T.fr i a h
  fp := fun i a h => by
    split at h
    · cases h
    · exact T.fp i a h
  len := by rw [restE_len]; have := T.len; rwa [wipe_length] at this
  pin := S.pin
  nt := S.nt
theorem tabS_upd {H : Hp} {a D : Addr} {q : Str} {u' : HO} (h : a ≠ D) (hD : ∀ φ, H D ≠ some (.ext φ)) (t : LamX.TabS H a q) : LamX.TabS (upd H D u') a q := by
  obtain ⟨ps, h1, h2, h3⟩ := t
  refine ⟨ps, by rw [upd_ne h]; exact h1, h2, fun pos cv hc => ?_⟩
  obtain ⟨c, e1, e2⟩ := h3 pos cv hc
  refine ⟨c, e1, ?_⟩
  rw [upd_ne fun z => hD _ (z ▸ e2)]
  exact e2
/-- what is kept for those who called is written by us -/
theorem Sta.write {D : Addr} {u u' : HO} (S : Sta K mg B bv (upd R D u) P H Fs σ env) (hD : D ∉ TbA K) (hn : ∀ xs, u' ≠ .tup xs := by intro _ z; cases z) (hx : ∀ φ, u ≠ .ext φ := by intro _ z; cases z) : Sta K mg B bv (upd R D u') P (upd H D u') Fs σ env where
  rh := fun a o h n => by
    by_cases q : a = D
    · subst q; rw [upd_same] at h ⊢; exact h
    · rw [upd_ne q] at h ⊢; exact S.rh a o (by rw [upd_ne q]; exact h) n
  tb := fun p hp => by
    have ne : p.1 ≠ D := fun z => hD (z ▸ List.mem_map.mpr ⟨p, hp, rfl⟩)
    refine ⟨tabS_upd ne (fun φ z => ?_) (S.tb p hp).1, ?_⟩
    · rw [S.rh D u upd_same hD] at z
      exact hx φ (Option.some.inj z)
    · have := (S.tb p hp).2
      rw [upd_ne ne] at this ⊢
      exact this
  ph := fun a o h => by
    have : a ≠ D := fun q => by
      subst q
      rw [S.rp a (by rw [upd_same]; simp)] at h; cases h
    rw [upd_ne this]; exact S.ph a o h
  rp := fun a h => S.rp a (by
    by_cases q : a = D
    · subst q; rw [upd_same]; simp
    · rw [upd_ne q] at h ⊢; exact h)
  slot := fun i x h => by
    obtain ⟨v, q1, q2⟩ := S.slot i x h
    refine ⟨v, q1, q2.keep (Same.refl _) fun a ha o ho => ?_⟩
    have : a ≠ D := fun q => by
      subst q
      have z := S.fr i a ha
      rw [upd_same] at z; cases z
    rw [upd_ne this]; exact ho
  dead := S.dead
  nd := S.nd
  dj := S.dj
  fr := fun i a h => by
    have z := S.fr i a h
    by_cases q : a = D
    · subst q; rw [upd_same] at z; cases z
    · rw [upd_ne q] at z ⊢; exact z
  fp := S.fp
  len := S.len
  pin := S.pin
  nt := fun a xs e => by
    by_cases q : a = D
    · subst q; rw [upd_same] at e; exact hn xs (by injection e)
    · rw [upd_ne q] at e; exact S.nt a xs (by rw [upd_ne q]; exact e)
theorem Sta.newR {D : Addr} {u : HO} (S : Sta K mg B bv R P H Fs σ env) (hD : H D = none) (hn : ∀ xs, u ≠ .tup xs := by intro _ z; cases z) : Sta K mg B bv (upd R D u) P (upd H D u) Fs σ env where
  rh := fun a o h n => by
    by_cases q : a = D
    · subst q; rw [upd_same] at h ⊢; exact h
    · rw [upd_ne q] at h ⊢; exact S.rh a o h n
  tb := fun p hp => ⟨(S.tb p hp).1.ext (ext_heap S.ph u hD).hh, by
    by_cases q : p.1 = D
    · rw [q, upd_same]; simp
    · rw [upd_ne q]; exact (S.tb p hp).2⟩
  ph := (ext_heap S.ph u hD).ph
  rp := fun a h => by
    by_cases q : a = D
    · subst q; exact S.ph.free hD
    · rw [upd_ne q] at h; exact S.rp a h
  slot := (S.ext (ext_heap S.ph u hD)).slot
  dead := S.dead
  nd := S.nd
  dj := S.dj
  fr := fun i a h => by
    by_cases q : a = D
    · subst q; exact absurd h ((S.dh hD).2.2 i)
    · rw [upd_ne q]; exact S.fr i a h
  fp := S.fp
  len := S.len
  pin := S.pin
  nt := fun a xs e => by
    by_cases q : a = D
    · subst q; rw [upd_same] at e; exact hn xs (by injection e)
    · rw [upd_ne q] at e; exact S.nt a xs e
end

/-! ### [elt for target in iter if ..] -/
def W0 : WX := fun _ _ _ _ => False
def lcL (g : TG') (vs : List Nat) (tt : M Bool) (el : M PyData) : List PyData → M (List PyData)
  | [] => fun e => .ok [] e
  | d :: ds => fun e => match g d e with
    | none => .no
    | some e1 => match tt e1 with
      | .ok true e2 => (match el e2 with
        | .ok y e3 => (match lcL g vs tt el ds (wipeE vs e3) with
          | .ok ys e4 => .ok (y :: ys) e4
          | .ex x e4 => .no
          | .no => .no)
        | _ => .no)
      | .ok false e2 => lcL g vs tt el ds (wipeE vs e2)
      | _ => .no
def M.lc (it : M (List PyData)) (g : TG') (vs : List Nat) (tt : M Bool) (el : M PyData) : M OD := M.bind it fun ds env => match lcL g vs tt el ds (wipeE vs env) with
  | .ok ys e => if ys.length ≤ 16777216 then .ok (.lst (ys.map .pur)) (restE vs env e) else .no
  | _ => .no
section
variable {K : PySem.W.Frag} {mg : Str → Option Value} {W : WX} {B vs : List Nat} {m : M (List PyData)} {g : TG'} {mt : M Bool} {me : M PyData} {σ : L2.St} {H : Hp} {Q : VK}
/-- what the items' walk asks -/
def LcIn (g : TG) (tt : TT) (te : TE) (vs : List Nat) (σ : L2.St) (Q : VK) (J : It) (H1 : Hp) : Prop := ∀ D, H1 D = none → ∃ W : Nat → Nat → Hp → Prop, (∃ m, W 0 m (upd H1 D (.lst []))) ∧ ∀ i m H, W i m H →
  (J.stop i H ∧ Q (.ref D) H) ∨ (J.go i H ∧ ∃ Nx : Hp → Prop, (∀ H', Nx H' → ∃ m', m' < m ∧ W (i + 1) m' H') ∧ ∀ x H', J.yld i H x H' → g x (L2.wipe σ vs) H' fun σ2 H2 => L2.wipe σ2 vs = L2.wipe σ vs ∧ tt σ2 H2 fun b H3 =>
    if b = true then te σ2 H3 fun y H4 => ∃ acc, H4 D = some (.lst acc) ∧ acc.length < sizeLine ∧ Nx (upd H4 D (.lst (acc ++ [y]))) else Nx H3)
theorem lc_inner {bv : Nat → V} {R P P1 H1 : Hp} {F1 : Nat → List Addr} {e1 : DEnv} {ds : List PyData} {J : It} (hB : ∀ i ∈ vs, i ∉ B) (S1 : Sta K mg B bv R P1 H1 F1 σ e1) (s1 : Same P P1) (fd : Fd K P1 J ds)
    (q1 : post ((fun ds env => match lcL g vs mt me ds (wipeE vs env) with
      | .ok ys e => if ys.length ≤ 16777216 then Rs.ok (OD.lst (ys.map .pur)) (restE vs env e) else .no
      | _ => .no : List PyData → M OD) ds e1) (OkO K mg B bv R P σ Q) (ExD K mg W B bv R P σ)) : LcIn (tV K mg B vs g) (tT K mg W0 B mt) (tD K mg W0 B me) vs σ Q J H1 := by
  intro D hD
  simp only at q1
  cases hlc : lcL g vs mt me ds (wipeE vs e1) with
  | ex x e => rw [hlc] at q1; exact q1.elim
  | no => rw [hlc] at q1; exact q1.elim
  | ok T eF =>
    rw [hlc] at q1
    simp only at q1
    by_cases hT : T.length ≤ 16777216
    · rw [if_pos hT] at q1
      have Sw := (S1.wipe (vs := vs) hB).newR (u := .lst []) hD
      refine ⟨fun i m H => m = ds.length - i ∧ i ≤ ds.length ∧ ∃ P' Fs' e accV acc ys, Sta K mg B bv (upd R D (.lst accV)) P' H Fs' (L2.wipe σ vs) e ∧ Same P1 P' ∧ RpA K P' accV acc ∧ lcL g vs mt me (ds.drop i) e = .ok ys eF ∧ acc ++ ys = T,
        ⟨_, rfl, Nat.zero_le _, P1, _, _, [], [], T, Sw, Same.refl _, .nil, by rw [List.drop_zero]; exact hlc, rfl⟩, ?_⟩
      rintro i n H2 ⟨rfl, hi, P2, F2, e2, accV, acc, ys, S2, s2, ra, hl, ha⟩
      have hR : R D = none := S1.free hD
      have hDt := S1.nota hR
      obtain ⟨f1, f2⟩ := fd P2 H2 s2 S2.ph
      by_cases hlt : i < ds.length
      · obtain ⟨go, y⟩ := f1 i ds[i] (List.getElem?_eq_getElem hlt)
        refine .inr ⟨go, fun H' => ∃ P' Fs' e accV acc ys, Sta K mg B bv (upd R D (.lst accV)) P' H' Fs' (L2.wipe σ vs) e ∧ Same P1 P' ∧ RpA K P' accV acc ∧ lcL g vs mt me (ds.drop (i + 1)) e = .ok ys eF ∧ acc ++ ys = T,
          fun H' h' => ⟨_, by omega, rfl, hlt, h'⟩, fun x H3 hx => ?_⟩
        obtain ⟨P3, ex, rx⟩ := y x H3 hx
        have S3 := S2.ext ex
        rw [List.drop_eq_getElem_cons hlt] at hl
        simp only [lcL] at hl
        cases eg : g ds[i] e2 with
        | none => rw [eg] at hl; cases hl
        | some e3 =>
          rw [eg] at hl
          simp only at hl
          refine ⟨bv, _, P3, F2, e2, _, e3, S3, rx, eg, fun σ4 P4 H4 F4 S4 s4 al => ⟨by rw [al.wipe, L2wipe_idem], bv, _, P4, F4, e3, S4, ?_⟩⟩
          have s24 : Same P2 P4 := ex.pp.trans s4
          cases et : mt e3 with
          | ex x e => rw [et] at hl; cases hl
          | no => rw [et] at hl; cases hl
          | ok b e5 =>
            rw [et] at hl
            cases b with
            | false =>
              intro P5 H5 F5 S5 s5
              rw [if_neg Bool.false_ne_true]
              have S6 := S5.wipe (vs := vs) hB
              rw [al.wipe, L2wipe_idem] at S6
              exact ⟨P5, _, _, accV, acc, ys, S6, s2.trans (s24.trans s5), ra.mono (s24.trans s5), hl, ha⟩
            | true =>
              intro P5 H5 F5 S5 s5
              rw [if_pos rfl]
              simp only at hl
              refine ⟨bv, _, P5, F5, e5, S5, ?_⟩
              cases ee : me e5 with
              | ex x e => rw [ee] at hl; cases hl
              | no => rw [ee] at hl; cases hl
              | ok z e6 =>
                rw [ee] at hl
                simp only at hl
                cases er : lcL g vs mt me (ds.drop (i + 1)) (wipeE vs e6) with
                | ex x e => rw [er] at hl; cases hl
                | no => rw [er] at hl; cases hl
                | ok ys' e7 =>
                  rw [er] at hl
                  simp only [Rs.ok.injEq] at hl
                  obtain ⟨rfl, rfl⟩ := hl
                  intro v P6 H6 F6 S6 s6 rv
                  have hlen := ra.length
                  refine ⟨accV, S6.rh D _ upd_same hDt, ?_, ?_⟩
                  · have : acc.length + (ys'.length + 1) = T.length := by rw [← ha]; simp
                    show accV.length < sizeLine
                    rw [sizeLine_eq]; omega
                  · have S7 := (S6.write hDt (u' := .lst (accV ++ [v]))).wipe (vs := vs) hB
                    rw [al.wipe, L2wipe_idem] at S7
                    have s26 := s24.trans (s5.trans s6)
                    exact ⟨P6, _, _, accV ++ [v], acc ++ [z], ys', S7, s2.trans s26, (ra.mono s26).append (.cons rv .nil), er, by rw [← ha]; simp⟩
      · have e : i = ds.length := by omega
        subst e
        rw [List.drop_length] at hl
        simp only [lcL, Rs.ok.injEq] at hl
        obtain ⟨rfl, rfl⟩ := hl
        rw [List.append_nil] at ha
        subst ha
        have S3 := S2.sub (R := R) (fun a o h => by
          have : a ≠ D := fun z => by rw [z, hR] at h; cases h
          rw [upd_ne this]; exact h) S1.hasT
        have S4 := S1.unwipe S3 s2 hB
        refine .inl ⟨f2, q1 (.ref D) P2 H2 _ [D] S4 (s1.trans s2) (.lst (S2.rh D _ upd_same hDt) (owl_pur ra)) ⟨by simp, fun a h => ?_, fun a h => ?_, fun a h i z => ?_⟩⟩
        · simp at h; subst h; exact hR
        · simp at h; subst h; exact S2.rp a (by rw [upd_same]; simp)
        · simp at h; subst h
          split at z
          · cases z
          · have y := S2.fr i a z
            rw [upd_same] at y; cases y
    · rw [if_neg hT] at q1; exact q1.elim
theorem lc_law (hB : ∀ i ∈ vs, i ∉ B) (h : tO K mg W B (M.lc m g vs mt me) σ H Q) : tLc (tI K mg W B m) (tV K mg B vs g) (tT K mg W0 B mt) (tD K mg W0 B me) vs σ H Q := by
  obtain ⟨bv, R, P, Fs, env, S, q⟩ := h
  exact ⟨bv, R, P, Fs, env, S, bindD q (fun ds e1 q1 J P1 H1 F1 S1 s1 fd => lc_inner hB S1 s1 fd q1) fun _ _ q => q⟩
end
end DL

set_option maxHeartbeats 2000000
/-! DL12: comprehensions as expressions and statements; reading without freezing; lists and dicts that are changed. -/
namespace DL
open PySem PySem.Spec PyProof.Rows L2

/-- the context of a block of X -/
abbrev BX (X : Cx) (s : Shared) (H : Hp) (scope : Scope) (C : Addr) (cl : List (Str × Addr)) (fp : List Addr) : Cx := X.blk s H scope (compEnvC scope cl C X.env) fp
abbrev TDs (X : Cx) (W : WX) (B : List Nat) (ifs : List Expr) (m : M Bool) : Prop := PTs X ifs (tT X.K X.mg W B m)
section
variable {X : Cx} {W : WX} {B : List Nat} {e elt tg iter : Expr} {ifs : List Expr} {scope : Scope} {own : List (Str × Nat)} {pos spos py : Pos} {m : M (List PyData)} {g : TG'} {mt : M Bool} {me : M PyData}
theorem PTs_mono {X : Cx} {es : List Expr} {t t' : TT} (h : PTs X es t) (i : ∀ σ H Q, t' σ H Q → t σ H Q) : PTs X es t' := ⟨fun pins s σ H Q I q => h.run pins s σ H Q I (i σ H Q q)⟩
theorem tds_nil : TDs X W B [] (M.pure true) := PTs_mono pts_nil fun σ H Q ⟨bv, R, P, Fs, env, S, q⟩ => q P H Fs S (Same.refl _)
theorem tds_one {mt : M Bool} (h : TD X W B e mt) : TDs X W B [e] mt := pts_one h
theorem eo_lc (own : List (Str × Nat)) (hc : X.calm = true) (hN : X.N.Nodup) (hi : ID X W B tg iter m) (ok : BlkOk X.N X.env.scope scope own) (hB : ∀ i ∈ own.map (·.2), i ∉ B)
    (hg : ∀ s H C cl fp, GV (BX X s H scope C cl fp) B (own.map (·.2)) tg g) (ht : ∀ s H C cl fp, TDs (BX X s H scope C cl fp) W0 B ifs mt) (he : ∀ s H C cl fp, ED (BX X s H scope C cl fp) W0 B elt me) (hs : ∀ x, foldedSetIterable iter X.env x = pure x := by intro _; rfl) :
    EO X W B (.ListComp elt [⟨tg, iter, ifs, 0⟩] scope pos) (M.lc m g (own.map (·.2)) mt me) := PE_mono (pe_lc hc hN hi ok hg ht he hs) fun _ _ _ h => lc_law hB h
/-- name = [..] on one line -/
theorem sd_setLc (i : Nat) (own : List (Str × Nat)) {y : Str} (hc : X.calm = true) (hN : X.N.Nodup) (hBi : i ∉ B) (hi : ID X W B tg iter m) (ok : BlkOk X.N X.env.scope scope own) (hB : ∀ i ∈ own.map (·.2), i ∉ B)
    (hg : ∀ s H C cl fp, GV (BX X s H scope C cl fp) B (own.map (·.2)) tg g) (ht : ∀ s H C cl fp, TDs (BX X s H scope C cl fp) W0 B ifs mt) (he : ∀ s H C cl fp, ED (BX X s H scope C cl fp) W0 B elt me)
    (hsw : swapsWith (.ListComp elt [⟨tg, iter, ifs, 0⟩] scope pos) (some (.Name y py)) spos.line X.env = pure true) (hy : X.N[i]? = some y := by rfl) (hyl : X.env.scope.names.lookup y = some .local := by rfl) (hs : ∀ x, foldedSetIterable iter X.env x = pure x := by intro _; rfl) :
    SD X W B (.Assign [.Name y py] (.ListComp elt [⟨tg, iter, ifs, 0⟩] scope pos) spos) (M.set i (M.lc m g (own.map (·.2)) mt me)) :=
  PS_mono (ps_setLc hc hN hy hyl hsw hi ok hg ht he hs) fun D σ H ⟨bv, R, P, Fs, env, S, q⟩ => lc_law hB (tO_bindS (Same.refl _) S q fun x e1 v P1 H1 F1 G S1 s1 o1 f1 h1 => by
    unfold M.put at h1
    by_cases hl : i < e1.length
    · rw [if_pos hl] at h1
      exact h1 _ P1 H1 _ (S1.store o1 f1 hBi hl) s1
    · rw [if_neg hl] at h1; exact h1.elim)
end

/-! ### reading a place without freezing it -/
/-- a place: the tree that stands there; nothing changes -/
def tR (K : PySem.W.Frag) (mg : Str → Option Value) (B : List Nat) (m : DEnv → Option OD) : TE := fun σ H Q => ∃ bv R P Fs env x, Sta K mg B bv R P H Fs σ env ∧ m env = some x ∧ ∀ v F, Ow K mg P H F v x → Q v H
abbrev RO (X : Cx) (B : List Nat) (e : Expr) (m : DEnv → Option OD) : Prop := PE X e (tR X.K X.mg B m)
/-- data for the moment -/
def tQ (K : PySem.W.Frag) (mg : Str → Option Value) (B : List Nat) (m : DEnv → Option PyData) : TE := fun σ H Q => ∃ bv R P Fs env d, Sta K mg B bv R P H Fs σ env ∧ m env = some d ∧ ∀ v, Rp K H v d → Q v H
abbrev QD (X : Cx) (B : List Nat) (e : Expr) (m : DEnv → Option PyData) : Prop := PE X e (tQ X.K X.mg B m)
def slotO (i : Nat) : DEnv → Option OD := fun env => (env[i]?).join
/-- what is read of a place and is frozen already -/
def M.ro (m : DEnv → Option OD) : M PyData := fun env => match m env with
  | some (.pur d) => .ok d env
  | _ => .no
section
variable {X : Cx} {W : WX} {B : List Nat} {e : Expr} {pos : Pos} {mr : DEnv → Option OD}
theorem ro_var (i : Nat) {x : Str} (hN : X.N[i]? = some x := by rfl) (hv : Vis X.env.scope x := by first | exact Or.inl rfl | exact Or.inr (Or.inl rfl) | exact Or.inr (Or.inr rfl)) (hd : (x == ("__debug__" : Str)) = false := by decide)
    (hcd : (x == ("__classdict__" : Str)) = false := by decide) : RO X B (.Name x pos) (slotO i) := PE_mono (pe_var hN hv hd hcd) fun σ H Q ⟨bv, R, P, Fs, env, x, S, q, k⟩ => by
  unfold slotO at q
  cases hx : env[i]? with
  | none => rw [hx] at q; cases q
  | some o =>
    rw [hx] at q
    simp only [Option.join_some] at q
    subst q
    obtain ⟨v, h1, h2⟩ := S.slot i _ hx
    exact ⟨v, h1, k v _ h2⟩
theorem ed_ro (h : RO X B e mr) : ED X W B e (M.ro mr) := PE_mono h fun σ H Q ⟨bv, R, P, Fs, env, S, q⟩ => by
  unfold M.ro at q
  cases hx : mr env with
  | none => rw [hx] at q; exact q.elim
  | some x =>
    rw [hx] at q
    cases x with
    | pur d => exact ⟨bv, R, P, Fs, env, _, S, hx, fun v F o => q v P H Fs S (Same.refl _) o.pur_inv⟩
    | _ => exact q.elim
theorem qd_int {i : Int} {j : Nat} : QD X B (.Constant (.int i) j pos) (fun _ => some (.int i)) := PE_mono pe_int fun σ H Q ⟨bv, R, P, Fs, env, d, S, q, k⟩ => by cases q; exact k _ (.int i)
end
end DL

set_option maxHeartbeats 2000000
/-! DL13: lists that are changed. -/
namespace DL
open PySem PySem.Spec PyProof.Rows L2

section
variable {K : PySem.W.Frag} {mg : Str → Option Value} {W : WX} {B : List Nat} {bv : Nat → V} {R P P0 H H' : Hp} {Fs : Nat → List Addr} {σ : L2.St} {env : DEnv}
/-- the tree at slot i becomes another one; nothing else is touched -/
theorem Sta.mut {F' : List Addr} {v : V} {x' : OD} {i : Nat} (S : Sta K mg B bv R P H Fs σ env) (hv : σ[i]? = some (some v)) (hh : ∀ b, b ∉ Fs i → H' b = H b) (o : Ow K mg P H' F' v x') (nd : F'.Nodup)
    (fr : ∀ a ∈ F', a ∈ Fs i ∨ (R a = none ∧ P a = none ∧ ∀ j, a ∉ Fs j)) : Sta K mg B bv R P H' (fun j => if j = i then F' else Fs j) σ (env.set i (some x')) := by
  have out : ∀ {a}, (R a ≠ none ∨ P a ≠ none) → a ∉ Fs i := fun {a} h q => by
    rcases h with h | h
    · exact h (S.fr i a q)
    · exact h (S.fp i a q)
  have keep : ∀ {T : Hp}, Same T H → (∀ a, T a ≠ none → a ∉ Fs i) → Same T H' := fun {T} s h a o e => by
    rw [hh a (h a (by rw [e]; simp))]; exact s a o e
  have hi : i < env.length := by rw [← S.len]; exact (List.getElem?_eq_some_iff.mp hv).1
  refine ⟨fun a o e n => by rw [hh a (out (.inl (by rw [e]; simp)))]; exact S.rh a o e n, fun p hp => ⟨?_, (S.tb p hp).2⟩, keep S.ph fun a h => out (.inr h), S.rp, fun j y h => ?_, fun j h => ?_, fun j => ?_, fun j k a hjk h => ?_, fun j a h => ?_, fun j a h => ?_, by rw [List.length_set, S.len], S.pin, S.nt⟩
  · obtain ⟨ps, h1, h2, h3⟩ := (S.tb p hp).1
    refine ⟨ps, by rw [hh _ (out (.inl (S.tb p hp).2))]; exact h1, h2, fun pos cv hc => ?_⟩
    obtain ⟨c, e1, e2⟩ := h3 pos cv hc
    exact ⟨c, e1, by rw [hh _ fun z => S.noext z _ e2]; exact e2⟩
  · by_cases q : j = i
    · subst q
      rw [List.getElem?_set_self hi] at h
      cases h
      exact ⟨v, hv, by rw [if_pos rfl]; exact o⟩
    · rw [List.getElem?_set_ne (Ne.symm q)] at h
      obtain ⟨w, h1, h2⟩ := S.slot j y h
      refine ⟨w, h1, ?_⟩
      rw [if_neg q]
      exact h2.keep (Same.refl _) fun a ha u e => by rw [hh a (S.dj j i a q ha)]; exact e
  · by_cases q : j = i
    · subst q; exact absurd (List.getElem?_set_self hi) (h x')
    · rw [if_neg q]
      exact S.dead j fun y z => h y (by rw [List.getElem?_set_ne (Ne.symm q)]; exact z)
  · by_cases q : j = i
    · rw [if_pos q]; exact nd
    · rw [if_neg q]; exact S.nd j
  · by_cases q : j = i
    · rw [if_pos q] at h
      have qk : k ≠ i := fun z => hjk (q.trans z.symm)
      rw [if_neg qk]
      rcases fr a h with z | z
      · exact fun y => S.dj i k a (Ne.symm qk) z y
      · exact z.2.2 k
    · rw [if_neg q] at h
      by_cases qk : k = i
      · rw [if_pos qk]
        intro y
        rcases fr a y with z | z
        · exact S.dj j i a q h z
        · exact z.2.2 j h
      · rw [if_neg qk]; exact S.dj j k a hjk h
  · by_cases q : j = i
    · rw [if_pos q] at h
      rcases fr a h with z | z
      · exact S.fr i a z
      · exact z.1
    · rw [if_neg q] at h; exact S.fr j a h
  · by_cases q : j = i
    · rw [if_pos q] at h
      rcases fr a h with z | z
      · exact S.fp i a z
      · exact z.2.1
    · rw [if_neg q] at h; exact S.fp j a h

theorem OwL.app {F G : List Addr} {vs ws : List V} {xs ys : List OD} (h : OwL K mg P H F vs xs) (q : OwL K mg P H G ws ys) : OwL K mg P H (F ++ G) (vs ++ ws) (xs ++ ys) := by
  induction vs generalizing F xs with
  | nil => cases h; exact q
  | cons v vs ih =>
    cases h with
    | cons h t =>
      have := ih t
      rw [List.append_assoc]
      exact .cons h this
theorem OwL.snoc {F G : List Addr} {vs : List V} {xs : List OD} {v : V} {x : OD} (h : OwL K mg P H F vs xs) (q : Ow K mg P H G v x) : OwL K mg P H (F ++ G) (vs ++ [v]) (xs ++ [x]) := by
  have := h.app (.cons q .nil)
  rwa [List.append_nil] at this
/-- a part of a list of trees, and what may be put there -/
theorem OwL.at_ {F : List Addr} {vs : List V} {xs : List OD} (h : OwL K mg P H F vs xs) (nd : F.Nodup) : ∀ {j : Nat} {x : OD}, xs[j]? = some x → ∃ v Fj, vs[j]? = some v ∧ Ow K mg P H Fj v x ∧ Fj.Nodup ∧ (∀ a ∈ Fj, a ∈ F) ∧
    ∀ P' H' F' v' x', Same P P' → (∀ a ∈ F, a ∉ Fj → ∀ o, H a = some o → H' a = some o) → Ow K mg P' H' F' v' x' → F'.Nodup → (∀ a ∈ F', a ∈ F → a ∈ Fj) → ∃ F2, OwL K mg P' H' F2 (vs.set j v') (xs.set j x') ∧ F2.Nodup ∧ ∀ a ∈ F2, (a ∈ F ∧ a ∉ Fj) ∨ a ∈ F' := by
  induction vs generalizing F xs with
  | nil => intro j x e; cases h; simp at e
  | cons v vs ih =>
    cases h with
    | @cons F1 G _ _ x0 xs h t =>
      obtain ⟨n1, n2, n3⟩ := List.nodup_append.mp nd
      intro j x e
      cases j with
      | zero =>
        simp at e
        subst e
        refine ⟨v, F1, rfl, h, n1, fun a ha => List.mem_append_left _ ha, fun P' H' F' v' x' s k o nd' dj => ⟨F' ++ G, .cons o (t.keep s fun a ha => k a (List.mem_append_right _ ha) fun z => n3 a z a ha rfl), ?_, fun a ha => ?_⟩⟩
        · exact List.nodup_append.mpr ⟨nd', n2, fun a h1 b h2 e => by subst e; exact n3 a (dj a h1 (List.mem_append_right _ h2)) a h2 rfl⟩
        · rcases List.mem_append.mp ha with z | z
          · exact .inr z
          · exact .inl ⟨List.mem_append_right _ z, fun y => n3 a y a z rfl⟩
      | succ j =>
        obtain ⟨w, Fj, q1, q2, q3, q4, q5⟩ := ih t n2 (j := j) (x := x) (by simpa using e)
        refine ⟨w, Fj, by simpa using q1, q2, q3, fun a ha => List.mem_append_right _ (q4 a ha), fun P' H' F' v' x' s k o nd' dj => ?_⟩
        obtain ⟨F2, r1, r2, r3⟩ := q5 P' H' F' v' x' s (fun a ha hn => k a (List.mem_append_right _ ha) hn) o nd' (fun a ha hG => dj a ha (List.mem_append_right _ hG))
        refine ⟨F1 ++ F2, .cons (h.keep s fun a ha => k a (List.mem_append_left _ ha) fun z => n3 a ha a (q4 a z) rfl) r1, ?_, fun a ha => ?_⟩
        · refine List.nodup_append.mpr ⟨n1, r2, fun a h1 b h2 e => ?_⟩
          subst e
          rcases r3 a h2 with z | z
          · exact n3 a h1 a z.1 rfl
          · exact n3 a h1 a (q4 a (dj a z (List.mem_append_left _ h1))) rfl
        · rcases List.mem_append.mp ha with z | z
          · exact .inl ⟨List.mem_append_left _ z, fun y => n3 a z a (q4 a y) rfl⟩
          · rcases r3 a z with y | y
            · exact .inl ⟨List.mem_append_right _ y.1, y.2⟩
            · exact .inr y
end

/-! ### methods of an own list at a slot -/
/-- the slot's tree is changed: f gives what the call is worth and the new tree -/
def M.chg (i : Nat) (f : OD → Option (OD × OD)) : M OD := fun env => match env[i]? with
  | some (some x) => (match f x with
    | some (r, x') => .ok r (env.set i (some x'))
    | none => .no)
  | _ => .no
/-- the slot's new list (values ys, trees xs) is written at its address -/
theorem chg_lst {K : PySem.W.Frag} {mg : Str → Option Value} {B : List Nat} {bv : Nat → V} {R P H : Hp} {Fs : Nat → List Addr} {σ : L2.St} {env : DEnv} {i : Nat} {a : Addr} {ys : List V} {zs : List OD} {F0 F2 G : List Addr}
    (S : Sta K mg B bv R P H Fs σ env) (hv : σ[i]? = some (some (.ref a))) (hF : Fs i = a :: F0) (o : OwL K mg P H F2 ys zs) (nd : (a :: F2).Nodup) (hG : ∀ b ∈ F2, b ∈ F0 ∨ b ∈ G) (f : Free R P Fs G) :
    Sta K mg B bv R P (upd H a (.lst ys)) (fun j => if j = i then a :: F2 else Fs j) σ (env.set i (some (.lst zs))) := by
  have na : a ∉ F2 := (List.nodup_cons.mp nd).1
  refine S.mut hv (fun b hb => upd_ne fun z => hb (by rw [hF, z]; exact List.mem_cons_self)) (.lst upd_same (o.keep (Same.refl _) fun b hb u e => by rw [upd_ne (fun (z : b = a) => na (z ▸ hb))]; exact e)) nd fun b hb => ?_
  rcases List.mem_cons.mp hb with z | z
  · subst z; exact .inl (by rw [hF]; exact List.mem_cons_self)
  · rcases hG b z with y | y
    · exact .inl (by rw [hF]; exact List.mem_cons_of_mem _ y)
    · exact .inr ⟨f.r b y, f.p b y, f.f b y⟩
theorem Ow.lst_inv {K : PySem.W.Frag} {mg : Str → Option Value} {P H : Hp} {F : List Addr} {v : V} {xs : List OD} (h : Ow K mg P H F v (.lst xs)) : ∃ a F0 vs, v = .ref a ∧ F = a :: F0 ∧ H a = some (.lst vs) ∧ OwL K mg P H F0 vs xs := by
  cases h with
  | lst h t => exact ⟨_, _, _, rfl, rfl, h, t⟩
theorem at_lst {K : PySem.W.Frag} {mg : Str → Option Value} {B : List Nat} {bv : Nat → V} {R P H : Hp} {Fs : Nat → List Addr} {σ : L2.St} {env : DEnv} {i : Nat} {xs : List OD} (S : Sta K mg B bv R P H Fs σ env) (hx : env[i]? = some (some (.lst xs))) :
    ∃ a vs F0, σ[i]? = some (some (.ref a)) ∧ Fs i = a :: F0 ∧ H a = some (.lst vs) ∧ OwL K mg P H F0 vs xs ∧ (a :: F0).Nodup ∧ vs.length = xs.length := by
  obtain ⟨u, hu, ou⟩ := S.slot i _ hx
  obtain ⟨a, F0, vs, rfl, hF, hH, ol⟩ := ou.lst_inv
  have nd := S.nd i
  rw [hF] at nd
  exact ⟨a, vs, F0, hu, hF, hH, ol, nd, ol.length⟩
/-- m, the slot i being as p says -/
def needO (p : OD → Bool) (i : Nat) (env : DEnv) : Bool := match env[i]? with
  | some (some x) => p x
  | _ => false
def M.need {α : Type} (p : OD → Bool) (i : Nat) (m : M α) : M α := fun env => if needO p i env = true then m env else .no
theorem need_post {α : Type} {p : OD → Bool} {i : Nat} {m : M α} {env : DEnv} {ok : α → DEnv → Prop} {ex : Xn → DEnv → Prop} (h : post (M.need p i m env) ok ex) : needO p i env = true ∧ post (m env) ok ex := by
  unfold M.need at h
  split at h
  · exact ⟨by assumption, h⟩
  · exact h.elim
section
variable {X : Cx} {W : WX} {B : List Nat} {e : Expr} {mo : M OD} {x : Str} {p apos cpos : Pos}
end
end DL

set_option maxHeartbeats 2000000
/-! DL14: peeks (operators on what is read for the moment), items of own lists and dicts, stores. -/
namespace DL
open PySem PySem.Spec PyProof.Rows L2

def scalD : PyData → Bool
  | .none => true
  | .bool _ => true
  | .int _ => true
  | .str _ => true
  | _ => false
def qfin (o : Option PyData) (env : DEnv) : Rs PyData := match o with
  | some z => if scalD z = true then .ok z env else .no
  | none => .no
def M.q2 (f : PyData → PyData → Option PyData) (a b : DEnv → Option PyData) : M PyData := fun env => qfin ((a env).bind fun x => (b env).bind fun y => f x y) env
def M.dq2 (f : PyData → PyData → Option PyData) (a : M PyData) (b : DEnv → Option PyData) : M PyData := M.bind a fun x env => qfin ((b env).bind fun y => f x y) env
def M.q1 (f : PyData → Option PyData) (a : DEnv → Option PyData) : M PyData := fun env => qfin ((a env).bind f) env
section
variable {X : Cx} {W : WX} {B : List Nat} {a b e : Expr} {ma mb : DEnv → Option PyData} {md : M PyData} {pos : Pos} {f : PyData → PyData → Option PyData} {f1 : PyData → Option PyData} {r : R2}
/-! ### items of an own list, of an own dict -/
def lookO {κ : Type} [DecidableEq κ] : List κ → List OD → κ → Option OD
  | k :: ks, x :: xs, j => if k = j then some x else lookO ks xs j
  | _, _, _ => none
def itemO (x : OD) (i : PyData) : Option OD := match x with
  | .lst xs => (match i with
    | .int k => (ixD xs.length k).bind fun j => xs[j]?
    | _ => none)
  | .dK ks xs => (keyOfD i).bind fun k => lookO ks xs k
  | _ => none
theorem look_own {K : PySem.W.Frag} {mg : Str → Option Value} {P H : Hp} {κ : Type} [DecidableEq κ] {k : κ} {x : OD} : ∀ {ks : List κ} {vs : List V} {xs : List OD} {F : List Addr}, OwL K mg P H F vs xs → lookO ks xs k = some x → ∃ v F', valV (ks.zip vs) k = some v ∧ Ow K mg P H F' v x ∧ ∀ a ∈ F', a ∈ F
  | [], _, _, _, _, e => by simp [lookO] at e
  | j :: ks, _, _, _, .nil, e => by simp [lookO] at e
  | j :: ks, v :: vs, y :: xs, _, .cons (F := F1) h t, e => by
    simp only [lookO] at e
    by_cases q : j = k
    · rw [if_pos q] at e
      cases e
      exact ⟨v, F1, by rw [List.zip_cons_cons, valV_pos (by exact q)], h, fun a ha => List.mem_append_left _ ha⟩
    · rw [if_neg q] at e
      obtain ⟨w, F', h1, h2, h3⟩ := look_own t e
      exact ⟨w, F', by rw [List.zip_cons_cons, valV_neg (by exact q)]; exact h1, h2, fun a ha => List.mem_append_right _ (h3 a ha)⟩
theorem OwL.getO {K : PySem.W.Frag} {mg : Str → Option Value} {P H : Hp} {x : OD} : ∀ {vs : List V} {xs : List OD} {F : List Addr} {j : Nat}, OwL K mg P H F vs xs → xs[j]? = some x → ∃ v F', vs[j]? = some v ∧ Ow K mg P H F' v x ∧ ∀ a ∈ F', a ∈ F
  | _, _, _, _, .nil, e => by simp at e
  | _, _, _, 0, .cons h t, e => by simp at e; subst e; exact ⟨_, _, rfl, h, fun a ha => List.mem_append_left _ ha⟩
  | _, _, _, j + 1, .cons h t, e => by
    obtain ⟨v, F', h1, h2, h3⟩ := OwL.getO (j := j) t (by simpa using e)
    exact ⟨v, F', by simpa using h1, h2, fun a ha => List.mem_append_right _ (h3 a ha)⟩
/-- an item of a tree, as the subscript finds it -/
theorem item_at {P H : Hp} {F : List Addr} {v w : V} {x y : OD} {i : PyData} {Q : VK} (o : Ow X.K X.mg P H F v x) (ri : Rp X.K H w i) (e : itemO x i = some y) (q : ∀ u F', Ow X.K X.mg P H F' u y → Q u H) : rIxP X.K v w H Q := by
  cases x with
  | lst xs =>
    obtain ⟨a, F0, vs, rfl, rfl, hH, ol⟩ := o.lst_inv
    cases i with
    | int k =>
      cases ri
      simp only [itemO] at e
      obtain ⟨j, e1, e2⟩ := Option.bind_eq_some_iff.mp e
      obtain ⟨u, F', h1, h2, h3⟩ := ol.getO e2
      refine .inl (.inl ⟨a, vs, k, u, rfl, rfl, .inl (.inl hH), ?_, q u F' h2⟩)
      unfold atI
      rw [← ixD_eq, ol.length, e1]
      exact h1
    | _ => cases e
  | dK ks xs =>
    cases o with
    | dK h hl t =>
      simp only [itemO] at e
      obtain ⟨k, e1, e2⟩ := Option.bind_eq_some_iff.mp e
      obtain ⟨u, F', h1, h2, h3⟩ := look_own t e2
      have e3 := keyOfD_some e1
      subst e3
      exact .inr ⟨_, u, rfl, .inl ⟨_, k, .inl h, ri.key, h1.symm⟩, q u F' h2⟩
  | _ => cases e
def ixO (m : DEnv → Option OD) (i : DEnv → Option PyData) : DEnv → Option OD := fun env => (m env).bind fun x => (i env).bind fun d => itemO x d
theorem ro_ix {mr : DEnv → Option OD} {mi : DEnv → Option PyData} (hu : X.A.units + 65 < cLine) (ha : RO X B a mr) (hb : QD X B b mi) (hs : PlainIx b := by intro _ _; rfl) : RO X B (.Subscript a b pos) (ixO mr mi) :=
  PE_mono (pe_ix (ix_P (by omega)) ha hb hs) fun σ H Q ⟨bv, R, P, Fs, env, y, S, e, k⟩ => by
    obtain ⟨x, e1, e⟩ := Option.bind_eq_some_iff.mp e
    obtain ⟨d, e2, e⟩ := Option.bind_eq_some_iff.mp e
    exact ⟨bv, R, P, Fs, env, x, S, e1, fun v F o => ⟨bv, R, P, Fs, env, d, S, e2, fun w rw => item_at o rw e k⟩⟩
/-- slot[e], e with whatever it does -/
def M.ixS (i : Nat) (m : M PyData) : M PyData := M.need (fun _ => true) i (M.bind m fun d env => match (env[i]?).join.bind fun x => itemO x d with
  | some (.pur z) => .ok z env
  | _ => .no)
end
end DL

set_option maxHeartbeats 2000000
/-! DL15: stores into own lists and dicts; extend; displays of dicts. -/
namespace DL
open PySem PySem.Spec PyProof.Rows L2

/-! ### what a store makes of a tree -/
def replO {κ : Type} [DecidableEq κ] (k : κ) (y : OD) : List κ → List OD → List OD
  | j :: ks, x :: xs => (if j = k then y else x) :: replO k y ks xs
  | _, xs => xs
def putKs {κ : Type} [DecidableEq κ] (ks : List κ) (k : κ) : List κ := if k ∈ ks then ks else ks ++ [k]
def putXs {κ : Type} [DecidableEq κ] (ks : List κ) (xs : List OD) (k : κ) (y : OD) : List OD := if k ∈ ks then replO k y ks xs else xs ++ [y]
/-- an empty dict becomes one of tuples -/
def tup0 (ks : List Key) (i : PyData) (y : OD) : Option OD := match ks, i with
  | [], .tuple es => (keysOfD es).map fun k => .dT [k] [y]
  | _, _ => none
def setO (c : OD) (i : PyData) (y : OD) : Option OD := match c with
  | .lst xs => (match i with
    | .int k => (ixD xs.length k).map fun j => .lst (xs.set j y)
    | _ => none)
  | .dK ks xs => (match y with
    | .pur _ => (match (keyOfD i).bind fun k => if ks.length < 16777216 then some (OD.dK (putKs ks k) (putXs ks xs k y)) else none with
      | some z => some z
      | none => tup0 ks i y)
    | _ => none)
  | .dT ks xs => (match y with
    | .pur _ => (match i with
      | .tuple es => (keysOfD es).bind fun k => if ks.length < 16777216 then some (.dT (putKs ks k) (putXs ks xs k y)) else none
      | _ => none)
    | _ => none)
  | _ => none
section
variable {K : PySem.W.Frag} {mg : Str → Option Value} {P H : Hp} {κ : Type} [DecidableEq κ]
theorem any_mem {k : κ} : ∀ {ks : List κ} {vs : List V}, ks.length = vs.length → ((ks.zip vs).any fun kv => decide (kv.1 = k)) = decide (k ∈ ks)
  | [], _, _ => by simp
  | j :: ks, [], h => by simp at h
  | j :: ks, v :: vs, h => by
    rw [List.zip_cons_cons, List.any_cons, any_mem (by simpa using h)]
    by_cases q : j = k
    · subst q; simp
    · simp [q, Ne.symm q]
theorem repl_own {k : κ} {v : V} {y : OD} (ny : Ow K mg P H [] v y) : ∀ {ks : List κ} {vs : List V} {xs : List OD} {F : List Addr}, ks.length = vs.length → OwL K mg P H F vs xs → F.Nodup → ∃ vs' F', (ks.zip vs).map (fun kv => if kv.1 = k then (kv.1, v) else kv) = ks.zip vs' ∧ ks.length = vs'.length ∧ OwL K mg P H F' vs' (replO k y ks xs) ∧ F'.Nodup ∧ ∀ a ∈ F', a ∈ F
  | [], [], _, F, _, t, nd => by
    cases t
    exact ⟨[], [], rfl, rfl, .nil, nd, fun _ h => h⟩
  | j :: ks, w :: vs, _, _, hl, .cons (F := F1) (G := G) h t, nd => by
    obtain ⟨n1, n2, n3⟩ := List.nodup_append.mp nd
    obtain ⟨vs', F', e, l, o, nd', sub⟩ := repl_own ny (ks := ks) (by simpa using hl) t n2
    by_cases q : j = k
    · refine ⟨v :: vs', F', ?_, by simp [l], ?_, nd', fun a ha => List.mem_append_right _ (sub a ha)⟩
      · rw [List.zip_cons_cons, List.map_cons, e, List.zip_cons_cons, if_pos q]
      · simp only [replO, if_pos q]
        exact .cons (F := []) ny o
    · refine ⟨w :: vs', F1 ++ F', ?_, by simp [l], ?_, List.nodup_append.mpr ⟨n1, nd', fun a h1 b h2 e => n3 a h1 b (sub b h2) e⟩, fun a ha => ?_⟩
      · rw [List.zip_cons_cons, List.map_cons, e, List.zip_cons_cons, if_neg q]
      · simp only [replO, if_neg q]
        exact .cons h o
      · rcases List.mem_append.mp ha with z | z
        · exact List.mem_append_left _ z
        · exact List.mem_append_right _ (sub a z)
theorem put_own {k : κ} {v : V} {y : OD} {ks : List κ} {vs : List V} {xs : List OD} {F : List Addr} (ny : Ow K mg P H [] v y) (hl : ks.length = vs.length) (t : OwL K mg P H F vs xs) (nd : F.Nodup) :
    ∃ vs' F', putK (ks.zip vs) k v = (putKs ks k).zip vs' ∧ (putKs ks k).length = vs'.length ∧ OwL K mg P H F' vs' (putXs ks xs k y) ∧ F'.Nodup ∧ ∀ a ∈ F', a ∈ F := by
  unfold putK putKs putXs
  rw [any_mem hl]
  by_cases q : k ∈ ks
  · simp only [q, decide_true, if_true]
    exact repl_own ny hl t nd
  · simp only [q, decide_false, if_false, Bool.false_eq_true]
    refine ⟨vs ++ [v], F, ?_, by simp [hl], ?_, nd, fun _ h => h⟩
    · rw [List.zip_append hl]; rfl
    · have := t.snoc ny
      rwa [List.append_nil] at this
theorem Ow.pur_nil {F : List Addr} {v : V} {d : PyData} (h : Ow K mg P H F v (.pur d)) : F = [] ∧ Ow K mg P H [] v (.pur d) := by
  cases h with
  | pur r => exact ⟨rfl, .pur r⟩
end

/-! ### the store -/
def rSetP : TSet := fun o i v H Q => rSetL o i v H Q ∨ (∃ a H', o = .ref a ∧ DPut H a i v H' ∧ Q H') ∨ ∃ a k b, o = .ref a ∧ H a = some (.dK []) ∧ i = .ref b ∧ H b = some (.tup (List.map kV k)) ∧ Q (upd H a (.dT [(k, v)]))
theorem set_P {X : Cx} (hu : X.A.units + 1 < cLine) : PSet X rSetP := by
  intro pins s σ H o i v ov iv u Q I ro ri rv h
  rcases h with h | ⟨a, H', rfl, g, q⟩ | ⟨a, k, b, rfl, ha, rfl, hb, q⟩
  · exact set_list pins s σ H o i v ov iv u Q I ro ri rv h
  · cases (show ov = Value.ref a from ro)
    exact d_setItem hu I g ri rv fun s' I' => ⟨H', I', q⟩
  · cases (show ov = Value.ref a from ro)
    obtain ⟨hd, o, es, ep, h1, h2, h3, h4, _, h5⟩ := empty_t I (.inl ha)
    have hab : b ≠ a := fun z => by rw [z, ha] at hb; cases hb
    have I1 : Inv X pins σ (upd H a (.dT [])) { s with heap := s.heap, toks := s.toks } := I.write (by rw [ha]; trivial) (.inl rfl) (fun _ _ _ e => e) ⟨o, h1⟩ ⟨Nat.zero_le _, hd, [], .nil, o, es, ep, h1, h2, h3, h4, h5⟩
    have g : DPut (upd H a (.dT [])) a (.ref b) v _ := DPut.t (kvs := []) upd_same (by rw [upd_ne hab]; exact hb) (by rw [sizeLine_eq]; decide)
    have eu : upd (upd H a (.dT [])) a (.dT (putK [] k v)) = upd H a (.dT [(k, v)]) := by
      funext c
      by_cases hc : c = a
      · subst hc; rw [upd_same, upd_same]; rfl
      · rw [upd_ne hc, upd_ne hc, upd_ne hc]
    rw [eu] at g
    exact d_setItem hu I1 g ri rv fun s' I' => ⟨_, I', q⟩
theorem Ow.keep_out {K : PySem.W.Frag} {mg : Str → Option Value} {P H : Hp} {F : List Addr} {a : Addr} {u : HO} {vs : List V} {xs : List OD} (h : OwL K mg P H F vs xs) (n : a ∉ F) : OwL K mg P (upd H a u) F vs xs :=
  h.keep (Same.refl _) fun b hb o e => by rw [upd_ne (fun (z : b = a) => n (z ▸ hb))]; exact e
theorem set_dK {K : PySem.W.Frag} {mg : Str → Option Value} {B : List Nat} {bv : Nat → V} {R P H : Hp} {Fs : Nat → List Addr} {σ : L2.St} {env : DEnv} {i : Nat} {ks : List Key} {xs : List OD} {k : Key} {d dy : PyData} {v w u : V} {G : List Addr} {Q : Hp → Prop}
    (S : Sta K mg B bv R P H Fs σ env) (hx : env[i]? = some (some (.dK ks xs))) (hu : σ[i]? = some (some u)) (rd : Rp K P w d) (o : Ow K mg P H G v (.pur dy)) (f : Free R P Fs G) (e1 : keyOfD d = some k) (hz : ks.length < 16777216)
    (q : ∀ H' Fs', Sta K mg B bv R P H' Fs' σ (env.set i (some (.dK (putKs ks k) (putXs ks xs k (.pur dy))))) → Q H') : rSetP u w v H Q := by
  obtain ⟨u1, h1, o1⟩ := S.slot i _ hx
  rw [hu] at h1
  cases h1
  obtain ⟨rfl, o'⟩ := o.pur_nil
  generalize hFi : Fs i = Fi at o1
  cases o1 with
  | @dK a F0 _ vs _ h hl t =>
    have nd := S.nd i
    rw [hFi] at nd
    obtain ⟨n1, n2⟩ := List.nodup_cons.mp nd
    obtain ⟨vs', F', p1, p2, p3, p4, p5⟩ := put_own (k := k) o' hl t n2
    have e3 := keyOfD_some e1
    subst e3
    refine .inr (.inl ⟨a, _, rfl, .inl ⟨_, k, h, rd.key, by rw [List.length_zip, sizeLine_eq]; omega, rfl⟩, ?_⟩)
    rw [p1]
    have na : a ∉ F' := fun z => n1 (p5 a z)
    exact q _ _ (S.mut hu (fun b hb => upd_ne fun z => hb (by rw [hFi, z]; exact List.mem_cons_self)) (.dK upd_same p2 (Ow.keep_out p3 na)) (List.nodup_cons.mpr ⟨na, p4⟩) fun b hb => by
      rcases List.mem_cons.mp hb with z | z
      · exact .inl (by rw [hFi, z]; exact List.mem_cons_self)
      · exact .inl (by rw [hFi]; exact List.mem_cons_of_mem _ (p5 b z)))
theorem set_d0 {K : PySem.W.Frag} {mg : Str → Option Value} {B : List Nat} {bv : Nat → V} {R P H : Hp} {Fs : Nat → List Addr} {σ : L2.St} {env : DEnv} {i : Nat} {ks : List Key} {xs : List OD} {d dy : PyData} {c' : OD} {v w u : V} {G : List Addr} {Q : Hp → Prop}
    (S : Sta K mg B bv R P H Fs σ env) (hx : env[i]? = some (some (.dK ks xs))) (hu : σ[i]? = some (some u)) (rd : Rp K P w d) (o : Ow K mg P H G v (.pur dy)) (f : Free R P Fs G) (e : tup0 ks d (.pur dy) = some c')
    (q : ∀ H' Fs', Sta K mg B bv R P H' Fs' σ (env.set i (some c')) → Q H') : rSetP u w v H Q := by
  obtain ⟨u1, h1, o1⟩ := S.slot i _ hx
  rw [hu] at h1
  cases h1
  obtain ⟨rfl, o'⟩ := o.pur_nil
  cases ks with
  | cons _ _ => cases e
  | nil =>
    cases d with
    | tuple es =>
      simp only [tup0] at e
      obtain ⟨k, e1, rfl⟩ := Option.map_eq_some_iff.mp e
      have e3 := keysOfD_some e1
      subst e3
      generalize hFi : Fs i = Fi at o1
      cases o1 with
      | @dK a F0 _ vs _ h hl t =>
        cases vs with
        | cons _ _ => simp at hl
        | nil =>
          cases t
          cases rd with
          | tup hs ht =>
            rw [ht.keys] at hs
            refine .inr (.inr ⟨a, k, _, rfl, h, rfl, S.ph _ _ hs, ?_⟩)
            refine q _ _ (S.mut hu (fun b hb => upd_ne fun z => hb (by rw [hFi, z]; exact List.mem_cons_self)) (.dT (ks := [k]) (vs := [v]) upd_same rfl (.cons (Ow.keep (Same.refl _) o' fun b hb => nomatch hb) .nil)) (by simp) fun b hb => ?_)
            simp at hb
            exact .inl (by rw [hFi, hb]; exact List.mem_cons_self)
    | _ => cases e
/-- a store at a slot's tree, the key and the value being there -/
theorem set_core {K : PySem.W.Frag} {mg : Str → Option Value} {B : List Nat} {bv : Nat → V} {R P H : Hp} {Fs : Nat → List Addr} {σ : L2.St} {env : DEnv} {i : Nat} {c y c' : OD} {d : PyData} {v w u : V} {G : List Addr} {Q : Hp → Prop}
    (S : Sta K mg B bv R P H Fs σ env) (hx : env[i]? = some (some c)) (hu : σ[i]? = some (some u)) (rd : Rp K P w d) (o : Ow K mg P H G v y) (f : Free R P Fs G) (e : setO c d y = some c')
    (q : ∀ H' Fs', Sta K mg B bv R P H' Fs' σ (env.set i (some c')) → Q H') : rSetP u w v H Q := by
  obtain ⟨u1, h1, o1⟩ := S.slot i c hx
  rw [hu] at h1
  cases h1
  cases c with
  | lst xs =>
    cases d with
    | int k =>
      cases rd
      simp only [setO] at e
      obtain ⟨j, e1, e2⟩ := Option.map_eq_some_iff.mp e
      subst e2
      obtain ⟨a, vs, F0, hu2, hF, hH, ol, nd, hl⟩ := at_lst S hx
      rw [hu] at hu2
      cases hu2
      obtain ⟨n1, n2⟩ := List.nodup_cons.mp nd
      have hj : j < xs.length := by
        have := ixN_seq (show ixN xs.length k = some j from e1)
        exact this.2.1
      obtain ⟨z, Fj, a1, a2, a3, a4, a5⟩ := ol.at_ n2 (List.getElem?_eq_getElem hj)
      obtain ⟨F2, b1, b2, b3⟩ := a5 P H G v y (Same.refl _) (fun _ _ _ _ e => e) o f.nd (fun b hb hF0 => absurd (show b ∈ Fs i by rw [hF]; exact List.mem_cons_of_mem _ hF0) (f.f b hb i))
      refine .inl ⟨a, vs, k, j, rfl, rfl, hH, by rw [hl]; exact e1, ?_⟩
      refine q _ _ (chg_lst (G := G) S hu hF b1 (List.nodup_cons.mpr ⟨fun z => ?_, b2⟩) (fun b hb => ?_) f)
      · rcases b3 a z with y1 | y1
        · exact n1 y1.1
        · exact f.f a y1 i (by rw [hF]; exact List.mem_cons_self)
      · rcases b3 b hb with y1 | y1
        · exact .inl y1.1
        · exact .inr y1
    | _ => cases e
  | dK ks xs =>
    cases y with
    | pur dy =>
      simp only [setO] at e
      split at e
      · rename_i hzz
        cases e
        have e := hzz
        obtain ⟨k, e1, e⟩ := Option.bind_eq_some_iff.mp e
        split at e
        · rename_i hz
          cases e
          exact set_dK S hx hu rd o f e1 hz q
        · cases e
      · exact set_d0 S hx hu rd o f e q
    | _ => cases e
  | dT ks xs =>
    cases y with
    | pur dy =>
      cases d with
      | tuple es =>
        simp only [setO] at e
        obtain ⟨k, e1, e⟩ := Option.bind_eq_some_iff.mp e
        split at e
        · rename_i hz
          cases e
          obtain ⟨rfl, o'⟩ := o.pur_nil
          generalize hFi : Fs i = Fi at o1
          cases o1 with
          | @dT a F0 _ vs _ h hl t =>
            have nd := S.nd i
            rw [hFi] at nd
            obtain ⟨n1, n2⟩ := List.nodup_cons.mp nd
            obtain ⟨vs', F', p1, p2, p3, p4, p5⟩ := put_own (k := k) o' hl t n2
            have e3 := keysOfD_some e1
            subst e3
            cases rd with
            | tup hs ht =>
              rw [ht.keys] at hs
              refine .inr (.inl ⟨a, _, rfl, .inr ⟨_, k, _, h, rfl, S.ph _ _ hs, by rw [List.length_zip, sizeLine_eq]; omega, rfl⟩, ?_⟩)
              rw [p1]
              have na : a ∉ F' := fun z => n1 (p5 a z)
              exact q _ _ (S.mut hu (fun b hb => upd_ne fun z => hb (by rw [hFi, z]; exact List.mem_cons_self)) (.dT upd_same p2 (Ow.keep_out p3 na)) (List.nodup_cons.mpr ⟨na, p4⟩) fun b hb => by
                rcases List.mem_cons.mp hb with z | z
                · exact .inl (by rw [hFi, z]; exact List.mem_cons_self)
                · exact .inl (by rw [hFi]; exact List.mem_cons_of_mem _ (p5 b z)))
        · cases e
      | _ => cases e
    | _ => cases e
  | _ => cases e
/-- slot[key] = value: the value first -/
def M.setI (i : Nat) (mv : M OD) (mk : M PyData) : M Flw := M.bind mv fun y => M.need (fun _ => true) i (M.bind mk fun d env => match (env[i]?).join.bind fun c => setO c d y with
  | some c' => .ok .nx (env.set i (some c'))
  | none => .no)
theorem join_some {env : DEnv} {i : Nat} {x : OD} (e : (env[i]?).join = some x) : env[i]? = some (some x) := by
  cases h : env[i]? with
  | none => rw [h] at e; cases e
  | some o => rw [h] at e; simp only [Option.join_some] at e; rw [e]
section
variable {X : Cx} {W : WX} {B : List Nat} {e k : Expr} {mo : M OD} {mk : M PyData} {x : Str} {p pos pos' : Pos}
theorem ExS.sub {K : PySem.W.Frag} {mg : Str → Option Value} {W : WX} {B : List Nat} {bv : Nat → V} {R R' P : Hp} {x : Xn} {e : DEnv} (s : Same R R') (hT : ∀ a ∈ TbA K, R a ≠ none) (h : ExS K mg W B bv R P x e) : ExS K mg W B bv R' P x e := fun cls dx σ' P' H' Fs' S s' q => h cls dx σ' P' H' Fs' (S.sub s hT) s' q
theorem sd_setI (i : Nat) (hu : X.A.units + 65 < cLine) (he : EO X W B e mo) (hk : ED X W B k mk) (hN : X.N[i]? = some x := by rfl) (hv : Vis X.env.scope x := by first | exact Or.inl rfl | exact Or.inr (Or.inl rfl) | exact Or.inr (Or.inr rfl)) (hd : (x == ("__debug__" : Str)) = false := by decide)
    (hcd : (x == ("__classdict__" : Str)) = false := by decide)
    (ha : ∀ v, assign (.Subscript (.Name x p) k pos') X.env v = (do
      let ov ← holding [v] (eval (.Name x p) X.env)
      let iv ← holding [v, ov] (eval k X.env)
      standAt pos'
      holding [v, ov, iv] (setItem ov iv v)
      release [v, ov, iv] []) := by intro _; rfl)
    (hs : swapsWithSole [.Subscript (.Name x p) k pos'] e pos.line X.env = pure false := by rfl) (hw : swappedStores [.Subscript (.Name x p) k pos'] e X.env = pure none := by rfl) :
    SD X W B (.Assign [.Subscript (.Name x p) k pos'] e pos) (M.setI i mo mk) :=
  PS_mono (ps_asg he (pg_sub (pe_var hN hv hd hcd) hk (set_P (by omega)) ha) hs hw) fun D σ H ⟨bv, R, P, Fs, env, S, q⟩ => tO_bindS (Same.refl _) S q fun y e1 v P1 H1 F1 G S1 s1 o1 f1 q1 => by
    obtain ⟨hn, q1⟩ := need_post q1
    obtain ⟨c0, hc0⟩ : ∃ y, e1[i]? = some (some y) := by
      unfold needO at hn
      split at hn
      · exact ⟨_, by assumption⟩
      · cases hn
    obtain ⟨u, hu1, _⟩ := S1.slot i c0 hc0
    refine ⟨u, hu1, ⟨bv, joinR R H1 G, P1, F1, e1, S1.push f1 o1.notup, bindD q1 (fun d e2 q2 w P2 H2 F2 S2 s2 rw => ?_) fun _ _ q => (ExS.mono s1 q).d.sub (joinR_frame S1 f1) S1.hasT⟩⟩
    split at q2
    · rename_i c' hc'
      obtain ⟨c, e3, e4⟩ := Option.bind_eq_some_iff.mp hc'
      have f2 : Free R P2 F2 G := by
        have z := Free.pop (H := H1) o1.there f1.nd (joinR_frame S1 f1) (fun a ha => joinR_in ha) f1.r S2 (Free.nil (R := joinR R H1 G))
        rwa [List.append_nil] at z
      exact set_core (S2.sub (joinR_frame S1 f1) S1.hasT) (join_some e3) hu1 rw (o1.keep s2 fun a ha o e => S2.rh a o (by rw [joinR_in ha]; exact e) (S1.nota (f1.r a ha))) f2 e4 fun H' Fs' S' => q2 σ P2 H' Fs' S' (s1.trans s2)
    · exact q2.elim
end
end DL

set_option maxHeartbeats 2000000
/-! DL16: built-in calls. -/
namespace DL
open PySem PySem.Spec PyProof.Rows L2

/-! ### a new own object -/
def M.opO (f : List PyData → Option OD) (a : M (List PyData)) : M OD := M.bind a fun x => M.opt (f x)
section
variable {X : Cx} {W : WX} {B : List Nat} {e : Expr} {es : List Expr} {ml : M (List PyData)} {fo : List PyData → Option OD} {r : List V → Hp → VK → Prop} {x : Str} {p pos : Pos} {id T : String}
/-! list(x), tuple(x) -/
def tupleD : PyData → Option PyData
  | .list ds => some (.tuple ds)
  | .tuple ds => some (.tuple ds)
  | _ => none
theorem cd_tuple : CallD X.K (fun xs H Q => ∃ p ys, xs = [.ref p] ∧ ((SqL X.K H p ys ∧ ∀ l, H l = none → Q (.ref l) (upd H l (.tup ys))) ∨ (SqT X.K H p ys ∧ Q (.ref p) H))) (one tupleD) := calld1 fun P H v d z Q ph r1 ez k => by
  cases r1 with
  | lst h t => cases ez; exact ⟨_, _, rfl, .inl ⟨.inl (rd_mono ph h), fun l hl => k _ _ _ (ext_new ph _ hl) (.tup upd_same (t.mono (ext_new ph _ hl).pp))⟩⟩
  | tup h t => cases ez; exact ⟨_, _, rfl, .inr ⟨seqT_mono ph h, k _ P H (.refl ph) (.tup h t)⟩⟩
  | _ => cases ez
/-! numbers -/
def absD : PyData → Option PyData
  | .int i => some (.int (if i < 0 then -i else i))
  | _ => none
theorem cd_abs : CallD X.K (fun xs H Q => ∃ i, xs = [.int i] ∧ Q (.int (if i < 0 then -i else i)) H) (one absD) := calld1 fun P H v d z Q ph r1 ez k => by
  cases r1 with
  | int i => cases ez; exact ⟨i, rfl, k _ P H (.refl ph) (.int _)⟩
  | _ => cases ez
def intD : PyData → Option PyData
  | .int i => some (.int i)
  | .bool b => some (.int (if b then 1 else 0))
  | _ => none
def minD : PyData → PyData → Option PyData
  | .int i, .int j => some (.int (if j < i then j else i))
  | _, _ => none
def maxD : PyData → PyData → Option PyData
  | .int i, .int j => some (.int (if j > i then j else i))
  | _, _ => none
theorem cd_min : CallD X.K (fun xs H Q => ∃ i j, xs = [.int i, .int j] ∧ Q (.int (if j < i then j else i)) H) (two minD) := calld2 fun P H v w d e z Q ph r1 r2 ez k => by
  cases r1 with
  | int i => cases r2 with
    | int j => cases ez; exact ⟨i, j, rfl, k _ P H (.refl ph) (.int _)⟩
    | _ => cases ez
  | _ => cases ez
theorem cd_max : CallD X.K (fun xs H Q => ∃ i j, xs = [.int i, .int j] ∧ Q (.int (if j > i then j else i)) H) (two maxD) := calld2 fun P H v w d e z Q ph r1 r2 ez k => by
  cases r1 with
  | int i => cases r2 with
    | int j => cases ez; exact ⟨i, j, rfl, k _ P H (.refl ph) (.int _)⟩
    | _ => cases ez
  | _ => cases ez
def strD : PyData → Option PyData
  | .int i => if i.natAbs.log2 < 1920 then some (.str (toString i)) else none
  | _ => none
/-! sums, any, all -/
def intsOf : List PyData → Option (List Int)
  | [] => some []
  | .int i :: r => (intsOf r).map (i :: ·)
  | _ => none
def blsOf : List PyData → Option (List Bool)
  | [] => some []
  | .bool i :: r => (blsOf r).map (i :: ·)
  | _ => none
theorem ints_rp {K : PySem.W.Frag} {P : Hp} : ∀ {vs : List V} {ds : List PyData} {ns : List Int}, RpA K P vs ds → intsOf ds = some ns → vs = ns.map V.int
  | _, _, _, .nil, e => by cases e; rfl
  | _, _, _, .cons h t, e => by
    cases h with
    | int i =>
      simp only [intsOf] at e
      obtain ⟨ns, e1, e2⟩ := Option.map_eq_some_iff.mp e
      subst e2
      rw [ints_rp t e1]; rfl
    | _ => cases e
theorem bls_rp {K : PySem.W.Frag} {P : Hp} : ∀ {vs : List V} {ds : List PyData} {ns : List Bool}, RpA K P vs ds → blsOf ds = some ns → vs = ns.map V.bl
  | _, _, _, .nil, e => by cases e; rfl
  | _, _, _, .cons h t, e => by
    cases h with
    | bl i =>
      simp only [blsOf] at e
      obtain ⟨ns, e1, e2⟩ := Option.map_eq_some_iff.mp e
      subst e2
      rw [bls_rp t e1]; rfl
    | _ => cases e
def sumD : PyData → Option PyData
  | .list ds => (intsOf ds).map fun ns => .int ns.sum
  | _ => none
theorem cd_sum : CallD X.K (rSum X.K) (one sumD) := calld1 fun P H v d z Q ph r1 ez k => by
  cases r1 with
  | lst h t =>
    simp only [sumD] at ez
    obtain ⟨ns, e1, e2⟩ := Option.map_eq_some_iff.mp ez
    subst e2
    have := ints_rp t e1
    subst this
    exact ⟨_, ns, rfl, .inl (rd_mono ph h), k _ P H (.refl ph) (.int _)⟩
  | _ => cases ez
def allD : PyData → Option PyData
  | .list ds => (blsOf ds).map fun ns => .bool (ns.all fun b => b)
  | _ => none
theorem cd_all : CallD X.K (rAll X.K) (one allD) := calld1 fun P H v d z Q ph r1 ez k => by
  cases r1 with
  | lst h t =>
    simp only [allD] at ez
    obtain ⟨ns, e1, e2⟩ := Option.map_eq_some_iff.mp ez
    subst e2
    have := bls_rp t e1
    subst this
    exact ⟨_, ns, rfl, .inl (rd_mono ph h), k _ P H (.refl ph) (.bl _)⟩
  | _ => cases ez
/-! repr -/
def reprD (d : PyData) : Option PyData := if (d.showable && decide (d.depth ≤ 64)) && decide (d.shown.length ≤ 16777216) then some (.str d.shown) else none
def rRepr (K : PySem.W.Frag) : List V → Hp → VK → Prop := fun xs H Q => ∃ x P d, xs = [x] ∧ Same P H ∧ Rp K P x d ∧ d.showable = true ∧ d.depth ≤ 64 ∧ d.shown.length ≤ sizeLine ∧ Q (.str d.shown) H
theorem call_reprP (g : Gd X) (hu : X.A.units + 70 < cLine) : CallR X (.builtin "repr") (rRepr X.K) := by
  intro pins s σ H xs us Q I r ⟨x, P, d, e, ph, hd, hs, hdp, hz, q⟩
  subst e
  obtain ⟨u, rfl, ru⟩ := vals1 r
  obtain ⟨as, rd, ns⟩ := hd.reads g I ph u ru
  have fin : ∀ a, u = .ref a → wpAny (model X.prog X.w) X.A (call (.builtin "repr") [u]) (EP X pins σ Q) X.xe s := fun a e => by
    subst e
    exact repr_of_reads' rd hs (fun _ => ns) g.guards (by omega) (fun _ _ e => e) (fun h' u tk k => ⟨.str d.shown, H, I.kept (t' := tk) k, ⟨_, rfl⟩, q⟩) hz
  cases hd with
  | non => cases ru; exact PySem.P.repr_of_none ⟨.str _, H, I.tok _, ⟨_, rfl⟩, q⟩
  | bl b => cases ru; exact PySem.P.repr_of_bool ⟨.str _, H, I.tok _, ⟨_, rfl⟩, by cases b <;> exact q⟩
  | int i => obtain ⟨t, rfl⟩ := ru; exact PySem.P.repr_of_int (by simpa [PyData.showable] using hs) ⟨.str _, H, I.tok _, ⟨_, rfl⟩, q⟩
  | str x => obtain ⟨t, rfl⟩ := ru; exact PySem.P.repr_of_str ⟨.str _, H, I.tok _, ⟨_, rfl⟩, q⟩ hz
  | lst h t => exact fin _ ru
  | tup h t => exact fin _ ru
  | dK h hl t => exact fin _ ru
  | dT h hl hne t => exact fin _ ru
theorem cd_repr : CallD X.K (rRepr X.K) (one reprD) := calld1 fun P H v d z Q ph r1 ez k => by
  unfold reprD at ez
  split at ez
  · rename_i h
    simp only [Bool.and_eq_true, decide_eq_true_eq] at h
    cases ez
    exact ⟨v, P, d, rfl, ph, r1, h.1.1, h.1.2, by rw [sizeLine_eq]; exact h.2, k _ P H (.refl ph) (.str _)⟩
  · cases ez
end
end DL

set_option maxHeartbeats 2000000
/-! DL17: enumerate over a tuple. -/
namespace DL
open PySem PySem.Spec PyProof.Rows L2

def enumA : List PyData → Option (List PyData)
  | [.list ds] => some (enumL ds)
  | [.tuple ds] => some (enumL ds)
  | _ => none
end DL

set_option maxHeartbeats 2000000
/-! DL18: defs by name; recursion; the head's facts. -/
namespace DL
open PySem PySem.Spec PyProof.Rows L2

/-- a def of the module: what it does with its arguments -/
def DefK (P : Program) (w : World) (K : PySem.W.Frag) (mg : Str → Option Value) (base : Heap) (k : Nat) (x : Str) (ps : List Str) (B : List Nat) (m : M OD) (kb : List (List Str × Nat × List Nat)) : Prop :=
  ∃ f fd, mg x = some (.ref f) ∧ FnG P w K mg base k f fd ps B m ∧ Binds K fd ps [] ∧ PySem.W.keepIn K (.ref f) = true ∧ ∀ q ∈ kb, KB K fd ps q.1 q.2.1 q.2.2
theorem DefK.mono {P : Program} {w : World} {K : PySem.W.Frag} {mg : Str → Option Value} {base : Heap} {j k : Nat} {x : Str} {ps : List Str} {B : List Nat} {m : M OD} {kb : List (List Str × Nat × List Nat)} (D : DefK P w K mg base j x ps B m kb) (h : j ≤ k) : DefK P w K mg base k x ps B m kb :=
  let ⟨f, fd, h1, h2, h3⟩ := D
  ⟨f, fd, h1, h2.mono h, h3⟩
theorem u65 {k : Nat} {A : Around} (r : Room k A) : A.units + 65 < cLine := by have := r.un; omega
theorem u70 {k : Nat} {A : Around} (r : Room k A) : A.units + 70 < cLine := by have := r.un; omega
theorem Gd.blk {X : Cx} {s : Shared} {H : Hp} {scope : Scope} {C : Addr} {cl : List (Str × Addr)} {fp : List Addr} (g : Gd X) : Gd (BX X s H scope C cl fp) := ⟨g.guards, g.sys⟩
theorem takesW0 {X : Cx} : Takes X W0 := takes0
theorem takesF {P : Program} {w : World} {K : PySem.W.Frag} {mg : Str → Option Value} {base : Heap} {N : List Str} {qual : Str} {scope : Scope} {f : Addr} {cd : Value} {A : Around} {outer : List Env} {s : Shared} {H : Hp} {E : XK} (hf : (envOfC qual scope s.heap.objs.size f cd).frame = some (envOfC qual scope s.heap.objs.size f cd).locals) :
    Takes (CxF P w K mg base N qual scope f cd A outer s H E) (WF E) := takes_of (E := E) rfl hf rfl rfl
theorem passF {P : Program} {w : World} {K : PySem.W.Frag} {mg : Str → Option Value} {base : Heap} {N : List Str} {qual : Str} {scope : Scope} {f : Addr} {cd : Value} {A : Around} {outer : List Env} {s : Shared} {H : Hp} {E : XK} :
    PassesOwn (model P w) (CxF P w K mg base N qual scope f cd A outer s H E).A (CxF P w K mg base N qual scope f cd A outer s H E).env (CxF P w K mg base N qual scope f cd A outer s H E).xe := PassesOwn.leaving
section
variable {X : Cx} {W : WX} {B Bc : List Nat} {j k : Nat} {ps : List Str} {m : M OD} {ml mk : M (List AV)} {x : Str} {p pos : Pos} {e : Expr} {es : List Expr} {kws : List Keyword} {kb : List (List Str × Nat × List Nat)}
theorem eo_def (D : DefK X.prog X.w X.K X.mg X.base j x ps Bc m kb) (g : Gd X) (hr : Room k X.A) (tk : Takes X W) (ha : AA X W B (e :: es) ml) (hjk : j ≤ k := by decide) (hg : Gl X x := by rfl)
    (hdb : (x == ("__debug__" : Str)) = false := by decide) (he : starEach (e :: es) X.env = (false, eval e X.env) :: starEach es X.env := by rfl) (hpl : (backTo pos (starEach es X.env)).any (·.1) = false := by rfl) :
    EO X W B (.Call (.Name x p) (e :: es) [] pos) (M.call m ml) :=
  let ⟨f, fd, h1, h2, h3, h4, h5⟩ := D
  eo_call g (h2.mono hjk) hr tk hg h1 h4 h3 ha hdb he hpl
theorem eo_defK0 (pm : List Nat) (ks : List Str) (D : DefK X.prog X.w X.K X.mg X.base j x ps Bc m kb) (g : Gd X) (hr : Room k X.A) (tk : Takes X W) (hq : (ks, 0, pm) ∈ kb) (hkw : KA X W B kws mk) (hjk : j ≤ k := by decide) (hg : Gl X x := by rfl) (hpm : pm.length = ks.length := by rfl)
    (hall : (backToKw pos (keywordEach kws X.env)).all (·.1.isSome) = true := by rfl) (hks : (backToKw pos (keywordEach kws X.env)).filterMap (·.1) = ks := by rfl) (hdb : (x == ("__debug__" : Str)) = false := by decide)
    (hpl : ((backTo pos (starEach [] X.env)).any (·.1) || (backToKw pos (keywordEach kws X.env)).any (·.1.isNone)) = false := by rfl) : EO X W B (.Call (.Name x p) [] kws pos) (M.call m (M.perm 0 pm M.aNil mk)) :=
  let ⟨f, fd, h1, h2, h3, h4, h5⟩ := D
  eo_callK0 pm g (h2.mono hjk) hr tk hg h1 h4 (h5 _ hq) hkw hpm hall hks hdb hpl
/-- a text of the module -/
theorem ed_gstr {z : Str} (h : ∃ t, X.mg x = some (.str z t)) (hg : Gl X x := by rfl) (hd : (x == ("__debug__" : Str)) = false := by decide) : ED X W B (.Name x pos) (M.pure (.str z)) := let ⟨t, h⟩ := h; ed_glob hg h (v := .str z) ⟨t, rfl⟩ (.str z) hd
theorem ed_gint {z : Int} (h : ∃ t, X.mg x = some (.int z t)) (hg : Gl X x := by rfl) (hd : (x == ("__debug__" : Str)) = false := by decide) : ED X W B (.Name x pos) (M.pure (.int z)) := let ⟨t, h⟩ := h; ed_glob hg h (v := .int z) ⟨t, rfl⟩ (.int z) hd
end
/-! ### nothing is promised: the bottom of a recursion -/
theorem fng_fail {P : Program} {w : World} {K : PySem.W.Frag} {mg : Str → Option Value} {base : Heap} {k : Nat} {f : Addr} {fd : FuncData} {ps : List Str} {B : List Nat} (hB : ∀ i ∈ B, i < ps.length) : FnG P w K mg base k f fd ps B M.fail where
  bs := hB
  len := fun env => .inl ⟨fun _ _ z => (nomatch z), fun _ _ z => (nomatch z)⟩
  run := fun _ _ _ _ _ _ _ _ _ _ _ _ _ _ _ ⟨_, _, _, _, _, _, _, q⟩ => q.elim
/-! ### facts -/
structure Cn (fa : List He.Fa) (fn : List He.DefD) (K : PySem.W.Frag) (mg : Str → Option Value) (base : Heap) : Prop where
  kin : K.In base
  ns : base.Ns mainGlobals mg
  says : He.SaysD fa fn K
section
variable {fa : List He.Fa} {fn : List He.DefD} {K : PySem.W.Frag} {mg : Str → Option Value} {base : Heap}
theorem Cn.free (C : Cn fa fn K mg base) (i : Nat) {x : Str} (h : fa[i]? = some (.free x) := by rfl) : mg x = none := He.free_ok C.kin C.ns (C.says.fact i h)
theorem Cn.glo (C : Cn fa fn K mg base) (i : Nat) {x : Str} (h : fa[i]? = some (.glo x) := by rfl) : mg x = some (.ref (He.ga K x)) := He.glo_ok C.kin C.ns (C.says.fact i h)
theorem Cn.str (C : Cn fa fn K mg base) (i : Nat) {x z : Str} (h : fa[i]? = some (.str x z) := by rfl) : ∃ t, mg x = some (.str z t) := He.str_ok C.kin C.ns (C.says.fact i h)
theorem Cn.int (C : Cn fa fn K mg base) (i : Nat) {x : Str} {z : Int} (h : fa[i]? = some (.int x z) := by rfl) : ∃ t, mg x = some (.int z t) := He.int_ok C.kin C.ns (C.says.fact i h)
end
end DL

set_option maxHeartbeats 2000000
/-! DL19: the head with sys.modules; the law's end. -/
namespace DL
open PySem PySem.Spec PyProof.Rows L2

theorem mem_lk {β : Type} {a : Nat} {b : β} : ∀ {l : List (Nat × β)}, l.lookup a = some b → (a, b) ∈ l
  | [], h => nomatch (show (none : Option β) = some b from h)
  | (c, d) :: l, h => by
    rw [List.lookup_cons] at h
    by_cases e : a = c
    · subst e
      simp at h
      subst h
      exact List.mem_cons_self
    · have e2 : (a == c) = false := by simpa using e
      rw [e2] at h
      exact List.mem_cons_of_mem _ (mem_lk h)
def noList (p : Addr × Obj) : Bool := match p.2.cls with
  | .type n => !decide (n = "list")
  | .none => false
  | _ => true
/-- what the walk keeps of the top: no list among it -/
def frS (n : Nat) (g : Addr → Option Obj) : PySem.W.Frag := (He.frG g (sysModules :: He.asD g n)).filter noList
theorem frS_mem {n : Nat} {g : Addr → Option Obj} {p : Addr × Obj} (h : p ∈ frS n g) : g p.1 = some p.2 ∧ noList p = true := by
  obtain ⟨h1, h2⟩ := List.mem_filter.mp h
  obtain ⟨a, _, e⟩ := List.mem_filterMap.mp h1
  obtain ⟨o, ho, e⟩ := Option.map_eq_some_iff.mp e
  subst e
  exact ⟨ho, h2⟩
theorem frS_in {n : Nat} {h : Heap} : (frS n h.get?).In h := fun a o e => (frS_mem (p := (a, o)) (mem_lk e)).1
abbrev AlS : Type := He.AlD × Bool
/-- the module's tuples -/
abbrev Tbs : Type := List (Str × List He.Dv)
/-- the module "builtins" lies as a maker of functions wants it -/
def bltB (K : PySem.W.Frag) (P : Addr) : Bool := match PySem.W.nsIn K mainGlobals "__builtins__" with
  | some (some (.ref bm)) => decide (bm ≠ builtinsNs) && decide (bm ≠ mainGlobals) && decide (bm ≠ P) && (match K.lookup bm with
    | some ⟨.type n, some d, .plain, _⟩ => decide (n = "module") && decide (d = builtinsNs)
    | _ => false)
  | _ => false
/-- the code object of a function may make lambdas -/
def lamOk (K : PySem.W.Frag) (o : Obj) : Bool := match o.data with
  | .func fd => (match fd.code with
    | .ref c => (match K.lookup c with
      | some oc => (match tabOf oc with
        | some (P, q) => PySem.W.codeHdIn K c P && decide (mainGlobals ≠ P) && bltB K P && (tabsOf K).all (fun r => decide (r.1 ≠ P) || decide (r.2 = q))
        | none => false)
      | none => true)
    | _ => true)
  | _ => true
def codesOk (K : PySem.W.Frag) : Bool := K.all fun p => lamOk K p.2
/-- what isinstance asks of an own class of refusals -/
def excCB (K : PySem.W.Frag) (D : Addr) : Bool := decide (PySem.W.findIn K (.ref D) "__getattribute__" = some (some (.builtin "BaseException.__getattribute__"))) && (decide (PySem.W.findIn K (.ref D) "__getattr__" = some none) && (decide (PySem.W.subIn K (.ref D) (.type "BaseException") = some true) && (PySem.W.hasDictIn K D &&
  (decide (PySem.W.findIn K (.ref D) "__class__" = some (some (.builtin "object.__class__"))) && (decide (PySem.W.specialIn K (.builtin "object.__class__") "__get__" = some (some (.builtin "getset_descriptor.__get__"))) && (decide (PySem.W.takesIn K (.builtin "object.__class__") = some true) && decide (PySem.W.mroIn K D (.type "object") = some true)))))))
/-- a class, named by a fact -/
def dvC (K : PySem.W.Frag) : He.Dv → Value
  | .str d => .ref (He.ga K d)
  | .ty n => .type n
  | _ => .none
/-- own classes, then the built-in ones t -/
def tailX (t : List Value) : List Value → Bool
  | .ref _ :: r => tailX t r
  | l => l == t
def keTail : List Value := [.type "KeyError", .type "LookupError", .type "Exception", .type "BaseException", .type "object"]
/-- what makes an own class of refusals' instances, and over which built-in classes it stands -/
def overX (nn : String) (bm : List Value) : Bool := (decide (nn = "ValueError.__new__") && tailX PySem.HandSPX.veTail bm) || (decide (nn = "LookupError.__new__") && tailX keTail bm)
/-- an own class of refusals with an __init__ of its own, that lies as its maker wants it -/
def oexB (K : PySem.W.Frag) (C : Addr) : Bool := (match K.lookup C with
    | some ⟨.type t, _, .cls cd, sl⟩ => (match cd.mro, sl.toList with
      | .ref B :: bm, [_, _, _, _, some (.builtin nn), _] => decide (t = "type") && decide (B = C) && (!cd.hasDel && cd.hasDict && overX nn bm)
      | _, _ => false)
    | _ => false) && (decide (PySem.W.findIn K (.ref C) "__setattr__" = some (some (.builtin "object.__setattr__"))) && (decide (PySem.W.subIn K (.ref C) (.type "BaseException") = some true) && (decide (PySem.W.typeIn K (.ref C) = some (.type "type")) && PySem.W.keepIn K (.ref C))))
/-- an own class of refusals over ValueError without an __init__ of its own -/
def oex0B (K : PySem.W.Frag) (C : Addr) : Bool := PySem.W.excIn K C PySem.HandSPX.veTail "ValueError.__new__" && PySem.W.keepIn K (.ref C)
/-- a whole table: what isinstance tells of each of the classes -/
def pairsB (K : PySem.W.Frag) (d : He.Dv) : List He.Dv → Bool
  | [] => true
  | .str c :: .bl b :: ds => (excCB K (He.ga K c) && decide (PySem.W.kitAny K (.ref (He.ga K c)) [dvC K d] = some b)) && pairsB K d ds
  | _ => false
/-- an empty tuple lies there (a def's default) -/
def emptyTB (K : PySem.W.Frag) (a : Addr) : Bool := match K.lookup a with
  | some ⟨.type c, _, .seq its _, _⟩ => decide (c = "tuple") && its.isEmpty
  | _ => false
/-- facts about classes of refusals: what isinstance wants of one; what isinstance tells; what a clause of these classes takes -/
def xtB (K : PySem.W.Frag) : List He.Dv → Bool
  | [.str c] => excCB K (He.ga K c)
  | .bl _ :: .int _ :: d :: ds => pairsB K d ds
  | .bl b :: .str c :: ds => decide (PySem.W.kitAny K (.ref (He.ga K c)) (ds.map (dvC K)) = some b)
  | [.non, .str c] => oexB K (He.ga K c)
  | [.non, .non, .str c] => oex0B K (He.ga K c)
  | [.adr f] => emptyTB K (f K)
  | .int _ :: .bl b :: .str c :: ds => decide (PySem.W.exmAny K (.ref (He.ga K c)) (ds.map (dvC K)) = some b)
  | _ => false
/-- the module's tuples; "<lambda>" among the names: its functions may make lambdas; "<x>": facts about classes of refusals -/
def tbsOk (tb : Tbs) (K : PySem.W.Frag) : Bool := tb.all fun p => if p.1 == "<lambda>" then codesOk K else if p.1 == "<x>" then xtB K p.2 else He.tupB K p.1 p.2 && decide (PySem.W.nsIn K mainGlobals p.1 = some (some (.ref (He.ga K p.1))))
/-- the tables of the code objects are empty -/
def isEmptyTab (o : Option Obj) : Bool := match o with
  | some ⟨.none, none, .fields vs, sl⟩ => vs.isEmpty && sl.isEmpty
  | _ => false
def tabsEmpty (K : PySem.W.Frag) (g : Addr → Option Obj) : Bool := (tabsOf K).all fun p => isEmptyTab (g p.1)
theorem isEmptyTab_eq {o : Option Obj} (h : isEmptyTab o = true) : o = some { cls := .none, data := .fields #[] } := by
  unfold isEmptyTab at h
  split at h
  · rename_i vs sl
    simp only [Bool.and_eq_true, Array.isEmpty_iff] at h
    obtain ⟨rfl, rfl⟩ := h
    rfl
  · cases h
def obsS (n : Nat) (fa : List He.Fa) (fn : List He.DefD) (tb : Tbs) (g : Addr → Option Obj) : AlS := (He.obsD fa fn (frS n g), ((frS n g).lookup sysModules).isSome && tbsOk tb (frS n g) && tabsEmpty (frS n g) g)
theorem tab_code {K : PySem.W.Frag} {h : Heap} (all : ∀ p ∈ K, h.get? p.1 = some p.2) {b : Addr} (hb : b ∈ TbA K) : isCodeTable h b := by
  obtain ⟨p, hp, rfl⟩ := List.mem_map.mp hb
  obtain ⟨⟨c, o⟩, hc, e⟩ := List.mem_filterMap.mp hp
  simp only [tabOf] at e
  split at e
  · rename_i hcls
    split at e
    · rename_i vs hd
      split at e
      · rename_i q t a h1 h2
        cases e
        exact ⟨c, o, vs, all _ hc, hcls, hd, h2⟩
      · cases e
    · cases e
  · cases e
/-- the law, called by the row with the script: what its mirror tells of every script is True -/
theorem call_law {P : Program} {w : World} {K : PySem.W.Frag} {mg mb : Str → Option Value} {k : Nat} {fa a : Addr} {fd : FuncData} {x : Str} {m : M OD} {s₁ : Shared} {vs : List Value} {ns : List Int}
    (KX : K.In s₁.heap) (hsy : ∃ o, K.lookup sysModules = some o) (hnl : ∀ p ∈ K, noList p = true) (hT : ∀ p ∈ tabsOf K, s₁.heap.get? p.1 = some { cls := .none, data := .fields #[] }) (hall : ∀ p ∈ K, s₁.heap.get? p.1 = some p.2) (hns : s₁.heap.Ns mainGlobals mg) (hb : s₁.heap.Ns builtinsNs mb) (hbb : ∀ x : Str, x ≠ "__name__" → mb x = bootBuiltins x) (hlim : s₁.heap.NoLimit) (hg : s₁.gens = #[])
    (ha : s₁.heap.get? a = some { cls := .type "list", data := .seq vs.toArray }) (hi : IntsAre vs ns) (hl : ns.length ≤ sizeLine) (hr : Room k callerA)
    (F : ∀ base : Heap, K.In base → base.Ns mainGlobals mg → FnG P w K mg base k fa fd [x] [] m) (hbind : ∀ (s : Shared) (u : Value), BindsTo s fd ⟨[u], []⟩ [(x, u)]) (law : ∃ e, m [some (.pur (.list (ns.map .int)))] = .ok (.pur (.bool true)) e) :
    codeAny (model P w) callerA (.call (.ref fa) ⟨[.ref a], []⟩) (fun r s' => r = .ok (.ret (.bool true)) ∧ OldK s₁.heap s'.heap ∧ s'.os = s₁.os ∧ AllBare s'.gens) s₁ := by
  have rv := vals_ints hi
  have lenV := hi.length
  have rpI : ∀ {T : Hp} (l : List Int), RpA K T (l.map V.int) (l.map PyData.int) := fun {T} l => by
    induction l with
    | nil => exact .nil
    | cons i l ih => exact .cons (.int i) ih
  have tabAt : ∀ b ∈ TbA K, s₁.heap.get? b = some { cls := .none, data := .fields #[] } := fun b hb => by
    obtain ⟨p, hp, rfl⟩ := List.mem_map.mp hb
    exact hT p hp
  have aT : a ∉ TbA K := fun z => by
    have q := tabAt a z
    rw [ha] at q
    cases q
  have nT : ∀ b ∈ TbA K, K.lookup b = none := fun b hb => by
    cases q : K.lookup b with
    | none => rfl
    | some o =>
      have e := KX b o q
      rw [tabAt b hb] at e
      cases e
      exact nomatch (show false = true from hnl (b, _) (mem_lk q))
  have core : ∀ H : Hp, (∀ b ∈ TbA K, H b = some (.tbl #[])) → HOk P w H s₁.heap → (∀ b, H b ≠ none → b = a ∨ b ∈ TbA K) → (H a ≠ none → K.lookup a = none) → H a = some (.frz { cls := .type "list", data := .seq vs.toArray } (.lst (ns.map V.int))) →
      codeAny (model P w) callerA (.call (.ref fa) ⟨[.ref a], []⟩) (fun r s' => r = .ok (.ret (.bool true)) ∧ OldK s₁.heap s'.heap ∧ s'.os = s₁.os ∧ AllBare s'.gens) s₁ := fun H hH hok hA hK hS => by
    have only : ∀ {b : Addr} {o : Obj}, s₁.heap.get? b = some o → (b = a → False) → (b ∈ TbA K → False) → H b = none := fun {b o} e n n2 => by
      cases q : H b with
      | none => rfl
      | some u => exact ((hA b (by rw [q]; simp)).elim n n2).elim
    have nsK : ∀ {b : Addr} {m : Str → Option Value}, s₁.heap.Ns b m → (hidT s₁.heap H).Ns b m := fun {b m} ⟨o, es, ep, e, d, r⟩ => by
      have n1 : b = a → False := fun z => by
        subst z
        rw [ha] at e
        cases e
        exact nomatch (show Data.seq vs.toArray _ = Data.dict es ep from d)
      have n2 : b ∈ TbA K → False := fun z => by
        rw [tabAt b z] at e
        cases e
        exact nomatch (show Data.fields #[] = Data.dict es ep from d)
      exact ⟨o, es, ep, hidT_get e (only e n1 n2), d, r⟩
    have hKb : K.In (hidT s₁.heap H) := fun b o e => by
      have n1 : b = a → False := fun z => by
        subst z
        rw [hK (by rw [hS]; simp)] at e
        cases e
      have n2 : b ∈ TbA K → False := fun z => by
        rw [nT b z] at e
        cases e
      exact hidT_get (KX b o e) (only (KX b o e) n1 n2)
    have hM : Mod K mg (hidT s₁.heap H) := ⟨hKb, nsK hns, ⟨mb, nsK hb, hbb⟩, let ⟨mc, h1, h2⟩ := hlim; ⟨mc, nsK h1, h2⟩⟩
    obtain ⟨e, he⟩ := law
    have hsp : spF K mg [] m [.ref a] H (fun v _ => v = .bl true) fun _ _ _ => False := by
      refine ⟨fun i hi => (nomatch hi), fun _ => .non, fun b => if b ∈ TbA K then some (.tbl #[]) else none, fun b => if b = a then H b else none, fun _ => [], [some (.pur (.list (ns.map .int)))], ⟨fun b o z n => ?_, fun p hp => ⟨LamX.TabS.nil (hH _ (List.mem_map.mpr ⟨p, hp, rfl⟩)), ?_⟩, fun b o z => ?_, fun b z => ?_, fun i y q => ?_, fun _ _ => rfl, fun _ => .nil, fun _ _ _ _ z => (nomatch z), fun _ _ z => (nomatch z), fun _ _ z => (nomatch z), rfl, fun i hi => (nomatch hi), fun b xs z => ?_⟩, ?_⟩
      · rw [if_neg n] at z; cases z
      · show (if p.1 ∈ TbA K then some (HO.tbl #[]) else none) ≠ none
        rw [if_pos (show p.1 ∈ TbA K from List.mem_map.mpr ⟨p, hp, rfl⟩)]; simp
      · by_cases e : b = a
        · rw [if_pos e] at z; exact z
        · rw [if_neg e] at z; cases z
      · by_cases e : b ∈ TbA K
        · show (if b = a then H b else none) = none
          rw [if_neg fun y => aT (by rw [← y]; exact e)]
        · rw [if_neg e] at z; exact absurd rfl z
      · cases i with
        | zero =>
          simp at q
          subst q
          exact ⟨_, rfl, .pur (.lst (.inr ⟨_, by show (if a = a then H a else none) = _; rw [if_pos rfl]; exact hS⟩) (rpI ns))⟩
        | succ i => simp at q
      · by_cases e : b ∈ TbA K
        · rw [if_pos e] at z; cases z
        · rw [if_neg e] at z; cases z
      · rw [he]
        intro v P' H' Fs' G S s' o f
        have z := o.pur_inv
        cases z
        rfl
    refine codeAny_mono ((F _ hKb (nsK hns)).run callerA [] s₁ H ⟨[.ref a], []⟩ [.ref a] [.ref a] _ _ hr rfl (let ⟨o, ho⟩ := hsy; ⟨o, hKb _ _ ho⟩) ⟨rfl, hM, fun b o e => of_hidT e, Nat.le_of_eq (hidT_size _ _), trivial, fun b hb => (nomatch hb), hok, .of_eq hg⟩ (hbind s₁ (.ref a)) (.cons rfl .nil) hsp) fun r s' h => ?_
    cases r with
    | error e =>
      obtain ⟨_, _, _, _, _, _, _, _, _, _, _, _, z⟩ := h
      exact z.elim
    | ok fl =>
      cases fl with
      | next => exact False.elim h
      | brk => exact False.elim h
      | cont => exact False.elim h
      | ret u =>
        obtain ⟨v, H', os, bare, un, hok', r', q⟩ := h
        have q' : v = .bl true := q
        subst q'
        obtain rfl : u = Value.bool true := r'
        have keep : ∀ b o, b ∉ TbA K → s₁.heap.get? b = some o → s'.heap.get? b = some o := fun b o nb e => by
          cases q : H b with
          | none => exact un.keep b o e q (fun z => nomatch z) (fun z => nomatch z)
          | some u =>
            rcases hA b (by rw [q]; simp) with eb | eb
            · subst eb
              have z2 := un.frzs _ _ _ hS
              obtain ⟨e2, _⟩ := hok' _ _ z2
              rw [ha] at e
              cases e
              exact e2
            · exact absurd eb nb
        have grown : ∀ b ∈ TbA K, ∃ more : Array Value, s'.heap.get? b = some { cls := .none, data := .fields more } := fun b hb => by
          obtain ⟨more, z⟩ := un.tbls b #[] (hH b hb)
          exact ⟨_, hok' b _ z⟩
        refine ⟨rfl, ⟨fun b o e => ?_, fun b o e => ?_⟩, os, bare⟩
        · by_cases hb : b ∈ TbA K
          · obtain ⟨more, hm⟩ := grown b hb
            rw [tabAt b hb] at e
            cases e
            exact .inr (.inl ⟨tab_code hall hb, rfl, #[], more, rfl, by rw [Array.empty_append]; exact hm⟩)
          · exact .inl (keep b o hb e)
        · by_cases hb : b ∈ TbA K
          · obtain ⟨more, hm⟩ := grown b hb
            exact ⟨_, hm⟩
          · exact ⟨o, keep b o hb e⟩
  cases hk : K.lookup a with
  | some o =>
    exfalso
    have e := KX a o hk
    rw [ha] at e
    cases e
    have z := hnl (a, _) (mem_lk hk)
    exact nomatch (show false = true from z)
  | none =>
    refine core (fun b => if b = a then some (.frz { cls := .type "list", data := .seq vs.toArray } (.lst (ns.map V.int))) else if b ∈ TbA K then some (.tbl #[]) else none) (fun b hb => ?_) (fun b u z => ?_) (fun b z => ?_) (fun _ => hk) (if_pos rfl)
    · show (if b = a then _ else _) = _
      rw [if_neg fun z => aT (by rw [← z]; exact hb), if_pos hb]
    · by_cases hb : b = a
      · have z' := (if_pos hb).symm.trans z
        cases z'
        subst hb
        exact ⟨ha, by rw [List.length_map]; exact hl, vs, _, rv, ha⟩
      · have z1 := (if_neg hb).symm.trans z
        by_cases hb2 : b ∈ TbA K
        · have z' := (if_pos hb2).symm.trans z1
          cases z'
          exact tabAt b hb2
        · exact nomatch (if_neg hb2).symm.trans z1
    · by_cases hb : b = a
      · exact .inl hb
      · by_cases hb2 : b ∈ TbA K
        · exact .inr hb2
        · exact absurd ((if_neg hb).trans (if_neg hb2)) z
/-- all that the walk knows of the module -/
structure Cm (fa : List He.Fa) (fn : List He.DefD) (tb : Tbs) (K : PySem.W.Frag) (mg : Str → Option Value) (base : Heap) : Prop extends Cn fa fn K mg base where
  tbs : tbsOk tb K = true
theorem Cm.tup {fa : List He.Fa} {fn : List He.DefD} {tb : Tbs} {K : PySem.W.Frag} {mg : Str → Option Value} {base : Heap} (C : Cm fa fn tb K mg base) (i : Nat) {x : Str} {zs : List Str} (h : tb[i]? = some (x, zs.map He.Dv.str) := by rfl) (hx : (x == "<lambda>") = false := by rfl) (hx2 : (x == "<x>") = false := by rfl) : ∃ b, mg x = some (.ref b) ∧ ∀ H, SqT K H b (zs.map V.str) := by
  have z := List.all_eq_true.mp C.tbs _ (List.mem_of_getElem? h)
  simp only [hx, hx2, Bool.false_eq_true, if_false] at z
  obtain ⟨z1, z2⟩ := Bool.and_eq_true_iff.mp z
  refine ⟨_, PySem.W.mg_of C.kin C.ns (of_decide_eq_true z2), fun H => ?_⟩
  have y := He.tupB_ok z1 H
  rw [List.map_map] at y
  exact y
end DL

set_option maxHeartbeats 2000000
namespace DL
open PySem PySem.Spec PyProof.Rows L2
/-- a dict of the module: its name, its keys and values -/
abbrev Tdx : Type := List (Str × List (Str × PyData))
def vOf : PyData → Value → Bool
  | .int i, .int j _ => decide (i = j)
  | .str x, .str y _ => decide (x = y)
  | .none, .none => true
  | .bool a, .bool b => decide (a = b)
  | _, _ => false
def entB (e : DictEntry) (p : Str × PyData) : Bool := match e.key with
  | .str x _ => decide (x = p.1) && vOf p.2 e.val
  | _ => false
def entsB : List DictEntry → List (Str × PyData) → Bool
  | [], [] => true
  | e :: es, p :: l => entB e p && entsB es l
  | _, _ => false
def dicB (K : PySem.W.Frag) (a : Addr) (l : List (Str × PyData)) : Bool := match K.lookup a with
  | some ⟨_, _, .dict es _, _⟩ => entsB es.toList l
  | _ => false
/-- the world with one of its answers laid open: a display of a dict at the module's top asks it -/
def wf (b : Bool) (w : World) : World := { w with params := { w.params with followText := fun x => if x = "special-get-raises" then b else w.params.followText x } }
theorem wf_eq (w : World) : wf (w.params.followText "special-get-raises") w = w := by
  have e : (fun x => if x = "special-get-raises" then w.params.followText "special-get-raises" else w.params.followText x) = w.params.followText := by
    funext x
    split
    · rename_i h; rw [h]
    · rfl
  unfold wf
  rw [e]
abbrev AlX : Type := AlS × List (Option (List (Option (Str × Int))) × Bool)
def tdB (K : PySem.W.Frag) (t : Str × List (Str × PyData)) : Bool := dicB K (He.ga K t.1) t.2 && decide (PySem.W.nsIn K mainGlobals t.1 = some (some (.ref (He.ga K t.1))))
def obsX (td : Tdx) (K : PySem.W.Frag) : List (Option (List (Option (Str × Int))) × Bool) := td.map fun t => (He.dicW K (He.ga K t.1), tdB K t)
def valX (td : Tdx) (w : World) : List (Option (List (Option (Str × Int))) × Bool) := td.map fun t => (some (He.keysIn w.params (t.2.map (·.1))), true)
def hookX (n : Nat) (fa : List He.Fa) (fn : List He.DefD) (tb : Tbs) (td : Tdx) : PySem.W.Hook where
  α := AlX
  obs := fun s => (obsS n fa fn tb s.heap.get?, obsX td (frS n s.heap.get?))
  val := fun w => ((He.valD fn, true), valX td w)
  says := fun w h => ∃ K : PySem.W.Frag, K.In h ∧ ((He.SaysD fa fn K ∧ tbsOk tb K = true) ∧ obsX td K = valX td w) ∧ (∃ o, K.lookup sysModules = some o) ∧ (∀ p ∈ K, noList p = true) ∧ (∀ p ∈ tabsOf K, h.get? p.1 = some { cls := .none, data := .fields #[] }) ∧ ∀ p ∈ K, h.get? p.1 = some p.2
  of := fun w s e => by
    have eS : obsS n fa fn tb s.heap.get? = (He.valD fn, true) := congrArg Prod.fst e
    obtain ⟨e0, e3⟩ := Bool.and_eq_true_iff.mp (congrArg Prod.snd eS : (((frS n s.heap.get?).lookup sysModules).isSome && tbsOk tb (frS n s.heap.get?) && tabsEmpty (frS n s.heap.get?) s.heap.get?) = true)
    obtain ⟨e1, e2⟩ := Bool.and_eq_true_iff.mp e0
    exact ⟨frS n s.heap.get?, frS_in, ⟨⟨congrArg Prod.fst eS, e2⟩, congrArg Prod.snd e⟩, Option.isSome_iff_exists.mp e1, fun p hp => (frS_mem hp).2, fun p hp => isEmptyTab_eq (List.all_eq_true.mp e3 p hp), fun p hp => (frS_mem hp).1⟩
  keeps := fun _ _ _ ⟨K, hK, c1, c2, c3, c4, c5⟩ k => ⟨K, PySem.W.Frag.In.keeps hK k, c1, c2, c3, fun p hp => k _ _ (c4 p hp), fun p hp => k _ _ (c5 p hp)⟩
def obX (n : Nat) (fa : List He.Fa) (fn : List He.DefD) (tb : Tbs) (td : Tdx) (g : Addr → Option Obj) : AlX := (obsS n fa fn tb g, obsX td (frS n g))
theorem obX_eq {n : Nat} {fa : List He.Fa} {fn : List He.DefD} {tb : Tbs} {td : Tdx} {g : Addr → Option Obj} {s : Shared} (h : ∀ a, g a = s.heap.get? a) : (obX n fa fn tb td g : (hookX n fa fn tb td).α) = (hookX n fa fn tb td).obs s := by
  have e : g = s.heap.get? := funext h
  rw [e] <;> rfl

end DL
namespace L77
open PySem PySem.Spec PyProof.Rows L2 DL
noncomputable section
def top (i : Nat) : Stmt := PySem.Challenge.pw_plansamid_k77_parts_and_sieves_written.main.body.getD i (.Pass ⟨0, 0, 0, 0⟩)

abbrev dd_law_shown : He.DefD := ⟨("_law_shown", none), "_law_shown", "_law_shown", defArgs (top 54), defBody (top 54), defScope (top 54), [], []⟩
abbrev dd_law_wire_shown : He.DefD := ⟨("_law_wire_shown", none), "_law_wire_shown", "_law_wire_shown", defArgs (top 55), defBody (top 55), defScope (top 55), [], []⟩
abbrev ddshow_part : He.DefD := ⟨("show_part", none), "show_part", "show_part", defArgs (top 3), defBody (top 3), defScope (top 3), [], []⟩
abbrev dd_law_heard : He.DefD := ⟨("_law_heard", none), "_law_heard", "_law_heard", defArgs (top 56), defBody (top 56), defScope (top 56), [], []⟩
abbrev ddshow_sieve : He.DefD := ⟨("show_sieve", none), "show_sieve", "show_sieve", defArgs (top 4), defBody (top 4), defScope (top 4), [], []⟩
abbrev ddNoText___init__ : He.DefD := ⟨("NoText", some "__init__"), "__init__", "NoText.__init__", defArgs (inClass (top 23) 0), defBody (inClass (top 23) 0), defScope (inClass (top 23) 0), [], []⟩
abbrev ddneed : He.DefD := ⟨("need", none), "need", "need", defArgs (top 38), defBody (top 38), defScope (top 38), [], []⟩
abbrev ddnumber_in : He.DefD := ⟨("number_in", none), "number_in", "number_in", defArgs (top 39), defBody (top 39), defScope (top 39), [], []⟩
abbrev ddis_name : He.DefD := ⟨("is_name", none), "is_name", "is_name", defArgs (top 32), defBody (top 32), defScope (top 32), [], []⟩
abbrev ddleaf_in : He.DefD := ⟨("leaf_in", none), "leaf_in", "leaf_in", defArgs (top 40), defBody (top 40), defScope (top 40), [], []⟩
abbrev ddpart_at : He.DefD := ⟨("part_at", none), "part_at", "part_at", defArgs (top 41), defBody (top 41), defScope (top 41), [], []⟩
abbrev ddinner_parts : He.DefD := ⟨("inner_parts", none), "inner_parts", "inner_parts", defArgs (top 33), defBody (top 33), defScope (top 33), [], []⟩
abbrev ddhow_many_parts : He.DefD := ⟨("how_many_parts", none), "how_many_parts", "how_many_parts", defArgs (top 34), defBody (top 34), defScope (top 34), [], []⟩
abbrev ddwhole_part : He.DefD := ⟨("whole_part", none), "whole_part", "whole_part", defArgs (top 42), defBody (top 42), defScope (top 42), [], []⟩
abbrev ddread_part : He.DefD := ⟨("read_part", none), "read_part", "read_part", defArgs (top 44), defBody (top 44), defScope (top 44), [], []⟩
abbrev ddwhole_sieve : He.DefD := ⟨("whole_sieve", none), "whole_sieve", "whole_sieve", defArgs (top 43), defBody (top 43), defScope (top 43), [], []⟩
abbrev ddread_sieve : He.DefD := ⟨("read_sieve", none), "read_sieve", "read_sieve", defArgs (top 45), defBody (top 45), defScope (top 45), [], []⟩
abbrev dd_law_right : He.DefD := ⟨("_law_right", none), "_law_right", "_law_right", defArgs (top 57), defBody (top 57), defScope (top 57), [], []⟩
abbrev dd_law_feed : He.DefD := ⟨("_law_feed", none), "_law_feed", "_law_feed", defArgs (top 47), defBody (top 47), defScope (top 47), [], []⟩
abbrev dd_law_take : He.DefD := ⟨("_law_take", none), "_law_take", "_law_take", defArgs (top 48), defBody (top 48), defScope (top 48), [], []⟩
abbrev dd_law_label : He.DefD := ⟨("_law_label", none), "_law_label", "_law_label", defArgs (top 49), defBody (top 49), defScope (top 49), [], []⟩
abbrev dd_law_number : He.DefD := ⟨("_law_number", none), "_law_number", "_law_number", defArgs (top 50), defBody (top 50), defScope (top 50), [], []⟩
abbrev dd_law_piece : He.DefD := ⟨("_law_piece", none), "_law_piece", "_law_piece", defArgs (top 51), defBody (top 51), defScope (top 51), [], []⟩
abbrev dd_law_part : He.DefD := ⟨("_law_part", none), "_law_part", "_law_part", defArgs (top 52), defBody (top 52), defScope (top 52), [], []⟩
abbrev dd_law_wire : He.DefD := ⟨("_law_wire", none), "_law_wire", "_law_wire", defArgs (top 53), defBody (top 53), defScope (top 53), [], []⟩
abbrev ddlaw : He.DefD := ⟨("law", none), "law", "law", defArgs (top 58), defBody (top 58), defScope (top 58), [], []⟩
def fn : List He.DefD := [dd_law_shown, dd_law_wire_shown, ddshow_part, dd_law_heard, ddshow_sieve, ddNoText___init__, ddneed, ddnumber_in, ddis_name, ddleaf_in, ddpart_at, ddinner_parts, ddhow_many_parts, ddwhole_part, ddread_part, ddwhole_sieve, ddread_sieve, dd_law_right, dd_law_feed, dd_law_take, dd_law_label, dd_law_number, dd_law_piece, dd_law_part, dd_law_wire, ddlaw]
def fa : List He.Fa := [.free "str", .glo "PlanError", .glo "Unknown", .glo "NoText", .glo "NoRule", .glo "NoRoom", .glo "NoPlaces", .glo "NoPlace", .glo "NoName", .glo "NoLine", .glo "NoDeed", .glo "NoAsk", .glo "Done", .glo "Busy", .free "isinstance", .glo "Unlike", .glo "TooMany", .glo "Taken", .glo "Spent", .glo "NoWorth", .glo "NotDone", .glo "NoStand", .free "ValueError", .noat "NoText" "line", .str "FIGURES" "0123456789", .free "all", .free "len", .int "MOST_FIGURES" 30, .free "int", .str "LETTERS" "abcdefghijklmnopqrstuvwxyz", .int "LONGEST_NAME" 8, .free "tuple", .free "sum", .int "MOST_DEEP" 5, .int "MOST_PARTS" 15, .free "repr", .free "abs", .free "range", .free "min", .free "max", .glo "_law_shown", .glo "_law_wire_shown", .glo "show_part", .glo "_law_heard", .glo "show_sieve", .glo "need", .glo "number_in", .glo "is_name", .glo "leaf_in", .glo "part_at", .glo "inner_parts", .glo "how_many_parts", .glo "whole_part", .glo "read_part", .glo "whole_sieve", .glo "read_sieve", .glo "_law_right", .glo "_law_feed", .glo "_law_take", .glo "_law_label", .glo "_law_number", .glo "_law_piece", .glo "_law_part", .glo "_law_wire", .glo "law", .meth "NoText" "__init__"]
def tb : Tbs := ("<x>", [.int 0, .bl true, .str "NoText", .str "PlanError", .str "Unknown"]) :: ("<x>", [.str "NoText"]) :: ("<x>", [.bl false, .str "NoText", .str "Busy", .str "Done", .str "NoAsk", .str "NoDeed", .str "NoLine", .str "NoName", .str "NoPlace", .str "NoPlaces", .str "NoRoom", .str "NoRule"]) :: ("<x>", [.bl false, .str "NoText", .str "NoStand", .str "NotDone", .str "NoWorth", .str "Spent", .str "Taken", .str "TooMany", .str "Unknown", .str "Unlike"]) :: ("<x>", [.bl true, .str "NoText", .ty "ValueError"]) :: ("<x>", [.bl true, .str "NoText", .str "NoText"]) :: ("TWO_WORDS", [.str "plus", .str "less", .str "times", .str "over"]) :: ("<x>", [.non, .str "NoText"]) :: ("<lambda>", []) :: []
def td : Tdx := [("PART_SIGNS", [("plus", .str "+"), ("less", .str "-"), ("times", .str "*"), ("over", .str "/")]), ("SIEVE_SIGNS", [("alike", .str "="), ("unlike", .str "#"), ("below", .str "<")])]
abbrev R : PySem.W.OpenRow := PySem.W.OpenLaw.row PySem.Challenge.rw_plansamid_k77_parts_and_sieves_written
abbrev hk : PySem.W.Hook := hookX 4 fa fn tb td
def ob (s : PySem.W.SharedT) : AlX := obX 4 fa fn tb td (HandSHeadRun.getT s)
theorem ob_eq (s : PySem.W.SharedT) : ob s = hk.obs s.abs := obX_eq (HandSHeadRun.getT_eq s)
theorem runB0 (w : World) : HandSHeadRun.RunEq R (PySem.W.view R.prog [58]) hk ob 6000 (("PART_SIGNS" :: "SIEVE_SIGNS" :: "show_part" :: "show_sieve" :: "PlanError" :: "NoWorth" :: "NoDeed" :: "Taken" :: "TooMany" :: "NoPlace" :: "NoAsk" :: "Spent" :: "NoRule" :: "NoRoom" :: "Done" :: "NotDone" :: "NoName" :: "Busy" :: "NoStand" :: "Unlike" :: "NoPlaces" :: "NoText" :: "NoLine" :: "Unknown" :: "LETTERS" :: "LONGEST_NAME" :: "MOST_DEEP" :: "MOST_PARTS" :: "TWO_WORDS" :: "is_name" :: "inner_parts" :: "how_many_parts" :: "FIGURES" :: "MOST_FIGURES" :: "need" :: "number_in" :: "leaf_in" :: "part_at" :: "whole_part" :: "whole_sieve" :: "read_part" :: "read_sieve" :: "_law_feed" :: "_law_take" :: "_law_label" :: "_law_number" :: "_law_piece" :: "_law_part" :: "_law_wire" :: "_law_shown" :: "_law_wire_shown" :: "_law_heard" :: "_law_right" :: []) : List Str) (wf false w) := by
  intro os
  kernel_rfl
theorem runB1 (w : World) : HandSHeadRun.RunEq R (PySem.W.view R.prog [58]) hk ob 6000 (("PART_SIGNS" :: "SIEVE_SIGNS" :: "show_part" :: "show_sieve" :: "PlanError" :: "NoWorth" :: "NoDeed" :: "Taken" :: "TooMany" :: "NoPlace" :: "NoAsk" :: "Spent" :: "NoRule" :: "NoRoom" :: "Done" :: "NotDone" :: "NoName" :: "Busy" :: "NoStand" :: "Unlike" :: "NoPlaces" :: "NoText" :: "NoLine" :: "Unknown" :: "LETTERS" :: "LONGEST_NAME" :: "MOST_DEEP" :: "MOST_PARTS" :: "TWO_WORDS" :: "is_name" :: "inner_parts" :: "how_many_parts" :: "FIGURES" :: "MOST_FIGURES" :: "need" :: "number_in" :: "leaf_in" :: "part_at" :: "whole_part" :: "whole_sieve" :: "read_part" :: "read_sieve" :: "_law_feed" :: "_law_take" :: "_law_label" :: "_law_number" :: "_law_piece" :: "_law_part" :: "_law_wire" :: "_law_shown" :: "_law_wire_shown" :: "_law_heard" :: "_law_right" :: []) : List Str) (wf true w) := by
  intro os
  kernel_rfl
theorem runB (b : Bool) (w : World) : HandSHeadRun.RunEq R (PySem.W.view R.prog [58]) hk ob 6000 (("PART_SIGNS" :: "SIEVE_SIGNS" :: "show_part" :: "show_sieve" :: "PlanError" :: "NoWorth" :: "NoDeed" :: "Taken" :: "TooMany" :: "NoPlace" :: "NoAsk" :: "Spent" :: "NoRule" :: "NoRoom" :: "Done" :: "NotDone" :: "NoName" :: "Busy" :: "NoStand" :: "Unlike" :: "NoPlaces" :: "NoText" :: "NoLine" :: "Unknown" :: "LETTERS" :: "LONGEST_NAME" :: "MOST_DEEP" :: "MOST_PARTS" :: "TWO_WORDS" :: "is_name" :: "inner_parts" :: "how_many_parts" :: "FIGURES" :: "MOST_FIGURES" :: "need" :: "number_in" :: "leaf_in" :: "part_at" :: "whole_part" :: "whole_sieve" :: "read_part" :: "read_sieve" :: "_law_feed" :: "_law_take" :: "_law_label" :: "_law_number" :: "_law_piece" :: "_law_part" :: "_law_wire" :: "_law_shown" :: "_law_wire_shown" :: "_law_heard" :: "_law_right" :: []) : List Str) (wf b w) := by
  cases b
  · exact runB0 w
  · exact runB1 w
theorem run (w : World) : HandSHeadRun.RunEq R (PySem.W.view R.prog [58]) hk ob 6000 (("PART_SIGNS" :: "SIEVE_SIGNS" :: "show_part" :: "show_sieve" :: "PlanError" :: "NoWorth" :: "NoDeed" :: "Taken" :: "TooMany" :: "NoPlace" :: "NoAsk" :: "Spent" :: "NoRule" :: "NoRoom" :: "Done" :: "NotDone" :: "NoName" :: "Busy" :: "NoStand" :: "Unlike" :: "NoPlaces" :: "NoText" :: "NoLine" :: "Unknown" :: "LETTERS" :: "LONGEST_NAME" :: "MOST_DEEP" :: "MOST_PARTS" :: "TWO_WORDS" :: "is_name" :: "inner_parts" :: "how_many_parts" :: "FIGURES" :: "MOST_FIGURES" :: "need" :: "number_in" :: "leaf_in" :: "part_at" :: "whole_part" :: "whole_sieve" :: "read_part" :: "read_sieve" :: "_law_feed" :: "_law_take" :: "_law_label" :: "_law_number" :: "_law_piece" :: "_law_part" :: "_law_wire" :: "_law_shown" :: "_law_wire_shown" :: "_law_heard" :: "_law_right" :: []) : List Str) w := by
  have e := runB (w.params.followText "special-get-raises") w
  rw [wf_eq] at e
  exact e

end
end L77

set_option maxHeartbeats 2000000
/-! DL20: extend; xs[::-1]; displays of dicts; dict(pairs); in a tuple of the module's; name op= e; slot[i] op= e. -/
namespace DL
open PySem PySem.Spec PyProof.Rows L2

section
variable {X : Cx} {W : WX} {B : List Nat} {e : Expr} {mo : M OD} {md : M PyData} {x : Str} {p apos cpos pos : Pos}
/-! xs[::-1] -/
/-! x in a tuple of the module's: texts -/
def strIn (zs : List Str) : PyData → Option PyData
  | .str x => some (.bool (zs.any fun z => decide (z = x)))
  | _ => none
theorem td_inT {y : Str} {zs : List Str} {py : Pos} (hT : ∃ b, X.mg y = some (.ref b) ∧ ∀ H, SqT X.K H b (zs.map V.str)) (he : ED X W B e md) (hg : Gl X y := by rfl) (hdb : (y == ("__debug__" : Str)) = false := by decide) : TD X W B (.Compare e [.In] [.Name y py] pos) (M.tru (M.op1 (strIn zs) md)) := by
  obtain ⟨b, hm, hS⟩ := hT
  refine PT_mono (pt_cmpR op_in_seq he (pe_glob (v := .ref b) hg hm rfl hdb) rfl) fun σ H Q q => ?_
  have h1 : tD X.K X.mg W B (M.op1 (strIn zs) md) σ H (fun x H1 => ∃ c, x = .bl c ∧ Q c H1) := tB_of q
  obtain ⟨bv, R, P, Fs, env, S, q⟩ := h1
  refine tD_bind (Same.refl _) S q fun d e1 v P1 H1 F1 S1 s1 r1 q1 => ?_
  cases r1 with
  | str x =>
    refine ⟨b, _, rfl, .inr (hS H1), rfl, by simp [flatV], ?_⟩
    have e : inV (.str x) (zs.map V.str) = zs.any fun z => decide (z = x) := by
      unfold inV
      rw [List.any_map]
      rfl
    simp only [Bool.false_eq_true, if_false]
    rw [e]
    exact q1 _ P1 H1 F1 S1 s1 (.bl _)
  | _ => exact q1.elim
end
end DL

set_option maxHeartbeats 2000000
/-! DL21: displays of dicts; dict(pairs); name op= e; slot[k] op= e. -/
namespace DL
open PySem PySem.Spec PyProof.Rows L2

/-! ### {k: v, ..} -/
def M.pairs : List (M PyData × M PyData) → M (List (PyData × PyData))
  | [] => M.pure []
  | (k, v) :: r => M.bind k fun a => M.bind v fun b => M.bind (M.pairs r) fun l => M.pure ((a, b) :: l)
def keysO : List (PyData × PyData) → Option (List Key)
  | [] => some []
  | (k, _) :: r => match keyOfD k, keysO r with
    | some a, some l => some (a :: l)
    | _, _ => none
def dispO (l : List (PyData × PyData)) : Option OD := (keysO l).bind fun ks => if decide (ks.Nodup) && decide (ks.length ≤ 15) then some (.dK ks (l.map fun p => .pur p.2)) else none
def M.disp (pms : List (M PyData × M PyData)) : M OD := M.bind (M.pairs pms) fun l => M.opt (dispO l)
inductive RpP (K : PySem.W.Frag) (P : Hp) : List (V × V) → List (PyData × PyData) → Prop
  | nil : RpP K P [] []
  | cons {p : V × V} {q : PyData × PyData} {ps : List (V × V)} {qs : List (PyData × PyData)} (h1 : Rp K P p.1 q.1) (h2 : Rp K P p.2 q.2) (t : RpP K P ps qs) : RpP K P (p :: ps) (q :: qs)
theorem RpP.mono {K : PySem.W.Frag} {P P' : Hp} (s : Same P P') {ps : List (V × V)} {qs : List (PyData × PyData)} (h : RpP K P ps qs) : RpP K P' ps qs := by
  induction h with
  | nil => exact .nil
  | cons h1 h2 t ih => exact .cons (h1.mono s) (h2.mono s) ih
theorem pairs_law {K : PySem.W.Frag} {mg : Str → Option Value} {W : WX} {B : List Nat} {σ : L2.St} {β : Type} {okβ : β → DEnv → Prop} {bv : Nat → V} {R P0 : Hp} : ∀ {pms : List (M PyData × M PyData)} {f : List (PyData × PyData) → M β} {P H : Hp} {Fs : Nat → List Addr} {env : DEnv} {Q : List (V × V) → Hp → Prop}, Same P0 P → Sta K mg B bv R P H Fs σ env →
    post (M.bind (M.pairs pms) f env) okβ (ExD K mg W B bv R P0 σ) → (∀ l env1 vs P1 H1 Fs1, Sta K mg B bv R P1 H1 Fs1 σ env1 → Same P P1 → RpP K P1 vs l → post (f l env1) okβ (ExD K mg W B bv R P0 σ) → Q vs H1) → tPairs (pms.map fun p => (tD K mg W B p.1, tD K mg W B p.2)) σ H Q
  | [], f, P, H, Fs, env, Q, s0, S, q, k => k [] env [] P H Fs S (Same.refl _) .nil q
  | (mk, mv) :: r, f, P, H, Fs, env, Q, s0, S, q, k => by
    have e1 : M.bind (M.pairs ((mk, mv) :: r)) f env = M.bind mk (fun a => M.bind mv fun b => M.bind (M.pairs r) fun l => f ((a, b) :: l)) env := by
      simp only [M.pairs, M.bind, M.pure]
      cases mk env with
      | ok a e => simp only; cases mv e with
        | ok b e2 => simp only; cases M.pairs r e2 <;> rfl
        | _ => rfl
      | _ => rfl
    rw [e1] at q
    exact tD_bind s0 S q fun a e1 v P1 H1 F1 S1 s1 r1 q1 => tD_bind (s0.trans s1) S1 q1 fun b e2 u P2 H2 F2 S2 s2 r2 q2 => pairs_law (s0.trans (s1.trans s2)) S2 q2 fun l e3 vs P3 H3 F3 S3 s3 r3 q3 =>
      k ((a, b) :: l) e3 ((v, u) :: vs) P3 H3 F3 S3 (s1.trans (s2.trans s3)) (.cons (r1.mono (s2.trans s3)) (r2.mono s3) r3) q3
theorem merge_new : ∀ {more : List (Key × V)} {kvs : List (Key × V)}, (∀ p ∈ more, ∀ q ∈ kvs, q.1 ≠ p.1) → (more.map (·.1)).Nodup → mergeK kvs more = kvs ++ more
  | [], kvs, _, _ => by simp [mergeK]
  | p :: more, kvs, h, nd => by
    have hno : (kvs.any fun kv => decide (kv.1 = p.1)) = false := by
      rw [List.any_eq_false]
      intro q hq
      simpa using h p List.mem_cons_self q hq
    have e : putK kvs p.1 p.2 = kvs ++ [p] := by
      unfold putK
      rw [hno]
      rfl
    show mergeK (putK kvs p.1 p.2) more = _
    rw [e]
    simp only [List.map_cons, List.nodup_cons, List.mem_map, not_exists, not_and] at nd
    have h2 : ∀ r ∈ more, ∀ q ∈ kvs ++ [p], q.1 ≠ r.1 := fun r hr q hq => by
      rcases List.mem_append.mp hq with z | z
      · exact h r (List.mem_cons_of_mem _ hr) q z
      · have : q = p := by simpa using z
        subst this
        exact fun e => nd.1 r hr e.symm
    rw [merge_new h2 nd.2, List.append_assoc]
    rfl
theorem keysO_rel {K : PySem.W.Frag} {P : Hp} : ∀ {vs : List (V × V)} {l : List (PyData × PyData)} {ks : List Key}, RpP K P vs l → keysO l = some ks → ∃ xs, vs = (ks.zip xs).map (fun kv => (kV kv.1, kv.2)) ∧ ks.length = xs.length ∧ RpA K P xs (l.map (·.2))
  | _, _, _, .nil, e => by cases e; exact ⟨[], rfl, rfl, .nil⟩
  | _, _, ks, .cons (p := p) (q := q) h1 h2 t, e => by
    obtain ⟨a, b⟩ := q
    simp only [keysO] at e
    cases e1 : keyOfD a with
    | none => rw [e1] at e; cases e
    | some k =>
      cases e2 : keysO _ with
      | none => rw [e1, e2] at e; cases e
      | some ks2 =>
        rw [e1, e2] at e
        cases e
        obtain ⟨xs, x1, x2, x3⟩ := keysO_rel t e2
        have e3 := keyOfD_some e1
        simp only at h1
        subst e3
        have e4 := h1.key
        refine ⟨p.2 :: xs, ?_, by simp [x2], .cons h2 x3⟩
        rw [x1, List.zip_cons_cons, List.map_cons, ← e4]
section
variable {X : Cx} {W : WX} {B : List Nat} {pos : Pos} {keys : List (Option Expr)} {values : List Expr} {pms : List (M PyData × M PyData)}
abbrev PDs (X : Cx) (W : WX) (B : List Nat) (pos : Pos) (ks : List (Option Expr)) (vs : List Expr) (pms : List (M PyData × M PyData)) : Prop := PPs X pos ks vs (pms.map fun p => (tD X.K X.mg W B p.1, tD X.K X.mg W B p.2))
theorem pd_nil : PDs X W B pos [] [] [] := pps_nil
theorem pd_cons {k v : Expr} {mk mv : M PyData} (hk : ED X W B k mk) (hv : ED X W B v mv) (hr : PDs X W B pos keys values pms) : PDs X W B pos (some k :: keys) (v :: values) ((mk, mv) :: pms) := pps_cons hk hv hr
theorem eo_disp (h : PDs X W B pos keys values pms) (hall : keys.all (·.isSome) = true := by rfl) (hl : keys.length = values.length := by rfl) (h0 : keys ≠ [] := by exact List.cons_ne_nil _ _) (h15 : keys.length ≤ 15 := by decide) : EO X W B (.Dict keys values pos) (M.disp pms) :=
  PE_mono (pe_disp h hall hl h0 h15) fun σ H Q ⟨bv, R, P, Fs, env, S, q⟩ D hD => by
    have S0 := S.newR (u := .dK []) hD
    have hR : R D = none := S.free hD
    have hDt := S.nota hR
    have sR : Same R (upd R D (.dK [])) := fun a o e => by
      rw [upd_ne (fun (z : a = D) => by rw [z, hR] at e; cases e)]
      exact e
    refine pairs_law (Same.refl _) S0 (okβ := OkO X.K X.mg B bv R P σ Q) (f := fun l => M.opt (dispO l)) ?_ fun l e1 vs P1 H1 F1 S1 s1 r1 q1 => ?_
    · unfold M.disp at q
      cases hq : M.bind (M.pairs pms) (fun l => M.opt (dispO l)) env with
      | ok a e => rw [hq] at q; exact q
      | ex x e => rw [hq] at q; exact ExD.sub sR S.hasT q
      | no => rw [hq] at q; exact q.elim
    · cases e : dispO l with
      | none => rw [e] at q1; exact q1.elim
      | some x =>
        rw [e] at q1
        unfold dispO at e
        obtain ⟨ks, e2, e3⟩ := Option.bind_eq_some_iff.mp e
        split at e3
        · rename_i hc
          simp only [Bool.and_eq_true, decide_eq_true_eq] at hc
          cases e3
          obtain ⟨xs, x1, x2, x3⟩ := keysO_rel r1 e2
          refine ⟨S1.rh D _ upd_same hDt, ks.zip xs, x1, by rw [List.length_zip]; omega, ?_⟩
          have em : mergeK [] (ks.zip xs) = ks.zip xs := by
            rw [merge_new (fun _ _ q hq => absurd hq (by simp)) (by rw [zip_fst x2]; exact hc.1)]
            rfl
          rw [em]
          have S2 := S1.write hDt (u' := .dK (ks.zip xs))
          have S3 : Sta X.K X.mg B bv R P1 (upd H1 D (.dK (ks.zip xs))) F1 σ e1 := S2.sub (fun a o e => by
            rw [upd_ne (fun (z : a = D) => by rw [z, hR] at e; cases e)]
            exact e) S.hasT
          refine q1 (.ref D) P1 _ F1 [D] S3 s1 ?_ ⟨by simp, fun a h => ?_, fun a h => ?_, fun a h i z => ?_⟩
          · have := owl_pur (H := upd H1 D (.dK (ks.zip xs))) (mg := X.mg) x3
            rw [List.map_map] at this
            exact .dK upd_same x2 this
          · simp at h; subst h; exact hR
          · simp at h; subst h; exact S1.rp a (by rw [upd_same]; simp)
          · simp at h; subst h
            have y := S1.fr i a z
            rw [upd_same] at y; cases y
        · cases e3
/-! {} -/
end
/-! ### dict(list of pairs) -/
end DL

set_option maxHeartbeats 2000000
/-! DL22: what a mirror's run comes to. -/
namespace DL
open PySem PySem.Spec PyProof.Rows L2

/-- the run ends, without an exception, and Q stands of its end -/
def Hs {α : Type} (r : Rs α) (Q : α → DEnv → Prop) : Prop := ∃ a e, r = .ok a e ∧ Q a e
theorem Hs.mono {α : Type} {r : Rs α} {Q Q' : α → DEnv → Prop} (h : Hs r Q) (k : ∀ a e, Q a e → Q' a e) : Hs r Q' := by
  obtain ⟨a, e, h1, h2⟩ := h
  exact ⟨a, e, h1, k a e h2⟩
theorem Hs.ok {α : Type} {r : Rs α} {Q : α → DEnv → Prop} (h : Hs r Q) : ∃ a e, r = .ok a e ∧ Q a e := h
theorem Hs.mk {α : Type} {a : α} {e : DEnv} {Q : α → DEnv → Prop} (h : Q a e) : Hs (.ok a e) Q := ⟨a, e, rfl, h⟩
section
variable {α β : Type} {env : DEnv}
@[simp] theorem hs_ok {a : α} {Q : α → DEnv → Prop} : Hs (.ok a env) Q = Q a env := propext ⟨fun ⟨_, _, h, q⟩ => by cases h; exact q, Hs.mk⟩
@[simp] theorem hs_no {Q : α → DEnv → Prop} : Hs (.no : Rs α) Q = False := propext ⟨fun ⟨_, _, h, _⟩ => (nomatch h), False.elim⟩
@[simp] theorem hs_ex {x : Xn} {Q : α → DEnv → Prop} : Hs (.ex x env : Rs α) Q = False := propext ⟨fun ⟨_, _, h, _⟩ => (nomatch h), False.elim⟩
@[simp] theorem hs_bind {m : M α} {f : α → M β} {Q : β → DEnv → Prop} : Hs (M.bind m f env) Q = Hs (m env) fun a e => Hs (f a e) Q := by
  unfold M.bind
  cases m env <;> simp only [hs_ok, hs_no, hs_ex]
@[simp] theorem hs_pure {a : α} {Q : α → DEnv → Prop} : Hs (M.pure a env) Q = Q a env := hs_ok
/-- what an option holds -/
def Bd {α : Type} (o : Option α) (Q : α → Prop) : Prop := ∃ a, o = some a ∧ Q a
@[simp] theorem bd_some {a : α} {Q : α → Prop} : Bd (some a) Q = Q a := propext ⟨fun ⟨_, h, q⟩ => by cases h; exact q, fun q => ⟨a, rfl, q⟩⟩
@[simp] theorem bd_none {Q : α → Prop} : Bd (none : Option α) Q = False := propext ⟨fun ⟨_, h, _⟩ => (nomatch h), False.elim⟩
@[simp] theorem bd_ite {c : Prop} [Decidable c] {a : α} {Q : α → Prop} : Bd (if c then some a else none) Q = (c ∧ Q a) := by by_cases h : c <;> simp [h]
theorem Bd.some {o : Option α} {Q : α → Prop} {a : α} (h : o = .some a) (q : Q a) : Bd o Q := ⟨a, h, q⟩
def boolP : PyData → Option Bool
  | .bool b => some b
  | _ => none
def intP : PyData → Option Int
  | .int b => some b
  | _ => none
def purD : OD → Option PyData
  | .pur d => some d
  | _ => none
@[simp] theorem boolP_bool {b : Bool} : boolP (.bool b) = some b := rfl
@[simp] theorem intP_int {b : Int} : intP (.int b) = some b := rfl
@[simp] theorem purD_pur {b : PyData} : purD (.pur b) = some b := rfl
@[simp] theorem hs_opt {o : Option α} {Q : α → DEnv → Prop} : Hs (M.opt o env) Q = Bd o fun a => Q a env := by cases o <;> simp [M.opt, M.pure, M.fail]
@[simp] theorem hs_op2 {f : PyData → PyData → Option PyData} {a b : M PyData} {Q : PyData → DEnv → Prop} : Hs (M.op2 f a b env) Q = Hs (a env) fun x e => Hs (b e) fun y e => Bd (f x y) fun z => Q z e := by simp only [M.op2, hs_bind, hs_opt]
@[simp] theorem hs_op1 {f : PyData → Option PyData} {a : M PyData} {Q : PyData → DEnv → Prop} : Hs (M.op1 f a env) Q = Hs (a env) fun x e => Bd (f x) fun z => Q z e := by simp only [M.op1, hs_bind, hs_opt]
@[simp] theorem hs_opL {f : List PyData → Option PyData} {a : M (List PyData)} {Q : PyData → DEnv → Prop} : Hs (M.opL f a env) Q = Hs (a env) fun x e => Bd (f x) fun z => Q z e := by simp only [M.opL, hs_bind, hs_opt]
@[simp] theorem hs_opO {f : List PyData → Option OD} {a : M (List PyData)} {Q : OD → DEnv → Prop} : Hs (M.opO f a env) Q = Hs (a env) fun x e => Bd (f x) fun z => Q z e := by simp only [M.opO, hs_bind, hs_opt]
@[simp] theorem hs_nil {Q : List PyData → DEnv → Prop} : Hs (M.nil env) Q = Q [] env := hs_pure
@[simp] theorem hs_cons {a : M PyData} {l : M (List PyData)} {Q : List PyData → DEnv → Prop} : Hs (M.cons a l env) Q = Hs (a env) fun x e => Hs (l e) fun xs e => Q (x :: xs) e := by simp only [M.cons, hs_bind, hs_pure]
@[simp] theorem hs_tup {l : M (List PyData)} {Q : PyData → DEnv → Prop} : Hs (M.tup l env) Q = Hs (l env) fun xs e => xs.length ≤ lim ∧ Q (.tuple xs) e := by
  rw [M.tup, hs_bind]
  congr 1
  funext xs e
  by_cases h : xs.length ≤ lim <;> simp [h, M.fail]
@[simp] theorem hs_lst {l : M (List PyData)} {Q : OD → DEnv → Prop} : Hs (M.lst l env) Q = Hs (l env) fun xs e => xs.length ≤ lim ∧ Q (.lst (xs.map .pur)) e := by
  rw [M.lst, hs_bind]
  congr 1
  funext xs e
  by_cases h : xs.length ≤ lim <;> simp [h, M.fail, ownL]
@[simp] theorem hs_own {m : M PyData} {Q : OD → DEnv → Prop} : Hs (M.own m env) Q = Hs (m env) fun d e => Q (.pur d) e := by rw [M.own, hs_bind]; simp only [hs_pure]
@[simp] theorem hs_frz {m : M OD} {Q : PyData → DEnv → Prop} : Hs (M.frz m env) Q = Hs (m env) fun x e => Bd x.data fun d => Q d e := by rw [M.frz, hs_bind]; simp only [hs_opt]
/-- behind a statement -/
def Then (b : M Flw) (Q : Flw → DEnv → Prop) : Flw → DEnv → Prop := fun f e => match f with
  | .nx => Hs (b e) Q
  | f => Q f e
@[simp] theorem then_nx {b : M Flw} {Q : Flw → DEnv → Prop} : Then b Q .nx env = Hs (b env) Q := rfl
@[simp] theorem then_rt {b : M Flw} {Q : Flw → DEnv → Prop} {x : OD} : Then b Q (.rt x) env = Q (.rt x) env := rfl
@[simp] theorem then_bk {b : M Flw} {Q : Flw → DEnv → Prop} : Then b Q .bk env = Q .bk env := rfl
@[simp] theorem then_ct {b : M Flw} {Q : Flw → DEnv → Prop} : Then b Q .ct env = Q .ct env := rfl
@[simp] theorem hs_seq {a b : M Flw} {Q : Flw → DEnv → Prop} : Hs (M.seq a b env) Q = Hs (a env) (Then b Q) := by
  rw [M.seq, hs_bind]
  congr 1
  funext f e
  cases f <;> simp [Then]
@[simp] theorem hs_skip {Q : Flw → DEnv → Prop} : Hs (M.skip env) Q = Q .nx env := hs_pure
/-- by cases of a test -/
def Iff2 (k : Bool) (A B : Prop) : Prop := match k with
  | true => A
  | false => B
@[simp] theorem iff2_t {A B : Prop} : Iff2 true A B = A := rfl
@[simp] theorem iff2_f {A B : Prop} : Iff2 false A B = B := rfl
theorem iff2_of {k : Bool} {A B : Prop} (h1 : k = true → A) (h2 : k = false → B) : Iff2 k A B := by cases k with
  | true => exact h1 rfl
  | false => exact h2 rfl
@[simp] theorem hs_ite {c : M Bool} {a b : M α} {Q : α → DEnv → Prop} : Hs (M.ite c a b env) Q = Hs (c env) fun k e => Iff2 k (Hs (a e) Q) (Hs (b e) Q) := by
  rw [M.ite, hs_bind]
  congr 1
  funext k e
  cases k <;> simp
@[simp] theorem hs_ifS {c : M Bool} {a b : M Flw} {Q : Flw → DEnv → Prop} : Hs (M.ifS c a b env) Q = Hs (c env) fun k e => Iff2 k (Hs (a e) Q) (Hs (b e) Q) := hs_ite
@[simp] theorem hs_tru {m : M PyData} {Q : Bool → DEnv → Prop} : Hs (M.tru m env) Q = Hs (m env) fun d e => Bd (boolP d) fun b => Q b e := by
  rw [M.tru, hs_bind]
  congr 1
  funext d e
  cases d <;> simp [boolP, M.fail]
@[simp] theorem hs_trt {m : M PyData} {Q : Bool → DEnv → Prop} : Hs (M.trt m env) Q = Hs (m env) fun d e => Bd (trueD d) fun b => Q b e := by rw [M.trt, hs_bind]; simp only [hs_opt]
@[simp] theorem hs_not {m : M Bool} {Q : Bool → DEnv → Prop} : Hs (M.not m env) Q = Hs (m env) fun b e => Q (!b) e := by rw [M.not, hs_bind]; simp only [hs_pure]
@[simp] theorem hs_and {a b : M Bool} {Q : Bool → DEnv → Prop} : Hs (M.and a b env) Q = Hs (a env) fun c e => Iff2 c (Hs (b e) Q) (Q false e) := by
  rw [M.and, hs_bind]
  congr 1
  funext k e
  cases k <;> simp
@[simp] theorem hs_or {a b : M Bool} {Q : Bool → DEnv → Prop} : Hs (M.or a b env) Q = Hs (a env) fun c e => Iff2 c (Q true e) (Hs (b e) Q) := by
  rw [M.or, hs_bind]
  congr 1
  funext k e
  cases k <;> simp
@[simp] theorem hs_andV {a b : M PyData} {Q : PyData → DEnv → Prop} : Hs (M.andV a b env) Q = Hs (a env) fun d e => Bd (boolP d) fun c => Iff2 c (Hs (b e) Q) (Q (.bool false) e) := by
  rw [M.andV, hs_bind, hs_tru]
  congr 1
  funext d e
  cases d with
  | bool c => cases c <;> simp
  | _ => simp [boolP]
@[simp] theorem hs_orV {a b : M PyData} {Q : PyData → DEnv → Prop} : Hs (M.orV a b env) Q = Hs (a env) fun d e => Bd (boolP d) fun c => Iff2 c (Q (.bool true) e) (Hs (b e) Q) := by
  rw [M.orV, hs_bind, hs_tru]
  congr 1
  funext d e
  cases d with
  | bool c => cases c <;> simp
  | _ => simp [boolP]
@[simp] theorem hs_notV {a : M PyData} {Q : PyData → DEnv → Prop} : Hs (M.notV a env) Q = Hs (a env) fun d e => Bd (boolP d) fun c => Q (.bool (!c)) e := by
  rw [M.notV, hs_bind, hs_tru]
  simp only [hs_pure]
@[simp] theorem hs_isi {T : String} {a : M PyData} {Q : PyData → DEnv → Prop} : Hs (M.isi T a env) Q = Hs (a env) fun d e => Q (.bool (isA T d)) e := by rw [M.isi, hs_op1]; simp only [bd_some]
/-- the tree in a slot -/
def sl (env : DEnv) (i : Nat) : Option OD := (env[i]?).join
@[simp] theorem sl_zero {o : Option OD} {env : DEnv} : sl (o :: env) 0 = o := by cases o <;> rfl
@[simp] theorem sl_succ {o : Option OD} {env : DEnv} {i : Nat} : sl (o :: env) (i + 1) = sl env i := rfl
theorem sl_some {i : Nat} {x : OD} (h : sl env i = some x) : env[i]? = some (some x) := join_some h
theorem sl_none {i : Nat} (h : sl env i = none) : env[i]? = none ∨ env[i]? = some none := by
  unfold sl at h
  cases q : env[i]? with
  | none => exact .inl rfl
  | some o => rw [q] at h; cases o with
    | none => exact .inr rfl
    | some x => cases h
@[simp] theorem hs_rd {i : Nat} {Q : PyData → DEnv → Prop} : Hs (M.rd i env) Q = Bd ((sl env i).bind OD.data) fun d => Q d (env.set i (some (.pur d))) := by
  unfold M.rd
  cases hs : sl env i with
  | none => rcases sl_none hs with h | h <;> rw [h] <;> simp
  | some x =>
    have h := sl_some hs
    rw [h]
    cases x with
    | pur d =>
      have e : env.set i (some (.pur d)) = env := by
        obtain ⟨h1, h2⟩ := List.getElem?_eq_some_iff.mp h
        rw [← h2]
        exact List.set_getElem_self h1
      show Hs (.ok d env) Q = Bd (some d) _
      rw [hs_ok, bd_some, e]
    | lst xs => cases hd : (OD.lst xs).data <;> simp [hd]
    | dK ks xs => cases hd : (OD.dK ks xs).data <;> simp [hd]
    | dT ks xs => cases hd : (OD.dT ks xs).data <;> simp [hd]
    | obj c ns xs => cases hd : (OD.obj c ns xs).data <;> simp [hd]
    | exn x => cases hd : (OD.exn x).data <;> simp [hd]
    | ref a => cases hd : (OD.ref a).data <;> simp [hd]
@[simp] theorem hs_mv {i : Nat} {Q : OD → DEnv → Prop} : Hs (M.mv i env) Q = Bd (sl env i) fun x => Q x (env.set i none) := by
  unfold M.mv
  cases hs : sl env i with
  | none => rcases sl_none hs with h | h <;> rw [h] <;> simp
  | some x => rw [sl_some hs]; simp
@[simp] theorem hs_ro {m : DEnv → Option OD} {Q : PyData → DEnv → Prop} : Hs (M.ro m env) Q = Bd ((m env).bind purD) fun d => Q d env := by
  unfold M.ro
  cases h : m env with
  | none => simp
  | some x => cases x <;> simp [purD]
@[simp] theorem hs_drop {m : M PyData} {Q : Flw → DEnv → Prop} : Hs (M.drop m env) Q = Hs (m env) fun _ e => Q .nx e := by rw [M.drop, hs_bind]; simp only [hs_skip]
@[simp] theorem hs_ret {m : M OD} {Q : Flw → DEnv → Prop} : Hs (M.ret m env) Q = Hs (m env) fun x e => Q (.rt x) e := by rw [M.ret, hs_bind]; simp only [hs_pure]
@[simp] theorem hs_put {i : Nat} {x : OD} {Q : Flw → DEnv → Prop} : Hs (M.put i x env) Q = (i < env.length ∧ Q .nx (env.set i (some x))) := by
  unfold M.put
  by_cases h : i < env.length <;> simp [h]
@[simp] theorem hs_set {i : Nat} {m : M OD} {Q : Flw → DEnv → Prop} : Hs (M.set i m env) Q = Hs (m env) fun x e => i < e.length ∧ Q .nx (e.set i (some x)) := by rw [M.set, hs_bind]; simp only [hs_put]
@[simp] theorem hs_chg {i : Nat} {f : OD → Option (OD × OD)} {Q : OD → DEnv → Prop} : Hs (M.chg i f env) Q = Bd ((sl env i).bind f) fun p => Q p.1 (env.set i (some p.2)) := by
  unfold M.chg
  cases hs : sl env i with
  | none => rcases sl_none hs with h | h <;> rw [h] <;> simp
  | some x =>
    rw [sl_some hs]
    cases hf : f x <;> simp [hf]
@[simp] theorem hs_need {p : OD → Bool} {i : Nat} {m : M α} {Q : α → DEnv → Prop} : Hs (M.need p i m env) Q = ((sl env i).any p = true ∧ Hs (m env) Q) := by
  have e : needO p i env = (sl env i).any p := by
    unfold needO
    cases hs : sl env i with
    | none => rcases sl_none hs with h | h <;> rw [h] <;> simp
    | some x => rw [sl_some hs]; simp
  unfold M.need
  rw [e]
  by_cases h : (sl env i).any p = true <;> simp [h]
@[simp] theorem hs_setI {i : Nat} {mv : M OD} {mk : M PyData} {Q : Flw → DEnv → Prop} : Hs (M.setI i mv mk env) Q = Hs (mv env) fun y e => (sl e i).isSome = true ∧ Hs (mk e) fun d e => Bd ((sl e i).bind fun c => setO c d y) fun c' => Q .nx (e.set i (some c')) := by
  rw [M.setI, hs_bind]
  congr 1
  funext y e
  rw [hs_need, hs_bind]
  have e1 : (sl e i).any (fun _ => true) = (sl e i).isSome := by cases sl e i <;> rfl
  rw [e1]
  congr 2
  funext d e
  show Hs (match (sl e i).bind fun c => setO c d y with
    | some c' => .ok .nx (e.set i (some c'))
    | none => .no) Q = _
  cases (sl e i).bind fun c => setO c d y <;> simp
@[simp] theorem hs_ixS {i : Nat} {mk : M PyData} {Q : PyData → DEnv → Prop} : Hs (M.ixS i mk env) Q = ((sl env i).isSome = true ∧ Hs (mk env) fun d e => Bd (((sl e i).bind fun c => itemO c d).bind purD) fun z => Q z e) := by
  rw [M.ixS, hs_need, hs_bind]
  have e1 : (sl env i).any (fun _ => true) = (sl env i).isSome := by cases sl env i <;> rfl
  rw [e1]
  congr 2
  funext d e
  show Hs (match (sl e i).bind fun x => itemO x d with
    | some (.pur z) => .ok z e
    | _ => .no) Q = _
  cases (sl e i).bind fun c => itemO c d with
  | none => simp
  | some x => cases x <;> simp [purD]
@[simp] theorem hs_items {m : M PyData} {Q : List PyData → DEnv → Prop} : Hs (M.items m env) Q = Hs (m env) fun d e => Bd (itemsD d) fun l => Q l e := by rw [M.items, hs_bind]; simp only [hs_opt]
@[simp] theorem hs_iter {f : List PyData → Option (List PyData)} {m : M (List PyData)} {Q : List PyData → DEnv → Prop} : Hs (M.iter f m env) Q = Hs (m env) fun ds e => Bd (f ds) fun l => Q l e := by rw [M.iter, hs_bind]; simp only [hs_opt]
@[simp] theorem hs_for {l : M (List PyData)} {g : TG'} {b : M Flw} {Q : Flw → DEnv → Prop} : Hs (M.for l g b env) Q = Hs (l env) fun ds e => Hs (forL g b ds e) Q := by rw [M.for, hs_bind]
@[simp] theorem hs_noEnd {Q : Option Int → DEnv → Prop} : Hs (M.noEnd env) Q = Q none env := hs_pure
@[simp] theorem hs_anEnd {m : M PyData} {Q : Option Int → DEnv → Prop} : Hs (M.anEnd m env) Q = Hs (m env) fun d e => Bd (intP d) fun i => Q (some i) e := by
  rw [M.anEnd, hs_bind]
  congr 1
  funext d e
  cases d <;> simp [intP, M.fail]
@[simp] theorem hs_slice {c : M PyData} {a b : M (Option Int)} {Q : PyData → DEnv → Prop} : Hs (M.slice c a b env) Q = Hs (c env) fun x e => Hs (a e) fun l e => Hs (b e) fun h e => Bd (sliceD x l h) fun z => Q z e := by simp only [M.slice, hs_bind, hs_opt]
@[simp] theorem hs_aNil {Q : List AV → DEnv → Prop} : Hs (M.aNil env) Q = Q [] env := hs_pure
@[simp] theorem hs_aV {m : M PyData} {r : M (List AV)} {Q : List AV → DEnv → Prop} : Hs (M.aV m r env) Q = Hs (m env) fun d e => Hs (r e) fun l e => Q (.v d :: l) e := by simp only [M.aV, hs_bind, hs_pure]
@[simp] theorem hs_aO {m : M OD} {r : M (List AV)} {Q : List AV → DEnv → Prop} : Hs (M.aO m r env) Q = Hs (m env) fun d e => Hs (r e) fun l e => Q (.o d :: l) e := by simp only [M.aO, hs_bind, hs_pure]
@[simp] theorem hs_aR {i : Nat} {r : M (List AV)} {Q : List AV → DEnv → Prop} : Hs (M.aR i r env) Q = ((sl env i).isSome = true ∧ Hs (r env) fun l e => Q (.r i :: l) e) := by
  unfold M.aR
  cases hs : sl env i with
  | none => rcases sl_none hs with h | h <;> rw [h] <;> simp
  | some x => rw [sl_some hs]; simp
@[simp] theorem hs_perm {n : Nat} {pm : List Nat} {l r : M (List AV)} {Q : List AV → DEnv → Prop} : Hs (M.perm n pm l r env) Q = Hs (l env) fun a e => Hs (r e) fun b e => Bd (permA n pm a b) fun c => Q c e := by simp only [M.perm, hs_bind, hs_opt]
@[simp] theorem hs_call {f : M OD} {l : M (List AV)} {Q : OD → DEnv → Prop} : Hs (M.call f l env) Q = Hs (l env) fun as e => Bd (takeAll as e) fun p => Hs (f p.1) fun x outs => Q x (putAll as outs p.2) := by
  rw [M.call, hs_bind]
  congr 1
  funext as e
  cases h : takeAll as e with
  | none => simp
  | some p =>
    obtain ⟨a, r⟩ := p
    show Hs (match f a with
      | .ok x outs => .ok x (putAll as outs r)
      | .ex x outs => .ex x (putAll as outs r)
      | .no => .no) Q = _
    rw [bd_some]
    cases hf : f a <;> simp
@[simp] theorem hs_pairs0 {Q : List (PyData × PyData) → DEnv → Prop} : Hs (M.pairs [] env) Q = Q [] env := hs_pure
@[simp] theorem hs_pairs {k v : M PyData} {r : List (M PyData × M PyData)} {Q : List (PyData × PyData) → DEnv → Prop} : Hs (M.pairs ((k, v) :: r) env) Q = Hs (k env) fun a e => Hs (v e) fun b e => Hs (M.pairs r e) fun l e => Q ((a, b) :: l) e := by simp only [M.pairs, hs_bind, hs_pure]
@[simp] theorem hs_disp {pms : List (M PyData × M PyData)} {Q : OD → DEnv → Prop} : Hs (M.disp pms env) Q = Hs (M.pairs pms env) fun l e => Bd (dispO l) fun x => Q x e := by rw [M.disp, hs_bind]; simp only [hs_opt]
/-- a def's end -/
def Fin (B : List Nat) (n : Nat) (Q : OD → DEnv → Prop) : Flw → DEnv → Prop := fun f e => match f with
  | .rt x => Q x (keepB B n e)
  | .nx => Q (.pur .none) (keepB B n e)
  | _ => False
@[simp] theorem fin_rt {B : List Nat} {n : Nat} {Q : OD → DEnv → Prop} {x : OD} : Fin B n Q (.rt x) env = Q x (keepB B n env) := rfl
@[simp] theorem fin_nx {B : List Nat} {n : Nat} {Q : OD → DEnv → Prop} : Fin B n Q .nx env = Q (.pur .none) (keepB B n env) := rfl
theorem hs_runF {n nn : Nat} {B : List Nat} {mb : M Flw} {Q : OD → DEnv → Prop} (h : env.length = n) : Hs (runF n nn B mb env) Q = Hs (mb (env ++ List.replicate (nn - n) none)) (Fin B n Q) := by
  unfold runF
  rw [if_pos h]
  cases q : mb (env ++ List.replicate (nn - n) none) with
  | ok f e => cases f <;> simp [Fin]
  | ex x e => simp
  | no => simp
/-- a loop: an invariant of what is left and the slots -/
theorem hs_forL {g : TG'} {b : M Flw} {Q : Flw → DEnv → Prop} (I : List PyData → DEnv → Prop) (step : ∀ d ds e, I (d :: ds) e → ∃ e1, g d e = some e1 ∧ Hs (b e1) fun f e2 => match f with
    | .nx => I ds e2
    | .ct => I ds e2
    | .bk => Q .nx e2
    | .rt x => Q (.rt x) e2) (done : ∀ e, I [] e → Q .nx e) : ∀ {ds : List PyData} {e : DEnv}, I ds e → Hs (forL g b ds e) Q
  | [], e, h => Hs.mk (done e h)
  | d :: ds, e, h => by
    obtain ⟨e1, h1, h2⟩ := step d ds e h
    simp only [forL, h1]
    cases hb : b e1 with
    | ex x e => rw [hb, hs_ex] at h2; exact h2.elim
    | no => rw [hb, hs_no] at h2; exact h2.elim
    | ok f e2 =>
      rw [hb, hs_ok] at h2
      cases f with
      | nx => exact hs_forL I step done h2
      | ct => exact hs_forL I step done h2
      | bk => exact Hs.mk h2
      | rt x => exact Hs.mk h2
@[simp] theorem hs_lc {it : M (List PyData)} {g : TG'} {vs : List Nat} {tt : M Bool} {el : M PyData} {Q : OD → DEnv → Prop} : Hs (M.lc it g vs tt el env) Q = Hs (it env) fun ds e => Hs (lcL g vs tt el ds (wipeE vs e)) fun ys e' => ys.length ≤ 16777216 ∧ Q (.lst (ys.map .pur)) (restE vs e e') := by
  simp only [M.lc, hs_bind]
  congr 1
  funext ds e
  cases h : lcL g vs tt el ds (wipeE vs e) with
  | ex x e => simp [h]
  | no => simp [h]
  | ok ys e' =>
    simp only [h, hs_ok]
    by_cases hl : ys.length ≤ 16777216 <;> simp [hl]
/-- a comprehension: an invariant of what is left, what is told, the slots -/
theorem hs_lcL {g : TG'} {vs : List Nat} {tt : M Bool} {el : M PyData} (I : List PyData → List PyData → DEnv → Prop) (step : ∀ d ds acc e, I (d :: ds) acc e → ∃ e1, g d e = some e1 ∧ Hs (tt e1) fun k e2 => if k = true then Hs (el e2) fun y e3 => I ds (acc ++ [y]) (wipeE vs e3) else I ds acc (wipeE vs e2)) :
    ∀ {ds acc : List PyData} {e : DEnv} {Q : List PyData → DEnv → Prop}, I ds acc e → (∀ ys e', I [] (acc ++ ys) e' → Q ys e') → Hs (lcL g vs tt el ds e) Q
  | [], acc, e, Q, h, k => Hs.mk (k [] e (by rw [List.append_nil]; exact h))
  | d :: ds, acc, e, Q, h, k => by
    obtain ⟨e1, h1, h2⟩ := step d ds acc e h
    simp only [lcL, h1]
    cases ht : tt e1 with
    | ex x e => rw [ht, hs_ex] at h2; exact h2.elim
    | no => rw [ht, hs_no] at h2; exact h2.elim
    | ok b e2 =>
      rw [ht, hs_ok] at h2
      cases b with
      | false => exact hs_lcL I step (by simpa using h2) k
      | true =>
        have h3 : Hs (el e2) fun y e3 => I ds (acc ++ [y]) (wipeE vs e3) := by simpa using h2
        simp only
        cases he : el e2 with
        | ex x e => rw [he, hs_ex] at h3; exact h3.elim
        | no => rw [he, hs_no] at h3; exact h3.elim
        | ok y e3 =>
          rw [he, hs_ok] at h3
          have h4 := hs_lcL I step (Q := fun ys e' => Q (y :: ys) e') (acc := acc ++ [y]) h3 fun ys e' q => k (y :: ys) e' (by simpa using q)
          simp only
          cases hl : lcL g vs tt el ds (wipeE vs e3) with
          | ex x e => rw [hl, hs_ex] at h4; exact h4.elim
          | no => rw [hl, hs_no] at h4; exact h4.elim
          | ok ys e4 => rw [hl, hs_ok] at h4; exact Hs.mk h4
end
end DL

set_option maxHeartbeats 2000000
/-! DL23: operators of data, as rewriting. -/
namespace DL
open PySem PySem.Spec PyProof.Rows L2

section
variable {i j : Int} {x y : Str} {xs ys : List PyData} {Q : PyData → Prop}
@[simp] theorem addD_int : addD (.int i) (.int j) = some (.int (i + j)) := rfl
@[simp] theorem addD_str : Bd (addD (.str x) (.str y)) Q = (x.length + y.length ≤ lim ∧ Q (.str (x ++ y))) := bd_ite
@[simp] theorem addD_list : Bd (addD (.list xs) (.list ys)) Q = (xs.length + ys.length ≤ lim ∧ Q (.list (xs ++ ys))) := bd_ite
@[simp] theorem addD_tup : Bd (addD (.tuple xs) (.tuple ys)) Q = (xs.length + ys.length ≤ lim ∧ Q (.tuple (xs ++ ys))) := bd_ite
@[simp] theorem subD_int : subD (.int i) (.int j) = some (.int (i - j)) := rfl
@[simp] theorem mulD_int : Bd (mulD (.int i) (.int j)) Q = (mulC i j = true ∧ Q (.int (i * j))) := bd_ite
@[simp] theorem divD_int : Bd (divD (.int i) (.int j)) Q = (divC i j = true ∧ Q (.int (i.fdiv j))) := bd_ite
@[simp] theorem modD_int : Bd (modD (.int i) (.int j)) Q = (j ≠ 0 ∧ Q (.int (i.fmod j))) := by
  have : modD (.int i) (.int j) = if decide (j ≠ 0) = true then some (.int (i.fmod j)) else none := rfl
  rw [this, bd_ite]
  simp
@[simp] theorem powD_int : Bd (powD (.int i) (.int j)) Q = (powC i j = true ∧ Q (.int (i ^ j.toNat))) := bd_ite
@[simp] theorem negD_int : negD (.int i) = some (.int (-i)) := rfl
@[simp] theorem ltD_int : ltD (.int i) (.int j) = some (.bool (decide (i < j))) := rfl
@[simp] theorem leD_int : leD (.int i) (.int j) = some (.bool (decide (i ≤ j))) := rfl
@[simp] theorem gtD_int : gtD (.int i) (.int j) = some (.bool (decide (j < i))) := rfl
@[simp] theorem geD_int : geD (.int i) (.int j) = some (.bool (decide (j ≤ i))) := rfl
theorem eqD_of {d e : PyData} (h1 : SeqAt.shaped d = true) (h2 : SeqAt.shaped e = true) : eqD d e = some (.bool (PyData.eqv d e)) := by unfold eqD; rw [h1, h2]; rfl
theorem neD_of {d e : PyData} (h1 : SeqAt.shaped d = true) (h2 : SeqAt.shaped e = true) : neD d e = some (.bool (!PyData.eqv d e)) := by unfold neD; rw [h1, h2]; rfl
theorem shaped_int : SeqAt.shaped (.int i) = true := by simp [SeqAt.shaped, PyData.canLay0, PyData.depth]
@[simp] theorem eqD_int : eqD (.int i) (.int j) = some (.bool (i == j)) := by rw [eqD_of shaped_int shaped_int]; simp [PyData.eqv]
@[simp] theorem neD_int : neD (.int i) (.int j) = some (.bool (!(i == j))) := by rw [neD_of shaped_int shaped_int]; simp [PyData.eqv]
@[simp] theorem neD_bool {a b : Bool} : neD (.bool a) (.bool b) = some (.bool (!(a == b))) := by rw [neD_of (by simp [SeqAt.shaped, PyData.canLay0, PyData.depth]) (by simp [SeqAt.shaped, PyData.canLay0, PyData.depth])]; simp [PyData.eqv]
@[simp] theorem eqD_str : Bd (eqD (.str x) (.str y)) Q = ((PyData.strOk x = true ∧ PyData.strOk y = true) ∧ Q (.bool (x == y))) := by
  unfold eqD
  rw [bd_ite]
  simp [SeqAt.shaped, PyData.canLay0, PyData.depth, PyData.eqv]
@[simp] theorem neD_str : Bd (neD (.str x) (.str y)) Q = ((PyData.strOk x = true ∧ PyData.strOk y = true) ∧ Q (.bool (!(x == y)))) := by
  unfold neD
  rw [bd_ite]
  simp [SeqAt.shaped, PyData.canLay0, PyData.depth, PyData.eqv]
@[simp] theorem absD_int : one absD [.int i] = some (.int (if i < 0 then -i else i)) := rfl
@[simp] theorem intD_int : one intD [.int i] = some (.int i) := rfl
@[simp] theorem intD_bool {b : Bool} : one intD [.bool b] = some (.int (if b then 1 else 0)) := rfl
@[simp] theorem lenD_list : one lenD [.list xs] = some (.int xs.length) := rfl
@[simp] theorem lenD_tup : one lenD [.tuple xs] = some (.int xs.length) := rfl
@[simp] theorem minD_int : two minD [.int i, .int j] = some (.int (if j < i then j else i)) := rfl
@[simp] theorem maxD_int : two maxD [.int i, .int j] = some (.int (if j > i then j else i)) := rfl
theorem ixD_nn {n : Nat} {k : Int} (h0 : 0 ≤ k) (h1 : k < n) : ixD n k = some k.toNat := by unfold ixD; rw [if_pos h0, if_pos h1]
theorem itemD_list {k : Int} (h0 : 0 ≤ k) (h1 : k < xs.length) : itemD (.list xs) (.int k) = xs[k.toNat]? := by simp [itemD, ixD_nn h0 h1]
@[simp] theorem dataL_purs {ds : List PyData} : OD.dataL (ds.map .pur) = some ds := dataL_pur ds
@[simp] theorem data_lst {ds : List PyData} : (OD.lst (ds.map .pur)).data = some (.list ds) := by simp [OD.data]
@[simp] theorem data_nil : (OD.lst []).data = some (.list []) := rfl
@[simp] theorem data_pur {d : PyData} : (OD.pur d).data = some d := rfl
theorem canLay_ints : ∀ {cs : List Int}, PyData.canLayAll0 (cs.map .int) = true
  | [] => rfl
  | c :: cs => by simp [PyData.canLayAll0, PyData.canLay0, canLay_ints (cs := cs)]
theorem depth_ints : ∀ {cs : List Int}, PyData.depthAll (cs.map .int) = 0
  | [] => rfl
  | c :: cs => by simp [PyData.depthAll, PyData.depth, depth_ints (cs := cs)]
theorem shaped_ints {cs : List Int} : SeqAt.shaped (.list (cs.map .int)) = true := by simp [SeqAt.shaped, PyData.canLay0, PyData.depth, canLay_ints, depth_ints]
@[simp] theorem neD_ints_nil {cs : List Int} : neD (.list (cs.map .int)) (.list []) = some (.bool (!cs.isEmpty)) := by
  rw [neD_of shaped_ints (by decide)]
  cases cs <;> simp [PyData.eqv, PyData.eqvAll]
end
/-! ### bounds -/
theorem divC_ok' {i j : Int} (h0 : 0 < j) (h1 : j < 2 ^ 64) : divC i j = true := by
  have : j.natAbs.log2 < 9000 := by
    have h2 : j.natAbs < 2 ^ 64 := by omega
    have := Nat.log2_lt (n := j.natAbs) (k := 64) (by omega)
    have := this.mpr h2
    omega
  simp [divC, this]
  omega
theorem powC_ok' {i j : Int} (h0 : 0 ≤ j) (h1 : j ≤ 1000000) (h2 : i.natAbs < 2 ^ 64) : powC i j = true := by simp [powC, h0, h1, h2]
theorem mulC_l {i j : Int} (h : i.natAbs < 2 ^ 64) : mulC i j = true := by simp [mulC, h]
theorem mulC_r {i j : Int} (h : j.natAbs < 2 ^ 64) : mulC i j = true := by simp [mulC, h]
end DL

set_option maxHeartbeats 2000000
/-! DL24: a mirror's run, step by step. -/
namespace DL
open PySem PySem.Spec PyProof.Rows L2
section
variable {α β : Type} {env : DEnv} {i j : Int} {Q : PyData → Prop}
theorem st_set {i : Nat} {m : M OD} {Q : Flw → DEnv → Prop} (h : Hs (m env) fun x e => Nat.ble (i + 1) e.length = true ∧ Q .nx (e.set i (some x))) : Hs (M.set i m env) Q := by
  rw [hs_set]
  exact h.mono fun x e ⟨h1, h2⟩ => ⟨Nat.le_of_ble_eq_true h1, h2⟩
theorem st_then {b : M Flw} {Q : Flw → DEnv → Prop} {e : DEnv} (h : env = e) (q : Hs (b e) Q) : Then b Q .nx env := by subst h; exact q
theorem hs_runE {n nn : Nat} {B : List Nat} {mb : M Flw} {Q : OD → DEnv → Prop} (e : DEnv) (h : env.length = n) (he : env ++ List.replicate (nn - n) none = e) (q : Hs (mb e) (Fin B n Q)) : Hs (runF n nn B mb env) Q := by subst he; rw [hs_runF h]; exact q
theorem st_rdp {i : Nat} {d : PyData} {Q : PyData → DEnv → Prop} (h : sl env i = some (.pur d)) (q : Q d env) : Hs (M.rd i env) Q := by
  unfold M.rd
  rw [sl_some h]
  exact Hs.mk q
theorem st_mul (c : mulC i j = true) (q : Q (.int (i * j))) : Bd (mulD (.int i) (.int j)) Q := by rw [mulD_int]; exact ⟨c, q⟩
theorem st_div (c : divC i j = true) (q : Q (.int (i.fdiv j))) : Bd (divD (.int i) (.int j)) Q := by rw [divD_int]; exact ⟨c, q⟩
theorem st_mod (c : j ≠ 0) (q : Q (.int (i.fmod j))) : Bd (modD (.int i) (.int j)) Q := by rw [modD_int]; exact ⟨c, q⟩
theorem st_pow (c : powC i j = true) (q : Q (.int (i ^ j.toNat))) : Bd (powD (.int i) (.int j)) Q := by rw [powD_int]; exact ⟨c, q⟩
theorem st_bd {o : Option α} {a : α} {Q : α → Prop} (h : o = some a) (q : Q a) : Bd o Q := Bd.some h q
theorem st_eqi (q : Q (.bool (i == j))) : Bd (eqD (.int i) (.int j)) Q := Bd.some eqD_int q
theorem st_nei (q : Q (.bool (!(i == j)))) : Bd (neD (.int i) (.int j)) Q := Bd.some neD_int q
theorem st_neb {a b : Bool} (q : Q (.bool (!(a == b)))) : Bd (neD (.bool a) (.bool b)) Q := Bd.some neD_bool q
theorem st_and {A C : Prop} (a : A) (c : C) : A ∧ C := ⟨a, c⟩
theorem st_sl {i : Nat} {d : PyData} {Q : PyData → Prop} (h : (sl env i).bind OD.data = some d) (q : Q d) : Bd ((sl env i).bind OD.data) Q := Bd.some h q
theorem st_mv {i : Nat} {x : OD} {Q : OD → Prop} (h : sl env i = some x) (q : Q x) : Bd (sl env i) Q := Bd.some h q
theorem st_ro {o : Option OD} {d : PyData} {Q : PyData → Prop} (h : o.bind purD = some d) (q : Q d) : Bd (o.bind purD) Q := Bd.some h q
theorem st_so {o : Option OD} {c : OD → Option OD} {d : OD} {Q : OD → Prop} (h : o.bind c = some d) (q : Q d) : Bd (o.bind c) Q := Bd.some h q
theorem st_chg {o : Option OD} {c : OD → Option (OD × OD)} {d : OD × OD} {Q : OD × OD → Prop} (h : o.bind c = some d) (q : Q d) : Bd (o.bind c) Q := Bd.some h q
theorem st_boolP {b : Bool} {Q : Bool → Prop} (q : Q b) : Bd (boolP (.bool b)) Q := ⟨_, rfl, q⟩
theorem st_intP {b : Int} {Q : Int → Prop} (q : Q b) : Bd (intP (.int b)) Q := ⟨_, rfl, q⟩
theorem st_trueB {b : Bool} {Q : Bool → Prop} (q : Q b) : Bd (trueD (.bool b)) Q := ⟨_, rfl, q⟩
theorem st_add (q : Q (.int (i + j))) : Bd (addD (.int i) (.int j)) Q := ⟨_, rfl, q⟩
theorem st_sub (q : Q (.int (i - j))) : Bd (subD (.int i) (.int j)) Q := ⟨_, rfl, q⟩
theorem st_neg (q : Q (.int (-i))) : Bd (negD (.int i)) Q := ⟨_, rfl, q⟩
theorem st_lt (q : Q (.bool (decide (i < j)))) : Bd (ltD (.int i) (.int j)) Q := ⟨_, rfl, q⟩
theorem st_le (q : Q (.bool (decide (i ≤ j)))) : Bd (leD (.int i) (.int j)) Q := ⟨_, rfl, q⟩
theorem st_gt (q : Q (.bool (decide (j < i)))) : Bd (gtD (.int i) (.int j)) Q := ⟨_, rfl, q⟩
theorem st_ge (q : Q (.bool (decide (j ≤ i)))) : Bd (geD (.int i) (.int j)) Q := ⟨_, rfl, q⟩
theorem st_abs (q : Q (.int (if i < 0 then -i else i))) : Bd (one absD [.int i]) Q := ⟨_, rfl, q⟩
theorem st_lenL {xs : List PyData} (q : Q (.int xs.length)) : Bd (one lenD [.list xs]) Q := ⟨_, rfl, q⟩
theorem st_lenT {xs : List PyData} (q : Q (.int xs.length)) : Bd (one lenD [.tuple xs]) Q := ⟨_, rfl, q⟩
theorem st_intB {b : Bool} (q : Q (.int (if b then 1 else 0))) : Bd (one intD [.bool b]) Q := ⟨_, rfl, q⟩
theorem st_min (q : Q (.int (if j < i then j else i))) : Bd (two minD [.int i, .int j]) Q := ⟨_, rfl, q⟩
theorem st_max (q : Q (.int (if j > i then j else i))) : Bd (two maxD [.int i, .int j]) Q := ⟨_, rfl, q⟩
theorem st_datL {xs : List PyData} (q : Q (.list xs)) : Bd (OD.lst (xs.map .pur)).data Q := Bd.some data_lst q
theorem st_datP {d : PyData} (q : Q d) : Bd (OD.pur d).data Q := ⟨_, rfl, q⟩
theorem st_neints {cs : List Int} (q : Q (.bool (!cs.isEmpty))) : Bd (neD (.list (cs.map .int)) (.list [])) Q := Bd.some neD_ints_nil q
theorem st_rng1 {Q : List PyData → Prop} (c : -(2 ^ 62) ≤ j ∧ j < 2 ^ 62) (q : Q (rangeL 0 1 j.toNat)) : Bd (rangeD1 [.int j]) Q := Bd.some (by simp only [rangeD1]; rw [if_pos (rgI_iff.mpr c)]) q
theorem st_itL {xs : List PyData} {Q : List PyData → Prop} (q : Q xs) : Bd (itemsD (.list xs)) Q := ⟨_, rfl, q⟩
theorem st_itT {xs : List PyData} {Q : List PyData → Prop} (q : Q xs) : Bd (itemsD (.tuple xs)) Q := ⟨_, rfl, q⟩
theorem st_enL {xs : List PyData} {Q : List PyData → Prop} (q : Q (enumL xs)) : Bd (enumA [.list xs]) Q := ⟨_, rfl, q⟩
theorem st_enT {xs : List PyData} {Q : List PyData → Prop} (q : Q (enumL xs)) : Bd (enumA [.tuple xs]) Q := ⟨_, rfl, q⟩
theorem st_take {as : List AV} {p : DEnv × DEnv} {Q : DEnv × DEnv → Prop} (h : takeAll as env = some p) (q : Q p) : Bd (takeAll as env) Q := Bd.some h q
theorem fm (a : Int) {m : Int} (h : 0 < m) : 0 ≤ a.fmod m ∧ a.fmod m < m := ⟨Int.fmod_nonneg_of_pos a h, Int.fmod_lt_of_pos a h⟩
end
end DL

set_option maxHeartbeats 2000000
/-! DL25: data whose text is told without trouble. -/
namespace DL
open PySem PySem.Spec PyProof.Rows L2
def okS (x : Str) : Prop := ∀ c ∈ x.cps.toList, c < 0x110000
theorem okS_iff {x : Str} : PyData.strOk x = true ↔ okS x := by
  unfold PyData.strOk okS
  rw [Array.all_eq_true']
  simp
theorem okS_app {x y : Str} (h : okS x) (k : okS y) : okS (x ++ y) := fun c hc => by
  rcases mem_cps_append.mp hc with z | z
  · exact h c z
  · exact k c z
theorem okS_join {s : Str} (h : okS s) {ts : List Str} (k : ∀ t ∈ ts, okS t) : okS (Str.join s ts) := fun c hc => by
  rcases (mem_join s c ts).mp hc with ⟨t, ht, z⟩ | z
  · exact k t ht c z
  · exact h c z.2
theorem okS_textFrom : ∀ {ts : List Str} {k : Nat} {acc : Str}, okS acc → (∀ t ∈ ts, okS t) → okS (textFrom k acc ts)
  | [], k, acc, h, _ => h
  | t :: ts, k, acc, h, g => by
    show okS (textFrom (k + 1) (acc ++ (if k > 0 then ", " else "" : String) ++ t) ts)
    refine okS_textFrom (okS_app (okS_app h ?_) (g t (by simp))) fun t ht => g t (by simp [ht])
    split
    · exact okS_iff.mp (by decide +kernel)
    · exact okS_iff.mp (by decide +kernel)
theorem okS_list {ts : List Str} (h : ∀ t ∈ ts, okS t) : okS (listText ts) := okS_app (okS_textFrom (okS_iff.mp (by decide +kernel)) h) (okS_iff.mp (by decide +kernel))
theorem okS_tup {ts : List Str} (h : ∀ t ∈ ts, okS t) : okS (tupleText ts) := by
  refine okS_app (okS_app (okS_iff.mp (by decide +kernel)) (okS_join (okS_iff.mp (by decide +kernel)) h)) ?_
  split
  · exact okS_iff.mp (by decide +kernel)
  · exact okS_iff.mp (by decide +kernel)
/-- told in a text of at most so many signs, of at most so many floors -/
structure Gv (d : PyData) (n B : Nat) : Prop where
  sh : d.showable = true
  dp : d.depth ≤ n
  ok : PyData.strOk d.shown = true
  ln : d.shown.length ≤ B
theorem Gv.up {d : PyData} {n B n' B' : Nat} (h : Gv d n B) (h1 : n ≤ n') (h2 : B ≤ B') : Gv d n' B' := ⟨h.sh, Nat.le_trans h.dp h1, h.ok, Nat.le_trans h.ln h2⟩
theorem gw_int {i : Int} (h : i.natAbs < 10 ^ 500) : Gv (.int i) 0 501 where
  sh := by
    have h1 : i.natAbs < 2 ^ 1900 := Nat.lt_of_lt_of_le h (by decide +kernel)
    simp only [PyData.showable, decide_eq_true_eq]
    by_cases h0 : i.natAbs = 0
    · rw [h0]; decide +kernel
    · exact Nat.lt_trans ((Nat.log2_lt h0).mpr h1) (by decide)
  dp := by simp [PyData.depth]
  ok := okS_iff.mpr fun c hc => by
    apply Classical.byContradiction
    intro hn
    exact shown_int_free' (k := c) (by omega) i hc
  ln := by
    have e := int_text_length_le10 (k := 500) (by decide) h
    show (Str.ofString (toString i)).length ≤ 501
    rw [PySem.ofString_length]; exact e
theorem gw_intB {i : Int} {k : Nat} (hk : 0 < k) (hk5 : k ≤ 500) (h : i.natAbs < 10 ^ k) : Gv (.int i) 0 (k + 1) where
  sh := (gw_int (Nat.lt_of_lt_of_le h (Nat.pow_le_pow_right (by decide) hk5))).sh
  dp := by simp [PyData.depth]
  ok := (gw_int (Nat.lt_of_lt_of_le h (Nat.pow_le_pow_right (by decide) hk5))).ok
  ln := by
    have e := int_text_length_le10 (k := k) hk h
    show (Str.ofString (toString i)).length ≤ k + 1
    rw [PySem.ofString_length]; exact e
theorem showAll {xs : List PyData} (h : ∀ x ∈ xs, x.showable = true) : PyData.showableAll xs = true := by
  induction xs with
  | nil => rfl
  | cons x xs ih => simp only [PyData.showableAll, h x (by simp), ih fun y hy => h y (by simp [hy]), Bool.and_self]
theorem depAll {xs : List PyData} {n : Nat} (h : ∀ x ∈ xs, x.depth ≤ n) : PyData.depthAll xs ≤ n := by
  induction xs with
  | nil => simp [PyData.depthAll]
  | cons x xs ih =>
    have h1 := h x (by simp)
    have h2 := ih fun y hy => h y (by simp [hy])
    simp only [PyData.depthAll]
    omega
theorem mem_shownAll {xs : List PyData} {t : Str} (h : t ∈ PyData.shownAll xs) : ∃ x ∈ xs, t = x.shown := by
  induction xs with
  | nil => simp [PyData.shownAll] at h
  | cons x xs ih =>
    simp only [PyData.shownAll, List.mem_cons] at h
    rcases h with rfl | h
    · exact ⟨x, by simp, rfl⟩
    · obtain ⟨y, hy, e⟩ := ih h
      exact ⟨y, by simp [hy], e⟩
theorem sum_le {ts : List Str} {B : Nat} (h : ∀ t ∈ ts, t.length ≤ B) : (ts.map (·.length)).sum ≤ B * ts.length := by
  induction ts with
  | nil => simp
  | cons t ts ih =>
    have h1 := h t (by simp)
    have h2 := ih fun y hy => h y (by simp [hy])
    simp only [List.map_cons, List.sum_cons, List.length_cons, Nat.mul_add]
    omega
theorem gw_tup {xs : List PyData} {n B : Nat} (h : ∀ x ∈ xs, Gv x n B) : Gv (.tuple xs) (n + 1) ((B + 2) * xs.length + 3) where
  sh := by simp only [PyData.showable]; exact showAll fun x hx => (h x hx).sh
  dp := by have := depAll fun x hx => (h x hx).dp; simp only [PyData.depth]; omega
  ok := okS_iff.mpr (by
    simp only [PyData.shown]
    exact okS_tup fun t ht => by obtain ⟨x, hx, rfl⟩ := mem_shownAll ht; exact okS_iff.mp (h x hx).ok)
  ln := by
    have h1 := tupleText_len_le (PyData.shownAll xs)
    have h2 : ((PyData.shownAll xs).map (·.length)).sum ≤ B * (PyData.shownAll xs).length := sum_le fun t ht => by obtain ⟨x, hx, rfl⟩ := mem_shownAll ht; exact (h x hx).ln
    rw [PyData.shownAll_length] at h1 h2
    simp only [PyData.shown, Nat.add_mul]
    omega
theorem gw_list {xs : List PyData} {n B : Nat} (h : ∀ x ∈ xs, Gv x n B) : Gv (.list xs) (n + 1) ((B + 2) * xs.length + 3) where
  sh := by simp only [PyData.showable]; exact showAll fun x hx => (h x hx).sh
  dp := by have := depAll fun x hx => (h x hx).dp; simp only [PyData.depth]; omega
  ok := okS_iff.mpr (by
    simp only [PyData.shown]
    exact okS_list fun t ht => by obtain ⟨x, hx, rfl⟩ := mem_shownAll ht; exact okS_iff.mp (h x hx).ok)
  ln := by
    have h1 := listText_len_le (PyData.shownAll xs)
    have h2 : ((PyData.shownAll xs).map (·.length)).sum ≤ B * (PyData.shownAll xs).length := sum_le fun t ht => by obtain ⟨x, hx, rfl⟩ := mem_shownAll ht; exact (h x hx).ln
    rw [PyData.shownAll_length] at h1 h2
    simp only [PyData.shown, Nat.add_mul]
    omega
theorem st_repr {d : PyData} {n B : Nat} (h : Gv d n B) (hn : n ≤ 64) (hB : B ≤ 16777216) {Q : PyData → Prop} (q : Q (.str d.shown)) : Bd (one reprD [d]) Q := by
  refine Bd.some (a := .str d.shown) ?_ q
  show reprD d = _
  have h1 := Nat.le_trans h.dp hn
  have h2 := Nat.le_trans h.ln hB
  simp only [reprD, h.sh, decide_eq_true h1, decide_eq_true h2, Bool.and_self, if_true]
theorem st_neSame {d : PyData} {n B : Nat} (h : Gv d n B) {Q : PyData → Prop} (q : Q (.bool false)) : Bd (neD (.str d.shown) (.str d.shown)) Q := by
  rw [neD_str]
  refine ⟨⟨h.ok, h.ok⟩, ?_⟩
  have : (d.shown == d.shown) = true := beq_self_eq_true _
  rw [this]
  exact q
theorem rangeL01 {n : Nat} : rangeL 0 1 n = (List.range n).map fun (k : Nat) => .int (k : Int) := by
  unfold rangeL
  congr 1
  funext k
  simp
end DL

set_option maxHeartbeats 2000000
/-! DL26: loops and comprehensions by the number of the turn. -/
namespace DL
open PySem PySem.Spec PyProof.Rows L2
/-- what comes behind a loop's body -/
def LpQ (J : DEnv → Prop) (Q : Flw → DEnv → Prop) : Flw → DEnv → Prop := fun f e => match f with
  | .nx => J e
  | .ct => J e
  | .bk => Q .nx e
  | .rt x => Q (.rt x) e
theorem lp_nx {J : DEnv → Prop} {Q : Flw → DEnv → Prop} {e : DEnv} (q : J e) : LpQ J Q .nx e := q
theorem lp_ct {J : DEnv → Prop} {Q : Flw → DEnv → Prop} {e : DEnv} (q : J e) : LpQ J Q .ct e := q
theorem lp_bk {J : DEnv → Prop} {Q : Flw → DEnv → Prop} {e : DEnv} (q : Q .nx e) : LpQ J Q .bk e := q
theorem lp_rt {J : DEnv → Prop} {Q : Flw → DEnv → Prop} {e : DEnv} {x : OD} (q : Q (.rt x) e) : LpQ J Q (.rt x) e := q
theorem iff2_nf {A B : Prop} (q : A) : Iff2 (!false) A B := q
theorem iff2_nt {A B : Prop} (q : B) : Iff2 (!true) A B := q
theorem hs_forN {g : TG'} {b : M Flw} {Q : Flw → DEnv → Prop} {ds : List PyData} (J : Nat → DEnv → Prop) (step : ∀ i d, ds[i]? = some d → ∀ e, J i e → ∃ e1, g d e = some e1 ∧ Hs (b e1) (LpQ (J (i + 1)) Q)) (done : ∀ e, J ds.length e → Q .nx e) {e : DEnv} (h : J 0 e) : Hs (forL g b ds e) Q := by
  refine hs_forL (fun l e => ∃ i, i ≤ ds.length ∧ l = ds.drop i ∧ J i e) ?_ ?_ ⟨0, Nat.zero_le _, rfl, h⟩
  · rintro d l e ⟨i, hi, e1, hj⟩
    have hlt : i < ds.length := by
      apply Classical.byContradiction
      intro hn
      rw [List.drop_eq_nil_of_le (by omega)] at e1
      cases e1
    rw [List.drop_eq_getElem_cons hlt] at e1
    cases e1
    obtain ⟨e1, h1, h2⟩ := step i _ (List.getElem?_eq_getElem hlt) e hj
    refine ⟨e1, h1, h2.mono ?_⟩
    intro f e2 h3
    cases f with
    | nx => exact ⟨i + 1, hlt, rfl, h3⟩
    | ct => exact ⟨i + 1, hlt, rfl, h3⟩
    | bk => exact h3
    | rt x => exact h3
  · rintro e ⟨i, hi, e1, hj⟩
    have : ds.length ≤ i := by
      have := congrArg List.length e1
      simp only [List.length_nil, List.length_drop] at this
      omega
    have : i = ds.length := by omega
    subst this
    exact done e hj
theorem hs_lcN {g : TG'} {vs : List Nat} {tt : M Bool} {el : M PyData} {ds : List PyData} (J : Nat → List PyData → DEnv → Prop) (step : ∀ i d, ds[i]? = some d → ∀ acc e, J i acc e → ∃ e1, g d e = some e1 ∧ Hs (tt e1) fun k e2 => if k = true then Hs (el e2) fun y e3 => J (i + 1) (acc ++ [y]) (wipeE vs e3) else J (i + 1) acc (wipeE vs e2))
    {e : DEnv} {Q : List PyData → DEnv → Prop} (h : J 0 [] e) (q : ∀ ys e', J ds.length ys e' → Q ys e') : Hs (lcL g vs tt el ds e) Q := by
  refine hs_lcL (fun l acc e => ∃ i, i ≤ ds.length ∧ l = ds.drop i ∧ J i acc e) ?_ (acc := []) ⟨0, Nat.zero_le _, rfl, h⟩ ?_
  · rintro d l acc e ⟨i, hi, e1, hj⟩
    have hlt : i < ds.length := by
      apply Classical.byContradiction
      intro hn
      rw [List.drop_eq_nil_of_le (by omega)] at e1
      cases e1
    rw [List.drop_eq_getElem_cons hlt] at e1
    cases e1
    obtain ⟨e1, h1, h2⟩ := step i _ (List.getElem?_eq_getElem hlt) acc e hj
    refine ⟨e1, h1, h2.mono ?_⟩
    intro k e2 h3
    cases k with
    | true =>
      rw [if_pos rfl] at h3 ⊢
      exact h3.mono fun y e3 h4 => ⟨i + 1, hlt, rfl, h4⟩
    | false =>
      rw [if_neg (by simp)] at h3 ⊢
      exact ⟨i + 1, hlt, rfl, h3⟩
  · rintro ys e' ⟨i, hi, e1, hj⟩
    have : ds.length ≤ i := by
      have := congrArg List.length e1
      simp only [List.length_nil, List.length_drop] at this
      omega
    have : i = ds.length := by omega
    subst this
    exact q ys e' (by simpa using hj)
theorem map_get {α : Type} {f : α → PyData} {l : List α} {i : Nat} {d : PyData} (h : (l.map f)[i]? = some d) : ∃ x, l[i]? = some x ∧ d = f x := by
  rw [List.getElem?_map] at h
  obtain ⟨x, h1, h2⟩ := Option.map_eq_some_iff.mp h
  exact ⟨x, h1, h2.symm⟩
end DL

set_option maxHeartbeats 2000000
/-! DL27: (a, b) = e; e != {}; sorted(tuples of ints); chained comparisons. -/
namespace DL
open PySem PySem.Spec PyProof.Rows L2
def M.asgT (m : M PyData) (g : TG') : M Flw := M.bind m fun d env => match g d env with
  | some e => .ok .nx e
  | none => .no
section
variable {X : Cx} {W : WX} {B is : List Nat} {e tg a b c : Expr} {md ma mb mc : M PyData} {g : TG'} {pos pos' p2 : Pos}
theorem sd_asgT (he : ED X W B e md) (hg : GV X B is tg g) (hs : swapsWithSole [tg] e pos.line X.env = pure false := by rfl) (hw : swappedStores [tg] e X.env = pure none := by rfl)
    (h1 : (assignEach [tg] X.env).map (·.2) = [assign tg X.env] := by rfl) : SD X W B (.Assign [tg] e pos) (M.asgT md g) :=
  PS_mono (ps_asg he hg hs hw h1) fun D σ H ⟨bv, R, P, Fs, env, S, q⟩ => tD_bindS (Same.refl _) S q fun d e1 v P1 H1 F1 S1 s1 r1 h1 => by
    cases eg : g d e1 with
    | none => rw [eg] at h1; exact h1.elim
    | some e2 =>
      rw [eg] at h1
      exact ⟨bv, R, P1, F1, e1, d, e2, S1, r1, eg, fun σ' P' H' Fs' S' s' _ => h1 σ' P' H' Fs' S' (s1.trans s')⟩
/-! ### e != {} -/
/-! ### a < b < c -/
theorem tD_chain {r r' : R2} {f f' : PyData → PyData → Option PyData} {σ : L2.St} {H : Hp} {Q : VK} (hf : OpD X.K r f) (hf' : OpD X.K r' f') (h : tD X.K X.mg W B (M.chain f f' ma mb mc) σ H Q) : tChain r r' (tD X.K X.mg W B ma) (tD X.K X.mg W B mb) (tD X.K X.mg W B mc) σ H Q := by
  obtain ⟨bv, R, P, Fs, env, S, q⟩ := h
  refine tD_bind (Same.refl _) S q fun x e1 v P1 H1 F1 S1 s1 r1 h1 => tD_bind s1 S1 h1 fun y e2 u P2 H2 F2 S2 s2 r2 h2 => ?_
  cases ez : f x y with
  | none => rw [ez] at h2; exact h2.elim
  | some z =>
    rw [ez] at h2
    refine hf P2 H2 v u x y z _ S2.ph (r1.mono s2) r2 ez fun w P3 H3 x3 r3 => ?_
    have h3 : post ((match z with
      | .bool true => M.bind mc fun w => M.opt (f' y w)
      | .bool false => M.pure (.bool false)
      | _ => M.fail) e2) (OkD X.K X.mg B bv R P σ Q) (ExD X.K X.mg W B bv R P σ) := h2
    cases z with
    | bool k =>
      cases r3
      refine ⟨k, rfl, ?_⟩
      cases k with
      | false => exact h3 _ P3 H3 F2 (S2.ext x3) ((s1.trans s2).trans x3.pp) (.bl false)
      | true =>
        rw [if_pos rfl]
        refine tD_bind ((s1.trans s2).trans x3.pp) (S2.ext x3) h3 fun w e4 v4 P4 H4 F4 S4 s4 r4 h4 => ?_
        cases ez4 : f' y w with
        | none => rw [ez4] at h4; exact h4.elim
        | some z4 =>
          rw [ez4] at h4
          exact hf' P4 H4 u v4 y w z4 Q S4.ph (r2.mono (x3.pp.trans s4)) r4 ez4 fun u5 P5 H5 x5 r5 => h4 u5 P5 H5 F4 (S4.ext x5) (((s1.trans s2).trans x3.pp).trans (s4.trans x5.pp)) r5
    | _ => exact h3.elim
theorem ed_chain {op op' : CmpOp} {r r' : R2} {f f' : PyData → PyData → Option PyData} (ho : OpR X (compareOp op) r) (hf : OpD X.K r f) (ho' : OpR X (compareOp op') r') (hf' : OpD X.K r' f') (ha : ED X W B a ma) (hb : ED X W B b mb) (hc : ED X W B c mc)
    (hm : lastMarks [op, op'] [b, c] = false := by with_unfolding_all rfl) : ED X W B (.Compare a [op, op'] [b, c] pos) (M.chain f f' ma mb mc) :=
  PE_mono (pe_chain ho ho' ha hb hc hm) fun _ _ _ h => tD_chain hf hf' h
/-! ### sorted(a list of tuples of ints that stands in order already) -/
end
end DL

set_option maxHeartbeats 2000000
/-! DL28: sorted(..) of tuples of ints that stand in order already. -/
namespace DL
open PySem PySem.Spec PyProof.Rows L2
section
variable {X : Cx}
end
end DL

set_option maxHeartbeats 2000000
/-! DL29: {k: v for target in x.items() if ..}, x an own dict of frozen values that nobody reads behind. -/
namespace DL
open PySem PySem.Spec PyProof.Rows L2
/-- the values of a dict, each frozen -/
def pursO : List OD → Option (List PyData)
  | [] => some []
  | .pur d :: xs => (pursO xs).map (d :: ·)
  | _ => none
section
variable {K : PySem.W.Frag} {mg : Str → Option Value} {W : WX} {B vs : List Nat} {g : TG'} {mt : M Bool} {mk mv : M PyData} {σ : L2.St} {H : Hp} {Q : VK}
end
section
variable {X : Cx} {W : WX} {B : List Nat} {kx vx tg : Expr} {ifs : List Expr} {scope : Scope} {own : List (Str × Nat)} {pos py apos cpos : Pos} {g : TG'} {mt : M Bool} {mk mv : M PyData} {elts : List Expr} {kk : Nat} {tpos : Pos} {x : Str}
end
end DL

set_option maxHeartbeats 2000000
/-! DL30: rules for a mirror's run that several laws want. -/
namespace DL
open PySem PySem.Spec PyProof.Rows L2
theorem st_itemL {α : Type} {f : α → PyData} {l : List α} {k : Nat} {x : α} (h : l[k]? = some x) {Q : PyData → Prop} (q : Q (f x)) : Bd (itemD (.list (l.map f)) (.int (k : Int))) Q := by
  have hk := (List.getElem?_eq_some_iff.mp h).1
  rw [itemD_list (by omega) (by simp; omega)]
  exact ⟨_, by simp [h], q⟩
theorem st_ixLm {xs : List PyData} {d : Int} {Q : PyData → Prop} (h0 : 0 ≤ d) (h1 : d < xs.length) (q : ∀ z ∈ xs, Q z) : Bd (itemD (.list xs) (.int d)) Q := by
  rw [itemD_list h0 h1]
  have : d.toNat < xs.length := by omega
  simp only [List.getElem?_eq_getElem this]
  exact ⟨_, rfl, q _ (List.getElem_mem _)⟩
theorem lc_map {α : Type} {i : Nat} {el : M PyData} {f r : α → PyData} {env : DEnv} {Q : List PyData → DEnv → Prop} (hi : i < env.length) {l : List α}
    (h : ∀ a ∈ l, Hs (el (env.set i (some (.pur (f a))))) fun y e => y = r a ∧ wipeE [i] e = env) (q : Q (l.map r) env) : Hs (lcL (gNameD i) [i] (M.pure true) el (l.map f) env) Q := by
  refine hs_lcN (fun n acc e => acc = (l.take n).map r ∧ e = env) ?_ ⟨by simp, rfl⟩ ?_
  · rintro n d hd acc e ⟨rfl, rfl⟩
    obtain ⟨a, ha, rfl⟩ := map_get hd
    refine ⟨_, if_pos hi, ?_⟩
    refine Hs.mk ?_
    rw [if_pos rfl]
    refine (h a (List.mem_of_getElem? ha)).mono ?_
    rintro y e2 ⟨rfl, he⟩
    refine ⟨?_, he⟩
    rw [List.take_succ, ha]
    simp
  · rintro ys e' ⟨rfl, rfl⟩
    rw [List.length_map, List.take_length]
    exact q
/-- a comprehension that keeps some: what the test tells, what is told of it -/
theorem lc_fil {α : Type} {g : TG'} {vs : List Nat} {tt : M Bool} {el : M PyData} {f r : α → PyData} {t : α → Bool} {env : DEnv} {Q : List PyData → DEnv → Prop} {l : List α}
    (h : ∀ (n : Nat) (a : α), l[n]? = some a → ∃ e1, g (f a) env = some e1 ∧ Hs (tt e1) fun k e2 => k = t a ∧ (t a = true → Hs (el e2) fun y e3 => y = r a ∧ wipeE vs e3 = env) ∧ (t a = false → wipeE vs e2 = env)) (q : Q ((l.filter t).map r) env) : Hs (lcL g vs tt el (l.map f) env) Q := by
  refine hs_lcN (fun n acc e => acc = ((l.take n).filter t).map r ∧ e = env) ?_ ⟨by simp, rfl⟩ ?_
  · rintro n d hd acc e ⟨rfl, rfl⟩
    obtain ⟨a, ha, rfl⟩ := map_get hd
    obtain ⟨e1, h1, h2⟩ := h n a ha
    refine ⟨e1, h1, h2.mono ?_⟩
    rintro k e2 ⟨rfl, h3, h4⟩
    have ht : l.take (n + 1) = l.take n ++ [a] := by rw [List.take_succ, ha]; rfl
    cases hk : t a with
    | true =>
      rw [if_pos rfl]
      refine (h3 hk).mono ?_
      rintro y e3 ⟨rfl, he⟩
      exact ⟨by rw [ht]; simp [hk], he⟩
    | false =>
      rw [if_neg (by simp)]
      exact ⟨by rw [ht]; simp [hk], h4 hk⟩
  · rintro ys e' ⟨rfl, rfl⟩
    rw [List.length_map, List.take_length]
    exact q
end DL
namespace DL
open PySem PySem.Spec PyProof.Rows L2
end DL

set_option maxHeartbeats 2000000
/-! DL31: runs of dict comprehensions, of (a, b) = e. -/
namespace DL
open PySem PySem.Spec PyProof.Rows L2
theorem hs_asgT {m : M PyData} {g : TG'} {env : DEnv} {Q : Flw → DEnv → Prop} (h : Hs (m env) fun d e => ∃ e', g d e = some e' ∧ Q .nx e') : Hs (M.asgT m g env) Q := by
  unfold M.asgT
  rw [hs_bind]
  refine h.mono ?_
  rintro d e ⟨e', h1, h2⟩
  rw [h1]
  exact Hs.mk h2
end DL
namespace DL
open PySem PySem.Spec PyProof.Rows L2
end DL
namespace DL
open PySem PySem.Spec PyProof.Rows L2
end DL
namespace DL
open PySem PySem.Spec PyProof.Rows L2
end DL

set_option maxHeartbeats 2000000
/-! DL32: zip of two lists or two tuples; x[k] -= e; x *= e; the runs of a while. -/
namespace DL
open PySem PySem.Spec PyProof.Rows L2
/-! ### x[k] -= e -/
section
variable {X : Cx} {W : WX} {B : List Nat} {e k : Expr} {me mk : M PyData} {x : Str} {p pos pos' : Pos}
end
/-! ### runs -/
theorem hs_whileL {c : M Bool} {b : M Flw} {Q : Flw → DEnv → Prop} (J : Nat → DEnv → Prop) (step : ∀ m e, J m e → Hs (c e) fun k e2 => if k = true then 0 < m ∧ Hs (b e2) (LpQ (J (m - 1)) Q) else Q .nx e2) : ∀ {n m : Nat} {e : DEnv}, m < n → J m e → Hs (whileL c b n e) Q
  | 0, m, e, h, _ => absurd h (by omega)
  | n + 1, m, e, h, hj => by
    obtain ⟨k, e2, h1, h2⟩ := step m e hj
    simp only [whileL, h1]
    cases k with
    | false => rw [if_neg (by simp)] at h2; exact Hs.mk h2
    | true =>
      rw [if_pos rfl] at h2
      obtain ⟨hm, f, e3, h3, h4⟩ := h2
      simp only [h3]
      cases f with
      | nx => exact hs_whileL J step (m := m - 1) (by omega) h4
      | ct => exact hs_whileL J step (m := m - 1) (by omega) h4
      | bk => exact Hs.mk h4
      | rt x => exact Hs.mk h4
end DL
namespace DL
open PySem PySem.Spec PyProof.Rows L2
theorem hs_chain {f f' : PyData → PyData → Option PyData} {a b c : M PyData} {env : DEnv} {Q : PyData → DEnv → Prop} : Hs (M.chain f f' a b c env) Q = Hs (a env) fun x e => Hs (b e) fun y e => Bd (f x y) fun z => Bd (boolP z) fun t => Iff2 t (Hs (c e) fun w e => Bd (f' y w) fun r => Q r e) (Q (.bool false) e) := by
  unfold M.chain
  simp only [hs_bind, hs_opt]
  congr 1
  funext x e
  congr 1
  funext y e
  congr 1
  funext z
  cases z with
  | bool k => cases k <;> simp
  | _ => simp [boolP, M.fail]
end DL
namespace DL
open PySem PySem.Spec PyProof.Rows L2
theorem intsOf_map {α : Type} {f : α → Int} : ∀ {l : List α}, intsOf (l.map fun a => .int (f a)) = some (l.map f)
  | [] => rfl
  | a :: l => by simp [intsOf, intsOf_map (l := l)]
theorem st_sum {α : Type} {f : α → Int} {l : List α} {Q : PyData → Prop} (q : Q (.int (l.map f).sum)) : Bd (one sumD [.list (l.map fun a => .int (f a))]) Q := by
  refine ⟨_, ?_, q⟩
  simp only [one, sumD, intsOf_map, Option.map_some]
end DL
namespace DL
open PySem PySem.Spec PyProof.Rows L2
end DL

set_option maxHeartbeats 2000000
/-! DL33: x += e (names); [c] * n; list(x), x[a:b], x.pop(e) of own lists; min, max of one list; x != [] peeked; x.index(e). -/
namespace DL
open PySem PySem.Spec PyProof.Rows L2
/-! ### x += e -/
def M.augN (i : Nat) (f : PyData → PyData → Option PyData) (me : M PyData) : M Flw := fun env => match (env[i]?).join with
  | some (.pur a) => M.bind me (fun b env2 => match f a b with
    | some z => M.put i (.pur z) env2
    | none => .no) env
  | _ => .no
def addI := int2 (fun _ _ => true) fun i j => .int (i + j)
def subI := int2 (fun _ _ => true) fun i j => .int (i - j)
section
variable {X : Cx} {W : WX} {B : List Nat} {e : Expr} {me : M PyData} {f : PyData → PyData → Option PyData} {r : R2} {op : Operator} {x : Str} {p pos : Pos}
theorem opd_addI : OpD X.K (rI0 fun i j => .int (i + j)) addI := opd_int0 fun _ _ _ _ => .int _
theorem sd_augN (i : Nat) (hn : X.N.Nodup) (hB : i ∉ B) (ho : OpR X (inplaceOp op) r) (hf : OpD X.K r f) (he : ED X W B e me) (hN : X.N[i]? = some x := by rfl) (hx : Loc X.env.scope x := by first | exact Or.inl rfl | exact Or.inr rfl)
    (hfn : X.fn x = true ∨ X.env.scope.names.lookup x = some .local := by first | exact .inl rfl | exact .inr rfl | assumption) : SD X W B (.AugAssign (.Name x p) op e pos) (M.augN i f me) :=
  PS_mono (ps_aug hn hN hx he ho hfn) fun D σ H ⟨bv, R, P, Fs, env, S, q⟩ => by
    unfold M.augN at q
    split at q
    · rename_i a ha
      have ha := join_some ha
      obtain ⟨v, hv, ov⟩ := S.slot i _ ha
      have rv := ov.pur_inv
      refine ⟨v, hv, tD_bindS (Same.refl _) S q fun b e1 w P1 H1 F1 S1 s1 r1 h1 => ?_⟩
      split at h1
      · rename_i z hz
        refine hf P1 H1 v w a b z _ S1.ph (rv.mono s1) r1 hz fun u P2 H2 x2 ru => ?_
        unfold M.put at h1
        by_cases hl : i < e1.length
        · rw [if_pos hl] at h1
          exact h1 _ P2 H2 _ ((S1.ext x2).store (.pur ru) Free.nil hB hl) (s1.trans x2.pp)
        · rw [if_neg hl] at h1; exact h1.elim
      · exact h1.elim
    · exact q.elim
end
/-! ### [c] * n -/
def M.rep (ml : M (List PyData)) (mn : M PyData) : M OD := M.bind ml fun ds => if ds.length ≤ lim then M.bind mn fun k => match k with
  | .int n => if -(2 ^ 62) ≤ n ∧ n < 2 ^ 62 ∧ ds.length * n.toNat ≤ lim then M.pure (.lst ((List.replicate n.toNat ds).flatten.map .pur)) else M.fail
  | _ => M.fail
  else M.fail
theorem rpa_rep {K : PySem.W.Frag} {P : Hp} {vs : List V} {ds : List PyData} (t : RpA K P vs ds) : ∀ n : Nat, RpA K P (List.replicate n vs).flatten (List.replicate n ds).flatten
  | 0 => by simpa using RpA.nil
  | n + 1 => by
    rw [List.replicate_succ, List.replicate_succ, List.flatten_cons, List.flatten_cons]
    exact t.append (rpa_rep t n)
section
variable {X : Cx} {W : WX} {B : List Nat} {e : Expr} {es : List Expr} {ml : M (List PyData)} {mn : M PyData} {x : Str} {p pos lpos : Pos}
theorem eo_rep (ha : AD X W B es ml) (he : ED X W B e mn) : EO X W B (.BinOp (.List es lpos) .Mult e pos) (M.rep ml mn) :=
  PE_mono (pe_op op_rep (pe_lst ha) he) fun σ H Q ⟨bv, R, P, Fs, env, S, q⟩ => tL_bind (Same.refl _) S q fun ds e1 vs P1 H1 F1 S1 s1 r1 h1 => by
    have hlen := r1.length
    by_cases hl : ds.length ≤ lim
    · rw [if_pos hl] at h1
      refine ⟨by rw [lim_eq]; omega, fun p hp => ?_⟩
      have x0 := ext_new S1.ph (.lst vs) hp
      refine tD_bind (P := upd P1 p (.lst vs)) (P0 := P) (s1.trans x0.pp) (S1.ext x0) h1 fun k e2 v P2 H2 F2 S2 s2 r2 h2 => ?_
      cases k with
      | int n =>
        simp only at h2
        split at h2
        · rename_i hh
          cases r2
          have hP : P2 p = some (.lst vs) := s2 _ _ upd_same
          refine ⟨p, n, vs, rfl, rfl, S2.ph _ _ hP, by omega, by omega, by rw [lim_eq, hlen]; exact hh.2.2, fun p2 hp2 => ?_⟩
          have x2 := ext_heap S2.ph (.lst (List.replicate n.toNat vs).flatten) hp2
          exact h2 _ _ _ F2 [p2] (S2.ext x2) ((s1.trans x0.pp).trans (s2.trans x2.pp)) (.lst upd_same (owl_pur (rpa_rep (r1.mono (x0.pp.trans s2)) _))) (Free.one S2 hp2)
        · exact h2.elim
      | _ => exact h2.elim
    · rw [if_neg hl] at h1; exact h1.elim
end
/-! ### list(x), x[a:b] of an own list of frozen items -/
section
variable {X : Cx} {W : WX} {B : List Nat} {e : Expr} {ml mh : M (Option Int)} {x y : Str} {p pos lpos p2 : Pos} {lo hi : Option Expr}
end
/-! ### min, max of one list of ints -/
section
variable {X : Cx} {W : WX} {B : List Nat}
end
/-! ### x != [], x == [] on what is peeked -/
section
variable {X : Cx} {W : WX} {B : List Nat} {a : Expr} {ma : DEnv → Option PyData} {f : PyData → PyData → Option PyData} {r : R2} {op : CmpOp} {pos lp : Pos}
end
/-! ### x.pop(e) of an own list of frozen items -/
def popL (d : PyData) : OD → Option (OD × OD)
  | .lst xs => (match d with
    | .int k => if -(2 ^ 62) ≤ k ∧ k < 2 ^ 62 then (pursO xs).bind fun ds => (ixD ds.length k).bind fun j => (ds[j]?).map fun z => (.pur z, .lst ((ds.eraseIdx j).map .pur)) else none
    | _ => none)
  | _ => none
section
variable {X : Cx} {W : WX} {B : List Nat} {e : Expr} {me : M PyData} {x : Str} {p apos cpos : Pos}
end
/-! ### x.index(e): ints -/
def idxI (i : Int) : List Int → Nat → Option Nat
  | [], _ => none
  | a :: l, k => if a = i then some k else idxI i l (k + 1)
def indexD (c d : PyData) : Option PyData := match c, d with
  | .list ds, .int i => (intsOf ds).bind fun ns => (idxI i ns 0).map fun (j : Nat) => .int (j : Int)
  | _, _ => none
def isLstD : PyData → Bool
  | .list _ => true
  | _ => false
def M.index (a b : M PyData) : M PyData := M.bind a fun c => if isLstD c = true then M.bind b fun d => M.opt (indexD c d) else M.fail
section
variable {X : Cx} {W : WX} {B : List Nat} {a e : Expr} {ma me : M PyData} {apos cpos : Pos}
end
end DL

set_option maxHeartbeats 2000000
/-! DL34: running DL33's forms. -/
namespace DL
open PySem PySem.Spec PyProof.Rows L2
section
variable {env : DEnv}
theorem hs_rep {ml : M (List PyData)} {mn : M PyData} {Q : OD → DEnv → Prop} (h : Hs (ml env) fun ds e => ds.length ≤ lim ∧ Hs (mn e) fun k e2 => Bd (intP k) fun n => (-(2 ^ 62) ≤ n ∧ n < 2 ^ 62 ∧ ds.length * n.toNat ≤ lim) ∧ Q (.lst ((List.replicate n.toNat ds).flatten.map .pur)) e2) : Hs (M.rep ml mn env) Q := by
  unfold M.rep
  rw [hs_bind]
  refine h.mono ?_
  rintro ds e ⟨h1, k, e2, h2, n, h3, h4, h5⟩
  rw [if_pos h1, hs_bind]
  refine ⟨k, e2, h2, ?_⟩
  cases k with
  | int m =>
    cases h3
    simp only
    rw [if_pos h4]
    exact Hs.mk h5
  | _ => cases h3
theorem hs_augN {i : Nat} {f : PyData → PyData → Option PyData} {me : M PyData} {a : PyData} {Q : Flw → DEnv → Prop} (h : sl env i = some (.pur a)) (k : Hs (me env) fun b e2 => Bd (f a b) fun z => i < e2.length ∧ Q .nx (e2.set i (some (.pur z)))) : Hs (M.augN i f me env) Q := by
  have g : (env[i]?).join = some (.pur a) := h
  unfold M.augN
  rw [g]
  obtain ⟨b, e2, h1, z, h2, h3, h4⟩ := k
  unfold M.bind
  simp only [h1, h2]
  rw [hs_put]
  exact ⟨h3, h4⟩
end
/-! own lists of ints -/
theorem st_addI {a b : Int} {Q : PyData → Prop} (q : Q (.int (a + b))) : Bd (addI (.int a) (.int b)) Q := ⟨_, rfl, q⟩
theorem st_subI {a b : Int} {Q : PyData → Prop} (q : Q (.int (a - b))) : Bd (subI (.int a) (.int b)) Q := ⟨_, rfl, q⟩
theorem st_lenI {l : List Int} {Q : PyData → Prop} (q : Q (.int l.length)) : Bd (one lenD [.list (l.map .int)]) Q := by
  refine ⟨_, ?_, q⟩
  simp [one, lenD]
end DL

set_option maxHeartbeats 2000000
/-! DL35: zip of a list and a tuple, either way about (the kit's zip over any two iterators as a turn of the hand layer). -/
namespace DL
open PySem PySem.Spec PyProof.Rows L2
inductive Kd
  | l
  | t
def Kd.its (h : Heap) (a : Addr) (vs : Array Value) : Kd → Prop
  | .l => h.IsList a vs
  | .t => h.IsTuple a vs
def Kd.itr (h : Heap) (i a : Addr) (n : Nat) : Kd → Prop
  | .l => h.IsListIter i a n
  | .t => h.IsTupleIter i a n
def Kd.ob (a : Addr) : Kd → Obj
  | .l => { cls := .type "list_iterator", data := .fields #[.ref a, .int 0 0] }
  | .t => { cls := .type "tuple_iterator", data := .fields #[.ref a, .int 0 0] }
/-- the zip object z with its parts -/
def ZSt (k1 k2 : Kd) (z TI TO i1 i2 a b : Addr) (n : Nat) (h : Heap) : Prop := IsZip h z TI TO .none ∧ IsTupOf2 h TI (.ref i1) (.ref i2) ∧ (∃ u v, IsTupOf2 h TO u v) ∧ k1.itr h i1 a n ∧ k2.itr h i2 b n
theorem five {c z TI TO i1 i2 : Addr} (h : c ∈ [z, TI, TO, i1, i2]) : c = z ∨ c = TI ∨ c = TO ∨ c = i1 ∨ c = i2 := by simpa using h
end DL

set_option maxHeartbeats 2000000
/-! DL36: list(range(e)); small rules of running. -/
namespace DL
open PySem PySem.Spec PyProof.Rows L2
section
variable {X : Cx} {W : WX} {B : List Nat} {e : Expr} {mn : M PyData} {lpos rp rpos pos : Pos}
end
theorem st_iffF {k : Bool} {A B : Prop} (h : k = false) (q : B) : Iff2 k A B := by subst h; exact q
theorem st_iffT {k : Bool} {A B : Prop} (h : k = true) (q : A) : Iff2 k A B := by subst h; exact q
theorem st_frzX {env : DEnv} {i : Nat} {x : OD} {d : PyData} {Q : PyData → Prop} (h : sl env i = some x) (hx : x.data = some d) (q : Q d) : Bd ((sl env i).bind OD.data) Q := by
  rw [h]
  exact ⟨d, hx, q⟩
end DL

set_option maxHeartbeats 2000000
/-! DL37: a, *b = a tuple. -/
namespace DL
open PySem PySem.Spec PyProof.Rows L2
theorem unpack_starT {prog : Program} {w : World} {A : Around} {E : Value → Shared → Prop} {s : Shared} {l : Addr} {items : Array Value} {n i : Nat} {Q : List Value → Shared → Prop} (hl : IsTup s.heap l items) (hh : A.handled = none) (hi : i < n) (hn : n ≤ items.size + 1) (hz : items.size ≤ sizeLine)
    (h : ∀ (h₂ : Heap) (tk : Nat), (∀ b o, s.heap.get? b = some o → h₂.get? b = some o) → Q (items.toList.take i ++ [.ref h₂.objs.size] ++ (items.toList.drop i).drop (items.size + 1 - n)) { s with heap := h₂.push { cls := .type "list", data := .seq ((items.toList.drop i).take (items.size + 1 - n)).toArray }, toks := tk }) : wpAny (model prog w) A (unpackItems (.ref l) n (some i)) Q E s := by
  have hlt : l ≠ s.heap.objs.size := by obtain ⟨o, ho, _⟩ := hl; exact Nat.ne_of_lt (Heap.lt_size ho)
  have hll : l < s.heap.objs.size := by obtain ⟨o, ho, _⟩ := hl; exact Heap.lt_size ho
  unfold unpackItems
  refine wpAny_bind ?_
  unfold notIterableAtAll
  refine wpAny_bind (wpAny_specialOf hl.typeIs slot_tuple_iter.lookup ?_)
  refine wpAny_pure ?_
  simp only [Bool.false_eq_true, if_false]
  refine wpAny_bind (wpAny_holding (iter_tuple hl ?_))
  refine wpAny_bind (wpAny_holding (draw_tuple hlt i 0 _ _ ⟨_, Heap.get?_push_size _ rfl, rfl, rfl⟩ (hl.push _) (by omega) fun h₁ hit₁ hs₁ => ?_))
  have hl₁ : IsTup h₁ l items := (hl.push _).extBut hs₁.extBut hlt
  rw [Nat.zero_add] at hit₁
  have hit₁' := hit₁
  obtain ⟨oi, hoi, _⟩ := hit₁'
  have hl₁' := hl₁
  obtain ⟨ol, hol, _⟩ := hl₁'
  rw [List.drop_zero]
  have hfl : (items.toList.take i).length = i := by rw [List.length_take, Array.length_toList]; omega
  rw [if_neg (show ¬ ((items.toList.take i).length < i) by rw [hfl]; omega)]
  refine wpAny_bind (wpAny_holding (PySem.W.kun_collect (s := { s with heap := h₁ }) (T := "tuple_iterator") (.inr (.inr (.inr rfl))) (Walks.tuple (A := A.in1) hh s.heap.objs.size l hlt items) (fun j u st => st.1.typeIs) (k := i) (by omega) ⟨hit₁, hl₁⟩ (Heap.lt_size hoi) (Heap.lt_size hol) (fun h₂ tk hk => ?_) hz))
  have hrl : (items.toList.drop i).length = items.size - i := by rw [List.length_drop, Array.length_toList]
  have hmid : (items.toList.drop i).length - (n - 1 - i) = items.size + 1 - n := by rw [hrl]; omega
  show wpAny _ _ (if (items.toList.drop i).length < n - 1 - i then _ else _) _ _ _
  rw [if_neg (by rw [hrl]; omega)]
  show wpAny _ _ (newList ((items.toList.drop i).take ((items.toList.drop i).length - (n - 1 - i))) >>= fun d => pure (items.toList.take i ++ [d] ++ (items.toList.drop i).drop ((items.toList.drop i).length - (n - 1 - i)))) _ _ _
  rw [hmid]
  have he : ∀ b o, s.heap.get? b = some o → h₂.get? b = some o := fun b o e => by
    have hb : b ≠ s.heap.objs.size := Nat.ne_of_lt (Heap.lt_size e)
    exact hk b o hb (hs₁.extBut b o hb (Heap.get?_push_of_some _ e))
  exact wpAny_bind (wpAny_newList (wpAny_pure (h h₂ tk he)) (by rw [List.length_take, hrl]; omega))
/-- (a, *b) = a tuple -/
def gStar (K : PySem.W.Frag) (t : TGs) : TG := fun v σ H Q => ∃ a x xs, v = .ref a ∧ SqT K H a (x :: xs) ∧ ∀ D, H D = none → t [x, .ref D] σ (upd H D (.lst xs)) Q
section
variable {X : Cx} {B is : List Nat} {pos p2 : Pos} {e e1 e2 : Expr}
theorem pg_star {t : TGs} {k : Nat} (hc : X.calm = true) (h : PGs X [e1, e2] t) (ha : assignEach [e1, .Starred e2 p2] X.env = [(false, assign e1 X.env), (true, assign e2 X.env)] := by rfl) (hb : (assignEach [e1, e2] X.env).map (·.2) = [assign e1 X.env, assign e2 X.env] := by rfl) : PG X (.Tuple [e1, .Starred e2 p2] k pos) (gStar X.K t) := by
  refine ⟨fun pins s σ H v u Q I r hw => ?_⟩
  obtain ⟨a, x, xs, e1, hq, hw⟩ := hw
  subst e1
  cases r
  obtain ⟨its, rv, ht, hz⟩ := I.tuple hq
  have hlen := rv.length
  rw [PyProof.Rows.assign_Tuple]
  refine wpAny_bind (wpAny_standAt ?_)
  unfold unpack
  rw [ha]
  cases rv with
  | @cons _ u _ us r rr =>
  refine wpAny_bind (wpAny_holding (unpack_starT (i := 1) (n := 2) ht (I.ok.hd hc) (by omega) (by simp) (by simp at hlen hz ⊢; omega) fun h₂ tk hk => ?_))
  have em : (((u :: us).toArray.toList.drop 1).take ((u :: us).toArray.size + 1 - 2)) = us := by simp
  have el : (((u :: us).toArray.toList.drop 1).drop ((u :: us).toArray.size + 1 - 2)) = [] := by simp
  have ef : (u :: us).toArray.toList.take 1 = [u] := by simp
  have hz' : xs.length ≤ sizeLine := by simp at hz; omega
  have I1 : Inv X pins σ H { s with heap := h₂, toks := tk } := I.kept hk
  have hf : H h₂.objs.size = none := I1.hok.fresh (Nat.le_refl _)
  have I2 : Inv X pins σ (upd H h₂.objs.size (.lst xs)) { s with heap := h₂.push { cls := .type "list", data := .seq us.toArray }, toks := tk } := I1.laid (fun b u e => Heap.get?_push_of_some _ e) (Nat.le_refl _) ⟨hz', us, 0, rr, Heap.get?_push_size _ rfl⟩
  have := h.run pins _ σ _ _ [u, .ref h₂.objs.size] Q I2 (.cons r (.cons (show RelV (.ref h₂.objs.size) (.ref h₂.objs.size) from rfl) .nil)) (hw _ hf)
  rw [hb] at this
  rw [em, el, ef]
  exact this
def gStarE (g : TGs') : TG' := fun d env => match d with
  | .tuple (x :: xs) => g [x, .list xs] env
  | _ => none
theorem gv_star {gs : TGs'} {kk : Nat} (hc : X.calm = true) (h : GVs X B is [e1, e2] gs) (ha : assignEach [e1, .Starred e2 p2] X.env = [(false, assign e1 X.env), (true, assign e2 X.env)] := by rfl) (hb : (assignEach [e1, e2] X.env).map (·.2) = [assign e1 X.env, assign e2 X.env] := by rfl) : GV X B is (.Tuple [e1, .Starred e2 p2] kk pos) (gStarE gs) :=
  PG_mono (pg_star hc h ha hb) fun v σ H Q ⟨bv, R, P, Fs, env, d, e, S, r, q, k⟩ => by
    cases r with
    | tup h t =>
      simp only [gStarE] at q
      cases t with
      | nil => cases q
      | @cons x xs d ds hx t =>
        simp only at q
        refine ⟨_, _, _, rfl, seqT_mono S.ph h, fun D hD => ?_⟩
        have ex := ext_new S.ph (.lst xs) hD
        have S1 := S.ext ex
        exact ⟨bv, R, _, Fs, env, _, e, S1, .cons (hx.mono ex.pp) (.cons (.lst (.inl upd_same) (t.mono ex.pp)) .nil), q, fun σ' P' H' Fs' S' s' a => k σ' P' H' Fs' S' (ex.pp.trans s') a⟩
    | _ => cases q
end
end DL

set_option maxHeartbeats 2000000
/-! DL38: the keys of a frozen dict, walked (it is locked for as long). -/
namespace DL
open PySem PySem.Spec PyProof.Rows L2
/-- the same things read in another region -/
def IsM (u : HO) : Prop := (∃ xs, u = .lst xs) ∨ (∃ kvs, u = .dK kvs) ∨ ∃ kvs, u = .dT kvs
def RR (P P' : Hp) : Prop := (∀ b xs, P b = some (.tup xs) → P' b = some (.tup xs)) ∧ (∀ b u, IsM u → Rd P b u → Rd P' b u) ∧ (∀ b cls d, P b = some (ExcO cls d b) → P' b = some (ExcO cls d b)) ∧ ∀ b fs, P b = some (.xd fs) → P' b = some (.xd fs)
mutual
theorem Rp.relR {K : PySem.W.Frag} {P P' : Hp} (s : RR P P') : ∀ {v : V} {d : PyData}, Rp K P v d → Rp K P' v d
  | _, _, .non => .non
  | _, _, .bl b => .bl b
  | _, _, .int i => .int i
  | _, _, .str x => .str x
  | _, _, .lst h t => .lst (s.2.1 _ _ (.inl ⟨_, rfl⟩) h) (RpA.relR s t)
  | _, _, .tup h t => .tup (s.1 _ _ h) (RpA.relR s t)
  | _, _, .dK h hl t => .dK (s.2.1 _ _ (.inr (.inl ⟨_, rfl⟩)) h) hl (RpA.relR s t)
  | _, _, .dT h hl hne t => .dT (s.2.1 _ _ (.inr (.inr ⟨_, rfl⟩)) h) hl hne (RpA.relR s t)
theorem RpA.relR {K : PySem.W.Frag} {P P' : Hp} (s : RR P P') : ∀ {vs : List V} {ds : List PyData}, RpA K P vs ds → RpA K P' vs ds
  | _, _, .nil => .nil
  | _, _, .cons h t => .cons (Rp.relR s h) (RpA.relR s t)
end
mutual
theorem Ow.relR {K : PySem.W.Frag} {mg : Str → Option Value} {P P' H H' : Hp} (s : RR P P') : ∀ {F : List Addr} {v : V} {x : OD}, Ow K mg P H F v x → (∀ a ∈ F, ∀ o, H a = some o → H' a = some o) → Ow K mg P' H' F v x
  | _, _, _, .pur h, _ => .pur (h.relR s)
  | _, _, _, .lst h t, k => .lst (k _ (by simp) _ h) (OwL.relR s t fun a ha => k a (by simp [ha]))
  | _, _, _, .dK h hl t, k => .dK (k _ (by simp) _ h) hl (OwL.relR s t fun a ha => k a (by simp [ha]))
  | _, _, _, .dT h hl t, k => .dT (k _ (by simp) _ h) hl (OwL.relR s t fun a ha => k a (by simp [ha]))
  | _, _, _, .obj hc h hx hl t, k => .obj hc (k _ (by simp) _ h) (k _ (by simp) _ hx) hl (OwL.relR s t fun a ha => k a (by simp [ha]))
  | _, _, _, .exn hc h hf, _ => .exn hc (s.2.2.1 _ _ _ h) fun f e z => let ⟨dd, v, h1, h2, h3⟩ := hf f e z; ⟨dd, v, h1, s.2.2.2 _ _ h2, h3.relR s⟩
  | _, _, _, .ref, _ => .ref
theorem OwL.relR {K : PySem.W.Frag} {mg : Str → Option Value} {P P' H H' : Hp} (s : RR P P') : ∀ {F : List Addr} {vs : List V} {xs : List OD}, OwL K mg P H F vs xs → (∀ a ∈ F, ∀ o, H a = some o → H' a = some o) → OwL K mg P' H' F vs xs
  | _, _, _, .nil, _ => .nil
  | _, _, _, .cons h t, k => .cons (Ow.relR s h fun a ha => k a (by simp [ha])) (OwL.relR s t fun a ha => k a (by simp [ha]))
end
section
variable {K : PySem.W.Frag} {mg : Str → Option Value} {W : WX} {B : List Nat} {bv : Nat → V} {R P P0 H P' H' : Hp} {Fs Fs' : Nat → List Addr} {σ : L2.St} {env : DEnv}
end
def keysD : PyData → Option (List PyData)
  | .dict kvs => some (kvs.map Prod.fst)
  | _ => none
def noEx (m : M Flw) : M Flw := fun env => match m env with
  | .ex _ _ => .no
  | r => r
def M.forK (i : Nat) (g : TG') (b : M Flw) : M Flw := M.bind (M.rd i) fun d => match keysD d with
  | some ds => noEx (forL g b ds)
  | none => M.fail
def M.lcK (i : Nat) (g : TG') (vs : List Nat) (tt : M Bool) (el : M PyData) : M OD := M.bind (M.rd i) fun d => match keysD d with
  | some ds => fun env => match lcL g vs tt el ds (wipeE vs env) with
    | .ok ys e => if ys.length ≤ 16777216 then .ok (.lst (ys.map .pur)) (restE vs env e) else .no
    | _ => .no
  | none => M.fail
section
variable {K : PySem.W.Frag} {mg : Str → Option Value} {W : WX} {B : List Nat} {bv : Nat → V} {R P P0 H : Hp} {Fs : Nat → List Addr} {σ : L2.St} {env : DEnv}
end
section
variable {X : Cx} {W : WX} {B : List Nat} {x : Str} {p pos : Pos} {tg elt : Expr} {ifs : List Expr} {scope : Scope} {body : List Stmt} {g : TG'} {mb : M Flw} {mt : M Bool} {me : M PyData}
theorem pe_or {e : Expr} {t t' : TE} (h : PE X e t) (h' : PE X e t') : PE X e fun σ H Q => t σ H Q ∨ t' σ H Q := ⟨fun pins s σ H Q I q => q.elim (h.run pins s σ H Q I) (h'.run pins s σ H Q I)⟩
end
end DL

set_option maxHeartbeats 2000000
/-! DL39: d.get(k), d.get(k, x) of frozen dicts; running DL37's, DL38's forms. -/
namespace DL
open PySem PySem.Spec PyProof.Rows L2
section
variable {X : Cx} {o e f : Expr} {apos cpos : Pos} {td ty tx : TE}
end
def isDicD : PyData → Bool
  | .dict _ => true
  | _ => false
/-- what a dict holds at a key -/
def getO (c k : PyData) : Option (Option PyData) := match c with
  | .dict kvs => if isKey k && kvs.all fun p => flatKey p.1 == flatKey k then some (lookD kvs k) else none
  | _ => none
def M.get1 (mo me : M PyData) : M PyData := M.bind mo fun c => if isDicD c = true then M.bind me fun k => M.opt ((getO c k).map fun o => o.getD .none) else M.fail
def M.get2 (mo me mf : M PyData) : M PyData := M.bind mo fun c => if isDicD c = true then M.bind me fun k => M.bind mf fun z => M.opt ((getO c k).map fun o => o.getD z) else M.fail
section
variable {X : Cx} {W : WX} {B : List Nat} {o e f : Expr} {mo me mf : M PyData} {apos cpos : Pos}
end
/-! ### runs -/
section
variable {env : DEnv}
theorem hs_get1 {mo me : M PyData} {Q : PyData → DEnv → Prop} (h : Hs (mo env) fun c e => isDicD c = true ∧ Hs (me e) fun k e2 => ∃ o, getO c k = some o ∧ Q (o.getD .none) e2) : Hs (M.get1 mo me env) Q := by
  unfold M.get1
  rw [hs_bind]
  refine h.mono ?_
  rintro c e ⟨h1, h2⟩
  rw [if_pos h1, hs_bind]
  refine h2.mono ?_
  rintro k e2 ⟨o, h3, h4⟩
  rw [h3, hs_opt]
  exact ⟨_, rfl, h4⟩
theorem hs_get2 {mo me mf : M PyData} {Q : PyData → DEnv → Prop} (h : Hs (mo env) fun c e => isDicD c = true ∧ Hs (me e) fun k e2 => Hs (mf e2) fun z e3 => ∃ o, getO c k = some o ∧ Q (o.getD z) e3) : Hs (M.get2 mo me mf env) Q := by
  unfold M.get2
  rw [hs_bind]
  refine h.mono ?_
  rintro c e ⟨h1, h2⟩
  rw [if_pos h1, hs_bind]
  refine h2.mono fun k e2 h3 => ?_
  rw [hs_bind]
  refine h3.mono ?_
  rintro z e3 ⟨o, h3, h4⟩
  rw [h3, hs_opt]
  exact ⟨_, rfl, h4⟩
theorem hs_forK {i : Nat} {g : TG'} {b : M Flw} {Q : Flw → DEnv → Prop} (h : Hs (M.rd i env) fun d e => ∃ ds, keysD d = some ds ∧ Hs (forL g b ds e) Q) : Hs (M.forK i g b env) Q := by
  unfold M.forK
  rw [hs_bind]
  refine h.mono ?_
  rintro d e ⟨ds, h1, a, e', h2, h3⟩
  rw [h1]
  simp only [noEx, h2]
  exact Hs.mk h3
theorem hs_lcK {i : Nat} {g : TG'} {vs : List Nat} {tt : M Bool} {el : M PyData} {Q : OD → DEnv → Prop} (h : Hs (M.rd i env) fun d e => ∃ ds, keysD d = some ds ∧ Hs (lcL g vs tt el ds (wipeE vs e)) fun ys e' => ys.length ≤ 16777216 ∧ Q (.lst (ys.map .pur)) (restE vs e e')) : Hs (M.lcK i g vs tt el env) Q := by
  unfold M.lcK
  rw [hs_bind]
  refine h.mono ?_
  rintro d e ⟨ds, h1, a, e', h2, h3, h4⟩
  rw [h1]
  simp only [h2, if_pos h3]
  exact Hs.mk h4
end
end DL

set_option maxHeartbeats 2000000
/-! DL40: dicts by lists of keys and values: tuples for keys (dtO, dtD), ints and texts (dkO, dkD). -/
namespace DL
open PySem PySem.Spec PyProof.Rows L2
def dtO (L : List (List Key × PyData)) : OD := match L with
  | [] => .dK [] []
  | _ => .dT (L.map Prod.fst) (L.map fun p => .pur p.2)
def dtD (L : List (List Key × PyData)) : PyData := .dict (L.map fun p => (.tuple (p.1.map keyD), p.2))
def dkO (L : List (Key × PyData)) : OD := .dK (L.map Prod.fst) (L.map fun p => .pur p.2)
def dkD (L : List (Key × PyData)) : PyData := .dict (L.map fun p => (keyD p.1, p.2))
end DL

set_option maxHeartbeats 2000000
/-! DL41: small rules of running (from k24 on). -/
namespace DL
open PySem PySem.Spec PyProof.Rows L2
theorem hs_dq2 {f : PyData → PyData → Option PyData} {a : M PyData} {b : DEnv → Option PyData} {env : DEnv} {Q : PyData → DEnv → Prop} (h : Hs (a env) fun x e => ∃ y z, b e = some y ∧ f x y = some z ∧ scalD z = true ∧ Q z e) : Hs (M.dq2 f a b env) Q := by
  unfold M.dq2
  rw [hs_bind]
  refine h.mono ?_
  rintro x e ⟨y, z, h1, h2, h3, h4⟩
  unfold qfin
  rw [h1]
  simp only [Option.bind_some, h2, h3, if_true]
  exact Hs.mk h4
theorem st_perm {n : Nat} {pm : List Nat} {l r p : List AV} {Q : List AV → Prop} (h : permA n pm l r = some p) (q : Q p) : Bd (permA n pm l r) Q := Bd.some h q
end DL

set_option maxHeartbeats 2000000
/-! DL42: a == b, a != b of lists, told by their lengths where these are unlike. -/
namespace DL
open PySem PySem.Spec PyProof.Rows L2
def rNeLn : R2 := fun x y H Q => ∃ a b xs ys, x = .ref a ∧ y = .ref b ∧ Rd H a (.lst xs) ∧ Rd H b (.lst ys) ∧ xs.length ≠ ys.length ∧ Q (.bl true) H
section
variable {X : Cx}
theorem lst_is {P : Program} {w : World} {H : Hp} {h : Heap} {a : Addr} {xs : List V} (hk : ∀ a o, H a = some o → ObjOk P w H h a o) (r : Rd H a (.lst xs)) : ∃ its : List Value, its.length = xs.length ∧ h.IsList a its.toArray := by
  have ha' : ObjOk P w H h a (.lst xs) := by
    rcases r with ha | ⟨o, ha⟩
    · exact hk a _ ha
    · exact (show ObjOk P w H h a (.frz o (.lst xs)) from hk a _ ha).2
  obtain ⟨_, its, n, vs, e⟩ := ha'
  exact ⟨its, vs.length.symm, _, e, rfl, ⟨n, rfl⟩⟩
theorem op_neLn (hu : X.A.units < cLine) : OpR X (compareOp .NotEq) rNeLn := by
  rintro pins s σ H x y v u Q I rx ry ⟨a, b, xs, ys, rfl, rfl, ha, hb, hne, q⟩
  cases (show v = Value.ref a from rx)
  cases (show u = Value.ref b from ry)
  obtain ⟨i1, l1, e1⟩ := lst_is (fun a o h => I.hok a o h) ha
  obtain ⟨i2, l2, e2⟩ := lst_is (fun a o h => I.hok a o h) hb
  exact SeqAt.RcNeAt.lists_lengths e1 e2 (by simp; omega) hu _ _ _ _ ⟨.bl true, H, I, rfl, q⟩
def eqL (d e : PyData) : Option PyData := match d, e with
  | .list xs, .list ys => if xs.length ≠ ys.length then some (.bool false) else eqD d e
  | _, _ => eqD d e
def neL (d e : PyData) : Option PyData := match d, e with
  | .list xs, .list ys => if xs.length ≠ ys.length then some (.bool true) else neD d e
  | _, _ => neD d e
def rNeX (K : PySem.W.Frag) : R2 := fun x y H Q => rNeP K x y H Q ∨ rNeLn x y H Q
theorem op_neX (g : Gd X) (hu : X.A.units + 64 < cLine) : OpR X (compareOp .NotEq) (rNeX X.K) := OpR.or (op_neP g hu) (op_neLn (by omega))
theorem opd_neX : OpD X.K (rNeX X.K) neL := by
  intro P H v w d e z Q ph r1 r2 ez k
  have hgen : neD d e = some z → rNeX X.K v w H Q := fun ez => .inl (opd_ne P H v w d e z Q ph r1 r2 ez k)
  cases r1 with
  | lst h t =>
    cases r2 with
    | lst h2 t2 =>
      simp only [neL] at ez
      split at ez
      · rename_i hne
        cases ez
        refine .inr ⟨_, _, _, _, rfl, rfl, rd_mono ph h, rd_mono ph h2, by rw [t.length, t2.length]; exact hne, ?_⟩
        exact k _ P H (.refl ph) (.bl _)
      · exact hgen ez
    | _ => exact hgen ez
  | _ => exact hgen ez
variable {W : WX} {B : List Nat} {a b : Expr} {ma mb : M PyData} {pos : Pos}
theorem ed_neX (g : Gd X) (hu : X.A.units + 65 < cLine) (ha : ED X W B a ma) (hb : ED X W B b mb) : ED X W B (.Compare a [.NotEq] [b] pos) (M.op2 neL ma mb) := ed_cmp (op_neX g (by omega)) opd_neX ha hb
end
theorem st_eqLE {xs : List PyData} {Q : PyData → Prop} (q : Q (.bool xs.isEmpty)) : Bd (eqL (.list xs) (.list [])) Q := by
  refine ⟨_, ?_, q⟩
  cases xs with
  | nil => rfl
  | cons x xs =>
    show (if (x :: xs).length ≠ ([] : List PyData).length then some (PyData.bool false) else eqD (.list (x :: xs)) (.list [])) = some (.bool false)
    rw [if_pos (by simp)]
theorem st_neLE {xs : List PyData} {Q : PyData → Prop} (q : Q (.bool (!xs.isEmpty))) : Bd (neL (.list xs) (.list [])) Q := by
  refine ⟨_, ?_, q⟩
  cases xs with
  | nil => rfl
  | cons x xs =>
    show (if (x :: xs).length ≠ ([] : List PyData).length then some (PyData.bool true) else neD (.list (x :: xs)) (.list [])) = some (.bool true)
    rw [if_pos (by simp)]
end DL

set_option maxHeartbeats 2000000
/-! DL43: slot.clear() of a dict. -/
namespace DL
open PySem PySem.Spec PyProof.Rows L2
section
variable {X : Cx} {W : WX} {B : List Nat} {x : Str} {p apos cpos : Pos}
end
end DL

set_option maxHeartbeats 2000000
/-! DL44: a == b, a != b of dicts with ints and texts for keys. -/
namespace DL
open PySem PySem.Spec PyProof.Rows L2
section
variable {X : Cx}
variable {W : WX} {B : List Nat} {a b : Expr} {ma mb : M PyData} {pos : Pos}
end
end DL

set_option maxHeartbeats 2000000
/-! DL45: places within slots (fields of own instances, items of lists): paths, subtrees, hidden slots. -/
namespace DL
open PySem PySem.Spec PyProof.Rows L2
inductive Stp where
  | fld (c f : Str)
  | ix (k : Nat)
  | key (k : Key)
def posQ {κ : Type} [DecidableEq κ] (k : κ) : List κ → Option Nat
  | [] => none
  | a :: l => if a = k then some 0 else (posQ k l).map (· + 1)
theorem posQ_look {κ : Type} [DecidableEq κ] {k : κ} : ∀ {ks : List κ} {vs : List V} {n : Nat} {v : V}, posQ k ks = some n → vs[n]? = some v → valV (ks.zip vs) k = some v
  | [], _, _, _, h, _ => by cases h
  | a :: ks, [], n, v, _, h => by simp at h
  | a :: ks, w :: vs, n, v, h, hv => by
    simp only [posQ] at h
    by_cases e : a = k
    · rw [if_pos e] at h
      cases h
      simp at hv
      rw [List.zip_cons_cons, valV_pos (by exact e)]
      simp [hv]
    · rw [if_neg e] at h
      obtain ⟨m, hm, rfl⟩ := Option.map_eq_some_iff.mp h
      rw [List.zip_cons_cons, valV_neg (by exact e)]
      exact posQ_look hm (by simpa using hv)
def posN (f : Str) : List Str → Option Nat
  | [] => none
  | a :: l => if f = a then some 0 else (posN f l).map (· + 1)
def getP : List Stp → OD → Option OD
  | [], x => some x
  | .fld c f :: p, .obj c' ns xs => if c' = c then (posN f ns).bind fun n => (xs[n]?).bind (getP p) else none
  | .ix k :: p, .lst xs => (xs[k]?).bind (getP p)
  | .key k :: p, .dK ks xs => (posQ k ks).bind fun n => (xs[n]?).bind (getP p)
  | _, _ => none
def setP : List Stp → OD → OD → OD
  | [], _, y => y
  | .fld _ f :: p, .obj c' ns xs, y => match posN f ns with
    | some n => (match xs[n]? with
      | some z => .obj c' ns (xs.set n (setP p z y))
      | none => .obj c' ns xs)
    | none => .obj c' ns xs
  | .ix k :: p, .lst xs, y => (match xs[k]? with
    | some z => .lst (xs.set k (setP p z y))
    | none => .lst xs)
  | .key k :: p, .dK ks xs, y => (match posQ k ks with
    | some n => (match xs[n]? with
      | some z => .dK ks (xs.set n (setP p z y))
      | none => .dK ks xs)
    | none => .dK ks xs)
  | _, x, _ => x
/-- the value at a path -/
inductive PlV (mg : Str → Option Value) (H : Hp) : V → List Stp → V → Prop
  | nil {v : V} : PlV mg H v [] v
  | fld {a C dx : Addr} {fs : List (Str × V)} {c f : Str} {w u : V} {p : List Stp} (h : H a = some (.ins C dx fs)) (hc : mg c = some (.ref C)) (l : fs.lookup f = some w) (t : PlV mg H w p u) : PlV mg H (.ref a) (.fld c f :: p) u
  | ix {a : Addr} {vs : List V} {k : Nat} {w u : V} {p : List Stp} (h : H a = some (.lst vs)) (l : vs[k]? = some w) (t : PlV mg H w p u) : PlV mg H (.ref a) (.ix k :: p) u
  | key {a : Addr} {kvs : List (Key × V)} {k : Key} {w u : V} {p : List Stp} (h : H a = some (.dK kvs)) (l : valV kvs k = some w) (t : PlV mg H w p u) : PlV mg H (.ref a) (.key k :: p) u
theorem PlV.det {mg : Str → Option Value} {H : Hp} {v : V} {p : List Stp} {u u' : V} (h : PlV mg H v p u) : PlV mg H v p u' → u = u' := by
  induction h with
  | nil => intro h'; cases h'; rfl
  | fld h hc l t ih =>
    intro h'
    cases h' with
    | fld h2 hc2 l2 t2 =>
      rw [h] at h2
      cases h2
      rw [l] at l2
      cases l2
      exact ih t2
  | ix h l t ih =>
    intro h'
    cases h' with
    | ix h2 l2 t2 =>
      rw [h] at h2
      cases h2
      rw [l] at l2
      cases l2
      exact ih t2
  | key h l t ih =>
    intro h'
    cases h' with
    | key h2 l2 t2 =>
      rw [h] at h2
      cases h2
      rw [l] at l2
      cases l2
      exact ih t2
theorem PlV.app {mg : Str → Option Value} {H : Hp} {v u w : V} {p q : List Stp} (h : PlV mg H v p u) (h' : PlV mg H u q w) : PlV mg H v (p ++ q) w := by
  induction h with
  | nil => exact h'
  | fld h hc l t ih => exact .fld h hc l (ih h')
  | ix h l t ih => exact .ix h l (ih h')
  | key h l t ih => exact .key h l (ih h')
theorem pos_look {f : Str} : ∀ {ns : List Str} {vs : List V} {n : Nat} {v : V}, posN f ns = some n → vs[n]? = some v → (ns.zip vs).lookup f = some v
  | [], _, _, _, h, _ => by cases h
  | a :: ns, [], n, v, _, h => by simp at h
  | a :: ns, w :: vs, n, v, h, hv => by
    simp only [posN] at h
    rw [List.zip_cons_cons, List.lookup_cons]
    split at h
    · rename_i e
      cases h
      subst e
      simp at hv
      simp [hv]
    · rename_i e
      obtain ⟨m, hm, rfl⟩ := Option.map_eq_some_iff.mp h
      have : (f == a) = false := by simpa using e
      rw [this]
      exact pos_look hm (by simpa using hv)
section
variable {K : PySem.W.Frag} {mg : Str → Option Value} {P H : Hp}
theorem OwL.atp : ∀ {n : Nat} {F : List Addr} {vs : List V} {xs : List OD} {x : OD}, OwL K mg P H F vs xs → xs[n]? = some x → ∃ pre post G u, F = pre ++ (G ++ post) ∧ vs[n]? = some u ∧ Ow K mg P H G u x ∧
    ∀ {P' H' : Hp} {G' : List Addr} {x' : OD}, Same P P' → (∀ b, b ∈ pre ∨ b ∈ post → ∀ o, H b = some o → H' b = some o) → Ow K mg P' H' G' u x' → OwL K mg P' H' (pre ++ (G' ++ post)) vs (xs.set n x')
  | 0, _, _, _, x, @OwL.cons _ _ _ _ F1 G1 v vs y xs h t, e => by
    cases e
    refine ⟨[], G1, F1, v, rfl, rfl, h, fun {P2 H2 G2 x2} s k o => ?_⟩
    have := OwL.cons o (t.keep s fun a ha => k a (.inr ha))
    simpa using this
  | n + 1, _, _, _, x, @OwL.cons _ _ _ _ F1 G1 v vs y xs h t, e => by
    obtain ⟨pre, post, G, u, rfl, h2, h3, h4⟩ := OwL.atp (n := n) t (by simpa using e)
    refine ⟨F1 ++ pre, post, G, u, by simp, by simpa using h2, h3, fun s k o => ?_⟩
    rw [List.append_assoc, List.set_cons_succ]
    exact .cons (h.keep s fun a ha => k a (.inl (by simp [ha]))) (h4 s (fun b hb => k b (hb.elim (fun z => .inl (by simp [z])) .inr)) o)
theorem Ow.sub : ∀ {p : List Stp} {F : List Addr} {v : V} {x y : OD}, Ow K mg P H F v x → getP p x = some y → ∃ pre post G u, F = pre ++ (G ++ post) ∧ Ow K mg P H G u y ∧ (∀ H2 : Hp, (∀ b ∈ pre, ∀ o, H b = some o → H2 b = some o) → PlV mg H2 v p u) ∧
    ∀ {P' H' : Hp} {G' : List Addr} {y' : OD}, Same P P' → (∀ b, b ∈ pre ∨ b ∈ post → ∀ o, H b = some o → H' b = some o) → Ow K mg P' H' G' u y' → Ow K mg P' H' (pre ++ (G' ++ post)) v (setP p x y')
  | [], F, v, x, y, o, e => by
    cases e
    exact ⟨[], [], F, v, by simp, o, fun _ _ => .nil, fun s k o => by simpa [setP] using o⟩
  | .fld c f :: p, _, _, x, y, o, e => by
    cases o with
    | @obj c' C a dx F0 ns vs xs hc h hx hl t =>
      simp only [getP] at e
      split at e
      · rename_i ec
        subst ec
        obtain ⟨n, hn, e⟩ := Option.bind_eq_some_iff.mp e
        obtain ⟨z, hz, e⟩ := Option.bind_eq_some_iff.mp e
        obtain ⟨pre, post, G, u, rfl, h2, h3, h4⟩ := OwL.atp t hz
        obtain ⟨pre', post', G', w, rfl, k2, k3, k4⟩ := Ow.sub h3 e
        refine ⟨a :: dx :: (pre ++ pre'), post' ++ post, G', w, by simp, k2, fun H2 kk => .fld (kk a (by simp) _ h) hc (pos_look hn h2) (k3 H2 fun b hb => kk b (by simp [hb])), fun s k o => ?_⟩
        have e1 : setP (.fld c' f :: p) (.obj c' ns xs) = fun y' => .obj c' ns (xs.set n (setP p z y')) := funext fun y' => by simp only [setP, hn, hz]
        rw [e1]
        have r := h4 s (fun b hb => k b (hb.elim (fun q => .inl (by simp [q])) fun q => .inr (by simp [q]))) (k4 s (fun b hb => k b (hb.elim (fun q => .inl (by simp [q])) fun q => .inr (by simp [q]))) o)
        have := Ow.obj hc (k a (.inl (by simp)) _ h) (k dx (.inl (by simp)) _ hx) hl r
        simpa using this
      · cases e
    | _ => cases e
  | .ix k :: p, _, _, x, y, o, e => by
    cases o with
    | @lst a F0 vs xs h t =>
      simp only [getP] at e
      obtain ⟨z, hz, e⟩ := Option.bind_eq_some_iff.mp e
      obtain ⟨pre, post, G, u, rfl, h2, h3, h4⟩ := OwL.atp t hz
      obtain ⟨pre', post', G', w, rfl, k2, k3, k4⟩ := Ow.sub h3 e
      refine ⟨a :: (pre ++ pre'), post' ++ post, G', w, by simp, k2, fun H2 kk => .ix (kk a (by simp) _ h) h2 (k3 H2 fun b hb => kk b (by simp [hb])), fun s kk o => ?_⟩
      have e1 : setP (.ix k :: p) (.lst xs) = fun y' => .lst (xs.set k (setP p z y')) := funext fun y' => by simp only [setP, hz]
      rw [e1]
      have r := h4 s (fun b hb => kk b (hb.elim (fun q => .inl (by simp [q])) fun q => .inr (by simp [q]))) (k4 s (fun b hb => kk b (hb.elim (fun q => .inl (by simp [q])) fun q => .inr (by simp [q]))) o)
      have := Ow.lst (kk a (.inl (by simp)) _ h) r
      simpa using this
    | _ => cases e
  | .key k :: p, _, _, x, y, o, e => by
    cases o with
    | @dK a F0 ks vs xs h hl t =>
      simp only [getP] at e
      obtain ⟨n, hn, e⟩ := Option.bind_eq_some_iff.mp e
      obtain ⟨z, hz, e⟩ := Option.bind_eq_some_iff.mp e
      obtain ⟨pre, post, G, u, rfl, h2, h3, h4⟩ := OwL.atp t hz
      obtain ⟨pre', post', G', w, rfl, k2, k3, k4⟩ := Ow.sub h3 e
      refine ⟨a :: (pre ++ pre'), post' ++ post, G', w, by simp, k2, fun H2 kk => .key (kk a (by simp) _ h) (posQ_look hn h2) (k3 H2 fun b hb => kk b (by simp [hb])), fun s kk o => ?_⟩
      have e1 : setP (.key k :: p) (.dK ks xs) = fun y' => .dK ks (xs.set n (setP p z y')) := funext fun y' => by simp only [setP, hn, hz]
      rw [e1]
      have r := h4 s (fun b hb => kk b (hb.elim (fun q => .inl (by simp [q])) fun q => .inr (by simp [q]))) (k4 s (fun b hb => kk b (hb.elim (fun q => .inl (by simp [q])) fun q => .inr (by simp [q]))) o)
      have := Ow.dK (kk a (.inl (by simp)) _ h) hl r
      simpa using this
    | _ => cases e
end
/-! ### a slot is hidden for a while -/
section
variable {K : PySem.W.Frag} {mg : Str → Option Value} {B : List Nat} {bv : Nat → V} {R P H P' H' H0 : Hp} {Fs Fs' : Nat → List Addr} {σ : L2.St} {env env' : DEnv} {i : Nat} {x : OD} {T F : List Addr}
/-- what was hidden is as it was -/
theorem Sta.back_at (S : Sta K mg B bv R P H Fs σ env) (i : Nat) (S' : Sta K mg B bv (joinR R H (Fs i)) P' H' Fs' σ env') : (∀ a ∈ Fs i, ∀ o, H a = some o → H' a = some o) ∧ (∀ a ∈ Fs i, P' a = none) ∧ ∀ a ∈ Fs i, ∀ j, a ∉ Fs' j := by
  have key : ∀ a ∈ Fs i, joinR R H (Fs i) a ≠ none := fun a h => by
    obtain ⟨o, e⟩ := S.there h
    rw [joinR_in h, e]
    simp
  refine ⟨fun a h o e => S'.rh a o (by rw [joinR_in h]; exact e) (S.nota (S.fr i a h)), fun a h => S'.rp a (key a h), fun a h j hj => key a h (S'.fr j a hj)⟩
end
end DL

set_option maxHeartbeats 2000000
/-! DL46: a place as a state of its own (focus). -/
namespace DL
open PySem PySem.Spec PyProof.Rows L2
section
variable {K : PySem.W.Frag} {mg : Str → Option Value} {B : List Nat} {bv : Nat → V} {R P H P' H' : Hp} {Fs Fs' : Nat → List Addr} {σ : L2.St} {env : DEnv} {i : Nat} {x y : OD} {p : List Stp}
abbrev b0 : Nat → V := fun _ => .non
theorem Sta.focus (S : Sta K mg B bv R P H Fs σ env) (hx : env[i]? = some (some x)) (hy : getP p x = some y) : ∃ (v u : V) (G : List Addr) (Rv : Hp), σ[i]? = some (some v) ∧ PlV mg H v p u ∧ Same R Rv ∧
    Sta K mg [] b0 Rv P H (fun j => if j = 0 then G else []) [some u] [some y] ∧
    ∀ {y' : OD} {P' H' : Hp} {Fs' : Nat → List Addr}, Same P P' → Sta K mg [] b0 Rv P' H' Fs' [some u] [some y'] → ∃ Fs2, Sta K mg B bv R P' H' Fs2 σ (env.set i (some (setP p x y'))) ∧ ∀ a, Rv a = none → (∀ j, a ∉ Fs' j) → ∀ j, a ∉ Fs2 j := by
  obtain ⟨v, hv, ox⟩ := S.slot i x hx
  obtain ⟨pre, post, G, u, hF, oy, pl, rb⟩ := ox.sub hy
  have hil := (List.getElem?_eq_some_iff.mp hx).1
  have ndi := S.nd i
  rw [hF] at ndi
  obtain ⟨n1, n2, n3⟩ := List.nodup_append.mp ndi
  obtain ⟨n4, n5, n6⟩ := List.nodup_append.mp n2
  have hpre : ∀ a ∈ pre, a ∈ Fs i := fun a h => by rw [hF]; exact List.mem_append_left _ h
  have hpost : ∀ a ∈ post, a ∈ Fs i := fun a h => by rw [hF]; exact List.mem_append_right _ (List.mem_append_right _ h)
  have hG : ∀ a ∈ G, a ∈ Fs i := fun a h => by rw [hF]; exact List.mem_append_right _ (List.mem_append_left _ h)
  generalize hFo : (fun j => if j = i then pre ++ post else Fs j) = Fo
  have foi : ∀ {a j}, a ∈ Fo j → a ∈ Fs j := fun {a j} h => by
    rw [← hFo] at h
    by_cases hj : j = i
    · simp only [hj, if_true] at h
      rw [hj]
      exact (List.mem_append.mp h).elim (hpre a) (hpost a)
    · simpa only [hj, if_false] using h
  have fo1 : ∀ {a}, a ∈ pre → a ∈ Fo i := fun {a} h => by rw [← hFo]; simp [h]
  have fo2 : ∀ {a}, a ∈ post → a ∈ Fo i := fun {a} h => by rw [← hFo]; simp [h]
  have fo3 : ∀ {a j}, j ≠ i → a ∈ Fs j → a ∈ Fo j := fun {a j} hj h => by rw [← hFo]; simp only [hj, if_false]; exact h
  have gno : ∀ a ∈ G, ¬ ∃ j, a ∈ Fo j := fun a h => by
    rintro ⟨j, hj⟩
    by_cases e : j = i
    · rw [← hFo] at hj
      simp only [e, if_true] at hj
      rcases List.mem_append.mp hj with z | z
      · exact n3 a z a (List.mem_append_left _ h) rfl
      · exact n6 a h a z rfl
    · exact S.dj i j a (Ne.symm e) (hG a h) (foi hj)
  have rvs : ∀ {a j}, a ∈ Fo j → ∃ o, H a = some o ∧ allR R H Fo a = some o := fun {a j} h => by
    obtain ⟨o, e⟩ := S.there (foi h)
    exact ⟨o, e, by rw [allR_in ⟨j, h⟩]; exact e⟩
  have same : Same R (allR R H Fo) := fun a o e => by
    rw [allR_out fun ⟨j, h⟩ => by rw [S.fr j a (foi h)] at e; cases e]
    exact e
  refine ⟨v, u, G, allR R H Fo, hv, pl H (fun _ _ _ e => e), same, ?_, ?_⟩
  · exact
    { rh := fun a o e n => by
        by_cases q : ∃ j, a ∈ Fo j
        · rw [allR_in q] at e; exact e
        · rw [allR_out q] at e; exact S.rh _ _ e n
      tb := fun p hp => ⟨(S.tb p hp).1, by rw [allR_out fun ⟨j, h⟩ => (S.tb p hp).2 (S.fr j _ (foi h))]; exact (S.tb p hp).2⟩
      ph := S.ph
      rp := fun a e => by
        by_cases q : ∃ j, a ∈ Fo j
        · obtain ⟨j, q⟩ := q; exact S.fp j a (foi q)
        · rw [allR_out q] at e; exact S.rp a e
      slot := fun j z e => by
        cases j with
        | zero => cases e; exact ⟨u, rfl, oy⟩
        | succ j => simp at e
      dead := fun j h => by
        cases j with
        | zero => exact absurd rfl (h y)
        | succ j => simp
      nd := fun j => by
        cases j with
        | zero => exact n4
        | succ j => simp
      dj := fun j k a hjk h => by
        cases j with
        | zero => cases k with
          | zero => exact absurd rfl hjk
          | succ k => simp
        | succ j => simp at h
      fr := fun j a h => by
        cases j with
        | zero => rw [allR_out (gno a (by simpa using h))]; exact S.fr i a (hG a (by simpa using h))
        | succ j => simp at h
      fp := fun j a h => by
        cases j with
        | zero => exact S.fp i a (hG a (by simpa using h))
        | succ j => simp at h
      len := rfl
      pin := fun j hj => by cases hj
      nt := fun a xs e => by
        by_cases q : ∃ j, a ∈ Fo j
        · rw [allR_in q] at e; obtain ⟨j, q⟩ := q; exact S.notup (foi q) xs e
        · rw [allR_out q] at e; exact S.nt a xs e }
  · intro y' P' H' Fs' pp Sv
    obtain ⟨u', h1, oy'⟩ := Sv.slot 0 y' rfl
    cases h1
    have keep : ∀ {a j}, a ∈ Fo j → ∀ o, H a = some o → H' a = some o := fun {a j} h o e => Sv.rh a o (by rw [allR_in ⟨j, h⟩]; exact e) (S.nota (S.fr j a (foi h)))
    have whole := rb pp (fun b hb => hb.elim (fun z => keep (fo1 z)) fun z => keep (fo2 z)) oy'
    have nz : ∀ {a}, R a ≠ none → allR R H Fo a ≠ none := fun {a} h => by
      cases q : R a with
      | none => exact absurd q h
      | some o => rw [same _ _ q]; simp
    have no0 : ∀ {a j}, a ∈ Fo j → allR R H Fo a ≠ none := fun {a j} h => by
      obtain ⟨o, _, e⟩ := rvs h
      rw [e]; simp
    have ap0 : ∀ {a k j}, a ∈ Fs' k → a ∉ Fo j := fun {a k j} h z => no0 z (Sv.fr k a h)
    refine ⟨fun j => if j = i then pre ++ (Fs' 0 ++ post) else Fs j, ?_, ?_⟩
    · exact
      { rh := Same.transX same Sv.rh
        tb := fun p hp => ⟨(Sv.tb p hp).1, (S.tb p hp).2⟩
        ph := Sv.ph
        rp := fun a h => Sv.rp a (nz h)
        slot := fun j z e => by
          by_cases hj : j = i
          · subst hj
            rw [List.getElem?_set_self hil] at e
            cases e
            exact ⟨v, hv, by simpa using whole⟩
          · rw [List.getElem?_set_ne (Ne.symm hj)] at e
            simp only [hj, if_false]
            obtain ⟨w, w1, w2⟩ := S.slot j z e
            exact ⟨w, w1, w2.keep pp fun a ha o eo => keep (fo3 hj ha) o eo⟩
        dead := fun j h => by
          by_cases hj : j = i
          · subst hj
            exact absurd (List.getElem?_set_self hil) (h _)
          · simp only [hj, if_false]
            refine S.dead j fun z e => h z ?_
            rw [List.getElem?_set_ne (Ne.symm hj)]
            exact e
        nd := fun j => by
          by_cases hj : j = i
          · simp only [hj, if_true]
            refine List.nodup_append.mpr ⟨n1, List.nodup_append.mpr ⟨Sv.nd 0, n5, fun a ha b hb e => ?_⟩, fun a ha b hb e => ?_⟩
            · subst e; exact ap0 ha (fo2 hb)
            · subst e
              rcases List.mem_append.mp hb with z | z
              · exact ap0 z (fo1 ha)
              · exact n3 a ha a (List.mem_append_right _ z) rfl
          · simp only [hj, if_false]; exact S.nd j
        dj := fun j k a hjk h => by
          have cross : ∀ {k}, k ≠ i → a ∈ pre ++ (Fs' 0 ++ post) → a ∉ Fs k := fun {k} hk h z => by
            rcases List.mem_append.mp h with h | h
            · exact S.dj i k a (Ne.symm hk) (hpre a h) z
            · rcases List.mem_append.mp h with h | h
              · exact ap0 h (fo3 hk z)
              · exact S.dj i k a (Ne.symm hk) (hpost a h) z
          by_cases hj : j = i
          · simp only [hj, if_true] at h
            by_cases hk : k = i
            · exact absurd (hj.trans hk.symm) hjk
            · simp only [hk, if_false]; exact cross hk h
          · simp only [hj, if_false] at h
            by_cases hk : k = i
            · simp only [hk, if_true]; exact fun z => cross hj z h
            · simp only [hk, if_false]; exact S.dj j k a hjk h
        fr := fun j a h => by
          by_cases hj : j = i
          · simp only [hj, if_true] at h
            rcases List.mem_append.mp h with h | h
            · exact S.fr i a (hpre a h)
            · rcases List.mem_append.mp h with h | h
              · exact same.free (Sv.fr 0 a h)
              · exact S.fr i a (hpost a h)
          · simp only [hj, if_false] at h; exact S.fr j a h
        fp := fun j a h => by
          by_cases hj : j = i
          · simp only [hj, if_true] at h
            rcases List.mem_append.mp h with h | h
            · exact Sv.rp a (no0 (fo1 h))
            · rcases List.mem_append.mp h with h | h
              · exact Sv.fp 0 a h
              · exact Sv.rp a (no0 (fo2 h))
          · simp only [hj, if_false] at h; exact Sv.rp a (no0 (fo3 hj h))
        len := by rw [List.length_set]; exact S.len
        pin := S.pin
        nt := S.nt }
    · intro a ha hno j hj
      by_cases e : j = i
      · simp only [e, if_true] at hj
        rcases List.mem_append.mp hj with h | h
        · exact no0 (fo1 h) ha
        · rcases List.mem_append.mp h with h | h
          · exact hno 0 h
          · exact no0 (fo2 h) ha
      · simp only [e, if_false] at hj; exact no0 (fo3 e hj) ha
end
end DL

set_option maxHeartbeats 2000000
/-! DL47: places as expressions; what is read of them; d.get at a place; place[k] = v. -/
namespace DL
open PySem PySem.Spec PyProof.Rows L2
def placeO (i : Nat) (pp : DEnv → Option (List Stp)) : DEnv → Option OD := fun env => ((env[i]?).join).bind fun x => (pp env).bind fun p => getP p x
section
variable {X : Cx} {W : WX} {B : List Nat} {i : Nat} {pp : DEnv → Option (List Stp)} {e a b : Expr} {pos : Pos}
end
/-! ### m, the slot i being hidden -/
section
variable {K : PySem.W.Frag} {mg : Str → Option Value} {B : List Nat} {bv : Nat → V} {R P H P' H' : Hp} {Fs Fs' : Nat → List Addr} {σ : L2.St} {env env' : DEnv} {i : Nat} {x y : OD} {p : List Stp}
/-- the value at a place stays while the slot is hidden, and what it is -/
theorem Sta.stays (S : Sta K mg B bv R P H Fs σ env) (hx : env[i]? = some (some x)) (hy : getP p x = some y) {v u : V} (hv : σ[i]? = some (some v)) (pl : PlV mg H v p u) (pp : Same P P') (S' : Sta K mg B bv (joinR R H (Fs i)) P' H' Fs' σ env') :
    PlV mg H' v p u ∧ ∃ G, Ow K mg P' H' G u y := by
  obtain ⟨k1, k2, k3⟩ := S.back_at i S'
  obtain ⟨v', hv', ox⟩ := S.slot i x hx
  rw [hv] at hv'
  cases hv'
  obtain ⟨pre, post, G, u', hF, oy, pk, _⟩ := ox.sub hy
  have e := (pk H fun _ _ _ e => e).det pl
  subst e
  exact ⟨pk H' fun b hb => k1 b (by rw [hF]; exact List.mem_append_left _ hb), G, oy.keep pp fun b hb => k1 b (by rw [hF]; exact List.mem_append_right _ (List.mem_append_left _ hb))⟩
end
section
variable {X : Cx} {W : WX} {B : List Nat} {i : Nat} {pp : DEnv → Option (List Stp)} {o e f : Expr} {mk mz : M PyData} {apos cpos : Pos}
end
/-! ### place[k] = v, v frozen -/
section
variable {X : Cx} {W : WX} {B : List Nat} {i : Nat} {pp : DEnv → Option (List Stp)} {o e k : Expr} {mo : M OD} {mk : M PyData} {pos pos' : Pos}
end
end DL

set_option maxHeartbeats 2000000
/-! DL48: methods of own instances at places; new instances; displays of owned things. -/
namespace DL
open PySem PySem.Spec PyProof.Rows L2
section
variable {K : PySem.W.Frag} {mg : Str → Option Value} {W : WX} {B : List Nat} {bv : Nat → V} {R P P0 H P' H' Rv : Hp} {Fs Fs' : Nat → List Addr} {σ : L2.St} {env : DEnv} {i n : Nat} {x y y' : OD} {p : List Stp} {u v : V} {vs : List V} {ds : List PyData} {G : List Addr} {f : M OD} {Q : VK}
theorem rpa_at : ∀ {vs : List V} {ds : List PyData} {j : Nat} {d : PyData}, RpA K P vs ds → ds[j]? = some d → ∃ w, vs[j]? = some w ∧ Rp K P w d
  | _, _, 0, d, .cons h t, e => by cases e; exact ⟨_, rfl, h⟩
  | _, _, j + 1, d, .cons h t, e => by simpa using rpa_at (j := j) t (by simpa using e)
  | _, _, j, d, .nil, e => by simp at e
theorem pure_at (r : RpA K P vs ds) {j : Nat} {z : OD} (e : (ds.map fun d => some (OD.pur d))[j]? = some (some z)) : ∃ w, (vs.map some)[j]? = some (some w) ∧ Ow K mg P H [] w z := by
  rw [List.getElem?_map] at e
  obtain ⟨d, h1, h2⟩ := Option.map_eq_some_iff.mp e
  cases h2
  obtain ⟨w, h3, h4⟩ := rpa_at r h1
  exact ⟨w, by rw [List.getElem?_map, h3]; rfl, .pur h4⟩
theorem Sta.args (S : Sta K mg [] b0 Rv P H (fun j => if j = 0 then G else []) [some u] [some y]) (r : RpA K P vs ds) : Sta K mg [0] (fun _ => u) Rv P H (fun j => if j = 0 then G else []) ((u :: vs).map some) (some y :: ds.map fun d => some (.pur d)) where
  rh := S.rh
  tb := S.tb
  ph := S.ph
  rp := S.rp
  slot := fun j z e => by
    cases j with
    | zero =>
      cases e
      obtain ⟨w, h1, h2⟩ := S.slot 0 y rfl
      cases h1
      exact ⟨u, rfl, h2⟩
    | succ j =>
      obtain ⟨w, h1, h2⟩ := pure_at (mg := mg) (H := H) r (j := j) (z := z) (by simpa using e)
      exact ⟨w, by simpa using h1, by simpa using h2⟩
  dead := fun j h => by
    cases j with
    | zero => exact absurd rfl (h y)
    | succ j => simp
  nd := S.nd
  dj := S.dj
  fr := S.fr
  fp := S.fp
  len := by simp [r.length]
  pin := fun j hj => by
    rw [List.mem_singleton.mp hj]
    rfl
  nt := S.nt
theorem Sta.first {rest : DEnv} (S : Sta K mg [0] (fun _ => u) Rv P' H' Fs' ((u :: vs).map some) (some y' :: rest)) : Sta K mg [] b0 Rv P' H' (fun j => if j = 0 then Fs' 0 else []) [some u] [some y'] where
  rh := S.rh
  tb := S.tb
  ph := S.ph
  rp := S.rp
  slot := fun j z e => by
    cases j with
    | zero =>
      cases e
      obtain ⟨w, h1, h2⟩ := S.slot 0 y' rfl
      cases h1
      exact ⟨u, rfl, h2⟩
    | succ j => simp at e
  dead := fun j h => by
    cases j with
    | zero => exact absurd rfl (h y')
    | succ j => simp
  nd := fun j => by
    cases j with
    | zero => exact S.nd 0
    | succ j => simp
  dj := fun j k a hjk h => by
    cases j with
    | zero => cases k with
      | zero => exact absurd rfl hjk
      | succ k => simp
    | succ j => simp at h
  fr := fun j a h => by
    cases j with
    | zero => exact S.fr 0 a (by simpa using h)
    | succ j => simp at h
  fp := fun j a h => by
    cases j with
    | zero => exact S.fp 0 a (by simpa using h)
    | succ j => simp at h
  len := rfl
  pin := fun j hj => by cases hj
  nt := S.nt
end
/-! ### methods -/
structure MethK (P : Program) (w : World) (K : PySem.W.Frag) (mg : Str → Option Value) (base : Heap) (k : Nat) (c mn : Str) (ps : List Str) (m : M OD) (kb : List (List Str × Nat × List Nat)) : Prop where
  ex : ∃ C f fd, mg c = some (.ref C) ∧ Cls K C ∧ Meth K C mn f ∧ FnG P w K mg base k f fd ps [0] m ∧ Binds K fd ps [] ∧ ∀ q ∈ kb, KB K fd ps q.1 q.2.1 q.2.2
section
variable {X : Cx} {W : WX} {B : List Nat} {j k i : Nat} {c mn : Str} {ps : List Str} {m : M OD} {ml : M (List PyData)} {pp : DEnv → Option (List Stp)} {o e : Expr} {es : List Expr} {kws : List Keyword} {apos pos : Pos} {kb : List (List Str × Nat × List Nat)}
/-! keywords, each frozen -/
end
section
variable {X : Cx} {W : WX} {B : List Nat} {j k i : Nat} {c mn : Str} {ps : List Str} {m : M OD} {ml : M (List PyData)} {pp : DEnv → Option (List Stp)} {o e : Expr} {es : List Expr} {kws : List Keyword} {apos pos : Pos} {kb : List (List Str × Nat × List Nat)}
end
end DL

set_option maxHeartbeats 2000000
/-! DL49: displays of owned things; slot.f = e; new instances; methods of temporaries. -/
namespace DL
open PySem PySem.Spec PyProof.Rows L2
/-! ### [e, ..] of owned things -/
section
variable {K : PySem.W.Frag} {mg : Str → Option Value} {W : WX} {B : List Nat} {bv : Nat → V} {R P P0 H P' H' : Hp} {Fs : Nat → List Addr} {σ : L2.St} {env : DEnv}
end
section
variable {X : Cx} {W : WX} {B : List Nat} {es : List Expr} {ml : M (List AV)} {pos : Pos}
end
/-! ### slot.f = e -/
section
variable {X : Cx} {W : WX} {B : List Nat} {e : Expr} {mo : M OD} {x : Str} {px pos pos' : Pos}
end
end DL

set_option maxHeartbeats 2000000
/-! DL50: new instances; methods of temporaries. -/
namespace DL
open PySem PySem.Spec PyProof.Rows L2
structure MkK (P : Program) (w : World) (K : PySem.W.Frag) (mg : Str → Option Value) (base : Heap) (k : Nat) (c : Str) (ps : List Str) (m : M OD) : Prop where
  ex : ∃ C f fd, mg c = some (.ref C) ∧ Mk K C f ∧ FnG P w K mg base k f fd ps [0] m ∧ Binds K fd ps []
section
variable {K : PySem.W.Frag} {mg : Str → Option Value} {W : WX} {B : List Nat} {bv : Nat → V} {R P P0 H : Hp} {Fs : Nat → List Addr} {σ : L2.St} {env : DEnv} {c : Str} {C x dx : Addr} {f : M OD} {ds : List PyData} {vs : List V} {Q : VK} {n : Nat}
end
section
variable {X : Cx} {W : WX} {B : List Nat} {j k : Nat} {c x : Str} {ps : List Str} {m : M OD} {ml : M (List PyData)} {p pos apos : Pos} {e o : Expr} {es : List Expr}
end
end DL

set_option maxHeartbeats 2000000
/-! DL51: facts about classes. -/
namespace DL
open PySem PySem.Spec PyProof.Rows L2
section
variable {fa : List He.Fa} {fn : List He.DefD} {tb : Tbs} {K : PySem.W.Frag} {mg : Str → Option Value} {base : Heap}
theorem Cm.cls (C : Cm fa fn tb K mg base) (i : Nat) {x : Str} (h : fa[i]? = some (.cls x) := by rfl) : Cls K (He.ga K x) := He.cls_ok (C.says.fact i h)
theorem Cm.meth (C : Cm fa fn tb K mg base) (i : Nat) {x m : Str} (h : fa[i]? = some (.meth x m) := by rfl) : Meth K (He.ga K x) m (He.ma K (He.ga K x) m) := He.meth_ok (C.says.fact i h)
/-- what the rules of fields want -/
theorem Cm.fld (C : Cm fa fn tb K mg base) (ig ic ia : Nat) {x f : Str} (h1 : fa[ig]? = some (.glo x) := by rfl) (h2 : fa[ic]? = some (.cls x) := by rfl) (h3 : fa[ia]? = some (.noat x f) := by rfl) : ∀ A, mg x = some (.ref A) → Cls K A ∧ NoAttr K A f := fun A h => by
  have e := (C.glo ig h1).symm.trans h
  cases e
  exact ⟨C.cls ic h2, He.noat_ok (C.says.fact ia h3)⟩
end
end DL

set_option maxHeartbeats 2000000
/-! DL52: a, b = x, y. -/
namespace DL
open PySem PySem.Spec PyProof.Rows L2
def M.par (i j : Nat) (l : M (List PyData)) : M Flw := M.bind l fun ds env => match ds with
  | [d1, d2] => if i < env.length ∧ j < env.length then .ok .nx ((env.set i (some (.pur d1))).set j (some (.pur d2))) else .no
  | _ => .no
section
variable {X : Cx} {W : WX} {B : List Nat} {a b : Expr} {ml : M (List PyData)} {x y : Str} {px py pt pos : Pos} {kt k2 : Nat} {pt2 : Pos}
end
end DL

set_option maxHeartbeats 2000000
/-! DL53: runs of places, methods, new instances. -/
namespace DL
open PySem PySem.Spec PyProof.Rows L2
section
variable {env : DEnv} {i : Nat} {x y : OD} {p : List Stp} {pp : DEnv → Option (List Stp)} {c mn : Str} {f : M OD}
end
end DL

set_option maxHeartbeats 2000000
/-! DL54: x == () of tuples; bools among ints; str(bool); join, upper. -/
namespace DL
open PySem PySem.Spec PyProof.Rows L2
/-! ### x == () -/
section
variable {X : Cx} {W : WX} {B : List Nat} {a b o e : Expr} {ma mb mo me : M PyData} {pos apos : Pos}
/-! ### bools among ints -/
def rBI (g : Int → Int → Int) : R2 := fun x y H Q => ∃ k i, x = .bl k ∧ y = .int i ∧ Q (.int (g (b2i k) i)) H
def rIB (g : Int → Int → Int) : R2 := fun x y H Q => ∃ i k, x = .int i ∧ y = .bl k ∧ Q (.int (g i (b2i k))) H
theorem op_addBI : OpR X (binaryOp .Add) (rBI (· + ·)) := by
  intro pins s σ H x y v u Q I rx ry h
  obtain ⟨k, i, rfl, rfl, q⟩ := h
  cases rx
  obtain ⟨t, rfl⟩ := ry
  exact PySem.IntBool.add_bool_int ⟨.int (b2i k + i), H, I.tok _, ⟨_, rfl⟩, q⟩
theorem op_subIB : OpR X (binaryOp .Sub) (rIB (· - ·)) := by
  intro pins s σ H x y v u Q I rx ry h
  obtain ⟨i, k, rfl, rfl, q⟩ := h
  obtain ⟨t, rfl⟩ := rx
  cases ry
  exact PySem.IntBool.sub_int_bool ⟨.int (i - b2i k), H, I.tok _, ⟨_, rfl⟩, q⟩
def addB (d e : PyData) : Option PyData := match d, e with
  | .bool k, .int i => some (.int (b2i k + i))
  | _, _ => addD d e
def subB (d e : PyData) : Option PyData := match d, e with
  | .int i, .bool k => some (.int (i - b2i k))
  | _, _ => subD d e
theorem ed_addB (ha : ED X W B a ma) (hb : ED X W B b mb) : ED X W B (.BinOp a .Add b pos) (M.op2 addB ma mb) := ed_op (OpR.or op_add4 op_addBI) (by
  intro P H v w d e z Q ph r1 r2 ez k
  cases r1 with
  | bl c =>
    cases r2 with
    | int i =>
      simp only [addB, Option.some.injEq] at ez
      subst ez
      exact .inr ⟨c, i, rfl, rfl, k _ P H (.refl ph) (.int _)⟩
    | _ => cases ez
  | int _ => exact .inl (opd_add P H _ _ _ _ z Q ph (.int _) r2 ez k)
  | str _ => exact .inl (opd_add P H _ _ _ _ z Q ph (.str _) r2 ez k)
  | lst h t => exact .inl (opd_add P H _ _ _ _ z Q ph (.lst h t) r2 ez k)
  | tup h t => exact .inl (opd_add P H _ _ _ _ z Q ph (.tup h t) r2 ez k)
  | _ => cases ez) ha hb
theorem ed_subB (ha : ED X W B a ma) (hb : ED X W B b mb) : ED X W B (.BinOp a .Sub b pos) (M.op2 subB ma mb) := ed_op (OpR.or op_sub op_subIB) (by
  intro P H v w d e z Q ph r1 r2 ez k
  cases r1 with
  | int i =>
    cases r2 with
    | bl c =>
      simp only [subB, Option.some.injEq] at ez
      subst ez
      exact .inr ⟨i, c, rfl, rfl, k _ P H (.refl ph) (.int _)⟩
    | int j => exact .inl (opd_int0 (fun _ _ _ _ => .int _) P H _ _ _ _ z Q ph (.int _) (.int _) ez k)
    | _ => cases ez
  | _ => cases ez) ha hb
/-! ### str(bool) -/
theorem call_str_bool : CallR X (.type "str") (fun xs H Q => ∃ k : Bool, xs = [.bl k] ∧ Q (.str (if k then "True" else "False")) H) := by
  intro pins s σ H xs us Q I r h
  obtain ⟨k, rfl, q⟩ := h
  obtain ⟨u, rfl, r1⟩ := vals1 r
  cases r1
  exact PySem.P.str_of_bool ⟨.str _, H, I.tok _, ⟨_, rfl⟩, q⟩
def strB : PyData → Option PyData
  | .bool k => some (.str (if k then "True" else "False"))
  | d => strD d
theorem cd_strB : CallD X.K (fun xs H Q => (∃ i, xs = [.int i] ∧ i.natAbs.log2 < 1920 ∧ Q (.str (toString i)) H) ∨ ∃ k : Bool, xs = [.bl k] ∧ Q (.str (if k then "True" else "False")) H) (one strB) := calld1 fun P H v d z Q ph r1 ez k => by
  cases r1 with
  | bl c =>
    simp only [strB, Option.some.injEq] at ez
    subst ez
    exact .inr ⟨c, rfl, k _ P H (.refl ph) (.str _)⟩
  | int i =>
    simp only [strB, strD] at ez
    split at ez
    · cases ez; exact .inl ⟨i, rfl, by assumption, k _ P H (.refl ph) (.str _)⟩
    · cases ez
  | _ => cases ez
theorem call_strIB : CallR X (.type "str") (fun xs H Q => (∃ i, xs = [.int i] ∧ i.natAbs.log2 < 1920 ∧ Q (.str (toString i)) H) ∨ ∃ k : Bool, xs = [.bl k] ∧ Q (.str (if k then "True" else "False")) H) := CallR.or call_str_int call_str_bool
/-! ### join, upper -/
def strsD : List PyData → Option (List Str)
  | [] => some []
  | .str x :: l => (strsD l).map (x :: ·)
  | _ :: _ => none
def joinD (d c : PyData) : Option PyData := match d, c with
  | .str a, .list ds => (strsD ds).bind fun ys => if (ys.map (·.length)).sum + ys.length * a.length ≤ lim then some (.str (Txt.join a ys)) else none
  | _, _ => none
def isStr : PyData → Bool
  | .str _ => true
  | _ => false
def M.join (mo me : M PyData) : M PyData := M.bind mo fun d => if isStr d = true then M.bind me fun c => M.opt (joinD d c) else M.fail
theorem strs_rel {K : PySem.W.Frag} {P : Hp} : ∀ {ds : List PyData} {vs : List V} {ys : List Str}, strsD ds = some ys → RpA K P vs ds → vs = ys.map V.str
  | [], _, _, e, .nil => by cases e; rfl
  | .str x :: l, _, _, e, .cons h t => by
    simp only [strsD] at e
    obtain ⟨ys, h1, rfl⟩ := Option.map_eq_some_iff.mp e
    cases h
    rw [List.map_cons, strs_rel h1 t]
theorem ed_join (ho : ED X W B o mo) (he : ED X W B e me) (hs : starEach [e] X.env = [(false, eval e X.env)] := by rfl) (hbase : attributeBase o "join" X.env (eval o X.env) = eval o X.env := by rfl) (hline : (apos.endLine == pos.line) = true := by rfl) :
    ED X W B (.Call (.Attribute o "join" apos) [e] [] pos) (M.join mo me) :=
  PE_mono (pe_join ho he hs hbase hline) fun σ H Q ⟨bv, R, P, Fs, env, S, q⟩ => tD_bind (Same.refl _) S q fun d e1 v P1 H1 F1 S1 s1 r1 q1 => by
    cases d with
    | str x =>
      cases r1
      rw [if_pos (show isStr (.str x) = true from rfl)] at q1
      refine ⟨⟨x, rfl⟩, tD_bind s1 S1 q1 fun c e2 w P2 H2 F2 S2 s2 r2 q2 => ?_⟩
      cases hj : joinD (.str x) c with
      | none => rw [hj] at q2; exact q2.elim
      | some z =>
        rw [hj] at q2
        cases c with
        | list ds =>
          simp only [joinD] at hj
          obtain ⟨ys, h1, h2⟩ := Option.bind_eq_some_iff.mp hj
          split at h2
          · rename_i hl
            cases h2
            cases r2 with
            | lst h t =>
              rw [strs_rel h1 t] at h
              exact ⟨x, _, ys, rfl, rfl, .inl (.inl (rd_mono S2.ph h)), hl, q2 _ P2 H2 F2 S2 (s1.trans s2) (.str _)⟩
          · cases h2
        | _ => cases hj
    | _ => exact q1.elim
end
/-! ### slot.pop() -/
section
variable {X : Cx} {W : WX} {B : List Nat} {x : Str} {p apos cpos : Pos}
end
end DL

set_option maxHeartbeats 2000000
/-! DL55: t[::-1] of tuples; x in a tuple of the module, as a value. -/
namespace DL
open PySem PySem.Spec PyProof.Rows L2 HT
section
variable {prog : Program} {w : World} {A : Around} {E : Value → Shared → Prop} {s : Shared}
end
/-! ### t[::-1] -/
section
variable {X : Cx}
end
section
variable {X : Cx} {W : WX} {B : List Nat} {e : Expr} {md : M PyData} {pos : Pos}
end
end DL

set_option maxHeartbeats 2000000
/-! DL56: a + b of lists, a new list. -/
namespace DL
open PySem PySem.Spec PyProof.Rows L2
section
variable {X : Cx} {W : WX} {B : List Nat} {a b : Expr} {ma mb : M PyData} {pos : Pos}
end
end DL

set_option maxHeartbeats 2000000
/-! DL57: sets of tuples whose items are keys of a kind (texts, say): what a set holds, one search, one addition. -/
namespace DL
open PySem PySem.Spec PyProof.Rows L2
section
variable {prog : Program} {w : World} {K : Type} [DecidableEq K]
/-- the kind's values are asked nothing of their class, and are told quietly whether a hash is by value -/
structure Meek (knd : KeyKind prog w K) : Prop where
  cls : ∀ (k : K) (v : Value) (n : Nat), knd.is k v = true → ofAClassStatement n v = pure false
  val : ∀ (k : K) (v : Value) (n : Nat), knd.is k v = true → ∃ b, hashByValue n v = pure b
abbrev Row (K : Type) : Type := Addr × List K
def rowH (knd : KeyKind prog w K) (r : Row K) : Int := tupleKeyHash knd r.2
def rowE (knd : KeyKind prog w K) (r : Row K) : Int × Value := (rowH knd r, .ref r.1)
abbrev Tup (knd : KeyKind prog w K) (h : Heap) (r : Row K) : Prop := IsTupleKey knd h r.2 r.1
theorem Tup.grow {knd : KeyKind prog w K} {h h' : Heap} {r : Row K} (x : Tup knd h r) (k : ∀ o, h.get? r.1 = some o → h'.get? r.1 = some o) : Tup knd h' r := by
  obtain ⟨o, its, n, e, q⟩ := x
  exact ⟨o, its, n, k o e, q⟩
/-- the set at S holds the rows L -/
structure Hol (knd : KeyKind prog w K) (h : Heap) (S : Addr) (L : List (Row K)) (es : Array (Int × Value)) (ep : Nat) (t : SetTable) : Prop where
  obj : ∃ o, h.get? S = some o ∧ o.ExactSet ∧ o.data = .set es ep t
  ent : es.toList = L.map (rowE knd)
  tab : TabOk t (L.map (rowH knd))
  nd : (L.map Prod.snd).Nodup
  led : w.params.followText "set-order" = true ∨ t.led = true
  room : L.length * 5 < t.mask * 3
  few : L.length < 64
section
variable {knd : KeyKind prog w K} {A : Around} {E : Value → Shared → Prop} {s : Shared} {S : Addr} {L : List (Row K)} {es : Array (Int × Value)} {ep : Nat} {t : SetTable}
theorem Hol.at {h : Heap} (T : Hol knd h S L es ep t) {i : Nat} {r : Row K} (e : L[i]? = some r) : es[i]? = some (rowE knd r) := by
  have q : es.toList[i]? = (L.map (rowE knd))[i]? := by rw [T.ent]
  rw [Array.getElem?_toList, List.getElem?_map, e] at q
  exact q
end
end
end DL

set_option maxHeartbeats 2000000
/-! DL58: one search in a set of tuples. -/
namespace DL
open PySem PySem.Spec PyProof.Rows L2
section
variable {prog : Program} {w : World} {K : Type} [DecidableEq K] {knd : KeyKind prog w K} {A : Around} {E : Value → Shared → Prop} {s : Shared} {S : Addr} {L : List (Row K)} {es : Array (Int × Value)} {ep : Nat} {t : SetTable}
theorem Hol.row {h : Heap} (T : Hol knd h S L es ep t) {i j : Nat} (e : t.place.toList[i]? = some j) : ∃ r, L[i]? = some r := by
  have h1 := (List.getElem?_eq_some_iff.mp e).1
  have h2 := T.tab.sz
  rw [Array.length_toList] at h1
  rw [List.length_map] at h2
  exact ⟨_, List.getElem?_eq_getElem (by omega)⟩
end
end DL

set_option maxHeartbeats 2000000
/-! DL59: a tuple added to a set of tuples; the table laid anew. -/
namespace DL
open PySem PySem.Spec PyProof.Rows L2
section
variable {prog : Program} {w : World} {K : Type} [DecidableEq K] {knd : KeyKind prog w K} {A : Around} {E : Value → Shared → Prop} {s : Shared} {S : Addr} {L : List (Row K)} {es : Array (Int × Value)} {ep : Nat} {t : SetTable}
theorem Tup.other {h h' : Heap} {r : Row K} {o : Obj} (x : Tup knd h r) (ho : h.get? S = some o) (hd : o.data = .set es ep t) (sb : Heap.SameBut S h h') : Tup knd h' r := by
  refine x.grow fun o' e => ?_
  obtain ⟨o2, its, n, e2, _, d2, _⟩ := x
  refine (sb.2 r.1 fun z => ?_).trans e
  rw [z, ho] at e2
  cases e2
  rw [hd] at d2
  cases d2
end
end DL

set_option maxHeartbeats 2000000
/-! DL60: set(list of tuples); sorted(that set). -/
namespace DL
open PySem PySem.Spec PyProof.Rows L2
section
variable {prog : Program} {w : World} {K : Type} [DecidableEq K] {knd : KeyKind prog w K} {A : Around} {E : Value → Shared → Prop} {s : Shared} {S : Addr} {L : List (Row K)} {es : Array (Int × Value)} {ep : Nat} {t : SetTable}
/-- L: the first i rows, each key once -/
structure Kept (rows : List (Row K)) (i : Nat) (L : List (Row K)) : Prop where
  from_ : ∀ r ∈ L, r ∈ rows.take i
  all : ∀ r ∈ rows.take i, r.2 ∈ L.map Prod.snd
  few : L.length ≤ i
theorem Kept.next {rows L L' : List (Row K)} {i : Nat} {x : Row K} (g : Kept rows i L) (e : rows[i]? = some x) (c : x.2 ∈ L.map Prod.snd ∧ L' = L ∨ x.2 ∉ L.map Prod.snd ∧ L'.Perm (x :: L)) : Kept rows (i + 1) L' := by
  have tk : rows.take (i + 1) = rows.take i ++ [x] := by rw [List.take_add_one, e]; rfl
  rcases c with ⟨c, rfl⟩ | ⟨_, p⟩
  · refine ⟨fun r hr => ?_, fun r hr => ?_, Nat.le_succ_of_le g.few⟩ <;> rw [tk] at *
    · exact List.mem_append_left _ (g.from_ r hr)
    · rcases List.mem_append.mp hr with hr | hr
      · exact g.all r hr
      · rw [List.mem_singleton.mp hr]; exact c
  · refine ⟨fun r hr => ?_, fun r hr => ?_, ?_⟩
    · rw [tk]
      rcases List.mem_cons.mp (p.mem_iff.mp hr) with rfl | hr
      · simp
      · exact List.mem_append_left _ (g.from_ r hr)
    · rw [tk] at hr
      rw [(p.map Prod.snd).mem_iff, List.map_cons, List.mem_cons]
      rcases List.mem_append.mp hr with hr | hr
      · exact .inr (g.all r hr)
      · rw [List.mem_singleton.mp hr]; exact .inl rfl
    · have := p.length_eq
      have := g.few
      simp only [List.length_cons] at *
      omega
end
end DL

set_option maxHeartbeats 3200000
/-! DL61: set(a list of tuples), called. -/
namespace DL
open PySem PySem.Spec PyProof.Rows L2
section
variable {prog : Program} {w : World} {K : Type} [DecidableEq K] {knd : KeyKind prog w K} {A : Around} {E : Value → Shared → Prop} {s : Shared}
end
end DL

set_option maxHeartbeats 2000000
/-! DL62: sorted(a set of tuples of texts). -/
namespace DL
open PySem PySem.Spec PyProof.Rows L2 PySem.W
/-- what a row reads as -/
def rowD (r : Row Str) : PyData := .tuple (r.2.map .str)
section
variable {prog : Program} {w : World} {A : Around} {E : Value → Shared → Prop} {s : Shared} {S : Addr} {L : List (Row Str)} {es : Array (Int × Value)} {ep : Nat} {t : SetTable}
theorem items_read {h : Heap} : ∀ {ks : List Str} {vs : List Value}, ItemsAre (PySem.strKind prog w) ks vs → ReadsAll h vs (ks.map PyData.str) []
  | _, _, .nil => .nil
  | _, _, .cons (k := k) (v := v) h1 t => by
    cases v with
    | str x tk =>
      have : k = x := ((PySem.strKind prog w).inj _ _ _ h1 (strKind_is _ _ _ _))
      subst this
      exact .cons (.str _ _) (items_read t)
    | _ => cases h1
theorem Tup.reads {h : Heap} {r : Row Str} (x : Tup (PySem.strKind prog w) h r) : Reads h (.ref r.1) (rowD r) [] := by
  obtain ⟨o, its, n, e, c, d, q⟩ := x
  exact .tuple e c d (items_read q)
end
end DL

set_option maxHeartbeats 2000000
/-! DL63: sorted(set(e)), e a list of tuples of texts. -/
namespace DL
open PySem PySem.Spec PyProof.Rows L2 PySem.W
section
variable {X : Cx}
end
end DL

set_option maxHeartbeats 2000000
/-! DL64: sorted(set(e)) of tuples of texts, sorted(e) of any alike data, as mirrors. -/
namespace DL
open PySem PySem.Spec PyProof.Rows L2 PySem.W
/-! ### the order of tuples of texts -/
/-! ### sorted(set(e)) -/
section
variable {K : PySem.W.Frag} {P H : Hp}
end
section
variable {X : Cx} {W : WX} {B : List Nat} {a : Expr} {m : M PyData} {p p2 q pos : Pos}
end
end DL

set_option maxHeartbeats 2000000
/-! DL65: sorted(e), e a list of alike data. -/
namespace DL
open PySem PySem.Spec PyProof.Rows L2 PySem.W
section
variable {K : PySem.W.Frag} {P : Hp}
end
section
variable {X : Cx}
end
end DL

set_option maxHeartbeats 2000000
/-! DL66: [e for x in a for y in b(x)]. -/
namespace DL
open PySem PySem.Spec PyProof.Rows L2
section
variable {K : PySem.W.Frag} {mg : Str → Option Value} {W : WX} {B vs vs1 : List Nat} {m m1 : M (List PyData)} {g g1 : TG'} {me : M PyData} {σ : L2.St} {H : Hp} {Q : VK}
section
variable {X : Cx} {elt tg iter tg1 iter1 : Expr} {scope : Scope} {pos : Pos}
end
end
end DL

set_option maxHeartbeats 2000000
/-! DL67: runs of sorted(..), sorted(set(..)) and of two clauses. -/
namespace DL
open PySem PySem.Spec PyProof.Rows L2 PySem.W
end DL

set_option maxHeartbeats 2000000
/-! DL68: sorted(xs, key=f), f a function object whose calls keep what a predicate J tells. -/
namespace DL
open PySem PySem.Spec PyProof.Rows L2 PySem.W
section
variable {X : Cx} {pins : List (Addr × Obj)} {σ : L2.St} {H P : Hp} {s : Shared} {E : Value → Shared → Prop}
end
end DL

set_option maxHeartbeats 2000000
/-! DL69: lambdas with one parameter; sorted(e, key=lambda p: body). -/
namespace DL
open PySem PySem.Spec PyProof.Rows L2 LamX
/-! ### the maker's code object -/
structure LamT (K : PySem.W.Frag) (mg : Str → Option Value) (base : Heap) (cd : Value) (qual : Str) : Prop where
  ex : ∃ c P, cd = .ref c ∧ TabB base mg c P ∧ (P, qual ++ ".<locals>." ++ "<lambda>") ∈ tabsOf K ∧ ∀ p ∈ tabsOf K, p.1 = P → p.2 = qual ++ ".<locals>." ++ "<lambda>"
theorem bltB_ok {K : PySem.W.Frag} {mg : Str → Option Value} {base : Heap} {P : Addr} (kin : K.In base) (ns : base.Ns mainGlobals mg) (h : bltB K P = true) : base.BuiltinsAt mg P := by
  unfold bltB at h
  split at h
  · rename_i bm hn
    simp only [Bool.and_eq_true, decide_eq_true_eq] at h
    obtain ⟨⟨⟨h1, h2⟩, h3⟩, h4⟩ := h
    split at h4
    · rename_i n d sl hk
      simp only [Bool.and_eq_true, decide_eq_true_eq] at h4
      obtain ⟨rfl, rfl⟩ := h4
      exact ⟨bm, _, PySem.W.mg_of kin ns hn, h1, h2, h3, kin _ _ hk, rfl, rfl, rfl⟩
    · cases h4
  · cases h
theorem lamT_of {K : PySem.W.Frag} {mg : Str → Option Value} {base : Heap} (kin : K.In base) (ns : base.Ns mainGlobals mg) (hc : codesOk K = true) {f : Addr} {oc : Value} {od : Option Addr} {osl : Array (Option Value)} {fd : FuncData} {cd : Value} {qual : Str}
    (lk : K.lookup f = some ⟨oc, od, .func fd, osl⟩) (hcd : PySem.W.codeIn K fd.code qual = true) (e : fd.code = cd) : LamT K mg base cd qual := by
  subst e
  have h := List.all_eq_true.mp hc _ (mem_lk lk)
  simp only [lamOk] at h
  unfold PySem.W.codeIn at hcd
  split at hcd
  · rename_i c hcode
    split at hcd
    · rename_i cls dd vs sl hk
      rw [hcode] at h
      simp only [hk] at h
      cases ht : tabOf ⟨cls, dd, .fields vs, sl⟩ with
      | none => rw [ht] at h; cases h
      | some pq =>
        obtain ⟨P, q⟩ := pq
        rw [ht] at h
        simp only [Bool.and_eq_true, decide_eq_true_eq, List.all_eq_true, Bool.or_eq_true] at h
        obtain ⟨⟨⟨h1, h2⟩, h3⟩, h4⟩ := h
        have hq : q = qual ++ ".<locals>." ++ "<lambda>" := by
          simp only [tabOf] at ht
          split at ht
          · split at ht
            · rename_i q' t p e1 e2
              cases ht
              split at hcd
              · rename_i x n t' r hl
                have : vs[1]? = some (.str n t') := by rw [← Array.getElem?_toList, hl]; rfl
                rw [this] at e1
                cases e1
                rw [beq_iff_eq.mp hcd]
              · cases hcd
            · cases ht
          · cases ht
        subst hq
        refine ⟨c, P, hcode, ⟨PySem.W.codeHd_of_K kin h1, bltB_ok kin ns h3, h2⟩, List.mem_filterMap.mpr ⟨(c, _), mem_lk hk, ht⟩, fun p hp ep => (h4 p hp).resolve_left (fun z => z ep)⟩
    · cases hcd
  · cases hcd
theorem Cm.codes {fa : List He.Fa} {fn : List He.DefD} {tb : Tbs} {K : PySem.W.Frag} {mg : Str → Option Value} {base : Heap} (C : Cm fa fn tb K mg base) (i : Nat) {zs : List He.Dv} (h : tb[i]? = some (("<lambda>" : Str), zs) := by rfl) : codesOk K = true := by
  have z := List.all_eq_true.mp C.tbs _ (List.mem_of_getElem? h)
  simp only [beq_self_eq_true, if_true] at z
  exact z
/-- a def whose body makes lambdas -/
theorem fng_ofC {P : Program} {w : World} {K : PySem.W.Frag} {mg : Str → Option Value} {base : Heap} {k : Nat} {f : Addr} {x qual : Str} {params : Arguments} {body : List Stmt} {scope : Scope} {dvs : List V} {kws : List (Str × V)} {fd : FuncData} {N ps : List Str} {B : List Nat} {mb : M Flw} {n nn : Nat}
    (kin : K.In base) (ns : base.Ns mainGlobals mg) (hc : codesOk K = true)
    (F : FunD K x qual params body scope dvs kws f fd) (S : FnScope N ps scope) (hn : ps.length = n) (hnn : N.length = nn) (hB : ∀ i ∈ B, i < ps.length)
    (hb : ∀ (cd : Value) (A : Around) (outer : List Env) (s : Shared) (H : Hp) (E : XK), LamT K mg base cd qual → Room k (CxF P w K mg base N qual scope f cd A outer s H E).A → Gd (CxF P w K mg base N qual scope f cd A outer s H E) → SDs (CxF P w K mg base N qual scope f cd A outer s H E) (WF E) B body mb) :
    FnG P w K mg base (k + 1) f fd ps B (runF n nn B mb) := by
  obtain ⟨oc, od, dV, kV, doc, pm, an, cdv, ct, osl, e1, lk, hcd, q1, q2⟩ := F.ex
  have hL : LamT K mg base cdv qual := lamT_of kin ns hc lk (by rw [e1]; exact hcd) (by rw [e1])
  -- as in fng_of
  subst hn hnn
  subst e1
  have hle : ps.length ≤ N.length := by have := congrArg List.length S.pre; rw [List.length_take] at this; omega
  have hlen : ∀ env, ((∀ x e, runF ps.length N.length B mb env ≠ .ok x e) ∧ (∀ x e, runF ps.length N.length B mb env ≠ .ex x e)) ∨ env.length = ps.length := fun env => by
    by_cases h : env.length = ps.length
    · exact .inr h
    · refine .inl ⟨fun x e z => ?_, fun x e z => ?_⟩ <;> (unfold runF at z; rw [if_neg h] at z; cases z)
  refine ⟨hB, hlen, fun A outer s H args us vs Q E hr hg hsy e0 hbt r hsp => ?_⟩
  have KX : K.In s.heap := e0.mod.kin.keeps fun b o e => (e0.bs b o e).1
  obtain ⟨hBv, bv, R, P0, Fs, env, St, hpost⟩ := hsp
  have hl : vs.length = ps.length := by
    have h1 := St.len
    rw [List.length_map] at h1
    rcases hlen env with ⟨h2, h3⟩ | h2
    · cases q : runF ps.length N.length B mb env with
      | ok x e => exact absurd q (h2 x e)
      | ex x e => exact absurd q (h3 x e)
      | no => rw [q] at hpost; exact hpost.elim
    · omega
  have hle2 : env.length = ps.length := by have h1 := St.len; rw [List.length_map] at h1; omega
  refine codeAny_call_function hr.depth (KX _ _ lk) rfl S.co S.gen rfl (PySem.W.codeRec_of KX hcd) (hbt _ _ _ _ (wpAny_newFunctionEnv_cells S.kind (fun ⟨y, v⟩ hy => (S.par y (List.of_mem_zip hy).1).elim .inl fun q => .inr ⟨q, PySem.W.cellsFrom_some _ _ _ (.inl q)⟩) fun ev he s1 x => ?_))
  subst he
  refine ⟨(e0.mod.nolimit.keeps fun b o e => (e0.bs b o e).1).keeps x.toInCall.keep, codeAny_func ?_⟩
  have I : Inv (CxF P w K mg base N qual scope f cdv A outer s H E) [] (L2.start N vs) H s1 := inv_start S hr.hd e0 hl r x
  have S1 := St.start hBv (N := N) (by omega)
  rw [hl] at S1
  have hbd : ∀ i ∈ B, vs[i]? = some (bv i) := fun i hi => by
    have := St.pin i hi
    rw [List.getElem?_map] at this
    obtain ⟨u, u1, u2⟩ := Option.map_eq_some_iff.mp this
    cases u2
    exact u1
  have key : tS K mg (WF E) B mb { nx := fun _ H' => Q .non H', rt := Q } (L2.start N vs) H := by
    refine ⟨bv, R, P0, Fs, _, S1, ?_⟩
    unfold runF at hpost
    rw [if_pos hle2] at hpost
    cases q : mb (env ++ List.replicate (N.length - ps.length) none) with
    | no => rw [q] at hpost; exact hpost.elim
    | ex y e =>
      rw [q] at hpost
      exact fun cls dx σ' P' H' Fs' S' s' hx => hpost cls dx P' H' _ (hl ▸ S'.kept (vs := vs) hbd) s' hx
    | ok fl e =>
      rw [q] at hpost
      cases fl with
      | nx => exact fun σ' P' H' Fs' S' s' => hpost .non P' H' _ [] (hl ▸ S'.kept (vs := vs) hbd) s' (.pur .non) Free.nil
      | rt y => exact fun v σ' P' H' Fs' G S' s' o' f' => hpost v P' H' _ G (hl ▸ S'.kept (vs := vs) hbd) s' o' ⟨f'.nd, f'.r, f'.p, fun a ha i => by
          split
          · exact f'.f a ha i
          · simp⟩
      | bk => exact hpost.elim
      | ct => exact hpost.elim
  refine wpAny_mono ((hb cdv A outer s H E hL (hr.deeper _) ⟨hg, hsy⟩).run [] s1 (L2.start N vs) H _ I key) (fun fl s' hs => ?_) fun e s' hs => hs
  cases fl with
  | ret u =>
    obtain ⟨v, σ', H', J, rv, q⟩ := hs
    exact ⟨v, H', J.os, J.bare, J.base, J.hok, rv, q⟩
  | next =>
    obtain ⟨σ', H', J, q⟩ := hs
    exact ⟨V.non, H', J.os, J.bare, J.base, J.hok, rfl, q⟩
  | brk =>
    obtain ⟨_, _, _, q⟩ := hs
    exact q.elim
  | cont =>
    obtain ⟨_, _, _, q⟩ := hs
    exact q.elim
/-! ### the lambda is made -/
theorem among_hit {pos : Pos} {c : Value} (l : List Value) (h : TriplesOk l) (hn : codeAmong pos l = none) : codeAmong pos (l ++ [rawInt pos.line, rawInt pos.col, c]) = some c := by
  fun_induction TriplesOk l with
  | case1 => simp [rawInt, codeAmong]
  | case2 a t b u x rest ih =>
    simp only [List.cons_append, codeAmong] at hn ⊢
    split at hn
    · cases hn
    · rename_i q
      rw [if_neg q]
      exact ih h hn
  | case3 l h1 h2 => exact h.elim
section
variable {X : Cx} {pins : List (Addr × Obj)} {σ : L2.St} {H : Hp} {s : Shared}
theorem lam_make3 {T : List (Addr × Str)} {c P : Addr} {params : Arguments} {body : Expr} {scope : Scope} {pos : Pos} {E : Value → Shared → Prop} {Q : Value → Shared → Prop} (I : Inv X pins σ H s) (TB : TabB X.base X.mg c P) (hcode : X.env.code = .ref c)
    (hm : (P, X.env.qual ++ "<lambda>") ∈ T) (hu : ∀ p ∈ T, p.1 = P → p.2 = X.env.qual ++ "<lambda>") (hT : Tabs T H) (hdef : defaultsOf params X.env = ([], [])) (hfree : ∀ y ∈ scope.names, y.2 = .free → ∃ c, X.env.cells.lookup y.1 = some c)
    (h : ∀ (f c' : Addr) (pm ctv : Value) (H1 : Hp) (s' : Shared), Inv X pins σ H1 s' → (∀ b o, H b = some o → b ≠ P → H1 b = some o) → Tabs T H1 →
      s'.heap.get? f = some (PySem.W.kla_obj "<lambda>" (X.env.qual ++ "<lambda>") params body scope (cloFrom X.env.cells scope.names []) pm c' ctv) → H1 f = none → f ∉ frs X.stack → (∃ ps2, H1 P = some (.tbl ps2) ∧ TriplesOk ps2.toList ∧ codeAmong pos ps2.toList = some (.ref c')) → Q (.ref f) s') :
    wpAny (model X.prog X.w) X.A (eval (.Lambda params body scope pos) X.env) Q E s := by
  obtain ⟨ps, hP, ht, ha⟩ := hT _ hm
  refine PySem.W.kla_eval hdef ?_
  have bP : s.heap.BuiltinsAt X.mg P := TB.bm.keeps I.bk
  have hP' : s.heap.get? P = some { cls := .none, data := .fields ps } := I.hok P _ hP
  have nofr : ∀ f, s.heap.objs.size ≤ f → f ∉ frs X.stack := fun f hf z => by
    rcases List.mem_cons.mp (I.stkSub _ z) with e | e
    · have h1 := I.lt
      rw [← e] at h1
      exact Nat.lt_irrefl _ (Nat.lt_of_lt_of_le h1 hf)
    · exact I.nofs hf e
  cases hc : codeAmong pos ps.toList with
  | none =>
    refine PySem.W.kla_makeFunction (mg := X.mg) (c := c) (P := P) (ps := ps) (closure_ok hfree) I.ok.glob (I.mod.glob.keeps I.bk) hcode (TB.code.keeps I.bk) hP' ht hc TB.gP bP fun c' ctv h' tk hx hge hlt hrec htb => ?_
    obtain ⟨c2, oc, vs, t, e2, hoc, hd, hv⟩ := hrec
    cases e2
    have hsz : s.heap.objs.size ≤ h'.objs.size := Nat.le_trans hge (Nat.le_of_lt hlt)
    have nC : H c' = none := I.hok.fresh hge
    have I1 := inv_table (t' := tk) (more := #[rawInt pos.line, rawInt pos.col, .ref c']) (h' := h'.push (PySem.W.kla_obj "<lambda>" (X.env.qual ++ "<lambda>") params body scope (cloFrom X.env.cells scope.names []) ((X.mg "__name__").getD .none) c' ctv)) I hP
      (fun b o hb e => Heap.get?_push_of_some _ (hx b o hb e)) (Heap.get?_push_of_some _ htb) hge ⟨oc, vs, t, Heap.get?_push_of_some _ hoc, hd, hv⟩
    have hE : ∀ b o, H b = some o → b ≠ P → (upd (upd H P (.tbl (ps ++ #[rawInt pos.line, rawInt pos.col, .ref c']))) c' (CodeO c' (X.env.qual ++ "<lambda>"))) b = some o := fun b o e n => by
      rw [upd_ne (ne_of_none e nC), upd_ne n]
      exact e
    have hN : ∀ b o, H b = some o → (∀ ps, o ≠ .tbl ps) → b ≠ P := fun b o e n z => n ps (Option.some.inj (e.symm.trans (by rw [z]; exact hP)))
    have eL : (ps ++ #[rawInt pos.line, rawInt pos.col, .ref c']).toList = ps.toList ++ [rawInt pos.line, rawInt pos.col, .ref c'] := by simp
    refine h h'.objs.size c' ((X.mg "__name__").getD .none) ctv _ _ I1 hE (fun p hp => ?_) (Heap.get?_push_size _ rfl) ?_ (nofr _ hsz) ⟨_, by rw [upd_ne (ne_of_none hP nC), upd_same], by rw [eL]; exact PySem.TriplesOk_snoc _ _ _ _ ht, by rw [eL]; exact among_hit _ ht hc⟩
    · by_cases hb : p.1 = P
      · rw [hu p hp hb, hb]
        refine ⟨_, by rw [upd_ne (ne_of_none hP nC), upd_same], by rw [eL]; exact PySem.TriplesOk_snoc _ _ _ _ ht, fun p' cv hcv => ?_⟩
        rw [eL] at hcv
        rcases among_app _ ht hcv with z | z
        · obtain ⟨c0, e1, e2⟩ := ha p' cv z
          exact ⟨c0, e1, hE _ _ e2 (hN _ _ e2 codeO_ne)⟩
        · exact ⟨c', z, upd_same⟩
      · obtain ⟨ps', a1, a2, a3⟩ := hT p hp
        refine ⟨ps', by rw [upd_ne (ne_of_none a1 nC), upd_ne hb]; exact a1, a2, fun p' cv hcv => ?_⟩
        obtain ⟨c0, e1, e2⟩ := a3 p' cv hcv
        exact ⟨c0, e1, hE _ _ e2 (hN _ _ e2 codeO_ne)⟩
    · have n1 : h'.objs.size ≠ c' := Nat.ne_of_gt hlt
      have n2 : h'.objs.size ≠ P := Nat.ne_of_gt (Nat.lt_of_lt_of_le (Heap.lt_size hP') hsz)
      rw [upd_ne n1, upd_ne n2]
      exact I.hok.fresh hsz
  | some cv =>
    obtain ⟨c', e, hco⟩ := ha pos cv hc
    subst e
    refine PySem.W.kla_makeFunctionHit (mg := X.mg) (c := c) (P := P) (ps := ps) (closure_ok hfree) I.ok.glob (I.mod.glob.keeps I.bk) hcode (TB.code.keeps I.bk) hP' ht hc bP fun ctv h' tk hx hsz => ?_
    have I1 : Inv X pins σ H { s with heap := h'.push (PySem.W.kla_obj "<lambda>" (X.env.qual ++ "<lambda>") params body scope (cloFrom X.env.cells scope.names []) ((X.mg "__name__").getD .none) c' ctv), toks := tk } := I.kept fun b o e => Heap.get?_push_of_some _ (hx b o e)
    exact h h'.objs.size c' ((X.mg "__name__").getD .none) ctv H _ I1 (fun b o e _ => e) hT (Heap.get?_push_size _ rfl) (I.hok.fresh hsz) (nofr _ hsz) ⟨ps, hP, ht, hc⟩
end
/-! ### the lambda's names: one parameter -/
structure LamS1 (sc scope : Scope) (p : Str) : Prop where
  kind : scope.kind = .function
  co : scope.isCoroutine = false
  gen : scope.isGenerator = false
  par : scope.names.lookup p = some .local
  own : ∀ y ∈ scope.names, (y.2 = .local → y.1 = p) ∧ y.2 ≠ .cell
  free : ∀ y ∈ scope.names, y.2 = .free → sc.names.lookup y.1 = some .cell ∨ sc.names.lookup y.1 = some .free
theorem LamS1.has {X : Cx} {scope : Scope} {p : Str} (L : LamS1 X.env.scope scope p) (ok : X.Ok) : ∀ y ∈ scope.names, y.2 = .free → ∃ c, X.env.cells.lookup y.1 = some c := fun y hy e => by
  rcases L.free y hy e with k | k
  · exact ok.has _ (.inl k)
  · exact ok.has _ (.inr k)
section
variable {X : Cx} {pins : List (Addr × Obj)} {σ : L2.St} {H : Hp} {s : Shared}
end
end DL

set_option maxHeartbeats 2000000
/-! DL70: sorted(e, key=lambda p: body). -/
namespace DL
open PySem PySem.Spec PyProof.Rows L2 LamX PySem.W
section
variable {K : PySem.W.Frag} {mg : Str → Option Value} {B : List Nat} {bv : Nat → V} {R P H H1 : Hp} {Fs : Nat → List Addr} {σ : L2.St} {env : DEnv}
/-- a table has grown -/
theorem Sta.grown (S : Sta K mg B bv R P H Fs σ env) {c : Addr} (hc : c ∈ TbA K) (e : ∀ b o, H b = some o → b ≠ c → H1 b = some o) (T : Tabs (tabsOf K) H1) : Sta K mg B bv R P H1 Fs σ env := by
  obtain ⟨p, hp, rfl⟩ := List.mem_map.mp hc
  have rc := (S.tb p hp).2
  have ph : Same P H1 := fun a o h => e a o (S.ph a o h) fun z => by
    rw [z, S.rp _ rc] at h
    cases h
  have sl : ∀ (i : Nat) (x : OD), env[i]? = some (some x) → ∃ v, σ[i]? = some (some v) ∧ Ow K mg P H1 (Fs i) v x := fun i x h => by
    obtain ⟨v, h1, h2⟩ := S.slot i x h
    exact ⟨v, h1, h2.keep (Same.refl _) fun a ha o ho => e a o ho fun z => rc (by rw [← z]; exact S.fr i a ha)⟩
  exact ⟨fun a o r n => e a o (S.rh a o r n) fun z => n (by rw [z]; exact hc), fun q hq => ⟨T q hq, (S.tb q hq).2⟩, ph, S.rp, sl, S.dead, S.nd, S.dj, S.fr, S.fp, S.len, S.pin, S.nt⟩
end
/-! ### the mirror -/
/-! ### the rule -/
section
variable {X : Cx} {W : WX} {B : List Nat}
end
end DL

set_option maxHeartbeats 2000000
/-! DL71: divmod; runs of sorted(.., key=..). -/
namespace DL
open PySem PySem.Spec PyProof.Rows L2 PySem.W
section
variable {X : Cx}
end
end DL

set_option maxHeartbeats 2000000
/-! DL72: list(zip(a, b)), both lists. -/
namespace DLZ
open PySem PySem.Spec PyProof.Rows PySem.Calls L2
/-- the zip object stands at its i-th turn -/
def ZSt (h : Heap) (z TI TO i1 i2 l1 l2 S : Addr) (xs ys : Array Value) (i : Nat) : Prop :=
  (IsPair h TI (.ref i1) (.ref i2) ∧ h.IsListIter i1 l1 i ∧ h.IsListIter i2 l2 i ∧ h.IsList l1 xs ∧ h.IsList l2 ys) ∧
  ((i = 0 ∧ IsZip h z TI TO .none ∧ ∃ a b, IsPair h TO a b) ∨ ∃ T f oT, IsZipHeld h z TI TO T f ∧ h.get? T = some oT ∧ T ≠ z ∧ T ≠ i1 ∧ T ≠ i2 ∧ T ≠ S)
structure ZOff (z TI TO i1 i2 l1 l2 S : Addr) : Prop where
  z : z ≠ S
  TI : TI ≠ S
  TO : TO ≠ S
  i1 : i1 ≠ S
  i2 : i2 ≠ S
  l1 : l1 ≠ S
  l2 : l2 ≠ S
theorem ZSt.keep {h h' : Heap} {z TI TO i1 i2 l1 l2 S : Addr} {xs ys : Array Value} {i : Nat} (x : ZSt h z TI TO i1 i2 l1 l2 S xs ys i) (O : ZOff z TI TO i1 i2 l1 l2 S) (hk : ∀ b o, b ≠ S → h.get? b = some o → h'.get? b = some o) : ZSt h' z TI TO i1 i2 l1 l2 S xs ys i := by
  obtain ⟨⟨a1, a2, a3, a4, a5⟩, x⟩ := x
  refine ⟨⟨hk _ _ O.TI a1, a2.at fun o e => hk _ o O.i1 e, a3.at fun o e => hk _ o O.i2 e, a4.at fun o e => hk _ o O.l1 e, a5.at fun o e => hk _ o O.l2 e⟩, ?_⟩
  rcases x with ⟨e, b1, a, b, b2⟩ | ⟨T, f, oT, b1, b2, b3, b4, b5, b6⟩
  · exact .inl ⟨e, hk _ _ O.z b1, a, b, hk _ _ O.TO b2⟩
  · exact .inr ⟨T, f, oT, hk _ _ O.z b1, hk _ _ b6 b2, b3, b4, b5, b6⟩
section
variable {prog : Program} {w : World} {A : Around} {E : Value → Shared → Prop} {s : Shared} {z TI TO i1 i2 l1 l2 S : Addr} {xs ys : Array Value} {i : Nat}
/-- the tuples that were made -/
structure ZG (xs ys : Array Value) (lo : Addr) (h : Heap) (as : List Addr) : Prop where
  rise : as.Pairwise (· < ·)
  above : ∀ a ∈ as, lo < a
  pairs : ∀ (j : Nat) (a : Addr), as[j]? = some a → ∃ x y, xs[j]? = some x ∧ ys[j]? = some y ∧ h.get? a = some { cls := .type "tuple", data := .seq #[x, y] }
theorem ZG.there {lo : Addr} {h : Heap} {as : List Addr} (g : ZG xs ys lo h as) {a : Addr} (ha : a ∈ as) : a < h.objs.size := by
  obtain ⟨j, hj⟩ := List.mem_iff_getElem?.mp ha
  obtain ⟨_, _, _, _, e⟩ := g.pairs j a hj
  exact Heap.lt_size e
theorem ZG.low {lo lo' : Addr} {h : Heap} {as : List Addr} (g : ZG xs ys lo h as) (hl : lo' ≤ lo) : ZG xs ys lo' h as := ⟨g.rise, fun a ha => Nat.lt_of_le_of_lt hl (g.above a ha), g.pairs⟩
end
section
variable {prog : Program} {w : World} {A : Around} {s : Shared} {R : Result → Shared → Prop} {z TI TO i1 i2 l1 l2 S lo : Addr} {xs ys : Array Value}
end
end DLZ

set_option maxHeartbeats 2000000
/-! DL73: list(zip(a, b)), list(d), dict(d). -/
namespace DL
open PySem PySem.Spec PyProof.Rows L2 DLZ
section
variable {X : Cx} {pins : List (Addr × Obj)} {σ : L2.St} {H : Hp} {s : Shared}
end
section
variable {X : Cx} {e e2 : Expr} {ta : TA} {p p2 zpos pos : Pos}
end
end DL

set_option maxHeartbeats 2000000
/-! DL74: list(zip(a, b)), list(d), dict(d) over mirrors. -/
namespace DL
open PySem PySem.Spec PyProof.Rows L2
section
variable {X : Cx} {W : WX} {B : List Nat} {e e2 : Expr} {ml : M (List PyData)} {p p2 zpos pos : Pos}
/-! ### list(d), dict(d) -/
end
end DL

set_option maxHeartbeats 2000000
/-! DL75: list comprehensions that an exception may leave. -/
namespace DL
open PySem PySem.Spec PyProof.Rows L2
section
variable {M : Model} {A : Around} {E : Value → Shared → Prop} {s : Shared} {env : Env}
end
section
variable {X : Cx} {pins : List (Addr × Obj)} {σ : L2.St} {H : Hp} {s : Shared}
end
end DL

set_option maxHeartbeats 2000000
/-! DL76: what a block lets out its def takes; list comprehensions with exceptions, by the hand layer's terms. -/
namespace DL
open PySem PySem.Spec PyProof.Rows L2
section
variable {X : Cx} {W : WX} {pins : List (Addr × Obj)} {σ : L2.St} {H3 : Hp} {s3 : Shared}
end
end DL

set_option maxHeartbeats 2000000
/-! DL77: [e for x in it if ..], exceptions leaving it. -/
namespace DL
open PySem PySem.Spec PyProof.Rows L2
end DL

set_option maxHeartbeats 2000000
/-! DL78: [e for x in it if ..] with exceptions: the mirror, the law, the rules. -/
namespace DL
open PySem PySem.Spec PyProof.Rows L2
section
variable {K : PySem.W.Frag} {mg : Str → Option Value} {W : WX} {B vs : List Nat} {m : M (List PyData)} {g : TG'} {mt : M Bool} {me : M PyData} {σ : L2.St} {H : Hp} {Q : VK}
end
end DL

set_option maxHeartbeats 2000000
/-! DL79: comprehensions with exceptions as expressions and statements; raise C(); try .. except C. -/
namespace DL
open PySem PySem.Spec PyProof.Rows L2
section
variable {X : Cx} {W : WX} {B : List Nat} {e elt tg iter : Expr} {ifs : List Expr} {scope : Scope} {own : List (Str × Nat)} {pos spos py : Pos} {m : M (List PyData)} {g : TG'} {mt : M Bool} {me : M PyData}
end
theorem Gd.tr {X : Cx} {pn : List (Addr × Obj)} {xe : Value → Shared → Prop} (g : Gd X) : Gd (X.tr pn xe) := ⟨g.guards, g.sys⟩
theorem Gd.suite {X : Cx} {a : Addr} {pn : List (Addr × Obj)} (g : Gd X) : Gd (X.suite a pn) := ⟨g.guards, g.sys⟩
/-! ### raise C() -/
section
variable {X : Cx} {W : WX} {B : List Nat} {C : Addr} {bmB : List Value} {Bn newId initId : String} {x : Str} {p pos rpos : Pos}
def M.raise (c : Str) : M Flw := fun env => .ex ⟨.own c, none⟩ env
/-- what is known of an own class of refusals: no field -/
structure ExcK (K : PySem.W.Frag) (mg : Str → Option Value) (c : Str) : Prop where
  ex : ∃ C, mg c = some (.ref C) ∧ PySem.W.excIn K C He.veBase "ValueError.__new__" = true ∧ PySem.W.keepIn K (.ref C) = true ∧ PySem.W.subIn K (.ref C) (.type "BaseException") = some true ∧ PySem.W.typeIn K (.ref C) = some (.type "type")
end
/-! ### try .. except C: -/
/-- whether a clause takes a class, by a table -/
def takesB (tbl : List (Str × Bool)) (x : Xn) : Option Bool := match x.cls with
  | .own c => tbl.lookup c
  | .bt _ => none
section
variable {X : Cx} {W : WX} {B : List Nat} {c : Str} {body suite : List Stmt} {b₀ : Stmt} {np pos pos' : Pos} {mb mh : M Flw} {Cc : Addr}
end
/-! ### facts -/
section
variable {fa : List He.Fa} {fn : List He.DefD} {tb : Tbs} {K : PySem.W.Frag} {mg : Str → Option Value} {base : Heap}
end
end DL

set_option maxHeartbeats 2000000
/-! DL80: try: .. except T as n: .., and what comes behind it with the caught exception still known. -/
namespace DL
open PySem PySem.Spec PyProof.Rows L2
/-- the clause's class expression: b tells whether it takes cls -/
def TestOk (X : Cx) (te : Expr) (cls : Value) (b : Bool) : Prop :=
  ∀ (a : Addr) (oe : Obj) (pn : List (Addr × Obj)) (σ : L2.St) (H : Hp) (s : Shared) (E : Value → Shared → Prop) (Q : Bool → Shared → Prop), L2.Inv (X.suite a ((a, oe) :: pn)) [] σ H s → oe.cls = cls →
    (∀ s2 : Shared, L2.Inv (X.suite a ((a, oe) :: pn)) [] σ H s2 → (∀ c o, s.heap.get? c = some o → s2.heap.get? c = some o) → s2.os = s.os → Q b s2) →
    wpAny (model X.prog X.w) (X.A.mark (some (.ref a))) (eval te X.env) (fun c s1 => wpAny (model X.prog X.w) (X.A.mark (some (.ref a))) (excMatches (.ref a) c) Q E s1) E s
section
variable {X : Cx}
theorem looks_cls {P : Program} {w : World} {h : Heap} {a : Addr} {oe : Obj} (e : h.get? a = some oe) : PySem.W.Looks (model P w) h (typeOf (.ref a)) oe.cls := fun A Q E s k q => wpAny_typeOf_ref (k _ _ e) q
theorem nm_suite {a : Addr} {pn : List (Addr × Obj)} {σ : L2.St} {H : Hp} {s : Shared} {x : Str} {c : Value} {np : Pos} {Q : Value → Shared → Prop} {E : Value → Shared → Prop} (I : L2.Inv (X.suite a pn) [] σ H s) (hc : Names X x c) (q : Q c s) : wpAny (model X.prog X.w) (X.A.mark (some (.ref a))) (eval (.Name x np) X.env) Q E s := by
  obtain ⟨h1, h2, h3 | ⟨h3, h4, h5⟩⟩ := hc
  · exact ld_glob (X := X.suite a pn) I h1 h3 q h2
  · exact ld_blt (X := X.suite a pn) I h1 h3 h4 q h5 h2
theorem test_two {x y : Str} {c d cls : Value} {p1 p2 p3 : Pos} {b : Bool} {ctx : Nat} (hc : Names X x c) (hd : Names X y d) (h : PySem.W.exmAny X.K cls [c, d] = some b) : TestOk X (.Tuple [.Name x p1, .Name y p2] ctx p3) cls b := fun a oe pn σ H s E Q I e q => by
  refine wpAny_Tuple_spliced ?_
  show wpAny _ _ (spliced [(false, eval (.Name x p1) X.env), (false, eval (.Name y p2) X.env)]) _ _ s
  refine Calls.spliced_cons (nm_suite I hc (Calls.spliced_cons (nm_suite I hd (Calls.spliced_nil ⟨by show 2 ≤ sizeLine; rw [sizeLine_eq]; omega, ?_⟩))))
  have k : ∀ b o, s.heap.get? b = some o → (s.heap.push { cls := .type "tuple", data := .seq [c, d].toArray }).get? b = some o := fun _ _ z => Heap.get?_push_of_some _ z
  have I2 : L2.Inv (X.suite a ((a, oe) :: pn)) [] σ H { s with heap := s.heap.push { cls := .type "tuple", data := .seq [c, d].toArray } } := I.kept (t' := s.toks) k
  obtain ⟨hget, _⟩ := I2.pin (a, oe) (List.mem_append.mpr (.inl List.mem_cons_self))
  subst e
  exact (PySem.W.exm_tup2 (M := model X.prog X.w) I2.kIn (looks_cls hget) (Heap.get?_push_size _ rfl) h).here (q _ I2 k rfl)
end
/-- an untracked exception is tracked from now on -/
theorem Inv.track {X : Cx} {pins : List (Addr × Obj)} {σ : L2.St} {H : Hp} {s : Shared} {a : Addr} {oe : Obj} {vs : Array Value} {cls : Value} {d : Option Addr} (I : L2.Inv X pins σ H s) (e : s.heap.get? a = some oe) (hz : Zc cls d oe) (hd : oe.data = .fields vs) (na : H a = none) (n0 : X.s_0.heap.get? a = none)
    (np : ∀ p ∈ X.pn ++ pins, p.1 ≠ a) (nL : a ≠ X.env.locals) : L2.Inv X pins σ (upd H a (ExcO cls d a)) s := by
  have ot : ∀ {b : Addr} {o : HO}, H b = some o → upd H a (ExcO cls d a) b = some o := fun {b o} h => (upd_ne fun z => by rw [z, na] at h; cases h).trans h
  have on : ∀ {b : Addr}, b ≠ a → upd H a (ExcO cls d a) b = H b := fun h => upd_ne h
  refine ⟨I.ok, I.os, I.bare, ⟨I.base.keep, I.base.slot, fun b o h1 h2 h3 => ?_, I.base.there, fun b xs h => ot (I.base.tups b xs h), fun b o u h => ot (I.base.frzs b o u h), fun b ps h => ?_⟩, I.loc, I.cell, ?_, fun x c h => ?_, fun p hp => ?_, fun b o h => ?_, I.len⟩
  · rw [on fun z => by rw [z, n0] at h1; cases h1]
    exact I.base.free b o h1 h2 h3
  · obtain ⟨more, h2⟩ := I.base.tbls b ps h
    exact ⟨more, ot h2⟩
  · rw [on nL.symm]; exact I.free
  · rw [on fun z => ?_]
    · exact I.freeC x c h
    · obtain ⟨v, ob, e1, e2⟩ := I.cell x c h
      rw [z, e] at e1
      cases e1
      rw [hd] at e2
      cases e2
  · obtain ⟨h1, h2, h3⟩ := I.pin p hp
    exact ⟨h1, by rw [on (np p hp)]; exact h2, h3⟩
  · by_cases z : b = a
    · subst z
      rw [upd_same] at h
      cases h
      exact ⟨⟨oe, vs, e, hz, hd⟩, ⟨oe, e⟩, fun h1 h2 ⟨o, v, g1, g2⟩ k => ⟨o, v, k _ g1, g2⟩⟩
    · rw [on z] at h
      exact (I.hok b o h).stay (fun _ _ _ q => q) (fun c q => ot q) fun c xs q => ot q
/-- the exception is tracked in what comes behind -/
def wAsR (X : Cx) (te : Expr) (i : Nat) (ts : Addr → Value → Option Addr → TS) (Wout : WX) (D : Ends) (t0 : TS) : WX := fun cls d σ H =>
  ∃ b, TestOk X te cls b ∧ (b = true → ∀ a, H a = none → ts a cls d { nx := fun σ' H' => H' a = none → t0 D (σ'.set i none) (upd H' a (ExcO cls d a)), rt := fun _ _ => False } (σ.set i (some (.ref a))) H) ∧ (b = false → Wout cls d σ H)
theorem flying_keeps {B h h' : Heap} {l : List Env} {a : Addr} {Z : Obj → Prop} (f : HandSPX.FlyingZ B l a Z h) (k : ∀ c o, h.get? c = some o → h'.get? c = some o) : HandSPX.FlyingZ B l a Z h' := by
  obtain ⟨f1, f2, f3, o1, v1, T, o2, v2, e1, z1, d1, x1, n1, n2, e2, d2, x2⟩ := f
  exact ⟨fun c o z => k _ _ (f1 c o z), f2, f3.of_keeps fun c o z _ => ⟨o, k _ _ z, rfl⟩, o1, v1, T, o2, v2, k _ _ e1, z1, d1, x1, n1, n2, k _ _ e2, d2, x2⟩
section
variable {X : Cx} {te : Expr} {n : Str} {i : Nat} {body suite rest : List Stmt} {b₀ : Stmt} {pos pos' : Pos} {tb : WX → TS} {ts : Addr → Value → Option Addr → TS} {t0 : TS} {Wout : WX}
set_option maxHeartbeats 4000000 in
theorem pss_try_as (hs : X.stack = X.env :: X.outer) (hf : X.env.frame = some X.env.locals) (hN : X.N.Nodup) (hex : X.ex = []) (hi : X.N[i]? = some n) (hln : X.env.kindOf n = some .local) (tk : Takes X Wout)
    (hb : ∀ (W : WX) (pn : List (Addr × Obj)) (xe : Value → Shared → Prop), Takes (X.tr pn xe) W → PassesOwn (model X.prog X.w) X.A X.env xe → PSs (X.tr pn xe) body (tb W))
    (hsu : ∀ (a : Addr) (oe : Obj) (cls : Value) (d : Option Addr) (pn : List (Addr × Obj)), Zc cls d oe → (∃ vs, oe.data = .fields vs) → PSs (X.suite a ((a, oe) :: pn)) (b₀ :: suite) (ts a cls d))
    (h0 : PSs X rest t0) :
    PSs X (.Try body [.ExceptHandler (some te) (some n) (b₀ :: suite) pos'] [] [] pos :: rest) (fun D σ H => tb (wAsR X te i ts Wout D t0) { D with nx := t0 D } σ H) := by
  refine ⟨fun pins s σ H D I h => ?_⟩
  have ok := I.ok
  have hfr : X.A.frames = some (X.env :: X.outer) := by rw [ok.frames, hs]
  refine wpAny_execs_cons ?_
  generalize hP : (fun (f : Flow) (s1 : Shared) => match f with
    | .next => wpAny (model X.prog X.w) X.A (execs rest X.env) (SP X pins D) X.xe s1
    | f => SP X pins D f s1) = Pf
  have pfN : ∀ s1, wpAny (model X.prog X.w) X.A (execs rest X.env) (SP X pins D) X.xe s1 → Pf .next s1 := fun s1 z => by rw [← hP]; exact z
  have pfO : ∀ f s1, f ≠ .next → SP X pins D f s1 → Pf f s1 := fun f s1 nf z => by rw [← hP]; cases f <;> first | exact absurd rfl nf | exact z
  refine wpAny_Try_except ?_
  refine wpAny_mono ((hb (wAsR X te i ts Wout D t0) (X.pn ++ pins) (fun e s1 => wpAny (model X.prog X.w) X.A (noteFrame e X.env) (fun _ s2 => wpAny (model X.prog X.w) X.A (setFlight e none) (fun _ s3 =>
    wpAny (model X.prog X.w) X.A (handleBy e X.env [.ExceptHandler (some te) (some n) (b₀ :: suite) pos']) Pf X.xe s3) X.xe s2) X.xe s1) (fun u s' xx => ?_) PassesOwn.looking).run [] s σ H { D with nx := t0 D } (I.toTry _) h) (fun f s1 hsp => ?_) (fun e s1 he => he)
  · obtain ⟨a, B, sI, pins', σ', H', cls, d, rfl, J', nb, up, sky, na, os, ag, b, hb1, hyes, hno⟩ := xx
    have J : L2.Inv X pins σ' H' sI := J'.ofTry ok
    have sky' : Sky B (X.env :: X.outer) a (Zc cls d) X.env.locals s'.heap := by rw [← hs]; exact sky
    show wpAny (model X.prog X.w) X.A (noteFrame (.ref a) X.env) _ _ _
    refine Sky.land Zc.steady hfr hf sky' fun h3 fl3 up3 => ?_
    have J3 : L2.Inv X pins σ' H' { s' with heap := h3 } := J.landed nb fl3.1 (up.trans up3) os ag
    obtain ⟨oe3, vs3, he3, hz3, hd3⟩ := fl3.there
    have nfr : a ∉ frs (X.env :: X.outer) := fun hm => by
      obtain ⟨_, o', e', hnf⟩ := fl3.2.2.1.mem hm
      rw [he3] at e'; cases e'
      exact hnf _ hd3
    have nL : a ≠ X.env.locals := fun z => nfr (List.mem_filterMap.mpr ⟨X.env, List.mem_cons_self, by rw [hf, z]⟩)
    have nF : a ∉ X.fs := fun hm => by
      obtain ⟨e, he, q⟩ := List.mem_filterMap.mp hm
      exact nfr (List.mem_filterMap.mpr ⟨e, List.mem_cons_of_mem _ he, q⟩)
    have S3 := J3.suite he3 hd3 na nL nF
    refine wpAny_handleBy_cons (codeAny_handlers_test ?_) (by intro q; cases q)
    refine hb1 a oe3 (X.pn ++ pins) σ' H' { s' with heap := h3 } _ _ S3 hz3.1 fun s4 S4 k4 os4 => ?_
    have fl4 : HandSPX.FlyingZ B (X.env :: X.outer) a (Zc cls d) s4.heap := flying_keeps fl3 k4
    have up4 : sI.heap.UpToSlots s4.heap := (up.trans up3).trans (Heap.UpToSlots.of_keeps k4)
    cases b with
    | true =>
      refine codeAny_handlers_suite_as ?_
      refine HandSPX.lands_againZ fl4 fun h5 fl5 up5 => ?_
      have J5 : L2.Inv X pins σ' H' { s4 with heap := h5 } := J.landed nb fl5.1 (up4.trans up5) (os4.trans os) S4.bare
      obtain ⟨oe5, vs5, he5, hz5, hd5⟩ := fl5.there
      have S5 := J5.suite he5 hd5 na nL nF
      refine store_ok (X := X.suite a ((a, oe5) :: (X.pn ++ pins))) (v := .ref a) S5 hN hi (.inl hln) rfl (fun s6 S6 => ?_) (.inr hln)
      refine wpAny_mono ((hsu a oe5 cls d (X.pn ++ pins) hz5 ⟨_, hd5⟩).run [] s6 _ H' _ S6 (hyes rfl a na)) (fun f s7 hsp => ?_) (fun _ _ z => False.elim z)
      cases f with
      | next =>
        obtain ⟨σ7, H7, S7, q7⟩ := hsp
        have T7 : L2.Inv (X.tr ((a, oe5) :: (X.pn ++ pins)) X.xe) [] σ7 H7 s7 := ⟨ok.toTry _ _, S7.os, S7.bare, S7.base, S7.loc, S7.cell, S7.free, S7.freeC, S7.pin, S7.hok, S7.len⟩
        refine gone_ok (X := X.tr ((a, oe5) :: (X.pn ++ pins)) X.xe) T7 hN hi hln fun s8 T8 => pfN s8 ?_
        obtain ⟨p1, p2, p3, _⟩ := T8.pin (a, oe5) (List.mem_append_left _ List.mem_cons_self)
        have J8 : L2.Inv X pins _ H7 s8 := ⟨ok, T8.os, T8.bare, T8.base, T8.loc, T8.cell, T8.free, T8.freeC, fun p hp => T8.pin p (List.mem_append_left _ (List.mem_cons_of_mem _ hp)), T8.hok, T8.len⟩
        have Ba : B.get? a = none := fl3.2.1
        have n0 : X.s_0.heap.get? a = none := by
          cases e0 : X.s_0.heap.get? a with
          | none => rfl
          | some o0 =>
            obtain ⟨o1, e1⟩ := J.base.there a o0 e0 (by rw [hex]; simp)
            have := nb a o1 e1 (by rw [hs]; exact nfr)
            rw [Ba] at this; cases this
        have np : ∀ p ∈ X.pn ++ pins, p.1 ≠ a := fun p hp z => by
          obtain ⟨e1, _, e3, e4, _⟩ := J.pin p hp
          have := nb p.1 _ e1 fun hm => (List.mem_cons.mp (J.stkSub p.1 hm)).elim e3 e4
          rw [z, Ba] at this; cases this
        exact h0.run pins s8 _ _ D (Inv.track J8 p1 hz5 hd5 p2 n0 np p3) (q7 p2)
      | brk => obtain ⟨_, _, _, q7⟩ := hsp; exact False.elim q7
      | cont => obtain ⟨_, _, _, q7⟩ := hsp; exact False.elim q7
      | ret u => obtain ⟨_, _, _, _, _, q7⟩ := hsp; exact False.elim q7
    | false =>
      show wpAny _ X.A (handleBy (.ref a) X.env []) _ _ _
      refine wpAny_handleBy_nil ?_
      obtain ⟨k1, k2, k3, o1, v1, T, o2, v2, g1, z1, d1, x1, hr⟩ := id fl4
      unfold PySem.passOn
      refine wpAny_bind (wpAny_field g1 d1 x1 ?_)
      rw [if_neg (by simp : ¬ ((Value.ref T == Value.none) = true))]
      have fin : wpAny (model X.prog X.w) X.A (setFlight (.ref a) X.env.frame) (fun _ s5 => wpAny (model X.prog X.w) X.A (throw (.ref a) : Sem Flow) Pf X.xe s5) X.xe s4 := by
        rw [hf]
        refine HandSPX.setFlight_upZ fl4 fun h5 hh5 up5 => wpAny_throw (tk _ _ ?_)
        exact ⟨a, B, sI, pins, σ', H', cls, d, rfl, J, nb, up4.trans up5, .inr (.inr (by rw [hs]; exact hh5)), na, os4.trans os, S4.bare, hno rfl⟩
      first
        | exact wpAny_bind (wpAny_pure (wpAny_bind fin))
        | exact wpAny_bind fin
  · cases f with
    | next =>
      obtain ⟨σ', H', J', q⟩ := hsp
      exact wpAny_execs_nil (pfN _ (h0.run pins s1 σ' H' D (J'.ofTry ok) q))
    | brk => obtain ⟨σ', H', J', q⟩ := hsp; exact pfO _ _ (by simp) ⟨σ', H', J'.ofTry ok, q⟩
    | cont => obtain ⟨σ', H', J', q⟩ := hsp; exact pfO _ _ (by simp) ⟨σ', H', J'.ofTry ok, q⟩
    | ret u => obtain ⟨v, σ', H', J', r, q⟩ := hsp; exact pfO _ _ (by simp) ⟨v, σ', H', J'.ofTry ok, r, q⟩
end
end DL

set_option maxHeartbeats 2000000
/-! DL81: a def that is handed a lambda: its own slots beside its caller's. -/
namespace DL
open PySem PySem.Spec PyProof.Rows L2 LamX
section
variable {K : PySem.W.Frag} {mg : Str → Option Value} {B BZ : List Nat} {bv bz : Nat → V} {R P P' H H' : Hp} {Fs Fz : Nat → List Addr} {σC σZ : L2.St} {eC eZ : DEnv}
/-- the caller's state, behind steps of the def -/
theorem Sta.back1 (S : Sta K mg B bv R P H Fs σC eC) (C : Sta K mg BZ bz (allR R H Fs) P' H' Fz σZ eZ) (pp : Same P P') : Sta K mg B bv R P' H' Fs σC eC ∧ allR R H' Fs = allR R H Fs := by
  have own : ∀ {i a}, a ∈ Fs i → ∃ o, H a = some o ∧ allR R H Fs a = some o := fun {i a} h => by
    obtain ⟨o, e⟩ := S.there h
    exact ⟨o, e, (allR_in ⟨i, h⟩).trans e⟩
  have nz : ∀ {a}, R a ≠ none → allR R H Fs a ≠ none := fun {a} h => by
    cases q : R a with
    | none => exact absurd q h
    | some o => rw [S.allR_same _ _ q]; simp
  have kept : ∀ {i a}, a ∈ Fs i → H' a = H a := fun {i a} h => by
    obtain ⟨o, e1, e2⟩ := own h
    rw [e1]
    exact C.rh a o e2 (S.nota (S.fr i a h))
  refine ⟨⟨Same.transX S.allR_same C.rh, fun p hp => ⟨(C.tb p hp).1, (S.tb p hp).2⟩, C.ph, fun a e => C.rp a (nz e), fun i x e => ?_, S.dead, S.nd, S.dj, S.fr, fun i a h => ?_, S.len, S.pin, S.nt⟩, funext fun a => ?_⟩
  · obtain ⟨v, h1, h2⟩ := S.slot i x e
    exact ⟨v, h1, h2.keep pp fun a ha o ho => (kept ha).trans ho⟩
  · obtain ⟨o, _, e2⟩ := own h
    exact C.rp a (by rw [e2]; simp)
  · by_cases q : ∃ i, a ∈ Fs i
    · rw [allR_in q, allR_in q]
      obtain ⟨i, q⟩ := q
      exact kept q
    · rw [allR_out q, allR_out q]
theorem Free.outR {G : List Addr} (S : Sta K mg B bv R P H Fs σC eC) (f : Free (allR R H Fs) P' Fz G) : Free R P' Fs G :=
  have np : ∀ a ∈ G, R a = none ∧ ∀ i, a ∉ Fs i := fun a ha => by
    have z := f.r a ha
    refine ⟨S.allR_same.free z, fun i hi => ?_⟩
    obtain ⟨o, e⟩ := S.there hi
    rw [allR_in ⟨i, hi⟩, e] at z; cases z
  ⟨f.nd, fun a ha => (np a ha).1, f.p, fun a ha => (np a ha).2⟩
/-- all slots hold frozen data or nothing -/
def pureE : DEnv → Bool
  | [] => true
  | none :: l => pureE l
  | some (.pur _) :: l => pureE l
  | _ => false
theorem pureE_at : ∀ {e : DEnv} {i : Nat} {x : OD}, pureE e = true → e[i]? = some (some x) → ∃ d, x = .pur d
  | [], i, x, _, h => by simp at h
  | none :: l, 0, x, _, h => by simp at h
  | none :: l, i + 1, x, p, h => pureE_at (e := l) (i := i) p (by simpa using h)
  | some (.pur d) :: l, 0, x, _, h => ⟨d, by simpa using h.symm⟩
  | some (.pur d) :: l, i + 1, x, p, h => pureE_at (e := l) (i := i) p (by simpa using h)
/-- the def's state, its slots being frozen data, behind steps of the caller's things -/
theorem Sta.pureK {Fs' : Nat → List Addr} {eC' : DEnv} (C : Sta K mg BZ bz (allR R H Fs) P H Fz σZ eZ) (hp : pureE eZ = true) (S : Sta K mg B bv R P' H' Fs' σC eC') (pp : Same P P') : Sta K mg BZ bz (allR R H' Fs') P' H' (fun _ => []) σZ eZ where
  rh := fun a o e n => by
    by_cases q : ∃ i, a ∈ Fs' i
    · rw [allR_in q] at e; exact e
    · rw [allR_out q] at e; exact S.rh _ _ e n
  tb := fun p hp => ⟨(S.tb p hp).1, by rw [allR_out fun ⟨i, h⟩ => (S.tb p hp).2 (S.fr i _ h)]; exact (S.tb p hp).2⟩
  ph := S.ph
  rp := fun a e => by
    by_cases q : ∃ i, a ∈ Fs' i
    · obtain ⟨i, q⟩ := q; exact S.fp i a q
    · rw [allR_out q] at e; exact S.rp a e
  slot := fun i x e => by
    obtain ⟨d, rfl⟩ := pureE_at hp e
    obtain ⟨v, h1, h2⟩ := C.slot i _ e
    exact ⟨v, h1, .pur (h2.pur_inv.mono pp)⟩
  dead := fun _ _ => rfl
  nd := fun _ => .nil
  dj := fun _ _ _ _ h => (nomatch h)
  fr := fun _ _ h => (nomatch h)
  fp := fun _ _ h => (nomatch h)
  len := C.len
  pin := C.pin
  nt := fun a xs e => by
    by_cases q : ∃ i, a ∈ Fs' i
    · rw [allR_in q] at e; obtain ⟨i, q⟩ := q; exact S.notup q xs e
    · rw [allR_out q] at e; exact S.nt a xs e
/-- a def's state with no slot but pinned ones -/
theorem Sta.bare {n : Nat} (S : Sta K mg B bv R P H Fs σC eC) (hl : σZ.length = n) (hb : ∀ i ∈ BZ, σZ[i]? = some (some (bz i))) : Sta K mg BZ bz (allR R H Fs) P H (fun _ => []) σZ (List.replicate n none) where
  rh := fun a o e n => by
    by_cases q : ∃ i, a ∈ Fs i
    · rw [allR_in q] at e; exact e
    · rw [allR_out q] at e; exact S.rh _ _ e n
  tb := fun p hp => ⟨(S.tb p hp).1, by rw [allR_out fun ⟨i, h⟩ => (S.tb p hp).2 (S.fr i _ h)]; exact (S.tb p hp).2⟩
  ph := S.ph
  rp := fun a e => by
    by_cases q : ∃ i, a ∈ Fs i
    · obtain ⟨i, q⟩ := q; exact S.fp i a q
    · rw [allR_out q] at e; exact S.rp a e
  slot := fun i x e => by
    rw [List.getElem?_replicate] at e
    split at e <;> cases e
  dead := fun _ _ => rfl
  nd := fun _ => .nil
  dj := fun _ _ _ _ h => (nomatch h)
  fr := fun _ _ h => (nomatch h)
  fp := fun _ _ h => (nomatch h)
  len := by rw [List.length_replicate]; exact hl
  pin := hb
  nt := fun a xs e => by
    by_cases q : ∃ i, a ∈ Fs i
    · rw [allR_in q] at e; obtain ⟨i, q⟩ := q; exact S.notup q xs e
    · rw [allR_out q] at e; exact S.nt a xs e
end
/-- the code object stays known -/
def CodeK (K : PySem.W.Frag) (R P : Hp) (c' : Addr) (q : Str) : Prop := c' ∉ TbA K ∧ (R c' = some (CodeO c' q) ∨ P c' = some (CodeO c' q))
section
variable {K : PySem.W.Frag} {mg : Str → Option Value} {B BZ : List Nat} {bv bz : Nat → V} {R R' P P' H H' : Hp} {Fs Fz : Nat → List Addr} {σC σZ : L2.St} {eC eZ : DEnv} {c' : Addr} {q : Str}
theorem CodeK.at (S : Sta K mg B bv R P H Fs σC eC) (h : CodeK K R P c' q) : H c' = some (CodeO c' q) := h.2.elim (fun z => S.rh _ _ z h.1) fun z => S.ph _ _ z
theorem CodeK.mono (h : CodeK K R P c' q) (pp : Same P P') : CodeK K R P' c' q := ⟨h.1, h.2.elim .inl fun h => .inr (pp _ _ h)⟩
theorem codeO_tup {xs : List V} : CodeO c' q ≠ .tup xs := fun z => by unfold CodeO at z; cases z
theorem Sta.codeR (S : Sta K mg B bv R P H Fs σC eC) (h : H c' = some (CodeO c' q)) : ∃ R', Same R R' ∧ Sta K mg B bv R' P H Fs σC eC ∧ CodeK K R' P c' q := by
  have nt : c' ∉ TbA K := fun hm => by
    obtain ⟨p, hp, rfl⟩ := List.mem_map.mp hm
    obtain ⟨⟨ps, e, _⟩, _⟩ := S.tb p hp
    rw [h] at e
    exact codeO_ne ps (Option.some.inj e)
  cases hR : R c' with
  | some o =>
    have e := S.rh _ _ hR nt
    rw [h] at e
    cases e
    exact ⟨R, Same.refl _, S, nt, .inl hR⟩
  | none =>
    cases hP : P c' with
    | some o =>
      have e := S.ph _ _ hP
      rw [h] at e
      cases e
      exact ⟨R, Same.refl _, S, nt, .inr hP⟩
    | none =>
      have other : ∀ {a}, a ≠ c' → upd R c' (CodeO c' q) a = R a := fun n => upd_ne n
      refine ⟨upd R c' (CodeO c' q), fun a o e => ?_, ⟨fun a o e n => ?_, fun p hp => ⟨(S.tb p hp).1, ?_⟩, S.ph, fun a e => ?_, S.slot, S.dead, S.nd, S.dj, fun i a ha => ?_, S.fp, S.len, S.pin, fun a xs e => ?_⟩, nt, .inl upd_same⟩
      · rw [other fun z => by rw [z, hR] at e; cases e]; exact e
      · by_cases z : a = c'
        · subst z; rw [upd_same] at e; cases e; exact h
        · rw [other z] at e; exact S.rh _ _ e n
      · by_cases z : p.1 = c'
        · exact absurd (List.mem_map.mpr ⟨p, hp, z⟩) nt
        · rw [other z]; exact (S.tb p hp).2
      · by_cases z : a = c'
        · rw [z]; exact hP
        · rw [other z] at e; exact S.rp _ e
      · by_cases z : a = c'
        · subst z
          have hx : ∃ x, eC[i]? = some (some x) := by
            cases hi : eC[i]? with
            | none => rw [S.dead i (fun x y => by rw [hi] at y; cases y)] at ha; cases ha
            | some o => cases o with
              | none => rw [S.dead i (fun x y => by rw [hi] at y; cases y)] at ha; cases ha
              | some x => exact ⟨x, rfl⟩
          obtain ⟨x, hx⟩ := hx
          obtain ⟨v, _, ow⟩ := S.slot i x hx
          exact absurd h (ow.noext _ ha _)
        · rw [other z]; exact S.fr i a ha
      · by_cases z : a = c'
        · subst z; rw [upd_same] at e; exact codeO_tup (Option.some.inj e)
        · rw [other z] at e; exact S.nt a xs e
theorem OkO.sub {Q : VK} {x : OD} {e : DEnv} (s : Same R R') (hT : ∀ a ∈ TbA K, R a ≠ none) (h : OkO K mg B bv R P σC Q x e) : OkO K mg B bv R' P σC Q x e := fun v P' H' Fs' G S' pp o f =>
  h v P' H' Fs' G (S'.sub s hT) pp o ⟨f.nd, fun a ha => s.free (f.r a ha), f.p, f.f⟩
end
/-- the reading of the def's statements: k tells, by the def's slots, what is told and what becomes of the caller's -/
def tX (K : PySem.W.Frag) (mg : Str → Option Value) (B BZ : List Nat) (bz : Nat → V) (σC : L2.St) (c' : Addr) (q : Str) (k : DEnv → M OD) : TS := fun D σZ H => ∃ bv R P Fs Fz eC eZ, Sta K mg B bv R P H Fs σC eC ∧ Sta K mg BZ bz (allR R H Fs) P H Fz σZ eZ ∧ CodeK K R P c' q ∧
  post (k eZ eC) (OkO K mg B bv R P σC D.rt) (fun _ _ => False)
def kLast (m : M Flw) : DEnv → M OD := fun eZ eC => match m eZ with
  | .ok (.rt x) _ => .ok x eC
  | _ => .no
def kCons (m : M Flw) (k : DEnv → M OD) : DEnv → M OD := fun eZ eC => match m eZ with
  | .ok .nx e2 => k e2 eC
  | .ok (.rt x) _ => .ok x eC
  | _ => .no
section
variable {Z : Cx} {B BZ : List Nat} {bz : Nat → V} {σC : L2.St} {c' : Addr} {q : Str} {st : Stmt} {rest : List Stmt} {m : M Flw} {k : DEnv → M OD}
theorem x_ret {bv : Nat → V} {R P H : Hp} {Fs Fz : Nat → List Addr} {eC : DEnv} {Q : VK} {x : OD} {v : V} {σ' : L2.St} {P' H' : Hp} {Fz' : Nat → List Addr} {G : List Addr} {e2 : DEnv} (S : Sta Z.K Z.mg B bv R P H Fs σC eC) (h : OkO Z.K Z.mg B bv R P σC Q x eC)
    (C : Sta Z.K Z.mg BZ bz (allR R H Fs) P' H' Fz' σ' e2) (pp : Same P P') (o : Ow Z.K Z.mg P' H' G v x) (f : Free (allR R H Fs) P' Fz' G) : Q v H' := by
  obtain ⟨S1, _⟩ := S.back1 C pp
  exact h v P' H' Fs G S1 pp o (Free.outR S f)
theorem x_last (h : PSs Z rest (tS Z.K Z.mg W0 BZ m)) : PSs Z rest (tX Z.K Z.mg B BZ bz σC c' q (kLast m)) := PSs_mono h fun D σZ H ⟨bv, R, P, Fs, Fz, eC, eZ, S, C, _, p⟩ => by
  refine ⟨bz, _, P, Fz, eZ, C, ?_⟩
  unfold kLast at p
  cases hm : m eZ with
  | no => rw [hm] at p; exact p.elim
  | ex x e => rw [hm] at p; exact p.elim
  | ok f e =>
    rw [hm] at p
    cases f with
    | rt x => exact fun v σ' P' H' Fz' G C' pp o f => x_ret (BZ := BZ) (bz := bz) (Fz := Fz) S p C' pp o f
    | nx => exact p.elim
    | bk => exact p.elim
    | ct => exact p.elim
theorem x_cons (h : PS Z st (tS Z.K Z.mg W0 BZ m)) (hr : PSs Z rest (tX Z.K Z.mg B BZ bz σC c' q k)) : PSs Z (st :: rest) (tX Z.K Z.mg B BZ bz σC c' q (kCons m k)) := PSs_mono (pss_cons h hr) fun D σZ H ⟨bv, R, P, Fs, Fz, eC, eZ, S, C, hc, p⟩ => by
  refine ⟨bz, _, P, Fz, eZ, C, ?_⟩
  unfold kCons at p
  cases hm : m eZ with
  | no => rw [hm] at p; exact p.elim
  | ex x e => rw [hm] at p; exact p.elim
  | ok f e =>
    rw [hm] at p
    cases f with
    | rt x => exact fun v σ' P' H' Fz' G C' pp o f => x_ret (BZ := BZ) (bz := bz) (Fz := Fz) S p C' pp o f
    | nx =>
      intro σ' P' H' Fz' C' pp
      obtain ⟨S1, eR⟩ := S.back1 C' pp
      refine ⟨bv, R, P', Fs, Fz', eC, e, S1, by rw [eR]; exact C', hc.mono pp, ?_⟩
      simp only at p
      cases hk : k e eC with
      | no => rw [hk] at p; exact p.elim
      | ex x e => rw [hk] at p; exact p.elim
      | ok x e2 => rw [hk] at p; exact fun v P2 H2 F2 G S2 s2 o f => p v P2 H2 F2 G S2 (pp.trans s2) o f
    | bk => exact p.elim
    | ct => exact p.elim
end
end DL

set_option maxHeartbeats 2000000
/-! DL82: try: x = a() except T as n: y = n, a the lambda that was handed on. -/
namespace DL
open PySem PySem.Spec PyProof.Rows L2 LamX
def kTry (lst : Bool) (xf yf n : Nat) (tbl : List (Str × Bool)) (ask : M OD) (k0 : DEnv → M OD) : DEnv → M OD := fun eZ eC => if pureE eZ = true then (match ask eC with
  | .ok x e2 => if xf < eZ.length then k0 (eZ.set xf (some (if lst = true then .lst [x] else x))) e2 else .no
  | .ex x e2 => (match takesB tbl x with
    | some true => k0 ((List.replicate n none).set yf (some (.exn x))) e2
    | _ => .no)
  | .no => .no) else .no
/-- what is told of the value that a() tells -/
def wrapQ (lst : Bool) (v : V) (H : Hp) (Q : VK) : Prop := if lst = true then ∀ p, H p = none → Q (.ref p) (upd H p (.lst [v])) else Q v H
def tLen (n : Nat) (t : TS) : TS := fun D σ H => σ.length = n → t D σ H
theorem pss_len {X : Cx} {ss : List Stmt} {t : TS} (h : PSs X ss t) : PSs X ss (tLen X.N.length t) := ⟨fun pins s σ H D I q => h.run pins s σ H D I (q I.len)⟩
theorem Sta.unpin {K : PySem.W.Frag} {mg : Str → Option Value} {B : List Nat} {bv bv2 : Nat → V} {R P H : Hp} {Fs : Nat → List Addr} {σ : L2.St} {env : DEnv} (S : Sta K mg B bv R P H Fs σ env) : Sta K mg [] bv2 R P H Fs σ env :=
  ⟨S.rh, S.tb, S.ph, S.rp, S.slot, S.dead, S.nd, S.dj, S.fr, S.fp, S.len, fun _ h => (nomatch h), S.nt⟩
section
variable {Z : Cx} {B : List Nat} {σC : L2.St} {f c' : Addr} {q : Str} {rest : List Stmt} {m : M OD} {k0 : DEnv → M OD} {te callE : Expr} {n yn xn : Str} {ni yi xi nn : Nat} {px ps py pn2 ps2 pos' pos : Pos} {tbl : List (Str × Bool)} {tE : XK → TE}
set_option maxHeartbeats 4000000 in
theorem x_try (lst : Bool) (hs : Z.stack = Z.env :: Z.outer) (hf : Z.env.frame = some Z.env.locals) (hN : Z.N.Nodup) (hex : Z.ex = []) (hnn : Z.N.length = nn) (hi : Z.N[ni]? = some n) (hln : Z.env.kindOf n = some .local) (hy : Z.N[yi]? = some yn) (hyl : Z.env.scope.names.lookup yn = some .local) (hx : Z.N[xi]? = some xn) (hxl : Z.env.scope.names.lookup xn = some .local)
    (hvn : Vis Z.env.scope n) (hny : ni ≠ yi) (hx0 : xi ≠ 0) (hsw : swapsWith callE (some (.Name xn px)) ps.line Z.env = pure false) (hsw2 : swapsWith (.Name n pn2) (some (.Name yn py)) ps2.line Z.env = pure false)
    (hd1 : (n == ("__debug__" : Str)) = false) (hd2 : (n == ("__classdict__" : Str)) = false)
    (hE : ∀ (W : WX) (pn : List (Addr × Obj)) (xe : Value → Shared → Prop) (E : XK), Takes (Z.tr pn xe) W → (∀ cls d σ' H', E cls d H' → W cls d σ' H') → PE (Z.tr pn xe) callE (tE E))
    (hEt : ∀ (E : XK) (σ : L2.St) (H : Hp) (Q : VK), σ[0]? = some (some (.ref f)) → H c' = some (CodeO c' q) → tO Z.K Z.mg (WF E) B m σC H (fun v H1 => wrapQ lst v H1 Q) → tE E σ H Q)
    (ht : ∀ a b, tbl.lookup a = some b → ∀ C', Z.mg a = some (.ref C') → TestOk Z te (.ref C') b)
    (h0 : PSs Z rest (tX Z.K Z.mg B [] (fun _ => .non) σC c' q k0)) :
    PSs Z (.Try [.Assign [.Name xn px] callE ps] [.ExceptHandler (some te) (some n) [.Assign [.Name yn py] (.Name n pn2) ps2] pos'] [] [] pos :: rest) (tX Z.K Z.mg B [0] (fun _ => .ref f) σC c' q (kTry lst xi yi nn tbl m k0)) := by
  subst hnn
  have hxiL : xi < Z.N.length := (List.getElem?_eq_some_iff.mp hx).1
  have hyiL : yi < Z.N.length := (List.getElem?_eq_some_iff.mp hy).1
  have hniL : ni < Z.N.length := (List.getElem?_eq_some_iff.mp hi).1
  refine PSs_mono (pss_try_as (te := te) (i := ni) (tb := fun W D σ H => ∃ E : XK, (∀ cls d σ' H', E cls d H' → W cls d σ' H') ∧ tE E σ H (fun v H1 => D.nx (σ.set xi (some v)) H1))
    (ts := fun _ _ _ => tLen Z.N.length (tAsg (tVar ni) (gName yi)))
    (Wout := W0) (pos' := pos') (pos := pos) hs hf hN hex hi hln L2.takes0 (fun W pn xe tk _ => ⟨fun pins s σ H D I ⟨E, hW, h⟩ => (pss_one (ps_set (X := Z.tr pn xe) hN hx (.inl hxl) (hE W pn xe E tk hW) hsw (.inr hxl))).run pins s σ H D I h⟩)
    (fun a oe cls d pn _ _ => pss_len (X := Z.suite a ((a, oe) :: pn)) (pss_one (ps_set (X := Z.suite a ((a, oe) :: pn)) hN hy (.inl hyl) (pe_var hi hvn hd1 hd2) hsw2 (.inr hyl)))) (pss_len h0)) fun D σZ H ⟨bv, R, P, Fs, Fz, eC, eZ, S, C, hc, p⟩ => ?_
  have hcode : H c' = some (CodeO c' q) := hc.at S
  have h0f : σZ[0]? = some (some (.ref f)) := C.pin 0 (by simp)
  unfold kTry at p
  by_cases hp : pureE eZ = true
  · rw [if_pos hp] at p
    cases hm : m eC with
    | no => rw [hm] at p; exact p.elim
    | ok x e2 =>
      rw [hm] at p
      simp only at p
      by_cases hl : xi < eZ.length
      · rw [if_pos hl] at p
        refine ⟨fun _ _ _ => False, fun _ _ _ _ z => z.elim, hEt _ _ _ _ h0f hcode ⟨bv, R, P, Fs, eC, S, ?_⟩⟩
        rw [hm]
        intro v P' H' Fs' G S' pp o fr
        have C1 : Sta Z.K Z.mg [] (fun _ => V.non) (allR R H' Fs') P' H' (fun _ => []) σZ eZ := (C.pureK hp S' pp).unpin
        have fin : ∀ {w : V} {y : OD} {H2 : Hp} {G2 : List Addr}, Sta Z.K Z.mg B bv R P' H2 Fs' σC e2 → Sta Z.K Z.mg [] (fun _ => .non) (allR R H2 Fs') P' H2 (fun _ => []) σZ eZ → Ow Z.K Z.mg P' H2 G2 w y → Free R P' Fs' G2 → y = (if lst = true then OD.lst [x] else x) →
            tLen Z.N.length (tX Z.K Z.mg B [] (fun _ => .non) σC c' q k0) D (σZ.set xi (some w)) H2 := fun {w y H2 G2} S2 C2 o2 f2 ey _ => by
          have fz : Free (allR R H2 Fs') P' (fun _ => []) G2 := ⟨f2.nd, fun a ha => by rw [allR_out fun ⟨i, z⟩ => f2.f a ha i z]; exact f2.r a ha, f2.p, fun _ _ _ z => (nomatch z)⟩
          refine ⟨bv, R, P', Fs', _, e2, eZ.set xi (some y), S2, C2.store o2 fz (by simp) hl, hc.mono pp, ?_⟩
          rw [ey]
          cases hk : k0 (eZ.set xi (some (if lst = true then OD.lst [x] else x))) e2 with
          | no => rw [hk] at p; exact p.elim
          | ex x e => rw [hk] at p; exact p.elim
          | ok z e => rw [hk] at p; exact fun v P2 H2 F2 G S2 s2 o f => p v P2 H2 F2 G S2 (pp.trans s2) o f
        cases lst with
        | false => exact fin S' C1 o fr rfl
        | true =>
          intro pA hA
          have S2 := S'.ext (ext_heap S'.ph (.lst [v]) hA)
          have o2 : Ow Z.K Z.mg P' (upd H' pA (.lst [v])) (pA :: (G ++ [])) (.ref pA) (.lst [x]) := .lst upd_same (.cons (o.keep (Same.refl _) fun a ha ob e => by rw [upd_ne fun z => by rw [z, hA] at e; cases e]; exact e) .nil)
          obtain ⟨hR, hP, hF⟩ := S'.dh hA
          have f2 : Free R P' Fs' (pA :: (G ++ [])) := by
            rw [List.append_nil]
            refine ⟨List.nodup_cons.mpr ⟨fun z => ?_, fr.nd⟩, fun a ha => ?_, fun a ha => ?_, fun a ha i => ?_⟩
            · obtain ⟨ob, e⟩ := o.there _ z
              rw [hA] at e; cases e
            · rcases List.mem_cons.mp ha with rfl | ha; exact hR; exact fr.r a ha
            · rcases List.mem_cons.mp ha with rfl | ha; exact hP; exact fr.p a ha
            · rcases List.mem_cons.mp ha with rfl | ha; exact hF i; exact fr.f a ha i
          exact fin S2 (C.pureK hp S2 pp).unpin o2 f2 rfl
      · rw [if_neg hl] at p; exact p.elim
    | ex x e2 =>
      rw [hm] at p
      simp only at p
      cases htb : takesB tbl x with
      | none => rw [htb] at p; exact p.elim
      | some b =>
        cases b with
        | false => rw [htb] at p; exact p.elim
        | true =>
          rw [htb] at p
          simp only at p
          refine ⟨fun cls d H' => ∀ σ', wAsR Z te ni (fun _ _ _ => tLen Z.N.length (tAsg (tVar ni) (gName yi))) W0 D (tLen Z.N.length (tX Z.K Z.mg B [] (fun _ => .non) σC c' q k0)) cls d σ' H', fun _ _ σ' _ z => z σ', hEt _ _ _ _ h0f hcode ⟨bv, R, P, Fs, eC, S, ?_⟩⟩
          rw [hm]
          intro cls dx P' H' Fs' S' pp hxn σ'
          have hcl : clsOf Z.mg cls dx x := ⟨hxn.1, fun z => by have := hxn.2; rw [z] at this; exact this⟩
          have htest : TestOk Z te cls true := by
            unfold takesB at htb
            obtain ⟨hcl, _⟩ := hcl
            obtain ⟨xc, xf⟩ := x
            cases xc with
            | own c =>
              obtain ⟨C', e1, e2⟩ := hcl
              rw [e2]
              exact ht c true htb C' e1
            | bt c => cases htb
          refine ⟨true, htest, fun _ a na => fun hl1 => ?_, fun z => by cases z⟩
          have hl0 : σ'.length = Z.N.length := by simpa using hl1
          refine ⟨.ref a, by rw [List.getElem?_set_self (by rw [hl0]; exact hniL)], fun hna hl2 => ?_⟩
          have S2 := S'.ext (ext_new S'.ph (ExcO cls dx a) hna)
          have s2 : Same P' (upd P' a (ExcO cls dx a)) := (ext_new S'.ph (ExcO cls dx a) hna).pp
          have hff : ∀ f e, x.fld = some (f, e) → ∃ dd v, dx = some dd ∧ upd P' a (ExcO cls dx a) dd = some (.xd [(f, v)]) ∧ Rp Z.K (upd P' a (ExcO cls dx a)) v e := fun f e z => by
            have h0 := hxn.2
            rw [z] at h0
            obtain ⟨dd, v, h1, h2, h3⟩ := h0
            exact ⟨dd, v, h1, s2 _ _ h2, h3.mono s2⟩
          have C2 := (S2.bare (BZ := []) (bz := fun _ => .non) hl2 (fun j hj => (nomatch hj))).store (i := yi) (v := .ref a) (.exn hcl upd_same hff) Free.nil (by simp) (by rw [List.length_replicate]; exact hyiL)
          have e0 : (((σ'.set ni (some (.ref a))).set yi (some (.ref a))).set ni none).set yi (some (.ref a)) = ((σ'.set ni (some (.ref a))).set yi (some (.ref a))).set ni none := by
            rw [List.set_comm _ _ hny, List.set_set, List.set_comm _ _ hny.symm]
          rw [e0] at C2
          refine ⟨bv, R, _, Fs', _, e2, (List.replicate Z.N.length none).set yi (some (.exn x)), S2, C2, (hc.mono pp).mono s2, ?_⟩
          cases hk : k0 ((List.replicate Z.N.length none).set yi (some (.exn x))) e2 with
          | no => rw [hk] at p; exact p.elim
          | ex x e => rw [hk] at p; exact p.elim
          | ok z e => rw [hk] at p; exact fun v P2 H2 F2 G S2' s2' o f => p v P2 H2 F2 G S2' ((pp.trans s2).trans s2') o f
  · rw [if_neg hp] at p; exact p.elim
end
end DL

set_option maxHeartbeats 2000000
/-! DL83: f(lambda: e), f a def that catches; isinstance and is None of caught exceptions. -/
namespace DL
open PySem PySem.Spec PyProof.Rows L2 LamX PySem.W
abbrev gCx (X : Cx) (Ng : List Str) (x : Str) (sg : Scope) (g : Addr) (cdg : Value) (s : Shared) (H : Hp) : Cx := cxOf C8.CX0 X.prog X.w X.K X.mg X.base Ng x sg g cdg X.A X.stack s H C8.E0
section
variable {X : Cx} {pins : List (Addr × Obj)} {σ : L2.St} {H : Hp} {s : Shared}
/-- a(), in the def that got the lambda: as pe_act, the guards known -/
theorem pe_actG {CXg : CXT} {Eg : XK} {Ng : List Str} {qg : Str} {sg : Scope} {g f c' : Addr} {cdg pm ctv : Value} {params : Arguments} {body : Expr} {scope : Scope} {k i : Nat} {a : Str} {pn : List (Addr × Obj)} {xe : Value → Shared → Prop} {W : WX} {E : XK} {tb : TE} {p1 p2 : Pos}
    (I : L2.Inv X pins σ H s) (L : LamS X.env.scope scope) (hf : s.heap.get? f = some (PySem.W.kla_obj "<lambda>" (X.env.qual ++ "<lambda>") params body scope (cloFrom X.env.cells scope.names []) pm c' ctv)) (hfn : H f = none) (hfr : f ∉ frs X.stack)
    (hbind : bindArgs (PySem.W.kla_fn "<lambda>" (X.env.qual ++ "<lambda>") params body scope (cloFrom X.env.cells scope.names []) pm (.ref c') ctv) ⟨[], []⟩ = pure [])
    (tk : Takes ((cxOf CXg X.prog X.w X.K X.mg X.base Ng qg sg g cdg X.A X.stack s H Eg).tr pn xe) W) (hW : ∀ cls d σ' H', E cls d H' → W cls d σ' H') (hr : Room (k + 1) (X.A.deeper (envOfC qg sg s.heap.objs.size g cdg)))
    (hbody : ∀ (A : Around) (outer : List Env) (s : Shared) (H : Hp), A.guards = X.A.guards → Room k (A.deeper (lamEnv X scope s.heap.objs.size f c')) → PE (lamCx X A outer s H E scope f c') body tb)
    (hN : Ng[i]? = some a) (hv : Vis sg a) (hd : (a == ("__debug__" : Str)) = false) (hcd : (a == ("__classdict__" : Str)) = false) :
    PE ((cxOf CXg X.prog X.w X.K X.mg X.base Ng qg sg g cdg X.A X.stack s H Eg).tr pn xe) (.Call (.Name a p1) [] [] p2)
      (fun σZ HZ Q => σZ[i]? = some (some (.ref f)) ∧ HZ c' = some (CodeO c' (X.env.qual ++ "<lambda>")) ∧ tb σ HZ Q) := by
  refine ⟨fun pinsZ sZ σZ HZ Q IZ ⟨hs, hc, ht⟩ => ?_⟩
  refine wpAny_Call_Name_kw (thn ((pe_var (pos := p1) (i := i) hN hv hd hcd).run pinsZ sZ σZ HZ (fun v H1 => v = .ref f ∧ H1 = HZ) IZ ⟨.ref f, hs, rfl, rfl⟩) fun u s1 ⟨v, H1, I1, r1, ev, eH⟩ => ?_)
  subst ev
  rw [eH] at I1
  obtain rfl : u = Value.ref f := r1
  have of1 := I1.base.keep f _ hf hfn hfr (fun z => nomatch (show f ∈ ([] : List Addr) from z))
  have of1 : s1.heap.get? f = some (PySem.W.kla_obj "<lambda>" (X.env.qual ++ "<lambda>") params body scope (cloFrom X.env.cells scope.names []) pm c' ctv) := of1
  refine PySem.W.callWith_F0 ⟨_, _, _, _, of1⟩ ?_
  have un : Un (frs X.stack) [] H HZ s.heap s1.heap := I1.base
  obtain ⟨⟨oc, vs, t, hoc, hdc, hvc⟩, _, _⟩ := I1.hok c' _ hc
  have rc : codeAny (model X.prog X.w) (X.A.deeper (envOfC qg sg s.heap.objs.size g cdg)) (.call (.ref f) ⟨[], []⟩) (CR (L2.CX X.prog X.w) (envOfC qg sg s.heap.objs.size g cdg :: X.stack) X.prog X.w HZ s1 Q E) s1 := by
    refine PySem.W.kla_callFunE hr.depth of1 rfl L.co L.gen rfl ⟨c', oc, vs, t, rfl, hoc, hdc, hvc⟩ ?_
    rw [hbind]
    refine wpAny_pure (wpAny_newFunctionEnv (fun y hy => (L.own y hy).2) (fun y hy => absurd hy (by simp)) (fun h₁ hns hsb => ⟨I1.nolimit.fresh _ hsb, ?_⟩) L.kind)
    have kp : ∀ b o, s1.heap.get? b = some o → h₁.get? b = some o := fun b o e => hsb.extBut b o (Nat.ne_of_lt (Heap.lt_size e)) (Heap.get?_push_of_some _ e)
    have J : L2.Inv (lamCx X (X.A.deeper (envOfC qg sg s.heap.objs.size g cdg)) (envOfC qg sg s.heap.objs.size g cdg :: X.stack) s1 HZ E scope f c') [] σ HZ { s1 with heap := h₁, toks := s1.toks + ([] : List (Str × Value)).length } := lam_start2 I L I1.env0 hr.hd un hns kp
    refine PySem.W.kla_codeExpr (wpAny_mono ((hbody (X.A.deeper (envOfC qg sg s.heap.objs.size g cdg)) (envOfC qg sg s.heap.objs.size g cdg :: X.stack) s1 HZ rfl (hr.deeper _)).run [] _ _ HZ Q J ht) (fun v s' hq => ?_) fun e s' hq => hq)
    obtain ⟨w', H', J', rv, q⟩ := hq
    exact ⟨w', H', J'.os, J'.bare, J'.base, J'.hok, rv, q⟩
  have hx : Passes (L2.CX X.prog X.w) ((cxOf CXg X.prog X.w X.K X.mg X.base Ng qg sg g cdg X.A X.stack s H Eg).tr pn xe) E := passes_call tk hW
  refine wpAny_call (codeAny_mono rc fun r s' hq => ?_)
  cases r with
  | error e => exact hx pinsZ σZ HZ s1 e s' I1 hq
  | ok fl =>
    cases fl with
    | ret u => exact I1.after hq
    | next => exact False.elim hq
    | brk => exact False.elim hq
    | cont => exact False.elim hq
end
def M.heard (n : Nat) (kA : M OD → DEnv → M OD) (m : M OD) : M OD := fun eC => match kA m (List.replicate n none) eC with
  | .ok x e => .ok x e
  | _ => .no
theorem takesL {X : Cx} {A : Around} {outer : List Env} {s : Shared} {H : Hp} {E : XK} {scope : Scope} {f c' : Addr} : Takes (lamCx X A outer s H E scope f c') (WF E) := takes_of (E := E) rfl rfl rfl rfl
section
variable {X : Cx} {W : WX} {B : List Nat}
end
/-! ### isinstance of a caught exception -/
def rIsX (K : PySem.W.Frag) : List V → Hp → VK → Prop := fun xs H Q => ∃ (a D : Addr) (dx : Option Addr) (c : V) (cv : Value) (b : Bool), xs = [.ref a, c] ∧ H a = some (ExcO (.ref D) dx a) ∧ (∀ dd, dx = some dd → ∃ fs, H dd = some (.xd fs)) ∧ ExcC K D ∧ (∀ u, RelV c u → u = cv) ∧ PySem.W.kitOne K (.ref D) cv = some b ∧ Q (.bl b) H
def rIsXT (K : PySem.W.Frag) : List V → Hp → VK → Prop := fun xs H Q => ∃ (a D tp : Addr) (dx : Option Addr) (cs : List V) (us : List Value) (b : Bool), xs = [.ref a, .ref tp] ∧ H a = some (ExcO (.ref D) dx a) ∧ (∀ dd, dx = some dd → ∃ fs, H dd = some (.xd fs)) ∧ ExcC K D ∧ H tp = some (.tup cs) ∧ (∀ ws, Vals cs ws → ws = us) ∧ PySem.W.kitAny K (.ref D) us = some b ∧ Q (.bl b) H
section
variable {X : Cx}
theorem inst_exc {pins : List (Addr × Obj)} {σ : L2.St} {H : Hp} {s : Shared} {a D : Addr} {dx : Option Addr} (I : L2.Inv X pins σ H s) (h : H a = some (ExcO (.ref D) dx a)) (hd : ∀ dd, dx = some dd → ∃ fs, H dd = some (.xd fs)) : ∃ ox od, PySem.W.InstAt s.heap a ox D od := by
  obtain ⟨⟨oe, vs, h1, h2, h3⟩, _⟩ := I.hok a _ h
  obtain ⟨oc, od, oda, osl⟩ := oe
  obtain ⟨e1, e2⟩ := h2
  dsimp only at e1 e2 h3
  subst e1 e2 h3
  cases od with
  | none => exact ⟨_, none, h1, rfl, rfl, trivial⟩
  | some dd =>
    obtain ⟨fs, hf⟩ := hd dd rfl
    obtain ⟨mA, hns, _⟩ := (show ObjOk X.prog X.w H s.heap dd (.xd fs) from I.hok dd _ hf)
    obtain ⟨od, ho, _⟩ := lookIn_ns hns
    exact ⟨_, some od, h1, rfl, rfl, ho⟩
theorem cls_some {K : PySem.W.Frag} {D : Addr} (h : PySem.W.hasDictIn K D = true) : (PySem.W.clsIn K D).isSome = true := by
  unfold PySem.W.hasDictIn at h
  cases e : PySem.W.clsIn K D with
  | none => rw [e] at h; cases h
  | some c => rfl
theorem call_isX : CallR X (.builtin "isinstance") (rIsX X.K) := by
  intro pins s σ H xs us Q I r h
  obtain ⟨a, D, dx, c, cv, b, rfl, ha, hdx, C, hcv, e, q⟩ := h
  obtain ⟨u1, u2, rfl, r1, r2⟩ := vals2 r
  cases (show u1 = Value.ref a from r1)
  have ec := hcv _ r2
  subst ec
  obtain ⟨ox, od, J⟩ := inst_exc I ha hdx
  exact PySem.W.kia_one (PySem.W.kitx_exc (cls_some C.hd) C.hg C.hk C.hs C.ha C.hn C.ht C.hm) I.kIn J e (fun z => nomatch z) fun tk => ⟨.bl b, H, I.tok tk, rfl, q⟩
theorem call_isXT : CallR X (.builtin "isinstance") (rIsXT X.K) := by
  intro pins s σ H xs us Q I r h
  obtain ⟨a, D, tp, dx, cs, ws, b, rfl, ha, hdx, C, hT, hw, e, q⟩ := h
  obtain ⟨u1, u2, rfl, r1, r2⟩ := vals2 r
  cases (show u1 = Value.ref a from r1)
  cases (show u2 = Value.ref tp from r2)
  obtain ⟨ox, od, J⟩ := inst_exc I ha hdx
  obtain ⟨_, its, rv, o, h1, h2, n, h3⟩ := (show ObjOk X.prog X.w H s.heap tp (.tup cs) from I.hok tp _ hT)
  have e3 := hw _ rv
  subst e3
  obtain ⟨oc, od, dt, sl⟩ := o
  simp only at h2 h3
  subst h2 h3
  exact PySem.W.kia_tup (PySem.W.kitx_exc (cls_some C.hd) C.hg C.hk C.hs C.ha C.hn C.ht C.hm) I.kIn J h1 e (fun z => nomatch z) fun tk => ⟨.bl b, H, I.tok tk, rfl, q⟩
end
/-- classes, told one after the other -/
def tCs (cs : List V) : TA := fun _ H Q => Q cs H
theorem pcs_nil {X : Cx} : PA X [] (tCs []) := PA_mono pa_nil fun _ _ _ q => q
theorem pcs_cons {X : Cx} {e : Expr} {es : List Expr} {v : V} {cs : List V} (h : PE X e (tC v)) (r : PA X es (tCs cs)) (hs : starEach (e :: es) X.env = (false, eval e X.env) :: starEach es X.env := by rfl) : PA X (e :: es) (tCs (v :: cs)) := PA_mono (pa_cons h r hs) fun _ _ _ q => q
def isXb (tbl : List (Str × Bool)) : OD → Option Bool
  | .exn x => takesB tbl x
  | _ => none
def M.isX (i : Nat) (tbl : List (Str × Bool)) : M PyData := fun env => match ((env[i]?).join).bind (isXb tbl) with
  | some b => .ok (.bool b) env
  | none => .no
def M.isN (i : Nat) : M Bool := fun env => match (env[i]?).join with
  | some (.pur d) => (match isD d .none with
    | some (.bool b) => .ok b env
    | _ => .no)
  | some (.exn _) => .ok false env
  | _ => .no
section
variable {X : Cx} {W : WX} {B : List Nat} {y : Str} {p p2 p3 pos : Pos} {ce : Expr} {c : V} {cv : Value} {tbl : List (Str × Bool)}
theorem exn_at {bv : Nat → V} {R P H : Hp} {Fs : Nat → List Addr} {σ : L2.St} {env : DEnv} {i : Nat} {b : Bool} (S : Sta X.K X.mg B bv R P H Fs σ env) (h : ((env[i]?).join).bind (isXb tbl) = some b) :
    ∃ a C dx, σ[i]? = some (some (.ref a)) ∧ H a = some (ExcO (.ref C) dx a) ∧ P a = some (ExcO (.ref C) dx a) ∧ (∀ dd, dx = some dd → ∃ fs, H dd = some (.xd fs)) ∧ ∃ n, tbl.lookup n = some b ∧ X.mg n = some (.ref C) := by
  obtain ⟨o, h1, h2⟩ := Option.bind_eq_some_iff.mp h
  obtain ⟨v, h3, h4⟩ := S.slot i o (join_some h1)
  cases o with
  | exn x =>
    unfold isXb at h2
    simp only at h2
    unfold takesB at h2
    generalize Fs i = F at h4
    cases h4 with
    | @exn a cls d _ hc hp hf =>
      obtain ⟨c1, c2⟩ := hc
      obtain ⟨xc, xf⟩ := x
      cases xc with
      | own n =>
        obtain ⟨C, m1, m2⟩ := c1
        rw [m2] at hp
        refine ⟨a, C, d, h3, S.ph _ _ hp, hp, fun dd e => ?_, n, h2, m1⟩
        cases xf with
        | none =>
          have dn := c2 rfl
          rw [dn] at e
          cases e
        | some p =>
          obtain ⟨dd', v', e1, e2, _⟩ := hf p.1 p.2 rfl
          rw [e1] at e
          cases e
          exact ⟨_, S.ph _ _ e2⟩
      | bt n => cases h2
  | _ => cases h2
theorem ed_isX (i : Nat) (tbl : List (Str × Bool)) (hg : Gl X "isinstance") (hm : X.mg "isinstance" = none) (hce : PE X ce (tC c)) (hcv : ∀ u, RelV c u → u = cv)
    (ht : ∀ n b, tbl.lookup n = some b → ∀ C', X.mg n = some (.ref C') → ExcC X.K C' ∧ PySem.W.kitOne X.K (.ref C') cv = some b) (hN : X.N[i]? = some y := by rfl) (hv : Vis X.env.scope y := by first | exact Or.inl rfl | exact Or.inr (Or.inl rfl) | exact Or.inr (Or.inr rfl)) (hd : (y == ("__debug__" : Str)) = false := by decide) (hcd : (y == ("__classdict__" : Str)) = false := by decide)
    (hs1 : starEach [.Name y p2, ce] X.env = (false, eval (.Name y p2) X.env) :: starEach [ce] X.env := by rfl) (hs2 : starEach [ce] X.env = (false, eval ce X.env) :: starEach [] X.env := by rfl) (hpl : (backTo pos (starEach [ce] X.env)).any (·.1) = false := by rfl) :
    ED X W B (.Call (.Name "isinstance" p) [.Name y p2, ce] [] pos) (M.isX i tbl) :=
  PE_mono (pe_callB (call_isX) hg hm (by decide +kernel) (pa_cons (pe_var hN hv hd hcd) (pa_cons hce pa_nil hs2) hs1) (by decide) (by decide) hs1 hpl) fun σ H Q ⟨bv, R, P, Fs, env, S, q⟩ => by
    unfold M.isX at q
    cases hb : ((env[i]?).join).bind (isXb tbl) with
    | none => rw [hb] at q; exact q.elim
    | some b =>
      rw [hb] at q
      obtain ⟨a, C, dx, h1, h2, h3, hdx, n, h4, h5⟩ := exn_at S hb
      obtain ⟨k1, k2⟩ := ht n b h4 C h5
      exact ⟨.ref a, h1, a, C, dx, c, cv, b, rfl, h2, hdx, k1, hcv, k2, q (.bl b) P H Fs S (Same.refl _) (.bl b)⟩
theorem ed_isXT {ces : List Expr} {cs : List V} {us : List Value} {ctx : Nat} (i : Nat) (tbl : List (Str × Bool)) (hg : Gl X "isinstance") (hm : X.mg "isinstance" = none) (hce : PA X ces (tCs cs)) (hcl : cs.length ≤ 100) (hcv : ∀ ws, Vals cs ws → ws = us)
    (ht : ∀ n b, tbl.lookup n = some b → ∀ C', X.mg n = some (.ref C') → ExcC X.K C' ∧ PySem.W.kitAny X.K (.ref C') us = some b) (hN : X.N[i]? = some y := by rfl) (hv : Vis X.env.scope y := by first | exact Or.inl rfl | exact Or.inr (Or.inl rfl) | exact Or.inr (Or.inr rfl)) (hd : (y == ("__debug__" : Str)) = false := by decide) (hcd : (y == ("__classdict__" : Str)) = false := by decide)
    (hs1 : starEach [.Name y p2, .Tuple ces ctx p3] X.env = (false, eval (.Name y p2) X.env) :: starEach [.Tuple ces ctx p3] X.env := by rfl) (hs2 : starEach [.Tuple ces ctx p3] X.env = (false, eval (.Tuple ces ctx p3) X.env) :: starEach [] X.env := by rfl) (hpl : (backTo pos (starEach [.Tuple ces ctx p3] X.env)).any (·.1) = false := by rfl) :
    ED X W B (.Call (.Name "isinstance" p) [.Name y p2, .Tuple ces ctx p3] [] pos) (M.isX i tbl) :=
  PE_mono (pe_callB (call_isXT) hg hm (by decide +kernel) (pa_cons (pe_var hN hv hd hcd) (pa_cons (pe_tup hce) pa_nil hs2) hs1) (by decide) (by decide) hs1 hpl) fun σ H Q ⟨bv, R, P, Fs, env, S, q⟩ => by
    unfold M.isX at q
    cases hb : ((env[i]?).join).bind (isXb tbl) with
    | none => rw [hb] at q; exact q.elim
    | some b =>
      rw [hb] at q
      obtain ⟨a, C, dx, h1, h2, h3, hdx, n, h4, h5⟩ := exn_at S hb
      obtain ⟨k1, k2⟩ := ht n b h4 C h5
      refine ⟨.ref a, h1, by rw [sizeLine_eq]; omega, fun tp htp => ⟨a, C, tp, dx, cs, us, b, rfl, ?_, fun dd e => ?_, k1, upd_same, hcv, k2, ?_⟩⟩
      · rw [upd_ne fun z => by rw [z, htp] at h2; cases h2]; exact h2
      · obtain ⟨fs, hfs⟩ := hdx dd e
        exact ⟨fs, by rw [upd_ne fun z => by rw [z, htp] at hfs; cases hfs]; exact hfs⟩
      · have e := ext_heap S.ph (.tup cs) htp
        exact q (.bl b) P _ Fs (S.ext e) e.pp (.bl b)
theorem td_isNX (i : Nat) {j : Nat} (hN : X.N[i]? = some y := by rfl) (hv : Vis X.env.scope y := by first | exact Or.inl rfl | exact Or.inr (Or.inl rfl) | exact Or.inr (Or.inr rfl)) (hd : (y == ("__debug__" : Str)) = false := by decide) (hcd : (y == ("__classdict__" : Str)) = false := by decide) :
    TD X W B (.Compare (.Name y p2) [.Is] [.Constant .none j p3] pos) (M.isN i) :=
  PT_mono (pt_cmpR op_isP (pe_var hN hv hd hcd) pe_non (by first | exact nomark _ | rfl)) fun σ H Q ⟨bv, R, P, Fs, env, S, q⟩ => by
    unfold M.isN at q
    cases ho : (env[i]?).join with
    | none => rw [ho] at q; exact q.elim
    | some o =>
      rw [ho] at q
      obtain ⟨v, h1, h2⟩ := S.slot i o (join_some ho)
      refine ⟨v, h1, .inl ⟨rfl, ?_⟩⟩
      cases o with
      | pur d =>
        simp only at q
        have r := h2.pur_inv
        cases hz : isD d .none with
        | none => rw [hz] at q; exact q.elim
        | some z =>
          rw [hz] at q
          cases z with
          | bool b =>
            have eb : decide (v = V.non) = b := by
              cases r <;> (cases hz; simp)
            exact ⟨_, rfl, by rw [eb]; exact q P H Fs S (Same.refl _)⟩
          | _ => exact q.elim
      | exn x =>
        generalize Fs i = F at h2
        cases h2
        exact ⟨_, rfl, by simp; exact q P H Fs S (Same.refl _)⟩
      | _ => exact q.elim
end
end DL

set_option maxHeartbeats 2000000
/-! DL84: facts about classes of refusals, tables of them; a def that catches, for the maker's derivation. -/
namespace DL
open PySem PySem.Spec PyProof.Rows L2 LamX PySem.W
section
variable {fa : List He.Fa} {fn : List He.DefD} {tb : Tbs} {K : PySem.W.Frag} {mg : Str → Option Value} {base : Heap}
theorem Cm.xt (C : Cm fa fn tb K mg base) (i : Nat) {ds : List He.Dv} (h : tb[i]? = some (("<x>" : Str), ds) := by rfl) : xtB K ds = true := by
  have z := List.all_eq_true.mp C.tbs _ (List.mem_of_getElem? h)
  have e1 : (("<x>" : Str) == "<lambda>") = false := by decide
  simp only [e1, Bool.false_eq_true, if_false, beq_self_eq_true, if_true] at z
  exact z
theorem excCB_ok {D : Addr} (h : excCB K D = true) : ExcC K D := by
  unfold excCB at h
  simp only [Bool.and_eq_true, decide_eq_true_eq] at h
  obtain ⟨h1, h2, h3, h4, h5, h6, h7, h8⟩ := h
  exact ⟨h1, h2, h3, h4, h5, h6, h7, h8⟩
/-- what isinstance tells of the classes of a table -/
def XT (K : PySem.W.Frag) (mg : Str → Option Value) (ds : List He.Dv) (tbl : List (Str × Bool)) : Prop := ∀ n b, tbl.lookup n = some b → ∀ C', mg n = some (.ref C') → ExcC K C' ∧ PySem.W.kitAny K (.ref C') (ds.map (dvC K)) = some b
/-- what a clause of classes takes -/
def XM (K : PySem.W.Frag) (mg : Str → Option Value) (ds : List He.Dv) (tbl : List (Str × Bool)) : Prop := ∀ n b, tbl.lookup n = some b → ∀ C', mg n = some (.ref C') → PySem.W.exmAny K (.ref C') (ds.map (dvC K)) = some b
theorem xt_nil {ds : List He.Dv} : XT K mg ds [] := fun _ _ h => by cases h
theorem xm_nil {ds : List He.Dv} : XM K mg ds [] := fun _ _ h => by cases h
theorem xt_cons (C : Cm fa fn tb K mg base) (i j k : Nat) {c : Str} {b : Bool} {ds : List He.Dv} {tbl : List (Str × Bool)} (r : XT K mg ds tbl) (h1 : fa[i]? = some (.glo c) := by rfl) (h2 : tb[j]? = some (("<x>" : Str), [.str c]) := by rfl) (h3 : tb[k]? = some (("<x>" : Str), .bl b :: .str c :: ds) := by rfl) : XT K mg ds ((c, b) :: tbl) := fun n b' hl C' hm => by
  rw [List.lookup_cons] at hl
  by_cases e : (n == c) = true
  · rw [e] at hl
    cases hl
    have := eq_of_beq e
    subst this
    have e2 := C.glo _ h1
    rw [e2] at hm
    cases hm
    refine ⟨excCB_ok ?_, ?_⟩
    · exact C.xt j h2
    · exact of_decide_eq_true (C.xt k h3)
  · have e2 : (n == c) = false := by simpa using e
    rw [e2] at hl
    exact r n b' hl C' hm
theorem xm_cons (C : Cm fa fn tb K mg base) (i k : Nat) {c : Str} {b : Bool} {z : Int} {ds : List He.Dv} {tbl : List (Str × Bool)} (r : XM K mg ds tbl) (h1 : fa[i]? = some (.glo c) := by rfl) (h3 : tb[k]? = some (("<x>" : Str), .int z :: .bl b :: .str c :: ds) := by rfl) : XM K mg ds ((c, b) :: tbl) := fun n b' hl C' hm => by
  rw [List.lookup_cons] at hl
  by_cases e : (n == c) = true
  · rw [e] at hl
    cases hl
    have := eq_of_beq e
    subst this
    have e2 := C.glo _ h1
    rw [e2] at hm
    cases hm
    exact of_decide_eq_true (C.xt k h3)
  · have e2 : (n == c) = false := by simpa using e
    rw [e2] at hl
    exact r n b' hl C' hm
theorem XT.one {d : He.Dv} {tbl : List (Str × Bool)} (h : XT K mg [d] tbl) : ∀ n b, tbl.lookup n = some b → ∀ C', mg n = some (.ref C') → ExcC K C' ∧ PySem.W.kitOne K (.ref C') (dvC K d) = some b := fun n b hl C' hm => by
  obtain ⟨h1, h2⟩ := h n b hl C' hm
  refine ⟨h1, ?_⟩
  simp only [List.map_cons, List.map_nil, PySem.W.kitAny] at h2
  split at h2 <;> simp_all
end
/-- the values of classes, told by facts -/
def dvV (K : PySem.W.Frag) : He.Dv → V
  | .str d => .ref (He.ga K d)
  | .ty n => .ty n
  | _ => .non
theorem rel_dvC {K : PySem.W.Frag} {d : He.Dv} : ∀ u, RelV (dvV K d) u → u = dvC K d := fun u h => by
  cases d <;> exact h
theorem vals_dvC {K : PySem.W.Frag} : ∀ {ds : List He.Dv} {ws : List Value}, Vals (ds.map (dvV K)) ws → ws = ds.map (dvC K)
  | [], _, .nil => rfl
  | d :: ds, _, .cons h t => by rw [rel_dvC _ h, vals_dvC t]; rfl
section
variable {X : Cx} {W : WX} {B : List Nat}
/-- a class's name -/
theorem pe_cls {x : Str} {a : Addr} {p : Pos} (hg : Gl X x) (hm : X.mg x = some (.ref a)) (hdb : (x == ("__debug__" : Str)) = false := by decide) : PE X (.Name x p) (tC (.ref a)) := pe_glob (v := .ref a) hg hm rfl hdb
end
section
variable {Z : Cx} {B : List Nat} {σC : L2.St} {f c' : Addr} {q : Str} {rest : List Stmt} {m : M OD} {k0 : DEnv → M OD} {te callE : Expr} {n yn xn : Str} {ni yi xi nn : Nat} {px ps py pn2 ps2 pos' pos : Pos} {tbl : List (Str × Bool)}
/-- try: x = a() except (T1, T2) as n: y = n -/
theorem x_tryN (tbl : List (Str × Bool)) (hs : Z.stack = Z.env :: Z.outer) (hf : Z.env.frame = some Z.env.locals) (hN : Z.N.Nodup) (hex : Z.ex = []) (hnn : Z.N.length = nn) (hi : Z.N[ni]? = some n) (hln : Z.env.kindOf n = some .local) (hy : Z.N[yi]? = some yn) (hyl : Z.env.scope.names.lookup yn = some .local) (hx : Z.N[xi]? = some xn) (hxl : Z.env.scope.names.lookup xn = some .local)
    (hvn : Vis Z.env.scope n) (hny : ni ≠ yi) (hx0 : xi ≠ 0) (hsw : swapsWith callE (some (.Name xn px)) ps.line Z.env = pure false) (hsw2 : swapsWith (.Name n pn2) (some (.Name yn py)) ps2.line Z.env = pure false)
    (hd1 : (n == ("__debug__" : Str)) = false) (hd2 : (n == ("__classdict__" : Str)) = false)
    (hE : ∀ (W : WX) (pn : List (Addr × Obj)) (xe : Value → Shared → Prop) (E : XK), Takes (Z.tr pn xe) W → (∀ cls d σ' H', E cls d H' → W cls d σ' H') → PE (Z.tr pn xe) callE (fun σZ HZ Q => σZ[0]? = some (some (.ref f)) ∧ HZ c' = some (CodeO c' q) ∧ tO Z.K Z.mg (WF E) B m σC HZ Q))
    (ht : ∀ a b, tbl.lookup a = some b → ∀ C', Z.mg a = some (.ref C') → TestOk Z te (.ref C') b)
    (h0 : PSs Z rest (tX Z.K Z.mg B [] (fun _ => .non) σC c' q k0)) :
    PSs Z (.Try [.Assign [.Name xn px] callE ps] [.ExceptHandler (some te) (some n) [.Assign [.Name yn py] (.Name n pn2) ps2] pos'] [] [] pos :: rest) (tX Z.K Z.mg B [0] (fun _ => .ref f) σC c' q (kTry false xi yi nn tbl m k0)) :=
  x_try false hs hf hN hex hnn hi hln hy hyl hx hxl hvn hny hx0 hsw hsw2 hd1 hd2 hE (fun E σ H Q h1 h2 h3 => ⟨h1, h2, h3⟩) ht h0
end
/-- a def that catches what its lambda raises -/
def HrdK (K : PySem.W.Frag) (mg : Str → Option Value) (x a : Str) (Ng : List Str) (sg : Scope) (pg : Arguments) (bg : List Stmt) : Prop :=
  ∃ gA fd, mg x = some (.ref gA) ∧ PySem.W.keepIn K (.ref gA) = true ∧ FunD K x x pg bg sg [] [] gA fd ∧ Binds K fd [a] [] ∧ FnScope Ng [a] sg
section
variable {X : Cx} {W : WX} {B : List Nat}
end
end DL


set_option maxHeartbeats 2000000
/-! DL85: runs of mirrors that end with an exception; comprehensions that may raise; a def that catches. -/
namespace DL
open PySem PySem.Spec PyProof.Rows L2
/-- the run ends with an exception -/
def Ex {α : Type} (r : Rs α) (P : Xn → DEnv → Prop) : Prop := ∃ x e, r = .ex x e ∧ P x e
section
variable {α β : Type} {env : DEnv} {P : Xn → DEnv → Prop}
theorem Ex.mono {r : Rs α} {P Q : Xn → DEnv → Prop} (h : Ex r P) (k : ∀ x e, P x e → Q x e) : Ex r Q := by
  obtain ⟨x, e, h1, h2⟩ := h
  exact ⟨x, e, h1, k x e h2⟩
theorem ex_bind1 {m : M α} {f : α → M β} (h : Ex (m env) P) : Ex (M.bind m f env) P := by
  obtain ⟨x, e, h1, h2⟩ := h
  exact ⟨x, e, by unfold M.bind; rw [h1], h2⟩
theorem ex_bind2 {m : M α} {f : α → M β} (h : Hs (m env) fun a e => Ex (f a e) P) : Ex (M.bind m f env) P := by
  obtain ⟨a, e, h1, x, e2, h2, h3⟩ := h
  exact ⟨x, e2, by unfold M.bind; rw [h1]; exact h2, h3⟩
theorem ex_seq1 {a b : M Flw} (h : Ex (a env) P) : Ex (M.seq a b env) P := ex_bind1 h
theorem ex_seq2 {a b : M Flw} (h : Hs (a env) fun f e => f = .nx ∧ Ex (b e) P) : Ex (M.seq a b env) P := ex_bind2 (h.mono fun f e ⟨h1, h2⟩ => by subst h1; exact h2)
theorem ex_asgT {m : M PyData} {g : TG'} (h : Ex (m env) P) : Ex (M.asgT m g env) P := ex_bind1 h
theorem ex_frz {m : M OD} (h : Ex (m env) P) : Ex (M.frz m env) P := ex_bind1 h
theorem ex_own {m : M PyData} (h : Ex (m env) P) : Ex (M.own m env) P := ex_bind1 h
theorem ex_ret {m : M OD} (h : Ex (m env) P) : Ex (M.ret m env) P := ex_bind1 h
theorem ex_ite {c : M Bool} {a b : M α} (h : Hs (c env) fun k e => (k = true → Ex (a e) P) ∧ (k = false → Ex (b e) P)) : Ex (M.ite c a b env) P := ex_bind2 (h.mono fun k e ⟨h1, h2⟩ => by
  cases k with
  | true => exact h1 rfl
  | false => exact h2 rfl)
theorem ex_run {n nn : Nat} {B : List Nat} {mb : M Flw} (e : DEnv) (h : env.length = n) (he : env ++ List.replicate (nn - n) none = e) (q : Ex (mb e) fun x e' => P x (keepB B n e')) : Ex (runF n nn B mb env) P := by
  subst he
  obtain ⟨x, e, h1, h2⟩ := q
  exact ⟨x, _, by unfold runF; rw [if_pos h, h1], h2⟩
theorem ex_call {f : M OD} {l : M (List AV)} (h : Hs (l env) fun as e => Bd (takeAll as e) fun p => Ex (f p.1) fun x outs => P x (putAll as outs p.2)) : Ex (M.call f l env) P := ex_bind2 (h.mono fun as e ⟨p, h1, x, outs, h2, h3⟩ => by
  refine ⟨x, _, ?_, h3⟩
  obtain ⟨p1, p2⟩ := p
  simp only [h1]
  rw [h2])
end
end DL

set_option maxHeartbeats 2000000
/-! DL86: (a, b) = a list. -/
namespace DL
open PySem PySem.Spec PyProof.Rows L2
def gUnlE (n : Nat) (g : TGs') : TG' := fun d env => match d with
  | .list ds => if ds.length = n then g ds env else none
  | _ => none
section
variable {X : Cx} {B is : List Nat} {pos : Pos} {es : List Expr}
theorem gv_unl {gs : TGs'} {n kk : Nat} (hc : X.calm = true) (h : GVs X B is es gs) (hn : (assignEach es X.env).length = n := by rfl) (hst : (assignEach es X.env).findIdx? (·.1) = none := by rfl) : GV X B is (.Tuple es kk pos) (gUnlE n gs) :=
  PG_mono (pg_unl hc h hn hst) fun v σ H Q ⟨bv, R, P, Fs, env, d, e, S, r, q, k⟩ => by
    cases r with
    | lst h t =>
      simp only [gUnlE] at q
      split at q
      · rename_i hl
        exact ⟨_, _, rfl, .inl (rd_mono S.ph h), by rw [t.length]; exact hl, bv, R, P, Fs, env, _, e, S, t, q, k⟩
      · cases q
    | _ => cases q
end
end DL

set_option maxHeartbeats 2000000
/-! DL87: displays of dicts whose keys are tuples. -/
namespace DL
open PySem PySem.Spec PyProof.Rows L2
section
variable {X : Cx} {W : WX} {B : List Nat} {pos : Pos} {keys : List (Option Expr)} {values : List Expr} {pms : List (M PyData × M PyData)}
end
end DL

set_option maxHeartbeats 2000000
/-! DL88: dicts of the module with text keys: D.get(e). The hook that tells of them. -/
namespace DL
open PySem PySem.Spec PyProof.Rows L2
theorem ents_look {z : Str} : ∀ {es : List DictEntry} {l : List (Str × PyData)}, entsB es l = true → (es.any (·.refKey) = false) ∧ (match l.lookup z with
    | some d => ∃ e, es.find? (·.key.isStr z) = some e ∧ vOf d e.val = true
    | none => es.find? (·.key.isStr z) = none)
  | [], [], _ => ⟨rfl, rfl⟩
  | [], _ :: _, h => by cases h
  | _ :: _, [], h => by cases h
  | e :: es, p :: l, h => by
    obtain ⟨h1, h2⟩ := Bool.and_eq_true_iff.mp h
    obtain ⟨i1, i2⟩ := ents_look (z := z) h2
    unfold entB at h1
    split at h1
    · rename_i x t hk
      obtain ⟨e1, e2⟩ := Bool.and_eq_true_iff.mp h1
      have e1 := of_decide_eq_true e1
      refine ⟨?_, ?_⟩
      · rw [List.any_cons, i1]
        simp [DictEntry.refKey, hk]
      · obtain ⟨pk, pd⟩ := p
        simp only at e1 e2
        subst e1
        rw [List.lookup_cons, List.find?_cons, hk]
        by_cases c : z = x
        · subst c
          have c1 : (z == z) = true := beq_self_eq_true z
          have c2 : (Value.str z t).isStr z = true := by simp [Value.isStr]
          rw [c1, c2]
          exact ⟨e, rfl, e2⟩
        · have c1 : (z == x) = false := by simpa using c
          have c2 : (Value.str x t).isStr z = false := by
            simp [Value.isStr]
            exact fun q => c q.symm
          rw [c1, c2]
          exact i2
    · cases h1
theorem dic_look {K : PySem.W.Frag} {a : Addr} {l : List (Str × PyData)} (h : dicB K a l = true) (z : Str) : ∃ r, PySem.W.nsIn K a z = some r ∧ (match l.lookup z with
    | some d => ∃ u, r = some u ∧ vOf d u = true
    | none => r = none) := by
  unfold dicB at h
  split at h
  · rename_i c d es n sl hl
    obtain ⟨h1, h2⟩ := ents_look (z := z) h
    unfold PySem.W.nsIn
    rw [hl]
    simp only
    cases q : l.lookup z with
    | some d =>
      rw [q] at h2
      obtain ⟨e, e1, e2⟩ := h2
      rw [e1]
      exact ⟨_, rfl, _, rfl, e2⟩
    | none =>
      rw [q] at h2
      rw [h2, h1]
      exact ⟨_, rfl, rfl⟩
  · cases h
theorem vOf_rel {K : PySem.W.Frag} {P : Hp} {d : PyData} {u : Value} (h : vOf d u = true) : ∃ v, RelV v u ∧ Rp K P v d := by
  unfold vOf at h
  split at h
  · rw [of_decide_eq_true h]; exact ⟨.int _, (show RelV (.int _) _ from ⟨_, rfl⟩), .int _⟩
  · rw [of_decide_eq_true h]; exact ⟨.str _, (show RelV (.str _) _ from ⟨_, rfl⟩), .str _⟩
  · exact ⟨.non, rfl, .non⟩
  · rw [of_decide_eq_true h]; exact ⟨.bl _, rfl, .bl _⟩
  · cases h
/-- what is known of a dict of the module -/
def TabX (w : World) (K : PySem.W.Frag) (mg : Str → Option Value) (x : Str) (l : List (Str × PyData)) : Prop := ∃ a es n, mg x = some (.ref a) ∧ KDict K w a es n ∧ dicB K a l = true
section
variable {X : Cx} {W : WX} {B : List Nat} {e : Expr} {me : M PyData} {x : Str} {l : List (Str × PyData)} {np apos cpos : Pos}
end
/-! ### the hook -/
theorem tabX_of {td : Tdx} {w : World} {K : PySem.W.Frag} {h : Heap} {mg : Str → Option Value} (hk : K.In h) (hn : h.Ns mainGlobals mg) (e : obsX td K = valX td w) (i : Nat) {x : Str} {l : List (Str × PyData)} (hi : td[i]? = some (x, l) := by rfl) : TabX w K mg x l := by
  have e2 : (obsX td K)[i]? = (valX td w)[i]? := by rw [e]
  unfold obsX valX at e2
  rw [List.getElem?_map, List.getElem?_map, hi] at e2
  have e3 := Option.some.inj e2
  obtain ⟨e4, e5⟩ := Prod.mk.inj e3
  obtain ⟨es, n, D⟩ := He.dicW_ok e4
  obtain ⟨b1, b2⟩ := Bool.and_eq_true_iff.mp e5
  exact ⟨_, es, n, PySem.W.mg_of hk hn (of_decide_eq_true b2), D, b1⟩
theorem walk_GX {l : PySem.W.OpenLaw} {n k dep : Nat} {fac : List He.Fa} {fn : List He.DefD} {tb : Tbs} {td : Tdx} {q : Program} {loose : List Str} {XP : (Str → Option Value) → Heap → Prop} {d : DefRec} {x : Str}
    (hn : l.most = some n) (hn2 : n ≤ sizeLine) (hdf : d.params.defaults = []) (hr : Room k callerA)
    (F : ∀ (w : World) (K : PySem.W.Frag) (mg : Str → Option Value) (fa : Addr) (h : Heap), K.In h → h.Ns mainGlobals mg → ((He.SaysD fac fn K ∧ tbsOk tb K = true) ∧ obsX td K = valX td w) → mg d.name = some (.ref fa) →
      ∃ (fd : FuncData) (m : M OD), (∀ (s : Shared) (u : Value), BindsTo s fd ⟨[u], []⟩ [(x, u)]) ∧ (∀ ns : List Int, ns.length ≤ n → ∃ e, m [some (.pur (.list (ns.map .int)))] = .ok (.pur (.bool true)) e) ∧
        ∀ base : Heap, K.In base → base.Ns mainGlobals mg → FnG l.prog w K mg base k fa fd [x] [] m) :
    PySem.W.WalkO q loose XP (hookX dep fac fn tb td).says l.row.toRowW d [] (fun f vs => PySem.call f vs) := by
  refine Att.attach_call hn hdf fun w s₀ s₁ mg mb fa o pm cd doc a vs ns G Y ho hd hcd hmg hobj hints hlen hg => ?_
  obtain ⟨K, KX, c, hsy, hnl, hT, hall⟩ := Y
  obtain ⟨fd, m, hb, hlaw, hF⟩ := F w K mg fa _ KX G.T.g c hmg
  exact call_law KX hsy hnl hT hall G.T.g G.T.b G.T.builtins G.T.nolimit hg hobj hints (Nat.le_trans hlen hn2) hr hF hb (hlaw ns hlen)
end DL

set_option maxHeartbeats 2000000
/-! DL89: x != () of tuples, whatever stands in x. -/
namespace DL
open PySem PySem.Spec PyProof.Rows L2
section
variable {X : Cx} {W : WX} {B : List Nat} {a b : Expr} {ma mb : M PyData} {pos : Pos}
end
end DL

set_option maxHeartbeats 2000000
/-! DL90: slot.f += e, slot.f -= e of ints. -/
namespace DL
open PySem PySem.Spec PyProof.Rows L2
section
variable {X : Cx} {W : WX} {B : List Nat} {e : Expr} {me : M PyData} {x : Str} {px pos tpos : Pos}
end
end DL

set_option maxHeartbeats 2000000
/-! DL91: a place's data frozen; place.append(e), e an expression that changes nothing. -/
namespace DL
open PySem PySem.Spec PyProof.Rows L2
section
variable {K : PySem.W.Frag} {mg : Str → Option Value} {B : List Nat} {bv : Nat → V} {R P H P' H' : Hp} {Fs Fs' : Nat → List Addr} {σ : L2.St} {env : DEnv} {i : Nat} {x y : OD} {p : List Stp}
theorem PlV.keep {H H' : Hp} (hh : Same H H') {v u : V} {p : List Stp} (h : PlV mg H v p u) : PlV mg H' v p u := by
  induction h with
  | nil => exact .nil
  | fld h hc l t ih => exact .fld (hh _ _ h) hc l ih
  | ix h l t ih => exact .ix (hh _ _ h) l ih
  | key h l t ih => exact .key (hh _ _ h) l ih
end
/-! ### a place's data, frozen -/
def M.rdP (i : Nat) (pp : DEnv → Option (List Stp)) : M PyData := fun env => match (env[i]?).join, pp env with
  | some x, some p => (match (getP p x).bind OD.data with
    | some d => .ok d (env.set i (some (setP p x (.pur d))))
    | none => .no)
  | _, _ => .no
section
variable {X : Cx} {W : WX} {B : List Nat} {i : Nat} {pp : DEnv → Option (List Stp)} {e : Expr}
end
/-! ### expressions that change nothing -/
section
variable {X : Cx} {W : WX} {B : List Nat} {i : Nat} {pp : DEnv → Option (List Stp)} {e : Expr}
/-! ### place.append(e) -/
end
end DL

set_option maxHeartbeats 2000000
/-! DL92: min(x, key=lambda p: p[0]), x a list of lists. -/
namespace DL
open PySem PySem.Spec PyProof.Rows L2 LamX PySem.W
section
variable {X : Cx} {pins : List (Addr × Obj)} {σ : L2.St} {H : Hp} {s : Shared}
end
/-- the first of the least keys -/
def minIx (kds : List PyData) : Nat := argBest (fun i j => dataLt (kds.getD i .none) (kds.getD j .none)) (kds.length - 1)
section
variable {X : Cx}
end
end DL

set_option maxHeartbeats 2000000
/-! DL93: lists that a walk keeps track of by itself (R), beside the slots. -/
namespace DL
open PySem PySem.Spec PyProof.Rows L2 LamX PySem.W
/-- the state without slots -/
abbrev Z (K : PySem.W.Frag) (mg : Str → Option Value) (R P H : Hp) : Prop := Sta K mg [] b0 R P H (fun _ => []) [] []
/-- a list of data at an address -/
def At (K : PySem.W.Frag) (R P : Hp) (a : Addr) (ds : List PyData) : Prop := ∃ vs, R a = some (.lst vs) ∧ RpA K P vs ds
section
variable {K : PySem.W.Frag} {mg : Str → Option Value} {B : List Nat} {bv : Nat → V} {R R' P H H' : Hp} {Fs : Nat → List Addr} {σ : L2.St} {env : DEnv}
theorem upd_self {R : Hp} {a : Addr} {o : HO} (h : R a = some o) : upd R a o = R := by
  funext b
  by_cases e : b = a
  · rw [e, upd_same, h]
  · rw [upd_ne e]
theorem Z.wr {a : Addr} {u u' : HO} (z : Z K mg R P H) (h : R a = some u) (ha : a ∉ TbA K) (hn : ∀ xs, u' ≠ .tup xs := by intro _ z; cases z) (hx : ∀ φ, u ≠ .ext φ := by intro _ z; cases z) : Z K mg (upd R a u') P (upd H a u') := by
  have z' : Sta K mg [] b0 (upd R a u) P H (fun _ => []) [] [] := by rw [upd_self h]; exact z
  have r := z'.write (u' := u') ha hn hx
  have e : upd (upd R a u) a u' = upd R a u' := upd_upd
  first | exact r | (rw [e] at r; exact r)
theorem Z.new {a : Addr} {u : HO} (z : Z K mg R P H) (h : H a = none) (hn : ∀ xs, u ≠ .tup xs := by intro _ z; cases z) : Z K mg (upd R a u) P (upd H a u) := z.newR h hn
theorem Z.of (S : Sta K mg B bv R P H Fs σ env) : Z K mg (allR R H Fs) P H := S.bare (σZ := []) (n := 0) (BZ := []) (bz := b0) rfl fun i h => nomatch h
theorem At.put {a b : Addr} {u : HO} {ds : List PyData} (h : At K R P a ds) (n : a ≠ b) : At K (upd R b u) P a ds := by
  obtain ⟨vs, h1, h2⟩ := h
  exact ⟨vs, by rw [upd_ne n]; exact h1, h2⟩
/-- the slots are nothing: the state of a body that is left -/
theorem Z.to {n : Nat} (z : Z K mg R P H) (hl : σ.length = n) : Sta K mg [] bv R P H (fun _ => []) σ (List.replicate n none) where
  rh := z.rh
  tb := z.tb
  ph := z.ph
  rp := z.rp
  slot := fun i x h => by
    rw [List.getElem?_replicate] at h
    split at h <;> cases h
  dead := fun _ _ => rfl
  nd := fun _ => .nil
  dj := fun i j a _ h => nomatch h
  fr := fun i a h => nomatch h
  fp := fun i a h => nomatch h
  len := by rw [hl, List.length_replicate]
  pin := fun i h => nomatch h
  nt := z.nt
end
end DL

set_option maxHeartbeats 2000000
/-! DL94: lots of rows: the ones that aren't empty, copied and kept. -/
namespace DL
open PySem PySem.Spec PyProof.Rows L2 LamX PySem.W
/-- a lot: where it lies, its rows -/
abbrev Lot : Type := Addr × List PyData
/-- the lots lie there -/
structure Lots (K : PySem.W.Frag) (R P : Hp) (ps : List Lot) : Prop where
  at_ : ∀ q ∈ ps, At K R P q.1 q.2
def refs (ps : List Lot) : List V := ps.map fun q => .ref q.1
theorem Lots.put {K : PySem.W.Frag} {R P : Hp} {ps : List Lot} {b : Addr} {u : HO} (h : Lots K R P ps) (n : b ∉ ps.map Prod.fst) : Lots K (upd R b u) P ps := ⟨fun q hq => (h.at_ q hq).put fun z => n (z ▸ List.mem_map.mpr ⟨q, hq, rfl⟩)⟩
theorem Lots.sub {K : PySem.W.Frag} {R P : Hp} {ps qs : List Lot} (h : Lots K R P ps) (s : ∀ q ∈ qs, q ∈ ps) : Lots K R P qs := ⟨fun q hq => h.at_ q (s q hq)⟩
section
variable {K : PySem.W.Frag} {mg : Str → Option Value} {R0 R R' P H H' : Hp} {σ : L2.St}
/-- what is tracked: R0 stays, the addresses as are new -/
structure Trk (K : PySem.W.Frag) (mg : Str → Option Value) (R0 R P H : Hp) (as : List Addr) : Prop where
  z : Z K mg R P H
  s : Same R0 R
  nd : as.Nodup
  new : ∀ a ∈ as, R0 a = none ∧ a ∉ TbA K
  tr : ∀ a ∈ as, R a ≠ none
variable {as bs : List Addr}
theorem Trk.hp (t : Trk K mg R0 R P H as) {a : Addr} {o : HO} (ha : a ∈ as) (h : R a = some o) : H a = some o := t.z.rh a o h (t.new a ha).2
theorem Trk.wr (t : Trk K mg R0 R P H as) {a : Addr} {u u' : HO} (ha : a ∈ as) (h : R a = some u) (hn : ∀ xs, u' ≠ .tup xs := by intro _ z; cases z) (hx : ∀ φ, u ≠ .ext φ := by intro _ z; cases z) : Trk K mg R0 (upd R a u') P (upd H a u') as :=
  ⟨t.z.wr h (t.new a ha).2 hn hx, fun b o e => by rw [upd_ne fun z => by rw [z, (t.new a ha).1] at e; cases e]; exact t.s b o e, t.nd, t.new, fun b hb => by
    by_cases e : b = a
    · rw [e, upd_same]; simp
    · rw [upd_ne e]; exact t.tr b hb⟩
theorem Trk.perm (t : Trk K mg R0 R P H as) (p : as.Perm bs) : Trk K mg R0 R P H bs := ⟨t.z, t.s, p.nodup_iff.mp t.nd, fun a ha => t.new a (p.mem_iff.mpr ha), fun a ha => t.tr a (p.mem_iff.mpr ha)⟩
def nes (dss : List (List PyData)) : List (List PyData) := dss.filter fun ds => !ds.isEmpty
end
end DL

set_option maxHeartbeats 2000000
/-! DL95: the lots that have rows yet are kept. -/
namespace DL
open PySem PySem.Spec PyProof.Rows L2 LamX PySem.W
section
variable {K : PySem.W.Frag} {mg : Str → Option Value} {R0 R R' P H H' : Hp} {σ : L2.St} {as bs : List Addr}
theorem Trk.sub (t : Trk K mg R0 R P H as) (nd : bs.Nodup) (s : ∀ b ∈ bs, b ∈ as) : Trk K mg R0 R P H bs := ⟨t.z, t.s, nd, fun a ha => t.new a (s a ha), fun a ha => t.tr a (s a ha)⟩
end
end DL

set_option maxHeartbeats 2000000
/-! DL96: sorted lots, merged by always taking the least of the first rows. -/
namespace DL
open PySem PySem.Spec PyProof.Rows L2 LamX PySem.W
def hdD (ds : List PyData) : PyData := ds.headD .none
def popMin (dss : List (List PyData)) : Option (PyData × List (List PyData)) := match dss[minIx (dss.map hdD)]? with
  | some (d :: ds) => some (d, nes (dss.set (minIx (dss.map hdD)) ds))
  | _ => none
def mrg : Nat → List (List PyData) → Option (List PyData)
  | _, [] => some []
  | 0, _ :: _ => none
  | n + 1, ds :: dss => match popMin (ds :: dss) with
    | some (d, dss') => (mrg n dss').map (d :: ·)
    | none => none
def noneB : PyData → Bool
  | .none => true
  | _ => false
def okLots (dss : List (List PyData)) : Bool := (dss.flatten.all fun d => dss.flatten.all (alike d)) && (dss.flatten.all fun d => !noneB d && decide (d.depth ≤ 30)) && decide (dss.length ≤ 100000) && decide (dss.flatten.length ≤ 100000)
def lotsD : List PyData → Option (List (List PyData))
  | [] => some []
  | .list ds :: l => (lotsD l).map (ds :: ·)
  | _ :: _ => none
/-- the body of such a def -/
def M.merged : M Flw := fun env => match env with
  | [some (.pur (.list ls)), none, none, none, none] => (match lotsD ls with
    | some dss => if okLots dss = true then (match mrg (nes dss).flatten.length (nes dss) with
      | some out => .ok (.rt (.lst (out.map .pur))) [none, none, none, none, none]
      | none => .no) else .no
    | none => .no)
  | _ => .no
section
variable {K : PySem.W.Frag} {mg : Str → Option Value} {R0 R R' P H H' : Hp} {σ : L2.St} {as bs : List Addr}
/-- what holds at each turn -/
structure MInv (K : PySem.W.Frag) (mg : Str → Option Value) (R0 P : Hp) (all out0 : List PyData) (n : Nat) (σ : L2.St) (H R : Hp) (ps : List Lot) (l f : Addr) (ys : List V) (out : List PyData) : Prop where
  sl : σ.length = 5
  s1 : σ[1]? = some (some (.ref l))
  s2 : σ[2]? = some (some (.ref f))
  t : Trk K mg R0 R P H (l :: (ps.map Prod.fst ++ [f]))
  hl : R l = some (.lst (refs ps))
  hf : R f = some (.lst ys)
  ro : RpA K P ys out
  L : Lots K R P ps
  ne : ∀ q ∈ ps, q.2 ≠ []
  sub : ∀ q ∈ ps, ∀ d ∈ q.2, d ∈ all
  ln : ps.length ≤ 100000
  lo : out.length + n ≤ 100000
  eq : (mrg n (ps.map Prod.snd)).map (out ++ ·) = some out0
end
end DL

set_option maxHeartbeats 2000000
/-! DL97: runs of the rules since DL89. -/
namespace DL
open PySem PySem.Spec PyProof.Rows L2
end DL

set_option maxHeartbeats 2000000
/-! DL98: try: x = [a()] except ..: y = n.
-/
namespace DL
open PySem PySem.Spec PyProof.Rows L2 LamX
section
variable {Z : Cx} {B : List Nat} {σC : L2.St} {f c' : Addr} {q : Str} {rest : List Stmt} {m : M OD} {k0 : DEnv → M OD} {te callE : Expr} {n yn xn : Str} {ni yi xi nn : Nat} {px ps py pn2 ps2 pos' pos pL : Pos}
end
end DL

set_option maxHeartbeats 2000000
/-! DL99: a def that catches what its lambda raises, its room and guards known. -/
namespace DL
open PySem PySem.Spec PyProof.Rows L2 LamX PySem.W
/-- what the def's body makes of the lambda's mirror -/
def GivesR (X : Cx) (B : List Nat) (Ng : List Str) (x : Str) (sg : Scope) (g : Addr) (bg : List Stmt) (a : Str) (q : Str) (kA : M OD → DEnv → M OD) : Prop :=
  ∀ (cdg : Value) (σC : L2.St) (m : M OD) (f c' : Addr) (s : Shared) (H : Hp), Room 1 (gCx X Ng x sg g cdg s H).nox.A → Gd (gCx X Ng x sg g cdg s H).nox →
    (∀ (W : WX) (pn : List (Addr × Obj)) (xe : Value → Shared → Prop) (E : XK) (p1 p2 : Pos), Takes ((gCx X Ng x sg g cdg s H).tr pn xe) W → (∀ cls d σ' H', E cls d H' → W cls d σ' H') →
      PE ((gCx X Ng x sg g cdg s H).tr pn xe) (.Call (.Name a p1) [] [] p2) (fun σZ HZ Q => σZ[0]? = some (some (.ref f)) ∧ HZ c' = some (CodeO c' q) ∧ tO X.K X.mg (WF E) B m σC HZ Q)) →
    PSs (gCx X Ng x sg g cdg s H).nox bg (tX X.K X.mg B [0] (fun _ => .ref f) σC c' q (kA m))
section
variable {X : Cx} {W : WX} {B : List Nat}
theorem eo_heardR {x a qual : Str} {gA : Addr} {k n : Nat} {pg params : Arguments} {bg : List Stmt} {sg scope : Scope} {fd : FuncData} {Ng : List Str} {kA : M OD → DEnv → M OD} {mb : M OD} {body : Expr} {p lpos pos : Pos} (g : Gd X) (hr : Room (k + 2) X.A) (LT : LamT X.K X.mg X.base X.env.code qual) (hq : X.env.qual = qual ++ ".<locals>.")
    (L : LamS X.env.scope scope) (F : FunD X.K x x pg bg sg [] [] gA fd) (hm : X.mg x = some (.ref gA)) (hk : PySem.W.keepIn X.K (.ref gA) = true) (hb : Binds X.K fd [a] []) (Sg : FnScope Ng [a] sg) (hn : Ng.length = n) (hNg : Ng[0]? = some a) (hva : Vis sg a)
    (hG : GivesR X B Ng x sg gA bg a (X.env.qual ++ "<lambda>") kA) (hdef : defaultsOf params X.env = ([], []))
    (hbind : ∀ (q : Str) (cl : List (Str × Addr)) (pm cv ctv : Value), bindArgs (PySem.W.kla_fn "<lambda>" q params body scope cl pm cv ctv) ⟨[], []⟩ = pure [])
    (hbody : ∀ (A : Around) (outer : List Env) (s : Shared) (H : Hp) (E : XK) (f c' : Addr), Gd (lamCx X A outer s H E scope f c') → Room k (lamCx X A outer s H E scope f c').A → EO (lamCx X A outer s H E scope f c') (WF E) B body mb)
    (hg : Gl X x := by rfl) (hdb : (x == ("__debug__" : Str)) = false := by decide) (hd : (a == ("__debug__" : Str)) = false := by decide) (hcd : (a == ("__classdict__" : Str)) = false := by decide) :
    EO X W B (.Call (.Name x p) [.Lambda params body scope lpos] [] pos) (M.heard n kA mb) := ⟨fun pins s σ H Q I ⟨bv, R, P, Fs, env, S, q⟩ => by
  obtain ⟨c, Pt, hcode, TB, hmT, huT⟩ := LT.ex
  have mem : Pt ∈ TbA X.K := List.mem_map.mpr ⟨_, hmT, rfl⟩
  obtain ⟨oc, od, dV, kV, doc, pm0, an, cdv, ct, osl, rfl, lk, hcdq, _, _⟩ := F.ex
  refine wpAny_Call_Name_kw (ld_glob I hg hm ?_ hdb)
  refine PySem.W.callWith_K (h₀ := X.base) I.ok.mod.kin hk ?_ (by rfl) (by rfl)
  show wpAny _ _ (spliced ((false, eval (.Lambda params body scope lpos) X.env) :: backTo pos (starEach [] X.env))) _ _ s
  have hT : Tabs (tabsOf X.K) H := fun p hp => (S.tb p hp).1
  refine Calls.spliced_cons (lam_make3 I TB hcode (by rw [hq]; exact hmT) (by rw [hq]; exact huT) hT hdef (L.has I.ok) fun f c' pm ctv H1 s' I1 e1 T1 hf hfn hfr hco => ?_)
  refine Calls.spliced_nil ⟨I1.kIn, ?_⟩
  have S1 := S.grown mem e1 T1
  have hc : H1 c' = some (CodeO c' (X.env.qual ++ "<lambda>")) := by
    obtain ⟨ps2, hps, hpt, hpa⟩ := hco
    obtain ⟨ps3, hp3, _, al⟩ := T1 _ hmT
    rw [hps] at hp3
    cases hp3
    obtain ⟨c2, e2, e3⟩ := al lpos _ hpa
    cases e2
    rw [hq]
    exact e3
  obtain ⟨R', sR, S2, hck⟩ := S1.codeR hc
  have rc : codeAny (model X.prog X.w) X.A (.call (.ref gA) ⟨[.ref f], []⟩) (CR C8.CX0 X.stack X.prog X.w H1 s' Q C8.E0) s' := by
    refine run_ofS (CX := C8.CX0) (N := Ng) (ps := [a]) (us := [.ref f]) (vs := [.ref f]) lk hcdq Sg hr I1.env0 (hb s' [.ref f] I1.kIn rfl) (.cons rfl .nil) rfl fun hr' => ?_
    have hP := hG cdv σ mb f c' s' H1 (hr'.mono (by omega)) ⟨g.guards, g.sys⟩ (fun W pn xe E p1 p2 tk hW => pe_actG (i := 0) I1 L hf hfn hfr (hbind _ _ _ _ _) tk hW hr' (fun A outer s H hg hr2 => hbody A outer s H E f c' ⟨hg.trans g.guards, g.sys⟩ hr2) hNg hva hd hcd)
    refine ⟨_, hP.nox, bv, R', P, Fs, fun _ => [], env, List.replicate n none, S2, S2.bare (by unfold L2.start; have := congrArg List.length Sg.pre; rw [List.length_take] at this; simp at this ⊢; omega) (fun i hi => ?_), hck, ?_⟩
    · rw [List.mem_singleton.mp hi]; rfl
    · unfold M.heard at q
      cases hk : kA mb (List.replicate n none) env with
      | no => rw [hk] at q; exact q.elim
      | ex x e => rw [hk] at q; exact q.elim
      | ok x e => rw [hk] at q; exact OkO.sub sR S.hasT q
  refine wpAny_call (codeAny_mono rc fun r s2 hq2 => ?_)
  cases r with
  | error e => exact (show False from hq2).elim
  | ok fl =>
    cases fl with
    | ret u => exact I1.after hq2
    | next => exact False.elim hq2
    | brk => exact False.elim hq2
    | cont => exact False.elim hq2⟩
theorem eo_heardDR {x a qual : Str} {k n : Nat} {pg params : Arguments} {bg : List Stmt} {sg scope : Scope} {Ng : List Str} {kA : M OD → DEnv → M OD} {mb : M OD} {body : Expr} {p lpos pos : Pos} (D : HrdK X.K X.mg x a Ng sg pg bg) (hG : ∀ gA, GivesR X B Ng x sg gA bg a (X.env.qual ++ "<lambda>") kA) (g : Gd X) (hr : Room (k + 2) X.A) (LT : LamT X.K X.mg X.base X.env.code qual) (hq : X.env.qual = qual ++ ".<locals>.")
    (L : LamS X.env.scope scope) (hn : Ng.length = n) (hNg : Ng[0]? = some a) (hva : Vis sg a) (hdef : defaultsOf params X.env = ([], []))
    (hbind : ∀ (q : Str) (cl : List (Str × Addr)) (pm cv ctv : Value), bindArgs (PySem.W.kla_fn "<lambda>" q params body scope cl pm cv ctv) ⟨[], []⟩ = pure [])
    (hbody : ∀ (A : Around) (outer : List Env) (s : Shared) (H : Hp) (E : XK) (f c' : Addr), Gd (lamCx X A outer s H E scope f c') → Room k (lamCx X A outer s H E scope f c').A → EO (lamCx X A outer s H E scope f c') (WF E) B body mb)
    (hg : Gl X x := by rfl) (hdb : (x == ("__debug__" : Str)) = false := by decide) (hd : (a == ("__debug__" : Str)) = false := by decide) (hcd : (a == ("__classdict__" : Str)) = false := by decide) :
    EO X W B (.Call (.Name x p) [.Lambda params body scope lpos] [] pos) (M.heard n kA mb) := by
  obtain ⟨gA, fd, h1, h2, h3, h4, h5⟩ := D
  exact eo_heardR (gA := gA) (fd := fd) g hr LT hq L h3 h1 h2 h4 h5 hn hNg hva (hG gA) hdef hbind hbody hg hdb hd hcd
end
end DL

set_option maxHeartbeats 2000000
/-! DL100: sorted(e), e a list of alike data: tuples may be empty too. -/
namespace DL
open PySem PySem.Spec PySem.Calls PyProof.Rows L2 PySem.W PySem.SeqAt
section
variable {prog : Program} {w : World} {A : Around} {E : Value → Shared → Prop} {s : Shared}
end
section
variable {X : Cx}
variable {W : WX} {B : List Nat} {i : Nat} {pp : DEnv → Option (List Stp)} {e : Expr}
end
end DL

set_option maxHeartbeats 2000000
/-! DL101: the order of alike data; lots merged are sorted. -/
namespace DL
open PySem PySem.Spec PyProof.Rows L2 PySem.W
mutual
theorem tok_inj : ∀ (x y : PyData) {l m : List (Int ⊕ List Nat)}, alike x y = true → keyToks x ++ l = keyToks y ++ m → x = y ∧ l = m
  | .none, y, l, m, h, e => by
    cases y with
    | none => exact ⟨rfl, e⟩
    | _ => exact absurd h (by simp [alike])
  | .bool a, y, l, m, h, e => by
    cases y with
    | bool b =>
      simp only [keyToks, List.cons_append, List.nil_append] at e
      injection e with e1 e2
      have q := Sum.inl.inj e1
      refine ⟨?_, e2⟩
      cases a <;> cases b <;> simp_all
    | _ => exact absurd h (by simp [alike])
  | .int a, y, l, m, h, e => by
    cases y with
    | int b =>
      simp only [keyToks, List.cons_append, List.nil_append] at e
      injection e with e1 e2
      exact ⟨by rw [Sum.inl.inj e1], e2⟩
    | _ => exact absurd h (by simp [alike])
  | .str a, y, l, m, h, e => by
    cases y with
    | str b =>
      simp only [keyToks, List.cons_append, List.nil_append] at e
      injection e with e1 e2
      exact ⟨by rw [str_of_cps (Sum.inr.inj e1)], e2⟩
    | _ => exact absurd h (by simp [alike])
  | .list xs, y, l, m, h, e => by
    cases y with
    | list ys =>
      simp only [keyToks] at e
      obtain ⟨h1, h2⟩ := tokAll_inj xs ys (by simpa [alike] using h) e
      exact ⟨by rw [h1], h2⟩
    | _ => exact absurd h (by simp [alike])
  | .tuple xs, y, l, m, h, e => by
    cases y with
    | tuple ys =>
      simp only [keyToks] at e
      obtain ⟨h1, h2⟩ := tokAll_inj xs ys (by simpa [alike] using h) e
      exact ⟨by rw [h1], h2⟩
    | _ => exact absurd h (by simp [alike])
  | .dict _, y, l, m, h, e => absurd h (by cases y <;> simp [alike])
theorem tokAll_inj : ∀ (xs ys : List PyData) {l m : List (Int ⊕ List Nat)}, alikeAll xs ys = true → keyToksAll xs ++ l = keyToksAll ys ++ m → xs = ys ∧ l = m
  | [], [], l, m, _, e => ⟨rfl, by simpa using e⟩
  | [], y :: ys, l, m, _, e => by
    rw [toks_all_cons] at e
    simp only [keyToksAll, List.cons_append, List.nil_append] at e
    injection e with e1 _
    exact absurd (Sum.inl.inj e1) (by decide)
  | x :: xs, [], l, m, _, e => by
    rw [toks_all_cons] at e
    simp only [keyToksAll, List.cons_append, List.nil_append] at e
    injection e with e1 _
    exact absurd (Sum.inl.inj e1) (by decide)
  | x :: xs, y :: ys, l, m, h, e => by
    rw [toks_all_cons, toks_all_cons] at e
    simp only [List.cons_append, List.append_assoc] at e
    injection e with _ e
    obtain ⟨h1, h2⟩ := tok_inj x y (alike_all_cons h).1 e
    obtain ⟨h3, h4⟩ := tokAll_inj xs ys (alike_all_cons h).2 h2
    exact ⟨by rw [h1, h3], h4⟩
end
end DL

set_option maxHeartbeats 2000000
/-! DL102: runs: a method at a place that raises. -/
namespace DL
open PySem PySem.Spec PyProof.Rows L2
section
variable {env : DEnv} {i : Nat} {x y : OD} {p : List Stp} {pp : DEnv → Option (List Stp)} {c mn : Str} {f : M OD}
end
end DL

set_option maxHeartbeats 2000000
/-! DL103: sum of truth values; the index of one. -/
namespace DL
open PySem PySem.Spec PySem.Calls PyProof.Rows L2 PySem.W
section
variable {prog : Program} {w : World} {A : Around} {R : Result → Shared → Prop} {I : Addr} {fp wr : List Addr} {G : Array GenState → Array GenState → Prop} {n : Nat} {P : Nat → Value → Prop} {St : Nat → Shared → Prop}
end
section
variable {prog : Program} {w : World} {A : Around} {E : Value → Shared → Prop} {s : Shared}
end
section
variable {X : Cx}
/-! ### x.index(e), truth values too -/
variable {W : WX} {B : List Nat} {a e : Expr} {ma me : M PyData} {apos cpos : Pos}
end
end DL

set_option maxHeartbeats 2000000
/-! DL104: C(k = e, ..). -/
namespace DL
open PySem PySem.Spec PyProof.Rows L2
/-- an own class whose instances are made with keywords -/
structure MkKW (P : Program) (w : World) (K : PySem.W.Frag) (mg : Str → Option Value) (base : Heap) (k : Nat) (c : Str) (ps : List Str) (m : M OD) (kb : List (List Str × Nat × List Nat)) : Prop where
  ex : ∃ C f fd, mg c = some (.ref C) ∧ Mk K C f ∧ FnG P w K mg base k f fd ps [0] m ∧ Binds K fd ps [] ∧ ∀ q ∈ kb, KB K fd ps q.1 q.2.1 q.2.2
theorem MkKW.mkK {P : Program} {w : World} {K : PySem.W.Frag} {mg : Str → Option Value} {base : Heap} {k : Nat} {c : Str} {ps : List Str} {m : M OD} {kb : List (List Str × Nat × List Nat)} (h : MkKW P w K mg base k c ps m kb) : MkK P w K mg base k c ps m := by
  obtain ⟨C, f, fd, h1, h2, h3, h4, _⟩ := h.ex
  exact ⟨C, f, fd, h1, h2, h3, h4⟩
section
variable {X : Cx} {W : WX} {B : List Nat} {j k : Nat} {c x : Str} {ps : List Str} {m : M OD} {ml : M (List PyData)} {p pos apos : Pos} {kws : List Keyword} {kb : List (List Str × Nat × List Nat)}
end
end DL

set_option maxHeartbeats 2000000
/-! DL105: places by dict keys: d[k] is a place. -/
namespace DL
open PySem PySem.Spec PyProof.Rows L2
section
variable {X : Cx} {W : WX} {B : List Nat} {i : Nat} {pp : DEnv → Option (List Stp)} {a b : Expr} {pos : Pos}
end
end DL

set_option maxHeartbeats 2000000
/-! DL106: displays of dicts with text keys, of owned values. -/
namespace DL
open PySem PySem.Spec PyProof.Rows L2
inductive AvM where
  | o (m : M OD)
  | v (m : M PyData)
section
variable {K : PySem.W.Frag} {mg : Str → Option Value} {W : WX} {B : List Nat} {σ : L2.St} {β : Type} {okβ : β → DEnv → Prop} {exβ : Xn → DEnv → Prop} {bv : Nat → V}
end
section
variable {X : Cx} {W : WX} {B : List Nat} {pos : Pos} {keys : List (Option Expr)} {values : List Expr} {l : List (Str × AvM)}
end
end DL

set_option maxHeartbeats 2000000
/-! DL107: place.reverse(); None as what changes nothing. -/
namespace DL
open PySem PySem.Spec PyProof.Rows L2
section
variable {X : Cx} {W : WX} {B : List Nat} {i : Nat} {pp : DEnv → Option (List Stp)} {o : Expr} {apos cpos pos : Pos}
end
end DL

set_option maxHeartbeats 2000000
/-! DL108: sum(x, []), x a list of lists. -/
namespace DL
open PySem PySem.Spec PySem.Calls PyProof.Rows L2 PySem.W
section
variable {prog : Program} {w : World} {A : Around} {E : Value → Shared → Prop} {s : Shared}
end
section
variable {prog : Program} {w : World} {A : Around} {R : Result → Shared → Prop} {I ax : Addr} {items : Array Value}
/-- the heap moved: all but I and S kept, no smaller -/
structure Mv (I S : Addr) (s s' : Shared) : Prop where
  kp : ∀ b o, b ≠ I → b ≠ S → s.heap.get? b = some o → s'.heap.get? b = some o
  eq : ∃ h', s' = { s with heap := h' }
theorem Mv.trans {I S : Addr} {s s' s'' : Shared} (a : Mv I S s s') (b : Mv I S s' s'') : Mv I S s s'' :=
  ⟨fun x o h1 h2 e => b.kp x o h1 h2 (a.kp x o h1 h2 e), by obtain ⟨h1, e1⟩ := a.eq; obtain ⟨h2, e2⟩ := b.eq; exact ⟨h2, by rw [e2, e1]⟩⟩
end
section
variable {prog : Program} {w : World} {A : Around} {E : Value → Shared → Prop} {s : Shared}
end
section
variable {K : PySem.W.Frag} {P : Hp}
end
section
variable {X : Cx} {pins : List (Addr × Obj)} {σ : L2.St} {H : Hp} {s : Shared}
end
end DL

set_option maxHeartbeats 2000000
/-! DL109: slot[k] = an owned value, where the slot's dict has the key. -/
namespace DL
open PySem PySem.Spec PyProof.Rows L2
section
variable {X : Cx} {W : WX} {B : List Nat} {e k : Expr} {mo : M OD} {mk : M PyData} {x : Str} {p pos pos' : Pos}
end
section
variable {env : DEnv}
end
end DL

set_option maxHeartbeats 2000000
/-! DL110: defs and methods with keyword-only parameters that have defaults. -/
namespace DL
open PySem PySem.Spec PyProof.Rows L2
/-- data that is no object -/
def immV : PyData → V
  | .bool b => .bl b
  | .int i => .int i
  | .str x => .str x
  | _ => .non
def isImm : PyData → Bool
  | .none | .bool _ | .int _ | .str _ => true
  | _ => false
theorem rp_imm {K : PySem.W.Frag} {P : Hp} : ∀ {d : PyData}, isImm d = true → Rp K P (immV d) d
  | .none, _ => .non
  | .bool b, _ => .bl b
  | .int i, _ => .int i
  | .str x, _ => .str x
/-- how n positional ones and the keywords ks are bound, the others by their defaults dd -/
def KQ (K : PySem.W.Frag) (fd : FuncData) (ps ks : List Str) (n : Nat) (pm : List Nat) (dd : List PyData) : Prop := dd.all isImm = true ∧ ∃ dv : List Value, Vals (dd.map immV) dv ∧
  ∀ (s : Shared) (us ws : List Value), K.In s.heap → us.length = n → ws.length = ks.length → BindsTo s fd ⟨us, ks.zip ws⟩ (ps.zip (permL .none pm (us ++ (ws ++ dv))))
structure MethQ (P : Program) (w : World) (K : PySem.W.Frag) (mg : Str → Option Value) (base : Heap) (k : Nat) (c mn : Str) (ps : List Str) (m : M OD) (kq : List (List Str × Nat × List Nat × List PyData)) : Prop where
  ex : ∃ C f fd, mg c = some (.ref C) ∧ Cls K C ∧ Meth K C mn f ∧ FnG P w K mg base k f fd ps [0] m ∧ ∀ q ∈ kq, KQ K fd ps q.1 q.2.1 q.2.2.1 q.2.2.2
section
variable {X : Cx} {W : WX} {B Bc : List Nat} {j k : Nat} {m : M OD} {ml mk : M (List AV)} {x : Str} {p pos : Pos} {e : Expr} {es : List Expr} {kws : List Keyword} {ps : List Str} {kq : List (List Str × Nat × List Nat × List PyData)}
end
section
variable {X : Cx} {W : WX} {B : List Nat} {j k i : Nat} {c mn : Str} {ps : List Str} {m : M OD} {ml mk : M (List PyData)} {pp : DEnv → Option (List Stp)} {o e : Expr} {es : List Expr} {kws : List Keyword} {apos pos : Pos} {kq : List (List Str × Nat × List Nat × List PyData)}
end
end DL

set_option maxHeartbeats 2000000
/-! DL111: places read on; place[k] = an owned value. -/
namespace DL
open PySem PySem.Spec PyProof.Rows L2
section
variable {X : Cx} {W : WX} {B : List Nat} {i : Nat} {pp : DEnv → Option (List Stp)} {e : Expr}
end
section
variable {X : Cx} {W : WX} {B : List Nat} {i : Nat} {pp : DEnv → Option (List Stp)} {o e k : Expr} {mo : M OD} {mk : M PyData} {pos pos' : Pos}
end
section
variable {env : DEnv}
end
end DL

set_option maxHeartbeats 2000000
/-! DL112: for .. in enumerate(place): the list is read as it stands, its slot (a by-reference parameter) hidden in the body. -/
namespace DL
open PySem PySem.Spec PyProof.Rows L2
section
variable {K : PySem.W.Frag} {mg : Str → Option Value} {B : List Nat} {bv : Nat → V} {R P H P' H' : Hp} {Fs Fs' : Nat → List Addr} {σ σ2 : L2.St} {env env' : DEnv} {i : Nat} {x : OD}
end
section
variable {X : Cx} {W : WX} {B : List Nat} {i : Nat} {pp : DEnv → Option (List Stp)} {o : Expr} {body : List Stmt} {g : TG'} {mb : M Flw} {p pos pos2 tpos : Pos} {elts : List Expr} {kk : Nat}
end
section
variable {env : DEnv}
end
end DL

set_option maxHeartbeats 2000000
/-! DL113: name = place: the part is lent to the name (a reference stands in its place), and given back where the block ends. -/
namespace DL
open PySem PySem.Spec PyProof.Rows L2
section
variable {K : PySem.W.Frag} {mg : Str → Option Value} {B : List Nat} {bv : Nat → V} {R P H : Hp} {Fs : Nat → List Addr} {σ : L2.St} {env : DEnv} {i j : Nat} {x y : OD} {p : List Stp} {a : Addr}
end
section
variable {X : Cx} {W : WX} {B : List Nat} {o : Expr} {rest : List Stmt} {pp : DEnv → Option (List Stp)} {k : M Flw} {y : Str} {py pos : Pos}
end
end DL

set_option maxHeartbeats 4000000
/-! DL114: own classes of refusals with an __init__, over ValueError or KeyError: how one is made. -/
namespace DL
open PySem PySem.Spec PyProof.Rows L2 PySem.W PySem.Calls Builtin Builtin.ObjectAttr PySem.HandSPX
theorem tailX_cases {t l : List Value} (h : tailX t l = true) : (∃ c r, l = .ref c :: r ∧ tailX t r = true) ∨ l = t := by
  unfold tailX at h
  split at h
  · exact .inl ⟨_, _, rfl, h⟩
  · exact .inr (beq_iff_eq.mp h)
theorem tailX_has {t : List Value} (x : String) : ∀ {l : List Value}, tailX t l = true → l.contains (.type x) = t.contains (.type x)
  | [], h => by rw [show [] = t from beq_iff_eq.mp h]
  | y :: l, h => by
    rcases tailX_cases h with ⟨c, r, e, h2⟩ | e
    · cases e; rw [List.contains_cons, tailX_has x h2]; rfl
    · rw [e]
theorem tailX_pass {t : List Value} (self : Value) (ht : refuseLoop self "__setattr__" t = pure ()) : ∀ {l : List Value}, tailX t l = true → refuseLoop self "__setattr__" l = pure ()
  | [], h => by rw [show [] = t from beq_iff_eq.mp h]; exact ht
  | y :: l, h => by
    rcases tailX_cases h with ⟨c, r, e, h2⟩ | e
    · cases e; rw [refuseLoop_ref]; exact tailX_pass self ht h2
    · rw [e]; exact ht
theorem rfPass {C : Addr} {z : List Value} (self : Value) (h : refuseLoop self "__setattr__" z = pure ()) : refuseLoop self "__setattr__" (.ref C :: z) = pure () := by rw [refuseLoop_ref]; exact h
theorem kePass (self : Value) : refuseLoop self "__setattr__" keTail = pure () := by kernel_rfl
/-- what the maker looks at: B the class whose maker nid is, z the classes above -/
structure MkF (B nid : String) (z : List Value) : Prop where
  facts : ∃ iid zB, ExcBaseFacts B nid iid zB
  hasB : z.contains (.type B) = true
  noA : z.contains (.type "AttributeError") = false
  noN : z.contains (.type "NameError") = false
  hasO : z.contains (.type "object") = true
  pass : ∀ self, refuseLoop self "__setattr__" z = pure ()
theorem overX_ok {nn : String} {z : List Value} (h : overX nn z = true) : ∃ B, MkF B nn z := by
  unfold overX at h
  rcases Bool.or_eq_true_iff.mp h with h | h
  · obtain ⟨h1, h2⟩ := Bool.and_eq_true_iff.mp h
    obtain rfl := of_decide_eq_true h1
    exact ⟨"ValueError", ⟨_, _, F.excBase_ValueError⟩, (tailX_has _ h2).trans (by decide +kernel), (tailX_has _ h2).trans (by decide +kernel), (tailX_has _ h2).trans (by decide +kernel), (tailX_has _ h2).trans (by decide +kernel), fun s => tailX_pass s (F.store_ValueError.passes s) h2⟩
  · obtain ⟨h1, h2⟩ := Bool.and_eq_true_iff.mp h
    obtain rfl := of_decide_eq_true h1
    exact ⟨"LookupError", ⟨_, _, F.excBase_LookupError⟩, (tailX_has _ h2).trans (by decide +kernel), (tailX_has _ h2).trans (by decide +kernel), (tailX_has _ h2).trans (by decide +kernel), (tailX_has _ h2).trans (by decide +kernel), fun s => tailX_pass s (kePass s) h2⟩
/-- the class, as its maker wants it -/
structure OexX (K : PySem.W.Frag) (C : Addr) : Prop where
  cls : ∃ B nid nm q N bs z sn sub ab col dd k0 k1 k2 k3 k5, K.lookup C = some (excClassObj nm q C N bs z true sn sub ab col dd k0 k1 k2 k3 k5 nid) ∧ MkF B nid z
  sa : PySem.W.findIn K (.ref C) "__setattr__" = some (some (.builtin "object.__setattr__"))
  exC : PySem.W.subIn K (.ref C) (.type "BaseException") = some true
  tyC : PySem.W.typeIn K (.ref C) = some (.type "type")
  kC : PySem.W.keepIn K (.ref C) = true
theorem oexB_ok {K : PySem.W.Frag} {C : Addr} (h : oexB K C = true) : OexX K C := by
  unfold oexB at h
  obtain ⟨h0, h⟩ := Bool.and_eq_true_iff.mp h
  simp only [Bool.and_eq_true, decide_eq_true_eq] at h
  obtain ⟨h1, h2, h3, h4⟩ := h
  refine ⟨?_, h1, h2, h3, h4⟩
  split at h0
  · rename_i t dd cd sl hl
    split at h0
    · rename_i B bm k0 k1 k2 k3 nn k5 hm hs
      simp only [Bool.and_eq_true, decide_eq_true_eq, Bool.not_eq_true'] at h0
      obtain ⟨⟨rfl, rfl⟩, ⟨hdel, hhd⟩, hv⟩ := h0
      obtain ⟨c1, c2, c3, c4, c5, c6, c7, c8, c9, c10, c11⟩ := cd
      dsimp only at hm hdel hhd
      subst hm hdel hhd
      have e : sl = #[k0, k1, k2, k3, some (.builtin nn), k5] := by
        obtain ⟨l⟩ := sl
        simp only at hs
        rw [hs]
      subst e
      obtain ⟨B', hB⟩ := overX_ok hv
      exact ⟨B', nn, c1, c5, c4, c2, bm, c7, c8, c9, c10, dd, k0, k1, k2, k3, k5, hl, hB⟩
    · cases h0
  · cases h0
section
variable {Md : Model} {A : Around} {Er : Value → Shared → Prop} {h0 : Heap} {gs : Array GenState} {dr : Drawn} {n0 : Nat} {os0 : OsState}
variable {nm q : Str} {C N : Addr} {bs z : List Value} {hdct : Bool} {sn : List Str} {sub : List Value} {ab : Bool} {col : Option Bool} {dd : Option Addr} {k0 k1 k2 k3 k5 : Option Value} {B nid : String}
theorem checkN (hM : MkF B nid z) {us : List Value} {Qu : Unit → Shared → Prop}
    (hC : h0.get? C = some (excClassObj nm q C N bs z hdct sn sub ab col dd k0 k1 k2 k3 k5 nid)) (qu : Qu () ⟨h0, gs, dr, n0, os0⟩) : wpAny Md A (checkBuiltinCall nid ⟨.ref C :: us, []⟩) Qu Er ⟨h0, gs, dr, n0, os0⟩ := by
  obtain ⟨iid, zB, Fc⟩ := hM.facts
  have hb : (Value.ref C :: z).contains (.type B) = true := (List.contains_cons ..).trans (by rw [hM.hasB, Bool.or_true])
  have hstar := Fc.noStar
  simp only [checkBuiltinCall, Fc.newKind, Fc.newSplit, Fc.newRow]
  repeat (first | refine wpAny_loadPart_at hC ?_ | (refine wpAny_isSubtype_exc hC ?_; rw [hb]) | refine wpAny_staticBase_exc hC ?_ | refine wpAny_madeBy_exc hC ?_ | simp only [bne_self_eq_false, Bool.false_eq_true, if_false] | wp_step)
  exact qu
end
section
variable {prog : Program} {w : World} {A : Around} {Er : Value → Shared → Prop} {Rq : Result → Shared → Prop} {h0 : Heap} {gs : Array GenState} {dr : Drawn} {n0 : Nat} {os0 : OsState}
variable {nm q : Str} {C N : Addr} {bs z : List Value} {hdct : Bool} {sn : List Str} {sub : List Value} {ab : Bool} {col : Option Bool} {dd : Option Addr} {k0 k1 k2 k3 k5 : Option Value} {B nid : String}
theorem newN (hM : MkF B nid z) {us : List Value}
    (hC : h0.get? C = some (excClassObj nm q C N bs z hdct sn sub ab col dd k0 k1 k2 k3 k5 nid)) (hu : us.length ≤ sizeLine)
    (qu : Rq (.ok (.ret (.ref (h0.objs.size + 1)))) ⟨(h0.push { cls := .type "tuple", data := .seq us.toArray }).push
      { cls := .ref C, data := .fields #[.ref h0.objs.size, .none, .none, .none, .bool false, .none] }, gs, dr, n0, os0⟩) :
    codeAny (model prog w) A (.builtin nid ⟨.ref C :: us, []⟩) Rq ⟨h0, gs, dr, n0, os0⟩ := by
  obtain ⟨iid, zB, Fc⟩ := hM.facts
  have hends := Fc.ends
  have cB : (Value.ref C :: z).contains (.type B) = true := (List.contains_cons ..).trans (by rw [hM.hasB, Bool.or_true])
  have cA : (Value.ref C :: z).contains (.type "AttributeError") = false := (List.contains_cons ..).trans (by rw [hM.noA]; rfl)
  have cN : (Value.ref C :: z).contains (.type "NameError") = false := (List.contains_cons ..).trans (by rw [hM.noN]; rfl)
  refine codeAny_builtinAt Fc.entry ?_
  unfold Builtin.«BaseException.__new__»
  refine PySem.wpAt_bind (show PySem.wpAt _ _ _ (stack >>= _) _ _ _ from PySem.wpAt_bind (PySem.wpAt_stack fun p below => PySem.wpAt_of_wpAny ?_))
  wp_walk
  refine PySem.wpAt_of_wpAny ?_
  rw [Fc.owner]
  repeat (first | with_reducible refine wpAny_madeHere_exc Fc.canon hC ?_ | with_reducible refine wpAny_loadPart_at hC ?_ | (with_reducible refine wpAny_isSubtype_exc hC ?_; first | rw [cB] | rw [cA] | rw [cN]) | wp_step)
  show Rq _ _
  rw [Heap.size_push]
  exact qu
theorem typeCallN (hM : MkF B nid z) {us : List Value} {fI : Addr} {Qf : PySem.Fin → Shared → Prop}
    (hC : h0.get? C = some (excClassObj nm q C N bs z hdct sn sub ab col dd k0 k1 k2 k3 k5 nid))
    (hi : W.Looks (model prog w) h0 (typeLookup (.ref C) "__init__") (some (.ref fI))) (hb : ∀ self, W.Looks (model prog w) h0 (bindSpecial (.ref fI) self) (.ref fI, [self])) (hu : us.length ≤ sizeLine)
    (qu : codeAny (model prog w) A (.call (.ref fI) ⟨.ref (h0.objs.size + 1) :: us, []⟩)
      (fun r s' => match r with | .ok (.ret v) => v = .none ∧ Qf (.done (.ret (.ref (h0.objs.size + 1)))) s' | .ok _ => False | .error e => Er e s')
      ⟨(h0.push (W.kdv_tup us)).push (excO C h0.objs.size), gs, dr, n0, os0⟩) :
    wpAny (model prog w) A (Builtin.«type.__call__» ⟨.ref C :: us, []⟩) Qf Er ⟨h0, gs, dr, n0, os0⟩ := by
  obtain ⟨iid, zB, Fc⟩ := hM.facts
  repeat (first | with_reducible refine wpAny_loadPart_at hC ?_ | with_reducible refine wpAny_madeBy_exc hC ?_ | wp_step)
  refine codeAny_call_builtin_code (Code.quiet_builtin _ Fc.quiet) (checkN hM hC (newN hM hC hu (show wpAny _ _ _ _ _ _ from ?_)))
  have kp : ∀ b o, h0.get? b = some o → ((h0.push (W.kdv_tup us)).push (excO C h0.objs.size)).get? b = some o := fun b o e => Heap.get?_push_of_some _ (Heap.get?_push_of_some _ e)
  have hC2 := kp _ _ hC
  have hg2 : ((h0.push (W.kdv_tup us)).push (excO C h0.objs.size)).get? (h0.objs.size + 1) = some (excO C h0.objs.size) := by heap_get
  have cC : (Value.ref C :: z).contains (.ref C) = true := by simp
  have i2 := hi.keeps kp
  have b2 := (hb (.ref (h0.objs.size + 1))).keeps kp
  unfold isInstance
  repeat (first | with_reducible refine wpAny_loadPart_at hg2 ?_ | (with_reducible refine wpAny_isSubtype_exc hC2 ?_; rw [cC]) | wp_step)
  refine show wpAny _ _ (typeLookup (.ref C) _) _ _ _ from i2.at (wpAny_holding (wpAny_bind (b2.at (wpAny_bind (wpAny_call (codeAny_mono qu fun r s' y => ?_))))))
  rcases r with e | (v | _ | _ | _) <;> first | exact y | exact y.elim | skip
  obtain ⟨rfl, y⟩ := y
  first
    | exact wpAny_pure (wpAny_pure y)
    | (wp_walk; exact y)
/-- C(us): the new one, then its __init__ -/
theorem callN (hM : MkF B nid z) {us : List Value} {fI : Addr}
    (hC : h0.get? C = some (excClassObj nm q C N bs z hdct sn sub ab col dd k0 k1 k2 k3 k5 nid))
    (hi : W.Looks (model prog w) h0 (typeLookup (.ref C) "__init__") (some (.ref fI))) (hb : ∀ self, W.Looks (model prog w) h0 (bindSpecial (.ref fI) self) (.ref fI, [self])) (hu : us.length ≤ sizeLine)
    (qu : codeAny (model prog w) (A.under (.builtin "type.__call__" ⟨.ref C :: us, []⟩)) (.call (.ref fI) ⟨.ref (h0.objs.size + 1) :: us, []⟩) (W.InitBack (h0.objs.size + 1) Rq)
      ⟨(h0.push (W.kdv_tup us)).push (excO C h0.objs.size), gs, dr, n0, os0⟩) :
    codeAny (model prog w) A (.call (.ref C) ⟨us, []⟩) Rq ⟨h0, gs, dr, n0, os0⟩ := by
  have f1 := tc_lookup
  have f2 := tc_bind (.ref C)
  have hTy : (⟨h0, gs, dr, n0, os0⟩ : Shared).TypeIs (.ref C) "type" := ⟨_, hC, rfl⟩
  refine codeAny_of_tree (show wpAny _ _ (callAny (.ref C) _) _ _ _ from ?_)
  repeat (any_goals (first | assumption | with_reducible refine wpAny_loadPart_at hC ?_ | wp_step))
  refine ⟨rfl, codeAny_call_builtin_at (Code.quiet_builtin _ (by decide +kernel)) entry_typeCall (wpAny_check_type_call_sub hC (typeCallN hM hC hi hb hu ?_))⟩
  refine codeAny_mono qu fun r s' y => ?_
  rcases r with e | (v | _ | _ | _) <;> exact y
/-- the first field of one that has no dict yet -/
theorem osaN {K : W.Frag} {fn : Str} {tk : Tok} {v : Value} {x C : Addr} {fv : Array Value} {cd : ClassData}
    (XI : K.In h0) (hx : h0.get? x = some { cls := .ref C, data := .fields fv }) (hcd : W.clsIn K C = some cd) (hm : ∀ self, refuseLoop self "__setattr__" cd.mro = pure ()) (hob : cd.mro.contains (.type "object") = true) (ne : cd.mro.isEmpty = false) (hh : cd.hasDict = true) (ha : W.findIn K (.ref C) fn = some none)
    (qu : ∀ h' tk' dx, (∀ b o, b ≠ x → h0.get? b = some o → h'.get? b = some o) → h0.objs.size ≤ dx → dx ≠ x → h'.get? x = some { cls := .ref C, dict := some dx, data := .fields fv } →
      h'.Ns1 dx (fun y => if y = fn then some v else none) → Rq (.ok (.ret .none)) ⟨h', gs, dr, tk', os0⟩) :
    codeAny (model prog w) A (.call (.builtin "object.__setattr__") ⟨[.ref x, .str fn tk, v], []⟩) Rq ⟨h0, gs, dr, n0, os0⟩ := by
  have I : W.InstAt h0 x { cls := .ref C, data := .fields fv } C none := ⟨hx, rfl, rfl, trivial⟩
  have SF := F.store_object
  have hxs : x ≠ h0.objs.size := Nat.ne_of_lt (Heap.lt_size hx)
  have sub : W.Looks (model prog w) h0 (isInstance (.ref x) (.type "object")) true := I.type.andThen (W.looks_mroIn XI (by unfold W.mroIn; rw [hcd, Option.bind_some, if_neg (by rw [ne]; decide), hob]))
  refine codeAny_call_builtin SF.slot.plain SF.entry (@W.check_slot (model prog w) _ _ ⟨h0, gs, dr, n0, os0⟩ "object.__setattr__" "object" "__setattr__" (.ref x) [.str fn tk, v] [] _ SF.kind SF.split sub (SF.args (.ref x) (.str fn tk) v) ?_)
  have hmr : W.Looks (model prog w) h0 (mroOf (.ref C)) cd.mro := (W.looks_clsIn XI hcd).andThen .now
  have L3 : W.Looks (model prog w) h0 (storeTaker? none) none := .now
  have hcls : W.Looks (model prog w) h0 (classData C) cd := W.looks_clsIn XI hcd
  rw [W.osa_eq, refuse_eq]
  refine wpAny_bind (wpAny_bind (I.type.at (wpAny_bind (hmr.at ?_))))
  rw [hm]
  refine wpAny_pure (wpAny_bind (I.type.at (wpAny_bind ((W.looks_findIn XI ha).at (wpAny_bind (L3.at (show wpAny _ _ (storeInOwnDict (.ref x) (.ref C) (.str fn tk) fn v false) _ _ _ from ?_)))))))
  obtain ⟨c1, c2, c3, c4, c5, c6, c7, c8, c9, c10, c11⟩ := cd
  dsimp only at hh
  subst hh
  unfold storeInOwnDict ownDictForStores
  repeat (first | with_reducible refine store_in_new ?_ ?_ | with_reducible refine wpAny_loadPart_at hx ?_ | with_reducible refine hcls.at ?_ | wp_step)
  · exact ⟨_, #[], _, (Heap.get?_update_ne _ _ _ _ hxs.symm).trans (Heap.get?_push_at rfl rfl), rfl, fun e he => absurd he (by simp), fun _ => rfl⟩
  · intro h' tk' hn' hs
    have hx2 : (h0.push { cls := .type "dict", data := .dict #[] }).get? x = some { cls := .ref C, data := .fields fv } := Heap.get?_push_of_some _ hx
    exact qu h' tk' h0.objs.size (fun b o hb ho => (hs.2 b (Nat.ne_of_lt (Heap.lt_size ho))).trans ((Heap.get?_update_ne _ _ _ _ hb).trans (Heap.get?_push_of_some _ ho))) (Nat.le_refl _) hxs.symm ((hs.2 x hxs).trans (Heap.get?_update_self _ hx2 rfl)) hn'
end
end DL

set_option maxHeartbeats 4000000
/-! DL115: self.f = e in such an __init__; C(e) raised or kept; raise C(e), caught.f. -/
namespace DL
open PySem PySem.Spec PyProof.Rows L2
section
variable {X : Cx} {pins : List (Addr × Obj)} {σ : L2.St} {H : Hp} {s : Shared} {a C dx : Addr} {f : Str} {y : V} {u : Value} {Q : Unit → Shared → Prop} {E : Value → Shared → Prop} {A : Around}
theorem ost_newX (T : OexX X.K C) (I : L2.Inv X pins σ H s) (e : H a = some (exo a C none)) (hno : PySem.W.findIn X.K (.ref C) f = some none) (ry : RelV y u)
    (h : ∀ dx s', H dx = none → dx ≠ a → L2.Inv X pins σ (upd (upd H dx (exd dx [(f, y)])) a (exo a C (some dx))) s' → Q () s') : wpAny (model X.prog X.w) A (setAttr (.ref a) f u) Q E s := by
  obtain ⟨B, nid, nm, q, N, bs, z, sn, sub, ab, col, dd, k0, k1, k2, k3, k5, hC, hM⟩ := T.cls
  have hcl : PySem.W.clsIn X.K C = some { name := nm, bases := bs, mro := .ref C :: z, ns := N, qualname := q, hasDict := true, slotNames := sn, subclasses := sub, abstract := ab, collection := col, hasDel := false } := by unfold PySem.W.clsIn; rw [hC] <;> rfl
  obtain ⟨t1, ho⟩ := exo_at I.hok e
  obtain ⟨hp, g, d, t, os⟩ := s
  refine PySem.W.set_plain I.kIn (ox := { cls := .ref C, dict := none, data := .fields #[.ref t1, .none, .none, .none, .bool false, .none] }) (od := none) ⟨ho, rfl, rfl, trivial⟩ T.sa ?_
  refine osaN I.kIn ho hcl (fun self => rfPass self (hM.pass self)) ((List.contains_cons ..).trans (by rw [hM.hasO, Bool.or_true])) rfl rfl hno (fun h' tk' dx k dn dne hx hn => ?_)
  have hnd : H dx = none := I.hok.fresh dn
  have nd : ∀ {b : Addr} {o : Obj}, hp.get? b = some o → b ≠ dx := fun {b o} r => Nat.ne_of_lt (Nat.lt_of_lt_of_le (Heap.lt_size r) dn)
  have na : ∀ {b : Addr}, H b = none → b ≠ a := fun {b} n r => by rw [r, e] at n; cases n
  have U1 : Un X.fs [] H (upd (upd H dx (exd dx [(f, y)])) a (exo a C (some dx))) hp h' := {
    keep := fun b o r n _ _ => k b o (na n) r, slot := fun b o r n _ _ => ⟨o.slots, k b o (na n) r⟩
    free := fun b o r n _ => (upd_ne (na n)).trans ((upd_ne (nd r)).trans n)
    there := fun b o r _ => (Classical.em (b = a)).elim (fun hb => hb ▸ ⟨_, hx⟩) fun hb => ⟨o, k b o hb r⟩
    tups := fun b xs r => (upd_ne (at_ne e r exo_tup)).trans ((upd_ne (ne_of_none r hnd)).trans r)
    frzs := fun b o v r => (upd_ne (at_ne e r exo_frz)).trans ((upd_ne (ne_of_none r hnd)).trans r)
    tbls := fun b ps r => ⟨#[], by rw [upd_ne (at_ne e r exo_tbl), upd_ne (ne_of_none r hnd), r]; simp⟩ }
  refine h dx _ hnd dne (I.un (t' := tk') U1 fun b o r => ?_)
  by_cases hb : b = a
  · subst hb; rw [upd_same] at r; cases r; exact exo_ok hx
  · rw [upd_ne hb] at r
    by_cases hd : b = dx
    · subst hd; rw [upd_same] at r; cases r; exact exd_ok hn (relO_put (fs := []) ry fun g => True.intro)
    · rw [upd_ne hd] at r
      exact (I.hok b o r).stay (fun c v hc w => k c v (hc.elim (fun i => by rw [i]; exact hb) fun i => at_ne e i exo_own) w)
        (fun c hc => (upd_ne (at_ne e hc exo_own)).trans ((upd_ne (ne_of_none hc hnd)).trans hc)) (fun c xs hc => (upd_ne (at_ne e hc exo_tup)).trans ((upd_ne (ne_of_none hc hnd)).trans hc))
end
/-- self.f = e, the first one -/
def tOstX (K : PySem.W.Frag) (f : Str) (to te : TE) : TS := fun D σ H => te σ H fun y H1 => to σ H1 fun x H2 => ∃ a C : Addr, x = .ref a ∧ OexX K C ∧ PySem.W.findIn K (.ref C) f = some none ∧ H2 a = some (exo a C none) ∧ ∀ dx, H2 dx = none → dx ≠ a → D.nx σ (upd (upd H2 dx (exd dx [(f, y)])) a (exo a C (some dx)))
theorem ps_ostX {X : Cx} {o e : Expr} {to te : TE} {f : Str} {p' pos : Pos} (ho : PE X o to) (he : PE X e te) (hs : swapsWith e (some (.Attribute o f p')) pos.line X.env = pure false := by rfl) : PS X (.Assign [.Attribute o f p'] e pos) (tOstX X.K f to te) := by
  refine ⟨fun pins s σ H D I h => ?_⟩
  refine plainObj_wpAny_Assign_Attribute (thn (he.run pins s σ H _ I h) fun v s1 ⟨y, H1, I1, r1, q1⟩ => thn (ho.run pins s1 σ H1 _ I1 q1) fun u s2 ⟨x, H2, I2, r2, a, C, ex, T, hno, ea, q⟩ => ?_) hs
  subst ex
  obtain rfl : u = Value.ref a := r2
  exact ost_newX T I2 ea hno r1 fun dx s' n ne J => ⟨σ, _, J, q dx n ne⟩
/-- what such an __init__ keeps: self gets the field -/
def spI (C : Addr) (f : Str) : Sp := fun vs H Q _ => ∃ (a : Addr) (v : V), vs = [V.ref a, v] ∧ H a = some (exo a C none) ∧ ∀ dx, H dx = none → dx ≠ a → Q .non (upd (upd H dx (exd dx [(f, v)])) a (exo a C (some dx)))
def CXN : CXT := fun _ _ _ _ _ _ => False
/-- a class of refusals with the one field f -/
def ExF (P : Program) (w : World) (K : PySem.W.Frag) (mg : Str → Option Value) (base : Heap) (c f : Str) : Prop :=
  ∃ (C fI : Addr) (fd : FuncData) (ps : List Str), mg c = some (.ref C) ∧ OexX K C ∧ PySem.W.findIn K (.ref C) "__init__" = some (some (.ref fI)) ∧ PySem.W.typeIn K (.ref fI) = some (.type "function") ∧ FnOk P w K mg base CXN 1 fI fd ps (spI C f) ∧ Binds K fd ps []
theorem fni_of {P : Program} {w : World} {K : PySem.W.Frag} {mg : Str → Option Value} {base : Heap} {x qual : Str} {params : Arguments} {body : List Stmt} {scope : Scope} {fI C : Addr} {fd : FuncData} {a0 a1 f : Str} {p0 p1 p2 p3 : Pos} (F : FunD K x qual params body scope [] [] fI fd) (S : FnScope [a0, a1] [a0, a1] scope) (T : OexX K C) (hno : PySem.W.findIn K (.ref C) f = some none)
    (hbody : body = [.Assign [.Attribute (.Name a0 p0) f p1] (.Name a1 p2) p3]) (hv0 : Vis scope a0) (hv1 : Vis scope a1) (hd0 : (a0 == ("__debug__" : Str)) = false) (hd1 : (a1 == ("__debug__" : Str)) = false) (hc0 : (a0 == ("__classdict__" : Str)) = false) (hc1 : (a1 == ("__classdict__" : Str)) = false)
    (hs : ∀ cdv A outer s H E, swapsWith (.Name a1 p2) (some (.Attribute (.Name a0 p0) f p1)) p3.line (cxOf CXN P w K mg base [a0, a1] qual scope fI cdv A outer s H E).env = pure false) : FnOk P w K mg base CXN 1 fI fd [a0, a1] (spI C f) :=
  F.ok S (fun vs H Q E h => by obtain ⟨a, v, rfl, _⟩ := h; rfl) fun cdv A outer s H vs Q E hr h => by
    obtain ⟨a, v, rfl, ha, q⟩ := h
    subst hbody
    refine ⟨_, pss_one (ps_ostX (X := cxOf CXN P w K mg base [a0, a1] qual scope fI cdv A outer s H E) (pe_var (i := 0) rfl hv0 hd0 hc0) (pe_var (i := 1) rfl hv1 hd1 hc1) (hs _ _ _ _ _ _)), ?_⟩
    exact ⟨v, rfl, .ref a, rfl, a, C, rfl, T, hno, ha, q⟩
section
variable {X : Cx} {es : List Expr} {e : Expr} {ta : TA} {p pos : Pos}
/-- the making, up to its end -/
theorem make_oexX {CX : CXT} {x : Str} {C fI : Addr} {k : Nat} {fd : FuncData} {ps : List Str} {sp : Sp} {pins : List (Addr × Obj)} {σ : L2.St} {H : Hp} {s : Shared} {Z : Value → Shared → Prop} (T : OexX X.K C) (iC : PySem.W.findIn X.K (.ref C) "__init__" = some (some (.ref fI))) (tI : PySem.W.typeIn X.K (.ref fI) = some (.type "function"))
    (F1 : FnOk X.prog X.w X.K X.mg X.base CX k fI fd ps sp) (hr : Room (k + 1) X.A) (hb : Binds X.K fd ps []) (hx : Passes CX X (fun _ _ _ => False)) (hg : Gl X x) (hm : X.mg x = some (.ref C)) (ha : PA X (e :: es) ta)
    (hdb : (x == ("__debug__" : Str)) = false) (he : starEach (e :: es) X.env = (false, eval e X.env) :: starEach es X.env) (hpl : (backTo pos (starEach es X.env)).any (·.1) = false) (I : L2.Inv X pins σ H s)
    {Kq : List V → Hp → Prop} (h : ta σ H Kq) (hK : ∀ vs H1, Kq vs H1 → vs.length ≤ 1000 ∧ ∀ (s1 : Shared) (I1 : L2.Inv X pins σ H1 s1) (s2 : Shared) (I2 : L2.Inv X pins σ (upd H1 (s1.heap.objs.size + 1) (exo (s1.heap.objs.size + 1) C none)) s2), H1 (s1.heap.objs.size + 1) = none → (∀ b o, s1.heap.get? b = some o → s2.heap.get? b = some o) →
      sp (.ref (s1.heap.objs.size + 1) :: vs) (upd H1 (s1.heap.objs.size + 1) (exo (s1.heap.objs.size + 1) C none)) (fun v H2 => v = .non ∧ ∀ (s3 : Shared), Un (frs X.stack) [] (upd H1 (s1.heap.objs.size + 1) (exo (s1.heap.objs.size + 1) C none)) H2 s2.heap s3.heap → HOk X.prog X.w H2 s3.heap → s3.os = s1.os → AllBare s3.gens → Z (.ref (s1.heap.objs.size + 1)) s3) (fun _ _ _ => False)) :
    wpAny (model X.prog X.w) X.A (eval (.Call (.Name x p) (e :: es) [] pos) X.env) Z X.xe s := by
  obtain ⟨B, nid, nm, q, N, bs, z, sn, sub, ab, col, dd, k0, k1, k2, k3, k5, hC, hM⟩ := T.cls
  refine wpAny_Call_Name_kw (ld_glob I hg hm ?_ hdb)
  refine PySem.W.callWith_K (h₀ := X.base) I.ok.mod.kin T.kC (thn (ha.run pos pins s σ H _ I h) fun us s1 ⟨vs, H1, I1, r1, qK⟩ => ⟨I1.kIn, ?_⟩) he hpl
  obtain ⟨hz, q1⟩ := hK vs H1 qK
  show wpAny _ _ (call (.ref C) us) _ _ _
  obtain ⟨hp, g, dr, tk, os⟩ := s1
  have hsz : hp.objs.size ≤ hp.objs.size + 1 := Nat.le_succ _
  have hn : H1 (hp.objs.size + 1) = none := I1.hok.fresh hsz
  have kk : ∀ b o, hp.get? b = some o → ((hp.push (PySem.W.kdv_tup us)).push (PySem.HandSPX.excO C hp.objs.size)).get? b = some o := fun b o w => Heap.get?_push_of_some _ (Heap.get?_push_of_some _ w)
  have hget : ((hp.push (PySem.W.kdv_tup us)).push (PySem.HandSPX.excO C hp.objs.size)).get? (hp.objs.size + 1) = some (PySem.HandSPX.excO C hp.objs.size) := by heap_get
  have I2 : L2.Inv X pins σ (upd H1 (hp.objs.size + 1) (exo (hp.objs.size + 1) C none)) ⟨(hp.push (PySem.W.kdv_tup us)).push (PySem.HandSPX.excO C hp.objs.size), g, dr, tk, os⟩ :=
    I1.laid (t' := tk) (a := hp.objs.size + 1) (o := exo (hp.objs.size + 1) C none) (h' := (hp.push (PySem.W.kdv_tup us)).push (PySem.HandSPX.excO C hp.objs.size)) kk hsz (exo_ok hget)
  have hq := q1 _ I1 _ I2 hn kk
  have r2 : Vals (V.ref (hp.objs.size + 1) :: vs) (Value.ref (hp.objs.size + 1) :: us) := .cons rfl r1
  have hl : (Value.ref (hp.objs.size + 1) :: us).length = ps.length := r2.length.symm.trans (F1.len _ _ _ _ hq)
  have hus : us.length ≤ sizeLine := by rw [← Paired.length r1, sizeLine_eq]; omega
  refine wpAny_call (callN hM (I1.kIn _ _ hC) (PySem.W.looks_findIn I1.kIn iC) (fun self => PySem.W.bind_fn I1.kIn self tI) hus
    (codeAny_mono (F1.run _ X.stack _ _ ⟨Value.ref (hp.objs.size + 1) :: us, []⟩ (Value.ref (hp.objs.size + 1) :: us) _ _ (fun _ _ _ => False) (hr.make C us []) (I2.env0.make C us []) (by have w := hb _ (Value.ref (hp.objs.size + 1) :: us) I2.kIn (by simpa using hl); simpa using w) r2 hq) fun r s' hq' => ?_))
  cases r with
  | error er => exact hx pins σ _ _ er s' I2 hq'
  | ok fl =>
    cases fl with
    | ret u =>
      obtain ⟨v, H2, os2, bare2, un2, hok2, rv, ev, q2⟩ := hq'
      subst ev
      exact ⟨rv, q2 s' un2 hok2 os2 bare2⟩
    | next => exact False.elim hq'
    | brk => exact False.elim hq'
    | cont => exact False.elim hq'
end
section
variable {X : Cx} {c f : Str} {e : Expr} {te : TE} {p pos : Pos} {k : Nat}
theorem field_heap {H1 : Hp} {a dx C : Addr} {f : Str} {v : V} (ha : H1 a = none) (hn : dx ≠ a) :
    upd (del (upd (upd (upd H1 a (exo a C none)) dx (exd dx [(f, v)])) a (exo a C (some dx))) a) dx (.xd [(f, v)]) = upd H1 dx (.xd [(f, v)]) := by
  funext b
  by_cases h1 : b = dx
  · rw [h1, upd_same, upd_same]
  · rw [upd_ne h1, upd_ne h1]
    by_cases h2 : b = a
    · rw [h2, del_same, ha]
    · rw [del_ne h2, upd_ne h2, upd_ne h1, upd_ne h2]
/-- C(e), to be raised -/
theorem pmk_field (D : ExF X.prog X.w X.K X.mg X.base c f) (hr : Room k X.A) (hk : 2 ≤ k) (he : PE X e te) (hg : Gl X c) (hdb : (c == ("__debug__" : Str)) = false) (hst : starEach [e] X.env = [(false, eval e X.env)]) :
    PMk X (.Call (.Name c p) [e] [] pos) (fun σ H Q => te σ H fun v H1 => ∀ C dx, X.mg c = some (.ref C) → H1 dx = none → Q (.ref C) (some dx) (upd H1 dx (.xd [(f, v)]))) := by
  obtain ⟨C, fI, fd, ps, hm, T, iC, tI, F, hb⟩ := D
  intro pins s σ H Q I h
  refine make_oexX T iC tI F (hr.mono hk) hb (fun _ _ _ _ _ _ _ h => h.elim) hg hm (pa_cons he pa_nil hst) hdb hst (by rfl) I (Kq := fun vs H1 => match vs with
    | [v] => ∀ C dx, X.mg c = some (.ref C) → H1 dx = none → Q (.ref C) (some dx) (upd H1 dx (.xd [(f, v)]))
    | _ => False) h (fun vs H1 qk => ?_)
  obtain ⟨v, rfl, q⟩ : ∃ v, vs = [v] ∧ (∀ C dx, X.mg c = some (.ref C) → H1 dx = none → Q (.ref C) (some dx) (upd H1 dx (.xd [(f, v)]))) := by
    rcases vs with _ | ⟨v, _ | ⟨_, _⟩⟩
    · exact qk.elim
    · exact ⟨v, rfl, qk⟩
    · exact qk.elim
  refine ⟨by simp, fun s1 I1 s2 I2 hn kk => ⟨_, v, rfl, upd_same, fun dx hdx hne => ⟨rfl, fun s3 un hok os bare => ?_⟩⟩⟩
  obtain ⟨hp, g1, d1, t1, os1⟩ := s1
  obtain ⟨h3, g3, d3, t3, os3⟩ := s3
  have hd0 : H1 dx = none := by rwa [upd_ne hne] at hdx
  refine mk_end (raises_own T.exC T.tyC) I1 (Nat.le_succ _) kk un hok os bare upd_same (by rw [upd_ne hne, upd_same]) hd0 ?_
  dsimp only
  rw [field_heap hn hne]
  exact q C dx hm hd0
end
end DL

set_option maxHeartbeats 4000000
/-! DL116: try: .. except T as n: .., the exception known (and its field) in the suite; except of a built-in class. -/
namespace DL
open PySem PySem.Spec PyProof.Rows L2
section
variable {X : Cx} {te : Expr} {n : Str} {i : Nat} {body suite : List Stmt} {b₀ : Stmt} {pos pos' : Pos} {tb : WX → TS} {ts : TS} {Wout : WX}
end
end DL

set_option maxHeartbeats 4000000
/-! DL117: M.raiseF, M.mkX (exceptions kept), M.xfld, M.tryAs, isinstance and fields of temporaries. -/
namespace DL
open PySem PySem.Spec PyProof.Rows L2
/-! ### raise C(e) -/
def M.raiseF (c f : Str) (me : M PyData) : M Flw := M.bind me fun d env => .ex ⟨.own c, some (f, d)⟩ env
section
variable {X : Cx} {W : WX} {B : List Nat} {c f : Str} {e : Expr} {me : M PyData} {p pos rpos : Pos} {k : Nat}
theorem sd_raiseF (D : ExF X.prog X.w X.K X.mg X.base c f) (hr : Room k X.A) (hk : 2 ≤ k) (hc : X.calm = true) (tk : Takes X W) (he : ED X W B e me) (hg : Gl X c := by rfl) (hdb : (c == ("__debug__" : Str)) = false := by decide)
    (hst : starEach [e] X.env = [(false, eval e X.env)] := by rfl) : SD X W B (.Raise (some (.Call (.Name c p) [e] [] pos)) none rpos) (M.raiseF c f me) :=
  PS_mono (ps_raise hc tk (pmk_field D hr hk he hg hdb hst)) fun D2 σ H ⟨bv, R, P, Fs, env, S, q⟩ => tD_bindS (Same.refl _) S q fun d e1 v P1 H1 F1 S1 s1 r1 q1 C dx hm hdx => by
    have ex := ext_new S1.ph (.xd [(f, v)]) hdx
    exact q1 (.ref C) (some dx) σ _ _ F1 (S1.ext ex) (s1.trans ex.pp) ⟨⟨C, hm, rfl⟩, dx, v, rfl, upd_same, r1.mono ex.pp⟩
/-! ### C(e), C() kept -/
def M.mkX (c f : Str) (me : M PyData) : M OD := M.bind me fun d => M.pure (.exn ⟨.own c, some (f, d)⟩)
end
/-! ### the field of one -/
def xfldO (f : Str) (cs : List Str) : OD → Option PyData
  | .exn ⟨.own c, some (g, d)⟩ => if g = f ∧ c ∈ cs then some d else none
  | _ => none
def M.xfld (i : Nat) (f : Str) (cs : List Str) : M PyData := fun env => match ((env[i]?).join).bind (xfldO f cs) with
  | some d => .ok d env
  | none => .no
/-- what is asked of the classes whose field is read -/
def XF (K : PySem.W.Frag) (mg : Str → Option Value) (cs : List Str) (f : Str) : Prop := ∀ c ∈ cs, ∀ C, mg c = some (.ref C) → ExcC K C ∧ PySem.W.findIn K (.ref C) f = some none
section
variable {X : Cx} {W : WX} {B : List Nat} {y f : Str} {p2 pos : Pos} {cs : List Str}
theorem xfldO_inv {o : OD} {d : PyData} (h : xfldO f cs o = some d) : ∃ c, o = .exn ⟨.own c, some (f, d)⟩ ∧ c ∈ cs := by
  unfold xfldO at h
  split at h
  · rename_i c g d'
    split at h
    · rename_i hc
      obtain ⟨rfl, hc⟩ := hc
      cases h
      exact ⟨c, rfl, hc⟩
    · cases h
  · cases h
theorem get_field {pins : List (Addr × Obj)} {σ : L2.St} {P H : Hp} {s : Shared} {F : List Addr} {v : V} {c : Str} {d : PyData} {u : Value} {b : Bool} {Q : VK} (I : L2.Inv X pins σ H s) (hX : XF X.K X.mg cs f) (hc : c ∈ cs) (ph : Same P H) (o : Ow X.K X.mg P H F v (.exn ⟨.own c, some (f, d)⟩)) (ru : RelV v u)
    (q : ∀ vv, Rp X.K P vv d → Q vv H) : wpAny (model X.prog X.w) X.A (getAttr u f b) (EP X pins σ Q) X.xe s := by
  cases o with
  | @exn a cls dx _ hcl hp hf =>
    obtain ⟨⟨C, m1, m2⟩, _⟩ := hcl
    obtain ⟨dd, vv, e1, e2, e3⟩ := hf f d rfl
    subst m2 e1
    obtain ⟨T, hno⟩ := hX c hc C m1
    obtain rfl : u = Value.ref a := ru
    obtain ⟨⟨oe, vs, o1, o2, o3⟩, _⟩ := I.hok a _ (ph _ _ hp)
    obtain ⟨mA, hns, hr⟩ := (show ObjOk X.prog X.w H s.heap dd (.xd [(f, vv)]) from I.hok dd _ (ph _ _ e2))
    obtain ⟨od, hod, hl⟩ := lookIn_ns hns
    have hr1 := hr f
    simp only [List.lookup_cons, beq_self_eq_true] at hr1
    obtain ⟨z, hz, rz⟩ := RelO.some_of hr1
    have J : PySem.W.InstAt s.heap a oe C (some od) := ⟨o1, o2.1, by unfold PySem.W.notCls; rw [o3] <;> rfl, by rw [o2.2]; exact hod⟩
    exact HandSPX.exc_get I.kIn J T.hg T.hk T.hs (PySem.W.findObj_own T.hd hno rfl (by rw [hl, hz])) (handed_of rz) ⟨vv, H, I.tok _, rz, q vv e3⟩
theorem ed_xfld (i : Nat) (f : Str) (cs : List Str) (hX : XF X.K X.mg cs f) (hN : X.N[i]? = some y := by rfl) (hv : Vis X.env.scope y := by first | exact Or.inl rfl | exact Or.inr (Or.inl rfl) | exact Or.inr (Or.inr rfl)) (hd : (y == ("__debug__" : Str)) = false := by decide) (hcd : (y == ("__classdict__" : Str)) = false := by decide)
    (hb : attributeBase (.Name y p2) f X.env (eval (.Name y p2) X.env) = eval (.Name y p2) X.env := by rfl) : ED X W B (.Attribute (.Name y p2) f pos) (M.xfld i f cs) := by
  refine ⟨fun pins s σ H Q I ⟨bv, R, P, Fs, env, S, q⟩ => ?_⟩
  unfold M.xfld at q
  cases hb2 : ((env[i]?).join).bind (xfldO f cs) with
  | none => rw [hb2] at q; exact q.elim
  | some d =>
    rw [hb2] at q
    obtain ⟨o, h1, h2⟩ := Option.bind_eq_some_iff.mp hb2
    obtain ⟨c, rfl, hc⟩ := xfldO_inv h2
    obtain ⟨v, g1, g2⟩ := S.slot i _ (join_some h1)
    refine attr_of hb (thn ((pe_var hN hv hd hcd).run pins s σ H (fun x H1 => x = v ∧ H1 = H) I ⟨v, g1, rfl, rfl⟩) fun u s1 ⟨x, H1, I1, rx, ex, eH⟩ => ?_)
    subst ex eH
    exact get_field I1 hX hc S.ph g2 rx fun vv e3 => q vv P H1 Fs S (Same.refl _) e3
end
/-! ### try: .. except T as n: .. -/
def M.tryAs (i : Nat) (tbl : List (Str × Bool)) (mb mh : M Flw) : M Flw := fun env => match mb env with
  | .ex x e => (match takesB tbl x with
    | some true => (match mh (e.set i (some (.exn x))) with
      | .ok .nx e2 => .ok .nx (e2.set i none)
      | .ok (.rt o) e2 => .ok (.rt o) (e2.set i none)
      | _ => .no)
    | some false => .ex x e
    | none => .no)
  | r => r
section
variable {X : Cx} {W : WX} {B : List Nat} {c n : Str} {body suite : List Stmt} {b₀ : Stmt} {np pos pos' : Pos} {mb mh : M Flw} {cv : Value} {i : Nat}
end
end DL

set_option maxHeartbeats 4000000
/-! DL118: list.count of a truth value; isinstance of a temporary; for k, x in enumerate(xs), xs a list of exceptions; facts. -/
namespace DL
open PySem PySem.Spec PySem.SeqAt PyProof.Rows L2
/-! ### x.count(e) -/
section
variable {X : Cx}
variable {W : WX} {B : List Nat} {a e : Expr} {ma me : M PyData} {apos cpos : Pos}
end
/-! ### isinstance(C(..), D) -/
section
variable {X : Cx} {W : WX} {B : List Nat} {e ce : Expr} {p pos : Pos} {c : V} {cv : Value} {tbl : List (Str × Bool)} {m : M OD}
end
/-! ### facts -/
section
variable {fa : List He.Fa} {fn : List He.DefD} {tb : Tbs} {K : PySem.W.Frag} {mg : Str → Option Value} {base : Heap}
theorem xf_nil {f : Str} : XF K mg [] f := fun c h => (nomatch h)
theorem xf_cons (C : Cm fa fn tb K mg base) (i j l : Nat) {c f : Str} {cs : List Str} (r : XF K mg cs f) (h1 : fa[i]? = some (.glo c) := by rfl) (h2 : tb[j]? = some (("<x>" : Str), [.str c]) := by rfl) (h3 : fa[l]? = some (.noat c f) := by rfl) : XF K mg (c :: cs) f := fun n hn C' hm => by
  rcases List.mem_cons.mp hn with rfl | hn
  · have e2 := C.glo _ h1
    rw [e2] at hm
    cases hm
    exact ⟨excCB_ok (C.xt j h2), He.noat_ok (C.says.fact l h3)⟩
  · exact r n hn C' hm
/-- such a class with the one field f -/
theorem exf_of {P : Program} {w : World} (C : Cm fa fn tb K mg base) (i j l m : Nat) {c f qual x : Str} {params : Arguments} {body : List Stmt} {scope : Scope} {fd : FuncData} {a0 a1 : Str} {p0 p1 p2 p3 : Pos}
    (F : FunD K x qual params body scope [] [] (He.ma K (He.ga K c) "__init__") fd) (S : FnScope [a0, a1] [a0, a1] scope) (hb : Binds K fd [a0, a1] [])
    (hbody : body = [.Assign [.Attribute (.Name a0 p0) f p1] (.Name a1 p2) p3]) (hv0 : Vis scope a0) (hv1 : Vis scope a1) (hd0 : (a0 == ("__debug__" : Str)) = false) (hd1 : (a1 == ("__debug__" : Str)) = false) (hc0 : (a0 == ("__classdict__" : Str)) = false) (hc1 : (a1 == ("__classdict__" : Str)) = false)
    (hs : ∀ cdv A outer s H E, swapsWith (.Name a1 p2) (some (.Attribute (.Name a0 p0) f p1)) p3.line (cxOf CXN P w K mg base [a0, a1] qual scope (He.ma K (He.ga K c) "__init__") cdv A outer s H E).env = pure false)
    (h1 : fa[i]? = some (.glo c) := by rfl) (h2 : tb[j]? = some (("<x>" : Str), [.non, .str c]) := by rfl) (h3 : fa[l]? = some (.noat c f) := by rfl) (h4 : fa[m]? = some (.meth c "__init__") := by rfl) : ExF P w K mg base c f := by
  have T := oexB_ok (C.xt j h2)
  have M := He.meth_ok (C.says.fact m h4)
  refine ⟨_, _, fd, [a0, a1], C.glo _ h1, T, M.at_, beq_iff_eq.mp M.fn, fni_of F S T (He.noat_ok (C.says.fact l h3)) hbody hv0 hv1 hd0 hd1 hc0 hc1 hs, hb⟩
end
end DL

set_option maxHeartbeats 4000000
/-! DL119: for k, x in enumerate(xs), xs a slot that holds a list of exceptions (let go by the walk). -/
namespace DL
open PySem PySem.Spec PyProof.Rows L2
section
variable {K : PySem.W.Frag} {mg : Str → Option Value} {B : List Nat} {bv : Nat → V} {R P H : Hp} {Fs : Nat → List Addr} {σ : L2.St} {env : DEnv}
end
section
variable {X : Cx} {W : WX} {B : List Nat} {y kn xn : Str} {body : List Stmt} {mb : M Flw} {p p1 p2 p3 pos pos2 tpos : Pos} {kk : Nat}
end
/-! ### except of any class -/
section
variable {X : Cx} {W : WX} {B : List Nat} {c : Str} {body suite : List Stmt} {b₀ : Stmt} {np pos pos' : Pos} {mb mh : M Flw} {cv : Value}
theorem XM.one {K : PySem.W.Frag} {mg : Str → Option Value} {d : He.Dv} {tbl : List (Str × Bool)} (h : XM K mg [d] tbl) : ∀ n b, tbl.lookup n = some b → ∀ C', mg n = some (.ref C') → PySem.W.exmOne K (.ref C') (dvC K d) = some b := fun n b hl C' hm => by
  have h2 := h n b hl C' hm
  simp only [List.map_cons, List.map_nil, PySem.W.exmAny] at h2
  split at h2 <;> simp_all
end
end DL

set_option maxHeartbeats 4000000
/-! DL120: slot + [C(), ..], lists of exceptions; runs of M.tryAs and what DL117..DL119 bring. -/
namespace DL
open PySem PySem.Spec PyProof.Rows L2
section
variable {K : PySem.W.Frag} {mg : Str → Option Value} {P H P' H' : Hp}
end
section
variable {X : Cx} {W : WX} {B : List Nat} {y : Str} {e : Expr} {m : M OD} {p2 pos : Pos}
end
end DL

set_option maxHeartbeats 4000000
/-! DL121: place.pop(f(x, e)), f a def that changes x alone, e read as it stands. -/
namespace DL
open PySem PySem.Spec PyProof.Rows L2
def M.popPC (i : Nat) (pp : DEnv → Option (List Stp)) (j : Nat) (f : M OD) (q : DEnv → Option OD) : M OD := fun env => match (env[i]?).join, pp env, q env with
  | some x, some p, some (.pur c) => (match getP p x with
    | some (.lst zs) => (match callA f [.r j, .v c] (env.set i none) with
      | .ok (.pur d) e2 => (match e2[i]?, popL d (.lst zs) with
        | some none, some (r, y') => .ok r (e2.set i (some (setP p x y')))
        | _, _ => .no)
      | _ => .no)
    | _ => .no)
  | _, _, _ => .no
section
variable {X : Cx} {W : WX} {B Bc : List Nat} {fx xj : Str} {ps : List Str} {m : M OD} {kb : List (List Str × Nat × List Nat)} {e : Expr} {es : List Expr} {p p1 cp apos cpos pos : Pos} {j0 k : Nat} {o e2 : Expr} {i j : Nat} {pp : DEnv → Option (List Stp)} {q : DEnv → Option OD}
end
end DL

set_option maxHeartbeats 4000000
/-! DL122: what is read as it stands: a place's data, len(place). -/
namespace DL
open PySem PySem.Spec PyProof.Rows L2
section
variable {X : Cx} {W : WX} {B : List Nat} {e : Expr} {mr : DEnv → Option OD} {ma : DEnv → Option PyData} {f1 : PyData → Option PyData} {pos : Pos}
end
end DL

set_option maxHeartbeats 4000000
/-! DL123: set(t) of a tuple of ints and texts, and its length. -/
namespace DL
open PySem PySem.Spec PyProof.Rows L2
section
variable {P : Program} {w : World} {A : Around} {E : Value → Shared → Prop} {s : Shared}
end
end DL

set_option maxHeartbeats 4000000
/-! DL124: len(set(e)), e a tuple of ints and texts. -/
namespace DL
open PySem PySem.Spec PyProof.Rows L2
section
variable {X : Cx}
variable {W : WX} {B : List Nat} {e : Expr} {me : M PyData} {p1 p2 p3 p4 : Pos}
end
end DL

set_option maxHeartbeats 4000000
/-! DL125: [.. for k, v in place.items() if ..], the dict at the place frozen by it. -/
namespace DL
open PySem PySem.Spec PyProof.Rows L2
def itemsKV : PyData → Option (List PyData)
  | .dict kvs => if kvs.all (fun p => (keyOfD p.1).isSome) = true then some (kvs.map fun p => .tuple [p.1, p.2]) else none
  | _ => none
def lcB (g : TG') (vs : List Nat) (tt : M Bool) (el : M PyData) (ds : List PyData) : M OD := fun env => match lcL g vs tt el ds (wipeE vs env) with
  | .ok ys e => if ys.length ≤ 16777216 then .ok (.lst (ys.map .pur)) (restE vs env e) else .no
  | _ => .no
def M.lcI (i : Nat) (pp : DEnv → Option (List Stp)) (g : TG') (vs : List Nat) (tt : M Bool) (el : M PyData) : M OD := M.bind (M.rdP i pp) fun _ env => match (placeO i pp env).bind purD, (placeO i pp env).bind fun o => (purD o).bind itemsKV with
  | some _, some ds => lcB g vs tt el ds env
  | _, _ => .no
section
variable {K : PySem.W.Frag} {mg : Str → Option Value} {W : WX} {B : List Nat} {bv : Nat → V} {R P P0 H : Hp} {Fs : Nat → List Addr} {σ : L2.St} {env : DEnv} {i : Nat} {pp : DEnv → Option (List Stp)}
end
section
variable {X : Cx} {W : WX} {B : List Nat} {i : Nat} {pp : DEnv → Option (List Stp)} {o elt : Expr} {elts : List Expr} {kk : Nat} {ifs : List Expr} {scope : Scope} {g : TG'} {mt : M Bool} {me : M PyData} {pos tpos apos cpos : Pos}
end
end DL

set_option maxHeartbeats 4000000
/-! DL126: a def with positional defaults, all its parameters given. -/
namespace DL
open PySem PySem.Spec PyProof.Rows L2
end DL

set_option maxHeartbeats 400000
/-! DL127: steps for bodies with addB, subB and frozen slots. -/
namespace DL
open PySem PySem.Spec PyProof.Rows L2
theorem st_addBI {i j : Int} {Q : PyData → Prop} (q : Q (.int (i + j))) : Bd (addB (.int i) (.int j)) Q := ⟨_, rfl, q⟩
theorem st_subBI {i j : Int} {Q : PyData → Prop} (q : Q (.int (i - j))) : Bd (subB (.int i) (.int j)) Q := ⟨_, rfl, q⟩
theorem st_addBL {xs ys : List PyData} {Q : PyData → Prop} (h : xs.length + ys.length ≤ lim) (q : Q (.list (xs ++ ys))) : Bd (addB (.list xs) (.list ys)) Q := ⟨_, by show (if _ then _ else _) = _; exact if_pos h, q⟩
theorem st_lenS {x : Str} {Q : PyData → Prop} (h : x.length ≤ lim) (q : Q (.int x.length)) : Bd (one lenD [.str x]) Q := ⟨_, by show (if _ then _ else _) = _; exact if_pos h, q⟩
end DL

set_option maxHeartbeats 400000
/-! DL128: runs of M.popPC, and of what was run ahead. -/
namespace DL
open PySem PySem.Spec PyProof.Rows L2
end DL

set_option maxHeartbeats 2000000
/-! DL129: an item of frozen data, peeked. -/
namespace DL
open PySem PySem.Spec PyProof.Rows L2
section
variable {X : Cx} {B : List Nat} {a b : Expr} {ma mb : DEnv → Option PyData} {pos : Pos}
end
end DL

set_option maxHeartbeats 4000000
/-! DL130: tuple * int. -/
namespace DL
open PySem PySem.Spec PyProof.Rows L2
section
variable {X : Cx} {W : WX} {B : List Nat} {a b : Expr} {ma mb : M PyData} {pos : Pos}
end
end DL

set_option maxHeartbeats 4000000
/-! DL131: sorted(d), d a dict whose keys are texts. -/
namespace DL
open PySem PySem.Spec PyProof.Rows L2 PySem.W
section
variable {X : Cx}
end
end DL

set_option maxHeartbeats 400000
/-! DL132: runs of M.lcI; loops that an exception leaves. -/
namespace DL
open PySem PySem.Spec PyProof.Rows L2
section
variable {g : TG'} {b : M Flw} {P : Xn → DEnv → Prop} {d : PyData} {ds : List PyData} {e e1 : DEnv}
theorem ex_raiseF {c f : Str} {me : M PyData} (h : Hs (me e) fun d e2 => P ⟨.own c, some (f, d)⟩ e2) : Ex (M.raiseF c f me e) P := by
  obtain ⟨d, e2, h1, h2⟩ := h
  exact ⟨_, e2, by unfold M.raiseF M.bind; rw [h1], h2⟩
theorem ex_drop {m : M PyData} (h : Ex (m e) P) : Ex (M.drop m e) P := ex_bind1 h
theorem ex_ifS {c : M Bool} {a b : M Flw} (h : Hs (c e) fun k e => (k = true → Ex (a e) P) ∧ (k = false → Ex (b e) P)) : Ex (M.ifS c a b e) P := ex_ite h
end
end DL

set_option maxHeartbeats 2000000
/-! DL133: list(place), the place left as it is. -/
namespace DL
open PySem PySem.Spec PyProof.Rows L2
section
variable {X : Cx} {W : WX} {B : List Nat} {a : Expr} {mr : DEnv → Option OD} {pos lpos : Pos}
end
end DL

set_option maxHeartbeats 2000000
/-! DL134: len(place) and repr(place) of an own instance with a plain __len__, __repr__. -/
namespace DL
open PySem PySem.Spec PyProof.Rows L2
section
variable {X : Cx} {W : WX} {B Bc : List Nat} {j k i : Nat} {c mn x : Str} {ps : List Str} {m : M OD} {pp : DEnv → Option (List Stp)} {o e : Expr} {p pos : Pos} {f : Addr} {fd : FuncData} {kb : List (List Str × Nat × List Nat)} {ok : V → Prop}
end
end DL

set_option maxHeartbeats 2000000
/-! DL135: f-strings of texts and ints. -/
namespace DL
open PySem PySem.Spec PyProof.Rows L2
def fmtD : PyData → Option PyData
  | .str y => if y.length ≤ 16777216 then some (.str y) else none
  | .int i => if i.natAbs.log2 < 1920 then some (.str (toString i)) else none
  | _ => none
def M.fj : List (M PyData) → Str → M PyData
  | [], acc => M.pure (.str acc)
  | m :: ms, acc => M.bind m fun d => match d with
    | .str y => if (acc ++ y).length ≤ 16777216 then M.fj ms (acc ++ y) else M.fail
    | _ => M.fail
section
variable {X : Cx} {W : WX} {B : List Nat} {m : M PyData} {ms : List (M PyData)} {e : Expr} {es : List Expr} {pos : Pos}
theorem ed_fmt (h : ED X W B e m) : ED X W B (.FormattedValue e (-1) none pos) (M.op1 fmtD m) :=
  PE_mono (pe_fmt h) fun σ H Q ⟨bv, R, P, Fs, env, S, q⟩ => tD_bind (Same.refl _) S q fun d e1 v P1 H1 F1 S1 s1 r1 q1 => by
    have hs : sizeLine = 16777216 := sizeLine_eq
    cases hz : fmtD d with
    | none => rw [hz] at q1; exact q1.elim
    | some z =>
      rw [hz] at q1
      cases d with
      | str y =>
        cases r1
        simp only [fmtD] at hz
        split at hz
        · cases hz
          exact .inl ⟨y, rfl, by omega, q1 (.str y) P1 H1 F1 S1 s1 (.str y)⟩
        · cases hz
      | int i =>
        cases r1
        simp only [fmtD] at hz
        split at hz
        · cases hz
          exact .inr ⟨i, rfl, by assumption, q1 (.str (toString i)) P1 H1 F1 S1 s1 (.str _)⟩
        · cases hz
      | _ => cases hz
theorem fj_run {bv : Nat → V} {R P0 : Hp} {σ : L2.St} {Q : VK} : ∀ (ms : List (M PyData)) (acc : Str) {P H : Hp} {Fs : Nat → List Addr} {env : DEnv}, Same P0 P → Sta X.K X.mg B bv R P H Fs σ env → post (M.fj ms acc env) (OkD X.K X.mg B bv R P0 σ Q) (ExD X.K X.mg W B bv R P0 σ) →
    tJs (ms.map fun m => tD X.K X.mg W B m) acc σ H (fun out H1 => Q (.str out) H1)
  | [], acc, P, H, Fs, env, s0, S, q => q (.str acc) P H Fs S s0 (.str acc)
  | m :: ms, acc, P, H, Fs, env, s0, S, q => tD_bind s0 S q fun d e1 v P1 H1 F1 S1 s1 r1 q1 => by
    have hs : sizeLine = 16777216 := sizeLine_eq
    cases d with
    | str y =>
      cases r1
      simp only at q1
      split at q1
      · exact ⟨y, rfl, by omega, fj_run ms (acc ++ y) (s0.trans s1) S1 q1⟩
      · exact q1.elim
    | _ => exact q1.elim
/-- f'..' of two parts or more -/
theorem ed_fstr {v1 v2 : Expr} {rest : List Expr} (h : PJ X (v1 :: v2 :: rest) (ms.map fun m => tD X.K X.mg W B m)) : ED X W B (.JoinedStr (v1 :: v2 :: rest) pos) (M.fj ms Str.empty) :=
  PE_mono (pe_joined h) fun σ H Q ⟨bv, R, P, Fs, env, S, q⟩ => fj_run ms Str.empty (Same.refl _) S q
theorem fj_nil : PJ X [] (([] : List (M PyData)).map fun m => tD X.K X.mg W B m) := .nil
theorem fj_cons (h : ED X W B e m) (r : PJ X es (ms.map fun m => tD X.K X.mg W B m)) : PJ X (e :: es) ((m :: ms).map fun m => tD X.K X.mg W B m) := .cons h r
end
end DL

set_option maxHeartbeats 2000000
/-! DL136: a def run with its default `()`: the parameter's slot is dead, its value is told by the pin; a loop over it does nothing. -/
namespace DL
open PySem PySem.Spec PyProof.Rows L2
section
variable {X : Cx} {W : WX} {B : List Nat} {φ : (Nat → V) → Prop} {m m2 : M Flw} {st : Stmt} {rest body : List Stmt} {tg : Expr} {pos np : Pos} {x : Str} {i : Nat} {a : Addr} {g : TG} {tb : TS}
end
end DL

set_option maxHeartbeats 2000000
/-! DL137: C() of a class whose __init__ has the one default `()`. -/
namespace DL
open PySem PySem.Spec PyProof.Rows L2
/-- a def's promise, something being known of its arguments -/
structure FnGV (P : Program) (w : World) (K : PySem.W.Frag) (mg : Str → Option Value) (base : Heap) (k : Nat) (f : Addr) (fd : FuncData) (ps : List Str) (B : List Nat) (m : M OD) (φ : List V → Prop) : Prop where
  bs : ∀ i ∈ B, i < ps.length
  len : ∀ env, (∀ x e, m env ≠ .ok x e) ∧ (∀ x e, m env ≠ .ex x e) ∨ env.length = ps.length
  run : ∀ (A : Around) (outer : List Env) (s : Shared) (H : Hp) (args : Args) (us : List Value) (vs : List V) (Q : VK) (E : XK), Room k A → A.guards = some [] → (∃ o, base.get? sysModules = some o) → Env0 P w K mg base A outer s H →
    BindsTo s fd args (ps.zip us) → Vals vs us → φ vs → spF K mg B m vs H Q E → codeAny (model P w) A (.call (.ref f) args) (CR (L2.CX P w) outer P w H s Q E) s
theorem FnGV.mono {P : Program} {w : World} {K : PySem.W.Frag} {mg : Str → Option Value} {base : Heap} {j k : Nat} {f : Addr} {fd : FuncData} {ps : List Str} {B : List Nat} {m : M OD} {φ : List V → Prop} (F : FnGV P w K mg base j f fd ps B m φ) (h : j ≤ k) : FnGV P w K mg base k f fd ps B m φ :=
  ⟨F.bs, F.len, fun A outer s H args us vs Q E hr => F.run A outer s H args us vs Q E (hr.mono h)⟩
structure MkK0 (P : Program) (w : World) (K : PySem.W.Frag) (mg : Str → Option Value) (base : Heap) (k : Nat) (c : Str) (ps : List Str) (m : M OD) : Prop where
  ex : ∃ C f fd adr, mg c = some (.ref C) ∧ Mk K C f ∧ FnGV P w K mg base k f fd ps [0, 1] m (fun vs => vs[1]? = some (.ref adr)) ∧ Binds K fd ps [.ref adr]
section
variable {K : PySem.W.Frag} {mg : Str → Option Value} {W : WX} {B : List Nat} {bv : Nat → V} {R P P0 H : Hp} {Fs : Nat → List Addr} {σ : L2.St} {env : DEnv} {c : Str} {C x dx : Addr} {f : M OD} {v0 : V} {Q : VK} {n : Nat}
end
section
variable {X : Cx} {W : WX} {B : List Nat} {j k : Nat} {c x : Str} {ps : List Str} {m : M OD} {p pos apos : Pos}
end
end DL

set_option maxHeartbeats 2000000
/-! DL138: D[e] and D.items() of a dict of the module. -/
namespace DL
open PySem PySem.Spec PyProof.Rows L2
def itM (l : List (Str × PyData)) : PyData → Option PyData
  | .str z => l.lookup z
  | _ => none
theorem vOf_imm {d : PyData} {u : Value} (h : vOf d u = true) : isImm d = true ∧ RelV (immV d) u := by
  unfold vOf at h
  split at h
  · rw [of_decide_eq_true h]; exact ⟨rfl, (show RelV (.int _) _ from ⟨_, rfl⟩)⟩
  · rw [of_decide_eq_true h]; exact ⟨rfl, (show RelV (.str _) _ from ⟨_, rfl⟩)⟩
  · exact ⟨rfl, rfl⟩
  · rw [of_decide_eq_true h]; exact ⟨rfl, rfl⟩
  · cases h
theorem ents_at : ∀ {es : List DictEntry} {l : List (Str × PyData)}, entsB es l = true → es.length = l.length ∧ ∀ (i : Nat) p, l[i]? = some p → ∃ e t, es[i]? = some e ∧ e.key = .str p.1 t ∧ vOf p.2 e.val = true
  | [], [], _ => ⟨rfl, fun i p h => by cases h⟩
  | [], _ :: _, h => by cases h
  | _ :: _, [], h => by cases h
  | e :: es, p :: l, h => by
    obtain ⟨h1, h2⟩ := Bool.and_eq_true_iff.mp h
    obtain ⟨i1, i2⟩ := ents_at h2
    refine ⟨by simp [i1], fun i q hq => ?_⟩
    cases i with
    | succ i => exact i2 i q hq
    | zero =>
      cases hq
      unfold entB at h1
      split at h1
      · rename_i x t hk
        obtain ⟨e1, e2⟩ := Bool.and_eq_true_iff.mp h1
        exact ⟨e, t, rfl, by rw [hk, of_decide_eq_true e1], e2⟩
      · cases h1
/-- the items of a dict of the module -/
def ItiK (kvs : List (Str × V)) : It := ⟨fun i _ => i < kvs.length, fun i H x H' => ∃ T k v, kvs[i]? = some (k, v) ∧ x = .ref T ∧ H T = none ∧ H' = upd H T (.tup [.str k, v]), fun i _ => kvs.length ≤ i⟩
theorem turn_itemsK {P : Program} {w : World} {K : PySem.W.Frag} {kvs : List (Str × V)} {elts : List Expr} {kk : Nat} {tpos : Pos} {a : Addr} {es : Array DictEntry} {n : Nat} (it : Addr) (D : KDict K w a es n) (hl : es.size = kvs.length)
    (hk : ∀ (i : Nat) p, kvs[i]? = some p → ∃ e t, es[i]? = some e ∧ e.key = .str p.1 t ∧ RelV p.2 e.val) :
    Turn P w K (.Tuple elts kk tpos) (ItiK kvs) [it] it (fun i h => ∃ ok ov, h.get? it = some (DVw.itmOb a .none i kvs.length n ok ov)) where
  mem := by simp
  obj := fun i h st b hb => by
    have e : b = it := by simpa using hb
    subst e
    obtain ⟨ok, ov, e⟩ := st
    exact ⟨_, e, fun v z => nomatch z⟩
  keep := fun i h h' st k => let ⟨ok, ov, e⟩ := st; ⟨ok, ov, k it (by simp) _ e⟩
  item := by
    intro X hP hw hK hc i pins s σ H E I hf st hg
    subst hP hw hK
    have hi : i < kvs.length := hg
    obtain ⟨⟨k, v⟩, hkv⟩ : ∃ p, kvs[i]? = some p := ⟨kvs[i], List.getElem?_eq_getElem hi⟩
    obtain ⟨e, t, he, hkey, ru⟩ := hk i _ hkv
    obtain ⟨ok, ov, hit⟩ := st
    have hlt : it < s.heap.objs.size := Heap.lt_size hit
    refine DVw.itm_item hit (I.kIn _ _ D.at_) rfl hl he fun h' b1 b2 b3 b4 => ?_
    refine ⟨_, rfl, wpAny_letOwnedTupleGo_items (s := { s with heap := h' }) (d := a) (i := i + 1) (n := kvs.length) (ep := n) (ok := e.key) (ov := e.val) b1 fun h'' he' sb => ?_⟩
    have hT2 : h''.get? s.heap.objs.size = some { cls := .type "tuple", data := .seq #[e.key, e.val] } := (sb.2 _ (Nat.ne_of_gt hlt)).trans b2
    have new : ObjOk X.prog X.w (upd H s.heap.objs.size (.tup [.str k, v])) h'' s.heap.objs.size (.tup [.str k, v]) :=
      ⟨by show 2 ≤ sizeLine; decide, [e.key, e.val], .cons (show RelV (.str k) e.key from ⟨t, hkey⟩) (.cons ru .nil), ⟨_, hT2, rfl, _, rfl⟩⟩
    have I1 : Inv X pins σ (upd H s.heap.objs.size (.tup [.str k, v])) { s with heap := h'' } :=
      I.turnedNew (t' := s.toks) (ch := [it]) (fun b ob hb z => (sb.2 b (by simpa using hb)).trans (b4 b ob (by simpa using hb) z)) hf (Nat.le_refl _) new
    refine ⟨.ref s.heap.objs.size, _, I1, rfl, ⟨_, k, v, hkv, rfl, I.hok.fresh (Nat.le_refl _), rfl⟩, ⟨e.key, e.val, he'⟩, fun b hb => ?_⟩
    have z : b = it := by simpa using hb
    rw [z, upd_ne (Nat.ne_of_lt hlt)]
    exact (hf it (by simp)).1
  done := by
    intro X hP hw hK hc i pins s σ H E I hf st hg
    subst hP hw hK
    have hi : kvs.length ≤ i := hg
    obtain ⟨f0, f1, f2, f3, f4, f5⟩ := hf it (by simp)
    obtain ⟨ok, ov, hit⟩ := st
    have he : es[i]? = none := Array.getElem?_eq_none (by rw [hl]; exact hi)
    exact DVw.itm_end (I.ok.hd hc) hit (I.kIn _ _ D.at_) rfl hl he fun h' eb => ⟨rfl, I.turned (t' := s.toks) (fun b ob hb e => eb b ob hb e) f0 f1 f3 f4 f5⟩
  self := fun A i s Q E st h => let ⟨_, _, e⟩ := st; PySem.W.kcp_self e h
theorem fd_itemsK {K : PySem.W.Frag} {P : Hp} {l : List (Str × PyData)} (hi : ∀ p ∈ l, isImm p.2 = true) : Fd K P (ItiK (l.map fun p => (p.1, immV p.2))) (l.map fun p => .tuple [.str p.1, p.2]) := fun P1 H1 s1 s2 => by
  refine ⟨fun i z hz => ?_, by show (l.map _).length ≤ (l.map _).length; rw [List.length_map, List.length_map]; exact Nat.le_refl _⟩
  rw [List.getElem?_map, Option.map_eq_some_iff] at hz
  obtain ⟨p, hp, rfl⟩ := hz
  refine ⟨by show i < (l.map _).length; rw [List.length_map]; exact (List.getElem?_eq_some_iff.mp hp).1, ?_⟩
  rintro x H2 ⟨T, k, v, e1, rfl, hT, rfl⟩
  have ex := ext_new s2 (.tup [.str k, v]) hT
  rw [List.getElem?_map, hp] at e1
  cases e1
  exact ⟨_, ex, .tup upd_same (.cons (.str _) (.cons (rp_imm (hi p (List.mem_of_getElem? hp))) .nil))⟩
section
variable {X : Cx} {W : WX} {B : List Nat} {e : Expr} {me : M PyData} {x : Str} {l : List (Str × PyData)} {np pos apos cpos tpos : Pos} {elts : List Expr} {kk : Nat}
/-- D[e] -/
theorem ed_itMod (T : TabX X.w X.K X.mg x l) (hg : Gl X x) (he : ED X W B e me) (hdb : (x == ("__debug__" : Str)) = false := by decide) (hs : PlainIx e := by intro _ _; rfl) : ED X W B (.Subscript (.Name x np) e pos) (M.op1 (itM l) me) := by
  obtain ⟨a, es, n, hm, D, hd⟩ := T
  have hx : PE X (.Name x np) (fun _ H Q => Q (.ref a) H) := ⟨fun pins s σ H Q I q => ld_glob I hg hm ⟨.ref a, H, I, rfl, q⟩ hdb⟩
  refine PE_mono (pe_ix ix_kdict hx he hs) fun σ H Q ⟨bv, R, P, Fs, env, S, q⟩ => ?_
  exact tD_bind (Same.refl _) S q fun d e1 v P1 H1 F1 S1 s1 r1 q1 => by
    cases r1 with
    | str z =>
      obtain ⟨r, h1, h2⟩ := dic_look hd z
      have q1 : post (M.opt (l.lookup z) e1) (OkD X.K X.mg B bv R P σ Q) (ExD X.K X.mg W B bv R P σ) := q1
      cases hl : l.lookup z with
      | some d =>
        rw [hl] at h2 q1
        obtain ⟨u, rfl, h3⟩ := h2
        obtain ⟨v1, v2, v3⟩ := vOf_rel (K := X.K) (P := P1) h3
        exact ⟨a, z, v1, rfl, rfl, ⟨es, n, u, D.at_, D.lit, h1, v2⟩, q1 v1 P1 H1 F1 S1 s1 v3⟩
      | none => rw [hl] at q1; exact q1.elim
    | _ => exact q1.elim
/-- .. in D.items() -/
theorem id_itemsMod (T : TabX X.w X.K X.mg x l) (hg : Gl X x) (hdb : (x == ("__debug__" : Str)) = false := by decide) (hbase : attributeBase (.Name x np) "items" X.env (eval (.Name x np) X.env) = eval (.Name x np) X.env := by rfl) (hline : (apos.endLine == cpos.line) = true := by rfl) :
    ID X W B (.Tuple elts kk tpos) (.Call (.Attribute (.Name x np) "items" apos) [] [] cpos) (M.pure (l.map fun p => .tuple [.str p.1, p.2])) := by
  obtain ⟨a, es, n, hm, D, hd⟩ := T
  have hents : entsB es.toList l = true := by
    unfold dicB at hd
    rw [D.at_] at hd
    exact hd
  obtain ⟨hl, hat⟩ := ents_at hents
  have him : ∀ p ∈ l, isImm p.2 = true := fun p hp => by
    obtain ⟨i, hi⟩ := List.getElem?_of_mem hp
    obtain ⟨e, t, _, _, h3⟩ := hat i p hi
    exact (vOf_imm h3).1
  have hls : es.size = (l.map fun p => (p.1, immV p.2)).length := by rw [List.length_map, ← hl, Array.length_toList]
  have hkk : ∀ (i : Nat) p, (l.map fun p => (p.1, immV p.2))[i]? = some p → ∃ e t, es[i]? = some e ∧ e.key = .str p.1 t ∧ RelV p.2 e.val := fun i p hp => by
    rw [List.getElem?_map, Option.map_eq_some_iff] at hp
    obtain ⟨q, hq, rfl⟩ := hp
    obtain ⟨e, t, h1, h2, h3⟩ := hat i q hq
    exact ⟨e, t, by rw [← Array.getElem?_toList]; exact h1, h2, (vOf_imm h3).2⟩
  refine ⟨fun pins s σ H R I ⟨bv, R', P, Fs, env, S, q⟩ => ?_⟩
  have q2 : R (ItiK (l.map fun p => (p.1, immV p.2))) H := q _ P H Fs S (Same.refl _) (fd_itemsK him)
  refine wpAny_Call_method (T := "dict") (id := "dict.items") hbase rfl hline PySem.F.plainAttrs_dict PySem.F.slot_dict_items PySem.F.type_dict_items (ld_glob I hg hm ?_ hdb)
  refine ⟨kd_type D I, fun b hb => (by cases hb; obtain ⟨o, _, _, h1, h2, _⟩ := PySem.W.mapOf_K (prog := X.prog) (w := X.w) I.kIn D.at_ D.lit; exact ⟨o, h1, h2.2.1⟩), ?_⟩
  have hraw : s.heap.DictRaw a es n := ⟨_, I.kIn _ _ D.at_, ⟨rfl, rfl, rfl⟩, rfl⟩
  have I2 : Inv X pins σ H { s with heap := s.heap.push { cls := .type "dict_items", data := .fields #[.ref a] } } := I.kept (t' := s.toks) fun b ob q => Heap.get?_push_of_some _ q
  have fin : wpAny (model X.prog X.w) X.A (pyIter (.ref s.heap.objs.size)) (PIE X pins σ (.Tuple elts kk tpos) R) X.xe { s with heap := s.heap.push { cls := .type "dict_items", data := .fields #[.ref a] } } := by
    refine wpAny_pyIter_items_raw (d := a) ⟨_, Heap.get?_push_size _ rfl, rfl, rfl⟩ (⟨_, Heap.get?_push_of_some _ (I.kIn _ _ D.at_), ⟨rfl, rfl, rfl⟩, rfl⟩ : Heap.DictRaw _ a es n) (pi_one (tk := s.toks) I2 _ (turn_itemsK _ D hls hkk) ⟨.none, .none, ?_⟩ q2)
    rw [← hls]
    exact Heap.get?_push_size _ rfl
  show wpAny _ _ (callWith cpos (.builtin "dict.items") [.ref a] [] []) _ X.xe s
  exact PySem.method_meetsIn PySem.F.slot_dict_items PySem.F.entry_dict_items rfl (PySem.evalArgs_none ⟨rfl, kd_type D I, PySem.F.args_dict_items_1 _, _, meets_dict_items_raw a D.low, ⟨⟨es, n, hraw⟩, fin⟩⟩)
end
end DL

set_option maxHeartbeats 2000000
/-! DL139: texts: split, partition, startswith, int of a text. -/
namespace DL
open PySem PySem.Spec PyProof.Rows L2
/-- a method of a text, with one argument -/
def M.sm (f : PyData → PyData → Option PyData) (mo me : M PyData) : M PyData := M.bind mo fun d => if isStr d = true then M.bind me fun c => M.opt (f d c) else M.fail
def splitD : PyData → PyData → Option PyData
  | .str a, .str b => if (b.length == 0) = false ∧ a.length + 2 ≤ 16777216 then some (.list ((Txt.split a b).map .str)) else none
  | _, _ => none
def partiD : PyData → PyData → Option PyData
  | .str a, .str b => if (b.length == 0) = false ∧ a.length ≤ 16777216 then some (.tuple [.str (Txt.partition a b).1, .str (Txt.partition a b).2.1, .str (Txt.partition a b).2.2]) else none
  | _, _ => none
def startsD : PyData → PyData → Option PyData
  | .str a, .str b => some (.bool (Txt.startswith a b))
  | _, _ => none
def intXD : PyData → Option PyData
  | .str a => if a.length ≤ 640 then (PySem.intText? a).map .int else none
  | .int i => some (.int i)
  | .bool b => some (.int (if b then 1 else 0))
  | _ => none
theorem rpa_txts {K : PySem.W.Frag} {P : Hp} : ∀ ys : List Str, RpA K P (ys.map V.str) (ys.map PyData.str)
  | [] => .nil
  | y :: ys => .cons (.str y) (rpa_txts ys)
section
variable {X : Cx} {W : WX} {B : List Nat} {o e : Expr} {mo me : M PyData} {apos pos : Pos}
theorem sm_law {f : PyData → PyData → Option PyData} {r : V → List V → Hp → VK → Prop} {σ : L2.St} {H : Hp} {Q : VK} (h : tD X.K X.mg W B (M.sm f mo me) σ H Q)
    (k : ∀ (a b : Str) (z : PyData) (P1 H1 : Hp), Same P1 H1 → f (.str a) (.str b) = some z → (∀ v P2 H2, Ext P1 H1 P2 H2 → Rp X.K P2 v z → Q v H2) → r (.str a) [.str b] H1 Q)
    (hf : ∀ a c z, f (.str a) c = some z → ∃ b, c = .str b) : tM1 r (tD X.K X.mg W B mo) (tD X.K X.mg W B me) σ H Q := by
  obtain ⟨bv, R, P, Fs, env, S, q⟩ := h
  exact tD_bind (Same.refl _) S q fun d e1 v P1 H1 F1 S1 s1 r1 q1 => by
    cases d with
    | str x =>
      cases r1
      rw [if_pos (show isStr (.str x) = true from rfl)] at q1
      refine ⟨⟨x, rfl⟩, tD_bind s1 S1 q1 fun c e2 w P2 H2 F2 S2 s2 r2 q2 => ?_⟩
      cases hj : f (.str x) c with
      | none => rw [hj] at q2; exact q2.elim
      | some z =>
        rw [hj] at q2
        obtain ⟨b, rfl⟩ := hf x c z hj
        cases r2
        exact k x b z P2 H2 S2.ph hj fun v P3 H3 ex rz => q2 v P3 H3 F2 (S2.ext ex) ((s1.trans s2).trans ex.pp) rz
    | _ => exact q1.elim
theorem ed_split (ho : ED X W B o mo) (he : ED X W B e me) (hs : starEach [e] X.env = [(false, eval e X.env)] := by rfl) (hbase : attributeBase o "split" X.env (eval o X.env) = eval o X.env := by rfl) (hline : (apos.endLine == pos.line) = true := by rfl) :
    ED X W B (.Call (.Attribute o "split" apos) [e] [] pos) (M.sm splitD mo me) :=
  PE_mono (pe_split ho he hs hbase hline) fun σ H Q h => sm_law h (fun a b z P1 H1 ph ez k => by
    simp only [splitD] at ez
    split at ez
    · rename_i hc
      cases ez
      exact ⟨a, b, rfl, rfl, hc.1, (show a.length + 2 ≤ sizeLine by rw [sizeLine_eq]; exact hc.2), fun p hp => k _ _ _ (ext_new ph _ hp) (.lst (.inl upd_same) (rpa_txts _))⟩
    · cases ez) fun a c z e => by cases c <;> first | exact ⟨_, rfl⟩ | cases e
theorem ed_partition (ho : ED X W B o mo) (he : ED X W B e me) (hs : starEach [e] X.env = [(false, eval e X.env)] := by rfl) (hbase : attributeBase o "partition" X.env (eval o X.env) = eval o X.env := by rfl) (hline : (apos.endLine == pos.line) = true := by rfl) :
    ED X W B (.Call (.Attribute o "partition" apos) [e] [] pos) (M.sm partiD mo me) :=
  PE_mono (pe_partition ho he hs hbase hline) fun σ H Q h => sm_law h (fun a b z P1 H1 ph ez k => by
    simp only [partiD] at ez
    split at ez
    · rename_i hc
      cases ez
      exact ⟨a, b, rfl, rfl, hc.1, (show a.length ≤ sizeLine by rw [sizeLine_eq]; exact hc.2), fun p hp => k _ _ _ (ext_new ph _ hp) (.tup upd_same (.cons (.str _) (.cons (.str _) (.cons (.str _) .nil))))⟩
    · cases ez) fun a c z e => by cases c <;> first | exact ⟨_, rfl⟩ | cases e
theorem ed_starts (ho : ED X W B o mo) (he : ED X W B e me) (hs : starEach [e] X.env = [(false, eval e X.env)] := by rfl) (hbase : attributeBase o "startswith" X.env (eval o X.env) = eval o X.env := by rfl) (hline : (apos.endLine == pos.line) = true := by rfl) :
    ED X W B (.Call (.Attribute o "startswith" apos) [e] [] pos) (M.sm startsD mo me) :=
  PE_mono (pe_m1 PySem.F.slot_str_startswith PySem.F.type_str_startswith mt_startswith ho he hs hbase hline) fun σ H Q h => sm_law h (fun a b z P1 H1 ph ez k => by
    cases ez
    exact ⟨a, b, rfl, rfl, k _ P1 H1 (.refl ph) (.bl _)⟩) fun a c z e => by cases c <;> first | exact ⟨_, rfl⟩ | cases e
end
theorem call_intX {X : Cx} : CallR X (.type "int") (fun xs H Q => ((∃ i, xs = [.int i] ∧ Q (.int i) H) ∨ ∃ k, xs = [.bl k] ∧ Q (.int (if k then 1 else 0)) H) ∨ ∃ a n, xs = [.str a] ∧ PySem.intText? a = some n ∧ a.length ≤ 640 ∧ Q (.int n) H) := CallR.or call_int1 call_int_str
theorem cd_intX {X : Cx} : CallD X.K (fun xs H Q => ((∃ i, xs = [.int i] ∧ Q (.int i) H) ∨ ∃ k, xs = [.bl k] ∧ Q (.int (if k then 1 else 0)) H) ∨ ∃ a n, xs = [.str a] ∧ PySem.intText? a = some n ∧ a.length ≤ 640 ∧ Q (.int n) H) (one intXD) := calld1 fun P H v d z Q ph r1 ez k => by
  cases r1 with
  | int i => cases ez; exact .inl (.inl ⟨i, rfl, k _ P H (.refl ph) (.int _)⟩)
  | bl b => cases ez; exact .inl (.inr ⟨b, rfl, k _ P H (.refl ph) (.int _)⟩)
  | str a =>
    simp only [intXD] at ez
    split at ez
    · rename_i hl
      obtain ⟨n, hn, rfl⟩ := Option.map_eq_some_iff.mp ez
      exact .inr ⟨a, n, rfl, hn, hl, k _ P H (.refl ph) (.int _)⟩
    · cases ez
  | _ => cases ez
end DL

set_option maxHeartbeats 2000000
namespace L77
open PySem PySem.Spec PyProof.Rows L2 DL
noncomputable section
abbrev n_law_shown : List Str := ["_law_piece_here", "_law_sign"]
def m_law_shown : Nat → M OD
  | 0 => M.fail
  | n + 1 => runF 1 2 [] (M.seq (M.ifS (M.tru (M.op2 eqD (M.op2 itemD (M.rd 0) (M.pure (.int 0))) (M.pure (.str "cell"))))
  (M.ret (M.own (M.op2 addB (M.op2 addB (M.op2 itemD (M.rd 0) (M.pure (.int 1))) (M.pure (.str "."))) (M.op2 itemD (M.rd 0) (M.pure (.int 2))))))
  M.skip)
  (M.seq (M.ifS (M.tru (M.op2 eqD (M.op2 itemD (M.rd 0) (M.pure (.int 0))) (M.pure (.str "number"))))
  (M.ret (M.own (M.opL (one strB) (M.cons (M.op2 itemD (M.rd 0) (M.pure (.int 1))) M.nil))))
  M.skip)
  (M.seq (M.set 1 (M.own (M.op2 itemD (M.frz (M.disp [((M.pure (.str "plus")), (M.pure (.str " + "))), ((M.pure (.str "less")), (M.pure (.str " - "))), ((M.pure (.str "times")), (M.pure (.str " * "))), ((M.pure (.str "over")), (M.pure (.str " / ")))])) (M.op2 itemD (M.rd 0) (M.pure (.int 0))))))
  (M.ret (M.own (M.op2 addB (M.op2 addB (M.op2 addB (M.op2 addB (M.pure (.str "(")) (M.frz (M.call (m_law_shown n) (M.aV (M.op2 itemD (M.rd 0) (M.pure (.int 1))) M.aNil)))) (M.rd 1)) (M.frz (M.call (m_law_shown n) (M.aV (M.op2 itemD (M.rd 0) (M.pure (.int 2))) M.aNil)))) (M.pure (.str ")"))))))))
abbrev k_law_shown : List (List Str × Nat × List Nat) := []
abbrev n_law_wire_shown : List Str := ["_law_wire_here", "_law_sign"]
def m_law_wire_shown : M OD := runF 1 2 [] (M.seq (M.ifS (M.tru (M.op2 eqD (M.op2 itemD (M.rd 0) (M.pure (.int 0))) (M.pure (.str "lacking"))))
  (M.ret (M.own (M.op2 addB (M.pure (.str "lacking ")) (M.frz (M.call (m_law_shown 8) (M.aV (M.op2 itemD (M.rd 0) (M.pure (.int 1))) M.aNil))))))
  M.skip)
  (M.seq (M.set 1 (M.own (M.op2 itemD (M.frz (M.disp [((M.pure (.str "alike")), (M.pure (.str " = "))), ((M.pure (.str "unlike")), (M.pure (.str " # "))), ((M.pure (.str "below")), (M.pure (.str " < ")))])) (M.op2 itemD (M.rd 0) (M.pure (.int 0))))))
  (M.ret (M.own (M.op2 addB (M.op2 addB (M.frz (M.call (m_law_shown 8) (M.aV (M.op2 itemD (M.rd 0) (M.pure (.int 1))) M.aNil))) (M.rd 1)) (M.frz (M.call (m_law_shown 8) (M.aV (M.op2 itemD (M.rd 0) (M.pure (.int 2))) M.aNil))))))))
abbrev k_law_wire_shown : List (List Str × Nat × List Nat) := []
abbrev nshow_part : List Str := ["part", "word", "rest", "first", "last", "one"]
def mshow_part : Nat → M OD
  | 0 => M.fail
  | n + 1 => runF 1 6 [] (M.seq (M.asgT (M.rd 0) (gStarE (gConsD (gNameD 1) (gConsD (gNameD 2) gNilD))))
  (M.seq (M.ifS (M.tru (M.op2 eqD (M.rd 1) (M.pure (.str "cell"))))
  (M.ret (M.own (M.join (M.pure (.str ".")) (M.rd 2))))
  M.skip)
  (M.seq (M.ifS (M.tru (M.op2 eqD (M.rd 1) (M.pure (.str "number"))))
  (M.ret (M.own (M.opL (one strB) (M.cons (M.op2 itemD (M.rd 2) (M.pure (.int 0))) M.nil))))
  M.skip)
  (M.seq (M.asgT (M.frz (M.lc (M.items (M.rd 2)) (gNameD 5) [5] (M.pure true) (M.frz (M.call (mshow_part n) (M.aV (M.rd 5) M.aNil))))) (gUnlE 2 (gConsD (gNameD 3) (gConsD (gNameD 4) gNilD))))
  (M.ret (M.own (M.fj [(M.pure (.str "(")), (M.op1 fmtD (M.rd 3)), (M.pure (.str " ")), (M.op1 fmtD (M.op1 (itM [("plus", .str "+"), ("less", .str "-"), ("times", .str "*"), ("over", .str "/")]) (M.rd 1))), (M.pure (.str " ")), (M.op1 fmtD (M.rd 4)), (M.pure (.str ")"))] Str.empty)))))))
abbrev kshow_part : List (List Str × Nat × List Nat) := [(["part"], 0, [0])]
abbrev n_law_heard : List Str := ["_law_ask_now", "_law_caught", "_law_found", "e", "_law_others"]
abbrev h_law_heard : M OD → DEnv → M OD := fun ask => (kCons (M.set 1 (M.own (M.pure .none))) (kCons (M.set 2 (M.own (M.pure .none))) (kTry false 2 1 5 [("NoText", true)] ask (kLast (M.seq (M.ifS (M.isN 1)
  (M.ret (M.lst (M.cons (M.rd 2) M.nil)))
  M.skip)
  (M.seq (M.set 4 (M.own (M.isX 1 [("NoText", false)])))
  (M.seq (M.set 4 (M.own (M.orV (M.rd 4) (M.isX 1 [("NoText", false)]))))
  (M.seq (M.ifS (M.or (M.trt (M.rd 4)) (M.or (M.not (M.trt (M.isX 1 [("NoText", true)]))) (M.not (M.trt (M.isX 1 [("NoText", true)])))))
  (M.ret (M.own (M.pure (.str "odd"))))
  M.skip)
  (M.ret (M.own (M.tup (M.cons (M.xfld 1 "line" ["NoText"]) M.nil))))))))))))
abbrev nshow_sieve : List Str := ["sieve", "word", "parts", "first", "last", "part"]
def mshow_sieve : M OD := runF 1 6 [] (M.seq (M.asgT (M.rd 0) (gStarE (gConsD (gNameD 1) (gConsD (gNameD 2) gNilD))))
  (M.seq (M.ifS (M.tru (M.op2 eqD (M.rd 1) (M.pure (.str "lacking"))))
  (M.ret (M.own (M.op2 addB (M.pure (.str "lacking ")) (M.frz (M.call (mshow_part 8) (M.aV (M.op2 itemD (M.rd 2) (M.pure (.int 0))) M.aNil))))))
  M.skip)
  (M.seq (M.asgT (M.frz (M.lc (M.items (M.rd 2)) (gNameD 5) [5] (M.pure true) (M.frz (M.call (mshow_part 8) (M.aV (M.rd 5) M.aNil))))) (gUnlE 2 (gConsD (gNameD 3) (gConsD (gNameD 4) gNilD))))
  (M.ret (M.own (M.fj [(M.op1 fmtD (M.rd 3)), (M.pure (.str " ")), (M.op1 fmtD (M.op1 (itM [("alike", .str "="), ("unlike", .str "#"), ("below", .str "<")]) (M.rd 1))), (M.pure (.str " ")), (M.op1 fmtD (M.rd 4))] Str.empty))))))
abbrev kshow_sieve : List (List Str × Nat × List Nat) := [(["sieve"], 0, [0])]
abbrev nNoText___init__ : List Str := ["self", "line"]
abbrev nneed : List Str := ["truth"]
def mneed : M OD := runF 1 1 [] (M.ifS (M.not (M.trt (M.rd 0)))
  (M.raiseF "NoText" "line" (M.pure (.int 0)))
  M.skip)
abbrev kneed : List (List Str × Nat × List Nat) := []
abbrev nnumber_in : List Str := ["word", "figures", "sign"]
def mnumber_in : M OD := runF 1 3 [] (M.seq (M.set 1 (M.own (M.ite (M.tru (M.op2 eqD (M.slice (M.rd 0) M.noEnd (M.anEnd (M.pure (.int 1)))) (M.pure (.str "-")))) (M.slice (M.rd 0) (M.anEnd (M.pure (.int 1))) M.noEnd) (M.rd 0))))
  (M.seq (M.drop (M.frz (M.call mneed (M.aV (M.andV (M.chain leD leD (M.pure (.int 1)) (M.opL (one lenD) (M.cons (M.rd 1) M.nil)) (M.pure (.int 30))) (M.opL (one allD) (M.cons (M.frz (M.lc (M.items (M.rd 1)) (gNameD 2) [2] (M.pure true) (M.op2 inX (M.rd 2) (M.pure (.str "0123456789"))))) M.nil))) M.aNil))))
  (M.seq (M.drop (M.frz (M.call mneed (M.aV (M.op2 eqD (M.opL (one strB) (M.cons (M.opL (one intXD) (M.cons (M.rd 0) M.nil)) M.nil)) (M.rd 0)) M.aNil))))
  (M.ret (M.own (M.opL (one intXD) (M.cons (M.rd 0) M.nil)))))))
abbrev knumber_in : List (List Str × Nat × List Nat) := []
abbrev nis_name : List Str := ["thing", "sign"]
def mis_name : M OD := runF 1 2 [] (M.ret (M.own (M.andV (M.isi "str" (M.rd 0)) (M.andV (M.chain leD leD (M.pure (.int 1)) (M.opL (one lenD) (M.cons (M.rd 0) M.nil)) (M.pure (.int 8))) (M.opL (one allD) (M.cons (M.frz (M.lc (M.items (M.rd 0)) (gNameD 1) [1] (M.pure true) (M.op2 inX (M.rd 1) (M.pure (.str "abcdefghijklmnopqrstuvwxyz"))))) M.nil))))))
abbrev kis_name : List (List Str × Nat × List Nat) := []
abbrev nleaf_in : List Str := ["word", "names", "name"]
def mleaf_in : M OD := runF 1 3 [] (M.seq (M.set 1 (M.own (M.sm splitD (M.rd 0) (M.pure (.str ".")))))
  (M.seq (M.ifS (M.and (M.tru (M.op2 eqD (M.opL (one lenD) (M.cons (M.rd 1) M.nil)) (M.pure (.int 2)))) (M.trt (M.opL (one allD) (M.cons (M.frz (M.lc (M.items (M.rd 1)) (gNameD 2) [2] (M.pure true) (M.frz (M.call mis_name (M.aV (M.rd 2) M.aNil))))) M.nil))))
  (M.ret (M.own (M.op2 addB (M.tup (M.cons (M.pure (.str "cell")) M.nil)) (M.opL (one tupleD) (M.cons (M.rd 1) M.nil)))))
  M.skip)
  (M.ret (M.own (M.tup (M.cons (M.pure (.str "number")) (M.cons (M.frz (M.call mnumber_in (M.aV (M.rd 0) M.aNil))) M.nil)))))))
abbrev kleaf_in : List (List Str × Nat × List Nat) := []
abbrev npart_at : List Str := ["text", "at", "deep", "first", "words", "last", "behind", "word", "sign"]
def mpart_at : Nat → M OD
  | 0 => M.fail
  | n + 1 => runF 3 9 [] (M.seq (M.drop (M.frz (M.call mneed (M.aV (M.op2 gtD (M.rd 2) (M.pure (.int 0))) M.aNil))))
  (M.seq (M.ifS (M.tru (M.op2 eqD (M.slice (M.rd 0) (M.anEnd (M.rd 1)) (M.anEnd (M.op2 addB (M.rd 1) (M.pure (.int 1))))) (M.pure (.str "("))))
  (M.seq (M.asgT (M.frz (M.call (mpart_at n) (M.aV (M.rd 0) (M.aV (M.op2 addB (M.rd 1) (M.pure (.int 1))) (M.aV (M.op2 subB (M.rd 2) (M.pure (.int 1))) M.aNil))))) (gTupE 2 (gConsD (gNameD 3) (gConsD (gNameD 1) gNilD))))
  (M.seq (M.set 4 (M.lc (M.pure ((([("plus", .str "+"), ("less", .str "-"), ("times", .str "*"), ("over", .str "/")]) : List (Str × PyData)).map fun p => PyData.tuple [.str p.1, p.2])) (gTupE 2 (gConsD (gNameD 7) (gConsD (gNameD 8) gNilD))) [7, 8] (M.tru (M.op2 eqD (M.slice (M.rd 0) (M.anEnd (M.rd 1)) (M.anEnd (M.op2 addB (M.rd 1) (M.pure (.int 3))))) (M.fj [(M.pure (.str " ")), (M.op1 fmtD (M.rd 8)), (M.pure (.str " "))] Str.empty))) (M.rd 7)))
  (M.seq (M.drop (M.frz (M.call mneed (M.aV (M.op2 neL (M.rd 4) (M.frz (M.lst M.nil))) M.aNil))))
  (M.seq (M.asgT (M.frz (M.call (mpart_at n) (M.aV (M.rd 0) (M.aV (M.op2 addB (M.rd 1) (M.pure (.int 3))) (M.aV (M.op2 subB (M.rd 2) (M.pure (.int 1))) M.aNil))))) (gTupE 2 (gConsD (gNameD 5) (gConsD (gNameD 1) gNilD))))
  (M.seq (M.drop (M.frz (M.call mneed (M.aV (M.op2 eqD (M.slice (M.rd 0) (M.anEnd (M.rd 1)) (M.anEnd (M.op2 addB (M.rd 1) (M.pure (.int 1))))) (M.pure (.str ")"))) M.aNil))))
  (M.ret (M.own (M.tup (M.cons (M.tup (M.cons (M.op2 itemD (M.rd 4) (M.pure (.int 0))) (M.cons (M.rd 3) (M.cons (M.rd 5) M.nil)))) (M.cons (M.op2 addB (M.rd 1) (M.pure (.int 1))) M.nil))))))))))
  M.skip)
  (M.seq (M.set 6 (M.own (M.rd 1)))
  (M.seq (whileL (M.and (M.tru (M.op2 ltD (M.rd 6) (M.opL (one lenD) (M.cons (M.rd 0) M.nil)))) (M.tru (M.op2 ninX (M.op2 itemD (M.rd 0) (M.rd 6)) (M.pure (.str " ()")))))
  (M.augN 6 addI (M.pure (.int 1))) 100)
  (M.ret (M.own (M.tup (M.cons (M.frz (M.call mleaf_in (M.aV (M.slice (M.rd 0) (M.anEnd (M.rd 1)) (M.anEnd (M.rd 6))) M.aNil))) (M.cons (M.rd 6) M.nil)))))))))
abbrev kpart_at : List (List Str × Nat × List Nat) := []
abbrev ninner_parts : List Str := ["part"]
def minner_parts : M OD := runF 1 1 [] (M.ret (M.own (M.ite (M.tru (M.op1 (strIn ["plus", "less", "times", "over"]) (M.op2 itemD (M.rd 0) (M.pure (.int 0))))) (M.slice (M.rd 0) (M.anEnd (M.pure (.int 1))) M.noEnd) (M.tup M.nil))))
abbrev kinner_parts : List (List Str × Nat × List Nat) := []
abbrev nhow_many_parts : List Str := ["part", "one"]
def mhow_many_parts : Nat → M OD
  | 0 => M.fail
  | n + 1 => runF 1 2 [] (M.ret (M.own (M.op2 addB (M.pure (.int 1)) (M.opL (one sumD) (M.cons (M.frz (M.lc (M.items (M.frz (M.call minner_parts (M.aV (M.rd 0) M.aNil)))) (gNameD 1) [1] (M.pure true) (M.frz (M.call (mhow_many_parts n) (M.aV (M.rd 1) M.aNil))))) M.nil)))))
abbrev khow_many_parts : List (List Str × Nat × List Nat) := []
abbrev nwhole_part : List Str := ["text", "part", "behind"]
def mwhole_part : M OD := runF 1 3 [] (M.seq (M.asgT (M.frz (M.call (mpart_at 8) (M.aV (M.rd 0) (M.aV (M.pure (.int 0)) (M.aV (M.pure (.int 5)) M.aNil))))) (gTupE 2 (gConsD (gNameD 1) (gConsD (gNameD 2) gNilD))))
  (M.seq (M.drop (M.frz (M.call mneed (M.aV (M.andV (M.op2 eqD (M.rd 2) (M.opL (one lenD) (M.cons (M.rd 0) M.nil))) (M.op2 leD (M.frz (M.call (mhow_many_parts 8) (M.aV (M.rd 1) M.aNil))) (M.pure (.int 15)))) M.aNil))))
  (M.ret (M.own (M.rd 1)))))
abbrev kwhole_part : List (List Str × Nat × List Nat) := []
abbrev nread_part : List Str := ["text"]
def mread_part : M OD := runF 1 1 [] (M.seq (M.drop (M.frz (M.call mneed (M.aV (M.isi "str" (M.rd 0)) M.aNil))))
  (M.ret (M.call mwhole_part (M.aV (M.rd 0) M.aNil))))
abbrev kread_part : List (List Str × Nat × List Nat) := [(["text"], 0, [0])]
abbrev nwhole_sieve : List Str := ["text", "word", "sign", "first", "middle", "last"]
def mwhole_sieve : M OD := runF 1 6 [] (M.seq (M.ifS (M.trt (M.sm startsD (M.rd 0) (M.pure (.str "lacking "))))
  (M.ret (M.own (M.tup (M.cons (M.pure (.str "lacking")) (M.cons (M.frz (M.call mwhole_part (M.aV (M.slice (M.rd 0) (M.anEnd (M.opL (one lenD) (M.cons (M.pure (.str "lacking ")) M.nil))) M.noEnd) M.aNil))) M.nil)))))
  M.skip)
  (M.seq (M.for (M.pure ((([("alike", .str "="), ("unlike", .str "#"), ("below", .str "<")]) : List (Str × PyData)).map fun p => PyData.tuple [.str p.1, p.2])) (gTupE 2 (gConsD (gNameD 1) (gConsD (gNameD 2) gNilD)))
  (M.seq (M.asgT (M.sm partiD (M.rd 0) (M.fj [(M.pure (.str " ")), (M.op1 fmtD (M.rd 2)), (M.pure (.str " "))] Str.empty)) (gTupE 3 (gConsD (gNameD 3) (gConsD (gNameD 4) (gConsD (gNameD 5) gNilD)))))
  (M.ifS (M.tru (M.op2 neD (M.rd 4) (M.pure (.str ""))))
  (M.ret (M.own (M.tup (M.cons (M.rd 1) (M.cons (M.frz (M.call mwhole_part (M.aV (M.rd 3) M.aNil))) (M.cons (M.frz (M.call mwhole_part (M.aV (M.rd 5) M.aNil))) M.nil))))))
  M.skip)))
  (M.raiseF "NoText" "line" (M.pure (.int 0)))))
abbrev kwhole_sieve : List (List Str × Nat × List Nat) := []
abbrev nread_sieve : List Str := ["text"]
def mread_sieve : M OD := runF 1 1 [] (M.seq (M.drop (M.frz (M.call mneed (M.aV (M.isi "str" (M.rd 0)) M.aNil))))
  (M.ret (M.call mwhole_sieve (M.aV (M.rd 0) M.aNil))))
abbrev kread_sieve : List (List Str × Nat × List Nat) := [(["text"], 0, [0])]
abbrev n_law_right : List Str := ["_law_pieces", "_law_wires", "_law_piece_here", "_law_due", "_law_wire_here"]
def m_law_right : M OD := runF 2 5 [] (M.seq (M.for (M.items (M.rd 0)) (gNameD 2)
  (M.seq (M.set 3 (M.own (M.frz (M.call (m_law_shown 8) (M.aV (M.rd 2) M.aNil)))))
  (M.seq (M.ifS (M.or (M.tru (M.op2 neD (M.frz (M.call (mshow_part 8) (M.aV (M.rd 2) M.aNil))) (M.rd 3))) (M.or (M.tru (M.op2 neD (M.frz (M.call (mshow_part 8) (M.perm 0 [0] M.aNil (M.aV (M.rd 2) M.aNil)))) (M.rd 3))) (M.tru (M.op2 neD (M.opL (one reprD) (M.cons (M.frz (M.call mread_part (M.aV (M.rd 3) M.aNil))) M.nil)) (M.opL (one reprD) (M.cons (M.rd 2) M.nil))))))
  (M.ret (M.own (M.pure (.bool false))))
  M.skip)
  (M.ifS (M.or (M.tru (M.op2 neD (M.opL (one reprD) (M.cons (M.frz (M.call mread_part (M.perm 0 [0] M.aNil (M.aV (M.rd 3) M.aNil)))) M.nil)) (M.opL (one reprD) (M.cons (M.rd 2) M.nil)))) (M.tru (M.op2 neD (M.frz (M.heard 5 h_law_heard (M.call mread_sieve (M.aV (M.rd 3) M.aNil)))) (M.tup (M.cons (M.pure (.int 0)) M.nil)))))
  (M.ret (M.own (M.pure (.bool false))))
  M.skip))))
  (M.seq (M.for (M.items (M.rd 1)) (gNameD 4)
  (M.seq (M.set 3 (M.own (M.frz (M.call m_law_wire_shown (M.aV (M.rd 4) M.aNil)))))
  (M.seq (M.ifS (M.or (M.tru (M.op2 neD (M.frz (M.call mshow_sieve (M.aV (M.rd 4) M.aNil))) (M.rd 3))) (M.or (M.tru (M.op2 neD (M.frz (M.call mshow_sieve (M.perm 0 [0] M.aNil (M.aV (M.rd 4) M.aNil)))) (M.rd 3))) (M.tru (M.op2 neD (M.opL (one reprD) (M.cons (M.frz (M.call mread_sieve (M.aV (M.rd 3) M.aNil))) M.nil)) (M.opL (one reprD) (M.cons (M.rd 4) M.nil))))))
  (M.ret (M.own (M.pure (.bool false))))
  M.skip)
  (M.ifS (M.or (M.tru (M.op2 neD (M.opL (one reprD) (M.cons (M.frz (M.call mread_sieve (M.perm 0 [0] M.aNil (M.aV (M.rd 3) M.aNil)))) M.nil)) (M.opL (one reprD) (M.cons (M.rd 4) M.nil)))) (M.tru (M.op2 neD (M.frz (M.heard 5 h_law_heard (M.call mread_part (M.aV (M.rd 3) M.aNil)))) (M.tup (M.cons (M.pure (.int 0)) M.nil)))))
  (M.ret (M.own (M.pure (.bool false))))
  M.skip))))
  (M.ret (M.own (M.pure (.bool true))))))
abbrev k_law_right : List (List Str × Nat × List Nat) := []
abbrev n_law_feed : List Str := ["_law_script", "_law_k", "_law_cell", "_law_great"]
def m_law_feed : M OD := runF 2 4 [] (M.seq (M.set 2 (M.own (M.pure (.int 0))))
  (M.seq (M.ifS (M.tru (M.op2 ltD (M.rd 1) (M.opL (one lenD) (M.cons (M.rd 0) M.nil))))
  (M.set 2 (M.own (M.op2 itemD (M.rd 0) (M.rd 1))))
  M.skip)
  (M.seq (M.set 3 (M.own (M.opL (one absD) (M.cons (M.rd 2) M.nil))))
  (M.seq (M.ifS (M.tru (M.op2 ltD (M.rd 3) (M.op2 powD (M.pure (.int 10)) (M.pure (.int 18)))))
  (M.set 3 (M.own (M.pure (.int 0))))
  M.skip)
  (M.ret (M.lst (M.cons (M.rd 3) (M.cons (M.op2 modD (M.op2 addB (M.op2 addB (M.op2 mulD (M.op2 modD (M.rd 2) (M.pure (.int 2147483423))) (M.pure (.int 48271))) (M.op2 mulD (M.pure (.int 6151)) (M.rd 1))) (M.pure (.int 17))) (M.pure (.int 2147483423))) (M.cons (M.pure (.int 0)) M.nil)))))))))
abbrev k_law_feed : List (List Str × Nat × List Nat) := []
abbrev n_law_take : List Str := ["_law_feed_here", "_law_many", "_law_digit", "_law_many_so", "_law_mixed"]
def m_law_take : M OD := runF 2 5 [0] (M.seq (M.ifS (M.tru (M.op2 gtD (M.ro (ixO (slotO 0) (fun _ => some (.int 0)))) (M.pure (.int 0))))
  (M.seq (M.set 2 (M.own (M.op2 modD (M.ro (ixO (slotO 0) (fun _ => some (.int 0)))) (M.rd 1))))
  (M.seq (M.setI 0 (M.own (M.op2 divD (M.ro (ixO (slotO 0) (fun _ => some (.int 0)))) (M.rd 1))) (M.pure (.int 0)))
  (M.ret (M.own (M.rd 2)))))
  M.skip)
  (M.seq (M.set 3 (M.own (M.op2 addB (M.ro (ixO (slotO 0) (fun _ => some (.int 2)))) (M.pure (.int 1)))))
  (M.seq (M.setI 0 (M.own (M.rd 3)) (M.pure (.int 2)))
  (M.seq (M.set 4 (M.own (M.op2 modD (M.op2 addB (M.op2 addB (M.ro (ixO (slotO 0) (fun _ => some (.int 1)))) (M.op2 mulD (M.op2 mulD (M.pure (.int 40692)) (M.rd 3)) (M.rd 3))) (M.op2 mulD (M.pure (.int 69621)) (M.rd 3))) (M.pure (.int 2147483647)))))
  (M.seq (M.set 4 (M.own (M.op2 modD (M.op2 addB (M.op2 addB (M.op2 mulD (M.rd 4) (M.rd 4)) (M.op2 mulD (M.pure (.int 39373)) (M.rd 4))) (M.rd 3)) (M.pure (.int 2147483579)))))
  (M.seq (M.set 4 (M.own (M.op2 modD (M.op2 addB (M.op2 mulD (M.rd 4) (M.rd 4)) (M.op2 mulD (M.pure (.int 16807)) (M.rd 4))) (M.pure (.int 2147483549)))))
  (M.ret (M.own (M.op2 modD (M.op2 divD (M.rd 4) (M.pure (.int 64))) (M.rd 1))))))))))
abbrev k_law_take : List (List Str × Nat × List Nat) := []
abbrev n_law_label : List Str := ["_law_feed_here", "_law_letters", "_law_words", "_law_size", "_law_spelt", "_law_k"]
def m_law_label : M OD := runF 1 6 [0] (M.seq (M.set 1 (M.own (M.pure (.str "abcdefghijklmnopqrstuvwxyz"))))
  (M.seq (M.set 2 (M.own (M.frz (M.lst (M.cons (M.pure (.str "with")) (M.cons (M.pure (.str "none")) (M.cons (M.pure (.str "on")) (M.cons (M.pure (.str "sieve")) (M.cons (M.pure (.str "lacking")) (M.cons (M.pure (.str "tell")) (M.cons (M.pure (.str "sum")) (M.cons (M.pure (.str "order")) (M.cons (M.pure (.str "up")) (M.cons (M.pure (.str "a")) (M.cons (M.pure (.str "b")) (M.cons (M.pure (.str "zzzzzzzz")) M.nil))))))))))))))))
  (M.seq (M.set 3 (M.own (M.op2 itemD (M.frz (M.lst (M.cons (M.pure (.int 1)) (M.cons (M.pure (.int 1)) (M.cons (M.pure (.int 2)) (M.cons (M.pure (.int 8)) M.nil)))))) (M.frz (M.call m_law_take (M.aR 0 (M.aV (M.pure (.int 4)) M.aNil)))))))
  (M.seq (M.set 4 (M.own (M.join (M.pure (.str "")) (M.frz (M.lc (M.iter rangeD1 (M.cons (M.rd 3) M.nil)) (gNameD 5) [5] (M.pure true) (M.op2 itemD (M.rd 1) (M.frz (M.call m_law_take (M.aR 0 (M.aV (M.pure (.int 26)) M.aNil))))))))))
  (M.ret (M.own (M.op2 itemD (M.op2 addB (M.rd 2) (M.frz (M.rep (M.cons (M.rd 4) M.nil) (M.pure (.int 4))))) (M.frz (M.call m_law_take (M.aR 0 (M.aV (M.pure (.int 16)) M.aNil)))))))))))
abbrev k_law_label : List (List Str × Nat × List Nat) := []
abbrev n_law_number : List Str := ["_law_feed_here", "_law_far", "_law_some"]
def m_law_number : M OD := runF 1 3 [0] (M.seq (M.set 1 (M.own (M.frz (M.call m_law_take (M.aR 0 (M.aV (M.op2 powD (M.pure (.int 10)) (M.pure (.int 6))) M.aNil))))))
  (M.seq (M.set 2 (M.own (M.frz (M.lst (M.cons (M.pure (.int 0)) (M.cons (M.pure (.int 1)) (M.cons (M.op1 negD (M.pure (.int 1))) (M.cons (M.pure (.int 2)) (M.cons (M.rd 1) (M.cons (M.op2 subB (M.pure (.int 0)) (M.rd 1)) (M.cons (M.op2 subB (M.op2 subB (M.op2 powD (M.pure (.int 10)) (M.pure (.int 30))) (M.pure (.int 1))) (M.rd 1)) (M.cons (M.op2 subB (M.op2 addB (M.rd 1) (M.pure (.int 1))) (M.op2 powD (M.pure (.int 10)) (M.pure (.int 30)))) (M.cons (M.op2 subB (M.pure (.int 7)) (M.op2 modD (M.rd 1) (M.pure (.int 15)))) (M.cons (M.op2 modD (M.rd 1) (M.pure (.int 4))) M.nil))))))))))))))
  (M.ret (M.own (M.op2 itemD (M.rd 2) (M.frz (M.call m_law_take (M.aR 0 (M.aV (M.pure (.int 10)) M.aNil)))))))))
abbrev k_law_number : List (List Str × Nat × List Nat) := []
abbrev n_law_piece : List Str := ["_law_feed_here", "_law_aliases", "_law_deep", "_law_room", "_law_way", "_law_alias", "_law_one"]
def m_law_piece : Nat → M OD
  | 0 => M.fail
  | n + 1 => runF 4 7 [0, 3] (M.seq (M.setI 3 (M.own (M.op2 subB (M.ro (ixO (slotO 3) (fun _ => some (.int 0)))) (M.pure (.int 1)))) (M.pure (.int 0)))
  (M.seq (M.set 4 (M.own (M.frz (M.call m_law_take (M.aR 0 (M.aV (M.pure (.int 9)) M.aNil))))))
  (M.seq (M.ifS (M.or (M.tru (M.op2 eqD (M.rd 2) (M.pure (.int 1)))) (M.or (M.tru (M.op2 ltD (M.ro (ixO (slotO 3) (fun _ => some (.int 0)))) (M.pure (.int 2)))) (M.tru (M.op2 ltD (M.rd 4) (M.pure (.int 3))))))
  (M.seq (M.set 5 (M.own (M.op2 itemD (M.rd 1) (M.frz (M.call m_law_take (M.aR 0 (M.aV (M.opL (one lenD) (M.cons (M.rd 1) M.nil)) M.aNil)))))))
  (M.ret (M.own (M.op2 itemD (M.frz (M.lst (M.cons (M.tup (M.cons (M.pure (.str "cell")) (M.cons (M.rd 5) (M.cons (M.frz (M.call m_law_label (M.aR 0 M.aNil))) M.nil)))) (M.cons (M.tup (M.cons (M.pure (.str "number")) (M.cons (M.frz (M.call m_law_number (M.aR 0 M.aNil))) M.nil))) M.nil)))) (M.op2 divD (M.frz (M.call m_law_take (M.aR 0 (M.aV (M.pure (.int 3)) M.aNil)))) (M.pure (.int 2)))))))
  M.skip)
  (M.seq (M.setI 3 (M.own (M.op2 subB (M.ro (ixO (slotO 3) (fun _ => some (.int 0)))) (M.pure (.int 1)))) (M.pure (.int 0)))
  (M.seq (M.set 6 (M.own (M.frz (M.call (m_law_piece n) (M.aR 0 (M.aV (M.rd 1) (M.aV (M.op2 subB (M.rd 2) (M.pure (.int 1))) (M.aR 3 M.aNil))))))))
  (M.seq (M.setI 3 (M.own (M.op2 addB (M.ro (ixO (slotO 3) (fun _ => some (.int 0)))) (M.pure (.int 1)))) (M.pure (.int 0)))
  (M.ret (M.own (M.tup (M.cons (M.op2 itemD (M.frz (M.lst (M.cons (M.pure (.str "plus")) (M.cons (M.pure (.str "less")) (M.cons (M.pure (.str "times")) (M.cons (M.pure (.str "over")) M.nil)))))) (M.op2 modD (M.rd 4) (M.pure (.int 4)))) (M.cons (M.rd 6) (M.cons (M.frz (M.call (m_law_piece n) (M.aR 0 (M.aV (M.rd 1) (M.aV (M.op2 subB (M.rd 2) (M.pure (.int 1))) (M.aR 3 M.aNil)))))) M.nil))))))))))))
abbrev k_law_piece : List (List Str × Nat × List Nat) := []
abbrev n_law_part : List Str := ["_law_feed_here", "_law_aliases"]
def m_law_part : M OD := runF 2 2 [0] (M.ret (M.call (m_law_piece 8) (M.aR 0 (M.aV (M.rd 1) (M.aV (M.op2 itemD (M.frz (M.lst (M.cons (M.pure (.int 5)) (M.cons (M.pure (.int 3)) (M.cons (M.pure (.int 2)) (M.cons (M.pure (.int 1)) (M.cons (M.pure (.int 2)) (M.cons (M.pure (.int 3)) M.nil)))))))) (M.frz (M.call m_law_take (M.aR 0 (M.aV (M.pure (.int 6)) M.aNil))))) (M.aO (M.lst (M.cons (M.op2 itemD (M.frz (M.lst (M.cons (M.pure (.int 15)) (M.cons (M.pure (.int 7)) (M.cons (M.pure (.int 5)) M.nil))))) (M.frz (M.call m_law_take (M.aR 0 (M.aV (M.pure (.int 3)) M.aNil))))) M.nil)) M.aNil))))))
abbrev k_law_part : List (List Str × Nat × List Nat) := []
abbrev n_law_wire : List Str := ["_law_feed_here", "_law_aliases", "_law_word", "_law_one", "_law_other", "_law_k"]
def m_law_wire : M OD := runF 2 6 [0] (M.seq (M.set 2 (M.own (M.op2 itemD (M.frz (M.lst (M.cons (M.pure (.str "alike")) (M.cons (M.pure (.str "unlike")) (M.cons (M.pure (.str "below")) (M.cons (M.pure (.str "lacking")) M.nil)))))) (M.frz (M.call m_law_take (M.aR 0 (M.aV (M.pure (.int 4)) M.aNil)))))))
  (M.seq (M.asgT (M.frz (M.lc (M.iter rangeD1 (M.cons (M.pure (.int 2)) M.nil)) (gNameD 5) [5] (M.pure true) (M.frz (M.call m_law_part (M.aR 0 (M.aV (M.rd 1) M.aNil)))))) (gUnlE 2 (gConsD (gNameD 3) (gConsD (gNameD 4) gNilD))))
  (M.ret (M.own (M.ite (M.tru (M.op2 eqD (M.rd 2) (M.pure (.str "lacking")))) (M.tup (M.cons (M.rd 2) (M.cons (M.rd 3) M.nil))) (M.tup (M.cons (M.rd 2) (M.cons (M.rd 3) (M.cons (M.rd 4) M.nil)))))))))
abbrev k_law_wire : List (List Str × Nat × List Nat) := []
abbrev nlaw : List Str := ["_law_script", "_law_ahead", "_law_k", "_law_feed_here", "_law_many", "_law_aliases", "_law_pieces", "_law_wires", "_law_held", "_law_some", "_law_cell", "_law_full", "_law_turn", "_law_deep"]
def mlaw : M OD := runF 1 14 [] (M.seq (M.set 1 (M.own (M.tup (M.cons (M.frz (M.lst M.nil)) (M.cons (M.frz (M.lst M.nil)) M.nil)))))
  (M.seq (M.for (M.iter rangeD1 (M.cons (M.opL (two maxD) (M.cons (M.pure (.int 1)) (M.cons (M.opL (two minD) (M.cons (M.pure (.int 5)) (M.cons (M.opL (one lenD) (M.cons (M.rd 0) M.nil)) M.nil))) M.nil))) M.nil)) (gNameD 2)
  (M.seq (M.set 3 (M.call m_law_feed (M.aV (M.rd 0) (M.aV (M.rd 2) M.aNil))))
  (M.seq (M.set 4 (M.own (M.op2 itemD (M.frz (M.lst (M.cons (M.pure (.int 2)) (M.cons (M.pure (.int 1)) (M.cons (M.pure (.int 3)) (M.cons (M.pure (.int 1)) (M.cons (M.pure (.int 8)) (M.cons (M.pure (.int 2)) (M.cons (M.pure (.int 4)) (M.cons (M.pure (.int 2)) M.nil)))))))))) (M.frz (M.call m_law_take (M.aR 3 (M.aV (M.pure (.int 8)) M.aNil)))))))
  (M.seq (M.set 5 (M.own (M.frz (M.lc (M.iter rangeD1 (M.cons (M.op2 addB (M.pure (.int 1)) (M.frz (M.call m_law_take (M.aR 3 (M.aV (M.pure (.int 3)) M.aNil))))) M.nil)) (gNameD 12) [12] (M.pure true) (M.frz (M.call m_law_label (M.aR 3 M.aNil)))))))
  (M.seq (M.set 6 (M.lc (M.iter rangeD1 (M.cons (M.rd 4) M.nil)) (gNameD 12) [12] (M.pure true) (M.frz (M.call m_law_part (M.aR 3 (M.aV (M.rd 5) M.aNil))))))
  (M.seq (M.set 7 (M.lc (M.iter rangeD1 (M.cons (M.rd 4) M.nil)) (gNameD 12) [12] (M.pure true) (M.frz (M.call m_law_wire (M.aR 3 (M.aV (M.rd 5) M.aNil))))))
  (M.seq (M.set 8 (M.own (M.opL (one reprD) (M.cons (M.tup (M.cons (M.rd 6) (M.cons (M.rd 7) M.nil))) M.nil))))
  (M.seq (M.for (M.items (M.tup (M.cons (M.tup (M.cons (M.rd 6) (M.cons (M.rd 7) M.nil))) (M.cons (M.rd 1) (M.cons (M.tup (M.cons (M.rd 6) (M.cons (M.rd 7) M.nil))) M.nil))))) (gNameD 9)
  (M.ifS (M.not (M.trt (M.frz (M.call m_law_right (M.aV (M.op2 itemD (M.rd 9) (M.pure (.int 0))) (M.aV (M.op2 itemD (M.rd 9) (M.pure (.int 1))) M.aNil))))))
  (M.ret (M.own (M.pure (.bool false))))
  M.skip))
  (M.seq (M.ifS (M.tru (M.op2 neD (M.opL (one reprD) (M.cons (M.tup (M.cons (M.rd 6) (M.cons (M.rd 7) M.nil))) M.nil)) (M.rd 8)))
  (M.ret (M.own (M.pure (.bool false))))
  M.skip)
  (M.set 1 (M.own (M.tup (M.cons (M.rd 6) (M.cons (M.rd 7) M.nil))))))))))))))
  (M.seq (M.set 10 (M.own (M.tup (M.cons (M.pure (.str "cell")) (M.cons (M.pure (.str "lacking")) (M.cons (M.pure (.str "over")) M.nil))))))
  (M.seq (M.set 11 (M.own (M.tup (M.cons (M.pure (.str "less")) (M.cons (M.rd 10) (M.cons (M.tup (M.cons (M.pure (.str "number")) (M.cons (M.op2 subB (M.pure (.int 1)) (M.op2 powD (M.pure (.int 10)) (M.pure (.int 30)))) M.nil))) M.nil))))))
  (M.seq (M.for (M.iter rangeD1 (M.cons (M.pure (.int 2)) M.nil)) (gNameD 12)
  (M.set 11 (M.own (M.tup (M.cons (M.pure (.str "over")) (M.cons (M.rd 11) (M.cons (M.rd 11) M.nil)))))))
  (M.seq (M.set 13 (M.own (M.tup (M.cons (M.pure (.str "times")) (M.cons (M.tup (M.cons (M.pure (.str "number")) (M.cons (M.op1 negD (M.pure (.int 1))) M.nil))) (M.cons (M.tup (M.cons (M.pure (.str "plus")) (M.cons (M.tup (M.cons (M.pure (.str "number")) (M.cons (M.pure (.int 0)) M.nil))) (M.cons (M.tup (M.cons (M.pure (.str "times")) (M.cons (M.rd 10) (M.cons (M.tup (M.cons (M.pure (.str "over")) (M.cons (M.rd 10) (M.cons (M.tup (M.cons (M.pure (.str "number")) (M.cons (M.op2 subB (M.op2 powD (M.pure (.int 10)) (M.pure (.int 30))) (M.pure (.int 1))) M.nil))) M.nil)))) M.nil)))) M.nil)))) M.nil))))))
  (M.ret (M.call m_law_right (M.aV (M.frz (M.lst (M.cons (M.rd 10) (M.cons (M.rd 11) (M.cons (M.rd 13) M.nil))))) (M.aV (M.frz (M.lst (M.cons (M.tup (M.cons (M.pure (.str "lacking")) (M.cons (M.rd 10) M.nil))) (M.cons (M.tup (M.cons (M.pure (.str "below")) (M.cons (M.rd 11) (M.cons (M.rd 13) M.nil)))) (M.cons (M.tup (M.cons (M.pure (.str "alike")) (M.cons (M.rd 10) (M.cons (M.rd 10) M.nil)))) M.nil))))) M.aNil))))))))))
end
end L77

set_option maxHeartbeats 2000000
namespace L77
open PySem PySem.Spec PyProof.Rows L2 DL
section
variable {P : Program} {w : World} {K : PySem.W.Frag} {mg : Str → Option Value} {base : Heap}
theorem s_law_shown : FnScope n_law_shown ["_law_piece_here"] (defScope (top 54)) := ⟨rfl, rfl, rfl, by decide +kernel, rfl, by decide +kernel, by decide +kernel⟩
theorem b_law_shown {n : Nat} (C : Cm fa fn tb K mg base) (CD : obsX td K = valX td w) (D_law_shown : DefK P w K mg base (1 + n) "_law_shown" ["_law_piece_here"] [] (m_law_shown n) k_law_shown) {f : Addr} {cd : Value} {A : Around} {outer : List Env} {s : Shared} {H : Hp} {E : XK} (hr : Room (1 + n) (CxF P w K mg base n_law_shown "_law_shown" (defScope (top 54)) f cd A outer s H E).A) (g : Gd (CxF P w K mg base n_law_shown "_law_shown" (defScope (top 54)) f cd A outer s H E)) :
    SDs (CxF P w K mg base n_law_shown "_law_shown" (defScope (top 54)) f cd A outer s H E) (WF E) [] (defBody (top 54)) (M.seq (M.ifS (M.tru (M.op2 eqD (M.op2 itemD (M.rd 0) (M.pure (.int 0))) (M.pure (.str "cell"))))
  (M.ret (M.own (M.op2 addB (M.op2 addB (M.op2 itemD (M.rd 0) (M.pure (.int 1))) (M.pure (.str "."))) (M.op2 itemD (M.rd 0) (M.pure (.int 2))))))
  M.skip)
  (M.seq (M.ifS (M.tru (M.op2 eqD (M.op2 itemD (M.rd 0) (M.pure (.int 0))) (M.pure (.str "number"))))
  (M.ret (M.own (M.opL (one strB) (M.cons (M.op2 itemD (M.rd 0) (M.pure (.int 1))) M.nil))))
  M.skip)
  (M.seq (M.set 1 (M.own (M.op2 itemD (M.frz (M.disp [((M.pure (.str "plus")), (M.pure (.str " + "))), ((M.pure (.str "less")), (M.pure (.str " - "))), ((M.pure (.str "times")), (M.pure (.str " * "))), ((M.pure (.str "over")), (M.pure (.str " / ")))])) (M.op2 itemD (M.rd 0) (M.pure (.int 0))))))
  (M.ret (M.own (M.op2 addB (M.op2 addB (M.op2 addB (M.op2 addB (M.pure (.str "(")) (M.frz (M.call (m_law_shown n) (M.aV (M.op2 itemD (M.rd 0) (M.pure (.int 1))) M.aNil)))) (M.rd 1)) (M.frz (M.call (m_law_shown n) (M.aV (M.op2 itemD (M.rd 0) (M.pure (.int 2))) M.aNil)))) (M.pure (.str ")")))))))) :=
  have nd : n_law_shown.Nodup := s_law_shown.nd
  (sds_cons (sd_if (td_eq g (u65 hr) (ed_ix (u65 hr) (ed_var 0) ed_int) ed_str)
  (sds_one (sd_ret (eo_of (ed_addB (ed_addB (ed_ix (u65 hr) (ed_var 0) ed_int) ed_str) (ed_ix (u65 hr) (ed_var 0) ed_int)))))
  sds_nil)
  (sds_cons (sd_if (td_eq g (u65 hr) (ed_ix (u65 hr) (ed_var 0) ed_int) ed_str)
  (sds_one (sd_ret (eo_of (ed_callTy call_strIB cd_strB rfl (C.free 0) (by decide +kernel) (ad_cons (ed_ix (u65 hr) (ed_var 0) ed_int) ad_nil)))))
  sds_nil)
  (sds_cons (sd_set 1 nd (by decide) (eo_of (ed_ix (u65 hr) (ed_frz (eo_disp (pd_cons ed_str ed_str (pd_cons ed_str ed_str (pd_cons ed_str ed_str (pd_cons ed_str ed_str pd_nil)))))) (ed_ix (u65 hr) (ed_var 0) ed_int))))
  (sds_one (sd_ret (eo_of (ed_addB (ed_addB (ed_addB (ed_addB ed_str (ed_frz (eo_def D_law_shown g hr (takesF rfl) (aa_v (ed_ix (u65 hr) (ed_var 0) ed_int) aa_nil) (by omega)))) (ed_var 1)) (ed_frz (eo_def D_law_shown g hr (takesF rfl) (aa_v (ed_ix (u65 hr) (ed_var 0) ed_int) aa_nil) (by omega)))) ed_str)))))))
theorem d_law_shown (C : Cm fa fn tb K mg base) (CD : obsX td K = valX td w) : ∀ n, DefK P w K mg base (1 + n) "_law_shown" ["_law_piece_here"] [] (m_law_shown n) k_law_shown
  | 0 => by
    obtain ⟨fd, F⟩ := C.says.def_ 0 (d := dd_law_shown) rfl
    exact ⟨_, fd, C.glo 40, fng_fail (by decide), F.bindsN fun _ _ _ _ _ _ us hl => match us, hl with | [_], _ => rfl, F.kp, fun q hq => nomatch hq⟩
  | n + 1 => by
    obtain ⟨fd, F⟩ := C.says.def_ 0 (d := dd_law_shown) rfl
    exact ⟨_, fd, C.glo 40, fng_of (N := n_law_shown) F s_law_shown rfl rfl (by decide) fun cd A outer s H E hr g => b_law_shown C CD (d_law_shown C CD n) hr g, F.bindsN fun _ _ _ _ _ _ us hl => match us, hl with | [_], _ => rfl, F.kp, fun q hq => nomatch hq⟩
theorem s_law_wire_shown : FnScope n_law_wire_shown ["_law_wire_here"] (defScope (top 55)) := ⟨rfl, rfl, rfl, by decide +kernel, rfl, by decide +kernel, by decide +kernel⟩
theorem b_law_wire_shown (C : Cm fa fn tb K mg base) (CD : obsX td K = valX td w) (D_law_shown : DefK P w K mg base 9 "_law_shown" ["_law_piece_here"] [] (m_law_shown 8) k_law_shown) {f : Addr} {cd : Value} {A : Around} {outer : List Env} {s : Shared} {H : Hp} {E : XK} (hr : Room (9) (CxF P w K mg base n_law_wire_shown "_law_wire_shown" (defScope (top 55)) f cd A outer s H E).A) (g : Gd (CxF P w K mg base n_law_wire_shown "_law_wire_shown" (defScope (top 55)) f cd A outer s H E)) :
    SDs (CxF P w K mg base n_law_wire_shown "_law_wire_shown" (defScope (top 55)) f cd A outer s H E) (WF E) [] (defBody (top 55)) (M.seq (M.ifS (M.tru (M.op2 eqD (M.op2 itemD (M.rd 0) (M.pure (.int 0))) (M.pure (.str "lacking"))))
  (M.ret (M.own (M.op2 addB (M.pure (.str "lacking ")) (M.frz (M.call (m_law_shown 8) (M.aV (M.op2 itemD (M.rd 0) (M.pure (.int 1))) M.aNil))))))
  M.skip)
  (M.seq (M.set 1 (M.own (M.op2 itemD (M.frz (M.disp [((M.pure (.str "alike")), (M.pure (.str " = "))), ((M.pure (.str "unlike")), (M.pure (.str " # "))), ((M.pure (.str "below")), (M.pure (.str " < ")))])) (M.op2 itemD (M.rd 0) (M.pure (.int 0))))))
  (M.ret (M.own (M.op2 addB (M.op2 addB (M.frz (M.call (m_law_shown 8) (M.aV (M.op2 itemD (M.rd 0) (M.pure (.int 1))) M.aNil))) (M.rd 1)) (M.frz (M.call (m_law_shown 8) (M.aV (M.op2 itemD (M.rd 0) (M.pure (.int 2))) M.aNil)))))))) :=
  have nd : n_law_wire_shown.Nodup := s_law_wire_shown.nd
  (sds_cons (sd_if (td_eq g (u65 hr) (ed_ix (u65 hr) (ed_var 0) ed_int) ed_str)
  (sds_one (sd_ret (eo_of (ed_addB ed_str (ed_frz (eo_def D_law_shown g hr (takesF rfl) (aa_v (ed_ix (u65 hr) (ed_var 0) ed_int) aa_nil) (by omega)))))))
  sds_nil)
  (sds_cons (sd_set 1 nd (by decide) (eo_of (ed_ix (u65 hr) (ed_frz (eo_disp (pd_cons ed_str ed_str (pd_cons ed_str ed_str (pd_cons ed_str ed_str pd_nil))))) (ed_ix (u65 hr) (ed_var 0) ed_int))))
  (sds_one (sd_ret (eo_of (ed_addB (ed_addB (ed_frz (eo_def D_law_shown g hr (takesF rfl) (aa_v (ed_ix (u65 hr) (ed_var 0) ed_int) aa_nil) (by omega))) (ed_var 1)) (ed_frz (eo_def D_law_shown g hr (takesF rfl) (aa_v (ed_ix (u65 hr) (ed_var 0) ed_int) aa_nil) (by omega)))))))))
theorem d_law_wire_shown (C : Cm fa fn tb K mg base) (CD : obsX td K = valX td w) (D_law_shown : DefK P w K mg base 9 "_law_shown" ["_law_piece_here"] [] (m_law_shown 8) k_law_shown) : DefK P w K mg base 10 "_law_wire_shown" ["_law_wire_here"] [] m_law_wire_shown k_law_wire_shown := by
  obtain ⟨fd, F⟩ := C.says.def_ 1 (d := dd_law_wire_shown) rfl
  exact ⟨_, fd, C.glo 41, fng_of (N := n_law_wire_shown) (k := 9) F s_law_wire_shown rfl rfl (by decide) fun cd A outer s H E hr g => b_law_wire_shown C CD D_law_shown hr g, F.bindsN fun _ _ _ _ _ _ us hl => match us, hl with | [_], _ => rfl, F.kp, fun q hq => nomatch hq⟩
theorem sshow_part : FnScope nshow_part ["part"] (defScope (top 3)) := ⟨rfl, rfl, rfl, by decide +kernel, rfl, by decide +kernel, by decide +kernel⟩
theorem bshow_part {n : Nat} (C : Cm fa fn tb K mg base) (CD : obsX td K = valX td w) (Dshow_part : DefK P w K mg base (1 + n) "show_part" ["part"] [] (mshow_part n) kshow_part) {f : Addr} {cd : Value} {A : Around} {outer : List Env} {s : Shared} {H : Hp} {E : XK} (hr : Room (1 + n) (CxF P w K mg base nshow_part "show_part" (defScope (top 3)) f cd A outer s H E).A) (g : Gd (CxF P w K mg base nshow_part "show_part" (defScope (top 3)) f cd A outer s H E)) :
    SDs (CxF P w K mg base nshow_part "show_part" (defScope (top 3)) f cd A outer s H E) (WF E) [] (defBody (top 3)) (M.seq (M.asgT (M.rd 0) (gStarE (gConsD (gNameD 1) (gConsD (gNameD 2) gNilD))))
  (M.seq (M.ifS (M.tru (M.op2 eqD (M.rd 1) (M.pure (.str "cell"))))
  (M.ret (M.own (M.join (M.pure (.str ".")) (M.rd 2))))
  M.skip)
  (M.seq (M.ifS (M.tru (M.op2 eqD (M.rd 1) (M.pure (.str "number"))))
  (M.ret (M.own (M.opL (one strB) (M.cons (M.op2 itemD (M.rd 2) (M.pure (.int 0))) M.nil))))
  M.skip)
  (M.seq (M.asgT (M.frz (M.lc (M.items (M.rd 2)) (gNameD 5) [5] (M.pure true) (M.frz (M.call (mshow_part n) (M.aV (M.rd 5) M.aNil))))) (gUnlE 2 (gConsD (gNameD 3) (gConsD (gNameD 4) gNilD))))
  (M.ret (M.own (M.fj [(M.pure (.str "(")), (M.op1 fmtD (M.rd 3)), (M.pure (.str " ")), (M.op1 fmtD (M.op1 (itM [("plus", .str "+"), ("less", .str "-"), ("times", .str "*"), ("over", .str "/")]) (M.rd 1))), (M.pure (.str " ")), (M.op1 fmtD (M.rd 4)), (M.pure (.str ")"))] Str.empty))))))) :=
  have nd : nshow_part.Nodup := sshow_part.nd
  (sds_cons (sd_asgT (is := [1, 2]) (ed_var 0) (gv_star rfl (gvs_cons (gv_name 1 nd (by decide) (by decide)) (gvs_cons (gv_name 2 nd (by decide) (by decide)) gvs_nil))))
  (sds_cons (sd_if (td_eq g (u65 hr) (ed_var 1) ed_str)
  (sds_one (sd_ret (eo_of (ed_join ed_str (ed_var 2)))))
  sds_nil)
  (sds_cons (sd_if (td_eq g (u65 hr) (ed_var 1) ed_str)
  (sds_one (sd_ret (eo_of (ed_callTy call_strIB cd_strB rfl (C.free 0) (by decide +kernel) (ad_cons (ed_ix (u65 hr) (ed_var 2) ed_int) ad_nil)))))
  sds_nil)
  (sds_cons (sd_asgT (is := [3, 4]) (ed_frz (eo_lc [("one", 5)] rfl nd (id_any (ed_var 2)) (blkOk_by (by show blkC nshow_part (defScope (top 3)) _ _ = true; decide +kernel)) (by decide) (fun _ _ _ _ _ => (gv_name 5 nd (by decide) (by decide))) (fun _ _ _ _ _ => tds_nil) (fun _ _ _ _ _ => (ed_frz (eo_def Dshow_part (Gd.blk g) hr takesW0 (aa_v (ed_var 5) aa_nil) (by omega)))))) (gv_unl rfl (gvs_cons (gv_name 3 nd (by decide) (by decide)) (gvs_cons (gv_name 4 nd (by decide) (by decide)) gvs_nil))))
  (sds_one (sd_ret (eo_of (ed_fstr (fj_cons ed_str (fj_cons (ed_fmt (ed_var 3)) (fj_cons ed_str (fj_cons (ed_fmt (ed_itMod (l := [("plus", .str "+"), ("less", .str "-"), ("times", .str "*"), ("over", .str "/")]) (tabX_of C.kin C.ns CD 0) rfl (ed_var 1))) (fj_cons ed_str (fj_cons (ed_fmt (ed_var 4)) (fj_cons ed_str fj_nil)))))))))))))))
theorem dshow_part (C : Cm fa fn tb K mg base) (CD : obsX td K = valX td w) : ∀ n, DefK P w K mg base (1 + n) "show_part" ["part"] [] (mshow_part n) kshow_part
  | 0 => by
    obtain ⟨fd, F⟩ := C.says.def_ 2 (d := ddshow_part) rfl
    exact ⟨_, fd, C.glo 42, fng_fail (by decide), F.bindsN fun _ _ _ _ _ _ us hl => match us, hl with | [_], _ => rfl, F.kp, fun q hq => by
    rcases List.mem_cons.mp hq with rfl | hq
    · exact kb_of F fun _ _ _ _ _ _ us ws h1 h2 => match us, ws, h1, h2 with | [], [_], _, _ => rfl
    cases hq⟩
  | n + 1 => by
    obtain ⟨fd, F⟩ := C.says.def_ 2 (d := ddshow_part) rfl
    exact ⟨_, fd, C.glo 42, fng_of (N := nshow_part) F sshow_part rfl rfl (by decide) fun cd A outer s H E hr g => bshow_part C CD (dshow_part C CD n) hr g, F.bindsN fun _ _ _ _ _ _ us hl => match us, hl with | [_], _ => rfl, F.kp, fun q hq => by
    rcases List.mem_cons.mp hq with rfl | hq
    · exact kb_of F fun _ _ _ _ _ _ us ws h1 h2 => match us, ws, h1, h2 with | [], [_], _, _ => rfl
    cases hq⟩
theorem s_law_heard : FnScope n_law_heard ["_law_ask_now"] (defScope (top 56)) := ⟨rfl, rfl, rfl, by decide +kernel, rfl, by decide +kernel, by decide +kernel⟩
theorem x_law_heard (C : Cm fa fn tb K mg base) {X : Cx} {B : List Nat} {qq : Str} {gA : Addr} (hK : X.K = K) (hmg : X.mg = mg) : GivesR X B n_law_heard "_law_heard" (defScope (top 56)) gA (defBody (top 56)) "_law_ask_now" qq h_law_heard := by
  subst hK hmg
  have nd : n_law_heard.Nodup := s_law_heard.nd
  exact fun cdg σC m f2 c' s2 H2 hr g hE =>
  (x_cons (sd_set 1 nd (by decide) (eo_of ed_non))
  (x_cons (sd_set 2 nd (by decide) (eo_of ed_non))
  (x_tryN (xi := 2) (yi := 1) (ni := 3) [("NoText", true)] rfl rfl nd rfl rfl rfl rfl rfl rfl rfl rfl (.inl rfl) (by decide) (by decide) rfl rfl (by decide) (by decide) (fun W pn xe E tk hW => hE W pn xe E _ _ tk hW) (fun a b h C' hm => test_two ⟨rfl, by decide, .inl (C.glo 1)⟩ ⟨rfl, by decide, .inl (C.glo 2)⟩ ((xm_cons (ds := [.str "PlanError", .str "Unknown"]) C 3 0 xm_nil) a b h C' hm))
  (x_last (sds_cons (sd_if (td_isNX 1)
  (sds_one (sd_ret (eo_lst (ad_cons (ed_var 2) ad_nil))))
  sds_nil)
  (sds_cons (sd_set 4 nd (by decide) (eo_of (ed_isXT 1 [("NoText", false)] rfl (C.free 14) (pcs_cons (pe_cls rfl (C.glo 13)) (pcs_cons (pe_cls rfl (C.glo 12)) (pcs_cons (pe_cls rfl (C.glo 11)) (pcs_cons (pe_cls rfl (C.glo 10)) (pcs_cons (pe_cls rfl (C.glo 9)) (pcs_cons (pe_cls rfl (C.glo 8)) (pcs_cons (pe_cls rfl (C.glo 7)) (pcs_cons (pe_cls rfl (C.glo 6)) (pcs_cons (pe_cls rfl (C.glo 5)) (pcs_cons (pe_cls rfl (C.glo 4)) pcs_nil)))))))))) (by simp) (fun _ => vals_dvC (K := X.K) (ds := [.str "Busy", .str "Done", .str "NoAsk", .str "NoDeed", .str "NoLine", .str "NoName", .str "NoPlace", .str "NoPlaces", .str "NoRoom", .str "NoRule"])) (xt_cons (ds := [.str "Busy", .str "Done", .str "NoAsk", .str "NoDeed", .str "NoLine", .str "NoName", .str "NoPlace", .str "NoPlaces", .str "NoRoom", .str "NoRule"]) C 3 1 2 xt_nil))))
  (sds_cons (sd_set 4 nd (by decide) (eo_of (ed_or (ed_var 4) (ed_one (ed_isXT 1 [("NoText", false)] rfl (C.free 14) (pcs_cons (pe_cls rfl (C.glo 21)) (pcs_cons (pe_cls rfl (C.glo 20)) (pcs_cons (pe_cls rfl (C.glo 19)) (pcs_cons (pe_cls rfl (C.glo 18)) (pcs_cons (pe_cls rfl (C.glo 17)) (pcs_cons (pe_cls rfl (C.glo 16)) (pcs_cons (pe_cls rfl (C.glo 2)) (pcs_cons (pe_cls rfl (C.glo 15)) pcs_nil)))))))) (by simp) (fun _ => vals_dvC (K := X.K) (ds := [.str "NoStand", .str "NotDone", .str "NoWorth", .str "Spent", .str "Taken", .str "TooMany", .str "Unknown", .str "Unlike"])) (xt_cons (ds := [.str "NoStand", .str "NotDone", .str "NoWorth", .str "Spent", .str "Taken", .str "TooMany", .str "Unknown", .str "Unlike"]) C 3 1 3 xt_nil))))))
  (sds_cons (sd_if (td_w (wd_or (td_trt (ed_var 4)) (wd_or (td_not (td_trt (ed_isX 1 [("NoText", true)] rfl (C.free 14) (pe_cls rfl (C.glo 3)) (rel_dvC (K := X.K) (d := .str "NoText")) (XT.one (xt_cons (ds := [.str "NoText"]) C 3 1 5 xt_nil))))) (wd_or1 (td_not (td_trt (ed_isX 1 [("NoText", true)] rfl (C.free 14) (pe_bltn (v := .ty "ValueError") rfl (C.free 22) (by decide +kernel) rfl) (rel_dvC (K := X.K) (d := .ty "ValueError")) (XT.one (xt_cons (ds := [.ty "ValueError"]) C 3 1 4 xt_nil)))))))))
  (sds_one (sd_ret (eo_of ed_str)))
  sds_nil)
  (sds_one (sd_ret (eo_of (ed_tup (ad_cons (ed_xfld 1 "line" ["NoText"] (xf_cons C 3 1 23 xf_nil)) ad_nil)))))))))))))
theorem d_law_heard (C : Cm fa fn tb K mg base) : HrdK K mg "_law_heard" "_law_ask_now" n_law_heard (defScope (top 56)) (defArgs (top 56)) (defBody (top 56)) := by
  obtain ⟨fd, F⟩ := C.says.def_ 3 (d := dd_law_heard) rfl
  exact ⟨_, fd, C.glo 43, F.kp, F, F.bindsN fun _ _ _ _ _ _ us hl => match us, hl with | [_], _ => rfl, s_law_heard⟩
theorem sshow_sieve : FnScope nshow_sieve ["sieve"] (defScope (top 4)) := ⟨rfl, rfl, rfl, by decide +kernel, rfl, by decide +kernel, by decide +kernel⟩
theorem bshow_sieve (C : Cm fa fn tb K mg base) (CD : obsX td K = valX td w) (Dshow_part : DefK P w K mg base 9 "show_part" ["part"] [] (mshow_part 8) kshow_part) {f : Addr} {cd : Value} {A : Around} {outer : List Env} {s : Shared} {H : Hp} {E : XK} (hr : Room (9) (CxF P w K mg base nshow_sieve "show_sieve" (defScope (top 4)) f cd A outer s H E).A) (g : Gd (CxF P w K mg base nshow_sieve "show_sieve" (defScope (top 4)) f cd A outer s H E)) :
    SDs (CxF P w K mg base nshow_sieve "show_sieve" (defScope (top 4)) f cd A outer s H E) (WF E) [] (defBody (top 4)) (M.seq (M.asgT (M.rd 0) (gStarE (gConsD (gNameD 1) (gConsD (gNameD 2) gNilD))))
  (M.seq (M.ifS (M.tru (M.op2 eqD (M.rd 1) (M.pure (.str "lacking"))))
  (M.ret (M.own (M.op2 addB (M.pure (.str "lacking ")) (M.frz (M.call (mshow_part 8) (M.aV (M.op2 itemD (M.rd 2) (M.pure (.int 0))) M.aNil))))))
  M.skip)
  (M.seq (M.asgT (M.frz (M.lc (M.items (M.rd 2)) (gNameD 5) [5] (M.pure true) (M.frz (M.call (mshow_part 8) (M.aV (M.rd 5) M.aNil))))) (gUnlE 2 (gConsD (gNameD 3) (gConsD (gNameD 4) gNilD))))
  (M.ret (M.own (M.fj [(M.op1 fmtD (M.rd 3)), (M.pure (.str " ")), (M.op1 fmtD (M.op1 (itM [("alike", .str "="), ("unlike", .str "#"), ("below", .str "<")]) (M.rd 1))), (M.pure (.str " ")), (M.op1 fmtD (M.rd 4))] Str.empty)))))) :=
  have nd : nshow_sieve.Nodup := sshow_sieve.nd
  (sds_cons (sd_asgT (is := [1, 2]) (ed_var 0) (gv_star rfl (gvs_cons (gv_name 1 nd (by decide) (by decide)) (gvs_cons (gv_name 2 nd (by decide) (by decide)) gvs_nil))))
  (sds_cons (sd_if (td_eq g (u65 hr) (ed_var 1) ed_str)
  (sds_one (sd_ret (eo_of (ed_addB ed_str (ed_frz (eo_def Dshow_part g hr (takesF rfl) (aa_v (ed_ix (u65 hr) (ed_var 2) ed_int) aa_nil) (by omega)))))))
  sds_nil)
  (sds_cons (sd_asgT (is := [3, 4]) (ed_frz (eo_lc [("part", 5)] rfl nd (id_any (ed_var 2)) (blkOk_by (by show blkC nshow_sieve (defScope (top 4)) _ _ = true; decide +kernel)) (by decide) (fun _ _ _ _ _ => (gv_name 5 nd (by decide) (by decide))) (fun _ _ _ _ _ => tds_nil) (fun _ _ _ _ _ => (ed_frz (eo_def Dshow_part (Gd.blk g) hr takesW0 (aa_v (ed_var 5) aa_nil) (by omega)))))) (gv_unl rfl (gvs_cons (gv_name 3 nd (by decide) (by decide)) (gvs_cons (gv_name 4 nd (by decide) (by decide)) gvs_nil))))
  (sds_one (sd_ret (eo_of (ed_fstr (fj_cons (ed_fmt (ed_var 3)) (fj_cons ed_str (fj_cons (ed_fmt (ed_itMod (l := [("alike", .str "="), ("unlike", .str "#"), ("below", .str "<")]) (tabX_of C.kin C.ns CD 1) rfl (ed_var 1))) (fj_cons ed_str (fj_cons (ed_fmt (ed_var 4)) fj_nil))))))))))))
theorem dshow_sieve (C : Cm fa fn tb K mg base) (CD : obsX td K = valX td w) (Dshow_part : DefK P w K mg base 9 "show_part" ["part"] [] (mshow_part 8) kshow_part) : DefK P w K mg base 10 "show_sieve" ["sieve"] [] mshow_sieve kshow_sieve := by
  obtain ⟨fd, F⟩ := C.says.def_ 4 (d := ddshow_sieve) rfl
  exact ⟨_, fd, C.glo 44, fng_of (N := nshow_sieve) (k := 9) F sshow_sieve rfl rfl (by decide) fun cd A outer s H E hr g => bshow_sieve C CD Dshow_part hr g, F.bindsN fun _ _ _ _ _ _ us hl => match us, hl with | [_], _ => rfl, F.kp, fun q hq => by
    rcases List.mem_cons.mp hq with rfl | hq
    · exact kb_of F fun _ _ _ _ _ _ us ws h1 h2 => match us, ws, h1, h2 with | [], [_], _, _ => rfl
    cases hq⟩
theorem sNoText___init__ : FnScope nNoText___init__ ["self", "line"] (defScope (inClass (top 23) 0)) := ⟨rfl, rfl, rfl, by decide +kernel, rfl, by decide +kernel, by decide +kernel⟩
theorem dNoText___init__ (C : Cm fa fn tb K mg base) : ExF P w K mg base "NoText" "line" := by
  obtain ⟨fd, F⟩ := C.says.def_ 5 (d := ddNoText___init__) rfl
  exact exf_of C 3 7 23 65 F sNoText___init__ (F.bindsN fun _ _ _ _ _ _ us hl => match us, hl with | [_, _], _ => rfl) rfl (.inl rfl) (.inl rfl) (by decide) (by decide) (by decide) (by decide) (fun _ _ _ _ _ _ => rfl)
theorem sneed : FnScope nneed ["truth"] (defScope (top 38)) := ⟨rfl, rfl, rfl, by decide +kernel, rfl, by decide +kernel, by decide +kernel⟩
theorem bneed (C : Cm fa fn tb K mg base) (CD : obsX td K = valX td w) (DNoText___init__ : ExF P w K mg base "NoText" "line") {f : Addr} {cd : Value} {A : Around} {outer : List Env} {s : Shared} {H : Hp} {E : XK} (hr : Room (2) (CxF P w K mg base nneed "need" (defScope (top 38)) f cd A outer s H E).A) (g : Gd (CxF P w K mg base nneed "need" (defScope (top 38)) f cd A outer s H E)) :
    SDs (CxF P w K mg base nneed "need" (defScope (top 38)) f cd A outer s H E) (WF E) [] (defBody (top 38)) (M.ifS (M.not (M.trt (M.rd 0)))
  (M.raiseF "NoText" "line" (M.pure (.int 0)))
  M.skip) :=
  have nd : nneed.Nodup := sneed.nd
  (sds_one (sd_if (td_not (td_trt (ed_var 0)))
  (sds_one (sd_raiseF DNoText___init__ hr (by omega) rfl (takesF rfl) ed_int))
  sds_nil))
theorem dneed (C : Cm fa fn tb K mg base) (CD : obsX td K = valX td w) (DNoText___init__ : ExF P w K mg base "NoText" "line") : DefK P w K mg base 3 "need" ["truth"] [] mneed kneed := by
  obtain ⟨fd, F⟩ := C.says.def_ 6 (d := ddneed) rfl
  exact ⟨_, fd, C.glo 45, fng_of (N := nneed) (k := 2) F sneed rfl rfl (by decide) fun cd A outer s H E hr g => bneed C CD DNoText___init__ hr g, F.bindsN fun _ _ _ _ _ _ us hl => match us, hl with | [_], _ => rfl, F.kp, fun q hq => nomatch hq⟩
theorem snumber_in : FnScope nnumber_in ["word"] (defScope (top 39)) := ⟨rfl, rfl, rfl, by decide +kernel, rfl, by decide +kernel, by decide +kernel⟩
theorem bnumber_in (C : Cm fa fn tb K mg base) (CD : obsX td K = valX td w) (Dneed : DefK P w K mg base 3 "need" ["truth"] [] mneed kneed) {f : Addr} {cd : Value} {A : Around} {outer : List Env} {s : Shared} {H : Hp} {E : XK} (hr : Room (3) (CxF P w K mg base nnumber_in "number_in" (defScope (top 39)) f cd A outer s H E).A) (g : Gd (CxF P w K mg base nnumber_in "number_in" (defScope (top 39)) f cd A outer s H E)) :
    SDs (CxF P w K mg base nnumber_in "number_in" (defScope (top 39)) f cd A outer s H E) (WF E) [] (defBody (top 39)) (M.seq (M.set 1 (M.own (M.ite (M.tru (M.op2 eqD (M.slice (M.rd 0) M.noEnd (M.anEnd (M.pure (.int 1)))) (M.pure (.str "-")))) (M.slice (M.rd 0) (M.anEnd (M.pure (.int 1))) M.noEnd) (M.rd 0))))
  (M.seq (M.drop (M.frz (M.call mneed (M.aV (M.andV (M.chain leD leD (M.pure (.int 1)) (M.opL (one lenD) (M.cons (M.rd 1) M.nil)) (M.pure (.int 30))) (M.opL (one allD) (M.cons (M.frz (M.lc (M.items (M.rd 1)) (gNameD 2) [2] (M.pure true) (M.op2 inX (M.rd 2) (M.pure (.str "0123456789"))))) M.nil))) M.aNil))))
  (M.seq (M.drop (M.frz (M.call mneed (M.aV (M.op2 eqD (M.opL (one strB) (M.cons (M.opL (one intXD) (M.cons (M.rd 0) M.nil)) M.nil)) (M.rd 0)) M.aNil))))
  (M.ret (M.own (M.opL (one intXD) (M.cons (M.rd 0) M.nil))))))) :=
  have nd : nnumber_in.Nodup := snumber_in.nd
  (sds_cons (sd_set 1 nd (by decide) (eo_of (ed_if (td_eq g (u65 hr) (ed_slice (ed_var 0) pd_none (pd_some ed_int)) ed_str) (ed_slice (ed_var 0) (pd_some ed_int) pd_none) (ed_var 0))))
  (sds_cons (sd_expr (ed_frz (eo_def Dneed g hr (takesF rfl) (aa_v (ed_and (ed_chain (op_le) opd_le (op_le) opd_le ed_int (ed_callB call_lenP cd_len rfl (C.free 26) (by decide +kernel) (ad_cons (ed_var 1) ad_nil)) (ed_gint (C.int 27))) (ed_one (ed_callB (cr_all rfl) cd_all rfl (C.free 25) (by decide +kernel) (ad_cons (ed_frz (eo_lc [("sign", 2)] rfl nd (id_any (ed_var 1)) (blkOk_by (by show blkC nnumber_in (defScope (top 39)) _ _ = true; decide +kernel)) (by decide) (fun _ _ _ _ _ => (gv_name 2 nd (by decide) (by decide))) (fun _ _ _ _ _ => tds_nil) (fun _ _ _ _ _ => (ed_in (Gd.blk g) (u65 hr) (ed_var 2) (ed_gstr (C.str 24)))))) ad_nil)))) aa_nil) (by omega))))
  (sds_cons (sd_expr (ed_frz (eo_def Dneed g hr (takesF rfl) (aa_v (ed_eq g (u65 hr) (ed_callTy call_strIB cd_strB rfl (C.free 0) (by decide +kernel) (ad_cons (ed_callTy call_intX cd_intX rfl (C.free 28) (by decide +kernel) (ad_cons (ed_var 0) ad_nil)) ad_nil)) (ed_var 0)) aa_nil) (by omega))))
  (sds_one (sd_ret (eo_of (ed_callTy call_intX cd_intX rfl (C.free 28) (by decide +kernel) (ad_cons (ed_var 0) ad_nil))))))))
theorem dnumber_in (C : Cm fa fn tb K mg base) (CD : obsX td K = valX td w) (Dneed : DefK P w K mg base 3 "need" ["truth"] [] mneed kneed) : DefK P w K mg base 4 "number_in" ["word"] [] mnumber_in knumber_in := by
  obtain ⟨fd, F⟩ := C.says.def_ 7 (d := ddnumber_in) rfl
  exact ⟨_, fd, C.glo 46, fng_of (N := nnumber_in) (k := 3) F snumber_in rfl rfl (by decide) fun cd A outer s H E hr g => bnumber_in C CD Dneed hr g, F.bindsN fun _ _ _ _ _ _ us hl => match us, hl with | [_], _ => rfl, F.kp, fun q hq => nomatch hq⟩
theorem sis_name : FnScope nis_name ["thing"] (defScope (top 32)) := ⟨rfl, rfl, rfl, by decide +kernel, rfl, by decide +kernel, by decide +kernel⟩
theorem bis_name (C : Cm fa fn tb K mg base) (CD : obsX td K = valX td w) {f : Addr} {cd : Value} {A : Around} {outer : List Env} {s : Shared} {H : Hp} {E : XK} (hr : Room (0) (CxF P w K mg base nis_name "is_name" (defScope (top 32)) f cd A outer s H E).A) (g : Gd (CxF P w K mg base nis_name "is_name" (defScope (top 32)) f cd A outer s H E)) :
    SDs (CxF P w K mg base nis_name "is_name" (defScope (top 32)) f cd A outer s H E) (WF E) [] (defBody (top 32)) (M.ret (M.own (M.andV (M.isi "str" (M.rd 0)) (M.andV (M.chain leD leD (M.pure (.int 1)) (M.opL (one lenD) (M.cons (M.rd 0) M.nil)) (M.pure (.int 8))) (M.opL (one allD) (M.cons (M.frz (M.lc (M.items (M.rd 0)) (gNameD 1) [1] (M.pure true) (M.op2 inX (M.rd 1) (M.pure (.str "abcdefghijklmnopqrstuvwxyz"))))) M.nil)))))) :=
  have nd : nis_name.Nodup := sis_name.nd
  (sds_one (sd_ret (eo_of (ed_and (ed_isi isA_str (by decide +kernel) rfl (C.free 14) rfl (C.free 0) (ed_var 0)) (ed_and (ed_chain (op_le) opd_le (op_le) opd_le ed_int (ed_callB call_lenP cd_len rfl (C.free 26) (by decide +kernel) (ad_cons (ed_var 0) ad_nil)) (ed_gint (C.int 30))) (ed_one (ed_callB (cr_all rfl) cd_all rfl (C.free 25) (by decide +kernel) (ad_cons (ed_frz (eo_lc [("sign", 1)] rfl nd (id_any (ed_var 0)) (blkOk_by (by show blkC nis_name (defScope (top 32)) _ _ = true; decide +kernel)) (by decide) (fun _ _ _ _ _ => (gv_name 1 nd (by decide) (by decide))) (fun _ _ _ _ _ => tds_nil) (fun _ _ _ _ _ => (ed_in (Gd.blk g) (u65 hr) (ed_var 1) (ed_gstr (C.str 29)))))) ad_nil))))))))
theorem dis_name (C : Cm fa fn tb K mg base) (CD : obsX td K = valX td w) : DefK P w K mg base 1 "is_name" ["thing"] [] mis_name kis_name := by
  obtain ⟨fd, F⟩ := C.says.def_ 8 (d := ddis_name) rfl
  exact ⟨_, fd, C.glo 47, fng_of (N := nis_name) (k := 0) F sis_name rfl rfl (by decide) fun cd A outer s H E hr g => bis_name C CD hr g, F.bindsN fun _ _ _ _ _ _ us hl => match us, hl with | [_], _ => rfl, F.kp, fun q hq => nomatch hq⟩
theorem sleaf_in : FnScope nleaf_in ["word"] (defScope (top 40)) := ⟨rfl, rfl, rfl, by decide +kernel, rfl, by decide +kernel, by decide +kernel⟩
theorem bleaf_in (C : Cm fa fn tb K mg base) (CD : obsX td K = valX td w) (Dnumber_in : DefK P w K mg base 4 "number_in" ["word"] [] mnumber_in knumber_in) (Dis_name : DefK P w K mg base 1 "is_name" ["thing"] [] mis_name kis_name) {f : Addr} {cd : Value} {A : Around} {outer : List Env} {s : Shared} {H : Hp} {E : XK} (hr : Room (4) (CxF P w K mg base nleaf_in "leaf_in" (defScope (top 40)) f cd A outer s H E).A) (g : Gd (CxF P w K mg base nleaf_in "leaf_in" (defScope (top 40)) f cd A outer s H E)) :
    SDs (CxF P w K mg base nleaf_in "leaf_in" (defScope (top 40)) f cd A outer s H E) (WF E) [] (defBody (top 40)) (M.seq (M.set 1 (M.own (M.sm splitD (M.rd 0) (M.pure (.str ".")))))
  (M.seq (M.ifS (M.and (M.tru (M.op2 eqD (M.opL (one lenD) (M.cons (M.rd 1) M.nil)) (M.pure (.int 2)))) (M.trt (M.opL (one allD) (M.cons (M.frz (M.lc (M.items (M.rd 1)) (gNameD 2) [2] (M.pure true) (M.frz (M.call mis_name (M.aV (M.rd 2) M.aNil))))) M.nil))))
  (M.ret (M.own (M.op2 addB (M.tup (M.cons (M.pure (.str "cell")) M.nil)) (M.opL (one tupleD) (M.cons (M.rd 1) M.nil)))))
  M.skip)
  (M.ret (M.own (M.tup (M.cons (M.pure (.str "number")) (M.cons (M.frz (M.call mnumber_in (M.aV (M.rd 0) M.aNil))) M.nil))))))) :=
  have nd : nleaf_in.Nodup := sleaf_in.nd
  (sds_cons (sd_set 1 nd (by decide) (eo_of (ed_split (ed_var 0) ed_str)))
  (sds_cons (sd_if (td_w (wd_and (td_eq g (u65 hr) (ed_callB call_lenP cd_len rfl (C.free 26) (by decide +kernel) (ad_cons (ed_var 1) ad_nil)) ed_int) (wd_and1 (td_trt (ed_callB (cr_all rfl) cd_all rfl (C.free 25) (by decide +kernel) (ad_cons (ed_frz (eo_lc [("name", 2)] rfl nd (id_any (ed_var 1)) (blkOk_by (by show blkC nleaf_in (defScope (top 40)) _ _ = true; decide +kernel)) (by decide) (fun _ _ _ _ _ => (gv_name 2 nd (by decide) (by decide))) (fun _ _ _ _ _ => tds_nil) (fun _ _ _ _ _ => (ed_frz (eo_def Dis_name (Gd.blk g) hr takesW0 (aa_v (ed_var 2) aa_nil) (by omega)))))) ad_nil))))))
  (sds_one (sd_ret (eo_of (ed_addB (ed_tup (ad_cons ed_str ad_nil)) (ed_callTy call_tuple_of cd_tuple rfl (C.free 31) (by decide +kernel) (ad_cons (ed_var 1) ad_nil))))))
  sds_nil)
  (sds_one (sd_ret (eo_of (ed_tup (ad_cons ed_str (ad_cons (ed_frz (eo_def Dnumber_in g hr (takesF rfl) (aa_v (ed_var 0) aa_nil) (by omega))) ad_nil))))))))
theorem dleaf_in (C : Cm fa fn tb K mg base) (CD : obsX td K = valX td w) (Dnumber_in : DefK P w K mg base 4 "number_in" ["word"] [] mnumber_in knumber_in) (Dis_name : DefK P w K mg base 1 "is_name" ["thing"] [] mis_name kis_name) : DefK P w K mg base 5 "leaf_in" ["word"] [] mleaf_in kleaf_in := by
  obtain ⟨fd, F⟩ := C.says.def_ 9 (d := ddleaf_in) rfl
  exact ⟨_, fd, C.glo 48, fng_of (N := nleaf_in) (k := 4) F sleaf_in rfl rfl (by decide) fun cd A outer s H E hr g => bleaf_in C CD Dnumber_in Dis_name hr g, F.bindsN fun _ _ _ _ _ _ us hl => match us, hl with | [_], _ => rfl, F.kp, fun q hq => nomatch hq⟩
theorem spart_at : FnScope npart_at ["text", "at", "deep"] (defScope (top 41)) := ⟨rfl, rfl, rfl, by decide +kernel, rfl, by decide +kernel, by decide +kernel⟩
theorem bpart_at {n : Nat} (C : Cm fa fn tb K mg base) (CD : obsX td K = valX td w) (Dneed : DefK P w K mg base 3 "need" ["truth"] [] mneed kneed) (Dleaf_in : DefK P w K mg base 5 "leaf_in" ["word"] [] mleaf_in kleaf_in) (Dpart_at : DefK P w K mg base (6 + n) "part_at" ["text", "at", "deep"] [] (mpart_at n) kpart_at) {f : Addr} {cd : Value} {A : Around} {outer : List Env} {s : Shared} {H : Hp} {E : XK} (hr : Room (6 + n) (CxF P w K mg base npart_at "part_at" (defScope (top 41)) f cd A outer s H E).A) (g : Gd (CxF P w K mg base npart_at "part_at" (defScope (top 41)) f cd A outer s H E)) :
    SDs (CxF P w K mg base npart_at "part_at" (defScope (top 41)) f cd A outer s H E) (WF E) [] (defBody (top 41)) (M.seq (M.drop (M.frz (M.call mneed (M.aV (M.op2 gtD (M.rd 2) (M.pure (.int 0))) M.aNil))))
  (M.seq (M.ifS (M.tru (M.op2 eqD (M.slice (M.rd 0) (M.anEnd (M.rd 1)) (M.anEnd (M.op2 addB (M.rd 1) (M.pure (.int 1))))) (M.pure (.str "("))))
  (M.seq (M.asgT (M.frz (M.call (mpart_at n) (M.aV (M.rd 0) (M.aV (M.op2 addB (M.rd 1) (M.pure (.int 1))) (M.aV (M.op2 subB (M.rd 2) (M.pure (.int 1))) M.aNil))))) (gTupE 2 (gConsD (gNameD 3) (gConsD (gNameD 1) gNilD))))
  (M.seq (M.set 4 (M.lc (M.pure ((([("plus", .str "+"), ("less", .str "-"), ("times", .str "*"), ("over", .str "/")]) : List (Str × PyData)).map fun p => PyData.tuple [.str p.1, p.2])) (gTupE 2 (gConsD (gNameD 7) (gConsD (gNameD 8) gNilD))) [7, 8] (M.tru (M.op2 eqD (M.slice (M.rd 0) (M.anEnd (M.rd 1)) (M.anEnd (M.op2 addB (M.rd 1) (M.pure (.int 3))))) (M.fj [(M.pure (.str " ")), (M.op1 fmtD (M.rd 8)), (M.pure (.str " "))] Str.empty))) (M.rd 7)))
  (M.seq (M.drop (M.frz (M.call mneed (M.aV (M.op2 neL (M.rd 4) (M.frz (M.lst M.nil))) M.aNil))))
  (M.seq (M.asgT (M.frz (M.call (mpart_at n) (M.aV (M.rd 0) (M.aV (M.op2 addB (M.rd 1) (M.pure (.int 3))) (M.aV (M.op2 subB (M.rd 2) (M.pure (.int 1))) M.aNil))))) (gTupE 2 (gConsD (gNameD 5) (gConsD (gNameD 1) gNilD))))
  (M.seq (M.drop (M.frz (M.call mneed (M.aV (M.op2 eqD (M.slice (M.rd 0) (M.anEnd (M.rd 1)) (M.anEnd (M.op2 addB (M.rd 1) (M.pure (.int 1))))) (M.pure (.str ")"))) M.aNil))))
  (M.ret (M.own (M.tup (M.cons (M.tup (M.cons (M.op2 itemD (M.rd 4) (M.pure (.int 0))) (M.cons (M.rd 3) (M.cons (M.rd 5) M.nil)))) (M.cons (M.op2 addB (M.rd 1) (M.pure (.int 1))) M.nil))))))))))
  M.skip)
  (M.seq (M.set 6 (M.own (M.rd 1)))
  (M.seq (whileL (M.and (M.tru (M.op2 ltD (M.rd 6) (M.opL (one lenD) (M.cons (M.rd 0) M.nil)))) (M.tru (M.op2 ninX (M.op2 itemD (M.rd 0) (M.rd 6)) (M.pure (.str " ()")))))
  (M.augN 6 addI (M.pure (.int 1))) 100)
  (M.ret (M.own (M.tup (M.cons (M.frz (M.call mleaf_in (M.aV (M.slice (M.rd 0) (M.anEnd (M.rd 1)) (M.anEnd (M.rd 6))) M.aNil))) (M.cons (M.rd 6) M.nil))))))))) :=
  have nd : npart_at.Nodup := spart_at.nd
  (sds_cons (sd_expr (ed_frz (eo_def Dneed g hr (takesF rfl) (aa_v (ed_gt (ed_var 2) ed_int) aa_nil) (by omega))))
  (sds_cons (sd_if (td_eq g (u65 hr) (ed_slice (ed_var 0) (pd_some (ed_var 1)) (pd_some (ed_addB (ed_var 1) ed_int))) ed_str)
  (sds_cons (sd_asgT (is := [3, 1]) (ed_frz (eo_def Dpart_at g hr (takesF rfl) (aa_v (ed_var 0) (aa_v (ed_addB (ed_var 1) ed_int) (aa_v (ed_subB (ed_var 2) ed_int) aa_nil))) (by omega))) (gv_tup rfl (gvs_cons (gv_name 3 nd (by decide) (by decide)) (gvs_cons (gv_name 1 nd (by decide) (by decide)) gvs_nil))))
  (sds_cons (sd_setLc 4 [("word", 7), ("sign", 8)] rfl nd (by decide) (id_itemsMod (l := [("plus", .str "+"), ("less", .str "-"), ("times", .str "*"), ("over", .str "/")]) (tabX_of C.kin C.ns CD 0) rfl) (blkOk_by (by show blkC npart_at (defScope (top 41)) _ _ = true; decide +kernel)) (by decide) (fun _ _ _ _ _ => (gv_tup rfl (gvs_cons (gv_name 7 nd (by decide) (by decide)) (gvs_cons (gv_name 8 nd (by decide) (by decide)) gvs_nil)))) (fun _ _ _ _ _ => (tds_one (td_eq (Gd.blk g) (u65 hr) (ed_slice (ed_var 0) (pd_some (ed_var 1)) (pd_some (ed_addB (ed_var 1) ed_int))) (ed_fstr (fj_cons ed_str (fj_cons (ed_fmt (ed_var 8)) (fj_cons ed_str fj_nil))))))) (fun _ _ _ _ _ => (ed_var 7)) (sw_true rfl rfl rfl rfl))
  (sds_cons (sd_expr (ed_frz (eo_def Dneed g hr (takesF rfl) (aa_v (ed_neX g (u65 hr) (ed_var 4) (ed_frz (eo_lst ad_nil))) aa_nil) (by omega))))
  (sds_cons (sd_asgT (is := [5, 1]) (ed_frz (eo_def Dpart_at g hr (takesF rfl) (aa_v (ed_var 0) (aa_v (ed_addB (ed_var 1) ed_int) (aa_v (ed_subB (ed_var 2) ed_int) aa_nil))) (by omega))) (gv_tup rfl (gvs_cons (gv_name 5 nd (by decide) (by decide)) (gvs_cons (gv_name 1 nd (by decide) (by decide)) gvs_nil))))
  (sds_cons (sd_expr (ed_frz (eo_def Dneed g hr (takesF rfl) (aa_v (ed_eq g (u65 hr) (ed_slice (ed_var 0) (pd_some (ed_var 1)) (pd_some (ed_addB (ed_var 1) ed_int))) ed_str) aa_nil) (by omega))))
  (sds_one (sd_ret (eo_of (ed_tup (ad_cons (ed_tup (ad_cons (ed_ix (u65 hr) (ed_var 4) ed_int) (ad_cons (ed_var 3) (ad_cons (ed_var 5) ad_nil)))) (ad_cons (ed_addB (ed_var 1) ed_int) ad_nil)))))))))))
  sds_nil)
  (sds_cons (sd_set 6 nd (by decide) (eo_of (ed_var 1)))
  (sds_cons (sd_while 100 passF (td_w (wd_and (td_lt (ed_var 6) (ed_callB call_lenP cd_len rfl (C.free 26) (by decide +kernel) (ad_cons (ed_var 0) ad_nil))) (wd_and1 (td_nin g (u65 hr) (ed_ix (u65 hr) (ed_var 0) (ed_var 6)) ed_str))))
  (sds_one (sd_augN 6 nd (by decide) iop_add opd_addI ed_int)))
  (sds_one (sd_ret (eo_of (ed_tup (ad_cons (ed_frz (eo_def Dleaf_in g hr (takesF rfl) (aa_v (ed_slice (ed_var 0) (pd_some (ed_var 1)) (pd_some (ed_var 6))) aa_nil) (by omega))) (ad_cons (ed_var 6) ad_nil))))))))))
theorem dpart_at (C : Cm fa fn tb K mg base) (CD : obsX td K = valX td w) (Dneed : DefK P w K mg base 3 "need" ["truth"] [] mneed kneed) (Dleaf_in : DefK P w K mg base 5 "leaf_in" ["word"] [] mleaf_in kleaf_in) : ∀ n, DefK P w K mg base (6 + n) "part_at" ["text", "at", "deep"] [] (mpart_at n) kpart_at
  | 0 => by
    obtain ⟨fd, F⟩ := C.says.def_ 10 (d := ddpart_at) rfl
    exact ⟨_, fd, C.glo 49, fng_fail (by decide), F.bindsN fun _ _ _ _ _ _ us hl => match us, hl with | [_, _, _], _ => rfl, F.kp, fun q hq => nomatch hq⟩
  | n + 1 => by
    obtain ⟨fd, F⟩ := C.says.def_ 10 (d := ddpart_at) rfl
    exact ⟨_, fd, C.glo 49, fng_of (N := npart_at) F spart_at rfl rfl (by decide) fun cd A outer s H E hr g => bpart_at C CD Dneed Dleaf_in (dpart_at C CD Dneed Dleaf_in n) hr g, F.bindsN fun _ _ _ _ _ _ us hl => match us, hl with | [_, _, _], _ => rfl, F.kp, fun q hq => nomatch hq⟩
theorem sinner_parts : FnScope ninner_parts ["part"] (defScope (top 33)) := ⟨rfl, rfl, rfl, by decide +kernel, rfl, by decide +kernel, by decide +kernel⟩
theorem binner_parts (C : Cm fa fn tb K mg base) (CD : obsX td K = valX td w) {f : Addr} {cd : Value} {A : Around} {outer : List Env} {s : Shared} {H : Hp} {E : XK} (hr : Room (0) (CxF P w K mg base ninner_parts "inner_parts" (defScope (top 33)) f cd A outer s H E).A) (g : Gd (CxF P w K mg base ninner_parts "inner_parts" (defScope (top 33)) f cd A outer s H E)) :
    SDs (CxF P w K mg base ninner_parts "inner_parts" (defScope (top 33)) f cd A outer s H E) (WF E) [] (defBody (top 33)) (M.ret (M.own (M.ite (M.tru (M.op1 (strIn ["plus", "less", "times", "over"]) (M.op2 itemD (M.rd 0) (M.pure (.int 0))))) (M.slice (M.rd 0) (M.anEnd (M.pure (.int 1))) M.noEnd) (M.tup M.nil)))) :=
  have nd : ninner_parts.Nodup := sinner_parts.nd
  (sds_one (sd_ret (eo_of (ed_if (td_inT (C.tup 6 (zs := ["plus", "less", "times", "over"])) (ed_ix (u65 hr) (ed_var 0) ed_int)) (ed_slice (ed_var 0) (pd_some ed_int) pd_none) (ed_tup ad_nil)))))
theorem dinner_parts (C : Cm fa fn tb K mg base) (CD : obsX td K = valX td w) : DefK P w K mg base 1 "inner_parts" ["part"] [] minner_parts kinner_parts := by
  obtain ⟨fd, F⟩ := C.says.def_ 11 (d := ddinner_parts) rfl
  exact ⟨_, fd, C.glo 50, fng_of (N := ninner_parts) (k := 0) F sinner_parts rfl rfl (by decide) fun cd A outer s H E hr g => binner_parts C CD hr g, F.bindsN fun _ _ _ _ _ _ us hl => match us, hl with | [_], _ => rfl, F.kp, fun q hq => nomatch hq⟩
theorem show_many_parts : FnScope nhow_many_parts ["part"] (defScope (top 34)) := ⟨rfl, rfl, rfl, by decide +kernel, rfl, by decide +kernel, by decide +kernel⟩
theorem bhow_many_parts {n : Nat} (C : Cm fa fn tb K mg base) (CD : obsX td K = valX td w) (Dinner_parts : DefK P w K mg base 1 "inner_parts" ["part"] [] minner_parts kinner_parts) (Dhow_many_parts : DefK P w K mg base (2 + n) "how_many_parts" ["part"] [] (mhow_many_parts n) khow_many_parts) {f : Addr} {cd : Value} {A : Around} {outer : List Env} {s : Shared} {H : Hp} {E : XK} (hr : Room (2 + n) (CxF P w K mg base nhow_many_parts "how_many_parts" (defScope (top 34)) f cd A outer s H E).A) (g : Gd (CxF P w K mg base nhow_many_parts "how_many_parts" (defScope (top 34)) f cd A outer s H E)) :
    SDs (CxF P w K mg base nhow_many_parts "how_many_parts" (defScope (top 34)) f cd A outer s H E) (WF E) [] (defBody (top 34)) (M.ret (M.own (M.op2 addB (M.pure (.int 1)) (M.opL (one sumD) (M.cons (M.frz (M.lc (M.items (M.frz (M.call minner_parts (M.aV (M.rd 0) M.aNil)))) (gNameD 1) [1] (M.pure true) (M.frz (M.call (mhow_many_parts n) (M.aV (M.rd 1) M.aNil))))) M.nil))))) :=
  have nd : nhow_many_parts.Nodup := show_many_parts.nd
  (sds_one (sd_ret (eo_of (ed_addB ed_int (ed_callB (cr_sum rfl) cd_sum rfl (C.free 32) (by decide +kernel) (ad_cons (ed_frz (eo_lc [("one", 1)] rfl nd (id_any (ed_frz (eo_def Dinner_parts g hr (takesF rfl) (aa_v (ed_var 0) aa_nil) (by omega)))) (blkOk_by (by show blkC nhow_many_parts (defScope (top 34)) _ _ = true; decide +kernel)) (by decide) (fun _ _ _ _ _ => (gv_name 1 nd (by decide) (by decide))) (fun _ _ _ _ _ => tds_nil) (fun _ _ _ _ _ => (ed_frz (eo_def Dhow_many_parts (Gd.blk g) hr takesW0 (aa_v (ed_var 1) aa_nil) (by omega)))))) ad_nil))))))
theorem dhow_many_parts (C : Cm fa fn tb K mg base) (CD : obsX td K = valX td w) (Dinner_parts : DefK P w K mg base 1 "inner_parts" ["part"] [] minner_parts kinner_parts) : ∀ n, DefK P w K mg base (2 + n) "how_many_parts" ["part"] [] (mhow_many_parts n) khow_many_parts
  | 0 => by
    obtain ⟨fd, F⟩ := C.says.def_ 12 (d := ddhow_many_parts) rfl
    exact ⟨_, fd, C.glo 51, fng_fail (by decide), F.bindsN fun _ _ _ _ _ _ us hl => match us, hl with | [_], _ => rfl, F.kp, fun q hq => nomatch hq⟩
  | n + 1 => by
    obtain ⟨fd, F⟩ := C.says.def_ 12 (d := ddhow_many_parts) rfl
    exact ⟨_, fd, C.glo 51, fng_of (N := nhow_many_parts) F show_many_parts rfl rfl (by decide) fun cd A outer s H E hr g => bhow_many_parts C CD Dinner_parts (dhow_many_parts C CD Dinner_parts n) hr g, F.bindsN fun _ _ _ _ _ _ us hl => match us, hl with | [_], _ => rfl, F.kp, fun q hq => nomatch hq⟩
theorem swhole_part : FnScope nwhole_part ["text"] (defScope (top 42)) := ⟨rfl, rfl, rfl, by decide +kernel, rfl, by decide +kernel, by decide +kernel⟩
theorem bwhole_part (C : Cm fa fn tb K mg base) (CD : obsX td K = valX td w) (Dpart_at : DefK P w K mg base 14 "part_at" ["text", "at", "deep"] [] (mpart_at 8) kpart_at) (Dneed : DefK P w K mg base 3 "need" ["truth"] [] mneed kneed) (Dhow_many_parts : DefK P w K mg base 10 "how_many_parts" ["part"] [] (mhow_many_parts 8) khow_many_parts) {f : Addr} {cd : Value} {A : Around} {outer : List Env} {s : Shared} {H : Hp} {E : XK} (hr : Room (14) (CxF P w K mg base nwhole_part "whole_part" (defScope (top 42)) f cd A outer s H E).A) (g : Gd (CxF P w K mg base nwhole_part "whole_part" (defScope (top 42)) f cd A outer s H E)) :
    SDs (CxF P w K mg base nwhole_part "whole_part" (defScope (top 42)) f cd A outer s H E) (WF E) [] (defBody (top 42)) (M.seq (M.asgT (M.frz (M.call (mpart_at 8) (M.aV (M.rd 0) (M.aV (M.pure (.int 0)) (M.aV (M.pure (.int 5)) M.aNil))))) (gTupE 2 (gConsD (gNameD 1) (gConsD (gNameD 2) gNilD))))
  (M.seq (M.drop (M.frz (M.call mneed (M.aV (M.andV (M.op2 eqD (M.rd 2) (M.opL (one lenD) (M.cons (M.rd 0) M.nil))) (M.op2 leD (M.frz (M.call (mhow_many_parts 8) (M.aV (M.rd 1) M.aNil))) (M.pure (.int 15)))) M.aNil))))
  (M.ret (M.own (M.rd 1))))) :=
  have nd : nwhole_part.Nodup := swhole_part.nd
  (sds_cons (sd_asgT (is := [1, 2]) (ed_frz (eo_def Dpart_at g hr (takesF rfl) (aa_v (ed_var 0) (aa_v ed_int (aa_v (ed_gint (C.int 33)) aa_nil))) (by omega))) (gv_tup rfl (gvs_cons (gv_name 1 nd (by decide) (by decide)) (gvs_cons (gv_name 2 nd (by decide) (by decide)) gvs_nil))))
  (sds_cons (sd_expr (ed_frz (eo_def Dneed g hr (takesF rfl) (aa_v (ed_and (ed_eq g (u65 hr) (ed_var 2) (ed_callB call_lenP cd_len rfl (C.free 26) (by decide +kernel) (ad_cons (ed_var 0) ad_nil))) (ed_one (ed_le (ed_frz (eo_def Dhow_many_parts g hr (takesF rfl) (aa_v (ed_var 1) aa_nil) (by omega))) (ed_gint (C.int 34))))) aa_nil) (by omega))))
  (sds_one (sd_ret (eo_of (ed_var 1))))))
theorem dwhole_part (C : Cm fa fn tb K mg base) (CD : obsX td K = valX td w) (Dpart_at : DefK P w K mg base 14 "part_at" ["text", "at", "deep"] [] (mpart_at 8) kpart_at) (Dneed : DefK P w K mg base 3 "need" ["truth"] [] mneed kneed) (Dhow_many_parts : DefK P w K mg base 10 "how_many_parts" ["part"] [] (mhow_many_parts 8) khow_many_parts) : DefK P w K mg base 15 "whole_part" ["text"] [] mwhole_part kwhole_part := by
  obtain ⟨fd, F⟩ := C.says.def_ 13 (d := ddwhole_part) rfl
  exact ⟨_, fd, C.glo 52, fng_of (N := nwhole_part) (k := 14) F swhole_part rfl rfl (by decide) fun cd A outer s H E hr g => bwhole_part C CD Dpart_at Dneed Dhow_many_parts hr g, F.bindsN fun _ _ _ _ _ _ us hl => match us, hl with | [_], _ => rfl, F.kp, fun q hq => nomatch hq⟩
theorem sread_part : FnScope nread_part ["text"] (defScope (top 44)) := ⟨rfl, rfl, rfl, by decide +kernel, rfl, by decide +kernel, by decide +kernel⟩
theorem bread_part (C : Cm fa fn tb K mg base) (CD : obsX td K = valX td w) (Dneed : DefK P w K mg base 3 "need" ["truth"] [] mneed kneed) (Dwhole_part : DefK P w K mg base 15 "whole_part" ["text"] [] mwhole_part kwhole_part) {f : Addr} {cd : Value} {A : Around} {outer : List Env} {s : Shared} {H : Hp} {E : XK} (hr : Room (15) (CxF P w K mg base nread_part "read_part" (defScope (top 44)) f cd A outer s H E).A) (g : Gd (CxF P w K mg base nread_part "read_part" (defScope (top 44)) f cd A outer s H E)) :
    SDs (CxF P w K mg base nread_part "read_part" (defScope (top 44)) f cd A outer s H E) (WF E) [] (defBody (top 44)) (M.seq (M.drop (M.frz (M.call mneed (M.aV (M.isi "str" (M.rd 0)) M.aNil))))
  (M.ret (M.call mwhole_part (M.aV (M.rd 0) M.aNil)))) :=
  have nd : nread_part.Nodup := sread_part.nd
  (sds_cons (sd_expr (ed_frz (eo_def Dneed g hr (takesF rfl) (aa_v (ed_isi isA_str (by decide +kernel) rfl (C.free 14) rfl (C.free 0) (ed_var 0)) aa_nil) (by omega))))
  (sds_one (sd_ret (eo_def Dwhole_part g hr (takesF rfl) (aa_v (ed_var 0) aa_nil) (by omega)))))
theorem dread_part (C : Cm fa fn tb K mg base) (CD : obsX td K = valX td w) (Dneed : DefK P w K mg base 3 "need" ["truth"] [] mneed kneed) (Dwhole_part : DefK P w K mg base 15 "whole_part" ["text"] [] mwhole_part kwhole_part) : DefK P w K mg base 16 "read_part" ["text"] [] mread_part kread_part := by
  obtain ⟨fd, F⟩ := C.says.def_ 14 (d := ddread_part) rfl
  exact ⟨_, fd, C.glo 53, fng_of (N := nread_part) (k := 15) F sread_part rfl rfl (by decide) fun cd A outer s H E hr g => bread_part C CD Dneed Dwhole_part hr g, F.bindsN fun _ _ _ _ _ _ us hl => match us, hl with | [_], _ => rfl, F.kp, fun q hq => by
    rcases List.mem_cons.mp hq with rfl | hq
    · exact kb_of F fun _ _ _ _ _ _ us ws h1 h2 => match us, ws, h1, h2 with | [], [_], _, _ => rfl
    cases hq⟩
theorem swhole_sieve : FnScope nwhole_sieve ["text"] (defScope (top 43)) := ⟨rfl, rfl, rfl, by decide +kernel, rfl, by decide +kernel, by decide +kernel⟩
theorem bwhole_sieve (C : Cm fa fn tb K mg base) (CD : obsX td K = valX td w) (DNoText___init__ : ExF P w K mg base "NoText" "line") (Dwhole_part : DefK P w K mg base 15 "whole_part" ["text"] [] mwhole_part kwhole_part) {f : Addr} {cd : Value} {A : Around} {outer : List Env} {s : Shared} {H : Hp} {E : XK} (hr : Room (15) (CxF P w K mg base nwhole_sieve "whole_sieve" (defScope (top 43)) f cd A outer s H E).A) (g : Gd (CxF P w K mg base nwhole_sieve "whole_sieve" (defScope (top 43)) f cd A outer s H E)) :
    SDs (CxF P w K mg base nwhole_sieve "whole_sieve" (defScope (top 43)) f cd A outer s H E) (WF E) [] (defBody (top 43)) (M.seq (M.ifS (M.trt (M.sm startsD (M.rd 0) (M.pure (.str "lacking "))))
  (M.ret (M.own (M.tup (M.cons (M.pure (.str "lacking")) (M.cons (M.frz (M.call mwhole_part (M.aV (M.slice (M.rd 0) (M.anEnd (M.opL (one lenD) (M.cons (M.pure (.str "lacking ")) M.nil))) M.noEnd) M.aNil))) M.nil)))))
  M.skip)
  (M.seq (M.for (M.pure ((([("alike", .str "="), ("unlike", .str "#"), ("below", .str "<")]) : List (Str × PyData)).map fun p => PyData.tuple [.str p.1, p.2])) (gTupE 2 (gConsD (gNameD 1) (gConsD (gNameD 2) gNilD)))
  (M.seq (M.asgT (M.sm partiD (M.rd 0) (M.fj [(M.pure (.str " ")), (M.op1 fmtD (M.rd 2)), (M.pure (.str " "))] Str.empty)) (gTupE 3 (gConsD (gNameD 3) (gConsD (gNameD 4) (gConsD (gNameD 5) gNilD)))))
  (M.ifS (M.tru (M.op2 neD (M.rd 4) (M.pure (.str ""))))
  (M.ret (M.own (M.tup (M.cons (M.rd 1) (M.cons (M.frz (M.call mwhole_part (M.aV (M.rd 3) M.aNil))) (M.cons (M.frz (M.call mwhole_part (M.aV (M.rd 5) M.aNil))) M.nil))))))
  M.skip)))
  (M.raiseF "NoText" "line" (M.pure (.int 0))))) :=
  have nd : nwhole_sieve.Nodup := swhole_sieve.nd
  (sds_cons (sd_if (td_trt (ed_starts (ed_var 0) ed_str))
  (sds_one (sd_ret (eo_of (ed_tup (ad_cons ed_str (ad_cons (ed_frz (eo_def Dwhole_part g hr (takesF rfl) (aa_v (ed_slice (ed_var 0) (pd_some (ed_callB call_lenP cd_len rfl (C.free 26) (by decide +kernel) (ad_cons ed_str ad_nil))) pd_none) aa_nil) (by omega))) ad_nil))))))
  sds_nil)
  (sds_cons (sd_for passF rfl (id_itemsMod (l := [("alike", .str "="), ("unlike", .str "#"), ("below", .str "<")]) (tabX_of C.kin C.ns CD 1) rfl) (gv_gt (is := [1, 2]) (gv_tup rfl (gvs_cons (gv_name 1 nd (by decide) (by decide)) (gvs_cons (gv_name 2 nd (by decide) (by decide)) gvs_nil))))
  (sds_cons (sd_asgT (is := [3, 4, 5]) (ed_partition (ed_var 0) (ed_fstr (fj_cons ed_str (fj_cons (ed_fmt (ed_var 2)) (fj_cons ed_str fj_nil))))) (gv_tup rfl (gvs_cons (gv_name 3 nd (by decide) (by decide)) (gvs_cons (gv_name 4 nd (by decide) (by decide)) (gvs_cons (gv_name 5 nd (by decide) (by decide)) gvs_nil)))))
  (sds_one (sd_if (td_ne g (u65 hr) (ed_var 4) ed_str)
  (sds_one (sd_ret (eo_of (ed_tup (ad_cons (ed_var 1) (ad_cons (ed_frz (eo_def Dwhole_part g hr (takesF rfl) (aa_v (ed_var 3) aa_nil) (by omega))) (ad_cons (ed_frz (eo_def Dwhole_part g hr (takesF rfl) (aa_v (ed_var 5) aa_nil) (by omega))) ad_nil)))))))
  sds_nil))))
  (sds_one (sd_raiseF DNoText___init__ hr (by omega) rfl (takesF rfl) ed_int))))
theorem dwhole_sieve (C : Cm fa fn tb K mg base) (CD : obsX td K = valX td w) (DNoText___init__ : ExF P w K mg base "NoText" "line") (Dwhole_part : DefK P w K mg base 15 "whole_part" ["text"] [] mwhole_part kwhole_part) : DefK P w K mg base 16 "whole_sieve" ["text"] [] mwhole_sieve kwhole_sieve := by
  obtain ⟨fd, F⟩ := C.says.def_ 15 (d := ddwhole_sieve) rfl
  exact ⟨_, fd, C.glo 54, fng_of (N := nwhole_sieve) (k := 15) F swhole_sieve rfl rfl (by decide) fun cd A outer s H E hr g => bwhole_sieve C CD DNoText___init__ Dwhole_part hr g, F.bindsN fun _ _ _ _ _ _ us hl => match us, hl with | [_], _ => rfl, F.kp, fun q hq => nomatch hq⟩
theorem sread_sieve : FnScope nread_sieve ["text"] (defScope (top 45)) := ⟨rfl, rfl, rfl, by decide +kernel, rfl, by decide +kernel, by decide +kernel⟩
theorem bread_sieve (C : Cm fa fn tb K mg base) (CD : obsX td K = valX td w) (Dneed : DefK P w K mg base 3 "need" ["truth"] [] mneed kneed) (Dwhole_sieve : DefK P w K mg base 16 "whole_sieve" ["text"] [] mwhole_sieve kwhole_sieve) {f : Addr} {cd : Value} {A : Around} {outer : List Env} {s : Shared} {H : Hp} {E : XK} (hr : Room (16) (CxF P w K mg base nread_sieve "read_sieve" (defScope (top 45)) f cd A outer s H E).A) (g : Gd (CxF P w K mg base nread_sieve "read_sieve" (defScope (top 45)) f cd A outer s H E)) :
    SDs (CxF P w K mg base nread_sieve "read_sieve" (defScope (top 45)) f cd A outer s H E) (WF E) [] (defBody (top 45)) (M.seq (M.drop (M.frz (M.call mneed (M.aV (M.isi "str" (M.rd 0)) M.aNil))))
  (M.ret (M.call mwhole_sieve (M.aV (M.rd 0) M.aNil)))) :=
  have nd : nread_sieve.Nodup := sread_sieve.nd
  (sds_cons (sd_expr (ed_frz (eo_def Dneed g hr (takesF rfl) (aa_v (ed_isi isA_str (by decide +kernel) rfl (C.free 14) rfl (C.free 0) (ed_var 0)) aa_nil) (by omega))))
  (sds_one (sd_ret (eo_def Dwhole_sieve g hr (takesF rfl) (aa_v (ed_var 0) aa_nil) (by omega)))))
theorem dread_sieve (C : Cm fa fn tb K mg base) (CD : obsX td K = valX td w) (Dneed : DefK P w K mg base 3 "need" ["truth"] [] mneed kneed) (Dwhole_sieve : DefK P w K mg base 16 "whole_sieve" ["text"] [] mwhole_sieve kwhole_sieve) : DefK P w K mg base 17 "read_sieve" ["text"] [] mread_sieve kread_sieve := by
  obtain ⟨fd, F⟩ := C.says.def_ 16 (d := ddread_sieve) rfl
  exact ⟨_, fd, C.glo 55, fng_of (N := nread_sieve) (k := 16) F sread_sieve rfl rfl (by decide) fun cd A outer s H E hr g => bread_sieve C CD Dneed Dwhole_sieve hr g, F.bindsN fun _ _ _ _ _ _ us hl => match us, hl with | [_], _ => rfl, F.kp, fun q hq => by
    rcases List.mem_cons.mp hq with rfl | hq
    · exact kb_of F fun _ _ _ _ _ _ us ws h1 h2 => match us, ws, h1, h2 with | [], [_], _, _ => rfl
    cases hq⟩
theorem s_law_right : FnScope n_law_right ["_law_pieces", "_law_wires"] (defScope (top 57)) := ⟨rfl, rfl, rfl, by decide +kernel, rfl, by decide +kernel, by decide +kernel⟩
theorem b_law_right (C : Cm fa fn tb K mg base) (CD : obsX td K = valX td w) (D_law_shown : DefK P w K mg base 9 "_law_shown" ["_law_piece_here"] [] (m_law_shown 8) k_law_shown) (D_law_wire_shown : DefK P w K mg base 10 "_law_wire_shown" ["_law_wire_here"] [] m_law_wire_shown k_law_wire_shown) (Dshow_part : DefK P w K mg base 9 "show_part" ["part"] [] (mshow_part 8) kshow_part) (D_law_heard : HrdK K mg "_law_heard" "_law_ask_now" n_law_heard (defScope (top 56)) (defArgs (top 56)) (defBody (top 56))) (Dshow_sieve : DefK P w K mg base 10 "show_sieve" ["sieve"] [] mshow_sieve kshow_sieve) (Dread_part : DefK P w K mg base 16 "read_part" ["text"] [] mread_part kread_part) (Dread_sieve : DefK P w K mg base 17 "read_sieve" ["text"] [] mread_sieve kread_sieve) {f : Addr} {cd : Value} {A : Around} {outer : List Env} {s : Shared} {H : Hp} {E : XK} (LT : LamT K mg base cd "_law_right") (hr : Room (19) (CxF P w K mg base n_law_right "_law_right" (defScope (top 57)) f cd A outer s H E).A) (g : Gd (CxF P w K mg base n_law_right "_law_right" (defScope (top 57)) f cd A outer s H E)) :
    SDs (CxF P w K mg base n_law_right "_law_right" (defScope (top 57)) f cd A outer s H E) (WF E) [] (defBody (top 57)) (M.seq (M.for (M.items (M.rd 0)) (gNameD 2)
  (M.seq (M.set 3 (M.own (M.frz (M.call (m_law_shown 8) (M.aV (M.rd 2) M.aNil)))))
  (M.seq (M.ifS (M.or (M.tru (M.op2 neD (M.frz (M.call (mshow_part 8) (M.aV (M.rd 2) M.aNil))) (M.rd 3))) (M.or (M.tru (M.op2 neD (M.frz (M.call (mshow_part 8) (M.perm 0 [0] M.aNil (M.aV (M.rd 2) M.aNil)))) (M.rd 3))) (M.tru (M.op2 neD (M.opL (one reprD) (M.cons (M.frz (M.call mread_part (M.aV (M.rd 3) M.aNil))) M.nil)) (M.opL (one reprD) (M.cons (M.rd 2) M.nil))))))
  (M.ret (M.own (M.pure (.bool false))))
  M.skip)
  (M.ifS (M.or (M.tru (M.op2 neD (M.opL (one reprD) (M.cons (M.frz (M.call mread_part (M.perm 0 [0] M.aNil (M.aV (M.rd 3) M.aNil)))) M.nil)) (M.opL (one reprD) (M.cons (M.rd 2) M.nil)))) (M.tru (M.op2 neD (M.frz (M.heard 5 h_law_heard (M.call mread_sieve (M.aV (M.rd 3) M.aNil)))) (M.tup (M.cons (M.pure (.int 0)) M.nil)))))
  (M.ret (M.own (M.pure (.bool false))))
  M.skip))))
  (M.seq (M.for (M.items (M.rd 1)) (gNameD 4)
  (M.seq (M.set 3 (M.own (M.frz (M.call m_law_wire_shown (M.aV (M.rd 4) M.aNil)))))
  (M.seq (M.ifS (M.or (M.tru (M.op2 neD (M.frz (M.call mshow_sieve (M.aV (M.rd 4) M.aNil))) (M.rd 3))) (M.or (M.tru (M.op2 neD (M.frz (M.call mshow_sieve (M.perm 0 [0] M.aNil (M.aV (M.rd 4) M.aNil)))) (M.rd 3))) (M.tru (M.op2 neD (M.opL (one reprD) (M.cons (M.frz (M.call mread_sieve (M.aV (M.rd 3) M.aNil))) M.nil)) (M.opL (one reprD) (M.cons (M.rd 4) M.nil))))))
  (M.ret (M.own (M.pure (.bool false))))
  M.skip)
  (M.ifS (M.or (M.tru (M.op2 neD (M.opL (one reprD) (M.cons (M.frz (M.call mread_sieve (M.perm 0 [0] M.aNil (M.aV (M.rd 3) M.aNil)))) M.nil)) (M.opL (one reprD) (M.cons (M.rd 4) M.nil)))) (M.tru (M.op2 neD (M.frz (M.heard 5 h_law_heard (M.call mread_part (M.aV (M.rd 3) M.aNil)))) (M.tup (M.cons (M.pure (.int 0)) M.nil)))))
  (M.ret (M.own (M.pure (.bool false))))
  M.skip))))
  (M.ret (M.own (M.pure (.bool true)))))) :=
  have nd : n_law_right.Nodup := s_law_right.nd
  (sds_cons (sd_for passF rfl (id_any (ed_var 0)) (gv_gt (is := [2]) (gv_name 2 nd (by decide) (by decide)))
  (sds_cons (sd_set 3 nd (by decide) (eo_of (ed_frz (eo_def D_law_shown g hr (takesF rfl) (aa_v (ed_var 2) aa_nil) (by omega)))))
  (sds_cons (sd_if (td_w (wd_or (td_ne g (u65 hr) (ed_frz (eo_def Dshow_part g hr (takesF rfl) (aa_v (ed_var 2) aa_nil) (by omega))) (ed_var 3)) (wd_or (td_ne g (u65 hr) (ed_frz (eo_defK0 [0] ["part"] Dshow_part g hr (takesF rfl) (List.mem_cons_self) (ka_v (ed_var 2) ka_nil) (by omega))) (ed_var 3)) (wd_or1 (td_ne g (u65 hr) (ed_callB (call_reprP g (u70 hr)) cd_repr rfl (C.free 35) (by decide +kernel) (ad_cons (ed_frz (eo_def Dread_part g hr (takesF rfl) (aa_v (ed_var 3) aa_nil) (by omega))) ad_nil)) (ed_callB (call_reprP g (u70 hr)) cd_repr rfl (C.free 35) (by decide +kernel) (ad_cons (ed_var 2) ad_nil)))))))
  (sds_one (sd_ret (eo_of ed_bl)))
  sds_nil)
  (sds_one (sd_if (td_w (wd_or (td_ne g (u65 hr) (ed_callB (call_reprP g (u70 hr)) cd_repr rfl (C.free 35) (by decide +kernel) (ad_cons (ed_frz (eo_defK0 [0] ["text"] Dread_part g hr (takesF rfl) (List.mem_cons_self) (ka_v (ed_var 3) ka_nil) (by omega))) ad_nil)) (ed_callB (call_reprP g (u70 hr)) cd_repr rfl (C.free 35) (by decide +kernel) (ad_cons (ed_var 2) ad_nil))) (wd_or1 (td_ne g (u65 hr) (ed_frz (eo_heardDR D_law_heard (fun _ => x_law_heard C rfl rfl) g hr LT rfl (LamX.lamS_by (by show LamX.lamSB (defScope (top 57)) _ = true; decide +kernel)) rfl rfl (.inl rfl) rfl (fun _ _ _ _ _ => rfl) (fun _ _ _ _ _ _ _ g hr => (eo_def Dread_sieve g hr takesL (aa_v (ed_var 3) aa_nil) (by omega))))) (ed_tup (ad_cons ed_int ad_nil))))))
  (sds_one (sd_ret (eo_of ed_bl)))
  sds_nil)))))
  (sds_cons (sd_for passF rfl (id_any (ed_var 1)) (gv_gt (is := [4]) (gv_name 4 nd (by decide) (by decide)))
  (sds_cons (sd_set 3 nd (by decide) (eo_of (ed_frz (eo_def D_law_wire_shown g hr (takesF rfl) (aa_v (ed_var 4) aa_nil) (by omega)))))
  (sds_cons (sd_if (td_w (wd_or (td_ne g (u65 hr) (ed_frz (eo_def Dshow_sieve g hr (takesF rfl) (aa_v (ed_var 4) aa_nil) (by omega))) (ed_var 3)) (wd_or (td_ne g (u65 hr) (ed_frz (eo_defK0 [0] ["sieve"] Dshow_sieve g hr (takesF rfl) (List.mem_cons_self) (ka_v (ed_var 4) ka_nil) (by omega))) (ed_var 3)) (wd_or1 (td_ne g (u65 hr) (ed_callB (call_reprP g (u70 hr)) cd_repr rfl (C.free 35) (by decide +kernel) (ad_cons (ed_frz (eo_def Dread_sieve g hr (takesF rfl) (aa_v (ed_var 3) aa_nil) (by omega))) ad_nil)) (ed_callB (call_reprP g (u70 hr)) cd_repr rfl (C.free 35) (by decide +kernel) (ad_cons (ed_var 4) ad_nil)))))))
  (sds_one (sd_ret (eo_of ed_bl)))
  sds_nil)
  (sds_one (sd_if (td_w (wd_or (td_ne g (u65 hr) (ed_callB (call_reprP g (u70 hr)) cd_repr rfl (C.free 35) (by decide +kernel) (ad_cons (ed_frz (eo_defK0 [0] ["text"] Dread_sieve g hr (takesF rfl) (List.mem_cons_self) (ka_v (ed_var 3) ka_nil) (by omega))) ad_nil)) (ed_callB (call_reprP g (u70 hr)) cd_repr rfl (C.free 35) (by decide +kernel) (ad_cons (ed_var 4) ad_nil))) (wd_or1 (td_ne g (u65 hr) (ed_frz (eo_heardDR D_law_heard (fun _ => x_law_heard C rfl rfl) g hr LT rfl (LamX.lamS_by (by show LamX.lamSB (defScope (top 57)) _ = true; decide +kernel)) rfl rfl (.inl rfl) rfl (fun _ _ _ _ _ => rfl) (fun _ _ _ _ _ _ _ g hr => (eo_def Dread_part g hr takesL (aa_v (ed_var 3) aa_nil) (by omega))))) (ed_tup (ad_cons ed_int ad_nil))))))
  (sds_one (sd_ret (eo_of ed_bl)))
  sds_nil)))))
  (sds_one (sd_ret (eo_of ed_bl)))))
theorem d_law_right (C : Cm fa fn tb K mg base) (CD : obsX td K = valX td w) (D_law_shown : DefK P w K mg base 9 "_law_shown" ["_law_piece_here"] [] (m_law_shown 8) k_law_shown) (D_law_wire_shown : DefK P w K mg base 10 "_law_wire_shown" ["_law_wire_here"] [] m_law_wire_shown k_law_wire_shown) (Dshow_part : DefK P w K mg base 9 "show_part" ["part"] [] (mshow_part 8) kshow_part) (D_law_heard : HrdK K mg "_law_heard" "_law_ask_now" n_law_heard (defScope (top 56)) (defArgs (top 56)) (defBody (top 56))) (Dshow_sieve : DefK P w K mg base 10 "show_sieve" ["sieve"] [] mshow_sieve kshow_sieve) (Dread_part : DefK P w K mg base 16 "read_part" ["text"] [] mread_part kread_part) (Dread_sieve : DefK P w K mg base 17 "read_sieve" ["text"] [] mread_sieve kread_sieve) : DefK P w K mg base 20 "_law_right" ["_law_pieces", "_law_wires"] [] m_law_right k_law_right := by
  obtain ⟨fd, F⟩ := C.says.def_ 17 (d := dd_law_right) rfl
  exact ⟨_, fd, C.glo 56, fng_ofC C.kin C.ns (C.codes 8 (zs := [])) (N := n_law_right) (k := 19) F s_law_right rfl rfl (by decide) fun cd A outer s H E LT hr g => b_law_right C CD D_law_shown D_law_wire_shown Dshow_part D_law_heard Dshow_sieve Dread_part Dread_sieve LT hr g, F.bindsN fun _ _ _ _ _ _ us hl => match us, hl with | [_, _], _ => rfl, F.kp, fun q hq => nomatch hq⟩
theorem s_law_feed : FnScope n_law_feed ["_law_script", "_law_k"] (defScope (top 47)) := ⟨rfl, rfl, rfl, by decide +kernel, rfl, by decide +kernel, by decide +kernel⟩
theorem b_law_feed (C : Cm fa fn tb K mg base) (CD : obsX td K = valX td w) {f : Addr} {cd : Value} {A : Around} {outer : List Env} {s : Shared} {H : Hp} {E : XK} (hr : Room (0) (CxF P w K mg base n_law_feed "_law_feed" (defScope (top 47)) f cd A outer s H E).A) (g : Gd (CxF P w K mg base n_law_feed "_law_feed" (defScope (top 47)) f cd A outer s H E)) :
    SDs (CxF P w K mg base n_law_feed "_law_feed" (defScope (top 47)) f cd A outer s H E) (WF E) [] (defBody (top 47)) (M.seq (M.set 2 (M.own (M.pure (.int 0))))
  (M.seq (M.ifS (M.tru (M.op2 ltD (M.rd 1) (M.opL (one lenD) (M.cons (M.rd 0) M.nil))))
  (M.set 2 (M.own (M.op2 itemD (M.rd 0) (M.rd 1))))
  M.skip)
  (M.seq (M.set 3 (M.own (M.opL (one absD) (M.cons (M.rd 2) M.nil))))
  (M.seq (M.ifS (M.tru (M.op2 ltD (M.rd 3) (M.op2 powD (M.pure (.int 10)) (M.pure (.int 18)))))
  (M.set 3 (M.own (M.pure (.int 0))))
  M.skip)
  (M.ret (M.lst (M.cons (M.rd 3) (M.cons (M.op2 modD (M.op2 addB (M.op2 addB (M.op2 mulD (M.op2 modD (M.rd 2) (M.pure (.int 2147483423))) (M.pure (.int 48271))) (M.op2 mulD (M.pure (.int 6151)) (M.rd 1))) (M.pure (.int 17))) (M.pure (.int 2147483423))) (M.cons (M.pure (.int 0)) M.nil))))))))) :=
  have nd : n_law_feed.Nodup := s_law_feed.nd
  (sds_cons (sd_set 2 nd (by decide) (eo_of ed_int))
  (sds_cons (sd_if (td_lt (ed_var 1) (ed_callB call_lenP cd_len rfl (C.free 26) (by decide +kernel) (ad_cons (ed_var 0) ad_nil)))
  (sds_one (sd_set 2 nd (by decide) (eo_of (ed_ix (u65 hr) (ed_var 0) (ed_var 1)))))
  sds_nil)
  (sds_cons (sd_set 3 nd (by decide) (eo_of (ed_callB call_abs cd_abs rfl (C.free 36) (by decide +kernel) (ad_cons (ed_var 2) ad_nil))))
  (sds_cons (sd_if (td_lt (ed_var 3) (ed_pow ed_int ed_int))
  (sds_one (sd_set 3 nd (by decide) (eo_of ed_int)))
  sds_nil)
  (sds_one (sd_ret (eo_lst (ad_cons (ed_var 3) (ad_cons (ed_mod (ed_addB (ed_addB (ed_mul (ed_mod (ed_var 2) ed_int) ed_int) (ed_mul ed_int (ed_var 1))) ed_int) ed_int) (ad_cons ed_int ad_nil))))))))))
theorem d_law_feed (C : Cm fa fn tb K mg base) (CD : obsX td K = valX td w) : DefK P w K mg base 1 "_law_feed" ["_law_script", "_law_k"] [] m_law_feed k_law_feed := by
  obtain ⟨fd, F⟩ := C.says.def_ 18 (d := dd_law_feed) rfl
  exact ⟨_, fd, C.glo 57, fng_of (N := n_law_feed) (k := 0) F s_law_feed rfl rfl (by decide) fun cd A outer s H E hr g => b_law_feed C CD hr g, F.bindsN fun _ _ _ _ _ _ us hl => match us, hl with | [_, _], _ => rfl, F.kp, fun q hq => nomatch hq⟩
theorem s_law_take : FnScope n_law_take ["_law_feed_here", "_law_many"] (defScope (top 48)) := ⟨rfl, rfl, rfl, by decide +kernel, rfl, by decide +kernel, by decide +kernel⟩
theorem b_law_take (C : Cm fa fn tb K mg base) (CD : obsX td K = valX td w) {f : Addr} {cd : Value} {A : Around} {outer : List Env} {s : Shared} {H : Hp} {E : XK} (hr : Room (0) (CxF P w K mg base n_law_take "_law_take" (defScope (top 48)) f cd A outer s H E).A) (g : Gd (CxF P w K mg base n_law_take "_law_take" (defScope (top 48)) f cd A outer s H E)) :
    SDs (CxF P w K mg base n_law_take "_law_take" (defScope (top 48)) f cd A outer s H E) (WF E) [0] (defBody (top 48)) (M.seq (M.ifS (M.tru (M.op2 gtD (M.ro (ixO (slotO 0) (fun _ => some (.int 0)))) (M.pure (.int 0))))
  (M.seq (M.set 2 (M.own (M.op2 modD (M.ro (ixO (slotO 0) (fun _ => some (.int 0)))) (M.rd 1))))
  (M.seq (M.setI 0 (M.own (M.op2 divD (M.ro (ixO (slotO 0) (fun _ => some (.int 0)))) (M.rd 1))) (M.pure (.int 0)))
  (M.ret (M.own (M.rd 2)))))
  M.skip)
  (M.seq (M.set 3 (M.own (M.op2 addB (M.ro (ixO (slotO 0) (fun _ => some (.int 2)))) (M.pure (.int 1)))))
  (M.seq (M.setI 0 (M.own (M.rd 3)) (M.pure (.int 2)))
  (M.seq (M.set 4 (M.own (M.op2 modD (M.op2 addB (M.op2 addB (M.ro (ixO (slotO 0) (fun _ => some (.int 1)))) (M.op2 mulD (M.op2 mulD (M.pure (.int 40692)) (M.rd 3)) (M.rd 3))) (M.op2 mulD (M.pure (.int 69621)) (M.rd 3))) (M.pure (.int 2147483647)))))
  (M.seq (M.set 4 (M.own (M.op2 modD (M.op2 addB (M.op2 addB (M.op2 mulD (M.rd 4) (M.rd 4)) (M.op2 mulD (M.pure (.int 39373)) (M.rd 4))) (M.rd 3)) (M.pure (.int 2147483579)))))
  (M.seq (M.set 4 (M.own (M.op2 modD (M.op2 addB (M.op2 mulD (M.rd 4) (M.rd 4)) (M.op2 mulD (M.pure (.int 16807)) (M.rd 4))) (M.pure (.int 2147483549)))))
  (M.ret (M.own (M.op2 modD (M.op2 divD (M.rd 4) (M.pure (.int 64))) (M.rd 1)))))))))) :=
  have nd : n_law_take.Nodup := s_law_take.nd
  (sds_cons (sd_if (td_gt (ed_ro (ro_ix (u65 hr) (ro_var 0) qd_int)) ed_int)
  (sds_cons (sd_set 2 nd (by decide) (eo_of (ed_mod (ed_ro (ro_ix (u65 hr) (ro_var 0) qd_int)) (ed_var 1))))
  (sds_cons (sd_setI 0 (u65 hr) (eo_of (ed_fdiv (ed_ro (ro_ix (u65 hr) (ro_var 0) qd_int)) (ed_var 1))) ed_int)
  (sds_one (sd_ret (eo_of (ed_var 2))))))
  sds_nil)
  (sds_cons (sd_set 3 nd (by decide) (eo_of (ed_addB (ed_ro (ro_ix (u65 hr) (ro_var 0) qd_int)) ed_int)))
  (sds_cons (sd_setI 0 (u65 hr) (eo_of (ed_var 3)) ed_int)
  (sds_cons (sd_set 4 nd (by decide) (eo_of (ed_mod (ed_addB (ed_addB (ed_ro (ro_ix (u65 hr) (ro_var 0) qd_int)) (ed_mul (ed_mul ed_int (ed_var 3)) (ed_var 3))) (ed_mul ed_int (ed_var 3))) ed_int)))
  (sds_cons (sd_set 4 nd (by decide) (eo_of (ed_mod (ed_addB (ed_addB (ed_mul (ed_var 4) (ed_var 4)) (ed_mul ed_int (ed_var 4))) (ed_var 3)) ed_int)))
  (sds_cons (sd_set 4 nd (by decide) (eo_of (ed_mod (ed_addB (ed_mul (ed_var 4) (ed_var 4)) (ed_mul ed_int (ed_var 4))) ed_int)))
  (sds_one (sd_ret (eo_of (ed_mod (ed_fdiv (ed_var 4) ed_int) (ed_var 1)))))))))))
theorem d_law_take (C : Cm fa fn tb K mg base) (CD : obsX td K = valX td w) : DefK P w K mg base 1 "_law_take" ["_law_feed_here", "_law_many"] [0] m_law_take k_law_take := by
  obtain ⟨fd, F⟩ := C.says.def_ 19 (d := dd_law_take) rfl
  exact ⟨_, fd, C.glo 58, fng_of (N := n_law_take) (k := 0) F s_law_take rfl rfl (by decide) fun cd A outer s H E hr g => b_law_take C CD hr g, F.bindsN fun _ _ _ _ _ _ us hl => match us, hl with | [_, _], _ => rfl, F.kp, fun q hq => nomatch hq⟩
theorem s_law_label : FnScope n_law_label ["_law_feed_here"] (defScope (top 49)) := ⟨rfl, rfl, rfl, by decide +kernel, rfl, by decide +kernel, by decide +kernel⟩
theorem b_law_label (C : Cm fa fn tb K mg base) (CD : obsX td K = valX td w) (D_law_take : DefK P w K mg base 1 "_law_take" ["_law_feed_here", "_law_many"] [0] m_law_take k_law_take) {f : Addr} {cd : Value} {A : Around} {outer : List Env} {s : Shared} {H : Hp} {E : XK} (hr : Room (1) (CxF P w K mg base n_law_label "_law_label" (defScope (top 49)) f cd A outer s H E).A) (g : Gd (CxF P w K mg base n_law_label "_law_label" (defScope (top 49)) f cd A outer s H E)) :
    SDs (CxF P w K mg base n_law_label "_law_label" (defScope (top 49)) f cd A outer s H E) (WF E) [0] (defBody (top 49)) (M.seq (M.set 1 (M.own (M.pure (.str "abcdefghijklmnopqrstuvwxyz"))))
  (M.seq (M.set 2 (M.own (M.frz (M.lst (M.cons (M.pure (.str "with")) (M.cons (M.pure (.str "none")) (M.cons (M.pure (.str "on")) (M.cons (M.pure (.str "sieve")) (M.cons (M.pure (.str "lacking")) (M.cons (M.pure (.str "tell")) (M.cons (M.pure (.str "sum")) (M.cons (M.pure (.str "order")) (M.cons (M.pure (.str "up")) (M.cons (M.pure (.str "a")) (M.cons (M.pure (.str "b")) (M.cons (M.pure (.str "zzzzzzzz")) M.nil))))))))))))))))
  (M.seq (M.set 3 (M.own (M.op2 itemD (M.frz (M.lst (M.cons (M.pure (.int 1)) (M.cons (M.pure (.int 1)) (M.cons (M.pure (.int 2)) (M.cons (M.pure (.int 8)) M.nil)))))) (M.frz (M.call m_law_take (M.aR 0 (M.aV (M.pure (.int 4)) M.aNil)))))))
  (M.seq (M.set 4 (M.own (M.join (M.pure (.str "")) (M.frz (M.lc (M.iter rangeD1 (M.cons (M.rd 3) M.nil)) (gNameD 5) [5] (M.pure true) (M.op2 itemD (M.rd 1) (M.frz (M.call m_law_take (M.aR 0 (M.aV (M.pure (.int 26)) M.aNil))))))))))
  (M.ret (M.own (M.op2 itemD (M.op2 addB (M.rd 2) (M.frz (M.rep (M.cons (M.rd 4) M.nil) (M.pure (.int 4))))) (M.frz (M.call m_law_take (M.aR 0 (M.aV (M.pure (.int 16)) M.aNil))))))))))) :=
  have nd : n_law_label.Nodup := s_law_label.nd
  (sds_cons (sd_set 1 nd (by decide) (eo_of ed_str))
  (sds_cons (sd_set 2 nd (by decide) (eo_of (ed_frz (eo_lst (ad_cons ed_str (ad_cons ed_str (ad_cons ed_str (ad_cons ed_str (ad_cons ed_str (ad_cons ed_str (ad_cons ed_str (ad_cons ed_str (ad_cons ed_str (ad_cons ed_str (ad_cons ed_str (ad_cons ed_str ad_nil))))))))))))))))
  (sds_cons (sd_set 3 nd (by decide) (eo_of (ed_ix (u65 hr) (ed_frz (eo_lst (ad_cons ed_int (ad_cons ed_int (ad_cons ed_int (ad_cons ed_int ad_nil)))))) (ed_frz (eo_def D_law_take g hr (takesF rfl) (aa_r 0 (aa_v ed_int aa_nil)) (by omega))))))
  (sds_cons (sd_set 4 nd (by decide) (eo_of (ed_join ed_str (ed_frz (eo_lc [("_law_k", 5)] rfl nd (id_rng1 rfl (C.free 37) (ad_cons (ed_var 3) ad_nil)) (blkOk_by (by show blkC n_law_label (defScope (top 49)) _ _ = true; decide +kernel)) (by decide) (fun _ _ _ _ _ => (gv_name 5 nd (by decide) (by decide))) (fun _ _ _ _ _ => tds_nil) (fun _ _ _ _ _ => (ed_ix (u65 hr) (ed_var 1) (ed_frz (eo_def D_law_take (Gd.blk g) hr takesW0 (aa_r 0 (aa_v ed_int aa_nil)) (by omega))))))))))
  (sds_one (sd_ret (eo_of (ed_ix (u65 hr) (ed_addB (ed_var 2) (ed_frz (eo_rep (ad_cons (ed_var 4) ad_nil) ed_int))) (ed_frz (eo_def D_law_take g hr (takesF rfl) (aa_r 0 (aa_v ed_int aa_nil)) (by omega)))))))))))
theorem d_law_label (C : Cm fa fn tb K mg base) (CD : obsX td K = valX td w) (D_law_take : DefK P w K mg base 1 "_law_take" ["_law_feed_here", "_law_many"] [0] m_law_take k_law_take) : DefK P w K mg base 2 "_law_label" ["_law_feed_here"] [0] m_law_label k_law_label := by
  obtain ⟨fd, F⟩ := C.says.def_ 20 (d := dd_law_label) rfl
  exact ⟨_, fd, C.glo 59, fng_of (N := n_law_label) (k := 1) F s_law_label rfl rfl (by decide) fun cd A outer s H E hr g => b_law_label C CD D_law_take hr g, F.bindsN fun _ _ _ _ _ _ us hl => match us, hl with | [_], _ => rfl, F.kp, fun q hq => nomatch hq⟩
theorem s_law_number : FnScope n_law_number ["_law_feed_here"] (defScope (top 50)) := ⟨rfl, rfl, rfl, by decide +kernel, rfl, by decide +kernel, by decide +kernel⟩
theorem b_law_number (C : Cm fa fn tb K mg base) (CD : obsX td K = valX td w) (D_law_take : DefK P w K mg base 1 "_law_take" ["_law_feed_here", "_law_many"] [0] m_law_take k_law_take) {f : Addr} {cd : Value} {A : Around} {outer : List Env} {s : Shared} {H : Hp} {E : XK} (hr : Room (1) (CxF P w K mg base n_law_number "_law_number" (defScope (top 50)) f cd A outer s H E).A) (g : Gd (CxF P w K mg base n_law_number "_law_number" (defScope (top 50)) f cd A outer s H E)) :
    SDs (CxF P w K mg base n_law_number "_law_number" (defScope (top 50)) f cd A outer s H E) (WF E) [0] (defBody (top 50)) (M.seq (M.set 1 (M.own (M.frz (M.call m_law_take (M.aR 0 (M.aV (M.op2 powD (M.pure (.int 10)) (M.pure (.int 6))) M.aNil))))))
  (M.seq (M.set 2 (M.own (M.frz (M.lst (M.cons (M.pure (.int 0)) (M.cons (M.pure (.int 1)) (M.cons (M.op1 negD (M.pure (.int 1))) (M.cons (M.pure (.int 2)) (M.cons (M.rd 1) (M.cons (M.op2 subB (M.pure (.int 0)) (M.rd 1)) (M.cons (M.op2 subB (M.op2 subB (M.op2 powD (M.pure (.int 10)) (M.pure (.int 30))) (M.pure (.int 1))) (M.rd 1)) (M.cons (M.op2 subB (M.op2 addB (M.rd 1) (M.pure (.int 1))) (M.op2 powD (M.pure (.int 10)) (M.pure (.int 30)))) (M.cons (M.op2 subB (M.pure (.int 7)) (M.op2 modD (M.rd 1) (M.pure (.int 15)))) (M.cons (M.op2 modD (M.rd 1) (M.pure (.int 4))) M.nil))))))))))))))
  (M.ret (M.own (M.op2 itemD (M.rd 2) (M.frz (M.call m_law_take (M.aR 0 (M.aV (M.pure (.int 10)) M.aNil))))))))) :=
  have nd : n_law_number.Nodup := s_law_number.nd
  (sds_cons (sd_set 1 nd (by decide) (eo_of (ed_frz (eo_def D_law_take g hr (takesF rfl) (aa_r 0 (aa_v (ed_pow ed_int ed_int) aa_nil)) (by omega)))))
  (sds_cons (sd_set 2 nd (by decide) (eo_of (ed_frz (eo_lst (ad_cons ed_int (ad_cons ed_int (ad_cons (ed_neg ed_int) (ad_cons ed_int (ad_cons (ed_var 1) (ad_cons (ed_subB ed_int (ed_var 1)) (ad_cons (ed_subB (ed_subB (ed_pow ed_int ed_int) ed_int) (ed_var 1)) (ad_cons (ed_subB (ed_addB (ed_var 1) ed_int) (ed_pow ed_int ed_int)) (ad_cons (ed_subB ed_int (ed_mod (ed_var 1) ed_int)) (ad_cons (ed_mod (ed_var 1) ed_int) ad_nil))))))))))))))
  (sds_one (sd_ret (eo_of (ed_ix (u65 hr) (ed_var 2) (ed_frz (eo_def D_law_take g hr (takesF rfl) (aa_r 0 (aa_v ed_int aa_nil)) (by omega)))))))))
theorem d_law_number (C : Cm fa fn tb K mg base) (CD : obsX td K = valX td w) (D_law_take : DefK P w K mg base 1 "_law_take" ["_law_feed_here", "_law_many"] [0] m_law_take k_law_take) : DefK P w K mg base 2 "_law_number" ["_law_feed_here"] [0] m_law_number k_law_number := by
  obtain ⟨fd, F⟩ := C.says.def_ 21 (d := dd_law_number) rfl
  exact ⟨_, fd, C.glo 60, fng_of (N := n_law_number) (k := 1) F s_law_number rfl rfl (by decide) fun cd A outer s H E hr g => b_law_number C CD D_law_take hr g, F.bindsN fun _ _ _ _ _ _ us hl => match us, hl with | [_], _ => rfl, F.kp, fun q hq => nomatch hq⟩
theorem s_law_piece : FnScope n_law_piece ["_law_feed_here", "_law_aliases", "_law_deep", "_law_room"] (defScope (top 51)) := ⟨rfl, rfl, rfl, by decide +kernel, rfl, by decide +kernel, by decide +kernel⟩
theorem b_law_piece {n : Nat} (C : Cm fa fn tb K mg base) (CD : obsX td K = valX td w) (D_law_take : DefK P w K mg base 1 "_law_take" ["_law_feed_here", "_law_many"] [0] m_law_take k_law_take) (D_law_label : DefK P w K mg base 2 "_law_label" ["_law_feed_here"] [0] m_law_label k_law_label) (D_law_number : DefK P w K mg base 2 "_law_number" ["_law_feed_here"] [0] m_law_number k_law_number) (D_law_piece : DefK P w K mg base (3 + n) "_law_piece" ["_law_feed_here", "_law_aliases", "_law_deep", "_law_room"] [0, 3] (m_law_piece n) k_law_piece) {f : Addr} {cd : Value} {A : Around} {outer : List Env} {s : Shared} {H : Hp} {E : XK} (hr : Room (3 + n) (CxF P w K mg base n_law_piece "_law_piece" (defScope (top 51)) f cd A outer s H E).A) (g : Gd (CxF P w K mg base n_law_piece "_law_piece" (defScope (top 51)) f cd A outer s H E)) :
    SDs (CxF P w K mg base n_law_piece "_law_piece" (defScope (top 51)) f cd A outer s H E) (WF E) [0, 3] (defBody (top 51)) (M.seq (M.setI 3 (M.own (M.op2 subB (M.ro (ixO (slotO 3) (fun _ => some (.int 0)))) (M.pure (.int 1)))) (M.pure (.int 0)))
  (M.seq (M.set 4 (M.own (M.frz (M.call m_law_take (M.aR 0 (M.aV (M.pure (.int 9)) M.aNil))))))
  (M.seq (M.ifS (M.or (M.tru (M.op2 eqD (M.rd 2) (M.pure (.int 1)))) (M.or (M.tru (M.op2 ltD (M.ro (ixO (slotO 3) (fun _ => some (.int 0)))) (M.pure (.int 2)))) (M.tru (M.op2 ltD (M.rd 4) (M.pure (.int 3))))))
  (M.seq (M.set 5 (M.own (M.op2 itemD (M.rd 1) (M.frz (M.call m_law_take (M.aR 0 (M.aV (M.opL (one lenD) (M.cons (M.rd 1) M.nil)) M.aNil)))))))
  (M.ret (M.own (M.op2 itemD (M.frz (M.lst (M.cons (M.tup (M.cons (M.pure (.str "cell")) (M.cons (M.rd 5) (M.cons (M.frz (M.call m_law_label (M.aR 0 M.aNil))) M.nil)))) (M.cons (M.tup (M.cons (M.pure (.str "number")) (M.cons (M.frz (M.call m_law_number (M.aR 0 M.aNil))) M.nil))) M.nil)))) (M.op2 divD (M.frz (M.call m_law_take (M.aR 0 (M.aV (M.pure (.int 3)) M.aNil)))) (M.pure (.int 2)))))))
  M.skip)
  (M.seq (M.setI 3 (M.own (M.op2 subB (M.ro (ixO (slotO 3) (fun _ => some (.int 0)))) (M.pure (.int 1)))) (M.pure (.int 0)))
  (M.seq (M.set 6 (M.own (M.frz (M.call (m_law_piece n) (M.aR 0 (M.aV (M.rd 1) (M.aV (M.op2 subB (M.rd 2) (M.pure (.int 1))) (M.aR 3 M.aNil))))))))
  (M.seq (M.setI 3 (M.own (M.op2 addB (M.ro (ixO (slotO 3) (fun _ => some (.int 0)))) (M.pure (.int 1)))) (M.pure (.int 0)))
  (M.ret (M.own (M.tup (M.cons (M.op2 itemD (M.frz (M.lst (M.cons (M.pure (.str "plus")) (M.cons (M.pure (.str "less")) (M.cons (M.pure (.str "times")) (M.cons (M.pure (.str "over")) M.nil)))))) (M.op2 modD (M.rd 4) (M.pure (.int 4)))) (M.cons (M.rd 6) (M.cons (M.frz (M.call (m_law_piece n) (M.aR 0 (M.aV (M.rd 1) (M.aV (M.op2 subB (M.rd 2) (M.pure (.int 1))) (M.aR 3 M.aNil)))))) M.nil)))))))))))) :=
  have nd : n_law_piece.Nodup := s_law_piece.nd
  (sds_cons (sd_setI 3 (u65 hr) (eo_of (ed_subB (ed_ro (ro_ix (u65 hr) (ro_var 3) qd_int)) ed_int)) ed_int)
  (sds_cons (sd_set 4 nd (by decide) (eo_of (ed_frz (eo_def D_law_take g hr (takesF rfl) (aa_r 0 (aa_v ed_int aa_nil)) (by omega)))))
  (sds_cons (sd_if (td_w (wd_or (td_eq g (u65 hr) (ed_var 2) ed_int) (wd_or (td_lt (ed_ro (ro_ix (u65 hr) (ro_var 3) qd_int)) ed_int) (wd_or1 (td_lt (ed_var 4) ed_int)))))
  (sds_cons (sd_set 5 nd (by decide) (eo_of (ed_ix (u65 hr) (ed_var 1) (ed_frz (eo_def D_law_take g hr (takesF rfl) (aa_r 0 (aa_v (ed_callB call_lenP cd_len rfl (C.free 26) (by decide +kernel) (ad_cons (ed_var 1) ad_nil)) aa_nil)) (by omega))))))
  (sds_one (sd_ret (eo_of (ed_ix (u65 hr) (ed_frz (eo_lst (ad_cons (ed_tup (ad_cons ed_str (ad_cons (ed_var 5) (ad_cons (ed_frz (eo_def D_law_label g hr (takesF rfl) (aa_r 0 aa_nil) (by omega))) ad_nil)))) (ad_cons (ed_tup (ad_cons ed_str (ad_cons (ed_frz (eo_def D_law_number g hr (takesF rfl) (aa_r 0 aa_nil) (by omega))) ad_nil))) ad_nil)))) (ed_fdiv (ed_frz (eo_def D_law_take g hr (takesF rfl) (aa_r 0 (aa_v ed_int aa_nil)) (by omega))) ed_int))))))
  sds_nil)
  (sds_cons (sd_setI 3 (u65 hr) (eo_of (ed_subB (ed_ro (ro_ix (u65 hr) (ro_var 3) qd_int)) ed_int)) ed_int)
  (sds_cons (sd_set 6 nd (by decide) (eo_of (ed_frz (eo_def D_law_piece g hr (takesF rfl) (aa_r 0 (aa_v (ed_var 1) (aa_v (ed_subB (ed_var 2) ed_int) (aa_r 3 aa_nil)))) (by omega)))))
  (sds_cons (sd_setI 3 (u65 hr) (eo_of (ed_addB (ed_ro (ro_ix (u65 hr) (ro_var 3) qd_int)) ed_int)) ed_int)
  (sds_one (sd_ret (eo_of (ed_tup (ad_cons (ed_ix (u65 hr) (ed_frz (eo_lst (ad_cons ed_str (ad_cons ed_str (ad_cons ed_str (ad_cons ed_str ad_nil)))))) (ed_mod (ed_var 4) ed_int)) (ad_cons (ed_var 6) (ad_cons (ed_frz (eo_def D_law_piece g hr (takesF rfl) (aa_r 0 (aa_v (ed_var 1) (aa_v (ed_subB (ed_var 2) ed_int) (aa_r 3 aa_nil)))) (by omega))) ad_nil)))))))))))))
theorem d_law_piece (C : Cm fa fn tb K mg base) (CD : obsX td K = valX td w) (D_law_take : DefK P w K mg base 1 "_law_take" ["_law_feed_here", "_law_many"] [0] m_law_take k_law_take) (D_law_label : DefK P w K mg base 2 "_law_label" ["_law_feed_here"] [0] m_law_label k_law_label) (D_law_number : DefK P w K mg base 2 "_law_number" ["_law_feed_here"] [0] m_law_number k_law_number) : ∀ n, DefK P w K mg base (3 + n) "_law_piece" ["_law_feed_here", "_law_aliases", "_law_deep", "_law_room"] [0, 3] (m_law_piece n) k_law_piece
  | 0 => by
    obtain ⟨fd, F⟩ := C.says.def_ 22 (d := dd_law_piece) rfl
    exact ⟨_, fd, C.glo 61, fng_fail (by decide), F.bindsN fun _ _ _ _ _ _ us hl => match us, hl with | [_, _, _, _], _ => rfl, F.kp, fun q hq => nomatch hq⟩
  | n + 1 => by
    obtain ⟨fd, F⟩ := C.says.def_ 22 (d := dd_law_piece) rfl
    exact ⟨_, fd, C.glo 61, fng_of (N := n_law_piece) F s_law_piece rfl rfl (by decide) fun cd A outer s H E hr g => b_law_piece C CD D_law_take D_law_label D_law_number (d_law_piece C CD D_law_take D_law_label D_law_number n) hr g, F.bindsN fun _ _ _ _ _ _ us hl => match us, hl with | [_, _, _, _], _ => rfl, F.kp, fun q hq => nomatch hq⟩
theorem s_law_part : FnScope n_law_part ["_law_feed_here", "_law_aliases"] (defScope (top 52)) := ⟨rfl, rfl, rfl, by decide +kernel, rfl, by decide +kernel, by decide +kernel⟩
theorem b_law_part (C : Cm fa fn tb K mg base) (CD : obsX td K = valX td w) (D_law_piece : DefK P w K mg base 11 "_law_piece" ["_law_feed_here", "_law_aliases", "_law_deep", "_law_room"] [0, 3] (m_law_piece 8) k_law_piece) (D_law_take : DefK P w K mg base 1 "_law_take" ["_law_feed_here", "_law_many"] [0] m_law_take k_law_take) {f : Addr} {cd : Value} {A : Around} {outer : List Env} {s : Shared} {H : Hp} {E : XK} (hr : Room (11) (CxF P w K mg base n_law_part "_law_part" (defScope (top 52)) f cd A outer s H E).A) (g : Gd (CxF P w K mg base n_law_part "_law_part" (defScope (top 52)) f cd A outer s H E)) :
    SDs (CxF P w K mg base n_law_part "_law_part" (defScope (top 52)) f cd A outer s H E) (WF E) [0] (defBody (top 52)) (M.ret (M.call (m_law_piece 8) (M.aR 0 (M.aV (M.rd 1) (M.aV (M.op2 itemD (M.frz (M.lst (M.cons (M.pure (.int 5)) (M.cons (M.pure (.int 3)) (M.cons (M.pure (.int 2)) (M.cons (M.pure (.int 1)) (M.cons (M.pure (.int 2)) (M.cons (M.pure (.int 3)) M.nil)))))))) (M.frz (M.call m_law_take (M.aR 0 (M.aV (M.pure (.int 6)) M.aNil))))) (M.aO (M.lst (M.cons (M.op2 itemD (M.frz (M.lst (M.cons (M.pure (.int 15)) (M.cons (M.pure (.int 7)) (M.cons (M.pure (.int 5)) M.nil))))) (M.frz (M.call m_law_take (M.aR 0 (M.aV (M.pure (.int 3)) M.aNil))))) M.nil)) M.aNil)))))) :=
  have nd : n_law_part.Nodup := s_law_part.nd
  (sds_one (sd_ret (eo_def D_law_piece g hr (takesF rfl) (aa_r 0 (aa_v (ed_var 1) (aa_v (ed_ix (u65 hr) (ed_frz (eo_lst (ad_cons ed_int (ad_cons ed_int (ad_cons ed_int (ad_cons ed_int (ad_cons ed_int (ad_cons ed_int ad_nil)))))))) (ed_frz (eo_def D_law_take g hr (takesF rfl) (aa_r 0 (aa_v ed_int aa_nil)) (by omega)))) (aa_o (eo_lst (ad_cons (ed_ix (u65 hr) (ed_frz (eo_lst (ad_cons ed_int (ad_cons ed_int (ad_cons ed_int ad_nil))))) (ed_frz (eo_def D_law_take g hr (takesF rfl) (aa_r 0 (aa_v ed_int aa_nil)) (by omega)))) ad_nil)) aa_nil)))) (by omega))))
theorem d_law_part (C : Cm fa fn tb K mg base) (CD : obsX td K = valX td w) (D_law_piece : DefK P w K mg base 11 "_law_piece" ["_law_feed_here", "_law_aliases", "_law_deep", "_law_room"] [0, 3] (m_law_piece 8) k_law_piece) (D_law_take : DefK P w K mg base 1 "_law_take" ["_law_feed_here", "_law_many"] [0] m_law_take k_law_take) : DefK P w K mg base 12 "_law_part" ["_law_feed_here", "_law_aliases"] [0] m_law_part k_law_part := by
  obtain ⟨fd, F⟩ := C.says.def_ 23 (d := dd_law_part) rfl
  exact ⟨_, fd, C.glo 62, fng_of (N := n_law_part) (k := 11) F s_law_part rfl rfl (by decide) fun cd A outer s H E hr g => b_law_part C CD D_law_piece D_law_take hr g, F.bindsN fun _ _ _ _ _ _ us hl => match us, hl with | [_, _], _ => rfl, F.kp, fun q hq => nomatch hq⟩
theorem s_law_wire : FnScope n_law_wire ["_law_feed_here", "_law_aliases"] (defScope (top 53)) := ⟨rfl, rfl, rfl, by decide +kernel, rfl, by decide +kernel, by decide +kernel⟩
theorem b_law_wire (C : Cm fa fn tb K mg base) (CD : obsX td K = valX td w) (D_law_take : DefK P w K mg base 1 "_law_take" ["_law_feed_here", "_law_many"] [0] m_law_take k_law_take) (D_law_part : DefK P w K mg base 12 "_law_part" ["_law_feed_here", "_law_aliases"] [0] m_law_part k_law_part) {f : Addr} {cd : Value} {A : Around} {outer : List Env} {s : Shared} {H : Hp} {E : XK} (hr : Room (12) (CxF P w K mg base n_law_wire "_law_wire" (defScope (top 53)) f cd A outer s H E).A) (g : Gd (CxF P w K mg base n_law_wire "_law_wire" (defScope (top 53)) f cd A outer s H E)) :
    SDs (CxF P w K mg base n_law_wire "_law_wire" (defScope (top 53)) f cd A outer s H E) (WF E) [0] (defBody (top 53)) (M.seq (M.set 2 (M.own (M.op2 itemD (M.frz (M.lst (M.cons (M.pure (.str "alike")) (M.cons (M.pure (.str "unlike")) (M.cons (M.pure (.str "below")) (M.cons (M.pure (.str "lacking")) M.nil)))))) (M.frz (M.call m_law_take (M.aR 0 (M.aV (M.pure (.int 4)) M.aNil)))))))
  (M.seq (M.asgT (M.frz (M.lc (M.iter rangeD1 (M.cons (M.pure (.int 2)) M.nil)) (gNameD 5) [5] (M.pure true) (M.frz (M.call m_law_part (M.aR 0 (M.aV (M.rd 1) M.aNil)))))) (gUnlE 2 (gConsD (gNameD 3) (gConsD (gNameD 4) gNilD))))
  (M.ret (M.own (M.ite (M.tru (M.op2 eqD (M.rd 2) (M.pure (.str "lacking")))) (M.tup (M.cons (M.rd 2) (M.cons (M.rd 3) M.nil))) (M.tup (M.cons (M.rd 2) (M.cons (M.rd 3) (M.cons (M.rd 4) M.nil))))))))) :=
  have nd : n_law_wire.Nodup := s_law_wire.nd
  (sds_cons (sd_set 2 nd (by decide) (eo_of (ed_ix (u65 hr) (ed_frz (eo_lst (ad_cons ed_str (ad_cons ed_str (ad_cons ed_str (ad_cons ed_str ad_nil)))))) (ed_frz (eo_def D_law_take g hr (takesF rfl) (aa_r 0 (aa_v ed_int aa_nil)) (by omega))))))
  (sds_cons (sd_asgT (is := [3, 4]) (ed_frz (eo_lc [("_law_k", 5)] rfl nd (id_rng1 rfl (C.free 37) (ad_cons ed_int ad_nil)) (blkOk_by (by show blkC n_law_wire (defScope (top 53)) _ _ = true; decide +kernel)) (by decide) (fun _ _ _ _ _ => (gv_name 5 nd (by decide) (by decide))) (fun _ _ _ _ _ => tds_nil) (fun _ _ _ _ _ => (ed_frz (eo_def D_law_part (Gd.blk g) hr takesW0 (aa_r 0 (aa_v (ed_var 1) aa_nil)) (by omega)))))) (gv_unl rfl (gvs_cons (gv_name 3 nd (by decide) (by decide)) (gvs_cons (gv_name 4 nd (by decide) (by decide)) gvs_nil))))
  (sds_one (sd_ret (eo_of (ed_if (td_eq g (u65 hr) (ed_var 2) ed_str) (ed_tup (ad_cons (ed_var 2) (ad_cons (ed_var 3) ad_nil))) (ed_tup (ad_cons (ed_var 2) (ad_cons (ed_var 3) (ad_cons (ed_var 4) ad_nil))))))))))
theorem d_law_wire (C : Cm fa fn tb K mg base) (CD : obsX td K = valX td w) (D_law_take : DefK P w K mg base 1 "_law_take" ["_law_feed_here", "_law_many"] [0] m_law_take k_law_take) (D_law_part : DefK P w K mg base 12 "_law_part" ["_law_feed_here", "_law_aliases"] [0] m_law_part k_law_part) : DefK P w K mg base 13 "_law_wire" ["_law_feed_here", "_law_aliases"] [0] m_law_wire k_law_wire := by
  obtain ⟨fd, F⟩ := C.says.def_ 24 (d := dd_law_wire) rfl
  exact ⟨_, fd, C.glo 63, fng_of (N := n_law_wire) (k := 12) F s_law_wire rfl rfl (by decide) fun cd A outer s H E hr g => b_law_wire C CD D_law_take D_law_part hr g, F.bindsN fun _ _ _ _ _ _ us hl => match us, hl with | [_, _], _ => rfl, F.kp, fun q hq => nomatch hq⟩
theorem slaw : FnScope nlaw ["_law_script"] (defScope (top 58)) := ⟨rfl, rfl, rfl, by decide +kernel, rfl, by decide +kernel, by decide +kernel⟩
theorem blaw (C : Cm fa fn tb K mg base) (CD : obsX td K = valX td w) (D_law_right : DefK P w K mg base 20 "_law_right" ["_law_pieces", "_law_wires"] [] m_law_right k_law_right) (D_law_feed : DefK P w K mg base 1 "_law_feed" ["_law_script", "_law_k"] [] m_law_feed k_law_feed) (D_law_take : DefK P w K mg base 1 "_law_take" ["_law_feed_here", "_law_many"] [0] m_law_take k_law_take) (D_law_label : DefK P w K mg base 2 "_law_label" ["_law_feed_here"] [0] m_law_label k_law_label) (D_law_part : DefK P w K mg base 12 "_law_part" ["_law_feed_here", "_law_aliases"] [0] m_law_part k_law_part) (D_law_wire : DefK P w K mg base 13 "_law_wire" ["_law_feed_here", "_law_aliases"] [0] m_law_wire k_law_wire) {f : Addr} {cd : Value} {A : Around} {outer : List Env} {s : Shared} {H : Hp} {E : XK} (hr : Room (20) (CxF P w K mg base nlaw "law" (defScope (top 58)) f cd A outer s H E).A) (g : Gd (CxF P w K mg base nlaw "law" (defScope (top 58)) f cd A outer s H E)) :
    SDs (CxF P w K mg base nlaw "law" (defScope (top 58)) f cd A outer s H E) (WF E) [] (defBody (top 58)) (M.seq (M.set 1 (M.own (M.tup (M.cons (M.frz (M.lst M.nil)) (M.cons (M.frz (M.lst M.nil)) M.nil)))))
  (M.seq (M.for (M.iter rangeD1 (M.cons (M.opL (two maxD) (M.cons (M.pure (.int 1)) (M.cons (M.opL (two minD) (M.cons (M.pure (.int 5)) (M.cons (M.opL (one lenD) (M.cons (M.rd 0) M.nil)) M.nil))) M.nil))) M.nil)) (gNameD 2)
  (M.seq (M.set 3 (M.call m_law_feed (M.aV (M.rd 0) (M.aV (M.rd 2) M.aNil))))
  (M.seq (M.set 4 (M.own (M.op2 itemD (M.frz (M.lst (M.cons (M.pure (.int 2)) (M.cons (M.pure (.int 1)) (M.cons (M.pure (.int 3)) (M.cons (M.pure (.int 1)) (M.cons (M.pure (.int 8)) (M.cons (M.pure (.int 2)) (M.cons (M.pure (.int 4)) (M.cons (M.pure (.int 2)) M.nil)))))))))) (M.frz (M.call m_law_take (M.aR 3 (M.aV (M.pure (.int 8)) M.aNil)))))))
  (M.seq (M.set 5 (M.own (M.frz (M.lc (M.iter rangeD1 (M.cons (M.op2 addB (M.pure (.int 1)) (M.frz (M.call m_law_take (M.aR 3 (M.aV (M.pure (.int 3)) M.aNil))))) M.nil)) (gNameD 12) [12] (M.pure true) (M.frz (M.call m_law_label (M.aR 3 M.aNil)))))))
  (M.seq (M.set 6 (M.lc (M.iter rangeD1 (M.cons (M.rd 4) M.nil)) (gNameD 12) [12] (M.pure true) (M.frz (M.call m_law_part (M.aR 3 (M.aV (M.rd 5) M.aNil))))))
  (M.seq (M.set 7 (M.lc (M.iter rangeD1 (M.cons (M.rd 4) M.nil)) (gNameD 12) [12] (M.pure true) (M.frz (M.call m_law_wire (M.aR 3 (M.aV (M.rd 5) M.aNil))))))
  (M.seq (M.set 8 (M.own (M.opL (one reprD) (M.cons (M.tup (M.cons (M.rd 6) (M.cons (M.rd 7) M.nil))) M.nil))))
  (M.seq (M.for (M.items (M.tup (M.cons (M.tup (M.cons (M.rd 6) (M.cons (M.rd 7) M.nil))) (M.cons (M.rd 1) (M.cons (M.tup (M.cons (M.rd 6) (M.cons (M.rd 7) M.nil))) M.nil))))) (gNameD 9)
  (M.ifS (M.not (M.trt (M.frz (M.call m_law_right (M.aV (M.op2 itemD (M.rd 9) (M.pure (.int 0))) (M.aV (M.op2 itemD (M.rd 9) (M.pure (.int 1))) M.aNil))))))
  (M.ret (M.own (M.pure (.bool false))))
  M.skip))
  (M.seq (M.ifS (M.tru (M.op2 neD (M.opL (one reprD) (M.cons (M.tup (M.cons (M.rd 6) (M.cons (M.rd 7) M.nil))) M.nil)) (M.rd 8)))
  (M.ret (M.own (M.pure (.bool false))))
  M.skip)
  (M.set 1 (M.own (M.tup (M.cons (M.rd 6) (M.cons (M.rd 7) M.nil))))))))))))))
  (M.seq (M.set 10 (M.own (M.tup (M.cons (M.pure (.str "cell")) (M.cons (M.pure (.str "lacking")) (M.cons (M.pure (.str "over")) M.nil))))))
  (M.seq (M.set 11 (M.own (M.tup (M.cons (M.pure (.str "less")) (M.cons (M.rd 10) (M.cons (M.tup (M.cons (M.pure (.str "number")) (M.cons (M.op2 subB (M.pure (.int 1)) (M.op2 powD (M.pure (.int 10)) (M.pure (.int 30)))) M.nil))) M.nil))))))
  (M.seq (M.for (M.iter rangeD1 (M.cons (M.pure (.int 2)) M.nil)) (gNameD 12)
  (M.set 11 (M.own (M.tup (M.cons (M.pure (.str "over")) (M.cons (M.rd 11) (M.cons (M.rd 11) M.nil)))))))
  (M.seq (M.set 13 (M.own (M.tup (M.cons (M.pure (.str "times")) (M.cons (M.tup (M.cons (M.pure (.str "number")) (M.cons (M.op1 negD (M.pure (.int 1))) M.nil))) (M.cons (M.tup (M.cons (M.pure (.str "plus")) (M.cons (M.tup (M.cons (M.pure (.str "number")) (M.cons (M.pure (.int 0)) M.nil))) (M.cons (M.tup (M.cons (M.pure (.str "times")) (M.cons (M.rd 10) (M.cons (M.tup (M.cons (M.pure (.str "over")) (M.cons (M.rd 10) (M.cons (M.tup (M.cons (M.pure (.str "number")) (M.cons (M.op2 subB (M.op2 powD (M.pure (.int 10)) (M.pure (.int 30))) (M.pure (.int 1))) M.nil))) M.nil)))) M.nil)))) M.nil)))) M.nil))))))
  (M.ret (M.call m_law_right (M.aV (M.frz (M.lst (M.cons (M.rd 10) (M.cons (M.rd 11) (M.cons (M.rd 13) M.nil))))) (M.aV (M.frz (M.lst (M.cons (M.tup (M.cons (M.pure (.str "lacking")) (M.cons (M.rd 10) M.nil))) (M.cons (M.tup (M.cons (M.pure (.str "below")) (M.cons (M.rd 11) (M.cons (M.rd 13) M.nil)))) (M.cons (M.tup (M.cons (M.pure (.str "alike")) (M.cons (M.rd 10) (M.cons (M.rd 10) M.nil)))) M.nil))))) M.aNil)))))))))) :=
  have nd : nlaw.Nodup := slaw.nd
  (sds_cons (sd_set 1 nd (by decide) (eo_of (ed_tup (ad_cons (ed_frz (eo_lst ad_nil)) (ad_cons (ed_frz (eo_lst ad_nil)) ad_nil)))))
  (sds_cons (sd_for passF rfl (id_rng1 rfl (C.free 37) (ad_cons (ed_callB (call_max2 rfl) cd_max rfl (C.free 39) (by decide +kernel) (ad_cons ed_int (ad_cons (ed_callB (call_min2 rfl) cd_min rfl (C.free 38) (by decide +kernel) (ad_cons ed_int (ad_cons (ed_callB call_lenP cd_len rfl (C.free 26) (by decide +kernel) (ad_cons (ed_var 0) ad_nil)) ad_nil))) ad_nil))) ad_nil)) (gv_gt (is := [2]) (gv_name 2 nd (by decide) (by decide)))
  (sds_cons (sd_set 3 nd (by decide) (eo_def D_law_feed g hr (takesF rfl) (aa_v (ed_var 0) (aa_v (ed_var 2) aa_nil)) (by omega)))
  (sds_cons (sd_set 4 nd (by decide) (eo_of (ed_ix (u65 hr) (ed_frz (eo_lst (ad_cons ed_int (ad_cons ed_int (ad_cons ed_int (ad_cons ed_int (ad_cons ed_int (ad_cons ed_int (ad_cons ed_int (ad_cons ed_int ad_nil)))))))))) (ed_frz (eo_def D_law_take g hr (takesF rfl) (aa_r 3 (aa_v ed_int aa_nil)) (by omega))))))
  (sds_cons (sd_set 5 nd (by decide) (eo_of (ed_frz (eo_lc [("_law_turn", 12)] rfl nd (id_rng1 rfl (C.free 37) (ad_cons (ed_addB ed_int (ed_frz (eo_def D_law_take g hr (takesF rfl) (aa_r 3 (aa_v ed_int aa_nil)) (by omega)))) ad_nil)) (blkOk_by (by show blkC nlaw (defScope (top 58)) _ _ = true; decide +kernel)) (by decide) (fun _ _ _ _ _ => (gv_name 12 nd (by decide) (by decide))) (fun _ _ _ _ _ => tds_nil) (fun _ _ _ _ _ => (ed_frz (eo_def D_law_label (Gd.blk g) hr takesW0 (aa_r 3 aa_nil) (by omega))))))))
  (sds_cons (sd_setLc 6 [("_law_turn", 12)] rfl nd (by decide) (id_rng1 rfl (C.free 37) (ad_cons (ed_var 4) ad_nil)) (blkOk_by (by show blkC nlaw (defScope (top 58)) _ _ = true; decide +kernel)) (by decide) (fun _ _ _ _ _ => (gv_name 12 nd (by decide) (by decide))) (fun _ _ _ _ _ => tds_nil) (fun _ _ _ _ _ => (ed_frz (eo_def D_law_part (Gd.blk g) hr takesW0 (aa_r 3 (aa_v (ed_var 5) aa_nil)) (by omega)))) (sw_true rfl rfl rfl rfl))
  (sds_cons (sd_setLc 7 [("_law_turn", 12)] rfl nd (by decide) (id_rng1 rfl (C.free 37) (ad_cons (ed_var 4) ad_nil)) (blkOk_by (by show blkC nlaw (defScope (top 58)) _ _ = true; decide +kernel)) (by decide) (fun _ _ _ _ _ => (gv_name 12 nd (by decide) (by decide))) (fun _ _ _ _ _ => tds_nil) (fun _ _ _ _ _ => (ed_frz (eo_def D_law_wire (Gd.blk g) hr takesW0 (aa_r 3 (aa_v (ed_var 5) aa_nil)) (by omega)))) (sw_true rfl rfl rfl rfl))
  (sds_cons (sd_set 8 nd (by decide) (eo_of (ed_callB (call_reprP g (u70 hr)) cd_repr rfl (C.free 35) (by decide +kernel) (ad_cons (ed_tup (ad_cons (ed_var 6) (ad_cons (ed_var 7) ad_nil))) ad_nil))))
  (sds_cons (sd_for passF rfl (id_any (ed_tup (ad_cons (ed_tup (ad_cons (ed_var 6) (ad_cons (ed_var 7) ad_nil))) (ad_cons (ed_var 1) (ad_cons (ed_tup (ad_cons (ed_var 6) (ad_cons (ed_var 7) ad_nil))) ad_nil))))) (gv_gt (is := [9]) (gv_name 9 nd (by decide) (by decide)))
  (sds_one (sd_if (td_not (td_trt (ed_frz (eo_def D_law_right g hr (takesF rfl) (aa_v (ed_ix (u65 hr) (ed_var 9) ed_int) (aa_v (ed_ix (u65 hr) (ed_var 9) ed_int) aa_nil)) (by omega)))))
  (sds_one (sd_ret (eo_of ed_bl)))
  sds_nil)))
  (sds_cons (sd_if (td_ne g (u65 hr) (ed_callB (call_reprP g (u70 hr)) cd_repr rfl (C.free 35) (by decide +kernel) (ad_cons (ed_tup (ad_cons (ed_var 6) (ad_cons (ed_var 7) ad_nil))) ad_nil)) (ed_var 8))
  (sds_one (sd_ret (eo_of ed_bl)))
  sds_nil)
  (sds_one (sd_set 1 nd (by decide) (eo_of (ed_tup (ad_cons (ed_var 6) (ad_cons (ed_var 7) ad_nil)))))))))))))))
  (sds_cons (sd_set 10 nd (by decide) (eo_of (ed_tup (ad_cons ed_str (ad_cons ed_str (ad_cons ed_str ad_nil))))))
  (sds_cons (sd_set 11 nd (by decide) (eo_of (ed_tup (ad_cons ed_str (ad_cons (ed_var 10) (ad_cons (ed_tup (ad_cons ed_str (ad_cons (ed_subB ed_int (ed_pow ed_int ed_int)) ad_nil))) ad_nil))))))
  (sds_cons (sd_for passF rfl (id_rng1 rfl (C.free 37) (ad_cons ed_int ad_nil)) (gv_gt (is := [12]) (gv_name 12 nd (by decide) (by decide)))
  (sds_one (sd_set 11 nd (by decide) (eo_of (ed_tup (ad_cons ed_str (ad_cons (ed_var 11) (ad_cons (ed_var 11) ad_nil))))))))
  (sds_cons (sd_set 13 nd (by decide) (eo_of (ed_tup (ad_cons ed_str (ad_cons (ed_tup (ad_cons ed_str (ad_cons (ed_neg ed_int) ad_nil))) (ad_cons (ed_tup (ad_cons ed_str (ad_cons (ed_tup (ad_cons ed_str (ad_cons ed_int ad_nil))) (ad_cons (ed_tup (ad_cons ed_str (ad_cons (ed_var 10) (ad_cons (ed_tup (ad_cons ed_str (ad_cons (ed_var 10) (ad_cons (ed_tup (ad_cons ed_str (ad_cons (ed_subB (ed_pow ed_int ed_int) ed_int) ad_nil))) ad_nil)))) ad_nil)))) ad_nil)))) ad_nil))))))
  (sds_one (sd_ret (eo_def D_law_right g hr (takesF rfl) (aa_v (ed_frz (eo_lst (ad_cons (ed_var 10) (ad_cons (ed_var 11) (ad_cons (ed_var 13) ad_nil))))) (aa_v (ed_frz (eo_lst (ad_cons (ed_tup (ad_cons ed_str (ad_cons (ed_var 10) ad_nil))) (ad_cons (ed_tup (ad_cons ed_str (ad_cons (ed_var 11) (ad_cons (ed_var 13) ad_nil)))) (ad_cons (ed_tup (ad_cons ed_str (ad_cons (ed_var 10) (ad_cons (ed_var 10) ad_nil)))) ad_nil))))) aa_nil)) (by omega))))))))))
end
end L77


set_option maxHeartbeats 2000000
namespace L77
open PySem PySem.Spec PyProof.Rows L2 DL
theorem facts {P : Program} {w : World} {K : PySem.W.Frag} {mg : Str → Option Value} {base : Heap} (C : Cm fa fn tb K mg base) (CD : obsX td K = valX td w) : ∃ fd, FnG P w K mg base 21 (He.ga K "law") fd ["_law_script"] [] mlaw := by
  have D_law_shown := d_law_shown (P := P) (w := w) C CD 8
  have D_law_wire_shown := d_law_wire_shown (P := P) (w := w) C CD D_law_shown
  have Dshow_part := dshow_part (P := P) (w := w) C CD 8
  have D_law_heard := d_law_heard C
  have Dshow_sieve := dshow_sieve (P := P) (w := w) C CD Dshow_part
  have DNoText___init__ := dNoText___init__ (P := P) (w := w) C
  have Dneed := dneed (P := P) (w := w) C CD DNoText___init__
  have Dnumber_in := dnumber_in (P := P) (w := w) C CD Dneed
  have Dis_name := dis_name (P := P) (w := w) C CD
  have Dleaf_in := dleaf_in (P := P) (w := w) C CD Dnumber_in Dis_name
  have Dpart_at := dpart_at (P := P) (w := w) C CD Dneed Dleaf_in 8
  have Dinner_parts := dinner_parts (P := P) (w := w) C CD
  have Dhow_many_parts := dhow_many_parts (P := P) (w := w) C CD Dinner_parts 8
  have Dwhole_part := dwhole_part (P := P) (w := w) C CD Dpart_at Dneed Dhow_many_parts
  have Dread_part := dread_part (P := P) (w := w) C CD Dneed Dwhole_part
  have Dwhole_sieve := dwhole_sieve (P := P) (w := w) C CD DNoText___init__ Dwhole_part
  have Dread_sieve := dread_sieve (P := P) (w := w) C CD Dneed Dwhole_sieve
  have D_law_right := d_law_right (P := P) (w := w) C CD D_law_shown D_law_wire_shown Dshow_part D_law_heard Dshow_sieve Dread_part Dread_sieve
  have D_law_feed := d_law_feed (P := P) (w := w) C CD
  have D_law_take := d_law_take (P := P) (w := w) C CD
  have D_law_label := d_law_label (P := P) (w := w) C CD D_law_take
  have D_law_number := d_law_number (P := P) (w := w) C CD D_law_take
  have D_law_piece := d_law_piece (P := P) (w := w) C CD D_law_take D_law_label D_law_number 8
  have D_law_part := d_law_part (P := P) (w := w) C CD D_law_piece D_law_take
  have D_law_wire := d_law_wire (P := P) (w := w) C CD D_law_take D_law_part
  obtain ⟨fd, F⟩ := C.says.def_ 25 (d := ddlaw) rfl
  exact ⟨fd, fng_of (N := nlaw) (k := 20) F slaw rfl rfl (by decide) fun cd A outer s H E hr g => blaw C CD D_law_right D_law_feed D_law_take D_law_label D_law_part D_law_wire hr g⟩
theorem facts2 {l : PySem.W.OpenLaw} {w : World} (K : PySem.W.Frag) (mg : Str → Option Value) (f : Addr) (h : Heap) (KX : K.In h) (G : h.Ns mainGlobals mg) (c0 : (He.SaysD fa fn K ∧ tbsOk tb K = true) ∧ obsX td K = valX td w) (hfa : mg ("law" : Str) = some (.ref f)) :
    ∃ fd : FuncData, (∀ (s : Shared) (u : Value), BindsTo s fd ⟨[u], []⟩ [("_law_script", u)]) ∧ ∀ base : Heap, K.In base → base.Ns mainGlobals mg → FnG l.prog w K mg base 21 f fd ["_law_script"] [] mlaw := by
  have c := c0.1
  have CD := c0.2
  have e := hfa.symm.trans ((⟨⟨KX, G, c.1⟩, c.2⟩ : Cm fa fn tb K mg h).glo 64)
  cases e
  obtain ⟨fd, F⟩ := c.1.def_ 25 (d := ddlaw) rfl
  refine ⟨fd, fun s u => FunD.bindsA (ps := ["_law_script"]) F (fun _ _ _ _ _ _ us hl => match us, hl with | [_], _ => rfl) s [u] rfl, fun base hb hn => ?_⟩
  have C : Cm fa fn tb K mg base := ⟨⟨hb, hn, c.1⟩, c.2⟩
  have D_law_shown := d_law_shown (P := l.prog) (w := w) C CD 8
  have D_law_wire_shown := d_law_wire_shown (P := l.prog) (w := w) C CD D_law_shown
  have Dshow_part := dshow_part (P := l.prog) (w := w) C CD 8
  have D_law_heard := d_law_heard C
  have Dshow_sieve := dshow_sieve (P := l.prog) (w := w) C CD Dshow_part
  have DNoText___init__ := dNoText___init__ (P := l.prog) (w := w) C
  have Dneed := dneed (P := l.prog) (w := w) C CD DNoText___init__
  have Dnumber_in := dnumber_in (P := l.prog) (w := w) C CD Dneed
  have Dis_name := dis_name (P := l.prog) (w := w) C CD
  have Dleaf_in := dleaf_in (P := l.prog) (w := w) C CD Dnumber_in Dis_name
  have Dpart_at := dpart_at (P := l.prog) (w := w) C CD Dneed Dleaf_in 8
  have Dinner_parts := dinner_parts (P := l.prog) (w := w) C CD
  have Dhow_many_parts := dhow_many_parts (P := l.prog) (w := w) C CD Dinner_parts 8
  have Dwhole_part := dwhole_part (P := l.prog) (w := w) C CD Dpart_at Dneed Dhow_many_parts
  have Dread_part := dread_part (P := l.prog) (w := w) C CD Dneed Dwhole_part
  have Dwhole_sieve := dwhole_sieve (P := l.prog) (w := w) C CD DNoText___init__ Dwhole_part
  have Dread_sieve := dread_sieve (P := l.prog) (w := w) C CD Dneed Dwhole_sieve
  have D_law_right := d_law_right (P := l.prog) (w := w) C CD D_law_shown D_law_wire_shown Dshow_part D_law_heard Dshow_sieve Dread_part Dread_sieve
  have D_law_feed := d_law_feed (P := l.prog) (w := w) C CD
  have D_law_take := d_law_take (P := l.prog) (w := w) C CD
  have D_law_label := d_law_label (P := l.prog) (w := w) C CD D_law_take
  have D_law_number := d_law_number (P := l.prog) (w := w) C CD D_law_take
  have D_law_piece := d_law_piece (P := l.prog) (w := w) C CD D_law_take D_law_label D_law_number 8
  have D_law_part := d_law_part (P := l.prog) (w := w) C CD D_law_piece D_law_take
  have D_law_wire := d_law_wire (P := l.prog) (w := w) C CD D_law_take D_law_part
  exact fng_of (N := nlaw) (k := 20) F slaw rfl rfl (by decide) fun cd A outer s H E hr g => blaw C CD D_law_right D_law_feed D_law_take D_law_label D_law_part D_law_wire hr g
end L77

set_option maxHeartbeats 400000
namespace L77
open PySem PySem.Spec PyProof.Rows L2 DL
local macro_rules | `(tactic| fail) => `(tactic| first
  | with_reducible refine Eq.mpr hs_seq ?_
  | ((with_reducible apply st_then); (try simp only [DL.putAll, List.set_cons_zero, List.set_cons_succ]); exact rfl)
  | with_reducible refine Eq.mpr then_rt ?_
  | with_reducible refine Eq.mpr hs_skip ?_
  | with_reducible refine st_set ?_
  | with_reducible refine Eq.mpr hs_own ?_
  | with_reducible refine Eq.mpr hs_frz ?_
  | with_reducible refine Eq.mpr hs_op2 ?_
  | with_reducible refine Eq.mpr hs_op1 ?_
  | with_reducible refine Eq.mpr hs_opL ?_
  | with_reducible refine Eq.mpr hs_cons ?_
  | with_reducible refine Eq.mpr hs_nil ?_
  | with_reducible refine Eq.mpr hs_lst ?_
  | with_reducible refine Eq.mpr hs_tup ?_
  | with_reducible refine Eq.mpr hs_pure ?_
  | ((with_reducible apply st_rdp); exact rfl)
  | with_reducible refine Eq.mpr hs_rd ?_
  | with_reducible refine Eq.mpr hs_mv ?_
  | with_reducible refine Eq.mpr hs_ro ?_
  | with_reducible refine Eq.mpr hs_ret ?_
  | with_reducible refine Eq.mpr hs_drop ?_
  | with_reducible refine Eq.mpr hs_ifS ?_
  | with_reducible refine Eq.mpr hs_ite ?_
  | with_reducible refine Eq.mpr hs_and ?_
  | with_reducible refine Eq.mpr hs_or ?_
  | with_reducible refine Eq.mpr hs_andV ?_
  | with_reducible refine Eq.mpr hs_orV ?_
  | with_reducible refine Eq.mpr hs_not ?_
  | with_reducible refine Eq.mpr hs_notV ?_
  | with_reducible refine Eq.mpr hs_tru ?_
  | with_reducible refine Eq.mpr hs_trt ?_
  | with_reducible refine Eq.mpr hs_isi ?_
  | with_reducible refine Eq.mpr hs_setI ?_
  | with_reducible refine Eq.mpr hs_call ?_
  | with_reducible refine Eq.mpr hs_aNil ?_
  | with_reducible refine Eq.mpr hs_aV ?_
  | with_reducible refine Eq.mpr hs_aR ?_
  | with_reducible refine Eq.mpr hs_aO ?_
  | with_reducible refine Eq.mpr hs_perm ?_
  | with_reducible refine Eq.mpr hs_iter ?_
  | with_reducible refine Eq.mpr hs_items ?_
  | with_reducible refine Eq.mpr hs_for ?_
  | with_reducible refine Eq.mpr hs_lc ?_
  | with_reducible refine Eq.mpr hs_slice ?_
  | with_reducible refine Eq.mpr hs_noEnd ?_
  | with_reducible refine Eq.mpr hs_anEnd ?_
  | with_reducible refine Eq.mpr hs_need ?_
  | with_reducible refine Eq.mpr hs_chg ?_
  | with_reducible refine Eq.mpr hs_bind ?_
  | with_reducible refine Eq.mpr hs_opO ?_
  | with_reducible refine Eq.mpr hs_disp ?_
  | with_reducible refine Eq.mpr hs_pairs ?_
  | with_reducible refine Eq.mpr hs_pairs0 ?_
  | with_reducible refine Eq.mpr iff2_t ?_
  | with_reducible refine Eq.mpr iff2_f ?_
  | with_reducible refine iff2_nf ?_
  | with_reducible refine iff2_nt ?_
  | with_reducible refine lp_nx ?_
  | with_reducible refine lp_ct ?_
  | with_reducible refine lp_bk ?_
  | with_reducible refine lp_rt ?_
  | with_reducible refine st_boolP ?_
  | with_reducible refine st_intP ?_
  | with_reducible refine st_trueB ?_
  | with_reducible refine st_add ?_
  | with_reducible refine st_sub ?_
  | with_reducible refine st_neg ?_
  | with_reducible refine st_lt ?_
  | with_reducible refine st_le ?_
  | with_reducible refine st_gt ?_
  | with_reducible refine st_ge ?_
  | with_reducible refine st_abs ?_
  | with_reducible refine st_lenL ?_
  | with_reducible refine st_lenT ?_
  | with_reducible refine st_intB ?_
  | with_reducible refine st_min ?_
  | with_reducible refine st_max ?_
  | with_reducible refine st_datL ?_
  | with_reducible refine st_datP ?_
  | with_reducible refine st_neints ?_
  | with_reducible refine st_nei ?_
  | with_reducible refine st_neb ?_
  | with_reducible refine st_eqi ?_
  | with_reducible refine st_itL ?_
  | with_reducible refine st_itT ?_
  | with_reducible refine st_enL ?_
  | with_reducible refine st_enT ?_
  | with_reducible refine st_mul (by first | exact mulC_l (by decide) | exact mulC_l (by omega) | exact mulC_r (by omega)) ?_
  | with_reducible refine st_div (divC_ok' (by omega) (by omega)) ?_
  | with_reducible refine st_mod (by omega) ?_
  | with_reducible refine st_pow (powC_ok' (by decide) (by decide) (by omega)) ?_
  | with_reducible refine st_rng1 (by omega) ?_
  | ((with_reducible apply st_sl); exact rfl)
  | ((with_reducible apply st_mv); exact rfl)
  | ((with_reducible apply st_ro); exact rfl)
  | ((with_reducible apply st_so); exact rfl)
  | ((with_reducible apply st_chg); exact rfl)
  | ((with_reducible apply st_take); exact rfl)
  | with_reducible refine st_and rfl ?_
  | with_reducible refine st_and (Nat.le_of_ble_eq_true rfl) ?_)

local macro_rules | `(tactic| fail) => `(tactic| first
  | with_reducible refine Eq.mpr hs_chain ?_
  | with_reducible refine hs_asgT ?_
  | with_reducible refine hs_rep ?_
  | with_reducible refine st_lenI ?_
  | with_reducible refine st_addI ?_
  | with_reducible refine st_subI ?_
  | ((with_reducible apply hs_augN); exact rfl))

local macro_rules | `(tactic| fail) => `(tactic| first
  | ((with_reducible apply st_perm); exact rfl)
  | with_reducible refine hs_dq2 ?_
  | with_reducible refine hs_get1 ?_
  | with_reducible refine hs_get2 ?_
  | with_reducible refine hs_lcK ?_
  | with_reducible refine hs_forK ?_)

local macro_rules | `(tactic| fail) => `(tactic| first
  | with_reducible refine st_eqLE ?_
  | with_reducible refine st_neLE ?_)

local macro_rules | `(tactic| fail) => `(tactic| ((with_reducible apply st_then); (try simp only [DL.putAll, restE, wipeE, pickP, List.set_cons_zero, List.set_cons_succ, List.getElem?_cons_zero, List.getElem?_cons_succ]); exact rfl))

local macro_rules | `(tactic| fail) => `(tactic| first
  | ((with_reducible apply st_frzX); exact rfl; exact data_lst)
  | with_reducible refine st_addBI ?_
  | with_reducible refine st_subBI ?_)

section
def pen (gr sd ct : Int) : OD := .lst [.pur (.int gr), .pur (.int sd), .pur (.int ct)]
section
variable {gr sd ct x : Int} {env : DEnv} {Q : PyData → Prop} {Q' : OD → Prop}
theorem pen_g (h : sl env 0 = some (pen gr sd ct)) (q : Q (.int gr)) : Bd ((ixO (slotO 0) (fun _ => some (.int 0)) env).bind purD) Q := by
  have : ixO (slotO 0) (fun _ => some (.int 0)) env = some (.pur (.int gr)) := by show ((sl env 0).bind _) = _; rw [h]; rfl
  rw [this]; exact ⟨_, rfl, q⟩
theorem pen_s (h : sl env 0 = some (pen gr sd ct)) (q : Q (.int sd)) : Bd ((ixO (slotO 0) (fun _ => some (.int 1)) env).bind purD) Q := by
  have : ixO (slotO 0) (fun _ => some (.int 1)) env = some (.pur (.int sd)) := by show ((sl env 0).bind _) = _; rw [h]; rfl
  rw [this]; exact ⟨_, rfl, q⟩
theorem pen_c (h : sl env 0 = some (pen gr sd ct)) (q : Q (.int ct)) : Bd ((ixO (slotO 0) (fun _ => some (.int 2)) env).bind purD) Q := by
  have : ixO (slotO 0) (fun _ => some (.int 2)) env = some (.pur (.int ct)) := by show ((sl env 0).bind _) = _; rw [h]; rfl
  rw [this]; exact ⟨_, rfl, q⟩
theorem pen_sg (h : sl env 0 = some (pen gr sd ct)) (q : Q' (pen x sd ct)) : Bd ((sl env 0).bind fun c => setO c (.int 0) (.pur (.int x))) Q' := by
  rw [h]; exact ⟨_, rfl, q⟩
theorem pen_sc (h : sl env 0 = some (pen gr sd ct)) (q : Q' (pen gr sd x)) : Bd ((sl env 0).bind fun c => setO c (.int 2) (.pur (.int x))) Q' := by
  rw [h]; exact ⟨_, rfl, q⟩
end
theorem st_addBI {i j : Int} {Q : PyData → Prop} (q : Q (.int (i + j))) : Bd (addB (.int i) (.int j)) Q := ⟨_, rfl, q⟩
theorem st_subBI {i j : Int} {Q : PyData → Prop} (q : Q (.int (i - j))) : Bd (subB (.int i) (.int j)) Q := ⟨_, rfl, q⟩
theorem st_addBL {xs ys : List PyData} {Q : PyData → Prop} (h : xs.length + ys.length ≤ lim) (q : Q (.list (xs ++ ys))) : Bd (addB (.list xs) (.list ys)) Q := ⟨_, by show (if _ then _ else _) = _; exact if_pos h, q⟩
local macro_rules | `(tactic| fail) => `(tactic| first
  | ((with_reducible apply pen_g); exact rfl)
  | ((with_reducible apply pen_s); exact rfl)
  | ((with_reducible apply pen_c); exact rfl)
  | ((with_reducible apply pen_sg); exact rfl)
  | ((with_reducible apply pen_sc); exact rfl)
  | with_reducible refine st_addBI ?_
  | with_reducible refine st_subBI ?_)
set_option maxHeartbeats 0 in
theorem take_ok {gr sd ct many : Int} (hm : 0 < many) (hm2 : many < 2 ^ 60) (hg : 0 ≤ gr) (hs0 : 0 ≤ sd) (hs : sd < 2 ^ 31) (hc : 0 ≤ ct) (hc2 : ct < 100000) :
    Hs (m_law_take [some (pen gr sd ct), some (.pur (.int many))]) fun x outs => ∃ d gr' ct', x = .pur (.int d) ∧ (0 ≤ d ∧ d < many) ∧ outs = [some (pen gr' sd ct'), none] ∧ ct ≤ ct' ∧ ct' ≤ ct + 1 ∧ 0 ≤ gr' := by
  unfold m_law_take
  refine hs_runE (env := [some (pen gr sd ct), some (.pur (.int many))]) [some (pen gr sd ct), some (.pur (.int many)), none, none, none] rfl rfl ?_
  repeat fail
  refine iff2_of (fun h => ?_) fun h => ?_
  · repeat fail
    exact ⟨_, gr.fdiv many, ct, rfl, fm _ hm, rfl, by omega, by omega, Int.fdiv_nonneg hg (by omega)⟩
  · repeat fail
    generalize hm1 : Int.fmod (sd + 40692 * (ct + 1) * (ct + 1) + 69621 * (ct + 1)) 2147483647 = m1
    have q1 : 0 ≤ m1 ∧ m1 < 2147483647 := by rw [← hm1]; exact fm _ (by decide)
    clear hm1
    repeat fail
    generalize hm2 : Int.fmod (m1 * m1 + 39373 * m1 + (ct + 1)) 2147483579 = m2
    have q2 : 0 ≤ m2 ∧ m2 < 2147483579 := by rw [← hm2]; exact fm _ (by decide)
    clear hm2
    repeat fail
    exact ⟨_, gr, ct + 1, rfl, fm _ hm, rfl, by omega, by omega, hg⟩
theorem st_tk {gr sd ct many : Int} (hm : 0 < many) (hm2 : many < 2 ^ 60) (hg : 0 ≤ gr) (hs0 : 0 ≤ sd) (hs : sd < 2 ^ 31) (hc : 0 ≤ ct) (hc2 : ct < 100000) {Q : OD → DEnv → Prop}
    (q : ∀ d gr' ct', 0 ≤ d → d < many → ct ≤ ct' → ct' ≤ ct + 1 → 0 ≤ gr' → Q (.pur (.int d)) [some (pen gr' sd ct'), none]) : Hs (m_law_take [some (pen gr sd ct), some (.pur (.int many))]) Q := by
  refine (take_ok hm hm2 hg hs0 hs hc hc2).mono ?_
  rintro x outs ⟨d, g', c', rfl, ⟨h1, h2⟩, rfl, h3, h4, h5⟩
  exact q d g' c' h1 h2 h3 h4 h5
end
section
local macro_rules | `(tactic| fail) => `(tactic| first
  | ((with_reducible apply pen_g); exact rfl)
  | ((with_reducible apply pen_s); exact rfl)
  | ((with_reducible apply pen_c); exact rfl)
  | ((with_reducible apply pen_sg); exact rfl)
  | ((with_reducible apply pen_sc); exact rfl)
  | with_reducible refine st_addBI ?_
  | with_reducible refine st_subBI ?_
  | ((with_reducible refine st_tk (by omega) (by omega) (by omega) (by omega) (by omega) (by omega) (by omega) ?_); intro _ _ _ _ _ _ _ _))
theorem feed_ok {ns : List Int} {k : Nat} (hk : k < 63) {Q : OD → DEnv → Prop} (q : ∀ g sd, 0 ≤ g → 0 ≤ sd → sd < 2 ^ 31 → Q (pen g sd 0) [none, none]) : Hs (m_law_feed [some (.pur (.list (ns.map .int))), some (.pur (.int (k : Int)))]) Q := by
  have hln : ∀ {Q : PyData → Prop}, Q (.int ns.length) → Bd (one lenD [.list (ns.map .int)]) Q := fun q => by
    refine st_lenL ?_
    rw [List.length_map]
    exact q
  have hit : ∀ {Q : PyData → Prop}, k < ns.length → (∀ c, Q (.int c)) → Bd (itemD (.list (ns.map .int)) (.int (k : Int))) Q := fun h q => st_itemL (List.getElem?_eq_getElem h) (q _)
  generalize PyData.list (ns.map .int) = A at hln hit ⊢
  unfold m_law_feed
  refine hs_runE (env := [some (.pur A), some (.pur (.int (k : Int)))]) [some (.pur A), some (.pur (.int (k : Int))), none, none] rfl rfl ?_
  repeat fail
  refine hln ?_
  repeat fail
  refine iff2_of (fun h => ?_) fun h => ?_
  · repeat fail
    refine hit (by simpa using h) fun c => ?_
    repeat fail
    rw [show (10 : Int) ^ Int.toNat 18 = 10 ^ 18 from rfl]
    have h1 := fm c (m := 2147483423) (by decide)
    refine iff2_of (fun h => ?_) fun h => ?_
    · repeat fail
      have h2 := fm (c.fmod 2147483423 * 48271 + 6151 * (k : Int) + 17) (m := 2147483423) (by decide)
      exact q _ _ (by decide) h2.1 (by omega)
    · repeat fail
      have h2 := fm (c.fmod 2147483423 * 48271 + 6151 * (k : Int) + 17) (m := 2147483423) (by decide)
      exact q _ _ (by omega) h2.1 (by omega)
  · repeat fail
    rw [show (10 : Int) ^ Int.toNat 18 = 10 ^ 18 from rfl]
    have h1 := fm 0 (m := 2147483423) (by decide)
    refine iff2_of (fun h => ?_) fun h => ?_
    · repeat fail
      have h2 := fm ((0 : Int).fmod 2147483423 * 48271 + 6151 * (k : Int) + 17) (m := 2147483423) (by decide)
      exact q _ _ (by decide) h2.1 (by omega)
    · repeat fail
      have h2 := fm ((0 : Int).fmod 2147483423 * 48271 + 6151 * (k : Int) + 17) (m := 2147483423) (by decide)
      exact q _ _ (by omega) h2.1 (by omega)
/-! names -/
def letters : Str := "abcdefghijklmnopqrstuvwxyz"
def low (c : Nat) : Prop := 97 ≤ c ∧ c ≤ 122
structure Lab (w : Str) : Prop where
  l1 : 1 ≤ w.length
  l8 : w.length ≤ 8
  lo : ∀ c ∈ w.cps.toList, low c
def labB (w : Str) : Bool := (decide (1 ≤ w.length) && decide (w.length ≤ 8)) && w.cps.toList.all fun c => decide (97 ≤ c) && decide (c ≤ 122)
theorem lab_of {w : Str} (h : labB w = true) : Lab w := by
  unfold labB at h
  rw [Bool.and_eq_true, Bool.and_eq_true] at h
  refine ⟨of_decide_eq_true h.1.1, of_decide_eq_true h.1.2, fun c hc => ?_⟩
  have := List.all_eq_true.mp h.2 c hc
  rw [Bool.and_eq_true] at this
  exact ⟨of_decide_eq_true this.1, of_decide_eq_true this.2⟩
theorem letter_ok : ((List.range 26).all fun k => match itemD (.str letters) (.int (k : Int)) with
  | some (.str x) => (match x.cps.toList with | [c] => decide (97 ≤ c) && decide (c ≤ 122) | _ => false)
  | _ => false) = true := by decide +kernel
theorem one_of {l : List Nat} (h : (match l with | [c] => decide (97 ≤ c) && decide (c ≤ 122) | _ => false) = true) : ∃ c, l = [c] ∧ low c := by
  cases l with
  | nil => cases h
  | cons c l =>
    cases l with
    | nil =>
      rw [Bool.and_eq_true] at h
      exact ⟨c, rfl, of_decide_eq_true h.1, of_decide_eq_true h.2⟩
    | cons _ _ => cases h
theorem letter_at {d : Int} (h : 0 ≤ d) (h2 : d < 26) : ∃ x : Str, itemD (.str letters) (.int d) = some (.str x) ∧ ∃ c, x.cps.toList = [c] ∧ low c := by
  obtain ⟨k, rfl⟩ := Int.eq_ofNat_of_zero_le h
  have := List.all_eq_true.mp letter_ok k (List.mem_range.mpr (by omega))
  generalize itemD (.str letters) (.int ((k : Nat) : Int)) = o at this ⊢
  match o, this with
  | some (.str x), h => exact ⟨x, rfl, one_of h⟩
theorem len_cps (x : Str) : x.length = x.cps.toList.length := by
  show x.cps.size = _
  rw [Array.length_toList]
theorem app_cps (a b : Str) : (a ++ b).cps.toList = a.cps.toList ++ b.cps.toList := by
  show (a.cps ++ b.cps).toList = _
  rw [Array.toList_append]
theorem join_cps : ∀ ys : List Str, (Str.join (Str.ofString "") ys).cps.toList = ys.flatMap fun y => y.cps.toList
  | [] => rfl
  | [x] => by simp [Str.join]
  | x :: y :: ys => by
    show (x ++ Str.ofString "" ++ Str.join (Str.ofString "") (y :: ys)).cps.toList = _
    rw [app_cps, app_cps, join_cps (y :: ys), List.flatMap_cons]
    congr 1
    show _ ++ [] = _
    rw [List.append_nil]
theorem join_lab {ys : List Str} (h : ∀ y ∈ ys, ∃ c, y.cps.toList = [c] ∧ low c) (h1 : 1 ≤ ys.length) (h8 : ys.length ≤ 8) : Lab (Txt.join (Str.ofString "") ys) := by
  have e : Txt.join (Str.ofString "") ys = Str.join (Str.ofString "") ys := by
    show Builtin.Str.glued (Str.ofString "") ys = _
    exact StrLaws.glued_eq_join _ _
  have hl : ∀ ys : List Str, (∀ y ∈ ys, ∃ c, y.cps.toList = [c] ∧ low c) → (ys.flatMap fun y => y.cps.toList).length = ys.length := fun ys => by
    induction ys with
    | nil => intro _; rfl
    | cons y ys ih =>
      intro h
      obtain ⟨c, hc, _⟩ := h y List.mem_cons_self
      rw [List.flatMap_cons, hc, List.length_append, ih fun z hz => h z (List.mem_cons_of_mem _ hz)]
      simp; omega
  rw [e]
  refine ⟨?_, ?_, fun c hc => ?_⟩
  · rw [len_cps, join_cps, hl ys h]; exact h1
  · rw [len_cps, join_cps, hl ys h]; exact h8
  · rw [join_cps] at hc
    obtain ⟨y, hy, hc⟩ := List.mem_flatMap.mp hc
    obtain ⟨d, hd, hlo⟩ := h y hy
    rw [hd] at hc
    rw [List.mem_singleton.mp hc]
    exact hlo
theorem strs_map : ∀ ys : List Str, strsD (ys.map PyData.str) = some ys
  | [] => rfl
  | y :: ys => by
    rw [List.map_cons]
    show (strsD (ys.map PyData.str)).map _ = _
    rw [strs_map ys]
    rfl
theorem hs_join {mo me : M PyData} {env : DEnv} {Q : PyData → DEnv → Prop} (h : Hs (mo env) fun d e => isStr d = true ∧ Hs (me e) fun c e => Bd (joinD d c) fun z => Q z e) : Hs (M.join mo me env) Q := by
  unfold M.join
  rw [hs_bind]
  refine h.mono ?_
  rintro d e ⟨h1, h2⟩
  rw [if_pos h1, hs_bind]
  refine h2.mono fun c e h3 => ?_
  rw [hs_opt]
  exact h3
local macro_rules | `(tactic| fail) => `(tactic| with_reducible refine hs_join ?_)
set_option maxHeartbeats 0 in
theorem label_ok {g sd ct : Int} (hg : 0 ≤ g) (hs0 : 0 ≤ sd) (hs : sd < 2 ^ 31) (hc : 0 ≤ ct) (hc2 : ct < 90000) {Q : OD → DEnv → Prop}
    (q : ∀ (w : Str) g' c', Lab w → 0 ≤ g' → ct ≤ c' → c' ≤ ct + 10 → Q (.pur (.str w)) [some (pen g' sd c')]) : Hs (m_law_label [some (pen g sd ct)]) Q := by
  unfold m_law_label
  refine hs_runE [_, none, none, none, none, none] rfl rfl ?_
  repeat fail
  rename_i d0 g0 c0 e1 e2 e3 e4 e5
  refine st_ixLm e1 (by simpa using e2) fun z hz => ?_
  have hz' : ∃ v : Int, z = .int v ∧ 1 ≤ v ∧ v ≤ 8 := by
    simp only [List.mem_cons, List.not_mem_nil, or_false] at hz
    rcases hz with rfl | rfl | rfl | rfl
    · exact ⟨1, rfl, by omega, by omega⟩
    · exact ⟨1, rfl, by omega, by omega⟩
    · exact ⟨2, rfl, by omega, by omega⟩
    · exact ⟨8, rfl, by omega, by omega⟩
  clear hz
  obtain ⟨v, rfl, v1, v2⟩ := hz'
  repeat fail
  have hw : ∀ z ∈ ([.str "with", .str "none", .str "on", .str "sieve", .str "lacking", .str "tell", .str "sum", .str "order", .str "up", .str "a", .str "b", .str "zzzzzzzz"] : List PyData), ∃ w, z = .str w ∧ Lab w := fun z hz => by
    simp only [List.mem_cons, List.not_mem_nil, or_false] at hz
    rcases hz with rfl | rfl | rfl | rfl | rfl | rfl | rfl | rfl | rfl | rfl | rfl | rfl <;> exact ⟨_, rfl, lab_of (by decide +kernel)⟩
  have hwl : ([.str "with", .str "none", .str "on", .str "sieve", .str "lacking", .str "tell", .str "sum", .str "order", .str "up", .str "a", .str "b", .str "zzzzzzzz"] : List PyData).length = 12 := rfl
  generalize ([.str "with", .str "none", .str "on", .str "sieve", .str "lacking", .str "tell", .str "sum", .str "order", .str "up", .str "a", .str "b", .str "zzzzzzzz"] : List PyData) = WD at hw hwl ⊢
  rw [rangeL01]
  refine hs_lcN (fun i acc e => ∃ g1 c1, e = [some (pen g1 sd c1), some (.pur (.str letters)), some (.pur (.list WD)), some (.pur (.int v)), none, none] ∧ 0 ≤ g1 ∧ c0 ≤ c1 ∧ c1 ≤ c0 + i ∧ ∃ ys : List Str, acc = ys.map .str ∧ ys.length = i ∧ ∀ y ∈ ys, ∃ c, y.cps.toList = [c] ∧ low c) ?_ ⟨g0, c0, rfl, e5, by omega, by omega, [], rfl, rfl, fun y hy => by cases hy⟩ ?_
  · rintro i d hd acc e ⟨g1, c1, rfl, f1, f2, f3, ys, rfl, hl, hys⟩
    obtain ⟨k, hk, rfl⟩ := map_get hd
    have hi : i < 8 := by
      have := (List.getElem?_eq_some_iff.mp hk).1
      rw [List.length_range] at this
      omega
    refine ⟨[some (pen g1 sd c1), some (.pur (.str letters)), some (.pur (.list WD)), some (.pur (.int v)), none, some (.pur (.int (k : Int)))], rfl, ?_⟩
    repeat fail
    rw [if_pos rfl]
    repeat fail
    rename_i d2 g2 c2 f4 f5 f6 f7 f8
    obtain ⟨x, hx, hx1⟩ := letter_at f4 f5
    refine st_bd hx ?_
    refine ⟨g2, c2, rfl, f8, by omega, by omega, ys ++ [x], by simp, by simp [hl], fun y hy => ?_⟩
    rcases List.mem_append.mp hy with h | h
    · exact hys y h
    · rw [List.mem_singleton.mp h]; exact hx1
  · rintro ys e ⟨g1, c1, rfl, f1, f2, f3, zs, rfl, hl, hzs⟩
    rw [List.length_map, List.length_range] at hl f3
    refine st_and (by rw [List.length_map]; omega) ?_
    refine st_datL ?_
    have hlab := join_lab hzs (by omega) (by omega)
    refine st_bd (a := .str (Txt.join (Str.ofString "") zs)) (by
      show (strsD (zs.map PyData.str)).bind _ = _
      rw [strs_map, Option.bind_some]
      refine if_pos ?_
      have : (zs.map (·.length)).sum ≤ 8 := by
        have h1 : ∀ zs : List Str, (∀ y ∈ zs, ∃ c, y.cps.toList = [c] ∧ low c) → (zs.map (·.length)).sum = zs.length := fun zs => by
          induction zs with
          | nil => intro _; rfl
          | cons y ys ih =>
            intro h
            obtain ⟨c, hc, _⟩ := h y List.mem_cons_self
            rw [List.map_cons, List.sum_cons, ih fun z hz => h z (List.mem_cons_of_mem _ hz), len_cps, hc]
            simp; omega
        rw [h1 zs hzs]; omega
      have h0 : (Str.ofString "").length = 0 := by decide
      rw [h0]
      simp only [lim]
      omega) ?_
    generalize Txt.join (Str.ofString "") zs = sp at hlab ⊢
    repeat fail
    refine st_and ⟨by omega, by omega, by simp [lim]⟩ ?_
    rw [show Int.toNat 4 = 4 from rfl, show ((List.replicate 4 [PyData.str sp]).flatten : List PyData) = [.str sp, .str sp, .str sp, .str sp] from rfl]
    refine st_datL ?_
    refine st_addBL (by rw [hwl]; simp [lim]) ?_
    repeat fail
    rename_i d3 g3 c3 f4 f5 f6 f7 f8
    refine st_ixLm f4 (by rw [List.length_append, hwl]; exact f5) fun z hz => ?_
    have hz' : ∃ w, z = .str w ∧ Lab w := by
      rcases List.mem_append.mp hz with h | h
      · exact hw z h
      · simp only [List.mem_cons, List.not_mem_nil, or_false, or_self] at h
        exact ⟨sp, h, hlab⟩
    obtain ⟨w, rfl, hw'⟩ := hz'
    exact q w g3 c3 hw' f8 (by omega) (by omega)
set_option maxHeartbeats 0 in
theorem number_ok {g sd ct : Int} (hg : 0 ≤ g) (hs0 : 0 ≤ sd) (hs : sd < 2 ^ 31) (hc : 0 ≤ ct) (hc2 : ct < 90000) {Q : OD → DEnv → Prop}
    (q : ∀ (i : Int) g' c', i.natAbs < 10 ^ 30 → 0 ≤ g' → ct ≤ c' → c' ≤ ct + 2 → Q (.pur (.int i)) [some (pen g' sd c')]) : Hs (m_law_number [some (pen g sd ct)]) Q := by
  unfold m_law_number
  refine hs_runE [_, none, none] rfl rfl ?_
  repeat fail
  rw [show (10 : Int) ^ Int.toNat 6 = 1000000 from rfl]
  repeat fail
  rw [show (10 : Int) ^ Int.toNat 30 = 1000000000000000000000000000000 from rfl]
  repeat fail
  rename_i d1 g1 c1 e1 e2 e3 e4 e5 d2 g2 c2 f1 f2 f3 f4 f5
  refine st_ixLm f1 (by simpa using f2) fun z hz => ?_
  have m1 := fm d1 (m := 15) (by decide)
  have m2 := fm d1 (m := 4) (by decide)
  have hz' : ∃ i : Int, z = .int i ∧ i.natAbs < 10 ^ 30 := by
    rw [show (10 : Nat) ^ 30 = 1000000000000000000000000000000 from rfl]
    simp only [List.mem_cons, List.not_mem_nil, or_false] at hz
    rcases hz with rfl | rfl | rfl | rfl | rfl | rfl | rfl | rfl | rfl | rfl
    all_goals exact ⟨_, rfl, by omega⟩
  obtain ⟨i, rfl, hi⟩ := hz'
  exact q i g2 c2 hi f5 (by omega) (by omega)
end
section
def prC (c : Nat) : Bool := c == 10 || (decide (32 ≤ c) && decide (c < 127))
def pr (x : Str) : Prop := ∀ c ∈ x.cps.toList, prC c = true
theorem prC_lt {c : Nat} (h : prC c = true) : c < 128 := by
  unfold prC at h
  rw [Bool.or_eq_true, Bool.and_eq_true] at h
  rcases h with h | h
  · have := eq_of_beq h; omega
  · have := of_decide_eq_true h.2; omega
theorem lab_pr {x : Str} (h : Lab x) : pr x := fun c hc => by
  obtain ⟨h1, h2⟩ := h.lo c hc
  unfold prC
  rw [Bool.or_eq_true, Bool.and_eq_true]
  exact .inr ⟨decide_eq_true (by omega), decide_eq_true (by omega)⟩
theorem rc_all : ((List.range 128).all fun c => !prC c || ([34, 39].all fun q => decide ((Builtin.Str.reprChar q c).length ≤ 2) && (Builtin.Str.reprChar q c).all fun d => decide (d < 128))) = true := by decide +kernel
theorem rc {q c : Nat} (hq : q = 34 ∨ q = 39) (h : prC c = true) : (Builtin.Str.reprChar q c).length ≤ 2 ∧ ∀ d ∈ Builtin.Str.reprChar q c, d < 128 := by
  have h1 := List.all_eq_true.mp rc_all c (List.mem_range.mpr (prC_lt h))
  rw [h, Bool.not_true, Bool.false_or] at h1
  have h2 := List.all_eq_true.mp h1 q (by simp only [List.mem_cons, List.not_mem_nil, or_false]; exact hq)
  rw [Bool.and_eq_true] at h2
  exact ⟨of_decide_eq_true h2.1, fun d hd => of_decide_eq_true (List.all_eq_true.mp h2.2 d hd)⟩
theorem fold_rc {q : Nat} (hq : q = 34 ∨ q = 39) : ∀ (l : List Nat) (acc : Array Nat), (∀ c ∈ l, prC c = true) → (∀ d ∈ acc.toList, d < 128) →
    (l.foldl (fun out c => out ++ (Builtin.Str.reprChar q c).toArray) acc).size ≤ acc.size + 2 * l.length ∧ ∀ d ∈ (l.foldl (fun out c => out ++ (Builtin.Str.reprChar q c).toArray) acc).toList, d < 128
  | [], acc, _, h => ⟨by simp, h⟩
  | c :: l, acc, hl, h => by
    obtain ⟨r1, r2⟩ := rc hq (hl c List.mem_cons_self)
    have := fold_rc hq l (acc ++ (Builtin.Str.reprChar q c).toArray) (fun d hd => hl d (List.mem_cons_of_mem _ hd)) (fun d hd => by
      rw [Array.toList_append] at hd
      rcases List.mem_append.mp hd with z | z
      · exact h d z
      · exact r2 d z)
    refine ⟨?_, this.2⟩
    refine Nat.le_trans this.1 ?_
    rw [Array.size_append, List.size_toArray, List.length_cons]
    have r1' : (Builtin.Str.reprChar q c).length ≤ 2 := r1
    exact Nat.le_trans (Nat.add_le_add_right (Nat.add_le_add_left r1' _) _) (by omega)
theorem gw_pr {x : Str} (h : pr x) : Gv (.str x) 0 (2 * x.length + 2) := by
  have hq : reprQuote x = 34 ∨ reprQuote x = 39 := by unfold reprQuote; split <;> simp
  have key := fold_rc hq x.cps.toList #[reprQuote x] (fun c hc => h c hc) (fun d hd => by
    rw [List.mem_singleton.mp hd]
    rcases hq with e | e <;> rw [e] <;> decide)
  have e1 : reprText x = ⟨(x.cps.toList.foldl (fun out c => out ++ (Builtin.Str.reprChar (reprQuote x) c).toArray) #[reprQuote x]).push (reprQuote x)⟩ := by
    unfold reprText
    rw [Array.foldl_toList]
  have hs : PyData.shown (.str x) = reprText x := rfl
  refine ⟨?_, by simp [PyData.depth], ?_, ?_⟩
  · rfl
  · rw [hs]
    refine okS_iff.mpr fun c hc => ?_
    rw [e1] at hc
    rw [Array.toList_push] at hc
    rcases List.mem_append.mp hc with z | z
    · exact Nat.lt_trans (key.2 c z) (by decide)
    · rw [List.mem_singleton.mp z]
      rcases hq with e | e <;> rw [e] <;> decide
  · rw [hs, e1]
    show (Array.push _ _).size ≤ _
    rw [Array.size_push]
    have := key.1
    have h2 := len_cps x
    simp only [List.size_toArray, List.length_singleton] at this
    omega

inductive Pt where
  | cell (a b : Str)
  | num (i : Int)
  | two (w : Nat) (p q : Pt)
def wd : Nat → Str
  | 0 => "plus"
  | 1 => "less"
  | 2 => "times"
  | _ => "over"
namespace Pt
def toD : Pt → PyData
  | cell a b => .tuple [.str "cell", .str a, .str b]
  | num i => .tuple [.str "number", .int i]
  | two w p q => .tuple [.str (wd w), toD p, toD q]
def Ok : Nat → Pt → Prop
  | 0, _ => False
  | _ + 1, cell a b => Lab a ∧ Lab b
  | _ + 1, num i => i.natAbs < 10 ^ 30
  | d + 1, two w p q => w < 4 ∧ Ok d p ∧ Ok d q
def nodes : Pt → Nat
  | cell _ _ => 1
  | num _ => 1
  | two _ p q => 1 + nodes p + nodes q
end Pt
def bnd : Nat → Nat
  | 0 => 40
  | k + 1 => (bnd k + 2) * 3 + 3
theorem bnd_ge : ∀ k, 40 ≤ bnd k
  | 0 => Nat.le_refl _
  | k + 1 => by have := bnd_ge k; rw [bnd]; omega
theorem gw_wd : ∀ w : Nat, Gv (.str (wd w)) 0 40
  | 0 => ⟨by decide +kernel, by decide +kernel, by decide +kernel, by decide +kernel⟩
  | 1 => ⟨by decide +kernel, by decide +kernel, by decide +kernel, by decide +kernel⟩
  | 2 => ⟨by decide +kernel, by decide +kernel, by decide +kernel, by decide +kernel⟩
  | _ + 3 => (show Gv (.str "over") 0 40 from ⟨by decide +kernel, by decide +kernel, by decide +kernel, by decide +kernel⟩)
theorem gw_cellw : Gv (.str "cell") 0 40 := ⟨by decide +kernel, by decide +kernel, by decide +kernel, by decide +kernel⟩
theorem gw_numw : Gv (.str "number") 0 40 := ⟨by decide +kernel, by decide +kernel, by decide +kernel, by decide +kernel⟩
theorem gw_lab {x : Str} (h : Lab x) : Gv (.str x) 0 40 := (gw_pr (lab_pr h)).up (Nat.le_refl _) (by have := h.l8; omega)
theorem gvP : ∀ (d : Nat) (t : Pt), t.Ok d → Gv t.toD d (bnd d)
  | 0, _, h => h.elim
  | d + 1, .cell a b, h => by
    have B := bnd_ge d
    refine (gw_tup (n := d) (B := bnd d) fun x hx => ?_).up (Nat.le_refl _) (Nat.le_refl _)
    simp only [List.mem_cons, List.not_mem_nil, or_false] at hx
    rcases hx with rfl | rfl | rfl
    · exact gw_cellw.up (Nat.zero_le _) B
    · exact (gw_lab h.1).up (Nat.zero_le _) B
    · exact (gw_lab h.2).up (Nat.zero_le _) B
  | d + 1, .num i, h => by
    have B := bnd_ge d
    refine (gw_tup (n := d) (B := bnd d) fun x hx => ?_).up (Nat.le_refl _) (by show (bnd d + 2) * 2 + 3 ≤ (bnd d + 2) * 3 + 3; omega)
    simp only [List.mem_cons, List.not_mem_nil, or_false] at hx
    rcases hx with rfl | rfl
    · exact gw_numw.up (Nat.zero_le _) B
    · exact (gw_intB (k := 30) (by decide) (by decide) h).up (Nat.zero_le _) (by omega)
  | d + 1, .two w p q, h => by
    have B := bnd_ge d
    refine (gw_tup (n := d) (B := bnd d) fun x hx => ?_).up (Nat.le_refl _) (Nat.le_refl _)
    simp only [List.mem_cons, List.not_mem_nil, or_false] at hx
    rcases hx with rfl | rfl | rfl
    · exact (gw_wd w).up (Nat.zero_le _) B
    · exact gvP d p h.2.1
    · exact gvP d q h.2.2
section
variable {r x : Int} {env : DEnv} {Q : PyData → Prop} {Q' : OD → Prop}
abbrev room (r : Int) : OD := .lst [.pur (.int r)]
theorem room_g (h : sl env 3 = some (room r)) (q : Q (.int r)) : Bd ((ixO (slotO 3) (fun _ => some (.int 0)) env).bind purD) Q := by
  have : ixO (slotO 3) (fun _ => some (.int 0)) env = some (.pur (.int r)) := by show ((sl env 3).bind _) = _; rw [h]; rfl
  rw [this]; exact ⟨_, rfl, q⟩
theorem room_s (h : sl env 3 = some (room r)) (q : Q' (room x)) : Bd ((sl env 3).bind fun c => setO c (.int 0) (.pur (.int x))) Q' := by
  rw [h]; exact ⟨_, rfl, q⟩
end
local macro_rules | `(tactic| fail) => `(tactic| first
  | ((with_reducible apply room_g); exact rfl)
  | ((with_reducible apply room_s); exact rfl)
  | with_reducible refine st_addBI ?_
  | with_reducible refine st_subBI ?_
  | ((with_reducible refine st_tk (by omega) (by omega) (by omega) (by omega) (by omega) (by omega) (by omega) ?_); intro _ _ _ _ _ _ _ _))
def tbn : Nat → Int
  | 0 => 0
  | k + 1 => 30 + 2 * tbn k
theorem tb_nn : ∀ k, 0 ≤ tbn k
  | 0 => by decide
  | k + 1 => by have := tb_nn k; rw [tbn]; omega
set_option maxHeartbeats 0 in
theorem gen_ok {sd : Int} (hs0 : 0 ≤ sd) (hs : sd < 2 ^ 31) {al : List Str} (hal : ∀ x ∈ al, Lab x) (hal1 : 1 ≤ al.length) (hal2 : al.length ≤ 100) : ∀ (n k : Nat), k < n → k < 5 → ∀ {g ct r : Int}, 0 ≤ g → 0 ≤ ct → ct + tbn (k + 1) < 80000 → 1 ≤ r → r ≤ 100 → ∀ {Q : OD → DEnv → Prop},
    (∀ (t : Pt) g' c' (cn : Nat), t.Ok (k + 1) → t.nodes = cn → (cn : Int) ≤ r → 0 ≤ g' → ct ≤ c' → c' ≤ ct + tbn (k + 1) → Q (.pur t.toD) [some (pen g' sd c'), none, none, some (room (r - cn))]) →
    Hs (m_law_piece n [some (pen g sd ct), some (.pur (.list (al.map .str))), some (.pur (.int ((k + 1 : Nat) : Int))), some (room r)]) Q
  | 0, k, h1, _, g, ct, r, _, _, _, _, _, Q, _ => absurd h1 (by omega)
  | n + 1, k, hkn, hk5, g, ct, r, hg, hc, hc2, hr, hr2, Q, q => by
    have ht := tb_nn k
    have ht1 : tbn (k + 1) = 30 + 2 * tbn k := rfl
    have hln : ∀ {Q : PyData → Prop}, Q (.int (al.length : Int)) → Bd (one lenD [.list (al.map .str)]) Q := fun q => by
      refine st_lenL ?_
      rw [List.length_map]; exact q
    have hit : ∀ {d : Int}, 0 ≤ d → d < (al.length : Int) → ∀ {Q : PyData → Prop}, (∀ w, Lab w → Q (.str w)) → Bd (itemD (.list (al.map .str)) (.int d)) Q := fun {d} h0 h1 {Q} q => by
      obtain ⟨j, rfl⟩ := Int.eq_ofNat_of_zero_le h0
      have hj : j < al.length := by omega
      exact st_itemL (List.getElem?_eq_getElem hj) (q _ (hal _ (List.getElem_mem hj)))
    have hrec := fun {k : Nat} h1 h2 {g ct r : Int} h3 h4 h5 h6 h7 {Q : OD → DEnv → Prop} q => gen_ok hs0 hs hal hal1 hal2 n k h1 h2 (g := g) (ct := ct) (r := r) h3 h4 h5 h6 h7 (Q := Q) q
    generalize PyData.list (al.map .str) = AL at hln hit hrec ⊢
    unfold m_law_piece
    refine hs_runE [_, _, _, _, none, none, none] rfl rfl ?_
    have leaf : ∀ {g1 c1 : Int} {d4 : Option OD} {b : M Flw}, 0 ≤ g1 → ct ≤ c1 → c1 ≤ ct + 1 → Hs (M.seq (M.set 5 (M.own (M.op2 itemD (M.rd 1) (M.frz (M.call m_law_take (M.aR 0 (M.aV (M.opL (one lenD) (M.cons (M.rd 1) M.nil)) M.aNil)))))))
  (M.ret (M.own (M.op2 itemD (M.frz (M.lst (M.cons (M.tup (M.cons (M.pure (.str "cell")) (M.cons (M.rd 5) (M.cons (M.frz (M.call m_law_label (M.aR 0 M.aNil))) M.nil)))) (M.cons (M.tup (M.cons (M.pure (.str "number")) (M.cons (M.frz (M.call m_law_number (M.aR 0 M.aNil))) M.nil))) M.nil)))) (M.op2 divD (M.frz (M.call m_law_take (M.aR 0 (M.aV (M.pure (.int 3)) M.aNil)))) (M.pure (.int 2)))))) [some (pen g1 sd c1), some (.pur AL), some (.pur (.int ((k + 1 : Nat) : Int))), some (room (r - 1)), d4, none, none]) (Then b (DL.Fin [0, 3] 4 Q)) := fun {g1 c1 d4 b} a1 a2 a3 => by
      repeat fail
      refine hln ?_
      repeat fail
      rename_i d5 g5 c5 y1 y2 y3 y4 y5
      refine hit y1 y2 fun w1 w1l => ?_
      repeat fail
      refine label_ok y5 hs0 hs (by omega) (by omega) fun w2 g3 c3 w2l d1 d2 d4 => ?_
      repeat fail
      refine number_ok d1 hs0 hs (by omega) (by omega) fun i g4 c4 hi f1 f2 f3 => ?_
      repeat fail
      rename_i e g5 c5 h1 h2 h3 h4 h5
      have hdiv : e.fdiv 2 = 0 ∨ e.fdiv 2 = 1 := by
        have : e = 0 ∨ e = 1 ∨ e = 2 := by omega
        rcases this with rfl | rfl | rfl <;> decide
      rcases hdiv with hz | hz
      · rw [hz]
        refine st_bd (a := .tuple [.str "cell", .str w1, .str w2]) rfl ?_
        exact q (.cell w1 w2) g5 c5 1 ⟨w1l, w2l⟩ rfl (by omega) h5 (by omega) (by omega)
      · rw [hz]
        refine st_bd (a := .tuple [.str "number", .int i]) rfl ?_
        exact q (.num i) g5 c5 1 hi rfl (by omega) h5 (by omega) (by omega)
    repeat fail
    rename_i way g1 c1 e1 e2 e3 e4 e5
    refine iff2_of (fun h => Eq.mpr iff2_t (leaf e5 (by omega) (by omega))) fun h => ?_
    obtain ⟨j, rfl⟩ : ∃ j, k = j + 1 := ⟨k - 1, by
      have : ¬ (((k + 1 : Nat) : Int) = 1) := by simpa using h
      omega⟩
    have ht2 : tbn (j + 1) = 30 + 2 * tbn j := rfl
    have ht3 := tb_nn j
    repeat fail
    refine iff2_of (fun h => Eq.mpr iff2_t (leaf e5 (by omega) (by omega))) fun h => ?_
    have hr3 : 3 ≤ r := by have := of_decide_eq_false h; omega
    clear h
    repeat fail
    refine iff2_of (fun h => leaf e5 (by omega) (by omega)) fun h => ?_
    repeat fail
    rw [show ((j + 1 + 1 : Nat) : Int) - 1 = ((j + 1 : Nat) : Int) by omega]
    refine hrec (k := j) (by omega) (by omega) e5 (by omega) (by omega) (by omega) (by omega) fun p1 g2 c2 n1 k1 k2 k3 k6 k7 k8 => ?_
    repeat fail
    have m4 := fm way (m := 4) (by decide)
    refine st_ixLm m4.1 (by simpa using m4.2) fun z hz => ?_
    have hz' : ∃ w : Nat, w < 4 ∧ z = .str (wd w) := by
      simp only [List.mem_cons, List.not_mem_nil, or_false] at hz
      rcases hz with rfl | rfl | rfl | rfl
      · exact ⟨0, by decide, rfl⟩
      · exact ⟨1, by decide, rfl⟩
      · exact ⟨2, by decide, rfl⟩
      · exact ⟨3, by decide, rfl⟩
    obtain ⟨w, hw, rfl⟩ := hz'
    clear hz
    repeat fail
    rw [show ((j + 1 + 1 : Nat) : Int) - 1 = ((j + 1 : Nat) : Int) by omega]
    refine hrec (k := j) (by omega) (by omega) k6 (by omega) (by omega) (by omega) (by omega) fun p2 g3 c3 n2 l1 l2 l3 l6 l7 l8 => ?_
    repeat fail
    have := q (.two w p1 p2) g3 c3 (1 + n1 + n2) ⟨hw, k1, l1⟩ (by show 1 + p1.nodes + p2.nodes = _; rw [k2, l2]) (by omega) l6 (by omega) (by omega)
    rw [show r - 1 - 1 - (n1 : Int) + 1 - (n2 : Int) = r - ((1 + n1 + n2 : Nat) : Int) by omega]
    exact this
end
section
open TL
theorem tl_int (i : Int) : tl (Str.ofString (toString i)) = (if i < 0 then [45] else []) ++ numL i.natAbs := by
  cases i with
  | ofNat n => rw [if_neg (show ¬ Int.ofNat n < 0 from Int.not_lt.mpr (Int.natCast_nonneg n))]; exact tl_num n
  | negSucc n =>
    rw [if_pos (Int.negSucc_lt_zero n)]
    have e1 : toString (Int.negSucc n) = "-" ++ toString ((n + 1 : Nat) : Int) := rfl
    rw [e1, tl_ofString]
    have e2 := tl_num (n + 1)
    rw [tl_ofString] at e2
    simp only [String.toList_append, List.map_append]
    rw [e2]
    rfl
theorem numL_len30 {n : Nat} (h : n < 10 ^ 30) : (numL n).length ≤ 30 := numL_len (by decide) h
theorem dig_of {c n : Nat} (h : c ∈ numL n) : 48 ≤ c ∧ c ≤ 57 := by
  rcases Nat.lt_or_ge c 48 with z | z
  · exact absurd h (numL_free (.inl z))
  · rcases Nat.lt_or_ge 57 c with y | y
    · exact absurd h (numL_free (.inr y))
    · exact ⟨z, y⟩
def sc : Nat → Nat
  | 0 => 43
  | 1 => 45
  | 2 => 42
  | _ => 47
def iL (i : Int) : List Nat := (if i < 0 then [45] else []) ++ numL i.natAbs
def shL : Pt → List Nat
  | .cell a b => tl a ++ (46 :: tl b)
  | .num i => iL i
  | .two w p q => 40 :: (shL p ++ ([32, sc w, 32] ++ (shL q ++ [41])))
def shT (t : Pt) : Str := ⟨(shL t).toArray⟩
theorem tl_sh (t : Pt) : tl (shT t) = shL t := tl_mk _
theorem sh_len (t : Pt) : (shT t).length = (shL t).length := by rw [len_tl, tl_sh]
theorem iL_len {i : Int} (h : i.natAbs < 10 ^ 30) : (iL i).length ≤ 31 := by
  have := numL_len30 h
  unfold iL
  split <;> simp <;> omega
theorem sh_bd : ∀ (d : Nat) (t : Pt), t.Ok d → (shL t).length + 5 ≤ 36 * 2 ^ d
  | 0, _, h => h.elim
  | d + 1, .cell a b, h => by
    have h1 := h.1.l8
    have h2 := h.2.l8
    rw [len_tl] at h1 h2
    have : 1 ≤ 2 ^ d := Nat.one_le_two_pow
    simp only [shL, List.length_append, List.length_cons, Nat.pow_succ]
    omega
  | d + 1, .num i, h => by
    have := iL_len h
    have : 1 ≤ 2 ^ d := Nat.one_le_two_pow
    simp only [shL, Nat.pow_succ]
    omega
  | d + 1, .two w p q, h => by
    have h1 := sh_bd d p h.2.1
    have h2 := sh_bd d q h.2.2
    simp only [shL, List.length_append, List.length_cons, List.length_nil, Nat.pow_succ]
    omega
theorem pow_le6 {d : Nat} (h : d ≤ 6) : 36 * 2 ^ d ≤ 2304 := by
  have : 2 ^ d ≤ 2 ^ 6 := Nat.pow_le_pow_right (by decide) h
  omega
theorem sh_2k {d : Nat} {t : Pt} (h : t.Ok d) (hd : d ≤ 6) : (shT t).length ≤ 2304 := by
  have h1 := sh_bd d t h
  have h2 := pow_le6 hd
  rw [sh_len]; omega
theorem st_catS {x y : Str} (h : x.length + y.length ≤ 100000) {Q : PyData → Prop} (q : Q (.str (x ++ y))) : Bd (addB (.str x) (.str y)) Q := ⟨_, if_pos (Nat.le_trans h (by decide)), q⟩
theorem eqSt {x y : Str} (hx : PyData.strOk x = true) (hy : PyData.strOk y = true) {Q : PyData → Prop} (q : Q (.bool (x == y))) : Bd (eqD (.str x) (.str y)) Q := Eq.mpr eqD_str ⟨⟨hx, hy⟩, q⟩
theorem neSt {x y : Str} (hx : PyData.strOk x = true) (hy : PyData.strOk y = true) {Q : PyData → Prop} (q : Q (.bool (!(x == y)))) : Bd (neD (.str x) (.str y)) Q := Eq.mpr neD_str ⟨⟨hx, hy⟩, q⟩
theorem int_st {i : Int} (h : i.natAbs < 10 ^ 30) {Q : PyData → Prop} (q : Q (.str (shT (.num i)))) : Bd (one strB [.int i]) Q := by
  refine ⟨.str (Str.ofString (toString i)), ?_, by rw [show Str.ofString (toString i) = shT (.num i) from ext_tl (by rw [tl_int, tl_sh]; rfl)]; exact q⟩
  show (if i.natAbs.log2 < 1920 then _ else _) = _
  refine if_pos ?_
  rcases Nat.eq_zero_or_pos i.natAbs with z | z
  · rw [z]; decide
  · have h2 : i.natAbs.log2 < 100 := (Nat.log2_lt (by omega)).mpr (Nat.lt_trans h (by decide))
    omega
theorem wd_ok : ∀ w : Nat, PyData.strOk (wd w) = true
  | 0 => by decide +kernel
  | 1 => by decide +kernel
  | 2 => by decide +kernel
  | _ + 3 => (by decide +kernel : PyData.strOk "over" = true)
theorem wd_cell : ∀ w : Nat, (wd w == "cell") = false
  | 0 => by decide +kernel
  | 1 => by decide +kernel
  | 2 => by decide +kernel
  | _ + 3 => (by decide +kernel : (("over" : Str) == "cell") = false)
theorem wd_num : ∀ w : Nat, (wd w == "number") = false
  | 0 => by decide +kernel
  | 1 => by decide +kernel
  | 2 => by decide +kernel
  | _ + 3 => (by decide +kernel : (("over" : Str) == "number") = false)
/-- a sign, blanks round it -/
def sgT (w : Nat) : Str := ⟨#[32, sc w, 32]⟩
theorem tl_sg (w : Nat) : tl (sgT w) = [32, sc w, 32] := rfl
theorem w4 {w : Nat} (h : w < 4) : w = 0 ∨ w = 1 ∨ w = 2 ∨ w = 3 := by omega
theorem len_app (x y : Str) : (x ++ y).length = x.length + y.length := by rw [len_tl, tl_append, List.length_append, ← len_tl, ← len_tl]
def signsD : PyData := .dict [(.str "plus", .str " + "), (.str "less", .str " - "), (.str "times", .str " * "), (.str "over", .str " / ")]
theorem signs_at {w : Nat} (h : w < 4) : itemD signsD (.str (wd w)) = some (.str (sgT w)) := by
  rcases w4 h with rfl | rfl | rfl | rfl <;> kernel_rfl
set_option maxHeartbeats 0 in
theorem lshown_ok : ∀ (n d : Nat), d ≤ n → d ≤ 6 → ∀ {t : Pt}, t.Ok d → ∀ {Q : OD → DEnv → Prop}, Q (.pur (.str (shT t))) [none] → Hs (m_law_shown n [some (.pur t.toD)]) Q
  | 0, d, h1, _, t, h, Q, q => by
    obtain rfl : d = 0 := by omega
    exact h.elim
  | n + 1, 0, h1, _, t, h, Q, q => h.elim
  | n + 1, d + 1, h1, h6, t, h, Q, q => by
    unfold m_law_shown
    refine hs_runE [some (.pur t.toD), none] rfl rfl ?_
    cases t with
    | cell a b =>
      repeat fail
      refine st_bd (a := .str "cell") rfl ?_
      repeat fail
      refine eqSt (by decide +kernel) (by decide +kernel) ?_
      repeat fail
      refine st_iffT (by decide +kernel) ?_
      repeat fail
      refine st_bd (a := .str a) rfl ?_
      have l1 := h.1.l8
      have l2 := h.2.l8
      have ld : (Str.ofString ".").length = 1 := by decide +kernel
      repeat fail
      refine st_catS (by omega) ?_
      repeat fail
      refine st_bd (a := .str b) rfl ?_
      refine st_catS (by rw [len_tl, tl_append, List.length_append, ← len_tl, ← len_tl]; omega) ?_
      repeat fail
      rw [show (a ++ Str.ofString ".") ++ b = shT (.cell a b) from ext_tl (by rw [tl_append, tl_append, tl_sh]; simp [shL]; rfl)]
      exact q
    | num i =>
      repeat fail
      refine st_bd (a := .str "number") rfl ?_
      repeat fail
      refine eqSt (by decide +kernel) (by decide +kernel) ?_
      repeat fail
      refine st_iffF (by decide +kernel) ?_
      repeat fail
      refine st_bd (a := .str "number") rfl ?_
      repeat fail
      refine eqSt (by decide +kernel) (by decide +kernel) ?_
      repeat fail
      refine st_iffT (by decide +kernel) ?_
      repeat fail
      refine st_bd (a := .int i) rfl ?_
      repeat fail
      refine int_st h ?_
      repeat fail
      exact q
    | two w p q' =>
      obtain ⟨hw, hp, hq⟩ := h
      repeat fail
      refine st_bd (a := .str (wd w)) rfl ?_
      repeat fail
      refine eqSt (wd_ok w) (by decide +kernel) ?_
      repeat fail
      refine st_iffF (wd_cell w) ?_
      repeat fail
      refine st_bd (a := .str (wd w)) rfl ?_
      repeat fail
      refine eqSt (wd_ok w) (by decide +kernel) ?_
      repeat fail
      refine st_iffF (wd_num w) ?_
      repeat fail
      refine st_bd (a := OD.dK [.inr "plus", .inr "less", .inr "times", .inr "over"] [.pur (.str " + "), .pur (.str " - "), .pur (.str " * "), .pur (.str " / ")]) (by kernel_rfl) ?_
      refine st_bd (a := signsD) (by kernel_rfl) ?_
      repeat fail
      refine st_bd (a := .str (wd w)) rfl ?_
      refine st_bd (signs_at hw) ?_
      repeat fail
      refine st_bd (a := p.toD) rfl ?_
      repeat fail
      refine lshown_ok n d (by omega) (by omega) hp ?_
      have l1 := sh_2k hp (by omega)
      have l2 := sh_2k hq (by omega)
      have l3 : (Str.ofString "(").length = 1 := by decide +kernel
      have l4 : (Str.ofString ")").length = 1 := by decide +kernel
      have l5 : (sgT w).length = 3 := rfl
      repeat fail
      refine st_catS (by omega) ?_
      repeat fail
      refine st_catS (by simp only [len_app]; omega) ?_
      repeat fail
      refine st_bd (a := q'.toD) rfl ?_
      repeat fail
      refine lshown_ok n d (by omega) (by omega) hq ?_
      repeat fail
      refine st_catS (by simp only [len_app]; omega) ?_
      repeat fail
      refine st_catS (by simp only [len_app]; omega) ?_
      repeat fail
      rw [show (((Str.ofString "(" ++ shT p) ++ sgT w) ++ shT q') ++ Str.ofString ")" = shT (.two w p q') from ext_tl (by simp only [tl_append, tl_sh, tl_sg, shL]; rw [show tl (Str.ofString "(") = [40] from by decide +kernel, show tl (Str.ofString ")") = [41] from by decide +kernel]; simp)]
      exact q
end
section
open TL
local macro_rules | `(tactic| fail) => `(tactic| with_reducible refine hs_join ?_)
theorem hs_fjC {m : M PyData} {ms : List (M PyData)} {acc : Str} {env : DEnv} {Q : PyData → DEnv → Prop} (h : Hs (m env) fun d e => ∃ y, d = .str y ∧ (acc ++ y).length ≤ 16777216 ∧ Hs (M.fj ms (acc ++ y) e) Q) : Hs (M.fj (m :: ms) acc env) Q := by
  unfold M.fj
  rw [hs_bind]
  refine h.mono ?_
  rintro d e ⟨y, rfl, h1, h2⟩
  simp only [if_pos h1]
  exact h2
theorem hs_fj0 {acc : Str} {env : DEnv} {Q : PyData → DEnv → Prop} (q : Q (.str acc) env) : Hs (M.fj [] acc env) Q := Hs.mk q
theorem st_fmt {y : Str} (h : y.length ≤ 100000) {Q : PyData → Prop} (q : Q (.str y)) : Bd (fmtD (.str y)) Q := ⟨_, if_pos (Nat.le_trans h (by decide)), q⟩
def sg1 (w : Nat) : Str := ⟨#[sc w]⟩
theorem ps_at {w : Nat} (h : w < 4) : itM [("plus", .str "+"), ("less", .str "-"), ("times", .str "*"), ("over", .str "/")] (.str (wd w)) = some (.str (sg1 w)) := by
  rcases w4 h with rfl | rfl | rfl | rfl <;> kernel_rfl
theorem join2 {a b : Str} (ha : a.length ≤ 8) (hb : b.length ≤ 8) {Q : PyData → Prop} (q : Q (.str (shT (.cell a b)))) : Bd (joinD (.str ".") (.list [.str a, .str b])) Q := by
  refine ⟨.str (Txt.join (Str.ofString ".") [a, b]), ?_, ?_⟩
  · show (strsD ([a, b].map PyData.str)).bind (fun ys => if (ys.map (·.length)).sum + ys.length * (Str.ofString ".").length ≤ lim then some (PyData.str (Txt.join (Str.ofString ".") ys)) else none) = _
    rw [strs_map, Option.bind_some]
    refine if_pos ?_
    have ld : (Str.ofString ".").length = 1 := by decide +kernel
    rw [ld]
    simp only [List.map_cons, List.map_nil, List.sum_cons, List.sum_nil, List.length_cons, List.length_nil, lim]
    omega
  · rw [show Txt.join (Str.ofString ".") [a, b] = shT (.cell a b) from ext_tl (by
      rw [join_eq, tl_join, tl_sh, show tl (Str.ofString ".") = [46] from by decide +kernel]
      simp [joinL, shL])]
    exact q
set_option maxHeartbeats 0 in
theorem show_ok : ∀ (n d : Nat), d ≤ n → d ≤ 6 → ∀ {t : Pt}, t.Ok d → ∀ {Q : OD → DEnv → Prop}, Q (.pur (.str (shT t))) [none] → Hs (mshow_part n [some (.pur t.toD)]) Q
  | 0, d, h1, _, t, h, Q, q => by
    obtain rfl : d = 0 := by omega
    exact h.elim
  | n + 1, 0, h1, _, t, h, Q, q => h.elim
  | n + 1, d + 1, h1, h6, t, h, Q, q => by
    unfold mshow_part
    refine hs_runE [some (.pur t.toD), none, none, none, none, none] rfl rfl ?_
    cases t with
    | cell a b =>
      repeat fail
      refine ⟨[some (.pur (Pt.cell a b).toD), some (.pur (.str "cell")), some (.pur (.list [.str a, .str b])), none, none, none], rfl, ?_⟩
      repeat fail
      refine eqSt (by decide +kernel) (by decide +kernel) ?_
      repeat fail
      refine st_iffT (by decide +kernel) ?_
      repeat fail
      refine join2 h.1.l8 h.2.l8 ?_
      exact q
    | num i =>
      repeat fail
      refine ⟨[some (.pur (Pt.num i).toD), some (.pur (.str "number")), some (.pur (.list [.int i])), none, none, none], rfl, ?_⟩
      repeat fail
      refine eqSt (by decide +kernel) (by decide +kernel) ?_
      repeat fail
      refine st_iffF (by decide +kernel) ?_
      repeat fail
      refine eqSt (by decide +kernel) (by decide +kernel) ?_
      repeat fail
      refine st_iffT (by decide +kernel) ?_
      repeat fail
      refine st_bd (a := .int i) rfl ?_
      repeat fail
      refine int_st h ?_
      repeat fail
      exact q
    | two w p q' =>
      obtain ⟨hw, hp, hq⟩ := h
      have l1 := sh_2k hp (by omega)
      have l2 := sh_2k hq (by omega)
      have l3 : (Str.ofString "(").length = 1 := by decide +kernel
      have l4 : (Str.ofString ")").length = 1 := by decide +kernel
      have l5 : (sg1 w).length = 1 := rfl
      have l6 : (Str.ofString " ").length = 1 := by decide +kernel
      have l7 : Str.empty.length = 0 := rfl
      repeat fail
      refine ⟨[some (.pur (Pt.two w p q').toD), some (.pur (.str (wd w))), some (.pur (.list ([p, q'].map Pt.toD))), none, none, none], rfl, ?_⟩
      repeat fail
      refine eqSt (wd_ok w) (by decide +kernel) ?_
      repeat fail
      refine st_iffF (wd_cell w) ?_
      repeat fail
      refine eqSt (wd_ok w) (by decide +kernel) ?_
      repeat fail
      refine st_iffF (wd_num w) ?_
      repeat fail
      refine lc_map (l := [p, q']) (f := Pt.toD) (r := fun t => .str (shT t)) (Nat.le_of_ble_eq_true rfl) (fun t ht => ?_) ?_
      · have htk : t.Ok d := by
          simp only [List.mem_cons, List.not_mem_nil, or_false] at ht
          rcases ht with rfl | rfl
          · exact hp
          · exact hq
        repeat fail
        refine show_ok n d (by omega) (by omega) htk ?_
        repeat fail
        exact rfl
      repeat fail
      refine ⟨[some (.pur (Pt.two w p q').toD), some (.pur (.str (wd w))), some (.pur (.list ([p, q'].map Pt.toD))), some (.pur (.str (shT p))), some (.pur (.str (shT q'))), none], rfl, ?_⟩
      repeat fail
      refine hs_fjC ?_
      repeat fail
      refine ⟨_, rfl, by simp only [len_app]; omega, hs_fjC ?_⟩
      repeat fail
      refine st_fmt (by omega) ?_
      refine ⟨_, rfl, by simp only [len_app]; omega, hs_fjC ?_⟩
      repeat fail
      refine ⟨_, rfl, by simp only [len_app]; omega, hs_fjC ?_⟩
      repeat fail
      refine st_bd (ps_at hw) ?_
      refine st_fmt (by omega) ?_
      refine ⟨_, rfl, by simp only [len_app]; omega, hs_fjC ?_⟩
      repeat fail
      refine ⟨_, rfl, by simp only [len_app]; omega, hs_fjC ?_⟩
      repeat fail
      refine st_fmt (by omega) ?_
      refine ⟨_, rfl, by simp only [len_app]; omega, hs_fjC ?_⟩
      repeat fail
      refine ⟨_, rfl, by simp only [len_app]; omega, hs_fj0 ?_⟩
      repeat fail
      rw [show ((((((Str.empty ++ Str.ofString "(") ++ shT p) ++ Str.ofString " ") ++ sg1 w) ++ Str.ofString " ") ++ shT q') ++ Str.ofString ")" = shT (.two w p q') from ext_tl (by
        simp only [tl_append, tl_sh, shL]
        rw [show tl (Str.ofString "(") = [40] from by decide +kernel, show tl (Str.ofString ")") = [41] from by decide +kernel, show tl (Str.ofString " ") = [32] from by decide +kernel, show tl Str.empty = [] from rfl, show tl (sg1 w) = [sc w] from rfl]
        simp)]
      exact q
end
section
open TL
inductive Sv where
  | two (w : Nat) (p q : Pt)
  | lack (p : Pt)
def sw : Nat → Str
  | 0 => "alike"
  | 1 => "unlike"
  | _ => "below"
def ss : Nat → Nat
  | 0 => 61
  | 1 => 35
  | _ => 60
def Sv.toD : Sv → PyData
  | .two w p q => .tuple [.str (sw w), p.toD, q.toD]
  | .lack p => .tuple [.str "lacking", p.toD]
def Sv.ok (d : Nat) : Sv → Prop
  | .two w p q => w < 3 ∧ p.Ok d ∧ q.Ok d
  | .lack p => p.Ok d
def svL : Sv → List Nat
  | .two w p q => shL p ++ ([32, ss w, 32] ++ shL q)
  | .lack p => tl (Str.ofString "lacking ") ++ shL p
def svT (s : Sv) : Str := ⟨(svL s).toArray⟩
theorem tl_sv (s : Sv) : tl (svT s) = svL s := tl_mk _
theorem w3 {w : Nat} (h : w < 3) : w = 0 ∨ w = 1 ∨ w = 2 := by omega
theorem sw_ok : ∀ w : Nat, PyData.strOk (sw w) = true
  | 0 => by decide +kernel
  | 1 => by decide +kernel
  | _ + 2 => (by decide +kernel : PyData.strOk "below" = true)
theorem sw_lack : ∀ w : Nat, (sw w == "lacking") = false
  | 0 => by decide +kernel
  | 1 => by decide +kernel
  | _ + 2 => (by decide +kernel : (("below" : Str) == "lacking") = false)
def ssT (w : Nat) : Str := ⟨#[32, ss w, 32]⟩
theorem tl_ss (w : Nat) : tl (ssT w) = [32, ss w, 32] := rfl
def ss1 (w : Nat) : Str := ⟨#[ss w]⟩
def ssignsD : PyData := .dict [(.str "alike", .str " = "), (.str "unlike", .str " # "), (.str "below", .str " < ")]
theorem ssigns_at {w : Nat} (h : w < 3) : itemD ssignsD (.str (sw w)) = some (.str (ssT w)) := by
  rcases w3 h with rfl | rfl | rfl <;> kernel_rfl
theorem ss_at {w : Nat} (h : w < 3) : itM [("alike", .str "="), ("unlike", .str "#"), ("below", .str "<")] (.str (sw w)) = some (.str (ss1 w)) := by
  rcases w3 h with rfl | rfl | rfl <;> kernel_rfl
theorem lack_len : (Str.ofString "lacking ").length = 8 := by decide +kernel
set_option maxHeartbeats 0 in
theorem lwire_ok {d : Nat} (hd : d ≤ 6) : ∀ {s : Sv}, s.ok d → ∀ {Q : OD → DEnv → Prop}, Q (.pur (.str (svT s))) [none] → Hs (m_law_wire_shown [some (.pur s.toD)]) Q
  | .lack p, h, Q, q => by
    have hp : p.Ok d := h
    have l1 := sh_2k hp hd
    unfold m_law_wire_shown
    refine hs_runE [some (.pur (Sv.lack p).toD), none] rfl rfl ?_
    repeat fail
    refine st_bd (a := .str "lacking") rfl ?_
    repeat fail
    refine eqSt (by decide +kernel) (by decide +kernel) ?_
    repeat fail
    refine st_iffT (by decide +kernel) ?_
    repeat fail
    refine st_bd (a := p.toD) rfl ?_
    repeat fail
    refine lshown_ok 8 d (by omega) hd hp ?_
    repeat fail
    refine st_catS (by rw [lack_len]; omega) ?_
    repeat fail
    rw [show Str.ofString "lacking " ++ shT p = svT (.lack p) from ext_tl (by rw [tl_append, tl_sh, tl_sv]; rfl)]
    exact q
  | .two w p q', h, Q, q => by
    obtain ⟨hw, hp, hq⟩ := h
    have l1 := sh_2k hp hd
    have l2 := sh_2k hq hd
    have l5 : (ssT w).length = 3 := rfl
    unfold m_law_wire_shown
    refine hs_runE [some (.pur (Sv.two w p q').toD), none] rfl rfl ?_
    repeat fail
    refine st_bd (a := .str (sw w)) rfl ?_
    repeat fail
    refine eqSt (sw_ok w) (by decide +kernel) ?_
    repeat fail
    refine st_iffF (sw_lack w) ?_
    repeat fail
    refine st_bd (a := OD.dK [.inr "alike", .inr "unlike", .inr "below"] [.pur (.str " = "), .pur (.str " # "), .pur (.str " < ")]) (by kernel_rfl) ?_
    refine st_bd (a := ssignsD) (by kernel_rfl) ?_
    repeat fail
    refine st_bd (a := .str (sw w)) rfl ?_
    refine st_bd (ssigns_at hw) ?_
    repeat fail
    refine st_bd (a := p.toD) rfl ?_
    repeat fail
    refine lshown_ok 8 d (by omega) hd hp ?_
    repeat fail
    refine st_catS (by omega) ?_
    repeat fail
    refine st_bd (a := q'.toD) rfl ?_
    repeat fail
    refine lshown_ok 8 d (by omega) hd hq ?_
    repeat fail
    refine st_catS (by simp only [len_app]; omega) ?_
    repeat fail
    rw [show (shT p ++ ssT w) ++ shT q' = svT (.two w p q') from ext_tl (by simp only [tl_append, tl_sh, tl_ss, tl_sv, svL, List.append_assoc])]
    exact q
set_option maxHeartbeats 0 in
theorem showS_ok {d : Nat} (hd : d ≤ 6) : ∀ {s : Sv}, s.ok d → ∀ {Q : OD → DEnv → Prop}, Q (.pur (.str (svT s))) [none] → Hs (mshow_sieve [some (.pur s.toD)]) Q
  | .lack p, h, Q, q => by
    have hp : p.Ok d := h
    have l1 := sh_2k hp hd
    unfold mshow_sieve
    refine hs_runE [some (.pur (Sv.lack p).toD), none, none, none, none, none] rfl rfl ?_
    repeat fail
    refine ⟨[some (.pur (Sv.lack p).toD), some (.pur (.str "lacking")), some (.pur (.list [p.toD])), none, none, none], rfl, ?_⟩
    repeat fail
    refine eqSt (by decide +kernel) (by decide +kernel) ?_
    repeat fail
    refine st_iffT (by decide +kernel) ?_
    repeat fail
    refine st_bd (a := p.toD) rfl ?_
    repeat fail
    refine show_ok 8 d (by omega) hd hp ?_
    repeat fail
    refine st_catS (by rw [lack_len]; omega) ?_
    repeat fail
    rw [show Str.ofString "lacking " ++ shT p = svT (.lack p) from ext_tl (by rw [tl_append, tl_sh, tl_sv]; rfl)]
    exact q
  | .two w p q', h, Q, q => by
    obtain ⟨hw, hp, hq⟩ := h
    have l1 := sh_2k hp hd
    have l2 := sh_2k hq hd
    have l5 : (ss1 w).length = 1 := rfl
    have l6 : (Str.ofString " ").length = 1 := by decide +kernel
    have l7 : Str.empty.length = 0 := rfl
    unfold mshow_sieve
    refine hs_runE [some (.pur (Sv.two w p q').toD), none, none, none, none, none] rfl rfl ?_
    repeat fail
    refine ⟨[some (.pur (Sv.two w p q').toD), some (.pur (.str (sw w))), some (.pur (.list ([p, q'].map Pt.toD))), none, none, none], rfl, ?_⟩
    repeat fail
    refine eqSt (sw_ok w) (by decide +kernel) ?_
    repeat fail
    refine st_iffF (sw_lack w) ?_
    repeat fail
    refine lc_map (l := [p, q']) (f := Pt.toD) (r := fun t => .str (shT t)) (Nat.le_of_ble_eq_true rfl) (fun t ht => ?_) ?_
    · have htk : t.Ok d := by
        simp only [List.mem_cons, List.not_mem_nil, or_false] at ht
        rcases ht with rfl | rfl
        · exact hp
        · exact hq
      repeat fail
      refine show_ok 8 d (by omega) hd htk ?_
      repeat fail
      exact rfl
    repeat fail
    refine ⟨[some (.pur (Sv.two w p q').toD), some (.pur (.str (sw w))), some (.pur (.list ([p, q'].map Pt.toD))), some (.pur (.str (shT p))), some (.pur (.str (shT q'))), none], rfl, ?_⟩
    repeat fail
    refine hs_fjC ?_
    repeat fail
    refine st_fmt (by omega) ?_
    refine ⟨_, rfl, by simp only [len_app]; omega, hs_fjC ?_⟩
    repeat fail
    refine ⟨_, rfl, by simp only [len_app]; omega, hs_fjC ?_⟩
    repeat fail
    refine st_bd (ss_at hw) ?_
    refine st_fmt (by omega) ?_
    refine ⟨_, rfl, by simp only [len_app]; omega, hs_fjC ?_⟩
    repeat fail
    refine ⟨_, rfl, by simp only [len_app]; omega, hs_fjC ?_⟩
    repeat fail
    refine st_fmt (by omega) ?_
    refine ⟨_, rfl, by simp only [len_app]; omega, hs_fj0 ?_⟩
    repeat fail
    rw [show ((((Str.empty ++ shT p) ++ Str.ofString " ") ++ ss1 w) ++ Str.ofString " ") ++ shT q' = svT (.two w p q') from ext_tl (by
      simp only [tl_append, tl_sh, tl_sv, svL]
      rw [show tl (Str.ofString " ") = [32] from by decide +kernel, show tl Str.empty = [] from rfl, show tl (ss1 w) = [ss w] from rfl]
      simp)]
    exact q
end
section
open TL
theorem slice_cut (x : Str) (lo hi : Option Int) : Txt.slice x lo hi = cutS x lo hi := sliceText_cut x lo hi
theorem tl_cut (x : Str) (lo hi : Option Int) : tl (Txt.slice x lo hi) = ((tl x).drop (HT.sIx x.length 0 lo)).take (HT.sIx x.length x.length hi - HT.sIx x.length 0 lo) := by
  rw [slice_cut]; rfl
theorem tl_slice {x : Str} {a b : Nat} : tl (Txt.slice x (some (a : Int)) (some (b : Int))) = ((tl x).drop a).take (b - a) := by
  rw [tl_cut, HT.sIx_nat, HT.sIx_nat, len_tl]
  generalize tl x = l
  by_cases h : a ≤ l.length
  · rw [Nat.min_eq_left h]
    by_cases h2 : b ≤ l.length
    · rw [Nat.min_eq_left h2]
    · rw [Nat.min_eq_right (by omega), List.take_of_length_le (by simp), List.take_of_length_le (by simp; omega)]
  · rw [show min a l.length = l.length from by omega, List.drop_length, List.drop_eq_nil_of_le (show l.length ≤ a by omega), List.take_nil, List.take_nil]
theorem tl_from {x : Str} {a : Nat} : tl (Txt.slice x (some (a : Int)) none) = (tl x).drop a := by
  rw [tl_cut, HT.sIx_nat, HT.sIx_none, len_tl]
  generalize tl x = l
  by_cases h : a ≤ l.length
  · rw [Nat.min_eq_left h, List.take_of_length_le (by simp)]
  · rw [Nat.min_eq_right (by omega), List.drop_length, List.drop_eq_nil_of_le (by omega), List.take_nil]
theorem tl_to {x : Str} {b : Nat} : tl (Txt.slice x none (some (b : Int))) = (tl x).take b := by
  rw [tl_cut, HT.sIx_nat, HT.sIx_none, len_tl]
  generalize tl x = l
  rw [List.drop_zero, Nat.sub_zero]
  by_cases h : b ≤ l.length
  · rw [Nat.min_eq_left h]
  · rw [Nat.min_eq_right (by omega), List.take_length, List.take_of_length_le (by omega)]
theorem st_slice {x : Str} {lo hi : Option Int} (h : x.length ≤ 100000) {Q : PyData → Prop} (q : Q (.str (Txt.slice x lo hi))) : Bd (sliceD (.str x) lo hi) Q := ⟨_, if_pos (Nat.le_trans h (by decide)), q⟩
/-- signs below 128 -/
def Low (l : List Nat) : Prop := ∀ c ∈ l, c < 128
theorem low_ok {x : Str} (h : Low (tl x)) : PyData.strOk x = true := okS_iff.mpr fun c hc => Nat.lt_trans (h c hc) (by decide)
theorem Low.drop {l : List Nat} (h : Low l) (n : Nat) : Low (l.drop n) := fun c hc => h c (List.mem_of_mem_drop hc)
theorem Low.take {l : List Nat} (h : Low l) (n : Nat) : Low (l.take n) := fun c hc => h c (List.mem_of_mem_take hc)
theorem lab_low {w : Str} (h : Lab w) : ∀ c ∈ tl w, 97 ≤ c ∧ c ≤ 122 := fun c hc => h.lo c hc
theorem iL_ch {i : Int} : ∀ c ∈ iL i, c = 45 ∨ (48 ≤ c ∧ c ≤ 57) := fun c hc => by
  unfold iL at hc
  rcases List.mem_append.mp hc with z | z
  · split at z
    · exact .inl (List.mem_singleton.mp z)
    · cases z
  · exact .inr (dig_of z)
/-- the signs of parts: none of = # < -/
theorem sh_ch : ∀ (d : Nat) (t : Pt), t.Ok d → ∀ c ∈ shL t, c < 123 ∧ 32 ≤ c ∧ c ≠ 61 ∧ c ≠ 35 ∧ c ≠ 60
  | 0, _, h => h.elim
  | d + 1, .cell a b, h => fun c hc => by
    simp only [shL, List.mem_append, List.mem_cons] at hc
    rcases hc with z | z | z
    · have := lab_low h.1 c z; omega
    · omega
    · have := lab_low h.2 c z; omega
  | d + 1, .num i, h => fun c hc => by
    have := iL_ch c hc
    omega
  | d + 1, .two w p q, h => fun c hc => by
    have hs : sc w = 43 ∨ sc w = 45 ∨ sc w = 42 ∨ sc w = 47 := by
      rcases w4 h.1 with rfl | rfl | rfl | rfl <;> simp [sc]
    simp only [shL, List.mem_append, List.mem_cons, List.not_mem_nil, or_false] at hc
    rcases hc with z | z | (z | z | z) | z | z
    · omega
    · exact sh_ch d p h.2.1 c z
    · omega
    · omega
    · omega
    · exact sh_ch d q h.2.2 c z
    · omega
theorem need_t {Q : OD → DEnv → Prop} (q : Q (.pur .none) [none]) : Hs (mneed [some (.pur (.bool true))]) Q := by
  unfold mneed
  refine hs_runE [some (.pur (.bool true))] rfl rfl ?_
  repeat fail
  exact q
end
section
open TL
def nmB (x : Str) : Bool := (decide (1 ≤ x.length) && decide (x.length ≤ 8)) && x.cps.toList.all fun c => decide (97 ≤ c) && decide (c ≤ 122)
theorem sign_in {c : Nat} : inX (.str ⟨#[c]⟩) (.str "abcdefghijklmnopqrstuvwxyz") = some (.bool (decide (c ∈ letters.cps.toList))) := by
  show some (PyData.bool (!(Builtin.Str.occurrences letters ⟨#[c]⟩ 0 letters.length 1).isEmpty)) = _
  rw [StrLaws.found_one]
theorem sign_iff {c : Nat} : decide (c ∈ letters.cps.toList) = (decide (97 ≤ c) && decide (c ≤ 122)) := by
  by_cases h : c < 128
  · have key : ((List.range 128).all fun c => decide (c ∈ letters.cps.toList) == (decide (97 ≤ c) && decide (c ≤ 122))) = true := by decide +kernel
    have := List.all_eq_true.mp key c (List.mem_range.mpr h)
    simpa using this
  · have k2 : (letters.cps.toList.all fun c => decide (c < 128)) = true := by decide +kernel
    have h1 : decide (c ∈ letters.cps.toList) = false := decide_eq_false fun hm => h (of_decide_eq_true (List.all_eq_true.mp k2 c hm))
    rw [h1]
    have : decide (c ≤ 122) = false := decide_eq_false (by omega)
    rw [this, Bool.and_false]
theorem st_sign {c : Nat} {Q : PyData → Prop} (q : Q (.bool (decide (97 ≤ c) && decide (c ≤ 122)))) : Bd (inX (.str ⟨#[c]⟩) (.str "abcdefghijklmnopqrstuvwxyz")) Q := ⟨_, sign_in.trans (by rw [sign_iff]), q⟩
theorem bls_map : ∀ bs : List Bool, blsOf (bs.map PyData.bool) = some bs
  | [] => rfl
  | b :: bs => by
    rw [List.map_cons]
    show (blsOf (bs.map PyData.bool)).map _ = _
    rw [bls_map bs]
    rfl
theorem st_all {α : Type} {l : List α} {f : α → Bool} {Q : PyData → Prop} (q : Q (.bool (l.all f))) : Bd (one allD [.list (l.map fun a => .bool (f a))]) Q := by
  refine ⟨_, ?_, q⟩
  show (blsOf _).map _ = _
  have := bls_map (l.map f)
  rw [List.map_map] at this
  rw [show (l.map fun a => PyData.bool (f a)) = l.map (PyData.bool ∘ f) from rfl, this, Option.map_some, List.all_map]
  rfl
theorem st_itS {x : Str} {Q : List PyData → Prop} (q : Q (x.cps.toList.map fun c => .str ⟨#[c]⟩)) : Bd (itemsD (.str x)) Q := ⟨_, rfl, q⟩
theorem nmB_p {x : Str} (h : nmB x = true) : 1 ≤ x.length ∧ x.length ≤ 8 ∧ (x.cps.toList.all fun c => decide (97 ≤ c) && decide (c ≤ 122)) = true := by
  unfold nmB at h
  simp only [Bool.and_eq_true, decide_eq_true_eq] at h
  exact ⟨h.1.1, h.1.2, h.2⟩
theorem name_t {x : Str} (h : nmB x = true) {Q : OD → DEnv → Prop} (q : Q (.pur (.bool true)) [none]) : Hs (mis_name [some (.pur (.str x))]) Q := by
  obtain ⟨h1, h2, h3⟩ := nmB_p h
  unfold mis_name
  refine hs_runE [some (.pur (.str x)), none] rfl rfl ?_
  repeat fail
  rw [show isA "str" (PyData.str x) = true from rfl]
  repeat fail
  refine st_lenS (by simp only [lim]; omega) ?_
  repeat fail
  refine st_iffT (decide_eq_true (by omega)) ?_
  repeat fail
  refine st_iffT (decide_eq_true (by omega)) ?_
  repeat fail
  refine st_itS ?_
  refine lc_map (r := fun c => .bool (decide (97 ≤ c) && decide (c ≤ 122))) (Nat.le_of_ble_eq_true rfl) (fun c _ => ?_) ?_
  · repeat fail
    refine st_sign ?_
    exact ⟨rfl, rfl⟩
  refine st_and (by rw [List.length_map]; exact Nat.le_trans (Nat.le_of_eq (by simp [Str.length] : x.cps.toList.length = x.length)) (by omega)) ?_
  refine st_datL ?_
  repeat fail
  refine st_all ?_
  rw [h3]
  repeat fail
  exact q
theorem lab_nm {w : Str} (h : Lab w) : nmB w = true := by
  unfold nmB
  rw [decide_eq_true h.l1, decide_eq_true h.l8, Bool.and_self, Bool.true_and]
  exact List.all_eq_true.mpr fun c hc => by have := h.lo c hc; unfold low at this; simp; exact this
theorem hs_sm {f : PyData → PyData → Option PyData} {mo me : M PyData} {env : DEnv} {Q : PyData → DEnv → Prop} (h : Hs (mo env) fun d e => isStr d = true ∧ Hs (me e) fun c e => Bd (f d c) fun z => Q z e) : Hs (M.sm f mo me env) Q := by
  unfold M.sm
  rw [hs_bind]
  refine h.mono ?_
  rintro d e ⟨h1, h2⟩
  rw [if_pos h1, hs_bind]
  refine h2.mono fun c e h3 => ?_
  rw [hs_opt]
  exact h3
local macro_rules | `(tactic| fail) => `(tactic| with_reducible refine hs_sm ?_)
def figs : Str := "0123456789"
theorem fig_in {c : Nat} : inX (.str ⟨#[c]⟩) (.str "0123456789") = some (.bool (decide (c ∈ figs.cps.toList))) := by
  show some (PyData.bool (!(Builtin.Str.occurrences figs ⟨#[c]⟩ 0 figs.length 1).isEmpty)) = _
  rw [StrLaws.found_one]
theorem fig_yes {c : Nat} (h : 48 ≤ c ∧ c ≤ 57) : decide (c ∈ figs.cps.toList) = true := by
  have key : ((List.range 58).all fun c => decide (c < 48) || decide (c ∈ figs.cps.toList)) = true := by decide +kernel
  have := List.all_eq_true.mp key c (List.mem_range.mpr (by omega))
  simp only [Bool.or_eq_true, decide_eq_true_eq] at this
  exact decide_eq_true (this.resolve_left (by omega))
theorem int_back {i : Int} (h : i.natAbs < 10 ^ 30) : PySem.intText? (shT (.num i)) = some i := by
  have hl : (shT (.num i)).length ≤ 4300 := by
    rw [sh_len]
    exact Nat.le_trans (iL_len h) (by decide)
  have ht : (shT (.num i)).cps.toList = iL i := tl_sh (.num i)
  by_cases hi : i < 0
  · have e : (shT (.num i)).cps.toList = 45 :: numL i.natAbs := by rw [ht, iL, if_pos hi]; rfl
    rw [intText_neg e (numL_digits _) (numL_ne _) hl, numL_val]
    congr 1; omega
  · have e : (shT (.num i)).cps.toList = numL i.natAbs := by rw [ht, iL, if_neg hi]; rfl
    rw [intText_digits (by rw [e]; exact numL_digits _) (by rw [e]; exact numL_ne _) hl, e, numL_val]
    congr 1; omega
theorem num_low {i : Int} : Low (tl (shT (.num i))) := fun c hc => by
  rw [tl_sh] at hc
  have := iL_ch c hc
  omega
theorem numIn_ok {i : Int} (h : i.natAbs < 10 ^ 30) {Q : OD → DEnv → Prop} (q : Q (.pur (.int i)) [none]) : Hs (mnumber_in [some (.pur (.str (shT (.num i))))]) Q := by
  have hl : (shT (.num i)).length ≤ 31 := by rw [sh_len]; exact iL_len h
  have htl : tl (shT (.num i)) = iL i := tl_sh _
  have hlow := num_low (i := i)
  have hib := int_back h
  have hist := fun {Q : PyData → Prop} q => int_st h (Q := Q) q
  generalize shT (.num i) = w at hl htl hlow hib hist ⊢
  unfold mnumber_in
  refine hs_runE [some (.pur (.str w)), none, none] rfl rfl ?_
  repeat fail
  refine st_slice (by omega) ?_
  repeat fail
  have hs1 : tl (Txt.slice w none (some ((1 : Nat) : Int))) = (iL i).take 1 := by rw [tl_to, htl]
  have hlow1 : Low (tl (Txt.slice w none (some ((1 : Nat) : Int)))) := by rw [hs1, ← htl]; exact hlow.take 1
  refine eqSt (low_ok hlow1) (by decide +kernel) ?_
  repeat fail
  have tail : ∀ x : Str, tl x = numL i.natAbs → Then (M.seq (M.drop (M.frz (M.call mneed (M.aV (M.andV (M.chain leD leD (M.pure (.int 1)) (M.opL (one lenD) (M.cons (M.rd 1) M.nil)) (M.pure (.int 30))) (M.opL (one allD) (M.cons (M.frz (M.lc (M.items (M.rd 1)) (gNameD 2) [2] (M.pure true) (M.op2 inX (M.rd 2) (M.pure (.str "0123456789"))))) M.nil))) M.aNil))))
  (M.seq (M.drop (M.frz (M.call mneed (M.aV (M.op2 eqD (M.opL (one strB) (M.cons (M.opL (one intXD) (M.cons (M.rd 0) M.nil)) M.nil)) (M.rd 0)) M.aNil))))
  (M.ret (M.own (M.opL (one intXD) (M.cons (M.rd 0) M.nil)))))) (DL.Fin [] 1 Q) .nx [some (.pur (.str w)), some (.pur (.str x)), none] := fun x hx => by
    have hxl : x.length ≤ 30 := by rw [len_tl, hx]; exact numL_len30 h
    have hx1 : 1 ≤ x.length := by
      rw [len_tl, hx]
      have := numL_ne i.natAbs
      cases e : numL i.natAbs with
      | nil => exact absurd e this
      | cons a l => simp
    refine st_then rfl ?_
    repeat fail
    refine st_lenS (by simp only [lim]; omega) ?_
    repeat fail
    refine st_iffT (decide_eq_true (by omega)) ?_
    repeat fail
    refine st_iffT (decide_eq_true (by omega)) ?_
    repeat fail
    refine st_itS ?_
    refine lc_map (r := fun _ => .bool true) (Nat.le_of_ble_eq_true rfl) (fun c hc => ?_) ?_
    · repeat fail
      refine st_bd fig_in ?_
      have hc' : c ∈ numL i.natAbs := by rw [← hx]; exact hc
      rw [fig_yes (dig_of hc')]
      exact ⟨rfl, rfl⟩
    refine st_and (by rw [List.length_map]; exact Nat.le_trans (Nat.le_of_eq (len_tl x).symm) (by omega)) ?_
    refine st_datL ?_
    repeat fail
    refine st_all (f := fun _ : Nat => true) ?_
    rw [show (x.cps.toList.all fun _ => true) = true from by simp]
    repeat fail
    refine need_t ?_
    repeat fail
    refine st_bd (a := .int i) (by show (if w.length ≤ 640 then _ else _) = _; rw [if_pos (by omega), hib]; rfl) ?_
    repeat fail
    refine hist ?_
    repeat fail
    refine eqSt (low_ok hlow) (low_ok hlow) ?_
    rw [show (w == w) = true from by simp]
    repeat fail
    refine need_t ?_
    repeat fail
    refine st_bd (a := .int i) (by show (if w.length ≤ 640 then _ else _) = _; rw [if_pos (by omega), hib]; rfl) ?_
    repeat fail
    exact q
  by_cases hi : i < 0
  · have e1 : iL i = 45 :: numL i.natAbs := by rw [iL, if_pos hi]; rfl
    refine st_iffT (by rw [show Txt.slice w none (some ((1 : Nat) : Int)) = Str.ofString "-" from ext_tl (by rw [hs1, e1]; rfl)]; decide +kernel) ?_
    repeat fail
    refine st_slice (by omega) ?_
    exact ⟨rfl, tail (Txt.slice w (some ((1 : Nat) : Int)) none) (by rw [tl_from, htl, e1]; rfl)⟩
  · have e1 : iL i = numL i.natAbs := by rw [iL, if_neg hi]; rfl
    refine st_iffF (by
      rw [beq_eq_false_iff_ne]
      intro e
      have e2 := congrArg tl e
      rw [hs1, e1] at e2
      have e3 : tl (Str.ofString "-") = [45] := by decide +kernel
      rw [e3] at e2
      have : (45 : Nat) ∈ numL i.natAbs := List.mem_of_mem_take (by rw [e2]; simp)
      have := dig_of this
      omega) ?_
    refine st_rdp rfl ?_
    exact ⟨rfl, tail w (by rw [htl, e1])⟩
theorem dot_len : ((Str.ofString ".").length == 0) = false := by decide +kernel
theorem split_cell {a b : Str} (ha : Lab a) (hb : Lab b) {Q : PyData → Prop} (q : Q (.list [.str a, .str b])) : Bd (splitD (.str (shT (.cell a b))) (.str ".")) Q := by
  have hl : (shT (.cell a b)).length + 2 ≤ 16777216 := by
    have h1 := ha.l8
    have h2 := hb.l8
    rw [len_tl] at h1 h2
    rw [sh_len]
    simp only [shL, List.length_append, List.length_cons]
    omega
  have e : shT (.cell a b) = Txt.join (Str.ofString ".") [a, b] := ext_tl (by
    rw [join_eq, tl_join, tl_sh, show tl (Str.ofString ".") = [46] from by decide +kernel]
    simp [joinL, shL])
  have e2 : Txt.split (shT (.cell a b)) (Str.ofString ".") = [a, b] := by
    rw [e]
    exact split_join (y := Str.ofString ".") (s := 46) (S := []) (by decide +kernel) (by decide +kernel) (parts := [a, b]) (by simp) fun p hp hm => by
      simp only [List.mem_cons, List.not_mem_nil, or_false] at hp
      rcases hp with rfl | rfl
      · have := lab_low ha _ hm; omega
      · have := lab_low hb _ hm; omega
  exact ⟨_, if_pos ⟨dot_len, hl⟩, by rw [e2]; exact q⟩
theorem split_one {w : Str} (hl : w.length ≤ 100000) (h : 46 ∉ tl w) {Q : PyData → Prop} (q : Q (.list [.str w])) : Bd (splitD (.str w) (.str ".")) Q := by
  have e : w = Txt.join (Str.ofString ".") [w] := ext_tl (by rw [join_eq, tl_join]; simp [joinL])
  have e2 : Txt.split w (Str.ofString ".") = [w] := by
    have := split_join (y := Str.ofString ".") (s := 46) (S := []) (by decide +kernel) (by decide +kernel) (parts := [w]) (by simp) (fun p hp hm => h (by rw [List.mem_singleton.mp hp] at hm; exact hm))
    rw [← e] at this
    exact this
  exact ⟨_, if_pos ⟨dot_len, by omega⟩, by rw [e2]; exact q⟩
theorem leaf_cell {a b : Str} (ha : Lab a) (hb : Lab b) {Q : OD → DEnv → Prop} (q : Q (.pur (Pt.cell a b).toD) [none]) : Hs (mleaf_in [some (.pur (.str (shT (.cell a b))))]) Q := by
  have hsp := fun {Q : PyData → Prop} q => split_cell ha hb (Q := Q) q
  generalize shT (.cell a b) = w at hsp ⊢
  unfold mleaf_in
  refine hs_runE [some (.pur (.str w)), none, none] rfl rfl ?_
  repeat fail
  refine hsp ?_
  repeat fail
  refine st_iffT rfl ?_
  repeat fail
  refine lc_map (l := [a, b]) (f := PyData.str) (r := fun _ => .bool true) (Nat.le_of_ble_eq_true rfl) (fun c hc => ?_) ?_
  · have hn : nmB c = true := by
      simp only [List.mem_cons, List.not_mem_nil, or_false] at hc
      rcases hc with rfl | rfl
      · exact lab_nm ha
      · exact lab_nm hb
    repeat fail
    refine name_t hn ?_
    repeat fail
    exact rfl
  repeat fail
  refine st_bd (a := .bool true) rfl ?_
  repeat fail
  refine st_bd (a := .tuple [.str a, .str b]) rfl ?_
  repeat fail
  refine st_bd (a := (Pt.cell a b).toD) rfl ?_
  repeat fail
  exact q
theorem leaf_num {i : Int} (h : i.natAbs < 10 ^ 30) {Q : OD → DEnv → Prop} (q : Q (.pur (Pt.num i).toD) [none]) : Hs (mleaf_in [some (.pur (.str (shT (.num i))))]) Q := by
  have hsp := fun {Q : PyData → Prop} q => split_one (w := shT (.num i)) (by rw [sh_len]; exact Nat.le_trans (iL_len h) (by decide)) (fun hm => by rw [tl_sh] at hm; have := iL_ch _ hm; omega) (Q := Q) q
  have hn := fun {Q : OD → DEnv → Prop} q => numIn_ok h (Q := Q) q
  generalize shT (.num i) = w at hsp hn ⊢
  unfold mleaf_in
  refine hs_runE [some (.pur (.str w)), none, none] rfl rfl ?_
  repeat fail
  refine hsp ?_
  repeat fail
  refine st_iffF rfl ?_
  repeat fail
  refine hn ?_
  repeat fail
  exact q
end
section
open TL
structure BT (k b : Bool) (p : Prop) : Prop where
  e : k = b
  h : p
structure NT (f : Flw) (p : Prop) : Prop where
  e : f = .nx
  h : p
theorem ex_ifT {c : M Bool} {a b : M Flw} {e : DEnv} {P : Xn → DEnv → Prop} (h : Hs (c e) fun k e' => BT k true (Ex (a e') P)) : Ex (M.ifS c a b e) P := ex_ifS (h.mono fun k e' ⟨h1, h2⟩ => ⟨fun _ => h2, fun z => by rw [h1] at z; cases z⟩)
theorem ex_seqN {a b : M Flw} {env : DEnv} {P : Xn → DEnv → Prop} (h : Hs (a env) fun f e => NT f (Ex (b e) P)) : Ex (M.seq a b env) P := ex_seq2 (h.mono fun f e ⟨h1, h2⟩ => ⟨h1, h2⟩)
def xNo : Xn := ⟨.own "NoText", some ("line", .int 0)⟩
theorem need_x {P : Xn → DEnv → Prop} (q : P xNo [none]) : Ex (mneed [some (.pur (.bool false))]) P := by
  unfold mneed
  refine ex_run [some (.pur (.bool false))] rfl rfl ?_
  refine ex_ifT ?_
  repeat fail
  refine ⟨rfl, ex_raiseF ?_⟩
  repeat fail
  exact q
def stops : Str := " ()"
theorem stop_iff {c : Nat} : decide (c ∈ stops.cps.toList) = (c == 32 || c == 40 || c == 41) := by
  have : stops.cps.toList = [32, 40, 41] := by decide +kernel
  rw [this, Bool.eq_iff_iff]
  simp only [List.mem_cons, List.not_mem_nil, or_false, decide_eq_true_eq, Bool.or_eq_true, beq_iff_eq, or_assoc]
theorem st_stop {c : Nat} {Q : PyData → Prop} (q : Q (.bool (!(c == 32 || c == 40 || c == 41)))) : Bd (ninX (.str ⟨#[c]⟩) (.str " ()")) Q := by
  refine ⟨_, ?_, q⟩
  show notD (some (PyData.bool (!(Builtin.Str.occurrences stops ⟨#[c]⟩ 0 stops.length 1).isEmpty))) = _
  rw [StrLaws.found_one, stop_iff]
  rfl
theorem st_itS' {x : Str} {k : Nat} {c : Nat} (hx : x.length ≤ 100000) (h : (tl x)[k]? = some c) {Q : PyData → Prop} (q : Q (.str ⟨#[c]⟩)) : Bd (itemD (.str x) (.int (k : Int))) Q := by
  have hk : k < x.length := by rw [len_tl]; exact (List.getElem?_eq_some_iff.mp h).1
  refine ⟨_, ?_, q⟩
  show (if x.length ≤ lim then ((ixD x.length (k : Int)).bind fun j => x.cps.toList[j]?).map fun s => PyData.str ⟨#[s]⟩ else none) = _
  rw [if_pos (by simp only [lim]; omega), show ixD x.length (k : Int) = some k from by unfold ixD; rw [if_pos (by omega), if_pos (by omega)]; rfl, Option.bind_some]
  show ((tl x)[k]?).map _ = _
  rw [h]
  rfl
def Stop (post : List Nat) : Prop := ∀ c, post.head? = some c → c = 32 ∨ c = 41
/-- the loop that goes along a word -/
theorem walk_w {x : Str} {pre w post : List Nat} {r2 : Option OD} (hx : x.length ≤ 100000) (e : tl x = pre ++ (w ++ post)) (hw : ∀ c ∈ w, c ≠ 32 ∧ c ≠ 40 ∧ c ≠ 41) (hl : w.length < 100) (hp : Stop post) {Q : Flw → DEnv → Prop}
    (q : Q .nx [some (.pur (.str x)), some (.pur (.int (pre.length : Int))), r2, none, none, none, some (.pur (.int ((pre ++ w).length : Int))), none, none]) :
    Hs (whileL (M.and (M.tru (M.op2 ltD (M.rd 6) (M.opL (one lenD) (M.cons (M.rd 0) M.nil)))) (M.tru (M.op2 ninX (M.op2 itemD (M.rd 0) (M.rd 6)) (M.pure (.str " ()")))))
  (M.augN 6 addI (M.pure (.int 1))) 100 [some (.pur (.str x)), some (.pur (.int (pre.length : Int))), r2, none, none, none, some (.pur (.int (pre.length : Int))), none, none]) Q := by
  refine hs_whileL (m := w.length) (fun m e => ∃ j, j ≤ w.length ∧ m = w.length - j ∧ e = [some (.pur (.str x)), some (.pur (.int (pre.length : Int))), r2, none, none, none, some (.pur (.int ((pre.length + j : Nat) : Int))), none, none]) ?_ hl ⟨0, Nat.zero_le _, rfl, rfl⟩
  rintro m env ⟨j, hj, rfl, rfl⟩
  have hln := len_tl x
  have htl : (tl x).length = pre.length + (w.length + post.length) := by rw [e, List.length_append, List.length_append]
  repeat fail
  refine st_lenS (by simp only [lim]; omega) ?_
  repeat fail
  by_cases hjw : j < w.length
  · refine st_iffT (decide_eq_true (by omega)) ?_
    repeat fail
    have hc : (tl x)[pre.length + j]? = some w[j] := by rw [e, List.getElem?_append_right (by omega), Nat.add_sub_cancel_left, List.getElem?_append_left hjw, List.getElem?_eq_getElem hjw]
    refine st_itS' hx hc ?_
    repeat fail
    refine st_stop ?_
    obtain ⟨h1, h2, h3⟩ := hw _ (List.getElem_mem hjw)
    rw [beq_false_of_ne h1, beq_false_of_ne h2, beq_false_of_ne h3]
    repeat fail
    refine ⟨by omega, ?_⟩
    repeat fail
    exact ⟨j + 1, hjw, by omega, rfl⟩
  · obtain rfl : j = w.length := by omega
    cases post with
    | nil =>
      refine st_iffF (decide_eq_false (by rw [hln, htl]; simp)) ?_
      repeat fail
      rw [← List.length_append]
      exact q
    | cons c l =>
      refine st_iffT (decide_eq_true (by rw [hln, htl, List.length_cons]; omega)) ?_
      repeat fail
      have hc : (tl x)[pre.length + w.length]? = some c := by rw [e, List.getElem?_append_right (by omega), Nat.add_sub_cancel_left, List.getElem?_append_right (by omega), Nat.sub_self]; rfl
      refine st_itS' hx hc ?_
      repeat fail
      refine st_stop ?_
      rw [show (c == 32 || c == 40 || c == 41) = true from by rcases hp c rfl with rfl | rfl <;> rfl]
      repeat fail
      rw [← List.length_append]
      exact q

theorem sgs_eq : ((([("plus", .str "+"), ("less", .str "-"), ("times", .str "*"), ("over", .str "/")]) : List (Str × PyData)).map fun p => PyData.tuple [.str p.1, p.2]) = (List.range 4).map fun j => PyData.tuple [.str (wd j), .str (sg1 j)] := by kernel_rfl
theorem sc_inj {j w : Nat} (hj : j < 4) (hw : w < 4) : (sc j = sc w) → j = w := by
  rcases w4 hj with rfl | rfl | rfl | rfl <;> rcases w4 hw with rfl | rfl | rfl | rfl <;> simp [sc]
theorem fil4 {w : Nat} (hw : w < 4) : (((List.range 4).filter fun j => j == w).map fun j => PyData.str (wd j)) = [.str (wd w)] := by
  rcases w4 hw with rfl | rfl | rfl | rfl <;> rfl
theorem leaf_w : ∀ {d : Nat} {t : Pt}, t.Ok d → (∀ w p q, t ≠ .two w p q) → (∀ c ∈ shL t, c ≠ 32 ∧ c ≠ 40 ∧ c ≠ 41) ∧ (shL t).length < 100 ∧ 1 ≤ (shL t).length
  | 0, _, h, _ => h.elim
  | d + 1, .cell a b, h, _ => by
    have h1 := h.1.l8
    have h2 := h.2.l8
    rw [len_tl] at h1 h2
    refine ⟨fun c hc => ?_, by simp only [shL, List.length_append, List.length_cons]; omega, by simp only [shL, List.length_append, List.length_cons]; omega⟩
    simp only [shL, List.mem_append, List.mem_cons] at hc
    rcases hc with z | z | z
    · have := lab_low h.1 c z; omega
    · omega
    · have := lab_low h.2 c z; omega
  | d + 1, .num i, h, _ => by
    refine ⟨fun c hc => ?_, Nat.lt_of_le_of_lt (iL_len h) (by decide), ?_⟩
    · have := iL_ch c hc; omega
    · show 1 ≤ (iL i).length
      unfold iL
      have := numL_ne i.natAbs
      cases e : numL i.natAbs with
      | nil => exact absurd e this
      | cons a l => simp only [List.length_append, List.length_cons]; omega
  | d + 1, .two w p q, _, h => absurd rfl (h w p q)
theorem leaf_ok {d : Nat} {t : Pt} (h : t.Ok d) (hn : ∀ w p q, t ≠ .two w p q) {Q : OD → DEnv → Prop} (q : Q (.pur t.toD) [none]) : Hs (mleaf_in [some (.pur (.str (shT t)))]) Q := by
  cases d with
  | zero => exact h.elim
  | succ d => cases t with
    | cell a b => exact leaf_cell h.1 h.2 q
    | num i => exact leaf_num h q
    | two w p q' => exact absurd rfl (hn w p q')
theorem par_ne {t : Pt} {d : Nat} (h : t.Ok d) (hn : ∀ w p q, t ≠ .two w p q) {s : Str} {post : List Nat} (e : tl s = (shL t ++ post).take 1) : (s == Str.ofString "(") = false := by
  rw [beq_eq_false_iff_ne]
  rintro rfl
  have e3 : tl (Str.ofString "(") = [40] := by decide +kernel
  rw [e3] at e
  obtain ⟨h1, _, h3⟩ := leaf_w h hn
  cases hs : shL t with
  | nil => rw [hs] at h3; exact absurd h3 (by decide)
  | cons a l =>
    rw [hs] at e
    have := h1 a (by rw [hs]; simp)
    simp at e
    omega
theorem sh_low {d : Nat} {t : Pt} (h : t.Ok d) : Low (shL t) := fun c hc => by have := sh_ch d t h c hc; omega
end
section
open TL
theorem sl_at {x : Str} {pre l post : List Nat} {m : Nat} (e : tl x = pre ++ (l ++ post)) (hl : l.length = m) : tl (Txt.slice x (some (pre.length : Int)) (some ((pre.length : Int) + (m : Int)))) = l := by
  rw [show (pre.length : Int) + (m : Int) = ((pre.length + m : Nat) : Int) by omega, tl_slice, e, List.drop_left, Nat.add_sub_cancel_left, ← hl, List.take_left]
theorem el3 (a b : List Nat) (h : b.length = 3) : (a.length : Int) + 3 = ((a ++ b).length : Int) := by rw [List.length_append]; omega
theorem el1 (a b : List Nat) (h : b.length = 1) : (a.length : Int) + 1 = ((a ++ b).length : Int) := by rw [List.length_append]; omega
theorem low3 {w : Nat} (hw : w < 4) : Low [32, sc w, 32] := fun c hc => by
  have hsc : sc w = 43 ∨ sc w = 45 ∨ sc w = 42 ∨ sc w = 47 := by rcases w4 hw with rfl | rfl | rfl | rfl <;> simp [sc]
  simp only [List.mem_cons, List.not_mem_nil, or_false] at hc
  omega
set_option maxHeartbeats 0 in
theorem part_ok : ∀ (n d : Nat), d ≤ n → d ≤ 6 → ∀ {t : Pt}, t.Ok d → ∀ {x : Str} {pre post : List Nat} {deep : Int}, x.length ≤ 10000 → Low (tl x) → tl x = pre ++ (shL t ++ post) → Stop post → (d : Int) ≤ deep → deep ≤ 6 → ∀ {Q : OD → DEnv → Prop},
    Q (.pur (.tuple [t.toD, .int ((pre ++ shL t).length : Int)])) [none, none, none] → Hs (mpart_at n [some (.pur (.str x)), some (.pur (.int (pre.length : Int))), some (.pur (.int deep))]) Q
  | 0, d, h1, _, t, h, x, pre, post, deep, _, _, _, _, _, _, Q, q => by
    obtain rfl : d = 0 := by omega
    exact h.elim
  | n + 1, 0, h1, _, t, h, x, pre, post, deep, _, _, _, _, _, _, Q, q => h.elim
  | n + 1, d + 1, h1, h6, t, h, x, pre, post, deep, hx, hlow, e, hp, hd, hd6, Q, q => by
    have hlx := len_tl x
    unfold mpart_at
    refine hs_runE [some (.pur (.str x)), some (.pur (.int (pre.length : Int))), some (.pur (.int deep)), none, none, none, none, none, none] rfl rfl ?_
    repeat fail
    rw [show decide (deep > 0) = true from decide_eq_true (by omega)]
    refine need_t ?_
    repeat fail
    refine st_slice (by omega) ?_
    repeat fail
    rw [show ((pre.length : Nat) : Int) + 1 = ((pre.length + 1 : Nat) : Int) by omega]
    have hs1 : tl (Txt.slice x (some ((pre.length : Nat) : Int)) (some ((pre.length + 1 : Nat) : Int))) = (shL t ++ post).take 1 := by
      rw [tl_slice, e, List.drop_left, Nat.add_sub_cancel_left]
    refine eqSt (low_ok (by rw [hs1]; exact fun c hc => hlow c (by rw [e]; exact List.mem_append_right _ (List.mem_of_mem_take hc)))) (by decide +kernel) ?_
    repeat fail
    have leafT : (∀ w p q, t ≠ .two w p q) → (Txt.slice x (some ((pre.length : Nat) : Int)) (some ((pre.length + 1 : Nat) : Int)) == Str.ofString "(") = false := fun hn => par_ne h hn hs1
    by_cases htwo : ∃ w p q, t = .two w p q
    · obtain ⟨w, p1, p2, rfl⟩ := htwo
      obtain ⟨hw, hk1, hk2⟩ := h
      refine st_iffT (by
        rw [beq_iff_eq]
        refine ext_tl ?_
        rw [hs1]
        rw [show tl (Str.ofString "(") = [40] from by decide +kernel]
        rfl) ?_
      repeat fail
      have e1 : tl x = (pre ++ [40]) ++ (shL p1 ++ ([32, sc w, 32] ++ (shL p2 ++ (41 :: post)))) := by
        rw [e]; simp [shL]
      rw [show ((pre.length : Nat) : Int) + 1 = (((pre ++ [40]).length : Nat) : Int) by simp]
      refine part_ok n d (by omega) (by omega) hk1 (pre := pre ++ [40]) hx hlow e1 (fun c hc => .inl (by simp at hc; exact hc.symm)) (by omega) (by omega) ?_
      repeat fail
      refine ⟨[some (.pur (.str x)), some (.pur (.int (((pre ++ [40]) ++ shL p1).length : Int))), some (.pur (.int deep)), some (.pur p1.toD), none, none, none, none, none], rfl, ?_⟩
      repeat fail
      rw [sgs_eq]
      refine lc_fil (l := List.range 4) (f := fun j => PyData.tuple [.str (wd j), .str (sg1 j)]) (t := fun j => j == w) (r := fun j => .str (wd j)) (fun nn j hj => ?_) ?_
      · have hj4 : j < 4 := List.mem_range.mp (List.mem_of_getElem? hj)
        have l6 : (Str.ofString " ").length = 1 := by decide +kernel
        have l5 : (sg1 j).length = 1 := rfl
        have l7 : Str.empty.length = 0 := rfl
        refine ⟨[some (.pur (.str x)), some (.pur (.int (((pre ++ [40]) ++ shL p1).length : Int))), some (.pur (.int deep)), some (.pur p1.toD), none, none, none, some (.pur (.str (wd j))), some (.pur (.str (sg1 j)))], rfl, ?_⟩
        repeat fail
        refine st_slice (by omega) ?_
        repeat fail
        refine hs_fjC ?_
        repeat fail
        refine ⟨_, rfl, by simp only [len_app]; omega, hs_fjC ?_⟩
        repeat fail
        refine st_fmt (by omega) ?_
        refine ⟨_, rfl, by simp only [len_app]; omega, hs_fjC ?_⟩
        repeat fail
        refine ⟨_, rfl, by simp only [len_app]; omega, hs_fj0 ?_⟩
        repeat fail
        have hs3 : tl (Txt.slice x (some (((pre ++ [40] ++ shL p1).length : Nat) : Int)) (some (((pre ++ [40] ++ shL p1).length : Nat) + 3 : Int))) = [32, sc w, 32] := sl_at (m := 3) (e1.trans (List.append_assoc _ _ _).symm) rfl
        have hs4 : tl (((Str.empty ++ Str.ofString " ") ++ sg1 j) ++ Str.ofString " ") = [32, sc j, 32] := by
          simp only [tl_append]
          rw [show tl (Str.ofString " ") = [32] from by decide +kernel, show tl Str.empty = [] from rfl, show tl (sg1 j) = [sc j] from rfl]
          rfl
        have hb : (Txt.slice x (some (((pre ++ [40] ++ shL p1).length : Nat) : Int)) (some (((pre ++ [40] ++ shL p1).length : Nat) + 3 : Int)) == ((Str.empty ++ Str.ofString " ") ++ sg1 j) ++ Str.ofString " ") = (j == w) := by
          by_cases hjw : j = w
          · subst hjw
            rw [show (j == j) = true from by simp, beq_iff_eq]
            exact ext_tl (hs3.trans hs4.symm)
          · rw [show (j == w) = false from beq_false_of_ne hjw, beq_eq_false_iff_ne]
            intro e5
            have := congrArg tl e5
            rw [hs3, hs4] at this
            simp only [List.cons.injEq, and_true, true_and] at this
            exact hjw (sc_inj hj4 hw this.symm)
        refine eqSt (low_ok (by rw [hs3]; exact low3 hw)) (low_ok (by rw [hs4]; exact low3 hj4)) ?_
        rw [hb]
        repeat fail
        exact ⟨fun _ => ⟨_, _, rfl, rfl, rfl⟩, fun _ => rfl⟩
      rw [fil4 hw]
      repeat fail
      refine need_t ?_
      repeat fail
      rw [el3 (pre ++ [40] ++ shL p1) [32, sc w, 32] rfl]
      have e2 : tl x = (pre ++ [40] ++ shL p1 ++ [32, sc w, 32]) ++ (shL p2 ++ (41 :: post)) := by
        rw [e1]; simp
      refine part_ok n d (by omega) (by omega) hk2 (pre := pre ++ [40] ++ shL p1 ++ [32, sc w, 32]) hx hlow e2 (fun c hc => .inr (by simp at hc; exact hc.symm)) (by omega) (by omega) ?_
      repeat fail
      refine ⟨[some (.pur (.str x)), some (.pur (.int (((pre ++ [40] ++ shL p1 ++ [32, sc w, 32]) ++ shL p2).length : Int))), some (.pur (.int deep)), some (.pur p1.toD), some (.pur (.list [.str (wd w)])), some (.pur p2.toD), none, none, none], rfl, ?_⟩
      repeat fail
      refine st_slice (by omega) ?_
      repeat fail
      have hs5 : tl (Txt.slice x (some (((pre ++ [40] ++ shL p1 ++ [32, sc w, 32] ++ shL p2).length : Nat) : Int)) (some (((pre ++ [40] ++ shL p1 ++ [32, sc w, 32] ++ shL p2).length : Nat) + 1 : Int))) = [41] := sl_at (m := 1) (e2.trans (List.append_assoc _ _ _).symm) rfl
      refine eqSt (low_ok (by rw [hs5]; exact fun c hc => by rw [List.mem_singleton.mp hc]; decide)) (by decide +kernel) ?_
      have hb5 : ∀ z : Str, tl z = [41] → (z == Str.ofString ")") = true := fun z hz => by
        rw [beq_iff_eq]
        exact ext_tl (hz.trans (by decide +kernel))
      rw [hb5 _ hs5]
      repeat fail
      refine need_t ?_
      repeat fail
      refine st_bd (a := .str (wd w)) rfl ?_
      repeat fail
      rw [el1 (pre ++ [40] ++ shL p1 ++ [32, sc w, 32] ++ shL p2) [41] rfl]
      rw [show pre ++ [40] ++ shL p1 ++ [32, sc w, 32] ++ shL p2 ++ [41] = pre ++ shL (.two w p1 p2) from by simp [shL]]
      exact q
    · have hn : ∀ w p q, t ≠ .two w p q := fun w p q e => htwo ⟨w, p, q, e⟩
      refine st_iffF (leafT hn) ?_
      repeat fail
      obtain ⟨w1, w2, w3⟩ := leaf_w h hn
      refine walk_w (by omega) e w1 w2 hp ?_
      repeat fail
      refine st_slice (by omega) ?_
      repeat fail
      rw [show Txt.slice x (some ((pre.length : Nat) : Int)) (some (((pre ++ shL t).length : Nat) : Int)) = shT t from ext_tl (by
        rw [tl_slice, e, List.drop_left, tl_sh, List.length_append, Nat.add_sub_cancel_left, List.take_left])]
      refine leaf_ok h hn ?_
      repeat fail
      exact q
end
section
open TL
theorem wd_in {w : Nat} (hw : w < 4) : strIn ["plus", "less", "times", "over"] (.str (wd w)) = some (.bool true) := by
  rcases w4 hw with rfl | rfl | rfl | rfl <;> kernel_rfl
def kids : Pt → List Pt
  | .two _ p q => [p, q]
  | _ => []
theorem kids_n (t : Pt) : t.nodes = 1 + ((kids t).map Pt.nodes).sum := by cases t <;> simp [kids, Pt.nodes]; omega
theorem kids_ok {d : Nat} {t : Pt} (h : t.Ok (d + 1)) : ∀ p ∈ kids t, p.Ok d := fun p hp => by
  cases t with
  | cell a b => cases hp
  | num i => cases hp
  | two w p q =>
    simp only [kids, List.mem_cons, List.not_mem_nil, or_false] at hp
    rcases hp with rfl | rfl
    · exact h.2.1
    · exact h.2.2
theorem kids_len (t : Pt) : (kids t).length ≤ 2 := by cases t <;> simp [kids]
theorem inner_ok {d : Nat} {t : Pt} (h : t.Ok d) {Q : OD → DEnv → Prop} (q : Q (.pur (.tuple ((kids t).map Pt.toD))) [none]) : Hs (minner_parts [some (.pur t.toD)]) Q := by
  cases d with
  | zero => exact h.elim
  | succ d =>
    unfold minner_parts
    refine hs_runE [some (.pur t.toD)] rfl rfl ?_
    repeat fail
    cases t with
    | cell a b =>
      refine st_bd (a := .str "cell") rfl ?_
      repeat fail
      refine st_bd (a := .bool false) (by kernel_rfl) ?_
      repeat fail
      exact q
    | num i =>
      refine st_bd (a := .str "number") rfl ?_
      repeat fail
      refine st_bd (a := .bool false) (by kernel_rfl) ?_
      repeat fail
      exact q
    | two w p q' =>
      refine st_bd (a := .str (wd w)) rfl ?_
      repeat fail
      refine st_bd (wd_in h.1) ?_
      repeat fail
      refine st_bd (a := .tuple [p.toD, q'.toD]) rfl ?_
      repeat fail
      exact q
set_option maxHeartbeats 0 in
theorem many_ok : ∀ (n d : Nat), d ≤ n → ∀ {t : Pt}, t.Ok d → ∀ {Q : OD → DEnv → Prop}, Q (.pur (.int (t.nodes : Int))) [none] → Hs (mhow_many_parts n [some (.pur t.toD)]) Q
  | 0, d, h1, t, h, Q, q => by
    obtain rfl : d = 0 := by omega
    exact h.elim
  | n + 1, 0, h1, t, h, Q, q => h.elim
  | n + 1, d + 1, h1, t, h, Q, q => by
    unfold mhow_many_parts
    refine hs_runE [some (.pur t.toD), none] rfl rfl ?_
    repeat fail
    refine inner_ok h ?_
    repeat fail
    refine lc_map (l := kids t) (f := Pt.toD) (r := fun p => .int (p.nodes : Int)) (Nat.le_of_ble_eq_true rfl) (fun p hp => ?_) ?_
    · repeat fail
      refine many_ok n d (by omega) (kids_ok h p hp) ?_
      repeat fail
      exact rfl
    refine st_and (by rw [List.length_map]; exact Nat.le_trans (kids_len t) (by decide)) ?_
    repeat fail
    refine st_sum (f := fun p : Pt => (p.nodes : Int)) ?_
    repeat fail
    rw [show (1 : Int) + ((kids t).map fun p => (p.nodes : Int)).sum = (t.nodes : Int) by
      rw [kids_n t]
      generalize kids t = l
      have : ∀ l : List Pt, (l.map fun p => (p.nodes : Int)).sum = (((l.map Pt.nodes).sum : Nat) : Int) := fun l => by
        induction l with
        | nil => rfl
        | cons a l ih => rw [List.map_cons, List.sum_cons, ih, List.map_cons, List.sum_cons]; omega
      rw [this]; omega]
    exact q
def P5 (t : Pt) : Prop := ∃ d, t.Ok d ∧ d ≤ 5 ∧ t.nodes ≤ 15
theorem whole_ok {t : Pt} (h : P5 t) {Q : OD → DEnv → Prop} (q : Q (.pur t.toD) [none]) : Hs (mwhole_part [some (.pur (.str (shT t)))]) Q := by
  obtain ⟨d, hk, hd, hn⟩ := h
  have hl := sh_2k hk (by omega)
  unfold mwhole_part
  refine hs_runE [some (.pur (.str (shT t))), none, none] rfl rfl ?_
  repeat fail
  refine part_ok 8 d (by omega) (by omega) hk (pre := []) (post := []) (by omega) (by rw [tl_sh]; exact sh_low hk) (by rw [tl_sh]; simp) (fun c hc => by cases hc) (by omega) (by decide) ?_
  repeat fail
  refine ⟨[some (.pur (.str (shT t))), some (.pur t.toD), some (.pur (.int ((shL t).length : Int)))], rfl, ?_⟩
  repeat fail
  refine st_lenS (by simp only [lim]; omega) ?_
  repeat fail
  refine st_iffT (decide_eq_true (by rw [sh_len])) ?_
  repeat fail
  refine many_ok 8 d (by omega) hk ?_
  repeat fail
  rw [show decide ((t.nodes : Int) ≤ 15) = true from decide_eq_true (by omega)]
  refine need_t ?_
  repeat fail
  exact q
theorem readP_ok {t : Pt} (h : P5 t) {Q : OD → DEnv → Prop} (q : Q (.pur t.toD) [none]) : Hs (mread_part [some (.pur (.str (shT t)))]) Q := by
  unfold mread_part
  refine hs_runE [some (.pur (.str (shT t)))] rfl rfl ?_
  repeat fail
  rw [show isA "str" (PyData.str (shT t)) = true from rfl]
  refine need_t ?_
  repeat fail
  refine whole_ok h ?_
  repeat fail
  exact q
end
section
open TL
theorem pre3 {c : Nat} {l : List Nat} (h : l[1]? ≠ some c) : pre [32, c, 32] l = false := by
  cases hp : pre [32, c, 32] l with
  | false => rfl
  | true =>
    have e : l.take 3 = [32, c, 32] := eq_of_beq hp
    refine absurd ?_ h
    have := congrArg (fun z : List Nat => z[1]?) e
    simpa [List.getElem?_take] using this
theorem part_yes {x : Str} {a b : List Nat} {w : Nat} (e : tl x = a ++ ([32, ss w, 32] ++ b)) (h : ss w ∉ a) (hw : w < 3) : Txt.partition x (ssT w) = (⟨a.toArray⟩, ssT w, ⟨b.toArray⟩) := by
  have hs : ss w = 61 ∨ ss w = 35 ∨ ss w = 60 := by rcases w3 hw with rfl | rfl | rfl <;> simp [ss]
  rw [partition_par _ _ (by rw [tl_ss]; simp), tl_ss, e, par_part (by simp) (fun i hi => pre3 (fun z => ?_))]
  · simp
  · rw [List.getElem?_drop] at z
    rcases Nat.lt_or_ge (i + 1) a.length with k | k
    · rw [List.getElem?_append_left k] at z
      exact h (List.mem_of_getElem? z)
    · rw [List.getElem?_append_right k, show i + 1 - a.length = 0 from by omega] at z
      simp at z
      omega
theorem part_no {x : Str} {w : Nat} (h : ss w ∉ tl x) : Txt.partition x (ssT w) = (x, Str.empty, Str.empty) := by
  rw [partition_par _ _ (by rw [tl_ss]; simp), tl_ss, par_none (fun i hi => pre3 (fun z => ?_))]
  rw [List.getElem?_drop] at z
  exact h (List.mem_of_getElem? z)
theorem st_parti {x y : Str} (hx : x.length ≤ 100000) (hy : (y.length == 0) = false) {Q : PyData → Prop} (q : Q (.tuple [.str (Txt.partition x y).1, .str (Txt.partition x y).2.1, .str (Txt.partition x y).2.2])) : Bd (partiD (.str x) (.str y)) Q := ⟨_, if_pos ⟨hy, by omega⟩, q⟩
theorem st_starts {x y : Str} {Q : PyData → Prop} (q : Q (.bool (Txt.startswith x y))) : Bd (startsD (.str x) (.str y)) Q := ⟨_, rfl, q⟩
def lackS : Str := "lacking "
theorem lack_tl : tl lackS = [108, 97, 99, 107, 105, 110, 103, 32] := by decide +kernel
theorem starts_eq {x : Str} (h : 8 ≤ x.length) : Txt.startswith x lackS = ((tl x).take 8 == tl lackS) := by
  unfold Txt.startswith
  rw [StrLaws.subAt_eq, show lackS.length = 8 from by decide +kernel, List.drop_zero, decide_eq_true (by omega : 0 + 8 ≤ x.length), Bool.true_and]
theorem starts_short {x : Str} (h : x.length < 8) : Txt.startswith x lackS = false := by
  unfold Txt.startswith
  rw [show lackS.length = 8 from by decide +kernel, decide_eq_false (by omega : ¬ 0 + 8 ≤ x.length), Bool.false_and]
theorem starts_no {d : Nat} {t : Pt} (h : t.Ok d) {post : List Nat} {x : Str} (e : tl x = shL t ++ post) : Txt.startswith x lackS = false := by
  rcases Nat.lt_or_ge x.length 8 with k | k
  · exact starts_short k
  · rw [starts_eq k, beq_eq_false_iff_ne]
    intro e2
    rw [lack_tl, e] at e2
    cases d with
    | zero => exact h.elim
    | succ d => cases t with
      | cell a b =>
        have h1 := lab_low h.1
        have h2 := h.1.l8
        rw [len_tl] at h2
        have e3 : (shL (.cell a b) ++ post) = tl a ++ (46 :: (tl b ++ post)) := by simp [shL]
        rw [e3] at e2
        rcases Nat.lt_or_ge (tl a).length 8 with j | j
        · have e4 := congrArg (fun z : List Nat => z[(tl a).length]?) e2
          simp only [List.getElem?_take, if_pos j] at e4
          rw [List.getElem?_append_right (Nat.le_refl _), Nat.sub_self] at e4
          have : (46 : Nat) ∈ ([108, 97, 99, 107, 105, 110, 103, 32] : List Nat) := List.mem_of_getElem? e4.symm
          exact absurd this (by decide)
        · have e4 := congrArg (fun z : List Nat => z[7]?) e2
          simp only [List.getElem?_take, if_pos (show 7 < 8 by decide)] at e4
          rw [List.getElem?_append_left (by omega)] at e4
          have := h1 32 (List.mem_of_getElem? e4)
          omega
      | num i =>
        have e4 := congrArg (fun z : List Nat => z[0]?) e2
        simp only [List.getElem?_take, if_pos (show 0 < 8 by decide)] at e4
        obtain ⟨_, _, h3⟩ := leaf_w (t := .num i) (d := d + 1) h (by intro _ _ _ z; cases z)
        rw [List.getElem?_append_left (by omega)] at e4
        have := iL_ch 108 (List.mem_of_getElem? e4)
        omega
      | two w p q => simp [shL] at e2
theorem sw_ss {j w : Nat} (hj : j < 3) (hw : w < 3) : ss j = ss w → j = w := by
  rcases w3 hj with rfl | rfl | rfl <;> rcases w3 hw with rfl | rfl | rfl <;> simp [ss]
theorem ss_not {d : Nat} {t : Pt} (h : t.Ok d) {w : Nat} (hw : w < 3) : ss w ∉ shL t := fun hm => by
  have := sh_ch d t h _ hm
  have hs : ss w = 61 ∨ ss w = 35 ∨ ss w = 60 := by rcases w3 hw with rfl | rfl | rfl <;> simp [ss]
  omega
theorem wsg_eq : ((([("alike", .str "="), ("unlike", .str "#"), ("below", .str "<")]) : List (Str × PyData)).map fun p => PyData.tuple [.str p.1, p.2]) = (List.range 3).map fun j => PyData.tuple [.str (sw j), .str (ss1 j)] := by kernel_rfl
theorem ssT_eq (j : Nat) : ((Str.empty ++ Str.ofString " ") ++ ss1 j) ++ Str.ofString " " = ssT j := ext_tl (by
  simp only [tl_append]
  rw [show tl (Str.ofString " ") = [32] from by decide +kernel, show tl Str.empty = [] from rfl]
  rfl)
end
section
open TL
local macro_rules | `(tactic| fail) => `(tactic| with_reducible refine hs_sm ?_)
theorem Pt.Ok.mono : ∀ {d e : Nat} {t : Pt}, t.Ok d → d ≤ e → t.Ok e
  | 0, _, _, h, _ => h.elim
  | d + 1, 0, _, _, h2 => absurd h2 (by omega)
  | d + 1, e + 1, .cell a b, h, _ => h
  | d + 1, e + 1, .num i, h, _ => h
  | d + 1, e + 1, .two w p q, h, h2 => ⟨h.1, h.2.1.mono (by omega), h.2.2.mono (by omega)⟩
def S5 : Sv → Prop
  | .two w p q => w < 3 ∧ P5 p ∧ P5 q
  | .lack p => P5 p
theorem S5.up {s : Sv} (h : S5 s) : ∃ d, s.ok d ∧ d ≤ 6 := by
  cases s with
  | lack p =>
    obtain ⟨d, h1, h2, _⟩ := h
    exact ⟨d, h1, by omega⟩
  | two w p q =>
    obtain ⟨hw, ⟨d1, h1, h2, _⟩, ⟨d2, h3, h4, _⟩⟩ := h
    exact ⟨5, ⟨hw, h1.mono h2, h3.mono h4⟩, by decide⟩
theorem sh_len2 {t : Pt} (h : P5 t) : (shT t).length ≤ 2304 := by
  obtain ⟨d, h1, h2, _⟩ := h
  exact sh_2k h1 (by omega)
theorem shL_len2 {t : Pt} (h : P5 t) : (shL t).length ≤ 2304 := by rw [← sh_len]; exact sh_len2 h
theorem sv_len {s : Sv} (h : S5 s) : (svT s).length ≤ 5000 := by
  rw [len_tl, tl_sv]
  cases s with
  | lack p =>
    have := shL_len2 (t := p) h
    show (tl lackS ++ shL p).length ≤ _
    rw [lack_tl, List.length_append]
    simp only [List.length_cons, List.length_nil]; omega
  | two w p q =>
    have h1 := shL_len2 h.2.1
    have h2 := shL_len2 h.2.2
    simp only [svL, List.length_append, List.length_cons, List.length_nil]; omega
theorem wholeS_lack {p : Pt} (h : P5 p) {Q : OD → DEnv → Prop} (q : Q (.pur (Sv.lack p).toD) [none]) : Hs (mwhole_sieve [some (.pur (.str (svT (.lack p))))]) Q := by
  have hl : (svT (.lack p)).length ≤ 5000 := sv_len (s := .lack p) h
  have ht : tl (svT (.lack p)) = tl lackS ++ shL p := tl_sv _
  unfold mwhole_sieve
  refine hs_runE [some (.pur (.str (svT (.lack p)))), none, none, none, none, none] rfl rfl ?_
  repeat fail
  refine st_starts ?_
  rw [show Txt.startswith (svT (.lack p)) (Str.ofString "lacking ") = true from by
    show Txt.startswith (svT (.lack p)) lackS = true
    rw [starts_eq (by rw [len_tl, ht, lack_tl, List.length_append]; simp), beq_iff_eq, ht, lack_tl]; rfl]
  repeat fail
  refine st_bd (a := .int 8) (by kernel_rfl) ?_
  repeat fail
  refine st_slice (by omega) ?_
  repeat fail
  rw [show Txt.slice (svT (.lack p)) (some 8) none = shT p from ext_tl ((tl_from (a := 8)).trans (by
    rw [ht, lack_tl, tl_sh]; rfl))]
  refine whole_ok h ?_
  repeat fail
  exact q
theorem ss_low {w : Nat} (hw : w < 3) : Low (tl (ssT w)) := fun c hc => by
  have hs : ss w = 61 ∨ ss w = 35 ∨ ss w = 60 := by rcases w3 hw with rfl | rfl | rfl <;> simp [ss]
  rw [tl_ss] at hc
  simp only [List.mem_cons, List.not_mem_nil, or_false] at hc
  omega
set_option maxHeartbeats 0 in
theorem wholeS_two {w : Nat} {p1 p2 : Pt} (hw : w < 3) (h1 : P5 p1) (h2 : P5 p2) {Q : OD → DEnv → Prop} (q : Q (.pur (Sv.two w p1 p2).toD) [none]) : Hs (mwhole_sieve [some (.pur (.str (svT (.two w p1 p2))))]) Q := by
  have hl : (svT (.two w p1 p2)).length ≤ 5000 := sv_len (s := .two w p1 p2) ⟨hw, h1, h2⟩
  have ht : tl (svT (.two w p1 p2)) = shL p1 ++ ([32, ss w, 32] ++ shL p2) := tl_sv _
  obtain ⟨d1, k1, _, _⟩ := id h1
  obtain ⟨d2, k2, _, _⟩ := id h2
  have hst := starts_no k1 ht
  have hyes := part_yes ht (ss_not k1 hw) hw
  have hno : ∀ j, j < 3 → j ≠ w → Txt.partition (svT (.two w p1 p2)) (ssT j) = (svT (.two w p1 p2), Str.empty, Str.empty) := fun j hj hjw => part_no (by
    rw [ht]
    simp only [List.mem_append, List.mem_cons, List.not_mem_nil, or_false, not_or]
    have hs : ss j = 61 ∨ ss j = 35 ∨ ss j = 60 := by rcases w3 hj with rfl | rfl | rfl <;> simp [ss]
    exact ⟨ss_not k1 hj, ⟨by omega, fun z => hjw (sw_ss hj hw z), by omega⟩, ss_not k2 hj⟩)
  generalize svT (.two w p1 p2) = x at hl hst hyes hno ⊢
  unfold mwhole_sieve
  refine hs_runE [some (.pur (.str x)), none, none, none, none, none] rfl rfl ?_
  repeat fail
  refine st_starts ?_
  rw [show Txt.startswith x (Str.ofString "lacking ") = false from hst]
  repeat fail
  rw [wsg_eq]
  refine hs_forN (fun i e => i ≤ w ∧ ∃ a b c d f, e = [some (.pur (.str x)), a, b, c, d, f]) ?_ (fun e he => absurd he.1 (by rw [List.length_map, List.length_range]; omega)) ⟨Nat.zero_le _, none, none, none, none, none, rfl⟩
  rintro j dd hj e ⟨hjw, a, b, c, d, f, rfl⟩
  rw [List.getElem?_map] at hj
  obtain ⟨j', hj', rfl⟩ := Option.map_eq_some_iff.mp hj
  obtain ⟨hj3, rfl⟩ : j < 3 ∧ j' = j := by
    rw [List.getElem?_range (by have := (List.getElem?_eq_some_iff.mp hj').1; rwa [List.length_range] at this)] at hj'
    exact ⟨by omega, by cases hj'; rfl⟩
  have l6 : (Str.ofString " ").length = 1 := by decide +kernel
  have l5 : (ss1 j').length = 1 := rfl
  have l7 : Str.empty.length = 0 := rfl
  refine ⟨[some (.pur (.str x)), some (.pur (.str (sw j'))), some (.pur (.str (ss1 j'))), c, d, f], rfl, ?_⟩
  repeat fail
  refine hs_fjC ?_
  repeat fail
  refine ⟨_, rfl, by simp only [len_app]; omega, hs_fjC ?_⟩
  repeat fail
  refine st_fmt (by omega) ?_
  refine ⟨_, rfl, by simp only [len_app]; omega, hs_fjC ?_⟩
  repeat fail
  refine ⟨_, rfl, by simp only [len_app]; omega, hs_fj0 ?_⟩
  repeat fail
  rw [ssT_eq]
  repeat fail
  refine st_parti (by omega) rfl ?_
  repeat fail
  by_cases hjw' : j' = w
  · subst hjw'
    rw [hyes]
    refine ⟨[some (.pur (.str x)), some (.pur (.str (sw j'))), some (.pur (.str (ss1 j'))), some (.pur (.str (shT p1))), some (.pur (.str (ssT j'))), some (.pur (.str (shT p2)))], rfl, ?_⟩
    repeat fail
    refine neSt (low_ok (ss_low hw)) (by decide +kernel) ?_
    rw [show (ssT j' == Str.ofString "") = false from rfl]
    repeat fail
    refine whole_ok h1 ?_
    repeat fail
    refine whole_ok h2 ?_
    repeat fail
    exact q
  · rw [hno j' hj3 hjw']
    refine ⟨[some (.pur (.str x)), some (.pur (.str (sw j'))), some (.pur (.str (ss1 j'))), some (.pur (.str x)), some (.pur (.str Str.empty)), some (.pur (.str Str.empty))], rfl, ?_⟩
    repeat fail
    refine neSt (by decide +kernel) (by decide +kernel) ?_
    rw [show (Str.empty == Str.ofString "") = true from by decide +kernel]
    repeat fail
    exact ⟨by omega, _, _, _, _, _, rfl⟩
theorem readS_ok {s : Sv} (h : S5 s) {Q : OD → DEnv → Prop} (q : Q (.pur s.toD) [none]) : Hs (mread_sieve [some (.pur (.str (svT s)))]) Q := by
  unfold mread_sieve
  refine hs_runE [some (.pur (.str (svT s)))] rfl rfl ?_
  repeat fail
  rw [show isA "str" (PyData.str (svT s)) = true from rfl]
  refine need_t ?_
  repeat fail
  cases s with
  | lack p =>
    refine wholeS_lack h ?_
    repeat fail
    exact q
  | two w p1 p2 =>
    refine wholeS_two h.1 h.2.1 h.2.2 ?_
    repeat fail
    exact q
end
section
open TL
local macro_rules | `(tactic| fail) => `(tactic| with_reducible refine hs_sm ?_)
abbrev PX : Xn → DEnv → Prop := fun x e => x = xNo ∧ e = [none]
set_option maxHeartbeats 0 in
theorem readS_no {t : Pt} (h : P5 t) : Ex (mread_sieve [some (.pur (.str (shT t)))]) PX := by
  have hl := sh_len2 h
  have ht := tl_sh t
  obtain ⟨d, k1, _, _⟩ := id h
  have hst := starts_no k1 (x := shT t) (post := []) (by rw [ht, List.append_nil])
  have hno : ∀ j, j < 3 → Txt.partition (shT t) (ssT j) = (shT t, Str.empty, Str.empty) := fun j hj => part_no (by
    rw [ht]; exact ss_not k1 hj)
  generalize shT t = x at hl hst hno ⊢
  unfold mread_sieve
  refine ex_run [some (.pur (.str x))] rfl rfl ?_
  refine ex_seqN ?_
  repeat fail
  rw [show isA "str" (PyData.str x) = true from rfl]
  refine need_t ?_
  repeat fail
  refine ⟨rfl, ex_ret (ex_call ?_)⟩
  repeat fail
  unfold mwhole_sieve
  refine ex_run [some (.pur (.str x)), none, none, none, none, none] rfl rfl ?_
  refine ex_seqN ?_
  repeat fail
  refine st_starts ?_
  rw [show Txt.startswith x (Str.ofString "lacking ") = false from hst]
  repeat fail
  refine ⟨rfl, ex_seqN ?_⟩
  repeat fail
  rw [wsg_eq]
  refine hs_forN (fun i e => ∃ a b c d f, e = [some (.pur (.str x)), a, b, c, d, f]) ?_ ?_ ⟨none, none, none, none, none, rfl⟩
  · rintro j dd hj e ⟨a, b, c, d, f, rfl⟩
    rw [List.getElem?_map] at hj
    obtain ⟨j', hj', rfl⟩ := Option.map_eq_some_iff.mp hj
    obtain ⟨hj3, rfl⟩ : j < 3 ∧ j' = j := by
      have hh := (List.getElem?_eq_some_iff.mp hj').1
      rw [List.length_range] at hh
      rw [List.getElem?_range hh] at hj'
      exact ⟨hh, by cases hj'; rfl⟩
    have l6 : (Str.ofString " ").length = 1 := by decide +kernel
    have l5 : (ss1 j').length = 1 := rfl
    have l7 : Str.empty.length = 0 := rfl
    refine ⟨[some (.pur (.str x)), some (.pur (.str (sw j'))), some (.pur (.str (ss1 j'))), c, d, f], rfl, ?_⟩
    repeat fail
    refine hs_fjC ?_
    repeat fail
    refine ⟨_, rfl, by simp only [len_app]; omega, hs_fjC ?_⟩
    repeat fail
    refine st_fmt (by omega) ?_
    refine ⟨_, rfl, by simp only [len_app]; omega, hs_fjC ?_⟩
    repeat fail
    refine ⟨_, rfl, by simp only [len_app]; omega, hs_fj0 ?_⟩
    repeat fail
    rw [ssT_eq]
    repeat fail
    refine st_parti (by omega) rfl ?_
    repeat fail
    rw [hno j' hj3]
    refine ⟨[some (.pur (.str x)), some (.pur (.str (sw j'))), some (.pur (.str (ss1 j'))), some (.pur (.str x)), some (.pur (.str Str.empty)), some (.pur (.str Str.empty))], rfl, ?_⟩
    repeat fail
    refine neSt (by decide +kernel) (by decide +kernel) ?_
    rw [show (Str.empty == Str.ofString "") = true from by decide +kernel]
    repeat fail
    exact ⟨_, _, _, _, _, rfl⟩
  · rintro e ⟨a, b, c, d, f, rfl⟩
    refine ⟨rfl, ex_raiseF ?_⟩
    repeat fail
    exact rfl
theorem readP_two {w : Nat} {p1 p2 : Pt} (hw : w < 3) (h1 : P5 p1) (h2 : P5 p2) : Ex (mread_part [some (.pur (.str (svT (.two w p1 p2))))]) PX := by
  have hl : (svT (.two w p1 p2)).length ≤ 5000 := sv_len (s := .two w p1 p2) ⟨hw, h1, h2⟩
  have ht : tl (svT (.two w p1 p2)) = shL p1 ++ ([32, ss w, 32] ++ shL p2) := tl_sv _
  obtain ⟨d1, k1, b1, _⟩ := id h1
  obtain ⟨d2, k2, _, _⟩ := id h2
  have hs : ss w = 61 ∨ ss w = 35 ∨ ss w = 60 := by rcases w3 hw with rfl | rfl | rfl <;> simp [ss]
  have hlow : Low (tl (svT (.two w p1 p2))) := fun c hc => by
    rw [ht] at hc
    simp only [List.mem_append, List.mem_cons, List.not_mem_nil, or_false] at hc
    rcases hc with z | (z | z | z) | z
    · exact sh_low k1 c z
    · omega
    · omega
    · omega
    · exact sh_low k2 c z
  generalize svT (.two w p1 p2) = x at hl ht hlow ⊢
  have hln := len_tl x
  unfold mread_part
  refine ex_run [some (.pur (.str x))] rfl rfl ?_
  refine ex_seqN ?_
  repeat fail
  rw [show isA "str" (PyData.str x) = true from rfl]
  refine need_t ?_
  repeat fail
  refine ⟨rfl, ex_ret (ex_call ?_)⟩
  repeat fail
  unfold mwhole_part
  refine ex_run [some (.pur (.str x)), none, none] rfl rfl ?_
  refine ex_seqN ?_
  repeat fail
  refine part_ok 8 d1 (by omega) (by omega) k1 (pre := []) (post := [32, ss w, 32] ++ shL p2) (by omega) hlow (by rw [ht]; simp) (fun c hc => by simp at hc; omega) (by omega) (by decide) ?_
  repeat fail
  refine ⟨[some (.pur (.str x)), some (.pur p1.toD), some (.pur (.int ((shL p1).length : Int)))], rfl, ?_⟩
  repeat fail
  refine ⟨rfl, ex_seq1 (ex_drop (ex_frz (ex_call ?_)))⟩
  repeat fail
  refine st_lenS (by simp only [lim]; omega) ?_
  repeat fail
  refine st_iffF (decide_eq_false (by rw [hln, ht]; simp only [List.length_append, List.length_cons, List.length_nil]; omega)) ?_
  repeat fail
  refine need_x ?_
  repeat fail
  exact rfl
theorem ex_tup {l : M (List PyData)} {P : Xn → DEnv → Prop} {env : DEnv} (h : Ex (l env) P) : Ex (M.tup l env) P := ex_bind1 h
theorem ex_cons1 {a : M PyData} {l : M (List PyData)} {P : Xn → DEnv → Prop} {env : DEnv} (h : Ex (a env) P) : Ex (M.cons a l env) P := ex_bind1 h
theorem ex_cons2 {a : M PyData} {l : M (List PyData)} {P : Xn → DEnv → Prop} {env : DEnv} (h : Hs (a env) fun _ e => Ex (l e) P) : Ex (M.cons a l env) P := ex_bind2 (h.mono fun _ _ z => ex_bind1 z)
def lk7 : Str := "lacking"
theorem lk7_tl : tl lk7 = [108, 97, 99, 107, 105, 110, 103] := by decide +kernel
theorem fig_no {c : Nat} (h : 57 < c) : decide (c ∈ figs.cps.toList) = false := by
  have k2 : (figs.cps.toList.all fun c => decide (c ≤ 57)) = true := by decide +kernel
  exact decide_eq_false fun hm => by
    have := of_decide_eq_true (List.all_eq_true.mp k2 c hm)
    omega
theorem num_x : Ex (mnumber_in [some (.pur (.str lk7))]) PX := by
  have hl : lk7.length = 7 := by decide +kernel
  have htl := lk7_tl
  unfold mnumber_in
  refine ex_run [some (.pur (.str lk7)), none, none] rfl rfl ?_
  refine ex_seqN ?_
  repeat fail
  refine st_slice (by omega) ?_
  repeat fail
  refine st_bd (a := .bool false) (by kernel_rfl) ?_
  repeat fail
  refine ⟨rfl, ex_seq1 (ex_drop (ex_frz (ex_call ?_)))⟩
  repeat fail
  refine st_lenS (by simp only [lim]; omega) ?_
  repeat fail
  refine st_iffT (decide_eq_true (by omega)) ?_
  repeat fail
  refine st_iffT (decide_eq_true (by omega)) ?_
  repeat fail
  refine st_itS ?_
  refine lc_map (r := fun _ => .bool false) (Nat.le_of_ble_eq_true rfl) (fun c hc => ?_) ?_
  · repeat fail
    refine st_bd fig_in ?_
    have hc' : c ∈ tl lk7 := hc
    rw [htl] at hc'
    simp only [List.mem_cons, List.not_mem_nil, or_false] at hc'
    rw [fig_no (by omega)]
    exact ⟨rfl, rfl⟩
  refine st_and (by rw [List.length_map]; exact Nat.le_trans (Nat.le_of_eq (len_tl lk7).symm) (by omega)) ?_
  refine st_datL ?_
  repeat fail
  refine st_all (f := fun _ : Nat => false) ?_
  rw [show (lk7.cps.toList.all fun _ => false) = false from by show (tl lk7).all _ = _; rw [htl]; rfl]
  repeat fail
  refine need_x ?_
  repeat fail
  exact rfl
theorem leaf_x : Ex (mleaf_in [some (.pur (.str lk7))]) PX := by
  have hl : lk7.length = 7 := by decide +kernel
  have htl := lk7_tl
  unfold mleaf_in
  refine ex_run [some (.pur (.str lk7)), none, none] rfl rfl ?_
  refine ex_seqN ?_
  repeat fail
  refine split_one (by omega) (by rw [htl]; decide) ?_
  repeat fail
  refine ⟨rfl, ex_seqN ?_⟩
  repeat fail
  refine st_iffF rfl ?_
  repeat fail
  refine ⟨rfl, ex_ret (ex_own (ex_tup (ex_cons2 ?_)))⟩
  repeat fail
  refine ex_cons1 (ex_frz (ex_call ?_))
  repeat fail
  obtain ⟨x, e, h1, rfl, rfl⟩ := num_x
  exact ⟨_, _, h1, rfl, rfl⟩
theorem walk_w0 {x : Str} {w post : List Nat} {r2 : Option OD} {k : Nat} (hx : x.length ≤ 100000) (e : tl x = w ++ post) (hw : ∀ c ∈ w, c ≠ 32 ∧ c ≠ 40 ∧ c ≠ 41) (hl : w.length < 100) (hp : Stop post) (hk : w.length = k) {Q : Flw → DEnv → Prop}
    (q : Q .nx [some (.pur (.str x)), some (.pur (.int 0)), r2, none, none, none, some (.pur (.int (k : Int))), none, none]) :
    Hs (whileL (M.and (M.tru (M.op2 ltD (M.rd 6) (M.opL (one lenD) (M.cons (M.rd 0) M.nil)))) (M.tru (M.op2 ninX (M.op2 itemD (M.rd 0) (M.rd 6)) (M.pure (.str " ()")))))
  (M.augN 6 addI (M.pure (.int 1))) 100 [some (.pur (.str x)), some (.pur (.int 0)), r2, none, none, none, some (.pur (.int 0)), none, none]) Q :=
  walk_w (pre := []) hx e hw hl hp (by subst hk; exact q)
set_option maxHeartbeats 0 in
theorem readP_lack {p : Pt} (h : P5 p) : Ex (mread_part [some (.pur (.str (svT (.lack p))))]) PX := by
  have hl : (svT (.lack p)).length ≤ 5000 := sv_len (s := .lack p) h
  have ht : tl (svT (.lack p)) = tl lk7 ++ (32 :: shL p) := (tl_sv _).trans (by show tl lackS ++ shL p = _; rw [lack_tl, lk7_tl]; rfl)
  obtain ⟨d1, k1, b1, _⟩ := id h
  have hlow : Low (tl (svT (.lack p))) := fun c hc => by
    rw [ht, lk7_tl] at hc
    simp only [List.mem_append, List.mem_cons, List.not_mem_nil, or_false] at hc
    rcases hc with z | z | z
    · omega
    · omega
    · exact sh_low k1 c z
  generalize svT (.lack p) = x at hl ht hlow ⊢
  have hln := len_tl x
  unfold mread_part
  refine ex_run [some (.pur (.str x))] rfl rfl ?_
  refine ex_seqN ?_
  repeat fail
  rw [show isA "str" (PyData.str x) = true from rfl]
  refine need_t ?_
  repeat fail
  refine ⟨rfl, ex_ret (ex_call ?_)⟩
  repeat fail
  unfold mwhole_part
  refine ex_run [some (.pur (.str x)), none, none] rfl rfl ?_
  refine ex_seq1 (ex_asgT (ex_frz (ex_call ?_)))
  repeat fail
  unfold mpart_at
  refine ex_run [some (.pur (.str x)), some (.pur (.int 0)), some (.pur (.int 5)), none, none, none, none, none, none] rfl rfl ?_
  refine ex_seqN ?_
  repeat fail
  refine need_t ?_
  repeat fail
  refine ⟨rfl, ex_seqN ?_⟩
  repeat fail
  refine st_slice (by omega) ?_
  repeat fail
  have hs1 : tl (Txt.slice x (some 0) (some (0 + 1))) = [108] := by
    have hs0 : tl (Txt.slice x (some ((0 : Nat) : Int)) (some ((1 : Nat) : Int))) = [108] := tl_slice.trans (by rw [ht, lk7_tl]; simp)
    exact hs0
  refine eqSt (low_ok (by rw [hs1]; exact fun c hc => by rw [List.mem_singleton.mp hc]; decide)) (by decide +kernel) ?_
  repeat fail
  refine st_iffF (by
    rw [beq_eq_false_iff_ne]
    intro e
    have := congrArg tl e
    rw [hs1, show tl (Str.ofString "(") = [40] from by decide +kernel] at this
    cases this) ?_
  repeat fail
  refine ⟨rfl, ex_seqN ?_⟩
  repeat fail
  refine ⟨rfl, ex_seqN ?_⟩
  show Hs (whileL _ _ 100 [some (.pur (.str x)), some (.pur (.int 0)), some (.pur (.int 5)), none, none, none, some (.pur (.int 0)), none, none]) _
  refine walk_w0 (w := tl lk7) (post := 32 :: shL p) (k := 7) (by omega) ht (by rw [lk7_tl]; decide) (by rw [lk7_tl]; decide) (fun c hc => .inl (by simp at hc; exact hc.symm)) (by rw [lk7_tl]; rfl) ?_
  refine ⟨rfl, ex_ret (ex_own (ex_tup (ex_cons1 (ex_frz (ex_call ?_)))))⟩
  repeat fail
  refine st_slice (by omega) ?_
  repeat fail
  have e7 : Txt.slice x (some 0) (some ((7 : Nat) : Int)) = lk7 := ext_tl (by
    have hs0 : tl (Txt.slice x (some ((0 : Nat) : Int)) (some ((7 : Nat) : Int))) = tl lk7 := tl_slice.trans (by rw [ht, lk7_tl]; simp)
    exact hs0)
  rw [e7]
  obtain ⟨x, e, h1, rfl, rfl⟩ := leaf_x
  exact ⟨_, _, h1, rfl, rfl⟩
end
section
open TL
theorem heardE {ask : M OD} {eC eC' : DEnv} (h : ask eC = .ex xNo eC') : M.heard 5 h_law_heard ask eC = .ok (.pur (.tuple [.int 0])) eC' := by
  have key : ∀ (r : Rs OD), ask eC = r → M.heard 5 h_law_heard ask eC = M.heard 5 h_law_heard (fun _ => r) eC := fun r hr => by
    unfold M.heard h_law_heard kCons kTry
    simp only [hr]
  rw [key _ h]
  kernel_rfl
theorem heard_x {ask : M OD} {eC eC' : DEnv} (h : Ex (ask eC) fun x e => x = xNo ∧ e = eC') {Q : OD → DEnv → Prop} (q : Q (.pur (.tuple [.int 0])) eC') : Hs (M.heard 5 h_law_heard ask eC) Q := by
  obtain ⟨x, e, h1, rfl, rfl⟩ := h
  exact ⟨_, _, heardE h1, q⟩
theorem P5.five {t : Pt} (h : P5 t) : t.Ok 5 := by
  obtain ⟨d, h1, h2, _⟩ := h
  exact h1.mono h2
theorem bnd6 : bnd 6 ≤ 16777216 := by decide
theorem bnd5 : bnd 5 ≤ 16777216 := by decide
theorem gvP5 {t : Pt} (h : P5 t) : Gv t.toD 5 (bnd 5) := gvP 5 t h.five
theorem gw_sw : ∀ w : Nat, Gv (.str (sw w)) 0 40
  | 0 => ⟨by decide +kernel, by decide +kernel, by decide +kernel, by decide +kernel⟩
  | 1 => ⟨by decide +kernel, by decide +kernel, by decide +kernel, by decide +kernel⟩
  | _ + 2 => (show Gv (.str "below") 0 40 from ⟨by decide +kernel, by decide +kernel, by decide +kernel, by decide +kernel⟩)
theorem gw_lk : Gv (.str "lacking") 0 40 := ⟨by decide +kernel, by decide +kernel, by decide +kernel, by decide +kernel⟩
theorem gvS5 {s : Sv} (h : S5 s) : Gv s.toD 6 (bnd 6) := by
  cases s with
  | lack p =>
    refine (gw_tup (n := 5) (B := bnd 5) fun x hx => ?_).up (Nat.le_refl _) (by show (bnd 5 + 2) * 2 + 3 ≤ (bnd 5 + 2) * 3 + 3; omega)
    simp only [List.mem_cons, List.not_mem_nil, or_false] at hx
    rcases hx with rfl | rfl
    · exact gw_lk.up (Nat.zero_le _) (bnd_ge 5)
    · exact gvP5 h
  | two w p q =>
    refine (gw_tup (n := 5) (B := bnd 5) fun x hx => ?_).up (Nat.le_refl _) (Nat.le_refl _)
    simp only [List.mem_cons, List.not_mem_nil, or_false] at hx
    rcases hx with rfl | rfl | rfl
    · exact (gw_sw w).up (Nat.zero_le _) (bnd_ge 5)
    · exact gvP5 h.2.1
    · exact gvP5 h.2.2
theorem sh_ok {t : Pt} (h : P5 t) : PyData.strOk (shT t) = true := low_ok (by rw [tl_sh]; exact sh_low h.five)
theorem sv_low {s : Sv} (h : S5 s) : Low (tl (svT s)) := fun c hc => by
  rw [tl_sv] at hc
  cases s with
  | lack p =>
    have hc' : c ∈ tl lackS ++ shL p := hc
    rw [lack_tl] at hc'
    rcases List.mem_append.mp hc' with z | z
    · simp only [List.mem_cons, List.not_mem_nil, or_false] at z
      omega
    · exact sh_low (P5.five h) c z
  | two w p q =>
    have hs : ss w = 61 ∨ ss w = 35 ∨ ss w = 60 := by rcases w3 h.1 with rfl | rfl | rfl <;> simp [ss]
    simp only [svL, List.mem_append, List.mem_cons, List.not_mem_nil, or_false] at hc
    rcases hc with z | (z | z | z) | z
    · exact sh_low h.2.1.five c z
    · omega
    · omega
    · omega
    · exact sh_low h.2.2.five c z
theorem sv_ok {s : Sv} (h : S5 s) : PyData.strOk (svT s) = true := low_ok (sv_low h)
theorem readP_no {s : Sv} (h : S5 s) : Ex (mread_part [some (.pur (.str (svT s)))]) PX := by
  cases s with
  | lack p => exact readP_lack h
  | two w p q => exact readP_two h.1 h.2.1 h.2.2
set_option maxHeartbeats 0 in
theorem right_ok {ps : List Pt} {ws : List Sv} (hp : ∀ t ∈ ps, P5 t) (hw : ∀ s ∈ ws, S5 s) {Q : OD → DEnv → Prop} (q : Q (.pur (.bool true)) [none, none]) : Hs (m_law_right [some (.pur (.list (ps.map Pt.toD))), some (.pur (.list (ws.map Sv.toD)))]) Q := by
  unfold m_law_right
  generalize hP : PyData.list (ps.map Pt.toD) = P
  generalize hW : PyData.list (ws.map Sv.toD) = W
  have itP : ∀ {Q : List PyData → Prop}, Q (ps.map Pt.toD) → Bd (itemsD P) Q := fun q => by subst hP; exact st_itL q
  have itW : ∀ {Q : List PyData → Prop}, Q (ws.map Sv.toD) → Bd (itemsD W) Q := fun q => by subst hW; exact st_itL q
  clear hP hW
  refine hs_runE [some (.pur P), some (.pur W), none, none, none] rfl rfl ?_
  repeat fail
  refine itP ?_
  refine hs_forN (fun _ e => ∃ a b c, e = [some (.pur P), some (.pur W), a, b, c]) ?_ ?_ ⟨none, none, none, rfl⟩
  · rintro i dd hi e ⟨a, b, b', rfl⟩
    rw [List.getElem?_map] at hi
    obtain ⟨t, ht, rfl⟩ := Option.map_eq_some_iff.mp hi
    have h5 := hp t (List.mem_of_getElem? ht)
    refine ⟨[some (.pur P), some (.pur W), some (.pur t.toD), b, b'], rfl, ?_⟩
    repeat fail
    refine lshown_ok 8 5 (by decide) (by decide) h5.five ?_
    repeat fail
    refine show_ok 8 5 (by decide) (by decide) h5.five ?_
    repeat fail
    refine neSt (sh_ok h5) (sh_ok h5) ?_
    rw [show (shT t == shT t) = true from by simp]
    repeat fail
    refine show_ok 8 5 (by decide) (by decide) h5.five ?_
    repeat fail
    refine neSt (sh_ok h5) (sh_ok h5) ?_
    rw [show (shT t == shT t) = true from by simp]
    repeat fail
    refine readP_ok h5 ?_
    repeat fail
    refine st_repr (gvP5 h5) (by decide) bnd5 ?_
    repeat fail
    refine st_repr (gvP5 h5) (by decide) bnd5 ?_
    repeat fail
    refine st_neSame (gvP5 h5) ?_
    repeat fail
    refine readP_ok h5 ?_
    repeat fail
    refine st_repr (gvP5 h5) (by decide) bnd5 ?_
    repeat fail
    refine st_repr (gvP5 h5) (by decide) bnd5 ?_
    repeat fail
    refine st_neSame (gvP5 h5) ?_
    repeat fail
    refine heard_x (eC' := [some (.pur P), some (.pur W), some (.pur t.toD), some (.pur (.str (shT t))), b']) (ex_call ?_) ?_
    · repeat fail
      obtain ⟨x, e, h1, rfl, rfl⟩ := readS_no h5
      exact ⟨_, _, h1, rfl, rfl⟩
    repeat fail
    refine st_bd (a := .bool false) (by kernel_rfl) ?_
    repeat fail
    exact ⟨_, _, _, rfl⟩
  · rintro e ⟨a, b, c, rfl⟩
    repeat fail
    refine itW ?_
    refine hs_forN (fun _ e => ∃ a b c, e = [some (.pur P), some (.pur W), a, b, c]) ?_ ?_ ⟨a, b, c, rfl⟩
    · rintro i dd hi e ⟨a, b, c, rfl⟩
      rw [List.getElem?_map] at hi
      obtain ⟨t, ht, rfl⟩ := Option.map_eq_some_iff.mp hi
      have h5 := hw t (List.mem_of_getElem? ht)
      obtain ⟨d, hd, hd6⟩ := h5.up
      refine ⟨[some (.pur P), some (.pur W), a, b, some (.pur t.toD)], rfl, ?_⟩
      repeat fail
      refine lwire_ok hd6 hd ?_
      repeat fail
      refine showS_ok hd6 hd ?_
      repeat fail
      refine neSt (sv_ok h5) (sv_ok h5) ?_
      rw [show (svT t == svT t) = true from by simp]
      repeat fail
      refine showS_ok hd6 hd ?_
      repeat fail
      refine neSt (sv_ok h5) (sv_ok h5) ?_
      rw [show (svT t == svT t) = true from by simp]
      repeat fail
      refine readS_ok h5 ?_
      repeat fail
      refine st_repr (gvS5 h5) (by decide) bnd6 ?_
      repeat fail
      refine st_repr (gvS5 h5) (by decide) bnd6 ?_
      repeat fail
      refine st_neSame (gvS5 h5) ?_
      repeat fail
      refine readS_ok h5 ?_
      repeat fail
      refine st_repr (gvS5 h5) (by decide) bnd6 ?_
      repeat fail
      refine st_repr (gvS5 h5) (by decide) bnd6 ?_
      repeat fail
      refine st_neSame (gvS5 h5) ?_
      repeat fail
      refine heard_x (eC' := [some (.pur P), some (.pur W), a, some (.pur (.str (svT t))), some (.pur t.toD)]) (ex_call ?_) ?_
      · repeat fail
        obtain ⟨x, e, h1, rfl, rfl⟩ := readP_no h5
        exact ⟨_, _, h1, rfl, rfl⟩
      repeat fail
      refine st_bd (a := .bool false) (by kernel_rfl) ?_
      repeat fail
      exact ⟨_, _, _, rfl⟩
    · rintro e ⟨a, b, c, rfl⟩
      repeat fail
      exact q
end
section
open TL
local macro_rules | `(tactic| fail) => `(tactic| first
  | ((with_reducible refine st_tk (by omega) (by omega) (by omega) (by omega) (by omega) (by omega) (by omega) ?_); intro _ _ _ _ _ _ _ _))
theorem tb5 : ∀ k, k < 5 → tbn (k + 1) ≤ 930
  | 0, _ => by decide
  | 1, _ => by decide
  | 2, _ => by decide
  | 3, _ => by decide
  | 4, _ => by decide
  | _ + 5, h => absurd h (by omega)
set_option maxHeartbeats 0 in
theorem lpart_ok {sd : Int} (hs0 : 0 ≤ sd) (hs : sd < 2 ^ 31) {al : List Str} (hal : ∀ x ∈ al, Lab x) (hal1 : 1 ≤ al.length) (hal2 : al.length ≤ 100) {g ct : Int} (hg : 0 ≤ g) (hc : 0 ≤ ct) (hc2 : ct < 70000) {Q : OD → DEnv → Prop}
    (q : ∀ (t : Pt) g' c', P5 t → 0 ≤ g' → ct ≤ c' → c' ≤ ct + 932 → Q (.pur t.toD) [some (pen g' sd c'), none]) : Hs (m_law_part [some (pen g sd ct), some (.pur (.list (al.map .str)))]) Q := by
  have hgen := fun {n k : Nat} h1 h2 {g ct r : Int} h3 h4 h5 h6 h7 {Q : OD → DEnv → Prop} q => gen_ok hs0 hs hal hal1 hal2 n k h1 h2 (g := g) (ct := ct) (r := r) h3 h4 h5 h6 h7 (Q := Q) q
  generalize PyData.list (al.map .str) = AL at hgen ⊢
  unfold m_law_part
  refine hs_runE [some (pen g sd ct), some (.pur AL)] rfl rfl ?_
  repeat fail
  rename_i d0 g0 c0 e1 e2 e3 e4 e5
  refine st_ixLm e1 (by simpa using e2) fun z hz => ?_
  have hz' : ∃ k : Nat, z = .int ((k + 1 : Nat) : Int) ∧ k < 5 := by
    simp only [List.mem_cons, List.not_mem_nil, or_false] at hz
    rcases hz with rfl | rfl | rfl | rfl | rfl | rfl
    · exact ⟨4, rfl, by decide⟩
    · exact ⟨2, rfl, by decide⟩
    · exact ⟨1, rfl, by decide⟩
    · exact ⟨0, rfl, by decide⟩
    · exact ⟨1, rfl, by decide⟩
    · exact ⟨2, rfl, by decide⟩
  obtain ⟨k, rfl, hk⟩ := hz'
  clear hz
  repeat fail
  rename_i d1 g1 c1 f1 f2 f3 f4 f5
  refine st_ixLm f1 (by simpa using f2) fun z hz => ?_
  have hz' : ∃ r : Int, z = .int r ∧ 1 ≤ r ∧ r ≤ 15 := by
    simp only [List.mem_cons, List.not_mem_nil, or_false] at hz
    rcases hz with rfl | rfl | rfl <;> exact ⟨_, rfl, by decide, by decide⟩
  obtain ⟨r, rfl, r1, r2⟩ := hz'
  clear hz
  repeat fail
  have ht := tb5 k hk
  refine hgen (n := 8) (k := k) (by omega) hk f5 (by omega) (by omega) r1 (by omega) fun t g' c' cn k1 k2 k3 k6 k7 k8 => ?_
  repeat fail
  exact q t g' c' ⟨k + 1, k1, by omega, by omega⟩ k6 (by omega) (by omega)
set_option maxHeartbeats 0 in
theorem lwireg_ok {sd : Int} (hs0 : 0 ≤ sd) (hs : sd < 2 ^ 31) {al : List Str} (hal : ∀ x ∈ al, Lab x) (hal1 : 1 ≤ al.length) (hal2 : al.length ≤ 100) {g ct : Int} (hg : 0 ≤ g) (hc : 0 ≤ ct) (hc2 : ct < 60000) {Q : OD → DEnv → Prop}
    (q : ∀ (s : Sv) g' c', S5 s → 0 ≤ g' → ct ≤ c' → c' ≤ ct + 1865 → Q (.pur s.toD) [some (pen g' sd c'), none]) : Hs (m_law_wire [some (pen g sd ct), some (.pur (.list (al.map .str)))]) Q := by
  have hpart := fun {g ct : Int} h1 h2 h3 {Q : OD → DEnv → Prop} q => lpart_ok hs0 hs hal hal1 hal2 (g := g) (ct := ct) h1 h2 h3 (Q := Q) q
  generalize PyData.list (al.map .str) = AL at hpart ⊢
  unfold m_law_wire
  refine hs_runE [some (pen g sd ct), some (.pur AL), none, none, none, none] rfl rfl ?_
  repeat fail
  rename_i d0 g0 c0 e1 e2 e3 e4 e5
  refine st_ixLm e1 (by simpa using e2) fun z hz => ?_
  have hz' : z = .str "lacking" ∨ ∃ w : Nat, z = .str (sw w) ∧ w < 3 := by
    simp only [List.mem_cons, List.not_mem_nil, or_false] at hz
    rcases hz with rfl | rfl | rfl | rfl
    · exact .inr ⟨0, rfl, by decide⟩
    · exact .inr ⟨1, rfl, by decide⟩
    · exact .inr ⟨2, rfl, by decide⟩
    · exact .inl rfl
  clear hz
  obtain ⟨W, rfl⟩ : ∃ W : Str, z = .str W := by
    rcases hz' with rfl | ⟨w, rfl, _⟩ <;> exact ⟨_, rfl⟩
  repeat fail
  show Hs (lcL (gNameD 5) [5] _ _ (rangeL 0 1 2) [some (pen g0 sd c0), some (.pur AL), some (.pur (.str W)), none, none, none]) _
  refine hs_lcN (fun i acc e => ∃ (ps : List Pt) (g ct : Int), (∀ t ∈ ps, P5 t) ∧ ps.length = i ∧ acc = ps.map Pt.toD ∧ e = [some (pen g sd ct), some (.pur AL), some (.pur (.str W)), none, none, none] ∧ 0 ≤ g ∧ c0 ≤ ct ∧ ct ≤ c0 + 932 * (i : Int)) ?_ ⟨[], g0, c0, (fun t h => by cases h), rfl, rfl, rfl, e5, by omega, by omega⟩ ?_
  · rintro i d hd acc e ⟨ps, g, ct, h1, h2, rfl, rfl, h3, h4, h5⟩
    have hi : i < 2 := (List.getElem?_eq_some_iff.mp hd).1
    refine ⟨[some (pen g sd ct), some (.pur AL), some (.pur (.str W)), none, none, some (.pur d)], rfl, ?_⟩
    refine Hs.mk ?_
    rw [if_pos rfl]
    repeat fail
    refine hpart h3 (by omega) (by omega) fun t g' c' k1 k2 k3 k4 => ?_
    repeat fail
    exact ⟨ps ++ [t], g', c', fun u hu => by
      rcases List.mem_append.mp hu with z | z
      · exact h1 u z
      · rw [List.mem_singleton.mp z]; exact k1, by rw [List.length_append, h2]; rfl, by rw [List.map_append]; rfl, rfl, k2, by omega, by omega⟩
  · rintro ys e ⟨ps, g, ct, h1, h2, rfl, rfl, h3, h4, h5⟩
    have h2' : ps.length = 2 := h2
    match ps, h2' with
    | [p1, p2], _ =>
      have k1 := h1 p1 (by simp)
      have k2 := h1 p2 (by simp)
      have h5' : ct ≤ c0 + 932 * 2 := h5
      refine ⟨(Nat.le_of_ble_eq_true rfl : 2 ≤ 16777216), ?_⟩
      repeat fail
      refine ⟨[some (pen g sd ct), some (.pur AL), some (.pur (.str W)), some (.pur p1.toD), some (.pur p2.toD), none], rfl, ?_⟩
      repeat fail
      rcases hz' with hz | ⟨w, hz, hw⟩
      · cases hz
        refine eqSt (by decide +kernel) (by decide +kernel) ?_
        rw [show (Str.ofString "lacking" == Str.ofString "lacking") = true from by simp]
        repeat fail
        exact q (.lack p1) g ct k1 h3 (by omega) (by omega)
      · cases hz
        refine eqSt (sw_ok w) (by decide +kernel) ?_
        refine st_boolP ?_
        refine st_iffF (sw_lack w) ?_
        repeat fail
        exact q (.two w p1 p2) g ct ⟨hw, k1, k2⟩ h3 (by omega) (by omega)
end
section
open TL
local macro_rules | `(tactic| fail) => `(tactic| first
  | ((with_reducible refine st_tk (by omega) (by omega) (by omega) (by omega) (by omega) (by omega) (by omega) ?_); intro _ _ _ _ _ _ _ _))
abbrev sz : Nat := 14
/-- what the law holds of parts and sieves -/
def Ah (x : OD) : Prop := ∃ (ps : List Pt) (ws : List Sv), (∀ t ∈ ps, P5 t) ∧ (∀ s ∈ ws, S5 s) ∧ x = .pur (.tuple [.list (ps.map Pt.toD), .list (ws.map Sv.toD)])
theorem ah_nil : Ah (.pur (.tuple [.list [], .list []])) := ⟨[], [], (fun t h => by cases h), (fun t h => by cases h), rfl⟩
theorem lc_pen {α : Type} {F : α → PyData} {Pz : α → Prop} {ix : Nat} {el : M PyData} {E : Int → Int → DEnv} {g0 c0 W : Int} {ds : List PyData} (hW : 0 ≤ W) (hg : 0 ≤ g0)
    (h : ∀ g ct d, 0 ≤ g → c0 ≤ ct → ct ≤ c0 + W * (ds.length : Int) → ∃ e1, gNameD ix d (E g ct) = some e1 ∧ Hs (el e1) fun y e3 => ∃ a g' c', Pz a ∧ y = F a ∧ wipeE [ix] e3 = E g' c' ∧ 0 ≤ g' ∧ ct ≤ c' ∧ c' ≤ ct + W)
    {Q : List PyData → DEnv → Prop} (q : ∀ (as : List α) g' c', (∀ a ∈ as, Pz a) → as.length = ds.length → 0 ≤ g' → c0 ≤ c' → c' ≤ c0 + W * (ds.length : Int) → Q (as.map F) (E g' c')) : Hs (lcL (gNameD ix) [ix] (M.pure true) el ds (E g0 c0)) Q := by
  refine hs_lcN (fun i acc e => ∃ (as : List α) (g ct : Int), (∀ t ∈ as, Pz t) ∧ as.length = i ∧ acc = as.map F ∧ e = E g ct ∧ 0 ≤ g ∧ c0 ≤ ct ∧ ct ≤ c0 + W * (i : Int)) ?_ ⟨[], g0, c0, (fun t h => by cases h), rfl, rfl, rfl, hg, Int.le_refl _, by simp⟩ ?_
  · rintro i d hd acc e ⟨as, g, ct, h1, h2, rfl, rfl, h3, h4, h5⟩
    have hi : i < ds.length := (List.getElem?_eq_some_iff.mp hd).1
    have hwi : W * ((i : Int) + 1) ≤ W * (ds.length : Int) := Int.mul_le_mul_of_nonneg_left (by omega) hW
    have hwe : W * ((i : Int) + 1) = W * (i : Int) + W := by rw [Int.mul_add, Int.mul_one]
    obtain ⟨e1, k1, k2⟩ := h g ct d h3 h4 (by omega)
    refine ⟨e1, k1, ?_⟩
    refine Hs.mk ?_
    rw [if_pos rfl]
    refine k2.mono ?_
    rintro y e3 ⟨a, g', c', m1, rfl, m2, m3, m4, m5⟩
    refine ⟨as ++ [a], g', c', fun u hu => ?_, by rw [List.length_append, h2]; rfl, by rw [List.map_append]; rfl, m2, m3, by omega, ?_⟩
    · rcases List.mem_append.mp hu with z | z
      · exact h1 u z
      · rw [List.mem_singleton.mp z]; exact m1
    · rw [show ((i + 1 : Nat) : Int) = (i : Int) + 1 by omega, hwe]; omega
  · rintro ys e ⟨as, g, ct, h1, h2, rfl, rfl, h3, h4, h5⟩
    exact q as g ct h1 h2 h3 h4 h5
def AhD (x : PyData) : Prop := ∃ (ps : List Pt) (ws : List Sv), (∀ t ∈ ps, P5 t) ∧ (∀ s ∈ ws, S5 s) ∧ x = .tuple [.list (ps.map Pt.toD), .list (ws.map Sv.toD)]
theorem gvT {ps : List Pt} {ws : List Sv} (hp : ∀ t ∈ ps, P5 t) (hw : ∀ s ∈ ws, S5 s) (h1 : ps.length ≤ 8) (h2 : ws.length ≤ 8) : Gv (.tuple [.list (ps.map Pt.toD), .list (ws.map Sv.toD)]) 8 ((((bnd 6 + 2) * 8 + 3) + 2) * 2 + 3) := by
  refine gw_tup (n := 7) (B := (bnd 6 + 2) * 8 + 3) fun x hx => ?_
  simp only [List.mem_cons, List.not_mem_nil, or_false] at hx
  rcases hx with rfl | rfl
  · refine (gw_list (n := 6) (B := bnd 6) fun y hy => ?_).up (Nat.le_refl _) (by rw [List.length_map]; exact Nat.add_le_add_right (Nat.mul_le_mul_left _ h1) _)
    obtain ⟨t, ht, rfl⟩ := List.mem_map.mp hy
    exact (gvP5 (hp t ht)).up (by decide) (by decide)
  · refine (gw_list (n := 6) (B := bnd 6) fun y hy => ?_).up (Nat.le_refl _) (by rw [List.length_map]; exact Nat.add_le_add_right (Nat.mul_le_mul_left _ h2) _)
    obtain ⟨t, ht, rfl⟩ := List.mem_map.mp hy
    exact gvS5 (hw t ht)
def cO : Pt := .cell "lacking" "over"
def b1 : Pt := .two 1 cO (.num (1 - 10 ^ 30))
def b2 : Pt := .two 3 b1 b1
def b3 : Pt := .two 3 b2 b2
def dd : Pt := .two 2 (.num (-1)) (.two 0 (.num 0) (.two 2 cO (.two 3 cO (.num (10 ^ 30 - 1)))))
theorem cO_ok (d : Nat) : cO.Ok (d + 1) := ⟨lab_of (by decide +kernel), lab_of (by decide +kernel)⟩
theorem b1_ok (d : Nat) : b1.Ok (d + 2) := ⟨by decide, cO_ok d, (by decide : (1 - 10 ^ 30 : Int).natAbs < 10 ^ 30)⟩
theorem b3_ok : b3.Ok 4 := ⟨by decide, ⟨by decide, b1_ok 0, b1_ok 0⟩, ⟨by decide, b1_ok 0, b1_ok 0⟩⟩
theorem dd_ok : dd.Ok 5 := ⟨by decide, (by decide : (-1 : Int).natAbs < 10 ^ 30), by decide, (by decide : (0 : Int).natAbs < 10 ^ 30), by decide, cO_ok 2, by decide, cO_ok 0, (by decide : (10 ^ 30 - 1 : Int).natAbs < 10 ^ 30)⟩
theorem cO5 : P5 cO := ⟨1, cO_ok 0, by decide, by decide⟩
theorem b35 : P5 b3 := ⟨4, b3_ok, by decide, by decide⟩
theorem dd5 : P5 dd := ⟨5, dd_ok, by decide, by decide⟩
theorem fix_p : ∀ t ∈ [cO, b3, dd], P5 t := fun t ht => by
  simp only [List.mem_cons, List.not_mem_nil, or_false] at ht
  rcases ht with rfl | rfl | rfl
  · exact cO5
  · exact b35
  · exact dd5
theorem fix_w : ∀ s ∈ [Sv.lack cO, .two 2 b3 dd, .two 0 cO cO], S5 s := fun t ht => by
  simp only [List.mem_cons, List.not_mem_nil, or_false] at ht
  rcases ht with rfl | rfl | rfl
  · exact cO5
  · exact ⟨by decide, b35, dd5⟩
  · exact ⟨by decide, cO5, cO5⟩
theorem st_hs {α : Type} {r : Rs α} {a : α} {e : DEnv} {Q : α → DEnv → Prop} (h : r = .ok a e) (q : Q a e) : Hs r Q := ⟨a, e, h, q⟩
theorem rg_len (n : Nat) : (rangeL 0 1 n).length = n := by rw [rangeL01, List.length_map, List.length_range]
set_option maxHeartbeats 0 in
theorem law_hs {ns : List Int} (hl : ns.length ≤ 63) : Hs (mlaw [some (.pur (.list (ns.map .int)))]) fun x _ => x = .pur (.bool true) := by
  have hln : ∀ {Q : PyData → Prop}, Q (.int ns.length) → Bd (one lenD [.list (ns.map .int)]) Q := fun q => by
    refine st_lenL ?_
    rw [List.length_map]
    exact q
  have hfeed := fun {k : Nat} (hk : k < 63) {Q : OD → DEnv → Prop} q => feed_ok (ns := ns) hk (Q := Q) q
  generalize PyData.list (ns.map .int) = NS at hln hfeed ⊢
  unfold mlaw
  refine hs_runE (env := [some (.pur NS)]) [some (.pur NS), none, none, none, none, none, none, none, none, none, none, none, none, none] rfl rfl ?_
  repeat fail
  refine hln ?_
  repeat fail
  rw [rangeL01]
  refine hs_forN (fun i e => ∃ (x : OD) (s2 s3 s4 s5 s6 s7 s8 s9 : Option OD), Ah x ∧ e = [some (.pur NS), some x, s2, s3, s4, s5, s6, s7, s8, s9, none, none, none, none]) ?_ ?_ ⟨_, none, none, none, none, none, none, none, none, ah_nil, rfl⟩
  · rintro i z hz e ⟨x, s2, s3, s4, s5, s6, s7, s8, s9, hx, rfl⟩
    obtain ⟨x, hAh, rfl⟩ : ∃ d, AhD d ∧ x = .pur d := by
      obtain ⟨p0, w0, h1, h2, rfl⟩ := hx
      exact ⟨_, ⟨p0, w0, h1, h2, rfl⟩, rfl⟩
    obtain ⟨k, hk, rfl⟩ := map_get hz
    have hk63 : k < 63 := by
      have := List.mem_range.mp (List.mem_of_getElem? hk)
      split at this <;> split at this <;> omega
    refine ⟨[some (.pur NS), some (.pur x), some (.pur (.int (k : Int))), s3, s4, s5, s6, s7, s8, s9, none, none, none, none], rfl, ?_⟩
    repeat fail
    refine hfeed hk63 fun g sd hg hs0 hs => ?_
    repeat fail
    rename_i d0 g0 c0 e1 e2 e3 e4 e5
    refine st_ixLm e1 (by simpa using e2) fun z hz => ?_
    have hz' : ∃ v : Nat, z = .int (v : Int) ∧ v ≤ 8 := by
      simp only [List.mem_cons, List.not_mem_nil, or_false] at hz
      rcases hz with rfl | rfl | rfl | rfl | rfl | rfl | rfl | rfl
      · exact ⟨2, rfl, by decide⟩
      · exact ⟨1, rfl, by decide⟩
      · exact ⟨3, rfl, by decide⟩
      · exact ⟨1, rfl, by decide⟩
      · exact ⟨8, rfl, by decide⟩
      · exact ⟨2, rfl, by decide⟩
      · exact ⟨4, rfl, by decide⟩
      · exact ⟨2, rfl, by decide⟩
    obtain ⟨v, rfl, v2⟩ := hz'
    clear hz
    repeat fail
    rename_i d1 g1 c1 f1 f2 f3 f4 f5
    obtain ⟨m, rfl⟩ := Int.eq_ofNat_of_zero_le f1
    rw [show ((1 : Int) + (m : Int)).toNat = m + 1 by omega]
    show Hs (lcL (gNameD 12) [12] (M.pure true) _ (rangeL 0 1 (m + 1)) ((fun g ct => [some (.pur NS), some (.pur x), some (.pur (.int (k : Int))), some (pen g sd ct), some (.pur (.int (v : Int))), s5, s6, s7, s8, s9, none, none, none, none]) g1 c1)) _
    refine lc_pen (ix := 12) (E := fun g ct => [some (.pur NS), some (.pur x), some (.pur (.int (k : Int))), some (pen g sd ct), some (.pur (.int (v : Int))), s5, s6, s7, s8, s9, none, none, none, none]) (F := PyData.str) (Pz := Lab) (W := 10) (by decide) f5 (fun g ct d h1 h2 h3 => ⟨[some (.pur NS), some (.pur x), some (.pur (.int (k : Int))), some (pen g sd ct), some (.pur (.int (v : Int))), s5, s6, s7, s8, s9, none, none, some (.pur d), none], rfl, ?_⟩) ?_
    · rw [rg_len] at h3
      repeat fail
      refine label_ok h1 hs0 hs (by omega) (by omega) fun w g' c' k1 k2 k3 k4 => ?_
      repeat fail
      exact ⟨w, g', c', k1, rfl, rfl, k2, k3, k4⟩
    intro al g2 c2 hal hlen h1 h2 h3
    rw [rg_len] at hlen h3
    refine ⟨by rw [List.length_map]; omega, ?_⟩
    repeat fail
    have hpart := fun {g ct : Int} h1 h2 h3 {Q : OD → DEnv → Prop} q => lpart_ok hs0 hs hal (by omega) (by omega) (g := g) (ct := ct) h1 h2 h3 (Q := Q) q
    have hwire := fun {g ct : Int} h1 h2 h3 {Q : OD → DEnv → Prop} q => lwireg_ok hs0 hs hal (by omega) (by omega) (g := g) (ct := ct) h1 h2 h3 (Q := Q) q
    generalize PyData.list (al.map .str) = AL at hpart hwire ⊢
    rw [show ((v : Int)).toNat = v by omega]
    show Hs (lcL (gNameD 12) [12] (M.pure true) _ (rangeL 0 1 v) ((fun g ct => [some (.pur NS), some (.pur x), some (.pur (.int (k : Int))), some (pen g sd ct), some (.pur (.int (v : Int))), some (.pur AL), s6, s7, s8, s9, none, none, none, none]) g2 c2)) _
    refine lc_pen (ix := 12) (E := fun g ct => [some (.pur NS), some (.pur x), some (.pur (.int (k : Int))), some (pen g sd ct), some (.pur (.int (v : Int))), some (.pur AL), s6, s7, s8, s9, none, none, none, none]) (F := Pt.toD) (Pz := P5) (W := 932) (by decide) h1 (fun g ct d h1 h2 h3 => ⟨[some (.pur NS), some (.pur x), some (.pur (.int (k : Int))), some (pen g sd ct), some (.pur (.int (v : Int))), some (.pur AL), s6, s7, s8, s9, none, none, some (.pur d), none], rfl, ?_⟩) ?_
    · rw [rg_len] at h3
      repeat fail
      refine hpart h1 (by omega) (by omega) fun w g' c' k1 k2 k3 k4 => ?_
      repeat fail
      exact ⟨w, g', c', k1, rfl, rfl, k2, k3, k4⟩
    intro ps g3 c3 hps hlp m1 m2 m3
    rw [rg_len] at hlp m3
    refine ⟨by rw [List.length_map]; omega, ?_⟩
    repeat fail
    rw [show ((v : Int)).toNat = v by omega]
    show Hs (lcL (gNameD 12) [12] (M.pure true) _ (rangeL 0 1 v) ((fun g ct => [some (.pur NS), some (.pur x), some (.pur (.int (k : Int))), some (pen g sd ct), some (.pur (.int (v : Int))), some (.pur AL), some (.lst ((ps.map Pt.toD).map .pur)), s7, s8, s9, none, none, none, none]) g3 c3)) _
    refine lc_pen (ix := 12) (E := fun g ct => [some (.pur NS), some (.pur x), some (.pur (.int (k : Int))), some (pen g sd ct), some (.pur (.int (v : Int))), some (.pur AL), some (.lst ((ps.map Pt.toD).map .pur)), s7, s8, s9, none, none, none, none]) (F := Sv.toD) (Pz := S5) (W := 1865) (by decide) m1 (fun g ct d h1 h2 h3 => ⟨[some (.pur NS), some (.pur x), some (.pur (.int (k : Int))), some (pen g sd ct), some (.pur (.int (v : Int))), some (.pur AL), some (.lst ((ps.map Pt.toD).map .pur)), s7, s8, s9, none, none, some (.pur d), none], rfl, ?_⟩) ?_
    · rw [rg_len] at h3
      repeat fail
      refine hwire h1 (by omega) (by omega) fun w g' c' k1 k2 k3 k4 => ?_
      repeat fail
      exact ⟨w, g', c', k1, rfl, rfl, k2, k3, k4⟩
    intro ws g4 c4 hws hlw n1 n2 n3
    rw [rg_len] at hlw n3
    refine ⟨by rw [List.length_map]; omega, ?_⟩
    repeat fail
    have hTD : AhD (.tuple [.list (ps.map Pt.toD), .list (ws.map Sv.toD)]) := ⟨ps, ws, hps, hws, rfl⟩
    have hgv := gvT hps hws (by omega) (by omega)
    refine st_repr hgv (by decide) (by decide) ?_
    repeat fail
    refine hs_forN (fun i e => ∃ s9, e = [some (.pur NS), some (.pur x), some (.pur (.int (k : Int))), some (pen g4 sd c4), some (.pur (.int (v : Int))), some (.pur AL), some (.pur (.list (ps.map Pt.toD))), some (.pur (.list (ws.map Sv.toD))), some (.pur (.str (PyData.shown (.tuple [.list (ps.map Pt.toD), .list (ws.map Sv.toD)])))), s9, none, none, none, none]) ?_ ?_ ⟨s9, rfl⟩
    · rintro j d hd e ⟨s9, rfl⟩
      have hd2 : AhD d := by
        have hm := List.mem_of_getElem? hd
        simp only [List.mem_cons, List.not_mem_nil, or_false] at hm
        rcases hm with rfl | rfl | rfl
        · exact hTD
        · exact hAh
        · exact hTD
      obtain ⟨p0, w0, q1, q2, rfl⟩ := hd2
      refine ⟨_, rfl, ?_⟩
      repeat fail
      refine st_bd (a := .list (p0.map Pt.toD)) rfl ?_
      repeat fail
      refine st_bd (a := .list (w0.map Sv.toD)) rfl ?_
      repeat fail
      refine right_ok q1 q2 ?_
      repeat fail
      exact ⟨_, rfl⟩
    · rintro e ⟨s9, rfl⟩
      repeat fail
      refine st_repr hgv (by decide) (by decide) ?_
      repeat fail
      refine st_neSame hgv ?_
      repeat fail
      exact ⟨_, _, _, _, _, _, _, _, _, ⟨ps, ws, hps, hws, rfl⟩, rfl⟩
  · rintro e ⟨x, s2, s3, s4, s5, s6, s7, s8, s9, _, rfl⟩
    refine Eq.mpr hs_seq ?_
    refine st_hs (a := .nx) (e := [some (.pur NS), some x, s2, s3, s4, s5, s6, s7, s8, s9, some (.pur cO.toD), none, none, none]) (by kernel_rfl) ?_
    refine Eq.mpr hs_seq ?_
    refine st_hs (a := .nx) (e := [some (.pur NS), some x, s2, s3, s4, s5, s6, s7, s8, s9, some (.pur cO.toD), some (.pur b1.toD), none, none]) (by kernel_rfl) ?_
    refine Eq.mpr hs_seq ?_
    refine st_hs (a := .nx) (e := [some (.pur NS), some x, s2, s3, s4, s5, s6, s7, s8, s9, some (.pur cO.toD), some (.pur b3.toD), some (.pur (.int 1)), none]) (by kernel_rfl) ?_
    refine Eq.mpr hs_seq ?_
    refine st_hs (a := .nx) (e := [some (.pur NS), some x, s2, s3, s4, s5, s6, s7, s8, s9, some (.pur cO.toD), some (.pur b3.toD), some (.pur (.int 1)), some (.pur dd.toD)]) (by kernel_rfl) ?_
    show Hs (M.ret _ [some (.pur NS), some x, s2, s3, s4, s5, s6, s7, s8, s9, some (.pur cO.toD), some (.pur b3.toD), some (.pur (.int 1)), some (.pur dd.toD)]) _
    repeat fail
    refine right_ok (ps := [cO, b3, dd]) (ws := [.lack cO, .two 2 b3 dd, .two 0 cO cO]) fix_p fix_w ?_
    repeat fail
    rfl
theorem law_true : ∀ ns : List Int, ns.length ≤ 63 → ∃ e, mlaw [some (.pur (.list (ns.map .int)))] = .ok (.pur (.bool true)) e := fun ns hl => by
  obtain ⟨a, e, h1, h2⟩ := (law_hs (ns := ns) hl).ok
  subst h2
  exact ⟨e, h1⟩
end
end L77

set_option maxHeartbeats 4000000
open PySem PySem.W PySem.Calls PyProof.Rows
theorem PySem.Challenge.cw_plansamid_k77_parts_and_sieves_written_holds : PySem.Challenge.rw_plansamid_k77_parts_and_sieves_written.Holds := by
  w_on; o_law
  refine HandSHeadRun.head_any (r := OpenLaw.row PySem.Challenge.rw_plansamid_k77_parts_and_sieves_written) (q := view (OpenLaw.row PySem.Challenge.rw_plansamid_k77_parts_and_sieves_written).prog [58]) (H := L77.hk) (ob := L77.ob) (M := 6000) (loose := (("PART_SIGNS" :: "SIEVE_SIGNS" :: "show_part" :: "show_sieve" :: "PlanError" :: "NoWorth" :: "NoDeed" :: "Taken" :: "TooMany" :: "NoPlace" :: "NoAsk" :: "Spent" :: "NoRule" :: "NoRoom" :: "Done" :: "NotDone" :: "NoName" :: "Busy" :: "NoStand" :: "Unlike" :: "NoPlaces" :: "NoText" :: "NoLine" :: "Unknown" :: "LETTERS" :: "LONGEST_NAME" :: "MOST_DEEP" :: "MOST_PARTS" :: "TWO_WORDS" :: "is_name" :: "inner_parts" :: "how_many_parts" :: "FIGURES" :: "MOST_FIGURES" :: "need" :: "number_in" :: "leaf_in" :: "part_at" :: "whole_part" :: "whole_sieve" :: "read_part" :: "read_sieve" :: "_law_feed" :: "_law_take" :: "_law_label" :: "_law_number" :: "_law_piece" :: "_law_part" :: "_law_wire" :: "_law_shown" :: "_law_wire_shown" :: "_law_heard" :: "_law_right" :: []) : List Str)) (d := HandSHeadRun.topDef (OpenLaw.row PySem.Challenge.rw_plansamid_k77_parts_and_sieves_written).prog 58) (kwd := []) L77.ob_eq
    (by kernel_rfl) (fun s => by kernel_rfl) L77.run (by kernel_rfl) (by kernel_rfl) (by kernel_rfl) (by rfl) (by first | assumption | decide +kernel) (by decide +kernel) ⟨rfl, rfl, rfl, rfl, rfl, by decide +kernel⟩ ?hw ?hc
  case hw => w_witness2
  case hc =>
    refine DL.walk_GX (l := PySem.Challenge.rw_plansamid_k77_parts_and_sieves_written) (n := 63) (k := 21) (x := "_law_script") rfl (by decide) (by kernel_rfl) ⟨rfl, by decide, by decide⟩ ?F
    intro w K mg f h KX G c hmg0
    have hmg : mg ("law" : PySem.Str) = some (.ref f) := by
      have e : (HandSHeadRun.topDef (OpenLaw.row PySem.Challenge.rw_plansamid_k77_parts_and_sieves_written).prog 58).name = ("law" : PySem.Str) := by kernel_rfl
      rw [← e]
      exact hmg0
    obtain ⟨fd, hb, hF⟩ := L77.facts2 (l := PySem.Challenge.rw_plansamid_k77_parts_and_sieves_written) (w := w) K mg f h KX G c hmg
    exact ⟨fd, L77.mlaw, hb, L77.law_true, hF⟩
