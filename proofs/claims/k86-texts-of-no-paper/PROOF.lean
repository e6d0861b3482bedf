import PyProof.Rows.All
import Wide.All
import OpenK.AllK
import Wide.FinOn
import HandS.ForMost
import HandS.TupAny
import HandS.TupLe
import HandS.Deep
import HandS.IsInst
import HandS.Wide
import HandS.Style
import HandS.Flow
import HandS.Zip
import HandS.SortRule
import KE.GoesNew
import HandS.TupMul
import HandS.Conv
import PyProof.ReprRoads
import HandS.Text
import HandS.More
import HandS.RaiseMore
import KE.KRevSl
import HandS.SortKw
import KE.GoesMore
import KE.KDictZip
import HandS.FStr
import HandS.StrMore
import KE.KUnpackStar
import KE.LtData
import KE.SortData
import KE.KDictCopyH
import HandS.ForExc
import HandS.ExcField
import HandS.ExcInit
import HandS.ExcIs
import KE.KExcIs
import PySem.Challenge.RW_onetrace_k86_texts_of_no_paper
set_option Elab.async false
set_option linter.all false
set_option maxRecDepth 100000
set_option maxHeartbeats 1000000
/-! The tree layer: data D without addresses, owned things O, the environment, readings over them. -/
namespace Tr
open PySem PySem.Spec PyProof.Rows L2

/-- data that nobody changes any more -/
inductive D where
  | non
  | bl (b : Bool)
  | int (i : Int)
  | str (x : Str)
  | tup (ds : List D)
  | lst (ds : List D)
  | frl (ds : List D)
  | dct (kvs : List (Key × D))
  | dcT (kvs : List (List Key × D))
  | ins (C : Addr) (fs : List (Str × D))
  | ty (n : String)
  | al (a : Addr)
  | exc (C : Addr) (fs : List (Str × D))
  deriving Inhabited

/-- what one def alone holds and may change; the address tells which -/
inductive O where
  | fz (d : D)
  | lst (a : Addr) (os : List O)
  | dct (a : Addr) (kvs : List (Key × D))
  | dcT (a : Addr) (kvs : List (List Key × D))
  | ins (a dx C : Addr) (fs : List (Str × O))
  deriving Inhabited

mutual
def O.frz : O → D
  | .fz d => d
  | .lst _ os => .lst (O.frzL os)
  | .dct _ kvs => .dct kvs
  | .dcT _ kvs => .dcT kvs
  | .ins _ _ C fs => .ins C (O.frzF fs)
def O.frzL : List O → List D
  | [] => []
  | o :: os => O.frz o :: O.frzL os
def O.frzF : List (Str × O) → List (Str × D)
  | [] => []
  | p :: ps => (p.1, O.frz p.2) :: O.frzF ps
end
mutual
def O.owned : O → List Addr
  | .fz _ => []
  | .lst a os => a :: O.ownedL os
  | .dct a _ => [a]
  | .dcT a _ => [a]
  | .ins a dx _ fs => a :: dx :: O.ownedF fs
def O.ownedL : List O → List Addr
  | [] => []
  | o :: os => O.owned o ++ O.ownedL os
def O.ownedF : List (Str × O) → List Addr
  | [] => []
  | p :: ps => O.owned p.2 ++ O.ownedF ps
end
@[simp] theorem O.frz_fz (d : D) : (O.fz d).frz = d := rfl
@[simp] theorem O.owned_fz (d : D) : (O.fz d).owned = [] := rfl
theorem O.frzL_map (ds : List D) : O.frzL (ds.map O.fz) = ds := by
  induction ds with
  | nil => rfl
  | cons d r ih =>
    show O.frz (O.fz d) :: O.frzL (r.map O.fz) = d :: r
    rw [ih]
    rfl
theorem O.ownedL_map (ds : List D) : O.ownedL (ds.map O.fz) = [] := by
  induction ds with
  | nil => rfl
  | cons d r ih =>
    show O.owned (O.fz d) ++ O.ownedL (r.map O.fz) = []
    rw [ih]
    rfl
theorem O.frzL_append (xs ys : List O) : O.frzL (xs ++ ys) = O.frzL xs ++ O.frzL ys := by
  induction xs with
  | nil => rfl
  | cons o r ih =>
    show O.frz o :: O.frzL (r ++ ys) = _
    rw [ih]
    rfl
theorem O.ownedL_append (xs ys : List O) : O.ownedL (xs ++ ys) = O.ownedL xs ++ O.ownedL ys := by
  induction xs with
  | nil => rfl
  | cons o r ih =>
    show O.owned o ++ O.ownedL (r ++ ys) = _
    rw [ih, ← List.append_assoc]
    rfl

/-! ### what stands for what -/
/-- an exception in the heap: its class, its own dict -/
def exH (a C : Addr) (d : Option Addr) : HO := .ext fun h => ∃ (oe : Obj) (vs : Array Value), h.get? a = some oe ∧ (oe.cls = .ref C ∧ oe.dict = d) ∧ oe.data = .fields vs
def KOk : Key → Prop
  | .inl _ => True
  | .inr x => x.length ≤ sizeLine
def KsOk (k : List Key) : Prop := k.length ≤ sizeLine ∧ ∀ j ∈ k, KOk j
mutual
/-- the value v stands for d, in the heap of what nobody changes -/
inductive Rep (K : PySem.W.Frag) (F : Hp) : V → D → Prop
  | non : Rep K F .non .non
  | bl (b : Bool) : Rep K F (.bl b) (.bl b)
  | int (i : Int) : Rep K F (.int i) (.int i)
  | str (x : Str) : x.length ≤ sizeLine → Rep K F (.str x) (.str x)
  | tup {a : Addr} {xs : List V} {ds : List D} : F a = some (.tup xs) → ds.length ≤ sizeLine → RepL K F xs ds → Rep K F (.ref a) (.tup ds)
  | lst {a : Addr} {xs : List V} {ds : List D} : F a = some (.lst xs) → ds.length ≤ sizeLine → RepL K F xs ds → Rep K F (.ref a) (.lst ds)
  | frl {a : Addr} {xs : List V} {ds : List D} : SqL K F a xs → ds.length ≤ sizeLine → RepL K F xs ds → Rep K F (.ref a) (.frl ds)
  | dct {a : Addr} {es : List (Key × V)} {kvs : List (Key × D)} : F a = some (.dK es) → kvs.length ≤ sizeLine → RepK K F es kvs → Rep K F (.ref a) (.dct kvs)
  | dcT {a : Addr} {es : List (List Key × V)} {kvs : List (List Key × D)} : F a = some (.dT es) → kvs.length ≤ sizeLine → RepT K F es kvs → Rep K F (.ref a) (.dcT kvs)
  | ins {a C dx : Addr} {es : List (Str × V)} {fs : List (Str × D)} : F a = some (.ins C dx es) → RepS K F es fs → Rep K F (.ref a) (.ins C fs)
  | ty (n : String) : Rep K F (.ty n) (.ty n)
  | al (a : Addr) : Rep K F (.ref a) (.al a)
  | exc0 {a C : Addr} : F a = some (exH a C none) → Rep K F (.ref a) (.exc C [])
  | exc1 {a C dd : Addr} {es : List (Str × V)} {fs : List (Str × D)} : F a = some (exH a C (some dd)) → F dd = some (.xd es) → RepS K F es fs → Rep K F (.ref a) (.exc C fs)
inductive RepL (K : PySem.W.Frag) (F : Hp) : List V → List D → Prop
  | nil : RepL K F [] []
  | cons {v : V} {vs : List V} {d : D} {ds : List D} : Rep K F v d → RepL K F vs ds → RepL K F (v :: vs) (d :: ds)
inductive RepK (K : PySem.W.Frag) (F : Hp) : List (Key × V) → List (Key × D) → Prop
  | nil : RepK K F [] []
  | cons {k : Key} {v : V} {vs : List (Key × V)} {d : D} {ds : List (Key × D)} : KOk k → Rep K F v d → RepK K F vs ds → RepK K F ((k, v) :: vs) ((k, d) :: ds)
inductive RepT (K : PySem.W.Frag) (F : Hp) : List (List Key × V) → List (List Key × D) → Prop
  | nil : RepT K F [] []
  | cons {k : List Key} {v : V} {vs : List (List Key × V)} {d : D} {ds : List (List Key × D)} : KsOk k → Rep K F v d → RepT K F vs ds → RepT K F ((k, v) :: vs) ((k, d) :: ds)
inductive RepS (K : PySem.W.Frag) (F : Hp) : List (Str × V) → List (Str × D) → Prop
  | nil : RepS K F [] []
  | cons {k : Str} {v : V} {vs : List (Str × V)} {d : D} {ds : List (Str × D)} : Rep K F v d → RepS K F vs ds → RepS K F ((k, v) :: vs) ((k, d) :: ds)
end

abbrev Sub (F F' : Hp) : Prop := ∀ b o, F b = some o → F' b = some o
theorem sqT_sub {K : PySem.W.Frag} {F F' : Hp} {a : Addr} {xs : List V} (s : Sub F F') (h : SqT K F a xs) : SqT K F' a xs := by
  rcases h with (h | ⟨o, h⟩) | h
  · exact .inl (.inl (s _ _ h))
  · exact .inl (.inr ⟨o, s _ _ h⟩)
  · exact .inr h
theorem sqL_sub {K : PySem.W.Frag} {F F' : Hp} {a : Addr} {xs : List V} (s : Sub F F') (h : SqL K F a xs) : SqL K F' a xs := by
  rcases h with (h | ⟨o, h⟩) | h
  · exact .inl (.inl (s _ _ h))
  · exact .inl (.inr ⟨o, s _ _ h⟩)
  · exact .inr h
section
variable {K : PySem.W.Frag} {F F' : Hp}
mutual
theorem Rep.mono (s : Sub F F') : ∀ {v : V} {d : D}, Rep K F v d → Rep K F' v d
  | _, _, .non => .non
  | _, _, .bl b => .bl b
  | _, _, .int i => .int i
  | _, _, .str x h => .str x h
  | _, _, .tup h z r => .tup (s _ _ h) z (RepL.mono s r)
  | _, _, .lst h z r => .lst (s _ _ h) z (RepL.mono s r)
  | _, _, .frl h z r => .frl (sqL_sub s h) z (RepL.mono s r)
  | _, _, .dct h z r => .dct (s _ _ h) z (RepK.mono s r)
  | _, _, .dcT h z r => .dcT (s _ _ h) z (RepT.mono s r)
  | _, _, .ins h r => .ins (s _ _ h) (RepS.mono s r)
  | _, _, .ty n => .ty n
  | _, _, .al n => .al n
  | _, _, .exc0 h => .exc0 (s _ _ h)
  | _, _, .exc1 h h2 r => .exc1 (s _ _ h) (s _ _ h2) (RepS.mono s r)
theorem RepL.mono (s : Sub F F') : ∀ {v : List V} {d : List D}, RepL K F v d → RepL K F' v d
  | _, _, .nil => .nil
  | _, _, .cons h r => .cons (Rep.mono s h) (RepL.mono s r)
theorem RepK.mono (s : Sub F F') : ∀ {v : List (Key × V)} {d : List (Key × D)}, RepK K F v d → RepK K F' v d
  | _, _, .nil => .nil
  | _, _, .cons q h r => .cons q (Rep.mono s h) (RepK.mono s r)
theorem RepT.mono (s : Sub F F') : ∀ {v : List (List Key × V)} {d : List (List Key × D)}, RepT K F v d → RepT K F' v d
  | _, _, .nil => .nil
  | _, _, .cons q h r => .cons q (Rep.mono s h) (RepT.mono s r)
theorem RepS.mono (s : Sub F F') : ∀ {v : List (Str × V)} {d : List (Str × D)}, RepS K F v d → RepS K F' v d
  | _, _, .nil => .nil
  | _, _, .cons h r => .cons (Rep.mono s h) (RepS.mono s r)
end
theorem RepL.length : ∀ {vs : List V} {ds : List D}, RepL K F vs ds → vs.length = ds.length
  | _, _, .nil => rfl
  | _, _, .cons _ r => congrArg (· + 1) (RepL.length r)
theorem RepL.get : ∀ {vs : List V} {ds : List D} {i : Nat} {d : D}, RepL K F vs ds → ds[i]? = some d → ∃ v, vs[i]? = some v ∧ Rep K F v d
  | _, _, _, _, .nil, e => by cases e
  | _, _, 0, _, .cons h _, e => by cases e; exact ⟨_, rfl, h⟩
  | _, _, i + 1, _, .cons _ r, e => RepL.get (i := i) r (by simpa using e)
theorem RepL.get' : ∀ {vs : List V} {ds : List D} {i : Nat} {v : V}, RepL K F vs ds → vs[i]? = some v → ∃ d, ds[i]? = some d ∧ Rep K F v d
  | _, _, _, _, .nil, e => by cases e
  | _, _, 0, _, .cons h _, e => by cases e; exact ⟨_, rfl, h⟩
  | _, _, i + 1, _, .cons _ r, e => RepL.get' (i := i) r (by simpa using e)
theorem RepL.append : ∀ {vs ws : List V} {ds es : List D}, RepL K F vs ds → RepL K F ws es → RepL K F (vs ++ ws) (ds ++ es)
  | _, _, _, _, .nil, s => s
  | _, _, _, _, .cons h r, s => .cons h (RepL.append r s)
theorem RepL.take : ∀ {vs : List V} {ds : List D} (n : Nat), RepL K F vs ds → RepL K F (vs.take n) (ds.take n)
  | _, _, 0, _ => .nil
  | _, _, _ + 1, .nil => .nil
  | _, _, n + 1, .cons h r => .cons h (RepL.take n r)
theorem RepL.drop : ∀ {vs : List V} {ds : List D} (n : Nat), RepL K F vs ds → RepL K F (vs.drop n) (ds.drop n)
  | _, _, 0, r => r
  | _, _, _ + 1, .nil => .nil
  | _, _, n + 1, .cons _ r => RepL.drop n r
end

mutual
/-- the value v stands for the owned thing o -/
inductive RepO (K : PySem.W.Frag) (F H : Hp) : V → O → Prop
  | fz {v : V} {d : D} : Rep K F v d → RepO K F H v (.fz d)
  | lst {a : Addr} {xs : List V} {os : List O} : H a = some (.lst xs) → os.length ≤ sizeLine → RepOL K F H xs os → RepO K F H (.ref a) (.lst a os)
  | dct {a : Addr} {es : List (Key × V)} {kvs : List (Key × D)} : H a = some (.dK es) → kvs.length ≤ sizeLine → RepK K F es kvs → RepO K F H (.ref a) (.dct a kvs)
  | dcT {a : Addr} {es : List (List Key × V)} {kvs : List (List Key × D)} : H a = some (.dT es) → kvs.length ≤ sizeLine → RepT K F es kvs → RepO K F H (.ref a) (.dcT a kvs)
  | ins {a C dx : Addr} {es : List (Str × V)} {fs : List (Str × O)} : H a = some (.ins C dx es) → H dx = some (.own a) → RepOS K F H es fs → RepO K F H (.ref a) (.ins a dx C fs)
inductive RepOL (K : PySem.W.Frag) (F H : Hp) : List V → List O → Prop
  | nil : RepOL K F H [] []
  | cons {v : V} {vs : List V} {d : O} {ds : List O} : RepO K F H v d → RepOL K F H vs ds → RepOL K F H (v :: vs) (d :: ds)
inductive RepOS (K : PySem.W.Frag) (F H : Hp) : List (Str × V) → List (Str × O) → Prop
  | nil : RepOS K F H [] []
  | cons {k : Str} {v : V} {vs : List (Str × V)} {d : O} {ds : List (Str × O)} : RepO K F H v d → RepOS K F H vs ds → RepOS K F H ((k, v) :: vs) ((k, d) :: ds)
end
section
variable {K : PySem.W.Frag} {F F' H H' : Hp}
mutual
theorem RepO.mono (s : Sub F F') : ∀ {v : V} {o : O}, (∀ a ∈ o.owned, ∀ u, H a = some u → H' a = some u) → RepO K F H v o → RepO K F' H' v o
  | _, _, _, .fz h => .fz (h.mono s)
  | _, .lst a os, k, .lst h z r => .lst (k _ (List.mem_cons_self) _ h) z (RepOL.mono s (fun b hb => k b (List.mem_cons_of_mem _ hb)) r)
  | _, .dct a kvs, k, .dct h z r => .dct (k _ (List.mem_cons_self) _ h) z (RepK.mono s r)
  | _, .dcT a kvs, k, .dcT h z r => .dcT (k _ (List.mem_cons_self) _ h) z (RepT.mono s r)
  | _, .ins a dx C fs, k, .ins h h2 r => .ins (k _ (List.mem_cons_self) _ h) (k _ (List.mem_cons_of_mem _ List.mem_cons_self) _ h2) (RepOS.mono s (fun b hb => k b (List.mem_cons_of_mem _ (List.mem_cons_of_mem _ hb))) r)
theorem RepOL.mono (s : Sub F F') : ∀ {v : List V} {o : List O}, (∀ a ∈ O.ownedL o, ∀ u, H a = some u → H' a = some u) → RepOL K F H v o → RepOL K F' H' v o
  | _, _, _, .nil => .nil
  | _, o :: os, k, .cons h r => .cons (RepO.mono s (fun b hb => k b (List.mem_append_left _ hb)) h) (RepOL.mono s (fun b hb => k b (List.mem_append_right _ hb)) r)
theorem RepOS.mono (s : Sub F F') : ∀ {v : List (Str × V)} {o : List (Str × O)}, (∀ a ∈ O.ownedF o, ∀ u, H a = some u → H' a = some u) → RepOS K F H v o → RepOS K F' H' v o
  | _, _, _, .nil => .nil
  | _, o :: os, k, .cons h r => .cons (RepO.mono s (fun b hb => k b (List.mem_append_left _ hb)) h) (RepOS.mono s (fun b hb => k b (List.mem_append_right _ hb)) r)
end
mutual
/-- what is owned stands in the heap -/
theorem RepO.there : ∀ {v : V} {o : O}, RepO K F H v o → ∀ a ∈ o.owned, ∃ u, H a = some u
  | _, .lst a os, .lst h z r, b, hb => by
    rcases List.mem_cons.mp hb with e | hb
    · subst e; exact ⟨_, h⟩
    · exact RepOL.there r b hb
  | _, .dct a kvs, .dct h z r, b, hb => by
    have e : b = a := by simpa [O.owned] using hb
    subst e; exact ⟨_, h⟩
  | _, .dcT a kvs, .dcT h z r, b, hb => by
    have e : b = a := by simpa [O.owned] using hb
    subst e; exact ⟨_, h⟩
  | _, .ins a dx C fs, .ins h h2 r, b, hb => by
    rcases List.mem_cons.mp hb with e | hb
    · subst e; exact ⟨_, h⟩
    · rcases List.mem_cons.mp hb with e | hb
      · subst e; exact ⟨_, h2⟩
      · exact RepOS.there r b hb
theorem RepOL.there : ∀ {v : List V} {o : List O}, RepOL K F H v o → ∀ a ∈ O.ownedL o, ∃ u, H a = some u
  | _, o :: os, .cons h r, b, hb => by
    rcases List.mem_append.mp hb with hb | hb
    · exact RepO.there h b hb
    · exact RepOL.there r b hb
theorem RepOS.there : ∀ {v : List (Str × V)} {o : List (Str × O)}, RepOS K F H v o → ∀ a ∈ O.ownedF o, ∃ u, H a = some u
  | _, o :: os, .cons h r, b, hb => by
    rcases List.mem_append.mp hb with hb | hb
    · exact RepO.there h b hb
    · exact RepOS.there r b hb
end
mutual
/-- .. and is not locked -/
theorem RepO.nofrz : ∀ {v : V} {o : O}, RepO K F H v o → ∀ a ∈ o.owned, ∀ ob u, H a ≠ some (.frz ob u)
  | _, .lst a os, .lst h z r, b, hb, ob, u => by
    rcases List.mem_cons.mp hb with e | hb
    · subst e; rw [h]; exact fun q => nomatch q
    · exact RepOL.nofrz r b hb ob u
  | _, .dct a kvs, .dct h z r, b, hb, ob, u => by
    have e : b = a := by simpa [O.owned] using hb
    subst e; rw [h]; exact fun q => nomatch q
  | _, .dcT a kvs, .dcT h z r, b, hb, ob, u => by
    have e : b = a := by simpa [O.owned] using hb
    subst e; rw [h]; exact fun q => nomatch q
  | _, .ins a dx C fs, .ins h h2 r, b, hb, ob, u => by
    rcases List.mem_cons.mp hb with e | hb
    · subst e; rw [h]; exact fun q => nomatch q
    · rcases List.mem_cons.mp hb with e | hb
      · subst e; rw [h2]; exact fun q => nomatch q
      · exact RepOS.nofrz r b hb ob u
theorem RepOL.nofrz : ∀ {v : List V} {o : List O}, RepOL K F H v o → ∀ a ∈ O.ownedL o, ∀ ob u, H a ≠ some (.frz ob u)
  | _, o :: os, .cons h r, b, hb, ob, u => by
    rcases List.mem_append.mp hb with hb | hb
    · exact RepO.nofrz h b hb ob u
    · exact RepOL.nofrz r b hb ob u
theorem RepOS.nofrz : ∀ {v : List (Str × V)} {o : List (Str × O)}, RepOS K F H v o → ∀ a ∈ O.ownedF o, ∀ ob u, H a ≠ some (.frz ob u)
  | _, o :: os, .cons h r, b, hb, ob, u => by
    rcases List.mem_append.mp hb with hb | hb
    · exact RepO.nofrz h b hb ob u
    · exact RepOS.nofrz r b hb ob u
end
mutual
/-- .. and is no tuple -/
theorem RepO.nt : ∀ {v : V} {o : O}, RepO K F H v o → ∀ a ∈ o.owned, ∀ u, H a ≠ some (.tup u)
  | _, .lst a os, .lst h z r, b, hb, u => by
    rcases List.mem_cons.mp hb with e | hb
    · subst e; rw [h]; exact fun q => nomatch q
    · exact RepOL.nt r b hb u
  | _, .dct a kvs, .dct h z r, b, hb, u => by
    have e : b = a := by simpa [O.owned] using hb
    subst e; rw [h]; exact fun q => nomatch q
  | _, .dcT a kvs, .dcT h z r, b, hb, u => by
    have e : b = a := by simpa [O.owned] using hb
    subst e; rw [h]; exact fun q => nomatch q
  | _, .ins a dx C fs, .ins h h2 r, b, hb, u => by
    rcases List.mem_cons.mp hb with e | hb
    · subst e; rw [h]; exact fun q => nomatch q
    · rcases List.mem_cons.mp hb with e | hb
      · subst e; rw [h2]; exact fun q => nomatch q
      · exact RepOS.nt r b hb u
theorem RepOL.nt : ∀ {v : List V} {o : List O}, RepOL K F H v o → ∀ a ∈ O.ownedL o, ∀ u, H a ≠ some (.tup u)
  | _, o :: os, .cons h r, b, hb, u => by
    rcases List.mem_append.mp hb with hb | hb
    · exact RepO.nt h b hb u
    · exact RepOL.nt r b hb u
theorem RepOS.nt : ∀ {v : List (Str × V)} {o : List (Str × O)}, RepOS K F H v o → ∀ a ∈ O.ownedF o, ∀ u, H a ≠ some (.tup u)
  | _, o :: os, .cons h r, b, hb, u => by
    rcases List.mem_append.mp hb with hb | hb
    · exact RepO.nt h b hb u
    · exact RepOS.nt r b hb u
end
theorem RepOL.length : ∀ {v : List V} {o : List O}, RepOL K F H v o → v.length = o.length
  | _, _, .nil => rfl
  | _, _, .cons _ r => congrArg (· + 1) (RepOL.length r)
mutual
/-- an owned thing let go: nobody changes it any more -/
theorem RepO.froz (s : Sub F F') : ∀ {v : V} {o : O}, (∀ a ∈ o.owned, ∀ u, H a = some u → F' a = some u) → RepO K F H v o → Rep K F' v o.frz
  | _, _, _, .fz h => h.mono s
  | _, .lst a os, k, .lst h z r => .lst (k _ (List.mem_cons_self) _ h) (by rw [← RepL.length (RepOL.froz s (fun b hb => k b (List.mem_cons_of_mem _ hb)) r), RepOL.length r]; exact z) (RepOL.froz s (fun b hb => k b (List.mem_cons_of_mem _ hb)) r)
  | _, .dct a kvs, k, .dct h z r => .dct (k _ (List.mem_cons_self) _ h) z (RepK.mono s r)
  | _, .dcT a kvs, k, .dcT h z r => .dcT (k _ (List.mem_cons_self) _ h) z (RepT.mono s r)
  | _, .ins a dx C fs, k, .ins h h2 r => .ins (k _ (List.mem_cons_self) _ h) (RepOS.froz s (fun b hb => k b (List.mem_cons_of_mem _ (List.mem_cons_of_mem _ hb))) r)
theorem RepOL.froz (s : Sub F F') : ∀ {v : List V} {o : List O}, (∀ a ∈ O.ownedL o, ∀ u, H a = some u → F' a = some u) → RepOL K F H v o → RepL K F' v (O.frzL o)
  | _, _, _, .nil => .nil
  | _, o :: os, k, .cons h r => .cons (RepO.froz s (fun b hb => k b (List.mem_append_left _ hb)) h) (RepOL.froz s (fun b hb => k b (List.mem_append_right _ hb)) r)
theorem RepOS.froz (s : Sub F F') : ∀ {v : List (Str × V)} {o : List (Str × O)}, (∀ a ∈ O.ownedF o, ∀ u, H a = some u → F' a = some u) → RepOS K F H v o → RepS K F' v (O.frzF o)
  | _, _, _, .nil => .nil
  | _, o :: os, k, .cons h r => .cons (RepO.froz s (fun b hb => k b (List.mem_append_left _ hb)) h) (RepOS.froz s (fun b hb => k b (List.mem_append_right _ hb)) r)
end
theorem RepOL.get : ∀ {vs : List V} {os : List O} {i : Nat} {o : O}, RepOL K F H vs os → os[i]? = some o → ∃ v, vs[i]? = some v ∧ RepO K F H v o
  | _, _, _, _, .nil, e => by cases e
  | _, _, 0, _, .cons h _, e => by cases e; exact ⟨_, rfl, h⟩
  | _, _, i + 1, _, .cons _ r, e => RepOL.get (i := i) r (by simpa using e)
theorem RepOL.append : ∀ {vs ws : List V} {ds es : List O}, RepOL K F H vs ds → RepOL K F H ws es → RepOL K F H (vs ++ ws) (ds ++ es)
  | _, _, _, _, .nil, s => s
  | _, _, _, _, .cons h r, s => .cons h (RepOL.append r s)
theorem RepOL.of : ∀ {vs : List V} {ds : List D}, RepL K F vs ds → RepOL K F H vs (ds.map O.fz)
  | _, _, .nil => .nil
  | _, _, .cons h r => .cons (.fz h) (RepOL.of r)
end

/-! ### the environment -/
abbrev TEnv := List (Option O)
def slotOwned : Option O → List Addr
  | none => []
  | some o => o.owned
def ownedE : TEnv → List Addr
  | [] => []
  | s :: r => slotOwned s ++ ownedE r
/-- the heap of what nobody changes within the heap: a dict may be locked while it is walked -/
def isDct : HO → Prop
  | .dK _ => True
  | .dT _ => True
  | _ => False
def isTupO : HO → Prop
  | .tup _ => True
  | _ => False
def Sb (F H : Hp) : Prop := ∀ b o, F b = some o → H b = some o ∨ ∃ ob, isDct o ∧ H b = some (.frz ob o)
structure SR (K : PySem.W.Frag) (ρ : TEnv) (σ : L2.St) (F H : Hp) : Prop where
  sub : Sb F H
  len : ρ.length = σ.length
  slot : ∀ (i : Nat) (o : O), ρ[i]? = some (some o) → ∃ v, σ[i]? = some (some v) ∧ RepO K F H v o
  own : ∀ a ∈ ownedE ρ, F a = none
  nd : (ownedE ρ).Nodup
/-- what an evaluation does to the heaps -/
structure Frm (L : List Addr) (F H : Hp) (L' : List Addr) (F' H' : Hp) : Prop where
  fz : Sub F F'
  out : ∀ b o, b ∉ L → ¬ isTupO o → F b = none → H b = some o → H' b = some o ∧ F' b = none
  new : ∀ b ∈ L', b ∈ L ∨ H b = none
  dom : ∀ b o, H b = some o → ∃ o', H' b = some o'
  lk : ∀ b o u, H b = some (.frz o u) → H' b = some (.frz o u)
theorem Frm.refl {L : List Addr} {F H : Hp} : Frm L F H L F H := ⟨fun _ _ h => h, fun _ _ _ _ n h => ⟨h, n⟩, fun _ h => .inl h, fun _ o h => ⟨o, h⟩, fun _ _ _ h => h⟩
theorem Frm.trans {L L1 L2 : List Addr} {F H F1 H1 F2 H2 : Hp} (a : Frm L F H L1 F1 H1) (b : Frm L1 F1 H1 L2 F2 H2) : Frm L F H L2 F2 H2 where
  fz := fun c o h => b.fz c o (a.fz c o h)
  out := fun c o n nt f h => by
    obtain ⟨h1, f1⟩ := a.out c o n nt f h
    refine b.out c o (fun hc => ?_) nt f1 h1
    rcases a.new c hc with z | z
    · exact n z
    · rw [h] at z; cases z
  new := fun c hc => by
    rcases b.new c hc with z | z
    · exact a.new c z
    · refine .inr ?_
      cases q : H c with
      | none => rfl
      | some o =>
        obtain ⟨o', e⟩ := a.dom c o q
        rw [z] at e; cases e
  dom := fun c o h => by
    obtain ⟨o', e⟩ := a.dom c o h
    exact b.dom c o' e
  lk := fun c o u h => b.lk c o u (a.lk c o u h)
theorem Frm.less {L L' L'' : List Addr} {F H F' H' : Hp} (a : Frm L F H L' F' H') (h : ∀ b ∈ L'', b ∈ L') : Frm L F H L'' F' H' := ⟨a.fz, a.out, fun b hb => a.new b (h b hb), a.dom, a.lk⟩

theorem mem_ownedE : ∀ {ρ : TEnv} {i : Nat} {o : O}, ρ[i]? = some (some o) → ∀ a ∈ o.owned, a ∈ ownedE ρ
  | [], _, _, e, _, _ => by cases e
  | s :: r, 0, o, e, a, h => by cases e; exact List.mem_append_left _ h
  | s :: r, i + 1, o, e, a, h => List.mem_append_right _ (mem_ownedE (ρ := r) (i := i) (by simpa using e) a h)
theorem of_ownedE : ∀ {ρ : TEnv} {a : Addr}, a ∈ ownedE ρ → ∃ (i : Nat) (o : O), ρ[i]? = some (some o) ∧ a ∈ o.owned
  | s :: r, a, h => by
    rcases List.mem_append.mp h with h | h
    · cases s with
      | none => cases h
      | some o => exact ⟨0, o, rfl, h⟩
    · obtain ⟨i, o, e, q⟩ := of_ownedE h
      exact ⟨i + 1, o, by simpa using e, q⟩
section
variable {K : PySem.W.Frag} {ρ : TEnv} {σ : L2.St} {F H F' H' : Hp}
theorem Sb.lst {a : Addr} {xs : List V} (s : Sb F H) (h : F a = some (.lst xs)) : H a = some (.lst xs) := by
  rcases s a _ h with z | ⟨_, e, _⟩
  · exact z
  · exact e.elim
theorem Sb.ins {a C dx : Addr} {xs : List (Str × V)} (s : Sb F H) (h : F a = some (.ins C dx xs)) : H a = some (.ins C dx xs) := by
  rcases s a _ h with z | ⟨_, e, _⟩
  · exact z
  · exact e.elim
theorem Sb.dK {a : Addr} {xs : List (Key × V)} (s : Sb F H) (h : F a = some (.dK xs)) : Rd H a (.dK xs) := by
  rcases s a _ h with z | ⟨ob, e, z⟩
  · exact .inl z
  · exact .inr ⟨ob, z⟩
theorem Sb.dT {a : Addr} {xs : List (List Key × V)} (s : Sb F H) (h : F a = some (.dT xs)) : Rd H a (.dT xs) := by
  rcases s a _ h with z | ⟨ob, e, z⟩
  · exact .inl z
  · exact .inr ⟨ob, z⟩
theorem Sb.tup {a : Addr} {xs : List V} (s : Sb F H) (h : F a = some (.tup xs)) : H a = some (.tup xs) := by
  rcases s a _ h with z | ⟨_, e, _⟩
  · exact z
  · exact e.elim
theorem Sb.sqT {a : Addr} {xs : List V} (s : Sb F H) (h : F a = some (.tup xs)) : SqT K H a xs := .inl (.inl (s.tup h))
theorem Sb.sqL {a : Addr} {xs : List V} (s : Sb F H) (h : SqL K F a xs) : SqL K H a xs := by
  rcases h with (h | ⟨o, h⟩) | h
  · rcases s a _ h with z | ⟨_, e, _⟩
    · exact .inl (.inl z)
    · exact e.elim
  · rcases s a _ h with z | ⟨_, e, _⟩
    · exact .inl (.inr ⟨o, z⟩)
    · exact e.elim
  · exact .inr h
theorem SR.thereE (s : SR K ρ σ F H) : ∀ a ∈ ownedE ρ, ∃ u, H a = some u := fun a ha => by
  obtain ⟨i, o, e, h⟩ := of_ownedE ha
  obtain ⟨v, _, r⟩ := s.slot i o e
  exact r.there a h
theorem Sb.free (s : Sb F H) {p : Addr} (h : H p = none) : F p = none := by
  cases q : F p with
  | none => rfl
  | some o =>
    rcases s p o q with z | ⟨_, _, z⟩ <;> rw [h] at z <;> cases z

theorem SR.ntE (s : SR K ρ σ F H) : ∀ a ∈ ownedE ρ, ∀ u, H a = some u → ¬ isTupO u := fun a ha u hu ht => by
  obtain ⟨i, o, e, h⟩ := of_ownedE ha
  obtain ⟨v, _, r⟩ := s.slot i o e
  cases u <;> first
    | exact ht
    | exact r.nt a h _ hu
/-- a temporary on top -/
theorem SR.push {o : O} {v : V} (s : SR K ρ σ F H) (r : RepO K F H v o) (h1 : ∀ a ∈ o.owned, F a = none) (h2 : (o.owned ++ ownedE ρ).Nodup) : SR K (some o :: ρ) (some v :: σ) F H where
  sub := s.sub
  len := by rw [List.length_cons, List.length_cons, s.len]
  slot := fun i u e => by
    cases i with
    | zero => cases e; exact ⟨v, rfl, r⟩
    | succ i => exact s.slot i u (by simpa using e)
  own := fun a ha => (List.mem_append.mp ha).elim (h1 a) (s.own a)
  nd := h2
theorem SR.pushD {d : D} {v : V} (s : SR K ρ σ F H) (r : Rep K F v d) : SR K (some (.fz d) :: ρ) (some v :: σ) F H :=
  s.push (.fz r) (fun _ h => by cases h) (by simpa using s.nd)
theorem SR.pop {t : Option O} {v : Option V} (s : SR K (t :: ρ) (v :: σ) F H) : SR K ρ σ F H where
  sub := s.sub
  len := by simpa using s.len
  slot := fun i u e => s.slot (i + 1) u (by simpa using e)
  own := fun a ha => s.own a (List.mem_append_right _ ha)
  nd := (List.nodup_append.mp s.nd).2.1
theorem SR.top {o : O} {v : V} (s : SR K (some o :: ρ) (some v :: σ) F H) : RepO K F H v o := by
  obtain ⟨w, e, r⟩ := s.slot 0 o rfl
  cases e
  exact r
theorem SR.topD {d : D} {v : V} (s : SR K (some (.fz d) :: ρ) (some v :: σ) F H) : Rep K F v d := by
  cases s.top with
  | fz h => exact h
/-- what stands outside stays: a temporary over an evaluation -/
theorem SR.frame {ρ' : TEnv} {σ' : L2.St} {o : Option O} {v : Option V} (s : SR K (o :: ρ) (v :: σ) F H) (s' : SR K ρ' σ' F' H') (f : Frm (ownedE ρ) F H (ownedE ρ') F' H') :
    SR K (o :: ρ') (v :: σ') F' H' ∧ Frm (ownedE (o :: ρ)) F H (ownedE (o :: ρ')) F' H' := by
  have ap := List.nodup_append.mp s.nd
  have key : ∀ a ∈ slotOwned o, ∀ u, H a = some u → H' a = some u ∧ F' a = none := fun a ha u e =>
    f.out a u (fun hb => ap.2.2 a ha a hb rfl) (s.ntE a (List.mem_append_left _ ha) u e) (s.own a (List.mem_append_left _ ha)) e
  have th : ∀ a ∈ slotOwned o, ∃ u, H a = some u := fun a ha => s.thereE a (List.mem_append_left _ ha)
  refine ⟨⟨s'.sub, by rw [List.length_cons, List.length_cons, s'.len], fun i u e => ?_, fun a ha => ?_, ?_⟩, f.fz, fun b u hb ht hf e => ?_, fun b hb => ?_, f.dom, f.lk⟩
  · cases i with
    | zero =>
      obtain ⟨w, e1, r⟩ := s.slot 0 u e
      refine ⟨w, e1, r.mono f.fz fun a ha x hx => (key a ?_ x hx).1⟩
      have e' : o = some u := by simpa using e
      rw [e']
      exact ha
    | succ i => exact s'.slot i u (by simpa using e)
  · rcases List.mem_append.mp ha with h | h
    · obtain ⟨u, e⟩ := th a h
      exact (key a h u e).2
    · exact s'.own a h
  · refine List.nodup_append.mpr ⟨ap.1, s'.nd, fun a ha b hb e => ?_⟩
    subst e
    obtain ⟨u, e⟩ := th a ha
    rcases f.new a hb with z | z
    · exact ap.2.2 a ha a z rfl
    · rw [e] at z; cases z
  · exact f.out b u (fun z => hb (List.mem_append_right _ z)) ht hf e
  · rcases List.mem_append.mp hb with h | h
    · exact .inl (List.mem_append_left _ h)
    · exact (f.new b h).imp (List.mem_append_right _) id
/-- nothing but what is new -/
abbrev Grow (F H F' H' : Hp) : Prop := Frm [] F H [] F' H'
theorem Frm.ofGrow {L : List Addr} (g : Grow F H F' H') : Frm L F H L F' H' := ⟨g.fz, fun b o _ => g.out b o (by simp), fun _ h => .inl h, g.dom, g.lk⟩
theorem SR.grow (s : SR K ρ σ F H) (g : Grow F H F' H') (sb : Sb F' H') : SR K ρ σ F' H' where
  sub := sb
  len := s.len
  slot := fun i o e => by
    obtain ⟨v, e1, r⟩ := s.slot i o e
    exact ⟨v, e1, r.mono g.fz fun a ha u hu => (g.out a u (by simp) (s.ntE a (mem_ownedE e a ha) u hu) (s.own a (mem_ownedE e a ha)) hu).1⟩
  own := fun a ha => by
    obtain ⟨u, e⟩ := s.thereE a ha
    exact (g.out a u (by simp) (s.ntE a ha u e) (s.own a ha) e).2
  nd := s.nd
/-- a new thing that nobody changes -/
theorem grow_new {p : Addr} {o : HO} (sb : Sb F H) (hp : H p = none) : Grow F H (upd F p o) (upd H p o) ∧ Sb (upd F p o) (upd H p o) := by
  have fp : F p = none := sb.free hp
  refine ⟨⟨fun b u h => ?_, fun b u _ _ hf h => ?_, fun _ h => (nomatch h), fun b u h => ?_, fun b u w h => by rw [upd_ne (ne_of_none h hp)]; exact h⟩, fun b u h => ?_⟩
  · rw [upd_ne (ne_of_none h fp)]; exact h
  · have ne := ne_of_none h hp
    rw [upd_ne ne, upd_ne ne]
    exact ⟨h, hf⟩
  · by_cases e : b = p
    · subst e; rw [hp] at h; cases h
    · exact ⟨u, by rw [upd_ne e]; exact h⟩
  · by_cases e : b = p
    · subst e
      rw [upd_same] at h ⊢
      exact .inl h
    · rw [upd_ne e] at h
      rw [upd_ne e]
      exact sb b u h
/-- a new thing that is owned -/
theorem SR.newO {p : Addr} {u : HO} {o : O} (s : SR K ρ σ F H) (hp : H p = none) (r : RepO K F (upd H p u) (.ref p) o) (ho : o.owned = [p]) :
    SR K (some o :: ρ) (some (.ref p) :: σ) F (upd H p u) ∧ Frm (ownedE ρ) F H (ownedE (some o :: ρ)) F (upd H p u) := by
  have fp : F p = none := s.sub.free hp
  have np : p ∉ ownedE ρ := fun h => by
    obtain ⟨w, e⟩ := s.thereE p h
    rw [hp] at e; cases e
  have sb : Sb F (upd H p u) := fun b w h => by
    rw [upd_ne (ne_of_none h fp)]
    exact s.sub b w h
  have g : Grow F H F (upd H p u) := ⟨fun _ _ h => h, fun b w _ _ hf h => ⟨by rw [upd_ne (ne_of_none h hp)]; exact h, hf⟩, fun _ h => (nomatch h), fun b w h => ⟨w, by rw [upd_ne (ne_of_none h hp)]; exact h⟩, fun b w x h => by rw [upd_ne (ne_of_none h hp)]; exact h⟩
  have s1 := s.grow g sb
  refine ⟨s1.push r (fun a ha => ?_) ?_, ⟨fun _ _ h => h, fun b w _ ht hf h => g.out b w (by simp) ht hf h, fun b hb => ?_, g.dom, g.lk⟩⟩
  · rw [ho] at ha
    have e : a = p := by simpa using ha
    subst e; exact fp
  · rw [ho]
    exact List.nodup_cons.mpr ⟨np, s.nd⟩
  · rcases List.mem_append.mp hb with h | h
    · have h : b ∈ o.owned := h
      rw [ho] at h
      have e : b = p := by simpa using h
      subst e; exact .inr hp
    · exact .inl h
/-- a key of a dict, told to be data -/
theorem SR.tupF {b : Addr} {xs : List V} (s : SR K ρ σ F H) (h : H b = some (.tup xs)) : ∃ F', SR K ρ σ F' H ∧ (∀ L, Frm L F H L F' H) ∧ F' b = some (.tup xs) ∧ Sub F F' := by
  cases hF : F b with
  | some o =>
    refine ⟨F, s, fun L => .refl, ?_, fun _ _ h => h⟩
    rcases s.sub b o hF with z | ⟨_, _, z⟩
    · rw [h] at z
      rw [hF, ← Option.some.inj z]
    · rw [h] at z
      cases z
  | none =>
    have su : Sub F (upd F b (.tup xs)) := fun c u e => by
      rw [upd_ne (ne_of_none e hF)]; exact e
    refine ⟨upd F b (.tup xs), ⟨fun c u e => ?_, s.len, fun i o e => ?_, fun a ha => ?_, s.nd⟩, fun L => ⟨su, fun c u _ nt hf e => ⟨e, ?_⟩, fun _ h => .inl h, fun _ o h => ⟨o, h⟩, fun _ _ _ h => h⟩, upd_same, su⟩
    · by_cases q : c = b
      · subst q
        rw [upd_same] at e
        rw [← Option.some.inj e]
        exact .inl h
      · rw [upd_ne q] at e
        exact s.sub c u e
    · obtain ⟨v, hv, r⟩ := s.slot i o e
      exact ⟨v, hv, r.mono su fun _ _ _ h => h⟩
    · by_cases q : a = b
      · subst q
        exact absurd True.intro (s.ntE a ha _ h)
      · rw [upd_ne q]
        exact s.own a ha
    · by_cases q : c = b
      · subst q
        rw [h] at e
        rw [← Option.some.inj e] at nt
        exact absurd True.intro nt
      · rw [upd_ne q]
        exact hf
/-- .. without slots -/
theorem Sb.tupF (K0 : PySem.W.Frag) {b : Addr} {xs : List V} (s : Sb F H) (h : H b = some (.tup xs)) : ∃ F', Sb F' H ∧ Grow F H F' H ∧ F' b = some (.tup xs) := by
  have s0 : SR K0 [] [] F H := ⟨s, rfl, fun _ _ e => (by cases e), fun _ h => (by cases h), List.nodup_nil⟩
  obtain ⟨F', s1, f, e, _⟩ := s0.tupF h
  exact ⟨F', s1.sub, f [], e⟩
/-- a dict locked -/
theorem SR.lock {d : Addr} {u : HO} {od : Obj} (s : SR K ρ σ F H) (hF : F d = some u) (hd : isDct u) (hH : H d = some u) : SR K ρ σ F (upd H d (.frz od u)) ∧ ∀ L, Frm L F H L F (upd H d (.frz od u)) := by
  refine ⟨⟨fun b w h => ?_, s.len, fun i o e => ?_, s.own, s.nd⟩, fun L => ⟨fun _ _ h => h, fun b w _ _ hf e => ⟨?_, hf⟩, fun _ h => .inl h, fun b w e => ?_, fun b w x h => ?_⟩⟩
  · by_cases q : b = d
    · subst q
      rw [hF] at h
      rw [← Option.some.inj h]
      exact .inr ⟨od, hd, upd_same⟩
    · rw [upd_ne q]
      exact s.sub b w h
  · obtain ⟨v, hv, r⟩ := s.slot i o e
    refine ⟨v, hv, r.mono (fun _ _ h => h) fun a ha w hw => ?_⟩
    rw [upd_ne (fun q => by subst q; rw [s.own _ (mem_ownedE e _ ha)] at hF; cases hF)]
    exact hw
  · rw [upd_ne (fun q => by subst q; rw [hf] at hF; cases hF)]
    exact e
  · by_cases q : b = d
    · subst q
      exact ⟨_, upd_same⟩
    · exact ⟨w, by rw [upd_ne q]; exact e⟩
  · rw [upd_ne (fun q => by subst q; rw [hH] at h; rw [Option.some.inj h] at hd; exact hd)]
    exact h
/-- let go -/
theorem SR.froz {o : O} {v : V} (s : SR K (some o :: ρ) (some v :: σ) F H) : ∃ F', SR K (some (.fz o.frz) :: ρ) (some v :: σ) F' H ∧ Frm (ownedE (some o :: ρ)) F H (ownedE ρ) F' H := by
  have ap := List.nodup_append.mp s.nd
  have fF : ∀ b u, F b = some u → b ∉ o.owned := fun b u h hb => by
    rw [s.own b (List.mem_append_left _ hb)] at h; cases h
  have so : Sub F (fun b => if b ∈ o.owned then H b else F b) := fun b u h => by
    show (if b ∈ o.owned then H b else F b) = some u
    rw [if_neg (fF b u h)]; exact h
  have r := s.top
  have s0 := s.pop
  have sb : Sb (fun b => if b ∈ o.owned then H b else F b) H := fun b u h => by
    have h : (if b ∈ o.owned then H b else F b) = some u := h
    split at h
    · exact .inl h
    · exact s.sub b u h
  have s1 : SR K ρ σ (fun b => if b ∈ o.owned then H b else F b) H := by
    refine ⟨sb, s0.len, fun i w e => ?_, fun a ha => ?_, s0.nd⟩
    · obtain ⟨x, e1, q⟩ := s0.slot i w e
      exact ⟨x, e1, q.mono so fun _ _ _ h => h⟩
    · show (if a ∈ o.owned then H a else F a) = none
      rw [if_neg (fun z : a ∈ o.owned => ap.2.2 a z a ha rfl)]
      exact s0.own a ha
  refine ⟨fun b => if b ∈ o.owned then H b else F b, s1.pushD (r.froz so fun a ha u e => ?_), so, fun b u hb _ hf e => ⟨e, ?_⟩, fun b hb => .inl (List.mem_append_right _ hb), fun b u e => ⟨u, e⟩, fun _ _ _ h => h⟩
  · show (if a ∈ o.owned then H a else F a) = some u
    rw [if_pos ha]; exact e
  · show (if b ∈ o.owned then H b else F b) = none
    rw [if_neg (fun z : b ∈ o.owned => hb (List.mem_append_left _ z))]; exact hf
end
end Tr
/-! The tree layer: readings of expressions. -/
namespace Tr
open PySem PySem.Spec PyProof.Rows L2

/-! ### slots -/
def nth : TEnv → Nat → Option O
  | [], _ => none
  | s :: _, 0 => s
  | _ :: r, i + 1 => nth r i
def put : TEnv → Nat → Option O → TEnv
  | [], _, _ => []
  | _ :: r, 0, o => o :: r
  | s :: r, i + 1, o => s :: put r i o
/-- the slots behind a store, written out at once -/
def putC : TEnv → Nat → Option O → (TEnv → Prop) → Prop
  | [], _, _, k => k []
  | _ :: r, 0, o, k => k (o :: r)
  | s :: r, i + 1, o, k => putC r i o fun r' => k (s :: r')
theorem putC_eq : ∀ (ρ : TEnv) (i : Nat) (o : Option O) (k : TEnv → Prop), putC ρ i o k = k (ρ.set i o)
  | [], _, _, _ => rfl
  | _ :: _, 0, _, _ => rfl
  | s :: r, i + 1, o, k => putC_eq r i o fun r' => k (s :: r')
def frzC (o : O) (k : D → Prop) : Prop := match o with
  | .fz d => k d
  | .lst _ os => k (.lst (O.frzL os))
  | .dct _ kvs => k (.dct kvs)
  | .dcT _ kvs => k (.dcT kvs)
  | .ins _ _ C fs => k (.ins C (O.frzF fs))
theorem frzC_eq (o : O) (k : D → Prop) : frzC o k = k o.frz := by cases o <;> rfl
theorem nth_eq : ∀ {ρ : TEnv} {i : Nat} {o : O}, nth ρ i = some o → ρ[i]? = some (some o)
  | [], _, _, h => by cases h
  | s :: r, 0, o, h => by
    have h : s = some o := h
    rw [h]
    rfl
  | s :: r, i + 1, o, h => by
    rw [List.getElem?_cons_succ]
    exact nth_eq (ρ := r) h
theorem put_eq : ∀ (ρ : TEnv) (i : Nat) (o : Option O), put ρ i o = ρ.set i o
  | [], _, _ => rfl
  | _ :: _, 0, _ => rfl
  | s :: r, i + 1, o => congrArg (s :: ·) (put_eq r i o)

theorem ownedE_set : ∀ (ρ : TEnv) (i : Nat) (t : Option O), i < ρ.length → (ownedE (ρ.set i t)).Perm (slotOwned t ++ ownedE (ρ.set i none))
  | [], _, _, h => absurd h (Nat.not_lt_zero _)
  | s :: r, 0, t, _ => List.Perm.refl _
  | s :: r, i + 1, t, h => by
    have ih := ownedE_set r i t (Nat.lt_of_succ_lt_succ h)
    show (slotOwned s ++ ownedE (r.set i t)).Perm (slotOwned t ++ (slotOwned s ++ ownedE (r.set i none)))
    refine (List.Perm.append_left _ ih).trans ?_
    rw [← List.append_assoc, ← List.append_assoc]
    exact List.Perm.append_right _ List.perm_append_comm
theorem set_getElem : ∀ {ρ : TEnv} {i : Nat} {s : Option O}, ρ[i]? = some s → ρ.set i s = ρ
  | [], _, _, h => by cases h
  | x :: r, 0, s, h => by cases h; rfl
  | x :: r, i + 1, s, h => congrArg (x :: ·) (set_getElem (ρ := r) (by simpa using h))
theorem set_getElemV : ∀ {ρ : L2.St} {i : Nat} {s : Option V}, ρ[i]? = some s → ρ.set i s = ρ
  | [], _, _, h => by cases h
  | x :: r, 0, s, h => by cases h; rfl
  | x :: r, i + 1, s, h => congrArg (x :: ·) (set_getElemV (ρ := r) (by simpa using h))
theorem Frm.iff {L L1 L' L1' : List Addr} {F H F' H' : Hp} (f : Frm L F H L' F' H') (h : ∀ b, b ∈ L1 ↔ b ∈ L) (h' : ∀ b, b ∈ L1' → b ∈ L') : Frm L1 F H L1' F' H' :=
  ⟨f.fz, fun b o n => f.out b o (fun z => n ((h b).mpr z)), fun b hb => (f.new b (h' b hb)).imp (h b).mpr id, f.dom, f.lk⟩
section
variable {K : PySem.W.Frag} {ρ : TEnv} {σ : L2.St} {F H : Hp}
/-- a slot's thing as a temporary -/
theorem SR.take {i : Nat} {o : O} (s : SR K ρ σ F H) (e : ρ[i]? = some (some o)) : ∃ v, σ[i]? = some (some v) ∧ SR K (some o :: ρ.set i none) (some v :: σ) F H ∧ ∀ b, b ∈ ownedE ρ ↔ b ∈ ownedE (some o :: ρ.set i none) := by
  obtain ⟨v, hv, r⟩ := s.slot i o e
  have hi : i < ρ.length := by
    by_cases h : i < ρ.length
    · exact h
    · rw [List.getElem?_eq_none (Nat.le_of_not_lt h)] at e; cases e
  have p := ownedE_set ρ i (some o) hi
  rw [set_getElem e] at p
  refine ⟨v, hv, ⟨s.sub, by simpa using s.len, fun j u q => ?_, fun a ha => s.own a (p.mem_iff.mpr ha), p.nodup_iff.mp s.nd⟩, fun b => p.mem_iff⟩
  cases j with
  | zero => cases q; exact ⟨v, rfl, r⟩
  | succ j =>
    have q : (ρ.set i none)[j]? = some (some u) := q
    by_cases hj : i = j
    · subst hj
      rw [List.getElem?_set_self hi] at q; cases q
    · rw [List.getElem?_set_ne hj] at q
      exact s.slot j u q
/-- a temporary stored -/
theorem SR.store {i : Nat} {o : Option O} {v : Option V} (s : SR K (o :: ρ) (v :: σ) F H) : SR K (ρ.set i o) (σ.set i v) F H ∧ ∀ b, b ∈ ownedE (ρ.set i o) → b ∈ ownedE (o :: ρ) := by
  have le : ρ.length = σ.length := by simpa using s.len
  by_cases hi : i < ρ.length
  · have p := ownedE_set ρ i o hi
    have sub : ∀ b, b ∈ ownedE (ρ.set i none) → b ∈ ownedE ρ := fun b hb => by
      obtain ⟨j, u, e, h⟩ := of_ownedE hb
      by_cases hj : i = j
      · subst hj
        rw [List.getElem?_set_self hi] at e; cases e
      · rw [List.getElem?_set_ne hj] at e
        exact mem_ownedE e b h
    have mem : ∀ b, b ∈ ownedE (ρ.set i o) → b ∈ ownedE (o :: ρ) := fun b hb => by
      rcases List.mem_append.mp (p.mem_iff.mp hb) with h | h
      · exact List.mem_append_left _ h
      · exact List.mem_append_right _ (sub b h)
    have sl : ∀ (r : TEnv) (j : Nat), (ownedE (r.set j none)).Sublist (ownedE r) := by
      intro r
      induction r with
      | nil => intro j; exact List.Sublist.refl _
      | cons x r ih =>
        intro j
        cases j with
        | zero => exact List.sublist_append_right _ _
        | succ j => exact List.Sublist.append_left (ih j) _
    have nd := List.nodup_append.mp s.nd
    refine ⟨⟨s.sub, by simp [le], fun j u e => ?_, fun a ha => s.own a (mem a ha), p.nodup_iff.mpr (List.nodup_append.mpr ⟨nd.1, nd.2.1.sublist (sl ρ i), fun a ha b hb => nd.2.2 a ha b (sub b hb)⟩)⟩, mem⟩
    by_cases hj : i = j
    · subst hj
      rw [List.getElem?_set_self hi] at e
      obtain ⟨w, e1, r⟩ := s.slot 0 u (by simpa using e)
      refine ⟨w, ?_, r⟩
      rw [List.getElem?_set_self (by omega)]
      simpa using e1
    · rw [List.getElem?_set_ne hj] at e ⊢
      exact s.slot (j + 1) u (by simpa using e)
  · rw [List.set_eq_of_length_le (by omega), List.set_eq_of_length_le (by omega)]
    exact ⟨s.pop, fun b hb => List.mem_append_right _ hb⟩
/-- a slot's thing let go -/
theorem SR.let {i : Nat} {o : O} (s : SR K ρ σ F H) (e : ρ[i]? = some (some o)) : ∃ F' v, σ[i]? = some (some v) ∧ SR K (ρ.set i (some (.fz o.frz))) σ F' H ∧ Rep K F' v o.frz ∧ Frm (ownedE ρ) F H (ownedE (ρ.set i (some (.fz o.frz)))) F' H := by
  obtain ⟨v, hv, s1, m1⟩ := s.take e
  obtain ⟨F', s2, f2⟩ := s1.froz
  obtain ⟨s3, m3⟩ := s2.store (i := i)
  rw [set_getElemV hv, List.set_set] at s3
  refine ⟨F', v, hv, s3, s2.topD, ?_⟩
  refine f2.iff m1 fun b hb => ?_
  have := m3 b
  rw [List.set_set] at this
  rcases List.mem_append.mp (this hb) with h | h
  · cases h
  · exact h
end

/-! ### readings over trees -/
abbrev WD := TEnv → (D → TEnv → Prop) → Prop
abbrev WO := TEnv → (O → TEnv → Prop) → Prop
abbrev WT := TEnv → (Bool → TEnv → Prop) → Prop
abbrev WL := TEnv → (List D → TEnv → Prop) → Prop
def liftD (K : PySem.W.Frag) (w : WD) : TE := fun σ H Q => ∃ ρ F P, SR K ρ σ F H ∧ w ρ P ∧
  ∀ d ρ' F' H' v, P d ρ' → SR K ρ' σ F' H' → Rep K F' v d → Frm (ownedE ρ) F H (ownedE ρ') F' H' → Q v H'
def liftO (K : PySem.W.Frag) (w : WO) : TE := fun σ H Q => ∃ ρ F P, SR K ρ σ F H ∧ w ρ P ∧
  ∀ o ρ' F' H' v, P o ρ' → SR K (some o :: ρ') (some v :: σ) F' H' → Frm (ownedE ρ) F H (ownedE (some o :: ρ')) F' H' → Q v H'
/-- read while it stands: F'' has what is owned, too -/
def liftB (K : PySem.W.Frag) (w : WD) : TE := fun σ H Q => ∃ ρ F P, SR K ρ σ F H ∧ w ρ P ∧
  ∀ d ρ' F' F'' H' v, P d ρ' → SR K ρ' σ F' H' → Sb F'' H' → Sub F' F'' → Rep K F'' v d → Frm (ownedE ρ) F H (ownedE ρ') F' H' → Q v H'
def liftT (K : PySem.W.Frag) (w : WT) : TT := fun σ H Q => ∃ ρ F P, SR K ρ σ F H ∧ w ρ P ∧
  ∀ b ρ' F' H', P b ρ' → SR K ρ' σ F' H' → Frm (ownedE ρ) F H (ownedE ρ') F' H' → Q b H'
def liftA (K : PySem.W.Frag) (w : WL) : TA := fun σ H Q => ∃ ρ F P, SR K ρ σ F H ∧ w ρ P ∧
  ∀ ds ρ' F' H' vs, P ds ρ' → SR K ρ' σ F' H' → RepL K F' vs ds → Frm (ownedE ρ) F H (ownedE ρ') F' H' → Q vs H'
structure XE (X : Cx) (e : Expr) (w : WD) : Prop where
  pe : PE X e (liftD X.K w)
structure XO (X : Cx) (e : Expr) (w : WO) : Prop where
  pe : PE X e (liftO X.K w)
structure XB (X : Cx) (e : Expr) (w : WD) : Prop where
  pe : PE X e (liftB X.K w)
structure XT (X : Cx) (e : Expr) (w : WT) : Prop where
  pt : PT X e (liftT X.K w)
structure XA (X : Cx) (es : List Expr) (w : WL) : Prop where
  pa : PA X es (liftA X.K w)
theorem PE.imp {X : Cx} {e : Expr} {t t' : TE} (h : PE X e t) (i : ∀ σ H Q, t' σ H Q → t σ H Q) : PE X e t' := ⟨fun pins s σ H Q I hw => h.run pins s σ H Q I (i _ _ _ hw)⟩
theorem PT.imp {X : Cx} {e : Expr} {t t' : TT} (h : PT X e t) (i : ∀ σ H Q, t' σ H Q → t σ H Q) : PT X e t' := ⟨fun pins s σ H Q I hw => h.run pins s σ H Q I (i _ _ _ hw)⟩
theorem PA.imp {X : Cx} {e : List Expr} {t t' : TA} (h : PA X e t) (i : ∀ σ H Q, t' σ H Q → t σ H Q) : PA X e t' := ⟨fun pos pins s σ H Q I hw => h.run pos pins s σ H Q I (i _ _ _ hw)⟩

/-- what an operation on values makes: o at v -/
def Res (K : PySem.W.Frag) (F H : Hp) (o : O) (v : V) (F' H' : Hp) : Prop :=
  ∀ ρ σ, SR K ρ σ F H → SR K (some o :: ρ) (some v :: σ) F' H' ∧ Frm (ownedE ρ) F H (ownedE (some o :: ρ)) F' H'
theorem Res.fz {K : PySem.W.Frag} {F H : Hp} {d : D} {v : V} (r : Rep K F v d) : Res K F H (.fz d) v F H := fun _ _ s => ⟨s.pushD r, Frm.refl⟩
theorem Res.grow {K : PySem.W.Frag} {F H F' H' : Hp} {d : D} {v : V} (g : Grow F H F' H') (sb : Sb F' H') (r : Rep K F' v d) : Res K F H (.fz d) v F' H' :=
  fun _ _ s => ⟨(s.grow g sb).pushD r, .ofGrow g⟩
theorem Res.lst {K : PySem.W.Frag} {F H : Hp} {p : Addr} {xs : List V} {ds : List D} (hp : H p = none) (z : ds.length ≤ sizeLine) (r : RepL K F xs ds) :
    Res K F H (.lst p (ds.map .fz)) (.ref p) F (upd H p (.lst xs)) := fun _ _ s =>
  s.newO hp (.lst upd_same (by rw [List.length_map]; exact z) (.of r)) (by show p :: O.ownedL (ds.map O.fz) = [p]; rw [O.ownedL_map])
theorem Res.tup {K : PySem.W.Frag} {F H : Hp} {p : Addr} {xs : List V} {ds : List D} (sb : Sb F H) (hp : H p = none) (z : ds.length ≤ sizeLine) (r : RepL K F xs ds) :
    Res K F H (.fz (.tup ds)) (.ref p) (upd F p (.tup xs)) (upd H p (.tup xs)) := by
  obtain ⟨g, sb'⟩ := grow_new (o := .tup xs) sb hp
  exact Res.grow g sb' (.tup upd_same z (r.mono g.fz))
/-- the readings of a two-place operation and of one over trees go together -/
def SemR (K : PySem.W.Frag) (r : R2) (sem : D → D → (O → Prop) → Prop) : Prop :=
  ∀ (F H : Hp) (x y : V) (d e : D) (P : O → Prop) (Q : VK), Sb F H → Rep K F x d → Rep K F y e → sem d e P → (∀ o v F' H', P o → Res K F H o v F' H' → Q v H') → r x y H Q
/-- .. whose answer is no object -/
def SemS (K : PySem.W.Frag) (r : R2) (sem : D → D → (D → Prop) → Prop) : Prop :=
  ∀ (F H : Hp) (x y : V) (d e : D) (P : D → Prop) (Q : VK), Sb F H → Rep K F x d → Rep K F y e → sem d e P → (∀ u v, P u → (∀ G, Rep K G v u) → Q v H) → r x y H Q
def SemC (K : PySem.W.Frag) (r : List V → Hp → VK → Prop) (sem : List D → (O → Prop) → Prop) : Prop :=
  ∀ (F H : Hp) (xs : List V) (ds : List D) (P : O → Prop) (Q : VK), Sb F H → RepL K F xs ds → sem ds P → (∀ o v F' H', P o → Res K F H o v F' H' → Q v H') → r xs H Q
def SemC1 (K : PySem.W.Frag) (r : List V → Hp → VK → Prop) (sem : D → (D → Prop) → Prop) : Prop :=
  ∀ (F H : Hp) (x : V) (d : D) (P : D → Prop) (Q : VK), Sb F H → Rep K F x d → sem d P → (∀ u v, P u → (∀ G, Rep K G v u) → Q v H) → r [x] H Q

/-! ### names, constants, changes of form -/
def wVar (i : Nat) : WD := fun ρ P => match nth ρ i with
  | some (.fz d) => P d ρ
  | some o => frzC o fun d => putC ρ i (some (.fz d)) (P d)
  | none => False
def wLook (i : Nat) : WD := fun ρ P => match nth ρ i with
  | some o => frzC o fun d => P d ρ
  | none => False
def wC (d : D) : WD := fun ρ P => P d ρ
def wFrz (w : WO) : WD := fun ρ P => w ρ fun o ρ' => frzC o fun d => P d ρ'
def wFz (w : WD) : WO := fun ρ P => w ρ fun d ρ' => P (.fz d) ρ'
section
variable {X : Cx} {e : Expr} {pos : Pos}
theorem xe_pv {i : Nat} (h : PE X e (tVar i)) : XE X e (wVar i) := ⟨PE.imp h fun σ H Q ⟨ρ, F, P, s, w, k⟩ => by
  unfold wVar at w
  cases hn : nth ρ i with
  | none => rw [hn] at w; exact w.elim
  | some o =>
    rw [hn] at w
    have e1 := nth_eq hn
    have gen : P o.frz (ρ.set i (some (.fz o.frz))) → tVar i σ H Q := fun p => by
      obtain ⟨F', v, hv, s', r, f⟩ := s.let e1
      exact ⟨v, hv, k _ _ _ _ _ p s' r f⟩
    cases o with
    | fz d =>
      obtain ⟨v, hv, r⟩ := s.slot i _ e1
      cases r with
      | fz r => exact ⟨v, hv, k _ _ _ _ _ w s r .refl⟩
    | lst a os => exact gen (by rw [← putC_eq ρ i _ (P _)]; exact w)
    | dct a os => exact gen (by rw [← putC_eq ρ i _ (P _)]; exact w)
    | dcT a os => exact gen (by rw [← putC_eq ρ i _ (P _)]; exact w)
    | ins a b c os => exact gen (by rw [← putC_eq ρ i _ (P _)]; exact w)⟩
theorem xb_pv {i : Nat} (h : PE X e (tVar i)) : XB X e (wLook i) := ⟨PE.imp h fun σ H Q ⟨ρ, F, P, s, w, k⟩ => by
  unfold wLook at w
  cases hn : nth ρ i with
  | none => rw [hn] at w; exact w.elim
  | some o =>
    rw [hn] at w
    have e1 := nth_eq hn
    obtain ⟨F', v, hv, s', r, f⟩ := s.let e1
    have w : frzC o (fun d => P d ρ) := w
    rw [frzC_eq] at w
    exact ⟨v, hv, k _ _ _ F' _ _ w s s'.sub f.fz r .refl⟩⟩
theorem xe_c {d : D} {v : V} (h : PE X e (tC v)) (r : ∀ K G, Rep K G v d) : XE X e (wC d) := ⟨PE.imp h fun σ H Q ⟨ρ, F, P, s, w, k⟩ => k _ _ _ _ _ w s (r _ _) .refl⟩
theorem xe_int {i : Int} {j} : XE X (.Constant (.int i) j pos) (wC (.int i)) := xe_c pe_int fun _ _ => .int i
theorem xe_bl {b : Bool} {j} : XE X (.Constant (.bool b) j pos) (wC (.bl b)) := xe_c pe_bl fun _ _ => .bl b
theorem xe_non {j} : XE X (.Constant .none j pos) (wC .non) := xe_c pe_non fun _ _ => .non
theorem xe_str {x : Str} {j} (h : x.length ≤ sizeLine := by decide +kernel) : XE X (.Constant (.str x) j pos) (wC (.str x)) := xe_c pe_str fun _ _ => .str x h
theorem XO.toE {w : WO} (h : XO X e w) : XE X e (wFrz w) := ⟨PE.imp h.pe fun σ H Q ⟨ρ, F, P, s, hw, k⟩ =>
  ⟨ρ, F, _, s, hw, fun o ρ' F' H' v p s' f => by
    obtain ⟨F2, s2, f2⟩ := s'.froz
    rw [frzC_eq] at p
    exact k _ _ _ _ _ p s2.pop s2.topD (f.trans f2)⟩⟩
theorem XE.toO {w : WD} (h : XE X e w) : XO X e (wFz w) := ⟨PE.imp h.pe fun σ H Q ⟨ρ, F, P, s, hw, k⟩ =>
  ⟨ρ, F, _, s, hw, fun d ρ' F' H' v p s' r f => k _ _ _ _ _ p (s'.pushD r) f⟩⟩
theorem XE.toB {w : WD} (h : XE X e w) : XB X e w := ⟨PE.imp h.pe fun σ H Q ⟨ρ, F, P, s, hw, k⟩ =>
  ⟨ρ, F, _, s, hw, fun d ρ' F' H' v p s' r f => k _ _ _ _ _ _ p s' s'.sub (fun _ _ h => h) r f⟩⟩
end

/-! ### two operands -/
def wBin (sem : D → D → (O → Prop) → Prop) (wa wb : WD) : WO := fun ρ P => wa ρ fun d ρ1 => wb ρ1 fun e ρ2 => sem d e fun o => P o ρ2
def wCmp (sem : D → D → (D → Prop) → Prop) (wa wb : WD) : WD := fun ρ P => wa ρ fun d ρ1 => wb ρ1 fun e ρ2 => sem d e fun u => P u ρ2
/-- the left one a name -/
def wCmpL (sem : D → D → (D → Prop) → Prop) (i : Nat) (wb : WD) : WD := fun ρ P => match nth ρ i with
  | some _ => wb ρ fun e ρ2 => wLook i ρ2 fun d ρ3 => sem d e fun u => P u ρ3
  | none => False
def wTst (w : WD) : WT := fun ρ P => w ρ fun d ρ' => match d with
  | .bl b => P b ρ'
  | _ => False
section
variable {X : Cx} {a b : Expr} {wa wb : WD} {pos : Pos} {r : R2}
theorem tOp_bin {sem : D → D → (O → Prop) → Prop} (hs : SemR X.K r sem) {σ : L2.St} {H : Hp} {Q : VK} (h : liftO X.K (wBin sem wa wb) σ H Q) : tOp r (liftD X.K wa) (liftD X.K wb) σ H Q := by
  obtain ⟨ρ, F, P, s, hw, k⟩ := h
  refine ⟨ρ, F, _, s, hw, fun d ρ1 F1 H1 v p s1 r1 f1 => ?_⟩
  refine ⟨ρ1, F1, _, s1, p, fun e ρ2 F2 H2 u p2 s2 r2 f2 => ?_⟩
  refine hs F2 H2 _ _ d e _ Q s2.sub (r1.mono f2.fz) r2 p2 fun o w F3 H3 p3 res => ?_
  obtain ⟨s3, f3⟩ := res _ _ s2
  exact k _ _ _ _ _ p3 s3 ((f1.trans f2).trans f3)
theorem xo_bin {op : Operator} {sem : D → D → (O → Prop) → Prop} (ho : OpR X (binaryOp op) r) (hs : SemR X.K r sem) (ha : XE X a wa) (hb : XE X b wb) : XO X (.BinOp a op b pos) (wBin sem wa wb) :=
  ⟨PE.imp (pe_op ho ha.pe hb.pe) fun _ _ _ h => tOp_bin hs h⟩
theorem tOp_cmp {sem : D → D → (D → Prop) → Prop} (hs : SemS X.K r sem) {σ : L2.St} {H : Hp} {Q : VK} (h : liftD X.K (wCmp sem wa wb) σ H Q) : tOp r (liftD X.K wa) (liftB X.K wb) σ H Q := by
  obtain ⟨ρ, F, P, s, hw, k⟩ := h
  refine ⟨ρ, F, _, s, hw, fun d ρ1 F1 H1 v p s1 r1 f1 => ?_⟩
  refine ⟨ρ1, F1, _, s1, p, fun e ρ2 F2 G2 H2 u p2 s2 sg sub r2 f2 => ?_⟩
  exact hs G2 H2 _ _ d e _ Q sg ((r1.mono f2.fz).mono sub) r2 p2 fun u w p3 rr => k _ _ _ _ _ p3 s2 (rr _) (f1.trans f2)
theorem tOp_cmpL {sem : D → D → (D → Prop) → Prop} {i : Nat} (hs : SemS X.K r sem) {σ : L2.St} {H : Hp} {Q : VK} (h : liftD X.K (wCmpL sem i wb) σ H Q) : tOp r (tVar i) (liftB X.K wb) σ H Q := by
  obtain ⟨ρ, F, P, s, hw, k⟩ := h
  unfold wCmpL at hw
  cases hn0 : nth ρ i with
  | none => rw [hn0] at hw; exact hw.elim
  | some o0 =>
  rw [hn0] at hw
  obtain ⟨x, hx, _⟩ := s.slot i o0 (nth_eq hn0)
  refine ⟨x, hx, ρ, F, _, s, hw, fun e ρ2 F2 G2 H2 u p2 s2 sg sub r2 f2 => ?_⟩
  unfold wLook at p2
  cases hn : nth ρ2 i with
  | none => rw [hn] at p2; exact p2.elim
  | some o =>
    rw [hn] at p2
    have e1 := nth_eq hn
    obtain ⟨v, hv, ro⟩ := s2.slot i o e1
    rw [hx] at hv
    cases hv
    have p2 : frzC o (fun d => sem d e fun u => P u ρ2) := p2
    rw [frzC_eq] at p2
    -- what is owned at i joins what stands
    have fG : ∀ b w, F2 b = some w → b ∉ o.owned := fun b w h hb => by
      rw [s2.own b (mem_ownedE e1 b hb)] at h; cases h
    have hsub : Sb (fun b => if b ∈ o.owned then H2 b else G2 b) H2 := fun b w h => by
      have h : (if b ∈ o.owned then H2 b else G2 b) = some w := h
      split at h
      · exact .inl h
      · exact sg b w h
    have hG : Sub G2 (fun b => if b ∈ o.owned then H2 b else G2 b) := fun b w h => by
      show (if b ∈ o.owned then H2 b else G2 b) = some w
      split
      · rename_i hb
        obtain ⟨w', e'⟩ := ro.there b hb
        rcases sg b w h with z | ⟨ob, _, z⟩
        · exact z
        · exact absurd z (ro.nofrz b hb ob w)
      · exact h
    exact hs (fun b => if b ∈ o.owned then H2 b else G2 b) H2 _ _ o.frz e _ Q hsub (ro.froz (fun b w h => hG b w (sub b w h)) fun b hb w e' => by
      show (if b ∈ o.owned then H2 b else G2 b) = some w
      rw [if_pos hb]; exact e') (r2.mono hG) p2 fun u w p3 rr => k _ _ _ _ _ p3 s2 (rr _) f2
end

/-! ### equality of data -/
def deqL (f : D → D → Option Bool) : List D → List D → Option Bool
  | x :: xs, y :: ys => match f x y, deqL f xs ys with
    | some a, some b => some (a && b)
    | _, _ => none
  | _, _ => some true
/-- the items of a list -/
def D.lsq : D → Option (List D)
  | .lst xs => some xs
  | .frl xs => some xs
  | _ => none
def D.kd : D → Nat
  | .non => 1
  | .bl _ => 2
  | .int _ => 2
  | .str _ => 3
  | .tup _ => 4
  | .lst _ => 5
  | .frl _ => 5
  | _ => 0
def deqF (f : D → D → Option Bool) (d e : D) : Option Bool := match d, e with
  | .non, .non => some true
  | .bl a, .bl b => some (a == b)
  | .int a, .int b => some (a == b)
  | .str a, .str b => some (a == b)
  | .bl a, .int b => some ((if a then 1 else 0) == b)
  | .int a, .bl b => some (a == (if b then 1 else 0))
  | .tup xs, .tup ys => (deqL f xs ys).map (· && (xs.length == ys.length))
  | .lst xs, .lst ys => if xs.length == ys.length then deqL f xs ys else some false
  | .lst xs, .frl ys => if xs.length == ys.length then deqL f xs ys else some false
  | .frl xs, .lst ys => if xs.length == ys.length then deqL f xs ys else some false
  | .frl xs, .frl ys => if xs.length == ys.length then deqL f xs ys else some false
  | d, e => if (d.kd != 0 && e.kd != 0 && d.kd != e.kd) = true then some false else none
/-- whether two things of the language are equal, where that is plain: n deep -/
def deq : Nat → D → D → Option Bool
  | 0 => deqF fun _ _ => none
  | n + 1 => deqF (deq n)
theorem deqL_at {f : D → D → Option Bool} : ∀ {ds es : List D} {b : Bool}, deqL f ds es = some b → ∃ g : Nat → Bool, (∀ j p q, ds[j]? = some p → es[j]? = some q → f p q = some (g j)) ∧ b = (List.range (min ds.length es.length)).all g
  | [], _, b, h => by
    cases h
    exact ⟨fun _ => true, fun j p q h1 _ => (by cases h1), by simp⟩
  | _ :: _, [], b, h => by
    cases h
    exact ⟨fun _ => true, fun j p q _ h2 => (by cases h2), by simp⟩
  | x :: xs, y :: ys, b, h => by
    unfold deqL at h
    cases h1 : f x y with
    | none => rw [h1] at h; cases h
    | some a =>
      cases h2 : deqL f xs ys with
      | none => rw [h1, h2] at h; cases h
      | some c =>
        rw [h1, h2] at h
        cases h
        obtain ⟨g, hg, rfl⟩ := deqL_at h2
        refine ⟨fun j => match j with | 0 => a | j + 1 => g j, fun j p q e1 e2 => ?_, ?_⟩
        · cases j with
          | zero => cases e1; cases e2; exact h1
          | succ j => exact hg j p q (by simpa using e1) (by simpa using e2)
        · rw [List.length_cons, List.length_cons, Nat.succ_min_succ, List.range_succ_eq_map, List.all_cons, List.all_map]
          rfl
section
open SeqAt
variable {X : Cx} {pins : List (Addr × Obj)} {σ : L2.St} {F H : Hp} {s : Shared}
theorem isL (I : Inv X pins σ H s) {a : Addr} {xs : List V} (h : SqL X.K H a xs) : ∃ its : List Value, Vals xs its ∧ s.heap.IsList a its.toArray := by
  obtain ⟨its, rv, ⟨o, n, ho, hc, _, hd⟩, _⟩ := I.list h
  exact ⟨its, rv, ⟨o, ho, hc, n, hd⟩⟩
theorem isT (I : Inv X pins σ H s) {a : Addr} {xs : List V} (h : SqT X.K H a xs) : ∃ its : List Value, Vals xs its ∧ s.heap.IsTuple a its.toArray := by
  obtain ⟨its, rv, ⟨o, ho, hc, n, hd⟩, _⟩ := I.tuple h
  exact ⟨its, rv, ⟨o, ho, hc, n, hd⟩⟩
theorem Vals.at' : ∀ {xs : List V} {us : List Value} {j : Nat} {u : Value}, Vals xs us → us[j]? = some u → ∃ x, xs[j]? = some x ∧ RelV x u
  | _, _, _, _, .nil, e => by cases e
  | _, _, 0, _, .cons r _, e => by cases e; exact ⟨_, rfl, r⟩
  | _, _, j + 1, _, .cons _ r, e => Vals.at' (j := j) r (by simpa using e)
/-- the pairs of two rows of items -/
theorem pairs_at {A : Around} {f : D → D → Option Bool} (hf : ∀ x y d e b v u, Rep X.K F x d → Rep X.K F y e → RelV x v → RelV y u → f d e = some b → EqAt A s v u b) {xs ys : List V} {ds es : List D} {its its2 : List Value} {b : Bool} (r1 : RepL X.K F xs ds) (r2 : RepL X.K F ys es) (v1 : Vals xs its) (v2 : Vals ys its2)
    (h : deqL f ds es = some b) : ∃ g : Nat → Bool, (∀ j (h1 : j < its.toArray.size) (h2 : j < its2.toArray.size), EqAt A s its.toArray[j] its2.toArray[j] (g j)) ∧ b = (List.range (min its.toArray.size its2.toArray.size)).all g := by
  obtain ⟨g, hg, rfl⟩ := deqL_at h
  have l1 : its.length = ds.length := by rw [← v1.length, r1.length]
  have l2 : its2.length = es.length := by rw [← v2.length, r2.length]
  refine ⟨g, fun j h1 h2 => ?_, by rw [List.size_toArray, List.size_toArray, l1, l2]⟩
  have h1' : j < its.length := h1
  have h2' : j < its2.length := h2
  obtain ⟨x, hx, rx⟩ := Vals.at' v1 (List.getElem?_eq_getElem h1')
  obtain ⟨y, hy, ry⟩ := Vals.at' v2 (List.getElem?_eq_getElem h2')
  obtain ⟨d, hd, px⟩ := r1.get' hx
  obtain ⟨e, he, py⟩ := r2.get' hy
  exact hf _ _ _ _ _ _ _ px py rx ry (hg j d e hd he)

theorem eqAt_step_lists (I : Inv X pins σ H s) (sb : Sb F H) {A : Around} (hu : A.units < cLine) {f : D → D → Option Bool} (hf : ∀ x y d e b v u, Rep X.K F x d → Rep X.K F y e → RelV x v → RelV y u → f d e = some b → EqAt A.in1 s v u b) (hs : ∀ x d e b, Rep X.K F x d → Rep X.K F x e → f d e = some b → b = true) {a a' : Addr} {xs ys : List V} {ds es : List D} {its1 its2 : List Value} {b0 : Bool}
    (h1 : SqL X.K H a xs) (h2 : SqL X.K H a' ys) (q1 : s.heap.IsList a its1.toArray) (q2 : s.heap.IsList a' its2.toArray) (w1 : Vals xs its1) (w2 : Vals ys its2) (r1 : RepL X.K F xs ds) (r2 : RepL X.K F ys es) (h : (if ds.length == es.length then deqL f ds es else some false) = some b0) : EqAt A s (.ref a) (.ref a') b0 := by
  have l1 : its1.length = ds.length := by rw [← w1.length, r1.length]
  have l2 : its2.length = es.length := by rw [← w2.length, r2.length]
  by_cases ea : a = a'
  · subst ea
    have exy := I.list_inj h1 h2
    subst exy
    have le : ds.length = es.length := by rw [← r1.length, ← r2.length]
    rw [if_pos (by rw [le]; exact beq_self_eq_true _)] at h
    obtain ⟨g, hg, rfl⟩ := deqL_at h
    have : (List.range (min ds.length es.length)).all g = true := List.all_eq_true.mpr fun j hj => by
      have hj := List.mem_range.mp hj
      obtain ⟨x, hx, px⟩ := r1.get' (List.getElem?_eq_getElem (show j < xs.length by rw [r1.length]; omega))
      obtain ⟨y, hy, py⟩ := r2.get' (List.getElem?_eq_getElem (show j < xs.length by rw [r1.length]; omega))
      exact hs _ _ _ _ px py (hg j x y hx hy)
    rw [this]
    exact EqAt.same _
  refine EqAt.of_refs ea ?_
  by_cases le : ds.length = es.length
  · rw [if_pos (by rw [le]; exact beq_self_eq_true _)] at h
    obtain ⟨g, hg, rfl⟩ := pairs_at hf r1 r2 w1 w2 h
    have hsz : its1.toArray.size = its2.toArray.size := by rw [List.size_toArray, List.size_toArray]; omega
    rw [← hsz, Nat.min_self]
    exact RcAt.lists q1 q2 hsz hu hg
  · rw [if_neg (by simpa using le)] at h
    cases h
    exact RcAt.lists_lengths q1 q2 (by simp only [bne_iff_ne, List.size_toArray]; omega) hu
theorem eqAt_step_tups (I : Inv X pins σ H s) (sb : Sb F H) {A : Around} (hu : A.units < cLine) {f : D → D → Option Bool} (hf : ∀ x y d e b v u, Rep X.K F x d → Rep X.K F y e → RelV x v → RelV y u → f d e = some b → EqAt A.in1 s v u b) (hs : ∀ x d e b, Rep X.K F x d → Rep X.K F x e → f d e = some b → b = true) {a a' : Addr} {xs ys : List V} {ds es : List D} {its1 its2 : List Value} {b0 : Bool}
    (h1 : SqT X.K H a xs) (h2 : SqT X.K H a' ys) (q1 : s.heap.IsTuple a its1.toArray) (q2 : s.heap.IsTuple a' its2.toArray) (w1 : Vals xs its1) (w2 : Vals ys its2) (r1 : RepL X.K F xs ds) (r2 : RepL X.K F ys es) (h : (deqL f ds es).map (· && (ds.length == es.length)) = some b0) : EqAt A s (.ref a) (.ref a') b0 := by
  have l1 : its1.length = ds.length := by rw [← w1.length, r1.length]
  have l2 : its2.length = es.length := by rw [← w2.length, r2.length]
  cases hq : deqL f ds es with
  | none => rw [hq] at h; cases h
  | some c =>
  rw [hq] at h
  cases h
  by_cases ea : a = a'
  · subst ea
    have exy := I.tuple_inj h1 h2
    subst exy
    have le : ds.length = es.length := by rw [← r1.length, ← r2.length]
    obtain ⟨g, hg, rfl⟩ := deqL_at hq
    have : (List.range (min ds.length es.length)).all g = true := List.all_eq_true.mpr fun j hj => by
      have hj := List.mem_range.mp hj
      obtain ⟨x, hx, px⟩ := r1.get' (List.getElem?_eq_getElem (show j < xs.length by rw [r1.length]; omega))
      obtain ⟨y, hy, py⟩ := r2.get' (List.getElem?_eq_getElem (show j < xs.length by rw [r1.length]; omega))
      exact hs _ _ _ _ px py (hg j x y hx hy)
    rw [this, le, beq_self_eq_true]
    exact EqAt.same _
  refine EqAt.of_refs ea ?_
  obtain ⟨g, hg, rfl⟩ := pairs_at hf r1 r2 w1 w2 hq
  have e : (ds.length == es.length) = (its1.toArray.size == its2.toArray.size) := by rw [List.size_toArray, List.size_toArray, l1, l2]
  rw [e]
  exact RcAt.tuples q1 q2 hu hg
theorem eqAt_step (I : Inv X pins σ H s) (sb : Sb F H) {A : Around} (hu : A.units < cLine) {f : D → D → Option Bool} (hf : ∀ x y d e b v u, Rep X.K F x d → Rep X.K F y e → RelV x v → RelV y u → f d e = some b → EqAt A.in1 s v u b) (hs : ∀ x d e b, Rep X.K F x d → Rep X.K F x e → f d e = some b → b = true) {x0 y0 : V} {d e : D} {b0 : Bool} {v u : Value}
    (rx : Rep X.K F x0 d) (ry : Rep X.K F y0 e) (rv : RelV x0 v) (ru : RelV y0 u) (h : deqF f d e = some b0) : EqAt A s v u b0 := by
  cases rx with
  | non =>
    cases rv
    cases ry with
    | non => cases ru; cases h; exact EqAt.same _
    | bl b => cases ru; cases h; exact EqAt.none_bool b
    | int j => obtain ⟨t2, rfl⟩ := ru; cases h; exact EqAt.none_int j t2
    | str y zy => obtain ⟨t2, rfl⟩ := ru; cases h; exact EqAt.none_str y t2
    | tup h2 z2 r2 => cases ru; obtain ⟨its2, w2, q2⟩ := isT I (sb.sqT h2); cases h; exact EqAt.none_tuple q2 hu
    | lst h2 z2 r2 => cases ru; obtain ⟨its2, w2, q2⟩ := isL I (.inl (.inl (sb.lst h2))); cases h; exact EqAt.none_list q2 hu
    | frl h2 z2 r2 => cases ru; obtain ⟨its2, w2, q2⟩ := isL I (sb.sqL h2); cases h; exact EqAt.none_list q2 hu
    | dct h2 _ r2 => cases h
    | dcT h2 _ r2 => cases h
    | ins h2 r2 => cases h
    | ty m => cases h
    | al m => cases h
    | exc0 mx => cases h
    | exc1 mx my mz => cases h
  | bl a =>
    cases rv
    cases ry with
    | non => cases ru; cases h; exact EqAt.bool_none a
    | bl b => cases ru; cases h; exact EqAt.bool_bool a b
    | int j => obtain ⟨t2, rfl⟩ := ru; cases h; exact EqAt.bool_int a j t2
    | str y zy => obtain ⟨t2, rfl⟩ := ru; cases h; exact EqAt.bool_str a y t2
    | tup h2 z2 r2 => cases ru; obtain ⟨its2, w2, q2⟩ := isT I (sb.sqT h2); cases h; exact EqAt.bool_tuple a q2 hu
    | lst h2 z2 r2 => cases ru; obtain ⟨its2, w2, q2⟩ := isL I (.inl (.inl (sb.lst h2))); cases h; exact EqAt.bool_list a q2 hu
    | frl h2 z2 r2 => cases ru; obtain ⟨its2, w2, q2⟩ := isL I (sb.sqL h2); cases h; exact EqAt.bool_list a q2 hu
    | dct h2 _ r2 => cases h
    | dcT h2 _ r2 => cases h
    | ins h2 r2 => cases h
    | ty m => cases h
    | al m => cases h
    | exc0 mx => cases h
    | exc1 mx my mz => cases h
  | int i =>
    obtain ⟨t1, rfl⟩ := rv
    cases ry with
    | non => cases ru; cases h; exact EqAt.int_none i t1
    | bl b => cases ru; cases h; exact EqAt.int_bool i t1 b
    | int j => obtain ⟨t2, rfl⟩ := ru; cases h; exact EqAt.int_int i t1 j t2
    | str y zy => obtain ⟨t2, rfl⟩ := ru; cases h; exact EqAt.int_str i t1 y t2
    | tup h2 z2 r2 => cases ru; obtain ⟨its2, w2, q2⟩ := isT I (sb.sqT h2); cases h; exact EqAt.int_tuple i t1 q2 hu
    | lst h2 z2 r2 => cases ru; obtain ⟨its2, w2, q2⟩ := isL I (.inl (.inl (sb.lst h2))); cases h; exact EqAt.int_list i t1 q2 hu
    | frl h2 z2 r2 => cases ru; obtain ⟨its2, w2, q2⟩ := isL I (sb.sqL h2); cases h; exact EqAt.int_list i t1 q2 hu
    | dct h2 _ r2 => cases h
    | dcT h2 _ r2 => cases h
    | ins h2 r2 => cases h
    | ty m => cases h
    | al m => cases h
    | exc0 mx => cases h
    | exc1 mx my mz => cases h
  | str x zx =>
    obtain ⟨t1, rfl⟩ := rv
    cases ry with
    | non => cases ru; cases h; exact EqAt.str_none x t1
    | bl b => cases ru; cases h; exact EqAt.str_bool x t1 b
    | int j => obtain ⟨t2, rfl⟩ := ru; cases h; exact EqAt.str_int x t1 j t2
    | str y zy => obtain ⟨t2, rfl⟩ := ru; cases h; exact EqAt.str_str x t1 y t2
    | tup h2 z2 r2 => cases ru; obtain ⟨its2, w2, q2⟩ := isT I (sb.sqT h2); cases h; exact EqAt.str_tuple x t1 q2 hu
    | lst h2 z2 r2 => cases ru; obtain ⟨its2, w2, q2⟩ := isL I (.inl (.inl (sb.lst h2))); cases h; exact EqAt.str_list x t1 q2 hu
    | frl h2 z2 r2 => cases ru; obtain ⟨its2, w2, q2⟩ := isL I (sb.sqL h2); cases h; exact EqAt.str_list x t1 q2 hu
    | dct h2 _ r2 => cases h
    | dcT h2 _ r2 => cases h
    | ins h2 r2 => cases h
    | ty m => cases h
    | al m => cases h
    | exc0 mx => cases h
    | exc1 mx my mz => cases h
  | tup h1 z1 r1 =>
    cases rv; obtain ⟨its1, w1, q1⟩ := isT I (sb.sqT h1)
    cases ry with
    | non => cases ru; cases h; exact EqAt.tuple_none q1 hu
    | bl b => cases ru; cases h; exact EqAt.tuple_bool b q1 hu
    | int j => obtain ⟨t2, rfl⟩ := ru; cases h; exact EqAt.tuple_int j t2 q1 hu
    | str y zy => obtain ⟨t2, rfl⟩ := ru; cases h; exact EqAt.tuple_str y t2 q1 hu
    | tup h2 z2 r2 => cases ru; obtain ⟨its2, w2, q2⟩ := isT I (sb.sqT h2); exact eqAt_step_tups I sb hu hf hs (sb.sqT h1) (sb.sqT h2) q1 q2 w1 w2 r1 r2 h
    | lst h2 z2 r2 => cases ru; obtain ⟨its2, w2, q2⟩ := isL I (.inl (.inl (sb.lst h2))); cases h; exact EqAt.tuple_list q1 q2 hu
    | frl h2 z2 r2 => cases ru; obtain ⟨its2, w2, q2⟩ := isL I (sb.sqL h2); cases h; exact EqAt.tuple_list q1 q2 hu
    | dct h2 _ r2 => cases h
    | dcT h2 _ r2 => cases h
    | ins h2 r2 => cases h
    | ty m => cases h
    | al m => cases h
    | exc0 mx => cases h
    | exc1 mx my mz => cases h
  | lst h1 z1 r1 =>
    cases rv; obtain ⟨its1, w1, q1⟩ := isL I (.inl (.inl (sb.lst h1)))
    cases ry with
    | non => cases ru; cases h; exact EqAt.list_none q1 hu
    | bl b => cases ru; cases h; exact EqAt.list_bool b q1 hu
    | int j => obtain ⟨t2, rfl⟩ := ru; cases h; exact EqAt.list_int j t2 q1 hu
    | str y zy => obtain ⟨t2, rfl⟩ := ru; cases h; exact EqAt.list_str y t2 q1 hu
    | tup h2 z2 r2 => cases ru; obtain ⟨its2, w2, q2⟩ := isT I (sb.sqT h2); cases h; exact EqAt.list_tuple q1 q2 hu
    | lst h2 z2 r2 => cases ru; obtain ⟨its2, w2, q2⟩ := isL I (.inl (.inl (sb.lst h2))); exact eqAt_step_lists I sb hu hf hs (.inl (.inl (sb.lst h1))) (.inl (.inl (sb.lst h2))) q1 q2 w1 w2 r1 r2 h
    | frl h2 z2 r2 => cases ru; obtain ⟨its2, w2, q2⟩ := isL I (sb.sqL h2); exact eqAt_step_lists I sb hu hf hs (.inl (.inl (sb.lst h1))) (sb.sqL h2) q1 q2 w1 w2 r1 r2 h
    | dct h2 _ r2 => cases h
    | dcT h2 _ r2 => cases h
    | ins h2 r2 => cases h
    | ty m => cases h
    | al m => cases h
    | exc0 mx => cases h
    | exc1 mx my mz => cases h
  | frl h1 z1 r1 =>
    cases rv; obtain ⟨its1, w1, q1⟩ := isL I (sb.sqL h1)
    cases ry with
    | non => cases ru; cases h; exact EqAt.list_none q1 hu
    | bl b => cases ru; cases h; exact EqAt.list_bool b q1 hu
    | int j => obtain ⟨t2, rfl⟩ := ru; cases h; exact EqAt.list_int j t2 q1 hu
    | str y zy => obtain ⟨t2, rfl⟩ := ru; cases h; exact EqAt.list_str y t2 q1 hu
    | tup h2 z2 r2 => cases ru; obtain ⟨its2, w2, q2⟩ := isT I (sb.sqT h2); cases h; exact EqAt.list_tuple q1 q2 hu
    | lst h2 z2 r2 => cases ru; obtain ⟨its2, w2, q2⟩ := isL I (.inl (.inl (sb.lst h2))); exact eqAt_step_lists I sb hu hf hs (sb.sqL h1) (.inl (.inl (sb.lst h2))) q1 q2 w1 w2 r1 r2 h
    | frl h2 z2 r2 => cases ru; obtain ⟨its2, w2, q2⟩ := isL I (sb.sqL h2); exact eqAt_step_lists I sb hu hf hs (sb.sqL h1) (sb.sqL h2) q1 q2 w1 w2 r1 r2 h
    | dct h2 _ r2 => cases h
    | dcT h2 _ r2 => cases h
    | ins h2 r2 => cases h
    | ty m => cases h
    | al m => cases h
    | exc0 mx => cases h
    | exc1 mx my mz => cases h
  | dct h1 _ r1 => cases ry <;> cases h
  | dcT h1 _ r1 => cases ry <;> cases h
  | ins h1 r1 => cases ry <;> cases h
  | ty n => cases ry <;> cases h
  | al n => cases ry <;> cases h
  | exc0 nx => cases ry <;> cases h
  | exc1 nx ny nz => cases ry <;> cases h
theorem rcAt_step_lists (I : Inv X pins σ H s) (sb : Sb F H) {A : Around} (hu : A.units < cLine) {f : D → D → Option Bool} (hf : ∀ x y d e b v u, Rep X.K F x d → Rep X.K F y e → RelV x v → RelV y u → f d e = some b → EqAt A.in1 s v u b) {a a' : Addr} {xs ys : List V} {ds es : List D} {its1 its2 : List Value} {b0 : Bool}
    (h1 : SqL X.K H a xs) (h2 : SqL X.K H a' ys) (q1 : s.heap.IsList a its1.toArray) (q2 : s.heap.IsList a' its2.toArray) (w1 : Vals xs its1) (w2 : Vals ys its2) (r1 : RepL X.K F xs ds) (r2 : RepL X.K F ys es) (h : (if ds.length == es.length then deqL f ds es else some false) = some b0) : RcAt A s (.ref a) (.ref a') b0 := by
  have l1 : its1.length = ds.length := by rw [← w1.length, r1.length]
  have l2 : its2.length = es.length := by rw [← w2.length, r2.length]
  by_cases le : ds.length = es.length
  · rw [if_pos (by rw [le]; exact beq_self_eq_true _)] at h
    obtain ⟨g, hg, rfl⟩ := pairs_at hf r1 r2 w1 w2 h
    have hsz : its1.toArray.size = its2.toArray.size := by rw [List.size_toArray, List.size_toArray]; omega
    rw [← hsz, Nat.min_self]
    exact RcAt.lists q1 q2 hsz hu hg
  · rw [if_neg (by simpa using le)] at h
    cases h
    exact RcAt.lists_lengths q1 q2 (by simp only [bne_iff_ne, List.size_toArray]; omega) hu
theorem rcAt_step_tups (I : Inv X pins σ H s) (sb : Sb F H) {A : Around} (hu : A.units < cLine) {f : D → D → Option Bool} (hf : ∀ x y d e b v u, Rep X.K F x d → Rep X.K F y e → RelV x v → RelV y u → f d e = some b → EqAt A.in1 s v u b) {a a' : Addr} {xs ys : List V} {ds es : List D} {its1 its2 : List Value} {b0 : Bool}
    (h1 : SqT X.K H a xs) (h2 : SqT X.K H a' ys) (q1 : s.heap.IsTuple a its1.toArray) (q2 : s.heap.IsTuple a' its2.toArray) (w1 : Vals xs its1) (w2 : Vals ys its2) (r1 : RepL X.K F xs ds) (r2 : RepL X.K F ys es) (h : (deqL f ds es).map (· && (ds.length == es.length)) = some b0) : RcAt A s (.ref a) (.ref a') b0 := by
  have l1 : its1.length = ds.length := by rw [← w1.length, r1.length]
  have l2 : its2.length = es.length := by rw [← w2.length, r2.length]
  cases hq : deqL f ds es with
  | none => rw [hq] at h; cases h
  | some c =>
  rw [hq] at h
  cases h
  obtain ⟨g, hg, rfl⟩ := pairs_at hf r1 r2 w1 w2 hq
  have e : (ds.length == es.length) = (its1.toArray.size == its2.toArray.size) := by rw [List.size_toArray, List.size_toArray, l1, l2]
  rw [e]
  exact RcAt.tuples q1 q2 hu hg
theorem rcAt_step (I : Inv X pins σ H s) (sb : Sb F H) {A : Around} (hu : A.units < cLine) {f : D → D → Option Bool} (hf : ∀ x y d e b v u, Rep X.K F x d → Rep X.K F y e → RelV x v → RelV y u → f d e = some b → EqAt A.in1 s v u b) {x0 y0 : V} {d e : D} {b0 : Bool} {v u : Value}
    (rx : Rep X.K F x0 d) (ry : Rep X.K F y0 e) (rv : RelV x0 v) (ru : RelV y0 u) (h : deqF f d e = some b0) : RcAt A s v u b0 := by
  cases rx with
  | non =>
    cases rv
    cases ry with
    | non => cases ru; cases h; exact RcAt.none_none
    | bl b => cases ru; cases h; exact RcAt.none_bool b
    | int j => obtain ⟨t2, rfl⟩ := ru; cases h; exact RcAt.none_int j t2
    | str y zy => obtain ⟨t2, rfl⟩ := ru; cases h; exact RcAt.none_str y t2
    | tup h2 z2 r2 => cases ru; obtain ⟨its2, w2, q2⟩ := isT I (sb.sqT h2); cases h; exact RcAt.none_tuple q2 hu
    | lst h2 z2 r2 => cases ru; obtain ⟨its2, w2, q2⟩ := isL I (.inl (.inl (sb.lst h2))); cases h; exact RcAt.none_list q2 hu
    | frl h2 z2 r2 => cases ru; obtain ⟨its2, w2, q2⟩ := isL I (sb.sqL h2); cases h; exact RcAt.none_list q2 hu
    | dct h2 _ r2 => cases h
    | dcT h2 _ r2 => cases h
    | ins h2 r2 => cases h
    | ty m => cases h
    | al m => cases h
    | exc0 mx => cases h
    | exc1 mx my mz => cases h
  | bl a =>
    cases rv
    cases ry with
    | non => cases ru; cases h; exact RcAt.bool_none a
    | bl b => cases ru; cases h; exact RcAt.bool_bool a b
    | int j => obtain ⟨t2, rfl⟩ := ru; cases h; exact RcAt.bool_int a j t2
    | str y zy => obtain ⟨t2, rfl⟩ := ru; cases h; exact RcAt.bool_str a y t2
    | tup h2 z2 r2 => cases ru; obtain ⟨its2, w2, q2⟩ := isT I (sb.sqT h2); cases h; exact RcAt.bool_tuple a q2 hu
    | lst h2 z2 r2 => cases ru; obtain ⟨its2, w2, q2⟩ := isL I (.inl (.inl (sb.lst h2))); cases h; exact RcAt.bool_list a q2 hu
    | frl h2 z2 r2 => cases ru; obtain ⟨its2, w2, q2⟩ := isL I (sb.sqL h2); cases h; exact RcAt.bool_list a q2 hu
    | dct h2 _ r2 => cases h
    | dcT h2 _ r2 => cases h
    | ins h2 r2 => cases h
    | ty m => cases h
    | al m => cases h
    | exc0 mx => cases h
    | exc1 mx my mz => cases h
  | int i =>
    obtain ⟨t1, rfl⟩ := rv
    cases ry with
    | non => cases ru; cases h; exact RcAt.int_none i t1
    | bl b => cases ru; cases h; exact RcAt.int_bool i t1 b
    | int j => obtain ⟨t2, rfl⟩ := ru; cases h; exact RcAt.int_int i t1 j t2
    | str y zy => obtain ⟨t2, rfl⟩ := ru; cases h; exact RcAt.int_str i t1 y t2
    | tup h2 z2 r2 => cases ru; obtain ⟨its2, w2, q2⟩ := isT I (sb.sqT h2); cases h; exact RcAt.int_tuple i t1 q2 hu
    | lst h2 z2 r2 => cases ru; obtain ⟨its2, w2, q2⟩ := isL I (.inl (.inl (sb.lst h2))); cases h; exact RcAt.int_list i t1 q2 hu
    | frl h2 z2 r2 => cases ru; obtain ⟨its2, w2, q2⟩ := isL I (sb.sqL h2); cases h; exact RcAt.int_list i t1 q2 hu
    | dct h2 _ r2 => cases h
    | dcT h2 _ r2 => cases h
    | ins h2 r2 => cases h
    | ty m => cases h
    | al m => cases h
    | exc0 mx => cases h
    | exc1 mx my mz => cases h
  | str x zx =>
    obtain ⟨t1, rfl⟩ := rv
    cases ry with
    | non => cases ru; cases h; exact RcAt.str_none x t1
    | bl b => cases ru; cases h; exact RcAt.str_bool x t1 b
    | int j => obtain ⟨t2, rfl⟩ := ru; cases h; exact RcAt.str_int x t1 j t2
    | str y zy => obtain ⟨t2, rfl⟩ := ru; cases h; exact RcAt.str_str x t1 y t2
    | tup h2 z2 r2 => cases ru; obtain ⟨its2, w2, q2⟩ := isT I (sb.sqT h2); cases h; exact RcAt.str_tuple x t1 q2 hu
    | lst h2 z2 r2 => cases ru; obtain ⟨its2, w2, q2⟩ := isL I (.inl (.inl (sb.lst h2))); cases h; exact RcAt.str_list x t1 q2 hu
    | frl h2 z2 r2 => cases ru; obtain ⟨its2, w2, q2⟩ := isL I (sb.sqL h2); cases h; exact RcAt.str_list x t1 q2 hu
    | dct h2 _ r2 => cases h
    | dcT h2 _ r2 => cases h
    | ins h2 r2 => cases h
    | ty m => cases h
    | al m => cases h
    | exc0 mx => cases h
    | exc1 mx my mz => cases h
  | tup h1 z1 r1 =>
    cases rv; obtain ⟨its1, w1, q1⟩ := isT I (sb.sqT h1)
    cases ry with
    | non => cases ru; cases h; exact RcAt.tuple_none q1 hu
    | bl b => cases ru; cases h; exact RcAt.tuple_bool b q1 hu
    | int j => obtain ⟨t2, rfl⟩ := ru; cases h; exact RcAt.tuple_int j t2 q1 hu
    | str y zy => obtain ⟨t2, rfl⟩ := ru; cases h; exact RcAt.tuple_str y t2 q1 hu
    | tup h2 z2 r2 => cases ru; obtain ⟨its2, w2, q2⟩ := isT I (sb.sqT h2); exact rcAt_step_tups I sb hu hf (sb.sqT h1) (sb.sqT h2) q1 q2 w1 w2 r1 r2 h
    | lst h2 z2 r2 => cases ru; obtain ⟨its2, w2, q2⟩ := isL I (.inl (.inl (sb.lst h2))); cases h; exact RcAt.tuple_list q1 q2 hu
    | frl h2 z2 r2 => cases ru; obtain ⟨its2, w2, q2⟩ := isL I (sb.sqL h2); cases h; exact RcAt.tuple_list q1 q2 hu
    | dct h2 _ r2 => cases h
    | dcT h2 _ r2 => cases h
    | ins h2 r2 => cases h
    | ty m => cases h
    | al m => cases h
    | exc0 mx => cases h
    | exc1 mx my mz => cases h
  | lst h1 z1 r1 =>
    cases rv; obtain ⟨its1, w1, q1⟩ := isL I (.inl (.inl (sb.lst h1)))
    cases ry with
    | non => cases ru; cases h; exact RcAt.list_none q1 hu
    | bl b => cases ru; cases h; exact RcAt.list_bool b q1 hu
    | int j => obtain ⟨t2, rfl⟩ := ru; cases h; exact RcAt.list_int j t2 q1 hu
    | str y zy => obtain ⟨t2, rfl⟩ := ru; cases h; exact RcAt.list_str y t2 q1 hu
    | tup h2 z2 r2 => cases ru; obtain ⟨its2, w2, q2⟩ := isT I (sb.sqT h2); cases h; exact RcAt.list_tuple q1 q2 hu
    | lst h2 z2 r2 => cases ru; obtain ⟨its2, w2, q2⟩ := isL I (.inl (.inl (sb.lst h2))); exact rcAt_step_lists I sb hu hf (.inl (.inl (sb.lst h1))) (.inl (.inl (sb.lst h2))) q1 q2 w1 w2 r1 r2 h
    | frl h2 z2 r2 => cases ru; obtain ⟨its2, w2, q2⟩ := isL I (sb.sqL h2); exact rcAt_step_lists I sb hu hf (.inl (.inl (sb.lst h1))) (sb.sqL h2) q1 q2 w1 w2 r1 r2 h
    | dct h2 _ r2 => cases h
    | dcT h2 _ r2 => cases h
    | ins h2 r2 => cases h
    | ty m => cases h
    | al m => cases h
    | exc0 mx => cases h
    | exc1 mx my mz => cases h
  | frl h1 z1 r1 =>
    cases rv; obtain ⟨its1, w1, q1⟩ := isL I (sb.sqL h1)
    cases ry with
    | non => cases ru; cases h; exact RcAt.list_none q1 hu
    | bl b => cases ru; cases h; exact RcAt.list_bool b q1 hu
    | int j => obtain ⟨t2, rfl⟩ := ru; cases h; exact RcAt.list_int j t2 q1 hu
    | str y zy => obtain ⟨t2, rfl⟩ := ru; cases h; exact RcAt.list_str y t2 q1 hu
    | tup h2 z2 r2 => cases ru; obtain ⟨its2, w2, q2⟩ := isT I (sb.sqT h2); cases h; exact RcAt.list_tuple q1 q2 hu
    | lst h2 z2 r2 => cases ru; obtain ⟨its2, w2, q2⟩ := isL I (.inl (.inl (sb.lst h2))); exact rcAt_step_lists I sb hu hf (sb.sqL h1) (.inl (.inl (sb.lst h2))) q1 q2 w1 w2 r1 r2 h
    | frl h2 z2 r2 => cases ru; obtain ⟨its2, w2, q2⟩ := isL I (sb.sqL h2); exact rcAt_step_lists I sb hu hf (sb.sqL h1) (sb.sqL h2) q1 q2 w1 w2 r1 r2 h
    | dct h2 _ r2 => cases h
    | dcT h2 _ r2 => cases h
    | ins h2 r2 => cases h
    | ty m => cases h
    | al m => cases h
    | exc0 mx => cases h
    | exc1 mx my mz => cases h
  | dct h1 _ r1 => cases ry <;> cases h
  | dcT h1 _ r1 => cases ry <;> cases h
  | ins h1 r1 => cases ry <;> cases h
  | ty n => cases ry <;> cases h
  | al n => cases ry <;> cases h
  | exc0 nx => cases ry <;> cases h
  | exc1 nx ny nz => cases ry <;> cases h
theorem rcNeAt_step_lists (I : Inv X pins σ H s) (sb : Sb F H) {A : Around} (hu : A.units < cLine) {f : D → D → Option Bool} (hf : ∀ x y d e b v u, Rep X.K F x d → Rep X.K F y e → RelV x v → RelV y u → f d e = some b → EqAt A.in1 s v u b) {a a' : Addr} {xs ys : List V} {ds es : List D} {its1 its2 : List Value} {b0 : Bool}
    (h1 : SqL X.K H a xs) (h2 : SqL X.K H a' ys) (q1 : s.heap.IsList a its1.toArray) (q2 : s.heap.IsList a' its2.toArray) (w1 : Vals xs its1) (w2 : Vals ys its2) (r1 : RepL X.K F xs ds) (r2 : RepL X.K F ys es) (h : (if ds.length == es.length then deqL f ds es else some false) = some b0) : RcNeAt A s (.ref a) (.ref a') (!b0) := by
  have l1 : its1.length = ds.length := by rw [← w1.length, r1.length]
  have l2 : its2.length = es.length := by rw [← w2.length, r2.length]
  by_cases le : ds.length = es.length
  · rw [if_pos (by rw [le]; exact beq_self_eq_true _)] at h
    obtain ⟨g, hg, rfl⟩ := pairs_at hf r1 r2 w1 w2 h
    have hsz : its1.toArray.size = its2.toArray.size := by rw [List.size_toArray, List.size_toArray]; omega
    rw [← hsz, Nat.min_self]
    exact RcNeAt.lists q1 q2 hsz hu hg
  · rw [if_neg (by simpa using le)] at h
    cases h
    exact RcNeAt.lists_lengths q1 q2 (by simp only [bne_iff_ne, List.size_toArray]; omega) hu
theorem rcNeAt_step_tups (I : Inv X pins σ H s) (sb : Sb F H) {A : Around} (hu : A.units < cLine) {f : D → D → Option Bool} (hf : ∀ x y d e b v u, Rep X.K F x d → Rep X.K F y e → RelV x v → RelV y u → f d e = some b → EqAt A.in1 s v u b) {a a' : Addr} {xs ys : List V} {ds es : List D} {its1 its2 : List Value} {b0 : Bool}
    (h1 : SqT X.K H a xs) (h2 : SqT X.K H a' ys) (q1 : s.heap.IsTuple a its1.toArray) (q2 : s.heap.IsTuple a' its2.toArray) (w1 : Vals xs its1) (w2 : Vals ys its2) (r1 : RepL X.K F xs ds) (r2 : RepL X.K F ys es) (h : (deqL f ds es).map (· && (ds.length == es.length)) = some b0) : RcNeAt A s (.ref a) (.ref a') (!b0) := by
  have l1 : its1.length = ds.length := by rw [← w1.length, r1.length]
  have l2 : its2.length = es.length := by rw [← w2.length, r2.length]
  cases hq : deqL f ds es with
  | none => rw [hq] at h; cases h
  | some c =>
  rw [hq] at h
  cases h
  obtain ⟨g, hg, rfl⟩ := pairs_at hf r1 r2 w1 w2 hq
  have e : (ds.length == es.length) = (its1.toArray.size == its2.toArray.size) := by rw [List.size_toArray, List.size_toArray, l1, l2]
  rw [e]
  exact RcNeAt.tuples q1 q2 hu hg
theorem rcNeAt_step (I : Inv X pins σ H s) (sb : Sb F H) {A : Around} (hu : A.units < cLine) {f : D → D → Option Bool} (hf : ∀ x y d e b v u, Rep X.K F x d → Rep X.K F y e → RelV x v → RelV y u → f d e = some b → EqAt A.in1 s v u b) {x0 y0 : V} {d e : D} {b0 : Bool} {v u : Value}
    (rx : Rep X.K F x0 d) (ry : Rep X.K F y0 e) (rv : RelV x0 v) (ru : RelV y0 u) (h : deqF f d e = some b0) : RcNeAt A s v u (!b0) := by
  cases rx with
  | non =>
    cases rv
    cases ry with
    | non => cases ru; cases h; exact RcNeAt.none_none
    | bl b => cases ru; cases h; exact RcNeAt.none_bool b
    | int j => obtain ⟨t2, rfl⟩ := ru; cases h; exact RcNeAt.none_int j t2
    | str y zy => obtain ⟨t2, rfl⟩ := ru; cases h; exact RcNeAt.none_str y t2
    | tup h2 z2 r2 => cases ru; obtain ⟨its2, w2, q2⟩ := isT I (sb.sqT h2); cases h; exact RcNeAt.none_tuple q2 hu
    | lst h2 z2 r2 => cases ru; obtain ⟨its2, w2, q2⟩ := isL I (.inl (.inl (sb.lst h2))); cases h; exact RcNeAt.none_list q2 hu
    | frl h2 z2 r2 => cases ru; obtain ⟨its2, w2, q2⟩ := isL I (sb.sqL h2); cases h; exact RcNeAt.none_list q2 hu
    | dct h2 _ r2 => cases h
    | dcT h2 _ r2 => cases h
    | ins h2 r2 => cases h
    | ty m => cases h
    | al m => cases h
    | exc0 mx => cases h
    | exc1 mx my mz => cases h
  | bl a =>
    cases rv
    cases ry with
    | non => cases ru; cases h; exact RcNeAt.bool_none a
    | bl b => cases ru; cases h; exact RcNeAt.bool_bool a b
    | int j => obtain ⟨t2, rfl⟩ := ru; cases h; exact RcNeAt.bool_int a j t2
    | str y zy => obtain ⟨t2, rfl⟩ := ru; cases h; exact RcNeAt.bool_str a y t2
    | tup h2 z2 r2 => cases ru; obtain ⟨its2, w2, q2⟩ := isT I (sb.sqT h2); cases h; exact RcNeAt.bool_tuple a q2 hu
    | lst h2 z2 r2 => cases ru; obtain ⟨its2, w2, q2⟩ := isL I (.inl (.inl (sb.lst h2))); cases h; exact RcNeAt.bool_list a q2 hu
    | frl h2 z2 r2 => cases ru; obtain ⟨its2, w2, q2⟩ := isL I (sb.sqL h2); cases h; exact RcNeAt.bool_list a q2 hu
    | dct h2 _ r2 => cases h
    | dcT h2 _ r2 => cases h
    | ins h2 r2 => cases h
    | ty m => cases h
    | al m => cases h
    | exc0 mx => cases h
    | exc1 mx my mz => cases h
  | int i =>
    obtain ⟨t1, rfl⟩ := rv
    cases ry with
    | non => cases ru; cases h; exact RcNeAt.int_none i t1
    | bl b => cases ru; cases h; exact RcNeAt.int_bool i t1 b
    | int j => obtain ⟨t2, rfl⟩ := ru; cases h; exact RcNeAt.int_int i t1 j t2
    | str y zy => obtain ⟨t2, rfl⟩ := ru; cases h; exact RcNeAt.int_str i t1 y t2
    | tup h2 z2 r2 => cases ru; obtain ⟨its2, w2, q2⟩ := isT I (sb.sqT h2); cases h; exact RcNeAt.int_tuple i t1 q2 hu
    | lst h2 z2 r2 => cases ru; obtain ⟨its2, w2, q2⟩ := isL I (.inl (.inl (sb.lst h2))); cases h; exact RcNeAt.int_list i t1 q2 hu
    | frl h2 z2 r2 => cases ru; obtain ⟨its2, w2, q2⟩ := isL I (sb.sqL h2); cases h; exact RcNeAt.int_list i t1 q2 hu
    | dct h2 _ r2 => cases h
    | dcT h2 _ r2 => cases h
    | ins h2 r2 => cases h
    | ty m => cases h
    | al m => cases h
    | exc0 mx => cases h
    | exc1 mx my mz => cases h
  | str x zx =>
    obtain ⟨t1, rfl⟩ := rv
    cases ry with
    | non => cases ru; cases h; exact RcNeAt.str_none x t1
    | bl b => cases ru; cases h; exact RcNeAt.str_bool x t1 b
    | int j => obtain ⟨t2, rfl⟩ := ru; cases h; exact RcNeAt.str_int x t1 j t2
    | str y zy => obtain ⟨t2, rfl⟩ := ru; cases h; exact RcNeAt.str_str x t1 y t2
    | tup h2 z2 r2 => cases ru; obtain ⟨its2, w2, q2⟩ := isT I (sb.sqT h2); cases h; exact RcNeAt.str_tuple x t1 q2 hu
    | lst h2 z2 r2 => cases ru; obtain ⟨its2, w2, q2⟩ := isL I (.inl (.inl (sb.lst h2))); cases h; exact RcNeAt.str_list x t1 q2 hu
    | frl h2 z2 r2 => cases ru; obtain ⟨its2, w2, q2⟩ := isL I (sb.sqL h2); cases h; exact RcNeAt.str_list x t1 q2 hu
    | dct h2 _ r2 => cases h
    | dcT h2 _ r2 => cases h
    | ins h2 r2 => cases h
    | ty m => cases h
    | al m => cases h
    | exc0 mx => cases h
    | exc1 mx my mz => cases h
  | tup h1 z1 r1 =>
    cases rv; obtain ⟨its1, w1, q1⟩ := isT I (sb.sqT h1)
    cases ry with
    | non => cases ru; cases h; exact RcNeAt.tuple_none q1 hu
    | bl b => cases ru; cases h; exact RcNeAt.tuple_bool b q1 hu
    | int j => obtain ⟨t2, rfl⟩ := ru; cases h; exact RcNeAt.tuple_int j t2 q1 hu
    | str y zy => obtain ⟨t2, rfl⟩ := ru; cases h; exact RcNeAt.tuple_str y t2 q1 hu
    | tup h2 z2 r2 => cases ru; obtain ⟨its2, w2, q2⟩ := isT I (sb.sqT h2); exact rcNeAt_step_tups I sb hu hf (sb.sqT h1) (sb.sqT h2) q1 q2 w1 w2 r1 r2 h
    | lst h2 z2 r2 => cases ru; obtain ⟨its2, w2, q2⟩ := isL I (.inl (.inl (sb.lst h2))); cases h; exact RcNeAt.tuple_list q1 q2 hu
    | frl h2 z2 r2 => cases ru; obtain ⟨its2, w2, q2⟩ := isL I (sb.sqL h2); cases h; exact RcNeAt.tuple_list q1 q2 hu
    | dct h2 _ r2 => cases h
    | dcT h2 _ r2 => cases h
    | ins h2 r2 => cases h
    | ty m => cases h
    | al m => cases h
    | exc0 mx => cases h
    | exc1 mx my mz => cases h
  | lst h1 z1 r1 =>
    cases rv; obtain ⟨its1, w1, q1⟩ := isL I (.inl (.inl (sb.lst h1)))
    cases ry with
    | non => cases ru; cases h; exact RcNeAt.list_none q1 hu
    | bl b => cases ru; cases h; exact RcNeAt.list_bool b q1 hu
    | int j => obtain ⟨t2, rfl⟩ := ru; cases h; exact RcNeAt.list_int j t2 q1 hu
    | str y zy => obtain ⟨t2, rfl⟩ := ru; cases h; exact RcNeAt.list_str y t2 q1 hu
    | tup h2 z2 r2 => cases ru; obtain ⟨its2, w2, q2⟩ := isT I (sb.sqT h2); cases h; exact RcNeAt.list_tuple q1 q2 hu
    | lst h2 z2 r2 => cases ru; obtain ⟨its2, w2, q2⟩ := isL I (.inl (.inl (sb.lst h2))); exact rcNeAt_step_lists I sb hu hf (.inl (.inl (sb.lst h1))) (.inl (.inl (sb.lst h2))) q1 q2 w1 w2 r1 r2 h
    | frl h2 z2 r2 => cases ru; obtain ⟨its2, w2, q2⟩ := isL I (sb.sqL h2); exact rcNeAt_step_lists I sb hu hf (.inl (.inl (sb.lst h1))) (sb.sqL h2) q1 q2 w1 w2 r1 r2 h
    | dct h2 _ r2 => cases h
    | dcT h2 _ r2 => cases h
    | ins h2 r2 => cases h
    | ty m => cases h
    | al m => cases h
    | exc0 mx => cases h
    | exc1 mx my mz => cases h
  | frl h1 z1 r1 =>
    cases rv; obtain ⟨its1, w1, q1⟩ := isL I (sb.sqL h1)
    cases ry with
    | non => cases ru; cases h; exact RcNeAt.list_none q1 hu
    | bl b => cases ru; cases h; exact RcNeAt.list_bool b q1 hu
    | int j => obtain ⟨t2, rfl⟩ := ru; cases h; exact RcNeAt.list_int j t2 q1 hu
    | str y zy => obtain ⟨t2, rfl⟩ := ru; cases h; exact RcNeAt.list_str y t2 q1 hu
    | tup h2 z2 r2 => cases ru; obtain ⟨its2, w2, q2⟩ := isT I (sb.sqT h2); cases h; exact RcNeAt.list_tuple q1 q2 hu
    | lst h2 z2 r2 => cases ru; obtain ⟨its2, w2, q2⟩ := isL I (.inl (.inl (sb.lst h2))); exact rcNeAt_step_lists I sb hu hf (sb.sqL h1) (.inl (.inl (sb.lst h2))) q1 q2 w1 w2 r1 r2 h
    | frl h2 z2 r2 => cases ru; obtain ⟨its2, w2, q2⟩ := isL I (sb.sqL h2); exact rcNeAt_step_lists I sb hu hf (sb.sqL h1) (sb.sqL h2) q1 q2 w1 w2 r1 r2 h
    | dct h2 _ r2 => cases h
    | dcT h2 _ r2 => cases h
    | ins h2 r2 => cases h
    | ty m => cases h
    | al m => cases h
    | exc0 mx => cases h
    | exc1 mx my mz => cases h
  | dct h1 _ r1 => cases ry <;> cases h
  | dcT h1 _ r1 => cases ry <;> cases h
  | ins h1 r1 => cases ry <;> cases h
  | ty n => cases ry <;> cases h
  | al n => cases ry <;> cases h
  | exc0 nx => cases ry <;> cases h
  | exc1 nx ny nz => cases ry <;> cases h
theorem deqF_same (I : Inv X pins σ H s) (sb : Sb F H) {f : D → D → Option Bool} (hs : ∀ x d e b, Rep X.K F x d → Rep X.K F x e → f d e = some b → b = true) {x : V} {d e : D} {b : Bool} (r1 : Rep X.K F x d) (r2 : Rep X.K F x e) (h : deqF f d e = some b) : b = true := by
  have seqs : ∀ {xs : List V} {ds es : List D} {c : Bool}, RepL X.K F xs ds → RepL X.K F xs es → deqL f ds es = some c → c = true := fun {xs ds es c} p q hq => by
    obtain ⟨g, hg, rfl⟩ := deqL_at hq
    exact List.all_eq_true.mpr fun j hj => by
      have hj := List.mem_range.mp hj
      obtain ⟨x, hx, px⟩ := p.get' (List.getElem?_eq_getElem (show j < xs.length by rw [p.length]; omega))
      obtain ⟨y, hy, py⟩ := q.get' (List.getElem?_eq_getElem (show j < xs.length by rw [p.length]; omega))
      exact hs _ _ _ _ px py (hg j x y hx hy)
  have lst : ∀ {a : Addr} {xs ys : List V} {ds es : List D} {c : Bool}, SqL X.K H a xs → SqL X.K H a ys → RepL X.K F xs ds → RepL X.K F ys es → (if ds.length == es.length then deqL f ds es else some false) = some c → c = true := fun {a xs ys ds es c} p q r t hq => by
    have e := I.list_inj p q
    subst e
    have le : ds.length = es.length := by rw [← r.length, ← t.length]
    rw [if_pos (by rw [le]; exact beq_self_eq_true _)] at hq
    exact seqs r t hq
  cases r1 with
  | non => cases r2; cases h; rfl
  | bl a => cases r2; cases h; exact beq_self_eq_true _
  | int a => cases r2; cases h; exact beq_self_eq_true _
  | str a z => cases r2; cases h; exact beq_self_eq_true _
  | ty n => cases r2; cases h
  | al n => cases r2 <;> cases h
  | exc0 nx => cases r2 <;> cases h
  | exc1 nx ny nz => cases r2 <;> cases h
  | dct h1 _ r => cases r2 <;> cases h
  | dcT h1 _ r => cases r2 <;> cases h
  | ins h1 r => cases r2 <;> cases h
  | lst h1 z r => cases r2 with
    | lst h2 z2 t => exact lst (.inl (.inl (sb.lst h1))) (.inl (.inl (sb.lst h2))) r t h
    | frl h2 z2 t => exact lst (.inl (.inl (sb.lst h1))) (sb.sqL h2) r t h
    | tup h2 z2 t =>
      obtain ⟨i1, _, q1⟩ := isL I (.inl (.inl (sb.lst h1)))
      obtain ⟨i2, _, q2⟩ := isT I (sb.sqT h2)
      exact absurd rfl (ne_of_list_tuple q1 q2)
    | _ => cases h
  | frl h1 z r => cases r2 with
    | lst h2 z2 t => exact lst (sb.sqL h1) (.inl (.inl (sb.lst h2))) r t h
    | frl h2 z2 t => exact lst (sb.sqL h1) (sb.sqL h2) r t h
    | tup h2 z2 t =>
      obtain ⟨i1, _, q1⟩ := isL I (sb.sqL h1)
      obtain ⟨i2, _, q2⟩ := isT I (sb.sqT h2)
      exact absurd rfl (ne_of_list_tuple q1 q2)
    | _ => cases h
  | tup h1 z r => cases r2 with
    | lst h2 z2 t =>
      obtain ⟨i1, _, q1⟩ := isL I (.inl (.inl (sb.lst h2)))
      obtain ⟨i2, _, q2⟩ := isT I (sb.sqT h1)
      exact absurd rfl (ne_of_list_tuple q1 q2)
    | frl h2 z2 t =>
      obtain ⟨i1, _, q1⟩ := isL I (sb.sqL h2)
      obtain ⟨i2, _, q2⟩ := isT I (sb.sqT h1)
      exact absurd rfl (ne_of_list_tuple q1 q2)
    | tup h2 z2 t =>
      have e := I.tuple_inj (sb.sqT h1) (sb.sqT h2)
      subst e
      have h : (deqL f _ _).map (· && (_ == _)) = some b := h
      cases hq : deqL f _ _ with
      | none => rw [hq] at h; cases h
      | some c =>
        rw [hq] at h
        cases h
        rw [seqs r t hq, show List.length _ = List.length _ from r.length.symm.trans t.length, beq_self_eq_true]
        rfl
    | _ => cases h
theorem deq_same (I : Inv X pins σ H s) (sb : Sb F H) : ∀ (n : Nat) (x : V) (d e : D) (b : Bool), Rep X.K F x d → Rep X.K F x e → deq n d e = some b → b = true
  | 0, x, d, e, b, r1, r2, h => deqF_same I sb (fun _ _ _ _ _ _ h => (by cases h)) r1 r2 h
  | n + 1, x, d, e, b, r1, r2, h => deqF_same I sb (fun x d e b => deq_same I sb n x d e b) r1 r2 h
theorem deq_eqAt (I : Inv X pins σ H s) (sb : Sb F H) : ∀ (n : Nat) (A : Around), A.units + n < cLine → ∀ (x y : V) (d e : D) (b : Bool) (v u : Value), Rep X.K F x d → Rep X.K F y e → RelV x v → RelV y u → deq n d e = some b → EqAt A s v u b
  | 0, A, hu, x, y, d, e, b, v, u, r1, r2, p1, p2, h => eqAt_step I sb hu (fun _ _ _ _ _ _ _ _ _ _ _ h => (by cases h)) (fun _ _ _ _ _ _ h => (by cases h)) r1 r2 p1 p2 h
  | n + 1, A, hu, x, y, d, e, b, v, u, r1, r2, p1, p2, h => eqAt_step I sb (by omega) (deq_eqAt I sb n A.in1 (by show A.units + 1 + n < cLine; omega)) (fun x d e b => deq_same I sb n x d e b) r1 r2 p1 p2 h
def rEqX (K : PySem.W.Frag) : R2 := fun x y H Q => ∃ F d e b, Sb F H ∧ Rep K F x d ∧ Rep K F y e ∧ deq 60 d e = some b ∧ Q (.bl b) H
def rNeX (K : PySem.W.Frag) : R2 := fun x y H Q => ∃ F d e b, Sb F H ∧ Rep K F x d ∧ Rep K F y e ∧ deq 60 d e = some b ∧ Q (.bl (!b)) H
theorem op_eqX (hu : X.A.units + 64 < cLine) : OpR X (compareOp .Eq) (rEqX X.K) := by
  intro pins s σ H x y v u Q I rx ry h
  obtain ⟨F, d, e, b, sb, r1, r2, hq, q⟩ := h
  exact rcAt_step I sb (by omega) (deq_eqAt I sb 59 X.A.in1 (by show X.A.units + 1 + 59 < cLine; omega)) r1 r2 rx ry hq X.prog X.w _ _ ⟨.bl b, H, I, rfl, q⟩
theorem op_neX (hu : X.A.units + 64 < cLine) : OpR X (compareOp .NotEq) (rNeX X.K) := by
  intro pins s σ H x y v u Q I rx ry h
  obtain ⟨F, d, e, b, sb, r1, r2, hq, q⟩ := h
  exact rcNeAt_step I sb (by omega) (deq_eqAt I sb 59 X.A.in1 (by show X.A.units + 1 + 59 < cLine; omega)) r1 r2 rx ry hq X.prog X.w _ _ ⟨.bl (!b), H, I, rfl, q⟩
end

end Tr
/-! The tree layer: operations. -/
namespace Tr
open PySem PySem.Spec PyProof.Rows L2

/-! ### data as the library's data -/
mutual
def D.py : D → PyData
  | .non => .none
  | .bl b => .bool b
  | .int i => .int i
  | .str x => .str x
  | .tup ds => .tuple (D.pyL ds)
  | .lst ds => .list (D.pyL ds)
  | .frl ds => .list (D.pyL ds)
  | .dct _ => .none
  | .dcT _ => .none
  | .ins _ _ => .none
  | .ty _ => .none
  | .al _ => .none
  | .exc _ _ => .none
def D.pyL : List D → List PyData
  | [] => []
  | d :: ds => D.py d :: D.pyL ds
end
mutual
/-- made of None, truths, whole numbers, texts, lists and tuples alone -/
def D.plain : D → Bool
  | .tup ds => D.plainL ds
  | .lst ds => D.plainL ds
  | .frl ds => D.plainL ds
  | .dct _ => false
  | .dcT _ => false
  | .ins _ _ => false
  | .ty _ => false
  | .al _ => false
  | .exc _ _ => false
  | _ => true
def D.plainL : List D → Bool
  | [] => true
  | d :: ds => D.plain d && D.plainL ds
end
theorem D.pyL_map (ds : List D) : D.pyL ds = ds.map D.py := by
  induction ds with
  | nil => rfl
  | cons d r ih => show D.py d :: D.pyL r = _; rw [ih]; rfl
section
variable {K : PySem.W.Frag} {F H : Hp}
mutual
theorem Rep.dp (sb : Sb F H) : ∀ {v : V} {d : D}, Rep K F v d → d.plain = true → Dp K H v d.py
  | _, _, .non, _ => .non
  | _, _, .bl b, _ => .bl b
  | _, _, .int i, _ => .int i
  | _, _, .str x _, _ => .str x
  | _, _, .tup h _ r, p => .tup (sb.sqT h) (RepL.dp sb r p)
  | _, _, .lst h _ r, p => .lst (.inl (.inl (sb.lst h))) (RepL.dp sb r p)
  | _, _, .frl h _ r, p => .lst (sb.sqL h) (RepL.dp sb r p)
theorem RepL.dp (sb : Sb F H) : ∀ {v : List V} {d : List D}, RepL K F v d → D.plainL d = true → DpAll K H v (D.pyL d)
  | _, _, .nil, _ => .nil
  | _, d :: ds, .cons h r, p => .cons (Rep.dp sb h (by
      have p : (D.plain d && D.plainL ds) = true := p
      exact (Bool.and_eq_true _ _ ▸ p).1)) (RepL.dp sb r (by
      have p : (D.plain d && D.plainL ds) = true := p
      exact (Bool.and_eq_true _ _ ▸ p).2))
end
end
/-- it can be held against others -/
def D.eqs (d : D) : Prop := d.plain = true ∧ SeqAt.shaped d.py = true
/-- a flat thing as a value -/
def D.v : D → V
  | .non => .non
  | .bl b => .bl b
  | .int i => .int i
  | .str x => .str x
  | _ => .non
def D.flat : D → Bool
  | .non => true
  | .bl _ => true
  | .int _ => true
  | .str _ => true
  | _ => false
theorem Rep.flat {K : PySem.W.Frag} {F : Hp} {x : V} {d : D} (r : Rep K F x d) (h : d.flat = true) : x = d.v ∧ flatV x = true := by
  cases r <;> first
    | exact ⟨rfl, rfl⟩
    | exact absurd h Bool.false_ne_true
theorem RepL.flat {K : PySem.W.Frag} {F : Hp} : ∀ {xs : List V} {ds : List D}, RepL K F xs ds → ds.all D.flat = true → xs = ds.map D.v ∧ xs.all flatV = true
  | _, _, .nil, _ => ⟨rfl, rfl⟩
  | _, _, .cons h r, q => by
    rw [List.all_cons, Bool.and_eq_true] at q
    obtain ⟨e1, f1⟩ := h.flat q.1
    obtain ⟨e2, f2⟩ := RepL.flat r q.2
    exact ⟨by rw [e1, e2]; rfl, by rw [List.all_cons, f1, f2]; rfl⟩
theorem str_len_add (x y : Str) : (x ++ y).length = x.length + y.length := by
  show (x.cps ++ y.cps).size = _
  rw [Array.size_append]
  rfl

/-! ### arithmetic -/
section
variable {K : PySem.W.Frag} {X : Cx}
def semAdd (d e : D) (P : O → Prop) : Prop := match d, e with
  | .int i, .int j => P (.fz (.int (i + j)))
  | .str x, .str y => x.length + y.length ≤ sizeLine ∧ P (.fz (.str (x ++ y)))
  | .tup xs, .tup ys => xs.length + ys.length ≤ sizeLine ∧ P (.fz (.tup (xs ++ ys)))
  | .lst xs, .lst ys => xs.length + ys.length ≤ sizeLine ∧ ∀ a, P (.lst a ((xs ++ ys).map .fz))
  | _, _ => False
def rAddT (K : PySem.W.Frag) : R2 := fun x y H Q => (rI0 (fun i j => .int (i + j)) x y H Q ∨ ∃ i j, x = .str i ∧ y = .str j ∧ i.length + j.length ≤ sizeLine ∧ Q (.str (i ++ j)) H) ∨ rCatA K x y H Q ∨ rCat x y H Q
theorem op_addT : OpR X (binaryOp .Add) (rAddT X.K) := (op_add.or op_add_str).or (op_catA.or op_cat)
theorem sem_add : SemR K (rAddT K) semAdd := by
  intro F H x y d e P Q sb rx ry hs k
  unfold semAdd at hs
  split at hs
  · cases rx; cases ry
    exact .inl (.inl ⟨_, _, rfl, rfl, k _ _ _ _ hs (.fz (.int _))⟩)
  · cases rx; cases ry
    exact .inl (.inr ⟨_, _, rfl, rfl, hs.1, k _ _ _ _ hs.2 (.fz (.str _ (by rw [str_len_add]; exact hs.1)))⟩)
  · rename_i xs ys
    cases rx with
    | @tup a vs _ h1 z1 r1 =>
    cases ry with
    | @tup b ws _ h2 z2 r2 =>
    refine .inr (.inl ⟨_, _, vs, ws, rfl, rfl, sb.sqT h1, sb.sqT h2, by rw [r1.length, r2.length]; exact hs.1, fun e0 => ?_, fun _ e0 => ?_, fun _ _ p hp => ?_⟩)
    · subst e0
      cases r1
      exact k _ _ _ _ hs.2 (.fz (.tup h2 z2 r2))
    · subst e0
      cases r2
      refine k _ _ _ _ hs.2 (.fz ?_)
      rw [List.append_nil]
      exact .tup h1 z1 r1
    · exact k _ _ _ _ hs.2 (.tup sb hp (by rw [List.length_append]; exact hs.1) (r1.append r2))
  · rename_i xs ys
    cases rx with
    | lst h1 z1 r1 =>
    cases ry with
    | lst h2 z2 r2 =>
    exact .inr (.inr ⟨_, _, _, _, rfl, rfl, sb.lst h1, sb.lst h2, by rw [r1.length, r2.length]; exact hs.1, fun p hp => k _ _ _ _ (hs.2 p) (.lst hp (by rw [List.length_append]; exact hs.1) (r1.append r2))⟩)
  · exact hs.elim
def semSub (d e : D) (P : O → Prop) : Prop := match d, e with
  | .int i, .int j => P (.fz (.int (i - j)))
  | _, _ => False
theorem sem_sub : SemR K (rI0 fun i j => .int (i - j)) semSub := by
  intro F H x y d e P Q sb rx ry hs k
  unfold semSub at hs
  split at hs
  · cases rx; cases ry
    exact ⟨_, _, rfl, rfl, k _ _ _ _ hs (.fz (.int _))⟩
  · exact hs.elim
theorem tuple_mul1 (l : Addr) (items : Array Value) (n : Nat) (dd : Option Addr) (sl : Array (Option Value)) (u : Tok) :
    Meets (Builtin.«tuple.__mul__» ⟨[.ref l, .int 1 u], []⟩) (fun _ R s => s.heap.get? l = some { cls := .type "tuple", dict := dd, data := .seq items n, slots := sl } ∧ R (.ok (.ret (.ref l))) s) :=
  .of_wp fun prog w A R s h => by
    obtain ⟨hp, g, d, tk, os⟩ := s
    obtain ⟨hl, h⟩ := h
    have f1 := AutoSeq1.idx_int
    have c1 : (items.isEmpty || (1 : Int) == 1) = true := by simp
    wp_walk using wpAny_loadPart' hl
    exact ⟨_, rfl, h⟩
/-- a tuple once: itself -/
def rRep1 (K : PySem.W.Frag) : R2 := fun x y H Q => ∃ l xs, x = .ref l ∧ y = .int 1 ∧ SqT K H l xs ∧ Q (.ref l) H
theorem op_rep1 {X : Cx} : OpR X (binaryOp .Mult) (rRep1 X.K) := by
  intro pins s σ H x y v u Q I rx ry h
  obtain ⟨l, xs, rfl, rfl, hT, q⟩ := h
  cases rx
  obtain ⟨t, rfl⟩ := ry
  obtain ⟨its, r, ⟨⟨cls, dd, data, sl⟩, ho, hc, n, hd⟩, hs⟩ := I.tuple hT
  simp only at hc hd
  subst hc hd
  exact wpAny_binaryOp_repeat_ref (T := "tuple") (U := "int") (by decide) ⟨_, ho, rfl⟩ (fun s' => typeIs_int s' 1 t) noFill_tuple_mul F.fills_int_mul F.slot_int_rmul repeat_tuple F.slot_int_index.lookup
    (call_meets F.slot_int_rmul (typeIs_int s 1 t) F.entry_int_rmul (F.args_int_rmul_2 _ _) (int_rmul_tuple 1 t l its.toArray n dd sl)
      ⟨ho, rfl, ⟨_, ho, rfl⟩, call_meets F.slot_tuple_mul ⟨_, ho, rfl⟩ F.entry_tuple_mul (F.args_tuple_mul_2 _ _) (tuple_mul1 l its.toArray n dd sl t) ⟨ho, .ref l, H, I, rfl, q⟩⟩)
def semMul (d e : D) (P : O → Prop) : Prop := match d, e with
  | .int i, .int j => CMulW i j ∧ P (.fz (.int (i * j)))
  | .lst xs, .int k => -(2 ^ 63) ≤ k ∧ k < 2 ^ 63 ∧ xs.length * k.toNat ≤ sizeLine ∧ ∀ a, P (.lst a ((List.replicate k.toNat xs).flatten.map .fz))
  | .tup xs, .int k => 1 ≤ k ∧ k ≤ 1000 ∧ xs.length ≤ 1000 ∧ xs.isEmpty = false ∧ P (.fz (.tup (List.replicate k.toNat xs).flatten))
  | _, _ => False
theorem RepL.rep {F : Hp} {vs : List V} {ds : List D} (r : RepL K F vs ds) : ∀ n : Nat, RepL K F (List.replicate n vs).flatten (List.replicate n ds).flatten
  | 0 => .nil
  | n + 1 => by
    rw [List.replicate_succ, List.replicate_succ, List.flatten_cons, List.flatten_cons]
    exact r.append (RepL.rep r n)
def rMulT (K : PySem.W.Frag) : R2 := fun x y H Q => (rI CMulW (fun i j => .int (i * j)) x y H Q ∨ rRep x y H Q) ∨ (rRepT K x y H Q ∨ rRep1 K x y H Q)
theorem sem_mul : SemR K (rMulT K) semMul := by
  intro F H x y d e P Q sb rx ry hs k
  unfold semMul at hs
  split at hs
  · cases rx; cases ry
    exact .inl (.inl ⟨_, _, rfl, rfl, hs.1, k _ _ _ _ hs.2 (.fz (.int _))⟩)
  · rename_i xs n
    cases ry
    cases rx with
    | lst h1 z1 r1 =>
    refine .inl (.inr ⟨_, _, _, rfl, rfl, sb.lst h1, hs.1, hs.2.1, by rw [r1.length]; exact hs.2.2.1, fun p hp => k _ _ _ _ (hs.2.2.2 p) (.lst hp ?_ (r1.rep _))⟩)
    rw [List.length_flatten, List.map_replicate, List.sum_replicate_nat, Nat.mul_comm]
    exact hs.2.2.1
  · rename_i xs n
    cases ry
    cases rx with
    | tup h1 z1 r1 =>
    obtain ⟨h2, h3, h4, h5, h6⟩ := hs
    by_cases e : n = 1
    · subst e
      refine .inr (.inr ⟨_, _, rfl, rfl, sb.sqT h1, k _ _ _ _ h6 (.fz ?_)⟩)
      show Rep K F _ (.tup (xs ++ []))
      rw [List.append_nil]
      exact .tup h1 z1 r1
    · have len : (List.replicate n.toNat xs).flatten.length ≤ sizeLine := by
        rw [List.length_flatten, List.map_replicate, List.sum_replicate_nat, sizeLine_eq]
        have a1 : n.toNat * xs.length ≤ 1000 * 1000 := Nat.mul_le_mul (by omega) h4
        omega
      refine .inr (.inl ⟨_, _, _, rfl, rfl, sb.sqT h1, fun e0 => ?_, by omega, h3, by rw [r1.length]; exact h4, fun p hp => k _ _ _ _ h6 (.tup sb hp len (r1.rep _))⟩)
      subst e0
      cases r1
      cases h5
  · exact hs.elim
theorem op_mulT : OpR X (binaryOp .Mult) (rMulT X.K) := (op_mulW.or op_rep).or (op_repT.or op_rep1)
def semMod (d e : D) (P : O → Prop) : Prop := match d, e with
  | .int i, .int j => 0 < j ∧ P (.fz (.int (i % j)))
  | _, _ => False
theorem sem_mod : SemR K (rI (fun _ j => 0 < j) fun i j => .int (i % j)) semMod := by
  intro F H x y d e P Q sb rx ry hs k
  unfold semMod at hs
  split at hs
  · cases rx; cases ry
    exact ⟨_, _, rfl, rfl, hs.1, k _ _ _ _ hs.2 (.fz (.int _))⟩
  · exact hs.elim
def semDiv (d e : D) (P : O → Prop) : Prop := match d, e with
  | .int i, .int j => CDivW i j ∧ P (.fz (.int (i / j)))
  | _, _ => False
theorem sem_div : SemR K (rI CDivW fun i j => .int (i / j)) semDiv := by
  intro F H x y d e P Q sb rx ry hs k
  unfold semDiv at hs
  split at hs
  · cases rx; cases ry
    exact ⟨_, _, rfl, rfl, hs.1, k _ _ _ _ hs.2 (.fz (.int _))⟩
  · exact hs.elim
def semPow (d e : D) (P : O → Prop) : Prop := match d, e with
  | .int i, .int j => CPow i j ∧ P (.fz (.int (i ^ j.toNat)))
  | _, _ => False
theorem sem_pow : SemR K (rI CPow fun i j => .int (i ^ j.toNat)) semPow := by
  intro F H x y d e P Q sb rx ry hs k
  unfold semPow at hs
  split at hs
  · cases rx; cases ry
    exact ⟨_, _, rfl, rfl, hs.1, k _ _ _ _ hs.2 (.fz (.int _))⟩
  · exact hs.elim

/-! ### comparisons -/
def semEq (d e : D) (P : D → Prop) : Prop := match d, e with
  | .int i, .int j => P (.bl (decide (i = j)))
  | .str x, .str y => P (.bl (decide (x = y)))
  | d, e => ∃ b, deq 60 d e = some b ∧ P (.bl b)
def semNe (d e : D) (P : D → Prop) : Prop := match d, e with
  | .int i, .int j => P (.bl (!decide (i = j)))
  | .str x, .str y => P (.bl (!decide (x = y)))
  | d, e => ∃ b, deq 60 d e = some b ∧ P (.bl (!b))
theorem op_eqT (hu : X.A.units + 64 < cLine) : OpR X (compareOp .Eq) (fun x y H Q => rEq x y H Q ∨ rEqX X.K x y H Q) := op_eq.or (op_eqX hu)
theorem op_neT (hu : X.A.units + 64 < cLine) : OpR X (compareOp .NotEq) (fun x y H Q => rNe x y H Q ∨ rNeX X.K x y H Q) := op_ne.or (op_neX hu)
theorem decV_int (i j : Int) : decide (V.int i = V.int j) = decide (i = j) := by
  rw [Bool.eq_iff_iff]; simp
theorem decV_str (i j : Str) : decide (V.str i = V.str j) = decide (i = j) := by
  rw [Bool.eq_iff_iff]; simp
theorem sem_eq : SemS K (fun x y H Q => rEq x y H Q ∨ rEqX K x y H Q) semEq := by
  intro F H x y d e P Q sb rx ry hs k
  unfold semEq at hs
  split at hs
  · cases rx; cases ry
    exact .inl ⟨rfl, by rw [decV_int]; exact k _ _ hs fun _ => .bl _⟩
  · cases rx; cases ry
    exact .inl ⟨rfl, by rw [decV_str]; exact k _ _ hs fun _ => .bl _⟩
  · obtain ⟨b, hq, h⟩ := hs
    exact .inr ⟨F, _, _, b, sb, rx, ry, hq, k _ _ h fun _ => .bl _⟩
theorem sem_ne : SemS K (fun x y H Q => rNe x y H Q ∨ rNeX K x y H Q) semNe := by
  intro F H x y d e P Q sb rx ry hs k
  unfold semNe at hs
  split at hs
  · cases rx; cases ry
    exact .inl ⟨rfl, by rw [decV_int]; exact k _ _ hs fun _ => .bl _⟩
  · cases rx; cases ry
    exact .inl ⟨rfl, by rw [decV_str]; exact k _ _ hs fun _ => .bl _⟩
  · obtain ⟨b, hq, h⟩ := hs
    exact .inr ⟨F, _, _, b, sb, rx, ry, hq, k _ _ h fun _ => .bl _⟩
def semLt (d e : D) (P : D → Prop) : Prop := match d, e with
  | .int i, .int j => P (.bl (decide (i < j)))
  | .str x, .str y => P (.bl (decide (x.cps.toList < y.cps.toList)))
  | _, _ => False
theorem op_ltT' : OpR X (compareOp .Lt) (fun x y H Q => rI0 (fun i j => .bl (decide (i < j))) x y H Q ∨ ∃ i j, x = .str i ∧ y = .str j ∧ Q (.bl (decide (i.cps.toList < j.cps.toList))) H) := op_lt.or op_lt_str
theorem sem_lt : SemS K (fun x y H Q => rI0 (fun i j => .bl (decide (i < j))) x y H Q ∨ ∃ i j, x = .str i ∧ y = .str j ∧ Q (.bl (decide (i.cps.toList < j.cps.toList))) H) semLt := by
  intro F H x y d e P Q sb rx ry hs k
  unfold semLt at hs
  split at hs
  · cases rx; cases ry
    exact .inl ⟨_, _, rfl, rfl, k _ _ hs fun _ => .bl _⟩
  · cases rx; cases ry
    exact .inr ⟨_, _, rfl, rfl, k _ _ hs fun _ => .bl _⟩
  · exact hs.elim
def semLe (d e : D) (P : D → Prop) : Prop := match d, e with
  | .int i, .int j => P (.bl (decide (i ≤ j)))
  | .str x, .str y => P (.bl (!decide (y.cps.toList < x.cps.toList)))
  | _, _ => False
theorem op_leT' : OpR X (compareOp .LtE) (fun x y H Q => rI0 (fun i j => .bl (decide (i ≤ j))) x y H Q ∨ ∃ i j, x = .str i ∧ y = .str j ∧ Q (.bl (!decide (j.cps.toList < i.cps.toList))) H) := op_le.or op_le_str
theorem sem_le : SemS K (fun x y H Q => rI0 (fun i j => .bl (decide (i ≤ j))) x y H Q ∨ ∃ i j, x = .str i ∧ y = .str j ∧ Q (.bl (!decide (j.cps.toList < i.cps.toList))) H) semLe := by
  intro F H x y d e P Q sb rx ry hs k
  unfold semLe at hs
  split at hs
  · cases rx; cases ry
    exact .inl ⟨_, _, rfl, rfl, k _ _ hs fun _ => .bl _⟩
  · cases rx; cases ry
    exact .inr ⟨_, _, rfl, rfl, k _ _ hs fun _ => .bl _⟩
  · exact hs.elim
def semGt (d e : D) (P : D → Prop) : Prop := match d, e with
  | .int i, .int j => P (.bl (decide (j < i)))
  | .str x, .str y => P (.bl (decide (y.cps.toList < x.cps.toList)))
  | _, _ => False
theorem op_gtT' : OpR X (compareOp .Gt) (fun x y H Q => rI0 (fun i j => .bl (decide (j < i))) x y H Q ∨ ∃ i j, x = .str i ∧ y = .str j ∧ Q (.bl (decide (j.cps.toList < i.cps.toList))) H) := op_gt.or op_gt_str
theorem sem_gt : SemS K (fun x y H Q => rI0 (fun i j => .bl (decide (j < i))) x y H Q ∨ ∃ i j, x = .str i ∧ y = .str j ∧ Q (.bl (decide (j.cps.toList < i.cps.toList))) H) semGt := by
  intro F H x y d e P Q sb rx ry hs k
  unfold semGt at hs
  split at hs
  · cases rx; cases ry
    exact .inl ⟨_, _, rfl, rfl, k _ _ hs fun _ => .bl _⟩
  · cases rx; cases ry
    exact .inr ⟨_, _, rfl, rfl, k _ _ hs fun _ => .bl _⟩
  · exact hs.elim
def semGe (d e : D) (P : D → Prop) : Prop := match d, e with
  | .int i, .int j => P (.bl (decide (j ≤ i)))
  | .str x, .str y => P (.bl (!decide (x.cps.toList < y.cps.toList)))
  | _, _ => False
theorem op_geT' : OpR X (compareOp .GtE) (fun x y H Q => rI0 (fun i j => .bl (decide (j ≤ i))) x y H Q ∨ ∃ i j, x = .str i ∧ y = .str j ∧ Q (.bl (!decide (i.cps.toList < j.cps.toList))) H) := op_ge.or op_ge_str
theorem sem_ge : SemS K (fun x y H Q => rI0 (fun i j => .bl (decide (j ≤ i))) x y H Q ∨ ∃ i j, x = .str i ∧ y = .str j ∧ Q (.bl (!decide (i.cps.toList < j.cps.toList))) H) semGe := by
  intro F H x y d e P Q sb rx ry hs k
  unfold semGe at hs
  split at hs
  · cases rx; cases ry
    exact .inl ⟨_, _, rfl, rfl, k _ _ hs fun _ => .bl _⟩
  · cases rx; cases ry
    exact .inr ⟨_, _, rfl, rfl, k _ _ hs fun _ => .bl _⟩
  · exact hs.elim
/-- the items of a list or a tuple -/
def D.items : D → Option (List D)
  | .tup ds => some ds
  | .lst ds => some ds
  | .frl ds => some ds
  | _ => none
theorem Rep.seq {F H : Hp} {v : V} {d : D} {ds : List D} (r : Rep K F v d) (sb : Sb F H) (h : d.items = some ds) : ∃ p xs, v = .ref p ∧ (SqL K H p xs ∨ SqT K H p xs) ∧ RepL K F xs ds ∧ ds.length ≤ sizeLine := by
  cases r <;> first
    | (cases h; done)
    | skip
  all_goals (have h' := Option.some.inj h; subst h')
  · rename_i h1 z r; exact ⟨_, _, rfl, .inr (sb.sqT h1), r, z⟩
  · rename_i h1 z r; exact ⟨_, _, rfl, .inl (.inl (.inl (sb.lst h1))), r, z⟩
  · rename_i h1 z r; exact ⟨_, _, rfl, .inl (sb.sqL h1), r, z⟩
/-- d in e -/
def semInB (neg : Bool) (d e : D) (P : D → Prop) : Prop := match e with
  | .str z => ∃ c, d = .str ⟨#[c]⟩ ∧ P (.bl (if neg then !decide (c ∈ z.cps.toList) else decide (c ∈ z.cps.toList)))
  | e => ∃ ds, e.items = some ds ∧ d.flat = true ∧ ds.all D.flat = true ∧ P (.bl (if neg then !(ds.any fun z => eqV z.v d.v) else ds.any fun z => eqV z.v d.v))
def rInT (K : PySem.W.Frag) (neg : Bool) : R2 := fun x y H Q => (∃ (c : Nat) (z : Str), x = .str ⟨#[c]⟩ ∧ y = .str z ∧ Q (.bl (if neg then !decide (c ∈ z.cps.toList) else decide (c ∈ z.cps.toList))) H) ∨ rIn K neg x y H Q
theorem op_inT : OpR X (compareOp .In) (rInT X.K false) := op_in_sign.or op_in_seq
theorem op_notInT : OpR X (compareOp .NotIn) (rInT X.K true) := op_notIn_sign.or op_notIn_seq
theorem sem_in (neg : Bool) : SemS K (rInT K neg) (semInB neg) := by
  intro F H x y d e P Q sb rx ry hs k
  unfold semInB at hs
  split at hs
  · obtain ⟨c, rfl, h⟩ := hs
    cases rx; cases ry
    exact .inl ⟨c, _, rfl, rfl, k _ _ h fun _ => .bl _⟩
  · obtain ⟨ds, hi, hf, ha, h⟩ := hs
    obtain ⟨p, xs, rfl, hq, r, z⟩ := ry.seq sb hi
    obtain ⟨e1, f1⟩ := rx.flat hf
    obtain ⟨e2, f2⟩ := r.flat ha
    refine .inr ⟨p, xs, rfl, hq, f1, f2, ?_⟩
    have e3 : inV x xs = ds.any fun z => eqV z.v d.v := by
      unfold inV
      rw [e1, e2, List.any_map]
      rfl
    rw [e3]
    exact k _ _ h fun _ => .bl _
/-- is None, is True .. -/
def semIs (neg : Bool) (d e : D) (P : D → Prop) : Prop := match d, e with
  | .bl a, .bl b => P (.bl (if neg then !decide (a = b) else decide (a = b)))
  | .non, .non => P (.bl (!neg))
  | .bl _, .non => P (.bl neg)
  | .int _, .non => P (.bl neg)
  | .str _, .non => P (.bl neg)
  | .tup _, .non => P (.bl neg)
  | .lst _, .non => P (.bl neg)
  | .dct _, .non => P (.bl neg)
  | .dcT _, .non => P (.bl neg)
  | .ins _ _, .non => P (.bl neg)
  | .exc _ _, .non => P (.bl neg)
  | _, _ => False
def rIsT (neg : Bool) : R2 := fun x y H Q => (y = .non ∧ Q (.bl (if neg then !decide (x = .non) else decide (x = .non))) H) ∨ ∃ a b, x = .bl a ∧ y = .bl b ∧ Q (.bl (if neg then !decide (a = b) else decide (a = b))) H
theorem op_isT : OpR X (compareOp .Is) (rIsT false) := op_isN.or op_is_bl
theorem op_isNotT : OpR X (compareOp .IsNot) (rIsT true) := op_notN.or op_isnot_bl
theorem sem_is (neg : Bool) : SemS K (rIsT neg) (semIs neg) := by
  intro F H x y d e P Q sb rx ry hs k
  unfold semIs at hs
  split at hs
  · cases rx; cases ry
    exact .inr ⟨_, _, rfl, rfl, k _ _ hs fun _ => .bl _⟩
  all_goals first
    | exact hs.elim
    | (cases ry; cases rx <;> (refine .inl ⟨rfl, ?_⟩; cases neg <;> exact k _ _ hs fun _ => .bl _))

/-! ### indices, slices -/
def semIx (d e : D) (P : D → Prop) : Prop := match d, e with
  | .tup ds, .int i => ∃ u, atI ds i = some u ∧ P u
  | .lst ds, .int i => ∃ u, atI ds i = some u ∧ P u
  | .frl ds, .int i => ∃ u, atI ds i = some u ∧ P u
  | .str z, .int i => ∃ c, atI z.cps.toList i = some c ∧ P (.str ⟨#[c]⟩)
  | _, _ => False
theorem RepL.atI {F : Hp} {xs : List V} {ds : List D} {i : Int} {u : D} (r : RepL K F xs ds) (h : L2.atI ds i = some u) : ∃ v, L2.atI xs i = some v ∧ Rep K F v u := by
  unfold L2.atI at h ⊢
  rw [r.length]
  cases q : ixN ds.length i with
  | none => rw [q] at h; cases h
  | some j =>
    rw [q] at h
    exact r.get h
def cutG {α : Type} (xs : List α) (lo hi : Option Int) : List α := (xs.drop (HT.sIx xs.length 0 lo)).take (HT.sIx xs.length xs.length hi - HT.sIx xs.length 0 lo)
theorem RepL.cut {F : Hp} {xs : List V} {ds : List D} (r : RepL K F xs ds) (lo hi : Option Int) : RepL K F (cutV xs lo hi) (cutG ds lo hi) := by
  unfold cutV cutG
  rw [r.length]
  exact (r.drop _).take _
theorem cutG_len {α : Type} (xs : List α) (lo hi : Option Int) : (cutG xs lo hi).length ≤ xs.length := by
  unfold cutG
  rw [List.length_take, List.length_drop]
  omega
theorem cutG_all {α : Type} {xs : List α} {lo hi : Option Int} (h : HT.sIx xs.length 0 lo = 0 ∧ HT.sIx xs.length xs.length hi = xs.length) : cutG xs lo hi = xs := by
  unfold cutG
  rw [h.1, h.2]
  simp
def semSl (d : D) (lo hi : Option Int) (P : O → Prop) : Prop := match d with
  | .str z => P (.fz (.str (cutS z lo hi)))
  | .tup ds => P (.fz (.tup (cutG ds lo hi)))
  | .lst ds => ∀ a, P (.lst a ((cutG ds lo hi).map .fz))
  | .frl ds => ∀ a, P (.lst a ((cutG ds lo hi).map .fz))
  | _ => False
def rSlT' (K : PySem.W.Frag) : V → Option Int → Option Int → Hp → VK → Prop := fun x lo hi H Q => rSlS x lo hi H Q ∨ rSlA K x lo hi H Q ∨ rSlL K x lo hi H Q
theorem sl_T : SlR X (rSlT' X.K) := sl_str.or (sl_tupA.or sl_list)
theorem sem_sl {F H : Hp} {x : V} {d : D} {lo hi : Option Int} {P : O → Prop} {Q : VK} (sb : Sb F H) (rx : Rep K F x d) (hs : semSl d lo hi P) (k : ∀ o v F' H', P o → Res K F H o v F' H' → Q v H') : rSlT' K x lo hi H Q := by
  unfold semSl at hs
  split at hs
  · rename_i z
    cases rx with
    | str _ hz => exact .inl ⟨_, rfl, hz, k _ _ _ _ hs (.fz (.str _ (Nat.le_trans (cutS_length _ _ _) hz)))⟩
  · rename_i ds
    cases rx with
    | @tup a vs _ h z r =>
    refine .inr (.inl ⟨a, vs, rfl, sb.sqT h, fun e => ?_, fun _ p hp => ?_⟩)
    · have e' := cutG_all (xs := ds) (by rw [← r.length]; exact e)
      rw [e'] at hs
      exact k _ _ _ _ hs (.fz (.tup h z r))
    · exact k _ _ _ _ hs (.tup sb hp (Nat.le_trans (cutG_len _ _ _) z) (r.cut lo hi))
  · cases rx with
    | lst h z r => exact .inr (.inr ⟨_, _, rfl, .inl (.inl (sb.lst h)), fun p hp => k _ _ _ _ (hs p) (.lst hp (Nat.le_trans (cutG_len _ _ _) z) (r.cut lo hi))⟩)
  · cases rx with
    | frl h z r => exact .inr (.inr ⟨_, _, rfl, sb.sqL h, fun p hp => k _ _ _ _ (hs p) (.lst hp (Nat.le_trans (cutG_len _ _ _) z) (r.cut lo hi))⟩)
  · exact hs.elim
end

/-! ### built-in functions -/
section
variable {K : PySem.W.Frag} {X : Cx}
def semLen (d : D) (P : D → Prop) : Prop := match d with
  | .str z => P (.int z.length)
  | .dct kvs => P (.int kvs.length)
  | d => ∃ ds, d.items = some ds ∧ P (.int ds.length)
def rLenT (K : PySem.W.Frag) : List V → Hp → VK → Prop := fun xs H Q => (∃ p ys, xs = [.ref p] ∧ (SqL K H p ys ∨ SqT K H p ys) ∧ Q (.int ys.length) H) ∨ ∃ z, xs = [.str z] ∧ z.length ≤ sizeLine ∧ Q (.int z.length) H
theorem cr_lenT : CallR X (.builtin "len") (rLenT X.K) := call_len_seq.or call_len_str
theorem RepK.length {F : Hp} : ∀ {es : List (Key × V)} {kvs : List (Key × D)}, RepK K F es kvs → es.length = kvs.length
  | _, _, .nil => rfl
  | _, _, .cons _ _ r => congrArg (· + 1) (RepK.length r)
def rLenD : List V → Hp → VK → Prop := fun xs H Q => ∃ a kvs, xs = [V.ref a] ∧ Rd H a (.dK kvs) ∧ Q (.int kvs.length) H
theorem cr_lenD : CallR X (.builtin "len") rLenD := by
  intro pins s σ H xs us Q I r h
  obtain ⟨a, kvs, rfl, hr, q⟩ := h
  cases r with
  | cons r rr =>
    cases rr
    cases r
    exact d_len I hr fun t s' I' => ⟨.int kvs.length, H, I', ⟨t, rfl⟩, q⟩
theorem sem_len : SemC1 K (fun xs H Q => rLenT K xs H Q ∨ rLenD xs H Q) semLen := by
  intro F H x d P Q sb rx hs k
  unfold semLen at hs
  split at hs
  · cases rx with
    | str _ hz => exact .inl (.inr ⟨_, rfl, hz, k _ _ hs fun _ => .int _⟩)
  · cases rx with
    | dct h _ r => exact .inr ⟨_, _, rfl, sb.dK h, by rw [r.length]; exact k _ _ hs fun _ => .int _⟩
  · obtain ⟨ds, hi, h⟩ := hs
    obtain ⟨p, xs, rfl, hq, r, z⟩ := rx.seq sb hi
    exact .inl (.inl ⟨p, xs, rfl, hq, by rw [r.length]; exact k _ _ h fun _ => .int _⟩)
theorem cr_len : CallR X (.builtin "len") (fun xs H Q => rLenT X.K xs H Q ∨ rLenD xs H Q) := cr_lenT.or cr_lenD
def semAbs (d : D) (P : D → Prop) : Prop := match d with
  | .int i => P (.int (if i < 0 then -i else i))
  | _ => False
theorem sem_abs : SemC1 K (fun xs H Q => ∃ i, xs = [.int i] ∧ Q (.int (if i < 0 then -i else i)) H) semAbs := by
  intro F H x d P Q sb rx hs k
  unfold semAbs at hs
  split at hs
  · cases rx; exact ⟨_, rfl, k _ _ hs fun _ => .int _⟩
  · exact hs.elim
def semInt (d : D) (P : D → Prop) : Prop := match d with
  | .int i => P (.int i)
  | .bl b => P (.int (if b then 1 else 0))
  | _ => False
theorem sem_int : SemC1 K (fun xs H Q => (∃ i, xs = [.int i] ∧ Q (.int i) H) ∨ ∃ k, xs = [.bl k] ∧ Q (.int (if k then 1 else 0)) H) semInt := by
  intro F H x d P Q sb rx hs k
  unfold semInt at hs
  split at hs
  · cases rx; exact .inl ⟨_, rfl, k _ _ hs fun _ => .int _⟩
  · cases rx; exact .inr ⟨_, rfl, k _ _ hs fun _ => .int _⟩
  · exact hs.elim
/-- the ints of things, the truths of things -/
def D.ints : List D → Option (List Int)
  | [] => some []
  | .int i :: r => (D.ints r).map (i :: ·)
  | _ :: _ => none
def D.bls : List D → Option (List Bool)
  | [] => some []
  | .bl i :: r => (D.bls r).map (i :: ·)
  | _ :: _ => none
theorem ints_map (ns : List Int) : D.ints (ns.map D.int) = some ns := by
  induction ns with
  | nil => rfl
  | cons n r ih => show (D.ints (r.map D.int)).map _ = _; rw [ih]; rfl
theorem bls_map (ns : List Bool) : D.bls (ns.map D.bl) = some ns := by
  induction ns with
  | nil => rfl
  | cons n r ih => show (D.bls (r.map D.bl)).map _ = _; rw [ih]; rfl
theorem RepL.ints {F : Hp} : ∀ {xs : List V} {ds : List D} {ns : List Int}, RepL K F xs ds → D.ints ds = some ns → xs = ns.map V.int
  | _, _, _, .nil, h => by cases h; rfl
  | _, d :: ds, ns, .cons h r, q => by
    cases h <;> first
      | (cases q; done)
      | skip
    rename_i i
    have q : (D.ints ds).map (i :: ·) = some ns := q
    cases e : D.ints ds with
    | none => rw [e] at q; cases q
    | some ms =>
      rw [e] at q
      cases q
      rw [RepL.ints r e]
      rfl
theorem RepL.bls {F : Hp} : ∀ {xs : List V} {ds : List D} {ns : List Bool}, RepL K F xs ds → D.bls ds = some ns → xs = ns.map V.bl
  | _, _, _, .nil, h => by cases h; rfl
  | _, d :: ds, ns, .cons h r, q => by
    cases h <;> first
      | (cases q; done)
      | skip
    rename_i i
    have q : (D.bls ds).map (i :: ·) = some ns := q
    cases e : D.bls ds with
    | none => rw [e] at q; cases q
    | some ms =>
      rw [e] at q
      cases q
      rw [RepL.bls r e]
      rfl
def semAll (d : D) (P : D → Prop) : Prop := match d with
  | .lst ds => ∃ bs, D.bls ds = some bs ∧ P (.bl (bs.all id))
  | _ => False
theorem sem_all : SemC1 K (rAll K) semAll := by
  intro F H x d P Q sb rx hs k
  unfold semAll at hs
  split at hs
  · obtain ⟨bs, e, h⟩ := hs
    cases rx with
    | lst h1 z r => exact ⟨_, bs, rfl, by rw [← r.bls e]; exact .inl (.inl (sb.lst h1)), k _ _ h fun _ => .bl _⟩
  · exact hs.elim
def semAny (d : D) (P : D → Prop) : Prop := match d with
  | .lst ds => ∃ bs, D.bls ds = some bs ∧ P (.bl (bs.any id))
  | _ => False
theorem sem_any : SemC1 K (rAny K) semAny := by
  intro F H x d P Q sb rx hs k
  unfold semAny at hs
  split at hs
  · obtain ⟨bs, e, h⟩ := hs
    cases rx with
    | lst h1 z r => exact ⟨_, bs, rfl, by rw [← r.bls e]; exact .inl (.inl (sb.lst h1)), k _ _ h fun _ => .bl _⟩
  · exact hs.elim
def semSum (d : D) (P : D → Prop) : Prop := match d with
  | .lst ds => ∃ ns, D.ints ds = some ns ∧ P (.int ns.sum)
  | _ => False
theorem sem_sum : SemC1 K (rSum K) semSum := by
  intro F H x d P Q sb rx hs k
  unfold semSum at hs
  split at hs
  · obtain ⟨ns, e, h⟩ := hs
    cases rx with
    | lst h1 z r => exact ⟨_, ns, rfl, by rw [← r.ints e]; exact .inl (.inl (sb.lst h1)), k _ _ h fun _ => .int _⟩
  · exact hs.elim
def semMax2 (d e : D) (P : D → Prop) : Prop := match d, e with
  | .int i, .int j => P (.int (if j > i then j else i))
  | _, _ => False
def semMin2 (d e : D) (P : D → Prop) : Prop := match d, e with
  | .int i, .int j => P (.int (if j < i then j else i))
  | _, _ => False
/-- isinstance by a built-in class -/
def D.isA (T : String) : D → Option Bool
  | .non => kitB "NoneType" T
  | .bl _ => kitB "bool" T
  | .int _ => kitB "int" T
  | .str _ => kitB "str" T
  | .tup _ => kitB "tuple" T
  | .lst _ => kitB "list" T
  | .dct _ => kitB "dict" T
  | _ => none
def semIsi (d e : D) (P : D → Prop) : Prop := match e with
  | .ty T => ∃ b, d.isA T = some b ∧ P (.bl b)
  | _ => False
theorem TyX.tup {F H : Hp} {a : Addr} {xs : List V} (sb : Sb F H) (h : F a = some (.tup xs)) : L2.TyX K H (.ref a) (.type "tuple") := .base (.tup (sb.tup h))
theorem TyX.dict {F H : Hp} {a : Addr} {kvs : List (Key × V)} (sb : Sb F H) (h : F a = some (.dK kvs)) : L2.TyX K H (.ref a) (.type "dict") := by
  rcases sb a _ h with z | ⟨ob, e, z⟩
  · exact .base (.dK z)
  · exact .fDict z
theorem isi_ok {F H : Hp} {x : V} {d : D} {T : String} {b : Bool} (sb : Sb F H) (rx : Rep K F x d) (h : d.isA T = some b) : ∃ t, L2.TyX K H x t ∧ PySem.W.kitOne K t (.type T) = some b := by
  cases rx with
  | non => exact ⟨_, .base .non, kit_ty h⟩
  | bl b => exact ⟨_, .base (.bl _), kit_ty h⟩
  | int b => exact ⟨_, .base (.int _), kit_ty h⟩
  | str b _ => exact ⟨_, .base (.str _), kit_ty h⟩
  | tup h1 z r => exact ⟨_, TyX.tup sb h1, kit_ty h⟩
  | lst h1 z r => exact ⟨_, .base (.lst (sb.lst h1)), kit_ty h⟩
  | dct h1 _ r => exact ⟨_, TyX.dict sb h1, kit_ty h⟩
  | _ => cases h
end
end Tr
/-! The tree layer: expressions, calls. -/
namespace Tr
open PySem PySem.Spec PyProof.Rows L2

/-! ### comparisons, tests -/
/-- a parting of the ways -/
def br (c : Bool) (A B : Prop) : Prop := (c = true → A) ∧ (c = false → B)
def wChain (sem sem' : D → D → (D → Prop) → Prop) (wa wb wc : WD) : WD := fun ρ P => wa ρ fun d ρ1 => wb ρ1 fun e ρ2 => sem d e fun u => match u with
  | .bl b => br b (wc ρ2 fun f ρ3 => sem' e f fun v => P v ρ3) (P (.bl false) ρ2)
  | _ => False
def truD : D → Option Bool
  | .non => some false
  | .bl b => some b
  | .int i => some (i != 0)
  | .str x => some ((x.length : Int) != 0)
  | .tup ds => some (!ds.isEmpty)
  | .lst ds => some (!ds.isEmpty)
  | .frl ds => some (!ds.isEmpty)
  | _ => none
def wTru (w : WD) : WT := fun ρ P => w ρ fun d ρ' => match truD d with
  | some b => P b ρ'
  | none => False
def wAnd (wa wb : WT) : WT := fun ρ P => wa ρ fun c ρ1 => br c (wb ρ1 P) (P false ρ1)
def wOr (wa wb : WT) : WT := fun ρ P => wa ρ fun c ρ1 => br c (P true ρ1) (wb ρ1 P)
def wNot (wa : WT) : WT := fun ρ P => wa ρ fun c ρ1 => P (!c) ρ1
def wBl (w : WT) : WD := fun ρ P => w ρ fun c ρ1 => P (.bl c) ρ1
def wAndV (wa wb : WD) : WD := fun ρ P => wTst wa ρ fun c ρ1 => br c (wb ρ1 P) (P (.bl false) ρ1)
def wOrV (wa wb : WD) : WD := fun ρ P => wTst wa ρ fun c ρ1 => br c (P (.bl true) ρ1) (wb ρ1 P)
def wNotV (wa : WD) : WD := fun ρ P => wTst wa ρ fun c ρ1 => P (.bl (!c)) ρ1
def wIf {α : Type} (wc : WT) (wa wb : TEnv → (α → TEnv → Prop) → Prop) : TEnv → (α → TEnv → Prop) → Prop := fun ρ P => wc ρ fun c ρ1 => br c (wa ρ1 P) (wb ρ1 P)
structure XW (X : Cx) (e : Expr) (w : WT) : Prop where
  pw : PW X e (liftT X.K w)
theorem PW.imp {X : Cx} {e : Expr} {t t' : TT} (h : PW X e t) (i : ∀ σ H Q, t' σ H Q → t σ H Q) : PW X e t' := ⟨fun wh pins s σ H Q I hw => h.run wh pins s σ H Q I (i _ _ _ hw)⟩
theorem Rep.tru {K : PySem.W.Frag} {F H : Hp} {v : V} {d : D} {b : Bool} (r : Rep K F v d) (sb : Sb F H) (h : truD d = some b) : TruV K v H b := by
  cases r with
  | non => cases h; rfl
  | bl b => cases h; rfl
  | int i => cases h; rfl
  | str x z => cases h; exact ⟨z, rfl⟩
  | tup h1 z r =>
    cases h
    refine .inr (.inl ⟨_, sb.sqT h1, ?_⟩)
    have e := r.length
    rename_i xs ds
    cases xs <;> cases ds <;> first
      | rfl
      | (cases e)
  | lst h1 z r =>
    cases h
    refine .inl ⟨_, .inl (.inl (sb.lst h1)), ?_⟩
    have e := r.length
    rename_i xs ds
    cases xs <;> cases ds <;> first
      | rfl
      | (cases e)
  | frl h1 z r =>
    cases h
    refine .inl ⟨_, sb.sqL h1, ?_⟩
    have e := r.length
    rename_i xs ds
    cases xs <;> cases ds <;> first
      | rfl
      | (cases e)
  | _ => cases h
section
variable {X : Cx} {a b c e : Expr} {wa wb wc w : WD} {pos : Pos} {r r' : R2} {op op' : CmpOp} {sem sem' : D → D → (D → Prop) → Prop} {rest : List Expr}
theorem xe_cmp (ho : OpR X (compareOp op) r) (hs : SemS X.K r sem) (ha : XE X a wa) (hb : XB X b wb) (hm : behindInMarks op b = false := by first | exact nomark _ | rfl) : XE X (.Compare a [op] [b] pos) (wCmp sem wa wb) :=
  ⟨PE.imp (pe_cmpR ho ha.pe hb.pe hm) fun _ _ _ h => tOp_cmp hs h⟩
theorem xe_cmpL {i : Nat} (ho : OpR X (compareOp op) r) (hs : SemS X.K r sem) (ha : PE X a (tVar i)) (hb : XB X b wb) (hm : behindInMarks op b = false := by first | exact nomark _ | rfl) : XE X (.Compare a [op] [b] pos) (wCmpL sem i wb) :=
  ⟨PE.imp (pe_cmpR ho ha hb.pe hm) fun _ _ _ h => tOp_cmpL hs h⟩
/-- a reading of a truth as a test -/
theorem lift_tst {K : PySem.W.Frag} {w : WD} {σ : L2.St} {H : Hp} {Q : Bool → Hp → Prop} (h : liftT K (wTst w) σ H Q) : liftD K w σ H (fun x H' => ∃ k, x = .bl k ∧ Q k H') := by
  obtain ⟨ρ, F, P, s, hw, k⟩ := h
  refine ⟨ρ, F, _, s, hw, fun d ρ' F' H' v p s' r f => ?_⟩
  cases d <;> first
    | exact p.elim
    | skip
  cases r
  exact ⟨_, rfl, k _ _ _ _ p s' f⟩
theorem xt_cmp (ho : OpR X (compareOp op) r) (hs : SemS X.K r sem) (ha : XE X a wa) (hb : XB X b wb) (hm : behindInMarks op b = false := by first | exact nomark _ | rfl) : XT X (.Compare a [op] [b] pos) (wTst (wCmp sem wa wb)) :=
  ⟨PT.imp (pt_cmpR ho ha.pe hb.pe hm) fun _ _ _ h => tOp_cmp hs (lift_tst h)⟩
theorem xt_cmpL {i : Nat} (ho : OpR X (compareOp op) r) (hs : SemS X.K r sem) (ha : PE X a (tVar i)) (hb : XB X b wb) (hm : behindInMarks op b = false := by first | exact nomark _ | rfl) : XT X (.Compare a [op] [b] pos) (wTst (wCmpL sem i wb)) :=
  ⟨PT.imp (pt_cmpR ho ha hb.pe hm) fun _ _ _ h => tOp_cmpL hs (lift_tst h)⟩
theorem t_chain (hs : SemS X.K r sem) (hs' : SemS X.K r' sem') {σ : L2.St} {H : Hp} {Q : VK} (h : liftD X.K (wChain sem sem' wa wb wc) σ H Q) : tChain r r' (liftD X.K wa) (liftD X.K wb) (liftD X.K wc) σ H Q := by
  obtain ⟨ρ, F, P, s, hw, k⟩ := h
  refine ⟨ρ, F, _, s, hw, fun d ρ1 F1 H1 v p s1 r1 f1 => ?_⟩
  refine ⟨ρ1, F1, _, s1, p, fun e ρ2 F2 H2 u p2 s2 r2 f2 => ?_⟩
  refine hs F2 H2 _ _ d e _ _ s2.sub (r1.mono f2.fz) r2 p2 fun u' w p3 rr => ?_
  cases u' <;> first
    | exact p3.elim
    | skip
  rename_i b
  have e1 := rr F2
  cases e1
  refine ⟨b, rfl, ?_⟩
  cases b with
  | false =>
    have p3 : P (.bl false) ρ2 := by simpa [br] using p3
    rw [if_neg Bool.false_ne_true]
    exact k _ _ _ _ _ p3 s2 (.bl false) (f1.trans f2)
  | true =>
    rw [if_pos rfl]
    have p3 : wc ρ2 fun f ρ3 => sem' e f fun v => P v ρ3 := by simpa [br] using p3
    refine ⟨ρ2, F2, _, s2, p3, fun f ρ3 F3 H3 x p4 s3 r3 f3 => ?_⟩
    exact hs' F3 H3 _ _ e f _ Q s3.sub (r2.mono f3.fz) r3 p4 fun u w p5 rr => k _ _ _ _ _ p5 s3 (rr _) ((f1.trans f2).trans f3)
theorem xe_chain (ho : OpR X (compareOp op) r) (hs : SemS X.K r sem) (ho' : OpR X (compareOp op') r') (hs' : SemS X.K r' sem') (ha : XE X a wa) (hb : XE X b wb) (hc : XE X c wc) (hm : lastMarks [op, op'] [b, c] = false := by with_unfolding_all rfl) :
    XE X (.Compare a [op, op'] [b, c] pos) (wChain sem sem' wa wb wc) := ⟨PE.imp (pe_chain ho ho' ha.pe hb.pe hc.pe hm) fun _ _ _ h => t_chain hs hs' h⟩
theorem xt_chain (ho : OpR X (compareOp op) r) (hs : SemS X.K r sem) (ho' : OpR X (compareOp op') r') (hs' : SemS X.K r' sem') (ha : XE X a wa) (hb : XE X b wb) (hc : XE X c wc) (hm : lastMarks [op, op'] [b, c] = false := by with_unfolding_all rfl) :
    XT X (.Compare a [op, op'] [b, c] pos) (wTst (wChain sem sem' wa wb wc)) := ⟨PT.imp (pt_chain ho ho' ha.pe hb.pe hc.pe hm) fun _ _ _ h => t_chain hs hs' (lift_tst h)⟩
/-- a name, a call .. as a test -/
theorem xt_tru (h : XB X e w) (he : ∀ whole, isTrue e X.env whole = (do let v ← whole; standAt e.pos; holding [v] (truthy v)) := by intro _; rfl) : XT X e (wTru w) := ⟨PT.imp (pt_truth h.pe he) fun σ H Q ⟨ρ, F, P, s, hw, k⟩ =>
  ⟨ρ, F, _, s, hw, fun d ρ' F' F'' H' v p s' sb su r f => by
    cases hd : truD d with
    | none => rw [hd] at p; exact p.elim
    | some b =>
      rw [hd] at p
      exact ⟨b, r.tru sb hd, k _ _ _ _ p s' f⟩⟩⟩
theorem XT.w1 {wt : WT} (h : XT X a wt) : XW X (.BoolOp .And [a] pos) wt := ⟨pw_and1 h.pt⟩
theorem XT.o1 {wt : WT} (h : XT X a wt) : XW X (.BoolOp .Or [a] pos) wt := ⟨pw_or1 h.pt⟩
theorem xw_and {wt wu : WT} (h : XT X a wt) (h2 : XW X (.BoolOp .And (b :: rest) pos) wu) : XW X (.BoolOp .And (a :: b :: rest) pos) (wAnd wt wu) := ⟨PW.imp (pw_and h.pt h2.pw) fun σ H Q ⟨ρ, F, P, s, hw, k⟩ =>
  ⟨ρ, F, _, s, hw, fun c ρ1 F1 H1 p s1 f1 => by
    cases c with
    | true =>
      have p : wu ρ1 P := by simpa [br] using p
      rw [if_pos rfl]
      exact ⟨ρ1, F1, P, s1, p, fun b ρ2 F2 H2 p2 s2 f2 => k _ _ _ _ p2 s2 (f1.trans f2)⟩
    | false =>
      have p : P false ρ1 := by simpa [br] using p
      rw [if_neg Bool.false_ne_true]
      exact k _ _ _ _ p s1 f1⟩⟩
theorem xw_or {wt wu : WT} (h : XT X a wt) (h2 : XW X (.BoolOp .Or (b :: rest) pos) wu) : XW X (.BoolOp .Or (a :: b :: rest) pos) (wOr wt wu) := ⟨PW.imp (pw_or h.pt h2.pw) fun σ H Q ⟨ρ, F, P, s, hw, k⟩ =>
  ⟨ρ, F, _, s, hw, fun c ρ1 F1 H1 p s1 f1 => by
    cases c with
    | false =>
      have p : wu ρ1 P := by simpa [br] using p
      rw [if_neg Bool.false_ne_true]
      exact ⟨ρ1, F1, P, s1, p, fun b ρ2 F2 H2 p2 s2 f2 => k _ _ _ _ p2 s2 (f1.trans f2)⟩
    | true =>
      have p : P true ρ1 := by simpa [br] using p
      rw [if_pos rfl]
      exact k _ _ _ _ p s1 f1⟩⟩
theorem XW.t {wt : WT} (h : XW X e wt) : XT X e wt := ⟨h.pw.pt⟩
theorem xt_not {wt : WT} (h : XT X a wt) : XT X (.UnaryOp .Not a pos) (wNot wt) := ⟨PT.imp (pt_not h.pt) fun σ H Q ⟨ρ, F, P, s, hw, k⟩ =>
  ⟨ρ, F, _, s, hw, fun c ρ1 F1 H1 p s1 f1 => k _ _ _ _ p s1 f1⟩⟩
theorem xe_and1 {op : BoolOp} (h : XE X a wa) : XE X (.BoolOp op [a] pos) wa := ⟨pe_one h.pe⟩
theorem xe_and (h : XE X a wa) (h2 : XE X (.BoolOp .And (b :: rest) pos) wb) : XE X (.BoolOp .And (a :: b :: rest) pos) (wAndV wa wb) := ⟨PE.imp (pe_and h.pe h2.pe) fun σ H Q ⟨ρ, F, P, s, hw, k⟩ =>
  ⟨ρ, F, _, s, hw, fun d ρ1 F1 H1 v p s1 r1 f1 => by
    cases d <;> first
      | exact p.elim
      | skip
    cases r1
    rename_i c
    refine ⟨c, rfl, ?_⟩
    cases c with
    | true =>
      have p : wb ρ1 P := by simpa [br] using p
      rw [if_pos rfl]
      exact ⟨ρ1, F1, P, s1, p, fun b ρ2 F2 H2 v p2 s2 r2 f2 => k _ _ _ _ _ p2 s2 r2 (f1.trans f2)⟩
    | false =>
      have p : P (.bl false) ρ1 := by simpa [br] using p
      rw [if_neg Bool.false_ne_true]
      exact k _ _ _ _ _ p s1 (.bl false) f1⟩⟩
theorem xe_or (h : XE X a wa) (h2 : XE X (.BoolOp .Or (b :: rest) pos) wb) : XE X (.BoolOp .Or (a :: b :: rest) pos) (wOrV wa wb) := ⟨PE.imp (pe_or h.pe h2.pe) fun σ H Q ⟨ρ, F, P, s, hw, k⟩ =>
  ⟨ρ, F, _, s, hw, fun d ρ1 F1 H1 v p s1 r1 f1 => by
    cases d <;> first
      | exact p.elim
      | skip
    cases r1
    rename_i c
    refine ⟨c, rfl, ?_⟩
    cases c with
    | false =>
      have p : wb ρ1 P := by simpa [br] using p
      rw [if_neg Bool.false_ne_true]
      exact ⟨ρ1, F1, P, s1, p, fun b ρ2 F2 H2 v p2 s2 r2 f2 => k _ _ _ _ _ p2 s2 r2 (f1.trans f2)⟩
    | true =>
      have p : P (.bl true) ρ1 := by simpa [br] using p
      rw [if_pos rfl]
      exact k _ _ _ _ _ p s1 (.bl true) f1⟩⟩
theorem xe_not (h : XE X a wa) : XE X (.UnaryOp .Not a pos) (wNotV wa) := ⟨PE.imp (pe_not h.pe) fun σ H Q ⟨ρ, F, P, s, hw, k⟩ =>
  ⟨ρ, F, _, s, hw, fun d ρ1 F1 H1 v p s1 r1 f1 => by
    cases d <;> first
      | exact p.elim
      | skip
    cases r1
    rename_i c
    exact ⟨c, rfl, k _ _ _ _ _ p s1 (.bl (!c)) f1⟩⟩⟩
theorem xo_if {wt : WT} {va vb : WO} (hc : XT X c wt) (ha : XO X a va) (hb : XO X b vb) : XO X (.IfExp c a b pos) (wIf wt va vb) := ⟨PE.imp (pe_ifExp hc.pt ha.pe hb.pe) fun σ H Q ⟨ρ, F, P, s, hw, k⟩ =>
  ⟨ρ, F, _, s, hw, fun c ρ1 F1 H1 p s1 f1 => by
    cases c with
    | true =>
      have p : va ρ1 P := by simpa [br] using p
      rw [if_pos rfl]
      exact ⟨ρ1, F1, P, s1, p, fun b ρ2 F2 H2 v p2 s2 f2 => k _ _ _ _ _ p2 s2 (f1.trans f2)⟩
    | false =>
      have p : vb ρ1 P := by simpa [br] using p
      rw [if_neg Bool.false_ne_true]
      exact ⟨ρ1, F1, P, s1, p, fun b ρ2 F2 H2 v p2 s2 f2 => k _ _ _ _ _ p2 s2 (f1.trans f2)⟩⟩⟩
theorem xe_if {wt : WT} (hc : XT X c wt) (ha : XE X a wa) (hb : XE X b wb) : XE X (.IfExp c a b pos) (wIf wt wa wb) := ⟨PE.imp (pe_ifExp hc.pt ha.pe hb.pe) fun σ H Q ⟨ρ, F, P, s, hw, k⟩ =>
  ⟨ρ, F, _, s, hw, fun c ρ1 F1 H1 p s1 f1 => by
    cases c with
    | true =>
      have p : wa ρ1 P := by simpa [br] using p
      rw [if_pos rfl]
      exact ⟨ρ1, F1, P, s1, p, fun b ρ2 F2 H2 v p2 s2 r2 f2 => k _ _ _ _ _ p2 s2 r2 (f1.trans f2)⟩
    | false =>
      have p : wb ρ1 P := by simpa [br] using p
      rw [if_neg Bool.false_ne_true]
      exact ⟨ρ1, F1, P, s1, p, fun b ρ2 F2 H2 v p2 s2 r2 f2 => k _ _ _ _ _ p2 s2 r2 (f1.trans f2)⟩⟩⟩
def wNeg (w : WD) : WD := fun ρ P => w ρ fun d ρ' => match d with
  | .int i => P (.int (-i)) ρ'
  | _ => False
theorem xe_neg (h : XE X a wa) : XE X (.UnaryOp .USub a pos) (wNeg wa) := ⟨PE.imp (pe_un un_neg h.pe) fun σ H Q ⟨ρ, F, P, s, hw, k⟩ =>
  ⟨ρ, F, _, s, hw, fun d ρ1 F1 H1 v p s1 r1 f1 => by
    cases d <;> first
      | exact p.elim
      | skip
    cases r1
    exact ⟨_, rfl, k _ _ _ _ _ p s1 (.int _) f1⟩⟩⟩
end

/-! ### lists of expressions -/
def wNil : WL := fun ρ P => P [] ρ
def wCons (w : WD) (wl : WL) : WL := fun ρ P => w ρ fun d ρ1 => wl ρ1 fun ds ρ2 => P (d :: ds) ρ2
abbrev WLO := TEnv → (List O → TEnv → Prop) → Prop
def wNilO : WLO := fun ρ P => P [] ρ
def wConsO (w : WO) (wl : WLO) : WLO := fun ρ P => w ρ fun d ρ1 => wl ρ1 fun ds ρ2 => P (d :: ds) ρ2
def liftAO (K : PySem.W.Frag) (w : WLO) : TA := fun σ H Q => ∃ ρ F P, SR K ρ σ F H ∧ w ρ P ∧
  ∀ os ρ' F' H' vs, P os ρ' → SR K (os.map some ++ ρ') (vs.map some ++ σ) F' H' → vs.length = os.length → Frm (ownedE ρ) F H (ownedE (os.map some ++ ρ')) F' H' → Q vs H'
structure XAO (X : Cx) (es : List Expr) (w : WLO) : Prop where
  pa : PA X es (liftAO X.K w)
theorem ownedE_os : ∀ (os : List O) (ρ : TEnv), ownedE (os.map some ++ ρ) = O.ownedL os ++ ownedE ρ
  | [], _ => rfl
  | o :: os, ρ => by
    show o.owned ++ ownedE (os.map some ++ ρ) = (o.owned ++ O.ownedL os) ++ ownedE ρ
    rw [ownedE_os os ρ, List.append_assoc]
section
variable {X : Cx} {e : Expr} {es : List Expr} {w : WD} {wl : WL} {wo : WO} {wlo : WLO} {pos : Pos}
theorem xa_nil : XA X [] wNil := ⟨PA.imp pa_nil fun σ H Q ⟨ρ, F, P, s, hw, k⟩ => k _ _ _ _ _ hw s .nil .refl⟩
theorem xa_cons (h : XE X e w) (r : XA X es wl) (hs : starEach (e :: es) X.env = (false, eval e X.env) :: starEach es X.env := by rfl) : XA X (e :: es) (wCons w wl) := ⟨PA.imp (pa_cons h.pe r.pa hs) fun σ H Q ⟨ρ, F, P, s, hw, k⟩ =>
  ⟨ρ, F, _, s, hw, fun d ρ1 F1 H1 v p s1 r1 f1 => ⟨ρ1, F1, _, s1, p, fun ds ρ2 F2 H2 vs p2 s2 r2 f2 => k _ _ _ _ _ p2 s2 (.cons (r1.mono f2.fz) r2) (f1.trans f2)⟩⟩⟩
theorem xao_nil : XAO X [] wNilO := ⟨PA.imp pa_nil fun σ H Q ⟨ρ, F, P, s, hw, k⟩ => k [] _ _ _ [] hw s rfl .refl⟩
theorem xao_cons (h : XO X e wo) (r : XAO X es wlo) (hs : starEach (e :: es) X.env = (false, eval e X.env) :: starEach es X.env := by rfl) : XAO X (e :: es) (wConsO wo wlo) := ⟨PA.imp (pa_cons h.pe r.pa hs) fun σ H Q ⟨ρ, F, P, s, hw, k⟩ =>
  ⟨ρ, F, _, s, hw, fun o ρ1 F1 H1 v p s1 f1 => ⟨ρ1, F1, _, s1.pop, p, fun os ρ2 F2 H2 vs p2 s2 l2 f2 => by
    obtain ⟨s3, f3⟩ := s1.frame s2 f2
    exact k (o :: os) ρ2 F2 H2 (v :: vs) p2 s3 (by rw [List.length_cons, List.length_cons, l2]) (f1.trans f3)⟩⟩⟩
def wTup (wl : WL) : WD := fun ρ P => wl ρ fun ds ρ' => ds.length ≤ sizeLine ∧ P (.tup ds) ρ'
theorem xe_tup {x1} (h : XA X es wl) : XE X (.Tuple es x1 pos) (wTup wl) := ⟨PE.imp (pe_tup h.pa) fun σ H Q ⟨ρ, F, P, s, hw, k⟩ =>
  ⟨ρ, F, _, s, hw, fun ds ρ1 F1 H1 vs p s1 r1 f1 => ⟨by rw [r1.length]; exact p.1, fun q hq => by
    obtain ⟨s2, f2⟩ := Res.tup s1.sub hq p.1 r1 _ _ s1
    exact k _ _ _ _ _ p.2 s2.pop s2.topD (f1.trans f2)⟩⟩⟩
theorem RepOL.split {K : PySem.W.Frag} {F H : Hp} : ∀ {os : List O} {ρ : TEnv} {vs : List V} {σ : L2.St}, SR K (os.map some ++ ρ) (vs.map some ++ σ) F H → vs.length = os.length → RepOL K F H vs os ∧ SR K ρ σ F H
  | [], ρ, [], σ, s, _ => ⟨.nil, s⟩
  | o :: os, ρ, v :: vs, σ, s, l => by
    obtain ⟨r, s'⟩ := RepOL.split (os := os) (vs := vs) s.pop (by simpa using l)
    exact ⟨.cons s.top r, s'⟩
def wLst (wl : WLO) : WO := fun ρ P => wl ρ fun os ρ' => os.length ≤ sizeLine ∧ ∀ a, P (.lst a os) ρ'
theorem xo_lst (h : XAO X es wlo) : XO X (.List es pos) (wLst wlo) := ⟨PE.imp (pe_lst h.pa) fun σ H Q ⟨ρ, F, P, s, hw, k⟩ =>
  ⟨ρ, F, _, s, hw, fun os ρ1 F1 H1 vs p s1 l1 f1 => ⟨by rw [l1]; exact p.1, fun q hq => by
    obtain ⟨r, s2⟩ := RepOL.split s1 l1
    have fq : F1 q = none := s1.sub.free hq
    have nq : q ∉ ownedE (os.map some ++ ρ1) := fun z => by
      obtain ⟨u, e⟩ := s1.thereE q z
      rw [hq] at e; cases e
    have own := s1.own
    have nd := s1.nd
    rw [ownedE_os] at nq own nd
    have st : ∀ b u, H1 b = some u → upd H1 q (.lst vs) b = some u := fun b u e => by
      rw [upd_ne (ne_of_none e hq)]; exact e
    have r' : RepOL X.K F1 (upd H1 q (.lst vs)) vs os := r.mono (fun _ _ h => h) fun b _ u e => st b u e
    have g : Grow F1 H1 F1 (upd H1 q (.lst vs)) := ⟨fun _ _ h => h, fun b u _ _ hf e => ⟨st b u e, hf⟩, fun _ h => (nomatch h), fun b u e => ⟨u, st b u e⟩, fun b u w e => st b _ e⟩
    have sb : Sb F1 (upd H1 q (.lst vs)) := fun b u h => by
      rw [upd_ne (ne_of_none h fq)]; exact s1.sub b u h
    have s3 := s2.grow g sb
    refine k (.lst q os) ρ1 F1 _ _ (p.2 q) (s3.push (.lst upd_same p.1 r') ?_ ?_) ?_
    · intro a ha
      rcases List.mem_cons.mp ha with e | ha
      · subst e; exact fq
      · exact own a (List.mem_append_left _ ha)
    · exact List.nodup_cons.mpr ⟨nq, nd⟩
    · refine f1.trans ⟨g.fz, fun b u _ ht hf e => g.out b u (by simp) ht hf e, fun b hb => ?_, g.dom, g.lk⟩
      rw [ownedE_os]
      rcases List.mem_append.mp hb with h | h
      · rcases List.mem_cons.mp h with e | h
        · subst e; exact .inr hq
        · exact .inl (List.mem_append_left _ h)
      · exact .inl (List.mem_append_right _ h)⟩⟩⟩
end

/-! ### indices, slices -/
def wIx (wa wb : WD) : WD := fun ρ P => wa ρ fun d ρ1 => wb ρ1 fun e ρ2 => semIx d e fun u => P u ρ2
/-- of a name's list, which is held -/
def wIxL (i : Nat) (wb : WD) : WD := fun ρ P => match nth ρ i with
  | some _ => wb ρ fun e ρ2 => match nth ρ2 i with
    | some (.fz d) => semIx d e fun u => P u ρ2
    | some (.lst _ os) => ∃ k u, e = .int k ∧ atI os k = some (.fz u) ∧ P u ρ2
    | _ => False
  | none => False
abbrev WP := TEnv → (Option Int → TEnv → Prop) → Prop
def liftP (K : PySem.W.Frag) (w : WP) : TO := fun σ H Q => ∃ ρ F P, SR K ρ σ F H ∧ w ρ P ∧
  ∀ b ρ' F' H', P b ρ' → SR K ρ' σ F' H' → Frm (ownedE ρ) F H (ownedE ρ') F' H' → Q b H'
structure XP (X : Cx) (e : Option Expr) (w : WP) : Prop where
  po : PO X e (liftP X.K w)
def wNoP : WP := fun ρ P => P none ρ
def wSoP (w : WD) : WP := fun ρ P => w ρ fun d ρ' => match d with
  | .int i => P (some i) ρ'
  | _ => False
def wSl (wa : WD) (wl wh : WP) : WO := fun ρ P => wa ρ fun d ρ1 => wl ρ1 fun lo ρ2 => wh ρ2 fun hi ρ3 => semSl d lo hi fun o => P o ρ3
theorem PO.imp {X : Cx} {e : Option Expr} {t t' : TO} (h : PO X e t) (i : ∀ σ H Q, t' σ H Q → t σ H Q) : PO X e t' := ⟨fun pins s σ H Q I hw => h.run pins s σ H Q I (i _ _ _ hw)⟩
section
variable {X : Cx} {a b e : Expr} {wa wb w : WD} {pos p2 : Pos} {lo hi : Option Expr} {wl wh : WP}
theorem RepOL.atI {K : PySem.W.Frag} {F H : Hp} {xs : List V} {ds : List O} {i : Int} {u : O} (r : RepOL K F H xs ds) (h : L2.atI ds i = some u) : ∃ v, L2.atI xs i = some v ∧ RepO K F H v u := by
  unfold L2.atI at h ⊢
  rw [r.length]
  cases q : ixN ds.length i with
  | none => rw [q] at h; cases h
  | some j =>
    rw [q] at h
    exact r.get h
theorem sem_ix {K : PySem.W.Frag} {F H : Hp} {x y : V} {d e : D} {P : D → Prop} {Q : VK} (sb : Sb F H) (rx : Rep K F x d) (ry : Rep K F y e) (hs : semIx d e P) (k : ∀ u v, P u → Rep K F v u → Q v H) : rIx K x y H Q := by
  unfold semIx at hs
  split at hs
  · obtain ⟨u, h, p⟩ := hs
    cases ry
    cases rx with
    | tup h1 z r =>
      obtain ⟨v, hv, rv⟩ := r.atI h
      exact .inr (.inl ⟨_, _, _, v, rfl, rfl, sb.sqT h1, hv, k _ _ p rv⟩)
  · obtain ⟨u, h, p⟩ := hs
    cases ry
    cases rx with
    | lst h1 z r =>
      obtain ⟨v, hv, rv⟩ := r.atI h
      exact .inl ⟨_, _, _, v, rfl, rfl, .inl (.inl (sb.lst h1)), hv, k _ _ p rv⟩
  · obtain ⟨u, h, p⟩ := hs
    cases ry
    cases rx with
    | frl h1 z r =>
      obtain ⟨v, hv, rv⟩ := r.atI h
      exact .inl ⟨_, _, _, v, rfl, rfl, sb.sqL h1, hv, k _ _ p rv⟩
  · obtain ⟨c, h, p⟩ := hs
    cases ry
    cases rx with
    | str _ z => exact .inr (.inr ⟨_, _, c, rfl, rfl, z, h, k _ _ p (.str _ (by show 1 ≤ sizeLine; decide))⟩)
  · exact hs.elim
theorem xe_ix (ha : XE X a wa) (hb : XE X b wb) (hs : PlainIx b := by exact fun _ _ => rfl) : XE X (.Subscript a b pos) (wIx wa wb) := ⟨PE.imp (pe_ix ix_seq ha.pe hb.pe hs) fun σ H Q ⟨ρ, F, P, s, hw, k⟩ =>
  ⟨ρ, F, _, s, hw, fun d ρ1 F1 H1 v p s1 r1 f1 => ⟨ρ1, F1, _, s1, p, fun e ρ2 F2 H2 u p2 s2 r2 f2 => sem_ix s2.sub (r1.mono f2.fz) r2 p2 fun u' v' p3 r3 => k _ _ _ _ _ p3 s2 r3 (f1.trans f2)⟩⟩⟩
theorem xe_ixL {i : Nat} (ha : PE X a (tVar i)) (hb : XE X b wb) (hs : PlainIx b := by exact fun _ _ => rfl) : XE X (.Subscript a b pos) (wIxL i wb) := ⟨PE.imp (pe_ix ix_seq ha hb.pe hs) fun σ H Q ⟨ρ, F, P, s, hw, k⟩ => by
  unfold wIxL at hw
  cases hn0 : nth ρ i with
  | none => rw [hn0] at hw; exact hw.elim
  | some o0 =>
  rw [hn0] at hw
  obtain ⟨x, hx, _⟩ := s.slot i o0 (nth_eq hn0)
  refine ⟨x, hx, ρ, F, _, s, hw, fun e ρ2 F2 H2 u p2 s2 r2 f2 => ?_⟩
  cases hn : nth ρ2 i with
  | none => rw [hn] at p2; exact p2.elim
  | some o =>
    rw [hn] at p2
    obtain ⟨v, hv, ro⟩ := s2.slot i o (nth_eq hn)
    rw [hx] at hv
    cases hv
    cases o with
    | fz d =>
      cases ro with
      | fz r => exact sem_ix s2.sub r r2 p2 fun u' v' p3 r3 => k _ _ _ _ _ p3 s2 r3 f2
    | lst a os =>
      obtain ⟨n, u', e1, e2, p3⟩ := p2
      subst e1
      cases r2
      cases ro with
      | lst h z r =>
        obtain ⟨w, hw', rw'⟩ := r.atI e2
        cases rw' with
        | fz rw' => exact .inl ⟨_, _, _, w, rfl, rfl, .inl (.inl h), hw', k _ _ _ _ _ p3 s2 rw' f2⟩
    | dct a os => exact p2.elim
    | dcT a os => exact p2.elim
    | ins a b c os => exact p2.elim⟩
theorem xp_none : XP X none wNoP := ⟨PO.imp po_none fun σ H Q ⟨ρ, F, P, s, hw, k⟩ => k _ _ _ _ hw s .refl⟩
theorem xp_some (h : XE X e w) : XP X (some e) (wSoP w) := ⟨PO.imp (po_some h.pe) fun σ H Q ⟨ρ, F, P, s, hw, k⟩ =>
  ⟨ρ, F, _, s, hw, fun d ρ1 F1 H1 v p s1 r1 f1 => by
    cases d <;> first
      | exact p.elim
      | skip
    cases r1
    exact ⟨_, rfl, k _ _ _ _ p s1 f1⟩⟩⟩
theorem xo_sl (ha : XE X a wa) (hl : XP X lo wl) (hh : XP X hi wh) : XO X (.Subscript a (.Slice lo hi none p2) pos) (wSl wa wl wh) := ⟨PE.imp (pe_slice sl_T ha.pe hl.po hh.po) fun σ H Q ⟨ρ, F, P, s, hw, k⟩ =>
  ⟨ρ, F, _, s, hw, fun d ρ1 F1 H1 v p s1 r1 f1 => ⟨ρ1, F1, _, s1, p, fun l ρ2 F2 H2 p2 s2 f2 => ⟨ρ2, F2, _, s2, p2, fun h ρ3 F3 H3 p3 s3 f3 =>
    sem_sl s3.sub ((r1.mono f2.fz).mono f3.fz) p3 fun o v' F4 H4 p4 res => by
      obtain ⟨s4, f4⟩ := res _ _ s3
      exact k _ _ _ _ _ p4 s4 (((f1.trans f2).trans f3).trans f4)⟩⟩⟩⟩
end
end Tr
/-! The tree layer: calls, statements. -/
namespace Tr
open PySem PySem.Spec PyProof.Rows L2

/-! ### calls of built-in functions -/
def SemO1 (K : PySem.W.Frag) (r : List V → Hp → VK → Prop) (sem : D → (O → Prop) → Prop) : Prop :=
  ∀ (F H : Hp) (x : V) (d : D) (P : O → Prop) (Q : VK), Sb F H → Rep K F x d → sem d P → (∀ o v F' H', P o → Res K F H o v F' H' → Q v H') → r [x] H Q
def wC1 (sem : D → (D → Prop) → Prop) (w : WD) : WD := fun ρ P => w ρ fun d ρ' => sem d fun u => P u ρ'
def wO1 (sem : D → (O → Prop) → Prop) (w : WD) : WO := fun ρ P => w ρ fun d ρ' => sem d fun u => P u ρ'
/-- the built-in classes that isinstance is asked of -/
inductive PT where
  | int
  | bl
  | str
  | tup
  | lst
  | dct
def PT.nm : PT → String
  | .int => "int"
  | .bl => "bool"
  | .str => "str"
  | .tup => "tuple"
  | .lst => "list"
  | .dct => "dict"
def D.is (t : PT) (d : D) : Option Bool := match d with
  | .non => some false
  | .bl _ => some (match t with
    | .bl => true
    | .int => true
    | _ => false)
  | .int _ => some (match t with
    | .int => true
    | _ => false)
  | .str _ => some (match t with
    | .str => true
    | _ => false)
  | .tup _ => some (match t with
    | .tup => true
    | _ => false)
  | .lst _ => some (match t with
    | .lst => true
    | _ => false)
  | .dct _ => some (match t with
    | .dct => true
    | _ => false)
  | _ => none
theorem is_isA {t : PT} {d : D} {b : Bool} (h : d.is t = some b) : d.isA t.nm = some b := by
  cases d <;> first
    | (cases h; done)
    | (cases h; cases t <;> rfl)
def wIsi (t : PT) (w : WD) : WD := fun ρ P => w ρ fun d ρ' => match d.is t with
  | some b => P (.bl b) ρ'
  | none => False
section
variable {X : Cx} {x : Str} {p pos pn : Pos} {e e2 : Expr} {id T : String} {r : List V → Hp → VK → Prop} {sem : D → (D → Prop) → Prop} {semo : D → (O → Prop) → Prop} {w w2 : WD}
theorem t_c1 (hs : SemC1 X.K r sem) {σ : L2.St} {H : Hp} {Q : VK} (h : liftD X.K (wC1 sem w) σ H Q) : tCB r (tCons (liftB X.K w) tNil) σ H Q := by
  obtain ⟨ρ, F, P, s, hw, k⟩ := h
  exact ⟨ρ, F, _, s, hw, fun d ρ' F' F'' H' v p s' sb su r f => hs F'' H' _ d _ Q sb r p fun u v' p' rr => k _ _ _ _ _ p' s' (rr _) f⟩
theorem t_o1 (hs : SemO1 X.K r semo) {σ : L2.St} {H : Hp} {Q : VK} (h : liftO X.K (wO1 semo w) σ H Q) : tCB r (tCons (liftD X.K w) tNil) σ H Q := by
  obtain ⟨ρ, F, P, s, hw, k⟩ := h
  exact ⟨ρ, F, _, s, hw, fun d ρ' F' H' v p s' r f => hs F' H' _ d _ Q s'.sub r p fun o v' F2 H2 p' res => by
    obtain ⟨s2, f2⟩ := res _ _ s'
    exact k _ _ _ _ _ p' s2 (f.trans f2)⟩
theorem xe_callB (hc : CallR X (.builtin id) r) (hs : SemC1 X.K r sem) (hg : Gl X x) (hm : X.mg x = none) (hv : bootBuiltins x = some (.builtin id)) (ha : XB X e w) (hn : x ≠ "__name__" := by decide) (hdb : (x == ("__debug__" : Str)) = false := by decide)
    (he : starEach [e] X.env = (false, eval e X.env) :: starEach [] X.env := by rfl) (hpl : (backTo pos (starEach [] X.env)).any (·.1) = false := by rfl) : XE X (.Call (.Name x p) [e] [] pos) (wC1 sem w) :=
  ⟨PE.imp (pe_callB hc hg hm hv (pa_cons ha.pe pa_nil he) hn hdb he hpl) fun _ _ _ h => t_c1 hs h⟩
theorem xe_callTy (hc : CallR X (.type T) r) (hs : SemC1 X.K r sem) (hg : Gl X x) (hm : X.mg x = none) (hv : bootBuiltins x = some (.type T)) (ha : XB X e w) (hn : x ≠ "__name__" := by decide) (hdb : (x == ("__debug__" : Str)) = false := by decide)
    (he : starEach [e] X.env = (false, eval e X.env) :: starEach [] X.env := by rfl) (hpl : (backTo pos (starEach [] X.env)).any (·.1) = false := by rfl) : XE X (.Call (.Name x p) [e] [] pos) (wC1 sem w) :=
  ⟨PE.imp (pe_callTy hc hg hm hv (pa_cons ha.pe pa_nil he) hn hdb he hpl) fun _ _ _ h => t_c1 hs h⟩
theorem xo_callTy (hc : CallR X (.type T) r) (hs : SemO1 X.K r semo) (hg : Gl X x) (hm : X.mg x = none) (hv : bootBuiltins x = some (.type T)) (ha : XE X e w) (hn : x ≠ "__name__" := by decide) (hdb : (x == ("__debug__" : Str)) = false := by decide)
    (he : starEach [e] X.env = (false, eval e X.env) :: starEach [] X.env := by rfl) (hpl : (backTo pos (starEach [] X.env)).any (·.1) = false := by rfl) : XO X (.Call (.Name x p) [e] [] pos) (wO1 semo w) :=
  ⟨PE.imp (pe_callTy hc hg hm hv (pa_cons ha.pe pa_nil he) hn hdb he hpl) fun _ _ _ h => t_o1 hs h⟩
theorem xo_callB (hc : CallR X (.builtin id) r) (hs : SemO1 X.K r semo) (hg : Gl X x) (hm : X.mg x = none) (hv : bootBuiltins x = some (.builtin id)) (ha : XE X e w) (hn : x ≠ "__name__" := by decide) (hdb : (x == ("__debug__" : Str)) = false := by decide)
    (he : starEach [e] X.env = (false, eval e X.env) :: starEach [] X.env := by rfl) (hpl : (backTo pos (starEach [] X.env)).any (·.1) = false := by rfl) : XO X (.Call (.Name x p) [e] [] pos) (wO1 semo w) :=
  ⟨PE.imp (pe_callB hc hg hm hv (pa_cons ha.pe pa_nil he) hn hdb he hpl) fun _ _ _ h => t_o1 hs h⟩
/-- two operands, an answer that is no object -/
def SemC2 (K : PySem.W.Frag) (r : List V → Hp → VK → Prop) (sem : D → D → (D → Prop) → Prop) : Prop :=
  ∀ (F H : Hp) (x y : V) (d e : D) (P : D → Prop) (Q : VK), Sb F H → Rep K F x d → Rep K F y e → sem d e P → (∀ u v, P u → (∀ G, Rep K G v u) → Q v H) → r [x, y] H Q
theorem xe_callB2 {sem2 : D → D → (D → Prop) → Prop} (hc : CallR X (.builtin id) r) (hs : SemC2 X.K r sem2) (hg : Gl X x) (hm : X.mg x = none) (hv : bootBuiltins x = some (.builtin id)) (ha : XE X e w) (hb : XE X e2 w2) (hn : x ≠ "__name__" := by decide) (hdb : (x == ("__debug__" : Str)) = false := by decide)
    (he : starEach [e, e2] X.env = (false, eval e X.env) :: starEach [e2] X.env := by rfl) (he2 : starEach [e2] X.env = (false, eval e2 X.env) :: starEach [] X.env := by rfl) (hpl : (backTo pos (starEach [e2] X.env)).any (·.1) = false := by rfl) :
    XE X (.Call (.Name x p) [e, e2] [] pos) (wCmp sem2 w w2) :=
  ⟨PE.imp (pe_callB hc hg hm hv (pa_cons ha.pe (pa_cons hb.pe pa_nil he2) he) hn hdb he hpl) fun σ H Q ⟨ρ, F, P, s, hw, k⟩ =>
    ⟨ρ, F, _, s, hw, fun d ρ1 F1 H1 v p s1 r1 f1 => ⟨ρ1, F1, _, s1, p, fun e ρ2 F2 H2 u p2 s2 r2 f2 =>
      hs F2 H2 _ _ d e _ Q s2.sub (r1.mono f2.fz) r2 p2 fun u' v' p3 rr => k _ _ _ _ _ p3 s2 (rr _) (f1.trans f2)⟩⟩⟩
theorem sem_max2 : SemC2 X.K (fun xs H Q => ∃ i j, xs = [.int i, .int j] ∧ Q (.int (if j > i then j else i)) H) semMax2 := by
  intro F H x y d e P Q sb rx ry hs k
  unfold semMax2 at hs
  split at hs
  · cases rx; cases ry; exact ⟨_, _, rfl, k _ _ hs fun _ => .int _⟩
  · exact hs.elim
theorem sem_min2 : SemC2 X.K (fun xs H Q => ∃ i j, xs = [.int i, .int j] ∧ Q (.int (if j < i then j else i)) H) semMin2 := by
  intro F H x y d e P Q sb rx ry hs k
  unfold semMin2 at hs
  split at hs
  · cases rx; cases ry; exact ⟨_, _, rfl, k _ _ hs fun _ => .int _⟩
  · exact hs.elim
/-- isinstance(e, T), T a built-in class -/
theorem xe_isi {t : PT} (hg : Gl X "isinstance") (hm : X.mg "isinstance" = none) (hgT : Gl X x) (hmT : X.mg x = none) (hvT : bootBuiltins x = some (.type t.nm)) (ha : XB X e w) (hn : x ≠ "__name__" := by decide) (hdb : (x == ("__debug__" : Str)) = false := by decide)
    (he : starEach [e, .Name x pn] X.env = (false, eval e X.env) :: starEach [.Name x pn] X.env := by rfl) (he2 : starEach [.Name x pn] X.env = (false, eval (.Name x pn) X.env) :: starEach [] X.env := by rfl) (hpl : (backTo pos (starEach [.Name x pn] X.env)).any (·.1) = false := by rfl) :
    XE X (.Call (.Name "isinstance" p) [e, .Name x pn] [] pos) (wIsi t w) := by
  have hN : PE X (.Name x pn) (tC (.ty t.nm)) := pe_bltn hgT hmT hvT rfl hn hdb
  refine ⟨PE.imp (pe_callB call_isi hg hm boot_isinstance (pa_cons ha.pe (pa_cons hN pa_nil he2) he) (by decide) (by decide) he hpl) fun σ H Q ⟨ρ, F, P, s, hw, k⟩ => ?_⟩
  refine ⟨ρ, F, _, s, hw, fun d ρ' F' F'' H' v p s' sb su r f => ?_⟩
  cases hd : d.is t with
  | none => rw [hd] at p; exact p.elim
  | some b =>
    rw [hd] at p
    obtain ⟨tt, ty, kt⟩ := isi_ok sb r (is_isA hd)
    exact ⟨v, .ty t.nm, tt, .type t.nm, b, rfl, .ty t.nm, ty, kt, k _ _ _ _ _ p s' (.bl b) f⟩
def semTuple (d : D) (P : O → Prop) : Prop := match d.items with
  | some ds => P (.fz (.tup ds))
  | none => False
theorem sem_tuple : SemO1 X.K (fun xs H Q => ∃ p ys, xs = [.ref p] ∧ ((SqL X.K H p ys ∧ ∀ l, H l = none → Q (.ref l) (upd H l (.tup ys))) ∨ (SqT X.K H p ys ∧ Q (.ref p) H))) semTuple := by
  intro F H x d P Q sb rx hs k
  unfold semTuple at hs
  cases rx <;> first
    | (exact hs.elim)
    | skip
  · rename_i h1 z r; exact ⟨_, _, rfl, .inr ⟨sb.sqT h1, k _ _ _ _ hs (.fz (.tup h1 z r))⟩⟩
  · rename_i h1 z r; exact ⟨_, _, rfl, .inl ⟨.inl (.inl (sb.lst h1)), fun l hl => k _ _ _ _ hs (.tup sb hl z r)⟩⟩
  · rename_i h1 z r; exact ⟨_, _, rfl, .inl ⟨sb.sqL h1, fun l hl => k _ _ _ _ hs (.tup sb hl z r)⟩⟩
def semList (d : D) (P : O → Prop) : Prop := match d.items with
  | some ds => ∀ a, P (.lst a (ds.map .fz))
  | none => False
theorem sem_list : SemO1 X.K (fun xs H Q => ∃ p ys, xs = [.ref p] ∧ (SqL X.K H p ys ∨ SqT X.K H p ys) ∧ ∀ l, H l = none → Q (.ref l) (upd H l (.lst ys))) semList := by
  intro F H x d P Q sb rx hs k
  unfold semList at hs
  cases hi : d.items with
  | none => rw [hi] at hs; exact hs.elim
  | some ds =>
    rw [hi] at hs
    obtain ⟨p, xs, rfl, hq, r, z⟩ := rx.seq sb hi
    exact ⟨p, xs, rfl, hq, fun l hl => k _ _ _ _ (hs l) (.lst hl z r)⟩
end

/-- {} -/
def wDct0 : WO := fun ρ P => ∀ a, P (.dct a []) ρ
theorem xo_dct0 {X : Cx} {pos : Pos} : XO X (.Dict [] [] pos) wDct0 := ⟨PE.imp pe_dnewK fun σ H Q ⟨ρ, F, P, s, hw, k⟩ q hq => by
  obtain ⟨s2, f2⟩ := s.newO (u := .dK []) (o := .dct q []) hq (.dct upd_same (Nat.zero_le _) .nil) rfl
  exact k _ _ _ _ _ (hw q) s2 f2⟩
/-! ### calls of the text's defs -/
/-- what a def does to things: its arguments, its answer and what the arguments are behind it -/
abbrev SpT := List O → (O → List O → Prop) → Prop
def liftSp (K : PySem.W.Frag) (sp : SpT) : Sp := fun vs H Q _ => ∃ os F P, SR K (os.map some) (vs.map some) F H ∧ sp os P ∧
  ∀ o os' F' H' v, P o os' → SR K (some o :: os'.map some) (some v :: vs.map some) F' H' → Frm (ownedE (os.map some)) F H (ownedE (some o :: os'.map some)) F' H' → Q v H'
section
variable {K : PySem.W.Frag} {ρ : TEnv} {σ : L2.St} {F H F' H' : Hp}
theorem ownedE_D : ∀ ds : List D, ownedE ((ds.map O.fz).map some) = []
  | [] => rfl
  | d :: ds => by
    show ([] : List Addr) ++ ownedE ((ds.map O.fz).map some) = []
    rw [ownedE_D ds]
    rfl
theorem SR.args (s : SR K ρ σ F H) : ∀ {vs : List V} {ds : List D}, RepL K F vs ds → SR K ((ds.map O.fz).map some) (vs.map some) F H
  | _, _, .nil => ⟨s.sub, rfl, fun _ _ e => (by cases e), fun _ h => (by cases h), List.nodup_nil⟩
  | _, _, .cons h r => (SR.args s r).pushD h
/-- what stands outside stays -/
theorem SR.out {L L' : List Addr} (s : SR K ρ σ F H) (f : Frm L F H L' F' H') (sb : Sb F' H') (d : ∀ a ∈ ownedE ρ, a ∉ L) : SR K ρ σ F' H' ∧ ∀ a ∈ ownedE ρ, a ∉ L' := by
  have key : ∀ a ∈ ownedE ρ, ∀ u, H a = some u → H' a = some u ∧ F' a = none := fun a ha u e => f.out a u (d a ha) (s.ntE a ha u e) (s.own a ha) e
  refine ⟨⟨sb, s.len, fun i o e => ?_, fun a ha => ?_, s.nd⟩, fun a ha hL => ?_⟩
  · obtain ⟨v, hv, r⟩ := s.slot i o e
    exact ⟨v, hv, r.mono f.fz fun a ha u hu => (key a (mem_ownedE e a ha) u hu).1⟩
  · obtain ⟨u, e⟩ := s.thereE a ha
    exact (key a ha u e).2
  · obtain ⟨u, e⟩ := s.thereE a ha
    rcases f.new a hL with z | z
    · exact d a ha z
    · rw [e] at z; cases z
theorem SR.set {i : Nat} {o : O} {v : V} (s : SR K (some o :: ρ) (some v :: σ) F H) (hv : σ[i]? = some (some v)) : SR K (ρ.set i (some o)) σ F H ∧ ∀ b, b ∈ ownedE (ρ.set i (some o)) → b ∈ ownedE (some o :: ρ) := by
  obtain ⟨s1, m⟩ := s.store (i := i)
  rw [set_getElemV hv] at s1
  exact ⟨s1, m⟩
/-- a call with data alone -/
theorem liftSp_D {sp : SpT} {vs : List V} {ds : List D} {P : O → Prop} {Q : VK} {E : XK} (s : SR K ρ σ F H) (r : RepL K F vs ds) (h : sp (ds.map .fz) fun o _ => P o)
    (k : ∀ o F' H' v, P o → SR K (some o :: ρ) (some v :: σ) F' H' → Frm (ownedE ρ) F H (ownedE (some o :: ρ)) F' H' → Q v H') : liftSp K sp vs H Q E := by
  refine ⟨ds.map .fz, F, _, s.args r, h, fun o os' F' H' v p s' f => ?_⟩
  rw [ownedE_D] at f
  obtain ⟨s1, n1⟩ := s.out f s'.sub fun _ _ h => by cases h
  have nd := List.nodup_append.mp s'.nd
  refine k o F' H' v p (s1.push s'.top (fun a ha => s'.own a (List.mem_append_left _ ha)) ?_) ⟨f.fz, fun b u _ => f.out b u (by simp), fun b hb => ?_, f.dom, f.lk⟩
  · exact List.nodup_append.mpr ⟨nd.1, s1.nd, fun a ha b hb e => by
      subst e
      exact n1 a hb (List.mem_append_left _ ha)⟩
  · rcases List.mem_append.mp hb with h | h
    · rcases f.new b (List.mem_append_left _ h) with z | z
      · cases z
      · exact .inr z
    · exact .inl h
/-- a call that changes the thing at slot i -/
theorem liftSp_S {sp : SpT} {i : Nat} {o0 : O} {v0 : V} {vs : List V} {ds : List D} {P : O → TEnv → Prop} {Q : VK} {E : XK} (s : SR K ρ σ F H) (e0 : ρ[i]? = some (some o0)) (hv0 : σ[i]? = some (some v0)) (r : RepL K F vs ds)
    (h : sp (o0 :: ds.map .fz) fun o os' => ∃ o' r', os' = o' :: r' ∧ P o (ρ.set i (some o')))
    (k : ∀ o ρ' F' H' v, P o ρ' → SR K (some o :: ρ') (some v :: σ) F' H' → Frm (ownedE ρ) F H (ownedE (some o :: ρ')) F' H' → Q v H') : liftSp K sp (v0 :: vs) H Q E := by
  obtain ⟨v, hv, st, mt⟩ := s.take e0
  rw [hv0] at hv
  cases hv
  have ndt := List.nodup_append.mp st.nd
  have sa : SR K ((o0 :: ds.map O.fz).map some) ((v0 :: vs).map some) F H := by
    refine (s.args r).push st.top (fun a ha => st.own a (List.mem_append_left _ ha)) ?_
    rw [ownedE_D, List.append_nil]
    exact ndt.1
  have eA : ownedE ((o0 :: ds.map O.fz).map some) = o0.owned := by
    show o0.owned ++ ownedE ((ds.map O.fz).map some) = _
    rw [ownedE_D, List.append_nil]
  refine ⟨o0 :: ds.map .fz, F, _, sa, h, fun o os' F' H' v p s' f => ?_⟩
  rw [eA] at f
  obtain ⟨o', r', rfl, p⟩ := p
  obtain ⟨sB, nB⟩ := st.pop.out f s'.sub fun a ha hb => ndt.2.2 a hb a ha rfl
  -- s' : answer, the changed thing, the rest
  have nd := List.nodup_append.mp s'.nd
  have nd2 : o'.owned.Nodup ∧ (ownedE (r'.map some)).Nodup ∧ ∀ a ∈ o'.owned, ∀ b ∈ ownedE (r'.map some), a ≠ b := List.nodup_append.mp nd.2.1
  have s2 : SR K (some o' :: ρ.set i none) (some v0 :: σ) F' H' := sB.push s'.pop.top (fun a ha => s'.own a (List.mem_append_right _ (List.mem_append_left _ ha))) (List.nodup_append.mpr ⟨nd2.1, sB.nd, fun a ha b hb e => by
    subst e
    exact nB a hb (List.mem_append_right _ (List.mem_append_left _ ha))⟩)
  obtain ⟨s3, m3⟩ := s2.set (i := i) hv0
  rw [List.set_set] at s3 m3
  have s4 : SR K (some o :: ρ.set i (some o')) (some v :: σ) F' H' := s3.push s'.top (fun a ha => s'.own a (List.mem_append_left _ ha)) (List.nodup_append.mpr ⟨nd.1, s3.nd, fun a ha b hb e => by
    subst e
    rcases List.mem_append.mp (m3 a hb) with h | h
    · exact nd.2.2 a ha a (List.mem_append_left _ h) rfl
    · exact nB a h (List.mem_append_left _ ha)⟩)
  refine k o _ F' H' v p s4 ⟨f.fz, fun b u hb ht hf e => f.out b u (fun z => hb ((mt b).mpr (List.mem_append_left _ z))) ht hf e, fun b hb => ?_, f.dom, f.lk⟩
  rcases List.mem_append.mp hb with h | h
  · rcases f.new b (List.mem_append_left _ h) with z | z
    · exact .inl ((mt b).mpr (List.mem_append_left _ z))
    · exact .inr z
  · rcases List.mem_append.mp (m3 b h) with h | h
    · rcases f.new b (List.mem_append_right _ (List.mem_append_left _ h)) with z | z
      · exact .inl ((mt b).mpr (List.mem_append_left _ z))
      · exact .inr z
    · exact .inl ((mt b).mpr (List.mem_append_right _ h))
end
def wCall (sp : SpT) (wl : WL) : WO := fun ρ P => wl ρ fun ds ρ' => sp (ds.map .fz) fun o _ => P o ρ'
def wCallS (sp : SpT) (i : Nat) (wl : WL) : WO := fun ρ P => match nth ρ i with
  | some _ => wl ρ fun ds ρ' => match nth ρ' i with
    | some o => sp (o :: ds.map .fz) fun r os' => ∃ o' t, os' = o' :: t ∧ putC ρ' i (some o') (P r)
    | none => False
  | none => False
section
variable {X : Cx} {k : Nat} {f : Addr} {fd : FuncData} {ps : List Str} {sp : SpT} {x : Str} {p pos : Pos} {e : Expr} {es : List Expr} {wl : WL} {i : Nat}
theorem t_call {σ : L2.St} {H : Hp} {Q : VK} {E : XK} (h : liftO X.K (wCall sp wl) σ H Q) : tCall (liftSp X.K sp) [] E (liftA X.K wl) σ H Q := by
  obtain ⟨ρ, F, P, s, hw, k⟩ := h
  refine ⟨ρ, F, _, s, hw, fun ds ρ1 F1 H1 vs p s1 r1 f1 => ?_⟩
  show liftSp X.K sp (vs ++ []) H1 Q E
  rw [List.append_nil]
  exact liftSp_D (P := fun o => P o ρ1) s1 r1 p fun o F' H' v p' s' f' => k _ _ _ _ _ p' s' (f1.trans f')
theorem xo_call (G : FnOk X.prog X.w X.K X.mg X.base CX0 k f fd ps (liftSp X.K sp)) (hr : Room k X.A) (hg : Gl X x) (hm : X.mg x = some (.ref f)) (hk : PySem.W.keepIn X.K (.ref f) = true) (hb : Binds X.K fd ps [])
    (ha : XA X (e :: es) wl) (hdb : (x == ("__debug__" : Str)) = false := by decide) (he : starEach (e :: es) X.env = (false, eval e X.env) :: starEach es X.env := by rfl) (hpl : (backTo pos (starEach es X.env)).any (·.1) = false := by rfl) :
    XO X (.Call (.Name x p) (e :: es) [] pos) (wCall sp wl) := ⟨PE.imp (pe_call G hr hg hm hk hb .nil pass0 ha.pa hdb he hpl) fun _ _ _ h => t_call h⟩
theorem xo_call0 (G : FnOk X.prog X.w X.K X.mg X.base CX0 k f fd ps (liftSp X.K sp)) (hr : Room k X.A) (hg : Gl X x) (hm : X.mg x = some (.ref f)) (hk : PySem.W.keepIn X.K (.ref f) = true) (hb : Binds X.K fd ps [])
    (hdb : (x == ("__debug__" : Str)) = false := by decide) : XO X (.Call (.Name x p) [] [] pos) (wCall sp wNil) := ⟨PE.imp (pe_call0 G hr hg hm hk hb .nil pass0 hdb) fun σ H Q h => by
  obtain ⟨ρ, F, P, s, hw, k⟩ := h
  show liftSp X.K sp ([] ++ []) H Q E0
  exact liftSp_D (P := fun o => P o ρ) s .nil hw fun o F' H' v p' s' f' => k _ _ _ _ _ p' s' f'⟩
theorem t_callS {σ : L2.St} {H : Hp} {Q : VK} {E : XK} (h : liftO X.K (wCallS sp i wl) σ H Q) : tCall (liftSp X.K sp) [] E (tCons (tVar i) (liftA X.K wl)) σ H Q := by
  obtain ⟨ρ, F, P, s, hw, k⟩ := h
  unfold wCallS at hw
  cases hn0 : nth ρ i with
  | none => rw [hn0] at hw; exact hw.elim
  | some o0 =>
  rw [hn0] at hw
  obtain ⟨v0, hv0, _⟩ := s.slot i o0 (nth_eq hn0)
  refine ⟨v0, hv0, ρ, F, _, s, hw, fun ds ρ1 F1 H1 vs p s1 r1 f1 => ?_⟩
  show liftSp X.K sp (v0 :: vs ++ []) H1 Q E
  rw [List.append_nil]
  cases hn : nth ρ1 i with
  | none => rw [hn] at p; exact p.elim
  | some o1 =>
  rw [hn] at p
  refine liftSp_S (P := P) s1 (nth_eq hn) hv0 r1 ?_ fun o ρ' F' H' v p' s' f' => k _ _ _ _ _ p' s' (f1.trans f')
  have e : ∀ o' r, putC ρ1 i (some o') (P r) = P r (ρ1.set i (some o')) := fun o' r => putC_eq _ _ _ _
  simp only [e] at p
  exact p
/-- f(s, ..), the def changes what stands at s -/
theorem xo_callS (G : FnOk X.prog X.w X.K X.mg X.base CX0 k f fd ps (liftSp X.K sp)) (hr : Room k X.A) (hg : Gl X x) (hm : X.mg x = some (.ref f)) (hk : PySem.W.keepIn X.K (.ref f) = true) (hb : Binds X.K fd ps [])
    (h0 : PE X e (tVar i)) (ha : XA X es wl) (hdb : (x == ("__debug__" : Str)) = false := by decide) (he : starEach (e :: es) X.env = (false, eval e X.env) :: starEach es X.env := by rfl) (hpl : (backTo pos (starEach es X.env)).any (·.1) = false := by rfl) :
    XO X (.Call (.Name x p) (e :: es) [] pos) (wCallS sp i wl) := ⟨PE.imp (pe_call G hr hg hm hk hb .nil pass0 (pa_cons h0 ha.pa he) hdb he hpl) fun _ _ _ h => t_callS h⟩
end

/-! ### keywords -/
def pickL {α : Type} (ix : List Nat) (l : List α) : List α := ix.filterMap fun i => l[i]?
/-- how a call with m values and keywords ks binds: the parameters are what stands at ix among the values and the keywords' values -/
structure KwB (K : PySem.W.Frag) (fd : FuncData) (ps ks : List Str) (m : Nat) (ix : List Nat) : Prop where
  to : ∀ (s : Shared) (us ws : List Value), K.In s.heap → us.length = m → ws.length = ks.length → BindsTo s fd ⟨us, ks.zip ws⟩ (ps.zip (pickL ix (us ++ ws)))
  len : ix.length = ps.length
  lt : ∀ i ∈ ix, i < m + ks.length
theorem pick_len {α : Type} {l : List α} : ∀ {ix : List Nat}, (∀ i ∈ ix, i < l.length) → (pickL ix l).length = ix.length
  | [], _ => rfl
  | i :: ix, h => by
    have h1 := h i List.mem_cons_self
    unfold pickL
    rw [List.filterMap_cons, List.getElem?_eq_getElem h1]
    show (pickL ix l).length + 1 = _
    rw [pick_len fun j hj => h j (List.mem_cons_of_mem _ hj)]
    rfl
theorem pick_vals {l : List V} {us : List Value} (r : Vals l us) : ∀ ix : List Nat, Vals (pickL ix l) (pickL ix us)
  | [] => .nil
  | i :: ix => by
    unfold pickL
    rw [List.filterMap_cons, List.filterMap_cons]
    cases e : l[i]? with
    | none =>
      rw [r.none_of e]
      exact pick_vals r ix
    | some v =>
      obtain ⟨u, hu, rv⟩ := r.get e
      rw [hu]
      exact .cons rv (pick_vals r ix)
theorem pick_rep {K : PySem.W.Frag} {F : Hp} {l : List V} {ds : List D} (r : RepL K F l ds) : ∀ ix : List Nat, RepL K F (pickL ix l) (pickL ix ds)
  | [] => .nil
  | i :: ix => by
    unfold pickL
    rw [List.filterMap_cons, List.filterMap_cons]
    cases e : ds[i]? with
    | none =>
      have e' : l[i]? = none := List.getElem?_eq_none_iff.mpr (by rw [r.length]; exact List.getElem?_eq_none_iff.mp e)
      rw [e']
      exact pick_rep r ix
    | some d =>
      obtain ⟨u, hu, rv⟩ := r.get e
      rw [hu]
      exact .cons rv (pick_rep r ix)
structure XKw (X : Cx) (kws : List Keyword) (w : WL) : Prop where
  pk : PK X kws (liftA X.K w)
theorem PK.imp {X : Cx} {e : List Keyword} {t t' : TA} (h : PK X e t) (i : ∀ σ H Q, t' σ H Q → t σ H Q) : PK X e t' := ⟨fun pos pins s σ H Q I hw => h.run pos pins s σ H Q I (i _ _ _ hw)⟩
def wCallK (sp : SpT) (m n : Nat) (ix : List Nat) (wl wk : WL) : WO := fun ρ P => wl ρ fun ds ρ1 => wk ρ1 fun es ρ2 => ds.length = m ∧ es.length = n ∧ sp ((pickL ix (ds ++ es)).map .fz) fun o _ => P o ρ2
section
variable {X : Cx} {k m : Nat} {f : Addr} {fd : FuncData} {ps ks : List Str} {ix : List Nat} {sp : SpT} {x : Str} {p pos kpos : Pos} {e : Expr} {es : List Expr} {kws : List Keyword} {w : WD} {wl wk : WL} {nm : Option Str}
theorem xk_nil : XKw X [] wNil := ⟨PK.imp pk_nil fun σ H Q ⟨ρ, F, P, s, hw, k⟩ => k _ _ _ _ _ hw s .nil .refl⟩
theorem xk_cons (h : XE X e w) (r : XKw X kws wk) : XKw X (⟨nm, e, kpos⟩ :: kws) (wCons w wk) := ⟨PK.imp (pk_cons h.pe r.pk) fun σ H Q ⟨ρ, F, P, s, hw, k⟩ =>
  ⟨ρ, F, _, s, hw, fun d ρ1 F1 H1 v p s1 r1 f1 => ⟨ρ1, F1, _, s1, p, fun ds ρ2 F2 H2 vs p2 s2 r2 f2 => k _ _ _ _ _ p2 s2 (.cons (r1.mono f2.fz) r2) (f1.trans f2)⟩⟩⟩
/-- the callee runs -/
theorem run_kw {E : XK} {pins : List (Addr × Obj)} {σ : L2.St} {H : Hp} {s : Shared} {Q : VK} {us ws : List Value} {vs zs : List V} {sp : Sp} (G : FnOk X.prog X.w X.K X.mg X.base CX0 k f fd ps sp) (hr : Room k X.A) (hb : KwB X.K fd ps ks m ix)
    (I : Inv X pins σ H s) (r : Vals vs us) (rz : Vals zs ws) (l1 : vs.length = m) (l2 : zs.length = ks.length) (h : sp (pickL ix (vs ++ zs)) H Q E) : wpAny (model X.prog X.w) X.A (call (.ref f) us (ks.zip ws)) (EP X pins σ Q) X.xe s := by
  have n1 : us.length = m := by rw [← r.length, l1]
  have n2 : ws.length = ks.length := by rw [← rz.length, l2]
  refine wpAny_call (codeAny_mono (G.run X.A X.stack s H ⟨us, ks.zip ws⟩ (pickL ix (us ++ ws)) (pickL ix (vs ++ zs)) Q E hr I.env0 (hb.to s us ws I.kIn n1 n2) (pick_vals (r.append rz) ix) h) fun res s' hq => ?_)
  cases res with
  | error er => exact False.elim hq
  | ok fl => cases fl with
    | ret u => exact I.after hq
    | _ => exact False.elim hq
theorem xo_callK (G : FnOk X.prog X.w X.K X.mg X.base CX0 k f fd ps (liftSp X.K sp)) (hr : Room k X.A) (hg : Gl X x) (hm : X.mg x = some (.ref f)) (hk : PySem.W.keepIn X.K (.ref f) = true) (hb : KwB X.K fd ps ks m ix)
    (ha : XA X (e :: es) wl) (hkw : XKw X kws wk) (hall : (backToKw pos (keywordEach kws X.env)).all (·.1.isSome) = true := by rfl) (hks : (backToKw pos (keywordEach kws X.env)).filterMap (·.1) = ks := by rfl)
    (hdb : (x == ("__debug__" : Str)) = false := by decide) (he : starEach (e :: es) X.env = (false, eval e X.env) :: starEach es X.env := by rfl)
    (hpl : ((backTo pos (starEach (e :: es) X.env)).any (·.1) || (backToKw pos (keywordEach kws X.env)).any (·.1.isNone)) = false := by rfl) :
    XO X (.Call (.Name x p) (e :: es) kws pos) (wCallK sp m ks.length ix wl wk) := by
  refine ⟨⟨fun pins s σ H Q I h => ?_⟩⟩
  obtain ⟨ρ, F, P, sr, hw, kk⟩ := h
  refine wpAny_Call_Name_kw (ld_glob I hg hm ?_ hdb)
  refine PySem.W.callWith_KW (h₀ := X.base) I.ok.mod.kin hk hall (thn (ha.pa.run pos pins s σ H _ I ⟨ρ, F, _, sr, hw, fun ds ρ1 F1 H1 vs p1 s1 r1 f1 => (show ∃ ds ρ1 F1, SR X.K ρ1 σ F1 H1 ∧ RepL X.K F1 vs ds ∧ Frm (ownedE ρ) F H (ownedE ρ1) F1 H1 ∧ wk ρ1 fun es ρ2 => ds.length = m ∧ es.length = ks.length ∧ sp ((pickL ix (ds ++ es)).map .fz) fun o _ => P o ρ2 from ⟨ds, ρ1, F1, s1, r1, f1, p1⟩)⟩) fun us s1 ⟨vs, H1, I1, r, ds, ρ1, F1, sr1, r1, f1, q⟩ => ?_) hpl he
  refine thn (hkw.pk.run pos pins s1 σ H1 _ I1 ⟨ρ1, F1, _, sr1, q, fun es ρ2 F2 H2 zs p2 s2 r2 f2 => (show ∃ es ρ2 F2, SR X.K ρ2 σ F2 H2 ∧ RepL X.K F2 zs es ∧ Frm (ownedE ρ1) F1 H1 (ownedE ρ2) F2 H2 ∧ (ds.length = m ∧ es.length = ks.length ∧ sp ((pickL ix (ds ++ es)).map .fz) fun o _ => P o ρ2) from ⟨es, ρ2, F2, s2, r2, f2, p2⟩)⟩) fun ws s2 ⟨zs, H2, I2, rz, es', ρ2, F2, sr2, r2, f2, l1, l2, q2⟩ => ⟨I2.kIn, ?_⟩
  rw [hks]
  refine run_kw (E := E0) G hr hb I2 r rz (by rw [r1.length, l1]) (by rw [r2.length, l2]) ?_
  exact liftSp_D (P := fun o => P o ρ2) sr2 (pick_rep ((r1.mono f2.fz).append r2) ix) q2 fun o F' H' v p' s' f' => kk _ _ _ _ _ p' s' ((f1.trans f2).trans f')
theorem xo_callK0 (G : FnOk X.prog X.w X.K X.mg X.base CX0 k f fd ps (liftSp X.K sp)) (hr : Room k X.A) (hg : Gl X x) (hm : X.mg x = some (.ref f)) (hk : PySem.W.keepIn X.K (.ref f) = true) (hb : KwB X.K fd ps ks 0 ix)
    (hkw : XKw X kws wk) (hall : (backToKw pos (keywordEach kws X.env)).all (·.1.isSome) = true := by rfl) (hks : (backToKw pos (keywordEach kws X.env)).filterMap (·.1) = ks := by rfl)
    (hdb : (x == ("__debug__" : Str)) = false := by decide)
    (hpl : ((backTo pos (starEach [] X.env)).any (·.1) || (backToKw pos (keywordEach kws X.env)).any (·.1.isNone)) = false := by rfl) :
    XO X (.Call (.Name x p) [] kws pos) (wCallK sp 0 ks.length ix wNil wk) := by
  refine ⟨⟨fun pins s σ H Q I h => ?_⟩⟩
  obtain ⟨ρ, F, P, sr, hw, kk⟩ := h
  refine wpAny_Call_Name_kw (ld_glob I hg hm ?_ hdb)
  refine PySem.W.callWith_KW0 (h₀ := X.base) I.ok.mod.kin hk hall ?_ hpl
  have hw : wk ρ fun es ρ2 => ([] : List D).length = 0 ∧ es.length = ks.length ∧ sp ((pickL ix ([] ++ es)).map .fz) fun o _ => P o ρ2 := hw
  refine thn (hkw.pk.run pos pins s σ H _ I ⟨ρ, F, _, sr, hw, fun es ρ2 F2 H2 zs p2 s2 r2 f2 => (show ∃ es ρ2 F2, SR X.K ρ2 σ F2 H2 ∧ RepL X.K F2 zs es ∧ Frm (ownedE ρ) F H (ownedE ρ2) F2 H2 ∧ (([] : List D).length = 0 ∧ es.length = ks.length ∧ sp ((pickL ix ([] ++ es)).map .fz) fun o _ => P o ρ2) from ⟨es, ρ2, F2, s2, r2, f2, p2⟩)⟩) fun ws s2 ⟨zs, H2, I2, rz, es', ρ2, F2, sr2, r2, f2, l1, l2, q2⟩ => ⟨I2.kIn, ?_⟩
  rw [hks]
  refine run_kw (us := []) (vs := []) (E := E0) G hr hb I2 .nil rz rfl (by rw [r2.length, l2]) ?_
  exact liftSp_D (P := fun o => P o ρ2) sr2 (pick_rep r2 ix) q2 fun o F' H' v p' s' f' => kk _ _ _ _ _ p' s' (f2.trans f')
end
end Tr
/-! The tree layer: statements, loops, comprehensions, defs. -/
namespace Tr
open PySem PySem.Spec PyProof.Rows L2

/-! ### statements -/
/-- an exception of a class of the text's own: what its fields hold -/
structure Ex where
  C : Addr
  fs : List (Str × D)
structure ExR (K : PySem.W.Frag) (F : Hp) (ex : Ex) (cls : Value) (d : Option Addr) : Prop where
  cls : cls = .ref ex.C
  fld : (d = none ∧ ex.fs = []) ∨ ∃ dd es, d = some dd ∧ F dd = some (.xd es) ∧ RepS K F es ex.fs
structure TEnds where
  nx : TEnv → Prop
  rt : O → TEnv → Prop
  bk : TEnv → Prop := fun _ => False
  ct : TEnv → Prop := fun _ => False
  xc : Ex → TEnv → Prop := fun _ _ => False
/-- another way on -/
def TEnds.on (E : TEnds) (f : TEnv → Prop) : TEnds := { E with nx := f }
/-- .. and the ways of a loop's body -/
def TEnds.lp (E : TEnds) (f : TEnv → Prop) : TEnds := { E with nx := f, ct := f, bk := E.nx }
abbrev WS := TEnv → TEnds → Prop
structure EOk (K : PySem.W.Frag) (ρ : TEnv) (F H : Hp) (E : TEnds) (Dn : Ends) (W : WX) : Prop where
  nx : ∀ ρ' σ' F' H', E.nx ρ' → SR K ρ' σ' F' H' → Frm (ownedE ρ) F H (ownedE ρ') F' H' → Dn.nx σ' H'
  rt : ∀ o ρ' σ' F' H' v, E.rt o ρ' → SR K (some o :: ρ') (some v :: σ') F' H' → Frm (ownedE ρ) F H (ownedE (some o :: ρ')) F' H' → Dn.rt v H'
  bk : ∀ ρ' σ' F' H', E.bk ρ' → SR K ρ' σ' F' H' → Frm (ownedE ρ) F H (ownedE ρ') F' H' → Dn.bk σ' H'
  ct : ∀ ρ' σ' F' H', E.ct ρ' → SR K ρ' σ' F' H' → Frm (ownedE ρ) F H (ownedE ρ') F' H' → Dn.ct σ' H'
  xc : ∀ ex ρ' σ' F' H' cls d, E.xc ex ρ' → SR K ρ' σ' F' H' → ExR K F' ex cls d → Frm (ownedE ρ) F H (ownedE ρ') F' H' → W cls d σ' H'
theorem EOk.on {K : PySem.W.Frag} {ρ ρ1 : TEnv} {F H F1 H1 : Hp} {E : TEnds} {Dn : Ends} {W : WX} (k : EOk K ρ F H E Dn W) (f : Frm (ownedE ρ) F H (ownedE ρ1) F1 H1) : EOk K ρ1 F1 H1 E Dn W :=
  ⟨fun _ _ _ _ p s g => k.nx _ _ _ _ p s (f.trans g), fun _ _ _ _ _ _ p s g => k.rt _ _ _ _ _ _ p s (f.trans g), fun _ _ _ _ p s g => k.bk _ _ _ _ p s (f.trans g), fun _ _ _ _ p s g => k.ct _ _ _ _ p s (f.trans g), fun _ _ _ _ _ _ _ p s r g => k.xc _ _ _ _ _ _ _ p s r (f.trans g)⟩
def liftS (K : PySem.W.Frag) (W : WX) (w : WS) : TS := fun Dn σ H => ∃ ρ F E, SR K ρ σ F H ∧ w ρ E ∧ EOk K ρ F H E Dn W
structure XS (X : Cx) (st : Stmt) (w : WS) : Prop where
  ps : ∀ W, Takes X W → PS X st (liftS X.K W w)
structure XSs (X : Cx) (st : List Stmt) (w : WS) : Prop where
  ps : ∀ W, Takes X W → PSs X st (liftS X.K W w)
/-- a context that nothing leaves -/
theorem takesF {X : Cx} : Takes X (fun _ _ _ _ => False) := fun _ _ ⟨_, _, _, _, _, _, _, _, _, _, _, _, _, _, _, _, w⟩ => w.elim
theorem PS.imp {X : Cx} {e : Stmt} {t t' : TS} (h : PS X e t) (i : ∀ D σ H, t' D σ H → t D σ H) : PS X e t' := ⟨fun pins s σ H D I hw => h.run pins s σ H D I (i _ _ _ hw)⟩
theorem PSs.imp {X : Cx} {e : List Stmt} {t t' : TS} (h : PSs X e t) (i : ∀ D σ H, t' D σ H → t D σ H) : PSs X e t' := ⟨fun pins s σ H D I hw => h.run pins s σ H D I (i _ _ _ hw)⟩
def wSkip : WS := fun ρ E => E.nx ρ
structure wSeq (w1 w2 : WS) (ρ : TEnv) (E : TEnds) : Prop where
  go : w1 ρ (E.on fun ρ' => w2 ρ' E)
/-- what holds between two statements -/
theorem seq_mid {w1 w2 : WS} {ρ : TEnv} {E : TEnds} (M : TEnv → Prop) (h1 : ∀ N : TEnv → Prop, (∀ ρ', M ρ' → N ρ') → w1 ρ (E.on N)) (h2 : ∀ ρ', M ρ' → w2 ρ' E) : wSeq w1 w2 ρ E := ⟨h1 _ h2⟩
def wSet (i : Nat) (w : WO) : WS := fun ρ E => w ρ fun o ρ' => putC ρ' i (some o) E.nx
def wIfS (wc : WT) (w1 w2 : WS) : WS := fun ρ E => wc ρ fun c ρ1 => br c (w1 ρ1 E) (w2 ρ1 E)
def wRet (w : WO) : WS := fun ρ E => w ρ fun o ρ' => E.rt o ρ'
/-- a name's thing is handed back -/
def wRetV (i : Nat) : WS := fun ρ E => match nth ρ i with
  | some o => putC ρ i none (E.rt o)
  | none => False
def wRetN : WS := fun ρ E => E.rt (.fz .non) ρ
def wDrop (w : WO) : WS := fun ρ E => w ρ fun _ ρ' => E.nx ρ'
def wBrk : WS := fun ρ E => E.bk ρ
def wCnt : WS := fun ρ E => E.ct ρ
/-- x += e of whole numbers -/
def wAug (g : Int → Int → Int) (i : Nat) (w : WD) : WS := fun ρ E => match nth ρ i with
  | some (.fz (.int a)) => w ρ fun d ρ' => match d with
    | .int b => putC ρ' i (some (.fz (.int (g a b)))) E.nx
    | _ => False
  | _ => False
/-- xs.append(e) -/
def wApp (i : Nat) (w : WO) : WS := fun ρ E => match nth ρ i with
  | some (.lst _ _) => w ρ fun o ρ' => match nth ρ' i with
    | some (.lst a os) => os.length < sizeLine ∧ putC ρ' i (some (.lst a (os ++ [o]))) E.nx
    | _ => False
  | _ => False
/-- xs[k] = e -/
def wSetIx (i : Nat) (wi : WD) (w : WO) : WS := fun ρ E => match nth ρ i with
  | some (.lst _ _) => w ρ fun o ρ1 => wi ρ1 fun d ρ2 => match nth ρ2 i with
    | some (.lst a os) => ∃ k j, d = .int k ∧ ixN os.length k = some j ∧ putC ρ2 i (some (.lst a (os.set j o))) E.nx
    | _ => False
  | _ => False
section
variable {X : Cx} {st : Stmt} {rest : List Stmt} {w w1 w2 : WS} {e : Expr} {wo : WO} {we wi : WD} {wt : WT} {pos : Pos} {i : Nat}
theorem xss_nil : XSs X [] wSkip := ⟨fun W tk => PSs.imp pss_nil fun D σ H ⟨ρ, F, E, s, hw, k⟩ => k.nx _ _ _ _ hw s .refl⟩
theorem xss_cons (h1 : XS X st w1) (h2 : XSs X rest w2) : XSs X (st :: rest) (wSeq w1 w2) := ⟨fun W tk => PSs.imp (pss_cons (h1.ps W tk) (h2.ps W tk)) fun D σ H ⟨ρ, F, E, s, hw, k⟩ =>
  ⟨ρ, F, _, s, hw.go, ⟨fun ρ' σ' F' H' p s' f => ⟨ρ', F', E, s', p, k.on f⟩, k.rt, k.bk, k.ct, k.xc⟩⟩⟩
theorem xss_one (h1 : XS X st w) : XSs X [st] w := ⟨fun W tk => PSs.imp (pss_one (h1.ps W tk)) fun _ _ _ h => h⟩
theorem xs_pass : XS X (.Pass pos) wSkip := ⟨fun W tk => PS.imp ps_pass fun D σ H ⟨ρ, F, E, s, hw, k⟩ => k.nx _ _ _ _ hw s .refl⟩
theorem xs_break : XS X (.Break pos) wBrk := ⟨fun W tk => PS.imp ps_break fun D σ H ⟨ρ, F, E, s, hw, k⟩ => k.bk _ _ _ _ hw s .refl⟩
theorem xs_cont : XS X (.Continue pos) wCnt := ⟨fun W tk => PS.imp ps_continue fun D σ H ⟨ρ, F, E, s, hw, k⟩ => k.ct _ _ _ _ hw s .refl⟩
theorem xs_doc {x j pos'} : XS X (.Expr (.Constant (.str x) j pos) pos') wSkip := ⟨fun W tk => PS.imp ps_doc fun D σ H ⟨ρ, F, E, s, hw, k⟩ => k.nx _ _ _ _ hw s .refl⟩
/-- x = e; i: x's slot -/
theorem xs_set {te : TE} (h : PS X st (tAsg te (gName i))) (l : ∀ σ H Q, liftO X.K wo σ H Q → te σ H Q) : XS X st (wSet i wo) := ⟨fun W tk => PS.imp h fun D σ H ⟨ρ, F, E, s, hw, k⟩ => by
  refine l _ _ _ ⟨ρ, F, _, s, hw, fun o ρ' F' H' v p s' f => ?_⟩
  obtain ⟨s2, m⟩ := s'.store (i := i)
  rw [putC_eq] at p
  exact k.nx _ _ _ _ p s2 (f.less m)⟩
theorem xs_if {c : Expr} {a b : List Stmt} (hc : XT X c wt) (ha : XSs X a w1) (hb : XSs X b w2) : XS X (.If c a b pos) (wIfS wt w1 w2) := ⟨fun W tk => PS.imp (ps_if hc.pt (ha.ps W tk) (hb.ps W tk)) fun D σ H ⟨ρ, F, E, s, hw, k⟩ =>
  ⟨ρ, F, _, s, hw, fun b ρ' F' H' p s' f => by
    cases b with
    | true =>
      have p : w1 ρ' E := by simpa [br] using p
      rw [if_pos rfl]
      exact ⟨ρ', F', E, s', p, k.on f⟩
    | false =>
      have p : w2 ρ' E := by simpa [br] using p
      rw [if_neg Bool.false_ne_true]
      exact ⟨ρ', F', E, s', p, k.on f⟩⟩⟩
theorem xs_ret (h : XO X e wo) : XS X (.Return (some e) pos) (wRet wo) := ⟨fun W tk => PS.imp (ps_ret h.pe) fun D σ H ⟨ρ, F, E, s, hw, k⟩ =>
  ⟨ρ, F, _, s, hw, fun o ρ' F' H' v p s' f => k.rt _ _ _ _ _ _ p s' f⟩⟩
theorem xs_retN : XS X (.Return none pos) wRetN := ⟨fun W tk => PS.imp ps_retN fun D σ H ⟨ρ, F, E, s, hw, k⟩ => k.rt _ _ _ _ _ _ hw (s.pushD .non) .refl⟩
theorem xs_retV (h : PE X e (tVar i)) : XS X (.Return (some e) pos) (wRetV i) := ⟨fun W tk => PS.imp (ps_ret h) fun D σ H ⟨ρ, F, E, s, hw, k⟩ => by
  unfold wRetV at hw
  cases hn : nth ρ i with
  | none => rw [hn] at hw; exact hw.elim
  | some o =>
    rw [hn] at hw
    obtain ⟨v, hv, s', m⟩ := s.take (nth_eq hn)
    have hw : putC ρ i none (E.rt o) := hw
    rw [putC_eq] at hw
    exact ⟨v, hv, k.rt _ _ _ _ _ _ hw s' (Frm.refl.less fun b hb => (m b).mpr hb)⟩⟩
theorem xs_drop (h : XO X e wo) (hs : swapsWith e none pos.line X.env = pure false := by rfl) : XS X (.Expr e pos) (wDrop wo) := ⟨fun W tk => PS.imp (ps_expr h.pe hs) fun D σ H ⟨ρ, F, E, s, hw, k⟩ =>
  ⟨ρ, F, _, s, hw, fun o ρ' F' H' v p s' f => k.nx _ _ _ _ p s'.pop (f.less fun b hb => List.mem_append_right _ hb)⟩⟩
theorem xs_aug {g : Int → Int → Int} {te : TE} (h : PS X st (tAug i te (ipI g))) (l : ∀ σ H Q, liftD X.K we σ H Q → te σ H Q) : XS X st (wAug g i we) := ⟨fun W tk => PS.imp h fun D σ H ⟨ρ, F, E, s, hw, k⟩ => by
  unfold wAug at hw
  cases hn : nth ρ i with
  | none => rw [hn] at hw; exact hw.elim
  | some o =>
    rw [hn] at hw
    cases o <;> first
      | (exact hw.elim)
      | skip
    rename_i d
    cases d <;> first
      | (exact hw.elim)
      | skip
    rename_i a
    obtain ⟨v, hv, r⟩ := s.slot i _ (nth_eq hn)
    cases r with
    | fz r =>
      cases r
      refine ⟨_, hv, l _ _ _ ⟨ρ, F, _, s, hw, fun d ρ' F' H' v p s' r f => ?_⟩⟩
      cases d <;> first
        | exact p.elim
        | skip
      rename_i b
      cases r
      refine ⟨a, b, rfl, rfl, ?_⟩
      obtain ⟨s2, m⟩ := (s'.pushD (.int (g a b))).store (i := i)
      have p : putC ρ' i (some (.fz (.int (g a b)))) E.nx := p
      rw [putC_eq] at p
      exact k.nx _ _ _ _ p s2 (f.less m)⟩

/-! ### a list that is held is changed -/
theorem SR.mutL {K : PySem.W.Frag} {ρ : TEnv} {σ : L2.St} {F H : Hp} {o : O} {y : V} {a : Addr} {os os' : List O} {xs' : List V} (s : SR K (some o :: some (.lst a os) :: ρ) (some y :: some (.ref a) :: σ) F H) (r : RepOL K F H xs' os') (z : os'.length ≤ sizeLine)
    (m : ∀ b ∈ O.ownedL os', b ∈ o.owned ++ O.ownedL os) (nd : (O.ownedL os').Nodup) :
    SR K (some (.lst a os') :: ρ) (some (.ref a) :: σ) F (upd H a (.lst xs')) ∧ Frm (ownedE (some o :: some (.lst a os) :: ρ)) F H (ownedE (some (.lst a os') :: ρ)) F (upd H a (.lst xs')) := by
  have n1 := List.nodup_append.mp s.nd
  have n2 := List.nodup_append.mp n1.2.1
  have ha : a ∈ slotOwned (some (O.lst a os)) := List.mem_cons_self
  have fa : F a = none := s.own a (List.mem_append_right _ (List.mem_append_left _ ha))
  have na : a ∉ O.ownedL os' := fun h => by
    rcases List.mem_append.mp (m a h) with q | q
    · exact n1.2.2 a q a (List.mem_append_left _ ha) rfl
    · exact (List.nodup_cons.mp n2.1).1 q
  have nr : a ∉ ownedE ρ := fun h => n2.2.2 a ha a h rfl
  have sb : Sb F (upd H a (.lst xs')) := fun b u h => by
    rw [upd_ne (fun e => by subst e; rw [fa] at h; cases h)]
    exact s.sub b u h
  have s0 := s.pop.pop
  have sρ : SR K ρ σ F (upd H a (.lst xs')) := ⟨sb, s0.len, fun i u e => by
    obtain ⟨v, hv, q⟩ := s0.slot i u e
    exact ⟨v, hv, q.mono (fun _ _ h => h) fun b hb w hw => by
      rw [upd_ne (fun e' => nr (by subst e'; exact mem_ownedE e b hb))]; exact hw⟩, s0.own, s0.nd⟩
  obtain ⟨xs, hxs⟩ : ∃ xs, H a = some (.lst xs) := by
    have q := s.pop.top
    cases q with
    | lst h _ _ => exact ⟨_, h⟩
  refine ⟨sρ.push (.lst upd_same z (r.mono (fun _ _ h => h) fun b hb w hw => by
      rw [upd_ne (fun e' => na (by subst e'; exact hb))]; exact hw)) (fun b hb => ?_) ?_, fun _ _ h => h, fun b u hb _ hf e => ?_, fun b hb => ?_, fun b u e => ?_, fun b u w e => by rw [upd_ne (fun q => by subst q; rw [hxs] at e; cases e)]; exact e⟩
  · rcases List.mem_cons.mp hb with e | hb
    · subst e; exact fa
    · rcases List.mem_append.mp (m b hb) with q | q
      · exact s.own b (List.mem_append_left _ q)
      · exact s.own b (List.mem_append_right _ (List.mem_append_left _ (List.mem_cons_of_mem _ q)))
  · refine List.nodup_append.mpr ⟨List.nodup_cons.mpr ⟨na, nd⟩, s0.nd, fun b hb c hc e => ?_⟩
    subst e
    rcases List.mem_cons.mp hb with e | hb
    · subst e; exact nr hc
    · rcases List.mem_append.mp (m b hb) with q | q
      · exact n1.2.2 b q b (List.mem_append_right _ hc) rfl
      · exact n2.2.2 b (List.mem_cons_of_mem _ q) b hc rfl
  · refine ⟨?_, hf⟩
    rw [upd_ne (fun e' => hb (by subst e'; exact List.mem_append_right _ (List.mem_append_left _ ha)))]; exact e
  · refine .inl ?_
    rcases List.mem_append.mp hb with h | h
    · have h : b ∈ a :: O.ownedL os' := h
      rcases List.mem_cons.mp h with e | h
      · subst e; exact List.mem_append_right _ (List.mem_append_left _ ha)
      · rcases List.mem_append.mp (m b h) with q | q
        · exact List.mem_append_left _ q
        · exact List.mem_append_right _ (List.mem_append_left _ (List.mem_cons_of_mem _ q))
    · exact List.mem_append_right _ (List.mem_append_right _ h)
  · by_cases q : b = a
    · subst q; exact ⟨_, upd_same⟩
    · exact ⟨u, by rw [upd_ne q]; exact e⟩
theorem SR.snoc {K : PySem.W.Frag} {ρ : TEnv} {σ : L2.St} {F H : Hp} {o : O} {y : V} {a : Addr} {os : List O} {xs : List V} (s : SR K (some o :: some (.lst a os) :: ρ) (some y :: some (.ref a) :: σ) F H) (hx : H a = some (.lst xs)) (z : os.length < sizeLine) :
    SR K (some (.lst a (os ++ [o])) :: ρ) (some (.ref a) :: σ) F (upd H a (.lst (xs ++ [y]))) ∧ Frm (ownedE (some o :: some (.lst a os) :: ρ)) F H (ownedE (some (.lst a (os ++ [o])) :: ρ)) F (upd H a (.lst (xs ++ [y]))) := by
  have q := s.pop.top
  have e : O.ownedL (os ++ [o]) = O.ownedL os ++ o.owned := by
    rw [O.ownedL_append]
    show O.ownedL os ++ (o.owned ++ []) = _
    rw [List.append_nil]
  cases q with
  | lst h z1 r =>
    rw [hx] at h
    cases h
    have n1 := List.nodup_append.mp s.nd
    have n2 := List.nodup_append.mp n1.2.1
    refine s.mutL (r.append (.cons s.top .nil)) (by rw [List.length_append]; exact z) (fun b hb => ?_) ?_
    · rw [e] at hb
      exact (List.mem_append.mp hb).elim (List.mem_append_right _) (List.mem_append_left _)
    · rw [e]
      exact List.nodup_append.mpr ⟨(List.nodup_cons.mp n2.1).2, n1.1, fun b hb c hc e => by
        subst e
        exact n1.2.2 b hc b (List.mem_append_left _ (List.mem_cons_of_mem _ hb)) rfl⟩
theorem RepOL.setAt {K : PySem.W.Frag} {F H : Hp} {o : O} {y : V} (ro : RepO K F H y o) : ∀ {xs : List V} {os : List O} (j : Nat), RepOL K F H xs os → RepOL K F H (xs.set j y) (os.set j o)
  | _, _, _, .nil => .nil
  | _, _, 0, .cons _ r => .cons ro r
  | _, _, j + 1, .cons h r => .cons h (RepOL.setAt ro j r)
theorem ownedL_set {o : O} : ∀ (os : List O) (j : Nat), (∀ b ∈ O.ownedL (os.set j o), b ∈ o.owned ++ O.ownedL os) ∧ ((o.owned ++ O.ownedL os).Nodup → (O.ownedL (os.set j o)).Nodup)
  | [], _ => ⟨fun b hb => (by cases hb), fun _ => List.nodup_nil⟩
  | u :: os, 0 => by
    refine ⟨fun b hb => ?_, fun h => ?_⟩
    · rcases List.mem_append.mp (show b ∈ o.owned ++ O.ownedL os from hb) with q | q
      · exact List.mem_append_left _ q
      · exact List.mem_append_right _ (List.mem_append_right _ q)
    · have h : (o.owned ++ (u.owned ++ O.ownedL os)).Nodup := h
      have n := List.nodup_append.mp h
      exact List.nodup_append.mpr ⟨n.1, (List.nodup_append.mp n.2.1).2.1, fun a ha b hb => n.2.2 a ha b (List.mem_append_right _ hb)⟩
  | u :: os, j + 1 => by
    obtain ⟨i1, i2⟩ := ownedL_set os j
    refine ⟨fun b hb => ?_, fun h => ?_⟩
    · rcases List.mem_append.mp (show b ∈ u.owned ++ O.ownedL (os.set j o) from hb) with q | q
      · exact List.mem_append_right _ (List.mem_append_left _ q)
      · rcases List.mem_append.mp (i1 b q) with q | q
        · exact List.mem_append_left _ q
        · exact List.mem_append_right _ (List.mem_append_right _ q)
    · have h : (o.owned ++ (u.owned ++ O.ownedL os)).Nodup := h
      have n := List.nodup_append.mp h
      have n2 := List.nodup_append.mp n.2.1
      have i3 := i2 (List.nodup_append.mpr ⟨n.1, n2.2.1, fun a ha b hb => n.2.2 a ha b (List.mem_append_right _ hb)⟩)
      show (u.owned ++ O.ownedL (os.set j o)).Nodup
      refine List.nodup_append.mpr ⟨n2.1, i3, fun a ha b hb e => ?_⟩
      subst e
      rcases List.mem_append.mp (i1 a hb) with q | q
      · exact n.2.2 a q a (List.mem_append_left _ ha) rfl
      · exact n2.2.2 a ha a q rfl
/-- a slot's list changed, the new item on top -/
theorem SR.atSlot {K : PySem.W.Frag} {ρ : TEnv} {σ : L2.St} {F H : Hp} {o : O} {y : V} {a : Addr} {os : List O} (s : SR K (some o :: ρ) (some y :: σ) F H) (e : ρ[i]? = some (some (.lst a os))) :
    σ[i]? = some (some (.ref a)) ∧ (∃ xs, H a = some (.lst xs)) ∧ SR K (some o :: some (.lst a os) :: ρ.set i none) (some y :: some (.ref a) :: σ) F H ∧ ∀ b, b ∈ ownedE (some o :: some (.lst a os) :: ρ.set i none) ↔ b ∈ ownedE (some o :: ρ) := by
  obtain ⟨v, hv, s1, m⟩ := s.pop.take e
  have q := s1.top
  cases q with
  | lst h z r =>
    have n := List.nodup_append.mp s.nd
    refine ⟨hv, ⟨_, h⟩, s1.push s.top (fun b hb => s.own b (List.mem_append_left _ hb)) (List.nodup_append.mpr ⟨n.1, s1.nd, fun b hb c hc e' => ?_⟩), fun b => ?_⟩
    · subst e'
      exact n.2.2 b hb b ((m b).mpr hc) rfl
    · constructor
      · intro hb
        rcases List.mem_append.mp hb with q | q
        · exact List.mem_append_left _ q
        · exact List.mem_append_right _ ((m b).mpr q)
      · intro hb
        rcases List.mem_append.mp hb with q | q
        · exact List.mem_append_left _ q
        · exact List.mem_append_right _ ((m b).mp q)
theorem xs_app {o : Expr} {apos cpos : Pos} (ho : PE X o (tVar i)) (he : XO X e wo)
    (hbase : attributeBase o "append" X.env (eval o X.env) = eval o X.env := by rfl)
    (hfew : ((backTo cpos (starEach [e] X.env)).all (fun x => !x.1) && (backToKw cpos (keywordEach [] X.env)).all (fun x => x.1.isSome)
      && decide ([e].length + ([] : List Keyword).length + (if ([] : List Keyword).isEmpty then 0 else 1) < 30)) = true := by rfl)
    (hline : (apos.endLine == cpos.line) = true := by rfl) (hst : starEach [e] X.env = (false, eval e X.env) :: starEach [] X.env := by rfl) (hpl : (backTo cpos (starEach [] X.env)).any (·.1) = false := by rfl)
    (hs : swapsWith (.Call (.Attribute o "append" apos) [e] [] cpos) none pos.line X.env = pure false := by rfl) : XS X (.Expr (.Call (.Attribute o "append" apos) [e] [] cpos) pos) (wApp i wo) :=
  ⟨fun W tk => PS.imp (ps_expr (pe_bm PySem.F.plainAttrs_list PySem.F.slot_list_append PySem.F.type_list_append mt_append ho (pa_cons he.pe pa_nil hst) hbase hfew hline hst hpl) hs) fun D σ H ⟨ρ, F, E, s, hw, k⟩ => by
    unfold wApp at hw
    cases hn0 : nth ρ i with
    | none => rw [hn0] at hw; exact hw.elim
    | some o0 =>
    rw [hn0] at hw
    cases o0 <;> first
      | (exact hw.elim)
      | skip
    rename_i a0 os0
    obtain ⟨v0, hv0, r0⟩ := s.slot i _ (nth_eq hn0)
    cases r0 with
    | lst h0 _ _ =>
    refine ⟨_, hv0, .inl ⟨rfl, _, .inl (.inl h0)⟩, ρ, F, _, s, hw, fun o ρ1 F1 H1 y p s1 f1 => ?_⟩
    cases hn : nth ρ1 i with
    | none => rw [hn] at p; exact p.elim
    | some o1 =>
    rw [hn] at p
    cases o1 <;> first
      | (exact p.elim)
      | skip
    rename_i a os
    obtain ⟨hv, ⟨xs, hx⟩, s2, m2⟩ := s1.atSlot (nth_eq hn)
    rw [hv0] at hv
    cases hv
    obtain ⟨s3, f3⟩ := s2.snoc hx p.1
    have l : xs.length = os.length := by
      have q := s2.pop.top
      cases q with
      | lst h _ r =>
        rw [hx] at h
        cases h
        exact r.length
    refine ⟨_, xs, y, rfl, rfl, hx, by rw [l]; exact p.1, ?_⟩
    obtain ⟨s4, m4⟩ := s3.set (i := i) hv0
    rw [List.set_set] at s4 m4
    have p2 := p.2
    rw [putC_eq] at p2
    exact k.nx _ _ _ _ p2 s4 (f1.trans ((f3.iff (fun b => (m2 b).symm) fun b hb => hb).less m4))⟩
/-- xs[k] = e; te, ti: the readings of e and k -/
theorem xs_setIx (h : PS X st (tAsg (liftO X.K wo) (gSub (tVar i) (liftD X.K wi) rSetL))) : XS X st (wSetIx i wi wo) := ⟨fun W tk => PS.imp h fun D σ H ⟨ρ, F, E, s, hw, k⟩ => by
    unfold wSetIx at hw
    cases hn0 : nth ρ i with
    | none => rw [hn0] at hw; exact hw.elim
    | some o0 =>
    rw [hn0] at hw
    cases o0 <;> first
      | (exact hw.elim)
      | skip
    rename_i a0 os0
    obtain ⟨v0, hv0, r0⟩ := s.slot i _ (nth_eq hn0)
    refine ⟨ρ, F, _, s, hw, fun o ρ1 F1 H1 y p s1 f1 => ⟨_, hv0, ρ1, F1, _, s1.pop, p, fun d ρ2 F2 H2 u p2 s2 r2 f2 => ?_⟩⟩
    obtain ⟨s3, f3⟩ := s1.frame s2 f2
    cases hn : nth ρ2 i with
    | none => rw [hn] at p2; exact p2.elim
    | some o1 =>
    rw [hn] at p2
    cases o1 <;> first
      | (exact p2.elim)
      | skip
    rename_i a os
    obtain ⟨n, j, rfl, hj, p3⟩ := p2
    cases r2
    obtain ⟨hv, ⟨xs, hx⟩, s4, m4⟩ := s3.atSlot (nth_eq hn)
    rw [hv0] at hv
    cases hv
    have q := s4.pop.top
    cases q with
    | lst hx' z r =>
    rw [hx] at hx'
    cases hx'
    have n1 := List.nodup_append.mp s4.nd
    have n2 := List.nodup_append.mp n1.2.1
    obtain ⟨w1, w2⟩ := ownedL_set (o := o) os j
    obtain ⟨s5, f5⟩ := s4.mutL (r.setAt s4.top j) (by rw [List.length_set]; exact z) w1 (w2 (List.nodup_append.mpr ⟨n1.1, (List.nodup_cons.mp n2.1).2, fun b hb c hc => n1.2.2 b hb c (List.mem_append_left _ (List.mem_cons_of_mem _ hc))⟩))
    refine ⟨a, xs, n, j, rfl, rfl, hx, by rw [r.length]; exact hj, ?_⟩
    obtain ⟨s6, m6⟩ := s5.set (i := i) hv0
    rw [List.set_set] at s6 m6
    rw [putC_eq] at p3
    exact k.nx _ _ _ _ p3 s6 ((f1.trans f3).trans ((f5.iff (fun b => (m4 b).symm) fun b hb => hb).less m6))⟩
end
end Tr
/-! The tree layer: what is walked. -/
namespace Tr
open PySem PySem.Spec PyProof.Rows L2

/-! ### a list or a tuple, told by k -/
def SqK (k : Bool) (K : PySem.W.Frag) (H : Hp) (a : Addr) (xs : List V) : Prop := if k then SqL K H a xs else SqT K H a xs
def ItK (k : Bool) (h : Heap) (it a : Addr) (i : Nat) : Prop := if k then h.IsListIter it a i else h.IsTupleIter it a i
def HsK (k : Bool) (h : Heap) (a : Addr) (its : Array Value) : Prop := if k then h.IsList a its else h.IsTuple a its
theorem drawsK {prog : Program} {w : World} {A : Around} (hh : A.handled = none) (k : Bool) (it a : Addr) (hne : a ≠ it) (its : Array Value) :
    Draws prog w A it [it, a] its.size (fun i v => its[i]? = some v) (fun i h => ItK k h it a i ∧ HsK k h a its) := by
  cases k
  · exact Draws.tuple hh it a hne its
  · exact Draws.list hh it a hne its
theorem beginsK (k : Bool) (a : Addr) (its : Array Value) : ∃ o, Begins (.ref a) o (fun h => HsK k h a its) ∧ ∀ (h : Heap) (it : Addr), h.get? it = some o → ItK k h it a 0 := by
  cases k
  · exact ⟨_, begins_tuple a its, fun h it e => ⟨_, e, rfl, rfl⟩⟩
  · exact ⟨_, begins_list a its, fun h it e => ⟨_, e, rfl, rfl⟩⟩
theorem ItK.obj {k : Bool} {h : Heap} {it a : Addr} {i : Nat} (x : ItK k h it a i) : ∃ o, h.get? it = some o ∧ ∀ v, o.data ≠ .cell v := by
  cases k
  · obtain ⟨o, e, _, d⟩ := (show h.IsTupleIter it a i from x)
    exact ⟨o, e, fun v z => by rw [d] at z; cases z⟩
  · obtain ⟨o, e, _, d⟩ := (show h.IsListIter it a i from x)
    exact ⟨o, e, fun v z => by rw [d] at z; cases z⟩
theorem ItK.keep {k : Bool} {h h' : Heap} {it a : Addr} {i : Nat} (x : ItK k h it a i) (e : ∀ o, h.get? it = some o → h'.get? it = some o) : ItK k h' it a i := by
  cases k
  · exact (show h.IsTupleIter it a i from x).at fun o q => e o q
  · exact (show h.IsListIter it a i from x).at fun o q => e o q
section
variable {X : Cx} {pins : List (Addr × Obj)} {σ : L2.St} {H : Hp} {s : Shared} {a : Addr} {xs ys : List V} {k : Bool}
theorem Inv.sqK (I : Inv X pins σ H s) (h : SqK k X.K H a xs) : ∃ its : List Value, Vals xs its ∧ HsK k s.heap a its.toArray ∧ a < s.heap.objs.size := by
  cases k
  · obtain ⟨its, r, p, _⟩ := I.tuple (show SqT X.K H a xs from h)
    exact ⟨its, r, p, p.lt⟩
  · obtain ⟨its, r, p, _⟩ := I.list (show SqL X.K H a xs from h)
    exact ⟨its, r, p.isList, p.lt⟩
theorem Inv.sqK_inj (I : Inv X pins σ H s) (h : SqK k X.K H a xs) (h' : SqK k X.K H a ys) : xs = ys := by
  cases k
  · exact I.tuple_inj h h'
  · exact I.list_inj h h'
end

/-! ### zip of lists and tuples in any mix -/
def ItzM (K : PySem.W.Frag) (k l : Bool) (a b : Addr) : It :=
  ⟨fun i H => ∃ (xs ys : List V) (x y : V), SqK k K H a xs ∧ SqK l K H b ys ∧ xs[i]? = some x ∧ ys[i]? = some y,
    fun i H v H' => ∃ T x y, v = .ref T ∧ H T = none ∧ H' = upd H T (.tup [x, y]) ∧ (∀ xs, SqK k K H a xs → xs[i]? = some x) ∧ ∀ ys, SqK l K H b ys → ys[i]? = some y,
    fun i H => ∃ xs ys : List V, SqK k K H a xs ∧ SqK l K H b ys ∧ i = min xs.length ys.length⟩
theorem turn_zipM {P : Program} {w : World} {K : PySem.W.Frag} {k l : Bool} {elts : List Expr} {kk : Nat} {tpos : Pos} {a b z TI TO i1 i2 : Addr} (S : ZipSep2 z TI TO i1 i2 [i1, a] [i2, b]) (ha : a ≠ i1) (hb : b ≠ i2) :
    Turn P w K (.Tuple elts kk tpos) (ItzM K k l a b) [z, TI, TO, i1, i2] z (fun i h => IsZip h z TI TO .none ∧ IsTupOf2 h TI (.ref i1) (.ref i2) ∧ (∃ x y, IsTupOf2 h TO x y) ∧ ItK k h i1 a i ∧ ItK l h i2 b i) where
  mem := by simp
  obj := fun i h ⟨h1, h2, ⟨x, y, h3⟩, h4, h5⟩ c hc => by
    simp only [List.mem_cons, List.not_mem_nil, or_false] at hc
    rcases hc with rfl | rfl | rfl | rfl | rfl
    · exact ⟨_, h1, fun v q => nomatch q⟩
    · exact ⟨_, h2, fun v q => nomatch q⟩
    · exact ⟨_, h3, fun v q => nomatch q⟩
    · exact h4.obj
    · exact h5.obj
  keep := fun i h h' ⟨h1, h2, ⟨x, y, h3⟩, h4, h5⟩ q =>
    ⟨q _ (by simp) _ h1, q _ (by simp) _ h2, ⟨x, y, q _ (by simp) _ h3⟩, h4.keep (q _ (by simp)), h5.keep (q _ (by simp))⟩
  item := by
    intro X hP hw hK hc i pins s σ H E I hf st hg
    subst hP hw hK
    obtain ⟨h1, h2, h3, h4, h5⟩ := st
    obtain ⟨xs, ys, x, y, qx, qy, ex, ey⟩ := hg
    obtain ⟨us, ru, pu, _⟩ := Inv.sqK I qx
    obtain ⟨ws, rw', pw, _⟩ := Inv.sqK I qy
    obtain ⟨u, hu, ru1⟩ := ru.get ex
    obtain ⟨v, hv, rv1⟩ := rw'.get ey
    have hhd : X.A.in1.handled = none := I.ok.hd hc
    have W := GoesN.zip2 (prog := X.prog) (w := X.w) (A := X.A) (elts := elts) (x1 := kk) (pos := tpos) S (drawsK hhd k i1 a ha us.toArray) (drawsK hhd l i2 b hb ws.toArray)
    have lu : i < us.length := by
      by_cases q : i < us.length
      · exact q
      · rw [List.getElem?_eq_none (Nat.le_of_not_lt q)] at hu; cases hu
    have lw : i < ws.length := by
      by_cases q : i < ws.length
      · exact q
      · rw [List.getElem?_eq_none (Nat.le_of_not_lt q)] at hv; cases hv
    refine W.goes i s _ E (by simp; omega) ⟨h1, h2, h3, ⟨h4, pu⟩, ⟨h5, pw⟩⟩ fun val h' tk hY st' hk _ => ?_
    obtain ⟨T, x', y', rfl, hT, e1, e2, hI⟩ := hY
    have ex' : x' = u := by
      have q : us[i]? = some x' := by simpa using e1
      rw [hu] at q; exact (Option.some.inj q).symm
    have ey' : y' = v := by
      have q : ws[i]? = some y' := by simpa using e2
      rw [hv] at q; exact (Option.some.inj q).symm
    subst ex' ey'
    obtain ⟨g1, g2, g3, g4, g5⟩ := st'
    have kp : ∀ c o, c ∉ [z, TI, TO, i1, i2] → s.heap.get? c = some o → h'.get? c = some o := fun c o hc' e => hk c o (fun q => hc' (by
      simp only [List.mem_cons, List.not_mem_nil, or_false] at q ⊢
      rcases q with q | q | q | q
      · exact .inl q
      · exact .inr (.inr (.inl q))
      · exact .inr (.inr (.inr (.inl q)))
      · exact .inr (.inr (.inr (.inr q))))) e
    have I1 := I.turnedNew (t' := tk) (ob := .tup [x, y]) kp hf hT ⟨by show 2 ≤ sizeLine; decide, [x', y'], .cons ru1 (.cons rv1 .nil), hI⟩
    refine ⟨.ref T, _, I1, rfl, ⟨T, x, y, rfl, I.hok.fresh hT, rfl, fun zs hz => by rw [Inv.sqK_inj I hz qx]; exact ex, fun zs hz => by rw [Inv.sqK_inj I hz qy]; exact ey⟩, ⟨g1, g2, g3, g4.1, g5.1⟩, fun c hcm => ?_⟩
    have lt : c < s.heap.objs.size := by
      simp only [List.mem_cons, List.not_mem_nil, or_false] at hcm
      rcases hcm with rfl | rfl | rfl | rfl | rfl
      · exact Heap.lt_size h1
      · exact Heap.lt_size h2
      · obtain ⟨_, _, h3⟩ := h3; exact Heap.lt_size h3
      · obtain ⟨_, e, _⟩ := h4.obj; exact Heap.lt_size e
      · obtain ⟨_, e, _⟩ := h5.obj; exact Heap.lt_size e
    rw [upd_ne (Nat.ne_of_lt (Nat.lt_of_lt_of_le lt hT))]
    exact (hf c hcm).1
  done := by
    intro X hP hw hK hc i pins s σ H E I hf st hg
    subst hP hw hK
    obtain ⟨h1, h2, h3, h4, h5⟩ := st
    obtain ⟨xs, ys, qx, qy, ei⟩ := hg
    obtain ⟨us, ru, pu, _⟩ := Inv.sqK I qx
    obtain ⟨ws, rw', pw, _⟩ := Inv.sqK I qy
    have hhd : X.A.in1.handled = none := I.ok.hd hc
    have W := GoesN.zip2 (prog := X.prog) (w := X.w) (A := X.A) (elts := elts) (x1 := kk) (pos := tpos) S (drawsK hhd k i1 a ha us.toArray) (drawsK hhd l i2 b hb ws.toArray)
    have en : i = min us.toArray.size ws.toArray.size := by rw [List.size_toArray, List.size_toArray, ← ru.length, ← rw'.length]; exact ei
    subst en
    refine W.stops s _ E ⟨h1, h2, h3, ⟨h4, pu⟩, ⟨h5, pw⟩⟩ fun h' tk hk _ => ?_
    exact I.turnedL (fun c o hc' e => hk c o (fun q => hc' (by
      simp only [List.mem_cons, List.not_mem_nil, or_false] at q ⊢
      rcases q with q | q | q | q
      · exact .inl q
      · exact .inr (.inr (.inl q))
      · exact .inr (.inr (.inr (.inl q)))
      · exact .inr (.inr (.inr (.inr q))))) e) hf
  self := fun A i s Q E st h => wpAny_pyIter_zip st.1 h
def iZipM (K : PySem.W.Frag) (ta : TA) : TI := fun σ H R => ta σ H fun vs H1 => ∃ k l a b xs ys, vs = [.ref a, .ref b] ∧ SqK k K H1 a xs ∧ SqK l K H1 b ys ∧ R (ItzM K k l a b) H1
theorem pi_zipM {X : Cx} {e e2 : Expr} {ta : TA} {p pos tpos : Pos} {elts : List Expr} {kk : Nat} (hg : Gl X "zip") (hm : X.mg "zip" = none) (ha : PA X [e, e2] ta)
    (hs : starEach [e, e2] X.env = (false, eval e X.env) :: starEach [e2] X.env := by rfl) (hpl : (backTo pos (starEach [e2] X.env)).any (·.1) = false := by rfl) :
    PI X (.Tuple elts kk tpos) (.Call (.Name "zip" p) [e, e2] [] pos) (iZipM X.K ta) := by
  refine ⟨fun pins s σ H R I h => Call_ (ld_blt I hg hm PyProof.Rows.boot_zip (PyProof.Rows.callWith_type1 (thn (ha.run pos pins s σ H _ I h) fun us s1 ⟨vs, H1, I1, r1, q1⟩ => ?_) hs hpl))⟩
  obtain ⟨k, l, a, b, xs, ys, ex, qx, qy, q⟩ := q1
  subst ex
  obtain ⟨u1, u2, rfl, ra, rb⟩ := vals2 r1
  cases ra
  cases rb
  obtain ⟨us, ru, pu, la⟩ := Inv.sqK I1 qx
  obtain ⟨ws, rw', pw, lb⟩ := Inv.sqK I1 qy
  obtain ⟨o1, B1, b1⟩ := beginsK k a us.toArray
  obtain ⟨o2, B2, b2⟩ := beginsK l b ws.toArray
  refine zip_begins2 B1 B2 pu pw fun h' hz hTI hTO e1 e2 hsz hk => wpAny_pyIter_zip hz ?_
  have I2 : Inv X pins σ H1 { s1 with heap := h' } := I1.kept (t' := s1.toks) hk
  have na : a ≠ s1.heap.objs.size := Nat.ne_of_lt la
  have nb : b ≠ s1.heap.objs.size + 1 := Nat.ne_of_lt (Nat.lt_succ_of_lt lb)
  refine ⟨_, _, _, _, H1, rfl, I2, turn_zipM (zip_sep2 (N := s1.heap.objs.size) (fp1 := [a]) (fp2 := [b]) (fun c hc => by rw [List.mem_singleton.mp hc]; exact la) fun c hc => by rw [List.mem_singleton.mp hc]; exact lb) na nb, ⟨hz, hTI, ⟨_, _, hTO⟩, b1 _ _ e1, b2 _ _ e2⟩, fun c hc => ?_, q⟩
  have le : s1.heap.objs.size ≤ c := by
    simp only [List.mem_cons, List.not_mem_nil, or_false] at hc
    rcases hc with rfl | rfl | rfl | rfl | rfl
    · exact Nat.le_add_right _ _
    · exact Nat.le_add_right _ _
    · exact Nat.le_add_right _ _
    · exact Nat.le_refl _
    · exact Nat.le_add_right _ _
  exact I1.fpOk le (I1.hok.fresh le)

/-! ### enumerate of a list or a tuple -/
theorem meets_enum1 {v : Value} {o : Obj} {H : Heap → Prop} (B : Begins v o H) :
    Meets (Builtin.«enumerate.__new__» ⟨[.type "enumerate", v], []⟩) (fun _ R s => H s.heap ∧
      R (.ok (.ret (.ref (s.heap.push o).objs.size))) { s with heap := (s.heap.push o).push { cls := .type "enumerate", data := .fields #[.none, .bool false, .ref s.heap.objs.size, rawInt 0, .none, .none] } }) :=
  .of_wp fun prog w A R s ⟨h1, h⟩ => by
    obtain ⟨hp, g, d, tk, os⟩ := s
    have hsub := sub_enumerate
    have it : ∀ {A' : Around} {E : Value → Shared → Prop} {Q : Value → Shared → Prop}, Q (.ref hp.objs.size) ⟨hp.push o, g, d, tk, os⟩ → wpAny (model prog w) A' (pyIter v) Q E ⟨hp, g, d, tk, os⟩ := fun q => B.iter prog w _ _ ⟨hp, g, d, tk, os⟩ _ h1 q
    wp_walk using it
    refine wpAny_stack_any fun st => wpAny_pure ?_
    split
    · rename_i c _ _ _ _ _
      cases (c == Value.type "enumerate") <;> (wp_walk using it; exact ⟨_, rfl, h⟩)
    · wp_walk using it
      exact ⟨_, rfl, h⟩
theorem call_enum1 {prog : Program} {w : World} {A : Around} {E : Value → Shared → Prop} {s : Shared} {v : Value} {o : Obj} {H : Heap → Prop} {Q : Value → Shared → Prop} (B : Begins v o H) (h1 : H s.heap)
    (h : ∀ h', IsEnum h' (s.heap.objs.size + 1) s.heap.objs.size 0 .none → h'.get? s.heap.objs.size = some o → (∀ b o, s.heap.get? b = some o → h'.get? b = some o) → Q (.ref (s.heap.objs.size + 1)) { s with heap := h' }) :
    wpAny (model prog w) A (call (.type "enumerate") [v]) Q E s := by
  refine callType_new F.called_enumerate (by decide) (F.typeCall_enumerate_1 _) (F.newCall_enumerate_1 _) (fun obj => F.args_object_init_2 obj _) F.entry_enumerate_new (meets_enum1 B) ⟨h1, ?_⟩
  have hz : (s.heap.push o).objs.size = s.heap.objs.size + 1 := Heap.size_push ..
  have he := Heap.get?_push_size (s.heap.push o) (o := { cls := .type "enumerate", data := .fields #[.none, .bool false, .ref s.heap.objs.size, rawInt 0, .none, .none] }) rfl
  show _ ∧ _
  rw [hz] at he ⊢
  exact ⟨⟨_, he, rfl⟩, h _ he (Heap.get?_push_of_some _ (Heap.get?_push_size _ B.free)) fun b o x => Heap.get?_push_of_some _ (Heap.get?_push_of_some _ x)⟩
def IteM (K : PySem.W.Frag) (k : Bool) (a : Addr) : It :=
  ⟨fun i H => ∃ (xs : List V) (x : V), SqK k K H a xs ∧ xs[i]? = some x,
    fun i H v H' => ∃ T x, v = .ref T ∧ H T = none ∧ H' = upd H T (.tup [.int (i : Nat), x]) ∧ ∀ xs, SqK k K H a xs → xs[i]? = some x,
    fun i H => ∃ xs : List V, SqK k K H a xs ∧ i = xs.length⟩
theorem turn_enumM {P : Program} {w : World} {K : PySem.W.Frag} {k : Bool} {elts : List Expr} {kk : Nat} {tpos : Pos} {a e it : Addr} (hei : e ≠ it) (hea : e ≠ a) (ha : a ≠ it) :
    Turn P w K (.Tuple elts kk tpos) (IteM K k a) [e, it] e (fun i h => (∃ old, IsEnum h e it (0 + (i : Int)) old) ∧ ItK k h it a i) where
  mem := by simp
  obj := fun i h ⟨⟨old, h1⟩, h2⟩ c hc => by
    simp only [List.mem_cons, List.not_mem_nil, or_false] at hc
    rcases hc with rfl | rfl
    · exact ⟨_, h1, fun v q => nomatch q⟩
    · exact h2.obj
  keep := fun i h h' ⟨⟨old, h1⟩, h2⟩ q => ⟨⟨old, q _ (by simp) _ h1⟩, h2.keep (q _ (by simp))⟩
  item := by
    intro X hP hw hK hc i pins s σ H E I hf st hg
    subst hP hw hK
    obtain ⟨⟨old, h1⟩, h2⟩ := st
    obtain ⟨xs, x, qx, ex⟩ := hg
    obtain ⟨us, ru, pu, _⟩ := Inv.sqK I qx
    obtain ⟨u, hu, ru1⟩ := ru.get ex
    have hhd : X.A.in1.handled = none := I.ok.hd hc
    have W := GoesN.enumFrom (prog := X.prog) (w := X.w) (A := X.A) (elts := elts) (x1 := kk) (pos := tpos) 0 (drawsK hhd k it a ha us.toArray) e hei (by simp [hei, hea]) (by simp)
    have lu : i < us.length := by
      by_cases q : i < us.length
      · exact q
      · rw [List.getElem?_eq_none (Nat.le_of_not_lt q)] at hu; cases hu
    refine W.goes i s _ E (by simpa using lu) ⟨⟨old, h1⟩, h2, pu⟩ fun val h' tk hY st' hk _ => ?_
    obtain ⟨T, t, x', rfl, hT, e1, hI⟩ := hY
    have ex' : x' = u := by
      have q : us[i]? = some x' := by simpa using e1
      rw [hu] at q; exact (Option.some.inj q).symm
    subst ex'
    obtain ⟨g1, g2, _⟩ := st'
    have kp : ∀ c o, c ∉ [e, it] → s.heap.get? c = some o → h'.get? c = some o := fun c o hc' q => hk c o hc' q
    have e0 : (0 : Int) + (i : Int) = ((i : Nat) : Int) := by omega
    rw [e0] at hI
    have I1 := I.turnedNew (t' := tk) (ob := .tup [.int (i : Nat), x]) kp hf hT ⟨by show 2 ≤ sizeLine; decide, [.int (i : Nat) t, x'], .cons ⟨t, rfl⟩ (.cons ru1 .nil), hI⟩
    refine ⟨.ref T, _, I1, rfl, ⟨T, x, rfl, I.hok.fresh hT, rfl, fun zs hz => by rw [Inv.sqK_inj I hz qx]; exact ex⟩, ⟨g1, g2⟩, fun c hcm => ?_⟩
    have lt : c < s.heap.objs.size := by
      simp only [List.mem_cons, List.not_mem_nil, or_false] at hcm
      rcases hcm with rfl | rfl
      · exact Heap.lt_size h1
      · obtain ⟨_, q, _⟩ := h2.obj; exact Heap.lt_size q
    rw [upd_ne (Nat.ne_of_lt (Nat.lt_of_lt_of_le lt hT))]
    exact (hf c hcm).1
  done := by
    intro X hP hw hK hc i pins s σ H E I hf st hg
    subst hP hw hK
    obtain ⟨⟨old, h1⟩, h2⟩ := st
    obtain ⟨xs, qx, ei⟩ := hg
    obtain ⟨us, ru, pu, _⟩ := Inv.sqK I qx
    have hhd : X.A.in1.handled = none := I.ok.hd hc
    have W := GoesN.enumFrom (prog := X.prog) (w := X.w) (A := X.A) (elts := elts) (x1 := kk) (pos := tpos) 0 (drawsK hhd k it a ha us.toArray) e hei (by simp [hei, hea]) (by simp)
    have en : i = us.toArray.size := by rw [List.size_toArray, ← ru.length]; exact ei
    subst en
    exact W.stops s _ E ⟨⟨old, h1⟩, h2, pu⟩ fun h' tk hk _ => I.turnedL (fun c o hc' q => hk c o hc' q) hf
  self := fun A i s Q E st h => let ⟨⟨_, he⟩, _⟩ := st; wpAny_pyIter_enum he h
def iEnumM (K : PySem.W.Frag) (ta : TA) : TI := fun σ H R => ta σ H fun vs H1 => ∃ k a xs, vs = [.ref a] ∧ SqK k K H1 a xs ∧ R (IteM K k a) H1
theorem pi_enumM {X : Cx} {e : Expr} {ta : TA} {p pos tpos : Pos} {elts : List Expr} {kk : Nat} (hg : Gl X "enumerate") (hm : X.mg "enumerate" = none) (ha : PA X [e] ta) (hs : starEach [e] X.env = [(false, eval e X.env)] := by rfl) :
    PI X (.Tuple elts kk tpos) (.Call (.Name "enumerate" p) [e] [] pos) (iEnumM X.K ta) := by
  refine ⟨fun pins s σ H R I h => Call_ (ld_blt I hg hm boot_enumerate (PyProof.Rows.callWith_type1 (thn (ha.run pos pins s σ H _ I h) fun us s1 ⟨vs, H1, I1, r1, q1⟩ => ?_) hs rfl))⟩
  obtain ⟨k, a, xs, ex, qx, q⟩ := q1
  subst ex
  obtain ⟨u1, rfl, ra⟩ := vals1 r1
  cases ra
  obtain ⟨us, ru, pu, la⟩ := Inv.sqK I1 qx
  obtain ⟨o1, B1, b1⟩ := beginsK k a us.toArray
  refine call_enum1 B1 pu fun h' hz e1 hk => wpAny_pyIter_enum hz ?_
  have I2 : Inv X pins σ H1 { s1 with heap := h' } := I1.kept (t' := s1.toks) hk
  have na : a ≠ s1.heap.objs.size := Nat.ne_of_lt la
  refine ⟨_, _, _, _, H1, rfl, I2, turn_enumM (k := k) (Nat.succ_ne_self _) (Nat.ne_of_gt (Nat.lt_succ_of_lt la)) na, ⟨⟨.none, by simpa using hz⟩, b1 _ _ e1⟩, fun c hc => ?_, q⟩
  have le : s1.heap.objs.size ≤ c := by
    simp only [List.mem_cons, List.not_mem_nil, or_false] at hc
    rcases hc with rfl | rfl
    · exact Nat.le_add_right _ _
    · exact Nat.le_refl _
  exact I1.fpOk le (I1.hok.fresh le)

/-! ### a list, a tuple or a text, whatever it is -/
def iAny (K : PySem.W.Frag) (te : TE) : TI := fun σ H R => te σ H fun x H1 => (∃ a xs, x = .ref a ∧ SqL K H1 a xs ∧ R (Itl K a) H1) ∨ (∃ a xs, x = .ref a ∧ SqT K H1 a xs ∧ R (Itt K a) H1) ∨ (∃ z, x = .str z ∧ R (Its z) H1) ∨
  ∃ d o, x = .ref d ∧ ((∃ kvs, H1 d = some (.frz o (.dK kvs)) ∧ R (Itk d o kvs) H1) ∨ ∃ kvs, H1 d = some (.frz o (.dT kvs)) ∧ R (Itkt d o kvs) H1)
theorem pi_any {X : Cx} {tg e : Expr} {te : TE} (he : PE X e te) : PI X tg e (iAny X.K te) := by
  refine ⟨fun pins s σ H R I h => thn (he.run pins s σ H _ I h) fun v s1 ⟨x, H1, I1, r1, q1⟩ => ?_⟩
  have one : ∀ b, b ∈ [s1.heap.objs.size] → FpOk X pins H1 b := fun b hb => by
    rw [List.mem_singleton.mp hb]
    exact I1.fpOk (Nat.le_refl _) (I1.hok.fresh (Nat.le_refl _))
  have kp : ∀ o, Inv X pins σ H1 { s1 with heap := s1.heap.push o } := fun o => I1.kept (t' := s1.toks) fun b u q => Heap.get?_push_of_some _ q
  rcases q1 with ⟨a, xs, rfl, hq, q⟩ | ⟨a, xs, rfl, hq, q⟩ | ⟨z, rfl, q⟩ | ⟨d, o, rfl, q⟩
  · cases r1
    obtain ⟨its, _, p, _⟩ := I1.list hq
    exact wpAny_pyIter_list p.isList ⟨_, _, _, _, H1, rfl, kp _, turn_list a _, ⟨_, Heap.get?_push_size _ rfl, rfl, rfl⟩, one, q⟩
  · cases r1
    obtain ⟨its, _, p, _⟩ := I1.tuple hq
    exact wpAny_pyIter_tuple (show s1.heap.IsTuple a its.toArray from p) ⟨_, _, _, _, H1, rfl, kp _, turn_tuple a _, ⟨_, Heap.get?_push_size _ rfl, rfl, rfl⟩, one, q⟩
  · obtain ⟨t, rfl⟩ := r1
    cases ha : z.cps.all (· < 128)
    · exact wpAny_pyIter_wide ha (pi_one (tk := s1.toks) I1 _ (turn_str _ z t "str_iterator" (.inr rfl)) ⟨_, Heap.get?_push_size _ rfl, rfl, rfl⟩ q)
    · exact wpAny_pyIter_ascii ha (pi_one (tk := s1.toks) I1 _ (turn_str _ z t "str_ascii_iterator" (.inl rfl)) ⟨_, Heap.get?_push_size _ rfl, rfl, rfl⟩ q)
  · cases r1
    rcases q with ⟨kvs, hd, q⟩ | ⟨kvs, hd, q⟩
    · obtain ⟨hs, hgd, hx, es, ep, vs, hdt, hsz, kv, hm⟩ := I1.frzK hd
      refine iter_keys hs hgd hx hdt (pi_one (tk := s1.toks) I1 _ (turn_keys _ hdt) ⟨_, Heap.get?_push_size _ rfl, rfl, ?_⟩ q)
      rw [hsz] <;> rfl
    · obtain ⟨hs, hgd, hx, es, ep, hdt, hsz, ent⟩ := I1.frzT hd
      refine iter_keys hs hgd hx hdt (pi_one (tk := s1.toks) I1 _ (turn_keysT _ hdt) ⟨_, Heap.get?_push_size _ rfl, rfl, ?_⟩ q)
      rw [hsz] <;> rfl
end Tr
/-! The tree layer: targets, loops, comprehensions, defs. -/
namespace Tr
open PySem PySem.Spec PyProof.Rows L2

/-! ### targets -/
abbrev WG := D → TEnv → (TEnv → Prop) → Prop
abbrev WGs := List D → TEnv → (TEnv → Prop) → Prop
/-- what a target does to the slots: at ix alone -/
structure Slots (ix : List Nat) (ρ ρ' : TEnv) (σ σ' : L2.St) : Prop where
  mem : ∀ b ∈ ownedE ρ', b ∈ ownedE ρ
  at_ : ∀ j, j ∉ ix → σ'[j]? = σ[j]?
  len : σ'.length = σ.length
theorem Slots.refl {ix : List Nat} {ρ : TEnv} {σ : L2.St} : Slots ix ρ ρ σ σ := ⟨fun _ h => h, fun _ _ => rfl, rfl⟩
theorem Slots.trans {ix : List Nat} {ρ ρ1 ρ2 : TEnv} {σ σ1 σ2 : L2.St} (a : Slots ix ρ ρ1 σ σ1) (b : Slots ix ρ1 ρ2 σ1 σ2) : Slots ix ρ ρ2 σ σ2 :=
  ⟨fun c h => a.mem c (b.mem c h), fun j h => (b.at_ j h).trans (a.at_ j h), b.len.trans a.len⟩
theorem Slots.mono {ix ix' : List Nat} {ρ ρ1 : TEnv} {σ σ1 : L2.St} (a : Slots ix ρ ρ1 σ σ1) (h : ∀ j ∈ ix, j ∈ ix') : Slots ix' ρ ρ1 σ σ1 := ⟨a.mem, fun j q => a.at_ j fun z => q (h j z), a.len⟩
def liftG (K : PySem.W.Frag) (ix : List Nat) (g : WG) : TG := fun v σ H Q => ∃ ρ F d P, SR K ρ σ F H ∧ Rep K F v d ∧ g d ρ P ∧ ∀ ρ' σ', P ρ' → SR K ρ' σ' F H → Slots ix ρ ρ' σ σ' → Q σ' H
def liftGs (K : PySem.W.Frag) (ix : List Nat) (g : WGs) : TGs := fun vs σ H Q => ∃ ρ F ds P, SR K ρ σ F H ∧ RepL K F vs ds ∧ g ds ρ P ∧ ∀ ρ' σ', P ρ' → SR K ρ' σ' F H → Slots ix ρ ρ' σ σ' → Q σ' H
structure XG (X : Cx) (tg : Expr) (ix : List Nat) (g : WG) : Prop where
  pg : PG X tg (liftG X.K ix g)
structure XGs (X : Cx) (ts : List Expr) (ix : List Nat) (g : WGs) : Prop where
  pg : PGs X ts (liftGs X.K ix g)
theorem PG.imp {X : Cx} {e : Expr} {t t' : TG} (h : PG X e t) (i : ∀ v σ H Q, t' v σ H Q → t v σ H Q) : PG X e t' := ⟨fun pins s σ H v u Q I r hw => h.run pins s σ H v u Q I r (i _ _ _ _ hw)⟩
theorem PGs.imp {X : Cx} {e : List Expr} {t t' : TGs} (h : PGs X e t) (i : ∀ v σ H Q, t' v σ H Q → t v σ H Q) : PGs X e t' := ⟨fun pins s σ H v u Q I r hw => h.run pins s σ H v u Q I r (i _ _ _ _ hw)⟩
def gN (i : Nat) : WG := fun d ρ P => putC ρ i (some (.fz d)) P
def gsNil : WGs := fun ds ρ P => match ds with
  | [] => P ρ
  | _ => False
def gsCons (g : WG) (gs : WGs) : WGs := fun ds ρ P => match ds with
  | d :: r => g d ρ fun ρ1 => gs r ρ1 P
  | _ => False
def gT (n : Nat) (gs : WGs) : WG := fun d ρ P => match d with
  | .tup ds => ds.length = n ∧ gs ds ρ P
  | _ => False
section
variable {X : Cx} {e : Expr} {es : List Expr} {ix ix' : List Nat} {g : WG} {gs : WGs} {pos : Pos}
theorem xg_name {i : Nat} (h : PG X e (gName i)) : XG X e [i] (gN i) := ⟨PG.imp h fun v σ H Q ⟨ρ, F, d, P, s, r, hw, k⟩ => by
  obtain ⟨s2, m⟩ := (s.pushD r).store (i := i)
  have hw : putC ρ i (some (.fz d)) P := hw
  rw [putC_eq] at hw
  exact k _ _ hw s2 ⟨m, fun j hj => List.getElem?_set_ne (fun e => hj (by rw [e]; exact List.mem_singleton_self _)), List.length_set⟩⟩
theorem xgs_nil : XGs X [] [] gsNil := ⟨PGs.imp pgs_nil fun v σ H Q ⟨ρ, F, ds, P, s, r, hw, k⟩ => by
  cases r with
  | nil => exact ⟨rfl, k _ _ hw s .refl⟩
  | cons a b => exact (show False from hw).elim⟩
theorem xgs_cons (h : XG X e ix g) (hr : XGs X es ix' gs) (hs : (assignEach (e :: es) X.env).map (·.2) = assign e X.env :: (assignEach es X.env).map (·.2) := by rfl) : XGs X (e :: es) (ix ++ ix') (gsCons g gs) :=
  ⟨PGs.imp (pgs_cons h.pg hr.pg hs) fun v σ H Q ⟨ρ, F, ds, P, s, r, hw, k⟩ => by
    cases r with
    | nil => exact (show False from hw).elim
    | cons a b =>
      exact ⟨_, _, rfl, ρ, F, _, _, s, a, hw, fun ρ1 σ1 p1 s1 t1 => ⟨ρ1, F, _, _, s1, b, p1, fun ρ2 σ2 p2 s2 t2 => k _ _ p2 s2 ((t1.mono fun j q => List.mem_append_left _ q).trans (t2.mono fun j q => List.mem_append_right _ q))⟩⟩⟩
theorem xg_tup {k n : Nat} (hc : X.calm = true) (h : XGs X es ix gs) (hn : (assignEach es X.env).length = n := by rfl) (hst : (assignEach es X.env).findIdx? (·.1) = none := by rfl) : XG X (.Tuple es k pos) ix (gT n gs) :=
  ⟨PG.imp (pg_tup hc h.pg hn hst) fun v σ H Q ⟨ρ, F, d, P, s, r, hw, k⟩ => by
    unfold gT at hw
    split at hw
    · cases r with
      | tup h1 z r =>
        exact ⟨_, _, rfl, s.sub.sqT h1, by rw [r.length]; exact hw.1, ρ, F, _, P, s, r, hw.2, k⟩
    · exact hw.elim⟩
/-- target = e -/
def wAsg (g : WG) (w : WD) : WS := fun ρ E => w ρ fun d ρ' => g d ρ' E.nx
theorem xs_asg {st : Stmt} {w : WD} (h : PS X st (tAsg (liftD X.K w) (liftG X.K ix g))) : XS X st (wAsg g w) := ⟨fun W tk => PS.imp h fun D σ H ⟨ρ, F, E, s, hw, k⟩ =>
  ⟨ρ, F, _, s, hw, fun d ρ' F' H' v p s' r f => ⟨ρ', F', d, _, s', r, p, fun ρ2 σ2 p2 s2 t => k.nx _ _ _ _ p2 s2 (f.less t.mem)⟩⟩⟩
/-- a, b = e1, e2 -/
def wPar (i j : Nat) (wa wb : WD) : WS := fun ρ E => wa ρ fun d ρ1 => wb ρ1 fun e ρ2 => putC ρ2 i (some (.fz d)) fun ρ3 => putC ρ3 j (some (.fz e)) E.nx
theorem xs_par {st : Stmt} {i j : Nat} {wa wb : WD} (h : PS X st (tPar i j (liftA X.K (wCons wa (wCons wb wNil))))) : XS X st (wPar i j wa wb) := ⟨fun W tk => PS.imp h fun D σ H ⟨ρ, F, E, s, hw, k⟩ =>
  ⟨ρ, F, fun ds ρ' => match ds with
    | [d, e] => putC ρ' i (some (.fz d)) fun ρ3 => putC ρ3 j (some (.fz e)) E.nx
    | _ => False, s, hw, fun ds ρ' F' H' vs p s' r f => by
    match ds, p with
    | [d, e], p =>
    cases r with
    | cons a r =>
    cases r with
    | cons b r =>
    cases r
    have p : putC ρ' i (some (.fz d)) fun ρ3 => putC ρ3 j (some (.fz e)) E.nx := p
    refine ⟨_, _, rfl, ?_⟩
    obtain ⟨s2, m2⟩ := (s'.pushD a).store (i := i)
    obtain ⟨s3, m3⟩ := (s2.pushD b).store (i := j)
    rw [putC_eq, putC_eq] at p
    exact k.nx _ _ _ _ p s3 (f.less fun c hc => m2 c (m3 c hc))⟩⟩
/-- a, b, c = e1, e2, e3 -/
def wPar3 (i j l : Nat) (wa wb wc : WD) : WS := fun ρ E => wa ρ fun d ρ1 => wb ρ1 fun e ρ2 => wc ρ2 fun u ρ3 => putC ρ3 i (some (.fz d)) fun ρ4 => putC ρ4 j (some (.fz e)) fun ρ5 => putC ρ5 l (some (.fz u)) E.nx
theorem xs_par3 {st : Stmt} {i j l : Nat} {wa wb wc : WD} (h : PS X st (tPar3 i j l (liftA X.K (wCons wa (wCons wb (wCons wc wNil)))))) : XS X st (wPar3 i j l wa wb wc) := ⟨fun W tk => PS.imp h fun D σ H ⟨ρ, F, E, s, hw, k⟩ =>
  ⟨ρ, F, fun ds ρ' => match ds with
    | [d, e, u] => putC ρ' i (some (.fz d)) fun ρ4 => putC ρ4 j (some (.fz e)) fun ρ5 => putC ρ5 l (some (.fz u)) E.nx
    | _ => False, s, hw, fun ds ρ' F' H' vs p s' r f => by
    match ds, p with
    | [d, e, u], p =>
    cases r with
    | cons a r =>
    cases r with
    | cons b r =>
    cases r with
    | cons c r =>
    cases r
    have p : putC ρ' i (some (.fz d)) fun ρ4 => putC ρ4 j (some (.fz e)) fun ρ5 => putC ρ5 l (some (.fz u)) E.nx := p
    refine ⟨_, _, _, rfl, ?_⟩
    obtain ⟨s2, m2⟩ := (s'.pushD a).store (i := i)
    obtain ⟨s3, m3⟩ := (s2.pushD b).store (i := j)
    obtain ⟨s4, m4⟩ := (s3.pushD c).store (i := l)
    rw [putC_eq, putC_eq, putC_eq] at p
    exact k.nx _ _ _ _ p s4 (f.less fun c hc => m2 c (m3 c (m4 c hc)))⟩⟩
end

/-! ### what is walked -/
/-- what is locked stays locked -/
def Lk (H0 H : Hp) : Prop := ∀ b o u, H0 b = some (.frz o u) → H b = some (.frz o u)
structure ItOk (K : PySem.W.Frag) (J : It) (F H0 : Hp) (ds : List D) : Prop where
  sz : ds.length ≤ sizeLine
  go : ∀ i H F1, i < ds.length → Sub F F1 → Sb F1 H → Lk H0 H → J.go i H
  stop : ∀ H F1, Sub F F1 → Sb F1 H → Lk H0 H → J.stop ds.length H
  yld : ∀ i H F1 x H', i < ds.length → Sub F F1 → Sb F1 H → Lk H0 H → J.yld i H x H' → ∃ d F2, ds[i]? = some d ∧ Rep K F2 x d ∧ Grow F1 H F2 H' ∧ Sb F2 H'
def liftI (K : PySem.W.Frag) (w : WL) : TI := fun σ H R => ∃ ρ F P, SR K ρ σ F H ∧ w ρ P ∧
  ∀ ds ρ' F' H' J, P ds ρ' → SR K ρ' σ F' H' → Frm (ownedE ρ) F H (ownedE ρ') F' H' → ItOk K J F' H' ds → R J H'
structure XI (X : Cx) (tg it : Expr) (w : WL) : Prop where
  pi : PI X tg it (liftI X.K w)
theorem PI.imp {X : Cx} {tg e : Expr} {t t' : TI} (h : PI X tg e t) (i : ∀ σ H Q, t' σ H Q → t σ H Q) : PI X tg e t' := ⟨fun pins s σ H Q I hw => h.run pins s σ H Q I (i _ _ _ hw)⟩
theorem Grow.refl {F H : Hp} : Grow F H F H := ⟨fun _ _ h => h, fun _ _ _ _ n h => ⟨h, n⟩, fun _ h => (nomatch h), fun _ o h => ⟨o, h⟩, fun _ _ _ h => h⟩
/-- the signs of a text -/
def signs (z : Str) : List D := z.cps.toList.map fun c => .str ⟨#[c]⟩
def kD : Key → D
  | .inl i => .int i
  | .inr x => .str x
/-- a tuple of keys -/
def kT (k : List Key) : D := .tup (k.map kD)
def D.walk : D → Option (List D)
  | .str z => some (signs z)
  | .dct kvs => some (kvs.map fun q => kD q.1)
  | .dcT kvs => some (kvs.map fun q => kT q.1)
  | d => d.items
def wWalk (w : WD) : WL := fun ρ P => w ρ fun d ρ' => match d.walk with
  | some ds => P ds ρ'
  | none => False
def wRng1 (w : WD) : WL := fun ρ P => w ρ fun d ρ' => match d with
  | .int j => (-(2 ^ 62) ≤ j ∧ j ≤ 16777216) ∧ P ((List.range j.toNat).map fun (k : Nat) => .int k) ρ'
  | _ => False
def wRng2 (wa wb : WD) : WL := fun ρ P => wa ρ fun d ρ1 => wb ρ1 fun e ρ2 => match d, e with
  | .int i, .int j => (0 ≤ i ∧ i < 2 ^ 62 ∧ -(2 ^ 62) ≤ j ∧ j ≤ 16777216) ∧ P ((List.range (j - i).toNat).map fun (k : Nat) => .int (i + k)) ρ2
  | _, _ => False
def wZip (wa wb : WD) : WL := fun ρ P => wa ρ fun d ρ1 => wb ρ1 fun e ρ2 => match d.items, e.items with
  | some ds, some es => P ((ds.zip es).map fun p => .tup [p.1, p.2]) ρ2
  | _, _ => False
def wEnum (wa : WD) : WL := fun ρ P => wa ρ fun d ρ1 => match d.items with
  | some ds => P (ds.zipIdx.map fun p => .tup [.int p.2, p.1]) ρ1
  | none => False
section
variable {X : Cx} {tg e e2 : Expr} {w wa wb : WD}
theorem Rep.sqK {K : PySem.W.Frag} {F : Hp} {v : V} {d : D} {ds : List D} (r : Rep K F v d) (h : d.items = some ds) : ∃ k p xs, v = .ref p ∧ (∀ F1 H, Sub F F1 → Sb F1 H → SqK k K H p xs) ∧ RepL K F xs ds ∧ ds.length ≤ sizeLine := by
  cases r <;> first
    | (cases h; done)
    | skip
  all_goals (have h' := Option.some.inj h; subst h')
  · rename_i h1 z r; exact ⟨false, _, _, rfl, fun F1 H su sb => sb.sqT (su _ _ h1), r, z⟩
  · rename_i h1 z r; exact ⟨true, _, _, rfl, fun F1 H su sb => sb.sqL (sqL_sub su (.inl (.inl h1))), r, z⟩
  · rename_i h1 z r; exact ⟨true, _, _, rfl, fun F1 H su sb => sb.sqL (sqL_sub su h1), r, z⟩
theorem getElem_of {α : Type} {l : List α} {i : Nat} (h : i < l.length) : ∃ x, l[i]? = some x := ⟨l[i], List.getElem?_eq_getElem h⟩
/-- a dict that is walked is locked -/
def tLk (td : TE) : TE := fun σ H Q => td σ H fun x H1 => Q x H1 ∨ ∃ d u, H1 d = some u ∧ Mut (some u) ∧ ∀ od, Q x (upd H1 d (.frz od u))
theorem pe_lk {td : TE} (h : PE X e td) : PE X e (tLk td) := ⟨fun pins s σ H Q I hw => by
  refine thn (h.run pins s σ H _ I hw) fun u s1 ⟨x, H1, I1, r1, q1⟩ => ?_
  rcases q1 with q | ⟨d, w, hd, mu, q⟩
  · exact ⟨x, H1, I1, r1, q⟩
  · obtain ⟨od, I2⟩ := I1.lock hd mu
    exact ⟨x, _, I2, r1, q od⟩⟩
theorem PI_or {t t' : TI} (h : PI X tg e t) (h' : PI X tg e t') : PI X tg e (fun σ H R => t σ H R ∨ t' σ H R) := ⟨fun pins s σ H Q I hw => hw.elim (h.run pins s σ H Q I) (h'.run pins s σ H Q I)⟩
theorem RepK.at {K : PySem.W.Frag} {F : Hp} : ∀ {es : List (Key × V)} {kvs : List (Key × D)} {i : Nat} {k : Key} {v : V}, RepK K F es kvs → es[i]? = some (k, v) → KOk k ∧ ∃ d, kvs[i]? = some (k, d) ∧ Rep K F v d
  | _, _, _, _, _, .nil, e => by cases e
  | _, _, 0, _, _, .cons q h _, e => by cases e; exact ⟨q, _, rfl, h⟩
  | _, _, i + 1, _, _, .cons _ _ r, e => RepK.at (i := i) r (by simpa using e)
theorem RepT.at {K : PySem.W.Frag} {F : Hp} : ∀ {es : List (List Key × V)} {kvs : List (List Key × D)} {i : Nat} {k : List Key} {v : V}, RepT K F es kvs → es[i]? = some (k, v) → KsOk k ∧ ∃ d, kvs[i]? = some (k, d) ∧ Rep K F v d
  | _, _, _, _, _, .nil, e => by cases e
  | _, _, 0, _, _, .cons q h _, e => by cases e; exact ⟨q, _, rfl, h⟩
  | _, _, i + 1, _, _, .cons _ _ r, e => RepT.at (i := i) r (by simpa using e)
theorem RepT.length {K : PySem.W.Frag} {F : Hp} : ∀ {es : List (List Key × V)} {kvs : List (List Key × D)}, RepT K F es kvs → es.length = kvs.length
  | _, _, .nil => rfl
  | _, _, .cons _ _ r => congrArg (· + 1) (RepT.length r)
theorem kD_rep {K : PySem.W.Frag} {F : Hp} {k : Key} (h : KOk k) : Rep K F (kV k) (kD k) := by
  cases k with
  | inl i => exact .int i
  | inr x => exact .str x h
theorem kDs_rep {K : PySem.W.Frag} {F : Hp} : ∀ {k : List Key}, (∀ j ∈ k, KOk j) → RepL K F (k.map kV) (k.map kD)
  | [], _ => .nil
  | k :: ks, h => .cons (kD_rep (h k List.mem_cons_self)) (kDs_rep fun j hj => h j (List.mem_cons_of_mem _ hj))
theorem xi_any (he : XE X e w) : XI X tg e (wWalk w) := ⟨PI.imp (pi_any (pe_lk he.pe)) fun σ H R ⟨ρ, F, P, s, hw, k⟩ =>
  ⟨ρ, F, _, s, hw, fun d ρ' F' H' v p s' r f => by
    have seq : ∀ ds, d.items = some ds → P ds ρ' → (∃ a xs, v = .ref a ∧ SqL X.K H' a xs ∧ R (Itl X.K a) H') ∨ (∃ a xs, v = .ref a ∧ SqT X.K H' a xs ∧ R (Itt X.K a) H') ∨ (∃ z, v = .str z ∧ R (Its z) H') ∨
      ∃ d o, v = .ref d ∧ ((∃ kvs, H' d = some (.frz o (.dK kvs)) ∧ R (Itk d o kvs) H') ∨ ∃ kvs, H' d = some (.frz o (.dT kvs)) ∧ R (Itkt d o kvs) H') := fun ds hi p => by
      obtain ⟨kd, a, xs, rfl, hq, r, z⟩ := r.sqK hi
      cases kd
      · refine .inr (.inl ⟨a, xs, rfl, hq F' H' (fun _ _ h => h) s'.sub, k _ _ _ _ _ p s' f ⟨z, fun i H1 F1 hi su sb _ => ?_, fun H1 F1 su sb _ => ⟨xs, hq F1 H1 su sb, by rw [r.length]; exact Nat.le_refl _⟩, fun i H1 F1 x H2 hi su sb _ y => ?_⟩⟩)
        · obtain ⟨x, hx⟩ := getElem_of (l := xs) (by rw [r.length]; exact hi)
          exact ⟨xs, x, hq F1 H1 su sb, hx⟩
        · obtain ⟨rfl, y⟩ := y
          obtain ⟨u, hu, ru⟩ := r.get' (y xs (hq F1 _ su sb))
          exact ⟨u, F1, hu, ru.mono su, .refl, sb⟩
      · refine .inl ⟨a, xs, rfl, hq F' H' (fun _ _ h => h) s'.sub, k _ _ _ _ _ p s' f ⟨z, fun i H1 F1 hi su sb _ => ?_, fun H1 F1 su sb _ => ⟨xs, hq F1 H1 su sb, by rw [r.length]; exact Nat.le_refl _⟩, fun i H1 F1 x H2 hi su sb _ y => ?_⟩⟩
        · obtain ⟨x, hx⟩ := getElem_of (l := xs) (by rw [r.length]; exact hi)
          exact ⟨xs, x, hq F1 H1 su sb, hx⟩
        · obtain ⟨rfl, y⟩ := y
          obtain ⟨u, hu, ru⟩ := r.get' (y xs (hq F1 _ su sb))
          exact ⟨u, F1, hu, ru.mono su, .refl, sb⟩
    cases hd : d.walk with
    | none => rw [hd] at p; exact p.elim
    | some ds =>
      rw [hd] at p
      cases d <;> first
        | exact .inl (seq ds hd p)
        | skip
      case dct kvs =>
        cases hd
        cases r with
        | @dct a es _ hF lz rk =>
        have ok : ∀ o H2, H2 a = some (.frz o (.dK es)) → ItOk X.K (Itk a o es) F' H2 (kvs.map fun q => kD q.1) := fun o H2 h2 => ⟨by rw [List.length_map]; exact lz, fun i H1 F1 hi su sb lk => ⟨lk _ _ _ h2, by rw [rk.length]; simpa using hi⟩, fun H1 F1 su sb lk => ⟨lk _ _ _ h2, by rw [rk.length]; simp⟩, fun i H1 F1 x H2 hi su sb _ y => by
          obtain ⟨rfl, key, v, hv, rfl⟩ := y
          obtain ⟨ko, u, hu, _⟩ := rk.at hv
          exact ⟨kD key, F1, by rw [List.getElem?_map, hu]; rfl, kD_rep ko, .refl, sb⟩⟩
        rcases s'.sub.dK hF with h | ⟨o, h⟩
        · refine .inr ⟨a, _, h, True.intro, fun od => .inr (.inr (.inr ⟨a, od, rfl, .inl ⟨es, upd_same, ?_⟩⟩))⟩
          obtain ⟨s2, f2⟩ := s'.lock (od := od) hF True.intro h
          exact k _ _ _ _ _ p s2 (f.trans (f2 _)) (ok od _ upd_same)
        · exact .inl (.inr (.inr (.inr ⟨a, o, rfl, .inl ⟨es, h, k _ _ _ _ _ p s' f (ok o _ h)⟩⟩)))
      case dcT kvs =>
        cases hd
        cases r with
        | @dcT a es _ hF lz rk =>
        have ok : ∀ o H2, H2 a = some (.frz o (.dT es)) → ItOk X.K (Itkt a o es) F' H2 (kvs.map fun q => kT q.1) := fun o H2 h2 => ⟨by rw [List.length_map]; exact lz, fun i H1 F1 hi su sb lk => ⟨lk _ _ _ h2, by rw [rk.length]; simpa using hi⟩, fun H1 F1 su sb lk => ⟨lk _ _ _ h2, by rw [rk.length]; simp⟩, fun i H1 F1 x H2 hi su sb _ y => by
          obtain ⟨rfl, key, v, q, hv, rfl, hq⟩ := y
          obtain ⟨ko, u, hu, _⟩ := rk.at hv
          obtain ⟨F2, sb2, g2, e2⟩ := sb.tupF X.K hq
          exact ⟨kT key, F2, by rw [List.getElem?_map, hu]; rfl, .tup e2 (by rw [List.length_map]; exact ko.1) (kDs_rep ko.2), g2, sb2⟩⟩
        rcases s'.sub.dT hF with h | ⟨o, h⟩
        · refine .inr ⟨a, _, h, True.intro, fun od => .inr (.inr (.inr ⟨a, od, rfl, .inr ⟨es, upd_same, ?_⟩⟩))⟩
          obtain ⟨s2, f2⟩ := s'.lock (od := od) hF True.intro h
          exact k _ _ _ _ _ p s2 (f.trans (f2 _)) (ok od _ upd_same)
        · exact .inl (.inr (.inr (.inr ⟨a, o, rfl, .inr ⟨es, h, k _ _ _ _ _ p s' f (ok o _ h)⟩⟩)))
      rename_i z
      cases hd
      cases r with
      | str _ hz =>
      have len : (signs z).length = z.cps.size := by unfold signs; rw [List.length_map, Array.length_toList]
      refine .inl (.inr (.inr (.inl ⟨z, rfl, k _ _ _ _ _ p s' f ⟨by rw [len]; exact hz, fun i H1 F1 hi su sb _ => by rw [len] at hi; exact hi, fun H1 F1 su sb _ => by rw [len]; exact Nat.le_refl _, fun i H1 F1 x H2 hi su sb _ y => ?_⟩⟩)))
      obtain ⟨rfl, c, hc, rfl⟩ := y
      refine ⟨.str ⟨#[c]⟩, F1, ?_, .str _ (by show 1 ≤ sizeLine; decide), .refl, sb⟩
      unfold signs
      rw [List.getElem?_map, Array.getElem?_toList, hc]
      rfl⟩⟩
theorem xi_rng1 {p pos : Pos} (hg : Gl X "range") (hm : X.mg "range" = none) (ha : XE X e w) (hs : starEach [e] X.env = [(false, eval e X.env)] := by rfl) (hs' : starEach [e] X.env = (false, eval e X.env) :: starEach [] X.env := by rfl) : XI X tg (.Call (.Name "range" p) [e] [] pos) (wRng1 w) :=
  ⟨PI.imp (pi_range1 hg hm (pa_cons ha.pe pa_nil hs') hs) fun σ H R ⟨ρ, F, P, s, hw, k⟩ =>
    ⟨ρ, F, _, s, hw, fun d ρ' F' H' v p s' r f => by
      cases d <;> first
        | exact p.elim
        | skip
      rename_i j
      cases r
      have len : ((List.range j.toNat).map fun (k : Nat) => D.int k).length = j.toNat := by rw [List.length_map, List.length_range]
      have p0 : (-(2 ^ 62) ≤ j ∧ j ≤ 16777216) := p.1
      refine ⟨j, rfl, p0.1, Int.lt_of_le_of_lt p0.2 (by decide), k _ _ _ _ _ p.2 s' f ⟨by rw [len, sizeLine_eq]; omega, fun i H1 F1 hi su sb _ => by rw [len] at hi; exact hi, fun H1 F1 su sb _ => by rw [len]; exact Nat.le_refl _, fun i H1 F1 x H2 hi su sb _ y => ?_⟩⟩
      obtain ⟨rfl, rfl⟩ := y
      rw [len] at hi
      refine ⟨.int i, F1, by rw [List.getElem?_map, List.getElem?_range hi]; rfl, ?_, .refl, sb⟩
      rw [Int.zero_add]
      exact .int _⟩⟩
theorem xi_rng2 {p pos : Pos} (hg : Gl X "range") (hm : X.mg "range" = none) (ha : XE X e wa) (hb : XE X e2 wb) (hs : starEach [e, e2] X.env = [(false, eval e X.env), (false, eval e2 X.env)] := by rfl) (hs2 : starEach [e2] X.env = [(false, eval e2 X.env)] := by rfl)
    (h1 : starEach [e, e2] X.env = (false, eval e X.env) :: starEach [e2] X.env := by rfl) (h2 : starEach [e2] X.env = (false, eval e2 X.env) :: starEach [] X.env := by rfl) : XI X tg (.Call (.Name "range" p) [e, e2] [] pos) (wRng2 wa wb) :=
  ⟨PI.imp (pi_range2 hg hm (pa_cons ha.pe (pa_cons hb.pe pa_nil h2) h1) hs hs2) fun σ H R ⟨ρ, F, P, s, hw, k⟩ =>
    ⟨ρ, F, _, s, hw, fun d ρ1 F1 H1 v p s1 r1 f1 => ⟨ρ1, F1, _, s1, p, fun e' ρ' F' H' u p s' r2 f2 => by
      match d, e', p, r1, r2 with
      | .int i, .int j, p, r1, r2 =>
      cases r1
      cases r2
      have len : ((List.range (j - i).toNat).map fun (k : Nat) => D.int (i + k)).length = (j - i).toNat := by rw [List.length_map, List.length_range]
      have p0 : (0 ≤ i ∧ i < 2 ^ 62 ∧ -(2 ^ 62) ≤ j ∧ j ≤ 16777216) := p.1
      refine ⟨i, j, rfl, ⟨Int.le_trans (by decide) p0.1, p0.2.1, p0.2.2.1, Int.lt_of_le_of_lt p0.2.2.2 (by decide)⟩, k _ _ _ _ _ p.2 s' (f1.trans f2) ⟨by rw [len, sizeLine_eq]; omega, fun i H1 F1 hi su sb _ => by rw [len] at hi; exact hi, fun H1 F1 su sb _ => by rw [len]; exact Nat.le_refl _, fun n H1 F1 x H2 hi su sb _ y => ?_⟩⟩
      obtain ⟨rfl, rfl⟩ := y
      rw [len] at hi
      exact ⟨.int (i + n), F1, by rw [List.getElem?_map, List.getElem?_range hi]; rfl, .int _, .refl, sb⟩⟩⟩⟩
/-- a new pair -/
theorem new_pair {K : PySem.W.Frag} {F1 H1 H2 : Hp} {T : Addr} {x y : V} {d u : D} (sb : Sb F1 H1) (hT : H1 T = none) (e : H2 = upd H1 T (.tup [x, y])) (rx : Rep K F1 x d) (ry : Rep K F1 y u) :
    ∃ F2, Rep K F2 (.ref T) (.tup [d, u]) ∧ Grow F1 H1 F2 H2 ∧ Sb F2 H2 := by
  subst e
  obtain ⟨g, sb'⟩ := grow_new (o := .tup [x, y]) sb hT
  exact ⟨_, .tup upd_same (by show 2 ≤ sizeLine; decide) (.cons (rx.mono g.fz) (.cons (ry.mono g.fz) .nil)), g, sb'⟩
theorem xi_zip {p pos tpos : Pos} {elts : List Expr} {kk : Nat} (hg : Gl X "zip") (hm : X.mg "zip" = none) (ha : XE X e wa) (hb : XE X e2 wb)
    (h1 : starEach [e, e2] X.env = (false, eval e X.env) :: starEach [e2] X.env := by rfl) (h2 : starEach [e2] X.env = (false, eval e2 X.env) :: starEach [] X.env := by rfl) (hpl : (backTo pos (starEach [e2] X.env)).any (·.1) = false := by rfl) :
    XI X (.Tuple elts kk tpos) (.Call (.Name "zip" p) [e, e2] [] pos) (wZip wa wb) :=
  ⟨PI.imp (pi_zipM hg hm (pa_cons ha.pe (pa_cons hb.pe pa_nil h2) h1) h1 hpl) fun σ H R ⟨ρ, F, P, s, hw, k⟩ =>
    ⟨ρ, F, _, s, hw, fun d ρ1 F1 H1 v p s1 r1 f1 => ⟨ρ1, F1, _, s1, p, fun e' ρ' F' H' u p s' r2 f2 => by
      cases hd : d.items with
      | none => rw [hd] at p; exact p.elim
      | some ds =>
      cases he : e'.items with
      | none => rw [hd, he] at p; exact p.elim
      | some es =>
      rw [hd, he] at p
      obtain ⟨ka, a, xs, rfl, qa, ra, za⟩ := (r1.mono f2.fz).sqK hd
      obtain ⟨kb, b, ys, rfl, qb, rb, _⟩ := r2.sqK he
      have len : ((ds.zip es).map fun p => D.tup [p.1, p.2]).length = min xs.length ys.length := by rw [List.length_map, List.length_zip, ra.length, rb.length]
      refine ⟨ka, kb, a, b, xs, ys, rfl, qa F' H' (fun _ _ h => h) s'.sub, qb F' H' (fun _ _ h => h) s'.sub, k _ _ _ _ _ p s' (f1.trans f2) ⟨by rw [len, ra.length]; exact Nat.le_trans (Nat.min_le_left _ _) za, fun i G1 E1 hi su sb _ => ?_, fun G1 E1 su sb _ => ⟨xs, ys, qa E1 G1 su sb, qb E1 G1 su sb, len⟩, fun i G1 E1 x G2 hi su sb _ y => ?_⟩⟩
      · rw [len] at hi
        obtain ⟨x, hx⟩ := getElem_of (l := xs) (i := i) (by omega)
        obtain ⟨y, hy⟩ := getElem_of (l := ys) (i := i) (by omega)
        exact ⟨xs, ys, x, y, qa E1 G1 su sb, qb E1 G1 su sb, hx, hy⟩
      · obtain ⟨T, x1, y1, rfl, hT, e, yx, yy⟩ := y
        obtain ⟨dx, hdx, rx⟩ := ra.get' (yx xs (qa E1 G1 su sb))
        obtain ⟨dy, hdy, ry⟩ := rb.get' (yy ys (qb E1 G1 su sb))
        obtain ⟨F2, r, g, sb'⟩ := new_pair sb hT e (rx.mono su) (ry.mono su)
        refine ⟨_, F2, ?_, r, g, sb'⟩
        rw [List.getElem?_map, show (ds.zip es)[i]? = some (dx, dy) from by rw [List.getElem?_zip_eq_some]; exact ⟨hdx, hdy⟩]
        rfl⟩⟩⟩
theorem xi_enum {p pos tpos : Pos} {elts : List Expr} {kk : Nat} (hg : Gl X "enumerate") (hm : X.mg "enumerate" = none) (ha : XE X e wa) (hs : starEach [e] X.env = [(false, eval e X.env)] := by rfl) (hs' : starEach [e] X.env = (false, eval e X.env) :: starEach [] X.env := by rfl) :
    XI X (.Tuple elts kk tpos) (.Call (.Name "enumerate" p) [e] [] pos) (wEnum wa) :=
  ⟨PI.imp (pi_enumM hg hm (pa_cons ha.pe pa_nil hs') hs) fun σ H R ⟨ρ, F, P, s, hw, k⟩ =>
    ⟨ρ, F, _, s, hw, fun d ρ' F' H' v p s' r1 f => by
      cases hd : d.items with
      | none => rw [hd] at p; exact p.elim
      | some ds =>
      rw [hd] at p
      obtain ⟨ka, a, xs, rfl, qa, ra, za⟩ := r1.sqK hd
      have len : (ds.zipIdx.map fun p => D.tup [.int p.2, p.1]).length = xs.length := by rw [List.length_map, List.length_zipIdx, ra.length]
      refine ⟨ka, a, xs, rfl, qa F' H' (fun _ _ h => h) s'.sub, k _ _ _ _ _ p s' f ⟨by rw [len, ra.length]; exact za, fun i G1 E1 hi su sb _ => ?_, fun G1 E1 su sb _ => ⟨xs, qa E1 G1 su sb, len⟩, fun i G1 E1 x G2 hi su sb _ y => ?_⟩⟩
      · rw [len] at hi
        obtain ⟨x, hx⟩ := getElem_of (l := xs) (i := i) hi
        exact ⟨xs, x, qa E1 G1 su sb, hx⟩
      · obtain ⟨T, x1, rfl, hT, e, yx⟩ := y
        obtain ⟨dx, hdx, rx⟩ := ra.get' (yx xs (qa E1 G1 su sb))
        obtain ⟨F2, r, g, sb'⟩ := new_pair sb hT e (.int _) (rx.mono su)
        refine ⟨_, F2, ?_, r, g, sb'⟩
        rw [List.getElem?_map, List.getElem?_zipIdx, hdx]
        simp⟩⟩
end

/-! ### for, while -/
def wForL (g : WG) (wb : WS) : List D → TEnv → TEnds → Prop
  | [], ρ, E => E.nx ρ
  | d :: ds, ρ, E => g d ρ fun ρ1 => wb ρ1 (E.lp fun ρ2 => wForL g wb ds ρ2 E)
def wFor (wi : WL) (g : WG) (wb : WS) : WS := fun ρ E => wi ρ fun ds ρ1 => wForL g wb ds ρ1 E
def wWhileN (wc : WT) (wb : WS) : Nat → TEnv → TEnds → Prop
  | 0, _, _ => False
  | n + 1, ρ, E => wc ρ fun c ρ1 => br c (wb ρ1 (E.lp fun ρ2 => wWhileN wc wb n ρ2 E)) (E.nx ρ1)
def wWhile (wc : WT) (wb : WS) : WS := fun ρ E => ∃ n, wWhileN wc wb n ρ E
section
variable {X : Cx} {tg it c : Expr} {body : List Stmt} {wi : WL} {g : WG} {wb : WS} {wc : WT} {ix : List Nat} {pos : Pos}
theorem xs_for (hp : PassesOwn (model X.prog X.w) X.A X.env X.xe) (hc : X.calm = true) (hi : XI X tg it wi) (hg : XG X tg ix g) (hb : XSs X body wb) (hs : ∀ x, foldedSetIterable it X.env x = pure x := by intro _; rfl) : XS X (.For tg it body [] pos) (wFor wi g wb) :=
  ⟨fun W tk => PS.imp (ps_for hp hc hi.pi hg.pg (hb.ps W tk) hs) fun Dn σ H ⟨ρ, F, E, s, hw, k⟩ =>
    ⟨ρ, F, _, s, hw, fun ds ρ1 F1 H1 J p s1 f1 ok => by
      refine ⟨fun i m σ' H' => m = ds.length - i ∧ i ≤ ds.length ∧ ∃ ρ' F', SR X.K ρ' σ' F' H' ∧ Frm (ownedE ρ1) F1 H1 (ownedE ρ') F' H' ∧ wForL g wb (ds.drop i) ρ' E, ⟨_, rfl, Nat.zero_le _, ρ1, F1, s1, .refl, p⟩, ?_⟩
      rintro i m σ' H' ⟨rfl, hi, ρ', F', s', f', p'⟩
      by_cases hlt : i < ds.length
      · refine .inr ⟨ok.go i H' F' hlt f'.fz s'.sub f'.lk, fun σ2 H2 => ∃ ρ2 F2, SR X.K ρ2 σ2 F2 H2 ∧ Frm (ownedE ρ1) F1 H1 (ownedE ρ2) F2 H2 ∧ wForL g wb (ds.drop (i + 1)) ρ2 E,
          fun σ2 H2 ⟨ρ2, F2, s2, f2, p2⟩ => ⟨_, by omega, rfl, hlt, ρ2, F2, s2, f2, p2⟩, fun x H2 hy => ?_⟩
        obtain ⟨d, F2, hd, r, gr, sb2⟩ := ok.yld i H' F' x H2 hlt f'.fz s'.sub f'.lk hy
        have e : ds.drop i = d :: ds.drop (i + 1) := by
          rw [List.drop_eq_getElem_cons hlt]
          rw [List.getElem?_eq_getElem hlt] at hd
          rw [Option.some.inj hd]
        rw [e] at p'
        have s2 := s'.grow gr sb2
        have f2 : Frm (ownedE ρ1) F1 H1 (ownedE ρ') F2 H2 := f'.trans (.ofGrow gr)
        refine ⟨ρ', F2, d, _, s2, r, p', fun ρ3 σ3 p3 s3 t3 => ⟨ρ3, F2, _, s3, p3, ?_⟩⟩
        have f3 : Frm (ownedE ρ1) F1 H1 (ownedE ρ3) F2 H2 := f2.less t3.mem
        exact ⟨fun ρ4 σ4 F4 H4 p4 s4 f4 => ⟨ρ4, F4, s4, f3.trans f4, p4⟩, fun o ρ4 σ4 F4 H4 v p4 s4 f4 => k.rt _ _ _ _ _ _ p4 s4 (f1.trans (f3.trans f4)), fun ρ4 σ4 F4 H4 p4 s4 f4 => k.nx _ _ _ _ p4 s4 (f1.trans (f3.trans f4)),
          fun ρ4 σ4 F4 H4 p4 s4 f4 => ⟨ρ4, F4, s4, f3.trans f4, p4⟩, fun ex ρ4 σ4 F4 H4 cls d p4 s4 r4 f4 => k.xc _ _ _ _ _ _ _ p4 s4 r4 (f1.trans (f3.trans f4))⟩
      · have e : i = ds.length := by omega
        subst e
        rw [List.drop_length] at p'
        exact .inl ⟨ok.stop H' F' f'.fz s'.sub f'.lk, k.nx _ _ _ _ p' s' (f1.trans f')⟩⟩⟩
theorem xs_while (hp : PassesOwn (model X.prog X.w) X.A X.env X.xe) (hc : XT X c wc) (hb : XSs X body wb) : XS X (.While c body [] pos) (wWhile wc wb) :=
  ⟨fun W tk => PS.imp (ps_while hp hc.pt (hb.ps W tk)) fun Dn σ H ⟨ρ, F, E, s, ⟨n, hw⟩, k⟩ => by
    refine ⟨fun m σ' H' => ∃ ρ' F', SR X.K ρ' σ' F' H' ∧ Frm (ownedE ρ) F H (ownedE ρ') F' H' ∧ wWhileN wc wb m ρ' E, ⟨n, ρ, F, s, .refl, hw⟩, ?_⟩
    rintro m σ' H' ⟨ρ', F', s', f', p'⟩
    cases m with
    | zero => exact p'.elim
    | succ m =>
    refine ⟨ρ', F', _, s', p', fun b ρ1 F1 H1 p1 s1 f1 => ?_⟩
    cases b with
    | false =>
      have p1 : E.nx ρ1 := by simpa [br] using p1
      rw [if_neg Bool.false_ne_true]
      exact k.nx _ _ _ _ p1 s1 (f'.trans f1)
    | true =>
      have p1 := p1.1 rfl
      rw [if_pos rfl]
      refine ⟨fun σ2 H2 => ∃ ρ2 F2, SR X.K ρ2 σ2 F2 H2 ∧ Frm (ownedE ρ) F H (ownedE ρ2) F2 H2 ∧ wWhileN wc wb m ρ2 E, fun σ2 H2 q => ⟨m, Nat.lt_succ_self _, q⟩, ρ1, F1, _, s1, p1, ?_⟩
      have f2 := f'.trans f1
      exact ⟨fun ρ4 σ4 F4 H4 p4 s4 f4 => ⟨ρ4, F4, s4, f2.trans f4, p4⟩, fun o ρ4 σ4 F4 H4 v p4 s4 f4 => k.rt _ _ _ _ _ _ p4 s4 (f2.trans f4), fun ρ4 σ4 F4 H4 p4 s4 f4 => k.nx _ _ _ _ p4 s4 (f2.trans f4),
        fun ρ4 σ4 F4 H4 p4 s4 f4 => ⟨ρ4, F4, s4, f2.trans f4, p4⟩, fun ex ρ4 σ4 F4 H4 cls d p4 s4 r4 f4 => k.xc _ _ _ _ _ _ _ p4 s4 r4 (f2.trans f4)⟩⟩
end
end Tr
/-! The tree layer: comprehensions, defs. -/
namespace Tr
open PySem PySem.Spec PyProof.Rows L2

/-! ### comprehensions -/
def wipeE (ρ : TEnv) : List Nat → TEnv
  | [] => ρ
  | v :: vs => put (wipeE ρ vs) v none
def wipeC (ρ : TEnv) : List Nat → (TEnv → Prop) → Prop
  | [], k => k ρ
  | v :: vs, k => wipeC ρ vs fun ρ' => putC ρ' v none k
theorem wipeC_eq (ρ : TEnv) : ∀ (vs : List Nat) (k : TEnv → Prop), wipeC ρ vs k = k (wipeE ρ vs)
  | [], _ => rfl
  | v :: vs, k => by
    show wipeC ρ vs (fun ρ' => putC ρ' v none k) = k (put (wipeE ρ vs) v none)
    rw [wipeC_eq, putC_eq, put_eq]
/-- the block's names as they were ahead -/
def resE (ρ0 : TEnv) : List Nat → TEnv → TEnv
  | [], ρ => ρ
  | v :: vs, ρ => match nth ρ0 v with
    | some (.fz d) => put (resE ρ0 vs ρ) v (some (.fz d))
    | _ => resE ρ0 vs ρ
def resC (ρ0 : TEnv) : List Nat → TEnv → (TEnv → Prop) → Prop
  | [], ρ, k => k ρ
  | v :: vs, ρ, k => resC ρ0 vs ρ fun ρ' => match nth ρ0 v with
    | some (.fz d) => putC ρ' v (some (.fz d)) k
    | _ => k ρ'
theorem resC_eq (ρ0 : TEnv) : ∀ (vs : List Nat) (ρ : TEnv) (k : TEnv → Prop), resC ρ0 vs ρ k = k (resE ρ0 vs ρ)
  | [], _, _ => rfl
  | v :: vs, ρ, k => by
    unfold resC resE
    rw [resC_eq]
    cases nth ρ0 v with
    | none => rfl
    | some o => cases o <;> first
      | rfl
      | (show putC _ _ _ _ = k (put (resE ρ0 vs ρ) v _); rw [putC_eq, put_eq])
def wYes : WT := fun ρ P => P true ρ
def wLcL (g : WG) (wt : WT) (we : WO) (own : List Nat) : List D → TEnv → List O → (List O → TEnv → Prop) → Prop
  | [], ρ, acc, P => P acc ρ
  | d :: ds, ρ, acc, P => g d ρ fun ρ1 => wt ρ1 fun b ρ2 => br b (we ρ2 fun o ρ3 => wLcL g wt we own ds (wipeE ρ3 own) (acc ++ [o]) P) (wLcL g wt we own ds (wipeE ρ2 own) acc P)
def wLc (wi : WL) (g : WG) (wt : WT) (we : WO) (own : List Nat) : WO := fun ρ P => wi ρ fun ds ρ1 => wipeC ρ1 own fun ρ' => wLcL g wt we own ds ρ' [] fun os ρ2 => ∀ a, resC ρ1 own ρ2 (P (.lst a os))
section
variable {K : PySem.W.Frag} {ρ : TEnv} {σ : L2.St} {F H : Hp}
theorem SR.pushN (s : SR K ρ σ F H) : SR K (none :: ρ) (none :: σ) F H where
  sub := s.sub
  len := by rw [List.length_cons, List.length_cons, s.len]
  slot := fun i o e => by
    cases i with
    | zero => cases e
    | succ i => exact s.slot i o (by simpa using e)
  own := s.own
  nd := s.nd
theorem SR.drop1 (s : SR K ρ σ F H) (v : Nat) : SR K (put ρ v none) (σ.set v none) F H ∧ ∀ b, b ∈ ownedE (put ρ v none) → b ∈ ownedE ρ := by
  obtain ⟨s1, m⟩ := s.pushN.store (i := v)
  rw [← put_eq] at s1 m
  exact ⟨s1, m⟩
theorem SR.wipe (s : SR K ρ σ F H) : ∀ vs : List Nat, SR K (wipeE ρ vs) (L2.wipe σ vs) F H ∧ ∀ b, b ∈ ownedE (wipeE ρ vs) → b ∈ ownedE ρ
  | [] => ⟨s, fun _ h => h⟩
  | v :: vs => by
    obtain ⟨s1, m1⟩ := s.wipe vs
    obtain ⟨s2, m2⟩ := s1.drop1 v
    exact ⟨s2, fun b h => m1 b (m2 b h)⟩
theorem SR.weak {σ' : L2.St} (s : SR K ρ σ' F H) (h : ∀ (i : Nat) (v : V), σ'[i]? = some (some v) → σ[i]? = some (some v)) (l : σ'.length = σ.length) : SR K ρ σ F H :=
  ⟨s.sub, s.len.trans l, fun i o e => let ⟨v, hv, r⟩ := s.slot i o e; ⟨v, h i v hv, r⟩, s.own, s.nd⟩
theorem SR.res {ρ0 : TEnv} {F0 H0 : Hp} (s0 : SR K ρ0 σ F0 H0) (su : Sub F0 F) (s : SR K ρ σ F H) : ∀ vs : List Nat, SR K (resE ρ0 vs ρ) σ F H ∧ ∀ b, b ∈ ownedE (resE ρ0 vs ρ) → b ∈ ownedE ρ
  | [] => ⟨s, fun _ h => h⟩
  | v :: vs => by
    obtain ⟨s1, m1⟩ := SR.res s0 su s vs
    unfold resE
    cases hn : nth ρ0 v with
    | none => exact ⟨s1, m1⟩
    | some o =>
      cases o <;> first
        | exact ⟨s1, m1⟩
        | skip
      rename_i d
      obtain ⟨x, hx, r⟩ := s0.slot v _ (nth_eq hn)
      cases r with
      | fz r =>
        obtain ⟨s2, m2⟩ := (s1.pushD (r.mono su)).set hx
        rw [← put_eq] at s2 m2
        exact ⟨s2, fun b h => m1 b (m2 b h)⟩
theorem wipe_get (τ : L2.St) (vs : List Nat) (j : Nat) : (L2.wipe τ vs)[j]? = if j ∈ vs ∧ j < τ.length then some none else τ[j]? := by
  induction vs with
  | nil => simp [L2.wipe]
  | cons v vs ih =>
    show ((L2.wipe τ vs).set v none)[j]? = _
    rw [List.getElem?_set, wipe_length, ih]
    by_cases e : v = j
    · subst e
      by_cases q : v < τ.length
      · simp [q]
      · simp [q]
    · have e' : j ≠ v := fun z => e z.symm
      simp [e, e']
theorem wipe_at {τ : L2.St} {vs : List Nat} {j : Nat} (h : j ∉ vs) : (L2.wipe τ vs)[j]? = τ[j]? := by
  rw [wipe_get, if_neg (fun z => h z.1)]
theorem wipe_cong {vs : List Nat} {σ σ' : L2.St} (h : ∀ j, j ∉ vs → σ'[j]? = σ[j]?) (l : σ'.length = σ.length) : L2.wipe σ' vs = L2.wipe σ vs := by
  apply List.ext_getElem?
  intro j
  rw [wipe_get, wipe_get, l]
  by_cases q : j ∈ vs
  · by_cases q2 : j < σ.length
    · rw [if_pos ⟨q, q2⟩, if_pos ⟨q, q2⟩]
    · rw [if_neg (fun z => q2 z.2), if_neg (fun z => q2 z.2), List.getElem?_eq_none (by omega), List.getElem?_eq_none (by omega)]
  · rw [if_neg (fun z => q z.1), if_neg (fun z => q z.1)]
    exact h j q
end
structure XTs (X : Cx) (ifs : List Expr) (w : WT) : Prop where
  pt : PTs X ifs (liftT X.K w)
section
variable {X : Cx} {c : Expr} {wt : WT}
theorem xts_nil : XTs X [] wYes := ⟨⟨fun pins s σ H Q I ⟨ρ, F, P, sr, hw, k⟩ => pts_nil.run pins s σ H Q I (k _ _ _ _ hw sr .refl)⟩⟩
theorem xts_one (h : XT X c wt) : XTs X [c] wt := ⟨pts_one h.pt⟩
/-- a walk whose iterator leans on what the slots hold -/
structure ItG (K : PySem.W.Frag) (J : It) (F H0 : Hp) (ds : List D) (C : TEnv → Prop) : Prop where
  sz : ds.length ≤ sizeLine
  go : ∀ i H F1 ρ σ, i < ds.length → Sub F F1 → SR K ρ σ F1 H → Lk H0 H → C ρ → J.go i H
  stop : ∀ H F1 ρ σ, Sub F F1 → SR K ρ σ F1 H → Lk H0 H → C ρ → J.stop ds.length H
  yld : ∀ i H F1 ρ σ x H', i < ds.length → Sub F F1 → SR K ρ σ F1 H → Lk H0 H → C ρ → J.yld i H x H' → ∃ d F2, ds[i]? = some d ∧ Rep K F2 x d ∧ Grow F1 H F2 H' ∧ Sb F2 H'
theorem ItOk.g {K : PySem.W.Frag} {J : It} {F H0 : Hp} {ds : List D} (ok : ItOk K J F H0 ds) : ItG K J F H0 ds fun _ => True :=
  ⟨ok.sz, fun i H F1 ρ σ hi su s lk _ => ok.go i H F1 hi su s.sub lk, fun H F1 ρ σ su s lk _ => ok.stop H F1 su s.sub lk, fun i H F1 ρ σ x H' hi su s lk _ y => ok.yld i H F1 x H' hi su s.sub lk y⟩
theorem tLc_core {K : PySem.W.Frag} {g g' : WG} {C : TEnv → Prop} {ix vs : List Nat} {we : WO} (hgc : ∀ d ρ P, g' d ρ P → C ρ ∧ g d ρ P) (hix : ∀ j ∈ ix, j ∈ vs) {σ : L2.St} {Q : VK} {ds : List D} {ρ1 : TEnv} {F1 H1 : Hp} {J : It} {P : O → TEnv → Prop} {R : List O → TEnv → Prop}
    (s1 : SR K ρ1 σ F1 H1) (ok : ItG K J F1 H1 ds C) (hR : ∀ os ρ2, R os ρ2 → C ρ2 ∧ ∀ a, P (.lst a os) (resE ρ1 vs ρ2)) (p : wLcL g' wt we vs ds (wipeE ρ1 vs) [] R)
    (k : ∀ o ρ' F' H' v, P o ρ' → SR K (some o :: ρ') (some v :: σ) F' H' → Frm (ownedE ρ1) F1 H1 (ownedE (some o :: ρ')) F' H' → Q v H') :
    tLc (fun _ H R => R J H) (liftG K ix g) (liftT K wt) (liftO K we) vs σ H1 Q := by
  intro D hD
  obtain ⟨sl, fl⟩ := Res.lst (xs := []) (ds := []) hD (Nat.zero_le _) .nil _ _ s1
  have sl : SR K (some (.lst D []) :: ρ1) (some (.ref D) :: σ) F1 (upd H1 D (.lst [])) := sl
  have fl : Frm (ownedE ρ1) F1 H1 (ownedE (some (.lst D []) :: ρ1)) F1 (upd H1 D (.lst [])) := fl
  have sw : SR K (some (.lst D []) :: wipeE ρ1 vs) (some (.ref D) :: L2.wipe σ vs) F1 (upd H1 D (.lst [])) ∧ ∀ b, b ∈ ownedE (some (.lst D []) :: wipeE ρ1 vs) → b ∈ ownedE (some (.lst D []) :: ρ1) := by
    obtain ⟨s2, m2⟩ := sl.pop.wipe vs
    have n := List.nodup_append.mp sl.nd
    refine ⟨s2.push sl.top (fun a ha => sl.own a (List.mem_append_left _ ha)) (List.nodup_append.mpr ⟨n.1, s2.nd, fun a ha b hb => n.2.2 a ha b (m2 b hb)⟩), fun b hb => ?_⟩
    rcases List.mem_append.mp hb with h | h
    · exact List.mem_append_left _ h
    · exact List.mem_append_right _ (m2 b h)
  refine ⟨fun i m H' => m = ds.length - i ∧ i ≤ ds.length ∧ ∃ ρ' F' acc, SR K (some (.lst D acc) :: ρ') (some (.ref D) :: L2.wipe σ vs) F' H' ∧ Frm (ownedE ρ1) F1 H1 (ownedE (some (.lst D acc) :: ρ')) F' H' ∧ acc.length ≤ i ∧
    wLcL g' wt we vs (ds.drop i) ρ' acc R, ⟨_, rfl, Nat.zero_le _, wipeE ρ1 vs, F1, [], sw.1, fl.less sw.2, Nat.le_refl _, p⟩, ?_⟩
  rintro i m H' ⟨rfl, hi, ρ', F', acc, s', f', la, p'⟩
  by_cases hlt : i < ds.length
  · rw [List.drop_eq_getElem_cons hlt] at p'
    have cg := hgc _ _ _ p'
    refine .inr ⟨ok.go i H' F' _ _ hlt f'.fz s'.pop f'.lk cg.1, fun H2 => ∃ ρ2 F2 acc2, SR K (some (.lst D acc2) :: ρ2) (some (.ref D) :: L2.wipe σ vs) F2 H2 ∧ Frm (ownedE ρ1) F1 H1 (ownedE (some (.lst D acc2) :: ρ2)) F2 H2 ∧ acc2.length ≤ i + 1 ∧
      wLcL g' wt we vs (ds.drop (i + 1)) ρ2 acc2 R, fun H2 ⟨ρ2, F2, acc2, s2, f2, l2, p2⟩ => ⟨_, by omega, rfl, hlt, ρ2, F2, acc2, s2, f2, l2, p2⟩, fun x H2 hy => ?_⟩
    obtain ⟨d, F2, hd, r, gr, sb2⟩ := ok.yld i H' F' _ _ x H2 hlt f'.fz s'.pop f'.lk cg.1 hy
    rw [List.getElem?_eq_getElem hlt] at hd
    have e : ds[i] = d := Option.some.inj hd
    rw [e] at cg
    have s2 := s'.grow gr sb2
    have f2 : Frm (ownedE ρ1) F1 H1 (ownedE (some (.lst D acc) :: ρ')) F2 H2 := f'.trans (.ofGrow gr)
    refine ⟨ρ', F2, d, _, s2.pop, r, cg.2, fun ρ3 σ3 p3 s3 t3 => ?_⟩
    have hw3 : L2.wipe σ3 vs = L2.wipe σ vs := by
      rw [wipe_cong (fun j hj => t3.at_ j fun z => hj (hix j z)) t3.len]
      exact wipe_cong (fun j hj => wipe_at hj) (wipe_length _ _)
    -- the list over the target's store
    have n := List.nodup_append.mp s2.nd
    have s4 : SR K (some (.lst D acc) :: ρ3) (some (.ref D) :: σ3) F2 H2 := s3.push s2.top (fun a ha => s2.own a (List.mem_append_left _ ha)) (List.nodup_append.mpr ⟨n.1, s3.nd, fun a ha b hb => n.2.2 a ha b (t3.mem b hb)⟩)
    have f4 : Frm (ownedE ρ1) F1 H1 (ownedE (some (.lst D acc) :: ρ3)) F2 H2 := f2.less fun b hb => by
      rcases List.mem_append.mp hb with h | h
      · exact List.mem_append_left _ h
      · exact List.mem_append_right _ (t3.mem b h)
    refine ⟨hw3, ρ3, F2, _, s3, p3, fun b ρ4 F4 H4 p4 s5 f5 => ?_⟩
    obtain ⟨s6, f6⟩ := s4.frame s5 f5
    -- what is left of the slots
    have fin : ∀ {ρ7 : TEnv} {F7 H7 : Hp} {acc' : List O}, SR K (some (.lst D acc') :: ρ7) (some (.ref D) :: σ3) F7 H7 → SR K (some (.lst D acc') :: wipeE ρ7 vs) (some (.ref D) :: L2.wipe σ vs) F7 H7 ∧ ∀ b, b ∈ ownedE (some (.lst D acc') :: wipeE ρ7 vs) → b ∈ ownedE (some (.lst D acc') :: ρ7) := fun {ρ7 F7 H7 acc'} q => by
      obtain ⟨s8, m8⟩ := q.pop.wipe vs
      rw [hw3] at s8
      have n := List.nodup_append.mp q.nd
      refine ⟨s8.push q.top (fun a ha => q.own a (List.mem_append_left _ ha)) (List.nodup_append.mpr ⟨n.1, s8.nd, fun a ha b hb => n.2.2 a ha b (m8 b hb)⟩), fun b hb => ?_⟩
      rcases List.mem_append.mp hb with h | h
      · exact List.mem_append_left _ h
      · exact List.mem_append_right _ (m8 b h)
    cases b with
    | false =>
      have p4 : wLcL g' wt we vs (ds.drop (i + 1)) (wipeE ρ4 vs) acc R := by simpa [br] using p4
      rw [if_neg Bool.false_ne_true]
      obtain ⟨s8, m8⟩ := fin s6
      exact ⟨_, _, _, s8, (f4.trans f6).less m8, by omega, p4⟩
    | true =>
      have p4 := p4.1 rfl
      rw [if_pos rfl]
      refine ⟨ρ4, F4, _, s5, p4, fun o ρ5 F5 H5 y p5 s7 f7 => ?_⟩
      -- the new item above the list
      have base : SR K (some o :: some (.lst D acc) :: ρ5) (some y :: some (.ref D) :: σ3) F5 H5 ∧ Frm (ownedE (some (.lst D acc) :: ρ4)) F4 H4 (ownedE (some o :: some (.lst D acc) :: ρ5)) F5 H5 := by
        obtain ⟨s8, f8⟩ := s6.frame s7 f7
        have n8 := List.nodup_append.mp s8.nd
        have n9 : o.owned.Nodup ∧ (ownedE ρ5).Nodup ∧ ∀ a ∈ o.owned, ∀ b ∈ ownedE ρ5, a ≠ b := List.nodup_append.mp n8.2.1
        have q : SR K (some (.lst D acc) :: ρ5) (some (.ref D) :: σ3) F5 H5 := s7.pop.push s8.top (fun a ha => s8.own a (List.mem_append_left _ ha)) (List.nodup_append.mpr ⟨n8.1, n9.2.1, fun a ha b hb => n8.2.2 a ha b (List.mem_append_right _ hb)⟩)
        refine ⟨q.push s7.top (fun a ha => s7.own a (List.mem_append_left _ ha)) (List.nodup_append.mpr ⟨n9.1, q.nd, fun a ha b hb e => ?_⟩), f8.less fun b hb => ?_⟩
        · subst e
          rcases List.mem_append.mp hb with h | h
          · exact n8.2.2 a h a (List.mem_append_left _ ha) rfl
          · exact n9.2.2 a ha a h rfl
        · rcases List.mem_append.mp hb with h | h
          · exact List.mem_append_right _ (List.mem_append_left _ h)
          · rcases List.mem_append.mp h with h | h
            · exact List.mem_append_left _ h
            · exact List.mem_append_right _ (List.mem_append_right _ h)
      obtain ⟨b1, b2⟩ := base
      have q := b1.pop.top
      cases q with
      | @lst _ xs _ hx z r =>
      have lz : acc.length < sizeLine := Nat.lt_of_le_of_lt la (Nat.lt_of_lt_of_le hlt ok.sz)
      obtain ⟨s9, f9⟩ := b1.snoc hx lz
      obtain ⟨s10, m10⟩ := fin s9
      exact ⟨xs, hx, by rw [r.length]; exact lz, _, _, _, s10, (((f4.trans f6).trans b2).trans f9).less m10, by rw [List.length_append]; exact Nat.succ_le_succ la, p5⟩
  · have e : i = ds.length := by omega
    subst e
    rw [List.drop_length] at p'
    have pr := hR _ _ p'
    refine .inl ⟨ok.stop H' F' _ _ f'.fz s'.pop f'.lk pr.1, ?_⟩
    have sa : SR K (some (.lst D acc) :: ρ') (some (.ref D) :: σ) F' H' := s'.weak (fun j v e => by
      cases j with
      | zero => exact e
      | succ j => exact (wipe_some (vs := vs) (show (L2.wipe σ vs)[j]? = some (some v) from e)).1) (by rw [List.length_cons, List.length_cons, wipe_length])
    obtain ⟨sr, mr⟩ := SR.res s1 f'.fz sa.pop vs
    have n := List.nodup_append.mp sa.nd
    have sb : SR K (some (.lst D acc) :: resE ρ1 vs ρ') (some (.ref D) :: σ) F' H' := sr.push sa.top (fun a ha => sa.own a (List.mem_append_left _ ha)) (List.nodup_append.mpr ⟨n.1, sr.nd, fun a ha b hb => n.2.2 a ha b (mr b hb)⟩)
    exact k _ _ _ _ _ (pr.2 D) sb (f'.less fun b hb => by
      rcases List.mem_append.mp hb with h | h
      · exact List.mem_append_left _ h
      · exact List.mem_append_right _ (mr b h))
theorem tLc_of {K : PySem.W.Frag} {wi : WL} {g : WG} {ix vs : List Nat} {we : WO} (hix : ∀ j ∈ ix, j ∈ vs) {σ : L2.St} {H : Hp} {Q : VK} (h : liftO K (wLc wi g wt we vs) σ H Q) :
    tLc (liftI K wi) (liftG K ix g) (liftT K wt) (liftO K we) vs σ H Q := by
  obtain ⟨ρ, F, P, s, hw, k⟩ := h
  refine ⟨ρ, F, _, s, hw, fun ds ρ1 F1 H1 J p s1 f1 ok => ?_⟩
  rw [wipeC_eq] at p
  simp only [resC_eq] at p
  exact tLc_core (C := fun _ => True) (fun d ρ P h => ⟨trivial, h⟩) hix s1 ok.g (fun os ρ2 h => ⟨trivial, h⟩) p fun o ρ' F' H' v po so fo => k o ρ' F' H' v po so (f1.trans fo)
/-- the target, while a held thing stays as it is -/
def gChk (i : Nat) (o : O) (g : WG) : WG := fun d ρ P => nth ρ i = some o ∧ g d ρ P
/-- a comprehension over a name's held list of data: it stays held -/
def wLcH (i : Nat) (g : WG) (wt : WT) (we : WO) (own : List Nat) : WO := fun ρ P => match nth ρ i with
  | some (.lst a os) => ∃ us : List D, os = us.map .fz ∧ wipeC ρ own fun ρ' => wLcL (gChk i (.lst a os) g) wt we own us ρ' [] fun acc ρ2 => nth ρ2 i = some (.lst a os) ∧ ∀ b, resC ρ own ρ2 (P (.lst b acc))
  | some (.fz d) => match d.walk with
    | some ds => wipeC ρ own fun ρ' => wLcL g wt we own ds ρ' [] fun acc ρ2 => ∀ b, resC ρ own ρ2 (P (.lst b acc))
    | none => False
  | _ => False
theorem RepOL.data {K : PySem.W.Frag} {F H : Hp} : ∀ {us : List D} {vs : List V}, RepOL K F H vs (us.map .fz) → RepL K F vs us
  | [], _, .nil => .nil
  | _ :: us, _, .cons (.fz h) r => .cons h (RepOL.data (us := us) r)
/-- a walk of a held list -/
def tWalkH (K : PySem.W.Frag) (i : Nat) : TI := fun σ H R => ∃ ρ F a us, SR K ρ σ F H ∧ nth ρ i = some (.lst a (us.map .fz)) ∧ (∀ J, ItG K J F H us (fun ρ => nth ρ i = some (.lst a (us.map .fz))) → R J H)
theorem pi_walkH {tg e : Expr} {i : Nat} (h : PE X e (tVar i)) : PI X tg e (tWalkH X.K i) := PI.imp (pi_any h) fun σ H R ⟨ρ, F, a, us, s, hn, k⟩ => by
  obtain ⟨v, hv, r⟩ := s.slot i _ (nth_eq hn)
  cases r with
  | @lst _ xs _ hx z rl =>
  have get : ∀ {ρ2 : TEnv} {σ2 : L2.St} {F2 H2 : Hp}, SR X.K ρ2 σ2 F2 H2 → nth ρ2 i = some (.lst a (us.map .fz)) → ∃ ys, H2 a = some (.lst ys) ∧ RepL X.K F2 ys us := fun s2 n2 => by
    obtain ⟨v2, _, r2⟩ := s2.slot i _ (nth_eq n2)
    cases r2 with
    | lst h2 _ rl2 => exact ⟨_, h2, rl2.data⟩
  rw [List.length_map] at z
  refine ⟨_, hv, .inl ⟨a, xs, rfl, .inl (.inl hx), k _ ⟨z, fun j H1 F1 ρ1 σ1 hj su s1 _ n1 => ?_, fun H1 F1 ρ1 σ1 su s1 _ n1 => ?_, fun j H1 F1 ρ1 σ1 x H2 hj su s1 _ n1 y => ?_⟩⟩⟩
  · obtain ⟨ys, hy, ry⟩ := get s1 n1
    obtain ⟨x, hx⟩ := getElem_of (l := ys) (by rw [ry.length]; exact hj)
    exact ⟨ys, x, .inl (.inl hy), hx⟩
  · obtain ⟨ys, hy, ry⟩ := get s1 n1
    exact ⟨ys, .inl (.inl hy), by rw [ry.length]; exact Nat.le_refl _⟩
  · obtain ⟨ys, hy, ry⟩ := get s1 n1
    obtain ⟨rfl, y⟩ := y
    obtain ⟨u, hu, ru⟩ := ry.get' (y ys (.inl (.inl hy)))
    exact ⟨u, F1, hu, ru, .refl, s1.sub⟩
theorem tLc_ofH {K : PySem.W.Frag} {i : Nat} {g : WG} {ix vs : List Nat} {we : WO} (hix : ∀ j ∈ ix, j ∈ vs) {σ : L2.St} {H : Hp} {Q : VK} (h : liftO K (wLcH i g wt we vs) σ H Q) :
    tLc (fun σ H R => tWalkH K i σ H R ∨ liftI K (wWalk (wVar i)) σ H R) (liftG K ix g) (liftT K wt) (liftO K we) vs σ H Q := by
  obtain ⟨ρ, F, P, s, hw, k⟩ := h
  unfold wLcH at hw
  cases hn : nth ρ i with
  | none => rw [hn] at hw; exact hw.elim
  | some o =>
  rw [hn] at hw
  cases o <;> first
    | (exact hw.elim)
    | skip
  · rename_i d
    have hw : (match d.walk with
      | some ds => wipeC ρ vs fun ρ' => wLcL g wt we vs ds ρ' [] fun acc ρ2 => ∀ b, resC ρ vs ρ2 (P (.lst b acc))
      | none => False) := hw
    cases hd : d.walk with
    | none => rw [hd] at hw; exact hw.elim
    | some ds =>
    rw [hd] at hw
    refine .inr (tLc_of (wi := wWalk (wVar i)) hix (Q := Q) ⟨ρ, F, P, s, ?_, k⟩)
    unfold wLc wWalk wVar
    rw [hn]
    show (match d.walk with
      | some ds => wipeC ρ vs fun ρ' => wLcL g wt we vs ds ρ' [] fun acc ρ2 => ∀ b, resC ρ vs ρ2 (P (.lst b acc))
      | none => False)
    rw [hd]
    exact hw
  · rename_i a os
    obtain ⟨us, rfl, p⟩ := hw
    refine .inl ⟨ρ, F, a, us, s, hn, fun J ok => ?_⟩
    rw [wipeC_eq] at p
    simp only [resC_eq] at p
    exact tLc_core (fun d ρ P h => h) hix s ok (fun os ρ2 h => h) p k
end
section
variable {X : Cx} {elt tg iter : Expr} {ifs : List Expr} {scope : Scope} {own : List (Str × Nat)} {pos : Pos} {wi : WL} {g : WG} {ix : List Nat} {wt : WT} {we : WO}
theorem xo_lc (hc : X.calm = true) (hN : X.N.Nodup) (hi : XI X tg iter wi) (ok : BlkOk X.N X.env.scope scope own)
    (hg : ∀ (s : Shared) (H : Hp) (C : Addr) (cl : List (Str × Addr)) (fp : List Addr), XG (X.blk s H scope (compEnvC scope cl C X.env) fp) tg ix g) (ht : ∀ (s : Shared) (H : Hp) (C : Addr) (cl : List (Str × Addr)) (fp : List Addr), XTs (X.blk s H scope (compEnvC scope cl C X.env) fp) ifs wt)
    (he : ∀ (s : Shared) (H : Hp) (C : Addr) (cl : List (Str × Addr)) (fp : List Addr), XO (X.blk s H scope (compEnvC scope cl C X.env) fp) elt we) (hix : ∀ j ∈ ix, j ∈ own.map (·.2)) (hs : ∀ x, foldedSetIterable iter X.env x = pure x := by intro _; rfl) :
    XO X (.ListComp elt [⟨tg, iter, ifs, 0⟩] scope pos) (wLc wi g wt we (own.map (·.2))) :=
  ⟨PE.imp (pe_lc hc hN hi.pi ok (fun s H C cl fp => (hg s H C cl fp).pg) (fun s H C cl fp => (ht s H C cl fp).pt) (fun s H C cl fp => (he s H C cl fp).pe) hs) fun _ _ _ h => tLc_of hix h⟩
theorem xo_lcH {i : Nat} (hc : X.calm = true) (hN : X.N.Nodup) (hi : PE X iter (tVar i)) (ok : BlkOk X.N X.env.scope scope own)
    (hg : ∀ (s : Shared) (H : Hp) (C : Addr) (cl : List (Str × Addr)) (fp : List Addr), XG (X.blk s H scope (compEnvC scope cl C X.env) fp) tg ix g) (ht : ∀ (s : Shared) (H : Hp) (C : Addr) (cl : List (Str × Addr)) (fp : List Addr), XTs (X.blk s H scope (compEnvC scope cl C X.env) fp) ifs wt)
    (he : ∀ (s : Shared) (H : Hp) (C : Addr) (cl : List (Str × Addr)) (fp : List Addr), XO (X.blk s H scope (compEnvC scope cl C X.env) fp) elt we) (hix : ∀ j ∈ ix, j ∈ own.map (·.2)) (hs : ∀ x, foldedSetIterable iter X.env x = pure x := by intro _; rfl) :
    XO X (.ListComp elt [⟨tg, iter, ifs, 0⟩] scope pos) (wLcH i g wt we (own.map (·.2))) :=
  ⟨PE.imp (pe_lc hc hN (PI_or (pi_walkH hi) (xi_any (xe_pv hi)).pi) ok (fun s H C cl fp => (hg s H C cl fp).pg) (fun s H C cl fp => (ht s H C cl fp).pt) (fun s H C cl fp => (he s H C cl fp).pe) hs) fun _ _ _ h => tLc_ofH hix h⟩
/-- y = [.. for .. in x] on one row, x held -/
theorem xs_lcH {i j : Nat} {y : Str} {py spos : Pos} (hc : X.calm = true) (hN : X.N.Nodup) (hy : X.N[j]? = some y) (hyl : X.env.scope.names.lookup y = some .local)
    (hsw : swapsWith (.ListComp elt [⟨tg, iter, ifs, 0⟩] scope pos) (some (.Name y py)) spos.line X.env = pure true) (hi : PE X iter (tVar i)) (ok : BlkOk X.N X.env.scope scope own)
    (hg : ∀ (s : Shared) (H : Hp) (C : Addr) (cl : List (Str × Addr)) (fp : List Addr), XG (X.blk s H scope (compEnvC scope cl C X.env) fp) tg ix g) (ht : ∀ (s : Shared) (H : Hp) (C : Addr) (cl : List (Str × Addr)) (fp : List Addr), XTs (X.blk s H scope (compEnvC scope cl C X.env) fp) ifs wt)
    (he : ∀ (s : Shared) (H : Hp) (C : Addr) (cl : List (Str × Addr)) (fp : List Addr), XO (X.blk s H scope (compEnvC scope cl C X.env) fp) elt we) (hix : ∀ j ∈ ix, j ∈ own.map (·.2)) (hs : ∀ x, foldedSetIterable iter X.env x = pure x := by intro _; rfl) :
    XS X (.Assign [.Name y py] (.ListComp elt [⟨tg, iter, ifs, 0⟩] scope pos) spos) (wSet j (wLcH i g wt we (own.map (·.2)))) :=
  xs_set (ps_setLc hc hN hy hyl hsw (PI_or (pi_walkH hi) (xi_any (xe_pv hi)).pi) ok (fun s H C cl fp => (hg s H C cl fp).pg) (fun s H C cl fp => (ht s H C cl fp).pt) (fun s H C cl fp => (he s H C cl fp).pe) hs) fun _ _ _ h => tLc_ofH hix h
/-- y = [..] on one row -/
theorem xs_lc {i : Nat} {y : Str} {py spos : Pos} (hc : X.calm = true) (hN : X.N.Nodup) (hy : X.N[i]? = some y) (hyl : X.env.scope.names.lookup y = some .local)
    (hsw : swapsWith (.ListComp elt [⟨tg, iter, ifs, 0⟩] scope pos) (some (.Name y py)) spos.line X.env = pure true) (hi : XI X tg iter wi) (ok : BlkOk X.N X.env.scope scope own)
    (hg : ∀ (s : Shared) (H : Hp) (C : Addr) (cl : List (Str × Addr)) (fp : List Addr), XG (X.blk s H scope (compEnvC scope cl C X.env) fp) tg ix g) (ht : ∀ (s : Shared) (H : Hp) (C : Addr) (cl : List (Str × Addr)) (fp : List Addr), XTs (X.blk s H scope (compEnvC scope cl C X.env) fp) ifs wt)
    (he : ∀ (s : Shared) (H : Hp) (C : Addr) (cl : List (Str × Addr)) (fp : List Addr), XO (X.blk s H scope (compEnvC scope cl C X.env) fp) elt we) (hix : ∀ j ∈ ix, j ∈ own.map (·.2)) (hs : ∀ x, foldedSetIterable iter X.env x = pure x := by intro _; rfl) :
    XS X (.Assign [.Name y py] (.ListComp elt [⟨tg, iter, ifs, 0⟩] scope pos) spos) (wSet i (wLc wi g wt we (own.map (·.2)))) :=
  xs_set (ps_setLc hc hN hy hyl hsw hi.pi ok (fun s H C cl fp => (hg s H C cl fp).pg) (fun s H C cl fp => (ht s H C cl fp).pt) (fun s H C cl fp => (he s H C cl fp).pe) hs) fun _ _ _ h => tLc_of hix h
end

/-! ### defs -/
/-- the first address of a thing -/
def O.root : O → Option Addr
  | .fz _ => none
  | .lst a _ => some a
  | .dct a _ => some a
  | .dcT a _ => some a
  | .ins a _ _ _ => some a
/-- what the arguments are behind a def: data stays, a held thing stands at its name -/
def back : List O → TEnv → List O
  | [], _ => []
  | o :: os, ρ => (match o with
    | .fz d => .fz d
    | o => (nth ρ 0).getD (.fz .non)) :: back os ρ.tail
def roots : List O → List O → Prop
  | [], _ => True
  | .fz _ :: os, _ :: us => roots os us
  | o :: os, u :: us => u.root = o.root ∧ roots os us
  | _, _ => False
def start0 (n : Nat) (os : List O) : TEnv := os.map some ++ List.replicate (n - os.length) none
/-- a def's ends: the answer r, the arguments behind it -/
def endsOf (os : List O) (P : O → List O → Prop) : TEnds where
  nx := fun ρ => roots os (back os ρ) ∧ P (.fz .non) (back os ρ)
  rt := fun r ρ => roots os (back os ρ) ∧ P r (back os ρ)
section
variable {K : PySem.W.Frag} {F H F' H' : Hp}
theorem RepO.root {v v' : V} {o u : O} (r : RepO K F H v o) (r' : RepO K F' H' v' u) (h : u.root = o.root) (hn : o.root ≠ none) : v' = v := by
  cases r <;> cases r' <;> first
    | (exact absurd rfl hn)
    | (cases h; done)
    | (cases h; rfl)
theorem nth_tail : ∀ (ρ : TEnv) (i : Nat), nth ρ.tail i = nth ρ (i + 1)
  | [], _ => rfl
  | _ :: _, _ => rfl
/-- the arguments behind a def, as an environment -/
theorem SR.back : ∀ {os : List O} {vs : List V} {ρ0 : TEnv} {σ0 : L2.St}, SR K (os.map some) (vs.map some) F H → Sub F F' → SR K ρ0 σ0 F' H' → roots os (Tr.back os ρ0) →
    SR K ((Tr.back os ρ0).map some) (vs.map some) F' H' ∧ ∀ b ∈ ownedE ((Tr.back os ρ0).map some), b ∈ ownedE ρ0
  | [], [], ρ0, σ0, s, su, s0, _ => ⟨⟨s0.sub, rfl, fun _ _ e => (by cases e), fun _ h => (by cases h), List.nodup_nil⟩, fun _ h => (by cases h)⟩
  | o :: os, v :: vs, ρ0, σ0, s, su, s0, hr => by
    have tl : SR K ρ0.tail σ0.tail F' H' ∧ (∀ b ∈ ownedE ρ0.tail, b ∈ ownedE ρ0) := by
      cases ρ0 with
      | nil =>
        have e : σ0 = [] := List.length_eq_zero_iff.mp s0.len.symm
        subst e
        exact ⟨s0, fun _ h => h⟩
      | cons t r =>
        cases σ0 with
        | nil => cases s0.len
        | cons x y => exact ⟨s0.pop, fun b h => List.mem_append_right _ h⟩
    have data : ∀ d, o = .fz d → roots os (Tr.back os ρ0.tail) → SR K ((Tr.back (o :: os) ρ0).map some) ((v :: vs).map some) F' H' ∧ ∀ b ∈ ownedE ((Tr.back (o :: os) ρ0).map some), b ∈ ownedE ρ0 := fun d e hr => by
      subst e
      obtain ⟨s1, m1⟩ := SR.back (os := os) (vs := vs) s.pop su tl.1 hr
      exact ⟨s1.pushD (s.topD.mono su), fun b h => tl.2 b (m1 b h)⟩
    have held : (∀ d, o ≠ .fz d) → ((nth ρ0 0).getD (.fz .non)).root = o.root → o.root ≠ none → roots os (Tr.back os ρ0.tail) → Tr.back (o :: os) ρ0 = (nth ρ0 0).getD (.fz .non) :: Tr.back os ρ0.tail →
        SR K ((Tr.back (o :: os) ρ0).map some) ((v :: vs).map some) F' H' ∧ ∀ b ∈ ownedE ((Tr.back (o :: os) ρ0).map some), b ∈ ownedE ρ0 := fun nd hroot hn hr eb => by
      obtain ⟨s1, m1⟩ := SR.back (os := os) (vs := vs) s.pop su tl.1 hr
      cases ρ0 with
      | nil => exact absurd hroot.symm hn
      | cons t r =>
        cases σ0 with
        | nil => cases s0.len
        | cons x y =>
          cases t with
          | none => exact absurd hroot.symm hn
          | some u =>
            have hroot : u.root = o.root := hroot
            obtain ⟨w, hw, rw'⟩ := s0.slot 0 u rfl
            have e := RepO.root s.top rw' hroot hn
            subst e
            have n := List.nodup_append.mp s0.nd
            rw [eb]
            refine ⟨s1.push rw' (fun a ha => s0.own a (List.mem_append_left _ ha)) (List.nodup_append.mpr ⟨n.1, s1.nd, fun a ha b hb => n.2.2 a ha b (m1 b hb)⟩), fun b hb => ?_⟩
            rcases List.mem_append.mp hb with h | h
            · exact List.mem_append_left _ h
            · exact List.mem_append_right _ (m1 b h)
    cases o with
    | fz d => exact data d rfl hr
    | lst a us => exact held (fun _ h => nomatch h) hr.1 (fun h => nomatch h) hr.2 rfl
    | dct a us => exact held (fun _ h => nomatch h) hr.1 (fun h => nomatch h) hr.2 rfl
    | dcT a us => exact held (fun _ h => nomatch h) hr.1 (fun h => nomatch h) hr.2 rfl
    | ins a b c us => exact held (fun _ h => nomatch h) hr.1 (fun h => nomatch h) hr.2 rfl
  | [], v :: vs, ρ0, σ0, s, su, s0, hr => by cases s.len
  | o :: os, [], ρ0, σ0, s, su, s0, hr => by cases s.len
theorem SR.start {os : List O} {vs : List V} (s : SR K (os.map some) (vs.map some) F H) (m : Nat) : SR K (os.map some ++ List.replicate m none) (vs.map some ++ List.replicate m none) F H ∧ ownedE (os.map some ++ List.replicate m none) = ownedE (os.map some) := by
  have e0 : ∀ m, ownedE (List.replicate m none) = [] := by
    intro m
    induction m with
    | zero => rfl
    | succ m ih => exact ih
  have e : ownedE (os.map some ++ List.replicate m none) = ownedE (os.map some) := by
    rw [ownedE_os, e0, List.append_nil]
    have := ownedE_os os []
    rw [List.append_nil] at this
    rw [this]
    exact (List.append_nil _).symm
  have l : os.length = vs.length := by simpa using s.len
  refine ⟨⟨s.sub, by simp [l], fun i o h => ?_, by rw [e]; exact s.own, by rw [e]; exact s.nd⟩, e⟩
  by_cases q : i < os.length
  · rw [List.getElem?_append_left (by simpa using q)] at h
    rw [List.getElem?_append_left (by rw [List.length_map, ← l]; exact q)]
    exact s.slot i o h
  · rw [List.getElem?_append_right (by simpa using Nat.le_of_not_lt q), List.getElem?_replicate] at h
    split at h <;> cases h
end
section
variable {P : Program} {w : World} {K : PySem.W.Frag} {mg : Str → Option Value} {base : Heap}
/-- a def's body, at one entry -/
theorem tree_ex {qual : Str} {st : Stmt} {f : Addr} {N : List Str} {sp : SpT} {wb : WS} {cdv : Value} {A : Around} {outer : List Env} {s : Shared} {H : Hp} {E : XK} {vs : List V} {Q : VK}
    (body : XSs (cxOf CX0 P w K mg base N qual (defScope st) f cdv A outer s H E).nox (defBody st) wb) (does : ∀ os P, sp os P → wb (start0 N.length os) (endsOf os P)) (h : liftSp K sp vs H Q E) :
    ∃ t, PSs (cxOf CX0 P w K mg base N qual (defScope st) f cdv A outer s H E).nox (defBody st) t ∧ t { nx := fun _ H' => Q .non H', rt := Q } (L2.start N vs) H := by
  obtain ⟨os, F, Pp, sr, hsp, kk⟩ := h
  refine ⟨_, body.ps _ takesF, ?_⟩
  have l : os.length = vs.length := by simpa using sr.len
  obtain ⟨s0, e0⟩ := sr.start (N.length - vs.length)
  have fin : ∀ {r : O} {ρ' : TEnv} {σ' : L2.St} {F' H' : Hp} {v : V}, roots os (Tr.back os ρ') ∧ Pp r (Tr.back os ρ') → SR K (some r :: ρ') (some v :: σ') F' H' → Frm (ownedE (os.map some)) F H (ownedE (some r :: ρ')) F' H' → Q v H' := fun {r ρ' σ' F' H' v} p s' f' => by
    obtain ⟨sb, mb⟩ := SR.back sr f'.fz s'.pop p.1
    have n := List.nodup_append.mp s'.nd
    refine kk r _ F' H' v p.2 (sb.push s'.top (fun a ha => s'.own a (List.mem_append_left _ ha)) (List.nodup_append.mpr ⟨n.1, sb.nd, fun a ha b hb => n.2.2 a ha b (mb b hb)⟩)) (f'.less fun b hb => ?_)
    rcases List.mem_append.mp hb with h | h
    · exact List.mem_append_left _ h
    · exact List.mem_append_right _ (mb b h)
  have e1 : start0 N.length os = os.map some ++ List.replicate (N.length - vs.length) none := by unfold start0; rw [l]
  refine ⟨start0 N.length os, F, endsOf os Pp, by rw [e1]; exact s0, does _ _ hsp, ⟨fun ρ' σ' F' H' p s' f' => ?_, fun o ρ' σ' F' H' v p s' f' => ?_, fun ρ' σ' F' H' p s' f' => p.elim, fun ρ' σ' F' H' p s' f' => p.elim, fun ex ρ' σ' F' H' cls d p s' r f' => p.elim⟩⟩
  · rw [e1, e0] at f'
    exact fin p (s'.pushD .non) f'
  · rw [e1, e0] at f'
    exact fin p s' f'
/-- THE RULE for a def: its body's reading, and that it does what is promised -/
theorem fn_tree {x qual : Str} {st : Stmt} {f : Addr} {fd : FuncData} {N ps : List Str} {k : Nat} {sp : SpT} {wb : WS} (Fn : Fun K x qual st f fd) (S : FnScope N ps (defScope st)) (len : ∀ os P, sp os P → os.length = ps.length)
    (body : ∀ (cdv : Value) (A : Around) (outer : List Env) (s : Shared) (H : Hp) (E : XK), Room k (A.deeper (envOfC qual (defScope st) s.heap.objs.size f cdv)) → XSs (cxOf CX0 P w K mg base N qual (defScope st) f cdv A outer s H E).nox (defBody st) wb)
    (does : ∀ os P, sp os P → wb (start0 N.length os) (endsOf os P)) : FnOk P w K mg base CX0 (k + 1) f fd ps (liftSp K sp) := by
  refine Fn.ok S (fun vs H Q E h => ?_) (fun cdv A outer s H vs Q E hr h => tree_ex (body cdv A outer s H E hr) does h)
  obtain ⟨os, F, Pp, sr, hsp, _⟩ := h
  have l := sr.len
  rw [List.length_map, List.length_map] at l
  rw [← l]
  exact len _ _ hsp
end
end Tr
/-! The tree layer: the module's own constants, keywords, things moved out and put back, the end of a law. -/
namespace Tr
open PySem PySem.Spec PyProof.Rows L2

section
variable {X : Cx} {x : Str} {pos : Pos} {i : Nat} {e : Expr}
theorem xe_globI {n : Int} (hg : Gl X x) (h : ∃ t, X.mg x = some (.int n t)) (hd : (x == ("__debug__" : Str)) = false := by decide) : XE X (.Name x pos) (wC (.int n)) := by
  obtain ⟨t, h⟩ := h
  exact xe_c (v := .int n) (pe_glob hg h ⟨t, rfl⟩ hd) fun _ _ => .int n
/-- the slot's thing handed on -/
def wMov (i : Nat) : WO := fun ρ P => match nth ρ i with
  | some o => putC ρ i none (P o)
  | none => False
theorem xo_mov (h : PE X e (tVar i)) : XO X e (wMov i) := ⟨PE.imp h fun σ H Q ⟨ρ, F, P, s, w, k⟩ => by
  unfold wMov at w
  cases hn : nth ρ i with
  | none => rw [hn] at w; exact w.elim
  | some o =>
    rw [hn] at w
    obtain ⟨v, hv, s', m⟩ := s.take (nth_eq hn)
    have w : putC ρ i none (P o) := w
    rw [putC_eq] at w
    exact ⟨v, hv, k _ _ _ _ _ w s' (Frm.refl.less fun b hb => (m b).mpr hb)⟩⟩
end

/-! ### a list's item moved out and put back -/
theorem ownedL_mv {o : O} {d : D} : ∀ {os : List O} {j : Nat}, os[j]? = some o → (O.ownedL os).Perm (o.owned ++ O.ownedL (os.set j (.fz d)))
  | [], _, h => by cases h
  | u :: os, 0, h => by cases h; exact List.Perm.refl _
  | u :: os, j + 1, h => by
    have ih := ownedL_mv (d := d) (os := os) (j := j) (by simpa using h)
    show (u.owned ++ O.ownedL os).Perm (o.owned ++ (u.owned ++ O.ownedL (os.set j (.fz d))))
    refine (List.Perm.append_left _ ih).trans ?_
    rw [← List.append_assoc, ← List.append_assoc]
    exact List.Perm.append_right _ List.perm_append_comm
theorem set_same {α : Type} : ∀ {xs : List α} {j : Nat} {y : α}, xs[j]? = some y → xs.set j y = xs
  | [], _, _, h => by cases h
  | x :: r, 0, _, h => by cases h; rfl
  | x :: r, j + 1, _, h => congrArg (x :: ·) (set_same (xs := r) (by simpa using h))
section
variable {K : PySem.W.Frag} {ρ : TEnv} {σ : L2.St} {F H : Hp} {i j k : Nat} {a b : Addr} {os xs : List O}
theorem SR.mvOut {y : V} (s : SR K ρ σ F H) (e : ρ[i]? = some (some (.lst a os))) (hj : os[j]? = some (.lst b xs)) :
    SR K (some (.lst b xs) :: ρ.set i (some (.lst a (os.set j (.fz (.al b)))))) (some (.ref b) :: σ) F H ∧ ∀ c, c ∈ ownedE (some (.lst b xs) :: ρ.set i (some (.lst a (os.set j (.fz (.al b)))))) → c ∈ ownedE ρ := by
  obtain ⟨v, hv, s1, m1⟩ := s.take e
  have q := s1.top
  cases q with
  | @lst _ vs _ h z r =>
  obtain ⟨w, hw, rw'⟩ := r.get hj
  have ew : w = .ref b := by cases rw'; rfl
  subst ew
  have n := List.nodup_append.mp s1.nd
  have pm := ownedL_mv (d := .al b) hj
  have n0 : (a :: O.ownedL os).Nodup := n.1
  have n1 := List.nodup_cons.mp n0
  have n2 := List.nodup_append.mp (pm.nodup_iff.mp n1.2)
  have rset : RepOL K F H vs (os.set j (.fz (.al b))) := by
    have := r.setAt (o := .fz (.al b)) (y := .ref b) (.fz (.al b)) j
    rwa [set_same hw] at this
  have mem : ∀ c, c ∈ O.ownedL (os.set j (.fz (.al b))) → c ∈ O.ownedL os := fun c hc => pm.mem_iff.mpr (List.mem_append_right _ hc)
  have memb : ∀ c, c ∈ (O.lst b xs).owned → c ∈ O.ownedL os := fun c hc => pm.mem_iff.mpr (List.mem_append_left _ hc)
  have s2 : SR K (some (.lst a (os.set j (.fz (.al b)))) :: ρ.set i none) (some (.ref a) :: σ) F H := s1.pop.push (.lst h (by rw [List.length_set]; exact z) rset) (fun c hc => by
      refine s1.own c (List.mem_append_left _ ?_)
      rcases List.mem_cons.mp hc with q | q
      · subst q; exact List.mem_cons_self
      · exact List.mem_cons_of_mem _ (mem c q)) (List.nodup_append.mpr ⟨List.nodup_cons.mpr ⟨fun z => n1.1 (mem a z), n2.2.1⟩, n.2.1, fun c hc d hd => n.2.2 c (by
      rcases List.mem_cons.mp hc with q | q
      · subst q; exact List.mem_cons_self
      · exact List.mem_cons_of_mem _ (mem c q)) d hd⟩)
  obtain ⟨s3, m3⟩ := s2.set (i := i) hv
  rw [List.set_set] at s3 m3
  have key : ∀ c, c ∈ ownedE (ρ.set i (some (.lst a (os.set j (.fz (.al b)))))) → c = a ∨ c ∈ O.ownedL (os.set j (.fz (.al b))) ∨ c ∈ ownedE (ρ.set i none) := fun c hc => by
    rcases List.mem_append.mp (m3 c hc) with q | q
    · rcases List.mem_cons.mp (show c ∈ a :: O.ownedL _ from q) with q | q
      · exact .inl q
      · exact .inr (.inl q)
    · exact .inr (.inr q)
  refine ⟨s3.push rw' (fun c hc => s1.own c (List.mem_append_left _ (List.mem_cons_of_mem _ (memb c hc)))) (List.nodup_append.mpr ⟨n2.1, s3.nd, fun c hc d hd e' => ?_⟩), fun c hc => ?_⟩
  · subst e'
    rcases key c hd with q | q | q
    · subst q; exact n1.1 (memb c hc)
    · exact n2.2.2 c hc c q rfl
    · exact n.2.2 c (List.mem_cons_of_mem _ (memb c hc)) c q rfl
  · refine (m1 c).mpr ?_
    rcases List.mem_append.mp hc with q | q
    · exact List.mem_append_left _ (List.mem_cons_of_mem _ (memb c q))
    · rcases key c q with q | q | q
      · subst q; exact List.mem_append_left _ List.mem_cons_self
      · exact List.mem_append_left _ (List.mem_cons_of_mem _ (mem c q))
      · exact List.mem_append_right _ q
theorem SR.join (s : SR K ρ σ F H) (ne : i ≠ k) (e : ρ[i]? = some (some (.lst a os))) (ek : ρ[k]? = some (some (.lst b xs))) (hj : os[j]? = some (.fz (.al b))) :
    SR K ((ρ.set k none).set i (some (.lst a (os.set j (.lst b xs))))) σ F H ∧ ∀ c, c ∈ ownedE ((ρ.set k none).set i (some (.lst a (os.set j (.lst b xs))))) → c ∈ ownedE ρ := by
  obtain ⟨v, hv, s1, m1⟩ := s.take ek
  have e1 : (ρ.set k none)[i]? = some (some (.lst a os)) := by rw [List.getElem?_set_ne (fun q => ne q.symm)]; exact e
  obtain ⟨hi, ⟨ys, hys⟩, s2, m2⟩ := s1.atSlot e1
  have q := s2.pop.top
  cases q with
  | @lst _ vs _ h z r =>
  obtain ⟨w, hw, rw'⟩ := r.get hj
  have ew : w = .ref b := by
    cases rw' with
    | fz q => cases q; rfl
  subst ew
  have qb := s2.top
  have ev : v = .ref b := by cases qb; rfl
  subst ev
  have rset : RepOL K F H vs (os.set j (.lst b xs)) := by
    have := r.setAt qb j
    rwa [set_same hw] at this
  have n := List.nodup_append.mp s2.nd
  have n2 := List.nodup_append.mp n.2.1
  have n20 : (a :: O.ownedL os).Nodup := n2.1
  have pm : (O.ownedL (os.set j (.lst b xs))).Perm ((O.lst b xs).owned ++ O.ownedL os) := by
    have hlt : j < os.length := by
      by_cases q : j < os.length
      · exact q
      · rw [List.getElem?_eq_none (Nat.le_of_not_lt q)] at hj; cases hj
    have := ownedL_mv (o := .lst b xs) (d := .al b) (os := os.set j (.lst b xs)) (j := j) (List.getElem?_set_self hlt)
    rw [List.set_set, set_same hj] at this
    exact this
  have mem : ∀ c, c ∈ (O.lst a (os.set j (.lst b xs))).owned → c = a ∨ c ∈ (O.lst b xs).owned ∨ c ∈ O.ownedL os := fun c hc => by
    rcases List.mem_cons.mp (show c ∈ a :: O.ownedL _ from hc) with q | q
    · exact .inl q
    · exact .inr (List.mem_append.mp (pm.mem_iff.mp q))
  have s3 : SR K (some (.lst a (os.set j (.lst b xs))) :: (ρ.set k none).set i none) (some (.ref a) :: σ) F H := s2.pop.pop.push (.lst h (by rw [List.length_set]; exact z) rset) (fun c hc => by
      rcases mem c hc with q | q | q
      · subst q; exact s2.own c (List.mem_append_right _ (List.mem_append_left _ List.mem_cons_self))
      · exact s2.own c (List.mem_append_left _ q)
      · exact s2.own c (List.mem_append_right _ (List.mem_append_left _ (List.mem_cons_of_mem _ q)))) (List.nodup_append.mpr ⟨?_, n2.2.1, fun c hc d hd e' => ?_⟩)
  · obtain ⟨s4, m4⟩ := s3.set (i := i) hi
    rw [List.set_set] at s4 m4
    refine ⟨s4, fun c hc => (m1 c).mpr ((m2 c).mp ?_)⟩
    rcases List.mem_append.mp (m4 c hc) with q | q
    · rcases mem c q with q | q | q
      · subst q; exact List.mem_append_right _ (List.mem_append_left _ List.mem_cons_self)
      · exact List.mem_append_left _ q
      · exact List.mem_append_right _ (List.mem_append_left _ (List.mem_cons_of_mem _ q))
    · exact List.mem_append_right _ (List.mem_append_right _ q)
  · refine List.nodup_cons.mpr ⟨fun q => ?_, pm.nodup_iff.mpr (List.nodup_append.mpr ⟨n.1, (List.nodup_cons.mp n20).2, fun c hc d hd => n.2.2 c hc d (List.mem_append_left _ (List.mem_cons_of_mem _ hd))⟩)⟩
    rcases List.mem_append.mp (pm.mem_iff.mp q) with q | q
    · exact n.2.2 a q a (List.mem_append_left _ List.mem_cons_self) rfl
    · exact (List.nodup_cons.mp n20).1 q
  · subst e'
    rcases mem c hc with q | q | q
    · subst q; exact n2.2.2 c List.mem_cons_self c hd rfl
    · exact n.2.2 c q c (List.mem_append_right _ hd) rfl
    · exact n2.2.2 c (List.mem_cons_of_mem _ q) c hd rfl
end
/-- the item at a place of slot i's list, moved out: a reference stays -/
def wMvIx (i : Nat) (wb : WD) : WO := fun ρ P => match nth ρ i with
  | some _ => wb ρ fun d ρ2 => match nth ρ2 i with
    | some (.lst a os) => ∃ n j b xs, d = .int n ∧ ixN os.length n = some j ∧ os[j]? = some (.lst b xs) ∧ putC ρ2 i (some (.lst a (os.set j (.fz (.al b))))) (P (.lst b xs))
    | _ => False
  | none => False
section
variable {X : Cx} {a b : Expr} {wb : WD} {pos : Pos} {i : Nat}
theorem xo_mvIx (ha : PE X a (tVar i)) (hb : XE X b wb) (hs : PlainIx b := by exact fun _ _ => rfl) : XO X (.Subscript a b pos) (wMvIx i wb) := ⟨PE.imp (pe_ix ix_seq ha hb.pe hs) fun σ H Q ⟨ρ, F, P, s, hw, k⟩ => by
  unfold wMvIx at hw
  cases hn0 : nth ρ i with
  | none => rw [hn0] at hw; exact hw.elim
  | some o0 =>
  rw [hn0] at hw
  obtain ⟨x, hx, _⟩ := s.slot i o0 (nth_eq hn0)
  refine ⟨x, hx, ρ, F, _, s, hw, fun e ρ2 F2 H2 u p2 s2 r2 f2 => ?_⟩
  cases hn : nth ρ2 i with
  | none => rw [hn] at p2; exact p2.elim
  | some o =>
    rw [hn] at p2
    obtain ⟨v, hv, ro⟩ := s2.slot i o (nth_eq hn)
    rw [hx] at hv
    cases hv
    cases o <;> first
      | (exact p2.elim)
      | skip
    rename_i a os
    obtain ⟨n, j, b, xs, e1, e2, e3, p3⟩ := p2
    subst e1
    cases r2
    cases ro with
    | lst h z r =>
      obtain ⟨s3, m3⟩ := SR.mvOut (y := .non) s2 (nth_eq hn) e3
      rw [putC_eq] at p3
      obtain ⟨w, hw', rw'⟩ := r.get e3
      have ew : w = .ref b := by cases rw'; rfl
      subst ew
      refine .inl ⟨_, _, _, .ref b, rfl, rfl, .inl (.inl h), ?_, k _ _ _ _ _ p3 s3 (f2.less m3)⟩
      unfold L2.atI
      rw [r.length, e2]
      exact hw'⟩
end
/-- slot k's list put back into its place in slot i -/
def joinP (i j k : Nat) (ρ : TEnv) (P : TEnv → Prop) : Prop := match nth ρ i, nth ρ k with
  | some (.lst a os), some (.lst b xs) => os[j]? = some (.fz (.al b)) ∧ putC ρ k none fun ρ' => putC ρ' i (some (.lst a (os.set j (.lst b xs)))) P
  | _, _ => P ρ
theorem SR.joinP {K : PySem.W.Frag} {ρ : TEnv} {σ : L2.St} {F H : Hp} {i j k : Nat} {P : TEnv → Prop} (ne : i ≠ k) (s : SR K ρ σ F H) (h : Tr.joinP i j k ρ P) : ∃ ρ', P ρ' ∧ SR K ρ' σ F H ∧ ∀ c, c ∈ ownedE ρ' → c ∈ ownedE ρ := by
  unfold Tr.joinP at h
  split at h
  · rename_i a os b xs h1 h2
    obtain ⟨s1, m1⟩ := s.join ne (nth_eq h1) (nth_eq h2) h.1
    have h := h.2
    rw [putC_eq, putC_eq] at h
    exact ⟨_, h, s1, m1⟩
  · exact ⟨ρ, h, s, fun _ h => h⟩
/-- .. at the ends of a body -/
def wJn (i j k : Nat) (w : WS) : WS := fun ρ E => w ρ { E with nx := fun ρ' => joinP i j k ρ' E.nx, rt := fun r ρ' => joinP i j k ρ' (E.rt r) }
theorem xss_jn {X : Cx} {b : List Stmt} {w : WS} (i j k : Nat) (h : XSs X b w) (ne : i ≠ k := by decide) : XSs X b (wJn i j k w) := ⟨fun W tk => PSs.imp (h.ps W tk) fun D σ H ⟨ρ, F, E, s, hw, kk⟩ =>
  ⟨ρ, F, _, s, hw, ⟨fun ρ' σ' F' H' p s' f => by
    obtain ⟨ρ2, p2, s1, m1⟩ := s'.joinP ne p
    exact kk.nx _ _ _ _ p2 s1 (f.less m1), fun o ρ' σ' F' H' v p s' f => by
    obtain ⟨ρ2, p2, s1, m1⟩ := s'.pop.joinP ne p
    have n := List.nodup_append.mp s'.nd
    refine kk.rt _ _ _ _ _ _ p2 (s1.push s'.top (fun c hc => s'.own c (List.mem_append_left _ hc)) (List.nodup_append.mpr ⟨n.1, s1.nd, fun c hc d hd => n.2.2 c hc d (m1 d hd)⟩)) (f.less fun c hc => ?_)
    rcases List.mem_append.mp hc with q | q
    · exact List.mem_append_left _ q
    · exact List.mem_append_right _ (m1 c q), kk.bk, kk.ct, kk.xc⟩⟩⟩

/-! ### keywords -/
theorem kwb_mk {K : PySem.W.Frag} {x qual : Str} {st : Stmt} {f : Addr} {fd : FuncData} {ps ks : List Str} {m : Nat} {ix : List Nat} (Fn : Fun K x qual st f fd) (len : ix.length = ps.length) (lt : ∀ i ∈ ix, i < m + ks.length)
    (h : ∀ (kV doc pm : Value) (an : Option Addr) (cdv ct : Value) (us ws : List Value), us.length = m → ws.length = ks.length → bindArgs (PySem.W.fnOf x qual (defArgs st) (defBody st) (defScope st) .none kV doc pm an cdv ct) ⟨us, ks.zip ws⟩ = pure (ps.zip (pickL ix (us ++ ws)))) : KwB K fd ps ks m ix := by
  obtain ⟨oc, od, kV, doc, pm, an, cdv, ct, osl, rfl, lk, hcd⟩ := Fn.ex
  exact ⟨fun s us ws _ h1 h2 => .of_eq (h kV doc pm an cdv ct us ws h1 h2), len, lt⟩

/-! ### the law -/
structure lawSp (n : Nat) (os : List O) (P : O → List O → Prop) : Prop where
  ex : ∃ ns : List Int, ns.length ≤ n ∧ os = [.fz (.frl (ns.map .int))] ∧ P (.fz (.bl true)) os
theorem lawSp_len {n : Nat} : ∀ os P, lawSp n os P → os.length = 1 := fun os P ⟨_, _, e, _⟩ => by rw [e]; rfl
theorem repL_ints {K : PySem.W.Frag} {F : Hp} : ∀ ns : List Int, RepL K F (ns.map V.int) (ns.map D.int)
  | [] => .nil
  | n :: ns => .cons (.int n) (repL_ints ns)
theorem law_end {K : PySem.W.Frag} {H : Hp} {a : Addr} {n : Nat} {ns : List Int} (hn : n ≤ sizeLine) (hl : ns.length ≤ n) (hS : SqL K H a (ns.map V.int)) : liftSp K (lawSp n) [.ref a] H (fun v _ => v = .bl true) fun _ _ _ => False := by
  refine ⟨[.fz (.frl (ns.map .int))], H, fun o _ => o = .fz (.bl true), ?_, ⟨ns, hl, rfl, rfl⟩, fun o os' F' H' v p s' f => ?_⟩
  · have s0 : SR K [] [] H H := ⟨fun b o h => .inl h, rfl, fun i o e => (by cases e), fun a h => (by cases h), List.nodup_nil⟩
    exact s0.pushD (.frl hS (by rw [List.length_map]; exact Nat.le_trans hl hn) (repL_ints ns))
  · subst p
    have r := s'.top
    cases r with
    | fz r => cases r; rfl
end Tr
/-! What the laws share: the draws. -/
namespace Tr
open PySem PySem.Spec PyProof.Rows L2

local macro_rules | `(tactic| walk_at "tw") => `(tactic| ((conv => whnf); (repeat (refine wSeq.mk ?_; (conv => whnf)))))
local macro_rules | `(tactic| walk_at "tm") => `(tactic| (conv => whnf))

theorem cmul_small {i j : Int} (h1 : i.natAbs < 2 ^ 4000) (h2 : j.natAbs < 2 ^ 4000) : CMulW i j := by
  have b : ∀ n : Nat, n < 2 ^ 4000 → n.log2 < 400000 := fun n h => by
    by_cases z : n = 0
    · subst z; decide
    · exact Nat.lt_of_lt_of_le ((Nat.log2_lt z).mpr h) (by decide)
  have h3 := b _ h1
  have h4 := b _ h2
  unfold CMulW
  omega
theorem big64 : (2 : Nat) ^ 64 ≤ 2 ^ 4000 := Nat.pow_le_pow_right (by decide) (by decide)
theorem cmul64 {i j : Int} (h1 : -(2 ^ 64) < i) (h2 : i < 2 ^ 64) (h3 : -(2 ^ 64) < j) (h4 : j < 2 ^ 64) : CMulW i j :=
  cmul_small (Nat.lt_of_lt_of_le (by omega) big64) (Nat.lt_of_lt_of_le (by omega) big64)
theorem cdiv64 {i j : Int} (h3 : 0 < j) (h4 : j < 2 ^ 64) : CDivW i j := by
  refine ⟨h3, ?_⟩
  have : j.natAbs ≠ 0 := by omega
  exact Nat.lt_of_lt_of_le ((Nat.log2_lt this).mpr (show j.natAbs < 2 ^ 64 by omega)) (by decide)
theorem ixN_in {n : Nat} {i : Int} (h0 : 0 ≤ i) (h1 : i < n) : ixN n i = some i.toNat := by
  unfold ixN
  rw [if_pos h0, if_pos h1]
theorem atI_in {α : Type} {xs : List α} {i : Int} (h0 : 0 ≤ i) (h1 : i < xs.length) : atI xs i = some (xs[i.toNat]'(by omega)) := by
  unfold atI
  rw [ixN_in h0 h1]
  exact List.getElem?_eq_getElem (by omega)

theorem frzL_ints : ∀ ns : List Int, O.frzL (ns.map fun n => .fz (.int n)) = ns.map .int
  | [] => rfl
  | n :: ns => congrArg (D.int n :: ·) (frzL_ints ns)
theorem atI_map {α β : Type} (f : α → β) {xs : List α} {i : Int} (h0 : 0 ≤ i) (h1 : i < xs.length) : atI (xs.map f) i = some (f (xs[i.toNat]'(by omega))) := by
  rw [atI_in h0 (by rw [List.length_map]; exact h1), List.getElem_map]
/-- the state of the draws: what its list holds -/
def DS (xs : List O) : Prop := ∃ c ns at_ mix, xs = [.lst c (ns.map fun n => .fz (.int n)), .fz (.int at_), .fz (.int mix)] ∧ ns ≠ [] ∧ (∀ n ∈ ns, (0 : Int) ≤ n) ∧ (0 : Int) ≤ at_ ∧ (0 : Int) ≤ mix ∧ mix < 2 ^ 31
structure spDraw (os : List O) (P : O → List O → Prop) : Prop where
  ex : ∃ a xs many, os = [.lst a xs, .fz (.int many)] ∧ DS xs ∧ 0 < many ∧ many < 2 ^ 62 ∧ ∀ k ys, 0 ≤ k → k < many → DS ys → P (.fz (.int k)) [.lst a ys, .fz (.int many)]
theorem spDraw_len : ∀ os P, spDraw os P → os.length = 2 := fun os P ⟨_, _, _, e, _⟩ => by rw [e]; rfl
def wDraw : WS :=
  (wJn 0 0 2 (wSeq (wSet 2 (wMvIx 0 (wC (.int 0))))
    (wSeq (wSet 3 (wBin semMod (wIxL 0 (wC (.int 1))) (wC1 semLen (wLook 2))))
    (wSeq (wSet 4 (wFz (wIxL 2 (wVar 3))))
    (wSeq (wIfS (wTst (wCmpL semGe 4 (wC (.int 1000000000000000000)))) (wSeq (wSetIx 2 (wVar 3) (wBin semDiv (wVar 4) (wVar 1)))
    (wRet (wBin semMod (wVar 4) (wVar 1)))) wSkip)
    (wSeq (wSetIx 0 (wC (.int 1)) (wBin semAdd (wIxL 0 (wC (.int 1))) (wC (.int 1))))
    (wSeq (wSetIx 0 (wC (.int 2)) (wBin semMod (wFrz (wBin semAdd (wFrz (wBin semAdd (wFrz (wBin semMul (wIxL 0 (wC (.int 2))) (wC (.int 48271)))) (wVar 4))) (wC (.int 12345)))) (wC (.int 2147483647))))
    (wRet (wBin semMod (wFrz (wBin semDiv (wFrz (wBin semMod (wFrz (wBin semMul (wIxL 0 (wC (.int 2))) (wIxL 0 (wC (.int 2))))) (wC (.int 2147483629)))) (wC (.int 16)))) (wVar 1))))))))))
theorem wDraw_does : ∀ os P, spDraw os P → wDraw (start0 5 os) (endsOf os P) := by
  rintro os P ⟨a, xs, many, rfl, ⟨c, ns, at_, mix, rfl, hne, hns, hat, hm0, hm1⟩, hp, hp2, k⟩
  have hl : 0 < ns.length := List.length_pos_iff.mpr hne
  walk_at "tw"
  refine ⟨_, _, _, _, rfl, rfl, rfl, ?_⟩
  walk_at "tw"
  refine ⟨_, _, rfl, rfl, ?_⟩
  walk_at "tw"
  refine ⟨ns.map .int, congrArg some (frzL_ints ns), ?_⟩
  walk_at "tw"
  have hl' : (0 : Int) < ((ns.map D.int).length : Int) := by rw [List.length_map]; omega
  refine ⟨hl', ?_⟩
  generalize hat2 : at_ % ((ns.map D.int).length : Int) = at2
  have h20 : 0 ≤ at2 := hat2 ▸ Int.emod_nonneg _ (by omega)
  have h21 : at2 < (ns.length : Int) := by
    have := Int.emod_lt_of_pos at_ hl'
    rw [hat2, List.length_map] at this
    exact this
  walk_at "tw"
  refine ⟨at2, _, rfl, atI_map _ h20 h21, ?_⟩
  have hc : 0 ≤ ns[at2.toNat]'(by omega) := hns _ (List.getElem_mem _)
  generalize ns[at2.toNat]'(by omega) = cell at hc ⊢
  walk_at "tw"
  refine ⟨fun _ => ?_, fun hs => ?_⟩
  · -- a large cell
    have hj : at2.toNat < ns.length := by omega
    refine ⟨cdiv64 hp (by omega), at2, at2.toNat, rfl, ?_, ?_⟩
    · rw [List.length_map]; exact ixN_in h20 h21
    walk_at "tw"
    refine ⟨hp, rfl, ⟨rfl, trivial⟩, ?_⟩
    refine k _ _ (Int.emod_nonneg _ (by omega)) (Int.emod_lt_of_pos _ hp) ⟨c, ns.set at2.toNat (cell / many), at_, mix, ?_, ?_, ?_, hat, hm0, hm1⟩
    · rw [List.map_set]
      rfl
    · intro e
      have := congrArg List.length e
      rw [List.length_set] at this
      exact absurd this (by simp; omega)
    · intro n hn
      rcases List.mem_or_eq_of_mem_set hn with h | h
      · exact hns n h
      · subst h; exact Int.ediv_nonneg hc (by omega)
  · have hs' : cell < 1000000000000000000 := by simpa using hs
    walk_at "tw"
    refine ⟨1, _, rfl, rfl, ?_⟩
    walk_at "tw"
    refine ⟨_, _, rfl, rfl, ?_⟩
    walk_at "tw"
    refine ⟨2, _, rfl, rfl, ?_⟩
    walk_at "tw"
    refine ⟨cmul64 (by omega) (by omega) (by decide) (by decide), ?_⟩
    walk_at "tw"
    refine ⟨by decide, ?_⟩
    generalize hm2 : (mix * 48271 + cell + 12345) % 2147483647 = mix2
    have h0 : 0 ≤ mix2 := hm2 ▸ Int.emod_nonneg _ (by decide)
    have h1 : mix2 < 2 ^ 31 := by
      have := Int.emod_lt_of_pos (mix * 48271 + cell + 12345) (show (0 : Int) < 2147483647 by decide)
      omega
    walk_at "tw"
    refine ⟨_, _, rfl, rfl, ?_⟩
    walk_at "tw"
    refine ⟨2, _, rfl, rfl, ?_⟩
    walk_at "tw"
    refine ⟨2, _, rfl, rfl, ?_⟩
    walk_at "tw"
    refine ⟨cmul64 (by omega) (by omega) (by omega) (by omega), ?_⟩
    walk_at "tw"
    refine ⟨by decide, ?_⟩
    walk_at "tw"
    refine ⟨cdiv64 (by decide) (by decide), ?_⟩
    walk_at "tw"
    refine ⟨hp, rfl, ⟨rfl, trivial⟩, ?_⟩
    exact k _ _ (Int.emod_nonneg _ (by omega)) (Int.emod_lt_of_pos _ hp) ⟨c, ns, at_ + 1, mix2, rfl, hne, hns, by omega, h0, h1⟩
theorem draw_i {a : Addr} {xs : List O} {many : Int} {P : O → List O → Prop} (h : DS xs) (h1 : 0 < many) (h2 : many < 2 ^ 62) (k : ∀ k ys, 0 ≤ k → k < many → DS ys → P (.fz (.int k)) [.lst a ys, .fz (.int many)]) : spDraw [.lst a xs, .fz (.int many)] P := ⟨a, xs, many, rfl, h, h1, h2, k⟩

/-! ### loops by what holds -/
theorem lc_inv {g : WG} {wt : WT} {we : WO} {own : List Nat} {P : List O → TEnv → Prop} (ds : List D) (I : List D → TEnv → List O → Prop)
    (step : ∀ pre d post ρ acc, ds = pre ++ d :: post → I pre ρ acc → ∀ (A : O → TEnv → Prop) (B : TEnv → Prop), (∀ o ρ', I (pre ++ [d]) ρ' (acc ++ [o]) → A o ρ') → (∀ ρ', I (pre ++ [d]) ρ' acc → B ρ') →
      g d ρ fun ρ1 => wt ρ1 fun b ρ2 => br b (we ρ2 fun o ρ3 => A o (wipeE ρ3 own)) (B (wipeE ρ2 own)))
    (fin : ∀ ρ acc, I ds ρ acc → P acc ρ) : ∀ (post pre : List D) ρ acc, ds = pre ++ post → I pre ρ acc → wLcL g wt we own post ρ acc P
  | [], pre, ρ, acc, e, h => by
    rw [List.append_nil] at e
    subst e
    exact fin _ _ h
  | d :: post, pre, ρ, acc, e, h => by
    have e2 : ds = (pre ++ [d]) ++ post := by rw [e, List.append_assoc]; rfl
    exact step pre d post ρ acc e h (fun o ρ' => wLcL g wt we own post ρ' (acc ++ [o]) P) (fun ρ' => wLcL g wt we own post ρ' acc P)
      (fun o ρ' h' => lc_inv ds I step fin post _ ρ' _ e2 h') (fun ρ' h' => lc_inv ds I step fin post _ ρ' _ e2 h')
/-- each item its answer, the names untouched -/
theorem lc_map {g : WG} {wt : WT} {we : WO} {own : List Nat} {P : List O → TEnv → Prop} {ρ : TEnv} (ds : List D) (f : D → Option O)
    (step : ∀ d ∈ ds, ∀ (A : O → TEnv → Prop) (B : TEnv → Prop), (∀ o, f d = some o → A o ρ) → (f d = none → B ρ) → g d ρ fun ρ1 => wt ρ1 fun b ρ2 => br b (we ρ2 fun o ρ3 => A o (wipeE ρ3 own)) (B (wipeE ρ2 own)))
    (fin : P (ds.filterMap f) ρ) : wLcL g wt we own ds ρ [] P := by
  refine lc_inv ds (fun pre ρ' acc => ρ' = ρ ∧ acc = pre.filterMap f) (fun pre d post ρ' acc e h A B hA hB => ?_) (fun ρ' acc h => ?_) ds [] ρ [] rfl ⟨rfl, rfl⟩
  · obtain ⟨rfl, rfl⟩ := h
    refine step d (by rw [e]; exact List.mem_append_right _ List.mem_cons_self) A B (fun o ho => hA o _ ⟨rfl, ?_⟩) (fun hn => hB _ ⟨rfl, ?_⟩)
    · rw [List.filterMap_append, List.filterMap_cons, ho]; rfl
    · rw [List.filterMap_append, List.filterMap_cons, hn, List.filterMap_nil, List.append_nil]
  · obtain ⟨rfl, rfl⟩ := h
    exact fin
/-- .. of a list of one kind -/
theorem lc_mapA {α : Type} {g : WG} {wt : WT} {we : WO} {own : List Nat} {P : List O → TEnv → Prop} {ρ : TEnv} (c : α → D) (ms : List α) (f : α → Option O)
    (step : ∀ m ∈ ms, ∀ (A : O → TEnv → Prop) (B : TEnv → Prop), (∀ o, f m = some o → A o ρ) → (f m = none → B ρ) → g (c m) ρ fun ρ1 => wt ρ1 fun b ρ2 => br b (we ρ2 fun o ρ3 => A o (wipeE ρ3 own)) (B (wipeE ρ2 own)))
    (fin : P (ms.filterMap f) ρ) : wLcL g wt we own (ms.map c) ρ [] P := by
  refine lc_inv (ms.map c) (fun pre ρ' acc => ρ' = ρ ∧ ∃ qs rs, ms = qs ++ rs ∧ pre = qs.map c ∧ acc = qs.filterMap f) (fun pre d post ρ' acc e h A B hA hB => ?_) (fun ρ' acc h => ?_) (ms.map c) [] ρ [] rfl ⟨rfl, [], ms, rfl, rfl, rfl⟩
  · obtain ⟨rfl, qs, rs, e2, rfl, rfl⟩ := h
    rw [e2, List.map_append] at e
    have e3 := List.append_cancel_left e
    cases rs with
    | nil => cases e3
    | cons m rs =>
      rw [List.map_cons] at e3
      obtain ⟨rfl, _⟩ := List.cons.inj e3
      have e4 : ms = (qs ++ [m]) ++ rs := by rw [e2, List.append_assoc]; rfl
      refine step m (by rw [e2]; exact List.mem_append_right _ List.mem_cons_self) A B (fun o ho => hA o _ ⟨rfl, qs ++ [m], rs, e4, by rw [List.map_append]; rfl, ?_⟩) (fun hn => hB _ ⟨rfl, qs ++ [m], rs, e4, by rw [List.map_append]; rfl, ?_⟩)
      · rw [List.filterMap_append, List.filterMap_cons, ho]; rfl
      · rw [List.filterMap_append, List.filterMap_cons, hn, List.filterMap_nil, List.append_nil]
  · obtain ⟨rfl, qs, rs, e2, e3, rfl⟩ := h
    have hl := congrArg List.length e3
    rw [List.length_map, List.length_map] at hl
    have hr : rs = [] := by
      have := congrArg List.length e2
      rw [List.length_append] at this
      exact List.length_eq_zero_iff.mp (by omega)
    rw [hr, List.append_nil] at e2
    rw [← e2]
    exact fin
/-- .. each item has one -/
theorem lc_all {α : Type} {g : WG} {we : WO} {own : List Nat} {P : List O → TEnv → Prop} {ρ : TEnv} (c : α → D) (ms : List α) (f : α → O)
    (step : ∀ m ∈ ms, ∀ (A : O → TEnv → Prop) (B : TEnv → Prop), A (f m) ρ → g (c m) ρ fun ρ1 => wYes ρ1 fun b ρ2 => br b (we ρ2 fun o ρ3 => A o (wipeE ρ3 own)) (B (wipeE ρ2 own)))
    (fin : P (ms.map f) ρ) : wLcL g wYes we own (ms.map c) ρ [] P := by
  refine lc_mapA c ms (fun m => some (f m)) (fun m hm A B hA hB => step m hm A B (hA _ rfl)) ?_
  rw [List.filterMap_eq_map']
  exact fin
/-- .. of any things -/
theorem lc_allD {g : WG} {we : WO} {own : List Nat} {P : List O → TEnv → Prop} {ρ : TEnv} (ds : List D) (f : D → O)
    (step : ∀ m ∈ ds, ∀ (A : O → TEnv → Prop) (B : TEnv → Prop), A (f m) ρ → g m ρ fun ρ1 => wYes ρ1 fun b ρ2 => br b (we ρ2 fun o ρ3 => A o (wipeE ρ3 own)) (B (wipeE ρ2 own)))
    (fin : P (ds.map f) ρ) : wLcL g wYes we own ds ρ [] P := by
  have := lc_all (g := g) (we := we) (own := own) (P := P) (ρ := ρ) (fun d => d) ds f step fin
  rwa [List.map_id'] at this
/-- .. the ones that a test lets by -/
theorem lc_flt {g : WG} {wt : WT} {we : WO} {own : List Nat} {P : List O → TEnv → Prop} {ρ : TEnv} (ds : List D) (p : D → Bool)
    (step : ∀ m ∈ ds, ∀ (A : O → TEnv → Prop) (B : TEnv → Prop), (p m = true → A (.fz m) ρ) → (p m = false → B ρ) → g m ρ fun ρ1 => wt ρ1 fun b ρ2 => br b (we ρ2 fun o ρ3 => A o (wipeE ρ3 own)) (B (wipeE ρ2 own)))
    (fin : P ((ds.filter p).map .fz) ρ) : wLcL g wt we own ds ρ [] P := by
  refine lc_map ds (fun m => if p m = true then some (.fz m) else none) (fun m hm A B hA hB => step m hm A B (fun h => hA _ (by rw [if_pos h])) (fun h => hB (by rw [if_neg (by rw [h]; exact Bool.false_ne_true)]))) ?_
  have e : ds.filterMap (fun m => if p m = true then some (O.fz m) else none) = (ds.filter p).map O.fz := by
    clear step fin
    induction ds with
    | nil => rfl
    | cons d ds ih =>
      rw [List.filterMap_cons, List.filter_cons]
      by_cases h : p d = true
      · rw [if_pos h, if_pos h, List.map_cons, ih]
      · rw [if_neg h, if_neg h, ih]
  rw [e]
  exact fin
theorem for_inv {g : WG} {wb : WS} {E : TEnds} (ds : List D) (I : List D → TEnv → Prop)
    (step : ∀ pre d post ρ, ds = pre ++ d :: post → I pre ρ → ∀ (N : TEnv → Prop), (∀ ρ', I (pre ++ [d]) ρ' → N ρ') → g d ρ fun ρ1 => wb ρ1 (E.lp N))
    (fin : ∀ ρ, I ds ρ → E.nx ρ) : ∀ (post pre : List D) ρ, ds = pre ++ post → I pre ρ → wForL g wb post ρ E
  | [], pre, ρ, e, h => by
    rw [List.append_nil] at e
    subst e
    exact fin _ h
  | d :: post, pre, ρ, e, h => by
    have e2 : ds = (pre ++ [d]) ++ post := by rw [e, List.append_assoc]; rfl
    exact step pre d post ρ e h (fun ρ' => wForL g wb post ρ' E) (fun ρ' h' => for_inv ds I step fin post _ ρ' e2 h')
/-- a loop over range(n) -/
theorem for_rng {g : WG} {wb : WS} {E : TEnds} {ρ : TEnv} (n : Nat) (I : Nat → TEnv → Prop) (h0 : I 0 ρ)
    (step : ∀ k ρ, k < n → I k ρ → ∀ (N : TEnv → Prop), (∀ ρ', I (k + 1) ρ' → N ρ') → g (.int k) ρ fun ρ1 => wb ρ1 (E.lp N))
    (fin : ∀ ρ, I n ρ → E.nx ρ) : wForL g wb ((List.range n).map fun (k : Nat) => .int k) ρ E := by
  refine for_inv ((List.range n).map fun (k : Nat) => D.int k) (fun pre ρ => I pre.length ρ) (fun pre d post ρ e h N hN => ?_) (fun ρ h => ?_) _ [] ρ rfl h0
  · have hl := congrArg List.length e
    rw [List.length_map, List.length_range, List.length_append, List.length_cons] at hl
    have hd : d = .int (pre.length : Nat) := by
      have h1 : ((List.range n).map fun (k : Nat) => D.int k)[pre.length]? = some d := by
        rw [e, List.getElem?_append_right (Nat.le_refl _), Nat.sub_self]; rfl
      rw [List.getElem?_map, List.getElem?_range (by omega)] at h1
      exact (Option.some.inj h1).symm
    subst hd
    exact step pre.length ρ (by omega) h N fun ρ' h' => hN ρ' (by rw [List.length_append]; exact h')
  · exact fin ρ (by have h : I ((List.range n).map fun (k : Nat) => D.int k).length ρ := h; rw [List.length_map, List.length_range] at h; exact h)

/-- a while loop by a measure -/
theorem while_go {wc : WT} {wb : WS} {E : TEnds} (I : Nat → TEnv → Prop) (step : ∀ n ρ, I n ρ → ∀ (N : TEnv → Prop), (∀ k ρ', k < n → I k ρ' → N ρ') → wc ρ fun c ρ1 => br c (wb ρ1 (E.lp N)) (E.nx ρ1)) : ∀ n k ρ, k ≤ n → I k ρ → wWhileN wc wb (n + 1) ρ E
  | 0, k, ρ, hk, h => step k ρ h _ fun j ρ' hj _ => absurd hj (by omega)
  | n + 1, k, ρ, hk, h => step k ρ h _ fun j ρ' hj hI => while_go I step n j ρ' (by omega) hI
theorem while_inv {wc : WT} {wb : WS} {E : TEnds} (I : Nat → TEnv → Prop) (step : ∀ n ρ, I n ρ → ∀ (N : TEnv → Prop), (∀ k ρ', k < n → I k ρ' → N ρ') → wc ρ fun c ρ1 => br c (wb ρ1 (E.lp N)) (E.nx ρ1)) {n : Nat} {ρ : TEnv} (h : I n ρ) : wWhile wc wb ρ E :=
  ⟨n + 1, while_go I step n n ρ (Nat.le_refl _) h⟩

/-! ### the state's making -/
structure spState (os : List O) (P : O → List O → Prop) : Prop where
  ex : ∃ ns : List Int, os = [.fz (.frl (ns.map .int))] ∧ ∀ a xs, DS xs → P (.lst a xs) os
theorem spState_len : ∀ os P, spState os P → os.length = 1 := fun os P ⟨_, e, _⟩ => by rw [e]; rfl
def wState : WS :=
  (wSeq (wSet 1 (wLc (wWalk (wFrz (wSl (wVar 0) wNoP (wSoP (wC (.int 63)))))) (gN 2) wYes (wFz (wC1 semAbs (wLook 2))) [2]))
    (wSeq (wIfS (wTst (wCmp semEq (wC1 semLen (wLook 1)) (wC (.int 0)))) (wSet 1 (wLst (wConsO (wFz (wC (.int 5))) wNilO))) wSkip)
    (wRet (wLst (wConsO (wMov 1) (wConsO (wFz (wC (.int 0))) (wConsO (wFz (wC (.int 1))) wNilO)))))))
theorem cutG_map {α β : Type} (f : α → β) (xs : List α) (lo hi : Option Int) : cutG (xs.map f) lo hi = (cutG xs lo hi).map f := by
  unfold cutG
  rw [List.length_map, ← List.map_drop, ← List.map_take]
theorem wState_does : ∀ os P, spState os P → wState (start0 3 os) (endsOf os P) := by
  rintro os P ⟨ns, rfl, k⟩
  walk_at "tw"
  intro b
  walk_at "tw"
  rw [O.frzL_map, cutG_map]
  generalize cutG ns none (some 63) = ms
  refine lc_all D.int ms (fun n => .fz (.int (if n < 0 then -n else n))) (fun m hm A B hA => ?_) ?_
  · walk_at "tw"
    exact ⟨fun _ => hA, fun h => nomatch h⟩
  · intro c
    walk_at "tw"
    refine ⟨_, rfl, ?_⟩
    walk_at "tw"
    refine ⟨fun h => ?_, fun h => ?_⟩
    · walk_at "tw"
      refine ⟨by decide, fun c => ?_⟩
      walk_at "tw"
      refine ⟨by show 3 ≤ sizeLine; decide, fun d => ?_⟩
      walk_at "tw"
      refine ⟨trivial, ?_⟩
      exact k _ _ ⟨c, [5], 0, 1, rfl, by simp, by simp, by decide, by decide, by decide⟩
    · walk_at "tw"
      refine ⟨by show 3 ≤ sizeLine; decide, fun d => ?_⟩
      walk_at "tw"
      refine ⟨trivial, ?_⟩
      refine k _ _ ⟨c, ms.map fun n => if n < 0 then -n else n, 0, 1, ?_, ?_, ?_, by decide, by decide, by decide⟩
      · rw [List.map_map]; rfl
      · intro e
        rw [List.map_eq_nil_iff.mp e] at h
        exact absurd h (by decide)
      · intro n hn
        obtain ⟨x, _, rfl⟩ := List.mem_map.mp hn
        show 0 ≤ if x < 0 then -x else x
        split <;> omega
end Tr
/-! Data that can be held against others; lists of one kind. -/
namespace Tr
open PySem PySem.Spec PyProof.Rows L2

/-! ### equality of lists of one kind -/
theorem deqL_map {α β : Type} {f : D → D → Option Bool} {g : α → D} {h : β → D} {p : α → β → Bool} (hf : ∀ x y, f (g x) (h y) = some (p x y)) : ∀ (l : List α) (m : List β), deqL f (l.map g) (m.map h) = some ((l.zip m).all fun q => p q.1 q.2)
  | [], _ => rfl
  | _ :: _, [] => rfl
  | x :: l, y :: m => by
    show (match f (g x) (h y), deqL f (l.map g) (m.map h) with | some a, some b => some (a && b) | _, _ => none) = _
    rw [hf, deqL_map hf l m]
    rfl
theorem zip_all_eq {α : Type} [DecidableEq α] : ∀ l m : List α, (((l.zip m).all fun q => decide (q.1 = q.2)) && (l.length == m.length)) = decide (l = m)
  | [], [] => by simp
  | [], _ :: _ => by simp
  | _ :: _, [] => by simp
  | x :: l, y :: m => by
    have ih := zip_all_eq l m
    by_cases e : x = y
    · subst e
      simp only [List.zip_cons_cons, List.all_cons, List.length_cons]
      simp at ih ⊢
      rw [ih]
    · simp [e]
/-- the things of g are equal when their sources are -/
def EqM {α : Type} [DecidableEq α] (n : Nat) (g : α → D) : Prop := ∀ x y, deq n (g x) (g y) = some (decide (x = y))
theorem eqM_int (n : Nat) : EqM n D.int := fun x y => by
  cases n <;> exact congrArg some (by rw [Bool.eq_iff_iff]; simp)
theorem eqM_str (n : Nat) : EqM n D.str := fun x y => by
  cases n <;> exact congrArg some (by rw [Bool.eq_iff_iff]; simp)
theorem eqM_bl (n : Nat) : EqM n D.bl := fun x y => by
  cases n <;> exact congrArg some (by rw [Bool.eq_iff_iff]; simp)
theorem EqM.tup {α : Type} [DecidableEq α] {n : Nat} {g : α → D} (h : EqM n g) : EqM (n + 1) fun l : List α => .tup (l.map g) := fun l m => by
  show (deqL (deq n) (l.map g) (m.map g)).map (· && ((l.map g).length == (m.map g).length)) = _
  rw [deqL_map (fun x y => h x y), List.length_map, List.length_map]
  exact congrArg some (zip_all_eq l m)
theorem EqM.lst {α : Type} [DecidableEq α] {n : Nat} {g : α → D} (h : EqM n g) : EqM (n + 1) fun l : List α => .lst (l.map g) := fun l m => by
  show (if ((l.map g).length == (m.map g).length) = true then deqL (deq n) (l.map g) (m.map g) else some false) = _
  rw [deqL_map (fun x y => h x y), List.length_map, List.length_map, ← zip_all_eq l m]
  cases l.length == m.length <;> simp
theorem EqM.pair {α β : Type} [DecidableEq α] [DecidableEq β] {n : Nat} {g : α → D} {h : β → D} (hg : EqM n g) (hh : EqM n h) : EqM (n + 1) fun q : α × β => .tup [g q.1, h q.2] := fun l m => by
  show ((match deq n (g l.1) (g m.1), (match deq n (h l.2) (h m.2), some true with | some a, some b => some (a && b) | _, _ => none) with | some a, some b => some (a && b) | _, _ => none).map (· && true)) = _
  rw [hg, hh]
  refine congrArg some ?_
  rw [Bool.eq_iff_iff]
  simp [Prod.ext_iff]
theorem deq_lnil {n : Nat} {xs : List D} : deq n (.lst xs) (.lst []) = some xs.isEmpty := by
  cases n <;> cases xs <;> rfl
theorem deq_nill {n : Nat} {xs : List D} : deq n (.lst []) (.lst xs) = some xs.isEmpty := by
  cases n <;> cases xs <;> rfl
theorem deq_tnil {n : Nat} {xs : List D} : deq n (.tup xs) (.tup []) = some xs.isEmpty := by
  cases n <;> cases xs <;> rfl

theorem frzL_mapfz {α : Type} (g : α → D) : ∀ l : List α, O.frzL (l.map fun x => .fz (g x)) = l.map g
  | [] => rfl
  | x :: l => congrArg (g x :: ·) (frzL_mapfz g l)
theorem frz_map {α : Type} (g : α → D) (b : Addr) (l : List α) : (O.lst b (l.map fun x => .fz (g x))).frz = .lst (l.map g) := congrArg D.lst (frzL_mapfz g l)
theorem ints_mapf {α : Type} (f : α → Int) : ∀ l : List α, D.ints (l.map fun x => .int (f x)) = some (l.map f)
  | [] => rfl
  | x :: l => by
    show (D.ints (l.map fun x => .int (f x))).map (f x :: ·) = _
    rw [ints_mapf f l]
    rfl
theorem bls_mapf {α : Type} (f : α → Bool) : ∀ l : List α, D.bls (l.map fun x => .bl (f x)) = some (l.map f)
  | [] => rfl
  | x :: l => by
    show (D.bls (l.map fun x => .bl (f x))).map (f x :: ·) = _
    rw [bls_mapf f l]
    rfl
theorem atI_mem {α : Type} {xs : List α} {i : Int} (h0 : 0 ≤ i) (h1 : i < xs.length) : ∃ u, u ∈ xs ∧ atI xs i = some u := ⟨_, List.getElem_mem _, atI_in h0 h1⟩
theorem cutG_mem {α : Type} {xs : List α} {lo hi : Option Int} {x : α} (h : x ∈ cutG xs lo hi) : x ∈ xs := List.mem_of_mem_drop (List.mem_of_mem_take h)
theorem zip_map2 {α β : Type} (f : α → D) (g : β → D) (l : List α) (m : List β) : (((l.map f).zip (m.map g)).map fun p => D.tup [p.1, p.2]) = (l.zip m).map fun q => .tup [f q.1, g q.2] := by
  rw [List.zip_map, List.map_map]
  rfl
theorem enum_map {α : Type} (f : α → D) (l : List α) : ((l.map f).zipIdx.map fun p => D.tup [.int p.2, p.1]) = l.zipIdx.map fun q => .tup [.int q.2, f q.1] := by
  rw [List.zipIdx_map, List.map_map]
  rfl
/-- a loop over a list of one kind -/
theorem for_map {α : Type} {g : WG} {wb : WS} {E : TEnds} (c : α → D) (ms : List α) (I : List α → TEnv → Prop)
    (step : ∀ pre m post ρ, ms = pre ++ m :: post → I pre ρ → ∀ (N : TEnv → Prop), (∀ ρ', I (pre ++ [m]) ρ' → N ρ') → g (c m) ρ fun ρ1 => wb ρ1 (E.lp N))
    (fin : ∀ ρ, I ms ρ → E.nx ρ) : ∀ (post pre : List α) ρ, ms = pre ++ post → I pre ρ → wForL g wb (post.map c) ρ E
  | [], pre, ρ, e, h => by
    rw [List.append_nil] at e
    subst e
    exact fin _ h
  | m :: post, pre, ρ, e, h => by
    have e2 : ms = (pre ++ [m]) ++ post := by rw [e, List.append_assoc]; rfl
    exact step pre m post ρ e h (fun ρ' => wForL g wb (post.map c) ρ' E) (fun ρ' h' => for_map c ms I step fin post _ ρ' e2 h')
theorem for_map0 {α : Type} {g : WG} {wb : WS} {E : TEnds} {ρ : TEnv} (c : α → D) (ms : List α) (I : List α → TEnv → Prop) (h0 : I [] ρ)
    (step : ∀ pre m post ρ, ms = pre ++ m :: post → I pre ρ → ∀ (N : TEnv → Prop), (∀ ρ', I (pre ++ [m]) ρ' → N ρ') → g (c m) ρ fun ρ1 => wb ρ1 (E.lp N))
    (fin : ∀ ρ, I ms ρ → E.nx ρ) : wForL g wb (ms.map c) ρ E := for_map c ms I step fin ms [] ρ rfl h0
theorem zipIdx_at {α : Type} {l : List α} {pre post : List (α × Nat)} {m : α × Nat} (h : l.zipIdx = pre ++ m :: post) : m.2 = pre.length ∧ l[pre.length]? = some m.1 := by
  have e : l.zipIdx[pre.length]? = some m := by
    rw [h, List.getElem?_append_right (Nat.le_refl _), Nat.sub_self]; rfl
  rw [List.getElem?_zipIdx] at e
  cases q : l[pre.length]? with
  | none => rw [q] at e; cases e
  | some x =>
    rw [q] at e
    have e := Option.some.inj e
    subst e
    exact ⟨Nat.zero_add _, rfl⟩
end Tr
/-! sorted: of pairs whose first ones are unlike whole numbers. -/
namespace Tr
open PySem PySem.Spec PyProof.Rows L2 SrtO

/-- a pair whose first is a whole number -/
def IsPr (h : Heap) (v : Value) (x : Int) : Prop := ∃ a o t y n, v = .ref a ∧ h.get? a = some o ∧ o.cls = .type "tuple" ∧ o.data = .seq #[.int x t, y] n
theorem IsPr.keeps {h h' : Heap} {v : Value} {x : Int} (p : IsPr h v x) (k : ∀ b o, h.get? b = some o → o.cls = .type "tuple" → h'.get? b = some o) : IsPr h' v x := by
  obtain ⟨a, o, t, u, n, e, ho, hc, hd⟩ := p
  exact ⟨a, o, t, u, n, e, k _ _ ho hc, hc, hd⟩
theorem swo_first (k : Value → Int) : Swo fun v u => decide (k v < k u) := by
  refine ⟨fun x y h => ?_, fun x y z h1 h2 => ?_⟩
  · have a := of_decide_eq_true h
    exact decide_eq_false (by omega)
  · have a := of_decide_eq_false h1
    have b := of_decide_eq_false h2
    exact decide_eq_false (by omega)
theorem swo_firstV (k : V → Int) : Swo fun v u => decide (k v < k u) := by
  refine ⟨fun x y h => ?_, fun x y z h1 h2 => ?_⟩
  · have a := of_decide_eq_true h
    exact decide_eq_false (by omega)
  · have a := of_decide_eq_false h1
    have b := of_decide_eq_false h2
    exact decide_eq_false (by omega)
section
variable {prog : Program} {w : World} {A : Around} {s : Shared}
theorem pr_cmp {vs : List Value} {k : Value → Int} (hp : ∀ v ∈ vs, IsPr s.heap v (k v)) (hi : ∀ v ∈ vs, ∀ u ∈ vs, k v = k u → v = u) : Cmp prog w A s (tuples' true) (fun p => p.1 ∈ vs) (lt2 fun v u => decide (k v < k u)) := by
  intro p q hm hm'
  have h1 := hp _ hm
  have h2 := hp _ hm'
  have h3 := hi _ hm _ hm'
  show wpAny (model prog w) A (keyLt' (tuples' true) p.1 q.1) (fun r s' => s' = s ∧ r = decide (k p.1 < k q.1)) (fun _ _ => False) s
  generalize k p.1 = x at h1 h3 ⊢
  generalize k q.1 = x' at h2 h3 ⊢
  obtain ⟨a, o, t, u, n, e, ho, hc, hd⟩ := h1
  obtain ⟨a', o', t', u', n', e', ho', hc', hd'⟩ := h2
  rw [e, e'] at h3 ⊢
  refine PySem.W.kat_lt ho hd ho' hd' ?_
  show PySem.W.KatLex prog w A true (decide (2 < 2)) _ [(.int x t, .int x' t'), (u, u')] 0 s
  refine PySem.W.kat_cons (SeqAt.EqAt.int_int x t x' t' prog w _ _ ?_)
  refine PySem.W.kat_go (fun e1 => ?_) (fun e1 => ?_)
  · have ex : x = x' := by simpa using e1
    have ea := h3 ex
    cases ea
    rw [ho] at ho'
    cases ho'
    rw [hd] at hd'
    have eu : u = u' := by
      injection hd' with e1 e2
      have e3 := congrArg Array.toList e1
      simp at e3
      exact e3.2
    subst eu
    refine PySem.W.kat_yes (PySem.W.kat_cons (SeqAt.EqAt.same u prog w _ _ ?_))
    refine PySem.W.kat_yes (PySem.W.kat_nil ⟨rfl, ?_⟩)
    rw [ex]
    exact (decide_eq_false (Int.lt_irrefl _)).symm
  · exact PySem.W.kat_no (oneLt_int ⟨rfl, rfl⟩)
theorem prFirsts {h : Heap} : ∀ {vs : List Value}, (∀ v ∈ vs, ∃ x, IsPr h v x) → ∃ fs : List Value, PySem.W.KatTups h vs fs ∧ fs.length = vs.length ∧ ∀ f ∈ fs, ∃ x t, f = Value.int x t
  | [], _ => ⟨[], PySem.W.KatTups.nil, rfl, fun _ hm => by simp at hm⟩
  | v :: vs, hp => by
    obtain ⟨fs, h1, h2, h3⟩ := prFirsts (vs := vs) fun v' hm => hp v' (List.mem_cons_of_mem _ hm)
    obtain ⟨x, a, o, t, y, n, e, ho, hc, hd⟩ := hp v (List.mem_cons_self ..)
    subst e
    refine ⟨.int x t :: fs, PySem.W.KatTups.cons ho hc hd rfl h1, by rw [List.length_cons, List.length_cons, h2], fun f hm => ?_⟩
    rcases List.mem_cons.mp hm with rfl | hm
    · exact ⟨x, t, rfl⟩
    · exact h3 f hm
theorem pr_sortable {a : Addr} {vs : List Value} {k : Value → Int} (h0 : 0 < vs.length) (hp : ∀ v ∈ vs, IsPr s.heap v (k v)) (hi : ∀ v ∈ vs, ∀ u ∈ vs, k v = k u → v = u) (ha : ∀ o, s.heap.get? a = some o → o.cls ≠ .type "tuple") : SortableO prog w A s a vs fun v u => decide (k v < k u) := by
  intro h' keep
  have hp' : ∀ v ∈ vs, IsPr h' v (k v) := fun v hm => (hp v hm).keeps fun b o e c => keep b o (fun z => by subst z; exact ha o e c) e
  obtain ⟨fs, h1, h2, h3⟩ := prFirsts fun v hm => ⟨_, hp' v hm⟩
  refine ⟨tuples' true, fun Q E hq => ?_, pr_cmp hp' hi⟩
  refine PySem.W.kat_kind (T := .type "int") h1 (by omega) (fun f hm => ?_) (by rfl) ?_
  · obtain ⟨x, t, rfl⟩ := h3 f hm
    exact PySem.W.Looks.now
  · have e : (Value.type "int" != Value.type "tuple") = true := by first | decide +kernel | rfl | decide
    rw [e]
    exact hq
theorem sorted_prs {l : Addr} {vs : List Value} {k : Value → Int} {Q : Value → Shared → Prop} {E : Value → Shared → Prop} (hl : s.heap.IsList l vs.toArray) (hz : vs.length ≤ sizeLine) (hp : ∀ v ∈ vs, IsPr s.heap v (k v)) (hi : ∀ v ∈ vs, ∀ u ∈ vs, k v = k u → v = u)
    (h : ∀ (h' : Heap) (d : Addr) (out : List Value), Srtd (fun v u => decide (k v < k u)) out → Stb (fun v u => decide (k v < k u)) out vs → (∀ b o, s.heap.get? b = some o → h'.get? b = some o) → s.heap.objs.size ≤ d → (∃ n, h'.get? d = some (seqObj "list" out.toArray n)) → Q (.ref d) { s with heap := h' }) :
    wpAny (model prog w) A (call (.builtin "sorted") [.ref l]) Q E s := by
  refine sorted_ord (swo_first k) hl hz (fun h2 h₁ a ha kk => ?_) fun out hs hb => ?_
  · refine pr_sortable (s := { s with heap := h₁ }) (by omega) (fun v hm => (hp v hm).keeps fun b o e _ => (kk b o e).2) hi fun o e => ?_
    have e' : some o = some (seqObj "list" vs.toArray 0) := e.symm.trans ha
    cases e'
    intro c
    exact absurd (Value.type.inj c) (by decide)
  · exact h _ _ out hs hb (fun b o e => sortedAll_old e) (Nat.le_succ _) (sortedAll_at s.heap vs out.toArray)
end
theorem perm_lift {α β : Type} (f : α → β) {l k : List β} (h : l.Perm k) : ∀ {m : List α}, k = m.map f → ∃ m' : List α, m'.Perm m ∧ l = m'.map f := by
  induction h with
  | nil => intro m e; exact ⟨[], by rw [List.map_eq_nil_iff.mp e.symm], rfl⟩
  | cons a _ ih =>
    intro m e
    cases m with
    | nil => cases e
    | cons b m =>
      rw [List.map_cons] at e
      obtain ⟨h1, h2⟩ := List.cons.inj e
      subst h1
      obtain ⟨m', p, rfl⟩ := ih h2
      exact ⟨b :: m', p.cons b, rfl⟩
  | swap a b l =>
    intro m e
    cases m with
    | nil => cases e
    | cons c m =>
      cases m with
      | nil => cases e
      | cons d m =>
        rw [List.map_cons, List.map_cons] at e
        obtain ⟨h1, h2⟩ := List.cons.inj e
        obtain ⟨h3, h4⟩ := List.cons.inj h2
        subst h1 h3 h4
        exact ⟨d :: c :: m, List.Perm.swap _ _ _, rfl⟩
  | trans _ _ ih1 ih2 =>
    intro m e
    obtain ⟨m2, p2, e2⟩ := ih2 e
    obtain ⟨m1, p1, e1⟩ := ih1 e2
    exact ⟨m1, p1.trans p2, e1⟩
/-- sorted(xs) of pairs, by their first ones, which are unlike whole numbers -/
def rSortedF (K : PySem.W.Frag) : List V → Hp → VK → Prop := fun vs H Q => ∃ (a : Addr) (l : List (V × D)) (k : D → Int), vs = [V.ref a] ∧ SqL K H a (l.map (·.1)) ∧ (∀ q ∈ l, ∃ t y, q.1 = V.ref t ∧ SqT K H t [.int (k q.2), y]) ∧ (∀ q ∈ l, ∀ r ∈ l, k q.2 = k r.2 → q = r) ∧
  ∀ (m : List (V × D)) p, m.Perm l → m.Pairwise (fun x y => k x.2 ≤ k y.2) → H p = none → Q (.ref p) (upd H p (.lst (m.map (·.1))))
theorem cr_sortedF {X : Cx} : CallR X (.builtin "sorted") (rSortedF X.K) := by
  intro pins s σ H vs us Q I r h
  obtain ⟨a, l, k, rfl, hs, hx, hi, q⟩ := h
  obtain ⟨its, rv, hl, hz⟩ := I.list hs
  obtain ⟨u, rfl, ru⟩ := vals1 r
  obtain rfl : u = Value.ref a := ru
  obtain ⟨e1, e2⟩ := refs_back rv fun x m => by
    obtain ⟨q, hq, rfl⟩ := List.mem_map.mp m
    obtain ⟨t, y, e, _⟩ := hx q hq
    exact ⟨t, e⟩
  -- a thing's number
  let kf : V → Int := fun x => if h : ∃ q, q ∈ l ∧ q.1 = x then k (Classical.choose h).2 else 0
  have kf_at : ∀ q ∈ l, kf q.1 = k q.2 := fun q hq => by
    have h : ∃ r, r ∈ l ∧ r.1 = q.1 := ⟨q, hq, rfl⟩
    have e : kf q.1 = k (Classical.choose h).2 := dif_pos h
    rw [e]
    obtain ⟨hr, er⟩ := Classical.choose_spec h
    generalize Classical.choose h = r at hr er
    obtain ⟨t, y, et, ht⟩ := hx q hq
    obtain ⟨t', y', et', ht'⟩ := hx r hr
    rw [er, et] at et'
    cases et'
    have e2 := I.tuple_inj ht ht'
    injection e2 with e3 _
    injection e3 with e4
    exact e4.symm
  have inx : ∀ t, Value.ref t ∈ its → ∃ q ∈ l, q.1 = V.ref t := fun t hv => by
    have : V.ref t ∈ l.map (·.1) := by rw [e1]; exact List.mem_map.mpr ⟨_, hv, rfl⟩
    exact List.mem_map.mp this
  refine sorted_prs (k := fun u => kf (backV u)) hl.isList (by rw [← rv.length]; exact hz) (fun v hv => ?_) (fun v hv u hu e => ?_) fun h' d out h1 h2 kp hd hn => ?_
  · obtain ⟨t, rfl⟩ := e2 v hv
    obtain ⟨q, hq, eq⟩ := inx t hv
    obtain ⟨t', y, e, ht⟩ := hx q hq
    rw [eq] at e
    cases e
    obtain ⟨its2, r2, ⟨o, ho, hc, n, hd⟩, _⟩ := I.tuple ht
    obtain ⟨u1, u2, rfl, ri, rj⟩ := vals2 r2
    obtain ⟨t1, rfl⟩ := ri
    refine ⟨t, o, t1, u2, n, rfl, ho, hc, ?_⟩
    have e : kf (backV (Value.ref t)) = k q.2 := by
      show kf (V.ref t) = _
      rw [← eq]; exact kf_at q hq
    rw [e]
    exact hd
  · obtain ⟨t, rfl⟩ := e2 v hv
    obtain ⟨t', rfl⟩ := e2 u hu
    obtain ⟨q, hq, eq⟩ := inx t hv
    obtain ⟨r, hr, er⟩ := inx t' hu
    have e : kf (V.ref t) = kf (V.ref t') := e
    rw [← eq, ← er, kf_at q hq, kf_at r hr] at e
    have := hi q hq r hr e
    rw [this, er] at eq
    cases eq
    rfl
  · have h3 : ∀ u ∈ out, ∃ a, u = Value.ref a := fun u hu => e2 u (h2.perm.mem_iff.mp hu)
    obtain ⟨n, hn⟩ := hn
    have hb : Stb (fun v u => decide (kf v < kf u)) (out.map backV) (l.map (·.1)) := by
      rw [e1]
      exact Stb.map (swo_firstV kf) backV h2
    obtain ⟨m, pm, em⟩ := perm_lift (fun q : V × D => q.1) hb.perm rfl
    refine ⟨.ref d, upd H d (.lst (out.map backV)), I.laid (t' := s.toks) kp hd ⟨?_, out, n, vals_back h3, hn⟩, rfl, ?_⟩
    · rw [hb.len]
      exact hz
    · rw [em]
      refine q m d pm ?_ (I.hok.fresh hd)
      have hs2 : (out.map backV).Pairwise (fun (x y : V) => kf x ≤ kf y) := by
        rw [List.pairwise_map]
        refine List.Pairwise.imp (fun {x y} e => ?_) h1
        have := of_decide_eq_false e
        omega
      rw [em, List.pairwise_map (f := fun q : V × D => q.1)] at hs2
      refine List.Pairwise.imp_of_mem (fun {x y : V × D} hx hy h => ?_) hs2
      rwa [kf_at x (pm.mem_iff.mp hx), kf_at y (pm.mem_iff.mp hy)] at h
theorem nodup_inj {α : Type} : ∀ {l : List α}, l.Nodup → ∀ {i j : Nat} (hi : i < l.length) (hj : j < l.length), l[i] = l[j] → i = j
  | [], _, _, _, hi, _, _ => absurd hi (Nat.not_lt_zero _)
  | x :: l, _, 0, 0, _, _, _ => rfl
  | x :: l, h, 0, j + 1, _, hj, e => by
    have := (List.nodup_cons.mp h).1
    exact absurd (show x ∈ l from (show x = l[j]'(by simpa using hj) from e) ▸ List.getElem_mem _) this
  | x :: l, h, i + 1, 0, hi, _, e => by
    have := (List.nodup_cons.mp h).1
    exact absurd (show x ∈ l from (show l[i]'(by simpa using hi) = x from e) ▸ List.getElem_mem _) this
  | x :: l, h, i + 1, j + 1, hi, hj, e => congrArg (· + 1) (nodup_inj (List.nodup_cons.mp h).2 (by simpa using hi) (by simpa using hj) e)
/-- a pair's first -/
def D.fst : D → Int
  | .tup (.int i :: _) => i
  | _ => 0
def semSortF (d : D) (P : O → Prop) : Prop := match d with
  | .lst ds => (∀ d ∈ ds, ∃ i e, d = .tup [.int i, e]) ∧ (ds.map D.fst).Nodup ∧ ∀ a (es : List D), es.Perm ds → es.Pairwise (fun x y => x.fst ≤ y.fst) → P (.lst a (es.map .fz))
  | _ => False
theorem sem_sortF {K : PySem.W.Frag} : SemO1 K (rSortedF K) semSortF := by
  intro F H x d P Q sb rx hs k
  unfold semSortF at hs
  split at hs
  · rename_i ds
    obtain ⟨h1, h2, h3⟩ := hs
    cases rx with
    | @lst a xs _ ha z r =>
      have e1 : (xs.zip ds).map (·.1) = xs := by rw [List.map_fst_zip]; rw [r.length]; exact Nat.le_refl _
      have e2 : (xs.zip ds).map (·.2) = ds := by rw [List.map_snd_zip]; rw [r.length]; exact Nat.le_refl _
      have rep : ∀ q ∈ xs.zip ds, Rep K F q.1 q.2 := fun q hq => by
        obtain ⟨j, hj, e⟩ := List.getElem_of_mem hq
        have hj2 : j < ds.length := by rw [List.length_zip] at hj; omega
        have hj1 : j < xs.length := by rw [List.length_zip] at hj; omega
        obtain ⟨v, hv, rv⟩ := r.get (List.getElem?_eq_getElem hj2)
        rw [List.getElem?_eq_getElem hj1] at hv
        cases hv
        rw [← e, List.getElem_zip]
        exact rv
      refine ⟨a, xs.zip ds, D.fst, rfl, ?_, fun q hq => ?_, fun q hq q' hq' e => ?_, fun m p pm ps hp => ?_⟩
      · rw [e1]; exact .inl (.inl (sb.lst ha))
      · have hd : q.2 ∈ ds := (List.of_mem_zip (a := q.1) (b := q.2) hq).2
        obtain ⟨i, e, ed⟩ := h1 _ hd
        have rq := rep q hq
        rw [ed] at rq ⊢
        revert rq
        generalize q.1 = v
        intro rq
        cases rq with
        | tup ht _ rl =>
          cases rl with
          | cons ra rb =>
          cases rb with
          | cons rb rc =>
          cases rc
          cases ra
          exact ⟨_, _, rfl, sb.sqT ht⟩
      · -- unlike numbers, so one place
        obtain ⟨j, hj, ej⟩ := List.getElem_of_mem hq
        obtain ⟨j', hj', ej'⟩ := List.getElem_of_mem hq'
        have lz : (xs.zip ds).length = ds.length := by rw [List.length_zip, r.length, Nat.min_self]
        have f1 : (ds.map D.fst)[j]'(by rw [List.length_map]; omega) = q.2.fst := by
          rw [List.getElem_map]
          have : (xs.zip ds)[j].2 = ds[j]'(by omega) := by rw [List.getElem_zip]
          rw [← this, ej]
        have f2 : (ds.map D.fst)[j']'(by rw [List.length_map]; omega) = q'.2.fst := by
          rw [List.getElem_map]
          have : (xs.zip ds)[j'].2 = ds[j']'(by omega) := by rw [List.getElem_zip]
          rw [← this, ej']
        have : j = j' := nodup_inj h2 _ _ (f1.trans (e.trans f2.symm))
        subst this
        exact ej.symm.trans ej'
      · have pm2 : (m.map (·.2)).Perm ds := by
          have := pm.map (·.2)
          rwa [e2] at this
        have rl : RepL K F (m.map (·.1)) (m.map (·.2)) := by
          have hm : ∀ q ∈ m, Rep K F q.1 q.2 := fun q hq => rep q (pm.mem_iff.mp hq)
          clear pm ps pm2
          induction m with
          | nil => exact .nil
          | cons q m ih => exact .cons (hm q List.mem_cons_self) (ih fun q hq => hm q (List.mem_cons_of_mem _ hq))
        exact k _ _ _ _ (h3 p _ pm2 (List.pairwise_map.mpr ps)) (Res.lst hp (by rw [pm2.length_eq]; exact z) rl)
  · exact hs.elim
end Tr
/-! x.remove(y), any data. -/
namespace Tr
open PySem PySem.MeetsSeq PySem.SeqAt
open AutoSeq1 (wpAny_loadPart')
theorem rem_loopAt (l : Addr) (items : Array Value) (n : Nat) (x : Value) (e : Nat → Bool) (j : Nat) (hj : j < items.size) (hit : e j = true) (k : Nat) (hs1 : items.size ≤ sizeLine) :
    ∀ i : Nat, j - i = k → i ≤ j → (∀ m (hm : m < items.size), i ≤ m → m < j → e m = false) → Meets (Builtin.«list.remove.loop» ⟨[.ref l, x, rawInt i], []⟩)
      (fun A R s => s.heap.get? l = some { cls := .type "list", dict := none, data := .seq items n, slots := #[] } ∧ (∀ m (hm : m < items.size), m ≤ j → EqAt A.in1 s items[m] x (e m)) ∧ R (.ok (.ret .none)) { s with heap := s.heap.update l (Obj.mapSeq fun xs => xs.eraseIdxIfInBounds j) }) := by
  induction k with
  | zero =>
    intro i hk hij hno prog w A R s h
    obtain ⟨hp, g, d, tk, os⟩ := s; obtain ⟨hl, he, h⟩ := h
    have hij' : i = j := by omega
    subst hij'
    wp_walk using wpAny_loadPart' hl
    have hi : items[((i : Nat) : Int).toNat]? = some items[i] := by simp [hj]
    rw [hi]
    refine wpAny_bind (he i hj (Nat.le_refl _) prog w _ _ ?_)
    rw [hit]
    have hz' : (items.eraseIdxIfInBounds i).size ≤ sizeLine + 1 := Nat.le_trans (size_erased items _) (Nat.le_succ_of_le hs1)
    wp_walk using (wpAny_updateSeq hl rfl (hz := hs1) (_hz' := hz')), wpAny_loadPart' hl
    simpa using h
  | succ k ih =>
    intro i hk hij hno prog w A R s h
    obtain ⟨hp, g, d, tk, os⟩ := s; obtain ⟨hl, he, h⟩ := h
    have hlt : i < items.size := by omega
    wp_walk using wpAny_loadPart' hl
    have hi : items[((i : Nat) : Int).toNat]? = some items[i] := by simp [hlt]
    have hc : ((i : Int) + 1) = ((i + 1 : Nat) : Int) := by push_cast; rfl
    rw [hi]
    refine wpAny_bind (he i hlt hij prog w _ _ ?_)
    rw [hno i hlt (Nat.le_refl _) (by omega)]
    wp_walk
    rw [hc]
    exact ⟨plainId_quiet plain_remove_loop _, codeAny_builtin entry_remove_loop (by
      rw [Around.under_plainId plain_remove_loop _]
      exact ih (i + 1) (by omega) (by omega) (fun m hm h1 h2 => hno m hm (by omega) h2) prog w A R _ ⟨hl, he, h⟩)⟩
theorem rem_listAt (l : Addr) (items : Array Value) (n : Nat) (x : Value) (e : Nat → Bool) (j : Nat) (hj : j < items.size)
    (hit : e j = true) (hno : ∀ m (hm : m < items.size), m < j → e m = false) (hs1 : items.size ≤ sizeLine) :
    Meets (Builtin.«list.remove» ⟨[.ref l, x], []⟩)
      (fun A R s => s.heap.get? l = some { cls := .type "list", dict := none, data := .seq items n, slots := #[] } ∧ (∀ m (hm : m < items.size), m ≤ j → EqAt A.in1 s items[m] x (e m)) ∧ R (.ok (.ret .none)) { s with heap := s.heap.update l (Obj.mapSeq fun xs => xs.eraseIdxIfInBounds j) }) := by
  intro prog w A R s h
  obtain ⟨hp, g, d, tk, os⟩ := s; obtain ⟨hl, he, h⟩ := h
  wp_walk using wpAny_loadPart' hl
  exact ⟨plainId_quiet plain_remove_loop _, codeAny_builtin entry_remove_loop (by
    rw [Around.under_plainId plain_remove_loop _]
    exact rem_loopAt l items n x e j hj hit _ hs1 0 rfl (Nat.zero_le _) (fun m hm _ h2 => hno m hm h2) prog w A R _ ⟨hl, he, h⟩)⟩
end Tr
namespace Tr
open PySem PySem.Spec PyProof.Rows L2
/-- o.remove(e): the first that is equal -/
def tRemD (K : PySem.W.Frag) (to te : TE) : TE := fun σ H Q => to σ H fun x H1 => tyV K "list" x H1 ∧ te σ H1 fun y H2 => ∃ (l : Addr) (xs : List V) (j : Nat) (F : Hp) (d : D), x = .ref l ∧ H2 l = some (.lst xs) ∧ Sb F H2 ∧ Rep K F y d ∧ j < xs.length ∧
  (∀ m v, m ≤ j → xs[m]? = some v → ∃ u, Rep K F v u ∧ deq 58 u d = some (decide (m = j))) ∧ Q .non (upd H2 l (.lst (xs.eraseIdx j)))
theorem pe_remD {X : Cx} {o e : Expr} {to te : TE} {apos cpos : Pos} (hu : X.A.units + 64 < cLine) (ho : PE X o to) (he : PE X e te) (hbase : attributeBase o "remove" X.env (eval o X.env) = eval o X.env := by rfl)
    (hfew : ((backTo cpos (starEach [e] X.env)).all (fun x => !x.1) && (backToKw cpos (keywordEach [] X.env)).all (fun x => x.1.isSome)
      && decide (([e] : List Expr).length + ([] : List Keyword).length + (if ([] : List Keyword).isEmpty then 0 else 1) < 30)) = true := by rfl)
    (hline : (apos.endLine == cpos.line) = true := by rfl) (hs : starEach [e] X.env = (false, eval e X.env) :: starEach [] X.env := by rfl) (hplain : (backTo cpos (starEach [] X.env)).any (·.1) = false := by rfl) :
    PE X (.Call (.Attribute o "remove" apos) [e] [] cpos) (tRemD X.K to te) := by
  refine ⟨fun pins s σ H Q I h => ?_⟩
  refine wpAny_Call_method_late hbase hfew hline rfl (thn (ho.run pins s σ H _ I h) fun v s1 ⟨x, H1, I1, r1, ty, q1⟩ => ?_)
  obtain ⟨h1, h2⟩ := tyV_is I1 r1 ty
  refine ⟨"list", _, PySem.F.plainAttrs_list, PySem.F.slot_list_remove, PySem.F.type_list_remove, h1, h2, ?_⟩
  rw [hs]
  refine Calls.callWith_builtin (by show (false || (backTo cpos (starEach [] X.env)).any (·.1)) = false; rw [hplain] <;> rfl) (Calls.evalArgs_plain ?_)
  show wpAny _ _ (spliced ((false, eval e X.env) :: backTo cpos (starEach [] X.env))) _ _ s1
  refine Calls.spliced_cons (thn (he.run pins s1 σ H1 _ I1 q1) fun u s2 ⟨y, H2, I2, ry, q2⟩ => ?_)
  refine Calls.spliced_nil ?_
  obtain ⟨l, xs, j, F, d, ex, hH, sb, rd, hj, heq, qy⟩ := q2
  subst ex
  cases (show v = Value.ref l from r1)
  obtain ⟨z, its, n, r, hl, e0⟩ := I2.lstM hH
  have hj2 : j < its.length := by rw [← r.length]; exact hj
  refine call_meets PySem.F.slot_list_remove ⟨_, e0, rfl⟩ PySem.F.entry_list_remove (PySem.F.args_list_remove_2 _ _)
    (rem_listAt l its.toArray n u (fun m => decide (m = j)) j (by rw [List.size_toArray]; exact hj2) (by simp) (fun m hm hlt => decide_eq_false (by omega)) (by rw [List.size_toArray, ← r.length]; exact z)) ⟨e0, fun m hm hmj => ?_, ?_⟩
  · have hm2 : m < its.length := hm
    obtain ⟨w, hw, rw'⟩ := Vals.at' r (List.getElem?_eq_getElem hm2)
    obtain ⟨t, rt, ht⟩ := heq m w hmj hw
    refine deq_eqAt I2 sb 58 _ ?_ _ _ _ _ _ _ _ rt rd rw' ry ht
    first
      | omega
      | (show X.A.units + 1 + 58 < cLine; omega)
      | (show X.A.units + 2 + 58 < cLine; omega)
  · have r2 : Vals (xs.eraseIdx j) (its.eraseIdx j) := r.eraseIdx j
    refine ⟨.non, _, I2.lset (its' := its.eraseIdx j) hH e0 ?_ r2 ?_, rfl, qy⟩
    · show its.toArray.eraseIdxIfInBounds j = (its.eraseIdx j).toArray
      rw [List.eraseIdxIfInBounds_toArray]
    · exact Nat.le_trans (by rw [List.length_eraseIdx]; split <;> omega) z
/-- xs.remove(e); the list's items are data -/
def wRem (i : Nat) (w : WD) : WS := fun ρ E => match nth ρ i with
  | some (.lst _ _) => w ρ fun d ρ1 => match nth ρ1 i with
    | some (.lst a os) => ∃ (us : List D) (j : Nat), os = us.map .fz ∧ j < us.length ∧ (∀ m u, m ≤ j → us[m]? = some u → deq 58 u d = some (decide (m = j))) ∧ putC ρ1 i (some (.lst a ((us.eraseIdx j).map .fz))) E.nx
    | _ => False
  | _ => False
theorem RepL.eraseIdx {K : PySem.W.Frag} {F : Hp} : ∀ {us : List D} {vs : List V} (j : Nat), RepL K F vs us → RepL K F (vs.eraseIdx j) (us.eraseIdx j)
  | [], _, _, .nil => .nil
  | _ :: _, _, 0, .cons _ r => r
  | _ :: _, _, j + 1, .cons h r => .cons h (RepL.eraseIdx j r)
theorem xs_rem {X : Cx} {o e : Expr} {apos cpos pos : Pos} {i : Nat} {w : WD} (hu : X.A.units + 64 < cLine) (ho : PE X o (tVar i)) (he : XE X e w) (hbase : attributeBase o "remove" X.env (eval o X.env) = eval o X.env := by rfl)
    (hfew : ((backTo cpos (starEach [e] X.env)).all (fun x => !x.1) && (backToKw cpos (keywordEach [] X.env)).all (fun x => x.1.isSome)
      && decide (([e] : List Expr).length + ([] : List Keyword).length + (if ([] : List Keyword).isEmpty then 0 else 1) < 30)) = true := by rfl)
    (hline : (apos.endLine == cpos.line) = true := by rfl) (hst : starEach [e] X.env = (false, eval e X.env) :: starEach [] X.env := by rfl) (hplain : (backTo cpos (starEach [] X.env)).any (·.1) = false := by rfl)
    (hs : swapsWith (.Call (.Attribute o "remove" apos) [e] [] cpos) none pos.line X.env = pure false := by rfl) : XS X (.Expr (.Call (.Attribute o "remove" apos) [e] [] cpos) pos) (wRem i w) :=
  ⟨fun W tk => PS.imp (ps_expr (pe_remD hu ho he.pe hbase hfew hline hst hplain) hs) fun D σ H ⟨ρ, F, E, s, hw, k⟩ => by
    unfold wRem at hw
    cases hn0 : nth ρ i with
    | none => rw [hn0] at hw; exact hw.elim
    | some o0 =>
    rw [hn0] at hw
    cases o0 <;> first
      | (exact hw.elim)
      | skip
    rename_i a0 os0
    obtain ⟨v0, hv0, r0⟩ := s.slot i _ (nth_eq hn0)
    cases r0 with
    | lst h0 _ _ =>
    refine ⟨_, hv0, .inl ⟨rfl, _, .inl (.inl h0)⟩, ρ, F, _, s, hw, fun d ρ1 F1 H1 y p s1 rd f1 => ?_⟩
    cases hn : nth ρ1 i with
    | none => rw [hn] at p; exact p.elim
    | some o1 =>
    rw [hn] at p
    cases o1 <;> first
      | (exact p.elim)
      | skip
    rename_i a os
    obtain ⟨us, j, rfl, hj, heq, p2⟩ := p
    obtain ⟨hv, ⟨xs, hx⟩, s2, m2⟩ := (s1.pushD rd).atSlot (nth_eq hn)
    rw [hv0] at hv
    cases hv
    have q := s2.pop.top
    cases q with
    | @lst _ xs' _ hx' z r =>
    rw [hx] at hx'
    cases hx'
    have rl := RepOL.data r
    have z2 : us.length ≤ sizeLine := by rwa [List.length_map] at z
    obtain ⟨s3, f3⟩ := s2.mutL (os' := (us.eraseIdx j).map O.fz) (RepOL.of (RepL.eraseIdx j rl)) (by rw [List.length_map]; exact Nat.le_trans (by rw [List.length_eraseIdx]; split <;> omega) z2) (fun b hb => by rw [O.ownedL_map] at hb; cases hb) (by rw [O.ownedL_map]; exact List.nodup_nil)
    refine ⟨_, xs, j, F1, d, rfl, hx, s1.sub, rd, by rw [rl.length]; exact hj, fun m v hm hv => ?_, ?_⟩
    · obtain ⟨u, hu, ru⟩ := rl.get' hv
      exact ⟨u, ru, heq m u hm hu⟩
    · obtain ⟨s4, m4⟩ := s3.set (i := i) hv0
      rw [List.set_set] at s4 m4
      rw [putC_eq] at p2
      exact k.nx _ _ _ _ p2 s4 (f1.trans ((f3.iff (fun b => (m2 b).symm) fun b hb => hb).less m4))⟩
end Tr
/-! targets that change a held list: x[i], y = e. -/
namespace Tr
open PySem PySem.Spec PyProof.Rows L2
def liftH (K : PySem.W.Frag) (g : WG) : TG := fun v σ H Q => ∃ ρ F d P, SR K ρ σ F H ∧ Rep K F v d ∧ g d ρ P ∧ ∀ ρ' F' σ' H', P ρ' → SR K ρ' σ' F' H' → Frm (ownedE ρ) F H (ownedE ρ') F' H' → Q σ' H'
def liftHs (K : PySem.W.Frag) (g : WGs) : TGs := fun vs σ H Q => ∃ ρ F ds P, SR K ρ σ F H ∧ RepL K F vs ds ∧ g ds ρ P ∧ ∀ ρ' F' σ' H', P ρ' → SR K ρ' σ' F' H' → Frm (ownedE ρ) F H (ownedE ρ') F' H' → Q σ' H'
structure XH (X : Cx) (e : Expr) (g : WG) : Prop where
  pg : PG X e (liftH X.K g)
structure XHs (X : Cx) (es : List Expr) (g : WGs) : Prop where
  pgs : PGs X es (liftHs X.K g)
/-- x[i] = .. -/
def gIx (k : Nat) (wi : WD) : WG := fun d ρ P => match nth ρ k with
  | some (.lst _ _) => wi ρ fun e ρ1 => match nth ρ1 k with
    | some (.lst a os) => ∃ n j, e = .int n ∧ ixN os.length n = some j ∧ putC ρ1 k (some (.lst a (os.set j (.fz d)))) P
    | _ => False
  | _ => False
section
variable {X : Cx} {e o i : Expr} {es : List Expr} {g : WG} {gs : WGs} {wi : WD} {pos : Pos} {k : Nat}
theorem xh_of {ix : List Nat} (h : XG X e ix g) : XH X e g := ⟨PG.imp h.pg fun v σ H Q ⟨ρ, F, d, P, s, r, hw, kk⟩ =>
  ⟨ρ, F, d, P, s, r, hw, fun ρ' σ' p s' t => kk ρ' F σ' H p s' (Frm.refl.less t.mem)⟩⟩
theorem xhs_nil : XHs X [] gsNil := ⟨PGs.imp pgs_nil fun vs σ H Q ⟨ρ, F, ds, P, s, r, hw, kk⟩ => by
  cases ds with
  | nil =>
    cases r
    exact ⟨rfl, kk _ _ _ _ hw s .refl⟩
  | cons d ds => exact hw.elim⟩
theorem xhs_cons (h1 : XH X e g) (h2 : XHs X es gs) (hs : (assignEach (e :: es) X.env).map (·.2) = assign e X.env :: (assignEach es X.env).map (·.2) := by rfl) : XHs X (e :: es) (gsCons g gs) := ⟨PGs.imp (pgs_cons h1.pg h2.pgs hs) fun vs σ H Q ⟨ρ, F, ds, P, s, r, hw, kk⟩ => by
  cases ds with
  | nil => exact hw.elim
  | cons d ds =>
    cases r with
    | cons rd rr =>
    refine ⟨_, _, rfl, ρ, F, d, _, s, rd, hw, fun ρ1 F1 σ1 H1 p s1 f1 => ?_⟩
    exact ⟨ρ1, F1, ds, P, s1, rr.mono f1.fz, p, fun ρ2 F2 σ2 H2 p2 s2 f2 => kk _ _ _ _ p2 s2 (f1.trans f2)⟩⟩
theorem xh_tup {n : Nat} {kp : Nat} (hc : X.calm = true) (h : XHs X es gs) (hn : (assignEach es X.env).length = n := by rfl) (hst : (assignEach es X.env).findIdx? (·.1) = none := by rfl) : XH X (.Tuple es kp pos) (gT n gs) :=
  ⟨PG.imp (pg_tup hc h.pgs hn hst) fun v σ H Q ⟨ρ, F, d, P, s, r, hw, kk⟩ => by
    cases r <;> first
      | (exact hw.elim)
      | skip
    rename_i h1 z rl _
    exact ⟨_, _, rfl, s.sub.sqT h1, rl.length.trans hw.1, ρ, F, _, P, s, rl, hw.2, kk⟩⟩
theorem xh_ix (ho : PE X o (tVar k)) (hi : XE X i wi)
    (ha : ∀ v, assign (.Subscript o i pos) X.env v = (do
      let ov ← holding [v] (eval o X.env)
      let iv ← holding [v, ov] (eval i X.env)
      standAt pos
      holding [v, ov, iv] (setItem ov iv v)
      release [v, ov, iv] []) := by intro _; rfl) : XH X (.Subscript o i pos) (gIx k wi) := ⟨PG.imp (pg_sub ho hi.pe set_list ha) fun v σ H Q ⟨ρ, F, d, P, s, r, hw, kk⟩ => by
  unfold gIx at hw
  cases hn0 : nth ρ k with
  | none => rw [hn0] at hw; exact hw.elim
  | some o0 =>
  rw [hn0] at hw
  cases o0 <;> first
    | (exact hw.elim)
    | skip
  obtain ⟨v0, hv0, r0⟩ := s.slot k _ (nth_eq hn0)
  refine ⟨_, hv0, ρ, F, _, s, hw, fun e ρ2 F2 H2 u p2 s2 r2 f2 => ?_⟩
  cases hn : nth ρ2 k with
  | none => rw [hn] at p2; exact p2.elim
  | some o1 =>
  rw [hn] at p2
  cases o1 <;> first
    | (exact p2.elim)
    | skip
  rename_i a os
  obtain ⟨n, j, rfl, hj, p3⟩ := p2
  cases r2
  obtain ⟨hv, ⟨xs, hx⟩, s4, m4⟩ := (s2.pushD (r.mono f2.fz)).atSlot (nth_eq hn)
  rw [hv0] at hv
  cases hv
  have q := s4.pop.top
  cases q with
  | lst hx' z rl =>
  rw [hx] at hx'
  cases hx'
  have n1 := List.nodup_append.mp s4.nd
  have n2 := List.nodup_append.mp n1.2.1
  obtain ⟨w1, w2⟩ := ownedL_set (o := .fz d) os j
  obtain ⟨s5, f5⟩ := s4.mutL (rl.setAt s4.top j) (by rw [List.length_set]; exact z) w1 (w2 (List.nodup_append.mpr ⟨n1.1, (List.nodup_cons.mp n2.1).2, fun b hb c hc => n1.2.2 b hb c (List.mem_append_left _ (List.mem_cons_of_mem _ hc))⟩))
  refine ⟨a, xs, n, j, rfl, rfl, hx, by rw [rl.length]; exact hj, ?_⟩
  obtain ⟨s6, m6⟩ := s5.set (i := k) hv0
  rw [List.set_set] at s6 m6
  rw [putC_eq] at p3
  exact kk _ _ _ _ p3 s6 (f2.trans ((f5.iff (fun b => (m4 b).symm) fun b hb => hb).less m6))⟩
theorem xs_asgH {st : Stmt} {w : WD} (h : PS X st (tAsg (liftD X.K w) (liftH X.K g))) : XS X st (wAsg g w) := ⟨fun W tk => PS.imp h fun D σ H ⟨ρ, F, E, s, hw, k⟩ =>
  ⟨ρ, F, _, s, hw, fun d ρ' F' H' v p s' r f => ⟨ρ', F', d, _, s', r, p, fun ρ2 F2 σ2 H2 p2 s2 f2 => k.nx _ _ _ _ p2 s2 (f.trans f2)⟩⟩⟩
end
end Tr
/-! dicts: stores, keys, displays. -/
namespace Tr
open PySem PySem.Spec PyProof.Rows L2
section
variable {κ : Type} [DecidableEq κ]
def getG (kvs : List (κ × D)) (k : κ) : Option D := (kvs.find? fun kv => decide (kv.1 = k)).map (·.2)
def putG (kvs : List (κ × D)) (k : κ) (v : D) : List (κ × D) :=
  if (kvs.any fun kv => decide (kv.1 = k)) = true then kvs.map (fun kv => if kv.1 = k then (kv.1, v) else kv) else kvs ++ [(k, v)]
theorem getG_pos {p : κ × D} {r : List (κ × D)} {k : κ} (e : p.1 = k) : getG (p :: r) k = some p.2 := by simp [getG, List.find?_cons, e]
theorem getG_neg {p : κ × D} {r : List (κ × D)} {k : κ} (e : ¬ p.1 = k) : getG (p :: r) k = getG r k := by simp [getG, List.find?_cons, e]
theorem length_putG (kvs : List (κ × D)) (k : κ) (v : D) : (putG kvs k v).length ≤ kvs.length + 1 := by
  unfold putG
  split
  · rw [List.length_map]; omega
  · rw [List.length_append]; exact Nat.le_refl _
end
def D.key : D → Option Key
  | .int i => some (.inl i)
  | .str x => some (.inr x)
  | _ => none
def D.keyL : List D → Option (List Key)
  | [] => some []
  | d :: ds => match d.key, D.keyL ds with
    | some k, some ks => some (k :: ks)
    | _, _ => none
def D.keys : D → Option (List Key)
  | .tup ds => D.keyL ds
  | _ => none
section
variable {K : PySem.W.Frag} {F H : Hp}
theorem Rep.key {v : V} {d : D} {k : Key} (r : Rep K F v d) (h : d.key = some k) : v = kV k ∧ KOk k ∧ d = kD k := by
  cases r <;> first
    | (cases h; done)
    | skip
  · cases h; exact ⟨rfl, True.intro, rfl⟩
  · rename_i z; cases h; exact ⟨rfl, z, rfl⟩
theorem RepL.keyL : ∀ {vs : List V} {ds : List D} {ks : List Key}, RepL K F vs ds → D.keyL ds = some ks → vs = ks.map kV ∧ (∀ j ∈ ks, KOk j) ∧ ks.length = ds.length
  | _, _, ks, .nil, h => by cases h; exact ⟨rfl, fun _ h => (by cases h), rfl⟩
  | _, _, ks, .cons (v := v) (d := d) (ds := ds) rv r, h => by
    unfold D.keyL at h
    cases h1 : d.key with
    | none => rw [h1] at h; cases h
    | some k =>
      cases h2 : D.keyL ds with
      | none => rw [h1, h2] at h; cases h
      | some ks' =>
        rw [h1, h2] at h
        cases h
        obtain ⟨e1, o1, _⟩ := rv.key h1
        obtain ⟨e2, o2, l2⟩ := RepL.keyL r h2
        refine ⟨by rw [e1, e2]; rfl, fun j hj => ?_, congrArg (· + 1) l2⟩
        rcases List.mem_cons.mp hj with q | q
        · rw [q]; exact o1
        · exact o2 j q
theorem Rep.keys {v : V} {d : D} {ks : List Key} (r : Rep K F v d) (h : d.keys = some ks) : ∃ b, v = .ref b ∧ F b = some (.tup (ks.map kV)) ∧ KsOk ks := by
  cases r <;> first
    | (cases h; done)
    | skip
  rename_i a xs ds hF z rl
  obtain ⟨e, o, l⟩ := rl.keyL h
  exact ⟨a, rfl, by rw [← e]; exact hF, by rw [l]; exact z, o⟩
theorem RepK.get : ∀ {es : List (Key × V)} {kvs : List (Key × D)} (k : Key), RepK K F es kvs → (valV es k = none ∧ getG kvs k = none) ∨ ∃ v d, valV es k = some v ∧ getG kvs k = some d ∧ Rep K F v d
  | _, _, k, .nil => .inl ⟨rfl, rfl⟩
  | _, _, k, .cons (k := j) (v := v) (d := d) q h r => by
    by_cases e : j = k
    · refine .inr ⟨v, d, valV_pos e, ?_, h⟩
      simp [getG, List.find?_cons, e]
    · rw [valV_neg e, getG_neg e]
      exact RepK.get k r
theorem RepT.get : ∀ {es : List (List Key × V)} {kvs : List (List Key × D)} (k : List Key), RepT K F es kvs → (valV es k = none ∧ getG kvs k = none) ∨ ∃ v d, valV es k = some v ∧ getG kvs k = some d ∧ Rep K F v d
  | _, _, k, .nil => .inl ⟨rfl, rfl⟩
  | _, _, k, .cons (k := j) (v := v) (d := d) q h r => by
    by_cases e : j = k
    · refine .inr ⟨v, d, valV_pos e, ?_, h⟩
      simp [getG, List.find?_cons, e]
    · rw [valV_neg e, getG_neg e]
      exact RepT.get k r
theorem RepK.isSome {es : List (Key × V)} {kvs : List (Key × D)} (r : RepK K F es kvs) (k : Key) : (valV es k).isSome = (getG kvs k).isSome := by
  rcases r.get k with ⟨e1, e2⟩ | ⟨v, d, e1, e2, _⟩ <;> rw [e1, e2] <;> rfl
theorem RepT.isSome {es : List (List Key × V)} {kvs : List (List Key × D)} (r : RepT K F es kvs) (k : List Key) : (valV es k).isSome = (getG kvs k).isSome := by
  rcases r.get k with ⟨e1, e2⟩ | ⟨v, d, e1, e2, _⟩ <;> rw [e1, e2] <;> rfl
theorem RepK.any : ∀ {es : List (Key × V)} {kvs : List (Key × D)} (k : Key), RepK K F es kvs → (es.any fun kv => decide (kv.1 = k)) = kvs.any fun kv => decide (kv.1 = k)
  | _, _, k, .nil => rfl
  | _, _, k, .cons _ _ r => by
    rw [List.any_cons, List.any_cons, RepK.any k r]
theorem RepT.any : ∀ {es : List (List Key × V)} {kvs : List (List Key × D)} (k : List Key), RepT K F es kvs → (es.any fun kv => decide (kv.1 = k)) = kvs.any fun kv => decide (kv.1 = k)
  | _, _, k, .nil => rfl
  | _, _, k, .cons _ _ r => by
    rw [List.any_cons, List.any_cons, RepT.any k r]
theorem RepK.repl {k : Key} {v : V} {d : D} (rv : Rep K F v d) : ∀ {es : List (Key × V)} {kvs : List (Key × D)}, RepK K F es kvs → RepK K F (es.map fun kv => if kv.1 = k then (kv.1, v) else kv) (kvs.map fun kv => if kv.1 = k then (kv.1, d) else kv)
  | _, _, .nil => .nil
  | _, _, .cons (k := j) q h r => by
    rw [List.map_cons, List.map_cons]
    by_cases e : j = k
    · simp only [e, if_true]; exact .cons (e ▸ q) rv (RepK.repl rv r)
    · simp only [e, if_false]; exact .cons q h (RepK.repl rv r)
theorem RepT.repl {k : List Key} {v : V} {d : D} (rv : Rep K F v d) : ∀ {es : List (List Key × V)} {kvs : List (List Key × D)}, RepT K F es kvs → RepT K F (es.map fun kv => if kv.1 = k then (kv.1, v) else kv) (kvs.map fun kv => if kv.1 = k then (kv.1, d) else kv)
  | _, _, .nil => .nil
  | _, _, .cons (k := j) q h r => by
    rw [List.map_cons, List.map_cons]
    by_cases e : j = k
    · simp only [e, if_true]; exact .cons (e ▸ q) rv (RepT.repl rv r)
    · simp only [e, if_false]; exact .cons q h (RepT.repl rv r)
theorem RepK.snoc {k : Key} {v : V} {d : D} (qk : KOk k) (rv : Rep K F v d) : ∀ {es : List (Key × V)} {kvs : List (Key × D)}, RepK K F es kvs → RepK K F (es ++ [(k, v)]) (kvs ++ [(k, d)])
  | _, _, .nil => .cons qk rv .nil
  | _, _, .cons q h r => .cons q h (RepK.snoc qk rv r)
theorem RepT.snoc {k : List Key} {v : V} {d : D} (qk : KsOk k) (rv : Rep K F v d) : ∀ {es : List (List Key × V)} {kvs : List (List Key × D)}, RepT K F es kvs → RepT K F (es ++ [(k, v)]) (kvs ++ [(k, d)])
  | _, _, .nil => .cons qk rv .nil
  | _, _, .cons q h r => .cons q h (RepT.snoc qk rv r)
theorem RepK.put {es : List (Key × V)} {kvs : List (Key × D)} {k : Key} {v : V} {d : D} (r : RepK K F es kvs) (qk : KOk k) (rv : Rep K F v d) : RepK K F (putK es k v) (putG kvs k d) := by
  unfold putK putG
  rw [r.any k]
  split
  · exact r.repl rv
  · exact r.snoc qk rv
theorem RepT.put {es : List (List Key × V)} {kvs : List (List Key × D)} {k : List Key} {v : V} {d : D} (r : RepT K F es kvs) (qk : KsOk k) (rv : Rep K F v d) : RepT K F (putK es k v) (putG kvs k d) := by
  unfold putK putG
  rw [r.any k]
  split
  · exact r.repl rv
  · exact r.snoc qk rv
end

/-! ### k in d -/
def semInD (neg : Bool) (d e : D) (P : D → Prop) : Prop := match e with
  | .dct kvs => ∃ k, d.key = some k ∧ P (.bl (if neg then !(getG kvs k).isSome else (getG kvs k).isSome))
  | .dcT kvs => ∃ ks, d.keys = some ks ∧ P (.bl (if neg then !(getG kvs ks).isSome else (getG kvs ks).isSome))
  | e => semInB neg d e P
def rInD (K : PySem.W.Frag) (neg : Bool) : R2 := fun x y H Q => rInT K neg x y H Q ∨ ∃ a o, y = .ref a ∧ DGet H a x o ∧ Q (.bl (if neg then !o.isSome else o.isSome)) H
theorem op_inD {X : Cx} (hu : X.A.units + 64 < cLine) : OpR X (compareOp .In) (rInD X.K false) := op_inT.or (by
  intro pins s σ H x y v u Q I rx ry h
  obtain ⟨a, o, rfl, g, q⟩ := h
  obtain rfl : u = Value.ref a := ry
  exact d_in (by omega) I g rx fun s3 I3 => ⟨.bl o.isSome, H, I3, rfl, q⟩)
theorem op_notInD {X : Cx} (hu : X.A.units + 64 < cLine) : OpR X (compareOp .NotIn) (rInD X.K true) := op_notInT.or (by
  intro pins s σ H x y v u Q I rx ry h
  obtain ⟨a, o, rfl, g, q⟩ := h
  obtain rfl : u = Value.ref a := ry
  exact d_notIn (by omega) I g rx fun s3 I3 => ⟨.bl (!o.isSome), H, I3, rfl, q⟩)
theorem sem_inD {K : PySem.W.Frag} (neg : Bool) : SemS K (rInD K neg) (semInD neg) := by
  intro F H x y d e P Q sb rx ry hs k
  cases e <;> first
    | (exact .inl (sem_in neg F H x y d _ P Q sb rx ry hs k))
    | skip
  · obtain ⟨kk, hk, h⟩ := hs
    obtain ⟨rfl, ok, _⟩ := rx.key hk
    cases ry with
    | @dct a es _ hF z r =>
    refine .inr ⟨a, valV es kk, rfl, .inl ⟨es, kk, sb.dK hF, rfl, rfl⟩, ?_⟩
    rw [r.isSome kk]
    exact k _ _ h fun _ => .bl _
  · obtain ⟨kk, hk, h⟩ := hs
    obtain ⟨b, rfl, hb, ok⟩ := rx.keys hk
    cases ry with
    | @dcT a es _ hF z r =>
    refine .inr ⟨a, valV es kk, rfl, .inr ⟨es, kk, b, sb.dT hF, rfl, sb.tup hb, rfl⟩, ?_⟩
    rw [r.isSome kk]
    exact k _ _ h fun _ => .bl _

/-! ### a held dict changed -/
section
variable {K : PySem.W.Frag} {F H : Hp} {ρ : TEnv} {σ : L2.St}
/-- a held thing of one object, no other held thing within, is written -/
theorem SR.mut1 {a : Addr} {o o' : O} {u : HO} (s : SR K (some o :: ρ) (some (.ref a) :: σ) F H) (ho : o.owned = [a]) (ho' : o'.owned = [a]) (r : RepO K F (upd H a u) (.ref a) o') :
    SR K (some o' :: ρ) (some (.ref a) :: σ) F (upd H a u) ∧ Frm (ownedE (some o :: ρ)) F H (ownedE (some o' :: ρ)) F (upd H a u) := by
  have n1 := List.nodup_append.mp s.nd
  have ha : a ∈ slotOwned (some o) := by show a ∈ o.owned; rw [ho]; exact List.mem_singleton_self _
  have fa : F a = none := s.own a (List.mem_append_left _ ha)
  have nr : a ∉ ownedE ρ := fun h => n1.2.2 a ha a h rfl
  have sb : Sb F (upd H a u) := fun b w h => by
    rw [upd_ne (fun e => by subst e; rw [fa] at h; cases h)]
    exact s.sub b w h
  have s0 := s.pop
  have sρ : SR K ρ σ F (upd H a u) := ⟨sb, s0.len, fun i w e => by
    obtain ⟨v, hv, q⟩ := s0.slot i w e
    exact ⟨v, hv, q.mono (fun _ _ h => h) fun b hb x hx => by
      rw [upd_ne (fun e' => nr (by subst e'; exact mem_ownedE e b hb))]; exact hx⟩, s0.own, s0.nd⟩
  have nf : ∀ ob w, H a ≠ some (.frz ob w) := s.top.nofrz a ha
  refine ⟨sρ.push r (fun b hb => ?_) ?_, fun _ _ h => h, fun b w hb _ hf e => ⟨?_, hf⟩, fun b hb => .inl ?_, fun b w e => ?_, fun b ob w e => ?_⟩
  · rw [ho'] at hb
    rw [List.mem_singleton.mp hb]; exact fa
  · rw [ho']
    exact List.nodup_cons.mpr ⟨nr, s0.nd⟩
  · rw [upd_ne (fun q => hb (by subst q; exact List.mem_append_left _ ha))]; exact e
  · rcases List.mem_append.mp hb with h | h
    · have h : b ∈ o'.owned := h
      rw [ho'] at h
      rw [List.mem_singleton.mp h]
      exact List.mem_append_left _ ha
    · exact List.mem_append_right _ h
  · by_cases q : b = a
    · subst q; exact ⟨_, upd_same⟩
    · exact ⟨w, by rw [upd_ne q]; exact e⟩
  · rw [upd_ne (fun q => nf ob w (by subst q; exact e))]; exact e
end
/-- x[k] = e, x a held dict -/
def wSetK (i : Nat) (wk w : WD) : WS := fun ρ E => w ρ fun v ρ1 => match nth ρ1 i with
  | some _ => wk ρ1 fun d ρ2 => match nth ρ2 i with
    | some (.dcT a kvs) => ∃ ks, d.keys = some ks ∧ kvs.length < sizeLine ∧ putC ρ2 i (some (.dcT a (putG kvs ks v))) E.nx
    | some (.dct a kvs) => ∃ k, d.key = some k ∧ kvs.length < sizeLine ∧ putC ρ2 i (some (.dct a (putG kvs k v))) E.nx
    | _ => False
  | none => False
section
variable {X : Cx} {st : Stmt} {o e ei : Expr} {wk w : WD} {pos pos' : Pos} {i : Nat}
theorem xs_setK (hu : X.A.units + 64 < cLine) (ho : PE X o (tVar i)) (hk : XE X ei wk) (hv : XE X e w) (hs : swapsWith e (some (.Subscript o ei pos')) pos.line X.env = pure false := by rfl) : XS X (.Assign [.Subscript o ei pos'] e pos) (wSetK i wk w) :=
  ⟨fun W tk => PS.imp (ps_dput (by omega) ho hk.pe hv.pe hs) fun Dn σ H ⟨ρ, F, E, s, hw, k⟩ => by
    refine ⟨ρ, F, _, s, hw, fun v ρ1 F1 H1 y p s1 rv f1 => ?_⟩
    cases hn1 : nth ρ1 i with
    | none => rw [hn1] at p; exact p.elim
    | some o1 =>
    rw [hn1] at p
    obtain ⟨x0, hx0, r0⟩ := s1.slot i _ (nth_eq hn1)
    refine ⟨x0, hx0, ρ1, F1, _, s1, p, fun d ρ2 F2 H2 z p2 s2 rd f2 => ?_⟩
    cases hn2 : nth ρ2 i with
    | none => rw [hn2] at p2; exact p2.elim
    | some o2 =>
    rw [hn2] at p2
    obtain ⟨x, hx, s3, m3⟩ := s2.take (nth_eq hn2)
    rw [hx0] at hx
    cases hx
    have rv2 := rv.mono f2.fz
    cases o2 <;> first
      | (exact p2.elim)
      | skip
    · rename_i a kvs
      obtain ⟨kk, hkk, hl, p3⟩ := p2
      obtain ⟨rfl, ok, _⟩ := rd.key hkk
      have q := s3.top
      cases q with
      | @dct _ es _ hH lz rk =>
      have r2 := rk.put ok rv2
      obtain ⟨s4, f4⟩ := s3.mut1 (o' := .dct a (putG kvs kk v)) (u := .dK (putK es kk y)) rfl rfl (.dct upd_same (Nat.le_trans (length_putG _ _ _) hl) r2)
      obtain ⟨s5, m5⟩ := s4.set (i := i) hx0
      rw [List.set_set] at s5 m5
      rw [putC_eq] at p3
      exact ⟨a, _, rfl, .inl ⟨es, kk, hH, rfl, by rw [rk.length]; exact hl, rfl⟩, k.nx _ _ _ _ p3 s5 (f1.trans (f2.trans ((f4.iff (fun b => m3 b) fun b hb => hb).less m5)))⟩
    · rename_i a kvs
      obtain ⟨kk, hkk, hl, p3⟩ := p2
      obtain ⟨b, rfl, hb, ok⟩ := rd.keys hkk
      have q := s3.top
      cases q with
      | @dcT _ es _ hH lz rk =>
      have r2 := rk.put ok rv2
      obtain ⟨s4, f4⟩ := s3.mut1 (o' := .dcT a (putG kvs kk v)) (u := .dT (putK es kk y)) rfl rfl (.dcT upd_same (Nat.le_trans (length_putG _ _ _) hl) r2)
      obtain ⟨s5, m5⟩ := s4.set (i := i) hx0
      rw [List.set_set] at s5 m5
      rw [putC_eq] at p3
      exact ⟨a, _, rfl, .inr ⟨es, kk, b, hH, rfl, s2.sub.tup hb, by rw [rk.length]; exact hl, rfl⟩, k.nx _ _ _ _ p3 s5 (f1.trans (f2.trans ((f4.iff (fun b => m3 b) fun b hb => hb).less m5)))⟩⟩
end

/-! ### what stands in the heap as a tuple, told to be data -/
def addT (F : Hp) (b : Addr) (xs : List V) : Hp := match F b with
  | some _ => F
  | none => upd F b (.tup xs)
def addTs (F : Hp) : List (Addr × List V) → Hp
  | [] => F
  | q :: l => addTs (addT F q.1 q.2) l
section
variable {K : PySem.W.Frag} {F H : Hp} {ρ : TEnv} {σ : L2.St}
theorem SR.addT {b : Addr} {xs : List V} (s : SR K ρ σ F H) (h : H b = some (.tup xs)) : SR K ρ σ (addT F b xs) H ∧ (∀ L, Frm L F H L (addT F b xs) H) ∧ (addT F b xs) b = some (.tup xs) := by
  cases hF : F b with
  | some o =>
    rw [show Tr.addT F b xs = F by unfold Tr.addT; rw [hF]]
    refine ⟨s, fun L => .refl, ?_⟩
    rcases s.sub b o hF with z | ⟨_, _, z⟩
    · rw [h] at z
      rw [hF, ← Option.some.inj z]
    · rw [h] at z
      cases z
  | none =>
    rw [show Tr.addT F b xs = upd F b (.tup xs) by unfold Tr.addT; rw [hF]]
    have su : Sub F (upd F b (.tup xs)) := fun c u e => by
      rw [upd_ne (ne_of_none e hF)]; exact e
    refine ⟨⟨fun c u e => ?_, s.len, fun i o e => ?_, fun a ha => ?_, s.nd⟩, fun L => ⟨su, fun c u _ nt hf e => ⟨e, ?_⟩, fun _ h => .inl h, fun _ o h => ⟨o, h⟩, fun _ _ _ h => h⟩, upd_same⟩
    · by_cases q : c = b
      · subst q
        rw [upd_same] at e
        rw [← Option.some.inj e]
        exact .inl h
      · rw [upd_ne q] at e
        exact s.sub c u e
    · obtain ⟨v, hv, r⟩ := s.slot i o e
      exact ⟨v, hv, r.mono su fun _ _ _ h => h⟩
    · by_cases q : a = b
      · subst q
        exact absurd True.intro (s.ntE a ha _ h)
      · rw [upd_ne q]
        exact s.own a ha
    · by_cases q : c = b
      · subst q
        rw [h] at e
        rw [← Option.some.inj e] at nt
        exact absurd True.intro nt
      · rw [upd_ne q]
        exact hf
theorem SR.addTs : ∀ {l : List (Addr × List V)} {F : Hp}, (∀ q ∈ l, H q.1 = some (.tup q.2)) → SR K ρ σ F H → SR K ρ σ (Tr.addTs F l) H ∧ (∀ L, Frm L F H L (Tr.addTs F l) H) ∧ ∀ q ∈ l, (Tr.addTs F l) q.1 = some (.tup q.2)
  | [], F, _, s => ⟨s, fun _ => .refl, fun _ h => (by cases h)⟩
  | q :: l, F, h, s => by
    obtain ⟨s1, f1, e1⟩ := s.addT (h q List.mem_cons_self)
    obtain ⟨s2, f2, e2⟩ := SR.addTs (l := l) (fun r hr => h r (List.mem_cons_of_mem _ hr)) s1
    refine ⟨s2, fun L => (f1 L).trans (f2 L), fun r hr => ?_⟩
    rcases List.mem_cons.mp hr with e | m
    · rw [e]
      exact (f2 []).fz _ _ e1
    · exact e2 r m
/-- the keys of a dict, as a new list -/
theorem keys_rep {kvs : List (List Key × D)} : ∀ {es : List (List Key × V)} {kvs : List (List Key × D)} {bs : List Addr} {F : Hp}, RepT K F es kvs → IsKeys H es bs → (∀ q ∈ bs.zip (es.map fun e => e.1.map kV), F q.1 = some (.tup q.2)) → RepL K F (bs.map V.ref) (kvs.map fun q => kT q.1)
  | _, _, _, _, .nil, .nil, _ => .nil
  | _, _, _, _, .cons q h r, .cons hb t, hF => .cons (.tup (hF _ List.mem_cons_self) (by rw [List.length_map]; exact q.1) (kDs_rep q.2)) (keys_rep (kvs := []) r t fun x hx => hF x (List.mem_cons_of_mem _ hx))
theorem isKeys_zip : ∀ {es : List (List Key × V)} {bs : List Addr}, IsKeys H es bs → ∀ q ∈ bs.zip (es.map fun e => e.1.map kV), H q.1 = some (.tup q.2)
  | _, _, .nil, _, h => by cases h
  | _, _, .cons hb t, q, h => by
    rcases List.mem_cons.mp h with e | m
    · rw [e]; exact hb
    · exact isKeys_zip t q m
theorem RepT.mono' {F F' : Hp} (s : Sub F F') {es : List (List Key × V)} {kvs : List (List Key × D)} (r : RepT K F es kvs) : RepT K F' es kvs := RepT.mono s r
end
/-- list(x), x held: its keys, or its items -/
def wListH (i : Nat) : WO := fun ρ P => match nth ρ i with
  | some (.dcT _ kvs) => ∀ b, P (.lst b ((kvs.map fun q => kT q.1).map .fz)) ρ
  | some (.lst _ os) => ∃ us : List D, os = us.map .fz ∧ ∀ b, P (.lst b (us.map .fz)) ρ
  | _ => False
section
variable {X : Cx} {e : Expr} {p pos : Pos} {i : Nat}
theorem xo_listH (hc : X.calm = true) (hg : Gl X "list") (hm : X.mg "list" = none) (h : PE X e (tVar i))
    (he : starEach [e] X.env = (false, eval e X.env) :: starEach [] X.env := by rfl) (hpl : (backTo pos (starEach [] X.env)).any (·.1) = false := by rfl) : XO X (.Call (.Name "list" p) [e] [] pos) (wListH i) :=
  ⟨PE.imp (pe_callTy (call_list_of.or (call_list_dT hc)) hg hm (by decide +kernel) (pa_cons h pa_nil he) (by decide) (by decide) he hpl) fun σ H Q ⟨ρ, F, P, s, hw, k⟩ => by
    unfold wListH at hw
    cases hn : nth ρ i with
    | none => rw [hn] at hw; exact hw.elim
    | some o =>
    rw [hn] at hw
    obtain ⟨v, hv, ro⟩ := s.slot i _ (nth_eq hn)
    cases o <;> first
      | (exact hw.elim)
      | skip
    · rename_i a os
      obtain ⟨us, rfl, p2⟩ := hw
      cases ro with
      | @lst _ xs _ hx z rl =>
      refine ⟨_, hv, .inl ⟨a, xs, rfl, .inl (.inl (.inl hx)), fun l hl => ?_⟩⟩
      obtain ⟨s2, f2⟩ := Res.lst (K := X.K) hl (by rw [List.length_map] at z; exact z) rl.data ρ σ s
      exact k _ _ _ _ _ (p2 l) s2 f2
    · rename_i a kvs
      cases ro with
      | @dcT _ es _ hx z rk =>
      refine ⟨_, hv, .inr ⟨a, es, rfl, .inl hx, fun l bs hl hk => ?_⟩⟩
      obtain ⟨s1, f1, g1⟩ := s.addTs (isKeys_zip hk)
      have r2 := keys_rep (kvs := []) (rk.mono' (f1 []).fz) hk g1
      obtain ⟨s2, f2⟩ := Res.lst (K := X.K) hl (by rw [List.length_map]; exact z) r2 ρ σ s1
      exact k _ _ _ _ _ (hw l) s2 ((f1 _).trans f2)⟩
end

/-! ### {k: v}, k a tuple -/
def tDisp1T (tk tv : TE) : TE := fun σ H Q => ∀ p, H p = none → tk σ (upd H p (.dT [])) fun x H1 => tv σ H1 fun y H2 => ∃ (b : Addr) (ks : List Key), x = .ref b ∧ H2 b = some (.tup (ks.map kV)) ∧ H2 p = some (.dT []) ∧ Q (.ref p) (upd H2 p (.dT [(ks, y)]))
theorem pe_disp1T {X : Cx} {kx vx : Expr} {pos : Pos} {tk tv : TE} (hu : X.A.units + 64 < cLine) (hk : PE X kx tk) (hv : PE X vx tv) : PE X (.Dict [some kx] [vx] pos) (tDisp1T tk tv) := by
  refine ⟨fun pins s σ H Q I q => ?_⟩
  have hn := I.hok.fresh (Nat.le_refl s.heap.objs.size)
  have I1 := I.laid (a := s.heap.objs.size) (o := .dT []) (h' := s.heap.push { cls := .type "dict", data := .dict #[] }) (t' := s.toks) (fun _ _ q => Heap.get?_push_of_some _ q) (Nat.le_refl _) (dt_empty s.heap I.big)
  rw [arm_eval_Dict, zip_pairTrees [some kx] [vx] X.env pos rfl rfl, dictDisplay_pairs _ (by simp [pairTrees]) (by simp [pairTrees])]
  refine wpAny_bind (wpAny_standAt (wpAny_bind ?_))
  unfold subDict
  refine wpAny_bind (wpAny_alloc ?_)
  refine wpAny_bind (wpAny_holding ?_)
  rw [if_pos (by simp [pairTrees])]
  refine wpAny_bind (pairTrees_cons_walk (thn (hk.run pins _ σ _ _ I1 (q _ hn)) fun u s1 ⟨x, H1, I2, rx, q1⟩ => thn (hv.run pins s1 σ H1 _ I2 q1) fun w2 s2 ⟨y, H2, I3, ry, b, ks, ex, hb, hp, q2⟩ => pairTrees_nil_walk ?_))
  subst ex
  cases (show u = Value.ref b from rx)
  obtain ⟨z, hd, xs, rel, dd⟩ := dt_of I3.hok hp
  cases rel
  refine wpAny_holding ?_
  refine wpAny_bind ?_
  rw [List.forIn_cons]
  refine wpAny_bind (wpAny_bind (wpAny_dictSet_heap (hsz := Nat.zero_le _) (show X.A.units < cLine by omega) (key_of I3.hok hb) dd fun h' dd' hs => wpAny_pure ?_))
  dsimp only
  rw [List.forIn_nil]
  refine wpAny_pure (wpAny_pure (wpAny_pure (wpAny_pure ?_)))
  obtain ⟨q, es, ep, hq, h2, h3, h4, _, h5⟩ := dd'
  refine ⟨.ref s.heap.objs.size, _, d_write (ob := .dT [(ks, y)]) I3 (by rw [hp]; exact True.intro) hs ⟨q, hq⟩ ⟨by show 1 ≤ sizeLine; decide, hd, _, KT.keeps (KT.put (kvs := []) (xs := []) .nil ks hb ry) fun c ys ec => ?_, q, es, ep, hq, h2, h3, h4, h5⟩, rfl, q2⟩
  rw [upd_ne (ne_of ec hp (fun z => nomatch z))]
  exact ec
/-- {k: v}, one pair, k a tuple -/
def wDisp1T (wk wv : WD) : WO := fun ρ P => wk ρ fun d ρ1 => wv ρ1 fun e ρ2 => ∃ ks, d.keys = some ks ∧ ∀ a, P (.dcT a [(ks, e)]) ρ2
theorem xo_disp1T {X : Cx} {kx vx : Expr} {pos : Pos} {wk wv : WD} (hu : X.A.units + 64 < cLine) (hk : XE X kx wk) (hv : XE X vx wv) : XO X (.Dict [some kx] [vx] pos) (wDisp1T wk wv) :=
  ⟨PE.imp (pe_disp1T hu hk.pe hv.pe) fun σ H Q ⟨ρ, F, P, s, hw, k⟩ p hp => by
    obtain ⟨s0, f0⟩ := s.newO (u := .dT []) (o := .dcT p []) hp (.dcT upd_same (Nat.zero_le _) .nil) rfl
    refine ⟨ρ, F, _, s0.pop, hw, fun d ρ1 F1 H1 x p1 s1 rd f1 => ?_⟩
    obtain ⟨t1, g1⟩ := s0.frame s1 f1
    refine ⟨ρ1, F1, _, s1, p1, fun e ρ2 F2 H2 y p2 s2 re f2 => ?_⟩
    obtain ⟨t2, g2⟩ := t1.frame s2 f2
    obtain ⟨ks, hks, p3⟩ := p2
    obtain ⟨b, rfl, hb, ok⟩ := (rd.mono f2.fz).keys hks
    have q := t2.top
    cases q with
    | @dcT _ es _ hH lz rk =>
    cases rk
    obtain ⟨t3, g3⟩ := t2.mut1 (o' := .dcT p [(ks, e)]) (u := .dT [(ks, y)]) rfl rfl (.dcT upd_same (by show 1 ≤ sizeLine; decide) (.cons ok re .nil))
    exact ⟨b, ks, rfl, s2.sub.tup hb, hH, k _ _ _ _ _ (p3 p) t3 (f0.trans (g1.trans (g2.trans g3)))⟩⟩
end Tr
/-! the law's own def at the outermost call, where no repr runs; repr of plain data. -/
namespace Tr
open PySem PySem.Spec PyProof.Rows L2
/-- a def of one parameter, called outermost -/
structure TopOk (P : Program) (w : World) (K : PySem.W.Frag) (mg : Str → Option Value) (base : Heap) (f : Addr) (fd : FuncData) (x : Str) (sp : Sp) : Prop where
  run : ∀ (s : Shared) (H : Hp) (u : Value) (v : V) (Q : VK), Env0 P w K mg base callerA [] s H → BindsTo s fd ⟨[u], []⟩ [(x, u)] → RelV v u → sp [v] H Q (fun _ _ _ => False) →
    codeAny (model P w) callerA (.call (.ref f) ⟨[u], []⟩) (CR CX0 [] P w H s Q fun _ _ _ => False) s
section
variable {P : Program} {w : World} {K : PySem.W.Frag} {mg : Str → Option Value} {base : Heap}
theorem top_tree {y qual x : Str} {st : Stmt} {f : Addr} {fd : FuncData} {N : List Str} {k : Nat} {sp : SpT} {wb : WS} (Fn : Fun K y qual st f fd) (S : FnScope N [x] (defScope st)) (hr : Room (k + 1) callerA)
    (body : ∀ (cdv : Value) (A : Around) (outer : List Env) (s : Shared) (H : Hp) (E : XK), Room k (A.deeper (envOfC qual (defScope st) s.heap.objs.size f cdv)) → (A.deeper (envOfC qual (defScope st) s.heap.objs.size f cdv)).guards = some [] →
      XSs (cxOf CX0 P w K mg base N qual (defScope st) f cdv A outer s H E).nox (defBody st) wb)
    (does : ∀ os P, sp os P → wb (start0 N.length os) (endsOf os P)) : TopOk P w K mg base f fd x (liftSp K sp) := by
  obtain ⟨oc, od, kV, doc, pm, an, cdv, ct, osl, rfl, lk, hcd⟩ := Fn.ex
  constructor
  intro s H u v Q e0 hb rv hsp
  have old : ∀ b o, base.get? b = some o → s.heap.get? b = some o := fun b o e => (e0.bs b o e).1
  have kin : K.In s.heap := e0.mod.kin.keeps old
  refine codeAny_call_function hr.depth (kin _ _ lk) rfl S.co S.gen rfl (PySem.W.codeRec_of kin hcd) (hb _ _ _ _ (wpAny_newFunctionEnv_cells S.kind (fun q hq => ?_) fun env he s1 ic => ?_))
  · have eq : q = (x, u) := List.mem_singleton.mp hq
    subst eq
    exact (S.par x List.mem_cons_self).imp id fun c => ⟨c, PySem.W.cellsFrom_some _ _ _ (.inl c)⟩
  subst he
  obtain ⟨t, pt, hq⟩ := tree_ex (body cdv callerA [] s H (fun _ _ _ => False) (hr.deeper _) rfl) does hsp
  have I0 := inv_start (CX := CX0) (E := fun _ _ _ => False) S hr.hd e0 (show [v].length = [x].length from rfl) (.cons rv .nil) ic
  refine ⟨(e0.mod.nolimit.keeps old).keeps ic.toInCall.keep, codeAny_func (wpAny_mono (pt.nox.run [] s1 (L2.start N [v]) H _ I0 hq) (fun fl s2 h2 => ?_) fun _ _ h => h)⟩
  cases fl <;> first
    | (obtain ⟨σ', H', J, q⟩ := h2; exact ⟨.non, H', J.os, J.bare, J.base, J.hok, rfl, q⟩)
    | (obtain ⟨_, _, _, q⟩ := h2; exact q.elim)
    | (obtain ⟨r, σ', H', J, rr, q⟩ := h2; exact ⟨r, H', J.os, J.bare, J.base, J.hok, rr, q⟩)
end
/-- the law called with its script -/
theorem top_call {P : Program} {w : World} {K : PySem.W.Frag} {mg mb : Str → Option Value} {f a : Addr} {fd : FuncData} {x : Str} {sp : Sp} {z : Shared} {vs : List Value} {ns : List Int} (kin : K.In z.heap) (gl : z.heap.Ns mainGlobals mg) (bl : z.heap.Ns builtinsNs mb)
    (bb : ∀ x : Str, x ≠ "__name__" → mb x = bootBuiltins x) (lim : z.heap.NoLimit) (gens : z.gens = #[]) (ha : z.heap.get? a = some { cls := .type "list", data := .seq vs.toArray }) (iar : IntsAre vs ns) (len : ns.length ≤ sizeLine)
    (T : ∀ base : Heap, K.In base → base.Ns mainGlobals mg → TopOk P w K mg base f fd x sp) (bind : ∀ (s : Shared) (u : Value), BindsTo s fd ⟨[u], []⟩ [(x, u)]) (law : ∀ H : Hp, SqL K H a (ns.map V.int) → sp [.ref a] H (fun v _ => v = .bl true) fun _ _ _ => False) :
    codeAny (model P w) callerA (.call (.ref f) ⟨[.ref a], []⟩) (fun r t => r = .ok (.ret (.bool true)) ∧ OldK z.heap t.heap ∧ t.os = z.os ∧ AllBare t.gens) z := by
  -- the script alone is tracked, where it is no object of the text's own
  let G : Hp := fun b => if b = a ∧ K.lookup a = none then some (.frz { cls := .type "list", data := .seq vs.toArray } (.lst (ns.map V.int))) else none
  have inG : ∀ {b : Addr} {u : HO}, G b = some u → b = a ∧ K.lookup a = none ∧ u = .frz { cls := .type "list", data := .seq vs.toArray } (.lst (ns.map V.int)) := fun {b u} e => by
    by_cases q : b = a ∧ K.lookup a = none
    · have e := (if_pos q).symm.trans e
      exact ⟨q.1, q.2, (Option.some.inj e).symm⟩
    · have e := (if_neg q).symm.trans e
      cases e
  have rel := vals_ints iar
  have hG : HOk P w G z.heap := fun b u e => by
    obtain ⟨rfl, _, rfl⟩ := inG e
    exact ⟨ha, by rw [List.length_map]; exact len, vs, _, rel, ha⟩
  have sq : SqL K G a (ns.map V.int) := by
    cases hk : K.lookup a with
    | none => exact .inl (.inr ⟨_, if_pos ⟨rfl, hk⟩⟩)
    | some o =>
      have e := kin a o hk
      rw [ha] at e
      cases e
      exact .inr ⟨_, vs.toArray, _, hk, rfl, rfl, rfl, by rw [List.size_toArray, iar.length]; exact len, by simpa using rel⟩
  have put : ∀ {b : Addr} {o : Obj}, z.heap.get? b = some o → G b = none → (hidT z.heap G).get? b = some o := fun e n => hidT_get e n
  have nsAt : ∀ {b : Addr} {m : Str → Option Value}, z.heap.Ns b m → (hidT z.heap G).Ns b m := fun {b m} ⟨o, es, ep, e, d, rest⟩ => ⟨o, es, ep, put e (by
    cases q : G b with
    | none => rfl
    | some u =>
      obtain ⟨rfl, _, _⟩ := inG q
      rw [ha] at e
      cases e
      cases d), d, rest⟩
  have kinT : K.In (hidT z.heap G) := fun b o e => put (kin b o e) (by
    cases q : G b with
    | none => rfl
    | some u =>
      obtain ⟨rfl, n, _⟩ := inG q
      rw [n] at e
      cases e)
  have mo : Mod K mg (hidT z.heap G) := ⟨kinT, nsAt gl, ⟨mb, nsAt bl, bb⟩, by obtain ⟨mc, l1, l2⟩ := lim; exact ⟨mc, nsAt l1, l2⟩⟩
  have ent : Env0 P w K mg (hidT z.heap G) callerA [] z G :=
    { frames := rfl, mod := mo, bs := fun b o e => of_hidT e, bsz := Nat.le_of_eq (hidT_size _ _), funs := trivial, frf := fun b h => absurd (show b ∈ ([] : List Addr) from h) (by simp), hok := hG, bare := .of_eq gens }
  refine codeAny_mono ((T _ kinT (nsAt gl)).run z G (.ref a) (.ref a) _ ent (bind z _) rfl (law G sq)) fun r t h => ?_
  cases r with
  | error e => exact False.elim h
  | ok fl =>
    cases fl <;> first
      | exact False.elim h
      | skip
    obtain ⟨v, H', os, bare, un, ok', rv, rfl⟩ := h
    obtain rfl := (show _ = Value.bool true from rv)
    refine ⟨rfl, OldK.of_keep fun b o e => ?_, os, bare⟩
    cases q : G b with
    | none => exact un.keep b o e q (fun h => absurd (show b ∈ ([] : List Addr) from h) (by simp)) (by simp)
    | some u =>
      obtain ⟨rfl, _, rfl⟩ := inG q
      obtain ⟨g1, _⟩ := hG _ _ q
      obtain ⟨g2, _⟩ := ok' _ _ (un.frzs _ _ _ q)
      exact g2.trans (g1.symm.trans e)
/-- the law's goal -/
theorem top_of {l : PySem.W.OpenLaw} {n : Nat} {q : Program} {loose : List Str} {XP : (Str → Option Value) → Heap → Prop} {YP : World → Heap → Prop} {d : DefRec} {K : Params → PySem.W.Frag} {sp : PySem.W.Frag → Sp} {x : Str} (hn : l.most = some n) (hn2 : n ≤ sizeLine) (hdf : d.params.defaults = [])
    (hY : ∀ (w : World) (h : Heap), YP w h → (K w.params).In h)
    (F : ∀ (w : World) (mg : Str → Option Value) (fa : Addr) (h : Heap), (K w.params).In h → h.Ns mainGlobals mg → mg d.name = some (.ref fa) →
      ∃ fd : FuncData, (∀ (s : Shared) (u : Value), BindsTo s fd ⟨[u], []⟩ [(x, u)]) ∧ ∀ base : Heap, (K w.params).In base → base.Ns mainGlobals mg → TopOk l.prog w (K w.params) mg base fa fd x (sp (K w.params)))
    (law : ∀ (K : PySem.W.Frag) (H : Hp) (a : Addr) (ns : List Int), ns.length ≤ n → SqL K H a (ns.map V.int) → sp K [.ref a] H (fun v _ => v = .bl true) fun _ _ _ => False) :
    PySem.W.WalkO q loose XP YP l.row.toRowW d [] (fun f vs => PySem.call f vs) := by
  refine Att.attach_call hn hdf fun w s0 s1 mg mb fa o pm cd doc a vs ns G Y _ _ _ hmg hobj hints hlen hg => ?_
  obtain ⟨fd, hb, T⟩ := F w mg fa _ (hY w _ Y) G.T.g hmg
  exact top_call (hY w _ Y) G.T.g G.T.b G.T.builtins G.T.nolimit hg hobj hints (Nat.le_trans hlen hn2) T hb fun H hS => law _ H a ns hlen hS

/-! ### repr -/
def rReprD (K : PySem.W.Frag) : List V → Hp → VK → Prop := fun xs H Q => ∃ (a : Addr) (d : PyData), xs = [.ref a] ∧ Dp K H (.ref a) d ∧ d.showable = true ∧ d.hasDict = false ∧ d.depth ≤ 20 ∧ d.shown.length ≤ sizeLine ∧ Q (.str d.shown) H
theorem call_reprD {X : Cx} (hg : X.A.guards = some []) (hu : X.A.units + 64 < cLine) : CallR X (.builtin "repr") (rReprD X.K) := by
  intro pins s σ H xs us Q I r h
  obtain ⟨a, d, rfl, hd, hs, hh, hdep, hz, q⟩ := h
  obtain ⟨u, rfl, ru⟩ := vals1 r
  cases ru
  obtain ⟨as, rd⟩ := Dp.reads I d (.ref a) (.ref a) hd rfl
  exact repr_of_reads' rd hs (fun e => absurd (hh.symm.trans e) Bool.false_ne_true) hg (by omega) (fun _ _ e => e) (fun h' t tk hk => ⟨.str d.shown, H, I.kept hk, ⟨t, rfl⟩, q⟩) hz
/-- a list or a tuple -/
def D.isSeq : D → Bool
  | .tup _ => true
  | .lst _ => true
  | _ => false
structure ReprOk (d : D) : Prop where
  seq : d.isSeq = true
  plain : d.plain = true
  show_ : d.py.showable = true
  nod : d.py.hasDict = false
  dep : d.py.depth ≤ 20
  len : d.py.shown.length ≤ sizeLine
def semRepr (d : D) (P : D → Prop) : Prop := ReprOk d ∧ P (.str d.py.shown)
theorem sem_repr {K : PySem.W.Frag} {F H : Hp} {x : V} {d : D} {P : D → Prop} {Q : VK} (sb : Sb F H) (rx : Rep K F x d) (hs : semRepr d P) (k : ∀ u v, P u → Rep K F v u → Q v H) : rReprD K [x] H Q := by
  obtain ⟨ok, p⟩ := hs
  have dp := rx.dp sb ok.plain
  have : ∃ a, x = .ref a := by
    cases rx <;> first
      | (cases ok.seq; done)
      | exact ⟨_, rfl⟩
  obtain ⟨a, rfl⟩ := this
  exact ⟨a, d.py, rfl, dp, ok.show_, ok.nod, ok.dep, ok.len, k _ _ p (.str _ ok.len)⟩
section
variable {X : Cx} {e : Expr} {p pos : Pos} {w : WD}
theorem xe_repr (hgd : X.A.guards = some []) (hu : X.A.units + 64 < cLine) (hg : Gl X "repr") (hm : X.mg "repr" = none) (ha : XE X e w)
    (he : starEach [e] X.env = (false, eval e X.env) :: starEach [] X.env := by rfl) (hpl : (backTo pos (starEach [] X.env)).any (·.1) = false := by rfl) : XE X (.Call (.Name "repr" p) [e] [] pos) (wC1 semRepr w) :=
  ⟨PE.imp (pe_callB (call_reprD hgd hu) hg hm (by decide +kernel) (pa_cons ha.pe pa_nil he) (by decide) (by decide) he hpl) fun σ H Q ⟨ρ, F, P, s, hw, k⟩ =>
    ⟨ρ, F, _, s, hw, fun d ρ' F' H' v q s' r f => sem_repr s'.sub r q fun u v' pu ru => k _ _ _ _ _ pu s' ru f⟩⟩
end
end Tr
/-! texts: the module's own, join; {k: v} with a plain key. -/
namespace Tr
open PySem PySem.Spec PyProof.Rows L2
section
variable {X : Cx} {x : Str} {pos apos : Pos} {o e : Expr} {wa wb : WD}
theorem xe_globS {z : Str} (hg : Gl X x) (h : ∃ t, X.mg x = some (.str z t)) (hz : z.length ≤ sizeLine := by decide +kernel) (hd : (x == ("__debug__" : Str)) = false := by decide) : XE X (.Name x pos) (wC (.str z)) := by
  obtain ⟨t, h⟩ := h
  exact xe_c (v := .str z) (pe_glob hg h ⟨t, rfl⟩ hd) fun _ _ => .str z hz
/-- a.join(e) -/
def wJoin (wa wb : WD) : WD := fun ρ P => wa ρ fun d ρ1 => match d with
  | .str a => wb ρ1 fun e ρ2 => ∃ ys : List Str, e.items = some (ys.map .str) ∧ (ys.map (·.length)).sum + ys.length * a.length ≤ 16777216 ∧ (Txt.join a ys).length ≤ sizeLine ∧ P (.str (Txt.join a ys)) ρ2
  | _ => False
theorem repL_strs {K : PySem.W.Frag} {F : Hp} : ∀ {ys : List Str} {vs : List V}, RepL K F vs (ys.map .str) → vs = ys.map V.str
  | [], _, .nil => rfl
  | y :: ys, _, .cons h r => by
    cases h
    rw [repL_strs r]
    rfl
theorem xe_join (ho : XE X o wa) (he : XE X e wb) (hs : starEach [e] X.env = [(false, eval e X.env)] := by rfl) (hbase : attributeBase o "join" X.env (eval o X.env) = eval o X.env := by rfl) (hline : (apos.endLine == pos.line) = true := by rfl) :
    XE X (.Call (.Attribute o "join" apos) [e] [] pos) (wJoin wa wb) := ⟨PE.imp (pe_join ho.pe he.pe hs hbase hline) fun σ H Q ⟨ρ, F, P, s, hw, k⟩ =>
  ⟨ρ, F, _, s, hw, fun d ρ1 F1 H1 v p s1 r1 f1 => by
    cases d <;> first
      | (exact p.elim)
      | skip
    rename_i a
    cases r1
    refine ⟨⟨a, rfl⟩, ρ1, F1, _, s1, p, fun e' ρ2 F2 H2 u p2 s2 r2 f2 => ?_⟩
    obtain ⟨ys, hi, hz, hl, p3⟩ := p2
    obtain ⟨q, xs, rfl, hq, rl, _⟩ := r2.seq s2.sub hi
    have ex := repL_strs rl
    subst ex
    exact ⟨a, q, ys, rfl, rfl, hq, hz, k _ _ _ _ _ p3 s2 (.str _ hl) (f1.trans f2)⟩⟩⟩
/-- {k: v}, one pair, k a number or a text -/
def wDisp1K (wk wv : WD) : WO := fun ρ P => wk ρ fun d ρ1 => wv ρ1 fun e ρ2 => ∃ k, d.key = some k ∧ ∀ a, P (.dct a [(k, e)]) ρ2
theorem xo_disp1K {kx vx : Expr} {wk wv : WD} (hk : XE X kx wk) (hv : XE X vx wv) : XO X (.Dict [some kx] [vx] pos) (wDisp1K wk wv) :=
  ⟨PE.imp (pe_disp (pps_cons hk.pe hv.pe pps_nil) rfl rfl (by simp) (by show 1 ≤ 15; decide)) fun σ H Q ⟨ρ, F, P, s, hw, k⟩ p hp => by
    obtain ⟨s0, f0⟩ := s.newO (u := .dK []) (o := .dct p []) hp (.dct upd_same (Nat.zero_le _) .nil) rfl
    refine ⟨ρ, F, _, s0.pop, hw, fun d ρ1 F1 H1 x p1 s1 rd f1 => ?_⟩
    obtain ⟨t1, g1⟩ := s0.frame s1 f1
    refine ⟨ρ1, F1, _, s1, p1, fun e ρ2 F2 H2 y p2 s2 re f2 => ?_⟩
    obtain ⟨t2, g2⟩ := t1.frame s2 f2
    obtain ⟨kk, hkk, p3⟩ := p2
    obtain ⟨rfl, ok, _⟩ := (rd.mono f2.fz).key hkk
    have q := t2.top
    cases q with
    | @dct _ es _ hH lz rk =>
    cases rk
    obtain ⟨t3, g3⟩ := t2.mut1 (o' := .dct p [(kk, e)]) (u := .dK [(kk, y)]) rfl rfl (.dct upd_same (by show 1 ≤ sizeLine; decide) (.cons ok re .nil))
    refine ⟨hH, [(kk, y)], rfl, by show 1 ≤ 15; decide, k _ _ _ _ _ (p3 p) t3 (f0.trans (g1.trans (g2.trans g3)))⟩⟩
end
end Tr
/-! str(n), d[k], d.get(k, e), dict(pairs), sorted texts, sorted(d), xs[::-1]. -/
namespace Tr
open PySem PySem.Spec PyProof.Rows L2
section
variable {X : Cx} {K : PySem.W.Frag}
/-! ### str(n) -/
def numS (i : Int) : Str := Str.ofString (toString i)
def semStr (d : D) (P : D → Prop) : Prop := match d with
  | .int i => i.natAbs.log2 < 1920 ∧ P (.str (numS i))
  | .str z => P (.str z)
  | _ => False
def rStr : List V → Hp → VK → Prop := fun xs H Q => (∃ i, xs = [.int i] ∧ i.natAbs.log2 < 1920 ∧ Q (.str (toString i)) H) ∨ ∃ a, xs = [.str a] ∧ a.length ≤ sizeLine ∧ Q (.str a) H
theorem cr_str : CallR X (.type "str") rStr := call_str_int.or fun pins s σ H xs us Q I r h => by
  obtain ⟨a, e, _, q⟩ := h
  exact SkE.call_str_str pins s σ H xs us Q I r ⟨a, e, q⟩
theorem sem_str : SemC1 K rStr semStr := by
  intro F H x d P Q sb rx hs k
  unfold semStr at hs
  split at hs
  · cases rx
    exact .inl ⟨_, rfl, hs.1, k _ _ hs.2 fun _ => .str _ (int_text_fits hs.1)⟩
  · cases rx with
    | str _ z => exact .inr ⟨_, rfl, z, k _ _ hs fun _ => .str _ z⟩
  · exact hs.elim
theorem PE_or {e : Expr} {t t' : TE} (h : PE X e t) (h' : PE X e t') : PE X e (fun σ H Q => t σ H Q ∨ t' σ H Q) := ⟨fun pins s σ H Q I hw => hw.elim (h.run pins s σ H Q I) (h'.run pins s σ H Q I)⟩

/-! ### a name's dict, held or not: d[k], d.get(k, e) -/
def O.at? (o : O) (k : D) (P : Option D → Prop) : Prop := match o with
  | .dct _ kvs => ∃ kk, k.key = some kk ∧ P (getG kvs kk)
  | .fz (.dct kvs) => ∃ kk, k.key = some kk ∧ P (getG kvs kk)
  | .dcT _ kvs => ∃ kk, k.keys = some kk ∧ P (getG kvs kk)
  | .fz (.dcT kvs) => ∃ kk, k.keys = some kk ∧ P (getG kvs kk)
  | _ => False
theorem at_get {F H : Hp} {o : O} {v y : V} {k : D} {P : Option D → Prop} {Q : Option V → Prop} (sb : Sb F H) (r : RepO K F H v o) (ry : Rep K F y k) (h : o.at? k P) (q : ∀ d u, P d → (d = none ∧ u = none ∨ ∃ e x, d = some e ∧ u = some x ∧ Rep K F x e) → Q u) :
    ∃ a u, v = .ref a ∧ DGet H a y u ∧ Q u := by
  have fin : ∀ {a : Addr} {es : List (Key × V)} {kvs : List (Key × D)} (kk : Key), Rd H a (.dK es) → RepK K F es kvs → k.key = some kk → P (getG kvs kk) → ∃ u, DGet H a y u ∧ Q u := fun {a es kvs} kk hd rk hk p => by
    obtain ⟨rfl, _, _⟩ := ry.key hk
    refine ⟨valV es kk, .inl ⟨es, kk, hd, rfl, rfl⟩, q _ _ p ?_⟩
    rcases rk.get kk with ⟨e1, e2⟩ | ⟨x, e, e1, e2, re⟩
    · exact .inl ⟨e2, e1⟩
    · exact .inr ⟨e, x, e2, e1, re⟩
  have finT : ∀ {a : Addr} {es : List (List Key × V)} {kvs : List (List Key × D)} (kk : List Key), Rd H a (.dT es) → RepT K F es kvs → k.keys = some kk → P (getG kvs kk) → ∃ u, DGet H a y u ∧ Q u := fun {a es kvs} kk hd rk hk p => by
    obtain ⟨b, rfl, hb, _⟩ := ry.keys hk
    refine ⟨valV es kk, .inr ⟨es, kk, b, hd, rfl, sb.tup hb, rfl⟩, q _ _ p ?_⟩
    rcases rk.get kk with ⟨e1, e2⟩ | ⟨x, e, e1, e2, re⟩
    · exact .inl ⟨e2, e1⟩
    · exact .inr ⟨e, x, e2, e1, re⟩
  unfold O.at? at h
  split at h
  · obtain ⟨kk, hk, p⟩ := h
    cases r with
    | dct hH _ rk =>
      obtain ⟨u, g, q⟩ := fin kk (.inl hH) rk hk p
      exact ⟨_, u, rfl, g, q⟩
  · obtain ⟨kk, hk, p⟩ := h
    cases r with
    | fz r =>
      cases r with
      | dct hF _ rk =>
        obtain ⟨u, g, q⟩ := fin kk (sb.dK hF) rk hk p
        exact ⟨_, u, rfl, g, q⟩
  · obtain ⟨kk, hk, p⟩ := h
    cases r with
    | dcT hH _ rk =>
      obtain ⟨u, g, q⟩ := finT kk (.inl hH) rk hk p
      exact ⟨_, u, rfl, g, q⟩
  · obtain ⟨kk, hk, p⟩ := h
    cases r with
    | fz r =>
      cases r with
      | dcT hF _ rk =>
        obtain ⟨u, g, q⟩ := finT kk (sb.dT hF) rk hk p
        exact ⟨_, u, rfl, g, q⟩
  · exact h.elim
/-- d[k], d a name of a dict -/
def wIxD (i : Nat) (wk : WD) : WD := fun ρ P => match nth ρ i with
  | some _ => wk ρ fun k ρ1 => match nth ρ1 i with
    | some o => o.at? k fun r => ∃ u, r = some u ∧ P u ρ1
    | none => False
  | none => False
theorem xe_ixD {o e : Expr} {i : Nat} {wk : WD} {pos : Pos} (hu : X.A.units + 64 < cLine) (ho : PE X o (tVar i)) (hk : XE X e wk) (hs : NoSl e := by intro _ _; rfl) : XE X (.Subscript o e pos) (wIxD i wk) :=
  ⟨PE.imp (pe_dget (by omega) ho hk.pe hs) fun σ H Q ⟨ρ, F, P, s, hw, k⟩ => by
    unfold wIxD at hw
    cases hn0 : nth ρ i with
    | none => rw [hn0] at hw; exact hw.elim
    | some o0 =>
    rw [hn0] at hw
    obtain ⟨x, hx, _⟩ := s.slot i o0 (nth_eq hn0)
    refine ⟨x, hx, ρ, F, _, s, hw, fun d ρ2 F2 H2 y p2 s2 r2 f2 => ?_⟩
    cases hn : nth ρ2 i with
    | none => rw [hn] at p2; exact p2.elim
    | some o1 =>
      rw [hn] at p2
      obtain ⟨v, hv, ro⟩ := s2.slot i o1 (nth_eq hn)
      rw [hx] at hv
      cases hv
      obtain ⟨a, u, rfl, g, w, rfl, q⟩ := at_get (Q := fun u => ∃ w, u = some w ∧ Q w H2) s2.sub ro r2 p2 fun d u p hd => by
        obtain ⟨e, rfl, p⟩ := p
        rcases hd with ⟨h, _⟩ | ⟨e', x', h, h', re⟩
        · cases h
        · cases h
          exact ⟨x', h', k _ _ _ _ _ p s2 re f2⟩
      exact ⟨a, w, rfl, g, q⟩⟩
def O.isD : O → Bool
  | .dct _ _ => true
  | .dcT _ _ => true
  | .fz (.dct _) => true
  | .fz (.dcT _) => true
  | _ => false
theorem isD_of {F H : Hp} {o : O} {v : V} (sb : Sb F H) (r : RepO K F H v o) (h : o.isD = true) : ∃ a, v = .ref a ∧ IsD H a := by
  unfold O.isD at h
  split at h
  · cases r with
    | dct hH _ _ => exact ⟨_, rfl, .inl ⟨_, .inl hH⟩⟩
  · cases r with
    | dcT hH _ _ => exact ⟨_, rfl, .inr ⟨_, .inl hH⟩⟩
  · cases r with
    | fz r => cases r with
      | dct hF _ _ => exact ⟨_, rfl, .inl ⟨_, sb.dK hF⟩⟩
  · cases r with
    | fz r => cases r with
      | dcT hF _ _ => exact ⟨_, rfl, .inr ⟨_, sb.dT hF⟩⟩
  · cases h
/-- d.get(k, e), d a name of a dict -/
def wGet2 (i : Nat) (wk we : WD) : WD := fun ρ P => match nth ρ i with
  | some o => o.isD = true ∧ wk ρ fun k ρ1 => we ρ1 fun e ρ2 => match nth ρ2 i with
    | some o => o.at? k fun r => P (r.getD e) ρ2
    | none => False
  | none => False
theorem xe_get2 {o e f : Expr} {i : Nat} {wk we : WD} {apos cpos : Pos} (hu : X.A.units + 64 < cLine) (ho : PE X o (tVar i)) (hk : XE X e wk) (he : XE X f we)
    (m1 : attributeBase o "get" X.env (eval o X.env) = eval o X.env := by rfl)
    (m2 : ((backTo cpos (starEach [e, f] X.env)).all (fun x => !x.1) && (backToKw cpos (keywordEach [] X.env)).all (fun x => x.1.isSome)
    && decide (([e, f] : List Expr).length + ([] : List Keyword).length + (if ([] : List Keyword).isEmpty then 0 else 1) < 30)) = true := by rfl)
    (m3 : (apos.endLine == cpos.line) = true := by rfl) (m4 : backTo cpos (starEach [e, f] X.env) = [(false, eval e X.env), (false, eval f X.env)] := by rfl) :
    XE X (.Call (.Attribute o "get" apos) [e, f] [] cpos) (wGet2 i wk we) :=
  ⟨PE.imp (pe_dget2 (by omega) ho hk.pe he.pe ⟨m1, m2, m3, m4⟩) fun σ H Q ⟨ρ, F, P, s, hw, k⟩ => by
    unfold wGet2 at hw
    cases hn0 : nth ρ i with
    | none => rw [hn0] at hw; exact hw.elim
    | some o0 =>
    rw [hn0] at hw
    obtain ⟨hd0, hw⟩ := hw
    obtain ⟨x, hx, ro0⟩ := s.slot i o0 (nth_eq hn0)
    obtain ⟨a, rfl, hd⟩ := isD_of s.sub ro0 hd0
    refine ⟨_, hx, a, rfl, hd, ρ, F, _, s, hw, fun d ρ1 F1 H1 y p1 s1 r1 f1 => ⟨ρ1, F1, _, s1, p1, fun e' ρ2 F2 H2 z p2 s2 r2 f2 => ?_⟩⟩
    cases hn : nth ρ2 i with
    | none => rw [hn] at p2; exact p2.elim
    | some o1 =>
      rw [hn] at p2
      obtain ⟨v, hv, ro⟩ := s2.slot i o1 (nth_eq hn)
      rw [hx] at hv
      cases hv
      obtain ⟨b, u, e0, g, q⟩ := at_get (Q := fun u => Q (u.getD z) H2) s2.sub ro (r1.mono f2.fz) p2 fun d u p hd => by
        rcases hd with ⟨rfl, rfl⟩ | ⟨e'', x', rfl, rfl, re⟩
        · exact k _ _ _ _ _ p s2 r2 (f1.trans f2)
        · exact k _ _ _ _ _ p s2 re (f1.trans f2)
      cases e0
      exact ⟨u, g, q⟩⟩

/-! ### dict(pairs) -/
def mergeG (kvs : List (Key × D)) (more : List (Key × D)) : List (Key × D) := more.foldl (fun acc kv => putG acc kv.1 kv.2) kvs
theorem RepK.merge {F : Hp} : ∀ {more : List (Key × V)} {rs : List (Key × D)} {kvs : List (Key × V)} {ds : List (Key × D)}, RepK K F more rs → RepK K F kvs ds → RepK K F (mergeK kvs more) (mergeG ds rs)
  | _, _, _, _, .nil, r => r
  | _, _, _, _, .cons qk rv rr, r => by
    have := RepK.merge rr (r.put qk rv)
    exact this
def pairsD (kvs : List (Key × D)) : List D := kvs.map fun q => .tup [kD q.1, q.2]
def semDict (d : D) (P : O → Prop) : Prop := match d with
  | .lst ds => ∃ kvs, ds = pairsD kvs ∧ ∀ a, P (.dct a (mergeG [] kvs))
  | _ => False
theorem repL_pairs {F H : Hp} (sb : Sb F H) : ∀ {kvs : List (Key × D)} {vs : List V}, RepL K F vs (pairsD kvs) → ∃ (ps : List Addr) (es : List (Key × V)), vs = ps.map V.ref ∧ Paired (fun p kv => SqT K H p [kV kv.1, kv.2]) ps es ∧ RepK K F es kvs
  | [], _, .nil => ⟨[], [], rfl, .nil, .nil⟩
  | q :: kvs, _, .cons h r => by
    obtain ⟨ps, es, e, hp, rk⟩ := repL_pairs sb r
    cases h with
    | tup hF _ rl =>
      cases rl with
      | cons ra rb =>
      cases rb with
      | cons rb rc =>
      cases rc
      obtain ⟨e1, ok, _⟩ := ra.key (k := q.1) (by cases q.1 <;> rfl)
      subst e1
      exact ⟨_ :: ps, (q.1, _) :: es, by rw [e]; rfl, .cons (sb.sqT hF) hp, .cons ok rb rk⟩
theorem length_mergeG : ∀ (more kvs : List (Key × D)), (mergeG kvs more).length ≤ kvs.length + more.length
  | [], kvs => Nat.le_refl _
  | q :: more, kvs => by
    show (mergeG (putG kvs q.1 q.2) more).length ≤ _
    have := length_mergeG more (putG kvs q.1 q.2)
    have := length_putG kvs q.1 q.2
    rw [List.length_cons]
    omega
theorem Res.dct {F H : Hp} {p : Addr} {es : List (Key × V)} {kvs : List (Key × D)} (hp : H p = none) (z : kvs.length ≤ sizeLine) (r : RepK K F es kvs) : Res K F H (.dct p kvs) (.ref p) F (upd H p (.dK es)) := fun _ _ s =>
  s.newO hp (.dct upd_same z r) rfl
theorem sem_dict : SemO1 K (fun xs H Q => ∃ (a : Addr) (ps : List Addr) (kvs : List (Key × V)), xs = [.ref a] ∧ SqL K H a (ps.map V.ref) ∧ Paired (fun p kv => SqT K H p [kV kv.1, kv.2]) ps kvs ∧
    ∀ p, H p = none → Q (.ref p) (upd H p (.dK (mergeK [] kvs)))) semDict := by
  intro F H x d P Q sb rx hs k
  unfold semDict at hs
  split at hs
  · obtain ⟨kvs, rfl, h⟩ := hs
    cases rx with
    | @lst a xs _ ha z r =>
      obtain ⟨ps, es, rfl, hp, rk⟩ := repL_pairs sb r
      refine ⟨a, ps, es, rfl, .inl (.inl (sb.lst ha)), hp, fun p hn => k _ _ _ _ (h p) (Res.dct hn ?_ (rk.merge .nil))⟩
      have := length_mergeG kvs []
      rw [List.length_nil, Nat.zero_add] at this
      refine Nat.le_trans this ?_
      have z : (pairsD kvs).length ≤ sizeLine := z
      unfold pairsD at z
      rwa [List.length_map] at z
  · exact hs.elim

/-! ### sorted, of texts, of a dict's texts -/
def semSortS (d : D) (P : O → Prop) : Prop := match d with
  | .lst ds => ∃ zs : List Str, ds = zs.map .str ∧ zs.length < 64 ∧ ∀ (ys : List Str) a, ys.Perm zs → sortedS ys = true → P (.lst a (ys.map fun z => .fz (.str z)))
  | .frl ds => ∃ zs : List Str, ds = zs.map .str ∧ zs.length < 64 ∧ ∀ (ys : List Str) a, ys.Perm zs → sortedS ys = true → P (.lst a (ys.map fun z => .fz (.str z)))
  | .dct kvs => ∃ zs : List Str, kvs.map (·.1) = zs.map Sum.inr ∧ zs.length < 64 ∧ ∀ (ys : List Str) a, ys.Perm zs → sortedS ys = true → P (.lst a (ys.map fun z => .fz (.str z)))
  | _ => False
def rSortDS : List V → Hp → VK → Prop := fun xs H Q => ∃ (a : Addr) (kvs : List (Key × V)) (ks : List Str), xs = [.ref a] ∧ Rd H a (.dK kvs) ∧ kvs.map (·.1) = ks.map Sum.inr ∧ ks.length < 64 ∧
    ∀ ys p, ys.Perm ks → sortedS ys = true → H p = none → Q (.ref p) (upd H p (.lst (ys.map V.str)))
theorem cr_sortS (hc : X.calm = true) : CallR X (.builtin "sorted") (fun xs H Q => rSortedS X.K xs H Q ∨ rSortDS xs H Q) := cr_sortedS.or (call_sortedD hc)
theorem repL_strs_of {F : Hp} : ∀ (ys : List Str), (∀ y ∈ ys, y.length ≤ sizeLine) → RepL K F (ys.map V.str) (ys.map D.str)
  | [], _ => .nil
  | y :: ys, h => .cons (.str y (h y List.mem_cons_self)) (repL_strs_of ys fun z hz => h z (List.mem_cons_of_mem _ hz))
theorem repL_strs_len {F : Hp} : ∀ {ys : List Str} {vs : List V}, RepL K F vs (ys.map .str) → ∀ y ∈ ys, y.length ≤ sizeLine
  | [], _, .nil => fun _ h => (by cases h)
  | y :: ys, _, .cons h r => fun z hz => by
    rcases List.mem_cons.mp hz with e | e
    · subst e
      cases h with
      | str _ z => exact z
    · exact repL_strs_len r z e
theorem RepK.keysS {F : Hp} : ∀ {es : List (Key × V)} {kvs : List (Key × D)} {zs : List Str}, RepK K F es kvs → kvs.map (·.1) = zs.map Sum.inr → es.map (·.1) = zs.map Sum.inr ∧ ∀ z ∈ zs, z.length ≤ sizeLine
  | _, _, zs, .nil, h => by
    cases zs with
    | nil => exact ⟨rfl, fun _ h => (by cases h)⟩
    | cons z zs => cases h
  | _, _, zs, .cons (k := k) q rv r, h => by
    cases zs with
    | nil => cases h
    | cons z zs =>
      rw [List.map_cons, List.map_cons] at h
      injection h with h1 h2
      obtain ⟨e, o⟩ := RepK.keysS r h2
      have h1 : k = Sum.inr z := h1
      subst h1
      refine ⟨by rw [List.map_cons, List.map_cons, e], fun y hy => ?_⟩
      rcases List.mem_cons.mp hy with e | e
      · rw [e]; exact q
      · exact o y e
theorem Res.strs {F H : Hp} {p : Addr} {ys : List Str} (hp : H p = none) (z : ys.length ≤ sizeLine) (h : ∀ y ∈ ys, y.length ≤ sizeLine) : Res K F H (.lst p (ys.map fun z => .fz (.str z))) (.ref p) F (upd H p (.lst (ys.map V.str))) := by
  have := Res.lst (K := K) (F := F) (H := H) (p := p) hp (by rw [List.length_map]; exact z) (repL_strs_of ys h)
  rwa [List.map_map] at this
theorem sem_sortS : SemO1 K (fun xs H Q => rSortedS K xs H Q ∨ rSortDS xs H Q) semSortS := by
  intro F H x d P Q sb rx hs k
  unfold semSortS at hs
  split at hs
  · obtain ⟨zs, rfl, h64, h⟩ := hs
    cases rx with
    | @lst a xs _ ha z r =>
      have e := repL_strs r
      subst e
      have ln := repL_strs_len r
      exact .inl ⟨a, zs, rfl, .inl (.inl (sb.lst ha)), h64, fun ys p pm so hp => k _ _ _ _ (h ys p pm so) (Res.strs hp (by rw [pm.length_eq]; exact small64 h64) fun y hy => ln y (pm.mem_iff.mp hy))⟩
  · obtain ⟨zs, rfl, h64, h⟩ := hs
    cases rx with
    | @frl a xs _ ha z r =>
      have e := repL_strs r
      subst e
      have ln := repL_strs_len r
      exact .inl ⟨a, zs, rfl, sb.sqL ha, h64, fun ys p pm so hp => k _ _ _ _ (h ys p pm so) (Res.strs hp (by rw [pm.length_eq]; exact small64 h64) fun y hy => ln y (pm.mem_iff.mp hy))⟩
  · obtain ⟨zs, e, h64, h⟩ := hs
    cases rx with
    | @dct a es _ ha z r =>
      obtain ⟨e2, ln⟩ := r.keysS e
      exact .inr ⟨a, es, zs, rfl, sb.dK ha, e2, h64, fun ys p pm so hp => k _ _ _ _ (h ys p pm so) (Res.strs hp (by rw [pm.length_eq]; exact small64 h64) fun y hy => ln y (pm.mem_iff.mp hy))⟩
  · exact hs.elim

/-! ### xs[::-1] -/
end
section
open HT
variable {prog : Program} {w : World} {A : Around} {E : Value → Shared → Prop} {s : Shared}
theorem pick_rev (xs : Array Value) : ((List.range xs.size).filterMap fun (m : Nat) => xs[(((xs.size : Int) - 1) + (m : Int) * (-1)).toNat]?).toArray = xs.toList.reverse.toArray := by
  congr 1
  rw [← PySem.W.krv_all xs, ← List.filterMap_reverse, ← PySem.W.krv_range, List.filterMap_map]
  have cg : ∀ (l : List Nat) (f g : Nat → Option Value), (∀ m ∈ l, f m = g m) → l.filterMap f = l.filterMap g := fun l f g => by
    induction l with
    | nil => intro _; rfl
    | cons m l ih =>
      intro h
      rw [List.filterMap_cons, List.filterMap_cons, h m List.mem_cons_self, ih fun q hq => h q (List.mem_cons_of_mem _ hq)]
  refine cg _ _ _ fun m hm => ?_
  have := List.mem_range.mp hm
  show xs[(((xs.size : Int) - 1) + (m : Int) * (-1)).toNat]? = xs[xs.size - 1 - m]?
  rw [show (((xs.size : Int) - 1) + (m : Int) * (-1)).toNat = xs.size - 1 - m by omega]
theorem sliceApplied_rev {sl : Addr} {vs : Value} {n : Nat} {Q : Int × Int × Nat → Shared → Prop} (hs : s.heap.IsSliceOf sl .none .none vs) (ps : IsPart vs (some (-1)))
    (h : Q ((n : Int) - 1, -1, n) s) : wpAny (model prog w) A (Builtin.Slice.sliceApplied (.ref sl) (pure (n : Int))) Q E s := by
  obtain ⟨os, hos, hcs, hds⟩ := id hs
  unfold Builtin.Slice.sliceApplied Builtin.Slice.sliceFields
  refine wpAny_bind (wpAny_bind (wpAny_field hos hds (x := .none) rfl (wpAny_bind (wpAny_field hos hds (x := .none) rfl (wpAny_bind (wpAny_field hos hds (x := vs) rfl (wpAny_pure ?_)))))))
  refine wpAny_bind (slicePart_ ps ?_)
  show wpAny _ _ (if ((-1 : Int) == 0) = true then _ else _) _ _ s
  rw [if_neg (by decide)]
  refine wpAny_bind (slicePart_none (wpAny_bind (slicePart_none (wpAny_bind (wpAny_pure ?_)))))
  show wpAny _ _ (pure ((n : Int) - 1, (-1 : Int), Builtin.Slice.slicePlaces ((n : Int) - 1) (-1) (-1))) _ _ s
  have e : Builtin.Slice.slicePlaces ((n : Int) - 1) (-1) (-1) = n := by
    unfold Builtin.Slice.slicePlaces
    rw [if_neg (by decide)]
    by_cases z : n = 0
    · subst z; rfl
    · rw [if_pos (by omega), show -(-1 : Int) = 1 from rfl, Int.ediv_one]; omega
  rw [e]
  exact wpAny_pure h
theorem getItem_tuple_rev {t sl : Addr} {items : Array Value} {vs : Value} {Q : Value → Shared → Prop} (ht : IsTup s.heap t items) (hs : s.heap.IsSliceOf sl .none .none vs) (ps : IsPart vs (some (-1)))
    (h : Q (.ref s.heap.objs.size) { s with heap := s.heap.push { cls := .type "tuple", data := .seq items.toList.reverse.toArray } })
    (hsz : items.size ≤ sizeLine) : wpAny (model prog w) A (getItem (.ref t) (.ref sl)) Q E s := by
  have htake : sizeOk (.seq items.toList.reverse.toArray) := by
    show items.toList.reverse.toArray.size ≤ sizeLine
    rw [List.size_toArray, List.length_reverse, Array.length_toList]
    exact hsz
  obtain ⟨os, hos, hcs, hds⟩ := id hs
  have hTs : s.TypeIs (.ref sl) "slice" := ⟨os, hos, hcs⟩
  unfold getItem
  try with_reducible refine wpAny_holding ?_
  first | refine wpAny_bind (wpAny_pure ?_) | skip
  refine wpAny_bind (wpAny_sequenceKey ht.typeIs (by decide) ?_)
  refine wpAny_bind (wpAny_callSpecial?_slot (name := Str.ofString "__getitem__") ht.typeIs PyProof.Rows.slot_tuple_getitem
    (wpAny_call_entry PyProof.Rows.slot_tuple_getitem ht.typeIs entry_tuple_getitem ?_ (args_tuple_getitem _ _)))
  show wpAny _ _ (Builtin.Tuple.tupleItemsOf (.ref t) >>= _) _ _ s
  refine wpAny_bind (tupleItemsOf_ ht ?_)
  refine wpAny_bind (wpAny_typeOf hTs ?_)
  rw [if_pos (by decide)]
  refine wpAny_bind (sliceApplied_rev hs ps ?_)
  show wpAny _ _ (if (((items.size : Int) - 1) == 0 && (-1 : Int) == 1 && items.size == items.size) = true then _ else _) _ _ s
  rw [if_neg (by simp), pick_rev]
  first
    | exact wpAny_bind (m := Builtin.Tuple.tupleExact _) (wpAny_newObj_type (wpAny_pure ⟨_, rfl, wpAny_pure h⟩) htake)
    | exact wpAny_bind (m := Builtin.Tuple.tupleExact _) (wpAny_newObj_type (wpAny_bind (wpAny_pure (wpAny_pure ⟨_, rfl, wpAny_pure h⟩))) htake)
    | exact wpAny_bind (wpAny_bind (m := Builtin.Tuple.tupleExact _) (wpAny_newObj_type (wpAny_pure (wpAny_pure ⟨_, rfl, wpAny_pure h⟩)) htake))
    | exact wpAny_bind (wpAny_bind (m := Builtin.Tuple.tupleExact _) (wpAny_newObj_type (wpAny_pure ⟨_, rfl, wpAny_pure h⟩) htake))
end
section
variable {X : Cx} {K : PySem.W.Frag}
def tRevX (K : PySem.W.Frag) (te : TE) : TE := fun σ H Q => te σ H fun x H1 => ∃ a xs, x = .ref a ∧ ((SqL K H1 a xs ∧ ∀ p, H1 p = none → Q (.ref p) (upd H1 p (.lst xs.reverse))) ∨ (SqT K H1 a xs ∧ ∀ p, H1 p = none → Q (.ref p) (upd H1 p (.tup xs.reverse))))
theorem pe_revX {e : Expr} {te : TE} {k : Nat} {p1 p2 p3 pos : Pos} (he : PE X e te) : PE X (.Subscript e (.Slice none none (some (.UnaryOp .USub (.Constant (.int 1) k p1) p2)) p3) pos) (tRevX X.K te) := by
  refine ⟨fun pins s σ H Q I h => ?_⟩
  refine Subscript_ (thn (he.run pins s σ H _ I h) fun v s1 ⟨x, H1, I1, r1, q1⟩ => ?_)
  obtain ⟨a, xs, ex, hx⟩ := q1
  subst ex
  cases r1
  have hst : PO X (some (.UnaryOp .USub (.Constant (.int 1) k p1) p2)) (tPart (tUn (rU fun i => .int (-i)) (tC (.int 1)))) := po_some (pe_un un_neg pe_int)
  refine wpAny_Slice (thn (po_none.run pins s1 σ H1 (fun o H2 => o = none ∧ H2 = H1) I1 ⟨rfl, rfl⟩) fun vl s2 ⟨l, H2, I2, pl, el, e2⟩ => ?_)
  subst el e2
  refine thn (po_none.run pins s2 σ H2 (fun o H3 => o = none ∧ H3 = H2) I2 ⟨rfl, rfl⟩) fun vu s3 ⟨u, H3, I3, pu, eu, e3⟩ => ?_
  subst eu e3
  refine thn (hst.run pins s3 σ H3 (fun o H4 => o = some (-1) ∧ H4 = H3) I3 ⟨1, rfl, -1, rfl, rfl, rfl⟩) fun vs s4 ⟨o, H4, I4, ps, eo, e4⟩ => ?_
  subst eo e4
  have I5 : Inv X pins σ H4 { s4 with heap := s4.heap.push { cls := .type "slice", data := .fields #[vl, vu, vs] } } := I4.kept (t' := s4.toks) fun b ob q => Heap.get?_push_of_some _ q
  rcases hx with ⟨hx, q⟩ | ⟨hx, q⟩
  · obtain ⟨its, r, ht, hz⟩ := I5.list hx
    have hlen := r.length
    show wpAny (model X.prog X.w) X.A (subscriptTail e (.Slice none none (some (.UnaryOp .USub (.Constant (.int 1) k p1) p2)) p3) (.ref a) (.ref s4.heap.objs.size)) (EP X pins σ Q) X.xe { s4 with heap := s4.heap.push { cls := .type "slice", data := .fields #[vl, vu, vs] } }
    refine tail_any (ops := [.ref a, .ref s4.heap.objs.size]) ht.isList.typeIs (PySem.slot_list_getitem.lookup) ?_ (by with_unfolding_all rfl)
    refine wpAny_getItem_list_slice ht.isList (Heap.IsSliceOf.new _ vl vu vs) pl pu ps (by decide) ?_ (by rw [List.size_toArray]; omega)
    rw [PySem.W.krv_pick]
    refine ⟨.ref _, _, I5.laid (t' := s4.toks) (o := .lst xs.reverse) (fun b ob q => Heap.get?_push_of_some _ q) (Nat.le_refl _) ?_, rfl, q _ (I5.hok.fresh (Nat.le_refl _))⟩
    exact ⟨by rw [List.length_reverse]; exact hz, _, 0, r.reverse, Heap.get?_push_size _ rfl⟩
  · obtain ⟨its, r, ht, hz⟩ := I5.tuple hx
    have hlen := r.length
    cases pl
    cases pu
    show wpAny (model X.prog X.w) X.A (subscriptTail e (.Slice none none (some (.UnaryOp .USub (.Constant (.int 1) k p1) p2)) p3) (.ref a) (.ref s4.heap.objs.size)) (EP X pins σ Q) X.xe { s4 with heap := s4.heap.push { cls := .type "slice", data := .fields #[.none, .none, vs] } }
    refine tail_any (ops := [.ref a, .ref s4.heap.objs.size]) ht.typeIs (PyProof.Rows.slot_tuple_getitem.lookup) ?_ (by with_unfolding_all rfl)
    refine getItem_tuple_rev ht (Heap.IsSliceOf.new _ .none .none vs) ps ?_ (by rw [List.size_toArray]; omega)
    refine ⟨.ref _, _, I5.laid (t' := s4.toks) (o := .tup xs.reverse) (fun b ob q => Heap.get?_push_of_some _ q) (Nat.le_refl _) ?_, rfl, q _ (I5.hok.fresh (Nat.le_refl _))⟩
    exact ⟨by rw [List.length_reverse]; exact hz, _, r.reverse, IsTup.new _ _⟩
/-- x[::-1], a list or a tuple -/
def wRev (w : WD) : WO := fun ρ P => w ρ fun d ρ1 => match d with
  | .tup ds => P (.fz (.tup ds.reverse)) ρ1
  | .lst ds => ∀ a, P (.lst a (ds.reverse.map .fz)) ρ1
  | .frl ds => ∀ a, P (.lst a (ds.reverse.map .fz)) ρ1
  | _ => False
theorem RepL.reverse {F : Hp} : ∀ {vs : List V} {ds : List D}, RepL K F vs ds → RepL K F vs.reverse ds.reverse
  | _, _, .nil => .nil
  | _, _, .cons h r => by
    rw [List.reverse_cons, List.reverse_cons]
    exact (RepL.reverse r).append (.cons h .nil)
theorem xo_rev {e : Expr} {w : WD} {k : Nat} {p1 p2 p3 pos : Pos} (he : XE X e w) : XO X (.Subscript e (.Slice none none (some (.UnaryOp .USub (.Constant (.int 1) k p1) p2)) p3) pos) (wRev w) :=
  ⟨PE.imp (pe_revX he.pe) fun σ H Q ⟨ρ, F, P, s, hw, k⟩ => by
    refine ⟨ρ, F, _, s, hw, fun d ρ1 F1 H1 v p s1 r f => ?_⟩
    cases d <;> first
      | (exact p.elim)
      | skip
    · cases r with
      | @tup a xs ds hF z r =>
        refine ⟨a, xs, rfl, .inr ⟨s1.sub.sqT hF, fun q hq => ?_⟩⟩
        obtain ⟨t, g⟩ := Res.tup (K := X.K) s1.sub hq (by rw [List.length_reverse]; exact z) r.reverse ρ1 σ s1
        exact k _ _ _ _ _ p t (f.trans g)
    · cases r with
      | @lst a xs ds hF z r =>
        refine ⟨a, xs, rfl, .inl ⟨.inl (.inl (s1.sub.lst hF)), fun q hq => ?_⟩⟩
        obtain ⟨t, g⟩ := Res.lst (K := X.K) hq (by rw [List.length_reverse]; exact z) r.reverse ρ1 σ s1
        exact k _ _ _ _ _ (p q) t (f.trans g)
    · cases r with
      | @frl a xs ds hF z r =>
        refine ⟨a, xs, rfl, .inl ⟨s1.sub.sqL hF, fun q hq => ?_⟩⟩
        obtain ⟨t, g⟩ := Res.lst (K := X.K) hq (by rw [List.length_reverse]; exact z) r.reverse ρ1 σ s1
        exact k _ _ _ _ _ (p q) t (f.trans g)⟩
end

/-! ### a text so many times; a, b = e1, e2 held -/
section
variable {X : Cx} {K : PySem.W.Frag}
def repS (x : Str) (n : Int) : Str := ⟨(List.replicate n.toNat x.cps).foldl (· ++ ·) #[]⟩
theorem repS_len (x : Str) (n : Int) : (repS x n).length = n.toNat * x.length := by
  have : ∀ (k : Nat) (acc : Array Nat), ((List.replicate k x.cps).foldl (· ++ ·) acc).size = acc.size + k * x.length := by
    intro k
    induction k with
    | zero => intro acc; simp
    | succ k ih =>
      intro acc
      rw [List.replicate_succ, List.foldl_cons, ih, Array.size_append, Nat.succ_mul]
      show acc.size + x.length + k * x.length = _
      omega
  have := this n.toNat #[]
  rw [show (#[] : Array Nat).size = 0 from rfl, Nat.zero_add] at this
  exact this
def rMulS : R2 := fun x y H Q => ∃ (a : Str) (n : Int), x = .str a ∧ y = .int n ∧ 2 ≤ n ∧ n ≤ 1000 ∧ 1 ≤ a.length ∧ a.length ≤ 1000 ∧ Q (.str (repS a n)) H
theorem op_mulS : OpR X (binaryOp .Mult) rMulS := by
  intro pins s σ H x y v u Q I rx ry h
  obtain ⟨a, n, rfl, rfl, h1, h2, h3, h4, q⟩ := h
  obtain ⟨t, rfl⟩ := rx
  obtain ⟨t2, rfl⟩ := ry
  have hk : n.toNat ≤ 1000 := by omega
  have hm : a.length * n.toNat ≤ 1000 * 1000 := Nat.mul_le_mul h4 hk
  have hlen : (repS a n).length ≤ sizeLine := by
    rw [repS_len, Nat.mul_comm]
    exact Nat.le_trans hm (by decide)
  refine PySem.P.mul_str (by rw [decide_eq_false (by omega), decide_eq_false (by omega)]; rfl) (fun _ _ hgt => ?_) (fun _ _ => ?_) ?_
  · have e1 : (1000 : Int) ≤ (2 ^ 63 - 1) / n := by
      rw [Int.le_ediv_iff_mul_le (by omega)]
      omega
    omega
  · exact decide_eq_false (by have := Nat.le_trans hm (show 1000 * 1000 ≤ sizeLine by decide); omega)
  · rw [if_neg (by omega), if_neg (by
      rw [Bool.or_eq_true]
      rintro (e | e)
      · have := eq_of_beq e; omega
      · have := eq_of_beq e; omega)]
    exact ⟨hlen, .str (repS a n), H, I.tok _, ⟨_, rfl⟩, q⟩
def semMulX (d e : D) (P : O → Prop) : Prop := match d, e with
  | .str x, .int n => 2 ≤ n ∧ n ≤ 1000 ∧ 1 ≤ x.length ∧ x.length ≤ 1000 ∧ P (.fz (.str (repS x n)))
  | _, _ => False
theorem sem_mulX : SemR K rMulS semMulX := by
  intro F H x y d e P Q sb rx ry hs k
  unfold semMulX at hs
  split at hs
  · cases rx; cases ry
    obtain ⟨h1, h2, h3, h4, p⟩ := hs
    refine ⟨_, _, rfl, rfl, h1, h2, h3, h4, k _ _ _ _ p (.fz (.str _ ?_))⟩
    rw [repS_len]
    exact Nat.le_trans (Nat.mul_le_mul (show Int.toNat _ ≤ 1000 by omega) h4) (by decide)
  · exact hs.elim
/-- a, b = e1, e2, each as its maker holds it -/
def wParO (i j : Nat) (wa wb : WO) : WS := fun ρ E => wa ρ fun d ρ1 => wb ρ1 fun e ρ2 => putC ρ2 i (some d) fun ρ3 => putC ρ3 j (some e) E.nx
theorem xs_parO {st : Stmt} {i j : Nat} {wa wb : WO} (h : PS X st (tPar i j (liftAO X.K (wConsO wa (wConsO wb wNilO))))) : XS X st (wParO i j wa wb) := ⟨fun W tk => PS.imp h fun D σ H ⟨ρ, F, E, s, hw, k⟩ =>
  ⟨ρ, F, fun ds ρ' => match ds with
    | [d, e] => putC ρ' i (some d) fun ρ3 => putC ρ3 j (some e) E.nx
    | _ => False, s, hw, fun ds ρ' F' H' vs p s' l f => by
    match ds, p with
    | [d, e], p =>
    match vs, l with
    | [v, w], l =>
    have p : putC ρ' i (some d) fun ρ3 => putC ρ3 j (some e) E.nx := p
    refine ⟨_, _, rfl, ?_⟩
    have s' : SR X.K (some d :: some e :: ρ') (some v :: some w :: σ) F' H' := s'
    obtain ⟨s2, m2⟩ := s'.store (i := i + 1)
    have s2 : SR X.K (some e :: ρ'.set i (some d)) (some w :: σ.set i (some v)) F' H' := s2
    obtain ⟨s3, m3⟩ := s2.store (i := j)
    rw [putC_eq, putC_eq] at p
    exact k.nx _ _ _ _ p s3 (f.less fun c hc => m2 c (m3 c hc))⟩⟩
end
end Tr
/-! a def below the law's that asks repr: it is called where no repr runs. -/
namespace Tr
open PySem PySem.Spec PyProof.Rows L2
structure FnOkG (P : Program) (w : World) (K : PySem.W.Frag) (mg : Str → Option Value) (base : Heap) (k : Nat) (f : Addr) (fd : FuncData) (ps : List Str) (sp : Sp) : Prop where
  len : ∀ vs H Q E, sp vs H Q E → vs.length = ps.length
  run : ∀ (A : Around) (outer : List Env) (s : Shared) (H : Hp) (args : Args) (us : List Value) (vs : List V) (Q : VK) (E : XK), Room k A → A.guards = some [] → Env0 P w K mg base A outer s H → BindsTo s fd args (ps.zip us) → Vals vs us → sp vs H Q E →
    codeAny (model P w) A (.call (.ref f) args) (CR CX0 outer P w H s Q E) s
section
variable {P : Program} {w : World} {K : PySem.W.Frag} {mg : Str → Option Value} {base : Heap}
theorem fn_treeG {x qual : Str} {st : Stmt} {f : Addr} {fd : FuncData} {N ps : List Str} {k : Nat} {sp : SpT} {wb : WS} (Fn : Fun K x qual st f fd) (S : FnScope N ps (defScope st)) (len : ∀ os P, sp os P → os.length = ps.length)
    (body : ∀ (cdv : Value) (A : Around) (outer : List Env) (s : Shared) (H : Hp) (E : XK), Room k (A.deeper (envOfC qual (defScope st) s.heap.objs.size f cdv)) → (A.deeper (envOfC qual (defScope st) s.heap.objs.size f cdv)).guards = some [] →
      XSs (cxOf CX0 P w K mg base N qual (defScope st) f cdv A outer s H E).nox (defBody st) wb)
    (does : ∀ os P, sp os P → wb (start0 N.length os) (endsOf os P)) : FnOkG P w K mg base (k + 1) f fd ps (liftSp K sp) := by
  have hlen : ∀ vs H Q E, liftSp K sp vs H Q E → vs.length = ps.length := fun vs H Q E h => by
    obtain ⟨os, F, Pp, sr, hsp, _⟩ := h
    have l := sr.len
    rw [List.length_map, List.length_map] at l
    rw [← l]
    exact len _ _ hsp
  obtain ⟨oc, od, kV, doc, pm, an, cdv, ct, osl, rfl, lk, hcd⟩ := Fn.ex
  refine ⟨hlen, fun A outer s H args us vs Q E hr hg e0 hb r hsp => ?_⟩
  have hl := hlen _ _ _ _ hsp
  have old : ∀ b o, base.get? b = some o → s.heap.get? b = some o := fun b o e => (e0.bs b o e).1
  have kin : K.In s.heap := e0.mod.kin.keeps old
  refine codeAny_call_function hr.depth (kin _ _ lk) rfl S.co S.gen rfl (PySem.W.codeRec_of kin hcd) (hb _ _ _ _ (wpAny_newFunctionEnv_cells S.kind (fun q hq => ?_) fun env he s1 ic => ?_))
  · obtain ⟨n, v⟩ := q
    rcases S.par n (List.of_mem_zip hq).1 with q | q
    · exact .inl q
    · exact .inr ⟨q, PySem.W.cellsFrom_some _ _ _ (.inl q)⟩
  subst he
  obtain ⟨t, pt, hq⟩ := tree_ex (body cdv A outer s H E (hr.deeper _) hg) does hsp
  have I0 := inv_start (CX := CX0) (E := E) S hr.hd e0 hl r ic
  refine ⟨(e0.mod.nolimit.keeps old).keeps ic.toInCall.keep, codeAny_func (wpAny_mono (pt.nox.run [] s1 (L2.start N vs) H _ I0 hq) (fun fl s2 h2 => ?_) fun _ _ h => h)⟩
  cases fl <;> first
    | (obtain ⟨σ', H', J, q⟩ := h2; exact ⟨.non, H', J.os, J.bare, J.base, J.hok, rfl, q⟩)
    | (obtain ⟨_, _, _, q⟩ := h2; exact q.elim)
    | (obtain ⟨r, σ', H', J, rr, q⟩ := h2; exact ⟨r, H', J.os, J.bare, J.base, J.hok, rr, q⟩)
end
section
variable {X : Cx} {k : Nat} {f : Addr} {fd : FuncData} {ps : List Str} {sp : SpT} {x : Str} {p pos : Pos} {e : Expr} {es : List Expr} {wl : WL} {i : Nat}
theorem run_fnG {sp : Sp} {E : XK} {pins : List (Addr × Obj)} {σ : L2.St} {H : Hp} {s : Shared} {Q : VK} {us : List Value} {vs : List V} (F : FnOkG X.prog X.w X.K X.mg X.base k f fd ps sp) (hgd : X.A.guards = some []) (hr : Room k X.A) (hb : Binds X.K fd ps [])
    (I : Inv X pins σ H s) (r : Vals vs us) (h : sp (vs ++ []) H Q E) : wpAny (model X.prog X.w) X.A (call (.ref f) us) (EP X pins σ Q) X.xe s := by
  have r2 : Vals (vs ++ []) (us ++ []) := r.append .nil
  have hl : (us ++ []).length = ps.length := by rw [← r2.length]; exact F.len _ _ _ _ h
  refine wpAny_call (codeAny_mono (F.run X.A X.stack s H ⟨us, []⟩ (us ++ []) (vs ++ []) Q E hr hgd I.env0 (hb s us I.kIn hl) r2 h) fun r s' hq => ?_)
  cases r with
  | error e => exact hq.elim
  | ok fl =>
    cases fl with
    | ret u => exact I.after hq
    | _ => exact False.elim hq
theorem pe_callG {sp : Sp} {E : XK} {t : TA} (F : FnOkG X.prog X.w X.K X.mg X.base k f fd ps sp) (hgd : X.A.guards = some []) (hr : Room k X.A) (hg : Gl X x) (hm : X.mg x = some (.ref f)) (hk : PySem.W.keepIn X.K (.ref f) = true) (hb : Binds X.K fd ps [])
    (ha : PA X (e :: es) t) (hdb : (x == ("__debug__" : Str)) = false := by decide) (he : starEach (e :: es) X.env = (false, eval e X.env) :: starEach es X.env := by rfl) (hpl : (backTo pos (starEach es X.env)).any (·.1) = false := by rfl) :
    PE X (.Call (.Name x p) (e :: es) [] pos) (tCall sp [] E t) := by
  refine ⟨fun pins s σ H Q I h => ?_⟩
  refine wpAny_Call_Name_kw (ld_glob I hg hm ?_ hdb)
  refine PySem.W.callWith_K (h₀ := X.base) I.ok.mod.kin hk (thn (ha.run pos pins s σ H _ I h) fun us s1 ⟨vs, H1, I1, r, q⟩ => ⟨I1.kIn, ?_⟩) he hpl
  exact run_fnG F hgd hr hb I1 r q
theorem xo_callG (G : FnOkG X.prog X.w X.K X.mg X.base k f fd ps (liftSp X.K sp)) (hgd : X.A.guards = some []) (hr : Room k X.A) (hg : Gl X x) (hm : X.mg x = some (.ref f)) (hk : PySem.W.keepIn X.K (.ref f) = true) (hb : Binds X.K fd ps [])
    (ha : XA X (e :: es) wl) (hdb : (x == ("__debug__" : Str)) = false := by decide) (he : starEach (e :: es) X.env = (false, eval e X.env) :: starEach es X.env := by rfl) (hpl : (backTo pos (starEach es X.env)).any (·.1) = false := by rfl) :
    XO X (.Call (.Name x p) (e :: es) [] pos) (wCall sp wl) := ⟨PE.imp (pe_callG (E := E0) G hgd hr hg hm hk hb ha.pa hdb he hpl) fun _ _ _ h => t_call h⟩
theorem xo_callSG (G : FnOkG X.prog X.w X.K X.mg X.base k f fd ps (liftSp X.K sp)) (hgd : X.A.guards = some []) (hr : Room k X.A) (hg : Gl X x) (hm : X.mg x = some (.ref f)) (hk : PySem.W.keepIn X.K (.ref f) = true) (hb : Binds X.K fd ps [])
    (h0 : PE X e (tVar i)) (ha : XA X es wl) (hdb : (x == ("__debug__" : Str)) = false := by decide) (he : starEach (e :: es) X.env = (false, eval e X.env) :: starEach es X.env := by rfl) (hpl : (backTo pos (starEach es X.env)).any (·.1) = false := by rfl) :
    XO X (.Call (.Name x p) (e :: es) [] pos) (wCallS sp i wl) := ⟨PE.imp (pe_callG (E := E0) G hgd hr hg hm hk hb (pa_cons h0 ha.pa he) hdb he hpl) fun _ _ _ h => t_callS h⟩
end
end Tr
/-! sum(xs, start=k). -/
namespace Tr
open PySem PySem.Spec PyProof.Rows L2
section
variable {prog : Program} {w : World} {A : Around} {E : Value → Shared → Prop} {s : Shared}
theorem function_tree_kw {id : String} {b : Builtin} {args : List Value} {kw : List (Str × Value)} {Q : Value → Shared → Prop} (hk : builtinKind id = none) (hp : plainId id = true)
    (hb : entryFor table id = some b) (ha : argsOk id ⟨args, kw⟩)
    (hc : wpAny (model prog w) A.in1 (b ⟨args, kw⟩) (fun fin s' => match fin with
      | .done f => (match (Except.ok f : Result) with | .ok (.ret v) => Q v s' | .ok _ => False | .error e => E e s')
      | .again c' => c'.quiet = true ∧ codeAny (model prog w) A c' (fun r s' => match r with | .ok (.ret v) => Q v s' | .ok _ => False | .error e => E e s') s') E s) :
    wpAny (model prog w) A (call (.builtin id) args kw) Q E s := by
  refine wpAny_call (codeAny_call_builtin hp hb ?_)
  simp only [checkBuiltinCall, hk]
  cases hsig : Manifest.signature? id with
  | none => exact wpAny_pure hc
  | some sig =>
    simp only [argsOk, hsig] at ha
    have h2 : Bind.checkArgs id sig ⟨args, kw⟩ = pure () := ha
    show wpAny _ A.in1 (Bind.checkArgs id sig ⟨args, kw⟩) _ _ s
    rw [h2]; exact wpAny_pure hc
def aheadP (P : Nat → Value → Prop) : Nat → Value → Prop
  | 0, _ => False
  | i + 1, v => P i v
def aheadS (St : Nat → Heap → Prop) : Nat → Heap → Prop
  | 0, _ => False
  | i + 1, h => St i h
def aheadV (a : Int) (val : Nat → Int) : Nat → Int
  | 0 => a
  | i + 1 => val i
theorem walks_ahead {I : Addr} {fp wr : List Addr} {n : Nat} {P : Nat → Value → Prop} {St : Nat → Heap → Prop} (W : Walks prog w A I fp wr n P St) : Walks prog w A I fp wr (n + 1) (aheadP P) (aheadS St) where
  sub := W.sub
  frame := fun i h h' st hk => match i, st with
    | 0, st => False.elim st
    | i + 1, st => W.frame i h h' st hk
  item := fun i s Q E hi st hQ => match i, st, hQ with
    | 0, st, _ => False.elim st
    | i + 1, st, hQ => W.item i s Q E (by omega) st hQ
  done := fun s Q E st hQ => W.done s Q E st hQ
  self := fun i s Q E st hQ => match i, st with
    | 0, st => False.elim st
    | i + 1, st => W.self i s Q E st hQ
theorem preSum_ahead (a : Int) (val : Nat → Int) : ∀ k, preSum (aheadV a val) (k + 1) = a + preSum val k
  | 0 => by show (0 : Int) + a = a + 0; omega
  | k + 1 => by
    show preSum (aheadV a val) (k + 1) + val k = a + (preSum val k + val k)
    rw [preSum_ahead a val k]; omega
theorem sum_start {l : Addr} {xs : Array (Int × Tok)} {a : Int} {t : Tok} {Q : Value → Shared → Prop} (hh : A.handled = none) (hl : s.heap.IsList l (intItems xs))
    (h : ∀ h' tk t', (∀ b o, s.heap.get? b = some o → h'.get? b = some o) → Q (.int (a + preSum (numAt xs) xs.size) t') { s with heap := h', toks := tk }) :
    wpAny (model prog w) A (call (.builtin "sum") [.ref l] [("start", .int a t)]) Q E s := by
  refine function_tree_kw F.kind_sum F.plain_sum F.entry_sum (by unfold argsOk; kernel_rfl) ?_
  unfold Builtin.«sum»
  simp only [List.length_cons, List.length_nil]
  rw [if_neg (by decide)]
  refine wpAny_bind (wpAny_of_eq (show Builtin.Builtins.bindParams "sum" ["start"] 0 ⟨[], [("start", .int a t)]⟩ = pure [some (.int a t)] from rfl) ?_)
  refine wpAny_bind (iter_intList hl fun s₂ e st hfp hlI => ?_)
  have W := walks_ahead (Walks.list (prog := prog) (w := w) (A := A.in1) hh s.heap.objs.size l hlI (intItems xs))
  subst e
  have fin : ∀ (t2 t3 : Tok) (stage : Int), (stage = 0 ∨ stage = 2) → wpAny (model prog w) A.in1 (do
      let x ← newList [Value.int a t2]
      again (Code.builtin "sum.loop" ⟨[Value.ref s.heap.objs.size, x, rawInt stage, rawInt 0], []⟩)) (fun fin s' => match fin with
      | .done f => (match (Except.ok f : Result) with | .ok (.ret v) => Q v s' | .ok _ => False | .error e => E e s')
      | .again c' => c'.quiet = true ∧ codeAny (model prog w) A c' (fun r s' => match r with | .ok (.ret v) => Q v s' | .ok _ => False | .error e => E e s') s') E
      { s with heap := s.heap.push { cls := .type "list_iterator", data := .fields #[.ref l, .int 0 0] }, toks := t3 } := fun t2 t3 stage hs => by
    refine wpAny_bind (wpAny_newObj_type ?_)
    have hp1 : preSum (aheadV a (numAt xs)) 1 = a := Int.zero_add a
    have hSf : (s.heap.push { cls := .type "list_iterator", data := .fields #[.ref l, .int 0 0] }).objs.size ∉ [s.heap.objs.size, l] := fun hm => Nat.lt_irrefl _ (hfp _ hm)
    refine wpAny_pure ⟨plainId_quiet F.plain_sum_loop _, codeAny_sum_loopG W (aheadV a (numAt xs)) (fun i v hv => ?_) _ hSf (intItems xs).size 1 _ t2 0 stage hs (by omega) (by omega)
      (W.frame 1 _ _ st fun b _ o e => Heap.get?_push_of_some _ e) (by rw [hp1]; exact Heap.get?_push_size _ rfl) fun h' tk t' hk => ?_⟩
    · match i, hv with
      | 0, hv => exact False.elim hv
      | i + 1, hv => exact intItems_at hv
    · have hn : (intItems xs).size = xs.size := by simp [intItems]
      rw [preSum_ahead, hn]
      exact h h' tk t' fun b o e => hk b o (fun hb => absurd (Heap.lt_size e) (by rw [List.mem_singleton.mp hb]; exact Nat.lt_irrefl _)) (Nat.ne_of_lt (Nat.lt_trans (Heap.lt_size e) (by rw [Heap.size_push]; exact Nat.lt_succ_self _))) (Heap.get?_push_of_some _ (Heap.get?_push_of_some _ e))
  have chk : ∀ (t2 t3 : Tok) (stage : Int), (stage = 0 ∨ stage = 2) → True := fun _ _ _ _ => trivial
  dsimp only
  split
  · refine wpAny_bind (wpAny_rule ?_)
    refine wpAny_bind (wpAny_mkInt ?_)
    refine wpAny_bind (wpAny_pure ?_)
    simp only [List.forIn_cons, List.forIn_nil]
    refine wpAny_bind (wpAny_bind (wpAny_bind (wpAny_isInstance (T := "int") (b := false) (PySem.typeIs_int _ _ _) PySem.sub_int_str ?_)))
    simp only [Bool.false_eq_true, if_false]
    refine wpAny_pure (wpAny_bind (wpAny_bind (wpAny_isInstance (T := "int") (b := false) (PySem.typeIs_int _ _ _) PySem.sub_int_bytes ?_)))
    simp only [Bool.false_eq_true, if_false]
    refine wpAny_pure (wpAny_bind (wpAny_bind (wpAny_isInstance (T := "int") (b := false) (PySem.typeIs_int _ _ _) PySem.sub_int_bytearray ?_)))
    simp only [Bool.false_eq_true, if_false]
    refine wpAny_pure (wpAny_pure ?_)
    exact fin _ _ 0 (.inl rfl)
  · refine wpAny_bind (wpAny_pure ?_)
    simp only [List.forIn_cons, List.forIn_nil]
    refine wpAny_bind (wpAny_bind (wpAny_bind (wpAny_isInstance (T := "int") (b := false) (PySem.typeIs_int _ _ _) PySem.sub_int_str ?_)))
    simp only [Bool.false_eq_true, if_false]
    refine wpAny_pure (wpAny_bind (wpAny_bind (wpAny_isInstance (T := "int") (b := false) (PySem.typeIs_int _ _ _) PySem.sub_int_bytes ?_)))
    simp only [Bool.false_eq_true, if_false]
    refine wpAny_pure (wpAny_bind (wpAny_bind (wpAny_isInstance (T := "int") (b := false) (PySem.typeIs_int _ _ _) PySem.sub_int_bytearray ?_)))
    simp only [Bool.false_eq_true, if_false]
    refine wpAny_pure (wpAny_pure ?_)
    exact fin _ _ 2 (.inr rfl)
end
section
variable {X : Cx} {K : PySem.W.Frag}
def rSumS (K : PySem.W.Frag) : List V → List V → Hp → VK → Prop := fun xs zs H Q => ∃ (a : Addr) (ns : List Int) (k : Int), xs = [.ref a] ∧ zs = [.int k] ∧ SqL K H a (ns.map V.int) ∧ Q (.int (k + ns.sum)) H
theorem cr_sumS (hc : X.calm = true) : CallRK X (.builtin "sum") [("start" : Str)] (rSumS X.K) := by
  intro pins s σ H vs zs us ws Q I r rz h
  obtain ⟨a, ns, k, rfl, rfl, hs, q⟩ := h
  obtain ⟨its, rv, hl, _⟩ := I.list hs
  rw [Vals.ref1 r]
  obtain ⟨u, rfl, t, rfl⟩ := vals1 rz
  have hi := rv.ints
  obtain ⟨xs, e⟩ := hi.allInts.items
  have hn : numsOf (intItems xs).toList = ns := by rw [← e]; exact hi.numsOf
  rw [nums_intItems] at hn
  have hl := hl.isList
  rw [e] at hl
  refine sum_start (I.ok.hd hc) hl fun h' tk t' hk => ⟨.int _, H, I.kept hk, ⟨_, rfl⟩, ?_⟩
  rw [preSum_eq, List.take_of_length_le (by simp), hn]
  exact q
def semSumS (d e : D) (P : D → Prop) : Prop := match d, e with
  | .lst ds, .int k => ∃ ns, D.ints ds = some ns ∧ P (.int (k + ns.sum))
  | _, _ => False
variable {e e2 : Expr} {w w2 : WD} {p pos kpos : Pos}
theorem xe_sumS (hc : X.calm = true) (hg : Gl X "sum") (hm : X.mg "sum" = none) (ha : XE X e w) (hb : XE X e2 w2)
    (he : starEach [e] X.env = (false, eval e X.env) :: starEach [] X.env := by rfl)
    (he2 : backTo pos (starEach [e] X.env) = (false, eval e X.env) :: backTo pos (starEach [] X.env) := by rfl) (hpl : (backTo pos (starEach [e] X.env)).any (·.1) = false := by rfl)
    (hall : (backToKw pos (keywordEach [⟨some "start", e2, kpos⟩] X.env)).all (·.1.isSome) = true := by rfl) (hnone : (backToKw pos (keywordEach [⟨some "start", e2, kpos⟩] X.env)).any (·.1.isNone) = false := by rfl)
    (hks : (backToKw pos (keywordEach [⟨some "start", e2, kpos⟩] X.env)).filterMap (·.1) = [("start" : Str)] := by rfl) :
    XE X (.Call (.Name "sum" p) [e] [⟨some "start", e2, kpos⟩] pos) (wCmp semSumS w w2) :=
  ⟨PE.imp (pe_callBK (cr_sumS hc) hg hm (by decide +kernel) (pa_cons ha.pe pa_nil he) (pk_cons hb.pe pk_nil) (by decide) (by decide) he2 hpl hall hnone hks) fun σ H Q ⟨ρ, F, P, s, hw, k⟩ =>
    ⟨ρ, F, _, s, hw, fun d ρ1 F1 H1 v p s1 r1 f1 => ⟨ρ1, F1, _, s1, p, fun e ρ2 F2 H2 u p2 s2 r2 f2 => by
      unfold semSumS at p2
      split at p2
      · obtain ⟨ns, en, h⟩ := p2
        have r1 := r1.mono f2.fz
        cases r1 with
        | lst h1 z r =>
          cases r2
          exact ⟨_, ns, _, rfl, rfl, by rw [← r.ints en]; exact .inl (.inl (s2.sub.lst h1)), k _ _ _ _ _ h s2 (.int _) (f1.trans f2)⟩
      · exact p2.elim⟩⟩⟩
end
end Tr
/-! dicts: a copy, and == of two. -/
namespace Tr
open PySem PySem.Spec PyProof.Rows L2
open SeqAt
section
variable {X : Cx} {K : PySem.W.Frag}
/-- dict(d) of a dict -/
def semDictD (d : D) (P : O → Prop) : Prop := match d with
  | .dct kvs => ∀ a, P (.dct a kvs)
  | _ => False
theorem sem_dictD : SemO1 K (fun xs H Q => ∃ (a : Addr) (kvs : List (Key × V)), xs = [.ref a] ∧ Rd H a (.dK kvs) ∧ ∀ p, H p = none → Q (.ref p) (upd H p (.dK kvs))) semDictD := by
  intro F H x d P Q sb rx hs k
  unfold semDictD at hs
  split at hs
  · cases rx with
    | @dct a es kvs ha z r =>
      exact ⟨a, es, rfl, sb.dK ha, fun p hp => k _ _ _ _ (hs p) (Res.dct hp z r)⟩
  · exact hs.elim
def deqK (ls : List (Key × D)) : List (Key × D) → Option Bool
  | [] => some true
  | (k, d) :: r => match getG ls k with
    | none => some false
    | some e => match deq 59 d e, deqK ls r with
      | some a, some b => some (a && b)
      | _, _ => none
theorem hits_of {pins : List (Addr × Obj)} {σ : L2.St} {F H : Hp} {s : Shared} (I : Inv X pins σ H s) (sb : Sb F H) {A : Around} (hu : A.units + 59 < cLine) {es2 : List (Key × V)} {ls : List (Key × D)} {vb : List (Key × Value)} (r2 : RepK X.K F es2 ls) (kb : KV es2 vb) {es1 : List (Key × V)} {va : List (Key × Value)} (ka : KV es1 va) :
    ∀ (ks : List (Key × D)) (r : Bool), RepK X.K F es1 ks → deqK ls ks = some r → PySem.W.KeqHits A s vb va r := by
  unfold KV at ka
  induction ka with
  | nil =>
    intro ks r r1 h
    cases r1
    cases h
    exact .nil
  | @cons p q ps qs h t ih =>
    intro ks r r1 hq
    obtain ⟨h1, h2⟩ := h
    obtain ⟨key, v⟩ := q
    cases r1 with
    | @cons k x _ d kvs qk rv r1 =>
      have h1 : k = key := h1
      subst h1
      have h2 : RelV x v := h2
      unfold deqK at hq
      rcases r2.get k with ⟨e1, e2⟩ | ⟨v', e, e1, e2, rr⟩
      · rw [e2] at hq
        cases hq
        refine .miss ?_
        have rr : RelO (none : Option V) (valueAt vb k) := by rw [← e1]; exact kb.val k
        revert rr
        cases valueAt vb k with
        | none => exact fun _ => rfl
        | some y => exact fun h => (by cases h)
      · rw [e2] at hq
        dsimp only at hq
        have rr2 : RelO (some v') (valueAt vb k) := by rw [← e1]; exact kb.val k
        obtain ⟨y, hy, ry⟩ := rr2.some_of
        cases hd : deq 59 d e with
        | none => rw [hd] at hq; cases hq
        | some a =>
          cases hk : deqK ls kvs with
          | none => rw [hd, hk] at hq; cases hq
          | some b =>
            rw [hd, hk] at hq
            cases hq
            exact .hit hy (deq_eqAt I sb 59 A hu _ _ _ _ _ _ _ rv rr h2 ry hd) (ih _ _ r1 hk)
def rEqK (K : PySem.W.Frag) : R2 := fun x y H Q => ∃ F ks ls r, Sb F H ∧ Rep K F x (.dct ks) ∧ Rep K F y (.dct ls) ∧ (ks.length = ls.length → deqK ls ks = some r) ∧ Q (.bl (ks.length == ls.length && r)) H
def rNeK (K : PySem.W.Frag) : R2 := fun x y H Q => ∃ F ks ls r, Sb F H ∧ Rep K F x (.dct ks) ∧ Rep K F y (.dct ls) ∧ (ks.length = ls.length → deqK ls ks = some r) ∧ Q (.bl (!(ks.length == ls.length && r))) H
theorem op_eqK (hu : X.A.units + 64 < cLine) : OpR X (compareOp .Eq) (rEqK X.K) := by
  intro pins s σ H x y v u Q I rx ry h
  obtain ⟨F, ks, ls, r, sb, r1, r2, hq, q⟩ := h
  cases r1 with
  | @dct a es1 _ ha z1 r1 =>
    cases r2 with
    | @dct b es2 _ hb z2 r2 =>
      obtain rfl : v = Value.ref a := rx
      obtain rfl : u = Value.ref b := ry
      obtain ⟨_, ya, va, ra, da⟩ := dk_rd I.hok (sb.dK ha)
      obtain ⟨_, yb, vb, rb, db⟩ := dk_rd I.hok (sb.dK hb)
      have l1 : va.length = ks.length := by rw [← ra.length, r1.length]
      have l2 : vb.length = ls.length := by rw [← rb.length, r2.length]
      exact PySem.W.keq_eq (knd := mixKind X.prog X.w) (r := r) ya yb da db (by omega) (fun hl => hits_of I sb (by show X.A.units + 1 + 59 < cLine; omega) r2 rb ra ks r r1 (hq (by rw [← l1, ← l2]; exact hl)))
        ⟨.bl _, H, I, rfl, by rw [l1, l2]; exact q⟩
theorem op_neK (hu : X.A.units + 64 < cLine) : OpR X (compareOp .NotEq) (rNeK X.K) := by
  intro pins s σ H x y v u Q I rx ry h
  obtain ⟨F, ks, ls, r, sb, r1, r2, hq, q⟩ := h
  cases r1 with
  | @dct a es1 _ ha z1 r1 =>
    cases r2 with
    | @dct b es2 _ hb z2 r2 =>
      obtain rfl : v = Value.ref a := rx
      obtain rfl : u = Value.ref b := ry
      obtain ⟨_, ya, va, ra, da⟩ := dk_rd I.hok (sb.dK ha)
      obtain ⟨_, yb, vb, rb, db⟩ := dk_rd I.hok (sb.dK hb)
      have l1 : va.length = ks.length := by rw [← ra.length, r1.length]
      have l2 : vb.length = ls.length := by rw [← rb.length, r2.length]
      exact PySem.W.keq_ne (knd := mixKind X.prog X.w) (r := r) ya yb da db (by omega) (fun hl => hits_of I sb (by show X.A.units + 1 + 59 < cLine; omega) r2 rb ra ks r r1 (hq (by rw [← l1, ← l2]; exact hl)))
        ⟨.bl _, H, I, rfl, by rw [l1, l2]; exact q⟩
def semEqK (d e : D) (P : D → Prop) : Prop := match d, e with
  | .dct ks, .dct ls => ∃ r, (ks.length = ls.length → deqK ls ks = some r) ∧ P (.bl (ks.length == ls.length && r))
  | _, _ => False
def semNeK (d e : D) (P : D → Prop) : Prop := match d, e with
  | .dct ks, .dct ls => ∃ r, (ks.length = ls.length → deqK ls ks = some r) ∧ P (.bl (!(ks.length == ls.length && r)))
  | _, _ => False
theorem sem_eqK : SemS K (rEqK K) semEqK := by
  intro F H x y d e P Q sb rx ry hs k
  unfold semEqK at hs
  split at hs
  · obtain ⟨r, hq, h⟩ := hs
    exact ⟨F, _, _, r, sb, rx, ry, hq, k _ _ h fun _ => .bl _⟩
  · exact hs.elim
theorem sem_neK : SemS K (rNeK K) semNeK := by
  intro F H x y d e P Q sb rx ry hs k
  unfold semNeK at hs
  split at hs
  · obtain ⟨r, hq, h⟩ := hs
    exact ⟨F, _, _, r, sb, rx, ry, hq, k _ _ h fun _ => .bl _⟩
  · exact hs.elim
theorem deqK_self : ∀ (kvs more : List (Key × D)), ((kvs ++ more).map (·.1)).Nodup → (∀ q ∈ more, deq 59 q.2 q.2 = some true) → deqK (kvs ++ more) more = some true
  | _, [], _, _ => rfl
  | kvs, (k, d) :: r, nd, h => by
    have hk : k ∉ kvs.map (·.1) := fun hm => by
      rw [List.map_append, List.nodup_append] at nd
      exact nd.2.2 _ hm _ (by rw [List.map_cons]; exact List.mem_cons_self) rfl
    have hg : getG (kvs ++ (k, d) :: r) k = some d := by
      clear nd h
      induction kvs with
      | nil => exact getG_pos rfl
      | cons q kvs ih =>
        rw [List.map_cons, List.mem_cons, not_or] at hk
        rw [List.cons_append, getG_neg (fun e => hk.1 e.symm)]
        exact ih hk.2
    have := deqK_self (kvs ++ [(k, d)]) r (by rw [List.append_assoc]; exact nd) fun q hq => h q (List.mem_cons_of_mem _ hq)
    rw [List.append_assoc] at this
    unfold deqK
    rw [hg]
    dsimp only
    rw [h (k, d) List.mem_cons_self, show kvs ++ (k, d) :: r = kvs ++ ([(k, d)] ++ r) from rfl, this]
    rfl
end
end Tr
/-! texts: split, lstrip, int(text), f-strings; None in ..; repr of None; a long text * n. -/
namespace Tr
open PySem PySem.Spec PyProof.Rows L2
open SeqAt
section
variable {X : Cx} {K : PySem.W.Frag} {o e : Expr} {wa wb w : WD} {apos pos p : Pos}
def wSplit (wa wb : WD) : WO := fun ρ P => wa ρ fun d ρ1 => match d with
  | .str a => wb ρ1 fun e ρ2 => match e with
    | .str b => (b.length == 0) = false ∧ a.length + 2 ≤ sizeLine ∧ (∀ z ∈ Txt.split a b, z.length ≤ sizeLine) ∧ ∀ p, P (.lst p ((Txt.split a b).map fun z => .fz (.str z))) ρ2
    | _ => False
  | _ => False
theorem xo_split (ho : XE X o wa) (he : XE X e wb) (hs : starEach [e] X.env = [(false, eval e X.env)] := by rfl) (hbase : attributeBase o "split" X.env (eval o X.env) = eval o X.env := by rfl) (hline : (apos.endLine == pos.line) = true := by rfl) :
    XO X (.Call (.Attribute o "split" apos) [e] [] pos) (wSplit wa wb) := ⟨PE.imp (pe_m1 F.slot_str_split F.type_str_split mt_split ho.pe he.pe hs hbase hline) fun σ H Q ⟨ρ, F, P, s, hw, k⟩ =>
  ⟨ρ, F, _, s, hw, fun d ρ1 F1 H1 v p s1 r1 f1 => by
    cases d <;> first
      | (exact p.elim)
      | skip
    rename_i a
    cases r1
    refine ⟨⟨a, rfl⟩, ρ1, F1, _, s1, p, fun e' ρ2 F2 H2 u p2 s2 r2 f2 => ?_⟩
    cases e' <;> first
      | (exact p2.elim)
      | skip
    rename_i b
    cases r2
    obtain ⟨h1, h2, h3, p3⟩ := p2
    refine ⟨a, b, rfl, rfl, h1, h2, fun q hq => ?_⟩
    obtain ⟨t, g⟩ := Res.strs (K := X.K) (F := F2) (H := H2) hq (Nat.le_trans (PyProof.Rows.split_le a b) h2) h3 ρ2 σ s2
    exact k _ _ _ _ _ (p3 q) t ((f1.trans f2).trans g)⟩⟩
def wLstrip (wa wb : WD) : WD := fun ρ P => wa ρ fun d ρ1 => match d with
  | .str a => wb ρ1 fun e ρ2 => match e with
    | .str b => a.length ≤ sizeLine ∧ (Txt.lstripChars a b).length ≤ sizeLine ∧ P (.str (Txt.lstripChars a b)) ρ2
    | _ => False
  | _ => False
theorem xe_lstrip (ho : XE X o wa) (he : XE X e wb) (hs : starEach [e] X.env = [(false, eval e X.env)] := by rfl) (hbase : attributeBase o "lstrip" X.env (eval o X.env) = eval o X.env := by rfl) (hline : (apos.endLine == pos.line) = true := by rfl) :
    XE X (.Call (.Attribute o "lstrip" apos) [e] [] pos) (wLstrip wa wb) := ⟨PE.imp (pe_m1 F.slot_str_lstrip F.type_str_lstrip mt_lstripChars ho.pe he.pe hs hbase hline) fun σ H Q ⟨ρ, F, P, s, hw, k⟩ =>
  ⟨ρ, F, _, s, hw, fun d ρ1 F1 H1 v p s1 r1 f1 => by
    cases d <;> first
      | (exact p.elim)
      | skip
    rename_i a
    cases r1
    refine ⟨⟨a, rfl⟩, ρ1, F1, _, s1, p, fun e' ρ2 F2 H2 u p2 s2 r2 f2 => ?_⟩
    cases e' <;> first
      | (exact p2.elim)
      | skip
    rename_i b
    cases r2
    obtain ⟨h1, h2, p3⟩ := p2
    exact ⟨a, b, rfl, rfl, h1, k _ _ _ _ _ p3 s2 (.str _ h2) (f1.trans f2)⟩⟩⟩
/-- int(text) -/
def semIntS (d : D) (P : D → Prop) : Prop := match d with
  | .str a => ∃ n, PySem.intText? a = some n ∧ a.length ≤ 640 ∧ P (.int n)
  | _ => False
theorem sem_intS : SemC1 K (fun xs H Q => ∃ a n, xs = [.str a] ∧ PySem.intText? a = some n ∧ a.length ≤ 640 ∧ Q (.int n) H) semIntS := by
  intro F H x d P Q sb rx hs k
  unfold semIntS at hs
  split at hs
  · obtain ⟨n, h1, h2, h3⟩ := hs
    cases rx
    exact ⟨_, n, rfl, h1, h2, k _ _ h3 fun _ => .int _⟩
  · exact hs.elim
/-- {x} -/
def wFmt (w : WD) : WD := fun ρ P => w ρ fun d ρ1 => match d with
  | .str y => y.length ≤ sizeLine ∧ P (.str y) ρ1
  | .int i => i.natAbs.log2 < 1920 ∧ P (.str (numS i)) ρ1
  | _ => False
theorem xe_fmt (h : XE X e w) : XE X (.FormattedValue e (-1) none pos) (wFmt w) := ⟨PE.imp (pe_fmt h.pe) fun σ H Q ⟨ρ, F, P, s, hw, k⟩ =>
  ⟨ρ, F, _, s, hw, fun d ρ1 F1 H1 v p s1 r1 f1 => by
    cases d <;> first
      | (exact p.elim)
      | skip
    · cases r1
      obtain ⟨hz, p⟩ := p
      exact .inr ⟨_, rfl, hz, k _ _ _ _ _ p s1 (.str _ (int_text_fits hz)) f1⟩
    · cases r1
      obtain ⟨hz, p⟩ := p
      exact .inl ⟨_, rfl, hz, k _ _ _ _ _ p s1 (.str _ hz) f1⟩⟩⟩
inductive XJ (X : Cx) : List Expr → List WD → Prop where
  | nil : XJ X [] []
  | cons {e : Expr} {w : WD} {es : List Expr} {ws : List WD} (h : XE X e w) (r : XJ X es ws) : XJ X (e :: es) (w :: ws)
theorem XJ.pj {es : List Expr} {ws : List WD} (h : XJ X es ws) : PJ X es (ws.map (liftD X.K)) := by
  induction h with
  | nil => exact .nil
  | cons h _ ih => exact .cons h.pe ih
def wJs : List WD → Str → TEnv → (Str → TEnv → Prop) → Prop
  | [], acc, ρ, P => P acc ρ
  | w :: ws, acc, ρ, P => w ρ fun d ρ1 => match d with
    | .str y => (acc ++ y).length ≤ sizeLine ∧ wJs ws (acc ++ y) ρ1 P
    | _ => False
theorem js_of {σ : L2.St} : ∀ (ws : List WD) (acc : Str) (ρ : TEnv) (F H : Hp) (P : Str → TEnv → Prop) (Q : Str → Hp → Prop), SR X.K ρ σ F H → acc.length ≤ sizeLine → wJs ws acc ρ P →
    (∀ z ρ' F' H', z.length ≤ sizeLine → P z ρ' → SR X.K ρ' σ F' H' → Frm (ownedE ρ) F H (ownedE ρ') F' H' → Q z H') → tJs (ws.map (liftD X.K)) acc σ H Q
  | [], acc, ρ, F, H, P, Q, s, hz, hw, k => k acc ρ F H hz hw s .refl
  | w :: ws, acc, ρ, F, H, P, Q, s, hz, hw, k => by
    refine ⟨ρ, F, _, s, hw, fun d ρ1 F1 H1 v p s1 r1 f1 => ?_⟩
    cases d <;> first
      | (exact p.elim)
      | skip
    rename_i y
    cases r1
    obtain ⟨h1, p⟩ := p
    exact ⟨y, rfl, h1, js_of ws (acc ++ y) ρ1 F1 H1 P Q s1 h1 p fun z ρ' F' H' hz p s' f' => k z ρ' F' H' hz p s' (f1.trans f')⟩
def wJoined (ws : List WD) : WD := fun ρ P => wJs ws Str.empty ρ fun z ρ1 => P (.str z) ρ1
theorem xe_joined {v1 v2 : Expr} {rest : List Expr} {ws : List WD} (h : XJ X (v1 :: v2 :: rest) ws) : XE X (.JoinedStr (v1 :: v2 :: rest) pos) (wJoined ws) := ⟨PE.imp (pe_joined h.pj) fun σ H Q ⟨ρ, F, P, s, hw, k⟩ =>
  js_of ws Str.empty ρ F H _ _ s (Nat.zero_le _) hw fun z ρ' F' H' hz p s' f' => k _ _ _ _ _ p s' (.str _ hz) f'⟩
/-- None in a list of Nones and tuples -/
def D.isN : D → Bool
  | .non => true
  | _ => false
def D.nOrT : D → Bool
  | .non => true
  | .tup _ => true
  | _ => false
def semNoneIn (neg : Bool) (d e : D) (P : D → Prop) : Prop := match d, e with
  | .non, .lst ds => ds.all D.nOrT = true ∧ P (.bl (if neg then !ds.any D.isN else ds.any D.isN))
  | _, _ => False
def rNoneInD (K : PySem.W.Frag) (neg : Bool) : R2 := fun x y H Q => ∃ F q xs ds, Sb F H ∧ x = .non ∧ y = .ref q ∧ SqL K H q xs ∧ RepL K F xs ds ∧ ds.all D.nOrT = true ∧ Q (.bl (if neg then !ds.any D.isN else ds.any D.isN)) H
theorem nIn_any {F : Hp} : ∀ {xs : List V} {us : List Value} {ds : List D}, Vals xs us → RepL K F xs ds → ds.all D.nOrT = true → us.any PySem.Numpy.isNone = ds.any D.isN
  | _, _, _, .nil, .nil, _ => rfl
  | _, _, _, .cons r t, .cons h rl, f => by
    rw [List.all_cons, Bool.and_eq_true] at f
    rw [List.any_cons, List.any_cons, nIn_any t rl f.2]
    cases h <;> first
      | (cases f.1; done)
      | (cases r; rfl)
theorem nIn_eq {F H : Hp} {pins : List (Addr × Obj)} {σ : L2.St} {s : Shared} (I : Inv X pins σ H s) (sb : Sb F H) {A : Around} (hu : A.units + 59 < cLine) : ∀ {xs : List V} {us : List Value} {ds : List D}, Vals xs us → RepL X.K F xs ds → ds.all D.nOrT = true → ∀ u ∈ us, EqAt A s u .none (PySem.Numpy.isNone u)
  | _, _, _, .nil, .nil, _ => fun u h => by cases h
  | _, _, _, .cons r t, .cons h rl, f => fun u hu' => by
    rw [List.all_cons, Bool.and_eq_true] at f
    rcases List.mem_cons.mp hu' with e | e
    · subst e
      cases h <;> first
        | (cases f.1; done)
        | skip
      · cases r
        exact EqAt.same _
      · rename_i h1 z rr
        have := deq_eqAt I sb 59 A hu _ _ _ _ false _ _ (.tup h1 z rr) (.non (K := X.K) (F := F)) r (show RelV V.non Value.none from rfl) rfl
        cases r
        exact this
    · exact nIn_eq I sb hu t rl f.2 u e
theorem op_noneInD (hu : X.A.units + 64 < cLine) : OpR X (compareOp .In) (rNoneInD X.K false) := by
  intro pins s σ H x y v u Q I rx ry h
  obtain ⟨F, p, xs, ds, sb, rfl, rfl, hq, rl, f, q⟩ := h
  cases rx
  cases ry
  obtain ⟨its, rv, hl, _⟩ := I.list hq
  refine SeqAt.in_listAt PySem.Numpy.isNone hl.isList (fun z hz => nIn_eq I sb (by show X.A.units + 1 + 59 < cLine; omega) rv rl f z (by simpa using hz)) ⟨.bl _, H, I, rfl, ?_⟩
  rw [show its.toArray.any PySem.Numpy.isNone = its.any PySem.Numpy.isNone by simp, nIn_any rv rl f]
  exact q
theorem sem_noneIn : SemS K (rNoneInD K false) (semNoneIn false) := by
  intro F H x y d e P Q sb rx ry hs k
  unfold semNoneIn at hs
  split at hs
  · cases rx
    cases ry with
    | lst h1 z r => exact ⟨F, _, _, _, sb, rfl, rfl, .inl (.inl (sb.lst h1)), r, hs.1, k _ _ hs.2 fun _ => .bl _⟩
  · exact hs.elim
/-- repr, None among the things -/
def semReprN (d : D) (P : D → Prop) : Prop := match d with
  | .non => P (.str "None")
  | d => semRepr d P
theorem call_reprN : CallR X (.builtin "repr") (fun xs H Q => xs = [.non] ∧ Q (.str "None") H) := by
  intro pins s σ H xs us Q I r h
  obtain ⟨rfl, q⟩ := h
  obtain ⟨u, rfl, ru⟩ := vals1 r
  cases ru
  exact PySem.P.repr_of_none ⟨.str "None", H, I.tok _, ⟨_, rfl⟩, q⟩
theorem xe_reprN (hgd : X.A.guards = some []) (hu : X.A.units + 64 < cLine) (hg : Gl X "repr") (hm : X.mg "repr" = none) (ha : XE X e w)
    (he : starEach [e] X.env = (false, eval e X.env) :: starEach [] X.env := by rfl) (hpl : (backTo pos (starEach [] X.env)).any (·.1) = false := by rfl) : XE X (.Call (.Name "repr" p) [e] [] pos) (wC1 semReprN w) :=
  ⟨PE.imp (pe_callB (CallR.or (call_reprD hgd hu) call_reprN) hg hm (by decide +kernel) (pa_cons ha.pe pa_nil he) (by decide) (by decide) he hpl) fun σ H Q ⟨ρ, F, P, s, hw, k⟩ =>
    ⟨ρ, F, _, s, hw, fun d ρ' F' H' v q s' r f => by
      unfold semReprN at q
      split at q
      · cases r
        exact .inr ⟨rfl, k _ _ _ _ _ q s' (.str _ (by decide)) f⟩
      · exact .inl (sem_repr s'.sub r q fun u v' pu ru => k _ _ _ _ _ pu s' ru f)⟩⟩
/-- a sign n times -/
def rMulS1 : R2 := fun x y H Q => ∃ (a : Str) (n : Int), x = .str a ∧ y = .int n ∧ 2 ≤ n ∧ n ≤ 100000 ∧ a.length = 1 ∧ Q (.str (repS a n)) H
theorem op_mulS1 : OpR X (binaryOp .Mult) rMulS1 := by
  intro pins s σ H x y v u Q I rx ry h
  obtain ⟨a, n, rfl, rfl, h1, h2, h3, q⟩ := h
  obtain ⟨t, rfl⟩ := rx
  obtain ⟨t2, rfl⟩ := ry
  have hk : n.toNat ≤ 100000 := by omega
  have hm : a.length * n.toNat ≤ 100000 := by rw [h3, Nat.one_mul]; exact hk
  have hlen : (repS a n).length ≤ sizeLine := by
    rw [repS_len, Nat.mul_comm]
    exact Nat.le_trans hm (by decide)
  refine PySem.P.mul_str (by rw [decide_eq_false (by omega), decide_eq_false (by omega)]; rfl) (fun _ _ hgt => ?_) (fun _ _ => ?_) ?_
  · have e1 : (1 : Int) ≤ (2 ^ 63 - 1) / n := by
      rw [Int.le_ediv_iff_mul_le (by omega)]
      omega
    omega
  · exact decide_eq_false (by have := Nat.le_trans hm (show 100000 ≤ sizeLine by decide); omega)
  · rw [if_neg (by omega), if_neg (by
      rw [Bool.or_eq_true]
      rintro (e | e)
      · have := eq_of_beq e; omega
      · have := eq_of_beq e; omega)]
    exact ⟨hlen, .str (repS a n), H, I.tok _, ⟨_, rfl⟩, q⟩
def semMulS1 (d e : D) (P : O → Prop) : Prop := match d, e with
  | .str x, .int n => 2 ≤ n ∧ n ≤ 100000 ∧ x.length = 1 ∧ P (.fz (.str (repS x n)))
  | _, _ => False
theorem sem_mulS1 : SemR K rMulS1 semMulS1 := by
  intro F H x y d e P Q sb rx ry hs k
  unfold semMulS1 at hs
  split at hs
  · cases rx; cases ry
    obtain ⟨h1, h2, h3, p⟩ := hs
    refine ⟨_, _, rfl, rfl, h1, h2, h3, k _ _ _ _ p (.fz (.str _ ?_))⟩
    rw [repS_len, h3, Nat.mul_one]
    exact Nat.le_trans (show Int.toNat _ ≤ 100000 by omega) (by decide)
  · exact hs.elim
end
end Tr
/-! a, b, c = e1, e2, e3, each as its maker holds it -/
namespace Tr
open PySem PySem.Spec PyProof.Rows L2
section
variable {X : Cx}
def wPar3O (i j l : Nat) (wa wb wc : WO) : WS := fun ρ E => wa ρ fun d ρ1 => wb ρ1 fun e ρ2 => wc ρ2 fun u ρ3 => putC ρ3 i (some d) fun ρ4 => putC ρ4 j (some e) fun ρ5 => putC ρ5 l (some u) E.nx
theorem xs_par3O {st : Stmt} {i j l : Nat} {wa wb wc : WO} (h : PS X st (tPar3 i j l (liftAO X.K (wConsO wa (wConsO wb (wConsO wc wNilO)))))) : XS X st (wPar3O i j l wa wb wc) := ⟨fun W tk => PS.imp h fun D σ H ⟨ρ, F, E, s, hw, k⟩ =>
  ⟨ρ, F, fun ds ρ' => match ds with
    | [d, e, u] => putC ρ' i (some d) fun ρ3 => putC ρ3 j (some e) fun ρ4 => putC ρ4 l (some u) E.nx
    | _ => False, s, hw, fun ds ρ' F' H' vs p s' l' f => by
    match ds, p with
    | [d, e, u], p =>
    match vs, l' with
    | [v, w, x], l' =>
    have p : putC ρ' i (some d) fun ρ3 => putC ρ3 j (some e) fun ρ4 => putC ρ4 l (some u) E.nx := p
    refine ⟨_, _, _, rfl, ?_⟩
    have s' : SR X.K (some d :: some e :: some u :: ρ') (some v :: some w :: some x :: σ) F' H' := s'
    obtain ⟨s2, m2⟩ := s'.store (i := i + 2)
    have s2 : SR X.K (some e :: some u :: ρ'.set i (some d)) (some w :: some x :: σ.set i (some v)) F' H' := s2
    obtain ⟨s3, m3⟩ := s2.store (i := j + 1)
    have s3 : SR X.K (some u :: (ρ'.set i (some d)).set j (some e)) (some x :: (σ.set i (some v)).set j (some w)) F' H' := s3
    obtain ⟨s4, m4⟩ := s3.store (i := l)
    rw [putC_eq, putC_eq, putC_eq] at p
    exact k.nx _ _ _ _ p s4 (f.less fun c hc => m2 c (m3 c (m4 c hc)))⟩⟩
end
end Tr
/-! dict(zip(a list of texts, a tuple)). -/
namespace Tr
open PySem PySem.Spec PyProof.Rows L2
section
variable {prog : Program} {w : World} {A : Around} {E : Value → Shared → Prop} {s : Shared}
variable {z TI TO T i1 i2 : Addr} {f : Bool} {oT : Obj} {fp1 fp2 : List Addr} {n1 n2 i : Nat} {P1 P2 : Nat → Value → Prop} {St1 St2 : Nat → Heap → Prop}
theorem zipD2_item_held {Q : Value → Shared → Prop} (S : ZipSep2 z TI TO i1 i2 fp1 fp2) (D1 : Draws prog w A i1 fp1 n1 P1 St1) (D2 : Draws prog w A i2 fp2 n2 P2 St2)
    (hz : IsZipHeld s.heap z TI TO T f) (hT : s.heap.get? T = some oT) (hTI : IsPair s.heap TI (.ref i1) (.ref i2)) (st1 : St1 i s.heap) (st2 : St2 i s.heap) (hlt1 : i < n1) (hlt2 : i < n2)
    (hQ : ∀ x1 x2 h' tk, P1 i x1 → P2 i x2 → IsZipHeld h' z TI TO T true → St1 (i + 1) h' → St2 (i + 1) h' → IsPair h' s.heap.objs.size x1 x2 → h'.objs.size = s.heap.objs.size + 1 →
      (∀ c o, c ≠ z → c ≠ i1 → c ≠ i2 → s.heap.get? c = some o → h'.get? c = some o) → Q (.ref s.heap.objs.size) { s with heap := h', toks := tk }) :
    wpAny (model prog w) A (Builtin.«zip.__next__» ⟨[.ref z], []⟩) (fun fin s' => ∃ v, fin = .done (.ret v) ∧ Q v s') E s := by
  show wpAny _ _ (field (.ref z) 2 >>= _) _ _ _
  refine wpAny_bind (wpAny_field hz rfl (x := .bool false) rfl ?_)
  show wpAny _ _ (field (.ref z) 3 >>= _) _ _ _
  refine wpAny_bind (wpAny_field hz rfl (x := .ref TI) rfl ?_)
  refine wpAny_bind (wpAny_seqItems hTI rfl ?_)
  show wpAny _ _ (Builtin.SmallTypes.ownedTupleIsFree (.ref z) >>= _) _ _ _
  refine wpAny_bind (wpAny_tupleHeld_zip hz hT fun h₁ hz₁ hs₁ => ?_)
  simp only [Bool.false_eq_true, if_false]
  refine wpAny_bind ?_
  rw [← Array.forIn_toList]
  simp only [List.forIn_cons, List.forIn_nil]
  refine wpAny_bind (wpAny_bind (wpAny_holding ?_))
  show wpAny _ _ (Builtin.SmallTypes.nextOf (.ref i1) >>= _) _ _ _
  refine wpAny_bind (D1.item i { s with heap := h₁ } _ _ hlt1 (D1.over st1 hs₁ S.zf1) fun x1 h₂ tk₂ p1 st1₂ hs₂ => wpAny_pure ?_)
  refine wpAny_pure ?_
  refine wpAny_bind (wpAny_bind (wpAny_holding ?_))
  show wpAny _ _ (Builtin.SmallTypes.nextOf (.ref i2) >>= _) _ _ _
  refine wpAny_bind (D2.item i { s with heap := h₂, toks := tk₂ } _ _ hlt2 (D2.over (D2.over st2 hs₁ S.zf2) hs₂ S.sep1_2) fun x2 h₃ tk₃ p2 st2₃ hs₃ => wpAny_pure ?_)
  refine wpAny_pure (wpAny_pure ?_)
  show wpAny _ _ (newTuple [x1, x2] >>= _) _ _ _
  refine wpAny_bind (wpAny_newTuple ?_)
  have hs₂ : Heap.SameBut i1 h₁ h₂ := hs₂
  have hs₃ : Heap.SameBut i2 h₂ h₃ := hs₃
  have hsz : h₃.objs.size = s.heap.objs.size := by rw [hs₃.1, hs₂.1, hs₁.1]
  have hz₃ : IsZipHeld h₃ z TI TO T true := hs₃.extBut _ _ S.zi2 (hs₂.extBut _ _ S.zi1 hz₁)
  have hk : ∀ c o, c ≠ z → c ≠ i1 → c ≠ i2 → s.heap.get? c = some o → h₃.get? c = some o := fun c o c1 c2 c3 e => hs₃.extBut _ _ c3 (hs₂.extBut _ _ c2 (hs₁.extBut _ _ c1 e))
  have st1₃ : St1 (i + 1) h₃ := D1.over st1₂ hs₃ S.sep2_1
  refine wpAny_pure ⟨_, rfl, ?_⟩
  show Q (.ref h₃.objs.size) _
  have hp : IsPair (h₃.push { cls := .type "tuple", data := .seq #[x1, x2] }) h₃.objs.size x1 x2 := Heap.get?_push_size _ rfl
  have hz4 : (h₃.push { cls := .type "tuple", data := .seq #[x1, x2] }).objs.size = h₃.objs.size + 1 := Heap.size_push ..
  rw [hsz] at hp hz4 ⊢
  exact hQ x1 x2 _ tk₃ p1 p2 (Heap.get?_push_of_some _ hz₃) (D1.frame _ _ _ st1₃ fun b _ o e => Heap.get?_push_of_some _ e) (D2.frame _ _ _ st2₃ fun b _ o e => Heap.get?_push_of_some _ e) hp hz4
    fun c o c1 c2 c3 e => Heap.get?_push_of_some _ (hk c o c1 c2 c3 e)
theorem zipD2_end_held {Q : Fin → Shared → Prop} (S : ZipSep2 z TI TO i1 i2 fp1 fp2) (D1 : Draws prog w A i1 fp1 n1 P1 St1) (D2 : Draws prog w A i2 fp2 n2 P2 St2)
    (hz : IsZipHeld s.heap z TI TO T f) (hT : s.heap.get? T = some oT) (hTI : IsPair s.heap TI (.ref i1) (.ref i2)) (st1 : St1 i s.heap) (st2 : St2 i s.heap) (he1 : i = n1)
    (hE : ∀ h' e, (∀ c o, c ≠ z → c ≠ i1 → c ≠ i2 → s.heap.get? c = some o → h'.get? c = some o) → (∃ o, h'.get? e = some o ∧ o.cls = .type "StopIteration") → E (.ref e) { s with heap := h' }) :
    wpAny (model prog w) A (Builtin.«zip.__next__» ⟨[.ref z], []⟩) Q E s := by
  show wpAny _ _ (field (.ref z) 2 >>= _) _ _ _
  refine wpAny_bind (wpAny_field hz rfl (x := .bool false) rfl ?_)
  show wpAny _ _ (field (.ref z) 3 >>= _) _ _ _
  refine wpAny_bind (wpAny_field hz rfl (x := .ref TI) rfl ?_)
  refine wpAny_bind (wpAny_seqItems hTI rfl ?_)
  show wpAny _ _ (Builtin.SmallTypes.ownedTupleIsFree (.ref z) >>= _) _ _ _
  refine wpAny_bind (wpAny_tupleHeld_zip hz hT fun h₁ hz₁ hs₁ => ?_)
  simp only [Bool.false_eq_true, if_false]
  refine wpAny_bind ?_
  rw [← Array.forIn_toList]
  simp only [List.forIn_cons, List.forIn_nil]
  refine wpAny_bind (wpAny_bind (wpAny_holding ?_))
  show wpAny _ _ (Builtin.SmallTypes.nextOf (.ref i1) >>= _) _ _ _
  refine wpAny_bind (D1.done { s with heap := h₁ } _ _ (by rw [← he1]; exact D1.over st1 hs₁ S.zf1) fun h₂ e hs₂ he => ?_)
  exact hE h₂ e (fun c o c1 c2 _ x => hs₂ _ _ c2 (hs₁.extBut _ _ c1 x)) he
theorem pyNext_zipD2_item_held {Q : Option Value → Shared → Prop} (S : ZipSep2 z TI TO i1 i2 fp1 fp2) (D1 : Draws prog w A.in1 i1 fp1 n1 P1 St1) (D2 : Draws prog w A.in1 i2 fp2 n2 P2 St2)
    (hz : IsZipHeld s.heap z TI TO T f) (hT : s.heap.get? T = some oT) (hTI : IsPair s.heap TI (.ref i1) (.ref i2)) (st1 : St1 i s.heap) (st2 : St2 i s.heap) (hlt1 : i < n1) (hlt2 : i < n2)
    (hQ : ∀ x1 x2 h' tk, P1 i x1 → P2 i x2 → IsZipHeld h' z TI TO T true → St1 (i + 1) h' → St2 (i + 1) h' → IsPair h' s.heap.objs.size x1 x2 → h'.objs.size = s.heap.objs.size + 1 →
      (∀ c o, c ≠ z → c ≠ i1 → c ≠ i2 → s.heap.get? c = some o → h'.get? c = some o) → Q (some (.ref s.heap.objs.size)) { s with heap := h', toks := tk }) :
    wpAny (model prog w) A (pyNext (.ref z)) Q E s := by
  have hTy : s.TypeIs (.ref z) "zip" := ⟨_, hz, rfl⟩
  unfold pyNext
  exact wpAny_bind (wpAny_attempt (wpAny_callSpecial?_slot (name := Str.ofString "__next__") hTy F.slot_zip_next
    (wpAny_call_entry F.slot_zip_next hTy F.entry_zip_next
      (zipD2_item_held S D1 D2 hz hT hTI st1 st2 hlt1 hlt2 fun x1 x2 h' tk p1 p2 a1 a3 a4 a5 a6 a7 => wpAny_pure (hQ x1 x2 h' tk p1 p2 a1 a3 a4 a5 a6 a7)) (F.args_zip_next_1 _))))
theorem pyNext_zipD2_end_held {Q : Option Value → Shared → Prop} (S : ZipSep2 z TI TO i1 i2 fp1 fp2) (D1 : Draws prog w A.in1 i1 fp1 n1 P1 St1) (D2 : Draws prog w A.in1 i2 fp2 n2 P2 St2)
    (hz : IsZipHeld s.heap z TI TO T f) (hT : s.heap.get? T = some oT) (hTI : IsPair s.heap TI (.ref i1) (.ref i2)) (st1 : St1 i s.heap) (st2 : St2 i s.heap) (he1 : i = n1)
    (hQ : ∀ h', (∀ c o, c ≠ z → c ≠ i1 → c ≠ i2 → s.heap.get? c = some o → h'.get? c = some o) → Q none { s with heap := h' }) : wpAny (model prog w) A (pyNext (.ref z)) Q E s := by
  have hTy : s.TypeIs (.ref z) "zip" := ⟨_, hz, rfl⟩
  unfold pyNext
  refine wpAny_bind (wpAny_attempt (wpAny_callSpecial?_slot (name := Str.ofString "__next__") hTy F.slot_zip_next
    (wpAny_call_entry F.slot_zip_next hTy F.entry_zip_next (zipD2_end_held S D1 D2 hz hT hTI st1 st2 he1 fun h' e hk he => ?_) (F.args_zip_next_1 _))))
  obtain ⟨o, ho, hc⟩ := he
  refine wpAny_bind (wpAny_isInstance (T := "StopIteration") (b := true) ⟨o, ho, hc⟩ isSubtype_stop ?_)
  exact wpAny_pure (hQ _ hk)
end
end Tr
/-! dict(zip(xs, ys)): xs of keys, ys as long. -/
namespace Tr
open PySem PySem.Spec PyProof.Rows L2
theorem HsK.keep {k : Bool} {h h' : Heap} {a : Addr} {its : Array Value} (x : HsK k h a its) (e : ∀ o, h.get? a = some o → h'.get? a = some o) : HsK k h' a its := by
  cases k
  · exact (show h.IsTuple a its from x).at fun o q => e o q
  · exact (show h.IsList a its from x).at fun o q => e o q
theorem HsK.there {k : Bool} {h : Heap} {a : Addr} {its : Array Value} (x : HsK k h a its) : ∃ o, h.get? a = some o := by
  cases k
  · obtain ⟨o, e, _⟩ := (show h.IsTuple a its from x)
    exact ⟨o, e⟩
  · obtain ⟨o, e, _⟩ := (show h.IsList a its from x)
    exact ⟨o, e⟩
section
variable {prog : Program} {w : World}
theorem pairArg_zipK {k l : Bool} {z TI TO i1 i2 a b : Addr} (S : ZipSep2 z TI TO i1 i2 [i1, a] [i2, b]) (ha : a ≠ i1) (hb : b ≠ i2) (xs ys : Array Value) (hl : xs.size = ys.size) :
    PairArg prog w "zip" z [z, TI, TO, i1, i2, a, b] [z, TO, i1, i2] xs.size (fun i k v => xs[i]? = some k ∧ ys[i]? = some v)
      (fun h => IsZip h z TI TO .none ∧ IsTupOf2 h TI (.ref i1) (.ref i2) ∧ (∃ x y, IsTupOf2 h TO x y) ∧ ItK k h i1 a 0 ∧ ItK l h i2 b 0 ∧ HsK k h a xs ∧ HsK l h b ys) where
  type := fun s ok => ⟨_, ok.1, rfl⟩
  notDict := by decide
  keep := fun h h' ok hk => by
    obtain ⟨hz, hTI, ⟨x, y, hTO⟩, h1, h2, hl1, hl2⟩ := ok
    exact ⟨hk _ _ hz, hk _ _ hTI, ⟨x, y, hk _ _ hTO⟩, h1.keep fun o e => hk _ o e, h2.keep fun o e => hk _ o e, hl1.keep fun o e => hk _ o e, hl2.keep fun o e => hk _ o e⟩
  there := fun h ok c hc => by
    obtain ⟨hz, hTI, ⟨x, y, hTO⟩, h1, h2, hl1, hl2⟩ := ok
    simp only [List.mem_cons, List.not_mem_nil, or_false] at hc
    rcases hc with rfl | rfl | rfl | rfl | rfl | rfl | rfl
    · exact ⟨_, hz⟩
    · exact ⟨_, hTI⟩
    · exact ⟨_, hTO⟩
    · exact h1.obj.imp fun _ q => q.1
    · exact h2.obj.imp fun _ q => q.1
    · exact hl1.there
    · exact hl2.there
  sub := fun b hb => by simp at hb ⊢; rcases hb with rfl | rfl | rfl | rfl <;> simp
  noKeys := fun A s Q E hA ok h => getAttrOr_miss_zip ok.1 rfl rfl rfl zip_no_keys (by decide +kernel) hA h
  iter := fun A s d Q E hA ok hd hdf h => by
    obtain ⟨hz, hTI, ⟨x, y, hTO⟩, h1, h2, hl1, hl2⟩ := ok
    simp only [List.mem_cons, List.not_mem_nil, or_false, not_or] at hdf
    obtain ⟨dz, dTI, dTO, di1, di2, da, db⟩ := hdf
    have zz1 : z ≠ a := fun e => S.zf1 (by simp [e])
    have zz2 : z ≠ b := fun e => S.zf2 (by simp [e])
    have tt1 : TO ≠ a := fun e => S.Tf1 (by simp [e])
    have tt2 : TO ≠ b := fun e => S.Tf2 (by simp [e])
    have i12 : i1 ≠ i2 := fun e => S.sep1_2 (by simp [e])
    have i1b : i1 ≠ b := fun e => S.sep1_2 (by simp [e])
    have i2a : i2 ≠ a := fun e => S.sep2_1 (by simp [e])
    have D1 := drawsK (prog := prog) (w := w) (A := A.in1) hA k i1 a ha xs
    have D2 := drawsK (prog := prog) (w := w) (A := A.in1) hA l i2 b hb ys
    refine wpAny_pyIter_zip hz (h z [z, TO, i1, i2] (fun i h => IsTupOf2 h TI (.ref i1) (.ref i2) ∧ ItK k h i1 a i ∧ ItK l h i2 b i ∧ HsK k h a xs ∧ HsK l h b ys ∧
      ((IsZip h z TI TO .none ∧ ∃ x y, IsTupOf2 h TO x y) ∨ ∃ T f oT, IsZipHeld h z TI TO T f ∧ h.get? T = some oT ∧ T ≠ z ∧ T ≠ i1 ∧ T ≠ i2 ∧ T ≠ d)) s.heap s.toks ?_
      ⟨hTI, h1, h2, hl1, hl2, .inl ⟨hz, x, y, hTO⟩⟩ (fun _ _ e => e) fun b hb => .inl hb)
    exact {
      off := fun hm => by
        simp only [List.mem_cons, List.not_mem_nil, or_false] at hm
        rcases hm with e | e | e | e
        · exact dz e
        · exact dTO e
        · exact di1 e
        · exact di2 e
      frame := fun i h₁ h₂ st hk => by
        obtain ⟨hTI, h1, h2, hl1, hl2, hz⟩ := st
        refine ⟨hk _ _ (Ne.symm dTI) hTI, h1.keep fun o e => hk _ o (Ne.symm di1) e, h2.keep fun o e => hk _ o (Ne.symm di2) e, hl1.keep fun o e => hk _ o (Ne.symm da) e, hl2.keep fun o e => hk _ o (Ne.symm db) e, ?_⟩
        rcases hz with ⟨hz, x, y, hTO⟩ | ⟨T, f, oT, hz, hT, r1, r2, r3, r4⟩
        · exact .inl ⟨hk _ _ (Ne.symm dz) hz, x, y, hk _ _ (Ne.symm dTO) hTO⟩
        · exact .inr ⟨T, f, oT, hk _ _ (Ne.symm dz) hz, hk _ _ r4 hT, r1, r2, r3, r4⟩
      item := fun i s₁ Q₁ E₁ hi st hds hQ => by
        obtain ⟨hTI, h1, h2, hl1, hl2, hz⟩ := st
        have lt : ∀ {c o}, s₁.heap.get? c = some o → s₁.heap.objs.size ≠ c := fun e => Nat.ne_of_gt (Heap.lt_size e)
        have n1 : s₁.heap.objs.size ≠ i1 := let ⟨_, e, _⟩ := h1.obj; lt e
        have n2 : s₁.heap.objs.size ≠ i2 := let ⟨_, e, _⟩ := h2.obj; lt e
        have hi2 : i < ys.size := hl ▸ hi
        rcases hz with ⟨hz, x, y, hTO⟩ | ⟨T, f, oT, hz, hT, r1, r2, r3, r4⟩
        · refine wpAny_pyNext_zipD2_item S D1 D2 hz hTI hTO ⟨h1, hl1⟩ ⟨h2, hl2⟩ hi hi2 fun x1 x2 h' tk p1 p2 a1 a2 a3 a4 a5 a6 hk => ?_
          exact hQ s₁.heap.objs.size _ _ h' tk ⟨p1, p2⟩ (.inl ⟨_, a5, rfl, _, rfl⟩)
            ⟨hk _ _ S.TIz S.TITO S.TIi1 S.TIi2 hTI, a3.1, a4.1, a3.2, a4.2, .inr ⟨s₁.heap.objs.size, false, _, a1, a5, lt hz, n1, n2, Nat.ne_of_gt hds⟩⟩
            fun c o hc e => hk c o (fun x => hc (by simp [x])) (fun x => hc (by simp [x])) (fun x => hc (by simp [x])) (fun x => hc (by simp [x])) e
        · refine pyNext_zipD2_item_held S D1 D2 hz hT hTI ⟨h1, hl1⟩ ⟨h2, hl2⟩ hi hi2 fun x1 x2 h' tk p1 p2 a1 a3 a4 a5 a6 hk => ?_
          exact hQ s₁.heap.objs.size _ _ h' tk ⟨p1, p2⟩ (.inl ⟨_, a5, rfl, _, rfl⟩)
            ⟨hk _ _ S.TIz S.TIi1 S.TIi2 hTI, a3.1, a4.1, a3.2, a4.2, .inr ⟨T, true, oT, a1, hk _ _ r1 r2 r3 hT, r1, r2, r3, r4⟩⟩
            fun c o hc e => hk c o (fun x => hc (by simp [x])) (fun x => hc (by simp [x])) (fun x => hc (by simp [x])) e
      done := fun s₁ Q₁ E₁ st hQ => by
        obtain ⟨hTI, h1, h2, hl1, hl2, hz⟩ := st
        rcases hz with ⟨hz, x, y, hTO⟩ | ⟨T, f, oT, hz, hT, r1, r2, r3, r4⟩
        · exact wpAny_pyNext_zipD2_end S D1 D2 hz hTI hTO ⟨h1, hl1⟩ ⟨h2, hl2⟩ (Nat.le_refl _) (Nat.le_of_eq hl) (.inl rfl) fun h' tk hk => hQ h' tk fun c o hc e => hk c o (fun x => hc (by simp [x])) (fun x => hc (by simp [x])) (fun x => hc (by simp [x])) (fun x => hc (by simp [x])) e
        · exact pyNext_zipD2_end_held S D1 D2 hz hT hTI ⟨h1, hl1⟩ ⟨h2, hl2⟩ rfl fun h' hk => hQ h' s₁.toks fun c o hc e => hk c o (fun x => hc (by simp [x])) (fun x => hc (by simp [x])) (fun x => hc (by simp [x])) e }
end
theorem kv_zip : ∀ {zs : List Key} {ys : List V} {us : List Value}, Vals ys us → KV (zs.zip ys) (zs.zip us)
  | [], _, _, _ => .nil
  | _ :: _, _, _, .nil => .nil
  | z :: zs, _, _, .cons h r => .cons ⟨rfl, h⟩ (kv_zip (zs := zs) r)
def tDZ (K : PySem.W.Frag) (ta : TA) : TE := fun σ H Q => ta σ H fun vs H1 => ∃ (k l : Bool) (a b : Addr) (zs : List Key) (ys : List V), vs = [.ref a, .ref b] ∧ SqK k K H1 a (zs.map kV) ∧ SqK l K H1 b ys ∧ zs.length = ys.length ∧ zs.length ≤ sizeLine ∧
  ∀ p, H1 p = none → Q (.ref p) (upd H1 p (.dK (mergeK [] (zs.zip ys))))
theorem pe_dictzip {X : Cx} {e e2 : Expr} {ta : TA} {p0 pos p pos2 : Pos} (hc : X.calm = true) (hgs : Gl X "dict") (hms : X.mg "dict" = none) (hg : Gl X "zip") (hm : X.mg "zip" = none) (ha : PA X [e, e2] ta)
    (hs1 : starEach [.Call (.Name "zip" p) [e, e2] [] pos2] X.env = (false, eval (.Call (.Name "zip" p) [e, e2] [] pos2) X.env) :: starEach [] X.env := by rfl)
    (hp1 : (backTo pos (starEach [] X.env)).any (·.1) = false := by rfl) (hs : starEach [e, e2] X.env = (false, eval e X.env) :: starEach [e2] X.env := by rfl) (hpl : (backTo pos2 (starEach [e2] X.env)).any (·.1) = false := by rfl) :
    PE X (.Call (.Name "dict" p0) [.Call (.Name "zip" p) [e, e2] [] pos2] [] pos) (tDZ X.K ta) := by
  refine ⟨fun pins s σ H Q I h => ?_⟩
  refine wpAny_Call_Name_kw (ld_blt I hgs hms boot_dict ?_)
  refine PyProof.Rows.callWith_type1 ?_ hs1 hp1
  rw [hs1]
  show wpAny _ _ (spliced ((false, eval (.Call (.Name "zip" p) [e, e2] [] pos2) X.env) :: backTo pos (starEach [] X.env))) _ _ s
  refine Calls.spliced_cons ?_
  refine wpAny_Call_Name_kw (ld_blt I hg hm PyProof.Rows.boot_zip ?_)
  refine PyProof.Rows.callWith_type1 (thn (ha.run pos2 pins s σ H _ I h) fun us s1 ⟨vs, H1, I1, r1, q1⟩ => ?_) hs hpl
  obtain ⟨k, l, a, b, zs, ys, ex, qx, qy, hlen, hz, q⟩ := q1
  subst ex
  obtain ⟨u1, u2, rfl, ra, rb⟩ := vals2 r1
  cases ra
  cases rb
  obtain ⟨us, ru, pu, la⟩ := Inv.sqK I1 qx
  obtain ⟨ws, rw', pw, lb⟩ := Inv.sqK I1 qy
  obtain ⟨o1, B1, b1⟩ := beginsK k a us.toArray
  obtain ⟨o2, B2, b2⟩ := beginsK l b ws.toArray
  refine zip_begins2 B1 B2 pu pw fun h' hz' hTI hTO e1 e2 hsz hk => Calls.spliced_nil ?_
  have na : a ≠ s1.heap.objs.size := Nat.ne_of_lt la
  have nb : b ≠ s1.heap.objs.size + 1 := Nat.ne_of_lt (Nat.lt_succ_of_lt lb)
  have S := zip_sep2 (N := s1.heap.objs.size) (fp1 := [a]) (fp2 := [b]) (fun c hc => by rw [List.mem_singleton.mp hc]; exact la) fun c hc => by rw [List.mem_singleton.mp hc]; exact lb
  have lu : us.length = zs.length := by rw [← ru.length, List.length_map]
  have lw : ws.length = zs.length := by rw [← rw'.length, hlen]
  refine call_dict_pairs (knd := mixKind X.prog X.w) (kvs := zs.zip ws) (pairArg_zipK S na nb us.toArray ws.toArray (by simp [lu, lw])) (I1.ok.hd hc) ⟨hz', hTI, ⟨_, _, hTO⟩, b1 _ _ e1, b2 _ _ e2, pu.keep fun o e => hk _ o e, pw.keep fun o e => hk _ o e⟩ ⟨by simp [lu, lw], fun i key v hr => ?_⟩ (by simpa [lu] using hz) fun h2 tk hd' kp => ?_
  · obtain ⟨g1, g2⟩ := hr
    have g1 : us[i]? = some key := by simpa using g1
    have g2 : ws[i]? = some v := by simpa using g2
    have li : i < zs.length := by
      have := (List.getElem?_eq_some_iff.mp g1).1
      omega
    have hzi : zs[i]? = some zs[i] := List.getElem?_eq_getElem li
    obtain ⟨u, hu, rk⟩ := ru.get (i := i) (x := kV zs[i]) (by rw [List.getElem?_map, hzi]; rfl)
    rw [hu] at g1
    have := Option.some.inj g1
    subst this
    exact ⟨zs[i], by rw [List.getElem?_zip_eq_some]; exact ⟨hzi, g2⟩, kV_is rk⟩
  · have rel : KV (zs.zip ys) (zs.zip ws) := kv_zip rw'
    have hm' : ((s1.heap.objs.size + 5 : Addr) == sysModules) = false := beq_eq_false_iff_ne.mpr (Nat.ne_of_gt (Nat.lt_of_lt_of_le I1.big (Nat.le_add_right _ _)))
    have hl2 : (mergeK [] (zs.zip ys)).length ≤ sizeLine := by
      refine Nat.le_trans (length_mergeK (zs.zip ys) []) ?_
      rw [List.length_nil, Nat.zero_add, List.length_zip]
      omega
    change (h2.DictOf (mixKind X.prog X.w) h'.objs.size (merged [] (zs.zip ws))) at hd'
    have kk : ∀ c o, s1.heap.get? c = some o → h2.get? c = some o := fun c o e => kp c o (fun hm => by
      have := Heap.lt_size e
      simp only [List.mem_cons, List.not_mem_nil, or_false] at hm
      rcases hm with rfl | rfl | rfl | rfl
      · exact Nat.not_lt.mpr (Nat.le_add_right _ _) this
      · exact Nat.not_lt.mpr (Nat.le_add_right _ _) this
      · exact Nat.lt_irrefl _ this
      · exact Nat.not_lt.mpr (Nat.le_add_right _ _) this) (hk c o e)
    show ∃ v H', _
    rw [hsz] at hd' ⊢
    exact ⟨.ref (s1.heap.objs.size + 5), upd H1 (s1.heap.objs.size + 5) (.dK (mergeK [] (zs.zip ys))), I1.laid (t' := tk) kk (Nat.le_add_right _ _) (show ObjOk X.prog X.w _ _ _ (.dK (mergeK [] (zs.zip ys))) from ⟨hl2, hm', merged [] (zs.zip ws), KV.merge rel .nil, hd'⟩), rfl, q _ (I1.hok.fresh (Nat.le_add_right _ _))⟩
theorem repL_keys {K : PySem.W.Frag} {F : Hp} : ∀ {zs : List Key} {vs : List V}, RepL K F vs (zs.map kD) → vs = zs.map kV
  | [], _, .nil => rfl
  | z :: zs, _, .cons h r => by
    obtain ⟨e1, _, _⟩ := h.key (k := z) (by cases z <;> rfl)
    rw [e1, repL_keys r]
    rfl
theorem repK_zip {K : PySem.W.Frag} {F : Hp} : ∀ {zs : List Key} {ds : List D} {ys : List V}, RepL K F (zs.map kV) (zs.map kD) → RepL K F ys ds → RepK K F (zs.zip ys) (zs.zip ds)
  | [], _, _, _, _ => .nil
  | _ :: _, _, _, _, .nil => .nil
  | z :: zs, _, _, .cons hk rk, .cons h r => .cons (hk.key (k := z) (by cases z <;> rfl)).2.1 h (repK_zip (zs := zs) rk r)
def dSeq : D → Option (Bool × List D)
  | .lst ds => some (true, ds)
  | .tup ds => some (false, ds)
  | _ => none
/-- dict(zip(xs, ys)), xs a list or tuple of keys, ys one as long -/
def semDZ (d e : D) (P : O → Prop) : Prop := ∃ (k l : Bool) (zs : List Key) (es : List D), dSeq d = some (k, zs.map kD) ∧ dSeq e = some (l, es) ∧ zs.length = es.length ∧ ∀ a, P (.dct a (mergeG [] (zs.zip es)))
def wDZ (wa wb : WD) : WO := fun ρ P => wa ρ fun d ρ1 => wb ρ1 fun e ρ2 => semDZ d e fun u => P u ρ2
theorem rep_seq {K : PySem.W.Frag} {F H : Hp} (sb : Sb F H) {v : V} {d : D} {k : Bool} {ds : List D} (r : Rep K F v d) (h : dSeq d = some (k, ds)) : ∃ a xs, v = .ref a ∧ SqK k K H a xs ∧ RepL K F xs ds ∧ ds.length ≤ sizeLine := by
  cases r with
  | lst hF z rl =>
    cases h
    exact ⟨_, _, rfl, .inl (.inl (sb.lst hF)), rl, z⟩
  | tup hF z rl =>
    cases h
    exact ⟨_, _, rfl, sb.sqT hF, rl, z⟩
  | _ => cases h
section
variable {X : Cx} {K : PySem.W.Frag} {e e2 : Expr} {w w2 : WD} {p0 pos p pos2 : Pos}
theorem xo_dictzip (hc : X.calm = true) (hgs : Gl X "dict") (hms : X.mg "dict" = none) (hg : Gl X "zip") (hm : X.mg "zip" = none) (ha : XE X e w) (hb : XE X e2 w2)
    (hs1 : starEach [.Call (.Name "zip" p) [e, e2] [] pos2] X.env = (false, eval (.Call (.Name "zip" p) [e, e2] [] pos2) X.env) :: starEach [] X.env := by rfl)
    (hp1 : (backTo pos (starEach [] X.env)).any (·.1) = false := by rfl) (hs : starEach [e, e2] X.env = (false, eval e X.env) :: starEach [e2] X.env := by rfl) (hs2 : starEach [e2] X.env = (false, eval e2 X.env) :: starEach [] X.env := by rfl) (hpl : (backTo pos2 (starEach [e2] X.env)).any (·.1) = false := by rfl) :
    XO X (.Call (.Name "dict" p0) [.Call (.Name "zip" p) [e, e2] [] pos2] [] pos) (wDZ w w2) :=
  ⟨PE.imp (pe_dictzip hc hgs hms hg hm (pa_cons ha.pe (pa_cons hb.pe pa_nil hs2) hs) hs1 hp1 hs hpl) fun σ H Q ⟨ρ, F, P, s, hw, k⟩ =>
    ⟨ρ, F, _, s, hw, fun d ρ1 F1 H1 v p s1 r1 f1 => ⟨ρ1, F1, _, s1, p, fun e ρ2 F2 H2 u p2 s2 r2 f2 => by
      obtain ⟨bk, bl, zs, es, e1, e2, hl, h⟩ := p2
      obtain ⟨a, xs, rfl, hx, rl, hz⟩ := rep_seq s2.sub (r1.mono f2.fz) e1
      obtain ⟨b, ys, rfl, hy, rl2, _⟩ := rep_seq s2.sub r2 e2
      have ek := repL_keys rl
      subst ek
      refine ⟨bk, bl, a, b, zs, ys, rfl, hx, hy, by rw [hl, rl2.length], by simpa using hz, fun p hn => ?_⟩
      have hlz : (mergeG [] (zs.zip es)).length ≤ sizeLine := by
        refine Nat.le_trans (length_mergeG _ _) ?_
        rw [List.length_nil, Nat.zero_add, List.length_zip]
        have : zs.length ≤ sizeLine := by simpa using hz
        omega
      obtain ⟨s3, f3⟩ := Res.dct hn hlz ((repK_zip rl rl2).merge .nil) _ _ s2
      exact k _ _ _ _ _ (h p) s3 ((f1.trans f2).trans f3)⟩⟩⟩
end
end Tr
/-! Instances: fields read and set, methods called, made. -/
namespace Tr
open PySem PySem.Spec PyProof.Rows L2
/-- what is left of a thing where it was taken -/
def O.stub : O → O
  | .fz d => .fz d
  | .lst a _ => .fz (.al a)
  | .dct a _ => .fz (.al a)
  | .dcT a _ => .fz (.al a)
  | .ins a _ _ _ => .fz (.al a)
theorem O.stub_owned (o : O) : o.stub.owned = [] := by cases o <;> rfl
theorem RepO.stub {K : PySem.W.Frag} {F H : Hp} {v : V} {o : O} (r : RepO K F H v o) : RepO K F H v o.stub := by
  cases r with
  | fz h => exact .fz h
  | lst => exact .fz (.al _)
  | dct => exact .fz (.al _)
  | dcT => exact .fz (.al _)
  | ins => exact .fz (.al _)
theorem ownedF_map : ∀ fs : List (Str × O), O.ownedF fs = O.ownedL (fs.map (·.2))
  | [] => rfl
  | p :: fs => by
    show p.2.owned ++ O.ownedF fs = p.2.owned ++ O.ownedL (fs.map (·.2))
    rw [ownedF_map fs]
/-- the owned ones with one put otherwise -/
theorem ownedF_set (k : Str) (o : O) : ∀ (fs : List (Str × O)) (j : Nat), j < fs.length → (O.ownedF (fs.set j (k, o))).Perm (o.owned ++ O.ownedF (fs.set j (k, .fz .non)))
  | [], _, h => absurd h (Nat.not_lt_zero _)
  | p :: fs, 0, _ => List.Perm.refl _
  | p :: fs, j + 1, h => by
    have ih := ownedF_set k o fs j (Nat.lt_of_succ_lt_succ h)
    show (p.2.owned ++ O.ownedF (fs.set j (k, o))).Perm (o.owned ++ (p.2.owned ++ O.ownedF (fs.set j (k, .fz .non))))
    refine (List.Perm.append_left _ ih).trans ?_
    rw [← List.append_assoc, ← List.append_assoc]
    exact List.Perm.append_right _ List.perm_append_comm
theorem set_selfF {α : Type} : ∀ {fs : List α} {j : Nat} {p : α}, fs[j]? = some p → fs.set j p = fs
  | [], _, _, h => by cases h
  | x :: r, 0, s, h => by cases h; rfl
  | x :: r, i + 1, s, h => congrArg (x :: ·) (set_selfF (fs := r) (by simpa using h))
theorem lt_of_get {α : Type} {fs : List α} {j : Nat} {p : α} (h : fs[j]? = some p) : j < fs.length := (List.getElem?_eq_some_iff.mp h).1
theorem RepOS.setAt {K : PySem.W.Frag} {F H : Hp} {o : O} {v : V} {k : Str} (ro : RepO K F H v o) : ∀ {es : List (Str × V)} {fs : List (Str × O)} {j : Nat}, RepOS K F H es fs → es[j]? = some (k, v) → RepOS K F H es (fs.set j (k, o))
  | _, _, _, .nil, h => by cases h
  | _, _, 0, .cons _ r, h => by cases h; exact .cons ro r
  | _, _, j + 1, .cons h r, e => .cons h (RepOS.setAt ro (j := j) r (by simpa using e))
theorem RepOS.get {K : PySem.W.Frag} {F H : Hp} : ∀ {es : List (Str × V)} {fs : List (Str × O)} {j : Nat} {p : Str × O}, RepOS K F H es fs → fs[j]? = some p → ∃ v, es[j]? = some (p.1, v) ∧ RepO K F H v p.2
  | _, _, _, _, .nil, h => by cases h
  | _, _, 0, _, .cons h r, e => by cases e; exact ⟨_, rfl, h⟩
  | _, _, j + 1, _, .cons h r, e => RepOS.get (j := j) r (by simpa using e)
theorem RepOS.keys {K : PySem.W.Frag} {F H : Hp} : ∀ {es : List (Str × V)} {fs : List (Str × O)}, RepOS K F H es fs → es.map (·.1) = fs.map (·.1)
  | _, _, .nil => rfl
  | _, _, .cons (k := k) h r => by rw [List.map_cons, List.map_cons, RepOS.keys r]
theorem RepS.keys {K : PySem.W.Frag} {F : Hp} : ∀ {es : List (Str × V)} {fs : List (Str × D)}, RepS K F es fs → es.map (·.1) = fs.map (·.1)
  | _, _, .nil => rfl
  | _, _, .cons (k := k) h r => by rw [List.map_cons, List.map_cons, RepS.keys r]
theorem RepS.get {K : PySem.W.Frag} {F : Hp} : ∀ {es : List (Str × V)} {fs : List (Str × D)} {j : Nat} {p : Str × D}, RepS K F es fs → fs[j]? = some p → ∃ v, es[j]? = some (p.1, v) ∧ Rep K F v p.2
  | _, _, _, _, .nil, h => by cases h
  | _, _, 0, _, .cons h r, e => by cases e; exact ⟨_, rfl, h⟩
  | _, _, j + 1, _, .cons h r, e => RepS.get (j := j) r (by simpa using e)
section
variable {K : PySem.W.Frag} {F H : Hp} {ρ : TEnv} {σ : L2.St} {a dx C : Addr} {fs : List (Str × O)}
/-- a field's thing on top -/
theorem SR.takeA {i j : Nat} {p : Str × O} (s : SR K ρ σ F H) (e : ρ[i]? = some (some (.ins a dx C fs))) (l : fs[j]? = some p) :
    ∃ es v, σ[i]? = some (some (.ref a)) ∧ H a = some (.ins C dx es) ∧ es.map (·.1) = fs.map (·.1) ∧ es[j]? = some (p.1, v) ∧
      SR K (some p.2 :: ρ.set i (some (.ins a dx C (fs.set j (p.1, p.2.stub))))) (some v :: σ) F H ∧ ∀ b, b ∈ ownedE ρ ↔ b ∈ ownedE (some p.2 :: ρ.set i (some (.ins a dx C (fs.set j (p.1, p.2.stub))))) := by
  obtain ⟨v0, hv0, r0⟩ := s.slot i _ e
  cases r0 with
  | @ins _ _ _ es _ hH hD rs =>
  obtain ⟨v, hes, rv⟩ := rs.get l
  have hi : i < ρ.length := lt_of_get e
  have hj : j < fs.length := lt_of_get l
  have ps : (ownedE ρ).Perm (ownedE (some p.2 :: ρ.set i (some (.ins a dx C (fs.set j (p.1, p.2.stub)))))) := by
    have e1 := ownedE_set ρ i (some (.ins a dx C fs)) hi
    rw [set_getElem e] at e1
    have e2 := ownedE_set ρ i (some (.ins a dx C (fs.set j (p.1, p.2.stub)))) hi
    have f1 := ownedF_set p.1 p.2 fs j hj
    rw [set_selfF (p := (p.1, p.2)) l] at f1
    have f2 := ownedF_set p.1 p.2.stub fs j hj
    rw [O.stub_owned, List.nil_append] at f2
    refine e1.trans ?_
    show ((a :: dx :: O.ownedF fs) ++ ownedE (ρ.set i none)).Perm (p.2.owned ++ ownedE (ρ.set i (some (.ins a dx C (fs.set j (p.1, p.2.stub))))))
    refine .trans ?_ (List.Perm.append_left _ e2.symm)
    show ((a :: dx :: O.ownedF fs) ++ ownedE (ρ.set i none)).Perm (p.2.owned ++ ((a :: dx :: O.ownedF (fs.set j (p.1, p.2.stub))) ++ ownedE (ρ.set i none)))
    rw [← List.append_assoc]
    refine List.Perm.append_right _ ?_
    refine .trans (((f1.trans (List.Perm.append_left _ f2.symm)).cons dx).cons a) ?_
    exact ((List.perm_middle (a := dx)).symm.cons a).trans (List.perm_middle (a := a)).symm
  refine ⟨es, v, hv0, hH, rs.keys, hes, ⟨s.sub, by simpa using s.len, fun m u q => ?_, fun b hb => s.own b (ps.mem_iff.mpr hb), ps.nodup_iff.mp s.nd⟩, fun b => ps.mem_iff⟩
  cases m with
  | zero => cases q; exact ⟨v, rfl, rv⟩
  | succ m =>
    have q : (ρ.set i (some (.ins a dx C (fs.set j (p.1, p.2.stub)))))[m]? = some (some u) := q
    by_cases hm : i = m
    · subst hm
      rw [List.getElem?_set_self hi] at q
      cases q
      exact ⟨_, hv0, .ins hH hD (rs.setAt rv.stub hes)⟩
    · rw [List.getElem?_set_ne hm] at q
      exact s.slot m u q
/-- .. and back -/
theorem SR.giveA {i j : Nat} {o' : O} {k : Str} {u : O} {v : V} {es : List (Str × V)} (s : SR K (some o' :: ρ) (some v :: σ) F H) (e : ρ[i]? = some (some (.ins a dx C fs))) (hH : H a = some (.ins C dx es)) (l : fs[j]? = some (k, u)) (he : es[j]? = some (k, v)) (hu : u.owned = []) :
    SR K (ρ.set i (some (.ins a dx C (fs.set j (k, o'))))) σ F H ∧ ∀ b, b ∈ ownedE (ρ.set i (some (.ins a dx C (fs.set j (k, o'))))) ↔ b ∈ ownedE (some o' :: ρ) := by
  obtain ⟨v0, hv0, r0⟩ := s.slot (i + 1) (.ins a dx C fs) (by simpa using e)
  have hv0 : σ[i]? = some (some v0) := by simpa using hv0
  cases r0 with
  | @ins _ _ _ es2 _ hH2 hD rs =>
  rw [hH] at hH2
  cases hH2
  have hi : i < ρ.length := lt_of_get e
  have hj : j < fs.length := lt_of_get l
  have ps : (ownedE (ρ.set i (some (.ins a dx C (fs.set j (k, o')))))).Perm (ownedE (some o' :: ρ)) := by
    have e1 := ownedE_set ρ i (some (.ins a dx C fs)) hi
    rw [set_getElem e] at e1
    have e2 := ownedE_set ρ i (some (.ins a dx C (fs.set j (k, o')))) hi
    have f1 := ownedF_set k u fs j hj
    rw [set_selfF l, hu, List.nil_append] at f1
    have f2 := ownedF_set k o' fs j hj
    refine e2.trans (.trans ?_ (List.Perm.append_left o'.owned e1.symm))
    show ((a :: dx :: O.ownedF (fs.set j (k, o'))) ++ ownedE (ρ.set i none)).Perm (o'.owned ++ ((a :: dx :: O.ownedF fs) ++ ownedE (ρ.set i none)))
    rw [← List.append_assoc]
    refine List.Perm.append_right _ ?_
    refine .trans (((f2.trans (List.Perm.append_left _ f1.symm)).cons dx).cons a) ?_
    exact ((List.perm_middle (a := dx)).symm.cons a).trans (List.perm_middle (a := a)).symm
  refine ⟨⟨s.sub, by simpa using s.len, fun m w q => ?_, fun b hb => s.own b (ps.mem_iff.mp hb), ps.nodup_iff.mpr s.nd⟩, fun b => ps.mem_iff⟩
  by_cases hm : i = m
  · subst hm
    rw [List.getElem?_set_self hi] at q
    cases q
    exact ⟨_, hv0, .ins hH hD (rs.setAt s.top he)⟩
  · rw [List.getElem?_set_ne hm] at q
    exact s.slot (m + 1) w (by simpa using q)
/-- a field's thing let go -/
theorem SR.letA {i j : Nat} {p : Str × O} (s : SR K ρ σ F H) (e : ρ[i]? = some (some (.ins a dx C fs))) (l : fs[j]? = some p) :
    ∃ F' es v, σ[i]? = some (some (.ref a)) ∧ H a = some (.ins C dx es) ∧ es.map (·.1) = fs.map (·.1) ∧ es[j]? = some (p.1, v) ∧ SR K (ρ.set i (some (.ins a dx C (fs.set j (p.1, .fz p.2.frz))))) σ F' H ∧ Rep K F' v p.2.frz ∧
      Frm (ownedE ρ) F H (ownedE (ρ.set i (some (.ins a dx C (fs.set j (p.1, .fz p.2.frz)))))) F' H := by
  obtain ⟨es, v, hv, hH, hk, he, s1, m1⟩ := s.takeA e l
  obtain ⟨F', s2, f2⟩ := s1.froz
  have hi : i < ρ.length := lt_of_get e
  have hj : j < fs.length := lt_of_get l
  obtain ⟨s3, m3⟩ := s2.giveA (i := i) (j := j) (fs := fs.set j (p.1, p.2.stub)) (k := p.1) (u := p.2.stub) (by rw [List.getElem?_set_self hi]) hH (by rw [List.getElem?_set_self hj]) he p.2.stub_owned
  rw [List.set_set, List.set_set] at s3 m3
  refine ⟨F', es, v, hv, hH, hk, he, s3, s2.topD, f2.iff m1 fun b hb => ?_⟩
  exact (m3 b).mp hb
end
theorem lookup_at {α : Type} {f : Str} {v : α} : ∀ {es : List (Str × α)} {ns : List Str} {j : Nat}, es.map (·.1) = ns → ns.Nodup → ns[j]? = some f → es[j]? = some (f, v) → es.lookup f = some v
  | [], _, _, _, _, _, h => by cases h
  | q :: es, _, 0, rfl, nd, hn, h => by
    cases h
    rw [List.lookup_cons, beq_self_eq_true]
  | q :: es, _, j + 1, rfl, nd, hn, h => by
    have h : es[j]? = some (f, v) := by simpa using h
    obtain ⟨n1, n2⟩ := List.nodup_cons.mp nd
    have hm : f ∈ es.map (·.1) := List.mem_map.mpr ⟨_, List.mem_of_getElem? h, rfl⟩
    have hne : f ≠ q.1 := fun e => n1 (by rw [e] at hm; exact hm)
    rw [List.lookup_cons, beq_eq_false_iff_ne.mpr hne]
    exact lookup_at (es := es) rfl n2 (by simpa using hn) h
theorem lookup_no {α : Type} {f : Str} : ∀ {es : List (Str × α)}, f ∉ es.map (·.1) → es.lookup f = none
  | [], _ => rfl
  | q :: es, h => by
    rw [List.map_cons, List.mem_cons, not_or] at h
    rw [List.lookup_cons, beq_eq_false_iff_ne.mpr h.1]
    exact lookup_no h.2
/-- what a class has, told to a name's field -/
structure FldOk (K : PySem.W.Frag) (c : Addr) (ns : List Str) (j : Nat) (f : Str) : Prop where
  cls : Cls K c
  no : NoAttr K c f
  nd : ns.Nodup
  at_ : ns[j]? = some f
/-- x.f, x a name -/
def wFld (c : Addr) (ns : List Str) (j i : Nat) : WD := fun ρ P => match nth ρ i with
  | some (.ins a dx C fs) => C = c ∧ fs.map (·.1) = ns ∧ ∃ p, fs[j]? = some p ∧ putC ρ i (some (.ins a dx C (fs.set j (p.1, .fz p.2.frz)))) (P p.2.frz)
  | some (.fz (.ins C fs)) => C = c ∧ fs.map (·.1) = ns ∧ ∃ p, fs[j]? = some p ∧ P p.2 ρ
  | _ => False
/-- e.f -/
def wFldE (c : Addr) (ns : List Str) (j : Nat) (w : WD) : WD := fun ρ P => w ρ fun d ρ1 => match d with
  | .ins C fs => C = c ∧ fs.map (·.1) = ns ∧ ∃ p, fs[j]? = some p ∧ P p.2 ρ1
  | _ => False
theorem key_at {α : Type} {fs : List (Str × α)} {ns : List Str} {j : Nat} {f : Str} {p : Str × α} (h : fs.map (·.1) = ns) (hn : ns[j]? = some f) (l : fs[j]? = some p) : p.1 = f := by
  subst h
  rw [List.getElem?_map, l] at hn
  exact Option.some.inj hn
section
variable {X : Cx} {o e : Expr} {f : Str} {pos pos' : Pos} {c : Addr} {ns : List Str} {j i : Nat} {w : WD}
theorem xe_fld (hf : FldOk X.K c ns j f) (ho : PE X o (tVar i)) (hb : attributeBase o f X.env (eval o X.env) = eval o X.env := by rfl) : XE X (.Attribute o f pos) (wFld c ns j i) :=
  ⟨PE.imp (pe_fld ho hb) fun σ H Q ⟨ρ, F, P, s, hw, k⟩ => by
    unfold wFld at hw
    split at hw
    · rename_i a dx C fs hn
      obtain ⟨rfl, hk, p, hp, h⟩ := hw
      obtain ⟨F', es, v, hv, hH, hke, he, s1, r1, f1⟩ := s.letA (nth_eq hn) hp
      rw [key_at hk hf.at_ hp] at he
      rw [putC_eq] at h
      exact ⟨_, hv, a, C, dx, es, v, rfl, hH, hf.cls, hf.no, lookup_at (hke.trans hk) hf.nd hf.at_ he, k _ _ _ _ _ h s1 r1 f1⟩
    · rename_i C fs hn
      obtain ⟨rfl, hk, p, hp, h⟩ := hw
      obtain ⟨v0, hv0, r0⟩ := s.slot i _ (nth_eq hn)
      cases r0 with
      | fz r0 =>
      cases r0 with
      | @ins a _ dx es _ hF rs =>
      obtain ⟨v, he, rv⟩ := rs.get hp
      rw [key_at hk hf.at_ hp] at he
      exact ⟨_, hv0, a, C, dx, es, v, rfl, s.sub.ins hF, hf.cls, hf.no, lookup_at (rs.keys.trans hk) hf.nd hf.at_ he, k _ _ _ _ _ h s rv .refl⟩
    · exact hw.elim⟩
theorem xe_fldE (hf : FldOk X.K c ns j f) (ho : XE X o w) (hb : attributeBase o f X.env (eval o X.env) = eval o X.env := by rfl) : XE X (.Attribute o f pos) (wFldE c ns j w) :=
  ⟨PE.imp (pe_fld ho.pe hb) fun σ H Q ⟨ρ, F, P, s, hw, k⟩ => ⟨ρ, F, _, s, hw, fun d ρ1 F1 H1 x p1 s1 r1 f1 => by
    split at p1
    · rename_i C fs
      obtain ⟨rfl, hk, p, hp, h⟩ := p1
      cases r1 with
      | @ins a _ dx es _ hF rs =>
      obtain ⟨v, he, rv⟩ := rs.get hp
      rw [key_at hk hf.at_ hp] at he
      exact ⟨a, C, dx, es, v, rfl, s1.sub.ins hF, hf.cls, hf.no, lookup_at (rs.keys.trans hk) hf.nd hf.at_ he, k _ _ _ _ _ h s1 rv f1⟩
    · exact p1.elim⟩⟩
end

/-! ### a field is set -/
def setA (fs : List (Str × O)) (j : Nat) (f : Str) (o : O) : List (Str × O) := if j < fs.length then fs.set j (f, o) else fs ++ [(f, o)]
theorem RepOS.putA {K : PySem.W.Frag} {F H : Hp} {o : O} {y : V} {f : Str} (ro : RepO K F H y o) : ∀ {es : List (Str × V)} {fs : List (Str × O)} {ns : List Str} {j : Nat}, RepOS K F H es fs → fs.map (·.1) = ns.take fs.length → ns.Nodup → ns[j]? = some f → j ≤ fs.length →
    RepOS K F H (putF f y es) (setA fs j f o)
  | _, _, ns, j, .nil, _, nd, hn, hj => by
    have : j = 0 := Nat.le_zero.mp hj
    subst this
    exact .cons ro .nil
  | _, _, [], j, .cons h r, hk, nd, hn, hj => by cases hn
  | _, _, n :: ns, 0, .cons (k := k) (v := v) (vs := vs) (ds := ds) h r, hk, nd, hn, hj => by
    injection hk with h1 h2
    have h1 : k = n := h1
    have hn : n = f := by simpa using hn
    subst h1 hn
    show RepOS K F H (if k = k then (k, y) :: vs else _) (setA ((k, _) :: ds) 0 k o)
    rw [if_pos rfl]
    exact .cons ro r
  | _, _, n :: ns, j + 1, .cons (k := k) (v := v) (vs := vs) (d := d) (ds := ds) h r, hk, nd, hn, hj => by
    injection hk with h1 h2
    have h1 : k = n := h1
    subst h1
    obtain ⟨n1, n2⟩ := List.nodup_cons.mp nd
    have hn : ns[j]? = some f := by simpa using hn
    have hne : ¬ k = f := fun e => n1 (by rw [e]; exact List.mem_of_getElem? hn)
    have ih := RepOS.putA ro r (show ds.map (·.1) = ns.take ds.length from h2) n2 hn (Nat.le_of_succ_le_succ hj)
    have e1 : putF f y ((k, v) :: vs) = (k, v) :: putF f y vs := by
      show (if k = f then (k, y) :: vs else (k, v) :: putF f y vs) = _
      rw [if_neg hne]
    have e2 : setA ((k, d) :: ds) (j + 1) f o = (k, d) :: setA ds j f o := by
      unfold setA
      by_cases q : j < ds.length
      · rw [if_pos q, if_pos (show j + 1 < ((k, d) :: ds).length from Nat.succ_lt_succ q)]; rfl
      · rw [if_neg q, if_neg (show ¬ j + 1 < ((k, d) :: ds).length from fun z => q (Nat.lt_of_succ_lt_succ z))]; rfl
    rw [e1, e2]
    exact .cons h ih
theorem setA_owned (fs : List (Str × O)) (j : Nat) (f : Str) (o : O) : (∀ b ∈ O.ownedF (setA fs j f o), b ∈ o.owned ++ O.ownedF fs) ∧ ((o.owned ++ O.ownedF fs).Nodup → (O.ownedF (setA fs j f o)).Nodup) := by
  unfold setA
  split
  · obtain ⟨a1, a2⟩ := ownedL_set (o := o) (fs.map (·.2)) j
    have e : O.ownedF (fs.set j (f, o)) = O.ownedL ((fs.map (·.2)).set j o) := by rw [ownedF_map, List.map_set]
    rw [e, ownedF_map]
    exact ⟨a1, a2⟩
  · have e : O.ownedF (fs ++ [(f, o)]) = O.ownedF fs ++ o.owned := by
      rw [ownedF_map, List.map_append, O.ownedL_append, ← ownedF_map]
      show O.ownedF fs ++ (o.owned ++ []) = _
      rw [List.append_nil]
    rw [e]
    exact ⟨fun b hb => (List.mem_append.mp hb).elim (List.mem_append_right _) (List.mem_append_left _), fun h => List.perm_append_comm.nodup_iff.mp h⟩
/-- an instance that is held is changed -/
theorem SR.mutF {K : PySem.W.Frag} {ρ : TEnv} {σ : L2.St} {F H : Hp} {o : O} {y : V} {a dx C : Addr} {fs fs' : List (Str × O)} {es' : List (Str × V)} (s : SR K (some o :: some (.ins a dx C fs) :: ρ) (some y :: some (.ref a) :: σ) F H) (r : RepOS K F H es' fs')
    (m : ∀ b ∈ O.ownedF fs', b ∈ o.owned ++ O.ownedF fs) (nd : (O.ownedF fs').Nodup) :
    SR K (some (.ins a dx C fs') :: ρ) (some (.ref a) :: σ) F (upd H a (.ins C dx es')) ∧ Frm (ownedE (some o :: some (.ins a dx C fs) :: ρ)) F H (ownedE (some (.ins a dx C fs') :: ρ)) F (upd H a (.ins C dx es')) := by
  have n1 := List.nodup_append.mp s.nd
  have n2 := List.nodup_append.mp n1.2.1
  have n3 := List.nodup_cons.mp (show (a :: dx :: O.ownedF fs).Nodup from n2.1)
  have n4 := List.nodup_cons.mp n3.2
  have ha : a ∈ slotOwned (some (O.ins a dx C fs)) := List.mem_cons_self
  have hd : dx ∈ slotOwned (some (O.ins a dx C fs)) := List.mem_cons_of_mem _ List.mem_cons_self
  have hin : ∀ b ∈ O.ownedF fs, b ∈ slotOwned (some (O.ins a dx C fs)) := fun b hb => List.mem_cons_of_mem _ (List.mem_cons_of_mem _ hb)
  have fa : F a = none := s.own a (List.mem_append_right _ (List.mem_append_left _ ha))
  have na : a ∉ O.ownedF fs' := fun h => by
    rcases List.mem_append.mp (m a h) with q | q
    · exact n1.2.2 a q a (List.mem_append_left _ ha) rfl
    · exact n3.1 (List.mem_cons_of_mem _ q)
  have nd' : dx ∉ O.ownedF fs' := fun h => by
    rcases List.mem_append.mp (m dx h) with q | q
    · exact n1.2.2 dx q dx (List.mem_append_left _ hd) rfl
    · exact n4.1 q
  have nr : a ∉ ownedE ρ := fun h => n2.2.2 a ha a h rfl
  have sb : Sb F (upd H a (.ins C dx es')) := fun b u h => by
    rw [upd_ne (fun e => by subst e; rw [fa] at h; cases h)]
    exact s.sub b u h
  have s0 := s.pop.pop
  have sρ : SR K ρ σ F (upd H a (.ins C dx es')) := ⟨sb, s0.len, fun i u e => by
    obtain ⟨v, hv, q⟩ := s0.slot i u e
    exact ⟨v, hv, q.mono (fun _ _ h => h) fun b hb w hw => by
      rw [upd_ne (fun e' => nr (by subst e'; exact mem_ownedE e b hb))]; exact hw⟩, s0.own, s0.nd⟩
  obtain ⟨es, hes, hdx⟩ : ∃ es, H a = some (.ins C dx es) ∧ H dx = some (.own a) := by
    have q := s.pop.top
    cases q with
    | ins h h2 _ => exact ⟨_, h, h2⟩
  have ne : dx ≠ a := fun e => n3.1 (by rw [e]; exact List.mem_cons_self)
  have mem : ∀ b ∈ (O.ins a dx C fs').owned, b ∈ ownedE (some o :: some (.ins a dx C fs) :: ρ) := fun b hb => by
    have hb : b ∈ a :: dx :: O.ownedF fs' := hb
    rcases List.mem_cons.mp hb with e | hb
    · subst e; exact List.mem_append_right _ (List.mem_append_left _ ha)
    · rcases List.mem_cons.mp hb with e | hb
      · subst e; exact List.mem_append_right _ (List.mem_append_left _ hd)
      · rcases List.mem_append.mp (m b hb) with q | q
        · exact List.mem_append_left _ q
        · exact List.mem_append_right _ (List.mem_append_left _ (hin b q))
  refine ⟨sρ.push (.ins upd_same (by rw [upd_ne ne]; exact hdx) (r.mono (fun _ _ h => h) fun b hb w hw => by
      rw [upd_ne (fun e' => na (by subst e'; exact hb))]; exact hw)) (fun b hb => s.own b (mem b hb)) ?_, fun _ _ h => h, fun b u hb _ hf e => ?_, fun b hb => ?_, fun b u e => ?_, fun b u w e => by rw [upd_ne (fun q => by subst q; rw [hes] at e; cases e)]; exact e⟩
  · refine List.nodup_append.mpr ⟨List.nodup_cons.mpr ⟨fun h => (List.mem_cons.mp h).elim (fun e => ne e.symm) na, List.nodup_cons.mpr ⟨nd', nd⟩⟩, s0.nd, fun b hb c hc e => ?_⟩
    subst e
    have hb : b ∈ a :: dx :: O.ownedF fs' := hb
    rcases List.mem_cons.mp hb with e | hb
    · subst e; exact nr hc
    · rcases List.mem_cons.mp hb with e | hb
      · subst e; exact n2.2.2 b hd b hc rfl
      · rcases List.mem_append.mp (m b hb) with q | q
        · exact n1.2.2 b q b (List.mem_append_right _ hc) rfl
        · exact n2.2.2 b (hin b q) b hc rfl
  · refine ⟨?_, hf⟩
    rw [upd_ne (fun e' => hb (by subst e'; exact List.mem_append_right _ (List.mem_append_left _ ha)))]; exact e
  · refine .inl ?_
    rcases List.mem_append.mp hb with h | h
    · exact mem b h
    · exact List.mem_append_right _ (List.mem_append_right _ h)
  · by_cases q : b = a
    · subst q; exact ⟨_, upd_same⟩
    · exact ⟨u, by rw [upd_ne q]; exact e⟩
/-- x.f = e, x a name of a held instance -/
def wSetA (c : Addr) (ns : List Str) (j : Nat) (f : Str) (i : Nat) (w : WO) : WS := fun ρ E => w ρ fun o ρ1 => match nth ρ1 i with
  | some (.ins a dx C fs) => C = c ∧ fs.map (·.1) = ns.take fs.length ∧ j ≤ fs.length ∧ fs.length < 1000 ∧ putC ρ1 i (some (.ins a dx C (setA fs j f o))) E.nx
  | _ => False
section
variable {X : Cx} {o e : Expr} {f : Str} {pos pos' : Pos} {c : Addr} {ns : List Str} {j i : Nat} {w : WO}
theorem xs_setA (hf : FldOk X.K c ns j f) (ho : PE X o (tVar i)) (hv : XO X e w) (hs : swapsWith e (some (.Attribute o f pos')) pos.line X.env = pure false := by rfl) : XS X (.Assign [.Attribute o f pos'] e pos) (wSetA c ns j f i w) :=
  ⟨fun W tk => PS.imp (ps_fld ho hv.pe hs) fun Dn σ H ⟨ρ, F, E, s, hw, k⟩ => ⟨ρ, F, _, s, hw, fun u ρ1 F1 H1 y p s1 f1 => by
    cases hn : nth ρ1 i with
    | none => rw [hn] at p; exact p.elim
    | some o1 =>
    rw [hn] at p
    cases o1 <;> first
      | (exact p.elim)
      | skip
    rename_i a dx C fs
    obtain ⟨rfl, hk, hj, hl, h⟩ := p
    obtain ⟨v, hv, t1, m1⟩ := s1.pop.take (nth_eq hn)
    have q := t1.top
    cases q with
    | @ins _ _ _ es _ hH hD rs =>
    have n := List.nodup_append.mp s1.nd
    have t2 : SR X.K (some u :: some (.ins a dx C fs) :: ρ1.set i none) (some y :: some (.ref a) :: σ) F1 H1 := t1.push s1.top (fun b hb => s1.own b (List.mem_append_left _ hb)) (List.nodup_append.mpr ⟨n.1, t1.nd, fun b hb d hd e' => by
      subst e'
      exact n.2.2 b hb b ((m1 b).mpr hd) rfl⟩)
    have m2 : ∀ b, b ∈ ownedE (some u :: some (.ins a dx C fs) :: ρ1.set i none) ↔ b ∈ ownedE (some u :: ρ1) := fun b => by
      constructor
      · intro hb
        rcases List.mem_append.mp hb with q | q
        · exact List.mem_append_left _ q
        · exact List.mem_append_right _ ((m1 b).mpr q)
      · intro hb
        rcases List.mem_append.mp hb with q | q
        · exact List.mem_append_left _ q
        · exact List.mem_append_right _ ((m1 b).mp q)
    have n1 := List.nodup_append.mp t2.nd
    have n2 := List.nodup_append.mp n1.2.1
    have n3 := (List.nodup_cons.mp (List.nodup_cons.mp (show (a :: dx :: O.ownedF fs).Nodup from n2.1)).2).2
    obtain ⟨w1, w2⟩ := setA_owned fs j f u
    obtain ⟨t3, f3⟩ := t2.mutF (rs.putA s1.top hk hf.nd hf.at_ hj) w1 (w2 (List.nodup_append.mpr ⟨n1.1, n3, fun b hb d hd => n1.2.2 b hb d (List.mem_append_left _ (List.mem_cons_of_mem _ (List.mem_cons_of_mem _ hd)))⟩))
    obtain ⟨t4, m4⟩ := t3.set (i := i) hv
    rw [List.set_set] at t4 m4
    rw [putC_eq] at h
    exact ⟨_, hv, a, C, dx, es, rfl, hH, hf.cls, hf.no, by
      have := congrArg List.length rs.keys
      rw [List.length_map, List.length_map] at this
      omega, k.nx _ _ _ _ h t4 (f1.trans ((f3.iff (fun b => (m2 b).symm) fun b hb => hb).less m4))⟩⟩⟩
end
end Tr
/-! Methods called, instances made. -/
namespace Tr
open PySem PySem.Spec PyProof.Rows L2
section
variable {K : PySem.W.Frag} {ρ : TEnv} {σ : L2.St} {F H : Hp}
/-- .. of an instance's method: what a class must have -/
structure MetOk (K : PySem.W.Frag) (c : Addr) (ns : List Str) (m : Str) (f : Addr) : Prop where
  cls : Cls K c
  met : Meth K c m f
  no : m ∉ ns
theorem no_take {m : Str} {ns : List Str} (h : m ∉ ns) {α : Type} {fs : List (Str × α)} (hk : fs.map (·.1) = ns.take fs.length) : m ∉ fs.map (·.1) := fun hm => by
  rw [hk] at hm
  exact h (List.take_subset _ _ hm)
end
def isIns (c : Addr) (ns : List Str) : O → Prop
  | .ins _ _ C fs => C = c ∧ fs.map (·.1) = ns.take fs.length
  | .fz (.ins C fs) => C = c ∧ fs.map (·.1) = ns.take fs.length
  | _ => False
theorem ins_at {K : PySem.W.Frag} {F H : Hp} (sb : Sb F H) {c : Addr} {ns : List Str} {o : O} {v : V} (h : isIns c ns o) (r : RepO K F H v o) : ∃ a dx es, v = .ref a ∧ H a = some (.ins c dx es) ∧ ∀ m, m ∉ ns → es.lookup m = none := by
  unfold isIns at h
  split at h
  · obtain ⟨rfl, hk⟩ := h
    cases r with
    | @ins a _ dx es _ hH hD rs => exact ⟨_, _, es, rfl, hH, fun m hm => lookup_no (by rw [rs.keys]; exact no_take hm hk)⟩
  · obtain ⟨rfl, hk⟩ := h
    cases r with
    | fz r =>
    cases r with
    | @ins a _ dx es _ hF rs => exact ⟨_, _, es, rfl, sb.ins hF, fun m hm => lookup_no (by rw [rs.keys]; exact no_take hm hk)⟩
  · exact h.elim
/-- x.m(..), x a name: the method may change what stands there -/
def wMet (sp : SpT) (c : Addr) (ns : List Str) (i : Nat) (wl : WL) : WO := fun ρ P => match nth ρ i with
  | some o => isIns c ns o ∧ wl ρ fun ds ρ' => match nth ρ' i with
    | some o => sp (o :: ds.map .fz) fun r os' => ∃ o' t, os' = o' :: t ∧ putC ρ' i (some o') (P r)
    | none => False
  | none => False
/-- e.m(..) of data -/
def wMetE (sp : SpT) (c : Addr) (ns : List Str) (w : WD) (wl : WL) : WO := fun ρ P => w ρ fun d ρ1 => isIns c ns (.fz d) ∧ wl ρ1 fun ds ρ' => sp (.fz d :: ds.map .fz) fun r _ => P r ρ'
/-- C(..) -/
def wMake (sp : SpT) (c : Addr) (wl : WL) : WO := fun ρ P => wl ρ fun ds ρ' => ∀ x dx, sp (.ins x dx c [] :: ds.map .fz) fun r os' => r = .fz .non ∧ ∃ o' t, os' = o' :: t ∧ P o' ρ'
section
variable {X : Cx} {k : Nat} {f c : Addr} {ns : List Str} {m : Str} {fd : FuncData} {ps : List Str} {sp : SpT} {x : Str} {p pos apos : Pos} {o e : Expr} {es : List Expr} {wl : WL} {w : WD} {i : Nat} {pl : Sem Bool}
theorem t_met {t : TA} (l : ∀ σ H Q, liftA X.K wl σ H Q → t σ H Q) (M : MetOk X.K c ns m f) {σ : L2.St} {H : Hp} {Q : VK} (h : liftO X.K (wMet sp c ns i wl) σ H Q) : tMeth c m (liftSp X.K sp) [] E0 (tVar i) t σ H Q := by
  obtain ⟨ρ, F, P, s, hw, k⟩ := h
  unfold wMet at hw
  cases hn0 : nth ρ i with
  | none => rw [hn0] at hw; exact hw.elim
  | some o0 =>
  rw [hn0] at hw
  obtain ⟨hi, hw⟩ := hw
  obtain ⟨v0, hv0, r0⟩ := s.slot i o0 (nth_eq hn0)
  obtain ⟨a, dx, es, rfl, hH, hno⟩ := ins_at s.sub hi r0
  refine ⟨_, hv0, a, dx, es, rfl, hH, hno m M.no, l _ _ _ ⟨ρ, F, _, s, hw, fun ds ρ1 F1 H1 vs p s1 r1 f1 => ?_⟩⟩
  show liftSp X.K sp (.ref a :: (vs ++ [])) H1 Q E0
  rw [List.append_nil]
  cases hn : nth ρ1 i with
  | none => rw [hn] at p; exact p.elim
  | some o1 =>
  rw [hn] at p
  refine liftSp_S (P := P) s1 (nth_eq hn) hv0 r1 ?_ fun o ρ' F' H' v p' s' f' => k _ _ _ _ _ p' s' (f1.trans f')
  have e : ∀ o' r, putC ρ1 i (some o') (P r) = P r (ρ1.set i (some o')) := fun o' r => putC_eq _ _ _ _
  simp only [e] at p
  exact p
theorem xo_met (M : MetOk X.K c ns m f) (G : FnOk X.prog X.w X.K X.mg X.base CX0 k f fd ps (liftSp X.K sp)) (hr : Room k X.A) (hb : Binds X.K fd ps []) (ho : PE X o (tVar i)) (ha : XA X (e :: es) wl)
    (hst : starEach (e :: es) X.env = (false, eval e X.env) :: starEach es X.env := by rfl) (hpl : (backTo pos (starEach es X.env)).any (·.1) = false := by rfl)
    (ht : eval (.Call (.Attribute o m apos) (e :: es) [] pos) X.env = (do
      let ov ← eval o X.env
      standAt apos.atName
      let (f, first) ← holding [ov] (getMethod ov m pl)
      callWith pos f first (backTo pos (starEach (e :: es) X.env)) (backToKw pos (keywordEach [] X.env))) := by rfl) :
    XO X (.Call (.Attribute o m apos) (e :: es) [] pos) (wMet sp c ns i wl) := ⟨PE.imp (pe_meth (pl := pl) ho M.cls M.met G hr hb .nil pass0 ha.pa hst hpl ht) fun _ _ _ h => t_met (fun _ _ _ h => h) M h⟩
theorem xo_met0 (M : MetOk X.K c ns m f) (G : FnOk X.prog X.w X.K X.mg X.base CX0 k f fd ps (liftSp X.K sp)) (hr : Room k X.A) (hb : Binds X.K fd ps []) (ho : PE X o (tVar i))
    (ht : eval (.Call (.Attribute o m apos) [] [] pos) X.env = (do
      let ov ← eval o X.env
      standAt apos.atName
      let (f, first) ← holding [ov] (getMethod ov m pl)
      callWith pos f first (backTo pos (starEach [] X.env)) (backToKw pos (keywordEach [] X.env))) := by rfl) :
    XO X (.Call (.Attribute o m apos) [] [] pos) (wMet sp c ns i wNil) := ⟨PE.imp (pe_meth0 (pl := pl) ho M.cls M.met G hr hb .nil pass0 ht) fun σ H Q h => t_met (t := tNil) (fun σ H Q ⟨ρ, F, P, s, hw, k⟩ => k _ _ _ _ _ hw s .nil .refl) M h⟩
theorem t_metE {t : TA} (l : ∀ σ H Q, liftA X.K wl σ H Q → t σ H Q) (M : MetOk X.K c ns m f) {σ : L2.St} {H : Hp} {Q : VK} (h : liftO X.K (wMetE sp c ns w wl) σ H Q) : tMeth c m (liftSp X.K sp) [] E0 (liftD X.K w) t σ H Q := by
  obtain ⟨ρ, F, P, s, hw, k⟩ := h
  refine ⟨ρ, F, _, s, hw, fun d ρ0 F0 H0 v0 p0 s0 r0 f0 => ?_⟩
  obtain ⟨hi, hw⟩ := p0
  obtain ⟨a, dx, es, rfl, hH, hno⟩ := ins_at s0.sub hi (.fz r0)
  refine ⟨a, dx, es, rfl, hH, hno m M.no, l _ _ _ ⟨ρ0, F0, _, s0, hw, fun ds ρ1 F1 H1 vs p s1 r1 f1 => ?_⟩⟩
  show liftSp X.K sp (.ref a :: (vs ++ [])) H1 Q E0
  rw [List.append_nil]
  exact liftSp_D (ds := d :: ds) (P := fun o => P o ρ1) s1 (.cons (r0.mono f1.fz) r1) p fun o F' H' v p' s' f' => k _ _ _ _ _ p' s' ((f0.trans f1).trans f')
theorem xo_metE (M : MetOk X.K c ns m f) (G : FnOk X.prog X.w X.K X.mg X.base CX0 k f fd ps (liftSp X.K sp)) (hr : Room k X.A) (hb : Binds X.K fd ps []) (ho : XE X o w) (ha : XA X (e :: es) wl)
    (hst : starEach (e :: es) X.env = (false, eval e X.env) :: starEach es X.env := by rfl) (hpl : (backTo pos (starEach es X.env)).any (·.1) = false := by rfl)
    (ht : eval (.Call (.Attribute o m apos) (e :: es) [] pos) X.env = (do
      let ov ← eval o X.env
      standAt apos.atName
      let (f, first) ← holding [ov] (getMethod ov m pl)
      callWith pos f first (backTo pos (starEach (e :: es) X.env)) (backToKw pos (keywordEach [] X.env))) := by rfl) :
    XO X (.Call (.Attribute o m apos) (e :: es) [] pos) (wMetE sp c ns w wl) := ⟨PE.imp (pe_meth (pl := pl) ho.pe M.cls M.met G hr hb .nil pass0 ha.pa hst hpl ht) fun _ _ _ h => t_metE (fun _ _ _ h => h) M h⟩
theorem xo_metE0 (M : MetOk X.K c ns m f) (G : FnOk X.prog X.w X.K X.mg X.base CX0 k f fd ps (liftSp X.K sp)) (hr : Room k X.A) (hb : Binds X.K fd ps []) (ho : XE X o w)
    (ht : eval (.Call (.Attribute o m apos) [] [] pos) X.env = (do
      let ov ← eval o X.env
      standAt apos.atName
      let (f, first) ← holding [ov] (getMethod ov m pl)
      callWith pos f first (backTo pos (starEach [] X.env)) (backToKw pos (keywordEach [] X.env))) := by rfl) :
    XO X (.Call (.Attribute o m apos) [] [] pos) (wMetE sp c ns w wNil) := ⟨PE.imp (pe_meth0 (pl := pl) ho.pe M.cls M.met G hr hb .nil pass0 ht) fun σ H Q h => t_metE (t := tNil) (fun σ H Q ⟨ρ, F, P, s, hw, k⟩ => k _ _ _ _ _ hw s .nil .refl) M h⟩
theorem t_make {t : TA} (l : ∀ σ H Q, liftA X.K wl σ H Q → t σ H Q) {σ : L2.St} {H : Hp} {Q : VK} (h : liftO X.K (wMake sp c wl) σ H Q) : tMake c (liftSp X.K sp) [] E0 t σ H Q := by
  obtain ⟨ρ, F, P, s, hw, k⟩ := h
  refine l _ _ _ ⟨ρ, F, _, s, hw, fun ds ρ1 F1 H1 vs p s1 r1 f1 => fun x dx hx hd ne => ?_⟩
  have fx : F1 x = none := s1.sub.free hx
  have fd : F1 dx = none := s1.sub.free hd
  have ex : ∀ b o, H1 b = some o → (upd (upd H1 dx (.own x)) x (.ins c dx [])) b = some o := fun b o e => by
    rw [upd_ne (ne_of_none e hx), upd_ne (ne_of_none e hd)]; exact e
  have sb : Sb F1 (upd (upd H1 dx (.own x)) x (.ins c dx [])) := fun b u h => by
    rw [upd_ne (ne_of_none h fx), upd_ne (ne_of_none h fd)]
    exact s1.sub b u h
  have g : Grow F1 H1 F1 (upd (upd H1 dx (.own x)) x (.ins c dx [])) := ⟨fun _ _ h => h, fun b w _ _ hf h => ⟨ex b w h, hf⟩, fun _ h => (nomatch h), fun b w h => ⟨w, ex b w h⟩, fun b w y h => ex b _ h⟩
  have s2 := s1.grow g sb
  have nx : x ∉ ownedE ρ1 := fun h => by
    obtain ⟨w, e⟩ := s1.thereE x h
    rw [hx] at e; cases e
  have nd : dx ∉ ownedE ρ1 := fun h => by
    obtain ⟨w, e⟩ := s1.thereE dx h
    rw [hd] at e; cases e
  have ri : RepO X.K F1 (upd (upd H1 dx (.own x)) x (.ins c dx [])) (.ref x) (.ins x dx c []) := .ins upd_same (by rw [upd_ne ne]; exact upd_same) .nil
  have sa : SR X.K ((O.ins x dx c [] :: ds.map O.fz).map some) ((V.ref x :: vs).map some) F1 (upd (upd H1 dx (.own x)) x (.ins c dx [])) := by
    refine (s2.args r1).push ri (fun b hb => ?_) ?_
    · have hb : b ∈ [x, dx] := hb
      rcases List.mem_cons.mp hb with e | hb
      · subst e; exact fx
      · rw [List.mem_singleton.mp hb]; exact fd
    · rw [ownedE_D, List.append_nil]
      exact List.nodup_cons.mpr ⟨fun h => ne (List.mem_singleton.mp h).symm, List.pairwise_singleton _ _⟩
  have eA : ownedE ((O.ins x dx c [] :: ds.map O.fz).map some) = [x, dx] := by
    show [x, dx] ++ ownedE ((ds.map O.fz).map some) = _
    rw [ownedE_D]; rfl
  show liftSp X.K sp (.ref x :: (vs ++ [])) _ _ E0
  rw [List.append_nil]
  refine ⟨.ins x dx c [] :: ds.map .fz, F1, _, sa, p x dx, fun o os' F' H' v p' s' f' => ?_⟩
  rw [eA] at f'
  obtain ⟨rfl, o', r', rfl, p'⟩ := p'
  have ev : v = .non := by
    have q := s'.top
    cases q with
    | fz q => cases q; rfl
  refine ⟨ev, ?_⟩
  obtain ⟨sB, nB⟩ := s2.out f' s'.sub fun b hb h => by
    rcases List.mem_cons.mp h with e | h
    · subst e; exact nx hb
    · rw [List.mem_singleton.mp h] at hb; exact nd hb
  have sp1 : SR X.K (some o' :: r'.map some) (some (V.ref x) :: vs.map some) F' H' := s'.pop
  have nd1 := List.nodup_append.mp s'.nd
  have nd2 : o'.owned.Nodup ∧ (ownedE (r'.map some)).Nodup ∧ ∀ a ∈ o'.owned, ∀ b ∈ ownedE (r'.map some), a ≠ b := List.nodup_append.mp nd1.2.1
  have mo : ∀ b ∈ o'.owned, b ∈ ownedE (some (O.fz .non) :: (o' :: r').map some) := fun b hb => List.mem_append_right _ (List.mem_append_left _ hb)
  have s3 : SR X.K (some o' :: ρ1) (some (V.ref x) :: σ) F' H' := sB.push sp1.top (fun b hb => s'.own b (mo b hb)) (List.nodup_append.mpr ⟨nd2.1, sB.nd, fun b hb d hd' e => by
    subst e
    exact nB b hd' (mo b hb)⟩)
  have out : ∀ b, b ∈ [x, dx] → H1 b = none := fun b h => by
    rcases List.mem_cons.mp h with e | h
    · subst e; exact hx
    · rw [List.mem_singleton.mp h]; exact hd
  refine k _ _ _ _ _ p' s3 (f1.trans ⟨f'.fz, fun b u hb ht hf e => f'.out b u (fun h => by rw [out b h] at e; cases e) ht hf (ex b u e), fun b hb => ?_, fun b o e => f'.dom b o (ex b o e), fun b o u e => f'.lk b o u (ex b _ e)⟩)
  rcases List.mem_append.mp hb with h | h
  · refine .inr ?_
    rcases f'.new b (mo b h) with z | z
    · exact out b z
    · cases e : H1 b with
      | none => rfl
      | some o => rw [ex b o e] at z; cases z
  · exact .inl h
theorem xo_make (M : Mk X.K c f) (G : FnOk X.prog X.w X.K X.mg X.base CX0 k f fd ps (liftSp X.K sp)) (hr : Room (k + 1) X.A) (hg : Gl X x) (hm : X.mg x = some (.ref c)) (hb : Binds X.K fd ps []) (ha : XA X (e :: es) wl)
    (hdb : (x == ("__debug__" : Str)) = false := by decide) (he : starEach (e :: es) X.env = (false, eval e X.env) :: starEach es X.env := by rfl) (hpl : (backTo pos (starEach es X.env)).any (·.1) = false := by rfl) :
    XO X (.Call (.Name x p) (e :: es) [] pos) (wMake sp c wl) := ⟨PE.imp (pe_make M G hr hg hm hb .nil pass0 ha.pa hdb he hpl) fun _ _ _ h => t_make (fun _ _ _ h => h) h⟩
theorem xo_make0 (M : Mk X.K c f) (G : FnOk X.prog X.w X.K X.mg X.base CX0 k f fd ps (liftSp X.K sp)) (hr : Room (k + 1) X.A) (hg : Gl X x) (hm : X.mg x = some (.ref c)) (hb : Binds X.K fd ps [])
    (hdb : (x == ("__debug__" : Str)) = false := by decide) : XO X (.Call (.Name x p) [] [] pos) (wMake sp c wNil) :=
  ⟨PE.imp (pe_make0 M G hr hg hm hb .nil pass0 hdb) fun σ H Q h => t_make (t := tNil) (fun σ H Q ⟨ρ, F, P, s, hw, k⟩ => k _ _ _ _ _ hw s .nil .refl) h⟩
end

/-! ### what stands in a field is a dict, and it is changed -/
def dAt : O → Option Addr
  | .dct b _ => some b
  | .dcT b _ => some b
  | _ => none
def wSetAK (c : Addr) (ns : List Str) (j i : Nat) (wk w : WD) : WS := fun ρ E => w ρ fun v ρ1 => match nth ρ1 i with
  | some (.ins _ _ C fs) => C = c ∧ fs.map (·.1) = ns ∧ ∃ p b, fs[j]? = some p ∧ dAt p.2 = some b ∧ wk ρ1 fun d ρ2 => match nth ρ2 i with
    | some (.ins a dx C fs) => C = c ∧ fs.map (·.1) = ns ∧ ∃ p, fs[j]? = some p ∧ match p.2 with
      | .dcT b' kvs => b' = b ∧ ∃ ks, d.keys = some ks ∧ kvs.length < sizeLine ∧ putC ρ2 i (some (.ins a dx C (fs.set j (p.1, .dcT b (putG kvs ks v))))) E.nx
      | .dct b' kvs => b' = b ∧ ∃ k, d.key = some k ∧ kvs.length < sizeLine ∧ putC ρ2 i (some (.ins a dx C (fs.set j (p.1, .dct b (putG kvs k v))))) E.nx
      | _ => False
    | _ => False
  | _ => False
theorem dAt_ref {K : PySem.W.Frag} {F H : Hp} {o : O} {v : V} {b : Addr} (h : dAt o = some b) (r : RepO K F H v o) : v = .ref b := by
  cases r <;> cases h <;> rfl
section
variable {K : PySem.W.Frag} {ρ : TEnv} {σ : L2.St} {F H : Hp} {a dx C : Addr} {fs : List (Str × O)}
/-- a field's value, read -/
theorem fld_read {c : Addr} {ns : List Str} {j i : Nat} {f : Str} (hf : FldOk K c ns j f) (s : SR K ρ σ F H) (e : ρ[i]? = some (some (.ins a dx c fs))) (hk : fs.map (·.1) = ns) {p : Str × O} (l : fs[j]? = some p) :
    ∃ es v, σ[i]? = some (some (.ref a)) ∧ H a = some (.ins c dx es) ∧ es[j]? = some (f, v) ∧ es.lookup f = some v ∧ RepO K F H v p.2 := by
  obtain ⟨v0, hv0, r0⟩ := s.slot i _ e
  cases r0 with
  | @ins _ _ _ es _ hH hD rs =>
  obtain ⟨v, hes, rv⟩ := rs.get l
  rw [key_at hk hf.at_ l] at hes
  exact ⟨es, v, hv0, hH, hes, lookup_at (rs.keys.trans hk) hf.nd hf.at_ hes, rv⟩
/-- a dict in a field is written -/
theorem SR.mutAK {i j : Nat} {p : Str × O} {o' : O} {u : HO} {b : Addr} {es : List (Str × V)} (s : SR K ρ σ F H) (e : ρ[i]? = some (some (.ins a dx C fs))) (l : fs[j]? = some p) (hH : H a = some (.ins C dx es)) (he : es[j]? = some (p.1, .ref b)) (hp : p.2.owned = [b]) (ho' : o'.owned = [b]) (r : RepO K F (upd H b u) (.ref b) o') :
    SR K (ρ.set i (some (.ins a dx C (fs.set j (p.1, o'))))) σ F (upd H b u) ∧ Frm (ownedE ρ) F H (ownedE (ρ.set i (some (.ins a dx C (fs.set j (p.1, o')))))) F (upd H b u) := by
  obtain ⟨es2, v, hv, hH2, hk, he2, s1, m1⟩ := s.takeA e l
  rw [hH] at hH2
  cases hH2
  rw [he] at he2
  cases he2
  have hi : i < ρ.length := lt_of_get e
  have hj : j < fs.length := lt_of_get l
  have nab : a ≠ b := fun q => by
    have hm : a ∈ ownedE (ρ.set i (some (.ins a dx C (fs.set j (p.1, p.2.stub))))) := mem_ownedE (o := .ins a dx C (fs.set j (p.1, p.2.stub))) (by rw [List.getElem?_set_self hi]) a List.mem_cons_self
    refine (List.nodup_append.mp s1.nd).2.2 b (by show b ∈ p.2.owned; rw [hp]; exact List.mem_singleton_self _) a hm q.symm
  obtain ⟨s2, f2⟩ := s1.mut1 hp ho' r
  obtain ⟨s3, m3⟩ := s2.giveA (i := i) (j := j) (fs := fs.set j (p.1, p.2.stub)) (k := p.1) (u := p.2.stub) (es := es) (by rw [List.getElem?_set_self hi]) (by rw [upd_ne nab]; exact hH) (by rw [List.getElem?_set_self hj]) he p.2.stub_owned
  rw [List.set_set, List.set_set] at s3 m3
  exact ⟨s3, f2.iff m1 fun b hb => (m3 b).mp hb⟩
end
section
variable {X : Cx} {o e ei : Expr} {f : Str} {pos pos' p2 : Pos} {c : Addr} {ns : List Str} {j i : Nat} {wk w : WD}
theorem xs_setAK (hu : X.A.units + 64 < cLine) (hf : FldOk X.K c ns j f) (ho : PE X o (tVar i)) (hk : XE X ei wk) (hv : XE X e w) (hb : attributeBase o f X.env (eval o X.env) = eval o X.env := by rfl)
    (hs : swapsWith e (some (.Subscript (.Attribute o f p2) ei pos')) pos.line X.env = pure false := by rfl) : XS X (.Assign [.Subscript (.Attribute o f p2) ei pos'] e pos) (wSetAK c ns j i wk w) :=
  ⟨fun W tk => PS.imp (ps_dput (by omega) (pe_fld ho hb) hk.pe hv.pe hs) fun Dn σ H ⟨ρ, F, E, s, hw, k⟩ => by
    refine ⟨ρ, F, _, s, hw, fun v ρ1 F1 H1 y p s1 rv f1 => ?_⟩
    cases hn1 : nth ρ1 i with
    | none => rw [hn1] at p; exact p.elim
    | some o1 =>
    rw [hn1] at p
    cases o1 <;> first
      | (exact p.elim)
      | skip
    rename_i a dx C fs
    obtain ⟨rfl, hk1, q1, b, hq1, hb1, p⟩ := p
    obtain ⟨es, x0, hx0, hH, he, hl, r0⟩ := fld_read hf s1 (nth_eq hn1) hk1 hq1
    obtain rfl := dAt_ref hb1 r0
    refine ⟨_, hx0, a, C, dx, es, _, rfl, hH, hf.cls, hf.no, hl, ρ1, F1, _, s1, p, fun d ρ2 F2 H2 z p2 s2 rd f2 => ?_⟩
    cases hn2 : nth ρ2 i with
    | none => rw [hn2] at p2; exact p2.elim
    | some o2 =>
    rw [hn2] at p2
    cases o2 <;> first
      | (exact p2.elim)
      | skip
    rename_i a2 dx2 C2 fs2
    obtain ⟨rfl, hk2, q2, hq2, p2⟩ := p2
    obtain ⟨es2, x2, hx2, hH2, he2, hl2, r2⟩ := fld_read hf s2 (nth_eq hn2) hk2 hq2
    have rv2 := rv.mono f2.fz
    have ek := key_at hk2 hf.at_ hq2
    obtain ⟨nm, o2⟩ := q2
    have ek : nm = f := ek
    subst ek
    cases o2 <;> first
      | (exact p2.elim)
      | skip
    · rename_i b' kvs
      obtain ⟨rfl, kk, hkk, hlt, p3⟩ := p2
      obtain ⟨rfl, ok, _⟩ := rd.key hkk
      cases r2 with
      | @dct _ xs _ hD lz rk =>
      have r3 := rk.put ok rv2
      obtain ⟨s3, f3⟩ := s2.mutAK (nth_eq hn2) hq2 hH2 he2 rfl rfl (o' := .dct b' (putG kvs kk v)) (u := .dK (putK xs kk y)) (.dct upd_same (Nat.le_trans (length_putG _ _ _) hlt) r3)
      rw [putC_eq] at p3
      exact ⟨b', _, rfl, .inl ⟨xs, kk, hD, rfl, by rw [rk.length]; exact hlt, rfl⟩, k.nx _ _ _ _ p3 s3 (f1.trans (f2.trans f3))⟩
    · rename_i b' kvs
      obtain ⟨rfl, kk, hkk, hlt, p3⟩ := p2
      obtain ⟨kb, rfl, hkb, ok⟩ := rd.keys hkk
      cases r2 with
      | @dcT _ xs _ hD lz rk =>
      have r3 := rk.put ok rv2
      obtain ⟨s3, f3⟩ := s2.mutAK (nth_eq hn2) hq2 hH2 he2 rfl rfl (o' := .dcT b' (putG kvs kk v)) (u := .dT (putK xs kk y)) (.dcT upd_same (Nat.le_trans (length_putG _ _ _) hlt) r3)
      rw [putC_eq] at p3
      exact ⟨b', _, rfl, .inr ⟨xs, kk, kb, hD, rfl, s2.sub.tup hkb, by rw [rk.length]; exact hlt, rfl⟩, k.nx _ _ _ _ p3 s3 (f1.trans (f2.trans f3))⟩⟩
/-- x.f[k] += e, tuples -/
def wAugAK (c : Addr) (ns : List Str) (j i : Nat) (wk w : WD) : WS := fun ρ E => match nth ρ i with
  | some (.ins _ _ C fs) => C = c ∧ fs.map (·.1) = ns ∧ ∃ p b, fs[j]? = some p ∧ dAt p.2 = some b ∧ wk ρ fun d ρ2 => match nth ρ2 i with
    | some (.ins _ _ C fs) => C = c ∧ fs.map (·.1) = ns ∧ ∃ p, fs[j]? = some p ∧ dAt p.2 = some b ∧ p.2.at? d fun r => ∃ ds, r = some (.tup ds) ∧ w ρ2 fun e ρ3 => ∃ es, e = .tup es ∧ ds.length + es.length ≤ sizeLine ∧ match nth ρ3 i with
      | some (.ins a dx C fs) => C = c ∧ fs.map (·.1) = ns ∧ ∃ p, fs[j]? = some p ∧ match p.2 with
        | .dcT b' kvs => b' = b ∧ ∃ ks, d.keys = some ks ∧ kvs.length < sizeLine ∧ putC ρ3 i (some (.ins a dx C (fs.set j (p.1, .dcT b (putG kvs ks (.tup (ds ++ es))))))) E.nx
        | .dct b' kvs => b' = b ∧ ∃ k, d.key = some k ∧ kvs.length < sizeLine ∧ putC ρ3 i (some (.ins a dx C (fs.set j (p.1, .dct b (putG kvs k (.tup (ds ++ es))))))) E.nx
        | _ => False
      | _ => False
    | _ => False
  | _ => False
end
theorem noI_tuple_add : typeLookup (.type "tuple") (dunderI "add") = pure none := am_miss_of_fast (by decide +kernel)
section
variable {prog : Program} {w : World} {A : Around} {E : Value → Shared → Prop} {s : Shared}
theorem icat_tup {t b : Addr} {vs ws : List Value} {Q : Value → Shared → Prop} (ht : IsTup s.heap t vs.toArray) (hb : IsTup s.heap b ws.toArray)
    (h0 : vs = [] → Q (.ref b) s) (h1 : vs ≠ [] → ws = [] → Q (.ref t) s) (h2 : vs ≠ [] → ws ≠ [] → Q (.ref s.heap.objs.size) { s with heap := s.heap.push { cls := .type "tuple", data := .seq (vs ++ ws).toArray } })
    (hsz : vs.length + ws.length ≤ sizeLine) : wpAny (model prog w) A (inplaceOp .Add (.ref t) (.ref b)) Q E s := by
  obtain ⟨⟨cls, dd, data, sl⟩, ho, hc, n, hd⟩ := id ht
  obtain ⟨⟨cls2, dd2, data2, sl2⟩, ho2, hc2, n2, hd2⟩ := id hb
  simp only at hc hd hc2 hd2
  subst hc hd hc2 hd2
  have e : vs.toArray ++ ws.toArray = (vs ++ ws).toArray := by simp
  refine wpAny_inplaceOp_concat ⟨_, ho, rfl⟩ ⟨_, ho2, rfl⟩ noI_tuple_add noFill_tuple_add seq_tuple_add ?_
  by_cases hv : vs = []
  · subst hv
    exact call_meets PySem.F.slot_tuple_add ⟨_, ho, rfl⟩ PySem.F.entry_tuple_add (PySem.F.args_tuple_add_2 _ _) (tuple_addW0 t b ([] : List Value).toArray ws.toArray n n2 dd dd2 sl sl2 (by simp)) ⟨ho, ho2, h0 rfl⟩
  · by_cases hw : ws = []
    · exact call_meets PySem.F.slot_tuple_add ⟨_, ho, rfl⟩ PySem.F.entry_tuple_add (PySem.F.args_tuple_add_2 _ _) (tuple_addW1 t b vs.toArray ws.toArray n n2 dd dd2 sl sl2 (by simpa using hv) (by simp [hw])) ⟨ho, ho2, h1 hv hw⟩
    · refine call_meets PySem.F.slot_tuple_add ⟨_, ho, rfl⟩ PySem.F.entry_tuple_add (PySem.F.args_tuple_add_2 _ _) (tuple_addW2 t b vs.toArray ws.toArray n n2 dd dd2 sl sl2 (by simpa using hv) (by simpa using hw) (by rw [List.size_toArray, List.size_toArray]; exact hsz)) ⟨ho, ho2, ?_⟩
      rw [e]
      exact h2 hv hw
end
theorem iop_catA {X : Cx} : OpR X (inplaceOp .Add) (rCatA X.K) := by
  intro pins s σ H x y v u Q I rx ry h
  obtain ⟨a, b, xs, ys, rfl, rfl, ha, hb, hz, q0, q1, q2⟩ := h
  cases rx
  cases ry
  obtain ⟨its, r1, p1, _⟩ := I.tuple ha
  obtain ⟨its2, r2, p2, _⟩ := I.tuple hb
  have hx : xs = [] ↔ its = [] := r1.nil_iff.symm
  have hy : ys = [] ↔ its2 = [] := r2.nil_iff.symm
  refine icat_tup p1 p2 (fun z => ⟨.ref b, H, I, rfl, q0 (hx.mpr z)⟩) (fun z z2 => ⟨.ref a, H, I, rfl, q1 (fun q => z (hx.mp q)) (hy.mpr z2)⟩) (fun z z2 => ?_) (by rw [← r1.length, ← r2.length]; exact hz)
  refine ⟨.ref s.heap.objs.size, _, I.laid (t' := s.toks) (o := .tup (xs ++ ys)) (fun b ob q => Heap.get?_push_of_some _ q) (Nat.le_refl _) ?_, rfl, q2 (fun w => z (hx.mp w)) (fun w => z2 (hy.mp w)) _ (I.hok.fresh (Nat.le_refl _))⟩
  exact ⟨by rw [List.length_append]; exact hz, _, r1.append r2, IsTup.new _ _⟩
def semCatT (d e : D) (P : O → Prop) : Prop := match d, e with
  | .tup xs, .tup ys => xs.length + ys.length ≤ sizeLine ∧ P (.fz (.tup (xs ++ ys)))
  | _, _ => False
theorem sem_catT {K : PySem.W.Frag} : SemR K (rCatA K) semCatT := by
  intro F H x y d e P Q sb rx ry hs k
  unfold semCatT at hs
  split at hs
  · rename_i xs ys
    cases rx with
    | @tup a vs _ h1 z1 r1 =>
    cases ry with
    | @tup b ws _ h2 z2 r2 =>
    refine ⟨_, _, vs, ws, rfl, rfl, sb.sqT h1, sb.sqT h2, by rw [r1.length, r2.length]; exact hs.1, fun e0 => ?_, fun _ e0 => ?_, fun _ _ p hp => ?_⟩
    · subst e0
      cases r1
      exact k _ _ _ _ hs.2 (.fz (.tup h2 z2 r2))
    · subst e0
      cases r2
      refine k _ _ _ _ hs.2 (.fz ?_)
      rw [List.append_nil]
      exact .tup h1 z1 r1
    · exact k _ _ _ _ hs.2 (.tup sb hp (by rw [List.length_append]; exact hs.1) (r1.append r2))
  · exact hs.elim
section
variable {X : Cx} {o e ei : Expr} {f : Str} {pos pos' p2 tpos : Pos} {c : Addr} {ns : List Str} {j i : Nat} {wk w : WD}
theorem xs_augAK (hu : X.A.units + 64 < cLine) (hf : FldOk X.K c ns j f) (ho : PE X o (tVar i)) (hk : XE X ei wk) (hv : XE X e w) (hb : attributeBase o f X.env (eval o X.env) = eval o X.env := by rfl)
    (ha : ∀ ov iv new, augStore ei ov iv new = (do holding [new, ov, iv] (setItem ov iv new); release [new, ov, iv] []; pure .next) := by intro _ _ _; rfl) : XS X (.AugAssign (.Subscript (.Attribute o f p2) ei tpos) .Add e pos) (wAugAK c ns j i wk w) :=
  ⟨fun W tk => PS.imp (ps_daug (by omega) (pe_fld ho hb) hk.pe hv.pe (fun _ _ _ _ _ _ _ _ _ I rx ry q => iop_catA _ _ _ _ _ _ _ _ _ I rx ry q) ha) fun Dn σ H ⟨ρ, F, E, s, hw, k⟩ => by
    unfold wAugAK at hw
    cases hn1 : nth ρ i with
    | none => rw [hn1] at hw; exact hw.elim
    | some o1 =>
    rw [hn1] at hw
    cases o1 <;> first
      | (exact hw.elim)
      | skip
    rename_i a dx C fs
    obtain ⟨rfl, hk1, q1, b, hq1, hb1, hw⟩ := hw
    obtain ⟨es, x0, hx0, hH, he, hl, r0⟩ := fld_read hf s (nth_eq hn1) hk1 hq1
    obtain rfl := dAt_ref hb1 r0
    refine ⟨_, hx0, a, C, dx, es, _, rfl, hH, hf.cls, hf.no, hl, ρ, F, _, s, hw, fun d ρ2 F2 H2 z p2 s2 rd f2 => ?_⟩
    cases hn2 : nth ρ2 i with
    | none => rw [hn2] at p2; exact p2.elim
    | some o2 =>
    rw [hn2] at p2
    cases o2 <;> first
      | (exact p2.elim)
      | skip
    rename_i a2 dx2 C2 fs2
    obtain ⟨rfl, hk2, q2, hq2, hb2, p2⟩ := p2
    obtain ⟨es2, x2, hx2, hH2, he2, hl2, r2⟩ := fld_read hf s2 (nth_eq hn2) hk2 hq2
    obtain rfl := dAt_ref hb2 r2
    obtain ⟨a', u, ea, hg, hu⟩ := at_get (Q := fun u => ∃ v, u = some v ∧ ∃ ds, Rep X.K F2 v (.tup ds) ∧ w ρ2 fun e ρ3 => ∃ es, e = .tup es ∧ ds.length + es.length ≤ sizeLine ∧ match nth ρ3 i with
      | some (.ins a dx C fs) => C = C2 ∧ fs.map (·.1) = ns ∧ ∃ p, fs[j]? = some p ∧ match p.2 with
        | .dcT b' kvs => b' = b ∧ ∃ ks, d.keys = some ks ∧ kvs.length < sizeLine ∧ putC ρ3 i (some (.ins a dx C (fs.set j (p.1, .dcT b (putG kvs ks (.tup (ds ++ es))))))) E.nx
        | .dct b' kvs => b' = b ∧ ∃ k, d.key = some k ∧ kvs.length < sizeLine ∧ putC ρ3 i (some (.ins a dx C (fs.set j (p.1, .dct b (putG kvs k (.tup (ds ++ es))))))) E.nx
        | _ => False
      | _ => False) s2.sub r2 rd p2 fun d u hd hc => by
        obtain ⟨ds, rfl, hw⟩ := hd
        rcases hc with ⟨e, _⟩ | ⟨e, x, e1, rfl, re⟩
        · cases e
        · cases e1
          exact ⟨x, rfl, ds, re, hw⟩
    cases ea
    obtain ⟨v, rfl, ds, rv, hw⟩ := hu
    refine ⟨b, v, rfl, hg, ρ2, F2, _, s2, hw, fun e ρ3 F3 H3 y2 p3 s3 re f3 => ?_⟩
    obtain ⟨es', rfl, hlen, p3⟩ := p3
    refine sem_catT F3 H3 v y2 _ _ (fun o => o = .fz (.tup (ds ++ es'))) _ s3.sub (rv.mono f3.fz) re ⟨hlen, rfl⟩ fun o z4 F4 H4 eo res => ?_
    subst eo
    obtain ⟨s4, f4⟩ := res _ _ s3
    have rz := s4.topD
    have s5 := s4.pop
    have f5 : Frm (ownedE ρ3) F3 H3 (ownedE ρ3) F4 H4 := f4.less fun b hb => List.mem_append_right _ hb
    have rd5 := (rd.mono f3.fz).mono f5.fz
    cases hn3 : nth ρ3 i with
    | none => rw [hn3] at p3; exact p3.elim
    | some o3 =>
    rw [hn3] at p3
    cases o3 <;> first
      | (exact p3.elim)
      | skip
    rename_i a3 dx3 C3 fs3
    obtain ⟨rfl, hk3, q3, hq3, p3⟩ := p3
    obtain ⟨es3, x3, hx3, hH3, he3, hl3, r3⟩ := fld_read hf s5 (nth_eq hn3) hk3 hq3
    have ek := key_at hk3 hf.at_ hq3
    obtain ⟨nm, o3⟩ := q3
    have ek : nm = f := ek
    subst ek
    cases o3 <;> first
      | (exact p3.elim)
      | skip
    · rename_i b' kvs
      obtain ⟨rfl, kk, hkk, hlt, p4⟩ := p3
      obtain ⟨rfl, ok, _⟩ := rd5.key hkk
      cases r3 with
      | @dct _ xs _ hD lz rk =>
      have r4 := rk.put ok rz
      obtain ⟨s6, f6⟩ := s5.mutAK (nth_eq hn3) hq3 hH3 he3 rfl rfl (o' := .dct b' (putG kvs kk (.tup (ds ++ es')))) (u := .dK (putK xs kk z4)) (.dct upd_same (Nat.le_trans (length_putG _ _ _) hlt) r4)
      rw [putC_eq] at p4
      exact ⟨_, .inl ⟨xs, kk, hD, rfl, by rw [rk.length]; exact hlt, rfl⟩, k.nx _ _ _ _ p4 s6 (f2.trans (f3.trans (f5.trans f6)))⟩
    · rename_i b' kvs
      obtain ⟨rfl, kk, hkk, hlt, p4⟩ := p3
      obtain ⟨kb, rfl, hkb, ok⟩ := rd5.keys hkk
      cases r3 with
      | @dcT _ xs _ hD lz rk =>
      have r4 := rk.put ok rz
      obtain ⟨s6, f6⟩ := s5.mutAK (nth_eq hn3) hq3 hH3 he3 rfl rfl (o' := .dcT b' (putG kvs kk (.tup (ds ++ es')))) (u := .dT (putK xs kk z4)) (.dcT upd_same (Nat.le_trans (length_putG _ _ _) hlt) r4)
      rw [putC_eq] at p4
      exact ⟨_, .inr ⟨xs, kk, kb, hD, rfl, s5.sub.tup hkb, by rw [rk.length]; exact hlt, rfl⟩, k.nx _ _ _ _ p4 s6 (f2.trans (f3.trans (f5.trans f6)))⟩⟩
end
end Tr
/-! a, *b, c = e; {} for keys that are tuples; x[i][j] = e. -/
namespace Tr
open PySem PySem.Spec PyProof.Rows L2
section
variable {prog : Program} {w : World} {A : Around} {E : Value → Shared → Prop} {s : Shared}
theorem star_unpack {k : Bool} {l : Addr} {items : Array Value} {n i : Nat} {Q : List Value → Shared → Prop} (hl : HsK k s.heap l items) (hh : A.handled = none) (hi : i < n) (hn : n ≤ items.size + 1) (hz : items.size ≤ sizeLine)
    (h : ∀ (h' : Heap) (tk : Nat), (∀ b o, s.heap.get? b = some o → h'.get? b = some o) → Q (items.toList.take i ++ [.ref h'.objs.size] ++ (items.toList.drop i).drop (items.size + 1 - n)) { s with heap := h'.push { cls := .type "list", data := .seq ((items.toList.drop i).take (items.size + 1 - n)).toArray }, toks := tk }) :
    wpAny (model prog w) A (unpackItems (.ref l) n (some i)) Q E s := by
  have le_of : ∀ {h₂ : Heap}, Heap.ExtBut s.heap.objs.size s.heap h₂ → (∀ b o, s.heap.get? b = some o → h₂.get? b = some o) := fun he b o e => he b o (Nat.ne_of_lt (Heap.lt_size e)) e
  cases k
  · have hl : s.heap.IsTuple l items := hl
    have hlt : l ≠ s.heap.objs.size := by obtain ⟨o, ho, _⟩ := hl; exact Nat.ne_of_lt (Heap.lt_size ho)
    unfold unpackItems
    refine wpAny_bind ?_
    unfold notIterableAtAll
    refine wpAny_bind (wpAny_specialOf (PyProof.Rows.IsTup.typeIs hl) slot_tuple_iter.lookup ?_)
    refine wpAny_pure ?_
    simp only [Bool.false_eq_true, if_false]
    refine wpAny_bind (wpAny_holding (iter_tuple hl ?_))
    refine wpAny_bind (wpAny_holding (draw_tuple hlt i 0 _ _ ⟨_, Heap.get?_push_size _ rfl, rfl, rfl⟩ (PyProof.Rows.IsTup.push hl _) (by omega) fun h₁ hit₁ hs₁ => ?_))
    have hl₁ : IsTup h₁ l items := (PyProof.Rows.IsTup.push hl _).extBut hs₁.extBut hlt
    rw [Nat.zero_add] at hit₁
    have hit₁' := hit₁
    obtain ⟨oi, hoi, _⟩ := hit₁'
    have hl₁' := hl₁
    obtain ⟨ol, hol, _⟩ := hl₁'
    rw [List.drop_zero]
    have hfl : (items.toList.take i).length = i := by rw [List.length_take, Array.length_toList]; omega
    rw [if_neg (show ¬ ((items.toList.take i).length < i) by rw [hfl]; omega)]
    refine wpAny_bind (wpAny_holding (PySem.W.kun_collect (s := { s with heap := h₁ }) (T := "tuple_iterator") (.inr (.inr (.inr rfl))) (Walks.tuple (A := A.in1) hh s.heap.objs.size l hlt items) (fun j u st => st.1.typeIs) (k := i) (by omega) ⟨hit₁, hl₁⟩ (Heap.lt_size hoi) (Heap.lt_size hol) (fun h₂ tk hk => ?_) hz))
    have hrl : (items.toList.drop i).length = items.size - i := by rw [List.length_drop, Array.length_toList]
    have hmid : (items.toList.drop i).length - (n - 1 - i) = items.size + 1 - n := by rw [hrl]; omega
    show wpAny _ _ (if (items.toList.drop i).length < n - 1 - i then _ else _) _ _ _
    rw [if_neg (by rw [hrl]; omega)]
    show wpAny _ _ (newList ((items.toList.drop i).take ((items.toList.drop i).length - (n - 1 - i))) >>= fun d => pure (items.toList.take i ++ [d] ++ (items.toList.drop i).drop ((items.toList.drop i).length - (n - 1 - i)))) _ _ _
    rw [hmid]
    have he : Heap.ExtBut s.heap.objs.size s.heap h₂ := fun b o hb e => hk b o hb (hs₁.extBut b o hb (Heap.get?_push_of_some _ e))
    exact wpAny_bind (wpAny_newList (s := { s with heap := h₂, toks := tk }) (wpAny_pure (h h₂ tk (le_of he))) (by rw [List.length_take, hrl]; omega))
  · have hl : s.heap.IsList l items := hl
    have hlt : l ≠ s.heap.objs.size := by obtain ⟨o, ho, _⟩ := hl; exact Nat.ne_of_lt (Heap.lt_size ho)
    unfold unpackItems
    refine wpAny_bind ?_
    unfold notIterableAtAll
    refine wpAny_bind (wpAny_specialOf hl.typeIs slot_list_iter.lookup ?_)
    refine wpAny_pure ?_
    simp only [Bool.false_eq_true, if_false]
    refine wpAny_bind (wpAny_holding (wpAny_pyIter_list hl ?_))
    refine wpAny_bind (wpAny_holding (PySem.W.kun_draw hlt i 0 _ _ ⟨_, Heap.get?_push_size _ rfl, rfl, rfl⟩ (hl.push _) (by omega) fun h₁ hit₁ hs₁ => ?_))
    have hl₁ : h₁.IsList l items := (hl.push _).extBut hs₁.extBut hlt
    rw [Nat.zero_add] at hit₁
    have hit₁' := hit₁
    obtain ⟨oi, hoi, _⟩ := hit₁'
    have hl₁' := hl₁
    obtain ⟨ol, hol, _⟩ := hl₁'
    rw [List.drop_zero]
    have hfl : (items.toList.take i).length = i := by rw [List.length_take, Array.length_toList]; omega
    rw [if_neg (show ¬ ((items.toList.take i).length < i) by rw [hfl]; omega)]
    refine wpAny_bind (wpAny_holding (PySem.W.kun_collect (s := { s with heap := h₁ }) (T := "list_iterator") (.inr (.inr (.inl rfl))) (Walks.list (A := A.in1) hh s.heap.objs.size l hlt items) (fun j u st => st.1.typeIs) (k := i) (by omega) ⟨hit₁, hl₁⟩ (Heap.lt_size hoi) (Heap.lt_size hol) (fun h₂ tk hk => ?_) hz))
    have hrl : (items.toList.drop i).length = items.size - i := by rw [List.length_drop, Array.length_toList]
    have hmid : (items.toList.drop i).length - (n - 1 - i) = items.size + 1 - n := by rw [hrl]; omega
    show wpAny _ _ (if (items.toList.drop i).length < n - 1 - i then _ else _) _ _ _
    rw [if_neg (by rw [hrl]; omega)]
    show wpAny _ _ (newList ((items.toList.drop i).take ((items.toList.drop i).length - (n - 1 - i))) >>= fun d => pure (items.toList.take i ++ [d] ++ (items.toList.drop i).drop ((items.toList.drop i).length - (n - 1 - i)))) _ _ _
    rw [hmid]
    have he : Heap.ExtBut s.heap.objs.size s.heap h₂ := fun b o hb e => hk b o hb (hs₁.extBut b o hb (Heap.get?_push_of_some _ e))
    exact wpAny_bind (wpAny_newList (s := { s with heap := h₂, toks := tk }) (wpAny_pure (h h₂ tk (le_of he))) (by rw [List.length_take, hrl]; omega))
end
def starL (n i : Nat) {α : Type} (xs : List α) : List α := (xs.drop i).take (xs.length + 1 - n)
def starE (n i : Nat) {α : Type} (xs : List α) : List α := (xs.drop i).drop (xs.length + 1 - n)
def gStarT (K : PySem.W.Frag) (n i : Nat) (t : TGs) : TG := fun v σ H Q => ∃ (k : Bool) (a : Addr) (xs : List V), v = .ref a ∧ SqK k K H a xs ∧ n ≤ xs.length + 1 ∧ xs.length ≤ sizeLine ∧
  ∀ D, H D = none → t (xs.take i ++ [.ref D] ++ starE n i xs) σ (upd H D (.lst (starL n i xs))) Q
theorem Vals.takeN {xs : List V} {us : List Value} (r : Vals xs us) (n : Nat) : Vals (xs.take n) (us.take n) := by
  induction r generalizing n with
  | nil => rw [List.take_nil, List.take_nil]; exact .nil
  | cons h t ih =>
    cases n with
    | zero => exact .nil
    | succ n => exact .cons h (ih n)
theorem Vals.dropN {xs : List V} {us : List Value} (r : Vals xs us) (n : Nat) : Vals (xs.drop n) (us.drop n) := by
  induction r generalizing n with
  | nil => rw [List.drop_nil, List.drop_nil]; exact .nil
  | cons h t ih =>
    cases n with
    | zero => exact .cons h t
    | succ n => exact ih n
section
variable {X : Cx} {e : Expr} {es : List Expr} {pos : Pos}
theorem pg_star {k n i : Nat} {t : TGs} (hc : X.calm = true) (h : PGs X es t) (hi : i < n) (hn : (assignEach es X.env).length = n := by rfl) (hst : (assignEach es X.env).findIdx? (·.1) = some i := by rfl) : PG X (.Tuple es k pos) (gStarT X.K n i t) := by
  refine ⟨fun pins s σ H v u Q I r hw => ?_⟩
  obtain ⟨kk, a, xs, e1, hq, hl, hz, hw⟩ := hw
  subst e1
  cases r
  obtain ⟨its, rv, ht, _⟩ := Inv.sqK I hq
  have hlen : its.length = xs.length := rv.length.symm
  rw [PyProof.Rows.assign_Tuple]
  refine wpAny_bind (wpAny_standAt ?_)
  unfold unpack
  rw [hn, hst]
  refine wpAny_bind (wpAny_holding (star_unpack ht (I.ok.hd hc) hi (by simpa [hlen] using hl) (by simpa [hlen] using hz) fun h' tk hk => ?_))
  have I1 : Inv X pins σ H { s with heap := h', toks := tk } := I.kept hk
  have hn := I1.hok.fresh (Nat.le_refl h'.objs.size)
  have eq1 : (its.toArray.toList.drop i).take (its.toArray.size + 1 - n) = starL n i its := by unfold starL; simp
  have eq2 : (its.toArray.toList.drop i).drop (its.toArray.size + 1 - n) = starE n i its := by unfold starE; simp
  have eq3 : its.toArray.toList.take i = its.take i := by simp
  rw [eq1, eq2, eq3]
  have r1 : Vals (starL n i xs) (starL n i its) := by unfold starL; rw [hlen]; exact Vals.takeN (Vals.dropN rv i) _
  have r2 : Vals (starE n i xs) (starE n i its) := by unfold starE; rw [hlen]; exact Vals.dropN (Vals.dropN rv i) _
  have I2 := I1.laid (a := h'.objs.size) (o := .lst (starL n i xs)) (h' := h'.push { cls := .type "list", data := .seq (starL n i its).toArray }) (t' := tk) (fun _ _ q => Heap.get?_push_of_some _ q) (Nat.le_refl _)
    ⟨by unfold starL; rw [List.length_take, List.length_drop]; omega, starL n i its, 0, r1, Heap.get?_push_size _ rfl⟩
  exact h.run pins _ σ _ (xs.take i ++ [.ref h'.objs.size] ++ starE n i xs) _ Q I2 (((Vals.takeN rv i).append (.cons (show L2.RelV (.ref h'.objs.size) (.ref h'.objs.size) from rfl) .nil)).append r2) (hw _ hn)
theorem pgs_consS {t : TG} {u : TGs} {p : Pos} (h1 : PG X e t) (h2 : PGs X es u)
    (hs : (assignEach (.Starred e p :: es) X.env).map (·.2) = assign e X.env :: (assignEach es X.env).map (·.2) := by rfl) : PGs X (.Starred e p :: es) (gCons t u) := by
  refine ⟨fun pins s σ H vs us Q I r h => ?_⟩
  obtain ⟨v, vr, e1, h⟩ := h
  subst e1
  cases r with
  | cons r rr =>
    rw [hs]
    refine assignInOrder_cons (thn (h1.run pins s σ H _ _ _ I r h) fun _ s1 ⟨σ1, H1, I1, q1⟩ => ?_)
    exact h2.run pins s1 σ1 H1 _ _ Q I1 rr q1
end
/-- a target that lays new lists -/
def liftGG (K : PySem.W.Frag) (ix : List Nat) (g : WG) : TG := fun v σ H Q => ∃ ρ F d P, SR K ρ σ F H ∧ Rep K F v d ∧ g d ρ P ∧ ∀ ρ' σ' F' H', P ρ' → SR K ρ' σ' F' H' → Slots ix ρ ρ' σ σ' → Grow F H F' H' → Q σ' H'
structure XGG (X : Cx) (tg : Expr) (ix : List Nat) (g : WG) : Prop where
  pg : PG X tg (liftGG X.K ix g)
def gStar (n i : Nat) (gs : WGs) : WG := fun d ρ P => match d with
  | .tup ds => n ≤ ds.length + 1 ∧ gs (ds.take i ++ [.lst (starL n i ds)] ++ starE n i ds) ρ P
  | .lst ds => n ≤ ds.length + 1 ∧ gs (ds.take i ++ [.lst (starL n i ds)] ++ starE n i ds) ρ P
  | _ => False
section
variable {X : Cx} {e : Expr} {es : List Expr} {ix ix' : List Nat} {g : WG} {gs : WGs} {pos : Pos} {i : Nat}
theorem xgs_consS {p : Pos} (h : XG X e ix g) (hr : XGs X es ix' gs) (hs : (assignEach (.Starred e p :: es) X.env).map (·.2) = assign e X.env :: (assignEach es X.env).map (·.2) := by rfl) : XGs X (.Starred e p :: es) (ix ++ ix') (gsCons g gs) :=
  ⟨PGs.imp (pgs_consS h.pg hr.pg hs) fun v σ H Q ⟨ρ, F, ds, P, s, r, hw, k⟩ => by
    cases r with
    | nil => exact (show False from hw).elim
    | cons a b =>
      exact ⟨_, _, rfl, ρ, F, _, _, s, a, hw, fun ρ1 σ1 p1 s1 t1 => ⟨ρ1, F, _, _, s1, b, p1, fun ρ2 σ2 p2 s2 t2 => k _ _ p2 s2 ((t1.mono fun j q => List.mem_append_left _ q).trans (t2.mono fun j q => List.mem_append_right _ q))⟩⟩⟩
theorem xgg_star {k n : Nat} (hc : X.calm = true) (h : XGs X es ix gs) (hi : i < n := by decide) (hn : (assignEach es X.env).length = n := by rfl) (hst : (assignEach es X.env).findIdx? (·.1) = some i := by rfl) : XGG X (.Tuple es k pos) ix (gStar n i gs) :=
  ⟨PG.imp (pg_star hc h.pg hi hn hst) fun v σ H Q ⟨ρ, F, d, P, s, r, hw, k⟩ => by
    have fin : ∀ {kk : Bool} {a : Addr} {xs : List V} {ds : List D}, SqK kk X.K H a xs → RepL X.K F xs ds → ds.length ≤ sizeLine → v = .ref a → (n ≤ ds.length + 1 ∧ gs (ds.take i ++ [.lst (starL n i ds)] ++ starE n i ds) ρ P) → gStarT X.K n i (liftGs X.K ix gs) v σ H Q := fun {kk a xs ds} hq r hz ev hw => by
      refine ⟨kk, a, xs, ev, hq, by rw [r.length]; exact hw.1, by rw [r.length]; exact hz, fun D hD => ?_⟩
      obtain ⟨g1, sb⟩ := grow_new (o := .lst (starL n i xs)) s.sub hD
      have s2 := s.grow g1 sb
      have rm := r.mono g1.fz
      have rL : RepL X.K (upd F D (.lst (starL n i xs))) (starL n i xs) (starL n i ds) := by
        have h0 := (rm.drop i).take (ds.length + 1 - n)
        rwa [show (xs.drop i).take (ds.length + 1 - n) = starL n i xs by unfold starL; rw [r.length]] at h0
      have rE : RepL X.K (upd F D (.lst (starL n i xs))) (starE n i xs) (starE n i ds) := by
        have h0 := (rm.drop i).drop (ds.length + 1 - n)
        rwa [show (xs.drop i).drop (ds.length + 1 - n) = starE n i xs by unfold starE; rw [r.length]] at h0
      refine ⟨ρ, _, _, P, s2, ((rm.take i).append (.cons (.lst upd_same ?_ rL) .nil)).append rE, hw.2, fun ρ2 σ2 p2 s3 t => k _ _ _ _ p2 s3 t g1⟩
      unfold starL
      rw [List.length_take, List.length_drop]
      omega
    unfold gStar at hw
    split at hw
    · cases r with
      | tup h1 z r => exact fin (kk := false) (s.sub.sqT h1) r z rfl hw
    · cases r with
      | lst h1 z r => exact fin (kk := true) (.inl (.inl (s.sub.lst h1))) r z rfl hw
    · exact hw.elim⟩
theorem xs_asgG {st : Stmt} {w : WD} (h : PS X st (tAsg (liftD X.K w) (liftGG X.K ix g))) : XS X st (wAsg g w) := ⟨fun W tk => PS.imp h fun D σ H ⟨ρ, F, E, s, hw, k⟩ =>
  ⟨ρ, F, _, s, hw, fun d ρ' F' H' v p s' r f => ⟨ρ', F', d, _, s', r, p, fun ρ2 σ2 F2 H2 p2 s2 t g => k.nx _ _ _ _ p2 s2 ((f.trans (Frm.ofGrow g)).less t.mem)⟩⟩⟩
end

/-- {}, its keys tuples -/
def wDct0T : WO := fun ρ P => ∀ a, P (.dcT a []) ρ
theorem xo_dct0T {X : Cx} {pos : Pos} : XO X (.Dict [] [] pos) wDct0T := ⟨PE.imp pe_dnewT fun σ H Q ⟨ρ, F, P, s, hw, k⟩ q hq => by
  obtain ⟨s2, f2⟩ := s.newO (u := .dT []) (o := .dcT q []) hq (.dcT upd_same (Nat.zero_le _) .nil) rfl
  exact k _ _ _ _ _ (hw q) s2 f2⟩
end Tr
/-! x[n][j], x[n][j] = e, len(x[n]): a held list within a held list. -/
namespace Tr
open PySem PySem.Spec PyProof.Rows L2
theorem ownedL_setP (o : O) : ∀ (os : List O) (j : Nat), j < os.length → (O.ownedL (os.set j o)).Perm (o.owned ++ O.ownedL (os.set j (.fz .non)))
  | [], _, h => absurd h (Nat.not_lt_zero _)
  | p :: os, 0, _ => List.Perm.refl _
  | p :: os, j + 1, h => by
    have ih := ownedL_setP o os j (Nat.lt_of_succ_lt_succ h)
    show (p.owned ++ O.ownedL (os.set j o)).Perm (o.owned ++ (p.owned ++ O.ownedL (os.set j (.fz .non))))
    refine (List.Perm.append_left _ ih).trans ?_
    rw [← List.append_assoc, ← List.append_assoc]
    exact List.Perm.append_right _ List.perm_append_comm
theorem RepOL.setO {K : PySem.W.Frag} {F H : Hp} {o : O} {v : V} (ro : RepO K F H v o) : ∀ {xs : List V} {os : List O} {j : Nat}, RepOL K F H xs os → xs[j]? = some v → RepOL K F H xs (os.set j o)
  | _, _, _, .nil, h => by cases h
  | _, _, 0, .cons _ r, h => by cases h; exact .cons ro r
  | _, _, j + 1, .cons h r, e => .cons h (RepOL.setO ro (j := j) r (by simpa using e))
section
variable {K : PySem.W.Frag} {F H : Hp} {ρ : TEnv} {σ : L2.St} {a : Addr} {os : List O}
theorem SR.takeL {i j : Nat} {o : O} (s : SR K ρ σ F H) (e : ρ[i]? = some (some (.lst a os))) (l : os[j]? = some o) :
    ∃ xs v, σ[i]? = some (some (.ref a)) ∧ H a = some (.lst xs) ∧ xs[j]? = some v ∧
      SR K (some o :: ρ.set i (some (.lst a (os.set j o.stub)))) (some v :: σ) F H ∧ ∀ b, b ∈ ownedE ρ ↔ b ∈ ownedE (some o :: ρ.set i (some (.lst a (os.set j o.stub)))) := by
  obtain ⟨v0, hv0, r0⟩ := s.slot i _ e
  cases r0 with
  | @lst _ xs _ hH z rs =>
  obtain ⟨v, hes, rv⟩ := rs.get l
  have hi : i < ρ.length := lt_of_get e
  have hj : j < os.length := lt_of_get l
  have ps : (ownedE ρ).Perm (ownedE (some o :: ρ.set i (some (.lst a (os.set j o.stub))))) := by
    have e1 := ownedE_set ρ i (some (.lst a os)) hi
    rw [set_getElem e] at e1
    have e2 := ownedE_set ρ i (some (.lst a (os.set j o.stub))) hi
    have f1 := ownedL_setP o os j hj
    rw [set_selfF l] at f1
    have f2 := ownedL_setP o.stub os j hj
    rw [O.stub_owned, List.nil_append] at f2
    refine e1.trans ?_
    show ((a :: O.ownedL os) ++ ownedE (ρ.set i none)).Perm (o.owned ++ ownedE (ρ.set i (some (.lst a (os.set j o.stub)))))
    refine .trans ?_ (List.Perm.append_left _ e2.symm)
    show ((a :: O.ownedL os) ++ ownedE (ρ.set i none)).Perm (o.owned ++ ((a :: O.ownedL (os.set j o.stub)) ++ ownedE (ρ.set i none)))
    rw [← List.append_assoc]
    refine List.Perm.append_right _ ?_
    exact ((f1.trans (List.Perm.append_left _ f2.symm)).cons a).trans (List.perm_middle (a := a)).symm
  refine ⟨xs, v, hv0, hH, hes, ⟨s.sub, by simpa using s.len, fun m u q => ?_, fun b hb => s.own b (ps.mem_iff.mpr hb), ps.nodup_iff.mp s.nd⟩, fun b => ps.mem_iff⟩
  cases m with
  | zero => cases q; exact ⟨v, rfl, rv⟩
  | succ m =>
    have q : (ρ.set i (some (.lst a (os.set j o.stub))))[m]? = some (some u) := q
    by_cases hm : i = m
    · subst hm
      rw [List.getElem?_set_self hi] at q
      cases q
      exact ⟨_, hv0, .lst hH (by rw [List.length_set]; exact z) (rs.setO rv.stub hes)⟩
    · rw [List.getElem?_set_ne hm] at q
      exact s.slot m u q
theorem SR.giveL {i j : Nat} {o' u : O} {v : V} {xs : List V} (s : SR K (some o' :: ρ) (some v :: σ) F H) (e : ρ[i]? = some (some (.lst a os))) (hH : H a = some (.lst xs)) (l : os[j]? = some u) (he : xs[j]? = some v) (hu : u.owned = []) :
    SR K (ρ.set i (some (.lst a (os.set j o')))) σ F H ∧ ∀ b, b ∈ ownedE (ρ.set i (some (.lst a (os.set j o')))) ↔ b ∈ ownedE (some o' :: ρ) := by
  obtain ⟨v0, hv0, r0⟩ := s.slot (i + 1) (.lst a os) (by simpa using e)
  have hv0 : σ[i]? = some (some v0) := by simpa using hv0
  cases r0 with
  | @lst _ xs2 _ hH2 z rs =>
  rw [hH] at hH2
  cases hH2
  have hi : i < ρ.length := lt_of_get e
  have hj : j < os.length := lt_of_get l
  have ps : (ownedE (ρ.set i (some (.lst a (os.set j o'))))).Perm (ownedE (some o' :: ρ)) := by
    have e1 := ownedE_set ρ i (some (.lst a os)) hi
    rw [set_getElem e] at e1
    have e2 := ownedE_set ρ i (some (.lst a (os.set j o'))) hi
    have f1 := ownedL_setP u os j hj
    rw [set_selfF l, hu, List.nil_append] at f1
    have f2 := ownedL_setP o' os j hj
    refine e2.trans (.trans ?_ (List.Perm.append_left o'.owned e1.symm))
    show ((a :: O.ownedL (os.set j o')) ++ ownedE (ρ.set i none)).Perm (o'.owned ++ ((a :: O.ownedL os) ++ ownedE (ρ.set i none)))
    rw [← List.append_assoc]
    refine List.Perm.append_right _ ?_
    exact ((f2.trans (List.Perm.append_left _ f1.symm)).cons a).trans (List.perm_middle (a := a)).symm
  refine ⟨⟨s.sub, by simpa using s.len, fun m w q => ?_, fun b hb => s.own b (ps.mem_iff.mp hb), ps.nodup_iff.mpr s.nd⟩, fun b => ps.mem_iff⟩
  by_cases hm : i = m
  · subst hm
    rw [List.getElem?_set_self hi] at q
    cases q
    exact ⟨_, hv0, .lst hH (by rw [List.length_set]; exact z) (rs.setO s.top he)⟩
  · rw [List.getElem?_set_ne hm] at q
    exact s.slot (m + 1) w (by simpa using q)
/-- a list within a list -/
theorem SR.inner {i : Nat} {n : Int} {b : Addr} {us : List O} (s : SR K ρ σ F H) (e : ρ[i]? = some (some (.lst a os))) (h : L2.atI os n = some (.lst b us)) :
    ∃ xs ys, σ[i]? = some (some (.ref a)) ∧ H a = some (.lst xs) ∧ L2.atI xs n = some (.ref b) ∧ H b = some (.lst ys) ∧ us.length ≤ sizeLine ∧ RepOL K F H ys us := by
  obtain ⟨v0, hv0, r0⟩ := s.slot i _ e
  cases r0 with
  | @lst _ xs _ hH z rs =>
  obtain ⟨v, hv, rv⟩ := rs.atI h
  cases rv with
  | @lst _ ys _ hB z2 r2 => exact ⟨xs, ys, hv0, hH, hv, hB, z2, r2⟩
end
/-- x[n][j] -/
def wIxLL (i : Nat) (n : Int) (wj : WD) : WD := fun ρ P => match nth ρ i with
  | some (.lst _ os) => ∃ b us, L2.atI os n = some (.lst b us) ∧ wj ρ fun e ρ2 => match nth ρ2 i with
    | some (.lst _ os2) => ∃ us2 k u, L2.atI os2 n = some (.lst b us2) ∧ e = .int k ∧ L2.atI us2 k = some (.fz u) ∧ P u ρ2
    | _ => False
  | _ => False
/-- x[n], looked at -/
def wLookIx (i : Nat) (n : Int) : WD := fun ρ P => match nth ρ i with
  | some (.lst _ os) => ∃ b us, L2.atI os n = some (.lst b us) ∧ P (.lst (O.frzL us)) ρ
  | _ => False
/-- x[n][j] = e -/
def wSetIxx (i : Nat) (n : Int) (wj w : WD) : WS := fun ρ E => w ρ fun d ρ1 => match nth ρ1 i with
  | some (.lst _ os) => ∃ b us, L2.atI os n = some (.lst b us) ∧ wj ρ1 fun e ρ2 => match nth ρ2 i with
    | some (.lst a os) => ∃ us k m jj, L2.atI os n = some (.lst b us) ∧ ixN os.length n = some jj ∧ e = .int k ∧ ixN us.length k = some m ∧ putC ρ2 i (some (.lst a (os.set jj (.lst b (us.set m (.fz d)))))) E.nx
    | _ => False
  | _ => False
theorem frzL_at : ∀ {os : List O} {n : Nat} {o : O}, os[n]? = some o → (O.frzL os)[n]? = some o.frz
  | _ :: _, 0, _, h => by cases h; rfl
  | _ :: os, n + 1, o, h => frzL_at (os := os) (by simpa using h)
theorem frzL_len : ∀ os : List O, (O.frzL os).length = os.length
  | [] => rfl
  | o :: os => congrArg (· + 1) (frzL_len os)
theorem atI_ix {α : Type} {xs : List α} {n : Int} {x : α} (h : L2.atI xs n = some x) : ∃ j, ixN xs.length n = some j ∧ xs[j]? = some x := by
  unfold L2.atI at h
  cases q : ixN xs.length n with
  | none => rw [q] at h; cases h
  | some j => rw [q] at h; exact ⟨j, rfl, h⟩
theorem atI_of {α : Type} {xs : List α} {n : Int} {x : α} {j : Nat} (q : ixN xs.length n = some j) (h : xs[j]? = some x) : L2.atI xs n = some x := by
  unfold L2.atI
  rw [q]; exact h
section
variable {X : Cx} {o c e : Expr} {i : Nat} {n : Int} {wj w : WD} {pos p1 p2 : Pos} {jx : Option Str}
theorem xe_ixLL {kd} (ho : PE X o (tVar i)) (hb : XE X c wj) (hs : PlainIx c := by exact fun _ _ => rfl) : XE X (.Subscript (.Subscript o (.Constant (.int n) kd p1) p2) c pos) (wIxLL i n wj) :=
  ⟨PE.imp (pe_ix ix_seq (pe_ix ix_seq ho pe_int (by exact fun _ _ => rfl)) hb.pe hs) fun σ H Q ⟨ρ, F, P, s, hw, k⟩ => by
    unfold wIxLL at hw
    cases hn0 : nth ρ i with
    | none => rw [hn0] at hw; exact hw.elim
    | some o0 =>
    rw [hn0] at hw
    cases o0 <;> first
      | (exact hw.elim)
      | skip
    obtain ⟨b, us, ha, hw⟩ := hw
    obtain ⟨xs, ys, hv, hH, hx, hB, hz, hr⟩ := s.inner (nth_eq hn0) ha
    refine ⟨_, hv, .inl ⟨_, _, _, _, rfl, rfl, .inl (.inl hH), hx, ρ, F, _, s, hw, fun d ρ2 F2 H2 u p2 s2 r2 f2 => ?_⟩⟩
    cases hn : nth ρ2 i with
    | none => rw [hn] at p2; exact p2.elim
    | some o2 =>
    rw [hn] at p2
    cases o2 <;> first
      | (exact p2.elim)
      | skip
    obtain ⟨us2, q, u2, ha2, rfl, hu, p3⟩ := p2
    obtain ⟨xs2, ys2, hv2, hH2, hx2, hB2, hz2, hr2⟩ := s2.inner (nth_eq hn) ha2
    cases r2
    obtain ⟨v, hv3, rv⟩ := hr2.atI hu
    cases rv with
    | fz rv => exact .inl ⟨_, _, _, _, rfl, rfl, .inl (.inl hB2), hv3, k _ _ _ _ _ p3 s2 rv f2⟩⟩
theorem xb_lookIx {kd} (ho : PE X o (tVar i)) : XB X (.Subscript o (.Constant (.int n) kd p1) pos) (wLookIx i n) :=
  ⟨PE.imp (pe_ix ix_seq ho pe_int (by exact fun _ _ => rfl)) fun σ H Q ⟨ρ, F, P, s, hw, k⟩ => by
    unfold wLookIx at hw
    cases hn0 : nth ρ i with
    | none => rw [hn0] at hw; exact hw.elim
    | some o0 =>
    rw [hn0] at hw
    cases o0 <;> first
      | (exact hw.elim)
      | skip
    obtain ⟨b, us, ha, hw⟩ := hw
    obtain ⟨xs, ys, hv, hH, hx, hB, hz, hr⟩ := s.inner (nth_eq hn0) ha
    obtain ⟨F', v, hv', s', r, f⟩ := s.let (nth_eq hn0)
    rw [hv] at hv'
    cases hv'
    cases r with
    | @lst _ xs' _ hF z rl =>
    have hF' := s'.sub.lst hF
    rw [hH] at hF'
    cases hF'
    obtain ⟨j, hj, hoj⟩ := atI_ix ha
    obtain ⟨j2, hj2, hxj⟩ := atI_ix hx
    have hl : xs.length = (O.frzL _).length := rl.length
    rw [frzL_len] at hl
    rw [hl] at hj2
    rw [hj] at hj2
    cases hj2
    obtain ⟨v2, hv2, rv2⟩ := rl.get (frzL_at hoj)
    rw [hxj] at hv2
    cases hv2
    exact ⟨_, hv, .inl ⟨_, _, _, _, rfl, rfl, .inl (.inl hH), hx, k _ _ _ F' _ _ hw s s'.sub f.fz rv2 .refl⟩⟩⟩
theorem xs_setIxx {st : Stmt} {t : TE} (l : ∀ σ H Q, (∃ x, σ[i]? = some (some x) ∧ ∃ a xs v, x = .ref a ∧ SqL X.K H a xs ∧ L2.atI xs n = some v ∧ Q v H) → t σ H Q) (h : PS X st (tAsg (liftD X.K w) (gSub t (liftD X.K wj) rSetL))) : XS X st (wSetIxx i n wj w) := ⟨fun W tk => PS.imp h fun Dn σ H ⟨ρ, F, E, s, hw, k⟩ => by
    refine ⟨ρ, F, _, s, hw, fun d ρ1 F1 H1 y p s1 rd f1 => ?_⟩
    cases hn0 : nth ρ1 i with
    | none => rw [hn0] at p; exact p.elim
    | some o0 =>
    rw [hn0] at p
    cases o0 <;> first
      | (exact p.elim)
      | skip
    obtain ⟨b, us, ha, p⟩ := p
    obtain ⟨xs, ys, hv, hH, hx, hB, hz, hr⟩ := s1.inner (nth_eq hn0) ha
    refine l _ _ _ ⟨_, hv, _, _, _, rfl, .inl (.inl hH), hx, ρ1, F1, _, s1, p, fun e ρ2 F2 H2 u p2 s2 r2 f2 => ?_⟩
    cases hn : nth ρ2 i with
    | none => rw [hn] at p2; exact p2.elim
    | some o2 =>
    rw [hn] at p2
    cases o2 <;> first
      | (exact p2.elim)
      | skip
    rename_i a2 os2
    obtain ⟨us2, q, m, jj, ha2, hjj, rfl, hm, p3⟩ := p2
    obtain ⟨xs2, ys2, hv2, hH2, hx2, hB2, hz2, hr2⟩ := s2.inner (nth_eq hn) ha2
    cases r2
    obtain ⟨j', hj', hoj⟩ := atI_ix ha2
    rw [hjj] at hj'
    cases hj'
    obtain ⟨xs3, v3, hv3, hH3, hx3, t1, m1⟩ := s2.takeL (nth_eq hn) hoj
    rw [hH2] at hH3
    cases hH3
    have ev : v3 = .ref b := by
      have := t1.top
      cases this; rfl
    subst ev
    have t2 := t1.pushD (rd.mono f2.fz)
    have n2 := List.nodup_append.mp t1.nd
    have n3 := (List.nodup_cons.mp (show (b :: O.ownedL us2).Nodup from n2.1)).2
    obtain ⟨w1, w2⟩ := ownedL_set (o := .fz d) us2 m
    obtain ⟨t3, f3⟩ := t2.mutL (hr2.setAt (.fz (rd.mono f2.fz)) m) (by rw [List.length_set]; exact hz2) w1 (w2 (by show ([] ++ O.ownedL us2).Nodup; exact n3))
    have hi : i < ρ2.length := lt_of_get (nth_eq hn)
    have hjl : jj < os2.length := lt_of_get hoj
    have nab : a2 ≠ b := fun q => by
      have hm : a2 ∈ ownedE (ρ2.set i (some (.lst a2 (os2.set jj (O.lst b us2).stub)))) := mem_ownedE (o := .lst a2 (os2.set jj (O.lst b us2).stub)) (by rw [List.getElem?_set_self hi]) a2 List.mem_cons_self
      exact n2.2.2 b List.mem_cons_self a2 hm q.symm
    obtain ⟨t4, m4⟩ := t3.giveL (i := i) (j := jj) (os := os2.set jj (O.lst b us2).stub) (u := (O.lst b us2).stub) (xs := xs2) (by rw [List.getElem?_set_self hi]) (by rw [upd_ne nab]; exact hH2) (by rw [List.getElem?_set_self hjl]) hx3 (O.stub_owned _)
    rw [List.set_set, List.set_set] at t4 m4
    rw [putC_eq] at p3
    exact ⟨b, ys2, q, m, rfl, rfl, hB2, by rw [hr2.length]; exact hm, k.nx _ _ _ _ p3 t4 (f1.trans (f2.trans (f3.iff (fun b => (m1 b)) fun b hb => (m4 b).mp hb)))⟩⟩
end
end Tr
/-! x < y of alike data; sorted of alike data, of a dict whose keys are tuples. -/
namespace Tr
open PySem PySem.Spec PyProof.Rows L2
def rLtD (K : PySem.W.Frag) : R2 := fun x y H Q => ∃ d e : PyData, Dp K H x d ∧ Dp K H y e ∧ PySem.W.alike d e = true ∧ d ≠ .none ∧ min d.depth e.depth ≤ 40 ∧ Q (.bl (PySem.W.dataLt d e)) H
theorem op_ltD {X : Cx} (hu : X.A.units + 64 < cLine) : OpR X (compareOp .Lt) (rLtD X.K) := by
  intro pins s σ H x y v u Q I rx ry h
  obtain ⟨d, e, hd, he, ha, hn, hz, q⟩ := h
  obtain ⟨as, r1⟩ := Dp.reads I d x v hd rx
  obtain ⟨bs, r2⟩ := Dp.reads I e y u he ry
  exact PySem.W.rcLt_alike d e X.A s v u as bs r1 r2 ha hn (by omega) _ _ _ _ ⟨.bl _, H, I, rfl, q⟩
/-- x < y: whole numbers, texts, alike tuples -/
structure AlikeD (d e : D) : Prop where
  p1 : d.plain = true
  p2 : e.plain = true
  al : PySem.W.alike d.py e.py = true
  ne : d.py ≠ .none
  dep : min d.py.depth e.py.depth ≤ 40
def semLtD (d e : D) (P : D → Prop) : Prop := AlikeD d e ∧ P (.bl (PySem.W.dataLt d.py e.py))
theorem sem_ltD {K : PySem.W.Frag} : SemS K (rLtD K) semLtD := by
  intro F H x y d e P Q sb rx ry hs k
  obtain ⟨a, p⟩ := hs
  exact ⟨d.py, e.py, rx.dp sb a.p1, ry.dp sb a.p2, a.al, a.ne, a.dep, k _ _ p fun _ => .bl _⟩
/-- the addresses that data are read at stand in the heap -/
theorem reads_there {h : Heap} : (∀ (d : PyData) (v : Value) (as : List Addr), Reads h v d as → ∀ b ∈ as, ∃ o, h.get? b = some o) := by
  intro d v as r
  exact Reads.rec (motive_1 := fun _ _ as _ => ∀ b ∈ as, ∃ o, h.get? b = some o) (motive_2 := fun _ _ as _ => ∀ b ∈ as, ∃ o, h.get? b = some o)
    (fun _ h => by cases h) (fun _ _ h => by cases h) (fun _ _ _ h => by cases h) (fun _ _ _ h => by cases h)
    (fun h1 _ _ _ ih b hb => by rcases List.mem_cons.mp hb with e | e; · subst e; exact ⟨_, h1⟩
                                · exact ih b e)
    (fun _ _ _ _ ih b hb => ih b hb)
    (fun h1 _ _ _ _ ih1 ih2 b hb => by
      rcases List.mem_append.mp hb with e | e
      · rcases List.mem_cons.mp e with e | e
        · subst e; exact ⟨_, h1⟩
        · exact ih1 b e
      · exact ih2 b e)
    (fun _ h => by cases h) (fun _ _ ih1 ih2 b hb => (List.mem_append.mp hb).elim (ih1 b) (ih2 b)) r
/-- what is sorted can be -/
structure SortOk (ds : List PyData) : Prop where
  al : PySem.W.AllAlike ds
  so : PySem.W.Sortable ds
  dep : ∀ d ∈ ds, d.depth ≤ 40
theorem each_of {R : V → D → Prop} : ∀ {l : List (V × D)} {us : List Value}, Vals (l.map (·.1)) us → PySem.W.EachIs (fun u q => RelV q.1 u) us l
  | [], _, .nil => .nil
  | q :: l, _, .cons h r => .cons h (each_of (R := R) (l := l) r)
theorem vals_of_each : ∀ {us : List Value} {l : List (V × D)}, PySem.W.EachIs (fun u (q : V × D) => RelV q.1 u) us l → Vals (l.map (·.1)) us
  | _, _, .nil => .nil
  | _, _, .cons h r => .cons h (vals_of_each r)
abbrev srtD (l : List (V × D)) : List (V × D) := l.mergeSort (PySem.W.dataLe false fun q : V × D => q.2.py)
def rSortA (K : PySem.W.Frag) : List V → Hp → VK → Prop := fun vs H Q => ∃ (a : Addr) (l : List (V × D)), vs = [.ref a] ∧ SqL K H a (l.map (·.1)) ∧ (∀ q ∈ l, Dp K H q.1 q.2.py) ∧ SortOk (l.map fun q => q.2.py) ∧
  ∀ p, H p = none → Q (.ref p) (upd H p (.lst ((srtD l).map (·.1))))
section
variable {X : Cx}
theorem each_reads {pins : List (Addr × Obj)} {σ : L2.St} {H : Hp} {s : Shared} (I : Inv X pins σ H s) : ∀ {l : List (V × D)} {us : List Value}, Vals (l.map (·.1)) us → (∀ q ∈ l, Dp X.K H q.1 q.2.py) → PySem.W.EachIs (fun u (q : V × D) => ∃ as, Reads s.heap u q.2.py as) us l
  | [], _, .nil, _ => .nil
  | q :: l, _, .cons h r, hd => .cons (Dp.reads I _ _ _ (hd q List.mem_cons_self) h) (each_reads I r fun p hp => hd p (List.mem_cons_of_mem _ hp))
theorem cr_sortA (hc : X.A.units + 64 < cLine) : CallR X (.builtin "sorted") (rSortA X.K) := by
  intro pins s σ H vs us Q I r h
  obtain ⟨a, l, rfl, hs, hd, so, q⟩ := h
  obtain ⟨its, rv, hl, hz⟩ := I.list hs
  obtain ⟨u, rfl, ru⟩ := vals1 r
  obtain rfl : u = Value.ref a := ru
  rw [List.length_map] at hz
  refine PySem.W.sorted_data (bs := l) (enc := fun q => q.2.py) (R := fun u (q : V × D) => RelV q.1 u) hl.isList (each_of (R := fun _ _ => True) rv) (each_reads I rv hd) so.al so.so hz (fun q hq => by have := so.dep _ (List.mem_map.mpr ⟨q, hq, rfl⟩); omega) fun out ho e => ?_
  have rv2 := vals_of_each e
  have hlen : ((srtD l).map (·.1)).length ≤ sizeLine := by rw [List.length_map, List.length_mergeSort]; exact hz
  obtain ⟨n, hn⟩ := PyProof.Rows.sortedAll_at s.heap its out.toArray
  exact ⟨.ref (s.heap.objs.size + 1), upd H (s.heap.objs.size + 1) (.lst ((srtD l).map (·.1))), I.laid (t' := s.toks) (fun b o e => PyProof.Rows.sortedAll_old e) (Nat.le_succ _) ⟨hlen, out, n, rv2, hn⟩, rfl, q _ (I.hok.fresh (Nat.le_succ _))⟩
/-- sorted(d): its keys, tuples -/
def keysAt (bs : List Addr) (ks : List (List Key)) : List (V × D) := (bs.map V.ref).zip (ks.map kT)
def rSortT : List V → Hp → VK → Prop := fun vs H Q => ∃ (a : Addr) (kvs : List (List Key × V)), vs = [.ref a] ∧ Rd H a (.dT kvs) ∧ SortOk (kvs.map fun q => (kT q.1).py) ∧
  ∀ p bs, H p = none → IsKeys H kvs bs → Q (.ref p) (upd H p (.lst ((srtD (keysAt bs (kvs.map (·.1)))).map (·.1))))
theorem keysAt_fst {bs : List Addr} {ks : List (List Key)} (h : bs.length = ks.length) : (keysAt bs ks).map (·.1) = bs.map V.ref := by
  unfold keysAt
  rw [List.map_fst_zip]
  rw [List.length_map, List.length_map, h]; exact Nat.le_refl _
theorem keysAt_snd {bs : List Addr} {ks : List (List Key)} (h : bs.length = ks.length) : (keysAt bs ks).map (·.2) = ks.map kT := by
  unfold keysAt
  rw [List.map_snd_zip]
  rw [List.length_map, List.length_map, h]; exact Nat.le_refl _
theorem isKeys_dp {K : PySem.W.Frag} {H : Hp} : ∀ {kvs : List (List Key × V)} {bs : List Addr}, IsKeys H kvs bs → ∀ q ∈ keysAt bs (kvs.map (·.1)), Dp K H q.1 q.2.py
  | _, _, .nil, q, h => by cases h
  | p :: kvs, b :: bs, .cons hb t, q, h => by
    rcases List.mem_cons.mp (show q ∈ (V.ref b, kT p.1) :: keysAt bs (kvs.map (·.1)) from h) with e | e
    · rw [e]
      refine Dp.tup (.inl (.inl hb)) ?_
      show DpAll K H (p.1.map kV) (D.pyL (p.1.map kD))
      have : ∀ k : List Key, DpAll K H (k.map kV) (D.pyL (k.map kD)) := by
        intro k
        induction k with
        | nil => exact .nil
        | cons x k ih =>
          refine .cons ?_ ih
          cases x with
          | inl i => exact .int i
          | inr z => exact .str z
      exact this _
    · exact isKeys_dp t q e
theorem cr_sortT (hcalm : X.calm = true) (hc : X.A.units + 64 < cLine) : CallR X (.builtin "sorted") rSortT := by
  intro pins s σ H xs us Q I r q
  obtain ⟨a, kvs, rfl, hd, so, q⟩ := q
  obtain ⟨u, rfl, rx⟩ := vals1 r
  cases rx
  obtain ⟨z, hs, ks, pr, o, es, ep, ho, hx, hdt, he, hn⟩ := (show ObjOk X.prog X.w H s.heap a (.dT kvs) from hd.ok I.hok)
  have l1 : es.size = ks.length := size_of_entries he
  have l2 : kvs.length = ks.length := Paired.length pr
  refine Calls.call_function_entry PyProof.Rows.kind_sorted PyProof.Rows.plain_sorted PyProof.Rows.entry_sorted (PyProof.Rows.args_sorted1 _) ?_
  unfold Builtin.«sorted»
  refine wpAny_bind (m := checkCount "sorted" 1 1 _) (wpAny_pure ?_)
  refine wpAny_bind (PySem.W.kdu_collect (A := X.A.in1) (kdl_raw hs hx hdt) (I.ok.hd hcalm) ho (by omega) fun h' tk acc' kp it => ?_)
  have ea : acc'.toList = ks.map fun x => Value.ref x.2.1 := by
    have hl : acc'.toList.length = ks.length := by rw [Array.length_toList, it.1]; exact l1
    apply List.ext_getElem?
    intro j
    rw [List.getElem?_map]
    cases hj : acc'.toList[j]? with
    | none =>
      have h1 := List.getElem?_eq_none_iff.mp hj
      rw [List.getElem?_eq_none (by omega)]
      all_goals rfl
    | some v =>
      obtain ⟨en, hen, hv⟩ := it.2 j v (by rw [← Array.getElem?_toList]; exact hj)
      have qe := entry_at he j
      rw [hen] at qe
      cases hb : ks[j]? with
      | none =>
        rw [hb] at qe
        exact nomatch (show some en = none from qe)
      | some b =>
        rw [hb] at qe
        have e2 : en = entryOfKey (tupleKind (mixKind X.prog X.w)) b := Option.some.inj qe
        rw [hv, e2]
        all_goals rfl
  have eb : acc'.toList = (ks.map fun x => x.2.1).map Value.ref := by rw [ea, List.map_map]; all_goals rfl
  have ik := isKeys_of pr
  have lb : (ks.map fun x => x.2.1).length = (kvs.map (·.1)).length := by rw [List.length_map, List.length_map, l2]
  have rv : Vals ((keysAt (ks.map fun x => x.2.1) (kvs.map (·.1))).map (·.1)) acc'.toList := by
    rw [keysAt_fst lb, eb]
    exact vals_refs _
  have hL : (keysAt (ks.map fun x => x.2.1) (kvs.map (·.1))).length ≤ sizeLine := by
    have := congrArg List.length (keysAt_fst lb)
    rw [List.length_map, List.length_map, List.length_map] at this
    omega
  have I1 : Inv X pins σ H { s with heap := h', toks := tk } := I.kept kp
  have er := each_reads I1 rv (isKeys_dp ik)
  have so2 : SortOk ((keysAt (ks.map fun x => x.2.1) (kvs.map (·.1))).map fun q => q.2.py) := by
    have e : (keysAt (ks.map fun x => x.2.1) (kvs.map (·.1))).map (fun q => q.2.py) = kvs.map fun q => (kT q.1).py := by
      rw [show (fun q : V × D => q.2.py) = D.py ∘ (·.2) from rfl, ← List.map_map, keysAt_snd lb, List.map_map, List.map_map]
      rfl
    rw [e]; exact so
  refine wpAny_bind (wpAny_newList ?_ (by rw [eb, List.length_map, List.length_map]; omega))
  have hoL : (h'.push (seqObj "list" acc'.toList.toArray 0)).get? h'.objs.size = some (seqObj "list" acc'.toList.toArray 0) := Heap.get?_push_size _ rfl
  show wpAny _ _ _ _ _ { s with heap := h'.push (seqObj "list" acc'.toList.toArray 0), toks := tk }
  refine wpAny_bind (wpAny_holding (PySem.W.list_sort_data (s := { s with heap := h'.push (seqObj "list" acc'.toList.toArray 0), toks := tk }) (enc := fun q : V × D => q.2.py) (R := fun u (q : V × D) => RelV q.1 u) hoL (each_of (R := fun _ _ => True) rv)
    (er.mono fun v q ⟨as, r⟩ => ⟨as, PyProof.Rows.Reads.keeps (fun b o e => Heap.get?_push_of_some _ e) r, fun hm => by
      obtain ⟨o, e⟩ := reads_there _ _ _ r _ hm
      exact Nat.lt_irrefl _ (Heap.lt_size e)⟩) so2.al so2.so hL (fun q hq => by have := so2.dep _ (List.mem_map.mpr ⟨q, hq, rfl⟩); show X.A.units + 1 + 1 + q.2.py.depth < cLine; omega) fun out hol e => ?_))
  have rv2 := vals_of_each e
  obtain ⟨n, hn2⟩ := PyProof.Rows.sortedHeap_at (vs := acc'.toList) (out := out.toArray) hoL
  have hlen : ((srtD (keysAt (ks.map fun x => x.2.1) (kvs.map (·.1)))).map (·.1)).length ≤ sizeLine := by rw [List.length_map, List.length_mergeSort]; exact hL
  refine wpAny_pure ⟨_, rfl, .ref h'.objs.size, upd H h'.objs.size (.lst ((srtD (keysAt (ks.map fun x => x.2.1) (kvs.map (·.1)))).map (·.1))), I1.laid (t' := tk) (fun b u e => ?_) (Nat.le_refl _)
    ⟨hlen, out, n, rv2, hn2⟩, rfl, q _ _ (I1.hok.fresh (Nat.le_refl _)) ik⟩
  have hb : b < h'.objs.size := Heap.lt_size e
  rw [PyProof.Rows.sortedHeap_old (Nat.ne_of_lt hb) (by rw [size_push']; exact Nat.lt_succ_of_lt hb)]
  exact Heap.get?_push_of_some _ e
end
theorem srtD_snd (l : List (V × D)) : (srtD l).map (·.2) = (l.map (·.2)).mergeSort (PySem.W.dataLe false D.py) := by
  unfold srtD
  exact List.map_mergeSort fun a _ b _ => rfl
/-- sorted(x), x a list of alike data or a dict whose keys are tuples -/
abbrev srtL (ds : List D) : List D := ds.mergeSort (PySem.W.dataLe false D.py)
def semSortD (d : D) (P : O → Prop) : Prop := match d with
  | .lst ds => (∀ d ∈ ds, d.plain = true) ∧ SortOk (ds.map D.py) ∧ ∀ a, P (.lst a ((srtL ds).map .fz))
  | .dcT kvs => SortOk (kvs.map fun q => (kT q.1).py) ∧ ∀ a, P (.lst a ((srtL (kvs.map fun q => kT q.1)).map .fz))
  | _ => False
theorem zip_repl {K : PySem.W.Frag} {F : Hp} : ∀ {xs : List V} {ds : List D}, RepL K F xs ds → ∀ q ∈ xs.zip ds, Rep K F q.1 q.2
  | _, _, .nil, q, h => by cases h
  | _, _, .cons a r, q, h => by
    rcases List.mem_cons.mp (show q ∈ (_, _) :: List.zip _ _ from h) with e | e
    · rw [e]; exact a
    · exact zip_repl r q e
theorem repl_of_mem {K : PySem.W.Frag} {F : Hp} : ∀ {l : List (V × D)}, (∀ q ∈ l, Rep K F q.1 q.2) → RepL K F (l.map (·.1)) (l.map (·.2))
  | [], _ => .nil
  | q :: l, h => .cons (h q List.mem_cons_self) (repl_of_mem fun p hp => h p (List.mem_cons_of_mem _ hp))
theorem RepT.keysM {K : PySem.W.Frag} {F : Hp} : ∀ {es : List (List Key × V)} {kvs : List (List Key × D)}, RepT K F es kvs → es.map (·.1) = kvs.map (·.1)
  | _, _, .nil => rfl
  | _, _, .cons (k := k) q h r => by rw [List.map_cons, List.map_cons, RepT.keysM r]
theorem sem_sortD {K : PySem.W.Frag} : SemO1 K (fun xs H Q => rSortA K xs H Q ∨ rSortT xs H Q) semSortD := by
  intro F H x d P Q sb rx hs k
  unfold semSortD at hs
  split at hs
  · rename_i ds
    obtain ⟨hp, so, h⟩ := hs
    cases rx with
    | @lst a xs _ ha z r =>
    have e1 : (xs.zip ds).map (·.1) = xs := by rw [List.map_fst_zip]; rw [r.length]; exact Nat.le_refl _
    have e2 : (xs.zip ds).map (·.2) = ds := by rw [List.map_snd_zip]; rw [r.length]; exact Nat.le_refl _
    have rep := zip_repl r
    have hpm : ∀ q ∈ xs.zip ds, q.2.plain = true := fun q hq => hp _ (List.of_mem_zip (a := q.1) (b := q.2) hq).2
    refine .inl ⟨a, xs.zip ds, rfl, by rw [e1]; exact .inl (.inl (sb.lst ha)), fun q hq => (rep q hq).dp sb (hpm q hq), ?_, fun p hn => ?_⟩
    · rw [show (xs.zip ds).map (fun q => q.2.py) = ds.map D.py by rw [show (fun q : V × D => q.2.py) = D.py ∘ (·.2) from rfl, ← List.map_map, e2]]
      exact so
    · have es : (srtD (xs.zip ds)).map (·.2) = srtL ds := by rw [srtD_snd, e2]
      have rl : RepL K F ((srtD (xs.zip ds)).map (·.1)) (srtL ds) := by
        rw [← es]
        exact repl_of_mem fun q hq => rep q (List.mem_mergeSort.mp hq)
      exact k _ _ _ _ (h p) (Res.lst hn (by rw [List.length_mergeSort]; exact z) rl)
  · rename_i kvs
    obtain ⟨so, h⟩ := hs
    cases rx with
    | @dcT a es _ hF z rk =>
    have ek := rk.keysM
    refine .inr ⟨a, es, rfl, sb.dT hF, ?_, fun p bs hn hk => ?_⟩
    · have : (es.map fun q => (kT q.1).py) = kvs.map fun q => (kT q.1).py := by
        have := congrArg (List.map fun k => (kT k).py) ek
        rwa [List.map_map, List.map_map] at this
      rw [this]; exact so
    · have lb : bs.length = (es.map (·.1)).length := by rw [List.length_map]; exact (Paired.length hk).symm
      have es2 : (srtD (keysAt bs (es.map (·.1)))).map (·.2) = srtL (kvs.map fun q => kT q.1) := by
        rw [srtD_snd, keysAt_snd lb, ek, List.map_map]; rfl
      refine k _ _ (addTs F (bs.zip (es.map fun e => e.1.map kV))) _ (h p) fun ρ σ s => ?_
      obtain ⟨s1, f1, g1⟩ := s.addTs (isKeys_zip hk)
      have r2 := keys_rep (kvs := []) (rk.mono' (f1 []).fz) hk g1
      have rep : ∀ q ∈ keysAt bs (es.map (·.1)), Rep K (addTs F (bs.zip (es.map fun e => e.1.map kV))) q.1 q.2 := by
        have e : keysAt bs (es.map (·.1)) = (bs.map V.ref).zip (kvs.map fun q => kT q.1) := by
          unfold keysAt; rw [ek, List.map_map]; rfl
        rw [e]
        exact zip_repl r2
      have rl : RepL K (addTs F (bs.zip (es.map fun e => e.1.map kV))) ((srtD (keysAt bs (es.map (·.1)))).map (·.1)) (srtL (kvs.map fun q => kT q.1)) := by
        rw [← es2]
        exact repl_of_mem fun q hq => rep q (List.mem_mergeSort.mp hq)
      obtain ⟨s2, f2⟩ := Res.lst (K := K) hn (by rw [List.length_mergeSort, List.length_map]; exact z) rl ρ σ s1
      exact ⟨s2, (f1 _).trans f2⟩
  · exact hs.elim
theorem cr_sortD {X : Cx} (hcalm : X.calm = true) (hc : X.A.units + 64 < cLine) : CallR X (.builtin "sorted") (fun xs H Q => rSortA X.K xs H Q ∨ rSortT xs H Q) := (cr_sortA hc).or (cr_sortT hcalm hc)
end Tr
/-! == and != of dicts whose keys are tuples. -/
namespace PySem.W
open Lean Elab Tactic Meta PySem PySem.Calls PyProof.Rows PyProof.V PySem.Spec
section
variable {prog : Program} {w : World} {K : Type} [DecidableEq K] {knd : HeapKind prog w K} {A : Around} {E : Value → Shared → Prop} {s : Shared}
def flatH (xs : List (K × Addr × Value)) : List (K × Value) := xs.map fun x => (x.1, x.2.2)
theorem flatH_val (xs : List (K × Addr × Value)) (k : K) : valueAt (flatH xs) k = (atKey xs k).map (·.2) := by
  unfold valueAt atKey flatH
  induction xs with
  | nil => rfl
  | cons x xs ih =>
    rw [List.map_cons, List.find?_cons, List.find?_cons]
    by_cases e : x.1 = k
    · simp [e]
    · simp only [e, decide_false]
      exact ih
theorem keq_samePairsH {nm : String} {a b : Addr} {xa xb : List (K × Addr × Value)} {r : Bool} {Q : Bool → Shared → Prop} (ha : (a == sysModules) = false) (hb : (b == sysModules) = false) (hu : knd.room A)
    (da : s.heap.DictOfH knd a xa) (db : s.heap.DictOfH knd b xb) (hits : xa.length = xb.length → KeqHits A s (flatH xb) (flatH xa) r) (h : Q (xa.length == xb.length && r) s) :
    wpAny (model prog w) A (Builtin.Dict.samePairs nm a b) Q E s := by
  obtain ⟨oa, es, ep, hoa, _, hda, hea, hia, hna⟩ := da
  obtain ⟨ob, es', ep', hob, _, hdb, heb, hib, hnb⟩ := db
  have hla : xa.length = es.size := (size_of_entries hea).symm
  have hlb : xb.length = es'.size := (size_of_entries heb).symm
  rw [hla, hlb] at h
  unfold Builtin.Dict.samePairs Builtin.Dict.showsAll
  rw [if_neg (show ¬ (a == sysModules) = true by rw [ha]; exact Bool.false_ne_true), if_neg (show ¬ (b == sysModules) = true by rw [hb]; exact Bool.false_ne_true)]
  refine wpAny_bind (wpAny_pure (wpAny_bind (wpAny_pure ?_)))
  refine wpAny_bind (wpAny_dictEntries hoa hda ?_)
  dsimp only
  refine wpAny_bind (wpAny_dictEntries hob hdb ?_)
  by_cases hsz : es.size = es'.size
  case neg =>
    rw [if_pos (by simpa using hsz)]
    have hbf : (es.size == es'.size) = false := by simpa using hsz
    rw [hbf, Bool.false_and] at h
    exact wpAny_bind (wpAny_rule (wpAny_pure h))
  case pos =>
    have h' : Q r s := by simpa [hsz] using h
    have hits' := hits (by rw [hla, hlb]; exact hsz)
    rw [if_neg (by rw [hsz]; simp)]
    refine wpAny_bind (wpAny_dictEpoch hoa hda ?_)
    refine wpAny_bind ?_
    rw [Std.Legacy.Range.forIn_eq_forIn_range']
    simp only [Std.Legacy.Range.size, Nat.sub_zero, Nat.add_sub_cancel, Nat.div_one]
    refine wpAny_forIn_list _
      (fun rest q s' => s' = s ∧ q = (none, ()) ∧ ∃ i, rest = List.range' i (es.size - i) ∧ i ≤ es.size ∧ KeqHits A s (flatH xb) ((flatH xa).drop i) r)
      _ ?_ ?_ _ _ ⟨rfl, rfl, 0, by simp, Nat.zero_le _, hits'⟩
    · rintro x rest q s' ⟨rfl, rfl, i, hr, hi, hpre⟩
      have hlt : i < es.size := by
        rcases Nat.lt_or_ge i es.size with h | h
        · exact h
        · rw [Nat.sub_eq_zero_of_le h] at hr; simp at hr
      obtain ⟨rfl, hrest⟩ : x = i ∧ rest = List.range' (i + 1) (es.size - (i + 1)) := by
        have e : es.size - i = (es.size - (i + 1)) + 1 := by omega
        rw [e, List.range'_succ] at hr
        injection hr with h1 h2
        exact ⟨h1, h2⟩
      refine wpAny_bind (wpAny_dictEntries hoa hda ?_)
      have hlt' : x < xa.length := by rw [hla]; exact hlt
      obtain ⟨k, ka, v, hkv⟩ : ∃ k ka v, xa[x] = (k, ka, v) := ⟨_, _, _, rfl⟩
      have hxa : xa[x]? = some (k, ka, v) := by rw [List.getElem?_eq_getElem hlt', hkv]
      have hes : es[x]? = some (entryOfKey knd (k, ka, v)) := by rw [entry_at hea x, hxa]; rfl
      rw [hes]
      have hdrop : (flatH xa).drop x = (k, v) :: (flatH xa).drop (x + 1) := by
        unfold flatH
        rw [List.drop_eq_getElem_cons (by rw [List.length_map]; exact hlt'), List.getElem_map, hkv]
      rw [hdrop] at hpre
      have hkey : knd.is s'.heap k ka := by
        have := hia _ (List.mem_of_getElem? hxa)
        exact this
      show wpAny _ _ (holding [.ref ka, v] (dictFind b (.ref ka) (knd.hash k) >>= _) >>= _) _ _ _
      refine wpAny_bind (wpAny_holding (wpAny_bind (wpAny_dictFind_heap hu hkey hob hdb heb hib hnb ?_ ?_)))
      · intro hno
        have hn : valueAt (flatH xb) k = none := by rw [flatH_val, atKey_none_of_get hno]; rfl
        rcases hpre.inv with ⟨_, er⟩ | ⟨y, _, _, hy, _⟩
        · rw [er] at h'
          refine wpAny_pure ?_
          show wpAny _ _ (if (!false) = true then _ else _) _ _ _
          rw [if_pos (by decide)]
          exact wpAny_pure (wpAny_pure h')
        · rw [hn] at hy; exact nomatch hy
      · intro j p hj
        have hv' : valueAt (flatH xb) k = some p.2 := by rw [flatH_val, atKey_of_get hnb hj]; rfl
        refine wpAny_bind (wpAny_dictEntries hob hdb ?_)
        have hej : es'[j]? = some (entryOfKey knd (k, p)) := by rw [entry_at heb j, hj]; rfl
        rw [hej]
        rcases hpre.inv with ⟨hn, _⟩ | ⟨y, e, b', hy, he, hrr, er⟩
        · rw [hv'] at hn; exact nomatch hn
        · have ey : p.2 = y := Option.some.inj (hv'.symm.trans hy)
          rw [← ey] at he
          refine wpAny_holding (he prog w _ _ ?_)
          cases e with
          | false =>
            rw [er, Bool.false_and] at h'
            show wpAny _ _ (if (!false) = true then _ else _) _ _ _
            rw [if_pos (by decide)]
            exact wpAny_pure (wpAny_pure h')
          | true =>
            rw [Bool.true_and] at er
            rw [← er] at hrr
            show wpAny _ _ (if (!true) = true then _ else _) _ _ _
            rw [if_neg (by decide)]
            refine wpAny_bind (wpAny_dictEpoch hoa hda ?_)
            rw [if_neg (by simp)]
            exact wpAny_pure ⟨rfl, rfl, x + 1, hrest, hlt, hrr⟩
    · rintro q s' ⟨rfl, rfl, i, hr, hi, hpre⟩
      have hin : i = es.size := by
        rcases Nat.lt_or_ge i es.size with h | h
        · have e : es.size - i = (es.size - (i + 1)) + 1 := by omega
          rw [e, List.range'_succ] at hr; exact nomatch hr
        · exact Nat.le_antisymm hi h
      refine wpAny_pure ?_
      rw [hin, ← hla, show xa.length = (flatH xa).length by unfold flatH; rw [List.length_map], List.drop_length] at hpre
      cases hpre
      exact h'
end
end PySem.W
namespace PySem.W
open PySem PySem.Calls PyProof.Rows PyProof.V PySem.Spec
section
variable {prog : Program} {w : World} {K : Type} [DecidableEq K] {knd : HeapKind prog w K} {A : Around} {E : Value → Shared → Prop} {s : Shared}
theorem Heap.DictOfH.tyIs {d : Addr} {xs : List (K × Addr × Value)} (x : s.heap.DictOfH knd d xs) : s.TypeIs (.ref d) "dict" := let ⟨o, _, _, ho, hc, _⟩ := x; ⟨o, ho, hc.1⟩
theorem keq_eqH {a b : Addr} {xa xb : List (K × Addr × Value)} {r : Bool} {Q : Value → Shared → Prop} (ha : (a == sysModules) = false) (hb : (b == sysModules) = false)
    (da : s.heap.DictOfH knd a xa) (db : s.heap.DictOfH knd b xb) (hu : A.units < cLine) (hr : knd.room A.in1) (hits : xa.length = xb.length → KeqHits A.in1 s (flatH xb) (flatH xa) r) (h : Q (.bool (xa.length == xb.length && r)) s) :
    wpAny (model prog w) A (compareOp .Eq (.ref a) (.ref b)) Q E s := by
  have ta := Heap.DictOfH.tyIs da
  have tb := Heap.DictOfH.tyIs db
  refine wpAny_richCompare_same_room (op := .Eq) ta tb PySem.F.slot_dict_eq (wpAny_call_entry PySem.F.slot_dict_eq ta PySem.F.entry_dict_eq ?_ (PySem.F.args_dict_eq_2 _ _)) hu
  show wpAny _ _ (Builtin.Dict.dictSlotArgs "__eq__" ⟨[.ref a, .ref b], []⟩ >>= _) _ _ s
  refine wpAny_bind ?_
  unfold Builtin.Dict.dictSlotArgs
  refine wpAny_bind (wpAny_notOrdered_dict ta ?_)
  show wpAny _ _ (pure (Value.ref a, Value.ref b)) _ _ s
  refine wpAny_pure ?_
  refine wpAny_bind (wpAny_isInstance (T := "dict") tb PySem.F.sub_dict_dict ?_)
  simp only [Bool.not_true, Bool.false_eq_true, if_false]
  refine wpAny_bind (wpAny_pure (wpAny_bind (wpAny_pure ?_)))
  refine wpAny_bind (keq_samePairsH ha hb hr da db hits ?_)
  refine wpAny_pure ⟨_, rfl, ?_, ?_⟩
  · exact fun x => nomatch x
  · simpa using h
theorem keq_neH {a b : Addr} {xa xb : List (K × Addr × Value)} {r : Bool} {Q : Value → Shared → Prop} (ha : (a == sysModules) = false) (hb : (b == sysModules) = false)
    (da : s.heap.DictOfH knd a xa) (db : s.heap.DictOfH knd b xb) (hu : A.units < cLine) (hr : knd.room A.in1) (hits : xa.length = xb.length → KeqHits A.in1 s (flatH xb) (flatH xa) r) (h : Q (.bool (!(xa.length == xb.length && r))) s) :
    wpAny (model prog w) A (compareOp .NotEq (.ref a) (.ref b)) Q E s := by
  have ta := Heap.DictOfH.tyIs da
  have tb := Heap.DictOfH.tyIs db
  refine wpAny_richCompare_same_room (op := .NotEq) ta tb PySem.F.slot_dict_ne (wpAny_call_entry PySem.F.slot_dict_ne ta PySem.F.entry_dict_ne ?_ (PySem.F.args_dict_ne_2 _ _)) hu
  show wpAny _ _ (Builtin.Dict.dictSlotArgs "__ne__" ⟨[.ref a, .ref b], []⟩ >>= _) _ _ s
  refine wpAny_bind ?_
  unfold Builtin.Dict.dictSlotArgs
  refine wpAny_bind (wpAny_notOrdered_dict ta ?_)
  show wpAny _ _ (pure (Value.ref a, Value.ref b)) _ _ s
  refine wpAny_pure ?_
  refine wpAny_bind (wpAny_isInstance (T := "dict") tb PySem.F.sub_dict_dict ?_)
  simp only [Bool.not_true, Bool.false_eq_true, if_false]
  refine wpAny_bind (wpAny_pure (wpAny_bind (wpAny_pure ?_)))
  refine wpAny_bind (keq_samePairsH ha hb hr da db hits ?_)
  refine wpAny_pure ⟨_, rfl, ?_, ?_⟩
  · exact fun x => nomatch x
  · simpa using h
end
end PySem.W
namespace Tr
open PySem PySem.Spec PyProof.Rows L2
section
variable {X : Cx}
def deqT (ls : List (List Key × D)) : List (List Key × D) → Option Bool
  | [] => some true
  | (k, d) :: r => match getG ls k with
    | none => some false
    | some e => match deq 59 d e, deqT ls r with
      | some a, some b => some (a && b)
      | _, _ => none
theorem KT.valO {H : Hp} {kvs : List (List Key × V)} {xs : List (List Key × Addr × Value)} (r : KT H kvs xs) (k : List Key) : RelO (valV kvs k) (valueAt (PySem.W.flatH xs) k) := by
  rw [PySem.W.flatH_val]; exact r.val k
theorem hits_ofT {pins : List (Addr × Obj)} {σ : L2.St} {F H : Hp} {s : Shared} (I : Inv X pins σ H s) (sb : Sb F H) {A : Around} (hu : A.units + 59 < cLine) {es2 : List (List Key × V)} {ls : List (List Key × D)} {xb : List (List Key × Addr × Value)} (r2 : RepT X.K F es2 ls) (kb : KT H es2 xb) :
    ∀ {es1 : List (List Key × V)} {xa : List (List Key × Addr × Value)}, KT H es1 xa → ∀ (ks : List (List Key × D)) (r : Bool), RepT X.K F es1 ks → deqT ls ks = some r → PySem.W.KeqHits A s (PySem.W.flatH xb) (PySem.W.flatH xa) r := by
  intro es1 xa ka
  induction ka with
  | nil =>
    intro ks r r1 h
    cases r1
    cases h
    exact .nil
  | @cons p q ps qs h t ih =>
    intro ks r r1 hq
    obtain ⟨h1, _, h2⟩ := h
    obtain ⟨key, ad, v⟩ := q
    cases r1 with
    | @cons k x _ d kvs qk rv r1 =>
      have h1 : k = key := h1
      subst h1
      have h2 : RelV x v := h2
      unfold deqT at hq
      show PySem.W.KeqHits A s (PySem.W.flatH xb) ((k, v) :: PySem.W.flatH qs) r
      rcases r2.get k with ⟨e1, e2⟩ | ⟨v', e, e1, e2, rr⟩
      · rw [e2] at hq
        cases hq
        refine .miss ?_
        have rr : RelO (none : Option V) (valueAt (PySem.W.flatH xb) k) := by rw [← e1]; exact KT.valO kb k
        revert rr
        cases valueAt (PySem.W.flatH xb) k with
        | none => exact fun _ => rfl
        | some y => exact fun h => (by cases h)
      · rw [e2] at hq
        dsimp only at hq
        have rr2 : RelO (some v') (valueAt (PySem.W.flatH xb) k) := by rw [← e1]; exact KT.valO kb k
        obtain ⟨y, hy, ry⟩ := rr2.some_of
        cases hd : deq 59 d e with
        | none => rw [hd] at hq; cases hq
        | some a =>
          cases hk : deqT ls kvs with
          | none => rw [hd, hk] at hq; cases hq
          | some b =>
            rw [hd, hk] at hq
            cases hq
            exact .hit hy (deq_eqAt I sb 59 A hu _ _ _ _ _ _ _ rv rr h2 ry hd) (ih _ _ r1 hk)
theorem KT.len {H : Hp} {kvs : List (List Key × V)} {xs : List (List Key × Addr × Value)} (r : KT H kvs xs) : kvs.length = xs.length := Paired.length r
def rEqT (K : PySem.W.Frag) (ne : Bool) : R2 := fun x y H Q => ∃ F ks ls r, Sb F H ∧ Rep K F x (.dcT ks) ∧ Rep K F y (.dcT ls) ∧ (ks.length = ls.length → deqT ls ks = some r) ∧ Q (.bl (if ne then !(ks.length == ls.length && r) else (ks.length == ls.length && r))) H
theorem op_eqT2 (hu : X.A.units + 64 < cLine) : OpR X (compareOp .Eq) (rEqT X.K false) := by
  intro pins s σ H x y v u Q I rx ry h
  obtain ⟨F, ks, ls, r, sb, r1, r2, hq, q⟩ := h
  cases r1 with
  | @dcT a es1 _ ha z1 r1 =>
    cases r2 with
    | @dcT b es2 _ hb z2 r2 =>
      obtain rfl : v = Value.ref a := rx
      obtain rfl : u = Value.ref b := ry
      obtain ⟨_, ya, va, ra, da⟩ := dt_rd I.hok (sb.dT ha)
      obtain ⟨_, yb, vb, rb, db⟩ := dt_rd I.hok (sb.dT hb)
      have l1 : va.length = ks.length := by rw [← KT.len ra, r1.length]
      have l2 : vb.length = ls.length := by rw [← KT.len rb, r2.length]
      exact PySem.W.keq_eqH (r := r) ya yb da db (by omega) (by show X.A.units + 1 < cLine; omega) (fun hl => hits_ofT I sb (by show X.A.units + 1 + 59 < cLine; omega) r2 rb ra ks r r1 (hq (by rw [← l1, ← l2]; exact hl)))
        ⟨.bl _, H, I, rfl, by rw [l1, l2]; exact q⟩
theorem op_neT2 (hu : X.A.units + 64 < cLine) : OpR X (compareOp .NotEq) (rEqT X.K true) := by
  intro pins s σ H x y v u Q I rx ry h
  obtain ⟨F, ks, ls, r, sb, r1, r2, hq, q⟩ := h
  cases r1 with
  | @dcT a es1 _ ha z1 r1 =>
    cases r2 with
    | @dcT b es2 _ hb z2 r2 =>
      obtain rfl : v = Value.ref a := rx
      obtain rfl : u = Value.ref b := ry
      obtain ⟨_, ya, va, ra, da⟩ := dt_rd I.hok (sb.dT ha)
      obtain ⟨_, yb, vb, rb, db⟩ := dt_rd I.hok (sb.dT hb)
      have l1 : va.length = ks.length := by rw [← KT.len ra, r1.length]
      have l2 : vb.length = ls.length := by rw [← KT.len rb, r2.length]
      exact PySem.W.keq_neH (r := r) ya yb da db (by omega) (by show X.A.units + 1 < cLine; omega) (fun hl => hits_ofT I sb (by show X.A.units + 1 + 59 < cLine; omega) r2 rb ra ks r r1 (hq (by rw [← l1, ← l2]; exact hl)))
        ⟨.bl _, H, I, rfl, by rw [l1, l2]; exact q⟩
def semEqT (ne : Bool) (d e : D) (P : D → Prop) : Prop := match d, e with
  | .dcT ks, .dcT ls => ∃ r, (ks.length = ls.length → deqT ls ks = some r) ∧ P (.bl (if ne then !(ks.length == ls.length && r) else (ks.length == ls.length && r)))
  | _, _ => False
theorem sem_eqT {K : PySem.W.Frag} (ne : Bool) : SemS K (rEqT K ne) (semEqT ne) := by
  intro F H x y d e P Q sb rx ry hs k
  unfold semEqT at hs
  split at hs
  · obtain ⟨r, hq, h⟩ := hs
    exact ⟨F, _, _, r, sb, rx, ry, hq, k _ _ h fun _ => .bl _⟩
  · exact hs.elim
theorem deqT_self : ∀ (kvs more : List (List Key × D)), ((kvs ++ more).map (·.1)).Nodup → (∀ q ∈ more, deq 59 q.2 q.2 = some true) → deqT (kvs ++ more) more = some true
  | _, [], _, _ => rfl
  | kvs, (k, d) :: r, nd, h => by
    have hk : k ∉ kvs.map (·.1) := fun hm => by
      rw [List.map_append, List.nodup_append] at nd
      exact nd.2.2 _ hm _ (by rw [List.map_cons]; exact List.mem_cons_self) rfl
    have hg : getG (kvs ++ (k, d) :: r) k = some d := by
      clear nd h
      induction kvs with
      | nil => exact getG_pos rfl
      | cons q kvs ih =>
        rw [List.map_cons, List.mem_cons, not_or] at hk
        rw [List.cons_append, getG_neg (fun e => hk.1 e.symm)]
        exact ih hk.2
    have := deqT_self (kvs ++ [(k, d)]) r (by rw [List.append_assoc]; exact nd) fun q hq => h q (List.mem_cons_of_mem _ hq)
    rw [List.append_assoc] at this
    unfold deqT
    rw [hg]
    dsimp only
    rw [h _ List.mem_cons_self, show deqT (kvs ++ (k, d) :: r) r = some true from this]
    rfl
end
end Tr
/-! xs.extend(e); x.clear(), sorted(x) of a held dict whose keys are tuples; x.f moved out; for over what a display makes; repr of a dict whose keys are tuples. -/
namespace Tr
open PySem PySem.Spec PyProof.Rows L2
/-- xs.extend(e) -/
def wExt (i : Nat) (w : WD) : WS := fun ρ E => match nth ρ i with
  | some (.lst _ _) => w ρ fun d ρ' => match nth ρ' i with
    | some (.lst a os) => ∃ ds, d = .lst ds ∧ os.length + ds.length ≤ sizeLine ∧ putC ρ' i (some (.lst a (os ++ ds.map .fz))) E.nx
    | _ => False
  | _ => False
/-- x.clear(), a dict -/
def wClr (i : Nat) : WS := fun ρ E => match nth ρ i with
  | some (.dcT a _) => putC ρ i (some (.dcT a [])) E.nx
  | some (.dct a _) => putC ρ i (some (.dct a [])) E.nx
  | _ => False
def rDClearA : V → List V → Hp → VK → Prop := fun x vs H Q => ∃ a, x = .ref a ∧ vs = [] ∧ ((∃ kvs, H a = some (.dK kvs) ∧ Q .non (upd H a (.dK []))) ∨ ∃ kvs, H a = some (.dT kvs) ∧ Q .non (upd H a (.dT [])))
theorem mt_clearA {X : Cx} : MtR X "dict.clear" rDClearA := by
  intro pins s σ H x vs v us Q I rx rv h
  obtain ⟨a, rfl, rfl, h⟩ := h
  obtain rfl : v = Value.ref a := rx
  have hus := rv.zero
  subst hus
  rcases h with ⟨kvs, e, q⟩ | ⟨kvs, e, q⟩
  · exact d_clear I e fun s' I' => ⟨.non, _, I', rfl, q⟩
  · obtain ⟨z, hd, xs, r, o, es, ep, h1, h2, h3, h4, h5⟩ := (show ObjOk X.prog X.w H s.heap a (.dT kvs) from I.hok _ _ e)
    have l1 : es.size = xs.length := size_of_entries h4
    have l2 : kvs.length = xs.length := Paired.length r
    have hr : s.heap.DictRaw a es ep := ⟨o, h1, h2, h3⟩
    refine call_meetsIn PySem.F.slot_dict_clear hr.typeIs PySem.F.entry_dict_clear (PySem.F.args_dict_clear_1 _) (PySem.meets_dict_clear_raw a) ⟨es, ep, hr, by omega, fun h' dd hs => ?_⟩
    obtain ⟨o', g1, g2, g3⟩ := dd
    exact ⟨.non, _, d_write (t' := s.toks) (ob := .dT []) I (by rw [e]; exact True.intro) hs ⟨_, g1⟩ ⟨Nat.zero_le _, hd, [], .nil, o', #[], ep + 1, g1, g2, g3, rfl, List.nodup_nil⟩, rfl, q⟩
section
variable {X : Cx} {o e : Expr} {i : Nat} {w : WD} {pos apos cpos p : Pos}
theorem xs_ext (ho : PE X o (tVar i)) (he : XE X e w)
    (hbase : attributeBase o "extend" X.env (eval o X.env) = eval o X.env := by rfl)
    (hfew : ((backTo cpos (starEach [e] X.env)).all (fun x => !x.1) && (backToKw cpos (keywordEach [] X.env)).all (fun x => x.1.isSome)
      && decide ([e].length + ([] : List Keyword).length + (if ([] : List Keyword).isEmpty then 0 else 1) < 30)) = true := by rfl)
    (hline : (apos.endLine == cpos.line) = true := by rfl) (hst : starEach [e] X.env = (false, eval e X.env) :: starEach [] X.env := by rfl) (hpl : (backTo cpos (starEach [] X.env)).any (·.1) = false := by rfl)
    (hs : swapsWith (.Call (.Attribute o "extend" apos) [e] [] cpos) none pos.line X.env = pure false := by rfl) : XS X (.Expr (.Call (.Attribute o "extend" apos) [e] [] cpos) pos) (wExt i w) :=
  ⟨fun W tk => PS.imp (ps_expr (pe_bm PySem.F.plainAttrs_list PySem.F.slot_list_extend PySem.F.type_list_extend mt_extend ho (pa_cons he.pe pa_nil hst) hbase hfew hline hst hpl) hs) fun D σ H ⟨ρ, F, E, s, hw, k⟩ => by
    unfold wExt at hw
    cases hn0 : nth ρ i with
    | none => rw [hn0] at hw; exact hw.elim
    | some o0 =>
    rw [hn0] at hw
    cases o0 <;> first
      | (exact hw.elim)
      | skip
    rename_i a0 os0
    obtain ⟨v0, hv0, r0⟩ := s.slot i _ (nth_eq hn0)
    cases r0 with
    | lst h0 _ _ =>
    refine ⟨_, hv0, .inl ⟨rfl, _, .inl (.inl h0)⟩, ρ, F, _, s, hw, fun d ρ1 F1 H1 y p s1 rd f1 => ?_⟩
    cases hn : nth ρ1 i with
    | none => rw [hn] at p; exact p.elim
    | some o1 =>
    rw [hn] at p
    cases o1 <;> first
      | (exact p.elim)
      | skip
    rename_i a os
    obtain ⟨ds, rfl, hlen, p⟩ := p
    obtain ⟨hv, ⟨xs, hx⟩, s2, m2⟩ := (s1.pushD rd).atSlot (nth_eq hn)
    rw [hv0] at hv
    cases hv
    cases rd with
    | @lst b ys _ hF z rl =>
    have q := s2.pop.top
    cases q with
    | lst h z1 r =>
    rw [hx] at h
    cases h
    have n1 := List.nodup_append.mp s2.nd
    have n2 := List.nodup_append.mp n1.2.1
    have eo : O.ownedL (os ++ ds.map O.fz) = O.ownedL os := by rw [O.ownedL_append, O.ownedL_map, List.append_nil]
    obtain ⟨s3, f3⟩ := s2.mutL (os' := os ++ ds.map .fz) (r.append (.of rl)) (by rw [List.length_append, List.length_map]; exact hlen) (fun b hb => by rw [eo] at hb; exact List.mem_append_right _ hb) (by rw [eo]; exact (List.nodup_cons.mp n2.1).2)
    refine ⟨_, _, xs, ys, rfl, rfl, hx, s1.sub.lst hF, by rw [r.length, rl.length]; exact hlen, ?_⟩
    obtain ⟨s4, m4⟩ := s3.set (i := i) hv0
    rw [List.set_set] at s4 m4
    rw [putC_eq] at p
    exact k.nx _ _ _ _ p s4 (f1.trans ((f3.iff (fun b => (m2 b).symm) fun b hb => hb).less m4))⟩
theorem xs_clr (ho : PE X o (tVar i)) (hbase : attributeBase o "clear" X.env (eval o X.env) = eval o X.env := by rfl) (hline : (apos.endLine == cpos.line) = true := by rfl)
    (hs : swapsWith (.Call (.Attribute o "clear" apos) [] [] cpos) none pos.line X.env = pure false := by rfl) : XS X (.Expr (.Call (.Attribute o "clear" apos) [] [] cpos) pos) (wClr i) :=
  ⟨fun W tk => PS.imp (ps_expr (pe_bm0 PySem.F.plainAttrs_dict PySem.F.slot_dict_clear PySem.F.type_dict_clear mt_clearA ho hbase hline) hs) fun D σ H ⟨ρ, F, E, s, hw, k⟩ => by
    unfold wClr at hw
    split at hw
    · rename_i a kvs hn
      obtain ⟨v, hv, s1, m1⟩ := s.take (nth_eq hn)
      have q := s1.top
      cases q with
      | @dcT _ es _ hH z rk =>
      obtain ⟨s2, f2⟩ := s1.mut1 (o' := .dcT a []) (u := .dT []) rfl rfl (.dcT upd_same (Nat.zero_le _) .nil)
      obtain ⟨s3, m3⟩ := s2.set (i := i) hv
      rw [List.set_set] at s3 m3
      rw [putC_eq] at hw
      exact ⟨_, hv, by exact .inr (.inr (.inl ⟨rfl, .inr ⟨_, hH⟩⟩)), a, rfl, rfl, .inr ⟨es, hH, k.nx _ _ _ _ hw s3 ((f2.iff (fun b => m1 b) fun b hb => hb).less m3)⟩⟩
    · rename_i a kvs hn
      obtain ⟨v, hv, s1, m1⟩ := s.take (nth_eq hn)
      have q := s1.top
      cases q with
      | @dct _ es _ hH z rk =>
      obtain ⟨s2, f2⟩ := s1.mut1 (o' := .dct a []) (u := .dK []) rfl rfl (.dct upd_same (Nat.zero_le _) .nil)
      obtain ⟨s3, m3⟩ := s2.set (i := i) hv
      rw [List.set_set] at s3 m3
      rw [putC_eq] at hw
      exact ⟨_, hv, by exact .inr (.inr (.inl ⟨rfl, .inl ⟨_, hH⟩⟩)), a, rfl, rfl, .inl ⟨es, hH, k.nx _ _ _ _ hw s3 ((f2.iff (fun b => m1 b) fun b hb => hb).less m3)⟩⟩
    · exact hw.elim⟩
/-- sorted(x), x a held dict whose keys are tuples -/
def wSortH (i : Nat) : WO := fun ρ P => match nth ρ i with
  | some (.dcT _ kvs) => SortOk (kvs.map fun q => (kT q.1).py) ∧ ∀ a, P (.lst a ((srtL (kvs.map fun q => kT q.1)).map .fz)) ρ
  | _ => False
theorem xo_sortH (hc : X.calm = true) (hu : X.A.units + 64 < cLine) (hg : Gl X "sorted") (hm : X.mg "sorted" = none) (h : PE X e (tVar i))
    (he : starEach [e] X.env = (false, eval e X.env) :: starEach [] X.env := by rfl) (hpl : (backTo pos (starEach [] X.env)).any (·.1) = false := by rfl) : XO X (.Call (.Name "sorted" p) [e] [] pos) (wSortH i) :=
  ⟨PE.imp (pe_callB (cr_sortT hc hu) hg hm (by decide +kernel) (pa_cons h pa_nil he) (by decide) (by decide) he hpl) fun σ H Q ⟨ρ, F, P, s, hw, k⟩ => by
    unfold wSortH at hw
    split at hw
    · rename_i a kvs hn
      obtain ⟨so, hw⟩ := hw
      obtain ⟨v, hv, ro⟩ := s.slot i _ (nth_eq hn)
      cases ro with
      | @dcT _ es _ hx z rk =>
      have ek := rk.keysM
      refine ⟨_, hv, a, es, rfl, .inl hx, ?_, fun p bs hn2 hk => ?_⟩
      · have : (es.map fun q => (kT q.1).py) = kvs.map fun q => (kT q.1).py := by
          have := congrArg (List.map fun k => (kT k).py) ek
          rwa [List.map_map, List.map_map] at this
        rw [this]; exact so
      · have lb : bs.length = (es.map (·.1)).length := by rw [List.length_map]; exact (Paired.length hk).symm
        have es2 : (srtD (keysAt bs (es.map (·.1)))).map (·.2) = srtL (kvs.map fun q => kT q.1) := by
          rw [srtD_snd, keysAt_snd lb, ek, List.map_map]; rfl
        obtain ⟨s1, f1, g1⟩ := s.addTs (isKeys_zip hk)
        have r2 := keys_rep (kvs := []) (rk.mono' (f1 []).fz) hk g1
        have rep : ∀ q ∈ keysAt bs (es.map (·.1)), Rep X.K (addTs F (bs.zip (es.map fun e => e.1.map kV))) q.1 q.2 := by
          have e : keysAt bs (es.map (·.1)) = (bs.map V.ref).zip (kvs.map fun q => kT q.1) := by
            unfold keysAt; rw [ek, List.map_map]; rfl
          rw [e]
          exact zip_repl r2
        have rl : RepL X.K (addTs F (bs.zip (es.map fun e => e.1.map kV))) ((srtD (keysAt bs (es.map (·.1)))).map (·.1)) (srtL (kvs.map fun q => kT q.1)) := by
          rw [← es2]
          exact repl_of_mem fun q hq => rep q (List.mem_mergeSort.mp hq)
        obtain ⟨s2, f2⟩ := Res.lst (K := X.K) hn2 (by rw [List.length_mergeSort, List.length_map]; exact z) rl ρ σ s1
        exact k _ _ _ _ _ (hw p) s2 ((f1 _).trans f2)
    · exact hw.elim⟩
end
/-- x.f, moved out -/
def wMvA (c : Addr) (ns : List Str) (j i : Nat) : WO := fun ρ P => match nth ρ i with
  | some (.ins a dx C fs) => C = c ∧ fs.map (·.1) = ns ∧ ∃ p, fs[j]? = some p ∧ putC ρ i (some (.ins a dx C (fs.set j (p.1, p.2.stub)))) (P p.2)
  | _ => False
theorem xo_mvA {X : Cx} {o : Expr} {f : Str} {pos : Pos} {c : Addr} {ns : List Str} {j i : Nat} (hf : FldOk X.K c ns j f) (ho : PE X o (tVar i)) (hb : attributeBase o f X.env (eval o X.env) = eval o X.env := by rfl) : XO X (.Attribute o f pos) (wMvA c ns j i) :=
  ⟨PE.imp (pe_fld ho hb) fun σ H Q ⟨ρ, F, P, s, hw, k⟩ => by
    unfold wMvA at hw
    split at hw
    · rename_i a dx C fs hn
      obtain ⟨rfl, hk, p, hp, h⟩ := hw
      obtain ⟨es, v, hv, hH, hke, he, s1, m1⟩ := s.takeA (nth_eq hn) hp
      rw [key_at hk hf.at_ hp] at he
      rw [putC_eq] at h
      exact ⟨_, hv, a, C, dx, es, v, rfl, hH, hf.cls, hf.no, lookup_at (hke.trans hk) hf.nd hf.at_ he, k _ _ _ _ _ h s1 (Frm.refl.less fun b hb => (m1 b).mpr hb)⟩
    · exact hw.elim⟩
end Tr
/-! repr of a dict whose keys are tuples; for over what a display makes. -/
namespace Tr
open PySem PySem.Spec PyProof.Rows L2
mutual
/-- made of tuples, no list, no dict -/
def tupOnly : PyData → Bool
  | .list _ => false
  | .dict _ => false
  | .tuple xs => tupOnlyL xs
  | _ => true
def tupOnlyL : List PyData → Bool
  | [] => true
  | d :: ds => tupOnly d && tupOnlyL ds
end
theorem reads_nil {h : Heap} : ∀ (d : PyData) (v : Value) (as : List Addr), Reads h v d as → tupOnly d = true → as = [] := by
  intro d v as r
  exact Reads.rec (motive_1 := fun _ d as _ => tupOnly d = true → as = []) (motive_2 := fun _ ds as _ => tupOnlyL ds = true → as = [])
    (fun _ => rfl) (fun _ _ => rfl) (fun _ _ _ => rfl) (fun _ _ _ => rfl)
    (fun _ _ _ _ _ h => by cases h) (fun _ _ _ _ ih h => ih h) (fun _ _ _ _ _ _ _ h => by cases h)
    (fun _ => rfl) (fun _ _ ih1 ih2 h => by
      have h := Bool.and_eq_true _ _ ▸ (show (tupOnly _ && tupOnlyL _) = true from h)
      rw [ih1 h.1, ih2 h.2]; rfl) r
theorem tupOnly_keys : ∀ k : List Key, tupOnlyL (D.pyL (k.map kD)) = true
  | [] => rfl
  | .inl i :: k => by
    show (true && tupOnlyL (D.pyL (k.map kD))) = true
    rw [tupOnly_keys k]; rfl
  | .inr z :: k => by
    show (true && tupOnlyL (D.pyL (k.map kD))) = true
    rw [tupOnly_keys k]; rfl
theorem dp_key {K : PySem.W.Frag} {H : Hp} {b : Addr} {k : List Key} (hb : H b = some (.tup (k.map kV))) : Dp K H (.ref b) (kT k).py := by
  refine Dp.tup (.inl (.inl hb)) ?_
  show DpAll K H (k.map kV) (D.pyL (k.map kD))
  clear hb
  induction k with
  | nil => exact .nil
  | cons x k ih =>
    refine .cons ?_ ih
    cases x with
    | inl i => exact .int i
    | inr z => exact .str z
def pyT (kvs : List (List Key × D)) : PyData := .dict (kvs.map fun q => ((kT q.1).py, q.2.py))
structure ReprT (kvs : List (List Key × D)) : Prop where
  vals : ∀ q ∈ kvs, q.2.plain = true ∧ tupOnly q.2.py = true
  show_ : (pyT kvs).showable = true
  dep : (pyT kvs).depth ≤ 20
  len : (pyT kvs).shown.length ≤ sizeLine
def rReprT (K : PySem.W.Frag) : List V → Hp → VK → Prop := fun xs H Q => ∃ (a : Addr) (es : List (List Key × V)) (kvs : List (List Key × D)), xs = [.ref a] ∧ Rd H a (.dT es) ∧ es.map (·.1) = kvs.map (·.1) ∧ DpAll K H (es.map (·.2)) (kvs.map fun q => q.2.py) ∧ ReprT kvs ∧ Q (.str (pyT kvs).shown) H
section
variable {X : Cx}
theorem readsAll_nil {h : Heap} : ∀ {ds : List PyData} {vs : List Value} {as : List Addr}, ReadsAll h vs ds as → (∀ d ∈ ds, tupOnly d = true) → as = []
  | [], _, _, r, _ => by cases r; rfl
  | d :: ds, _, _, r, h => by
    cases r with
    | cons h1 h2 => rw [reads_nil _ _ _ h1 (h d List.mem_cons_self), readsAll_nil h2 fun e he => h e (List.mem_cons_of_mem _ he)]; rfl
theorem call_reprT (hg : X.A.guards = some []) (hu : X.A.units + 64 < cLine) : CallR X (.builtin "repr") (rReprT X.K) := by
  intro pins s σ H xs us Q I r h
  obtain ⟨a, es, kvs, rfl, hd, ek, hv, ok, q⟩ := h
  obtain ⟨u, rfl, ru⟩ := vals1 r
  cases ru
  obtain ⟨z, hsm, ys, pr, o, en, ep, ho, hx, hdt, he, hn⟩ := (show ObjOk X.prog X.w H s.heap a (.dT es) from hd.ok I.hok)
  have hkeys : ∃ as, ReadsAll s.heap (en.toList.map (·.key)) (kvs.map fun q => (kT q.1).py) as := by
    rw [he]
    have gen : ∀ {es : List (List Key × V)} {ys : List (List Key × Addr × Value)} {kvs : List (List Key × D)}, Paired (fun (p : List Key × V) (q : List Key × Addr × Value) => p.1 = q.1 ∧ H q.2.1 = some (.tup (p.1.map kV)) ∧ RelV p.2 q.2.2) es ys → es.map (·.1) = kvs.map (·.1) →
        ∃ as, ReadsAll s.heap ((ys.map (entryOfKey (tupleKind (mixKind X.prog X.w)))).map (·.key)) (kvs.map fun q => (kT q.1).py) as := by
      intro es ys kvs pr
      induction pr generalizing kvs with
      | nil =>
        intro h
        cases kvs with
        | nil => exact ⟨_, .nil⟩
        | cons q r => cases h
      | @cons p q ps qs h t ih =>
        intro e
        cases kvs with
        | nil => cases e
        | cons kq kr =>
          rw [List.map_cons, List.map_cons] at e
          injection e with e1 e2
          obtain ⟨as, r2⟩ := ih e2
          obtain ⟨h1, h2, _⟩ := h
          obtain ⟨bs, r1⟩ := Dp.reads I _ _ (Value.ref q.2.1) (dp_key (K := X.K) h2) rfl
          have e1 : p.1 = kq.1 := e1
          rw [e1] at r1
          exact ⟨_, .cons r1 r2⟩
    exact gen pr ek
  have hvals : ∃ as, ReadsAll s.heap (en.toList.map (·.val)) (kvs.map fun q => q.2.py) as := by
    have rel : Vals (es.map (·.2)) (en.toList.map (·.val)) := by
      rw [he]
      clear he hv ek hn z ok hkeys hdt hx hd
      induction pr with
      | nil => exact .nil
      | cons h t ih => exact .cons h.2.2 ih
    exact Dp.readsAll I _ _ _ hv rel
  obtain ⟨as, r1⟩ := hkeys
  obtain ⟨bs, r2⟩ := hvals
  have ea : as = [] := readsAll_nil r1 fun d hd => by
    obtain ⟨q, _, rfl⟩ := List.mem_map.mp hd
    exact tupOnly_keys q.1
  have eb : bs = [] := readsAll_nil r2 fun d hd => by
    obtain ⟨q, hq, rfl⟩ := List.mem_map.mp hd
    exact (ok.vals q hq).2
  subst ea eb
  have rd : Reads s.heap (.ref a) (pyT kvs) (a :: [] ++ []) := by
    refine .dict ho hx.1 hdt ?_ ?_
    · rw [List.map_map]; exact r1
    · rw [List.map_map]; exact r2
  have hna : sysModules ∉ (a :: [] ++ [] : List Addr) := fun hm => by
    have hm : sysModules = a := by simpa using hm
    rw [← hm] at hsm
    simp at hsm
  exact repr_of_reads' rd ok.show_ (fun _ => hna) hg (by have := ok.dep; omega) (fun _ _ e => e) (fun h' t tk hk => ⟨.str (pyT kvs).shown, H, I.kept hk, ⟨t, rfl⟩, q⟩) ok.len
theorem RepT.dpv {K : PySem.W.Frag} {F H : Hp} (sb : Sb F H) : ∀ {es : List (List Key × V)} {kvs : List (List Key × D)}, RepT K F es kvs → (∀ q ∈ kvs, q.2.plain = true) → DpAll K H (es.map (·.2)) (kvs.map fun q => q.2.py)
  | _, _, .nil, _ => .nil
  | _, _, .cons q h r, hp => .cons (h.dp sb (hp _ List.mem_cons_self)) (RepT.dpv sb r fun p hq => hp p (List.mem_cons_of_mem _ hq))
def semReprT (d : D) (P : D → Prop) : Prop := match d with
  | .dcT kvs => ReprT kvs ∧ P (.str (pyT kvs).shown)
  | _ => False
theorem xe_reprT {e : Expr} {p pos : Pos} {w : WD} (hgd : X.A.guards = some []) (hu : X.A.units + 64 < cLine) (hg : Gl X "repr") (hm : X.mg "repr" = none) (ha : XE X e w)
    (he : starEach [e] X.env = (false, eval e X.env) :: starEach [] X.env := by rfl) (hpl : (backTo pos (starEach [] X.env)).any (·.1) = false := by rfl) : XE X (.Call (.Name "repr" p) [e] [] pos) (wC1 semReprT w) :=
  ⟨PE.imp (pe_callB (call_reprT hgd hu) hg hm (by decide +kernel) (pa_cons ha.pe pa_nil he) (by decide) (by decide) he hpl) fun σ H Q ⟨ρ, F, P, s, hw, k⟩ =>
    ⟨ρ, F, _, s, hw, fun d ρ' F' H' v q s' r f => by
      unfold semReprT at q
      split at q
      · obtain ⟨ok, q⟩ := q
        cases r with
        | @dcT a es _ hF z rk =>
        exact ⟨a, es, _, rfl, s'.sub.dT hF, rk.keysM, rk.dpv s'.sub fun p hp => (ok.vals p hp).1, ok, k _ _ _ _ _ q s' (.str _ ok.len) f⟩
      · exact q.elim⟩⟩
end

/-! ### for over what a display makes: each thing is moved to the target -/
def wForO (i : Nat) (wb : WS) : List O → TEnv → TEnds → Prop
  | [], ρ, E => E.nx ρ
  | o :: os, ρ, E => putC ρ i (some o) fun ρ1 => wb ρ1 (E.lp fun ρ2 => wForO i wb os ρ2 E)
def wForMv (i : Nat) (wi : WO) (wb : WS) : WS := fun ρ E => wi ρ fun o ρ1 => match o with
  | .lst _ os => wForO i wb os ρ1 E
  | _ => False
theorem ownedE_oss : ∀ (os : List O) (ρ : TEnv), ownedE (os.map some ++ ρ) = O.ownedL os ++ ownedE ρ
  | [], _ => rfl
  | o :: os, ρ => by
    show o.owned ++ ownedE (os.map some ++ ρ) = (o.owned ++ O.ownedL os) ++ ownedE ρ
    rw [ownedE_oss os ρ, List.append_assoc]
section
variable {K : PySem.W.Frag} {F H F' H' : Hp} {ρ ρ' : TEnv} {σ σ' : L2.St}
/-- a list's things, each by itself -/
theorem SR.opened {a : Addr} {os : List O} (s : SR K (some (.lst a os) :: ρ) (some (.ref a) :: σ) F H) : ∃ xs, H a = some (.lst xs) ∧ xs.length = os.length ∧ SR K (os.map some ++ ρ) (xs.map some ++ σ) (upd F a (.lst xs)) H ∧
    Frm (ownedE (some (.lst a os) :: ρ)) F H (ownedE (os.map some ++ ρ)) (upd F a (.lst xs)) H := by
  have q := s.top
  cases q with
  | @lst _ xs _ hH z r =>
  have fa : F a = none := s.own a (List.mem_append_left _ List.mem_cons_self)
  have nd : ((a :: O.ownedL os) ++ ownedE ρ).Nodup := s.nd
  have nd := List.nodup_cons.mp nd
  have su : Sub F (upd F a (.lst xs)) := fun b u e => by rw [upd_ne (ne_of_none e fa)]; exact e
  refine ⟨xs, hH, r.length, ⟨fun b u e => ?_, by
      have := s.len
      rw [List.length_append, List.length_append, List.length_map, List.length_map, r.length]
      simpa using this, fun m u e => ?_, fun b hb => ?_, by rw [ownedE_oss]; exact nd.2⟩, su, fun b u hb _ hf e => ⟨e, ?_⟩, fun b hb => ?_, fun b u e => ⟨u, e⟩, fun _ _ _ h => h⟩
  · by_cases c : b = a
    · subst c
      rw [upd_same] at e
      rw [← Option.some.inj e]
      exact .inl hH
    · rw [upd_ne c] at e
      exact s.sub b u e
  · by_cases hm : m < os.length
    · rw [List.getElem?_append_left (by rw [List.length_map]; exact hm), List.getElem?_map] at e
      obtain ⟨o, ho, e⟩ := Option.map_eq_some_iff.mp e
      cases e
      obtain ⟨v, hv, rv⟩ := r.get ho
      exact ⟨v, by rw [List.getElem?_append_left (by rw [List.length_map, r.length]; exact hm), List.getElem?_map, hv]; rfl, rv.mono su fun _ _ _ h => h⟩
    · rw [List.getElem?_append_right (by rw [List.length_map]; omega), List.length_map] at e
      obtain ⟨v, hv, rv⟩ := s.pop.slot _ _ e
      exact ⟨v, by rw [List.getElem?_append_right (by rw [List.length_map, r.length]; omega), List.length_map, r.length]; exact hv, rv.mono su fun _ _ _ h => h⟩
  · rw [ownedE_oss] at hb
    have : b ≠ a := fun c => nd.1 (by rw [← c]; exact hb)
    rw [upd_ne this]
    exact s.own b (by show b ∈ (a :: O.ownedL os) ++ ownedE ρ; exact List.mem_cons_of_mem _ hb)
  · have : b ≠ a := fun c => hb (by rw [c]; exact List.mem_append_left _ List.mem_cons_self)
    rw [upd_ne this]; exact hf
  · rw [ownedE_oss] at hb
    exact .inl (show b ∈ (a :: O.ownedL os) ++ ownedE ρ from List.mem_cons_of_mem _ hb)
theorem SR.pops : ∀ {os : List O} {xs : List V}, xs.length = os.length → SR K (os.map some ++ ρ) (xs.map some ++ σ) F H → SR K ρ σ F H
  | [], [], _, s => s
  | _ :: os, _ :: xs, h, s => SR.pops (os := os) (xs := xs) (by simpa using h) (SR.pop s)
theorem SR.frames : ∀ {os : List O} {xs : List V}, xs.length = os.length → SR K (os.map some ++ ρ) (xs.map some ++ σ) F H → SR K ρ' σ' F' H' → Frm (ownedE ρ) F H (ownedE ρ') F' H' → SR K (os.map some ++ ρ') (xs.map some ++ σ') F' H' ∧ Frm (ownedE (os.map some ++ ρ)) F H (ownedE (os.map some ++ ρ')) F' H'
  | [], [], _, _, s', f => ⟨s', f⟩
  | o :: os, x :: xs, h, s, s', f => by
    obtain ⟨s1, f1⟩ := SR.frames (os := os) (xs := xs) (by simpa using h) (SR.pop s) s' f
    exact SR.frame s s1 f1
end
section
variable {X : Cx} {tg it : Expr} {body : List Stmt} {wi : WO} {wb : WS} {i : Nat} {pos : Pos}
theorem xs_forMv (hp : PassesOwn (model X.prog X.w) X.A X.env X.xe) (hc : X.calm = true) (hi : XO X it wi) (hg : PG X tg (gName i)) (hb : XSs X body wb) (hs : ∀ x, foldedSetIterable it X.env x = pure x := by intro _; rfl) : XS X (.For tg it body [] pos) (wForMv i wi wb) :=
  ⟨fun W tk => PS.imp (ps_for hp hc (pi_list hi.pe) hg (hb.ps W tk) hs) fun Dn σ H ⟨ρ, F, E, s, hw, k⟩ =>
    ⟨ρ, F, _, s, hw, fun o ρ1 F1 H1 v p s1 f1 => by
      cases o <;> first
        | (exact p.elim)
        | skip
      rename_i a os
      have p : wForO i wb os ρ1 E := p
      have ev : v = .ref a := by
        have q := s1.top
        cases q; rfl
      subst ev
      obtain ⟨xs, hH, hlx, s2, f2⟩ := s1.opened
      have f12 := f1.trans f2
      refine ⟨a, rfl, ⟨xs, .inl (.inl hH)⟩, fun n m σ' H' => m = os.length - n ∧ n ≤ os.length ∧ ∃ ρ' F', SR X.K ((os.drop n).map some ++ ρ') ((xs.drop n).map some ++ σ') F' H' ∧ F' a = some (.lst xs) ∧ Frm (ownedE (os.map some ++ ρ1)) (upd F1 a (.lst xs)) H1 (ownedE ((os.drop n).map some ++ ρ')) F' H' ∧ wForO i wb (os.drop n) ρ' E,
        ⟨_, rfl, Nat.zero_le _, ρ1, _, s2, upd_same, .refl, p⟩, ?_⟩
      rintro n m σ' H' ⟨rfl, hn, ρ', F', s', hF', f', p'⟩
      have hHa : H' a = some (.lst xs) := s'.sub.lst hF'
      by_cases hlt : n < os.length
      · have hx : xs[n]? = some (xs[n]'(by omega)) := List.getElem?_eq_getElem _
        refine .inr ⟨⟨xs, _, .inl (.inl hHa), hx⟩, fun σ2 H2 => ∃ ρ2 F2, SR X.K ((os.drop (n + 1)).map some ++ ρ2) ((xs.drop (n + 1)).map some ++ σ2) F2 H2 ∧ F2 a = some (.lst xs) ∧ Frm (ownedE (os.map some ++ ρ1)) (upd F1 a (.lst xs)) H1 (ownedE ((os.drop (n + 1)).map some ++ ρ2)) F2 H2 ∧ wForO i wb (os.drop (n + 1)) ρ2 E,
          fun σ2 H2 ⟨ρ2, F2, g1, g2, g3, g4⟩ => ⟨_, by omega, rfl, hlt, ρ2, F2, g1, g2, g3, g4⟩, fun x H2 hy => ?_⟩
        obtain ⟨rfl, hy⟩ := hy
        have hxx := hy xs (.inl (.inl hHa))
        rw [hx] at hxx
        have hxx := Option.some.inj hxx
        have eo : os.drop n = os[n] :: os.drop (n + 1) := List.drop_eq_getElem_cons hlt
        have ex : xs.drop n = x :: xs.drop (n + 1) := by rw [List.drop_eq_getElem_cons (by omega), hxx]
        rw [eo] at s' f' p'
        rw [ex] at s'
        have p' : putC ρ' i (some os[n]) fun ρ1 => wb ρ1 (E.lp fun ρ2 => wForO i wb (os.drop (n + 1)) ρ2 E) := p'
        rw [putC_eq] at p'
        have hl2 : (xs.drop (n + 1)).length = (os.drop (n + 1)).length := by rw [List.length_drop, List.length_drop, hlx]
        obtain ⟨s3, m3⟩ := SR.store (i := (os.drop (n + 1)).length + i) (show SR X.K (some os[n] :: ((os.drop (n + 1)).map some ++ ρ')) (some x :: ((xs.drop (n + 1)).map some ++ σ')) F' H2 from s')
        have e1 : ((os.drop (n + 1)).map some ++ ρ').set ((os.drop (n + 1)).length + i) (some os[n]) = (os.drop (n + 1)).map some ++ ρ'.set i (some os[n]) := by
          rw [List.set_append_right _ _ (by rw [List.length_map]; exact Nat.le_add_right _ _), List.length_map, Nat.add_sub_cancel_left]
        have e2 : ((xs.drop (n + 1)).map some ++ σ').set ((os.drop (n + 1)).length + i) (some x) = (xs.drop (n + 1)).map some ++ σ'.set i (some x) := by
          rw [List.set_append_right _ _ (by rw [List.length_map, hl2]; exact Nat.le_add_right _ _), List.length_map, hl2, Nat.add_sub_cancel_left]
        rw [e1, e2] at s3
        rw [e1] at m3
        have f3 := f'.less m3
        have s4 := SR.pops hl2 s3
        have go : ∀ {ρ4 σ4 F4 H4}, SR X.K ρ4 σ4 F4 H4 → Frm (ownedE (ρ'.set i (some os[n]))) F' H2 (ownedE ρ4) F4 H4 → SR X.K ((os.drop (n + 1)).map some ++ ρ4) ((xs.drop (n + 1)).map some ++ σ4) F4 H4 ∧ Frm (ownedE (os.map some ++ ρ1)) (upd F1 a (.lst xs)) H1 (ownedE ((os.drop (n + 1)).map some ++ ρ4)) F4 H4 := fun s5 f5 => by
          obtain ⟨s6, f6⟩ := SR.frames hl2 s3 s5 f5
          exact ⟨s6, f3.trans f6⟩
        have sub1 : ∀ {ρ4 : TEnv} (b), b ∈ ownedE ρ4 → b ∈ ownedE ((os.drop (n + 1)).map some ++ ρ4) := fun b hb => by
          rw [ownedE_oss]; exact List.mem_append_right _ hb
        refine ⟨_, F', _, s4, p', ?_⟩
        refine ⟨fun ρ4 σ4 F4 H4 p4 s5 f5 => ?_, fun o ρ4 σ4 F4 H4 v p4 s5 f5 => ?_, fun ρ4 σ4 F4 H4 p4 s5 f5 => ?_, fun ρ4 σ4 F4 H4 p4 s5 f5 => ?_, fun ex ρ4 σ4 F4 H4 cls d p4 s5 r5 f5 => ?_⟩
        · obtain ⟨g1, g2⟩ := go s5 f5
          exact ⟨ρ4, F4, g1, f5.fz _ _ hF', g2, p4⟩
        · obtain ⟨g1, g2⟩ := go s5 f5
          exact k.rt _ _ _ _ _ _ p4 s5 (f12.trans (g2.less fun b hb => sub1 b hb))
        · obtain ⟨g1, g2⟩ := go s5 f5
          exact k.nx _ _ _ _ p4 s5 (f12.trans (g2.less fun b hb => sub1 b hb))
        · obtain ⟨g1, g2⟩ := go s5 f5
          exact ⟨ρ4, F4, g1, f5.fz _ _ hF', g2, p4⟩
        · obtain ⟨g1, g2⟩ := go s5 f5
          exact k.xc _ _ _ _ _ _ _ p4 s5 r5 (f12.trans (g2.less fun b hb => sub1 b hb))
      · have e : n = os.length := by omega
        subst e
        have ed : os.drop os.length = [] := List.drop_length
        have edx : xs.drop os.length = [] := by rw [← hlx]; exact List.drop_length
        rw [ed] at s' f' p'
        rw [edx] at s'
        exact .inl ⟨⟨xs, .inl (.inl hHa), by omega⟩, k.nx _ _ _ _ p' s' (f12.trans f')⟩⟩⟩
end
end Tr
/-! A raise that no run comes to. -/
namespace Tr
open PySem PySem.Spec PyProof.Rows L2
def wNever : WS := fun _ _ => False
theorem xs_never {X : Cx} {st : Stmt} : XS X st wNever := ⟨fun W tk => PS.imp ps_never fun _ _ _ ⟨_, _, _, _, hw, _⟩ => hw⟩
end Tr
/-! None in a list of Nones and numbers. -/
namespace Tr
open PySem PySem.Spec PyProof.Rows L2
section
variable {X : Cx} {K : PySem.W.Frag}
def D.nOrI : D → Bool
  | .non => true
  | .int _ => true
  | _ => false
def semNoneInI (d e : D) (P : D → Prop) : Prop := match d, e with
  | .non, .lst ds => ds.all D.nOrI = true ∧ P (.bl (ds.any D.isN))
  | _, _ => False
def rNoneInI (K : PySem.W.Frag) : R2 := fun x y H Q => ∃ F q xs ds, Sb F H ∧ x = .non ∧ y = .ref q ∧ SqL K H q xs ∧ RepL K F xs ds ∧ ds.all D.nOrI = true ∧ Q (.bl (ds.any D.isN)) H
/-- isinstance(e, dict), e a dict whose keys are tuples -/
def wIsiT (w : WD) : WD := fun ρ P => w ρ fun d ρ' => match d with
  | .dcT _ => P (.bl true) ρ'
  | _ => False
theorem nInI_any {F : Hp} : ∀ {xs : List V} {us : List Value} {ds : List D}, Vals xs us → RepL K F xs ds → ds.all D.nOrI = true → us.any PySem.Numpy.isNone = ds.any D.isN
  | _, _, _, .nil, .nil, _ => rfl
  | _, _, _, .cons r t, .cons h rl, f => by
    rw [List.all_cons, Bool.and_eq_true] at f
    rw [List.any_cons, List.any_cons, nInI_any t rl f.2]
    cases h <;> first
      | (cases f.1; done)
      | (cases r; rfl)
      | (obtain ⟨_, rfl⟩ := r; rfl)
theorem nInI_eq {F H : Hp} {pins : List (Addr × Obj)} {σ : L2.St} {s : Shared} (I : Inv X pins σ H s) (sb : Sb F H) {A : Around} (hu : A.units + 59 < cLine) : ∀ {xs : List V} {us : List Value} {ds : List D}, Vals xs us → RepL X.K F xs ds → ds.all D.nOrI = true → ∀ u ∈ us, SeqAt.EqAt A s u .none (PySem.Numpy.isNone u)
  | _, _, _, .nil, .nil, _ => fun u h => by cases h
  | _, _, _, .cons r t, .cons h rl, f => fun u hu' => by
    rw [List.all_cons, Bool.and_eq_true] at f
    rcases List.mem_cons.mp hu' with e | e
    · subst e
      cases h <;> first
        | (cases f.1; done)
        | skip
      · cases r
        exact SeqAt.EqAt.same _
      · have := deq_eqAt I sb 59 A hu _ _ _ _ false _ _ (.int _) (.non (K := X.K) (F := F)) r (show RelV V.non Value.none from rfl) rfl
        obtain ⟨_, rfl⟩ := r
        exact this
    · exact nInI_eq I sb hu t rl f.2 u e
theorem op_noneInI (hu : X.A.units + 64 < cLine) : OpR X (compareOp .In) (rNoneInI X.K) := by
  intro pins s σ H x y v u Q I rx ry h
  obtain ⟨F, p, xs, ds, sb, rfl, rfl, hq, rl, f, q⟩ := h
  cases rx
  cases ry
  obtain ⟨its, rv, hl, _⟩ := I.list hq
  refine SeqAt.in_listAt PySem.Numpy.isNone hl.isList (fun z hz => nInI_eq I sb (by show X.A.units + 1 + 59 < cLine; omega) rv rl f z (by simpa using hz)) ⟨.bl _, H, I, rfl, ?_⟩
  rw [show its.toArray.any PySem.Numpy.isNone = its.any PySem.Numpy.isNone by simp, nInI_any rv rl f]
  exact q
theorem sem_noneInI : SemS K (rNoneInI K) semNoneInI := by
  intro F H x y d e P Q sb rx ry hs k
  unfold semNoneInI at hs
  split at hs
  · cases rx
    cases ry with
    | lst h1 z r => exact ⟨F, _, _, _, sb, rfl, rfl, .inl (.inl (sb.lst h1)), r, hs.1, k _ _ hs.2 fun _ => .bl _⟩
  · exact hs.elim
def rIsiDT : List V → Hp → VK → Prop := fun xs H Q => ∃ (p : Addr) (kvs : List (List Key × V)), xs = [.ref p, .ty "dict"] ∧ Rd H p (.dT kvs) ∧ Q (.bl true) H
theorem kit_dd (K : PySem.W.Frag) : PySem.W.kitOne K (.type "dict") (.type "dict") = some true := by
  unfold PySem.W.kitOne
  rw [if_pos (by decide)]
theorem call_isiDT : CallR X (.builtin "isinstance") rIsiDT := by
  intro pins s σ H xs us Q I r h
  obtain ⟨p, kvs, rfl, e, q⟩ := h
  obtain ⟨u1, u2, rfl, r1, r2⟩ := vals2 r
  cases (show u2 = Value.type "dict" from r2)
  cases (show u1 = Value.ref p from r1)
  obtain ⟨z, hd, ys, rr, o, es, ep, h1, h2, h3, h4, h5⟩ := (show ObjOk X.prog X.w H s.heap p (.dT kvs) from e.ok I.hok)
  exact PySem.W.kia_one PySem.W.kitx_dict I.kIn ⟨o, h1, h2.1⟩ (kit_dd _) (fun z => nomatch z) fun tk => ⟨.bl true, H, I.tok tk, rfl, q⟩
theorem xe_isiT {x : Str} {p pos pn : Pos} {e : Expr} {w : WD} (hg : Gl X "isinstance") (hm : X.mg "isinstance" = none) (hgT : Gl X x) (hmT : X.mg x = none) (hvT : bootBuiltins x = some (.type PT.dct.nm)) (ha : XB X e w) (hn : x ≠ "__name__" := by decide) (hdb : (x == ("__debug__" : Str)) = false := by decide)
    (he : starEach [e, .Name x pn] X.env = (false, eval e X.env) :: starEach [.Name x pn] X.env := by rfl) (he2 : starEach [.Name x pn] X.env = (false, eval (.Name x pn) X.env) :: starEach [] X.env := by rfl) (hpl : (backTo pos (starEach [.Name x pn] X.env)).any (·.1) = false := by rfl) :
    XE X (.Call (.Name "isinstance" p) [e, .Name x pn] [] pos) (wIsiT w) := by
  have hN : PE X (.Name x pn) (tC (.ty PT.dct.nm)) := pe_bltn hgT hmT hvT rfl hn hdb
  refine ⟨PE.imp (pe_callB call_isiDT hg hm boot_isinstance (pa_cons ha.pe (pa_cons hN pa_nil he2) he) (by decide) (by decide) he hpl) fun σ H Q ⟨ρ, F, P, s, hw, k⟩ => ?_⟩
  refine ⟨ρ, F, _, s, hw, fun d ρ' F' F'' H' v p s' sb su r f => ?_⟩
  split at p
  · cases r with
    | dcT hF _ _ => exact ⟨_, _, rfl, sb.dT hF, k _ _ _ _ _ p s' (.bl true) f⟩
  · exact p.elim
end
end Tr
/-! exceptions: raised, handed on, caught and kept. -/
namespace Tr
open PySem PySem.Spec PyProof.Rows L2
section
variable {X : Cx} {pins : List (Addr × Obj)} {σ : L2.St} {H : Hp} {s : Shared}
/-- a pinned exception, from here on told of by the abstract heap -/
theorem Inv.known {a C : Addr} {oe : Obj} {d : Option Addr} {fv : Array Value} (I : Inv X ((a, oe) :: pins) σ H s) (old : X.s_0.heap.get? a = none) (other : ∀ p ∈ X.pn ++ pins, p.1 ≠ a) (hc : oe.cls = .ref C) (hd : oe.dict = d) (hv : oe.data = .fields fv) :
    Inv X pins σ (upd H a (exH a C d)) s := by
  obtain ⟨there, none_, nloc, nfs, ncell⟩ := I.pin (a, oe) (List.mem_append_right _ List.mem_cons_self)
  have away : ∀ {b : Addr} {o : HO}, H b = some o → b ≠ a := fun h => ne_of_none h none_
  have up : ∀ {b : Addr} {o : HO}, H b = some o → upd H a (exH a C d) b = some o := fun h => by rw [upd_ne (away h)]; exact h
  have gone : ∀ {b : Addr}, b ≠ a → H b = none → upd H a (exH a C d) b = none := fun ne h => by rw [upd_ne ne]; exact h
  refine ⟨I.ok, I.os, I.bare, ⟨I.base.keep, I.base.slot, fun b o e n nx => gone (fun q => ?_) (I.base.free b o e n nx), I.base.there, fun b xs e => up (I.base.tups b xs e), fun b o u e => up (I.base.frzs b o u e), fun b ps e => ?_⟩,
    I.loc, I.cell, gone (Ne.symm nloc) I.free, fun x c e => gone (fun q => ?_) (I.freeC x c e), fun p hp => ?_, fun b o e => ?_, I.len⟩
  · subst q; rw [old] at e; cases e
  · obtain ⟨more, z⟩ := I.base.tbls b ps e
    exact ⟨more, up z⟩
  · subst q
    obtain ⟨v, hcell⟩ := I.cell x c e
    obtain ⟨o, ho, hdata⟩ := hcell
    rw [there] at ho
    cases ho
    exact ncell _ hdata
  · have hp' : p ∈ X.pn ++ (a, oe) :: pins := by
      rcases List.mem_append.mp hp with h | h
      · exact List.mem_append_left _ h
      · exact List.mem_append_right _ (List.mem_cons_of_mem _ h)
    obtain ⟨p1, p2, p3, p4, p5⟩ := I.pin p hp'
    exact ⟨p1, gone (other p hp) p2, p3, p4, p5⟩
  · by_cases q : b = a
    · subst q
      rw [upd_same] at e
      rw [← Option.some.inj e]
      exact ⟨⟨oe, fv, there, ⟨hc, hd⟩, hv⟩, ⟨oe, there⟩, fun h1 h2 ⟨o, v, x, y, z⟩ k => ⟨o, v, k o x, y, z⟩⟩
    · rw [upd_ne q] at e
      exact (I.hok b o e).stay (fun _ _ _ z => z) (fun c hc => up hc) fun c xs hc => up hc
end
/-- try: body / except x as n: m = n — what the clause wishes of an exception of the body -/
def wKeep (K : PySem.W.Frag) (c : Value) (i j : Nat) (D : Ends) : WX := fun cls d σ H =>
  PySem.W.exmOne K cls c = some true ∧ ∃ C, cls = .ref C ∧ ∀ a, H a = none → D.nx (((σ.set i (some (.ref a))).set j (some (.ref a))).set i none) (upd H a (exH a C d))
section
variable {X : Cx} {x n m : Str} {c : Value} {i j : Nat} {body : List Stmt} {np p1 p2 ap pos pos' : Pos} {tb : WX → TS}
theorem ps_try_keep (hs : X.stack = X.env :: X.outer) (hf : X.env.frame = some X.env.locals) (hex : X.ex = []) (hN : X.N.Nodup) (hi : X.N[i]? = some n) (hln : X.env.kindOf n = some .local) (hj : X.N[j]? = some m) (hlm : X.env.kindOf m = some .local) (hc : Names X x c)
    (hsw : swapsWith (.Name n p2) (some (.Name m p1)) ap.line X.env = pure false) (hd1 : (n == ("__debug__" : Str)) = false) (hd2 : (n == ("__classdict__" : Str)) = false)
    (hb : ∀ (W : WX) (pn : List (Addr × Obj)) (xe : Value → Shared → Prop), Takes (X.tr pn xe) W → PassesOwn (model X.prog X.w) X.A X.env xe → PSs (X.tr pn xe) body (tb W)) :
    PS X (.Try body [.ExceptHandler (some (.Name x np)) (some n) [.Assign [.Name m p1] (.Name n p2) ap] pos'] [] [] pos) (fun D σ H => tb (wKeep X.K c i j D) D σ H) := by
  constructor
  intro pins s σ H D I hw
  have okX := I.ok
  have frames : X.A.frames = some (X.env :: X.outer) := by rw [okX.frames, hs]
  let clause : List ExceptHandler := [.ExceptHandler (some (.Name x np)) (some n) [.Assign [.Name m p1] (.Name n p2) ap] pos']
  let after : Value → Shared → Prop := fun e t1 => wpAny (model X.prog X.w) X.A (noteFrame e X.env) (fun _ t2 => wpAny (model X.prog X.w) X.A (setFlight e none)
    (fun _ t3 => wpAny (model X.prog X.w) X.A (handleBy e X.env clause) (SP X pins D) X.xe t3) X.xe t2) X.xe t1
  have caught : Takes (X.tr (X.pn ++ pins) after) (wKeep X.K c i j D) := by
    rintro u t ⟨a, B, tI, pins', σ1, H1, cls, d, rfl, J0, base, upS, air, na, eos, bare, hm, C, rfl, hgo⟩
    have J : Inv X pins σ1 H1 tI := Inv.ofTry J0 okX
    have air : Sky B (X.env :: X.outer) a (L2.Zc (.ref C) d) X.env.locals t.heap := hs ▸ air
    refine Sky.land L2.Zc.steady frames hf air fun h1 fl u1 => ?_
    have J1 : Inv X pins σ1 H1 { t with heap := h1 } := J.landed base fl.1 (upS.trans u1) eos bare
    -- the exception is no frame, and was not there when the body began
    obtain ⟨oe, fv, hget, hz, hdat⟩ := fl.there
    have nframe : a ∉ frs (X.env :: X.outer) := fun hm => by
      obtain ⟨_, o, e, nf⟩ := fl.2.2.1.mem hm
      rw [hget] at e
      cases e
      exact nf _ hdat
    have nloc : a ≠ X.env.locals := fun q => nframe (List.mem_filterMap.mpr ⟨X.env, List.mem_cons_self, by rw [hf, q]⟩)
    have nfs : a ∉ X.fs := fun q => nframe (by
      obtain ⟨e, he, z⟩ := List.mem_filterMap.mp q
      exact List.mem_filterMap.mpr ⟨e, List.mem_cons_of_mem _ he, z⟩)
    have notI : tI.heap.get? a = none := by
      cases q : tI.heap.get? a with
      | none => rfl
      | some o =>
        have z := base a o q (by rw [hs]; exact nframe)
        rw [fl.2.1] at z
        cases z
    have not0 : X.s_0.heap.get? a = none := by
      cases q : X.s_0.heap.get? a with
      | none => rfl
      | some o =>
        obtain ⟨o', z⟩ := J.base.there a o q (by rw [hex]; simp)
        rw [notI] at z
        cases z
    have other : ∀ p ∈ X.pn ++ pins, p.1 ≠ a := fun p hp q => by
      obtain ⟨z, _⟩ := J.pin p hp
      rw [q, notI] at z
      cases z
    have S1 := J1.suite hget hdat na nloc nfs
    refine wpAny_handleBy_cons (codeAny_handlers_test ?_) (by intro q; cases q)
    have ty : PySem.W.Looks (model X.prog X.w) h1 (typeOf (.ref a)) (.ref C) := fun A Q E t k q => wpAny_typeOf_ref (k _ _ hget) (by rw [hz.1]; exact q)
    have hit := PySem.W.exm_one (M := model X.prog X.w) J1.kIn ty hm
    have named : ∀ {Q : Value → Shared → Prop} {E : Value → Shared → Prop}, Q c { t with heap := h1 } → wpAny (model X.prog X.w) (X.A.mark (some (.ref a))) (eval (.Name x np) X.env) Q E { t with heap := h1 } := fun {Q E} q => by
      rcases hc with ⟨g1, g2, g3 | ⟨g3, g4, g5⟩⟩
      · exact ld_glob (X := X.suite a ((a, oe) :: (X.pn ++ pins))) S1 g1 g3 q g2
      · exact ld_blt (X := X.suite a ((a, oe) :: (X.pn ++ pins))) S1 g1 g3 g4 q g5 g2
    refine named (hit.here ?_)
    refine codeAny_handlers_suite_as ?_
    refine HandSPX.lands_againZ fl fun h2 fl2 u2 => ?_
    have J2 : Inv X pins σ1 H1 { t with heap := h2 } := J.landed base fl2.1 ((upS.trans u1).trans u2) eos bare
    obtain ⟨oe2, fv2, hget2, hz2, hdat2⟩ := fl2.there
    have S2 := J2.suite hget2 hdat2 na nloc nfs
    refine store_ok (X := X.suite a ((a, oe2) :: (X.pn ++ pins))) (v := .ref a) S2 hN hi (.inl hln) rfl (fun t3 S3 => ?_) (.inr hln)
    have keepN : PSs (X.suite a ((a, oe2) :: (X.pn ++ pins))) [.Assign [.Name m p1] (.Name n p2) ap] (tAsg (tVar i) (gName j)) :=
      pss_one (ps_set (X := X.suite a ((a, oe2) :: (X.pn ++ pins))) hN hj (.inl hlm) (pe_var (X := X.suite a ((a, oe2) :: (X.pn ++ pins))) hi (.inl hln) hd1 hd2) hsw (.inr hlm))
    have il : i < σ1.length := by
      rw [J.len]
      exact (List.getElem?_eq_some_iff.mp hi).1
    have hvar : (σ1.set i (some (V.ref a)))[i]? = some (some (.ref a)) := List.getElem?_set_self il
    let D2 : Ends := { nx := fun σ' H' => D.nx (σ'.set i none) (upd H' a (exH a C d)), rt := fun _ _ => False }
    refine wpAny_mono (keepN.run [] t3 _ H1 D2 S3 ⟨.ref a, hvar, hgo a na⟩) (fun f t4 h4 => ?_) fun _ _ z => z.elim
    cases f with
    | next =>
      obtain ⟨σ4, H4, S4, h4⟩ := h4
      have P4 : Inv X ((a, oe2) :: pins) σ4 H4 t4 := (S4.unsuite okX).pins_of fun p hp => by
        rcases List.mem_cons.mp hp with e | e
        · subst e
          have z := S4.pin (a, oe2) (List.mem_append_left _ List.mem_cons_self)
          exact z
        · exact (S4.unsuite okX).pin p (List.mem_append_right _ e)
      refine gone_ok P4 hN hi hln fun t5 P5 => ?_
      exact ⟨_, _, Tr.Inv.known P5 not0 other hz2.1 hz2.2 hdat2, h4⟩
    | brk => obtain ⟨_, _, _, z⟩ := h4; exact z.elim
    | cont => obtain ⟨_, _, _, z⟩ := h4; exact z.elim
    | ret u => obtain ⟨_, _, _, _, _, z⟩ := h4; exact z.elim
  refine wpAny_Try_except ?_
  refine wpAny_mono ((hb _ _ _ caught PassesOwn.looking).run [] s σ H D (I.toTry _) hw) (fun f t ht => ?_) fun _ _ z => z
  cases f with
  | next => obtain ⟨σ1, H1, J, q⟩ := ht; exact wpAny_execs_nil ⟨σ1, H1, J.ofTry okX, q⟩
  | brk => obtain ⟨σ1, H1, J, q⟩ := ht; exact ⟨σ1, H1, J.ofTry okX, q⟩
  | cont => obtain ⟨σ1, H1, J, q⟩ := ht; exact ⟨σ1, H1, J.ofTry okX, q⟩
  | ret u => obtain ⟨v, σ1, H1, J, r, q⟩ := ht; exact ⟨v, σ1, H1, J.ofTry okX, r, q⟩
end
end Tr
/-! exceptions in the tree layer. -/
namespace Tr
open PySem PySem.Spec PyProof.Rows L2
/-! ### defs that may raise -/
/-- what a def does to things, and what it raises -/
abbrev SpX := List O → (O → List O → Prop) → (Ex → List O → Prop) → Prop
def liftX (K : PySem.W.Frag) (sp : SpX) : Sp := fun vs H Q E => ∃ os F P R, SR K (os.map some) (vs.map some) F H ∧ sp os P R ∧
  (∀ o os' F' H' v, P o os' → SR K (some o :: os'.map some) (some v :: vs.map some) F' H' → Frm (ownedE (os.map some)) F H (ownedE (some o :: os'.map some)) F' H' → Q v H') ∧
  ∀ ex os' F' H' cls d, R ex os' → SR K (os'.map some) (vs.map some) F' H' → ExR K F' ex cls d → Frm (ownedE (os.map some)) F H (ownedE (os'.map some)) F' H' → E cls d H'
/-- the ends of such a def's body -/
def endsX (os : List O) (P : O → List O → Prop) (R : Ex → List O → Prop) : TEnds := { endsOf os P with xc := fun ex ρ' => roots os (Tr.back os ρ') ∧ R ex (Tr.back os ρ') }
section
variable {P : Program} {w : World} {K : PySem.W.Frag} {mg : Str → Option Value} {base : Heap}
/-- THE RULE for a def that may raise -/
theorem fn_treeX {x qual : Str} {st : Stmt} {f : Addr} {fd : FuncData} {N ps : List Str} {k : Nat} {sp : SpX} {wb : WS} (Fn : Fun K x qual st f fd) (S : FnScope N ps (defScope st)) (len : ∀ os P R, sp os P R → os.length = ps.length)
    (body : ∀ (cdv : Value) (A : Around) (outer : List Env) (s : Shared) (H : Hp) (E : XK), Room k (A.deeper (envOfC qual (defScope st) s.heap.objs.size f cdv)) → XSs (cxOf (L2.CX P w) P w K mg base N qual (defScope st) f cdv A outer s H E) (defBody st) wb)
    (does : ∀ os P R, sp os P R → wb (start0 N.length os) (endsX os P R)) : FnOk P w K mg base (L2.CX P w) (k + 1) f fd ps (liftX K sp) := by
  refine Fn.okX S (fun vs H Q E h => ?_) (fun cdv A outer s H vs Q E hr h => ?_)
  · obtain ⟨os, F, Pp, R, sr, hsp, _⟩ := h
    have l := sr.len
    rw [List.length_map, List.length_map] at l
    rw [← l]
    exact len _ _ _ hsp
  · obtain ⟨os, F, Pp, R, sr, hsp, kk, kx⟩ := h
    have tk : Takes (cxOf (L2.CX P w) P w K mg base N qual (defScope st) f cdv A outer s H E) (fun cls d _ H => E cls d H) := takes_of rfl rfl rfl rfl
    refine ⟨_, (body cdv A outer s H E hr).ps _ tk, ?_⟩
    have l : os.length = vs.length := by simpa using sr.len
    obtain ⟨s0, e0⟩ := sr.start (N.length - vs.length)
    have fin : ∀ {r : O} {ρ' : TEnv} {σ' : L2.St} {F' H' : Hp} {v : V}, roots os (Tr.back os ρ') ∧ Pp r (Tr.back os ρ') → SR K (some r :: ρ') (some v :: σ') F' H' → Frm (ownedE (os.map some)) F H (ownedE (some r :: ρ')) F' H' → Q v H' := fun {r ρ' σ' F' H' v} p s' f' => by
      obtain ⟨sb, mb⟩ := SR.back sr f'.fz s'.pop p.1
      have n := List.nodup_append.mp s'.nd
      refine kk r _ F' H' v p.2 (sb.push s'.top (fun a ha => s'.own a (List.mem_append_left _ ha)) (List.nodup_append.mpr ⟨n.1, sb.nd, fun a ha b hb => n.2.2 a ha b (mb b hb)⟩)) (f'.less fun b hb => ?_)
      rcases List.mem_append.mp hb with h | h
      · exact List.mem_append_left _ h
      · exact List.mem_append_right _ (mb b h)
    have e1 : start0 N.length os = os.map some ++ List.replicate (N.length - vs.length) none := by unfold start0; rw [l]
    refine ⟨start0 N.length os, F, endsX os Pp R, by rw [e1]; exact s0, does _ _ _ hsp, ⟨fun ρ' σ' F' H' p s' f' => ?_, fun o ρ' σ' F' H' v p s' f' => ?_, fun ρ' σ' F' H' p s' f' => p.elim, fun ρ' σ' F' H' p s' f' => p.elim, fun ex ρ' σ' F' H' cls d p s' r f' => ?_⟩⟩
    · rw [e1, e0] at f'
      exact fin p (s'.pushD .non) f'
    · rw [e1, e0] at f'
      exact fin p s' f'
    · rw [e1, e0] at f'
      obtain ⟨sb, mb⟩ := SR.back sr f'.fz s' p.1
      exact kx ex _ F' H' cls d p.2 sb r (f'.less mb)
end
/-! ### expressions that may raise -/
abbrev WOX := TEnv → (O → TEnv → Prop) → (Ex → TEnv → Prop) → Prop
def liftOX (K : PySem.W.Frag) (W : WX) (w : WOX) : TE := fun σ H Q => ∃ ρ F P R, SR K ρ σ F H ∧ w ρ P R ∧ (∀ o ρ' F' H' v, P o ρ' → SR K (some o :: ρ') (some v :: σ) F' H' → Frm (ownedE ρ) F H (ownedE (some o :: ρ')) F' H' → Q v H') ∧
  ∀ ex ρ' F' H' cls d, R ex ρ' → SR K ρ' σ F' H' → ExR K F' ex cls d → Frm (ownedE ρ) F H (ownedE ρ') F' H' → W cls d σ H'
structure XOX (X : Cx) (e : Expr) (w : WOX) : Prop where
  pe : ∀ W, Takes X W → PE X e (liftOX X.K W w)
def wSetX (i : Nat) (w : WOX) : WS := fun ρ E => w ρ (fun o ρ' => putC ρ' i (some o) E.nx) E.xc
def wRetX (w : WOX) : WS := fun ρ E => w ρ (fun o ρ' => E.rt o ρ') E.xc
def wDropX (w : WOX) : WS := fun ρ E => w ρ (fun _ ρ' => E.nx ρ') E.xc
def wCallX (sp : SpX) (wl : WL) : WOX := fun ρ P R => wl ρ fun ds ρ' => sp (ds.map .fz) (fun o _ => P o ρ') fun ex _ => R ex ρ'
def wCallKX (sp : SpX) (m n : Nat) (ix : List Nat) (wl wk : WL) : WOX := fun ρ P R => wl ρ fun ds ρ1 => wk ρ1 fun es ρ2 => ds.length = m ∧ es.length = n ∧ sp ((pickL ix (ds ++ es)).map .fz) (fun o _ => P o ρ2) fun ex _ => R ex ρ2
section
variable {X : Cx} {st : Stmt} {e : Expr} {w : WOX} {i : Nat} {pos : Pos}
theorem xs_setX (h : ∀ W, Takes X W → PS X st (tAsg (liftOX X.K W w) (gName i))) : XS X st (wSetX i w) := ⟨fun W tk => PS.imp (h W tk) fun D σ H ⟨ρ, F, E, s, hw, k⟩ => by
  refine ⟨ρ, F, _, _, s, hw, fun o ρ' F' H' v p s' f => ?_, fun ex ρ' F' H' cls d p s' r f => k.xc _ _ _ _ _ _ _ p s' r f⟩
  obtain ⟨s2, m⟩ := s'.store (i := i)
  rw [putC_eq] at p
  exact k.nx _ _ _ _ p s2 (f.less m)⟩
theorem xs_retX (h : XOX X e w) : XS X (.Return (some e) pos) (wRetX w) := ⟨fun W tk => PS.imp (ps_ret (h.pe W tk)) fun D σ H ⟨ρ, F, E, s, hw, k⟩ =>
  ⟨ρ, F, _, _, s, hw, fun o ρ' F' H' v p s' f => k.rt _ _ _ _ _ _ p s' f, fun ex ρ' F' H' cls d p s' r f => k.xc _ _ _ _ _ _ _ p s' r f⟩⟩
theorem xs_dropX (h : XOX X e w) (hs : swapsWith e none pos.line X.env = pure false := by rfl) : XS X (.Expr e pos) (wDropX w) := ⟨fun W tk => PS.imp (ps_expr (h.pe W tk) hs) fun D σ H ⟨ρ, F, E, s, hw, k⟩ =>
  ⟨ρ, F, _, _, s, hw, fun o ρ' F' H' v p s' f => k.nx _ _ _ _ p s'.pop (f.less fun b hb => List.mem_append_right _ hb), fun ex ρ' F' H' cls d p s' r f => k.xc _ _ _ _ _ _ _ p s' r f⟩⟩
end
section
variable {K : PySem.W.Frag} {ρ : TEnv} {σ : L2.St} {F H : Hp}
/-- such a call with data alone -/
theorem liftX_D {sp : SpX} {vs : List V} {ds : List D} {P : O → Prop} {R : Ex → Prop} {Q : VK} {E : XK} (s : SR K ρ σ F H) (r : RepL K F vs ds) (h : sp (ds.map .fz) (fun o _ => P o) fun ex _ => R ex)
    (k : ∀ o F' H' v, P o → SR K (some o :: ρ) (some v :: σ) F' H' → Frm (ownedE ρ) F H (ownedE (some o :: ρ)) F' H' → Q v H')
    (kx : ∀ ex F' H' cls d, R ex → SR K ρ σ F' H' → ExR K F' ex cls d → Frm (ownedE ρ) F H (ownedE ρ) F' H' → E cls d H') : liftX K sp vs H Q E := by
  refine ⟨ds.map .fz, F, _, _, s.args r, h, fun o os' F' H' v p s' f => ?_, fun ex os' F' H' cls d p s' rx f => ?_⟩
  · rw [ownedE_D] at f
    obtain ⟨s1, n1⟩ := s.out f s'.sub fun _ _ h => by cases h
    have nd := List.nodup_append.mp s'.nd
    refine k o F' H' v p (s1.push s'.top (fun a ha => s'.own a (List.mem_append_left _ ha)) ?_) ⟨f.fz, fun b u _ => f.out b u (by simp), fun b hb => ?_, f.dom, f.lk⟩
    · exact List.nodup_append.mpr ⟨nd.1, s1.nd, fun a ha b hb e => by
        subst e
        exact n1 a hb (List.mem_append_left _ ha)⟩
    · rcases List.mem_append.mp hb with h | h
      · rcases f.new b (List.mem_append_left _ h) with z | z
        · cases z
        · exact .inr z
      · exact .inl h
  · rw [ownedE_D] at f
    obtain ⟨s1, n1⟩ := s.out f s'.sub fun _ _ h => by cases h
    exact kx ex F' H' cls d p s1 rx ⟨f.fz, fun b u _ => f.out b u (by simp), fun b hb => .inl hb, f.dom, f.lk⟩
end
section
variable {X : Cx} {k m : Nat} {f : Addr} {fd : FuncData} {ps ks : List Str} {ix : List Nat} {sp : SpX} {x : Str} {p pos : Pos} {e : Expr} {es : List Expr} {kws : List Keyword} {wl wk : WL}
theorem xox_call (G : FnOk X.prog X.w X.K X.mg X.base (L2.CX X.prog X.w) k f fd ps (liftX X.K sp)) (hr : Room k X.A) (hg : Gl X x) (hm : X.mg x = some (.ref f)) (hk : PySem.W.keepIn X.K (.ref f) = true) (hb : Binds X.K fd ps [])
    (ha : XA X (e :: es) wl) (hdb : (x == ("__debug__" : Str)) = false := by decide) (he : starEach (e :: es) X.env = (false, eval e X.env) :: starEach es X.env := by rfl) (hpl : (backTo pos (starEach es X.env)).any (·.1) = false := by rfl) :
    XOX X (.Call (.Name x p) (e :: es) [] pos) (wCallX sp wl) := ⟨fun W tk => PE.imp (pe_callS (E := fun σ => WE W σ) G hr hg hm hk hb (fun σ => passAt tk σ) ha.pa hdb he hpl) fun σ H Q ⟨ρ, F, P, R, s, hw, k, kx⟩ =>
    ⟨ρ, F, _, s, hw, fun ds ρ1 F1 H1 vs p s1 r1 f1 => liftX_D (P := fun o => P o ρ1) (R := fun ex => R ex ρ1) s1 r1 p (fun o F' H' v p' s' f' => k _ _ _ _ _ p' s' (f1.trans f')) fun ex F' H' cls d p' s' rx f' => kx _ _ _ _ _ _ p' s' rx (f1.trans f')⟩⟩
/-- the callee runs, with keywords -/
theorem run_kwX {E : XK} {pins : List (Addr × Obj)} {σ : L2.St} {H : Hp} {s : Shared} {Q : VK} {us ws : List Value} {vs zs : List V} {sp : Sp} {CX : CXT} (G : FnOk X.prog X.w X.K X.mg X.base CX k f fd ps sp) (hr : Room k X.A) (hb : KwB X.K fd ps ks m ix) (hx : PassesAt CX X σ E)
    (I : Inv X pins σ H s) (r : Vals vs us) (rz : Vals zs ws) (l1 : vs.length = m) (l2 : zs.length = ks.length) (h : sp (pickL ix (vs ++ zs)) H Q E) : wpAny (model X.prog X.w) X.A (call (.ref f) us (ks.zip ws)) (EP X pins σ Q) X.xe s := by
  have n1 : us.length = m := by rw [← r.length, l1]
  have n2 : ws.length = ks.length := by rw [← rz.length, l2]
  refine wpAny_call (codeAny_mono (G.run X.A X.stack s H ⟨us, ks.zip ws⟩ (pickL ix (us ++ ws)) (pickL ix (vs ++ zs)) Q E hr I.env0 (hb.to s us ws I.kIn n1 n2) (pick_vals (r.append rz) ix) h) fun res s' hq => ?_)
  cases res with
  | error er => exact hx pins H s er s' I hq
  | ok fl => cases fl with
    | ret u => exact I.after hq
    | _ => exact False.elim hq
theorem xox_callK (G : FnOk X.prog X.w X.K X.mg X.base (L2.CX X.prog X.w) k f fd ps (liftX X.K sp)) (hr : Room k X.A) (hg : Gl X x) (hm : X.mg x = some (.ref f)) (hk : PySem.W.keepIn X.K (.ref f) = true) (hb : KwB X.K fd ps ks m ix)
    (ha : XA X (e :: es) wl) (hkw : XKw X kws wk) (hall : (backToKw pos (keywordEach kws X.env)).all (·.1.isSome) = true := by rfl) (hks : (backToKw pos (keywordEach kws X.env)).filterMap (·.1) = ks := by rfl)
    (hdb : (x == ("__debug__" : Str)) = false := by decide) (he : starEach (e :: es) X.env = (false, eval e X.env) :: starEach es X.env := by rfl)
    (hpl : ((backTo pos (starEach (e :: es) X.env)).any (·.1) || (backToKw pos (keywordEach kws X.env)).any (·.1.isNone)) = false := by rfl) :
    XOX X (.Call (.Name x p) (e :: es) kws pos) (wCallKX sp m ks.length ix wl wk) := by
  refine ⟨fun W tk => ⟨fun pins s σ H Q I h => ?_⟩⟩
  obtain ⟨ρ, F, P, R, sr, hw, kk, kx⟩ := h
  refine wpAny_Call_Name_kw (ld_glob I hg hm ?_ hdb)
  refine PySem.W.callWith_KW (h₀ := X.base) I.ok.mod.kin hk hall (thn (ha.pa.run pos pins s σ H _ I ⟨ρ, F, _, sr, hw, fun ds ρ1 F1 H1 vs p1 s1 r1 f1 => (show ∃ ds ρ1 F1, SR X.K ρ1 σ F1 H1 ∧ RepL X.K F1 vs ds ∧ Frm (ownedE ρ) F H (ownedE ρ1) F1 H1 ∧ wk ρ1 fun es ρ2 => ds.length = m ∧ es.length = ks.length ∧ sp ((pickL ix (ds ++ es)).map .fz) (fun o _ => P o ρ2) fun ex _ => R ex ρ2 from ⟨ds, ρ1, F1, s1, r1, f1, p1⟩)⟩) fun us s1 ⟨vs, H1, I1, r, ds, ρ1, F1, sr1, r1, f1, q⟩ => ?_) hpl he
  refine thn (hkw.pk.run pos pins s1 σ H1 _ I1 ⟨ρ1, F1, _, sr1, q, fun es ρ2 F2 H2 zs p2 s2 r2 f2 => (show ∃ es ρ2 F2, SR X.K ρ2 σ F2 H2 ∧ RepL X.K F2 zs es ∧ Frm (ownedE ρ1) F1 H1 (ownedE ρ2) F2 H2 ∧ (ds.length = m ∧ es.length = ks.length ∧ sp ((pickL ix (ds ++ es)).map .fz) (fun o _ => P o ρ2) fun ex _ => R ex ρ2) from ⟨es, ρ2, F2, s2, r2, f2, p2⟩)⟩) fun ws s2 ⟨zs, H2, I2, rz, es', ρ2, F2, sr2, r2, f2, l1, l2, q2⟩ => ⟨I2.kIn, ?_⟩
  rw [hks]
  refine run_kwX (E := WE W σ) G hr hb (passAt tk σ) I2 r rz (by rw [r1.length, l1]) (by rw [r2.length, l2]) ?_
  exact liftX_D (P := fun o => P o ρ2) (R := fun ex => R ex ρ2) sr2 (pick_rep ((r1.mono f2.fz).append r2) ix) q2 (fun o F' H' v p' s' f' => kk _ _ _ _ _ p' s' ((f1.trans f2).trans f')) fun ex F' H' cls d p' s' rx f' => kx _ _ _ _ _ _ p' s' rx ((f1.trans f2).trans f')
theorem xox_callK0 (G : FnOk X.prog X.w X.K X.mg X.base (L2.CX X.prog X.w) k f fd ps (liftX X.K sp)) (hr : Room k X.A) (hg : Gl X x) (hm : X.mg x = some (.ref f)) (hk : PySem.W.keepIn X.K (.ref f) = true) (hb : KwB X.K fd ps ks 0 ix)
    (hkw : XKw X kws wk) (hall : (backToKw pos (keywordEach kws X.env)).all (·.1.isSome) = true := by rfl) (hks : (backToKw pos (keywordEach kws X.env)).filterMap (·.1) = ks := by rfl)
    (hdb : (x == ("__debug__" : Str)) = false := by decide)
    (hpl : ((backTo pos (starEach [] X.env)).any (·.1) || (backToKw pos (keywordEach kws X.env)).any (·.1.isNone)) = false := by rfl) :
    XOX X (.Call (.Name x p) [] kws pos) (wCallKX sp 0 ks.length ix wNil wk) := by
  refine ⟨fun W tk => ⟨fun pins s σ H Q I h => ?_⟩⟩
  obtain ⟨ρ, F, P, R, sr, hw, kk, kx⟩ := h
  refine wpAny_Call_Name_kw (ld_glob I hg hm ?_ hdb)
  refine PySem.W.callWith_KW0 (h₀ := X.base) I.ok.mod.kin hk hall ?_ hpl
  have hw : wk ρ fun es ρ2 => ([] : List D).length = 0 ∧ es.length = ks.length ∧ sp ((pickL ix ([] ++ es)).map .fz) (fun o _ => P o ρ2) fun ex _ => R ex ρ2 := hw
  refine thn (hkw.pk.run pos pins s σ H _ I ⟨ρ, F, _, sr, hw, fun es ρ2 F2 H2 zs p2 s2 r2 f2 => (show ∃ es ρ2 F2, SR X.K ρ2 σ F2 H2 ∧ RepL X.K F2 zs es ∧ Frm (ownedE ρ) F H (ownedE ρ2) F2 H2 ∧ (([] : List D).length = 0 ∧ es.length = ks.length ∧ sp ((pickL ix ([] ++ es)).map .fz) (fun o _ => P o ρ2) fun ex _ => R ex ρ2) from ⟨es, ρ2, F2, s2, r2, f2, p2⟩)⟩) fun ws s2 ⟨zs, H2, I2, rz, es', ρ2, F2, sr2, r2, f2, l1, l2, q2⟩ => ⟨I2.kIn, ?_⟩
  rw [hks]
  refine run_kwX (us := []) (vs := []) (E := WE W σ) G hr hb (passAt tk σ) I2 .nil rz rfl (by rw [r2.length, l2]) ?_
  exact liftX_D (P := fun o => P o ρ2) (R := fun ex => R ex ρ2) sr2 (pick_rep r2 ix) q2 (fun o F' H' v p' s' f' => kk _ _ _ _ _ p' s' (f2.trans f')) fun ex F' H' cls d p' s' rx f' => kx _ _ _ _ _ _ p' s' rx (f2.trans f')
end
/-! ### raise -/
def wRaise0 (C : Addr) (w : WD) : WS := fun ρ E => w ρ fun _ ρ' => E.xc ⟨C, []⟩ ρ'
def wRaise1 (C : Addr) (f : Str) (w : WD) : WS := fun ρ E => w ρ fun d ρ' => E.xc ⟨C, [(f, d)]⟩ ρ'
/-- C's own __init__: self.f = .. -/
def spIni (C : Addr) (f : Str) : Sp := fun vs H Q _ => ∃ a y, vs = [.ref a, y] ∧ H a = some (exo a C none) ∧ ∀ dx, H dx = none → dx ≠ a → Q .non (upd (upd H dx (exd dx [(f, y)])) a (exo a C (some dx)))
section
variable {X : Cx} {x : Str} {C fI : Addr} {e : Expr} {w : WD} {p cpos pos : Pos} {k : Nat} {fd : FuncData} {f : Str} {bmB : List Value} {B newId initId : String} {ps : List Str}
theorem xs_raise0 (F : ExcBaseFacts B newId initId bmB) (q : PySem.W.excIn X.K C bmB newId = true) (hm : X.mg x = some (.ref C)) (hk : PySem.W.keepIn X.K (.ref C) = true) (hB : PySem.W.subIn X.K (.ref C) (.type "BaseException") = some true) (hT : PySem.W.typeIn X.K (.ref C) = some (.type "type")) (hg : Gl X x)
    (hc : X.calm = true) (he : XE X e w) (hs : starEach [e] X.env = (false, eval e X.env) :: starEach [] X.env := by rfl) (hdb : (x == ("__debug__" : Str)) = false := by decide) : XS X (.Raise (some (.Call (.Name x p) [e] [] cpos)) none pos) (wRaise0 C w) :=
  ⟨fun W tk => PS.imp (ps_raise hc tk (SkE.pmk_own1 F q hm hk (raises_own hB hT) hg he.pe hs hdb)) fun D σ H ⟨ρ, F, E, s, hw, k⟩ =>
    ⟨ρ, F, _, s, hw, fun d ρ1 F1 H1 v p1 s1 r1 f1 => k.xc _ _ _ _ _ _ _ p1 s1 ⟨rfl, .inl ⟨rfl, rfl⟩⟩ f1⟩⟩
theorem xs_raise1 (T : OexC X.K C) (iC : PySem.W.findIn X.K (.ref C) "__init__" = some (some (.ref fI))) (tI : PySem.W.typeIn X.K (.ref fI) = some (.type "function")) (G : FnOk X.prog X.w X.K X.mg X.base CX0 k fI fd ps (spIni C f)) (hr : Room (k + 1) X.A) (hb : Binds X.K fd ps []) (hm : X.mg x = some (.ref C)) (hg : Gl X x)
    (hc : X.calm = true) (he : XE X e w) (hs : starEach [e] X.env = (false, eval e X.env) :: starEach [] X.env := by rfl) (hdb : (x == ("__debug__" : Str)) = false := by decide) (hpl : (backTo cpos (starEach [] X.env)).any (·.1) = false := by rfl) : XS X (.Raise (some (.Call (.Name x p) [e] [] cpos)) none pos) (wRaise1 C f w) :=
  ⟨fun W tk => PS.imp (ps_raise hc tk (pmk_oex T iC tI G hr hb .nil pass0 hg hm (pa_cons he.pe pa_nil hs) hdb hs hpl)) fun D σ H ⟨ρ, F, E, s, hw, k⟩ =>
    ⟨ρ, F, _, s, hw, fun d ρ1 F1 H1 v p1 s1 r1 f1 => by
      refine ⟨Nat.succ_le_succ (Nat.zero_le _), fun a ha => ⟨a, v, rfl, upd_same, fun dx hdx ne => ?_⟩⟩
      have hdx : H1 dx = none := by rw [upd_ne ne] at hdx; exact hdx
      refine ⟨rfl, dx, [(f, v)], upd_same, by rw [upd_ne ne, upd_same], hdx, ?_⟩
      have e1 : upd (del (upd (upd (upd H1 a (exo a C none)) dx (exd dx [(f, v)])) a (exo a C (some dx))) a) dx (.xd [(f, v)]) = upd H1 dx (.xd [(f, v)]) := by
        funext b
        by_cases hb : b = dx
        · subst hb; rw [upd_same, upd_same]
        · rw [upd_ne hb, upd_ne hb]
          by_cases hb2 : b = a
          · subst hb2; rw [del_same, ha]
          · rw [del_ne hb2, upd_ne hb2, upd_ne hb, upd_ne hb2]
      rw [e1]
      obtain ⟨g, sb⟩ := grow_new (o := .xd [(f, v)]) s1.sub hdx
      exact k.xc _ _ _ _ _ _ _ p1 (s1.grow g sb) ⟨rfl, .inr ⟨dx, _, rfl, upd_same, .cons (r1.mono g.fz) .nil⟩⟩ (f1.trans (.ofGrow g))⟩⟩
end
/-- such an __init__ -/
theorem ini_body {X : Cx} {C : Addr} {f : Str} {o e : Expr} {p' pos : Pos} (T : OexC X.K C) (hno : PySem.W.findIn X.K (.ref C) f = some none) (ho : PE X o (tVar 0)) (he : PE X e (tVar 1)) (hs : swapsWith e (some (.Attribute o f p')) pos.line X.env = pure false := by rfl)
    {a : Addr} {y : V} {H : Hp} {D : Ends} {σ : L2.St} (h0 : σ[0]? = some (some (.ref a))) (h1 : σ[1]? = some (some y)) (hH : H a = some (exo a C none)) (hq : ∀ dx, H dx = none → dx ≠ a → D.nx σ (upd (upd H dx (exd dx [(f, y)])) a (exo a C (some dx)))) :
    ∃ t, PSs X [.Assign [.Attribute o f p'] e pos] t ∧ t D σ H := ⟨_, pss_one (ps_ost ho he hs), y, h1, .ref a, h0, a, C, rfl, T, hno, .inl ⟨hH, hq⟩⟩
/-! ### what a caught exception tells -/
/-- what the classes of exceptions must have -/
structure ExF (K : PySem.W.Frag) (C : Addr) : Prop where
  ga : PySem.W.findIn K (.ref C) "__getattribute__" = some (some (.builtin "BaseException.__getattribute__"))
  gg : PySem.W.findIn K (.ref C) "__getattr__" = some none
  sb : PySem.W.subIn K (.ref C) (.type "BaseException") = some true
  hd : PySem.W.hasDictIn K C = true
  ic : PySem.W.isClsIn K C = true
  ca : PySem.W.findIn K (.ref C) "__class__" = some (some (.builtin "object.__class__"))
  sp : PySem.W.specialIn K (.builtin "object.__class__") "__get__" = some (some (.builtin "getset_descriptor.__get__"))
  tk : PySem.W.takesIn K (.builtin "object.__class__") = some true
  mo : PySem.W.mroIn K C (.type "object") = some true
  ty : PySem.W.typeIn K (.ref C) = some (.type "type")
  ss : PySem.W.subIn K (.ref C) (.ref C) = some true
theorem exf_kit {K : PySem.W.Frag} {C T : Addr} {b : Bool} (hC : ExF K C) (hT : ExF K T) (h : PySem.W.subIn K (.ref C) (.ref T) = some b) : PySem.W.kitOne K (.ref C) (.ref T) = some b := by
  unfold PySem.W.kitOne
  by_cases e : C = T
  · subst e
    rw [hC.ss] at h
    rw [← Option.some.inj h, if_pos (beq_self_eq_true _)]
  · rw [if_neg (fun q => e (by injection beq_iff_eq.mp q))]
    show (if ((PySem.W.clsIn K T).isSome && PySem.W.typeIn K (.ref T) == some (.type "type")) = true then PySem.W.subIn K (.ref C) (.ref T) else none) = some b
    rw [if_pos, h]
    rw [show (PySem.W.clsIn K T).isSome = true from hT.ic, hT.ty]
    decide
theorem exf_kitB {K : PySem.W.Frag} {C : Addr} {T : String} {b : Bool} (hT : PySem.W.kitMeta T = true) (h : PySem.W.subIn K (.ref C) (.type T) = some b) : PySem.W.kitOne K (.ref C) (.type T) = some b := by
  unfold PySem.W.kitOne
  rw [if_neg (fun q => by cases beq_iff_eq.mp q)]
  show (if PySem.W.kitMeta T = true then PySem.W.subIn K (.ref C) (.type T) else none) = some b
  rw [if_pos hT, h]
theorem exf_exm {K : PySem.W.Frag} {C T : Addr} {b : Bool} (hT : ExF K T) (h : PySem.W.subIn K (.ref C) (.ref T) = some b) : PySem.W.exmOne K (.ref C) (.ref T) = some b := by
  show (if (PySem.W.subIn K (.ref T) (.type "BaseException") == some true) = true then (if ((PySem.W.clsIn K T).isSome && PySem.W.typeIn K (.ref T) == some (.type "type")) = true then PySem.W.subIn K (.ref C) (.ref T) else none) else none) = some b
  rw [hT.sb, if_pos (by decide), if_pos, h]
  rw [show (PySem.W.clsIn K T).isSome = true from hT.ic, hT.ty]
  decide
/-- an exception that stands in the heap -/
structure ExAt (H : Hp) (a C : Addr) (d : Option Addr) : Prop where
  at_ : H a = some (exH a C d)
  dct : ∀ dd, d = some dd → ∃ fs, H dd = some (.xd fs)
theorem ExAt.inst {X : Cx} {pins : List (Addr × Obj)} {σ : L2.St} {H : Hp} {s : Shared} {a C : Addr} {d : Option Addr} (I : Inv X pins σ H s) (h : ExAt H a C d) : ∃ oe od, PySem.W.InstAt s.heap a oe C od ∧ ∀ (dd : Addr) (fs : List (Str × V)), d = some dd → H dd = some (.xd fs) → ∃ (mA : Str → Option Value) (o : Obj), od = some o ∧ (∀ f, RelO (fs.lookup f) (mA f)) ∧ ∀ n, PySem.W.lookIn n o = some (mA n) := by
  obtain ⟨⟨oe, fv, ho, ⟨hc, hd⟩, hv⟩, _⟩ := (show ObjOk X.prog X.w H s.heap a (exH a C d) from I.hok a _ h.at_)
  have nc : PySem.W.notCls oe = true := by unfold PySem.W.notCls; rw [hv] <;> rfl
  cases d with
  | none => exact ⟨oe, none, ⟨ho, hc, nc, by rw [hd]; trivial⟩, fun dd fs e => by cases e⟩
  | some dd =>
    obtain ⟨fs, hf⟩ := h.dct dd rfl
    obtain ⟨mA, hns, hr⟩ := (show ObjOk X.prog X.w H s.heap dd (.xd fs) from I.hok dd _ hf)
    obtain ⟨od, h1, h2⟩ := lookIn_ns hns
    refine ⟨oe, some od, ⟨ho, hc, nc, by rw [hd]; exact h1⟩, fun d2 fs2 e e2 => ?_⟩
    cases e
    rw [hf] at e2
    cases e2
    exact ⟨mA, od, rfl, hr, h2⟩
theorem ExF.kitX {K : PySem.W.Frag} {C x : Addr} {ox : Obj} {od : Option Obj} (h : ExF K C) : PySem.W.KitX K (.ref x) (.ref C) (fun hp => PySem.W.InstAt hp x ox C od) := PySem.W.kitx_exc h.ic h.ga h.gg h.sb h.ca h.sp h.tk h.mo
/-- isinstance(e, c), isinstance(e, (c, ..)) -/
def rIsX (K : PySem.W.Frag) : List V → Hp → VK → Prop := fun xs H Q => ∃ (a C : Addr) (d : Option Addr) (c : V) (b : Bool), xs = [.ref a, c] ∧ ExAt H a C d ∧ ExF K C ∧
  ((∃ cv, (∀ u, RelV c u → u = cv) ∧ PySem.W.kitOne K (.ref C) cv = some b) ∨ ∃ q ys cvs, c = .ref q ∧ H q = some (.tup ys) ∧ (∀ us, Vals ys us → us = cvs) ∧ PySem.W.kitAny K (.ref C) cvs = some b) ∧ Q (.bl b) H
theorem call_isX {X : Cx} : CallR X (.builtin "isinstance") (rIsX X.K) := by
  intro pins s σ H xs us Q I r h
  obtain ⟨a, C, d, c, b, rfl, ea, hC, hk, q⟩ := h
  obtain ⟨u1, u2, rfl, r1, r2⟩ := vals2 r
  obtain rfl : u1 = Value.ref a := r1
  obtain ⟨oe, od, J, _⟩ := ea.inst I
  rcases hk with ⟨cv, hc, hb⟩ | ⟨p, ys, cvs, rfl, hp, hv, hb⟩
  · have e := hc _ r2
    subst e
    exact PySem.W.kia_one hC.kitX I.kIn J hb (fun z => nomatch z) fun tk => ⟨.bl b, H, I.kept (t' := tk) fun _ _ z => z, rfl, q⟩
  · obtain rfl : u2 = Value.ref p := r2
    obtain ⟨_, its, vs, ot, h1, h2, n, h3⟩ := (show ObjOk X.prog X.w H s.heap p (.tup ys) from I.hok p _ hp)
    have e := hv _ vs
    subst e
    cases ot
    simp only at h2 h3
    subst h2 h3
    exact PySem.W.kia_tup hC.kitX I.kIn J h1 hb (fun z => nomatch z) fun tk => ⟨.bl b, H, I.tok tk, rfl, q⟩
/-- whether a caught exception is one of a class, or of some: the answers, class by class -/
def wIsX (tbl : List (Addr × Bool)) (w : WD) : WD := fun ρ P => w ρ fun d ρ1 => match d with
  | .exc C _ => ∃ b, (C, b) ∈ tbl ∧ P (.bl b) ρ1
  | _ => False
/-- e.f of a caught exception -/
def wXfld (cs : List Addr) (f : Str) (w : WD) : WD := fun ρ P => w ρ fun d ρ1 => match d with
  | .exc C fs => C ∈ cs ∧ ∃ u, fs.lookup f = some u ∧ P u ρ1
  | _ => False
theorem RepS.look {K : PySem.W.Frag} {F : Hp} {f : Str} {u : D} : ∀ {es : List (Str × V)} {fs : List (Str × D)}, RepS K F es fs → fs.lookup f = some u → ∃ v, es.lookup f = some v ∧ Rep K F v u
  | _, _, .nil, e => by cases e
  | _, _, @RepS.cons _ _ k v vs d ds hr r, e => by
    rw [List.lookup_cons] at e ⊢
    cases hk : f == k with
    | true =>
      rw [hk] at e
      have e : some d = some u := e
      rw [Option.some.inj e] at hr
      exact ⟨v, rfl, hr⟩
    | false =>
      rw [hk] at e
      exact RepS.look r e
theorem Rep.excAt {K : PySem.W.Frag} {F H : Hp} {v : V} {C : Addr} {fs : List (Str × D)} (sb : Sb F H) (r : Rep K F v (.exc C fs)) : ∃ a d, v = .ref a ∧ ExAt H a C d ∧ ∀ f u, fs.lookup f = some u → ∃ dd es v, d = some dd ∧ H dd = some (.xd es) ∧ es.lookup f = some v ∧ Rep K F v u := by
  have keep : ∀ {b : Addr} {o : HO}, ¬ isDct o → F b = some o → H b = some o := fun nd h => by
    rcases sb _ _ h with z | ⟨_, z, _⟩
    · exact z
    · exact absurd z nd
  cases r with
  | @exc0 a _ h => exact ⟨a, none, rfl, ⟨keep (fun z => by unfold exH at z; exact z) h, fun _ e => by cases e⟩, fun f u e => by cases e⟩
  | @exc1 a _ dd es _ h h2 rs =>
    have hd := keep (o := .xd es) (fun z => z) h2
    refine ⟨a, some dd, rfl, ⟨keep (fun z => by unfold exH at z; exact z) h, fun d2 e => by cases e; exact ⟨es, hd⟩⟩, fun f u e => ?_⟩
    obtain ⟨v, hv, rv⟩ := rs.look e
    exact ⟨dd, es, v, rfl, hd, hv, rv⟩
section
variable {X : Cx} {e : Expr} {p pos pn : Pos} {w : WD} {f : Str} {tbl : List (Addr × Bool)}
/-- a class's name -/
theorem xe_globC {x : Str} {C : Addr} (hg : Gl X x) (hm : X.mg x = some (.ref C)) (hd : (x == ("__debug__" : Str)) = false := by decide) : XE X (.Name x pos) (wC (.al C)) := xe_c (v := .ref C) (pe_glob hg hm rfl hd) fun _ _ => .al C
theorem xe_isX {c : Expr} {V1 : V} {cv : Value} (hg : Gl X "isinstance") (hm : X.mg "isinstance" = none) (ha : XE X e w) (hN : PE X c (tC V1)) (hV : ∀ u, RelV V1 u → u = cv) (hT : ∀ q ∈ tbl, ExF X.K q.1 ∧ PySem.W.kitOne X.K (.ref q.1) cv = some q.2)
    (he : starEach [e, c] X.env = (false, eval e X.env) :: starEach [c] X.env := by rfl) (he2 : starEach [c] X.env = (false, eval c X.env) :: starEach [] X.env := by rfl) (hpl : (backTo pos (starEach [c] X.env)).any (·.1) = false := by rfl) :
    XE X (.Call (.Name "isinstance" p) [e, c] [] pos) (wIsX tbl w) := by
  refine ⟨PE.imp (pe_callB call_isX hg hm boot_isinstance (pa_cons ha.pe (pa_cons hN pa_nil he2) he) (by decide) (by decide) he hpl) fun σ H Q ⟨ρ, F, P, s, hw, k⟩ => ⟨ρ, F, _, s, hw, fun d ρ' F' H' v q s' r f => ?_⟩⟩
  split at q
  · rename_i C fs
    obtain ⟨b, hb, q⟩ := q
    obtain ⟨a, d, rfl, ea, _⟩ := r.excAt s'.sub
    obtain ⟨h1, h2⟩ := hT _ hb
    exact ⟨a, C, d, V1, b, rfl, ea, h1, .inl ⟨cv, hV, h2⟩, k _ _ _ _ _ q s' (.bl b) f⟩
  · exact q.elim
/-- .. of some classes, told in a row -/
theorem xe_isXT {es : List Expr} {x1 : Nat} {vs : List V} {cvs : List Value} (hg : Gl X "isinstance") (hm : X.mg "isinstance" = none) (ha : XE X e w) (hN : PA X es (fun σ H Q => Q vs H)) (hz : vs.length ≤ sizeLine) (hV : ∀ us, Vals vs us → us = cvs) (hT : ∀ q ∈ tbl, ExF X.K q.1 ∧ PySem.W.kitAny X.K (.ref q.1) cvs = some q.2)
    (he : starEach [e, .Tuple es x1 pn] X.env = (false, eval e X.env) :: starEach [.Tuple es x1 pn] X.env := by rfl) (he2 : starEach [.Tuple es x1 pn] X.env = (false, eval (.Tuple es x1 pn) X.env) :: starEach [] X.env := by rfl) (hpl : (backTo pos (starEach [.Tuple es x1 pn] X.env)).any (·.1) = false := by rfl) :
    XE X (.Call (.Name "isinstance" p) [e, .Tuple es x1 pn] [] pos) (wIsX tbl w) := by
  refine ⟨PE.imp (pe_callB call_isX hg hm boot_isinstance (pa_cons ha.pe (pa_cons (pe_tup hN) pa_nil he2) he) (by decide) (by decide) he hpl) fun σ H Q ⟨ρ, F, P, s, hw, k⟩ => ⟨ρ, F, _, s, hw, fun d ρ' F' H' v q s' r f => ?_⟩⟩
  split at q
  · rename_i C fs
    obtain ⟨b, hb, q⟩ := q
    obtain ⟨h1, h2⟩ := hT _ hb
    refine ⟨hz, fun y hy => ?_⟩
    obtain ⟨g, sb⟩ := grow_new (o := .tup vs) s'.sub hy
    obtain ⟨a, d, rfl, ea, _⟩ := (r.mono g.fz).excAt sb
    exact ⟨a, C, d, .ref y, b, rfl, ea, h1, .inr ⟨y, vs, cvs, rfl, upd_same, hV, h2⟩, k _ _ _ _ _ q (s'.grow g sb) (.bl b) (f.trans (.ofGrow g))⟩
  · exact q.elim
/-- the reading at HandS -/
def tXfd (K : PySem.W.Frag) (f : Str) (te : TE) : TE := fun σ H Q => te σ H fun x H1 => ∃ a C dd fs v, x = .ref a ∧ ExAt H1 a C (some dd) ∧ ExF K C ∧ PySem.W.findIn K (.ref C) f = some none ∧ H1 dd = some (.xd fs) ∧ fs.lookup f = some v ∧ Q v H1
theorem pe_xfd {te : TE} (he : PE X e te) (hb : attributeBase e f X.env (eval e X.env) = eval e X.env) : PE X (.Attribute e f pos) (tXfd X.K f te) := by
  refine ⟨fun pins s σ H Q I h => ?_⟩
  refine attr_of hb (thn (he.run pins s σ H _ I h) fun u s1 ⟨x, H1, I1, rx, a, C, dd, fs, v, ex, ea, hC, hno, hd, hl, q⟩ => ?_)
  subst ex
  obtain rfl : u = Value.ref a := rx
  obtain ⟨oe, od, J, hod⟩ := ea.inst I1
  obtain ⟨mA, o, rfl, hr, hlk⟩ := hod dd fs rfl hd
  obtain ⟨u, hu, ru⟩ := RelO.some_of (v := v) (o := mA f) (by rw [← hl]; exact hr f)
  exact HandSPX.exc_get I1.kIn J hC.ga hC.gg hC.sb (PySem.W.findObj_own hC.hd hno rfl (by rw [hlk, hu])) (handed_of ru) ⟨v, H1, I1.tok _, ru, q⟩
theorem xe_xfld {cs : List Addr} (hT : ∀ C ∈ cs, ExF X.K C ∧ PySem.W.findIn X.K (.ref C) f = some none) (ha : XE X e w) (hb : attributeBase e f X.env (eval e X.env) = eval e X.env := by rfl) : XE X (.Attribute e f pos) (wXfld cs f w) :=
  ⟨PE.imp (pe_xfd ha.pe hb) fun σ H Q ⟨ρ, F, P, s, hw, k⟩ => ⟨ρ, F, _, s, hw, fun d ρ' F' H' v q s' r fr => by
    split at q
    · rename_i C fs
      obtain ⟨hC, u, hu, q⟩ := q
      obtain ⟨a, d, rfl, ea, hl⟩ := r.excAt s'.sub
      obtain ⟨dd, es, v, rfl, h1, h2, rv⟩ := hl f u hu
      obtain ⟨g1, g2⟩ := hT _ hC
      exact ⟨a, C, dd, es, v, rfl, ea, g1, g2, h1, h2, k _ _ _ _ _ q s' rv fr⟩
    · exact q.elim⟩⟩
end
end Tr
/-! try .. except X as e: caught = e -/
namespace Tr
open PySem PySem.Spec PyProof.Rows L2
def wTryK (i j : Nat) (cs : List Addr) (wb : WS) : WS := fun ρ E => wb ρ { E with xc := fun ex ρ' => ex.C ∈ cs ∧ putC ρ' j (some (.fz (.exc ex.C ex.fs))) fun ρ1 => putC ρ1 i none E.nx }
section
variable {X : Cx} {x n m : Str} {T : Addr} {i j : Nat} {body : List Stmt} {np p1 p2 ap pos pos' : Pos} {wb : WS} {cs : List Addr}
theorem xs_tryK (hs : X.stack = X.env :: X.outer) (hf : X.env.frame = some X.env.locals) (hex : X.ex = []) (hN : X.N.Nodup) (hi : X.N[i]? = some n) (hln : X.env.kindOf n = some .local) (hj : X.N[j]? = some m) (hlm : X.env.kindOf m = some .local) (ne : i ≠ j)
    (hc : Names X x (.ref T)) (hcs : ∀ C ∈ cs, PySem.W.exmOne X.K (.ref C) (.ref T) = some true) (hsw : swapsWith (.Name n p2) (some (.Name m p1)) ap.line X.env = pure false) (hd1 : (n == ("__debug__" : Str)) = false) (hd2 : (n == ("__classdict__" : Str)) = false)
    (hb : ∀ (pn : List (Addr × Obj)) (xe : Value → Shared → Prop), PassesOwn (model X.prog X.w) X.A X.env xe → XSs (X.tr pn xe) body wb) :
    XS X (.Try body [.ExceptHandler (some (.Name x np)) (some n) [.Assign [.Name m p1] (.Name n p2) ap] pos'] [] [] pos) (wTryK i j cs wb) :=
  ⟨fun W tk => PS.imp (ps_try_keep (tb := fun W => liftS X.K W wb) hs hf hex hN hi hln hj hlm hc hsw hd1 hd2 fun W pn xe tk hp => (hb pn xe hp).ps W tk) fun D σ H ⟨ρ, F, E, s, hw, k⟩ =>
    ⟨ρ, F, _, s, hw, k.nx, k.rt, k.bk, k.ct, fun ex ρ1 σ1 F1 H1 cls d p s1 r f => by
      obtain ⟨hC, p⟩ := p
      have ec := r.cls
      subst ec
      refine ⟨hcs _ hC, ex.C, rfl, fun a ha => ?_⟩
      obtain ⟨g, sb⟩ := grow_new (o := exH a ex.C d) s1.sub ha
      have s2 := s1.grow g sb
      have rx : Rep X.K (upd F1 a (exH a ex.C d)) (.ref a) (.exc ex.C ex.fs) := by
        rcases r.fld with ⟨e1, e2⟩ | ⟨dd, es, e1, e2, e3⟩
        · rw [e2, e1]
          exact .exc0 upd_same
        · rw [e1]
          refine .exc1 upd_same ?_ (e3.mono ?_)
          · rw [← e1]; exact g.fz _ _ e2
          · rw [← e1]; exact g.fz
      obtain ⟨s3, m3⟩ := (s2.pushD (.al a)).store (i := i)
      have s4 := s3.pushD rx
      obtain ⟨s5, m5⟩ := s4.store (i := j)
      obtain ⟨s6, m6⟩ := s5.drop1 i
      rw [put_eq] at s6 m6
      have e1 : ((ρ1.set i (some (.fz (.al a)))).set j (some (.fz (.exc ex.C ex.fs)))).set i none = (ρ1.set j (some (.fz (.exc ex.C ex.fs)))).set i none := by
        rw [List.set_comm _ _ ne, List.set_set]
      rw [putC_eq, putC_eq, ← e1] at p
      exact k.nx _ _ _ _ p s6 ((f.trans (.ofGrow g)).less fun b hb => m3 b (m5 b (m6 b hb)))⟩⟩
end
end Tr
/-! exceptions: their own __init__, what isinstance tells of dicts. -/
namespace Tr
open PySem PySem.Spec PyProof.Rows L2
section
variable {P : Program} {w : World} {K : PySem.W.Frag} {mg : Str → Option Value} {base : Heap}
/-- an __init__ that sets one field -/
theorem fn_ini {x qual : Str} {st : Stmt} {f : Addr} {fd : FuncData} {N ps : List Str} {C : Addr} {y : Str} (Fn : Fun K x qual st f fd) (S : FnScope N ps (defScope st))
    (body : ∀ (cdv : Value) (A : Around) (outer : List Env) (s : Shared) (H : Hp) (E : XK), ∃ (o e : Expr) (p' pos : Pos), defBody st = [.Assign [.Attribute o y p'] e pos] ∧ OexC K C ∧ PySem.W.findIn K (.ref C) y = some none ∧ PE (cxOf CX0 P w K mg base N qual (defScope st) f cdv A outer s H E).nox o (tVar 0) ∧ PE (cxOf CX0 P w K mg base N qual (defScope st) f cdv A outer s H E).nox e (tVar 1) ∧
      swapsWith e (some (.Attribute o y p')) pos.line (cxOf CX0 P w K mg base N qual (defScope st) f cdv A outer s H E).env = pure false) (hl : ps.length = 2 := by decide) (hn : N.length = 2 := by decide) : FnOk P w K mg base CX0 1 f fd ps (spIni C y) := by
  refine Fn.ok S (fun vs H Q E h => ?_) (fun cdv A outer s H vs Q E hr h => ?_)
  · obtain ⟨a, v, e, _⟩ := h
    rw [e, hl]; rfl
  · obtain ⟨a, v, rfl, hH, hq⟩ := h
    obtain ⟨o, e, p', pos, eb, T, hno, ho, he, hs⟩ := body cdv A outer s H E
    rw [eb]
    exact ini_body T hno ho he hs (a := a) (y := v) rfl rfl hH hq
end
theorem valsRefs : ∀ (as : List Addr) (us : List Value), Vals (as.map V.ref) us → us = as.map Value.ref
  | [], _, .nil => rfl
  | a :: as, _, .cons h r => by
    rw [valsRefs as _ r]
    exact congrArg (· :: _) h
/-- isinstance(d, T), d a dict whose keys are tuples too -/
def rIsiDA : List V → Hp → VK → Prop := fun xs H Q => ∃ (p : Addr) (kvs : List (List Key × V)) (T : String) (b : Bool), xs = [.ref p, .ty T] ∧ Rd H p (.dT kvs) ∧ kitB "dict" T = some b ∧ Q (.bl b) H
theorem call_isiDA {X : Cx} : CallR X (.builtin "isinstance") rIsiDA := by
  intro pins s σ H xs us Q I r h
  obtain ⟨p, kvs, T, b, rfl, hd, hk, q⟩ := h
  obtain ⟨u1, u2, rfl, r1, r2⟩ := vals2 r
  obtain rfl : u1 = Value.ref p := r1
  cases (show u2 = Value.type T from r2)
  have ok : ObjOk X.prog X.w H s.heap p (.dT kvs) := by
    rcases hd with z | ⟨ob, z⟩
    · exact I.hok p _ z
    · exact ((show ObjOk X.prog X.w H s.heap p (.frz ob (.dT kvs)) from I.hok p _ z)).2
  obtain ⟨_, _, xs, _, o, es, ep, h1, h2, _⟩ := ok
  exact PySem.W.kia_one PySem.W.kitx_dict I.kIn ⟨o, h1, h2.1⟩ (kit_ty hk) (fun z => nomatch z) fun tk => ⟨.bl b, H, I.tok tk, rfl, q⟩
def D.isG (t : PT) (d : D) : Option Bool := match d with
  | .dcT _ => kitB "dict" t.nm
  | d => d.is t
def wIsiG (t : PT) (w : WD) : WD := fun ρ P => w ρ fun d ρ' => match d with
  | .dcT _ => P (.bl (match t with
    | .dct => true
    | _ => false)) ρ'
  | d => match d.is t with
    | some b => P (.bl b) ρ'
    | none => False
theorem kit_dct (t : PT) : kitB "dict" t.nm = some (match t with
    | .dct => true
    | _ => false) := by cases t <;> decide +kernel
theorem xe_isiG {X : Cx} {x : Str} {p pos pn : Pos} {e : Expr} {w : WD} {t : PT} (hg : Gl X "isinstance") (hm : X.mg "isinstance" = none) (hgT : Gl X x) (hmT : X.mg x = none) (hvT : bootBuiltins x = some (.type t.nm)) (ha : XB X e w) (hn : x ≠ "__name__" := by decide) (hdb : (x == ("__debug__" : Str)) = false := by decide)
    (he : starEach [e, .Name x pn] X.env = (false, eval e X.env) :: starEach [.Name x pn] X.env := by rfl) (he2 : starEach [.Name x pn] X.env = (false, eval (.Name x pn) X.env) :: starEach [] X.env := by rfl) (hpl : (backTo pos (starEach [.Name x pn] X.env)).any (·.1) = false := by rfl) :
    XE X (.Call (.Name "isinstance" p) [e, .Name x pn] [] pos) (wIsiG t w) := by
  have hN : PE X (.Name x pn) (tC (.ty t.nm)) := pe_bltn hgT hmT hvT rfl hn hdb
  refine ⟨PE.imp (pe_callB (call_isi.or call_isiDA) hg hm boot_isinstance (pa_cons ha.pe (pa_cons hN pa_nil he2) he) (by decide) (by decide) he hpl) fun σ H Q ⟨ρ, F, P, s, hw, k⟩ => ?_⟩
  refine ⟨ρ, F, _, s, hw, fun d ρ' F' F'' H' v p s' sb su r f => ?_⟩
  have gen : ∀ b, d.is t = some b → P (.bl b) ρ' → rIsi X.K [v, .ty t.nm] H' Q := fun b hd p => by
    obtain ⟨tt, ty, kt⟩ := isi_ok sb r (is_isA hd)
    exact ⟨v, .ty t.nm, tt, .type t.nm, b, rfl, .ty t.nm, ty, kt, k _ _ _ _ _ p s' (.bl b) f⟩
  split at p
  · cases r with
    | @dcT a es kvs hF z rk => exact .inr ⟨a, es, t.nm, _, rfl, sb.dT hF, kit_dct t, k _ _ _ _ _ p s' (.bl _) f⟩
  · split at p
    · rename_i hd
      exact .inl (gen _ hd p)
    · exact p.elim
end Tr
/-! d[k], x = e; != of dicts with tuple keys and of other data. -/
namespace Tr
open PySem PySem.Spec PyProof.Rows L2
def rSetD : V → V → V → Hp → (Hp → Prop) → Prop := fun o i v H Q => ∃ a H', o = .ref a ∧ DPut H a i v H' ∧ Q H'
theorem set_dictA {X : Cx} (hu : X.A.units + 1 < cLine) : PSet X rSetD := by
  intro pins s σ H o i v ov iv u Q I ro ri rv h
  obtain ⟨a, H', rfl, g, q⟩ := h
  obtain rfl : ov = Value.ref a := ro
  exact d_setItem hu I g ri rv fun s' I' => ⟨H', I', q⟩
/-- d[k] = .. as a target -/
def gIxK (k : Nat) (wi : WD) : WG := fun d ρ P => match nth ρ k with
  | some _ => wi ρ fun e ρ1 => match nth ρ1 k with
    | some (.dcT a kvs) => ∃ ks, e.keys = some ks ∧ kvs.length < sizeLine ∧ putC ρ1 k (some (.dcT a (putG kvs ks d))) P
    | some (.dct a kvs) => ∃ y, e.key = some y ∧ kvs.length < sizeLine ∧ putC ρ1 k (some (.dct a (putG kvs y d))) P
    | _ => False
  | _ => False
section
variable {X : Cx} {e o i : Expr} {wi : WD} {pos : Pos} {k : Nat}
theorem xh_ixK (hu : X.A.units + 64 < cLine) (ho : PE X o (tVar k)) (hi : XE X i wi)
    (ha : ∀ v, assign (.Subscript o i pos) X.env v = (do
      let ov ← holding [v] (eval o X.env)
      let iv ← holding [v, ov] (eval i X.env)
      standAt pos
      holding [v, ov, iv] (setItem ov iv v)
      release [v, ov, iv] []) := by intro _; rfl) : XH X (.Subscript o i pos) (gIxK k wi) := ⟨PG.imp (pg_sub ho hi.pe (set_dictA (by omega)) ha) fun v σ H Q ⟨ρ, F, d, P, s, r, hw, kk⟩ => by
  unfold gIxK at hw
  cases hn0 : nth ρ k with
  | none => rw [hn0] at hw; exact hw.elim
  | some o0 =>
  rw [hn0] at hw
  obtain ⟨x0, hx0, r0⟩ := s.slot k _ (nth_eq hn0)
  refine ⟨_, hx0, ρ, F, _, s, hw, fun e ρ2 F2 H2 z p2 s2 rd f2 => ?_⟩
  cases hn2 : nth ρ2 k with
  | none => rw [hn2] at p2; exact p2.elim
  | some o2 =>
  rw [hn2] at p2
  obtain ⟨x, hx, s3, m3⟩ := s2.take (nth_eq hn2)
  rw [hx0] at hx
  cases hx
  have rv2 := r.mono f2.fz
  cases o2 <;> first
    | (exact p2.elim)
    | skip
  · rename_i a kvs
    obtain ⟨kk', hkk, hl, p3⟩ := p2
    obtain ⟨rfl, ok, _⟩ := rd.key hkk
    have q := s3.top
    cases q with
    | @dct _ es _ hH lz rk =>
    have r2 := rk.put ok rv2
    obtain ⟨s4, f4⟩ := s3.mut1 (o' := .dct a (putG kvs kk' d)) (u := .dK (putK es kk' v)) rfl rfl (.dct upd_same (Nat.le_trans (length_putG _ _ _) hl) r2)
    obtain ⟨s5, m5⟩ := s4.set (i := k) hx0
    rw [List.set_set] at s5 m5
    rw [putC_eq] at p3
    exact ⟨a, _, rfl, .inl ⟨es, kk', hH, rfl, by rw [rk.length]; exact hl, rfl⟩, kk _ _ _ _ p3 s5 (f2.trans ((f4.iff (fun b => m3 b) fun b hb => hb).less m5))⟩
  · rename_i a kvs
    obtain ⟨kk', hkk, hl, p3⟩ := p2
    obtain ⟨b, rfl, hb, ok⟩ := rd.keys hkk
    have q := s3.top
    cases q with
    | @dcT _ es _ hH lz rk =>
    have r2 := rk.put ok rv2
    obtain ⟨s4, f4⟩ := s3.mut1 (o' := .dcT a (putG kvs kk' d)) (u := .dT (putK es kk' v)) rfl rfl (.dcT upd_same (Nat.le_trans (length_putG _ _ _) hl) r2)
    obtain ⟨s5, m5⟩ := s4.set (i := k) hx0
    rw [List.set_set] at s5 m5
    rw [putC_eq] at p3
    exact ⟨a, _, rfl, .inr ⟨es, kk', b, hH, rfl, s2.sub.tup hb, by rw [rk.length]; exact hl, rfl⟩, kk _ _ _ _ p3 s5 (f2.trans ((f4.iff (fun b => m3 b) fun b hb => hb).less m5))⟩⟩
end
def semNeA (d e : D) (P : D → Prop) : Prop := match d, e with
  | .dcT ks, .dcT ls => semEqT true (.dcT ks) (.dcT ls) P
  | d, e => semNe d e P
theorem sem_neA {K : PySem.W.Frag} : SemS K (fun x y H Q => (rNe x y H Q ∨ rNeX K x y H Q) ∨ rEqT K true x y H Q) semNeA := by
  intro F H x y d e P Q sb rx ry hs k
  unfold semNeA at hs
  split at hs
  · exact .inr (sem_eqT true F H x y _ _ P Q sb rx ry hs k)
  · exact .inl (sem_ne F H x y _ _ P Q sb rx ry hs k)
theorem op_neA {X : Cx} (hu : X.A.units + 64 < cLine) : OpR X (compareOp .NotEq) (fun x y H Q => (rNe x y H Q ∨ rNeX X.K x y H Q) ∨ rEqT X.K true x y H Q) := (op_neT hu).or (op_neT2 hu)
end Tr
namespace Lw
open PySem PySem.Spec PyProof.Rows L2 Tr
open PySem PySem.Spec PyProof.Rows L2 Tr
local macro_rules | `(tactic| walk_at "tw") => `(tactic| ((conv => whnf); (repeat (refine wSeq.mk ?_; (conv => whnf)))))
local macro_rules | `(tactic| walk_at "tm") => `(tactic| (conv => whnf))
/-- where the program's classes stand -/
class Zc where
  cReading : Addr
  cNoText : Addr
  cTraceError : Addr
  cNoFlow : Addr
  cNoUnit : Addr
abbrev Pr := Int × Int
abbrev Pap := List (Pr × List (List Int))
def kP (p : Pr) : List Key := [.inl p.1, .inl p.2]
def pD (p : Pr) : D := .tup [.int p.1, .int p.2]
def rowD (r : List Int) : D := .tup (r.map .int)
def rowsD (rs : List (List Int)) : D := .tup (rs.map rowD)
def papT (m : Pap) : List (List Key × D) := m.map fun e => (kP e.1, rowsD e.2)
def okN (n : Int) : Prop := 0 ≤ n ∧ n ≤ 99999
def ltP (p q : Pr) : Prop := p.1 < q.1 ∨ (p.1 = q.1 ∧ p.2 < q.2)
instance (p q : Pr) : Decidable (ltP p q) := by unfold ltP; infer_instance
def mkS (l : List Nat) : Str := ⟨l.toArray⟩
def tlS (z : Str) : List Nat := z.cps.toList
def dig (c : Nat) : Bool := decide (48 ≤ c) && decide (c ≤ 57)
def valD (l : List Nat) : Int := ((NumText.digitsVal l : Nat) : Int)
def lastD (m : Pap) : D := match m.getLast? with
  | some e => pD e.1
  | none => .non
/-- the number that a word is -/
def numW (z : Str) : Option Int := if (1 ≤ z.length ∧ z.length ≤ 5) ∧ (tlS z).all dig = true ∧ (z = "0" ∨ (tlS z).headD 0 ≠ 48) then some (valD (tlS z)) else none
def numsW (zs : List Str) : Option (List Int) := if (zs.map numW).any Option.isNone = true then none else some ((zs.map numW).filterMap id)
def optI : Option Int → D
  | none => .non
  | some n => .int n
def optR : Option (List Int) → D
  | none => .non
  | some r => rowD r
def pairW (zs : List Str) : Option (List Int) := if zs.head? = some "pair" ∧ zs.length = 3 then numsW zs.tail else none
/-- the pair that a row of two numbers is -/
def asP : List Int → Pr
  | [a, b] => (a, b)
  | _ => (0, 0)
def lastLt (m : Pap) (q : Pr) : Bool := match m.getLast? with
  | none => true
  | some e => decide (ltP e.1 q)
def addR (m : Pap) (zs : List Str) : Option Pap := match m.getLast?, numsW zs with
  | some e, some r => some (m.dropLast ++ [(e.1, e.2 ++ [r])])
  | _, _ => none
/-- a row of a paper's text is taken, where it can stand -/
def stp (m : Pap) (zs : List Str) : Option Pap := match pairW zs with
  | some q => if lastLt m (asP q) = true then some (m ++ [(asP q, [])]) else addR m zs
  | none => addR m zs
inductive Res where
  | bad (row : Nat)
  | good (m : Pap)
def rdL (at_ : Nat) (m : Pap) : List Str → Res
  | [] => .good m
  | z :: r => match stp m (Txt.split z " ") with
    | some m' => rdL (at_ + 1) m' r
    | none => .bad at_
def piecesT (t : Str) : List Str := Txt.split t "\n"
def lastT (t : Str) : Str := (piecesT t).getLastD ""
def rowsT (t : Str) : List Str := if lastT t = "" then (piecesT t).dropLast else piecesT t
/-- what the text is read as -/
def rdT (t : Str) : Res := match rdL 0 [] (rowsT t) with
  | .bad k => .bad k
  | .good m => if lastT t = "" then .good m else .bad (rowsT t).length
/-- a paper amid the reading of so many rows -/
structure PapI (n : Nat) (m : Pap) : Prop where
  up : (m.map (·.1)).Pairwise ltP
  len : m.length ≤ n
  rows : ∀ e ∈ m, e.2.length ≤ n
def noStr (d : D) : Prop := (∃ kvs, d = .dcT kvs) ∨ d.is .str = some false
def resP (r : Res) (P : O → List O → Prop) (os : List O) : Prop := match r with
  | .bad k => P (.fz (.int k)) os
  | .good m => ∀ b, P (.dcT b (papT m)) os
structure sp__law_state (os : List O) (P : O → List O → Prop) : Prop where
  ex : ∃ ns : List Int, os = [.fz (.frl (ns.map .int))] ∧ ns.length ≤ 63 ∧ ∀ a xs, DS xs → P (.lst a xs) os
def sp__law_draw : SpT := spDraw
structure sp__law_text (os : List O) (P : O → List O → Prop) : Prop where
  ex : ∃ a xs, os = [.lst a xs] ∧ DS xs ∧ ∀ z : Str, z.length ≤ 400 → ∀ ys, DS ys → P (.fz (.str z)) [.lst a ys]
structure sp__law_bent (os : List O) (P : O → List O → Prop) : Prop where
  ex : ∃ a xs z, os = [.lst a xs, .fz (.str z)] ∧ DS xs ∧ z.length ≤ 2100 ∧ ∀ y : Str, y.length ≤ 5 * z.length + 20 → ∀ ys, DS ys → P (.fz (.str y)) [.lst a ys, .fz (.str z)]
structure sp_number_of (os : List O) (P : O → List O → Prop) : Prop where
  ex : ∃ z, os = [.fz (.str z)] ∧ z.length ≤ 13000 ∧ P (.fz (optI (numW z))) os
structure sp_numbers_of (os : List O) (P : O → List O → Prop) : Prop where
  ex : ∃ zs : List Str, os = [.fz (.lst (zs.map .str))] ∧ (zs.length ≤ 13000 ∧ ∀ z ∈ zs, z.length ≤ 13000) ∧ P (.fz (optR (numsW zs))) os
structure sp_pair_of (os : List O) (P : O → List O → Prop) : Prop where
  ex : ∃ zs : List Str, os = [.fz (.lst (zs.map .str))] ∧ zs ≠ [] ∧ (zs.length ≤ 13000 ∧ ∀ z ∈ zs, z.length ≤ 13000) ∧ P (.fz (optR (pairW zs))) os
structure sp__law_numbers (os : List O) (P : O → List O → Prop) : Prop where
  ex : ∃ zs : List Str, os = [.fz (.lst (zs.map .str))] ∧ (zs.length ≤ 13000 ∧ ∀ z ∈ zs, z.length ≤ 13000) ∧ P (.fz (optR (numsW zs))) os
structure sp_Reading_init [Zc] (os : List O) (P : O → List O → Prop) : Prop where
  ex : ∃ a dx, os = [.ins a dx Zc.cReading []] ∧ ∀ b, P (.fz .non) [.ins a dx Zc.cReading [("found", .dcT b []), ("last", .fz .non)]]
structure sp_Reading_take_row [Zc] (os : List O) (P : O → List O → Prop) : Prop where
  ex : ∃ a dx b m n z, os = [.ins a dx Zc.cReading [("found", .dcT b (papT m)), ("last", .fz (lastD m))], .fz (.str z)] ∧ PapI n m ∧ n ≤ 12000 ∧ z.length ≤ 12000 ∧
    P (.fz (.bl (stp m (Txt.split z " ")).isSome)) [.ins a dx Zc.cReading [("found", .dcT b (papT ((stp m (Txt.split z " ")).getD m))), ("last", .fz (lastD ((stp m (Txt.split z " ")).getD m)))], .fz (.str z)]
structure sp_read_paper [Zc] (os : List O) (P : O → List O → Prop) (R : Ex → List O → Prop) : Prop where
  ex : (∃ z, os = [.fz (.str z)] ∧ z.length ≤ 11000 ∧ (∀ k, rdT z = .bad k → R ⟨Zc.cNoText, [("row", .int k)]⟩ os) ∧ ∀ m, rdT z = .good m → ∀ b, P (.dcT b (papT m)) os) ∨ ∃ d, os = [.fz d] ∧ noStr d ∧ R ⟨Zc.cNoText, [("row", .int 0)]⟩ os
structure sp__law_tried (os : List O) (P : O → List O → Prop) : Prop where
  ex : (∃ z, os = [.fz (.str z)] ∧ z.length ≤ 11000 ∧ resP (rdT z) P os) ∨ ∃ d, os = [.fz d] ∧ noStr d ∧ P (.fz (.int 0)) os
structure sp__law_read (os : List O) (P : O → List O → Prop) : Prop where
  ex : ∃ z, os = [.fz (.str z)] ∧ z.length ≤ 11000 ∧ resP (rdT z) P os
theorem len__law_state : ∀ os P, sp__law_state os P → os.length = 1 := fun os P ⟨_, e, _⟩ => by rw [e]; rfl
theorem len__law_draw : ∀ os P, sp__law_draw os P → os.length = 2 := spDraw_len
theorem len__law_text : ∀ os P, sp__law_text os P → os.length = 1 := fun os P ⟨_, _, e, _⟩ => by rw [e]; rfl
theorem len__law_bent : ∀ os P, sp__law_bent os P → os.length = 2 := fun os P ⟨_, _, _, e, _⟩ => by rw [e]; rfl
theorem len_number_of : ∀ os P, sp_number_of os P → os.length = 1 := fun os P ⟨_, e, _⟩ => by rw [e]; rfl
theorem len_numbers_of : ∀ os P, sp_numbers_of os P → os.length = 1 := fun os P ⟨_, e, _⟩ => by rw [e]; rfl
theorem len_pair_of : ∀ os P, sp_pair_of os P → os.length = 1 := fun os P ⟨_, e, _⟩ => by rw [e]; rfl
theorem len__law_numbers : ∀ os P, sp__law_numbers os P → os.length = 1 := fun os P ⟨_, e, _⟩ => by rw [e]; rfl
theorem len_Reading_init [Zc] : ∀ os P, sp_Reading_init os P → os.length = 1 := fun os P ⟨_, _, e, _⟩ => by rw [e]; rfl
theorem len_Reading_take_row [Zc] : ∀ os P, sp_Reading_take_row os P → os.length = 2 := fun os P ⟨_, _, _, _, _, _, e, _⟩ => by rw [e]; rfl
theorem len_read_paper [Zc] : ∀ os P R, sp_read_paper os P R → os.length = 1 := fun os P R ⟨h⟩ => by
  rcases h with ⟨_, e, _⟩ | ⟨_, e, _⟩ <;> rw [e] <;> rfl
theorem len__law_tried : ∀ os P, sp__law_tried os P → os.length = 1 := fun os P ⟨h⟩ => by
  rcases h with ⟨_, e, _⟩ | ⟨_, e, _⟩ <;> rw [e] <;> rfl
theorem len__law_read : ∀ os P, sp__law_read os P → os.length = 1 := fun os P ⟨_, e, _⟩ => by rw [e]; rfl
def sp_law : SpT := lawSp 63
theorem len_law : ∀ os P, sp_law os P → os.length = 1 := lawSp_len
def wb__law_state : WS :=
  (wSeq (wSet 1 (wLc (wWalk (wVar 0)) (gN 2) wYes (wFz (wC1 semAbs (wLook 2))) [2]))
    (wSeq (wIfS (wTst (wCmpL semEq 1 (wFrz (wLst wNilO)))) (wSet 1 (wLst (wConsO (wFz (wC (.int 1))) wNilO))) wSkip)
    (wRet (wLst (wConsO (wMov 1) (wConsO (wFz (wC (.int 0))) (wConsO (wFz (wC (.int 1))) wNilO)))))))
def wb_Reading_init [Zc] : WS :=
  (wSeq (wSetA Zc.cReading ["found", "last"] 0 "found" 0 wDct0T)
    (wSetA Zc.cReading ["found", "last"] 1 "last" 0 (wFz (wC .non))))
def wb_number_of : WS :=
  (wSeq (wIfS (wOr (wNot (wTst (wChain semLe semLe (wC (.int 1)) (wC1 semLen (wLook 0)) (wC (.int 5))))) (wNot (wTru (wC1 semAll (wFrz (wLc (wWalk (wVar 0)) (gN 1) wYes (wFz (wCmpL (semInD false) 1 (wC (.str ("0123456789" : Str))))) [1])))))) (wRet (wFz (wC .non))) wSkip)
    (wRet (wIf (wOr (wTst (wCmpL semEq 0 (wC (.str ("0" : Str))))) (wTst (wCmp semNe (wIxL 0 (wC (.int 0))) (wC (.str ("0" : Str)))))) (wFz (wC1 semIntS (wLook 0))) (wFz (wC .non)))))
def wb_numbers_of : WS :=
  (wSeq (wSet 1 (wLc (wWalk (wVar 0)) (gN 2) wYes (wCall sp_number_of (wCons (wVar 2) wNil)) [2]))
    (wRet (wIf (wTst (wCmp semNoneInI (wC .non) (wLook 1))) (wFz (wC .non)) (wO1 semTuple (wVar 1)))))
def wb_pair_of : WS :=
  (wSeq (wIfS (wOr (wTst (wCmp semNe (wIxL 0 (wC (.int 0))) (wC (.str ("pair" : Str))))) (wTst (wCmp semNe (wC1 semLen (wLook 0)) (wC (.int 3))))) (wRet (wFz (wC .non))) wSkip)
    (wRet (wCall sp_numbers_of (wCons (wFrz (wSl (wVar 0) (wSoP (wC (.int 1))) wNoP)) wNil))))
def wb_Reading_take_row [Zc] : WS :=
  (wSeq (wSet 2 (wSplit (wVar 1) (wC (.str (" " : Str)))))
    (wSeq (wPar 3 4 (wFrz (wCall sp_pair_of (wCons (wVar 2) wNil))) (wFrz (wCall sp_numbers_of (wCons (wVar 2) wNil))))
    (wSeq (wIfS (wAnd (wTst (wCmpL (semIs true) 3 (wC .non))) (wOr (wTst (wCmp (semIs false) (wFld Zc.cReading ["found", "last"] 1 0) (wC .non))) (wTst (wCmp semLtD (wFld Zc.cReading ["found", "last"] 1 0) (wLook 3))))) (wSeq (wSetA Zc.cReading ["found", "last"] 1 "last" 0 (wFz (wVar 3)))
    (wSeq (wSetAK Zc.cReading ["found", "last"] 0 0 (wVar 3) (wTup wNil))
    (wRet (wFz (wC (.bl true)))))) wSkip)
    (wSeq (wIfS (wOr (wTst (wCmp (semIs false) (wFld Zc.cReading ["found", "last"] 1 0) (wC .non))) (wTst (wCmpL (semIs false) 4 (wC .non)))) (wRet (wFz (wC (.bl false)))) wSkip)
    (wSeq (wAugAK Zc.cReading ["found", "last"] 0 0 (wFld Zc.cReading ["found", "last"] 1 0) (wTup (wCons (wVar 4) wNil)))
    (wRet (wFz (wC (.bl true)))))))))
def wb_read_paper [Zc] : WS :=
  (wSeq (wIfS (wNot (wTru (wIsiG .str (wLook 0)))) (wRaise1 Zc.cNoText "row" (wC (.int 0))) wSkip)
    (wSeq (wAsg (gStar 2 0 (gsCons (gN 1) (gsCons (gN 2) gsNil))) (wFrz (wSplit (wVar 0) (wC (.str ("\n" : Str))))))
    (wSeq (wSet 1 (wIf (wTst (wCmpL semEq 2 (wC (.str ("" : Str))))) (wFz (wVar 1)) (wBin semAdd (wVar 1) (wFrz (wLst (wConsO (wFz (wVar 2)) wNilO))))))
    (wSeq (wSet 3 (wMake sp_Reading_init Zc.cReading wNil))
    (wSeq (wFor (wEnum (wVar 1)) (gT 2 (gsCons (gN 4) (gsCons (gN 5) gsNil))) (wIfS (wNot (wTru (wFrz (wMet sp_Reading_take_row Zc.cReading ["found", "last"] 3 (wCons (wVar 5) wNil))))) (wRaise1 Zc.cNoText "row" (wVar 4)) wSkip))
    (wSeq (wIfS (wTst (wCmpL semNe 2 (wC (.str ("" : Str))))) (wRaise1 Zc.cNoText "row" (wC1 semLen (wLook 1))) wSkip)
    (wRet (wMvA Zc.cReading ["found", "last"] 0 3))))))))
def wb__law_tried [Zc] : WS :=
  (wSeq (wAsg (gT 2 (gsCons (gN 1) (gsCons (gN 2) gsNil))) (wTup (wCons (wC .non) (wCons (wC .non) wNil))))
    (wSeq (wTryK 3 2 [Zc.cNoText] (wSetX 1 (wCallX sp_read_paper (wCons (wVar 0) wNil))))
    (wSeq (wIfS (wTst (wCmpL (semIs false) 2 (wC .non))) (wRetV 1) wSkip)
    (wSeq (wSet 4 (wFz (wAndV (wIsX [(Zc.cNoText, true)] (wVar 2)) (wAndV (wIsX [(Zc.cNoText, true)] (wVar 2)) (wNotV (wIsX [(Zc.cNoText, false)] (wVar 2)))))))
    (wRet (wIf (wTru (wLook 4)) (wFz (wXfld [Zc.cNoText] "row" (wVar 2))) (wFz (wC (.str ("other" : Str))))))))))
def wb__law_draw : WS :=
  (wSeq (wSet 2 (wBin semMod (wIxL 0 (wC (.int 1))) (wC1 semLen (wLookIx 0 0))))
    (wSeq (wSet 3 (wFz (wIxLL 0 0 (wVar 2))))
    (wSeq (wIfS (wTst (wCmpL semGe 3 (wFrz (wBin semPow (wC (.int 10)) (wC (.int 18)))))) (wSeq (wSetIxx 0 0 (wVar 2) (wFrz (wBin semDiv (wVar 3) (wVar 1))))
    (wRet (wBin semMod (wVar 3) (wVar 1)))) wSkip)
    (wSeq (wSetIx 0 (wC (.int 1)) (wBin semAdd (wIxL 0 (wC (.int 1))) (wC (.int 1))))
    (wSeq (wSetIx 0 (wC (.int 2)) (wBin semMod (wFrz (wBin semAdd (wFrz (wBin semAdd (wFrz (wBin semMul (wIxL 0 (wC (.int 2))) (wC (.int 48271)))) (wVar 3))) (wC (.int 12345)))) (wC (.int 2147483647))))
    (wRet (wBin semMod (wFrz (wBin semDiv (wFrz (wBin semMod (wFrz (wBin semMul (wIxL 0 (wC (.int 2))) (wIxL 0 (wC (.int 2))))) (wC (.int 2147483629)))) (wC (.int 16)))) (wVar 1))))))))
def wb__law_text : WS :=
  (wSeq (wAsg (gT 2 (gsCons (gN 1) (gsCons (gN 2) gsNil))) (wTup (wCons (wC (.str ("" : Str))) (wCons (wC (.int 0)) wNil))))
    (wSeq (wFor (wRng1 (wFrz (wCallS sp__law_draw 0 (wCons (wC (.int 5)) wNil)))) (gN 3) (wSeq (wSet 2 (wBin semAdd (wVar 2) (wFrz (wCallS sp__law_draw 0 (wCons (wC (.int 3)) wNil)))))
    (wSeq (wSet 1 (wBin semAdd (wFrz (wBin semAdd (wVar 1) (wJoin (wC (.str (" " : Str))) (wFrz (wLst (wConsO (wFz (wC (.str ("pair" : Str)))) (wConsO (wFz (wC1 semStr (wLook 2))) (wConsO (wFz (wC1 semStr (wFrz (wBin semAdd (wFrz (wBin semMul (wC (.int 10)) (wVar 3))) (wFrz (wCallS sp__law_draw 0 (wCons (wC (.int 10)) wNil))))))) wNilO)))))))) (wC (.str ("\n" : Str)))))
    (wFor (wRng1 (wFrz (wCallS sp__law_draw 0 (wCons (wC (.int 4)) wNil)))) (gN 4) (wSet 1 (wBin semAdd (wFrz (wBin semAdd (wVar 1) (wJoin (wC (.str (" " : Str))) (wFrz (wLc (wRng1 (wFrz (wBin semAdd (wC (.int 1)) (wFrz (wCallS sp__law_draw 0 (wCons (wC (.int 4)) wNil)))))) (gN 5) wYes (wFz (wC1 semStr (wFrz (wCallS sp__law_draw 0 (wCons (wC (.int 997)) wNil))))) [5]))))) (wC (.str ("\n" : Str)))))))))
    (wRetV 1)))
def wb__law_bent : WS :=
  (wSeq (wPar 2 3 (wFrz (wCallS sp__law_draw 0 (wCons (wC (.int 9)) wNil))) (wFrz (wCallS sp__law_draw 0 (wCons (wFrz (wBin semAdd (wC1 semLen (wLook 1)) (wC (.int 1)))) wNil))))
    (wSeq (wSet 4 (wFz (wC (.str ("0123456789 pair\n-+_." : Str)))))
    (wSeq (wSet 5 (wFz (wIxL 4 (wFrz (wCallS sp__law_draw 0 (wCons (wC1 semLen (wLook 4)) wNil))))))
    (wSeq (wSet 6 (wSplit (wVar 1) (wC (.str ("\n" : Str)))))
    (wSeq (wPar 7 8 (wFrz (wCallS sp__law_draw 0 (wCons (wC1 semLen (wLook 6)) wNil))) (wFrz (wCallS sp__law_draw 0 (wCons (wC1 semLen (wLook 6)) wNil))))
    (wSeq (wPar 9 10 (wFrz (wSl (wVar 1) wNoP (wSoP (wVar 3)))) (wFrz (wSl (wVar 1) (wSoP (wVar 3)) wNoP)))
    (wSeq (wIfS (wTst (wCmpL semLt 2 (wC (.int 4)))) (wRet (wFz (wIx (wFrz (wLst (wConsO (wBin semAdd (wFrz (wBin semAdd (wVar 9) (wVar 5))) (wVar 10)) (wConsO (wBin semAdd (wFrz (wBin semAdd (wVar 9) (wVar 5))) (wFrz (wSl (wVar 10) (wSoP (wC (.int 1))) wNoP))) (wConsO (wBin semAdd (wVar 9) (wFrz (wSl (wVar 10) (wSoP (wC (.int 1))) wNoP))) (wConsO (wBin semAdd (wFrz (wBin semAdd (wVar 9) (wC (.str ("0" : Str))))) (wVar 10)) wNilO)))))) (wVar 2)))) wSkip)
    (wSeq (wIfS (wTst (wCmpL semEq 2 (wC (.int 4)))) (wRet (wFz (wJoin (wC (.str ("\n" : Str))) (wFrz (wBin semAdd (wFrz (wSl (wVar 6) wNoP (wSoP (wFrz (wBin semAdd (wVar 7) (wC (.int 1))))))) (wFrz (wSl (wVar 6) (wSoP (wVar 7)) wNoP))))))) wSkip)
    (wSeq (wIfS (wTst (wCmpL semEq 2 (wC (.int 5)))) (wRet (wFz (wJoin (wC (.str ("\n" : Str))) (wFrz (wBin semAdd (wFrz (wSl (wVar 6) wNoP (wSoP (wVar 7)))) (wFrz (wSl (wVar 6) (wSoP (wFrz (wBin semAdd (wVar 7) (wC (.int 1))))) wNoP))))))) wSkip)
    (wSeq (wIfS (wTst (wCmpL semEq 2 (wC (.int 6)))) (wSeq (wSet 11 (wBin semAdd (wFrz (wSl (wVar 6) wNoP (wSoP (wVar 7)))) (wFrz (wSl (wVar 6) (wSoP (wFrz (wBin semAdd (wVar 7) (wC (.int 1))))) wNoP))))
    (wRet (wFz (wJoin (wC (.str ("\n" : Str))) (wFrz (wBin semAdd (wFrz (wBin semAdd (wFrz (wSl (wVar 11) wNoP (wSoP (wVar 8)))) (wFrz (wSl (wVar 6) (wSoP (wVar 7)) (wSoP (wFrz (wBin semAdd (wVar 7) (wC (.int 1))))))))) (wFrz (wSl (wVar 11) (wSoP (wVar 8)) wNoP)))))))) wSkip)
    (wSeq (wSet 12 (wLst (wConsO (wFz (wC (.str ("pair 1" : Str)))) (wConsO (wFz (wC (.str ("pair 1 2 3" : Str)))) (wConsO (wFz (wC (.str ("pair 0 0" : Str)))) (wConsO (wFz (wC (.str ("99999" : Str)))) (wConsO (wFz (wC (.str ("100000" : Str)))) (wConsO (wFz (wC (.str ("00" : Str)))) (wConsO (wFz (wC (.str ("" : Str)))) (wConsO (wFz (wC (.str (" " : Str)))) (wConsO (wFz (wC (.str ("pair 2 100000" : Str)))) (wConsO (wFz (wC (.str ("pairs 1 2" : Str)))) (wConsO (wFz (wC (.str ("1  2" : Str)))) wNilO)))))))))))))
    (wSeq (wIfS (wTst (wCmpL semEq 2 (wC (.int 7)))) (wRet (wFz (wJoin (wC (.str ("\n" : Str))) (wFrz (wBin semAdd (wFrz (wBin semAdd (wFrz (wSl (wVar 6) wNoP (wSoP (wVar 7)))) (wFrz (wLst (wConsO (wFz (wIxL 12 (wFrz (wCallS sp__law_draw 0 (wCons (wC (.int 11)) wNil))))) wNilO))))) (wFrz (wSl (wVar 6) (wSoP (wVar 7)) wNoP))))))) wSkip)
    (wRet (wSl (wVar 1) wNoP (wSoP (wNeg (wC (.int 1))))))))))))))))))
def wb__law_numbers : WS :=
  (wSeq (wFor (wWalk (wVar 0)) (gN 1) (wSeq (wSet 2 (wLc (wWalk (wVar 1)) (gN 3) (wTst (wCmpL (semInD true) 3 (wC (.str ("0123456789" : Str))))) (wFz (wVar 3)) [3]))
    (wIfS (wOr (wNot (wTst (wChain semLe semLe (wC (.int 1)) (wC1 semLen (wLook 1)) (wC (.int 5))))) (wOr (wTst (wCmpL semNe 2 (wFrz (wLst wNilO)))) (wAnd (wTst (wCmp semEq (wIxL 1 (wC (.int 0))) (wC (.str ("0" : Str))))) (wTst (wCmpL semNe 1 (wC (.str ("0" : Str)))))))) (wRet (wFz (wC .non))) wSkip)))
    (wRet (wO1 semTuple (wFrz (wLc (wWalk (wVar 0)) (gN 1) wYes (wFz (wC1 semIntS (wLook 1))) [1])))))
def wb__law_read : WS :=
  (wSeq (wSet 1 (wSplit (wVar 0) (wC (.str ("\n" : Str)))))
    (wSeq (wSet 2 (wFz (wCmp semNe (wIxL 1 (wNeg (wC (.int 1)))) (wC (.str ("" : Str))))))
    (wSeq (wSet 1 (wIf (wTru (wLook 2)) (wFz (wVar 1)) (wSl (wVar 1) wNoP (wSoP (wNeg (wC (.int 1)))))))
    (wSeq (wParO 3 4 wDct0T (wFz (wC .non)))
    (wSeq (wFor (wEnum (wVar 1)) (gT 2 (gsCons (gN 5) (gsCons (gN 6) gsNil))) (wSeq (wSet 7 (wSplit (wVar 6) (wC (.str (" " : Str)))))
    (wSeq (wSet 8 (wIf (wAnd (wTst (wCmp semEq (wIxL 7 (wC (.int 0))) (wC (.str ("pair" : Str))))) (wTst (wCmp semEq (wC1 semLen (wLook 7)) (wC (.int 3))))) (wCall sp__law_numbers (wCons (wFrz (wSl (wVar 7) (wSoP (wC (.int 1))) wNoP)) wNil)) (wFz (wC .non))))
    (wSeq (wSet 9 (wCall sp__law_numbers (wCons (wVar 7) wNil)))
    (wIfS (wAnd (wTst (wCmpL (semIs true) 8 (wC .non))) (wOr (wTst (wCmpL (semIs false) 4 (wC .non))) (wTst (wCmp semLtD (wVar 4) (wLook 8))))) (wAsg (gT 2 (gsCons (gIxK 3 (wVar 8)) (gsCons (gN 4) gsNil))) (wTup (wCons (wTup wNil) (wCons (wVar 8) wNil)))) (wIfS (wAnd (wTst (wCmpL (semIs true) 4 (wC .non))) (wTst (wCmpL (semIs true) 9 (wC .non)))) (wSetK 3 (wVar 4) (wFrz (wBin semAdd (wIxD 3 (wVar 4)) (wTup (wCons (wVar 9) wNil))))) (wRetV 5)))))))
    (wRet (wIf (wTru (wLook 2)) (wFz (wC1 semLen (wLook 1))) (wMov 3))))))))
def wb_law : WS :=
  (wSeq (wSet 1 (wCall sp__law_state (wCons (wVar 0) wNil)))
    (wSeq (wSet 2 (wBin semMulS1 (wC (.str ("9" : Str))) (wC (.int 5000))))
    (wSeq (wIfS (wTst (wCmp semNe (wFrz (wLst (wConsO (wCall sp__law_tried (wCons (wFrz (wBin semAdd (wFrz (wBin semAdd (wC (.str ("pair 0 " : Str))) (wVar 2))) (wC (.str ("\n" : Str))))) wNil)) (wConsO (wCall sp__law_tried (wCons (wFrz (wBin semAdd (wFrz (wBin semAdd (wC (.str ("pair 0 0\n" : Str))) (wVar 2))) (wC (.str ("\n" : Str))))) wNil)) wNilO)))) (wFrz (wLst (wConsO (wFz (wC (.int 0))) (wConsO (wFz (wC (.int 1))) wNilO)))))) (wRet (wFz (wC (.bl false)))) wSkip)
    (wSeq (wFor (wRng1 (wC (.int 6))) (gN 3) (wSeq (wSet 4 (wCallS sp__law_text 1 wNil))
    (wSeq (wFor (wRng1 (wFrz (wCallS sp__law_draw 1 (wCons (wC (.int 3)) wNil)))) (gN 5) (wSet 4 (wCallS sp__law_bent 1 (wCons (wVar 4) wNil))))
    (wSeq (wPar 6 7 (wFrz (wCall sp__law_read (wCons (wVar 4) wNil))) (wFrz (wCall sp__law_tried (wCons (wVar 4) wNil))))
    (wSeq (wIfS (wOr (wTst (wCmp semNe (wIsiG .int (wLook 6)) (wIsiG .int (wLook 7)))) (wTst (wCmpL semNeA 7 (wLook 6)))) (wRet (wFz (wC (.bl false)))) wSkip)
    (wSeq (wSet 8 (wLst (wConsO (wFz (wC .non)) (wConsO (wFz (wC (.int 0))) (wConsO (wFz (wC (.bl true))) (wConsO (wFz (wFrz (wLst (wConsO (wFz (wC (.str ("pair 0 0" : Str)))) wNilO)))) (wConsO (wFz (wTup (wCons (wC (.str ("pair 0 0\n" : Str))) wNil))) (wConsO (wFz (wFrz wDct0T)) (wConsO (wFz (wFrz (wDisp1T (wTup (wCons (wC (.int 0)) (wCons (wC (.int 0)) wNil))) (wTup wNil)))) wNilO)))))))))
    (wSeq (wSet 7 (wCall sp__law_tried (wCons (wIxL 8 (wFrz (wCallS sp__law_draw 1 (wCons (wC (.int 7)) wNil)))) wNil)))
    (wIfS (wOr (wNot (wTru (wIsiG .int (wLook 7)))) (wTst (wCmpL semNe 7 (wC (.int 0))))) (wRet (wFz (wC (.bl false)))) wSkip))))))))
    (wRet (wFz (wC (.bl true))))))))
/-! texts taken apart at a sign -/
theorem ext_tlS {x y : Str} (h : tlS x = tlS y) : x = y := TL.ext_tl h
theorem tlS_app (x y : Str) : tlS (x ++ y) = tlS x ++ tlS y := TL.tl_append x y
theorem tlS_len (x : Str) : x.length = (tlS x).length := TL.len_tl x
theorem mk_tlS (z : Str) : mkS (tlS z) = z := TL.mk_tl z
theorem nl_tl : tlS ("\n" : Str) = [10] := by decide +kernel
theorem bl_tl : tlS (" " : Str) = [32] := by decide +kernel
theorem split_nl (z : Str) : Txt.split z "\n" = (TL.spl [10] 0 [] (tlS z)).map mkS := by
  refine TL.map_tl_inj ?_
  rw [TL.split_spl z "\n" (by rw [show TL.tl ("\n" : Str) = [10] from nl_tl]; simp) (TL.kind_ok (by decide +kernel)), show TL.tl ("\n" : Str) = [10] from nl_tl, List.map_map]
  exact (List.map_id'' (fun _ => rfl) _).symm
theorem split_bl (z : Str) : Txt.split z " " = (TL.spl [32] 0 [] (tlS z)).map mkS := by
  refine TL.map_tl_inj ?_
  rw [TL.split_spl z " " (by rw [show TL.tl (" " : Str) = [32] from bl_tl]; simp) (TL.kind_ok (by decide +kernel)), show TL.tl (" " : Str) = [32] from bl_tl, List.map_map]
  exact (List.map_id'' (fun _ => rfl) _).symm
theorem splc_sum (s : Nat) : ∀ (l acc : List Nat), ((TL.spl [s] 0 acc l).map fun p => p.length + 1).sum = acc.length + l.length + 1 ∧ TL.spl [s] 0 acc l ≠ []
  | [], acc => by rw [TL.spl_nil]; exact ⟨by simp, by simp⟩
  | c :: r, acc => by
    cases e : TL.pre [s] (c :: r)
    · rw [TL.spl_miss e]
      obtain ⟨h1, h2⟩ := splc_sum s r (acc ++ [c])
      refine ⟨?_, h2⟩
      rw [h1]
      simp only [List.length_append, List.length_cons, List.length_nil]
      omega
    · rw [TL.spl_hit e]
      obtain ⟨h1, h2⟩ := splc_sum s r []
      refine ⟨?_, by simp⟩
      rw [List.map_cons, List.sum_cons]
      show acc.length + 1 + ((TL.spl [s] 0 [] r).map fun p => p.length + 1).sum = _
      rw [h1, List.length_cons, List.length_nil]
      omega
/-- the signs of some texts, and one more for each -/
def tot (ps : List Str) : Nat := (ps.map fun p => p.length + 1).sum
theorem tot_cons (p : Str) (ps : List Str) : tot (p :: ps) = p.length + 1 + tot ps := List.sum_cons
theorem tot_app (ps qs : List Str) : tot (ps ++ qs) = tot ps + tot qs := by
  unfold tot
  rw [List.map_append, List.sum_append]
theorem tot_mk (l : List (List Nat)) : tot (l.map mkS) = (l.map fun p => p.length + 1).sum := by
  unfold tot
  rw [List.map_map]
  congr 1
theorem tot_nl (z : Str) : tot (Txt.split z "\n") = z.length + 1 ∧ Txt.split z "\n" ≠ [] := by
  obtain ⟨h1, h2⟩ := splc_sum 10 (tlS z) []
  rw [split_nl, tot_mk, h1, tlS_len]
  exact ⟨by simp, fun e => h2 (List.map_eq_nil_iff.mp e)⟩
theorem tot_bl (z : Str) : tot (Txt.split z " ") = z.length + 1 ∧ Txt.split z " " ≠ [] := by
  obtain ⟨h1, h2⟩ := splc_sum 32 (tlS z) []
  rw [split_bl, tot_mk, h1, tlS_len]
  exact ⟨by simp, fun e => h2 (List.map_eq_nil_iff.mp e)⟩
theorem tot_mem : ∀ {ps : List Str} {p : Str}, p ∈ ps → p.length + 1 ≤ tot ps
  | q :: ps, p, h => by
    rw [tot_cons]
    rcases List.mem_cons.mp h with e | e
    · rw [e]; omega
    · have := tot_mem e; omega
theorem tot_len : ∀ (ps : List Str), ps.length ≤ tot ps
  | [] => Nat.zero_le _
  | p :: ps => by
    have := tot_len ps
    rw [tot_cons, List.length_cons]; omega
theorem tot_take (n : Nat) (ps : List Str) : tot (ps.take n) ≤ tot ps := by
  have := tot_app (ps.take n) (ps.drop n)
  rw [List.take_append_drop] at this
  omega
theorem tot_drop (n : Nat) (ps : List Str) : tot (ps.drop n) ≤ tot ps := by
  have := tot_app (ps.take n) (ps.drop n)
  rw [List.take_append_drop] at this
  omega
theorem join_tot {y : Str} (hy : y.length ≤ 1) (ps : List Str) : (Txt.join y ps).length ≤ tot ps ∧ (ps.map (·.length)).sum + ps.length * y.length ≤ tot ps := by
  have h1 : (ps.map (·.length)).sum + ps.length * 1 = tot ps := by
    induction ps with
    | nil => rfl
    | cons p ps ih => rw [tot_cons, List.map_cons, List.sum_cons, List.length_cons]; omega
  have h2 : ps.length * y.length ≤ ps.length * 1 := Nat.mul_le_mul_left _ hy
  have h3 := PySem.StrLaws.join_length_le y ps
  rw [TL.join_eq]
  exact ⟨by omega, by omega⟩
theorem O_frzL_ints (ns : List Int) : O.frzL (ns.map fun n => O.fz (.int n)) = ns.map .int := frzL_mapfz D.int ns
theorem does__law_draw : ∀ os P, sp__law_draw os P → wb__law_draw (start0 4 os) (endsOf os P) := by
  rintro os P ⟨a, xs, many, rfl, ⟨c, ns, at_, mix, rfl, hne, hns, hat, hm0, hm1⟩, hp, hp2, k⟩
  have hl : 0 < ns.length := List.length_pos_iff.mpr hne
  walk_at "tw"
  refine ⟨_, _, rfl, rfl, ?_⟩
  walk_at "tw"
  refine ⟨c, _, rfl, ?_⟩
  walk_at "tw"
  refine ⟨ns.map .int, congrArg some (O_frzL_ints ns), ?_⟩
  walk_at "tw"
  have hl' : (0 : Int) < ((ns.map D.int).length : Int) := by rw [List.length_map]; omega
  refine ⟨hl', ?_⟩
  generalize hat2 : at_ % ((ns.map D.int).length : Int) = at2
  have h20 : 0 ≤ at2 := hat2 ▸ Int.emod_nonneg _ (by omega)
  have h21 : at2 < (ns.length : Int) := by
    have := Int.emod_lt_of_pos at_ hl'
    rw [hat2, List.length_map] at this
    exact this
  walk_at "tw"
  refine ⟨c, _, rfl, ?_⟩
  walk_at "tw"
  refine ⟨_, at2, _, rfl, rfl, atI_map _ h20 h21, ?_⟩
  have hc : 0 ≤ ns[at2.toNat]'(by omega) := hns _ (List.getElem_mem _)
  generalize ns[at2.toNat]'(by omega) = cell at hc ⊢
  walk_at "tw"
  refine ⟨⟨by decide, by decide, by decide⟩, ?_⟩
  walk_at "tw"
  refine ⟨fun _ => ?_, fun hs => ?_⟩
  · -- a large cell
    have hj : at2.toNat < ns.length := by omega
    walk_at "tw"
    refine ⟨cdiv64 hp (by omega), ?_⟩
    walk_at "tw"
    refine ⟨c, _, rfl, ?_⟩
    walk_at "tw"
    refine ⟨_, at2, at2.toNat, 0, rfl, rfl, rfl, ?_, ?_⟩
    · rw [List.length_map]; exact ixN_in h20 h21
    walk_at "tw"
    refine ⟨hp, ⟨rfl, trivial⟩, ?_⟩
    refine k _ _ (Int.emod_nonneg _ (by omega)) (Int.emod_lt_of_pos _ hp) ⟨c, ns.set at2.toNat (cell / many), at_, mix, ?_, ?_, ?_, hat, hm0, hm1⟩
    · rw [List.map_set]
      rfl
    · intro e
      have := congrArg List.length e
      rw [List.length_set] at this
      exact absurd this (by simp; omega)
    · intro n hn
      rcases List.mem_or_eq_of_mem_set hn with h | h
      · exact hns n h
      · subst h; exact Int.ediv_nonneg hc (by omega)
  · have hs' : cell < 1000000000000000000 := by
      have := of_decide_eq_false (by simpa using hs : decide ((10 : Int) ^ 18 ≤ cell) = false)
      omega
    walk_at "tw"
    refine ⟨1, _, rfl, rfl, ?_⟩
    walk_at "tw"
    refine ⟨_, _, rfl, rfl, ?_⟩
    walk_at "tw"
    refine ⟨2, _, rfl, rfl, ?_⟩
    walk_at "tw"
    refine ⟨cmul64 (by omega) (by omega) (by decide) (by decide), ?_⟩
    walk_at "tw"
    refine ⟨by decide, ?_⟩
    generalize hm2 : (mix * 48271 + cell + 12345) % 2147483647 = mix2
    have h0 : 0 ≤ mix2 := hm2 ▸ Int.emod_nonneg _ (by decide)
    have h1 : mix2 < 2 ^ 31 := by
      have := Int.emod_lt_of_pos (mix * 48271 + cell + 12345) (show (0 : Int) < 2147483647 by decide)
      omega
    walk_at "tw"
    refine ⟨_, _, rfl, rfl, ?_⟩
    walk_at "tw"
    refine ⟨2, _, rfl, rfl, ?_⟩
    walk_at "tw"
    refine ⟨2, _, rfl, rfl, ?_⟩
    walk_at "tw"
    refine ⟨cmul64 (by omega) (by omega) (by omega) (by omega), ?_⟩
    walk_at "tw"
    refine ⟨by decide, ?_⟩
    walk_at "tw"
    refine ⟨cdiv64 (by decide) (by decide), ?_⟩
    walk_at "tw"
    refine ⟨hp, ⟨rfl, trivial⟩, ?_⟩
    exact k _ _ (Int.emod_nonneg _ (by omega)) (Int.emod_lt_of_pos _ hp) ⟨c, ns, at_ + 1, mix2, rfl, hne, hns, by omega, h0, h1⟩
theorem does__law_state : ∀ os P, sp__law_state os P → wb__law_state (start0 3 os) (endsOf os P) := by
  rintro os P ⟨ns, rfl, hle, k⟩
  walk_at "tw"
  refine lc_all D.int ns (fun n => .fz (.int (if n < 0 then -n else n))) (fun m hm A B hA => ?_) ?_
  · walk_at "tw"
    exact ⟨fun _ => hA, fun h => nomatch h⟩
  intro c
  walk_at "tw"
  refine ⟨Nat.zero_le _, fun c2 => ?_⟩
  have fin : ∀ (ms : List Int) (c : Addr), ms ≠ [] → (∀ n ∈ ms, 0 ≤ n) → DS [.lst c (ms.map fun n => .fz (.int n)), .fz (.int 0), .fz (.int 1)] := fun ms c h1 h2 => ⟨c, ms, 0, 1, rfl, h1, h2, by decide, by decide, by decide⟩
  rcases ns with _ | ⟨n, ns⟩
  · walk_at "tw"
    refine ⟨true, rfl, ?_⟩
    walk_at "tw"
    refine ⟨fun _ => ?_, fun h => nomatch h⟩
    walk_at "tw"
    refine ⟨by show 1 ≤ sizeLine; decide, fun c3 => ?_⟩
    walk_at "tw"
    refine ⟨by show 3 ≤ sizeLine; decide, fun c5 => ?_⟩
    walk_at "tw"
    refine ⟨trivial, ?_⟩
    exact k c5 _ (fin [1] c3 (by simp) (by simp))
  · walk_at "tw"
    refine ⟨false, rfl, ?_⟩
    walk_at "tw"
    refine ⟨fun h => (nomatch h), fun _ => ?_⟩
    walk_at "tw"
    refine ⟨by show 3 ≤ sizeLine; decide, fun c5 => ?_⟩
    walk_at "tw"
    refine ⟨trivial, ?_⟩
    have := k c5 _ (fin ((n :: ns).map fun n => if n < 0 then -n else n) c (by simp) fun m hm => by
      obtain ⟨x, _, rfl⟩ := List.mem_map.mp hm
      show 0 ≤ if x < 0 then -x else x
      split <;> omega)
    rw [List.map_map] at this
    exact this
theorem figs_iff : ∀ c, c ∈ (Str.ofString "0123456789").cps.toList ↔ dig c = true := fun c => by
  have e : (Str.ofString "0123456789").cps.toList = [48, 49, 50, 51, 52, 53, 54, 55, 56, 57] := by decide +kernel
  rw [e]
  simp only [dig, List.mem_cons, List.not_mem_nil, or_false, Bool.and_eq_true, decide_eq_true_eq]
  omega
theorem all_dig (z : Str) : (tlS z).all dig = true ↔ NumText.AllDigits (tlS z) := by
  rw [List.all_eq_true]
  constructor
  · intro h c hc
    have := h c hc
    simp only [dig, Bool.and_eq_true, decide_eq_true_eq] at this
    exact this
  · intro h c hc
    have := h c hc
    simp only [dig, Bool.and_eq_true, decide_eq_true_eq]
    exact this
theorem ofs_tl : tlS (Str.ofString "0") = [48] := by decide +kernel
theorem head_at {z : Str} (h : 1 ≤ z.length) : atI (tlS z) 0 = some ((tlS z).headD 0) := by
  rw [tlS_len] at h
  cases e : tlS z with
  | nil => rw [e] at h; cases h
  | cons x r => exact atI_in (xs := x :: r) (by decide) (by rw [List.length_cons]; omega)
theorem head_eq (c : Nat) : decide ((⟨#[c]⟩ : Str) = Str.ofString "0") = decide (c = 48) := by
  have : ((⟨#[c]⟩ : Str) = Str.ofString "0") ↔ c = 48 := by
    constructor
    · intro e
      have e1 := congrArg tlS e
      rw [ofs_tl] at e1
      have e1 : [c] = [48] := e1
      injection e1
    · intro e
      rw [e]; decide +kernel
  rw [decide_eq_decide]
  exact this
theorem digs_int (z : Str) (h : NumText.AllDigits (tlS z)) (h1 : 1 ≤ z.length) (h2 : z.length ≤ 640) : intText? z = some (valD (tlS z)) := intText_digits h (fun e => by rw [tlS_len] at h1; have e : tlS z = [] := e; rw [e] at h1; cases h1) (by rw [tlS_len] at h2; show (tlS z).length ≤ 4300; omega)
theorem does_number_of : ∀ os P, sp_number_of os P → wb_number_of (start0 2 os) (endsOf os P) := by
  rintro os P ⟨z, rfl, hz, k⟩
  by_cases hb : 1 ≤ z.length ∧ z.length ≤ 5
  · have z1 : decide ((1 : Int) ≤ (z.length : Int)) = true := decide_eq_true (by omega)
    have z5 : decide ((z.length : Int) ≤ 5) = true := decide_eq_true (by omega)
    walk_at "tw"
    refine ⟨fun _ => ?_, fun h => absurd (z1.symm.trans h) (by decide)⟩
    walk_at "tw"
    refine ⟨fun h => ?_, fun h => ?_⟩
    · have h : (!decide ((z.length : Int) ≤ 5)) = true := h
      rw [z5] at h
      exact absurd h (by decide)
    refine lc_all (fun c : Nat => D.str ⟨#[c]⟩) z.cps.toList (fun c => .fz (.bl (decide (c ∈ (Str.ofString "0123456789").cps.toList)))) (fun c hc A B hA => ?_) ?_
    · walk_at "tw"
      refine ⟨fun _ => ?_, fun h => nomatch h⟩
      exact ⟨c, rfl, hA⟩
    intro b
    walk_at "tw"
    rw [frzL_mapfz (fun c => D.bl (decide (c ∈ (Str.ofString "0123456789").cps.toList)))]
    refine ⟨_, bls_mapf _ _, ?_⟩
    rw [List.all_map]
    have ea : (z.cps.toList.all (id ∘ fun c => decide (c ∈ (Str.ofString "0123456789").cps.toList))) = (tlS z).all dig := by
      show z.cps.toList.all _ = z.cps.toList.all dig
      congr 1
      funext c
      show decide (c ∈ (Str.ofString "0123456789").cps.toList) = dig c
      rw [Bool.eq_iff_iff, decide_eq_true_eq]
      exact figs_iff c
    rw [ea]
    cases hd : (tlS z).all dig with
    | false =>
      walk_at "tw"
      refine ⟨fun _ => ?_, fun h => (nomatch h)⟩
      walk_at "tw"
      rw [show numW z = none from if_neg (fun h => by rw [hd] at h; exact absurd h.2.1 (by decide))] at k
      exact ⟨trivial, k⟩
    | true =>
      have hint := digs_int z ((all_dig z).mp hd) hb.1 (by omega)
      walk_at "tw"
      refine ⟨fun h => (nomatch h), fun _ => ?_⟩
      walk_at "tw"
      refine ⟨fun h0 => ?_, fun h0 => ?_⟩
      · have h0 := of_decide_eq_true h0
        walk_at "tw"
        refine ⟨fun _ => ?_, fun h => (nomatch h)⟩
        walk_at "tw"
        refine ⟨_, hint, by omega, ?_⟩
        walk_at "tw"
        rw [show numW z = some (valD (tlS z)) from if_pos ⟨hb, hd, .inl h0⟩] at k
        exact ⟨trivial, k⟩
      · have h0 := of_decide_eq_false h0
        walk_at "tw"
        refine ⟨(tlS z).headD 0, head_at hb.1, ?_⟩
        walk_at "tw"
        rw [head_eq]
        by_cases hh : (tlS z).headD 0 = 48
        · rw [decide_eq_true hh]
          refine ⟨fun h => (nomatch h), fun _ => ?_⟩
          walk_at "tw"
          rw [show numW z = none from if_neg (fun h => by rcases h.2.2 with e | e; exact h0 e; exact e hh)] at k
          exact ⟨trivial, k⟩
        · rw [decide_eq_false hh]
          refine ⟨fun _ => ?_, fun h => (nomatch h)⟩
          walk_at "tw"
          refine ⟨_, hint, by omega, ?_⟩
          walk_at "tw"
          rw [show numW z = some (valD (tlS z)) from if_pos ⟨hb, hd, .inr hh⟩] at k
          exact ⟨trivial, k⟩
  · rw [show numW z = none from if_neg (fun h => hb h.1)] at k
    walk_at "tw"
    refine ⟨fun h => ?_, fun h => ?_⟩
    · have h := of_decide_eq_true h
      walk_at "tw"
      have : ¬ (z.length : Int) ≤ 5 := fun q => hb ⟨by omega, by omega⟩
      rw [decide_eq_false this]
      refine ⟨fun _ => ?_, fun h2 => (nomatch h2)⟩
      walk_at "tw"
      refine ⟨fun _ => ?_, fun h => (nomatch h)⟩
      walk_at "tw"
      exact ⟨trivial, k⟩
    · walk_at "tw"
      refine ⟨fun _ => ?_, fun h => (nomatch h)⟩
      walk_at "tw"
      refine ⟨fun _ => ?_, fun h => (nomatch h)⟩
      walk_at "tw"
      exact ⟨trivial, k⟩
theorem kP_inj {p q : Pr} (h : kP p = kP q) : p = q := by
  obtain ⟨a, b⟩ := p
  obtain ⟨c, d⟩ := q
  unfold kP at h
  injection h with h1 h2
  injection h2 with h2 _
  injection h1 with h1
  injection h2 with h2
  rw [show a = c from h1, show b = d from h2]
def putP (m : Pap) (q : Pr) (rs : List (List Int)) : Pap := if q ∈ m.map (·.1) then m.map (fun e => if e.1 = q then (e.1, rs) else e) else m ++ [(q, rs)]
theorem papT_key {m : Pap} {q : Pr} : ((papT m).any fun kv => decide (kv.1 = kP q)) = decide (q ∈ m.map (·.1)) := by
  rw [Bool.eq_iff_iff, List.any_eq_true, decide_eq_true_iff]
  constructor
  · rintro ⟨x, hx, h⟩
    obtain ⟨e, he, rfl⟩ := List.mem_map.mp hx
    rw [← kP_inj (of_decide_eq_true h)]
    exact List.mem_map.mpr ⟨e, he, rfl⟩
  · intro h
    obtain ⟨e, he, rfl⟩ := List.mem_map.mp h
    exact ⟨_, List.mem_map.mpr ⟨e, he, rfl⟩, decide_eq_true rfl⟩
theorem papT_put (m : Pap) (q : Pr) (rs : List (List Int)) : putG (papT m) (kP q) (rowsD rs) = papT (putP m q rs) := by
  unfold putG putP
  rw [papT_key]
  by_cases h : q ∈ m.map (·.1)
  · rw [if_pos (decide_eq_true h), if_pos h]
    unfold papT
    rw [List.map_map, List.map_map]
    refine List.map_congr_left fun e _ => ?_
    show (if kP e.1 = kP q then (kP e.1, rowsD rs) else (kP e.1, rowsD e.2)) = _
    by_cases c : e.1 = q
    · rw [if_pos (by rw [c])]
      show _ = ((kP (if e.1 = q then (e.1, rs) else e).1, rowsD (if e.1 = q then (e.1, rs) else e).2) : List Key × D)
      rw [if_pos c]
    · rw [if_neg (fun x => c (kP_inj x))]
      show _ = ((kP (if e.1 = q then (e.1, rs) else e).1, rowsD (if e.1 = q then (e.1, rs) else e).2) : List Key × D)
      rw [if_neg c]
  · rw [if_neg (by simpa using h), if_neg h]
    unfold papT
    rw [List.map_append]; rfl
/-- a paper of j entries at most -/
theorem lastD_app (m : Pap) (e : Pr × List (List Int)) : lastD (m ++ [e]) = pD e.1 := by
  unfold lastD
  rw [List.getLast?_append]; rfl
theorem lastD_or (m : Pap) : (m = [] ∧ lastD m = .non) ∨ ∃ m0 e, m = m0 ++ [e] ∧ lastD m = pD e.1 := by
  rcases List.eq_nil_or_concat m with h | ⟨m0, e, h⟩
  · exact .inl ⟨h, by rw [h]; rfl⟩
  · exact .inr ⟨m0, e, by rw [h]; simp, by rw [h]; simpa using lastD_app m0 e⟩
theorem papT_new {m : Pap} {q : Pr} (h : ∀ e ∈ m, e.1 ≠ q) (rs : List (List Int)) : putG (papT m) (kP q) (rowsD rs) = papT (m ++ [(q, rs)]) := by
  rw [papT_put]
  unfold putP
  rw [if_neg fun hm => by
    obtain ⟨e, he, rfl⟩ := List.mem_map.mp hm
    exact h e he rfl]
theorem papT_more {m : Pap} {q : Pr} (h : ∀ e ∈ m, e.1 ≠ q) (rs rs' : List (List Int)) : putG (papT (m ++ [(q, rs)])) (kP q) (rowsD rs') = papT (m ++ [(q, rs')]) := by
  rw [papT_put]
  unfold putP
  rw [if_pos (by rw [List.map_append]; exact List.mem_append_right _ (List.mem_singleton.mpr rfl)), List.map_append]
  congr 2
  · refine (List.map_congr_left fun e he => ?_).trans (List.map_id _)
    show (if e.1 = q then (e.1, rs') else e) = e
    rw [if_neg (h e he)]
  · show [(if q = q then (q, rs') else (q, rs))] = _
    rw [if_pos rfl]
theorem papT_look {m : Pap} {q : Pr} (h : ∀ e ∈ m, e.1 ≠ q) (rs : List (List Int)) : getG (papT (m ++ [(q, rs)])) (kP q) = some (rowsD rs) := by
  induction m with
  | nil => exact getG_pos rfl
  | cons e m ih =>
    show getG ((kP e.1, rowsD e.2) :: papT (m ++ [(q, rs)])) (kP q) = _
    rw [getG_neg (fun c => h e List.mem_cons_self (kP_inj c))]
    exact ih fun x hx => h x (List.mem_cons_of_mem _ hx)
theorem ltP_data {p q : Pr} (h : ltP p q) : PySem.W.dataLt (pD p).py (pD q).py = true :=
  (PySem.W.dataLt_ii p.1 p.2 q.1 q.2).trans (decide_eq_true h)
theorem alike_pr (p q : Pr) : AlikeD (pD p) (pD q) := by
  refine ⟨rfl, rfl, rfl, fun e => (nomatch e), ?_⟩
  show min (PyData.depth (.tuple [.int p.1, .int p.2])) _ ≤ 40
  refine Nat.le_trans (Nat.min_le_left _ _) ?_
  simp only [PyData.depth, PyData.depthAll]
  decide
theorem sz_12 {n : Nat} (h : n ≤ 13000) : n ≤ sizeLine := Nat.le_trans h (by decide)
theorem sz_lt {n : Nat} (h : n ≤ 13000) : n < sizeLine := Nat.lt_of_le_of_lt h (by decide)
theorem optI_nOrI (ms : List (Option Int)) : (ms.map optI).all D.nOrI = true := by
  rw [List.all_map]
  refine List.all_eq_true.mpr fun o _ => ?_
  cases o <;> rfl
theorem optI_any (ms : List (Option Int)) : (ms.map optI).any D.isN = ms.any Option.isNone := by
  rw [List.any_map]
  congr 1
  funext o
  cases o <;> rfl
theorem optI_fm : ∀ ms : List (Option Int), ms.any Option.isNone = false → ms.map optI = (ms.filterMap id).map .int
  | [], _ => rfl
  | none :: ms, h => by cases h
  | some n :: ms, h => by
    rw [List.map_cons, List.filterMap_cons, optI_fm ms h]; rfl
theorem fm_len : ∀ {ms : List (Option Int)}, ms.any Option.isNone = false → (ms.filterMap id).length = ms.length
  | [], _ => rfl
  | none :: ms, h => by cases h
  | some n :: ms, h => by
    rw [List.filterMap_cons]
    exact congrArg (· + 1) (fm_len (ms := ms) h)
theorem numsW_len {zs : List Str} {r : List Int} (h : numsW zs = some r) : r.length = zs.length := by
  unfold numsW at h
  split at h
  · cases h
  · rename_i e
    have e : (zs.map numW).any Option.isNone = false := by simpa using e
    rw [← Option.some.inj h, fm_len e, List.length_map]
theorem does_numbers_of : ∀ os P, sp_numbers_of os P → wb_numbers_of (start0 3 os) (endsOf os P) := by
  rintro os P ⟨zs, rfl, hz, k⟩
  walk_at "tw"
  refine lc_all D.str zs (fun z => .fz (optI (numW z))) (fun z hm A B hA => ?_) ?_
  · walk_at "tw"
    refine ⟨fun _ => ?_, fun h => nomatch h⟩
    exact ⟨z, rfl, hz.2 z hm, hA⟩
  intro b
  walk_at "tw"
  have ef : O.frzL (zs.map fun z => O.fz (optI (numW z))) = (zs.map numW).map optI := by
    rw [frzL_mapfz (fun z => optI (numW z)), List.map_map]; rfl
  rw [ef]
  refine ⟨optI_nOrI _, ?_⟩
  rw [optI_any]
  unfold numsW at k
  cases e : (zs.map numW).any Option.isNone
  · rw [e, if_neg (by decide)] at k
    walk_at "tw"
    refine ⟨fun h => (nomatch h), fun _ => ?_⟩
    walk_at "tw"
    refine ⟨trivial, ?_⟩
    rw [ef, optI_fm _ e]
    exact k
  · rw [e, if_pos rfl] at k
    walk_at "tw"
    refine ⟨fun _ => ?_, fun h => (nomatch h)⟩
    walk_at "tw"
    exact ⟨trivial, k⟩
theorem cut_tailA {α : Type} (ts : List α) : cutG ts (some 1) none = ts.tail := by
  show (ts.drop (HT.sIx ts.length 0 (some ((1 : Nat) : Int)))).take (HT.sIx ts.length ts.length none - HT.sIx ts.length 0 (some ((1 : Nat) : Int))) = _
  rw [HT.sIx_none, HT.sIx_nat, List.take_of_length_le (by rw [List.length_drop]; omega)]
  cases ts with
  | nil => rfl
  | cons t ts =>
    rw [Nat.min_eq_left (by rw [List.length_cons]; omega)]
    rfl
theorem does_pair_of : ∀ os P, sp_pair_of os P → wb_pair_of (start0 1 os) (endsOf os P) := by
  rintro os P ⟨zs, rfl, hne, hz, k⟩
  obtain ⟨z, r, rfl⟩ := List.exists_cons_of_ne_nil hne
  walk_at "tw"
  refine ⟨.str z, ?_, ?_⟩
  · rw [atI_in (by decide) (by rw [List.length_map]; show 0 < (((r).length + 1 : Nat) : Int); omega)]; rfl
  walk_at "tw"
  by_cases hp : z = Str.ofString "pair"
  · rw [decide_eq_true hp]
    refine ⟨fun h => (nomatch h), fun _ => ?_⟩
    walk_at "tw"
    refine ⟨_, rfl, ?_⟩
    walk_at "tw"
    have el : ((z :: r).map D.str).length = r.length + 1 := by rw [List.length_map, List.length_cons]
    rw [el]
    by_cases hl : r.length = 2
    · rw [decide_eq_true (show ((r.length + 1 : Nat) : Int) = 3 by omega)]
      refine ⟨fun h => (nomatch h), fun _ => ?_⟩
      walk_at "tw"
      intro b
      walk_at "tw"
      rw [O.frzL_map, cutG_map, cut_tailA]
      refine ⟨r, rfl, ⟨by omega, fun y hy => hz.2 y (List.mem_cons_of_mem _ hy)⟩, ?_⟩
      walk_at "tw"
      rw [show pairW (z :: r) = numsW r from if_pos ⟨by rw [hp]; rfl, by rw [List.length_cons, hl]⟩] at k
      exact ⟨trivial, k⟩
    · rw [decide_eq_false (show ¬ ((r.length + 1 : Nat) : Int) = 3 by omega)]
      refine ⟨fun _ => ?_, fun h => (nomatch h)⟩
      walk_at "tw"
      rw [show pairW (z :: r) = none from if_neg (fun h => hl (by have := h.2; rw [List.length_cons] at this; omega))] at k
      exact ⟨trivial, k⟩
  · rw [decide_eq_false hp]
    refine ⟨fun _ => ?_, fun h => (nomatch h)⟩
    walk_at "tw"
    refine ⟨fun _ => ?_, fun h => (nomatch h)⟩
    walk_at "tw"
    rw [show pairW (z :: r) = none from if_neg (fun h => hp (Option.some.inj h.1))] at k
    exact ⟨trivial, k⟩
theorem does_Reading_init [Zc] : ∀ os P, sp_Reading_init os P → wb_Reading_init (start0 1 os) (endsOf os P) := by
  rintro os P ⟨a, dx, rfl, k⟩
  walk_at "tw"
  intro b
  walk_at "tw"
  refine ⟨rfl, rfl, Nat.le_refl _, (by decide), ?_⟩
  walk_at "tw"
  refine ⟨rfl, rfl, Nat.le_refl _, (by show 1 < 1000; decide), ?_⟩
  walk_at "tw"
  exact ⟨⟨rfl, trivial⟩, k b⟩

theorem numsW_none {ws : List Str} (h : numsW ws = none) : optR (numsW ws) = .non := by rw [h]; rfl
theorem numsW_no {pre post : List Str} {z : Str} (h : numW z = none) : numsW (pre ++ z :: post) = none := by
  unfold numsW
  rw [if_pos]
  rw [List.any_map, List.any_eq_true]
  exact ⟨z, List.mem_append_right _ List.mem_cons_self, by show (numW z).isNone = true; rw [h]; rfl⟩
theorem numsW_all {zs : List Str} (h : ∀ z ∈ zs, numW z = some (valD (tlS z))) : numsW zs = some (zs.map fun z => valD (tlS z)) := by
  unfold numsW
  have e : zs.map numW = (zs.map fun z => valD (tlS z)).map some := by
    rw [List.map_map]
    exact List.map_congr_left h
  have e2 : ((zs.map fun z => valD (tlS z)).map some).any Option.isNone = false := by
    rw [List.any_map]
    exact List.any_eq_false.mpr fun _ _ h => nomatch h
  rw [e, e2, if_neg (by decide), List.filterMap_map]
  congr 1
  exact List.filterMap_some
theorem numW_some {z : Str} {v : Int} (h : numW z = some v) : v = valD (tlS z) ∧ 1 ≤ z.length ∧ z.length ≤ 5 ∧ NumText.AllDigits (tlS z) := by
  unfold numW at h
  split at h
  · rename_i c
    exact ⟨(Option.some.inj h).symm, c.1.1, c.1.2, (all_dig z).mp c.2.1⟩
  · cases h
theorem does__law_numbers : ∀ os P, sp__law_numbers os P → wb__law_numbers (start0 4 os) (endsOf os P) := by
  rintro os P ⟨zs, rfl, hz, k⟩
  walk_at "tw"
  refine for_map0 D.str zs (fun pre ρ => (∀ z ∈ pre, numW z = some (valD (tlS z))) ∧ ∃ s1 s2, (s1 = none ∨ ∃ w : Str, s1 = some (.fz (.str w))) ∧ ρ = [some (.fz (.lst (zs.map .str))), s1, s2, none]) ⟨fun _ h => (by cases h), _, _, .inl rfl, rfl⟩ ?_ ?_
  · rintro pre z post ρ e ⟨hpre, s1, s2, _, rfl⟩ N hN
    have no : numW z = none → P (.fz .non) [.fz (.lst (zs.map .str))] := fun h => by
      rw [e, numsW_no h, ← e] at k
      exact k
    walk_at "tw"
    refine lc_mapA (fun c : Nat => D.str ⟨#[c]⟩) z.cps.toList (fun c => if dig c = true then none else some (.fz (.str ⟨#[c]⟩))) (fun c hc A B hA hB => ?_) ?_
    · walk_at "tw"
      refine ⟨c, rfl, ?_⟩
      by_cases hd : dig c = true
      · have e1 : decide (c ∈ (Str.ofString "0123456789").cps.toList) = true := decide_eq_true ((figs_iff c).mpr hd)
        rw [e1]
        walk_at "tw"
        refine ⟨fun h => (nomatch h), fun _ => ?_⟩
        exact hB (if_pos hd)
      · have e1 : decide (c ∈ (Str.ofString "0123456789").cps.toList) = false := decide_eq_false fun h => hd ((figs_iff c).mp h)
        rw [e1]
        walk_at "tw"
        refine ⟨fun _ => ?_, fun h => (nomatch h)⟩
        walk_at "tw"
        exact hA _ (if_neg hd)
    intro b
    have ed : ∀ l : List Nat, O.frzL (l.filterMap fun c => if dig c = true then none else some (O.fz (.str ⟨#[c]⟩))) = [] ↔ l.all dig = true := by
      intro l
      induction l with
      | nil => exact ⟨fun _ => rfl, fun _ => rfl⟩
      | cons c l ih =>
        rw [List.filterMap_cons, List.all_cons, Bool.and_eq_true]
        by_cases hd : dig c = true
        · rw [if_pos hd]
          exact ih.trans ⟨fun h => ⟨hd, h⟩, fun h => h.2⟩
        · rw [if_neg hd]
          exact ⟨fun h => (by cases h), fun h => absurd h.1 hd⟩
    have hodd := ed z.cps.toList
    clear ed
    generalize z.cps.toList.filterMap _ = odd at *
    have hodd : O.frzL odd = [] ↔ (tlS z).all dig = true := hodd
    have yes : ∀ h : (1 ≤ z.length ∧ z.length ≤ 5) ∧ (tlS z).all dig = true ∧ (z = "0" ∨ (tlS z).headD 0 ≠ 48), N [some (.fz (.lst (zs.map .str))), some (.fz (.str z)), some (.lst b odd), none] := fun h =>
      hN _ ⟨fun y hy => by
        rcases List.mem_append.mp hy with q | q
        · exact hpre y q
        · rw [List.mem_singleton.mp q]
          exact if_pos h, _, _, .inr ⟨z, rfl⟩, rfl⟩
    have nw : ¬ ((1 ≤ z.length ∧ z.length ≤ 5) ∧ (tlS z).all dig = true ∧ (z = "0" ∨ (tlS z).headD 0 ≠ 48)) → P (.fz .non) [.fz (.lst (zs.map .str))] := fun h => no (if_neg h)
    walk_at "tw"
    refine ⟨fun h1 => ?_, fun h1 => ?_⟩
    · have h1 := of_decide_eq_true h1
      walk_at "tw"
      by_cases h5 : z.length ≤ 5
      · rw [decide_eq_true (show (z.length : Int) ≤ 5 by omega)]
        refine ⟨fun h => (nomatch h), fun _ => ?_⟩
        walk_at "tw"
        refine ⟨Nat.zero_le _, fun c2 => ?_⟩
        walk_at "tw"
        refine ⟨_, deq_lnil, ?_⟩
        by_cases hd : (tlS z).all dig = true
        · rw [hodd.mpr hd]
          refine ⟨fun h => (nomatch h), fun _ => ?_⟩
          walk_at "tw"
          refine ⟨(tlS z).headD 0, head_at (by omega), ?_⟩
          walk_at "tw"
          rw [head_eq]
          by_cases hh : (tlS z).headD 0 = 48
          · rw [decide_eq_true hh]
            refine ⟨fun _ => ?_, fun h => (nomatch h)⟩
            walk_at "tw"
            by_cases h0 : z = Str.ofString "0"
            · rw [decide_eq_true h0]
              refine ⟨fun h => (nomatch h), fun _ => ?_⟩
              exact yes ⟨⟨by omega, h5⟩, hd, .inl h0⟩
            · rw [decide_eq_false h0]
              refine ⟨fun _ => ?_, fun h => (nomatch h)⟩
              walk_at "tw"
              exact ⟨trivial, nw fun h => by rcases h.2.2 with q | q; exact h0 q; exact q hh⟩
          · rw [decide_eq_false hh]
            refine ⟨fun h => (nomatch h), fun _ => ?_⟩
            walk_at "tw"
            refine ⟨fun h => (nomatch h), fun _ => ?_⟩
            exact yes ⟨⟨by omega, h5⟩, hd, .inr hh⟩
        · rw [show (O.frzL odd).isEmpty = false from by
            cases q : O.frzL odd with
            | nil => exact absurd (hodd.mp q) hd
            | cons _ _ => rfl]
          refine ⟨fun _ => ?_, fun h => (nomatch h)⟩
          walk_at "tw"
          refine ⟨fun _ => ?_, fun h => (nomatch h)⟩
          walk_at "tw"
          exact ⟨trivial, nw fun h => hd h.2.1⟩
      · rw [decide_eq_false (show ¬ (z.length : Int) ≤ 5 by omega)]
        refine ⟨fun _ => ?_, fun h => (nomatch h)⟩
        walk_at "tw"
        refine ⟨fun _ => ?_, fun h => (nomatch h)⟩
        walk_at "tw"
        exact ⟨trivial, nw fun h => h5 h.1.2⟩
    · have h1 := of_decide_eq_false h1
      walk_at "tw"
      refine ⟨fun _ => ?_, fun h => (nomatch h)⟩
      walk_at "tw"
      refine ⟨fun _ => ?_, fun h => (nomatch h)⟩
      walk_at "tw"
      exact ⟨trivial, nw fun h => h1 (by have := h.1.1; omega)⟩
  · rintro ρ ⟨hall, s1, s2, hs1, rfl⟩
    rw [numsW_all hall] at k
    walk_at "tw"
    refine lc_all D.str zs (fun z => .fz (.int (valD (tlS z)))) (fun z hm A B hA => ?_) ?_
    · walk_at "tw"
      refine ⟨fun _ => ?_, fun h => nomatch h⟩
      walk_at "tw"
      obtain ⟨_, h1, h2, h3⟩ := numW_some (hall z hm)
      exact ⟨_, digs_int z h3 h1 (by omega), by omega, hA⟩
    intro b
    have ek : D.tup (O.frzL (zs.map fun z => O.fz (.int (valD (tlS z))))) = optR (some (zs.map fun z => valD (tlS z))) := by
      rw [frzL_mapfz (fun z => D.int (valD (tlS z)))]
      show _ = D.tup ((zs.map fun z => valD (tlS z)).map .int)
      rw [List.map_map]; rfl
    rcases hs1 with rfl | ⟨w, rfl⟩
    · walk_at "tw"
      rw [ek]
      exact ⟨trivial, k⟩
    · walk_at "tw"
      rw [ek]
      exact ⟨trivial, k⟩
theorem dataLt_pr (p q : Pr) : PySem.W.dataLt (pD p).py (pD q).py = decide (ltP p q) := PySem.W.dataLt_ii p.1 p.2 q.1 q.2
theorem asP_row {r : List Int} (h : r.length = 2) : rowD r = pD (asP r) := by
  match r, h with
  | [a, b], _ => rfl
theorem pairW_len {ws : List Str} {r : List Int} (h : pairW ws = some r) : r.length = 2 := by
  unfold pairW at h
  split at h
  · rename_i c
    rw [numsW_len h, List.length_tail, c.2]
  · cases h
theorem snoc_or {α : Type} (m : List α) : m = [] ∨ ∃ m0 e, m = m0 ++ [e] := by
  rcases List.eq_nil_or_concat m with h | ⟨m0, e, h⟩
  · exact .inl h
  · exact .inr ⟨m0, e, by simpa using h⟩
theorem lastLt_snoc (m0 : Pap) (e : Pr × List (List Int)) (q : Pr) : lastLt (m0 ++ [e]) q = decide (ltP e.1 q) := by
  unfold lastLt
  rw [List.getLast?_append]; rfl
theorem addR_snoc (m0 : Pap) (e : Pr × List (List Int)) (ws : List Str) : addR (m0 ++ [e]) ws = (numsW ws).map fun r => m0 ++ [(e.1, e.2 ++ [r])] := by
  have e1 : (m0 ++ [e]).getLast? = some e := by rw [List.getLast?_append]; rfl
  have e2 : (m0 ++ [e]).dropLast = m0 := by rw [List.dropLast_append_of_ne_nil (by simp)]; show m0 ++ [] = m0; rw [List.append_nil]
  unfold addR
  rw [e1, e2]
  cases numsW ws <;> rfl
theorem PapI.ne {n : Nat} {m0 : Pap} {e : Pr × List (List Int)} (h : PapI n (m0 ++ [e])) : ∀ x ∈ m0, x.1 ≠ e.1 := fun x hx c => by
  have h := h.up
  rw [List.map_append, List.pairwise_append] at h
  have := h.2.2 x.1 (List.mem_map.mpr ⟨x, hx, rfl⟩) e.1 (List.mem_singleton.mpr rfl)
  rw [c] at this
  unfold ltP at this
  omega
theorem PapI.lt_all {n : Nat} {m : Pap} {q : Pr} (h : PapI n m) (hq : lastLt m q = true) : ∀ x ∈ m, ltP x.1 q := fun x hx => by
  rcases snoc_or m with rfl | ⟨m0, e, rfl⟩
  · cases hx
  · rw [lastLt_snoc] at hq
    have hq := of_decide_eq_true hq
    have h := h.up
    rw [List.map_append, List.pairwise_append] at h
    rcases List.mem_append.mp hx with c | c
    · have := h.2.2 x.1 (List.mem_map.mpr ⟨x, c, rfl⟩) e.1 (List.mem_singleton.mpr rfl)
      unfold ltP at *
      omega
    · rw [List.mem_singleton.mp c]; exact hq
theorem does_Reading_take_row [Zc] : ∀ os P, sp_Reading_take_row os P → wb_Reading_take_row (start0 5 os) (endsOf os P) := by
  rintro os P ⟨a, dx, b, m, n, z, rfl, hm, hn, hz, k⟩
  have hws := tot_bl z
  walk_at "tw"
  refine ⟨by decide +kernel, sz_12 (by omega), fun y hy => sz_12 (by have := tot_mem hy; omega), fun p => ?_⟩
  generalize hw : Txt.split z " " = ws at *
  have hok : ws.length ≤ 13000 ∧ ∀ y ∈ ws, y.length ≤ 13000 := ⟨by have := tot_len ws; omega, fun y hy => by have := tot_mem hy; omega⟩
  have hsz : (papT m).length < sizeLine := by
    unfold papT
    rw [List.length_map]
    exact sz_lt (by have := hm.len; omega)
  walk_at "tw"
  rw [frzL_mapfz D.str]
  refine ⟨ws, rfl, hws.2, hok, ?_⟩
  walk_at "tw"
  refine ⟨ws, rfl, hok, ?_⟩
  walk_at "tm"
  refine seq_mid (fun ρ => stp m ws = addR m ws ∧ ρ = [some (.ins a dx Zc.cReading [("found", .dcT b (papT m)), ("last", .fz (lastD m))]), some (.fz (.str z)), some (.fz (.lst (ws.map .str))), some (.fz (optR (pairW ws))), some (.fz (optR (numsW ws)))]) (fun N hN => ?_) ?_
  · cases hp : pairW ws with
    | none =>
      rw [hp] at hN
      walk_at "tw"
      refine ⟨fun h => (nomatch h), fun _ => ?_⟩
      walk_at "tw"
      refine ⟨fun h => (nomatch h), fun _ => ?_⟩
      exact hN _ ⟨by unfold stp; rw [hp], rfl⟩
    | some r =>
      rw [hp] at hN
      have hs : stp m ws = if lastLt m (asP r) = true then some (m ++ [(asP r, [])]) else addR m ws := by unfold stp; rw [hp]
      have er : optR (some r) = pD (asP r) := asP_row (pairW_len hp)
      rw [er] at hN ⊢
      generalize asP r = q at *
      walk_at "tw"
      refine ⟨fun _ => ?_, fun h => (nomatch h)⟩
      rcases snoc_or m with rfl | ⟨m0, e, rfl⟩
      · rw [hs, if_pos (show lastLt [] q = true from rfl)] at k
        walk_at "tw"
        refine ⟨rfl, rfl, _, rfl, ?_⟩
        walk_at "tw"
        refine ⟨fun _ => ?_, fun h => (nomatch h)⟩
        walk_at "tw"
        refine ⟨fun _ => ?_, fun h => (nomatch h)⟩
        walk_at "tw"
        refine ⟨rfl, rfl, (by show 1 ≤ 2; decide), (by show 2 < 1000; decide), ?_⟩
        walk_at "tw"
        refine ⟨Nat.zero_le _, ?_⟩
        walk_at "tw"
        refine ⟨rfl, rfl, _, b, rfl, rfl, ?_⟩
        walk_at "tw"
        refine ⟨rfl, rfl, _, rfl, ?_⟩
        walk_at "tw"
        refine ⟨rfl, kP q, rfl, hsz, ?_⟩
        walk_at "tw"
        exact ⟨⟨rfl, trivial⟩, k⟩
      · rw [lastLt_snoc] at hs
        rw [lastD_app] at hN ⊢
        walk_at "tw"
        refine ⟨rfl, rfl, _, rfl, ?_⟩
        walk_at "tw"
        refine ⟨fun h => (nomatch h), fun _ => ?_⟩
        walk_at "tw"
        refine ⟨rfl, rfl, _, rfl, ?_⟩
        walk_at "tw"
        refine ⟨alike_pr _ _, ?_⟩
        generalize hv : PySem.W.dataLt _ _ = v
        have hv2 : v = decide (ltP e.1 q) := hv.symm.trans (dataLt_pr _ _)
        rw [hv2]
        by_cases hl : ltP e.1 q
        · have hlt := hm.lt_all (q := q) (by rw [lastLt_snoc]; exact decide_eq_true hl)
          have hne : ∀ x ∈ m0 ++ [e], x.1 ≠ q := fun x hx c => by
            have := hlt x hx
            rw [c] at this
            unfold ltP at this
            omega
          rw [hs, if_pos (decide_eq_true hl)] at k
          rw [decide_eq_true hl]
          walk_at "tw"
          refine ⟨fun _ => ?_, fun h => (nomatch h)⟩
          walk_at "tw"
          refine ⟨rfl, rfl, (by show 1 ≤ 2; decide), (by show 2 < 1000; decide), ?_⟩
          walk_at "tw"
          refine ⟨Nat.zero_le _, ?_⟩
          walk_at "tw"
          refine ⟨rfl, rfl, _, b, rfl, rfl, ?_⟩
          walk_at "tw"
          refine ⟨rfl, rfl, _, rfl, ?_⟩
          walk_at "tw"
          refine ⟨rfl, kP q, rfl, hsz, ?_⟩
          walk_at "tw"
          refine ⟨⟨rfl, trivial⟩, ?_⟩
          have e1 := papT_new hne []
          dsimp only [Option.getD] at k
          rw [← e1, lastD_app] at k
          exact k
        · rw [decide_eq_false hl]
          rw [decide_eq_false hl, if_neg (by decide)] at hs
          refine ⟨fun h => (nomatch h), fun _ => ?_⟩
          exact hN _ ⟨hs, rfl⟩
  · rintro _ ⟨hst, rfl⟩
    rw [hst] at k
    rcases snoc_or m with rfl | ⟨m0, e, rfl⟩
    · walk_at "tw"
      refine ⟨rfl, rfl, _, rfl, ?_⟩
      walk_at "tw"
      refine ⟨fun _ => ?_, fun h => (nomatch h)⟩
      walk_at "tw"
      refine ⟨fun _ => ?_, fun h => (nomatch h)⟩
      walk_at "tw"
      exact ⟨⟨rfl, trivial⟩, k⟩
    · rw [addR_snoc] at k
      rw [lastD_app]
      cases hq : numsW ws with
      | none =>
        rw [hq] at k
        walk_at "tw"
        refine ⟨rfl, rfl, _, rfl, ?_⟩
        walk_at "tw"
        refine ⟨fun h => (nomatch h), fun _ => ?_⟩
        walk_at "tw"
        refine ⟨fun _ => ?_, fun h => (nomatch h)⟩
        walk_at "tw"
        have k : P (.fz (.bl false)) [.ins a dx Zc.cReading [("found", .dcT b (papT (m0 ++ [e]))), ("last", .fz (lastD (m0 ++ [e])))], .fz (.str z)] := k
        rw [lastD_app] at k
        exact ⟨⟨rfl, trivial⟩, k⟩
      | some row =>
        rw [hq] at k
        have hne := hm.ne
        walk_at "tw"
        refine ⟨rfl, rfl, _, rfl, ?_⟩
        walk_at "tw"
        refine ⟨fun h => (nomatch h), fun _ => ?_⟩
        walk_at "tw"
        refine ⟨fun h => (nomatch h), fun _ => ?_⟩
        walk_at "tw"
        refine ⟨rfl, rfl, _, b, rfl, rfl, ?_⟩
        walk_at "tw"
        refine ⟨rfl, rfl, _, rfl, ?_⟩
        walk_at "tw"
        refine ⟨rfl, rfl, _, rfl, rfl, ?_⟩
        walk_at "tw"
        refine ⟨kP e.1, rfl, e.2.map rowD, papT_look hne e.2, ?_⟩
        walk_at "tw"
        refine ⟨by show 1 ≤ sizeLine; decide, ?_⟩
        walk_at "tw"
        refine ⟨_, rfl, ?_, rfl, rfl, _, rfl, ?_⟩
        · rw [List.length_map]
          exact sz_12 (show e.2.length + 1 ≤ 13000 by have := hm.rows e (List.mem_append_right _ (List.mem_singleton.mpr rfl)); omega)
        walk_at "tw"
        refine ⟨rfl, kP e.1, rfl, hsz, ?_⟩
        walk_at "tw"
        refine ⟨⟨rfl, trivial⟩, ?_⟩
        have e1 := papT_more hne e.2 (e.2 ++ [row])
        have k : P (.fz (.bl true)) [.ins a dx Zc.cReading [("found", .dcT b (papT (m0 ++ [(e.1, e.2 ++ [row])]))), ("last", .fz (lastD (m0 ++ [(e.1, e.2 ++ [row])])))], .fz (.str z)] := k
        rw [← e1, lastD_app, show rowsD (e.2 ++ [row]) = .tup (e.2.map rowD ++ [rowD row]) from congrArg D.tup List.map_append] at k
        exact k
theorem star_last (xs : List D) (x : D) : starL 2 0 (xs ++ [x]) = xs ∧ starE 2 0 (xs ++ [x]) = [x] := by
  have hl : (xs ++ [x]).length + 1 - 2 = xs.length := by rw [List.length_append]; show xs.length + 1 + 1 - 2 = _; omega
  unfold starL starE
  rw [List.drop_zero, hl]
  exact ⟨List.take_left' rfl, List.drop_left' rfl⟩
theorem PapI.mono {n k : Nat} {m : Pap} (h : PapI n m) (hk : n ≤ k) : PapI k m := ⟨h.up, Nat.le_trans h.len hk, fun e he => Nat.le_trans (h.rows e he) hk⟩
theorem PapI.stp {n : Nat} {m m' : Pap} {ws : List Str} (h : PapI n m) (e : stp m ws = some m') : PapI (n + 1) m' := by
  have add : ∀ {m'}, addR m ws = some m' → PapI (n + 1) m' := fun {m'} e => by
    rcases snoc_or m with rfl | ⟨m0, x, rfl⟩
    · cases e
    · rw [addR_snoc] at e
      cases hq : numsW ws with
      | none => rw [hq] at e; cases e
      | some r =>
        rw [hq] at e
        have e : m0 ++ [(x.1, x.2 ++ [r])] = m' := Option.some.inj e
        subst e
        have h1 := h.up
        have h2 := h.len
        refine ⟨?_, ?_, fun y hy => ?_⟩
        · rw [List.map_append] at h1 ⊢
          exact h1
        · rw [List.length_append] at h2 ⊢
          exact Nat.le_succ_of_le h2
        · rcases List.mem_append.mp hy with c | c
          · exact Nat.le_succ_of_le (h.rows y (List.mem_append_left _ c))
          · rw [List.mem_singleton.mp c]
            show (x.2 ++ [r]).length ≤ n + 1
            rw [List.length_append]
            exact Nat.succ_le_succ (h.rows x (List.mem_append_right _ (List.mem_singleton.mpr rfl)))
  unfold Lw.stp at e
  split at e
  · rename_i q hq
    split at e
    · rename_i hl
      rw [← Option.some.inj e]
      have hlt := h.lt_all hl
      refine ⟨?_, by rw [List.length_append]; exact Nat.succ_le_succ h.len, fun y hy => ?_⟩
      · rw [List.map_append, List.pairwise_append]
        refine ⟨h.up, List.pairwise_singleton _ _, fun a ha b hb => ?_⟩
        rw [List.mem_singleton.mp hb]
        obtain ⟨x, hx, rfl⟩ := List.mem_map.mp ha
        exact hlt x hx
      · rcases List.mem_append.mp hy with c | c
        · exact Nat.le_succ_of_le (h.rows y c)
        · rw [List.mem_singleton.mp c]; exact Nat.zero_le _
    · exact add e
  · exact add e
theorem does_read_paper [Zc] : ∀ os P R, sp_read_paper os P R → wb_read_paper (start0 6 os) (endsX os P R) := by
  rintro os P R ⟨⟨z, rfl, hz, hbad, hgood⟩ | ⟨d, rfl, hd, k⟩⟩
  · walk_at "tw"
    refine ⟨fun h => (nomatch h), fun _ => ?_⟩
    walk_at "tw"
    have hps := tot_nl z
    refine ⟨by decide +kernel, sz_12 (by omega), fun y hy => sz_12 (by have := tot_mem hy; omega), fun p => ?_⟩
    have eT : rdT z = rdT z := rfl
    obtain ⟨qs, y, hq⟩ := (snoc_or (Txt.split z "\n")).resolve_left hps.2
    have hl : lastT z = y := by show (Txt.split z "\n").getLastD "" = y; rw [hq]; simp
    have hr : rowsT z = if y = "" then qs else qs ++ [y] := by
      show (if lastT z = "" then (Txt.split z "\n").dropLast else Txt.split z "\n") = _
      rw [hl, hq, List.dropLast_append_of_ne_nil (by simp)]
      show (if y = "" then qs ++ [] else _) = _
      rw [List.append_nil]
    have htot : ∀ x ∈ qs ++ [y], x.length ≤ 11000 := fun x hx => by
      have := tot_mem (ps := Txt.split z "\n") (by rw [hq]; exact hx)
      omega
    have hlen : (qs ++ [y]).length ≤ 11001 := by
      have := tot_len (Txt.split z "\n")
      rw [hq] at this hps
      omega
    rw [show Txt.split z (Str.ofString "\n") = qs ++ [y] from hq]
    walk_at "tw"
    rw [frzL_mapfz D.str, List.map_append]
    obtain ⟨e1, e2⟩ := star_last (qs.map D.str) (.str y)
    rw [show List.map D.str [y] = [.str y] from rfl, e1, e2]
    refine ⟨by rw [List.length_append]; show 2 ≤ _ + 1 + 1; omega, ?_⟩
    have hrow : ∀ x ∈ rowsT z, x.length ≤ 11000 := fun x hx => by
      rw [hr] at hx
      split at hx
      · exact htot x (List.mem_append_left _ hx)
      · exact htot x hx
    have hrl : (rowsT z).length ≤ 11001 := by
      rw [hr]
      rw [List.length_append] at hlen
      split
      · exact Nat.le_trans (Nat.le_add_right _ _) hlen
      · rw [List.length_append]; exact hlen
    walk_at "tm"
    refine seq_mid (fun ρ => ∃ s1, (s1 = .fz (.lst ((rowsT z).map .str)) ∨ ∃ c, s1 = .lst c ((rowsT z).map fun x => .fz (.str x))) ∧ ρ = [some (.fz (.str z)), some s1, some (.fz (.str y)), none, none, none]) (fun N hN => ?_) ?_
    · walk_at "tw"
      refine ⟨fun h => ?_, fun h => ?_⟩
      · have h := of_decide_eq_true h
        rw [hr, if_pos h] at hN
        walk_at "tw"
        exact hN _ ⟨_, .inl rfl, rfl⟩
      · have h := of_decide_eq_false h
        rw [hr, if_neg h] at hN
        walk_at "tw"
        refine ⟨by show 1 ≤ sizeLine; decide, fun c => ?_⟩
        walk_at "tw"
        refine ⟨by rw [List.length_map]; exact sz_12 (by rw [List.length_append] at hlen; show qs.length + 1 ≤ 13000; exact Nat.le_trans hlen (by decide)), fun c2 => ?_⟩
        refine hN _ ⟨_, .inr ⟨c2, ?_⟩, rfl⟩
        show O.lst c2 ((qs.map D.str ++ [D.str y]).map O.fz) = _
        rw [show qs.map D.str ++ [D.str y] = (qs ++ [y]).map D.str by rw [List.map_append]; rfl, List.map_map]
        rfl
    · rintro _ ⟨s1, hs1, rfl⟩
      have fin : wSeq (wSet 3 (wMake sp_Reading_init Zc.cReading wNil)) (wSeq
          (wFor (wEnum (wVar 1)) (gT 2 (gsCons (gN 4) (gsCons (gN 5) gsNil)))
            (wIfS (Tr.wNot (Tr.wTru (wFrz (wMet sp_Reading_take_row Zc.cReading ["found", "last"] 3 (wCons (wVar 5) wNil))))) (wRaise1 Zc.cNoText "row" (wVar 4)) wSkip))
          (wSeq (wIfS (wTst (wCmpL semNe 2 (wC (D.str "")))) (wRaise1 Zc.cNoText "row" (wC1 semLen (wLook 1))) wSkip)
            (wRet (wMvA Zc.cReading ["found", "last"] 0 3)))) [some (O.fz (D.str z)), some s1, some (O.fz (D.str y)), none, none, none] (endsX [O.fz (D.str z)] P R) := by
        have loop : ∀ (x dx b : Addr) (ls : List Str) (μ : Pap) (n : Nat) (s4 s5 : Option O), (∀ l ∈ ls, l.length ≤ 11000) → PapI n μ → n + ls.length = (rowsT z).length → rdL 0 [] (rowsT z) = rdL n μ ls →
            wForL (gT 2 (gsCons (gN 4) (gsCons (gN 5) gsNil)))
            (wIfS (Tr.wNot (Tr.wTru (wFrz (wMet sp_Reading_take_row Zc.cReading ["found", "last"] 3 (wCons (wVar 5) wNil))))) (wRaise1 Zc.cNoText "row" (wVar 4)) wSkip)
            (List.map (fun p : D × Nat => D.tup [D.int p.2, p.1]) ((ls.map D.str).zipIdx n))
            [some (O.fz (D.str z)), some (O.fz (D.lst ((rowsT z).map .str))), some (O.fz (D.str y)),
              some (O.ins x dx Zc.cReading [("found", O.dcT b (papT μ)), ("last", O.fz (lastD μ))]), s4, s5]
            ((endsX [O.fz (D.str z)] P R).on fun ρ' =>
              wSeq (wIfS (wTst (wCmpL semNe 2 (wC (D.str "")))) (wRaise1 Zc.cNoText "row" (wC1 semLen (wLook 1))) wSkip) (wRet (wMvA Zc.cReading ["found", "last"] 0 3)) ρ' (endsX [O.fz (D.str z)] P R)) := by
          intro x dx b ls
          induction ls with
          | nil =>
            intro μ n s4 s5 _ hμ hn hrd
            have e0 : rdT z = if y = "" then .good μ else .bad (rowsT z).length := by
              unfold rdT
              rw [hrd, hl]; rfl
            walk_at "tw"
            by_cases hy : y = Str.ofString ""
            · rw [decide_eq_true hy]
              rw [if_pos hy] at e0
              refine ⟨fun h => (nomatch h), fun _ => ?_⟩
              walk_at "tw"
              refine ⟨rfl, rfl, _, rfl, ?_⟩
              walk_at "tw"
              exact ⟨trivial, hgood μ e0 b⟩
            · rw [decide_eq_false hy]
              rw [if_neg hy] at e0
              refine ⟨fun _ => ?_, fun h => (nomatch h)⟩
              walk_at "tw"
              refine ⟨_, rfl, ?_⟩
              walk_at "tw"
              have := hbad _ e0
              refine ⟨trivial, ?_⟩
              rw [List.length_map]
              exact this
          | cons l ls ih =>
            intro μ n s4 s5 hll hμ hn hrd
            rw [List.length_cons] at hn
            have hl1 := hll l List.mem_cons_self
            walk_at "tw"
            refine ⟨rfl, ?_⟩
            walk_at "tw"
            refine ⟨⟨rfl, rfl⟩, ?_⟩
            walk_at "tw"
            refine ⟨x, dx, b, μ, n, l, rfl, hμ, by omega, by omega, ⟨_, _, rfl, ?_⟩⟩
            cases hst : stp μ (Txt.split l " ") with
            | some m1 =>
              walk_at "tw"
              refine ⟨fun h => (nomatch h), fun _ => ?_⟩
              refine ih m1 (n + 1) _ _ (fun y hy => hll y (List.mem_cons_of_mem _ hy)) (hμ.stp hst) (by omega) ?_
              rw [hrd]
              show (match stp μ (Txt.split l " ") with
                | some m' => rdL (n + 1) m' ls
                | none => .bad n) = _
              rw [hst]
            | none =>
              have e0 : rdT z = .bad n := by
                unfold rdT
                rw [hrd]
                show (match (match stp μ (Txt.split l " ") with
                  | some m' => rdL (n + 1) m' ls
                  | none => .bad n) with
                  | .bad k => Res.bad k
                  | .good m => _) = _
                rw [hst]
              walk_at "tw"
              refine ⟨fun _ => ?_, fun h => (nomatch h)⟩
              walk_at "tw"
              exact ⟨trivial, hbad n e0⟩
        have start := fun x dx b s4 s5 => loop x dx b (rowsT z) [] 0 s4 s5 hrow ⟨List.Pairwise.nil, Nat.zero_le _, fun _ h => (by cases h)⟩ (Nat.zero_add _) rfl
        rcases hs1 with rfl | ⟨c, rfl⟩
        · walk_at "tw"
          intro x dx
          walk_at "tw"
          refine ⟨x, dx, rfl, fun b => ⟨rfl, _, _, rfl, ?_⟩⟩
          walk_at "tw"
          exact start x dx b none none
        · walk_at "tw"
          intro x dx
          walk_at "tw"
          refine ⟨x, dx, rfl, fun b => ⟨rfl, _, _, rfl, ?_⟩⟩
          walk_at "tw"
          rw [frzL_mapfz D.str]
          exact start x dx b none none
      exact fin
  · rcases hd with ⟨kvs, rfl⟩ | h
    · walk_at "tw"
      refine ⟨fun _ => ?_, fun h => (nomatch h)⟩
      walk_at "tw"
      exact ⟨trivial, k⟩
    · cases d <;> first
        | (cases h; done)
        | skip
      all_goals
        walk_at "tw"
        refine ⟨fun _ => ?_, fun h => (nomatch h)⟩
        walk_at "tw"
        exact ⟨trivial, k⟩
theorem does__law_tried [Zc] : ∀ os P, sp__law_tried os P → wb__law_tried (start0 5 os) (endsOf os P) := by
  rintro os P ⟨⟨z, rfl, hz, k⟩ | ⟨d, rfl, hd, k⟩⟩
  · walk_at "tw"
    refine ⟨by show 2 ≤ sizeLine; decide, ?_⟩
    walk_at "tw"
    refine ⟨rfl, ?_⟩
    walk_at "tw"
    refine ⟨.inl ⟨z, rfl, hz, fun n hn => ?_, fun m hm b => ?_⟩⟩
    · rw [hn] at k
      refine ⟨List.mem_singleton.mpr rfl, ?_⟩
      walk_at "tw"
      refine ⟨fun h => (nomatch h), fun _ => ?_⟩
      walk_at "tw"
      refine ⟨true, List.mem_singleton.mpr rfl, ?_⟩
      walk_at "tw"
      refine ⟨fun _ => ?_, fun h => (nomatch h)⟩
      walk_at "tw"
      refine ⟨true, List.mem_singleton.mpr rfl, ?_⟩
      walk_at "tw"
      refine ⟨fun _ => ?_, fun h => (nomatch h)⟩
      walk_at "tw"
      refine ⟨false, List.mem_singleton.mpr rfl, ?_⟩
      walk_at "tw"
      refine ⟨fun _ => ?_, fun h => (nomatch h)⟩
      walk_at "tw"
      refine ⟨List.mem_singleton.mpr rfl, _, rfl, ?_⟩
      walk_at "tw"
      exact ⟨trivial, k⟩
    · rw [hm] at k
      walk_at "tw"
      refine ⟨fun _ => ?_, fun h => (nomatch h)⟩
      walk_at "tw"
      exact ⟨trivial, k b⟩
  · walk_at "tw"
    refine ⟨by show 2 ≤ sizeLine; decide, ?_⟩
    walk_at "tw"
    refine ⟨rfl, ?_⟩
    walk_at "tw"
    refine ⟨.inr ⟨d, rfl, hd, ?_⟩⟩
    refine ⟨List.mem_singleton.mpr rfl, ?_⟩
    walk_at "tw"
    refine ⟨fun h => (nomatch h), fun _ => ?_⟩
    walk_at "tw"
    refine ⟨true, List.mem_singleton.mpr rfl, ?_⟩
    walk_at "tw"
    refine ⟨fun _ => ?_, fun h => (nomatch h)⟩
    walk_at "tw"
    refine ⟨true, List.mem_singleton.mpr rfl, ?_⟩
    walk_at "tw"
    refine ⟨fun _ => ?_, fun h => (nomatch h)⟩
    walk_at "tw"
    refine ⟨false, List.mem_singleton.mpr rfl, ?_⟩
    walk_at "tw"
    refine ⟨fun _ => ?_, fun h => (nomatch h)⟩
    walk_at "tw"
    refine ⟨List.mem_singleton.mpr rfl, _, rfl, ?_⟩
    walk_at "tw"
    exact ⟨trivial, k⟩
theorem ixN_last (n : Nat) : ixN (n + 1) (-1) = some n := by
  unfold ixN
  rw [if_neg (by decide), if_pos (by omega)]
  congr 1
  omega
theorem atI_last {α : Type} (xs : List α) (x : α) : L2.atI (xs ++ [x]) (-1) = some x := by
  unfold L2.atI
  rw [List.length_append]
  show (ixN (xs.length + 1) (-1)).bind _ = _
  rw [ixN_last]
  show (xs ++ [x])[xs.length]? = _
  rw [List.getElem?_append_right (Nat.le_refl _), Nat.sub_self]; rfl
theorem cut_init {α : Type} (xs : List α) (x : α) : cutG (xs ++ [x]) none (some (-1)) = xs := by
  have e : HT.sIx (xs ++ [x]).length (xs ++ [x]).length (some (-1)) = xs.length := by
    rw [List.length_append]
    show ((-1 : Int) + ((xs.length + 1 : Nat) : Int)).toNat = xs.length
    omega
  unfold cutG
  rw [e, HT.sIx_none, List.drop_zero, Nat.sub_zero]
  exact List.take_left' rfl
theorem does__law_read : ∀ os P, sp__law_read os P → wb__law_read (start0 10 os) (endsOf os P) := by
  rintro os P ⟨z, rfl, hz, k⟩
  have hps := tot_nl z
  walk_at "tw"
  refine ⟨by decide +kernel, sz_12 (by omega), fun y hy => sz_12 (by have := tot_mem hy; omega), fun p => ?_⟩
  obtain ⟨qs, y, hq⟩ := (snoc_or (Txt.split z "\n")).resolve_left hps.2
  rw [show Txt.split z (Str.ofString "\n") = qs ++ [y] from hq]
  have hl : lastT z = y := by show (Txt.split z "\n").getLastD "" = y; rw [hq]; simp
  have hr : rowsT z = if y = "" then qs else qs ++ [y] := by
    show (if lastT z = "" then (Txt.split z "\n").dropLast else Txt.split z "\n") = _
    rw [hl, hq, List.dropLast_append_of_ne_nil (by simp)]
    show (if y = "" then qs ++ [] else _) = _
    rw [List.append_nil]
  have htot : ∀ x ∈ qs ++ [y], x.length ≤ 11000 := fun x hx => by
    have := tot_mem (ps := Txt.split z "\n") (by rw [hq]; exact hx)
    omega
  have hlen : (qs ++ [y]).length ≤ 11001 := by
    have := tot_len (Txt.split z "\n")
    rw [hq] at this hps
    omega
  have hrow : ∀ x ∈ rowsT z, x.length ≤ 11000 := fun x hx => by
    rw [hr] at hx
    split at hx
    · exact htot x (List.mem_append_left _ hx)
    · exact htot x hx
  have hrl : (rowsT z).length ≤ 11001 := by
    rw [hr]
    rw [List.length_append] at hlen
    split
    · exact Nat.le_trans (Nat.le_add_right _ _) hlen
    · rw [List.length_append]; exact hlen
  walk_at "tw"
  refine ⟨_, _, rfl, (by rw [List.map_append]; exact atI_last _ _), ?_⟩
  walk_at "tm"
  refine seq_mid (fun ρ => ∃ s1, (s1 = .fz (.lst ((rowsT z).map .str)) ∨ ∃ c, s1 = .lst c ((rowsT z).map fun x => .fz (.str x))) ∧ ρ = [some (.fz (.str z)), some s1, some (.fz (.bl (!decide (y = ""))))] ++ List.replicate 7 none) (fun N hN => ?_) ?_
  · by_cases hy : y = Str.ofString ""
    · rw [decide_eq_true hy] at hN ⊢
      rw [hr, if_pos hy] at hN
      walk_at "tw"
      refine ⟨fun h => (nomatch h), fun _ => ?_⟩
      walk_at "tw"
      intro c
      walk_at "tw"
      rw [frzL_mapfz D.str, List.map_append, show List.map D.str [y] = [.str y] from rfl, cut_init]
      refine hN _ ⟨_, .inr ⟨c, rfl⟩, ?_⟩
      rw [List.map_map]; rfl
    · rw [decide_eq_false hy] at hN ⊢
      rw [hr, if_neg hy] at hN
      walk_at "tw"
      refine ⟨fun _ => ?_, fun h => (nomatch h)⟩
      walk_at "tw"
      rw [frzL_mapfz D.str]
      exact hN _ ⟨_, .inl rfl, rfl⟩
  · rintro _ ⟨s1, hs1, rfl⟩
    walk_at "tw"
    intro b
    walk_at "tw"
    have loop : ∀ (ls : List Str) (μ : Pap) (n : Nat) (s5 s6 s7 s8 s9 : Option O), (∀ l ∈ ls, l.length ≤ 11000) → PapI n μ → n + ls.length = (rowsT z).length → rdL 0 [] (rowsT z) = rdL n μ ls →
        wForL (gT 2 (gsCons (gN 5) (gsCons (gN 6) gsNil)))
          (wSeq (wSet 7 (wSplit (wVar 6) (wC (D.str " "))))
            (wSeq
              (wSet 8
                (wIf
                  (wAnd (wTst (Tr.wCmp semEq (wIxL 7 (wC (D.int 0))) (wC (D.str "pair"))))
                    (wTst (Tr.wCmp semEq (wC1 semLen (wLook 7)) (wC (D.int 3)))))
                  (wCall sp__law_numbers (wCons (wFrz (wSl (wVar 7) (wSoP (wC (D.int 1))) wNoP)) wNil))
                  (wFz (wC D.non))))
              (wSeq (wSet 9 (wCall sp__law_numbers (wCons (wVar 7) wNil)))
                (wIfS
                  (wAnd (wTst (wCmpL (semIs true) 8 (wC D.non)))
                    (wOr (wTst (wCmpL (semIs false) 4 (wC D.non))) (wTst (Tr.wCmp semLtD (wVar 4) (wLook 8)))))
                  (wAsg (gT 2 (gsCons (gIxK 3 (wVar 8)) (gsCons (gN 4) gsNil)))
                    (wTup (wCons (wTup wNil) (wCons (wVar 8) wNil))))
                  (wIfS (wAnd (wTst (wCmpL (semIs true) 4 (wC D.non))) (wTst (wCmpL (semIs true) 9 (wC D.non))))
                    (wSetK 3 (wVar 4)
                      (wFrz (wBin semAdd (wIxD 3 (wVar 4)) (wTup (wCons (wVar 9) wNil)))))
                    (wRetV 5))))))
          (List.map (fun p : D × Nat => D.tup [D.int p.2, p.1]) ((ls.map D.str).zipIdx n))
          [some (O.fz (D.str z)), some (O.fz (D.lst ((rowsT z).map .str))), some (O.fz (D.bl !decide (y = ""))), some (O.dcT b (papT μ)), some (O.fz (lastD μ)), s5, s6, s7, s8, s9]
          ((endsOf [O.fz (D.str z)] P).on fun ρ' =>
            wRet (wIf (Tr.wTru (wLook 2)) (wFz (wC1 semLen (wLook 1))) (wMov 3)) ρ' (endsOf [O.fz (D.str z)] P)) := by
      intro ls
      induction ls with
      | nil =>
        intro μ n s5 s6 s7 s8 s9 _ hμ hn hrd
        have e0 : rdT z = if y = "" then .good μ else .bad (rowsT z).length := by
          unfold rdT
          rw [hrd, hl]; rfl
        rw [e0] at k
        walk_at "tw"
        by_cases hy : y = Str.ofString ""
        · rw [decide_eq_true hy]
          rw [if_pos hy] at k
          refine ⟨fun h => (nomatch h), fun _ => ?_⟩
          walk_at "tw"
          exact ⟨trivial, k b⟩
        · rw [decide_eq_false hy]
          rw [if_neg hy] at k
          refine ⟨fun _ => ?_, fun h => (nomatch h)⟩
          walk_at "tw"
          refine ⟨_, rfl, ?_⟩
          walk_at "tw"
          refine ⟨trivial, ?_⟩
          rw [List.length_map]
          exact k
      | cons l ls ih =>
        intro μ n s5 s6 s7 s8 s9 hll hμ hn hrd
        rw [List.length_cons] at hn
        have hl1 := hll l List.mem_cons_self
        have hws := tot_bl l
        have hsz : (papT μ).length < sizeLine := by
          unfold papT
          rw [List.length_map]
          exact sz_lt (by have := hμ.len; omega)
        have go : ∀ {m1 : Pap} {s5 s6 s7 s8 s9 : Option O}, stp μ (Txt.split l " ") = some m1 → wForL (gT 2 (gsCons (gN 5) (gsCons (gN 6) gsNil))) _ (List.map (fun p : D × Nat => D.tup [D.int p.2, p.1]) ((ls.map D.str).zipIdx (n + 1)))
            [some (O.fz (D.str z)), some (O.fz (D.lst ((rowsT z).map .str))), some (O.fz (D.bl !decide (y = ""))), some (O.dcT b (papT m1)), some (O.fz (lastD m1)), s5, s6, s7, s8, s9] _ := fun {m1 s5 s6 s7 s8 s9} hst =>
          ih m1 (n + 1) s5 s6 s7 s8 s9 (fun y hy => hll y (List.mem_cons_of_mem _ hy)) (hμ.stp hst) (by omega) (by
            rw [hrd]
            show (match stp μ (Txt.split l " ") with
              | some m' => rdL (n + 1) m' ls
              | none => .bad n) = _
            rw [hst])
        have stop : stp μ (Txt.split l " ") = none → P (.fz (.int n)) [.fz (.str z)] := fun hst => by
          have e0 : rdT z = .bad n := by
            unfold rdT
            rw [hrd]
            show (match (match stp μ (Txt.split l " ") with
              | some m' => rdL (n + 1) m' ls
              | none => .bad n) with
              | .bad k => Res.bad k
              | .good m => _) = _
            rw [hst]
          rw [e0] at k
          exact k
        walk_at "tw"
        refine ⟨rfl, ?_⟩
        walk_at "tw"
        refine ⟨by decide +kernel, sz_12 (by omega), fun y hy => sz_12 (by have := tot_mem hy; omega), fun p => ?_⟩
        rw [show Txt.split l (Str.ofString " ") = Txt.split l " " from rfl] at *
        generalize Txt.split l " " = ws at *
        have hok : ws.length ≤ 13000 ∧ ∀ y ∈ ws, y.length ≤ 13000 := ⟨by have := tot_len ws; omega, fun y hy => by have := tot_mem hy; omega⟩
        obtain ⟨w, r, rfl⟩ := List.exists_cons_of_ne_nil hws.2
        walk_at "tm"
        refine seq_mid (fun ρ => ∃ s7, (s7 = .fz (.lst ((w :: r).map .str)) ∨ s7 = .lst p ((w :: r).map fun z => .fz (.str z))) ∧ ρ = [some (O.fz (D.str z)), some (O.fz (D.lst ((rowsT z).map .str))), some (O.fz (D.bl !decide (y = ""))), some (O.dcT b (papT μ)), some (O.fz (lastD μ)), some (.fz (.int n)), some (.fz (.str l)), some s7, some (.fz (optR (pairW (w :: r)))), s9]) (fun N hN => ?_) ?_
        · walk_at "tw"
          refine ⟨0, .str w, rfl, (by rw [atI_in (by decide) (by rw [List.length_map, List.length_cons]; omega)]; rfl), ?_⟩
          walk_at "tw"
          by_cases hp : w = Str.ofString "pair"
          · rw [decide_eq_true hp]
            refine ⟨fun _ => ?_, fun h => (nomatch h)⟩
            walk_at "tw"
            refine ⟨_, rfl, ?_⟩
            walk_at "tw"
            rw [frzL_mapfz D.str, List.length_map, List.length_cons]
            by_cases hl2 : r.length = 2
            · rw [show pairW (w :: r) = numsW r from if_pos ⟨by rw [hp]; rfl, by rw [List.length_cons, hl2]⟩] at hN
              rw [decide_eq_true (show ((r.length + 1 : Nat) : Int) = 3 by omega)]
              refine ⟨fun _ => ?_, fun h => (nomatch h)⟩
              walk_at "tw"
              intro c
              walk_at "tw"
              rw [frzL_mapfz D.str, O.frzL_map, cutG_map, cut_tailA]
              refine ⟨r, rfl, ⟨by omega, fun y hy => hok.2 y (List.mem_cons_of_mem _ hy)⟩, ?_⟩
              walk_at "tw"
              exact hN _ ⟨_, .inl rfl, rfl⟩
            · rw [show pairW (w :: r) = none from if_neg (fun h => hl2 (by have := h.2; rw [List.length_cons] at this; omega))] at hN
              rw [decide_eq_false (show ¬ ((r.length + 1 : Nat) : Int) = 3 by omega)]
              refine ⟨fun h => (nomatch h), fun _ => ?_⟩
              walk_at "tw"
              exact hN _ ⟨_, .inr rfl, rfl⟩
          · rw [show pairW (w :: r) = none from if_neg (fun h => hp (Option.some.inj h.1))] at hN
            rw [decide_eq_false hp]
            refine ⟨fun h => (nomatch h), fun _ => ?_⟩
            walk_at "tw"
            refine ⟨fun h => (nomatch h), fun _ => ?_⟩
            walk_at "tw"
            exact hN _ ⟨_, .inr rfl, rfl⟩
        · rintro _ ⟨s7, hs7, rfl⟩
          refine seq_mid (fun ρ => ρ = [some (O.fz (D.str z)), some (O.fz (D.lst ((rowsT z).map .str))), some (O.fz (D.bl !decide (y = ""))), some (O.dcT b (papT μ)), some (O.fz (lastD μ)), some (.fz (.int n)), some (.fz (.str l)), some (.fz (.lst ((w :: r).map .str))), some (.fz (optR (pairW (w :: r)))), some (.fz (optR (numsW (w :: r))))]) (fun N hN => ?_) ?_
          · rcases hs7 with rfl | rfl
            · walk_at "tw"
              refine ⟨w :: r, rfl, hok, ?_⟩
              walk_at "tw"
              exact hN _ rfl
            · walk_at "tw"
              rw [frzL_mapfz D.str]
              refine ⟨w :: r, rfl, hok, ?_⟩
              walk_at "tw"
              exact hN _ rfl
          clear hs7
          rintro _ rfl
          generalize w :: r = ws at *
          have second : stp μ ws = addR μ ws → wIfS (wAnd (wTst (wCmpL (semIs true) 4 (wC D.non))) (wTst (wCmpL (semIs true) 9 (wC D.non))))
              (wSetK 3 (wVar 4) (wFrz (wBin semAdd (wIxD 3 (wVar 4)) (wTup (wCons (wVar 9) wNil))))) (wRetV 5)
              [some (O.fz (D.str z)), some (O.fz (D.lst ((rowsT z).map .str))), some (O.fz (D.bl !decide (y = ""))), some (O.dcT b (papT μ)), some (O.fz (lastD μ)), some (.fz (.int n)), some (.fz (.str l)), some (.fz (.lst (ws.map .str))), some (.fz (optR (pairW ws))), some (.fz (optR (numsW ws)))]
              (((endsOf [O.fz (D.str z)] P).on fun ρ' => wRet (wIf (Tr.wTru (wLook 2)) (wFz (wC1 semLen (wLook 1))) (wMov 3)) ρ' (endsOf [O.fz (D.str z)] P)).lp fun ρ2 => wForL (gT 2 (gsCons (gN 5) (gsCons (gN 6) gsNil))) _ (List.map (fun p : D × Nat => D.tup [D.int p.2, p.1]) ((ls.map D.str).zipIdx (n + 1))) ρ2 ((endsOf [O.fz (D.str z)] P).on fun ρ' => wRet (wIf (Tr.wTru (wLook 2)) (wFz (wC1 semLen (wLook 1))) (wMov 3)) ρ' (endsOf [O.fz (D.str z)] P))) := fun hst => by
            rw [hst] at stop
            rcases snoc_or μ with rfl | ⟨m0, e, rfl⟩
            · walk_at "tw"
              refine ⟨fun h => (nomatch h), fun _ => ?_⟩
              walk_at "tw"
              refine ⟨fun h => (nomatch h), fun _ => ?_⟩
              walk_at "tw"
              exact ⟨trivial, stop rfl⟩
            · rw [addR_snoc] at stop hst
              rw [lastD_app]
              walk_at "tw"
              refine ⟨fun _ => ?_, fun h => (nomatch h)⟩
              walk_at "tw"
              cases hq : numsW ws with
              | none =>
                rw [hq] at stop
                walk_at "tw"
                refine ⟨fun h => (nomatch h), fun _ => ?_⟩
                walk_at "tw"
                exact ⟨trivial, stop rfl⟩
              | some row =>
                rw [hq] at hst
                have hne := hμ.ne
                walk_at "tw"
                refine ⟨fun _ => ?_, fun h => (nomatch h)⟩
                walk_at "tw"
                refine ⟨kP e.1, rfl, _, papT_look hne e.2, ?_⟩
                walk_at "tw"
                refine ⟨by show 1 ≤ sizeLine; decide, ?_⟩
                walk_at "tw"
                refine ⟨?_, ?_⟩
                · rw [List.length_map]
                  exact sz_12 (show e.2.length + 1 ≤ 13000 by have := hμ.rows e (List.mem_append_right _ (List.mem_singleton.mpr rfl)); omega)
                walk_at "tw"
                refine ⟨kP e.1, rfl, hsz, ?_⟩
                have e1 := papT_more hne e.2 (e.2 ++ [row])
                have e2 : D.tup (e.2.map rowD ++ [rowD row]) = rowsD (e.2 ++ [row]) := by
                  show _ = D.tup ((e.2 ++ [row]).map rowD)
                  rw [List.map_append]; rfl
                have g := @go (m0 ++ [(e.1, e.2 ++ [row])]) (some (.fz (.int n))) (some (.fz (.str l))) (some (.fz (.lst (ws.map .str)))) (some (.fz (optR (pairW ws)))) (some (.fz (rowD row))) hst
                rw [lastD_app, ← e1, ← e2] at g
                exact g
          cases hp : pairW ws with
          | none =>
            rw [hp] at second
            walk_at "tw"
            refine ⟨fun h => (nomatch h), fun _ => ?_⟩
            walk_at "tw"
            refine ⟨fun h => (nomatch h), fun _ => ?_⟩
            exact second (by unfold stp; rw [hp])
          | some q =>
            rw [hp] at second
            have hs : stp μ ws = if lastLt μ (asP q) = true then some (μ ++ [(asP q, [])]) else addR μ ws := by unfold stp; rw [hp]
            have er : optR (some q) = pD (asP q) := asP_row (pairW_len hp)
            rw [er] at second ⊢
            have gg := fun s7 s8 s9 (h : lastLt μ (asP q) = true) => @go (μ ++ [(asP q, [])]) (some (.fz (.int n))) (some (.fz (.str l))) s7 s8 s9 (by rw [hs, if_pos h])
            generalize asP q = q at *
            have take : lastLt μ q = true → putG (papT μ) (kP q) (rowsD []) = papT (μ ++ [(q, [])]) := fun h => papT_new (fun x hx c => by
              have := hμ.lt_all h x hx
              rw [c] at this
              unfold ltP at this
              omega) []
            walk_at "tw"
            refine ⟨fun _ => ?_, fun h => (nomatch h)⟩
            rcases snoc_or μ with rfl | ⟨m0, e, rfl⟩
            · walk_at "tw"
              refine ⟨fun _ => ?_, fun h => (nomatch h)⟩
              walk_at "tw"
              refine ⟨fun _ => ?_, fun h => (nomatch h)⟩
              walk_at "tw"
              refine ⟨Nat.zero_le _, ?_⟩
              walk_at "tw"
              refine ⟨by show 2 ≤ sizeLine; decide, ?_⟩
              walk_at "tw"
              refine ⟨rfl, ?_⟩
              walk_at "tw"
              refine ⟨kP q, rfl, hsz, ?_⟩
              walk_at "tw"
              exact gg _ _ _ rfl
            · rw [lastD_app] at second ⊢
              walk_at "tw"
              refine ⟨fun h => (nomatch h), fun _ => ?_⟩
              walk_at "tw"
              refine ⟨alike_pr _ _, ?_⟩
              generalize hv : PySem.W.dataLt _ _ = v
              have hv2 : v = decide (ltP e.1 q) := hv.symm.trans (dataLt_pr _ _)
              rw [hv2]
              rw [lastLt_snoc] at hs gg take
              by_cases hlt : ltP e.1 q
              · rw [decide_eq_true hlt] at gg take ⊢
                walk_at "tw"
                refine ⟨fun _ => ?_, fun h => (nomatch h)⟩
                walk_at "tw"
                refine ⟨Nat.zero_le _, ?_⟩
                walk_at "tw"
                refine ⟨by show 2 ≤ sizeLine; decide, ?_⟩
                walk_at "tw"
                refine ⟨rfl, ?_⟩
                walk_at "tw"
                refine ⟨kP q, rfl, hsz, ?_⟩
                walk_at "tw"
                have g := gg (some (.fz (.lst (ws.map .str)))) (some (.fz (pD q))) (some (.fz (optR (numsW ws)))) rfl
                rw [lastD_app, ← take rfl] at g
                exact g
              · rw [decide_eq_false hlt] at hs ⊢
                refine ⟨fun h => (nomatch h), fun _ => ?_⟩
                exact second (by rw [hs, if_neg (by decide)])
    have start := fun s5 s6 s7 s8 s9 => loop (rowsT z) [] 0 s5 s6 s7 s8 s9 hrow ⟨List.Pairwise.nil, Nat.zero_le _, fun _ h => (by cases h)⟩ (Nat.zero_add _) rfl
    rcases hs1 with rfl | ⟨c, rfl⟩
    · exact start _ _ _ _ _
    · walk_at "tw"
      rw [frzL_mapfz D.str]
      exact start _ _ _ _ _
theorem numS_le {n : Int} (h0 : 0 ≤ n) (h1 : n ≤ 99999) : (numS n).length ≤ 5 := by
  rw [tlS_len]
  obtain ⟨k, rfl⟩ := Int.eq_ofNat_of_zero_le h0
  rw [show tlS (numS (k : Int)) = TL.numL k from TL.tl_num k]
  exact TL.numL_len (by decide) (by omega)
theorem app_len (x y : Str) : (x ++ y).length = x.length + y.length := by rw [tlS_len, tlS_app, List.length_append, ← tlS_len, ← tlS_len]
theorem lg {n : Int} (h0 : 0 ≤ n) (h1 : n ≤ 99999) : n.natAbs.log2 < 1920 := by
  rcases Nat.eq_zero_or_pos n.natAbs with z | z
  · rw [z]; decide
  · have := (Nat.log2_lt (by omega)).mpr (show n.natAbs < 2 ^ 20 by omega)
    omega
theorem join_le {y : Str} (hy : y.length ≤ 1) {ps : List Str} {b m : Nat} (hp : ∀ p ∈ ps, p.length ≤ b) (hm : ps.length ≤ m) (hs : m * (b + 1) ≤ 13000) : (ps.map (·.length)).sum + ps.length * y.length ≤ 16777216 ∧ (Txt.join y ps).length ≤ sizeLine ∧ (Txt.join y ps).length ≤ m * (b + 1) := by
  have ht : tot ps ≤ m * (b + 1) := by
    have : tot ps ≤ ps.length * (b + 1) := by
      clear hm
      induction ps with
      | nil => exact Nat.zero_le _
      | cons p ps ih =>
        have h1 := hp p List.mem_cons_self
        have h2 := ih fun q hq => hp q (List.mem_cons_of_mem _ hq)
        rw [tot_cons, List.length_cons, Nat.succ_mul]
        omega
    exact Nat.le_trans this (Nat.mul_le_mul_right _ hm)
  obtain ⟨h1, h2⟩ := join_tot hy ps
  exact ⟨by omega, sz_12 (by omega), by omega⟩
theorem does__law_text : ∀ os P, sp__law_text os P → wb__law_text (start0 6 os) (endsOf os P) := by
  rintro os P ⟨a, xs, rfl, hd, k⟩
  walk_at "tw"
  refine ⟨by show 2 ≤ sizeLine; decide, ?_⟩
  walk_at "tw"
  refine ⟨rfl, ?_⟩
  walk_at "tw"
  refine draw_i hd (by decide) (by decide) fun n ys g0 g1 hd => ⟨_, _, rfl, ?_⟩
  walk_at "tw"
  refine ⟨⟨by omega, by omega⟩, ?_⟩
  obtain ⟨n, rfl⟩ := Int.eq_ofNat_of_zero_le g0
  rw [Int.toNat_natCast]
  refine for_rng n (fun j ρ => ∃ ys z f s3 s4, DS ys ∧ (z : Str).length ≤ 100 * j ∧ 0 ≤ f ∧ f ≤ 2 * (j : Int) ∧ ρ = [some (.lst a ys), some (.fz (.str z)), some (.fz (.int f)), s3, s4, none]) ⟨ys, _, _, _, _, hd, by decide +kernel, by omega, by omega, rfl⟩ ?_ ?_
  · rintro j ρ hj ⟨ys, z, f, s3, s4, hd, hz, hf0, hf1, rfl⟩ N hN
    walk_at "tw"
    refine draw_i hd (by decide) (by decide) fun d ys d0 d1 hd => ⟨_, _, rfl, ?_⟩
    walk_at "tw"
    have hj4 : j ≤ 3 := by omega
    refine ⟨lg (by omega) (by omega), ?_⟩
    walk_at "tw"
    refine ⟨cmul64 (by omega) (by omega) (by omega) (by omega), ?_⟩
    walk_at "tw"
    refine draw_i hd (by decide) (by decide) fun e ys e0 e1 hd => ⟨_, _, rfl, ?_⟩
    walk_at "tw"
    refine ⟨lg (by omega) (by omega), ?_⟩
    walk_at "tw"
    refine ⟨by show 3 ≤ sizeLine; decide, fun c => ?_⟩
    walk_at "tw"
    have b1 := numS_le (n := f + d) (by omega) (by omega)
    have b2 := numS_le (n := 10 * (j : Int) + e) (by omega) (by omega)
    obtain ⟨j1, j2, j3⟩ := join_le (y := " ") (by decide +kernel) (ps := ["pair", numS (f + d), numS (10 * (j : Int) + e)]) (b := 5) (m := 3) (fun q hq => by
      simp only [List.mem_cons, List.not_mem_nil, or_false] at hq
      rcases hq with rfl | rfl | rfl
      · decide +kernel
      · exact b1
      · exact b2) (Nat.le_refl 3) (by decide)
    refine ⟨_, rfl, j1, j2, ?_⟩
    generalize hJ : Txt.join (Str.ofString " ") [Str.ofString "pair", numS (f + d), numS (10 * (j : Int) + e)] = J at *
    walk_at "tw"
    have ln : (Str.ofString "\n").length = 1 := by decide +kernel
    have a1 := app_len z J
    have a2 := app_len (z ++ J) (Str.ofString "\n")
    refine ⟨sz_12 (by omega), ?_⟩
    walk_at "tw"
    refine ⟨sz_12 (by omega), ?_⟩
    walk_at "tw"
    generalize hz2 : (z ++ J) ++ Str.ofString "\n" = z2 at *
    refine draw_i hd (by decide) (by decide) fun n2 ys h0 h1 hd => ⟨_, _, rfl, ?_⟩
    walk_at "tw"
    refine ⟨⟨by omega, by omega⟩, ?_⟩
    obtain ⟨n2, rfl⟩ := Int.eq_ofNat_of_zero_le h0
    rw [Int.toNat_natCast]
    refine for_rng n2 (fun i ρ => ∃ ys z s4, DS ys ∧ (z : Str).length ≤ 100 * j + 19 + 25 * i ∧ ρ = [some (.lst a ys), some (.fz (.str z)), some (.fz (.int (f + d))), some (.fz (.int j)), s4, none]) ⟨ys, _, _, hd, by omega, rfl⟩ ?_ ?_
    · rintro i ρ hi ⟨ys, z, s4, hd, hz, rfl⟩ N2 hN2
      walk_at "tw"
      refine draw_i hd (by decide) (by decide) fun m ys m0 m1 hd => ⟨_, _, rfl, ?_⟩
      walk_at "tw"
      refine ⟨⟨by omega, by omega⟩, ?_⟩
      obtain ⟨m, rfl⟩ := Int.eq_ofNat_of_zero_le m0
      rw [show (1 + (m : Int)).toNat = m + 1 by omega]
      walk_at "tw"
      refine lc_inv ((List.range (m + 1)).map fun (k : Nat) => D.int k) (fun pre ρ acc => ∃ ys ns, ρ = [some (.lst a ys), some (.fz (.str z)), some (.fz (.int (f + d))), some (.fz (.int j)), some (.fz (.int i)), none] ∧ DS ys ∧ acc = ns.map (fun z : Str => O.fz (.str z)) ∧ ns.length = pre.length ∧ ∀ z ∈ ns, z.length ≤ 5) ?_ ?_ _ [] _ _ rfl ⟨ys, [], rfl, hd, rfl, rfl, by simp⟩
      · rintro pre dd post ρ acc e ⟨ys, ns, rfl, hd, rfl, hl, hn⟩ A B hA _
        walk_at "tw"
        refine ⟨fun _ => ?_, fun h => (nomatch h)⟩
        walk_at "tw"
        refine draw_i hd (by decide) (by decide) fun v ys v0 v1 hd => ⟨_, _, rfl, ?_⟩
        walk_at "tw"
        refine ⟨lg (by omega) (by omega), ?_⟩
        refine hA _ _ ⟨ys, ns ++ [numS v], rfl, hd, by rw [List.map_append]; rfl, by rw [List.length_append, List.length_append, hl]; rfl, fun x hx => ?_⟩
        rcases List.mem_append.mp hx with g | g
        · exact hn x g
        · rw [List.mem_singleton.mp g]; exact numS_le (by omega) (by omega)
      · rintro ρ acc ⟨ys, ns, rfl, hd, rfl, hl, hn⟩
        rw [List.length_map, List.length_range] at hl
        intro c2
        walk_at "tw"
        rw [frzL_mapfz D.str]
        obtain ⟨j1, j2, j3⟩ := join_le (y := " ") (by decide +kernel) (ps := ns) (b := 5) (m := 4) hn (by omega) (by decide)
        refine ⟨ns, rfl, j1, j2, ?_⟩
        walk_at "tw"
        have a1 := app_len z (Txt.join " " ns)
        have a2 := app_len (z ++ Txt.join " " ns) (Str.ofString "\n")
        have j3 : (Txt.join (Str.ofString " ") ns).length ≤ 4 * (5 + 1) := j3
        refine ⟨sz_12 (by show z.length + (Txt.join (Str.ofString " ") ns).length ≤ 13000; omega), ?_⟩
        walk_at "tw"
        have q1 : (Txt.join " " ns).length ≤ 24 := j3
        have ln : (Str.ofString "\n").length = 1 := by decide +kernel
        refine ⟨sz_12 (by show (z ++ Txt.join " " ns).length + (Str.ofString "\n").length ≤ 13000; omega), ?_⟩
        walk_at "tw"
        exact hN2 _ ⟨ys, (z ++ Txt.join " " ns) ++ Str.ofString "\n", _, hd, by omega, rfl⟩
    · rintro ρ ⟨ys, z, s4, hd, hz, rfl⟩
      exact hN _ ⟨ys, z, _, _, _, hd, by omega, by omega, by omega, rfl⟩
  · rintro ρ ⟨ys, z, f, s3, s4, hd, hz, _, _, rfl⟩
    walk_at "tw"
    exact ⟨⟨rfl, trivial⟩, k z (by omega) ys hd⟩
theorem sg_at {n : Int} (g0 : 0 ≤ n) (g1 : n < (("0123456789 pair\n-+_." : Str).length : Int)) : ∃ c, atI ("0123456789 pair\n-+_." : Str).cps.toList n = some c := by
  have sgl : ("0123456789 pair\n-+_." : Str).cps.toList.length = 20 := by decide +kernel
  have sgl2 : ("0123456789 pair\n-+_." : Str).length = 20 := by decide +kernel
  exact ⟨_, atI_in g0 (by rw [sgl]; rw [sgl2] at g1; exact g1)⟩
theorem tot_sub {ps qs : List Str} (h : ps.Sublist qs) : tot ps ≤ tot qs := by
  induction h with
  | slnil => exact Nat.le_refl _
  | cons a _ ih => rw [tot_cons]; omega
  | cons_cons a _ ih => rw [tot_cons, tot_cons]; omega
theorem tot_cut (ps : List Str) (lo hi : Option Int) : tot (cutG ps lo hi) ≤ tot ps := tot_sub ((List.take_sublist _ _).trans (List.drop_sublist _ _))
theorem strs_at {xs : List Str} {i : Int} (h0 : 0 ≤ i) (h1 : i < xs.length) {b : Nat} (hb : ∀ x ∈ xs, x.length ≤ b) : ∃ x, atI (xs.map D.str) i = some (.str x) ∧ x.length ≤ b := ⟨_, atI_map D.str h0 h1, hb _ (List.getElem_mem _)⟩
theorem strs_atO {xs : List Str} {i : Int} (h0 : 0 ≤ i) (h1 : i < xs.length) {b : Nat} (hb : ∀ x ∈ xs, x.length ≤ b) : ∃ x, atI (xs.map fun z : Str => O.fz (.str z)) i = some (.fz (.str x)) ∧ x.length ≤ b := ⟨_, atI_map (fun z : Str => O.fz (.str z)) h0 h1, hb _ (List.getElem_mem _)⟩
theorem does__law_bent : ∀ os P, sp__law_bent os P → wb__law_bent (start0 13 os) (endsOf os P) := by
  rintro os P ⟨a, xs, z, rfl, hd, hz, k⟩
  walk_at "tw"
  refine draw_i hd (by decide) (by decide) fun way ys w0 w1 hd => ⟨_, _, rfl, ?_⟩
  walk_at "tw"
  refine draw_i (many := (z.length : Int) + 1) hd (by omega) (by omega) fun at_ ys p0 p1 hd => ⟨_, _, rfl, ?_⟩
  walk_at "tw"
  refine draw_i hd (by decide +kernel) (by decide +kernel) fun n3 ys g0 g1 hd => ⟨_, _, rfl, ?_⟩
  walk_at "tw"
  obtain ⟨c, hc⟩ := sg_at g0 g1
  refine ⟨c, hc, ?_⟩
  walk_at "tw"
  have hps := tot_nl z
  refine ⟨by decide +kernel, sz_12 (by omega), fun y hy => sz_12 (by have := tot_mem hy; omega), fun p => ?_⟩
  rw [show Txt.split z (Str.ofString "\n") = Txt.split z "\n" from rfl]
  generalize Txt.split z "\n" = ps at *
  have hpn : 0 < ps.length := List.length_pos_iff.mpr hps.2
  have hpl := tot_len ps
  have hmem : ∀ p ∈ ps, p.length ≤ z.length := fun p hp => by have := tot_mem hp; omega
  have hpn2 : ps.length ≤ 2101 := by omega
  walk_at "tw"
  refine ⟨_, rfl, ?_⟩
  walk_at "tw"
  rw [frzL_mapfz D.str, List.length_map]
  refine draw_i (many := (ps.length : Int)) hd (by omega) (by omega) fun one ys o0 o1 hd => ⟨_, _, rfl, ?_⟩
  walk_at "tw"
  refine ⟨_, rfl, ?_⟩
  walk_at "tw"
  rw [frzL_mapfz D.str, List.length_map]
  refine draw_i (many := (ps.length : Int)) hd (by omega) (by omega) fun two ys t0 t1 hd => ⟨_, _, rfl, ?_⟩
  walk_at "tm"
  have c1 := fun lo hi => cutS_length z lo hi
  refine seq_mid (fun ρ => ∃ u v : Str, u.length ≤ z.length ∧ v.length ≤ z.length ∧ ρ = [some (.lst a ys), some (.fz (.str z)), some (.fz (.int way)), some (.fz (.int at_)), some (.fz (.str ("0123456789 pair\n-+_." : Str))), some (.fz (.str ⟨#[c]⟩)), some (.lst p (ps.map fun x => .fz (.str x))), some (.fz (.int one)), some (.fz (.int two)), some (.fz (.str u)), some (.fz (.str v)), none, none]) (fun N hN => ?_) ?_
  · walk_at "tw"
    exact hN _ ⟨_, _, c1 _ _, c1 _ _, rfl⟩
  rintro _ ⟨u, v, hu, hv, rfl⟩
  have big : ∀ {n : Nat}, n ≤ 13000 → n ≤ sizeLine := fun h => sz_12 h
  refine seq_mid (fun ρ => 4 ≤ way ∧ ρ = [some (.lst a ys), some (.fz (.str z)), some (.fz (.int way)), some (.fz (.int at_)), some (.fz (.str ("0123456789 pair\n-+_." : Str))), some (.fz (.str ⟨#[c]⟩)), some (.lst p (ps.map fun x => .fz (.str x))), some (.fz (.int one)), some (.fz (.int two)), some (.fz (.str u)), some (.fz (.str v)), none, none]) (fun N hN => ?_) ?_
  · walk_at "tw"
    refine ⟨fun h => ?_, fun h => ?_⟩
    · have h : way < 4 := of_decide_eq_true h
      walk_at "tw"
      have lc : (⟨#[c]⟩ : Str).length = 1 := rfl
      have l0 : (Str.ofString "0").length = 1 := by decide +kernel
      have l1 := app_len u ⟨#[c]⟩
      have l2 := app_len u (Str.ofString "0")
      have v1 := cutS_length v (some 1) none
      refine ⟨big (by omega), ?_⟩
      walk_at "tw"
      refine ⟨big (by omega), ?_⟩
      walk_at "tw"
      refine ⟨big (by omega), ?_⟩
      walk_at "tw"
      refine ⟨big (by omega), ?_⟩
      walk_at "tw"
      refine ⟨big (by omega), ?_⟩
      walk_at "tw"
      refine ⟨big (by omega), ?_⟩
      walk_at "tw"
      refine ⟨big (by omega), ?_⟩
      walk_at "tw"
      refine ⟨by show 4 ≤ sizeLine; decide, fun b4 => ?_⟩
      walk_at "tw"
      have m1 := app_len (u ++ ⟨#[c]⟩) v
      have m2 := app_len (u ++ ⟨#[c]⟩) (cutS v (some 1) none)
      have m3 := app_len u (cutS v (some 1) none)
      have m4 := app_len (u ++ Str.ofString "0") v
      obtain ⟨x, hx, hxl⟩ := strs_at (xs := [(u ++ ⟨#[c]⟩) ++ v, (u ++ ⟨#[c]⟩) ++ cutS v (some 1) none, u ++ cutS v (some 1) none, (u ++ Str.ofString "0") ++ v]) (i := way) w0 (by show way < 4; exact h) (b := 2 * z.length + 1) (by
        intro x hx
        simp only [List.mem_cons, List.not_mem_nil, or_false] at hx
        rcases hx with rfl | rfl | rfl | rfl <;> omega)
      refine ⟨_, hx, ?_⟩
      exact ⟨⟨rfl, trivial⟩, k _ (by omega) ys hd⟩
    · exact hN _ ⟨by have := of_decide_eq_false h; omega, rfl⟩
  rintro _ ⟨w4, rfl⟩
  have J : ∀ qs : List Str, tot qs ≤ 5 * z.length + 20 → (qs.map (·.length)).sum + qs.length * (Str.ofString "\n").length ≤ 16777216 ∧ (Txt.join (Str.ofString "\n") qs).length ≤ sizeLine ∧ (Txt.join (Str.ofString "\n") qs).length ≤ 5 * z.length + 20 := fun qs hq => by
    obtain ⟨h1, h2⟩ := join_tot (y := "\n") (by decide +kernel) qs
    exact ⟨Nat.le_trans h2 (by omega), big (by omega), by omega⟩
  have cl : ∀ lo hi, tot (cutG ps lo hi) ≤ z.length + 1 := fun lo hi => by rw [← hps.1]; exact tot_cut ps lo hi
  have cn : ∀ lo hi, (cutG ps lo hi).length ≤ 2101 := fun lo hi => Nat.le_trans (cutG_len _ _ _) hpn2
  walk_at "tw"
  refine ⟨fun h => ?_, fun h => ?_⟩
  · walk_at "tw"
    intro c2
    walk_at "tw"
    intro c3
    walk_at "tw"
    rw [O.frzL_map, O.frzL_map, frzL_mapfz D.str, cutG_map, cutG_map]
    refine ⟨by rw [List.length_map, List.length_map]; exact big (by have := cn none (some (one + 1)); have := cn (some one) none; omega), fun c4 => ?_⟩
    walk_at "tw"
    rw [O.frzL_map, ← List.map_append]
    obtain ⟨j1, j2, j3⟩ := J (cutG ps none (some (one + 1)) ++ cutG ps (some one) none) (by rw [tot_app]; have := cl none (some (one + 1)); have := cl (some one) none; omega)
    refine ⟨_, rfl, j1, j2, ?_⟩
    exact ⟨⟨rfl, trivial⟩, k _ j3 ys hd⟩
  walk_at "tw"
  refine ⟨fun h => ?_, fun h => ?_⟩
  · walk_at "tw"
    intro c2
    walk_at "tw"
    intro c3
    walk_at "tw"
    rw [O.frzL_map, O.frzL_map, frzL_mapfz D.str, cutG_map, cutG_map]
    refine ⟨by rw [List.length_map, List.length_map]; exact big (by have := cn none (some one); have := cn (some (one + 1)) none; omega), fun c4 => ?_⟩
    walk_at "tw"
    rw [O.frzL_map, ← List.map_append]
    obtain ⟨j1, j2, j3⟩ := J (cutG ps none (some one) ++ cutG ps (some (one + 1)) none) (by rw [tot_app]; have := cl none (some one); have := cl (some (one + 1)) none; omega)
    refine ⟨_, rfl, j1, j2, ?_⟩
    exact ⟨⟨rfl, trivial⟩, k _ j3 ys hd⟩
  walk_at "tw"
  refine ⟨fun h => ?_, fun h => ?_⟩
  · walk_at "tw"
    intro c2
    walk_at "tw"
    intro c3
    walk_at "tw"
    rw [O.frzL_map, O.frzL_map, frzL_mapfz D.str, cutG_map, cutG_map]
    refine ⟨by rw [List.length_map, List.length_map]; exact big (by have := cn none (some one); have := cn (some (one + 1)) none; omega), fun c4 => ?_⟩
    walk_at "tw"
    intro c5
    walk_at "tw"
    intro c6
    walk_at "tw"
    rw [O.frzL_map, O.frzL_map, ← List.map_append, cutG_map, cutG_map]
    have q1 := cn (some one) (some (one + 1))
    have q2 := cn none (some one)
    have q3 := cn (some (one + 1)) none
    have q4 := cl (some one) (some (one + 1))
    have q5 := cl none (some one)
    have q6 := cl (some (one + 1)) none
    have r := tot_app (cutG ps none (some one)) (cutG ps (some (one + 1)) none)
    have r2 := List.length_append (as := cutG ps none (some one)) (bs := cutG ps (some (one + 1)) none)
    generalize cutG ps none (some one) ++ cutG ps (some (one + 1)) none = L at *
    have cl2 : ∀ lo hi, tot (cutG L lo hi) ≤ tot L := fun lo hi => tot_cut L lo hi
    have cn2 : ∀ lo hi, (cutG L lo hi).length ≤ L.length := fun lo hi => cutG_len _ _ _
    have e1 := cn2 none (some two)
    have e2 := cn2 (some two) none
    have e3 := cl2 none (some two)
    have e4 := cl2 (some two) none
    refine ⟨by simp only [O.frzL_map, List.length_map]; exact big (by omega), fun c7 => ?_⟩
    walk_at "tw"
    intro c8
    walk_at "tw"
    rw [O.frzL_map, O.frzL_map, ← List.map_append, cutG_map]
    refine ⟨by simp only [O.frzL_map, List.length_map, List.length_append]; exact big (by omega), fun c9 => ?_⟩
    walk_at "tw"
    rw [O.frzL_map, O.frzL_map, ← List.map_append]
    obtain ⟨j1, j2, j3⟩ := J ((cutG L none (some two) ++ cutG ps (some one) (some (one + 1))) ++ cutG L (some two) none) (by rw [tot_app, tot_app]; omega)
    refine ⟨_, rfl, j1, j2, ?_⟩
    exact ⟨⟨rfl, trivial⟩, k _ j3 ys hd⟩
  walk_at "tw"
  refine ⟨by show 11 ≤ sizeLine; decide, fun b5 => ?_⟩
  walk_at "tw"
  refine ⟨fun h => ?_, fun h => ?_⟩
  · walk_at "tw"
    intro c2
    walk_at "tw"
    refine draw_i hd (by decide) (by decide) fun m ys m0 m1 hd => ⟨_, _, rfl, ?_⟩
    walk_at "tw"
    obtain ⟨x, hx, hxl⟩ := strs_atO (xs := ["pair 1", "pair 1 2 3", "pair 0 0", "99999", "100000", "00", "", " ", "pair 2 100000", "pairs 1 2", "1  2"]) (i := m) m0 m1 (b := 13) (by decide +kernel)
    refine ⟨m, .str x, rfl, hx, ?_⟩
    walk_at "tw"
    rw [O.frzL_map, frzL_mapfz D.str, cutG_map]
    refine ⟨by show 1 ≤ sizeLine; decide, fun c6 => ?_⟩
    walk_at "tw"
    show (((cutG ps none (some one)).map D.str).length + [D.str x].length ≤ sizeLine) ∧ _
    refine ⟨by rw [List.length_map]; exact big (by have := cn none (some one); show _ + 1 ≤ 13000; omega), fun c7 => ?_⟩
    walk_at "tw"
    intro c8
    walk_at "tw"
    rw [O.frzL_map, O.frzL_map, show O.frzL [O.fz (.str x)] = [x].map D.str from rfl, ← List.map_append, cutG_map]
    refine ⟨by rw [List.length_map, List.length_map, List.length_append]; exact big (by have := cn none (some one); have := cn (some one) none; show _ + 1 + _ ≤ 13000; omega), fun c9 => ?_⟩
    walk_at "tw"
    rw [O.frzL_map, ← List.map_append]
    obtain ⟨j1, j2, j3⟩ := J ((cutG ps none (some one) ++ [x]) ++ cutG ps (some one) none) (by rw [tot_app, tot_app, tot_cons]; have := cl none (some one); have := cl (some one) none; show _ + (_ + 0) + _ ≤ _; omega)
    refine ⟨_, rfl, j1, j2, ?_⟩
    exact ⟨⟨rfl, trivial⟩, k _ j3 ys hd⟩
  walk_at "tw"
  exact ⟨⟨rfl, trivial⟩, k _ (by have := c1 none (some (-1)); omega) ys hd⟩
theorem rep_mem {n : Int} {c : Nat} (h : c ∈ tlS (repS ("9" : Str) n)) : c = 57 := by
  have gen : ∀ (k : Nat) (acc : Array Nat), (∀ c ∈ acc.toList, c = 57) → ∀ c ∈ ((List.replicate k ("9" : Str).cps).foldl (· ++ ·) acc).toList, c = 57 := by
    intro k
    induction k with
    | zero => exact fun acc ha => ha
    | succ k ih =>
      intro acc ha
      rw [List.replicate_succ, List.foldl_cons]
      refine ih _ fun c hc => ?_
      rw [Array.toList_append] at hc
      rcases List.mem_append.mp hc with g | g
      · exact ha c g
      · rw [show ("9" : Str).cps.toList = [57] by decide +kernel] at g
        exact List.mem_singleton.mp g
  exact gen n.toNat #[] (fun c h => (by cases h)) c h
theorem rep_all (n : Int) (s : Nat) (h : s ≠ 57) : ¬ s ∈ tlS (repS ("9" : Str) n) := fun c => h (rep_mem c)
theorem join_eq2 (y : Str) (l : List Str) : tlS (Txt.join y l) = TL.joinL (tlS y) (l.map tlS) := by
  rw [TL.join_eq]; exact TL.tl_join y l
theorem split_rows {ls : List Str} (h : ls ≠ []) (hl : ∀ l ∈ ls, ¬ 10 ∈ tlS l) : Txt.split (Txt.join "\n" ls) "\n" = ls := TL.split_join (y := "\n") (s := 10) (S := []) (by decide +kernel) (by decide +kernel) h hl
theorem split_words {ls : List Str} (h : ls ≠ []) (hl : ∀ l ∈ ls, ¬ 32 ∈ tlS l) : Txt.split (Txt.join " " ls) " " = ls := TL.split_join (y := " ") (s := 32) (S := []) (by decide +kernel) (by decide +kernel) h hl
theorem numW_great {G : Str} (hl : 5 < G.length) : numW G = none := if_neg fun h => by
  have := h.1.2
  omega
theorem rows_of {z : Str} {ls : List Str} (h : Txt.split z "\n" = ls ++ [("" : Str)]) : rowsT z = ls ∧ lastT z = "" := by
  have e : lastT z = "" := by
    unfold lastT piecesT
    rw [h, List.getLastD_eq_getLast?, List.getLast?_append]
    rfl
  refine ⟨?_, e⟩
  unfold rowsT
  rw [if_pos e]
  unfold piecesT
  rw [h, List.dropLast_concat]
theorem great0 {G : Str} (hg : ∀ s, s ≠ 57 → ¬ s ∈ tlS G) (hG : 5 < G.length) : rdT (Str.ofString "pair 0 " ++ G ++ Str.ofString "\n") = .bad 0 := by
  have hs : Txt.split (Str.ofString "pair 0 " ++ G ++ Str.ofString "\n") "\n" = [Str.ofString "pair 0 " ++ G] ++ [("" : Str)] := by
    rw [show Str.ofString "pair 0 " ++ G ++ Str.ofString "\n" = Txt.join "\n" [Str.ofString "pair 0 " ++ G, ""] from ext_tlS (by
      rw [join_eq2, tlS_app]
      show _ = tlS (Str.ofString "pair 0 " ++ G) ++ (tlS ("\n" : Str) ++ tlS ("" : Str))
      rw [show tlS ("" : Str) = [] by decide +kernel, List.append_nil])]
    refine split_rows (by simp) fun l hl => ?_
    simp only [List.mem_cons, List.not_mem_nil, or_false] at hl
    rcases hl with rfl | rfl
    · rw [tlS_app]
      intro c
      rcases List.mem_append.mp c with c | c
      · exact absurd c (by decide +kernel)
      · exact hg _ (by decide) c
    · decide +kernel
  obtain ⟨h1, h2⟩ := rows_of hs
  have hw : Txt.split (Str.ofString "pair 0 " ++ G) " " = [Str.ofString "pair", Str.ofString "0", G] := by
    rw [show Str.ofString "pair 0 " ++ G = Txt.join " " [Str.ofString "pair", Str.ofString "0", G] from ext_tlS (by
      rw [join_eq2, tlS_app]
      show _ = tlS ("pair" : Str) ++ (tlS (" " : Str) ++ (tlS ("0" : Str) ++ (tlS (" " : Str) ++ _)))
      simp only [← List.append_assoc]
      congr 1)]
    refine split_words (by simp) fun l hl => ?_
    simp only [List.mem_cons, List.not_mem_nil, or_false] at hl
    rcases hl with rfl | rfl | rfl
    · decide +kernel
    · decide +kernel
    · exact hg _ (by decide)
  have hst : stp [] (Txt.split (Str.ofString "pair 0 " ++ G) " ") = none := by
    rw [hw]
    have hp : pairW [Str.ofString "pair", Str.ofString "0", G] = none := by
      unfold pairW
      rw [if_pos ⟨rfl, rfl⟩]
      exact numsW_no (pre := ["0"]) (post := []) (numW_great hG)
    unfold stp
    rw [hp]
    rfl
  unfold rdT
  rw [h1]
  show (match (match stp [] (Txt.split (Str.ofString "pair 0 " ++ G) " ") with
    | some m' => rdL (0 + 1) m' []
    | none => .bad 0) with
    | .bad k => Res.bad k
    | .good m => _) = _
  rw [hst]
theorem great1 {G : Str} (hg : ∀ s, s ≠ 57 → ¬ s ∈ tlS G) (hG : 5 < G.length) : rdT (Str.ofString "pair 0 0\n" ++ G ++ Str.ofString "\n") = .bad 1 := by
  have hs : Txt.split (Str.ofString "pair 0 0\n" ++ G ++ Str.ofString "\n") "\n" = [("pair 0 0" : Str), G] ++ [("" : Str)] := by
    rw [show Str.ofString "pair 0 0\n" ++ G ++ Str.ofString "\n" = Txt.join "\n" [Str.ofString "pair 0 0", G, Str.ofString ""] from ext_tlS (by
      rw [join_eq2, tlS_app, tlS_app]
      show _ = tlS ("pair 0 0" : Str) ++ (tlS ("\n" : Str) ++ (tlS G ++ (tlS ("\n" : Str) ++ tlS ("" : Str))))
      rw [show tlS ("" : Str) = [] by decide +kernel, List.append_nil]
      simp only [← List.append_assoc]
      congr 1)]
    refine split_rows (by simp) fun l hl => ?_
    simp only [List.mem_cons, List.not_mem_nil, or_false] at hl
    rcases hl with rfl | rfl | rfl
    · decide +kernel
    · exact hg _ (by decide)
    · decide +kernel
  obtain ⟨h1, h2⟩ := rows_of hs
  have hw : Txt.split G " " = [G] := by
    conv => lhs; rw [show G = Txt.join " " [G] from ext_tlS (by
      rw [join_eq2]
      rfl)]
    exact split_words (by simp) fun l hl => by
      rw [List.mem_singleton.mp hl]
      exact hg _ (by decide)
  have hst : stp [((0, 0), [])] (Txt.split G " ") = none := by
    rw [hw]
    have hp : pairW [G] = none := if_neg fun h => (by cases h.2)
    unfold stp
    rw [hp]
    show (match some (((0 : Int), (0 : Int)), ([] : List (List Int))), numsW [G] with
      | some e, some r => some (([] : Pap) ++ [(e.1, e.2 ++ [r])])
      | _, _ => none) = none
    rw [show numsW [G] = none from numsW_no (pre := []) (post := []) (numW_great hG)]
  have h0 : stp [] (Txt.split ("pair 0 0" : Str) " ") = some [((0, 0), [])] := by decide +kernel
  unfold rdT
  rw [h1]
  show (match (match stp [] (Txt.split ("pair 0 0" : Str) " ") with
    | some m' => (match stp m' (Txt.split G " ") with
      | some m' => rdL (1 + 1) m' []
      | none => .bad 1)
    | none => .bad 0) with
    | .bad k => Res.bad k
    | .good m => _) = _
  rw [h0]
  show (match (match stp [((0, 0), [])] (Txt.split G " ") with
      | some m' => rdL (1 + 1) m' []
      | none => .bad 1) with
    | .bad k => Res.bad k
    | .good m => _) = _
  rw [hst]
theorem rdL_papI : ∀ {zs : List Str} {k n : Nat} {m m' : Pap}, PapI n m → rdL k m zs = .good m' → ∃ n', PapI n' m'
  | [], _, n, m, _, h, e => ⟨n, by cases e; exact h⟩
  | z :: r, k, n, m, m', h, e => by
    have e : (match stp m (Txt.split z " ") with
      | some m' => rdL (k + 1) m' r
      | none => .bad k) = .good m' := e
    split at e
    · rename_i m2 hm
      exact rdL_papI (h.stp hm) e
    · cases e
theorem rdT_nodup {z : Str} {m : Pap} (h : rdT z = .good m) : ((papT m).map (·.1)).Nodup := by
  obtain ⟨n, hn⟩ : ∃ n, PapI n m := by
    unfold rdT at h
    split at h
    · cases h
    · rename_i m2 hm
      split at h
      · cases h
        exact rdL_papI (n := 0) ⟨List.Pairwise.nil, Nat.zero_le _, fun _ h => (by cases h)⟩ hm
      · cases h
  unfold papT
  rw [List.map_map]
  have := hn.up
  rw [List.Nodup, List.pairwise_map] at *
  refine this.imp fun {a b} hab c => ?_
  rw [kP_inj c] at hab
  unfold ltP at hab
  omega
theorem deq_rowsD (rs : List (List Int)) : deq 59 (rowsD rs) (rowsD rs) = some true := by
  have h := EqM.tup (EqM.tup (eqM_int 57)) rs rs
  dsimp only at h
  rw [decide_eq_true rfl] at h
  exact h
theorem deq_bl {n : Nat} (a b : Bool) : deq n (.bl a) (.bl b) = some (a == b) := by cases n <;> rfl
theorem does_law [Zc] : ∀ os P, sp_law os P → wb_law (start0 9 os) (endsOf os P) := by
  rintro os P ⟨ns, hle, rfl, k⟩
  walk_at "tw"
  refine ⟨ns, rfl, hle, fun a xs hd => ?_⟩
  walk_at "tw"
  refine ⟨by decide, by decide, by decide +kernel, ?_⟩
  have gl : (repS (Str.ofString "9") 5000).length = 5000 := by rw [repS_len]; decide +kernel
  have l1 := app_len (Str.ofString "pair 0 ") (repS (Str.ofString "9") 5000)
  have l2 := app_len (Str.ofString "pair 0 " ++ repS (Str.ofString "9") 5000) (Str.ofString "\n")
  have l3 := app_len (Str.ofString "pair 0 0\n") (repS (Str.ofString "9") 5000)
  have l4 := app_len (Str.ofString "pair 0 0\n" ++ repS (Str.ofString "9") 5000) (Str.ofString "\n")
  have n1 : (Str.ofString "pair 0 ").length = 7 := by decide +kernel
  have n2 : (Str.ofString "pair 0 0\n").length = 9 := by decide +kernel
  have n3 : (Str.ofString "\n").length = 1 := by decide +kernel
  have g0 := great0 (G := repS (Str.ofString "9") 5000) (fun s hs => rep_all 5000 s hs) (by omega)
  have g1 := great1 (G := repS (Str.ofString "9") 5000) (fun s hs => rep_all 5000 s hs) (by omega)
  generalize repS (Str.ofString "9") 5000 = G at *
  walk_at "tw"
  refine ⟨sz_12 (by omega), ?_⟩
  walk_at "tw"
  refine ⟨sz_12 (by omega), ?_⟩
  walk_at "tw"
  refine ⟨.inl ⟨_, rfl, by omega, ?_⟩⟩
  rw [g0]
  walk_at "tw"
  refine ⟨sz_12 (by omega), ?_⟩
  walk_at "tw"
  refine ⟨sz_12 (by omega), ?_⟩
  walk_at "tw"
  refine ⟨.inl ⟨_, rfl, by omega, ?_⟩⟩
  rw [g1]
  walk_at "tw"
  refine ⟨by show 2 ≤ sizeLine; decide, fun c1 => ?_⟩
  walk_at "tw"
  refine ⟨by show 2 ≤ sizeLine; decide, fun c2 => ?_⟩
  walk_at "tw"
  refine ⟨true, by decide +kernel, ?_⟩
  walk_at "tw"
  refine ⟨fun h => (nomatch h), fun _ => ?_⟩
  walk_at "tw"
  refine ⟨⟨by decide, by decide⟩, ?_⟩
  refine for_rng 6 (fun j ρ => ∃ ys s3 s4 s5 s6 s7 s8, ρ = [some (.fz (.frl (ns.map .int))), some (.lst a ys), some (.fz (.str G)), s3, s4, s5, s6, s7, s8] ∧ DS ys) ⟨xs, _, _, _, _, _, _, rfl, hd⟩ ?_ ?_
  · rintro j ρ hj ⟨ys, s3, s4, s5, s6, s7, s8, rfl, hd⟩ N hN
    walk_at "tw"
    refine ⟨a, ys, rfl, hd, fun z hz ys hd => ⟨_, _, rfl, ?_⟩⟩
    walk_at "tw"
    refine draw_i hd (by decide) (by decide) fun n ys h0 h1 hd => ⟨_, _, rfl, ?_⟩
    walk_at "tw"
    refine ⟨⟨by omega, by omega⟩, ?_⟩
    obtain ⟨n, rfl⟩ := Int.eq_ofNat_of_zero_le h0
    rw [Int.toNat_natCast]
    refine for_rng n (fun i ρ => ∃ ys z s5, DS ys ∧ (i = 0 → (z : Str).length ≤ 400) ∧ (i = 1 → (z : Str).length ≤ 2020) ∧ (z : Str).length ≤ 10120 ∧ ρ = [some (.fz (.frl (ns.map .int))), some (.lst a ys), some (.fz (.str G)), some (.fz (.int j)), some (.fz (.str z)), s5, s6, s7, s8]) ⟨ys, z, _, hd, fun _ => hz, fun h => by omega, by omega, rfl⟩ ?_ ?_
    · rintro i ρ hi ⟨ys, z, s5, hd, hz0, hz1, hz2, rfl⟩ N2 hN2
      walk_at "tw"
      have hi2 : i = 0 ∨ i = 1 := by omega
      refine ⟨a, ys, z, rfl, hd, by rcases hi2 with rfl | rfl <;> omega, fun y hy ys hd => ⟨_, _, rfl, ?_⟩⟩
      exact hN2 _ ⟨ys, y, _, hd, fun h => by omega, fun h => by rcases hi2 with rfl | rfl <;> omega, by rcases hi2 with rfl | rfl <;> omega, rfl⟩
    · rintro ρ ⟨ys, z, s5, hd, _, _, hz, rfl⟩
      have hz : z.length ≤ 11000 := by omega
      walk_at "tm"
      refine seq_mid (fun ρ => ∃ s6 s7, ((∃ r : Nat, s6 = .fz (.int r) ∧ s7 = .fz (.int r)) ∨ ∃ m, ((papT m).map (·.1)).Nodup ∧ s6 = .fz (.dcT (papT m)) ∧ s7 = .fz (.dcT (papT m))) ∧ ρ = [some (.fz (.frl (ns.map .int))), some (.lst a ys), some (.fz (.str G)), some (.fz (.int j)), some (.fz (.str z)), s5, some s6, some s7, s8]) (fun N2 hN2 => ?_) ?_
      · walk_at "tw"
        refine ⟨z, rfl, hz, ?_⟩
        have nd := fun m (h : rdT z = .good m) => rdT_nodup h
        cases hr : rdT z with
        | bad r =>
          walk_at "tw"
          refine ⟨.inl ⟨z, rfl, hz, ?_⟩⟩
          rw [hr]
          walk_at "tw"
          exact hN2 _ ⟨_, _, .inl ⟨r, rfl, rfl⟩, rfl⟩
        | good m =>
          intro b1
          walk_at "tw"
          refine ⟨.inl ⟨z, rfl, hz, ?_⟩⟩
          rw [hr]
          intro b2
          walk_at "tw"
          exact hN2 _ ⟨_, _, .inr ⟨m, nd m hr, rfl, rfl⟩, rfl⟩
      rintro _ ⟨s6, s7, hs, rfl⟩
      refine seq_mid (fun ρ => ρ = [some (.fz (.frl (ns.map .int))), some (.lst a ys), some (.fz (.str G)), some (.fz (.int j)), some (.fz (.str z)), s5, some s6, some s7, s8]) (fun N2 hN2 => ?_) ?_
      · rcases hs with ⟨r, rfl, rfl⟩ | ⟨m, nd, rfl, rfl⟩
        · walk_at "tw"
          refine ⟨true, deq_bl true true, ?_⟩
          walk_at "tw"
          refine ⟨fun h => (nomatch h), fun _ => ?_⟩
          walk_at "tw"
          rw [show (decide ((r : Int) = (r : Int))) = true from decide_eq_true rfl]
          refine ⟨fun h => (nomatch h), fun _ => ?_⟩
          exact hN2 _ rfl
        · walk_at "tw"
          refine ⟨true, deq_bl false false, ?_⟩
          walk_at "tw"
          refine ⟨fun h => (nomatch h), fun _ => ?_⟩
          walk_at "tw"
          refine ⟨true, fun _ => deqT_self [] (papT m) nd (fun q hq => by
            obtain ⟨e, _, rfl⟩ := List.mem_map.mp hq
            exact deq_rowsD e.2), ?_⟩
          rw [show ((papT m).length == (papT m).length && true) = true by simp]
          walk_at "tw"
          refine ⟨fun h => (nomatch h), fun _ => ?_⟩
          exact hN2 _ rfl
      rintro _ rfl
      walk_at "tw"
      refine ⟨by show 1 ≤ sizeLine; decide, fun c3 => ?_⟩
      walk_at "tw"
      refine ⟨by show 1 ≤ sizeLine; decide, ?_⟩
      walk_at "tw"
      intro c4
      walk_at "tw"
      refine ⟨by show 2 ≤ sizeLine; decide, ?_⟩
      walk_at "tw"
      refine ⟨Nat.zero_le _, ?_⟩
      walk_at "tw"
      refine ⟨_, rfl, ?_⟩
      intro c5
      walk_at "tw"
      refine ⟨by show 7 ≤ sizeLine; decide, fun c6 => ?_⟩
      walk_at "tw"
      refine draw_i hd (by decide) (by decide) fun n6 ys h0 h1 hd => ⟨_, _, rfl, ?_⟩
      walk_at "tw"
      have hodd : ∀ u ∈ [D.non, D.int 0, D.bl true, D.lst (O.frzL [O.fz (D.str (Str.ofString "pair 0 0"))]), D.tup [D.str (Str.ofString "pair 0 0\n")], D.dcT [], D.dcT [([Sum.inl 0, Sum.inl 0], D.tup [])]], noStr u := fun u hu => by
        simp only [List.mem_cons, List.not_mem_nil, or_false] at hu
        rcases hu with rfl | rfl | rfl | rfl | rfl | rfl | rfl
        · exact .inr rfl
        · exact .inr rfl
        · exact .inr rfl
        · exact .inr rfl
        · exact .inr rfl
        · exact .inl ⟨_, rfl⟩
        · exact .inl ⟨_, rfl⟩
      generalize hus : [D.non, D.int 0, D.bl true, D.lst (O.frzL [O.fz (D.str (Str.ofString "pair 0 0"))]), D.tup [D.str (Str.ofString "pair 0 0\n")], D.dcT [], D.dcT [([Sum.inl 0, Sum.inl 0], D.tup [])]] = us at hodd
      have hl : us.length = 7 := by rw [← hus]; rfl
      refine ⟨n6, us[n6.toNat]'(by omega), rfl, ?_, ?_⟩
      · rw [show [O.fz D.non, O.fz (D.int 0), O.fz (D.bl true), O.fz (D.lst (O.frzL [O.fz (D.str (Str.ofString "pair 0 0"))])), O.fz (D.tup [D.str (Str.ofString "pair 0 0\n")]), O.fz (D.dcT []), O.fz (D.dcT [([Sum.inl 0, Sum.inl 0], D.tup [])])] = us.map O.fz by rw [← hus]; rfl]
        exact atI_map O.fz h0 (by omega)
      walk_at "tw"
      refine ⟨.inr ⟨_, rfl, hodd _ (List.getElem_mem _), ?_⟩⟩
      walk_at "tw"
      refine ⟨fun h => (nomatch h), fun _ => ?_⟩
      walk_at "tw"
      refine ⟨fun h => (nomatch h), fun _ => ?_⟩
      exact hN _ ⟨_, _, _, _, _, _, _, rfl, hd⟩
  · rintro ρ ⟨ys, s3, s4, s5, s6, s7, s8, rfl, hd⟩
    walk_at "tw"
    exact ⟨trivial, k⟩
def topS (i : Nat) : Stmt := PySem.Challenge.pw_onetrace_k86_texts_of_no_paper.main.body.getD i (.Pass ⟨0, 0, 0, 0⟩)
abbrev s__law_state : Stmt := topS 14
abbrev N__law_state : List Str := ["script", "cells", "cell"]
theorem sc__law_state : FnScope N__law_state ["script"] (defScope s__law_state) := ⟨rfl, rfl, rfl, by decide +kernel, rfl, by decide +kernel, by decide +kernel⟩
abbrev s_Reading_init : Stmt := inClass (topS 11) 0
abbrev N_Reading_init : List Str := ["self"]
theorem sc_Reading_init : FnScope N_Reading_init ["self"] (defScope s_Reading_init) := ⟨rfl, rfl, rfl, by decide +kernel, rfl, by decide +kernel, by decide +kernel⟩
abbrev s_number_of : Stmt := topS 8
abbrev N_number_of : List Str := ["word", "sign"]
theorem sc_number_of : FnScope N_number_of ["word"] (defScope s_number_of) := ⟨rfl, rfl, rfl, by decide +kernel, rfl, by decide +kernel, by decide +kernel⟩
abbrev s_numbers_of : Stmt := topS 9
abbrev N_numbers_of : List Str := ["words", "found", "word"]
theorem sc_numbers_of : FnScope N_numbers_of ["words"] (defScope s_numbers_of) := ⟨rfl, rfl, rfl, by decide +kernel, rfl, by decide +kernel, by decide +kernel⟩
abbrev s_pair_of : Stmt := topS 10
abbrev N_pair_of : List Str := ["words"]
theorem sc_pair_of : FnScope N_pair_of ["words"] (defScope s_pair_of) := ⟨rfl, rfl, rfl, by decide +kernel, rfl, by decide +kernel, by decide +kernel⟩
abbrev s_Reading_take_row : Stmt := inClass (topS 11) 1
abbrev N_Reading_take_row : List Str := ["self", "row", "words", "pair", "numbers"]
theorem sc_Reading_take_row : FnScope N_Reading_take_row ["self", "row"] (defScope s_Reading_take_row) := ⟨rfl, rfl, rfl, by decide +kernel, rfl, by decide +kernel, by decide +kernel⟩
abbrev s_read_paper : Stmt := topS 12
abbrev N_read_paper : List Str := ["text", "rows", "rest", "reading", "at", "row"]
theorem sc_read_paper : FnScope N_read_paper ["text"] (defScope s_read_paper) := ⟨rfl, rfl, rfl, by decide +kernel, rfl, by decide +kernel, by decide +kernel⟩
abbrev s__law_tried : Stmt := topS 20
abbrev N__law_tried : List Str := ["thing", "made", "caught", "e", "alone"]
theorem sc__law_tried : FnScope N__law_tried ["thing"] (defScope s__law_tried) := ⟨rfl, rfl, rfl, by decide +kernel, rfl, by decide +kernel, by decide +kernel⟩
abbrev s__law_draw : Stmt := topS 15
abbrev N__law_draw : List Str := ["state", "many", "at", "cell"]
theorem sc__law_draw : FnScope N__law_draw ["state", "many"] (defScope s__law_draw) := ⟨rfl, rfl, rfl, by decide +kernel, rfl, by decide +kernel, by decide +kernel⟩
abbrev s__law_text : Stmt := topS 16
abbrev N__law_text : List Str := ["state", "made", "first", "k", "line", "at"]
theorem sc__law_text : FnScope N__law_text ["state"] (defScope s__law_text) := ⟨rfl, rfl, rfl, by decide +kernel, rfl, by decide +kernel, by decide +kernel⟩
abbrev s__law_bent : Stmt := topS 17
abbrev N__law_bent : List Str := ["state", "written", "way", "at", "signs", "sign", "rows", "spot", "other", "ahead", "behind", "left", "more"]
theorem sc__law_bent : FnScope N__law_bent ["state", "written"] (defScope s__law_bent) := ⟨rfl, rfl, rfl, by decide +kernel, rfl, by decide +kernel, by decide +kernel⟩
abbrev s__law_numbers : Stmt := topS 18
abbrev N__law_numbers : List Str := ["words", "word", "odd", "sign"]
theorem sc__law_numbers : FnScope N__law_numbers ["words"] (defScope s__law_numbers) := ⟨rfl, rfl, rfl, by decide +kernel, rfl, by decide +kernel, by decide +kernel⟩
abbrev s__law_read : Stmt := topS 19
abbrev N__law_read : List Str := ["written", "rows", "cut", "made", "last", "at", "row", "words", "pair", "numbers"]
theorem sc__law_read : FnScope N__law_read ["written"] (defScope s__law_read) := ⟨rfl, rfl, rfl, by decide +kernel, rfl, by decide +kernel, by decide +kernel⟩
abbrev s_law : Stmt := topS 21
abbrev N_law : List Str := ["script", "state", "great", "turn", "written", "times", "wanted", "made", "odd"]
theorem sc_law : FnScope N_law ["script"] (defScope s_law) := ⟨rfl, rfl, rfl, by decide +kernel, rfl, by decide +kernel, by decide +kernel⟩
abbrev s_NoText_init : Stmt := inClass (topS 2) 0
abbrev N_NoText_init : List Str := ["self", "row"]
theorem sc_NoText_init : FnScope N_NoText_init ["self", "row"] (defScope s_NoText_init) := ⟨rfl, rfl, rfl, by decide +kernel, rfl, by decide +kernel, by decide +kernel⟩
/-- what the top has written -/
structure Txt [inst : Zc] (K : PySem.W.Frag) (mg : Str → Option Value) where
  a__law_state : Addr
  fd__law_state : FuncData
  F__law_state : Fun K "_law_state" "_law_state" s__law_state a__law_state fd__law_state
  g__law_state : mg "_law_state" = some (.ref a__law_state)
  a_Reading_init : Addr
  fd_Reading_init : FuncData
  F_Reading_init : Fun K "__init__" "Reading.__init__" s_Reading_init a_Reading_init fd_Reading_init
  mk_Reading : Mk K Zc.cReading a_Reading_init
  a_number_of : Addr
  fd_number_of : FuncData
  F_number_of : Fun K "number_of" "number_of" s_number_of a_number_of fd_number_of
  g_number_of : mg "number_of" = some (.ref a_number_of)
  a_numbers_of : Addr
  fd_numbers_of : FuncData
  F_numbers_of : Fun K "numbers_of" "numbers_of" s_numbers_of a_numbers_of fd_numbers_of
  g_numbers_of : mg "numbers_of" = some (.ref a_numbers_of)
  a_pair_of : Addr
  fd_pair_of : FuncData
  F_pair_of : Fun K "pair_of" "pair_of" s_pair_of a_pair_of fd_pair_of
  g_pair_of : mg "pair_of" = some (.ref a_pair_of)
  a_Reading_take_row : Addr
  fd_Reading_take_row : FuncData
  F_Reading_take_row : Fun K "take_row" "Reading.take_row" s_Reading_take_row a_Reading_take_row fd_Reading_take_row
  mt_Reading_take_row : Meth K Zc.cReading "take_row" a_Reading_take_row
  a_read_paper : Addr
  fd_read_paper : FuncData
  F_read_paper : Fun K "read_paper" "read_paper" s_read_paper a_read_paper fd_read_paper
  g_read_paper : mg "read_paper" = some (.ref a_read_paper)
  a__law_tried : Addr
  fd__law_tried : FuncData
  F__law_tried : Fun K "_law_tried" "_law_tried" s__law_tried a__law_tried fd__law_tried
  g__law_tried : mg "_law_tried" = some (.ref a__law_tried)
  a__law_draw : Addr
  fd__law_draw : FuncData
  F__law_draw : Fun K "_law_draw" "_law_draw" s__law_draw a__law_draw fd__law_draw
  g__law_draw : mg "_law_draw" = some (.ref a__law_draw)
  a__law_text : Addr
  fd__law_text : FuncData
  F__law_text : Fun K "_law_text" "_law_text" s__law_text a__law_text fd__law_text
  g__law_text : mg "_law_text" = some (.ref a__law_text)
  a__law_bent : Addr
  fd__law_bent : FuncData
  F__law_bent : Fun K "_law_bent" "_law_bent" s__law_bent a__law_bent fd__law_bent
  g__law_bent : mg "_law_bent" = some (.ref a__law_bent)
  a__law_numbers : Addr
  fd__law_numbers : FuncData
  F__law_numbers : Fun K "_law_numbers" "_law_numbers" s__law_numbers a__law_numbers fd__law_numbers
  g__law_numbers : mg "_law_numbers" = some (.ref a__law_numbers)
  a__law_read : Addr
  fd__law_read : FuncData
  F__law_read : Fun K "_law_read" "_law_read" s__law_read a__law_read fd__law_read
  g__law_read : mg "_law_read" = some (.ref a__law_read)
  a_law : Addr
  fd_law : FuncData
  F_law : Fun K "law" "law" s_law a_law fd_law
  g_law : mg "law" = some (.ref a_law)
  cl_Reading : Cls K Zc.cReading
  gc_Reading : mg "Reading" = some (.ref Zc.cReading)
  no_Reading_found : NoAttr K Zc.cReading "found"
  no_Reading_last : NoAttr K Zc.cReading "last"
  gc_NoText : mg "NoText" = some (.ref Zc.cNoText)
  xf_NoText : ExF K Zc.cNoText
  gc_TraceError : mg "TraceError" = some (.ref Zc.cTraceError)
  xf_TraceError : ExF K Zc.cTraceError
  gc_NoFlow : mg "NoFlow" = some (.ref Zc.cNoFlow)
  xf_NoFlow : ExF K Zc.cNoFlow
  gc_NoUnit : mg "NoUnit" = some (.ref Zc.cNoUnit)
  xf_NoUnit : ExF K Zc.cNoUnit
  xs_NoText_NoText : PySem.W.subIn K (.ref Zc.cNoText) (.ref Zc.cNoText) = some true
  xs_NoText_TraceError : PySem.W.subIn K (.ref Zc.cNoText) (.ref Zc.cTraceError) = some true
  xs_NoText_NoFlow : PySem.W.subIn K (.ref Zc.cNoText) (.ref Zc.cNoFlow) = some false
  xs_NoText_NoUnit : PySem.W.subIn K (.ref Zc.cNoText) (.ref Zc.cNoUnit) = some false
  xb_NoText_ValueError : PySem.W.subIn K (.ref Zc.cNoText) (.type "ValueError") = some true
  a_NoText_init : Addr
  fd_NoText_init : FuncData
  F_NoText_init : Fun K "__init__" "NoText.__init__" s_NoText_init a_NoText_init fd_NoText_init
  xo_NoText : OexC K Zc.cNoText
  xi_NoText : PySem.W.findIn K (.ref Zc.cNoText) "__init__" = some (some (.ref a_NoText_init))
  xt_NoText : PySem.W.typeIn K (.ref a_NoText_init) = some (.type "function")
  xn_NoText : PySem.W.findIn K (.ref Zc.cNoText) "row" = some none
  n_abs : mg "abs" = none
  n_len : mg "len" = none
  n_all : mg "all" = none
  n_int : mg "int" = none
  n_tuple : mg "tuple" = none
  n_isinstance : mg "isinstance" = none
  n_str : mg "str" = none
  n_enumerate : mg "enumerate" = none
  n_ValueError : mg "ValueError" = none
  n_range : mg "range" = none
  c_MOST_FIGURES : ∃ t, mg "MOST_FIGURES" = some (.int 5 t)
  c_FIGURES : ∃ t, mg "FIGURES" = some (.str "0123456789" t)
section
variable {P : Program} {w : World} {K : PySem.W.Frag} {mg : Str → Option Value} {base : Heap}
theorem b_NoText_init [inst : Zc] (T : Txt K mg) : Binds K T.fd_NoText_init ["self", "row"] [] := T.F_NoText_init.binds (ps := ["self", "row"]) fun _ _ _ _ _ _ us hl => match us, hl with | [_, _], _ => rfl
theorem ok_NoText_init [inst : Zc] (T : Txt K mg) : FnOk P w K mg base CX0 1 T.a_NoText_init T.fd_NoText_init ["self", "row"] (spIni Zc.cNoText "row") := fn_ini T.F_NoText_init sc_NoText_init fun cdv A outer s H E => ⟨_, _, _, _, rfl, T.xo_NoText, T.xn_NoText, (pe_var (i := 0) rfl (.inl rfl)), (pe_var (i := 1) rfl (.inl rfl)), rfl⟩
theorem b__law_state [inst : Zc] (T : Txt K mg) : Binds K T.fd__law_state ["script"] [] := T.F__law_state.binds (ps := ["script"]) fun _ _ _ _ _ _ us hl => match us, hl with | [_], _ => rfl
theorem b_Reading_init [inst : Zc] (T : Txt K mg) : Binds K T.fd_Reading_init ["self"] [] := T.F_Reading_init.binds (ps := ["self"]) fun _ _ _ _ _ _ us hl => match us, hl with | [_], _ => rfl
theorem b_number_of [inst : Zc] (T : Txt K mg) : Binds K T.fd_number_of ["word"] [] := T.F_number_of.binds (ps := ["word"]) fun _ _ _ _ _ _ us hl => match us, hl with | [_], _ => rfl
theorem b_numbers_of [inst : Zc] (T : Txt K mg) : Binds K T.fd_numbers_of ["words"] [] := T.F_numbers_of.binds (ps := ["words"]) fun _ _ _ _ _ _ us hl => match us, hl with | [_], _ => rfl
theorem b_pair_of [inst : Zc] (T : Txt K mg) : Binds K T.fd_pair_of ["words"] [] := T.F_pair_of.binds (ps := ["words"]) fun _ _ _ _ _ _ us hl => match us, hl with | [_], _ => rfl
theorem b_Reading_take_row [inst : Zc] (T : Txt K mg) : Binds K T.fd_Reading_take_row ["self", "row"] [] := T.F_Reading_take_row.binds (ps := ["self", "row"]) fun _ _ _ _ _ _ us hl => match us, hl with | [_, _], _ => rfl
theorem b_read_paper [inst : Zc] (T : Txt K mg) : Binds K T.fd_read_paper ["text"] [] := T.F_read_paper.binds (ps := ["text"]) fun _ _ _ _ _ _ us hl => match us, hl with | [_], _ => rfl
theorem b__law_tried [inst : Zc] (T : Txt K mg) : Binds K T.fd__law_tried ["thing"] [] := T.F__law_tried.binds (ps := ["thing"]) fun _ _ _ _ _ _ us hl => match us, hl with | [_], _ => rfl
theorem b__law_draw [inst : Zc] (T : Txt K mg) : Binds K T.fd__law_draw ["state", "many"] [] := T.F__law_draw.binds (ps := ["state", "many"]) fun _ _ _ _ _ _ us hl => match us, hl with | [_, _], _ => rfl
theorem b__law_text [inst : Zc] (T : Txt K mg) : Binds K T.fd__law_text ["state"] [] := T.F__law_text.binds (ps := ["state"]) fun _ _ _ _ _ _ us hl => match us, hl with | [_], _ => rfl
theorem b__law_bent [inst : Zc] (T : Txt K mg) : Binds K T.fd__law_bent ["state", "written"] [] := T.F__law_bent.binds (ps := ["state", "written"]) fun _ _ _ _ _ _ us hl => match us, hl with | [_, _], _ => rfl
theorem b__law_numbers [inst : Zc] (T : Txt K mg) : Binds K T.fd__law_numbers ["words"] [] := T.F__law_numbers.binds (ps := ["words"]) fun _ _ _ _ _ _ us hl => match us, hl with | [_], _ => rfl
theorem b__law_read [inst : Zc] (T : Txt K mg) : Binds K T.fd__law_read ["written"] [] := T.F__law_read.binds (ps := ["written"]) fun _ _ _ _ _ _ us hl => match us, hl with | [_], _ => rfl
theorem b_law [inst : Zc] (T : Txt K mg) : Binds K T.fd_law ["script"] [] := T.F_law.binds (ps := ["script"]) fun _ _ _ _ _ _ us hl => match us, hl with | [_], _ => rfl
theorem body__law_state [inst : Zc] (T : Txt K mg) (cdv : Value) (A : Around) (outer : List Env) (s : Shared) (H : Hp) (E : XK) (hr : Room 0 (A.deeper (envOfC "_law_state" (defScope s__law_state) s.heap.objs.size T.a__law_state cdv))) :
    XSs (cxOf CX0 P w K mg base N__law_state "_law_state" (defScope s__law_state) T.a__law_state cdv A outer s H E).nox (defBody s__law_state) wb__law_state :=
  (xss_cons (xs_lc (i := 1) (own := [("cell", 2)]) (by rfl) sc__law_state.nd rfl rfl (sw_true rfl rfl rfl (by decide +kernel)) (xi_any (xe_pv (pv 0))) (blkOk_by (own := [("cell", 2)]) (N := N__law_state) (sc := defScope s__law_state) (by decide +kernel)) (fun _ _ _ _ _ => (xg_name (i := 2) (pg_name sc__law_state.nd rfl (.inl rfl)))) (fun _ _ _ _ _ => xts_nil) (fun _ _ _ _ _ => (XE.toO (xe_callB call_abs sem_abs (by rfl) T.n_abs (by decide +kernel) (xb_pv (pv 2))))) (by decide))
    (xss_cons (xs_if (xt_cmpL (i := 1) (op_eqT hr.units) sem_eq (pv 1) (XE.toB (XO.toE (xo_lst xao_nil)))) (xss_one (xs_set (i := 1) (ps_set (i := 1) sc__law_state.nd rfl (.inl rfl) (XO.pe (xo_lst (xao_cons (XE.toO xe_int) xao_nil)))) (fun _ _ _ h => h))) xss_nil)
    (xss_one (xs_ret (xo_lst (xao_cons (xo_mov (pv 1)) (xao_cons (XE.toO xe_int) (xao_cons (XE.toO xe_int) xao_nil))))))))
theorem ok__law_state [inst : Zc] (T : Txt K mg) : FnOk P w K mg base CX0 1 T.a__law_state T.fd__law_state ["script"] (liftSp K sp__law_state) :=
  fn_tree T.F__law_state sc__law_state len__law_state (body__law_state T) does__law_state
theorem body_Reading_init [inst : Zc] (T : Txt K mg) (cdv : Value) (A : Around) (outer : List Env) (s : Shared) (H : Hp) (E : XK) (hr : Room 0 (A.deeper (envOfC "Reading.__init__" (defScope s_Reading_init) s.heap.objs.size T.a_Reading_init cdv))) :
    XSs (cxOf CX0 P w K mg base N_Reading_init "Reading.__init__" (defScope s_Reading_init) T.a_Reading_init cdv A outer s H E).nox (defBody s_Reading_init) wb_Reading_init :=
  (xss_cons (xs_setA (i := 0) ⟨T.cl_Reading, T.no_Reading_found, by decide, rfl⟩ (pv 0) xo_dct0T)
    (xss_one (xs_setA (i := 0) ⟨T.cl_Reading, T.no_Reading_last, by decide, rfl⟩ (pv 0) (XE.toO xe_non))))
theorem ok_Reading_init [inst : Zc] (T : Txt K mg) : FnOk P w K mg base CX0 1 T.a_Reading_init T.fd_Reading_init ["self"] (liftSp K sp_Reading_init) :=
  fn_tree T.F_Reading_init sc_Reading_init len_Reading_init (body_Reading_init T) does_Reading_init
theorem body_number_of [inst : Zc] (T : Txt K mg) (cdv : Value) (A : Around) (outer : List Env) (s : Shared) (H : Hp) (E : XK) (hr : Room 0 (A.deeper (envOfC "number_of" (defScope s_number_of) s.heap.objs.size T.a_number_of cdv))) :
    XSs (cxOf CX0 P w K mg base N_number_of "number_of" (defScope s_number_of) T.a_number_of cdv A outer s H E).nox (defBody s_number_of) wb_number_of :=
  (xss_cons (xs_if (XW.t (xw_or (xt_not (xt_chain op_leT' sem_le op_leT' sem_le xe_int (xe_callB cr_len sem_len (by rfl) T.n_len (by decide +kernel) (xb_pv (pv 0))) (xe_globI (by rfl) T.c_MOST_FIGURES))) (XT.o1 (xt_not (xt_tru (XE.toB (xe_callB (cr_all rfl) sem_all (by rfl) T.n_all (by decide +kernel) (XE.toB (XO.toE (xo_lc (own := [("sign", 1)]) (by rfl) sc_number_of.nd (xi_any (xe_pv (pv 0))) (blkOk_by (own := [("sign", 1)]) (N := N_number_of) (sc := defScope s_number_of) (by decide +kernel)) (fun _ _ _ _ _ => (xg_name (i := 1) (pg_name sc_number_of.nd rfl (.inl rfl)))) (fun _ _ _ _ _ => xts_nil) (fun _ _ _ _ _ => (XE.toO (xe_cmpL (i := 1) (op_inD hr.units) (sem_inD false) (pv 1) (XE.toB (xe_globS (by rfl) T.c_FIGURES))))) (by decide))))))))))) (xss_one (xs_ret (XE.toO xe_non))) xss_nil)
    (xss_one (xs_ret (xo_if (XW.t (xw_or (xt_cmpL (i := 0) (op_eqT hr.units) sem_eq (pv 0) (XE.toB xe_str)) (XT.o1 (xt_cmp (op_neT hr.units) sem_ne (xe_ixL (i := 0) (pv 0) xe_int) (XE.toB xe_str))))) (XE.toO (xe_callTy call_int_str sem_intS (by rfl) T.n_int (by decide +kernel) (xb_pv (pv 0)))) (XE.toO xe_non)))))
theorem ok_number_of [inst : Zc] (T : Txt K mg) : FnOk P w K mg base CX0 1 T.a_number_of T.fd_number_of ["word"] (liftSp K sp_number_of) :=
  fn_tree T.F_number_of sc_number_of len_number_of (body_number_of T) does_number_of
theorem body_numbers_of [inst : Zc] (T : Txt K mg) (G_number_of : FnOk P w K mg base CX0 1 T.a_number_of T.fd_number_of ["word"] (liftSp K sp_number_of)) (cdv : Value) (A : Around) (outer : List Env) (s : Shared) (H : Hp) (E : XK) (hr : Room 1 (A.deeper (envOfC "numbers_of" (defScope s_numbers_of) s.heap.objs.size T.a_numbers_of cdv))) :
    XSs (cxOf CX0 P w K mg base N_numbers_of "numbers_of" (defScope s_numbers_of) T.a_numbers_of cdv A outer s H E).nox (defBody s_numbers_of) wb_numbers_of :=
  (xss_cons (xs_lc (i := 1) (own := [("word", 2)]) (by rfl) sc_numbers_of.nd rfl rfl (sw_true rfl rfl rfl (by decide +kernel)) (xi_any (xe_pv (pv 0))) (blkOk_by (own := [("word", 2)]) (N := N_numbers_of) (sc := defScope s_numbers_of) (by decide +kernel)) (fun _ _ _ _ _ => (xg_name (i := 2) (pg_name sc_numbers_of.nd rfl (.inl rfl)))) (fun _ _ _ _ _ => xts_nil) (fun _ _ _ _ _ => (xo_call G_number_of (hr.mono (by decide)) (by rfl) T.g_number_of T.F_number_of.kp (b_number_of T) (xa_cons (xe_pv (pv 2)) xa_nil))) (by decide))
    (xss_one (xs_ret (xo_if (xt_cmp (op_noneInI hr.units) sem_noneInI xe_non (xb_pv (pv 1))) (XE.toO xe_non) (xo_callTy call_tuple_of sem_tuple (by rfl) T.n_tuple (by decide +kernel) (xe_pv (pv 1)))))))
theorem ok_numbers_of [inst : Zc] (T : Txt K mg) (G_number_of : FnOk P w K mg base CX0 1 T.a_number_of T.fd_number_of ["word"] (liftSp K sp_number_of)) : FnOk P w K mg base CX0 2 T.a_numbers_of T.fd_numbers_of ["words"] (liftSp K sp_numbers_of) :=
  fn_tree T.F_numbers_of sc_numbers_of len_numbers_of (body_numbers_of T G_number_of) does_numbers_of
theorem body_pair_of [inst : Zc] (T : Txt K mg) (G_numbers_of : FnOk P w K mg base CX0 2 T.a_numbers_of T.fd_numbers_of ["words"] (liftSp K sp_numbers_of)) (cdv : Value) (A : Around) (outer : List Env) (s : Shared) (H : Hp) (E : XK) (hr : Room 2 (A.deeper (envOfC "pair_of" (defScope s_pair_of) s.heap.objs.size T.a_pair_of cdv))) :
    XSs (cxOf CX0 P w K mg base N_pair_of "pair_of" (defScope s_pair_of) T.a_pair_of cdv A outer s H E).nox (defBody s_pair_of) wb_pair_of :=
  (xss_cons (xs_if (XW.t (xw_or (xt_cmp (op_neT hr.units) sem_ne (xe_ixL (i := 0) (pv 0) xe_int) (XE.toB xe_str)) (XT.o1 (xt_cmp (op_neT hr.units) sem_ne (xe_callB cr_len sem_len (by rfl) T.n_len (by decide +kernel) (xb_pv (pv 0))) (XE.toB xe_int))))) (xss_one (xs_ret (XE.toO xe_non))) xss_nil)
    (xss_one (xs_ret (xo_call G_numbers_of (hr.mono (by decide)) (by rfl) T.g_numbers_of T.F_numbers_of.kp (b_numbers_of T) (xa_cons (XO.toE (xo_sl (xe_pv (pv 0)) (xp_some xe_int) xp_none)) xa_nil)))))
theorem ok_pair_of [inst : Zc] (T : Txt K mg) (G_numbers_of : FnOk P w K mg base CX0 2 T.a_numbers_of T.fd_numbers_of ["words"] (liftSp K sp_numbers_of)) : FnOk P w K mg base CX0 3 T.a_pair_of T.fd_pair_of ["words"] (liftSp K sp_pair_of) :=
  fn_tree T.F_pair_of sc_pair_of len_pair_of (body_pair_of T G_numbers_of) does_pair_of
theorem body_Reading_take_row [inst : Zc] (T : Txt K mg) (G_pair_of : FnOk P w K mg base CX0 3 T.a_pair_of T.fd_pair_of ["words"] (liftSp K sp_pair_of)) (G_numbers_of : FnOk P w K mg base CX0 2 T.a_numbers_of T.fd_numbers_of ["words"] (liftSp K sp_numbers_of)) (cdv : Value) (A : Around) (outer : List Env) (s : Shared) (H : Hp) (E : XK) (hr : Room 3 (A.deeper (envOfC "Reading.take_row" (defScope s_Reading_take_row) s.heap.objs.size T.a_Reading_take_row cdv))) :
    XSs (cxOf CX0 P w K mg base N_Reading_take_row "Reading.take_row" (defScope s_Reading_take_row) T.a_Reading_take_row cdv A outer s H E).nox (defBody s_Reading_take_row) wb_Reading_take_row :=
  (xss_cons (xs_set (i := 2) (ps_set (i := 2) sc_Reading_take_row.nd rfl (.inl rfl) (XO.pe (xo_split (xe_pv (pv 1)) xe_str))) (fun _ _ _ h => h))
    (xss_cons (xs_par (i := 3) (j := 4) (ps_par (by rfl) sc_Reading_take_row.nd rfl rfl (by decide) rfl rfl (XA.pa (xa_cons (XO.toE (xo_call G_pair_of (hr.mono (by decide)) (by rfl) T.g_pair_of T.F_pair_of.kp (b_pair_of T) (xa_cons (xe_pv (pv 2)) xa_nil))) (xa_cons (XO.toE (xo_call G_numbers_of (hr.mono (by decide)) (by rfl) T.g_numbers_of T.F_numbers_of.kp (b_numbers_of T) (xa_cons (xe_pv (pv 2)) xa_nil))) xa_nil))) (by rfl)))
    (xss_cons (xs_if (XW.t (xw_and (xt_cmpL (i := 3) op_isNotT (sem_is true) (pv 3) (XE.toB xe_non)) (XT.w1 (XW.t (xw_or (xt_cmp op_isT (sem_is false) (xe_fld (i := 0) ⟨T.cl_Reading, T.no_Reading_last, by decide, rfl⟩ (pv 0)) (XE.toB xe_non)) (XT.o1 (xt_cmp (op_ltD hr.units) sem_ltD (xe_fld (i := 0) ⟨T.cl_Reading, T.no_Reading_last, by decide, rfl⟩ (pv 0)) (xb_pv (pv 3))))))))) (xss_cons (xs_setA (i := 0) ⟨T.cl_Reading, T.no_Reading_last, by decide, rfl⟩ (pv 0) (XE.toO (xe_pv (pv 3))))
    (xss_cons (xs_setAK (i := 0) hr.units ⟨T.cl_Reading, T.no_Reading_found, by decide, rfl⟩ (pv 0) (xe_pv (pv 3)) (xe_tup xa_nil))
    (xss_one (xs_ret (XE.toO xe_bl))))) xss_nil)
    (xss_cons (xs_if (XW.t (xw_or (xt_cmp op_isT (sem_is false) (xe_fld (i := 0) ⟨T.cl_Reading, T.no_Reading_last, by decide, rfl⟩ (pv 0)) (XE.toB xe_non)) (XT.o1 (xt_cmpL (i := 4) op_isT (sem_is false) (pv 4) (XE.toB xe_non))))) (xss_one (xs_ret (XE.toO xe_bl))) xss_nil)
    (xss_cons (xs_augAK (i := 0) hr.units ⟨T.cl_Reading, T.no_Reading_found, by decide, rfl⟩ (pv 0) (xe_fld (i := 0) ⟨T.cl_Reading, T.no_Reading_last, by decide, rfl⟩ (pv 0)) (xe_tup (xa_cons (xe_pv (pv 4)) xa_nil)))
    (xss_one (xs_ret (XE.toO xe_bl))))))))
theorem ok_Reading_take_row [inst : Zc] (T : Txt K mg) (G_pair_of : FnOk P w K mg base CX0 3 T.a_pair_of T.fd_pair_of ["words"] (liftSp K sp_pair_of)) (G_numbers_of : FnOk P w K mg base CX0 2 T.a_numbers_of T.fd_numbers_of ["words"] (liftSp K sp_numbers_of)) : FnOk P w K mg base CX0 4 T.a_Reading_take_row T.fd_Reading_take_row ["self", "row"] (liftSp K sp_Reading_take_row) :=
  fn_tree T.F_Reading_take_row sc_Reading_take_row len_Reading_take_row (body_Reading_take_row T G_pair_of G_numbers_of) does_Reading_take_row
theorem body_read_paper [inst : Zc] (T : Txt K mg) (G_Reading_init : FnOk P w K mg base CX0 1 T.a_Reading_init T.fd_Reading_init ["self"] (liftSp K sp_Reading_init)) (G_Reading_take_row : FnOk P w K mg base CX0 4 T.a_Reading_take_row T.fd_Reading_take_row ["self", "row"] (liftSp K sp_Reading_take_row)) (cdv : Value) (A : Around) (outer : List Env) (s : Shared) (H : Hp) (E : XK) (hr : Room 4 (A.deeper (envOfC "read_paper" (defScope s_read_paper) s.heap.objs.size T.a_read_paper cdv))) :
    XSs (cxOf (L2.CX P w) P w K mg base N_read_paper "read_paper" (defScope s_read_paper) T.a_read_paper cdv A outer s H E) (defBody s_read_paper) wb_read_paper :=
  (xss_cons (xs_if (xt_not (xt_tru (XE.toB (xe_isiG (t := .str) (by rfl) T.n_isinstance (by rfl) T.n_str (by decide +kernel) (xb_pv (pv 0)))))) (xss_one (xs_raise1 T.xo_NoText T.xi_NoText T.xt_NoText (ok_NoText_init T) (hr.mono (by decide)) (b_NoText_init T) T.gc_NoText (by rfl) (by rfl) xe_int)) xss_nil)
    (xss_cons (xs_asgG (ps_asg (XE.pe (XO.toE (xo_split (xe_pv (pv 0)) xe_str))) (XGG.pg (xgg_star (n := 2) (i := 0) rfl (xgs_consS (xg_name (i := 1) (pg_name sc_read_paper.nd rfl (.inl rfl))) (xgs_cons (xg_name (i := 2) (pg_name sc_read_paper.nd rfl (.inl rfl))) xgs_nil))))))
    (xss_cons (xs_set (i := 1) (ps_set (i := 1) sc_read_paper.nd rfl (.inl rfl) (XO.pe (xo_if (xt_cmpL (i := 2) (op_eqT hr.units) sem_eq (pv 2) (XE.toB xe_str)) (XE.toO (xe_pv (pv 1))) (xo_bin op_addT sem_add (xe_pv (pv 1)) (XO.toE (xo_lst (xao_cons (XE.toO (xe_pv (pv 2))) xao_nil))))))) (fun _ _ _ h => h))
    (xss_cons (xs_set (i := 3) (ps_set (i := 3) sc_read_paper.nd rfl (.inl rfl) (XO.pe (xo_make0 T.mk_Reading G_Reading_init (hr.mono (by decide)) (by rfl) T.gc_Reading (b_Reading_init T)))) (fun _ _ _ h => h))
    (xss_cons (xs_for (passes_of rfl) (by rfl) (xi_enum (by rfl) T.n_enumerate (xe_pv (pv 1))) (xg_tup rfl (xgs_cons (xg_name (i := 4) (pg_name sc_read_paper.nd rfl (.inl rfl))) (xgs_cons (xg_name (i := 5) (pg_name sc_read_paper.nd rfl (.inl rfl))) xgs_nil))) (xss_one (xs_if (xt_not (xt_tru (XE.toB (XO.toE (xo_met (i := 3) (ns := ["found", "last"]) ⟨T.cl_Reading, T.mt_Reading_take_row, by decide⟩ G_Reading_take_row (hr.mono (by decide)) (b_Reading_take_row T) (pv 3) (xa_cons (xe_pv (pv 5)) xa_nil)))))) (xss_one (xs_raise1 T.xo_NoText T.xi_NoText T.xt_NoText (ok_NoText_init T) (hr.mono (by decide)) (b_NoText_init T) T.gc_NoText (by rfl) (by rfl) (xe_pv (pv 4)))) xss_nil)))
    (xss_cons (xs_if (xt_cmpL (i := 2) (op_neT hr.units) sem_ne (pv 2) (XE.toB xe_str)) (xss_one (xs_raise1 T.xo_NoText T.xi_NoText T.xt_NoText (ok_NoText_init T) (hr.mono (by decide)) (b_NoText_init T) T.gc_NoText (by rfl) (by rfl) (xe_callB cr_len sem_len (by rfl) T.n_len (by decide +kernel) (xb_pv (pv 1))))) xss_nil)
    (xss_one (xs_ret (xo_mvA (i := 3) ⟨T.cl_Reading, T.no_Reading_found, by decide, rfl⟩ (pv 3))))))))))
theorem ok_read_paper [inst : Zc] (T : Txt K mg) (G_Reading_init : FnOk P w K mg base CX0 1 T.a_Reading_init T.fd_Reading_init ["self"] (liftSp K sp_Reading_init)) (G_Reading_take_row : FnOk P w K mg base CX0 4 T.a_Reading_take_row T.fd_Reading_take_row ["self", "row"] (liftSp K sp_Reading_take_row)) : FnOk P w K mg base (L2.CX P w) 5 T.a_read_paper T.fd_read_paper ["text"] (liftX K sp_read_paper) :=
  fn_treeX T.F_read_paper sc_read_paper len_read_paper (body_read_paper T G_Reading_init G_Reading_take_row) does_read_paper
theorem body__law_tried [inst : Zc] (T : Txt K mg) (G_read_paper : FnOk P w K mg base (L2.CX P w) 5 T.a_read_paper T.fd_read_paper ["text"] (liftX K sp_read_paper)) (cdv : Value) (A : Around) (outer : List Env) (s : Shared) (H : Hp) (E : XK) (hr : Room 5 (A.deeper (envOfC "_law_tried" (defScope s__law_tried) s.heap.objs.size T.a__law_tried cdv))) :
    XSs (cxOf CX0 P w K mg base N__law_tried "_law_tried" (defScope s__law_tried) T.a__law_tried cdv A outer s H E).nox (defBody s__law_tried) wb__law_tried :=
  (xss_cons (xs_asg (ps_asg (XE.pe (xe_tup (xa_cons xe_non (xa_cons xe_non xa_nil)))) (XG.pg (xg_tup rfl (xgs_cons (xg_name (i := 1) (pg_name sc__law_tried.nd rfl (.inl rfl))) (xgs_cons (xg_name (i := 2) (pg_name sc__law_tried.nd rfl (.inl rfl))) xgs_nil))))))
    (xss_cons (xs_tryK rfl rfl rfl sc__law_tried.nd (i := 3) (j := 2) rfl rfl rfl rfl (by decide) ⟨by rfl, by decide, .inl T.gc_TraceError⟩ (List.forall_mem_cons.mpr ⟨exf_exm T.xf_TraceError T.xs_NoText_TraceError, (fun _ h => nomatch h)⟩) (by rfl) (by decide) (by decide) fun pn xe hp => (xss_one (xs_setX (i := 1) fun W tk => ps_set (i := 1) sc__law_tried.nd rfl (.inl rfl) (XOX.pe (xox_call G_read_paper (hr.mono (by decide)) (by rfl) T.g_read_paper T.F_read_paper.kp (b_read_paper T) (xa_cons (xe_pv (pv 0)) xa_nil)) W tk))))
    (xss_cons (xs_if (xt_cmpL (i := 2) op_isT (sem_is false) (pv 2) (XE.toB xe_non)) (xss_one (xs_retV (pv 1))) xss_nil)
    (xss_cons (xs_set (i := 4) (ps_set (i := 4) sc__law_tried.nd rfl (.inl rfl) (XO.pe (XE.toO (xe_and (xe_isX (tbl := [(Zc.cNoText, true)]) (cv := .ref Zc.cNoText) (by rfl) T.n_isinstance (xe_pv (pv 2)) (pe_glob (v := .ref Zc.cNoText) (by rfl) T.gc_NoText rfl (by decide)) (fun _ h => h) (List.forall_mem_cons.mpr ⟨⟨T.xf_NoText, exf_kit T.xf_NoText T.xf_NoText T.xs_NoText_NoText⟩, (fun _ h => nomatch h)⟩)) (xe_and (xe_isX (tbl := [(Zc.cNoText, true)]) (cv := .type "ValueError") (by rfl) T.n_isinstance (xe_pv (pv 2)) (pe_bltn (v := .ty "ValueError") (by rfl) T.n_ValueError (by decide +kernel) rfl (by decide) (by decide)) (fun _ h => h) (List.forall_mem_cons.mpr ⟨⟨T.xf_NoText, exf_kitB (C := Zc.cNoText) (by decide +kernel) T.xb_NoText_ValueError⟩, (fun _ h => nomatch h)⟩)) (xe_and1 (xe_not (xe_isXT (tbl := [(Zc.cNoText, false)]) (vs := [.ref Zc.cNoFlow, .ref Zc.cNoUnit]) (cvs := [.ref Zc.cNoFlow, .ref Zc.cNoUnit]) (by rfl) T.n_isinstance (xe_pv (pv 2)) (PA.imp (pa_cons (pe_glob (v := .ref Zc.cNoFlow) (by rfl) T.gc_NoFlow rfl (by decide)) (pa_cons (pe_glob (v := .ref Zc.cNoUnit) (by rfl) T.gc_NoUnit rfl (by decide)) pa_nil)) fun _ _ _ h => h) (by show 2 ≤ sizeLine; decide) (valsRefs [Zc.cNoFlow, Zc.cNoUnit]) (List.forall_mem_cons.mpr ⟨⟨T.xf_NoText, (kitAny_cons (exf_kit T.xf_NoText T.xf_NoFlow T.xs_NoText_NoFlow) (fun _ => (kitAny_cons (exf_kit T.xf_NoText T.xf_NoUnit T.xs_NoText_NoUnit) (fun _ => kitAny_nil) (fun h => nomatch h))) (fun h => nomatch h))⟩, (fun _ h => nomatch h)⟩))))))))) (fun _ _ _ h => h))
    (xss_one (xs_ret (xo_if (xt_tru (xb_pv (pv 4))) (XE.toO (xe_xfld (List.forall_mem_cons.mpr ⟨⟨T.xf_NoText, T.xn_NoText⟩, (fun _ h => nomatch h)⟩) (xe_pv (pv 2)))) (XE.toO xe_str))))))))
theorem ok__law_tried [inst : Zc] (T : Txt K mg) (G_read_paper : FnOk P w K mg base (L2.CX P w) 5 T.a_read_paper T.fd_read_paper ["text"] (liftX K sp_read_paper)) : FnOk P w K mg base CX0 6 T.a__law_tried T.fd__law_tried ["thing"] (liftSp K sp__law_tried) :=
  fn_tree T.F__law_tried sc__law_tried len__law_tried (body__law_tried T G_read_paper) does__law_tried
theorem body__law_draw [inst : Zc] (T : Txt K mg) (cdv : Value) (A : Around) (outer : List Env) (s : Shared) (H : Hp) (E : XK) (hr : Room 0 (A.deeper (envOfC "_law_draw" (defScope s__law_draw) s.heap.objs.size T.a__law_draw cdv))) :
    XSs (cxOf CX0 P w K mg base N__law_draw "_law_draw" (defScope s__law_draw) T.a__law_draw cdv A outer s H E).nox (defBody s__law_draw) wb__law_draw :=
  (xss_cons (xs_set (i := 2) (ps_set (i := 2) sc__law_draw.nd rfl (.inl rfl) (XO.pe (xo_bin op_mod sem_mod (xe_ixL (i := 0) (pv 0) xe_int) (xe_callB cr_len sem_len (by rfl) T.n_len (by decide +kernel) (xb_lookIx (i := 0) (pv 0)))))) (fun _ _ _ h => h))
    (xss_cons (xs_set (i := 3) (ps_set (i := 3) sc__law_draw.nd rfl (.inl rfl) (XO.pe (XE.toO (xe_ixLL (i := 0) (pv 0) (xe_pv (pv 2)))))) (fun _ _ _ h => h))
    (xss_cons (xs_if (xt_cmpL (i := 3) op_geT' sem_ge (pv 3) (XE.toB (XO.toE (xo_bin op_pow sem_pow xe_int xe_int)))) (xss_cons (xs_setIxx (i := 0) (fun σ H Q ⟨x, hx, a, xs, v, e, hs, hv, q⟩ => ⟨x, hx, .inl ⟨_, _, _, _, e, rfl, hs, hv, q⟩⟩) (ps_asg (XE.pe (XO.toE (xo_bin op_fdivW sem_div (xe_pv (pv 3)) (xe_pv (pv 1))))) (pg_sub (pe_ix ix_seq (pv 0) pe_int (by exact fun _ _ => rfl)) (XE.pe (xe_pv (pv 2))) set_list)))
    (xss_one (xs_ret (xo_bin op_mod sem_mod (xe_pv (pv 3)) (xe_pv (pv 1)))))) xss_nil)
    (xss_cons (xs_setIx (i := 0) (ps_asg (XO.pe (xo_bin op_addT sem_add (xe_ixL (i := 0) (pv 0) xe_int) xe_int)) (pg_sub (pv 0) (XE.pe xe_int) set_list)))
    (xss_cons (xs_setIx (i := 0) (ps_asg (XO.pe (xo_bin op_mod sem_mod (XO.toE (xo_bin op_addT sem_add (XO.toE (xo_bin op_addT sem_add (XO.toE (xo_bin op_mulT sem_mul (xe_ixL (i := 0) (pv 0) xe_int) xe_int)) (xe_pv (pv 3)))) xe_int)) xe_int)) (pg_sub (pv 0) (XE.pe xe_int) set_list)))
    (xss_one (xs_ret (xo_bin op_mod sem_mod (XO.toE (xo_bin op_fdivW sem_div (XO.toE (xo_bin op_mod sem_mod (XO.toE (xo_bin op_mulT sem_mul (xe_ixL (i := 0) (pv 0) xe_int) (xe_ixL (i := 0) (pv 0) xe_int))) xe_int)) xe_int)) (xe_pv (pv 1))))))))))
theorem ok__law_draw [inst : Zc] (T : Txt K mg) : FnOk P w K mg base CX0 1 T.a__law_draw T.fd__law_draw ["state", "many"] (liftSp K sp__law_draw) :=
  fn_tree T.F__law_draw sc__law_draw len__law_draw (body__law_draw T) does__law_draw
theorem body__law_text [inst : Zc] (T : Txt K mg) (G__law_draw : FnOk P w K mg base CX0 1 T.a__law_draw T.fd__law_draw ["state", "many"] (liftSp K sp__law_draw)) (cdv : Value) (A : Around) (outer : List Env) (s : Shared) (H : Hp) (E : XK) (hr : Room 1 (A.deeper (envOfC "_law_text" (defScope s__law_text) s.heap.objs.size T.a__law_text cdv))) :
    XSs (cxOf CX0 P w K mg base N__law_text "_law_text" (defScope s__law_text) T.a__law_text cdv A outer s H E).nox (defBody s__law_text) wb__law_text :=
  (xss_cons (xs_asg (ps_asg (XE.pe (xe_tup (xa_cons xe_str (xa_cons xe_int xa_nil)))) (XG.pg (xg_tup rfl (xgs_cons (xg_name (i := 1) (pg_name sc__law_text.nd rfl (.inl rfl))) (xgs_cons (xg_name (i := 2) (pg_name sc__law_text.nd rfl (.inl rfl))) xgs_nil))))))
    (xss_cons (xs_for PassesOwn.never (by rfl) (xi_rng1 (by rfl) T.n_range (XO.toE (xo_callS (i := 0) G__law_draw (hr.mono (by decide)) (by rfl) T.g__law_draw T.F__law_draw.kp (b__law_draw T) (pv 0) (xa_cons xe_int xa_nil)))) (xg_name (i := 3) (pg_name sc__law_text.nd rfl (.inl rfl))) (xss_cons (xs_set (i := 2) (ps_set (i := 2) sc__law_text.nd rfl (.inl rfl) (XO.pe (xo_bin op_addT sem_add (xe_pv (pv 2)) (XO.toE (xo_callS (i := 0) G__law_draw (hr.mono (by decide)) (by rfl) T.g__law_draw T.F__law_draw.kp (b__law_draw T) (pv 0) (xa_cons xe_int xa_nil)))))) (fun _ _ _ h => h))
    (xss_cons (xs_set (i := 1) (ps_set (i := 1) sc__law_text.nd rfl (.inl rfl) (XO.pe (xo_bin op_addT sem_add (XO.toE (xo_bin op_addT sem_add (xe_pv (pv 1)) (xe_join xe_str (XO.toE (xo_lst (xao_cons (XE.toO xe_str) (xao_cons (XE.toO (xe_callTy cr_str sem_str (by rfl) T.n_str (by decide +kernel) (xb_pv (pv 2)))) (xao_cons (XE.toO (xe_callTy cr_str sem_str (by rfl) T.n_str (by decide +kernel) (XE.toB (XO.toE (xo_bin op_addT sem_add (XO.toE (xo_bin op_mulT sem_mul xe_int (xe_pv (pv 3)))) (XO.toE (xo_callS (i := 0) G__law_draw (hr.mono (by decide)) (by rfl) T.g__law_draw T.F__law_draw.kp (b__law_draw T) (pv 0) (xa_cons xe_int xa_nil)))))))) xao_nil)))))))) xe_str))) (fun _ _ _ h => h))
    (xss_one (xs_for PassesOwn.never (by rfl) (xi_rng1 (by rfl) T.n_range (XO.toE (xo_callS (i := 0) G__law_draw (hr.mono (by decide)) (by rfl) T.g__law_draw T.F__law_draw.kp (b__law_draw T) (pv 0) (xa_cons xe_int xa_nil)))) (xg_name (i := 4) (pg_name sc__law_text.nd rfl (.inl rfl))) (xss_one (xs_set (i := 1) (ps_set (i := 1) sc__law_text.nd rfl (.inl rfl) (XO.pe (xo_bin op_addT sem_add (XO.toE (xo_bin op_addT sem_add (xe_pv (pv 1)) (xe_join xe_str (XO.toE (xo_lc (own := [("at", 5)]) (by rfl) sc__law_text.nd (xi_rng1 (by rfl) T.n_range (XO.toE (xo_bin op_addT sem_add xe_int (XO.toE (xo_callS (i := 0) G__law_draw (hr.mono (by decide)) (by rfl) T.g__law_draw T.F__law_draw.kp (b__law_draw T) (pv 0) (xa_cons xe_int xa_nil)))))) (blkOk_by (own := [("at", 5)]) (N := N__law_text) (sc := defScope s__law_text) (by decide +kernel)) (fun _ _ _ _ _ => (xg_name (i := 5) (pg_name sc__law_text.nd rfl (.inl rfl)))) (fun _ _ _ _ _ => xts_nil) (fun _ _ _ _ _ => (XE.toO (xe_callTy cr_str sem_str (by rfl) T.n_str (by decide +kernel) (XE.toB (XO.toE (xo_callS (i := 0) G__law_draw (hr.mono (by decide)) (by rfl) T.g__law_draw T.F__law_draw.kp (b__law_draw T) (pv 0) (xa_cons xe_int xa_nil))))))) (by decide)))))) xe_str))) (fun _ _ _ h => h))))))))
    (xss_one (xs_retV (pv 1)))))
theorem ok__law_text [inst : Zc] (T : Txt K mg) (G__law_draw : FnOk P w K mg base CX0 1 T.a__law_draw T.fd__law_draw ["state", "many"] (liftSp K sp__law_draw)) : FnOk P w K mg base CX0 2 T.a__law_text T.fd__law_text ["state"] (liftSp K sp__law_text) :=
  fn_tree T.F__law_text sc__law_text len__law_text (body__law_text T G__law_draw) does__law_text
theorem body__law_bent [inst : Zc] (T : Txt K mg) (G__law_draw : FnOk P w K mg base CX0 1 T.a__law_draw T.fd__law_draw ["state", "many"] (liftSp K sp__law_draw)) (cdv : Value) (A : Around) (outer : List Env) (s : Shared) (H : Hp) (E : XK) (hr : Room 1 (A.deeper (envOfC "_law_bent" (defScope s__law_bent) s.heap.objs.size T.a__law_bent cdv))) :
    XSs (cxOf CX0 P w K mg base N__law_bent "_law_bent" (defScope s__law_bent) T.a__law_bent cdv A outer s H E).nox (defBody s__law_bent) wb__law_bent :=
  (xss_cons (xs_par (i := 2) (j := 3) (ps_par (by rfl) sc__law_bent.nd rfl rfl (by decide) rfl rfl (XA.pa (xa_cons (XO.toE (xo_callS (i := 0) G__law_draw (hr.mono (by decide)) (by rfl) T.g__law_draw T.F__law_draw.kp (b__law_draw T) (pv 0) (xa_cons xe_int xa_nil))) (xa_cons (XO.toE (xo_callS (i := 0) G__law_draw (hr.mono (by decide)) (by rfl) T.g__law_draw T.F__law_draw.kp (b__law_draw T) (pv 0) (xa_cons (XO.toE (xo_bin op_addT sem_add (xe_callB cr_len sem_len (by rfl) T.n_len (by decide +kernel) (xb_pv (pv 1))) xe_int)) xa_nil))) xa_nil))) (by rfl)))
    (xss_cons (xs_set (i := 4) (ps_set (i := 4) sc__law_bent.nd rfl (.inl rfl) (XO.pe (XE.toO xe_str))) (fun _ _ _ h => h))
    (xss_cons (xs_set (i := 5) (ps_set (i := 5) sc__law_bent.nd rfl (.inl rfl) (XO.pe (XE.toO (xe_ixL (i := 4) (pv 4) (XO.toE (xo_callS (i := 0) G__law_draw (hr.mono (by decide)) (by rfl) T.g__law_draw T.F__law_draw.kp (b__law_draw T) (pv 0) (xa_cons (xe_callB cr_len sem_len (by rfl) T.n_len (by decide +kernel) (xb_pv (pv 4))) xa_nil))))))) (fun _ _ _ h => h))
    (xss_cons (xs_set (i := 6) (ps_set (i := 6) sc__law_bent.nd rfl (.inl rfl) (XO.pe (xo_split (xe_pv (pv 1)) xe_str))) (fun _ _ _ h => h))
    (xss_cons (xs_par (i := 7) (j := 8) (ps_par (by rfl) sc__law_bent.nd rfl rfl (by decide) rfl rfl (XA.pa (xa_cons (XO.toE (xo_callS (i := 0) G__law_draw (hr.mono (by decide)) (by rfl) T.g__law_draw T.F__law_draw.kp (b__law_draw T) (pv 0) (xa_cons (xe_callB cr_len sem_len (by rfl) T.n_len (by decide +kernel) (xb_pv (pv 6))) xa_nil))) (xa_cons (XO.toE (xo_callS (i := 0) G__law_draw (hr.mono (by decide)) (by rfl) T.g__law_draw T.F__law_draw.kp (b__law_draw T) (pv 0) (xa_cons (xe_callB cr_len sem_len (by rfl) T.n_len (by decide +kernel) (xb_pv (pv 6))) xa_nil))) xa_nil))) (by rfl)))
    (xss_cons (xs_par (i := 9) (j := 10) (ps_par (by rfl) sc__law_bent.nd rfl rfl (by decide) rfl rfl (XA.pa (xa_cons (XO.toE (xo_sl (xe_pv (pv 1)) xp_none (xp_some (xe_pv (pv 3))))) (xa_cons (XO.toE (xo_sl (xe_pv (pv 1)) (xp_some (xe_pv (pv 3))) xp_none)) xa_nil))) (by rfl)))
    (xss_cons (xs_if (xt_cmpL (i := 2) op_ltT' sem_lt (pv 2) (XE.toB xe_int)) (xss_one (xs_ret (XE.toO (xe_ix (XO.toE (xo_lst (xao_cons (xo_bin op_addT sem_add (XO.toE (xo_bin op_addT sem_add (xe_pv (pv 9)) (xe_pv (pv 5)))) (xe_pv (pv 10))) (xao_cons (xo_bin op_addT sem_add (XO.toE (xo_bin op_addT sem_add (xe_pv (pv 9)) (xe_pv (pv 5)))) (XO.toE (xo_sl (xe_pv (pv 10)) (xp_some xe_int) xp_none))) (xao_cons (xo_bin op_addT sem_add (xe_pv (pv 9)) (XO.toE (xo_sl (xe_pv (pv 10)) (xp_some xe_int) xp_none))) (xao_cons (xo_bin op_addT sem_add (XO.toE (xo_bin op_addT sem_add (xe_pv (pv 9)) xe_str)) (xe_pv (pv 10))) xao_nil)))))) (xe_pv (pv 2)))))) xss_nil)
    (xss_cons (xs_if (xt_cmpL (i := 2) (op_eqT hr.units) sem_eq (pv 2) (XE.toB xe_int)) (xss_one (xs_ret (XE.toO (xe_join xe_str (XO.toE (xo_bin op_addT sem_add (XO.toE (xo_sl (xe_pv (pv 6)) xp_none (xp_some (XO.toE (xo_bin op_addT sem_add (xe_pv (pv 7)) xe_int))))) (XO.toE (xo_sl (xe_pv (pv 6)) (xp_some (xe_pv (pv 7))) xp_none)))))))) xss_nil)
    (xss_cons (xs_if (xt_cmpL (i := 2) (op_eqT hr.units) sem_eq (pv 2) (XE.toB xe_int)) (xss_one (xs_ret (XE.toO (xe_join xe_str (XO.toE (xo_bin op_addT sem_add (XO.toE (xo_sl (xe_pv (pv 6)) xp_none (xp_some (xe_pv (pv 7))))) (XO.toE (xo_sl (xe_pv (pv 6)) (xp_some (XO.toE (xo_bin op_addT sem_add (xe_pv (pv 7)) xe_int))) xp_none)))))))) xss_nil)
    (xss_cons (xs_if (xt_cmpL (i := 2) (op_eqT hr.units) sem_eq (pv 2) (XE.toB xe_int)) (xss_cons (xs_set (i := 11) (ps_set (i := 11) sc__law_bent.nd rfl (.inl rfl) (XO.pe (xo_bin op_addT sem_add (XO.toE (xo_sl (xe_pv (pv 6)) xp_none (xp_some (xe_pv (pv 7))))) (XO.toE (xo_sl (xe_pv (pv 6)) (xp_some (XO.toE (xo_bin op_addT sem_add (xe_pv (pv 7)) xe_int))) xp_none))))) (fun _ _ _ h => h))
    (xss_one (xs_ret (XE.toO (xe_join xe_str (XO.toE (xo_bin op_addT sem_add (XO.toE (xo_bin op_addT sem_add (XO.toE (xo_sl (xe_pv (pv 11)) xp_none (xp_some (xe_pv (pv 8))))) (XO.toE (xo_sl (xe_pv (pv 6)) (xp_some (xe_pv (pv 7))) (xp_some (XO.toE (xo_bin op_addT sem_add (xe_pv (pv 7)) xe_int))))))) (XO.toE (xo_sl (xe_pv (pv 11)) (xp_some (xe_pv (pv 8))) xp_none))))))))) xss_nil)
    (xss_cons (xs_set (i := 12) (ps_set (i := 12) sc__law_bent.nd rfl (.inl rfl) (XO.pe (xo_lst (xao_cons (XE.toO xe_str) (xao_cons (XE.toO xe_str) (xao_cons (XE.toO xe_str) (xao_cons (XE.toO xe_str) (xao_cons (XE.toO xe_str) (xao_cons (XE.toO xe_str) (xao_cons (XE.toO xe_str) (xao_cons (XE.toO xe_str) (xao_cons (XE.toO xe_str) (xao_cons (XE.toO xe_str) (xao_cons (XE.toO xe_str) xao_nil)))))))))))))) (fun _ _ _ h => h))
    (xss_cons (xs_if (xt_cmpL (i := 2) (op_eqT hr.units) sem_eq (pv 2) (XE.toB xe_int)) (xss_one (xs_ret (XE.toO (xe_join xe_str (XO.toE (xo_bin op_addT sem_add (XO.toE (xo_bin op_addT sem_add (XO.toE (xo_sl (xe_pv (pv 6)) xp_none (xp_some (xe_pv (pv 7))))) (XO.toE (xo_lst (xao_cons (XE.toO (xe_ixL (i := 12) (pv 12) (XO.toE (xo_callS (i := 0) G__law_draw (hr.mono (by decide)) (by rfl) T.g__law_draw T.F__law_draw.kp (b__law_draw T) (pv 0) (xa_cons xe_int xa_nil))))) xao_nil))))) (XO.toE (xo_sl (xe_pv (pv 6)) (xp_some (xe_pv (pv 7))) xp_none)))))))) xss_nil)
    (xss_one (xs_ret (xo_sl (xe_pv (pv 1)) xp_none (xp_some (xe_neg xe_int)))))))))))))))))
theorem ok__law_bent [inst : Zc] (T : Txt K mg) (G__law_draw : FnOk P w K mg base CX0 1 T.a__law_draw T.fd__law_draw ["state", "many"] (liftSp K sp__law_draw)) : FnOk P w K mg base CX0 2 T.a__law_bent T.fd__law_bent ["state", "written"] (liftSp K sp__law_bent) :=
  fn_tree T.F__law_bent sc__law_bent len__law_bent (body__law_bent T G__law_draw) does__law_bent
theorem body__law_numbers [inst : Zc] (T : Txt K mg) (cdv : Value) (A : Around) (outer : List Env) (s : Shared) (H : Hp) (E : XK) (hr : Room 0 (A.deeper (envOfC "_law_numbers" (defScope s__law_numbers) s.heap.objs.size T.a__law_numbers cdv))) :
    XSs (cxOf CX0 P w K mg base N__law_numbers "_law_numbers" (defScope s__law_numbers) T.a__law_numbers cdv A outer s H E).nox (defBody s__law_numbers) wb__law_numbers :=
  (xss_cons (xs_for PassesOwn.never (by rfl) (xi_any (xe_pv (pv 0))) (xg_name (i := 1) (pg_name sc__law_numbers.nd rfl (.inl rfl))) (xss_cons (xs_lc (i := 2) (own := [("sign", 3)]) (by rfl) sc__law_numbers.nd rfl rfl (sw_true rfl rfl rfl (by decide +kernel)) (xi_any (xe_pv (pv 1))) (blkOk_by (own := [("sign", 3)]) (N := N__law_numbers) (sc := defScope s__law_numbers) (by decide +kernel)) (fun _ _ _ _ _ => (xg_name (i := 3) (pg_name sc__law_numbers.nd rfl (.inl rfl)))) (fun _ _ _ _ _ => (xts_one (xt_cmpL (i := 3) (op_notInD hr.units) (sem_inD true) (pv 3) (XE.toB xe_str)))) (fun _ _ _ _ _ => (XE.toO (xe_pv (pv 3)))) (by decide))
    (xss_one (xs_if (XW.t (xw_or (xt_not (xt_chain op_leT' sem_le op_leT' sem_le xe_int (xe_callB cr_len sem_len (by rfl) T.n_len (by decide +kernel) (xb_pv (pv 1))) xe_int)) (xw_or (xt_cmpL (i := 2) (op_neT hr.units) sem_ne (pv 2) (XE.toB (XO.toE (xo_lst xao_nil)))) (XT.o1 (XW.t (xw_and (xt_cmp (op_eqT hr.units) sem_eq (xe_ixL (i := 1) (pv 1) xe_int) (XE.toB xe_str)) (XT.w1 (xt_cmpL (i := 1) (op_neT hr.units) sem_ne (pv 1) (XE.toB xe_str))))))))) (xss_one (xs_ret (XE.toO xe_non))) xss_nil))))
    (xss_one (xs_ret (xo_callTy call_tuple_of sem_tuple (by rfl) T.n_tuple (by decide +kernel) (XO.toE (xo_lc (own := [("word", 1)]) (by rfl) sc__law_numbers.nd (xi_any (xe_pv (pv 0))) (blkOk_by (own := [("word", 1)]) (N := N__law_numbers) (sc := defScope s__law_numbers) (by decide +kernel)) (fun _ _ _ _ _ => (xg_name (i := 1) (pg_name sc__law_numbers.nd rfl (.inl rfl)))) (fun _ _ _ _ _ => xts_nil) (fun _ _ _ _ _ => (XE.toO (xe_callTy call_int_str sem_intS (by rfl) T.n_int (by decide +kernel) (xb_pv (pv 1))))) (by decide)))))))
theorem ok__law_numbers [inst : Zc] (T : Txt K mg) : FnOk P w K mg base CX0 1 T.a__law_numbers T.fd__law_numbers ["words"] (liftSp K sp__law_numbers) :=
  fn_tree T.F__law_numbers sc__law_numbers len__law_numbers (body__law_numbers T) does__law_numbers
theorem body__law_read [inst : Zc] (T : Txt K mg) (G__law_numbers : FnOk P w K mg base CX0 1 T.a__law_numbers T.fd__law_numbers ["words"] (liftSp K sp__law_numbers)) (cdv : Value) (A : Around) (outer : List Env) (s : Shared) (H : Hp) (E : XK) (hr : Room 1 (A.deeper (envOfC "_law_read" (defScope s__law_read) s.heap.objs.size T.a__law_read cdv))) :
    XSs (cxOf CX0 P w K mg base N__law_read "_law_read" (defScope s__law_read) T.a__law_read cdv A outer s H E).nox (defBody s__law_read) wb__law_read :=
  (xss_cons (xs_set (i := 1) (ps_set (i := 1) sc__law_read.nd rfl (.inl rfl) (XO.pe (xo_split (xe_pv (pv 0)) xe_str))) (fun _ _ _ h => h))
    (xss_cons (xs_set (i := 2) (ps_set (i := 2) sc__law_read.nd rfl (.inl rfl) (XO.pe (XE.toO (xe_cmp (op_neT hr.units) sem_ne (xe_ixL (i := 1) (pv 1) (xe_neg xe_int)) (XE.toB xe_str))))) (fun _ _ _ h => h))
    (xss_cons (xs_set (i := 1) (ps_set (i := 1) sc__law_read.nd rfl (.inl rfl) (XO.pe (xo_if (xt_tru (xb_pv (pv 2))) (XE.toO (xe_pv (pv 1))) (xo_sl (xe_pv (pv 1)) xp_none (xp_some (xe_neg xe_int)))))) (fun _ _ _ h => h))
    (xss_cons (xs_parO (i := 3) (j := 4) (ps_par (by rfl) sc__law_read.nd rfl rfl (by decide) rfl rfl (XAO.pa (xao_cons xo_dct0T (xao_cons (XE.toO xe_non) xao_nil))) (by rfl)))
    (xss_cons (xs_for PassesOwn.never (by rfl) (xi_enum (by rfl) T.n_enumerate (xe_pv (pv 1))) (xg_tup rfl (xgs_cons (xg_name (i := 5) (pg_name sc__law_read.nd rfl (.inl rfl))) (xgs_cons (xg_name (i := 6) (pg_name sc__law_read.nd rfl (.inl rfl))) xgs_nil))) (xss_cons (xs_set (i := 7) (ps_set (i := 7) sc__law_read.nd rfl (.inl rfl) (XO.pe (xo_split (xe_pv (pv 6)) xe_str))) (fun _ _ _ h => h))
    (xss_cons (xs_set (i := 8) (ps_set (i := 8) sc__law_read.nd rfl (.inl rfl) (XO.pe (xo_if (XW.t (xw_and (xt_cmp (op_eqT hr.units) sem_eq (xe_ixL (i := 7) (pv 7) xe_int) (XE.toB xe_str)) (XT.w1 (xt_cmp (op_eqT hr.units) sem_eq (xe_callB cr_len sem_len (by rfl) T.n_len (by decide +kernel) (xb_pv (pv 7))) (XE.toB xe_int))))) (xo_call G__law_numbers (hr.mono (by decide)) (by rfl) T.g__law_numbers T.F__law_numbers.kp (b__law_numbers T) (xa_cons (XO.toE (xo_sl (xe_pv (pv 7)) (xp_some xe_int) xp_none)) xa_nil)) (XE.toO xe_non)))) (fun _ _ _ h => h))
    (xss_cons (xs_set (i := 9) (ps_set (i := 9) sc__law_read.nd rfl (.inl rfl) (XO.pe (xo_call G__law_numbers (hr.mono (by decide)) (by rfl) T.g__law_numbers T.F__law_numbers.kp (b__law_numbers T) (xa_cons (xe_pv (pv 7)) xa_nil)))) (fun _ _ _ h => h))
    (xss_one (xs_if (XW.t (xw_and (xt_cmpL (i := 8) op_isNotT (sem_is true) (pv 8) (XE.toB xe_non)) (XT.w1 (XW.t (xw_or (xt_cmpL (i := 4) op_isT (sem_is false) (pv 4) (XE.toB xe_non)) (XT.o1 (xt_cmp (op_ltD hr.units) sem_ltD (xe_pv (pv 4)) (xb_pv (pv 8))))))))) (xss_one (xs_asgH (ps_asg (XE.pe (xe_tup (xa_cons (xe_tup xa_nil) (xa_cons (xe_pv (pv 8)) xa_nil)))) (XH.pg (xh_tup (by rfl) (xhs_cons (xh_ixK (k := 3) hr.units (pv 3) (xe_pv (pv 8))) (xhs_cons (xh_of (xg_name (i := 4) (pg_name sc__law_read.nd rfl (.inl rfl)))) xhs_nil))))))) (xss_one (xs_if (XW.t (xw_and (xt_cmpL (i := 4) op_isNotT (sem_is true) (pv 4) (XE.toB xe_non)) (XT.w1 (xt_cmpL (i := 9) op_isNotT (sem_is true) (pv 9) (XE.toB xe_non))))) (xss_one (xs_setK (i := 3) hr.units (pv 3) (xe_pv (pv 4)) (XO.toE (xo_bin op_addT sem_add (xe_ixD (i := 3) hr.units (pv 3) (xe_pv (pv 4))) (xe_tup (xa_cons (xe_pv (pv 9)) xa_nil)))))) (xss_one (xs_retV (pv 5)))))))))))
    (xss_one (xs_ret (xo_if (xt_tru (xb_pv (pv 2))) (XE.toO (xe_callB cr_len sem_len (by rfl) T.n_len (by decide +kernel) (xb_pv (pv 1)))) (xo_mov (pv 3))))))))))
theorem ok__law_read [inst : Zc] (T : Txt K mg) (G__law_numbers : FnOk P w K mg base CX0 1 T.a__law_numbers T.fd__law_numbers ["words"] (liftSp K sp__law_numbers)) : FnOk P w K mg base CX0 2 T.a__law_read T.fd__law_read ["written"] (liftSp K sp__law_read) :=
  fn_tree T.F__law_read sc__law_read len__law_read (body__law_read T G__law_numbers) does__law_read
theorem body_law [inst : Zc] (T : Txt K mg) (G__law_state : FnOk P w K mg base CX0 1 T.a__law_state T.fd__law_state ["script"] (liftSp K sp__law_state)) (G__law_tried : FnOk P w K mg base CX0 6 T.a__law_tried T.fd__law_tried ["thing"] (liftSp K sp__law_tried)) (G__law_text : FnOk P w K mg base CX0 2 T.a__law_text T.fd__law_text ["state"] (liftSp K sp__law_text)) (G__law_draw : FnOk P w K mg base CX0 1 T.a__law_draw T.fd__law_draw ["state", "many"] (liftSp K sp__law_draw)) (G__law_bent : FnOk P w K mg base CX0 2 T.a__law_bent T.fd__law_bent ["state", "written"] (liftSp K sp__law_bent)) (G__law_read : FnOk P w K mg base CX0 2 T.a__law_read T.fd__law_read ["written"] (liftSp K sp__law_read)) (cdv : Value) (A : Around) (outer : List Env) (s : Shared) (H : Hp) (E : XK) (hr : Room 6 (A.deeper (envOfC "law" (defScope s_law) s.heap.objs.size T.a_law cdv))) :
    XSs (cxOf CX0 P w K mg base N_law "law" (defScope s_law) T.a_law cdv A outer s H E).nox (defBody s_law) wb_law :=
  (xss_cons (xs_set (i := 1) (ps_set (i := 1) sc_law.nd rfl (.inl rfl) (XO.pe (xo_call G__law_state (hr.mono (by decide)) (by rfl) T.g__law_state T.F__law_state.kp (b__law_state T) (xa_cons (xe_pv (pv 0)) xa_nil)))) (fun _ _ _ h => h))
    (xss_cons (xs_set (i := 2) (ps_set (i := 2) sc_law.nd rfl (.inl rfl) (XO.pe (xo_bin op_mulS1 sem_mulS1 xe_str xe_int))) (fun _ _ _ h => h))
    (xss_cons (xs_if (xt_cmp (op_neT hr.units) sem_ne (XO.toE (xo_lst (xao_cons (xo_call G__law_tried (hr.mono (by decide)) (by rfl) T.g__law_tried T.F__law_tried.kp (b__law_tried T) (xa_cons (XO.toE (xo_bin op_addT sem_add (XO.toE (xo_bin op_addT sem_add xe_str (xe_pv (pv 2)))) xe_str)) xa_nil)) (xao_cons (xo_call G__law_tried (hr.mono (by decide)) (by rfl) T.g__law_tried T.F__law_tried.kp (b__law_tried T) (xa_cons (XO.toE (xo_bin op_addT sem_add (XO.toE (xo_bin op_addT sem_add xe_str (xe_pv (pv 2)))) xe_str)) xa_nil)) xao_nil)))) (XE.toB (XO.toE (xo_lst (xao_cons (XE.toO xe_int) (xao_cons (XE.toO xe_int) xao_nil)))))) (xss_one (xs_ret (XE.toO xe_bl))) xss_nil)
    (xss_cons (xs_for PassesOwn.never (by rfl) (xi_rng1 (by rfl) T.n_range xe_int) (xg_name (i := 3) (pg_name sc_law.nd rfl (.inl rfl))) (xss_cons (xs_set (i := 4) (ps_set (i := 4) sc_law.nd rfl (.inl rfl) (XO.pe (xo_callS (i := 1) G__law_text (hr.mono (by decide)) (by rfl) T.g__law_text T.F__law_text.kp (b__law_text T) (pv 1) xa_nil))) (fun _ _ _ h => h))
    (xss_cons (xs_for PassesOwn.never (by rfl) (xi_rng1 (by rfl) T.n_range (XO.toE (xo_callS (i := 1) G__law_draw (hr.mono (by decide)) (by rfl) T.g__law_draw T.F__law_draw.kp (b__law_draw T) (pv 1) (xa_cons xe_int xa_nil)))) (xg_name (i := 5) (pg_name sc_law.nd rfl (.inl rfl))) (xss_one (xs_set (i := 4) (ps_set (i := 4) sc_law.nd rfl (.inl rfl) (XO.pe (xo_callS (i := 1) G__law_bent (hr.mono (by decide)) (by rfl) T.g__law_bent T.F__law_bent.kp (b__law_bent T) (pv 1) (xa_cons (xe_pv (pv 4)) xa_nil)))) (fun _ _ _ h => h))))
    (xss_cons (xs_par (i := 6) (j := 7) (ps_par (by rfl) sc_law.nd rfl rfl (by decide) rfl rfl (XA.pa (xa_cons (XO.toE (xo_call G__law_read (hr.mono (by decide)) (by rfl) T.g__law_read T.F__law_read.kp (b__law_read T) (xa_cons (xe_pv (pv 4)) xa_nil))) (xa_cons (XO.toE (xo_call G__law_tried (hr.mono (by decide)) (by rfl) T.g__law_tried T.F__law_tried.kp (b__law_tried T) (xa_cons (xe_pv (pv 4)) xa_nil))) xa_nil))) (by rfl)))
    (xss_cons (xs_if (XW.t (xw_or (xt_cmp (op_neT hr.units) sem_ne (xe_isiG (t := .int) (by rfl) T.n_isinstance (by rfl) T.n_int (by decide +kernel) (xb_pv (pv 6))) (XE.toB (xe_isiG (t := .int) (by rfl) T.n_isinstance (by rfl) T.n_int (by decide +kernel) (xb_pv (pv 7))))) (XT.o1 (xt_cmpL (i := 7) (op_neA hr.units) sem_neA (pv 7) (xb_pv (pv 6)))))) (xss_one (xs_ret (XE.toO xe_bl))) xss_nil)
    (xss_cons (xs_set (i := 8) (ps_set (i := 8) sc_law.nd rfl (.inl rfl) (XO.pe (xo_lst (xao_cons (XE.toO xe_non) (xao_cons (XE.toO xe_int) (xao_cons (XE.toO xe_bl) (xao_cons (XE.toO (XO.toE (xo_lst (xao_cons (XE.toO xe_str) xao_nil)))) (xao_cons (XE.toO (xe_tup (xa_cons xe_str xa_nil))) (xao_cons (XE.toO (XO.toE xo_dct0T)) (xao_cons (XE.toO (XO.toE (xo_disp1T hr.units (xe_tup (xa_cons xe_int (xa_cons xe_int xa_nil))) (xe_tup xa_nil)))) xao_nil)))))))))) (fun _ _ _ h => h))
    (xss_cons (xs_set (i := 7) (ps_set (i := 7) sc_law.nd rfl (.inl rfl) (XO.pe (xo_call G__law_tried (hr.mono (by decide)) (by rfl) T.g__law_tried T.F__law_tried.kp (b__law_tried T) (xa_cons (xe_ixL (i := 8) (pv 8) (XO.toE (xo_callS (i := 1) G__law_draw (hr.mono (by decide)) (by rfl) T.g__law_draw T.F__law_draw.kp (b__law_draw T) (pv 1) (xa_cons xe_int xa_nil)))) xa_nil)))) (fun _ _ _ h => h))
    (xss_one (xs_if (XW.t (xw_or (xt_not (xt_tru (XE.toB (xe_isiG (t := .int) (by rfl) T.n_isinstance (by rfl) T.n_int (by decide +kernel) (xb_pv (pv 7)))))) (XT.o1 (xt_cmpL (i := 7) (op_neT hr.units) sem_ne (pv 7) (XE.toB xe_int))))) (xss_one (xs_ret (XE.toO xe_bl))) xss_nil)))))))))
    (xss_one (xs_ret (XE.toO xe_bl)))))))
theorem ok_law [inst : Zc] (T : Txt K mg) (G__law_state : FnOk P w K mg base CX0 1 T.a__law_state T.fd__law_state ["script"] (liftSp K sp__law_state)) (G__law_tried : FnOk P w K mg base CX0 6 T.a__law_tried T.fd__law_tried ["thing"] (liftSp K sp__law_tried)) (G__law_text : FnOk P w K mg base CX0 2 T.a__law_text T.fd__law_text ["state"] (liftSp K sp__law_text)) (G__law_draw : FnOk P w K mg base CX0 1 T.a__law_draw T.fd__law_draw ["state", "many"] (liftSp K sp__law_draw)) (G__law_bent : FnOk P w K mg base CX0 2 T.a__law_bent T.fd__law_bent ["state", "written"] (liftSp K sp__law_bent)) (G__law_read : FnOk P w K mg base CX0 2 T.a__law_read T.fd__law_read ["written"] (liftSp K sp__law_read)) : FnOk P w K mg base CX0 7 T.a_law T.fd_law ["script"] (liftSp K sp_law) :=
  fn_tree T.F_law sc_law len_law (body_law T G__law_state G__law_tried G__law_text G__law_draw G__law_bent G__law_read) does_law
theorem all_ok [inst : Zc] (T : Txt K mg) : FnOk P w K mg base CX0 7 T.a_law T.fd_law ["script"] (liftSp K sp_law) := by
  have G__law_state := ok__law_state (P := P) (w := w) (base := base) T
  have G_Reading_init := ok_Reading_init (P := P) (w := w) (base := base) T
  have G_number_of := ok_number_of (P := P) (w := w) (base := base) T
  have G_numbers_of := ok_numbers_of (P := P) (w := w) (base := base) T G_number_of
  have G_pair_of := ok_pair_of (P := P) (w := w) (base := base) T G_numbers_of
  have G_Reading_take_row := ok_Reading_take_row (P := P) (w := w) (base := base) T G_pair_of G_numbers_of
  have G_read_paper := ok_read_paper (P := P) (w := w) (base := base) T G_Reading_init G_Reading_take_row
  have G__law_tried := ok__law_tried (P := P) (w := w) (base := base) T G_read_paper
  have G__law_draw := ok__law_draw (P := P) (w := w) (base := base) T
  have G__law_text := ok__law_text (P := P) (w := w) (base := base) T G__law_draw
  have G__law_bent := ok__law_bent (P := P) (w := w) (base := base) T G__law_draw
  have G__law_numbers := ok__law_numbers (P := P) (w := w) (base := base) T
  have G__law_read := ok__law_read (P := P) (w := w) (base := base) T G__law_numbers
  have G_law := ok_law (P := P) (w := w) (base := base) T G__law_state G__law_tried G__law_text G__law_draw G__law_bent G__law_read
  exact G_law
end
theorem all_mk {l : PySem.W.OpenLaw} {w : World} {K : PySem.W.Frag} {h : Heap} {mg : Str → Option Value} {fa : Addr} (X : K.In h) (G : h.Ns mainGlobals mg) (hfa : mg "law" = some (.ref fa))
    {C_Reading : Addr}
    {C_NoText : Addr}
    {C_TraceError : Addr}
    {C_NoFlow : Addr}
    {C_NoUnit : Addr}
    {f_NoText_init : Addr} {od_NoText_init an_NoText_init : Option Addr} {sl_NoText_init : Array (Option Value)} {oc_NoText_init kV_NoText_init dc_NoText_init pm_NoText_init cd_NoText_init ct_NoText_init : Value}
    {xnm_NoText xqn_NoText : Str} {xN_NoText : Addr} {xbs_NoText xbm_NoText xsub_NoText : List Value} {xsn_NoText : List Str} {xab_NoText : Bool} {xcol_NoText : Option Bool} {xdd_NoText : Option Addr} {x0_NoText x1_NoText x2_NoText x3_NoText x5_NoText : Option Value}
    {f__law_state : Addr} {od__law_state an__law_state : Option Addr} {sl__law_state : Array (Option Value)} {oc__law_state kV__law_state dc__law_state pm__law_state cd__law_state ct__law_state : Value}
    {f_Reading_init : Addr} {od_Reading_init an_Reading_init : Option Addr} {sl_Reading_init : Array (Option Value)} {oc_Reading_init kV_Reading_init dc_Reading_init pm_Reading_init cd_Reading_init ct_Reading_init : Value}
    {f_number_of : Addr} {od_number_of an_number_of : Option Addr} {sl_number_of : Array (Option Value)} {oc_number_of kV_number_of dc_number_of pm_number_of cd_number_of ct_number_of : Value}
    {f_numbers_of : Addr} {od_numbers_of an_numbers_of : Option Addr} {sl_numbers_of : Array (Option Value)} {oc_numbers_of kV_numbers_of dc_numbers_of pm_numbers_of cd_numbers_of ct_numbers_of : Value}
    {f_pair_of : Addr} {od_pair_of an_pair_of : Option Addr} {sl_pair_of : Array (Option Value)} {oc_pair_of kV_pair_of dc_pair_of pm_pair_of cd_pair_of ct_pair_of : Value}
    {f_Reading_take_row : Addr} {od_Reading_take_row an_Reading_take_row : Option Addr} {sl_Reading_take_row : Array (Option Value)} {oc_Reading_take_row kV_Reading_take_row dc_Reading_take_row pm_Reading_take_row cd_Reading_take_row ct_Reading_take_row : Value}
    {f_read_paper : Addr} {od_read_paper an_read_paper : Option Addr} {sl_read_paper : Array (Option Value)} {oc_read_paper kV_read_paper dc_read_paper pm_read_paper cd_read_paper ct_read_paper : Value}
    {f__law_tried : Addr} {od__law_tried an__law_tried : Option Addr} {sl__law_tried : Array (Option Value)} {oc__law_tried kV__law_tried dc__law_tried pm__law_tried cd__law_tried ct__law_tried : Value}
    {f__law_draw : Addr} {od__law_draw an__law_draw : Option Addr} {sl__law_draw : Array (Option Value)} {oc__law_draw kV__law_draw dc__law_draw pm__law_draw cd__law_draw ct__law_draw : Value}
    {f__law_text : Addr} {od__law_text an__law_text : Option Addr} {sl__law_text : Array (Option Value)} {oc__law_text kV__law_text dc__law_text pm__law_text cd__law_text ct__law_text : Value}
    {f__law_bent : Addr} {od__law_bent an__law_bent : Option Addr} {sl__law_bent : Array (Option Value)} {oc__law_bent kV__law_bent dc__law_bent pm__law_bent cd__law_bent ct__law_bent : Value}
    {f__law_numbers : Addr} {od__law_numbers an__law_numbers : Option Addr} {sl__law_numbers : Array (Option Value)} {oc__law_numbers kV__law_numbers dc__law_numbers pm__law_numbers cd__law_numbers ct__law_numbers : Value}
    {f__law_read : Addr} {od__law_read an__law_read : Option Addr} {sl__law_read : Array (Option Value)} {oc__law_read kV__law_read dc__law_read pm__law_read cd__law_read ct__law_read : Value}
    {f_law : Addr} {od_law an_law : Option Addr} {sl_law : Array (Option Value)} {oc_law kV_law dc_law pm_law cd_law ct_law : Value}
    {t_MOST_FIGURES : Tok}
    {t_FIGURES : Tok}
    (a_Reading : PySem.W.nsIn K mainGlobals "Reading" = some (some (.ref C_Reading)))
    (a__law_state : PySem.W.nsIn K mainGlobals "_law_state" = some (some (.ref f__law_state))) (l__law_state : K.lookup f__law_state = some ⟨oc__law_state, od__law_state, .func (PySem.W.fnOf "_law_state" "_law_state" (defArgs s__law_state) (defBody s__law_state) (defScope s__law_state) .none kV__law_state dc__law_state pm__law_state an__law_state cd__law_state ct__law_state), sl__law_state⟩) (c__law_state : PySem.W.codeIn K cd__law_state "_law_state" = true) (k__law_state : PySem.W.keepIn K (.ref f__law_state) = true)
    (a_Reading_init : PySem.W.findIn K (.ref C_Reading) "__init__" = some (some (.ref f_Reading_init))) (i_Reading_init : PySem.W.isFn K (.ref f_Reading_init) = true) (l_Reading_init : K.lookup f_Reading_init = some ⟨oc_Reading_init, od_Reading_init, .func (PySem.W.fnOf "__init__" "Reading.__init__" (defArgs s_Reading_init) (defBody s_Reading_init) (defScope s_Reading_init) .none kV_Reading_init dc_Reading_init pm_Reading_init an_Reading_init cd_Reading_init ct_Reading_init), sl_Reading_init⟩) (c_Reading_init : PySem.W.codeIn K cd_Reading_init "Reading.__init__" = true) (k_Reading_init : PySem.W.keepIn K (.ref f_Reading_init) = true)
    (a_number_of : PySem.W.nsIn K mainGlobals "number_of" = some (some (.ref f_number_of))) (l_number_of : K.lookup f_number_of = some ⟨oc_number_of, od_number_of, .func (PySem.W.fnOf "number_of" "number_of" (defArgs s_number_of) (defBody s_number_of) (defScope s_number_of) .none kV_number_of dc_number_of pm_number_of an_number_of cd_number_of ct_number_of), sl_number_of⟩) (c_number_of : PySem.W.codeIn K cd_number_of "number_of" = true) (k_number_of : PySem.W.keepIn K (.ref f_number_of) = true)
    (a_numbers_of : PySem.W.nsIn K mainGlobals "numbers_of" = some (some (.ref f_numbers_of))) (l_numbers_of : K.lookup f_numbers_of = some ⟨oc_numbers_of, od_numbers_of, .func (PySem.W.fnOf "numbers_of" "numbers_of" (defArgs s_numbers_of) (defBody s_numbers_of) (defScope s_numbers_of) .none kV_numbers_of dc_numbers_of pm_numbers_of an_numbers_of cd_numbers_of ct_numbers_of), sl_numbers_of⟩) (c_numbers_of : PySem.W.codeIn K cd_numbers_of "numbers_of" = true) (k_numbers_of : PySem.W.keepIn K (.ref f_numbers_of) = true)
    (a_pair_of : PySem.W.nsIn K mainGlobals "pair_of" = some (some (.ref f_pair_of))) (l_pair_of : K.lookup f_pair_of = some ⟨oc_pair_of, od_pair_of, .func (PySem.W.fnOf "pair_of" "pair_of" (defArgs s_pair_of) (defBody s_pair_of) (defScope s_pair_of) .none kV_pair_of dc_pair_of pm_pair_of an_pair_of cd_pair_of ct_pair_of), sl_pair_of⟩) (c_pair_of : PySem.W.codeIn K cd_pair_of "pair_of" = true) (k_pair_of : PySem.W.keepIn K (.ref f_pair_of) = true)
    (a_Reading_take_row : PySem.W.findIn K (.ref C_Reading) "take_row" = some (some (.ref f_Reading_take_row))) (i_Reading_take_row : PySem.W.isFn K (.ref f_Reading_take_row) = true) (l_Reading_take_row : K.lookup f_Reading_take_row = some ⟨oc_Reading_take_row, od_Reading_take_row, .func (PySem.W.fnOf "take_row" "Reading.take_row" (defArgs s_Reading_take_row) (defBody s_Reading_take_row) (defScope s_Reading_take_row) .none kV_Reading_take_row dc_Reading_take_row pm_Reading_take_row an_Reading_take_row cd_Reading_take_row ct_Reading_take_row), sl_Reading_take_row⟩) (c_Reading_take_row : PySem.W.codeIn K cd_Reading_take_row "Reading.take_row" = true) (k_Reading_take_row : PySem.W.keepIn K (.ref f_Reading_take_row) = true)
    (a_read_paper : PySem.W.nsIn K mainGlobals "read_paper" = some (some (.ref f_read_paper))) (l_read_paper : K.lookup f_read_paper = some ⟨oc_read_paper, od_read_paper, .func (PySem.W.fnOf "read_paper" "read_paper" (defArgs s_read_paper) (defBody s_read_paper) (defScope s_read_paper) .none kV_read_paper dc_read_paper pm_read_paper an_read_paper cd_read_paper ct_read_paper), sl_read_paper⟩) (c_read_paper : PySem.W.codeIn K cd_read_paper "read_paper" = true) (k_read_paper : PySem.W.keepIn K (.ref f_read_paper) = true)
    (a__law_tried : PySem.W.nsIn K mainGlobals "_law_tried" = some (some (.ref f__law_tried))) (l__law_tried : K.lookup f__law_tried = some ⟨oc__law_tried, od__law_tried, .func (PySem.W.fnOf "_law_tried" "_law_tried" (defArgs s__law_tried) (defBody s__law_tried) (defScope s__law_tried) .none kV__law_tried dc__law_tried pm__law_tried an__law_tried cd__law_tried ct__law_tried), sl__law_tried⟩) (c__law_tried : PySem.W.codeIn K cd__law_tried "_law_tried" = true) (k__law_tried : PySem.W.keepIn K (.ref f__law_tried) = true)
    (a__law_draw : PySem.W.nsIn K mainGlobals "_law_draw" = some (some (.ref f__law_draw))) (l__law_draw : K.lookup f__law_draw = some ⟨oc__law_draw, od__law_draw, .func (PySem.W.fnOf "_law_draw" "_law_draw" (defArgs s__law_draw) (defBody s__law_draw) (defScope s__law_draw) .none kV__law_draw dc__law_draw pm__law_draw an__law_draw cd__law_draw ct__law_draw), sl__law_draw⟩) (c__law_draw : PySem.W.codeIn K cd__law_draw "_law_draw" = true) (k__law_draw : PySem.W.keepIn K (.ref f__law_draw) = true)
    (a__law_text : PySem.W.nsIn K mainGlobals "_law_text" = some (some (.ref f__law_text))) (l__law_text : K.lookup f__law_text = some ⟨oc__law_text, od__law_text, .func (PySem.W.fnOf "_law_text" "_law_text" (defArgs s__law_text) (defBody s__law_text) (defScope s__law_text) .none kV__law_text dc__law_text pm__law_text an__law_text cd__law_text ct__law_text), sl__law_text⟩) (c__law_text : PySem.W.codeIn K cd__law_text "_law_text" = true) (k__law_text : PySem.W.keepIn K (.ref f__law_text) = true)
    (a__law_bent : PySem.W.nsIn K mainGlobals "_law_bent" = some (some (.ref f__law_bent))) (l__law_bent : K.lookup f__law_bent = some ⟨oc__law_bent, od__law_bent, .func (PySem.W.fnOf "_law_bent" "_law_bent" (defArgs s__law_bent) (defBody s__law_bent) (defScope s__law_bent) .none kV__law_bent dc__law_bent pm__law_bent an__law_bent cd__law_bent ct__law_bent), sl__law_bent⟩) (c__law_bent : PySem.W.codeIn K cd__law_bent "_law_bent" = true) (k__law_bent : PySem.W.keepIn K (.ref f__law_bent) = true)
    (a__law_numbers : PySem.W.nsIn K mainGlobals "_law_numbers" = some (some (.ref f__law_numbers))) (l__law_numbers : K.lookup f__law_numbers = some ⟨oc__law_numbers, od__law_numbers, .func (PySem.W.fnOf "_law_numbers" "_law_numbers" (defArgs s__law_numbers) (defBody s__law_numbers) (defScope s__law_numbers) .none kV__law_numbers dc__law_numbers pm__law_numbers an__law_numbers cd__law_numbers ct__law_numbers), sl__law_numbers⟩) (c__law_numbers : PySem.W.codeIn K cd__law_numbers "_law_numbers" = true) (k__law_numbers : PySem.W.keepIn K (.ref f__law_numbers) = true)
    (a__law_read : PySem.W.nsIn K mainGlobals "_law_read" = some (some (.ref f__law_read))) (l__law_read : K.lookup f__law_read = some ⟨oc__law_read, od__law_read, .func (PySem.W.fnOf "_law_read" "_law_read" (defArgs s__law_read) (defBody s__law_read) (defScope s__law_read) .none kV__law_read dc__law_read pm__law_read an__law_read cd__law_read ct__law_read), sl__law_read⟩) (c__law_read : PySem.W.codeIn K cd__law_read "_law_read" = true) (k__law_read : PySem.W.keepIn K (.ref f__law_read) = true)
    (a_law : PySem.W.nsIn K mainGlobals "law" = some (some (.ref f_law))) (l_law : K.lookup f_law = some ⟨oc_law, od_law, .func (PySem.W.fnOf "law" "law" (defArgs s_law) (defBody s_law) (defScope s_law) .none kV_law dc_law pm_law an_law cd_law ct_law), sl_law⟩) (c_law : PySem.W.codeIn K cd_law "law" = true) (k_law : PySem.W.keepIn K (.ref f_law) = true)
    (a_NoText : PySem.W.nsIn K mainGlobals "NoText" = some (some (.ref C_NoText))) (ga_NoText : PySem.W.findIn K (.ref C_NoText) "__getattribute__" = some (some (.builtin "BaseException.__getattribute__"))) (gg_NoText : PySem.W.findIn K (.ref C_NoText) "__getattr__" = some none) (sb_NoText : PySem.W.subIn K (.ref C_NoText) (.type "BaseException") = some true) (hd_NoText : PySem.W.hasDictIn K C_NoText = true) (ic_NoText : PySem.W.isClsIn K C_NoText = true) (ca_NoText : PySem.W.findIn K (.ref C_NoText) "__class__" = some (some (.builtin "object.__class__"))) (mo_NoText : PySem.W.mroIn K C_NoText (.type "object") = some true) (ty_NoText : PySem.W.typeIn K (.ref C_NoText) = some (.type "type")) (ss_NoText : PySem.W.subIn K (.ref C_NoText) (.ref C_NoText) = some true)
    (a_TraceError : PySem.W.nsIn K mainGlobals "TraceError" = some (some (.ref C_TraceError))) (ga_TraceError : PySem.W.findIn K (.ref C_TraceError) "__getattribute__" = some (some (.builtin "BaseException.__getattribute__"))) (gg_TraceError : PySem.W.findIn K (.ref C_TraceError) "__getattr__" = some none) (sb_TraceError : PySem.W.subIn K (.ref C_TraceError) (.type "BaseException") = some true) (hd_TraceError : PySem.W.hasDictIn K C_TraceError = true) (ic_TraceError : PySem.W.isClsIn K C_TraceError = true) (ca_TraceError : PySem.W.findIn K (.ref C_TraceError) "__class__" = some (some (.builtin "object.__class__"))) (mo_TraceError : PySem.W.mroIn K C_TraceError (.type "object") = some true) (ty_TraceError : PySem.W.typeIn K (.ref C_TraceError) = some (.type "type")) (ss_TraceError : PySem.W.subIn K (.ref C_TraceError) (.ref C_TraceError) = some true)
    (a_NoFlow : PySem.W.nsIn K mainGlobals "NoFlow" = some (some (.ref C_NoFlow))) (ga_NoFlow : PySem.W.findIn K (.ref C_NoFlow) "__getattribute__" = some (some (.builtin "BaseException.__getattribute__"))) (gg_NoFlow : PySem.W.findIn K (.ref C_NoFlow) "__getattr__" = some none) (sb_NoFlow : PySem.W.subIn K (.ref C_NoFlow) (.type "BaseException") = some true) (hd_NoFlow : PySem.W.hasDictIn K C_NoFlow = true) (ic_NoFlow : PySem.W.isClsIn K C_NoFlow = true) (ca_NoFlow : PySem.W.findIn K (.ref C_NoFlow) "__class__" = some (some (.builtin "object.__class__"))) (mo_NoFlow : PySem.W.mroIn K C_NoFlow (.type "object") = some true) (ty_NoFlow : PySem.W.typeIn K (.ref C_NoFlow) = some (.type "type")) (ss_NoFlow : PySem.W.subIn K (.ref C_NoFlow) (.ref C_NoFlow) = some true)
    (a_NoUnit : PySem.W.nsIn K mainGlobals "NoUnit" = some (some (.ref C_NoUnit))) (ga_NoUnit : PySem.W.findIn K (.ref C_NoUnit) "__getattribute__" = some (some (.builtin "BaseException.__getattribute__"))) (gg_NoUnit : PySem.W.findIn K (.ref C_NoUnit) "__getattr__" = some none) (sb_NoUnit : PySem.W.subIn K (.ref C_NoUnit) (.type "BaseException") = some true) (hd_NoUnit : PySem.W.hasDictIn K C_NoUnit = true) (ic_NoUnit : PySem.W.isClsIn K C_NoUnit = true) (ca_NoUnit : PySem.W.findIn K (.ref C_NoUnit) "__class__" = some (some (.builtin "object.__class__"))) (mo_NoUnit : PySem.W.mroIn K C_NoUnit (.type "object") = some true) (ty_NoUnit : PySem.W.typeIn K (.ref C_NoUnit) = some (.type "type")) (ss_NoUnit : PySem.W.subIn K (.ref C_NoUnit) (.ref C_NoUnit) = some true)
    (xsp : PySem.W.specialIn K (.builtin "object.__class__") "__get__" = some (some (.builtin "getset_descriptor.__get__"))) (xtk : PySem.W.takesIn K (.builtin "object.__class__") = some true)
    (xs_NoText_NoText : PySem.W.subIn K (.ref C_NoText) (.ref C_NoText) = some true)
    (xs_NoText_TraceError : PySem.W.subIn K (.ref C_NoText) (.ref C_TraceError) = some true)
    (xs_NoText_NoFlow : PySem.W.subIn K (.ref C_NoText) (.ref C_NoFlow) = some false)
    (xs_NoText_NoUnit : PySem.W.subIn K (.ref C_NoText) (.ref C_NoUnit) = some false)
    (xb_NoText_ValueError : PySem.W.subIn K (.ref C_NoText) (.type "ValueError") = some true)
    (xi_NoText : PySem.W.findIn K (.ref C_NoText) "__init__" = some (some (.ref f_NoText_init))) (xt_NoText : PySem.W.typeIn K (.ref f_NoText_init) = some (.type "function")) (xn_NoText : PySem.W.findIn K (.ref C_NoText) "row" = some none) (xk_NoText : PySem.W.keepIn K (.ref C_NoText) = true) (sa_NoText : PySem.W.findIn K (.ref C_NoText) "__setattr__" = some (some (.builtin "object.__setattr__")))
    (xl_NoText : K.lookup C_NoText = some (excClassObj xnm_NoText xqn_NoText C_NoText xN_NoText xbs_NoText xbm_NoText true xsn_NoText xsub_NoText xab_NoText xcol_NoText xdd_NoText x0_NoText x1_NoText x2_NoText x3_NoText x5_NoText "ValueError.__new__")) (xv_NoText : HandSPX.refsVE xbm_NoText = true)
    (l_NoText_init : K.lookup f_NoText_init = some ⟨oc_NoText_init, od_NoText_init, .func (PySem.W.fnOf "__init__" "NoText.__init__" (defArgs s_NoText_init) (defBody s_NoText_init) (defScope s_NoText_init) .none kV_NoText_init dc_NoText_init pm_NoText_init an_NoText_init cd_NoText_init ct_NoText_init), sl_NoText_init⟩) (c_NoText_init : PySem.W.codeIn K cd_NoText_init "NoText.__init__" = true) (k_NoText_init : PySem.W.keepIn K (.ref f_NoText_init) = true)
    (pg_Reading : PySem.W.plainGet K C_Reading Str.empty = true) (hd_Reading : PySem.W.hasDictIn K C_Reading = true) (po_Reading : PySem.W.plainOver K C_Reading = true) (sa_Reading : PySem.W.findIn K (.ref C_Reading) "__setattr__" = some (some (.builtin "object.__setattr__"))) (mk_Reading : PySem.W.makesIn K C_Reading = true) (kc_Reading : PySem.W.keepIn K (.ref C_Reading) = true)
    (no_Reading_found : PySem.W.findIn K (.ref C_Reading) "found" = some none)
    (no_Reading_last : PySem.W.findIn K (.ref C_Reading) "last" = some none)
    (n_abs : PySem.W.nsIn K mainGlobals "abs" = some none)
    (n_len : PySem.W.nsIn K mainGlobals "len" = some none)
    (n_all : PySem.W.nsIn K mainGlobals "all" = some none)
    (n_int : PySem.W.nsIn K mainGlobals "int" = some none)
    (n_tuple : PySem.W.nsIn K mainGlobals "tuple" = some none)
    (n_isinstance : PySem.W.nsIn K mainGlobals "isinstance" = some none)
    (n_str : PySem.W.nsIn K mainGlobals "str" = some none)
    (n_enumerate : PySem.W.nsIn K mainGlobals "enumerate" = some none)
    (n_ValueError : PySem.W.nsIn K mainGlobals "ValueError" = some none)
    (n_range : PySem.W.nsIn K mainGlobals "range" = some none)
    (v_MOST_FIGURES : PySem.W.nsIn K mainGlobals "MOST_FIGURES" = some (some (.int 5 t_MOST_FIGURES)))
    (v_FIGURES : PySem.W.nsIn K mainGlobals "FIGURES" = some (some (.str "0123456789" t_FIGURES)))
    : ∃ fd : FuncData, (∀ (s : Shared) (v : Value), BindsTo s fd ⟨[v], []⟩ [("script", v)]) ∧ ∀ base : Heap, K.In base → base.Ns mainGlobals mg → FnOk l.prog w K mg base CX0 7 fa fd ["script"] (liftSp K sp_law) := by
  have e := hfa.symm.trans (PySem.W.mg_of X G a_law)
  cases e
  exact ⟨_, fun s v => .of_eq rfl, fun base _ _ => letI : Zc := { cReading := C_Reading, cNoText := C_NoText, cTraceError := C_TraceError, cNoFlow := C_NoFlow, cNoUnit := C_NoUnit }; all_ok (T := { cl_Reading := ⟨pg_Reading, hd_Reading, po_Reading, sa_Reading⟩, gc_Reading := PySem.W.mg_of X G a_Reading, no_Reading_found := no_Reading_found, no_Reading_last := no_Reading_last, a__law_state := f__law_state, fd__law_state := _, F__law_state := fun_mk (st := s__law_state) l__law_state c__law_state k__law_state, g__law_state := PySem.W.mg_of X G a__law_state, a_Reading_init := f_Reading_init, fd_Reading_init := _, F_Reading_init := fun_mk (st := s_Reading_init) l_Reading_init c_Reading_init k_Reading_init, mk_Reading := ⟨mk_Reading, a_Reading_init, i_Reading_init, kc_Reading⟩, a_number_of := f_number_of, fd_number_of := _, F_number_of := fun_mk (st := s_number_of) l_number_of c_number_of k_number_of, g_number_of := PySem.W.mg_of X G a_number_of, a_numbers_of := f_numbers_of, fd_numbers_of := _, F_numbers_of := fun_mk (st := s_numbers_of) l_numbers_of c_numbers_of k_numbers_of, g_numbers_of := PySem.W.mg_of X G a_numbers_of, a_pair_of := f_pair_of, fd_pair_of := _, F_pair_of := fun_mk (st := s_pair_of) l_pair_of c_pair_of k_pair_of, g_pair_of := PySem.W.mg_of X G a_pair_of, a_Reading_take_row := f_Reading_take_row, fd_Reading_take_row := _, F_Reading_take_row := fun_mk (st := s_Reading_take_row) l_Reading_take_row c_Reading_take_row k_Reading_take_row, mt_Reading_take_row := ⟨a_Reading_take_row, i_Reading_take_row, k_Reading_take_row⟩, a_read_paper := f_read_paper, fd_read_paper := _, F_read_paper := fun_mk (st := s_read_paper) l_read_paper c_read_paper k_read_paper, g_read_paper := PySem.W.mg_of X G a_read_paper, a__law_tried := f__law_tried, fd__law_tried := _, F__law_tried := fun_mk (st := s__law_tried) l__law_tried c__law_tried k__law_tried, g__law_tried := PySem.W.mg_of X G a__law_tried, a__law_draw := f__law_draw, fd__law_draw := _, F__law_draw := fun_mk (st := s__law_draw) l__law_draw c__law_draw k__law_draw, g__law_draw := PySem.W.mg_of X G a__law_draw, a__law_text := f__law_text, fd__law_text := _, F__law_text := fun_mk (st := s__law_text) l__law_text c__law_text k__law_text, g__law_text := PySem.W.mg_of X G a__law_text, a__law_bent := f__law_bent, fd__law_bent := _, F__law_bent := fun_mk (st := s__law_bent) l__law_bent c__law_bent k__law_bent, g__law_bent := PySem.W.mg_of X G a__law_bent, a__law_numbers := f__law_numbers, fd__law_numbers := _, F__law_numbers := fun_mk (st := s__law_numbers) l__law_numbers c__law_numbers k__law_numbers, g__law_numbers := PySem.W.mg_of X G a__law_numbers, a__law_read := f__law_read, fd__law_read := _, F__law_read := fun_mk (st := s__law_read) l__law_read c__law_read k__law_read, g__law_read := PySem.W.mg_of X G a__law_read, a_law := fa, fd_law := _, F_law := fun_mk (st := s_law) l_law c_law k_law, g_law := PySem.W.mg_of X G a_law, gc_NoText := PySem.W.mg_of X G a_NoText, xf_NoText := ⟨ga_NoText, gg_NoText, sb_NoText, hd_NoText, ic_NoText, ca_NoText, xsp, xtk, mo_NoText, ty_NoText, ss_NoText⟩, gc_TraceError := PySem.W.mg_of X G a_TraceError, xf_TraceError := ⟨ga_TraceError, gg_TraceError, sb_TraceError, hd_TraceError, ic_TraceError, ca_TraceError, xsp, xtk, mo_TraceError, ty_TraceError, ss_TraceError⟩, gc_NoFlow := PySem.W.mg_of X G a_NoFlow, xf_NoFlow := ⟨ga_NoFlow, gg_NoFlow, sb_NoFlow, hd_NoFlow, ic_NoFlow, ca_NoFlow, xsp, xtk, mo_NoFlow, ty_NoFlow, ss_NoFlow⟩, gc_NoUnit := PySem.W.mg_of X G a_NoUnit, xf_NoUnit := ⟨ga_NoUnit, gg_NoUnit, sb_NoUnit, hd_NoUnit, ic_NoUnit, ca_NoUnit, xsp, xtk, mo_NoUnit, ty_NoUnit, ss_NoUnit⟩, xs_NoText_NoText := xs_NoText_NoText, xs_NoText_TraceError := xs_NoText_TraceError, xs_NoText_NoFlow := xs_NoText_NoFlow, xs_NoText_NoUnit := xs_NoText_NoUnit, xb_NoText_ValueError := xb_NoText_ValueError, a_NoText_init := f_NoText_init, fd_NoText_init := _, F_NoText_init := fun_mk (st := s_NoText_init) l_NoText_init c_NoText_init k_NoText_init, xo_NoText := ⟨⟨_, _, _, _, _, _, _, _, _, _, _, _, _, _, _, xl_NoText, xv_NoText⟩, sa_NoText, sb_NoText, ty_NoText, xk_NoText⟩, xi_NoText := xi_NoText, xt_NoText := xt_NoText, xn_NoText := xn_NoText, n_abs := PySem.W.mg_none_of X G n_abs, n_len := PySem.W.mg_none_of X G n_len, n_all := PySem.W.mg_none_of X G n_all, n_int := PySem.W.mg_none_of X G n_int, n_tuple := PySem.W.mg_none_of X G n_tuple, n_isinstance := PySem.W.mg_none_of X G n_isinstance, n_str := PySem.W.mg_none_of X G n_str, n_enumerate := PySem.W.mg_none_of X G n_enumerate, n_ValueError := PySem.W.mg_none_of X G n_ValueError, n_range := PySem.W.mg_none_of X G n_range, c_MOST_FIGURES := ⟨t_MOST_FIGURES, PySem.W.mg_of X G v_MOST_FIGURES⟩, c_FIGURES := ⟨t_FIGURES, PySem.W.mg_of X G v_FIGURES⟩ })⟩
end Lw
open PySem PySem.W PyProof.Rows
set_option maxRecDepth 100000 in
set_option maxHeartbeats 0 in
theorem PySem.Challenge.cw_onetrace_k86_texts_of_no_paper_holds : PySem.Challenge.rw_onetrace_k86_texts_of_no_paper.Holds := by
  w_on; o_law; k_head; (case hw => w_witness2)
  k_fill
  refine L2.walk_of (l := PySem.Challenge.rw_onetrace_k86_texts_of_no_paper) (n := 63) (k := 7) (x := "script") (CX := fun _ => L2.CX0) (sp := fun w => Tr.liftSp _ Lw.sp_law) rfl (by decide) rfl ⟨rfl, by decide, by decide⟩ (fun w h Y => PySem.W.kIn_of Y) ?F (fun _ _ _ _ hl _ hS => Tr.law_end (by decide) hl hS) (fun _ _ _ _ _ h => h)
  case F =>
    intro w mg fa h KX G hmg
    refine' Lw.all_mk KX G hmg ?a_Reading ?a__law_state ?l__law_state ?c__law_state ?k__law_state ?a_Reading_init ?i_Reading_init ?l_Reading_init ?c_Reading_init ?k_Reading_init ?a_number_of ?l_number_of ?c_number_of ?k_number_of ?a_numbers_of ?l_numbers_of ?c_numbers_of ?k_numbers_of ?a_pair_of ?l_pair_of ?c_pair_of ?k_pair_of ?a_Reading_take_row ?i_Reading_take_row ?l_Reading_take_row ?c_Reading_take_row ?k_Reading_take_row ?a_read_paper ?l_read_paper ?c_read_paper ?k_read_paper ?a__law_tried ?l__law_tried ?c__law_tried ?k__law_tried ?a__law_draw ?l__law_draw ?c__law_draw ?k__law_draw ?a__law_text ?l__law_text ?c__law_text ?k__law_text ?a__law_bent ?l__law_bent ?c__law_bent ?k__law_bent ?a__law_numbers ?l__law_numbers ?c__law_numbers ?k__law_numbers ?a__law_read ?l__law_read ?c__law_read ?k__law_read ?a_law ?l_law ?c_law ?k_law ?a_NoText ?ga_NoText ?gg_NoText ?sb_NoText ?hd_NoText ?ic_NoText ?ca_NoText ?mo_NoText ?ty_NoText ?ss_NoText ?a_TraceError ?ga_TraceError ?gg_TraceError ?sb_TraceError ?hd_TraceError ?ic_TraceError ?ca_TraceError ?mo_TraceError ?ty_TraceError ?ss_TraceError ?a_NoFlow ?ga_NoFlow ?gg_NoFlow ?sb_NoFlow ?hd_NoFlow ?ic_NoFlow ?ca_NoFlow ?mo_NoFlow ?ty_NoFlow ?ss_NoFlow ?a_NoUnit ?ga_NoUnit ?gg_NoUnit ?sb_NoUnit ?hd_NoUnit ?ic_NoUnit ?ca_NoUnit ?mo_NoUnit ?ty_NoUnit ?ss_NoUnit ?xsp ?xtk ?xs_NoText_NoText ?xs_NoText_TraceError ?xs_NoText_NoFlow ?xs_NoText_NoUnit ?xb_NoText_ValueError ?xi_NoText ?xt_NoText ?xn_NoText ?xk_NoText ?sa_NoText ?xl_NoText ?xv_NoText ?l_NoText_init ?c_NoText_init ?k_NoText_init ?pg_Reading ?hd_Reading ?po_Reading ?sa_Reading ?mk_Reading ?kc_Reading ?no_Reading_found ?no_Reading_last ?n_abs ?n_len ?n_all ?n_int ?n_tuple ?n_isinstance ?n_str ?n_enumerate ?n_ValueError ?n_range ?v_MOST_FIGURES ?v_FIGURES
    (case a_Reading => k_is); (case a__law_state => k_is); (case l__law_state => k_is); (case c__law_state => k_is); (case k__law_state => k_is); (case a_Reading_init => k_is); (case i_Reading_init => k_is); (case l_Reading_init => k_is); (case c_Reading_init => k_is); (case k_Reading_init => k_is); (case a_number_of => k_is); (case l_number_of => k_is); (case c_number_of => k_is); (case k_number_of => k_is); (case a_numbers_of => k_is); (case l_numbers_of => k_is); (case c_numbers_of => k_is); (case k_numbers_of => k_is); (case a_pair_of => k_is); (case l_pair_of => k_is); (case c_pair_of => k_is); (case k_pair_of => k_is); (case a_Reading_take_row => k_is); (case i_Reading_take_row => k_is); (case l_Reading_take_row => k_is); (case c_Reading_take_row => k_is); (case k_Reading_take_row => k_is); (case a_read_paper => k_is); (case l_read_paper => k_is); (case c_read_paper => k_is); (case k_read_paper => k_is); (case a__law_tried => k_is); (case l__law_tried => k_is); (case c__law_tried => k_is); (case k__law_tried => k_is); (case a__law_draw => k_is); (case l__law_draw => k_is); (case c__law_draw => k_is); (case k__law_draw => k_is); (case a__law_text => k_is); (case l__law_text => k_is); (case c__law_text => k_is); (case k__law_text => k_is); (case a__law_bent => k_is); (case l__law_bent => k_is); (case c__law_bent => k_is); (case k__law_bent => k_is); (case a__law_numbers => k_is); (case l__law_numbers => k_is); (case c__law_numbers => k_is); (case k__law_numbers => k_is); (case a__law_read => k_is); (case l__law_read => k_is); (case c__law_read => k_is); (case k__law_read => k_is); (case a_law => k_is); (case l_law => k_is); (case c_law => k_is); (case k_law => k_is); (case a_NoText => k_is); (case ga_NoText => k_is); (case gg_NoText => k_is); (case sb_NoText => k_is); (case hd_NoText => k_is); (case ic_NoText => k_is); (case ca_NoText => k_is); (case mo_NoText => k_is); (case ty_NoText => k_is); (case ss_NoText => k_is); (case a_TraceError => k_is); (case ga_TraceError => k_is); (case gg_TraceError => k_is); (case sb_TraceError => k_is); (case hd_TraceError => k_is); (case ic_TraceError => k_is); (case ca_TraceError => k_is); (case mo_TraceError => k_is); (case ty_TraceError => k_is); (case ss_TraceError => k_is); (case a_NoFlow => k_is); (case ga_NoFlow => k_is); (case gg_NoFlow => k_is); (case sb_NoFlow => k_is); (case hd_NoFlow => k_is); (case ic_NoFlow => k_is); (case ca_NoFlow => k_is); (case mo_NoFlow => k_is); (case ty_NoFlow => k_is); (case ss_NoFlow => k_is); (case a_NoUnit => k_is); (case ga_NoUnit => k_is); (case gg_NoUnit => k_is); (case sb_NoUnit => k_is); (case hd_NoUnit => k_is); (case ic_NoUnit => k_is); (case ca_NoUnit => k_is); (case mo_NoUnit => k_is); (case ty_NoUnit => k_is); (case ss_NoUnit => k_is); (case xsp => k_is); (case xtk => k_is); (case xs_NoText_NoText => k_is); (case xs_NoText_TraceError => k_is); (case xs_NoText_NoFlow => k_is); (case xs_NoText_NoUnit => k_is); (case xb_NoText_ValueError => k_is); (case xi_NoText => k_is); (case xt_NoText => k_is); (case xn_NoText => k_is); (case xk_NoText => k_is); (case sa_NoText => k_is); (case xl_NoText => k_is); (case xv_NoText => rfl); (case l_NoText_init => k_is); (case c_NoText_init => k_is); (case k_NoText_init => k_is); (case pg_Reading => k_is); (case hd_Reading => k_is); (case po_Reading => k_is); (case sa_Reading => k_is); (case mk_Reading => k_is); (case kc_Reading => k_is); (case no_Reading_found => k_is); (case no_Reading_last => k_is); (case n_abs => k_is); (case n_len => k_is); (case n_all => k_is); (case n_int => k_is); (case n_tuple => k_is); (case n_isinstance => k_is); (case n_str => k_is); (case n_enumerate => k_is); (case n_ValueError => k_is); (case n_range => k_is); (case v_MOST_FIGURES => k_is); (case v_FIGURES => k_is)
