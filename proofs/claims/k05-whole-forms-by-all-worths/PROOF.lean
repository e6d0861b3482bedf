import PyProof.Rows.All
import Wide.All
import OpenK.AllK
import Wide.FinOn
import HandS.ForMost
import HandS.TupAny
import HandS.TupLe
import HandS.Deep
import HandS.IsInst
import HandS.Wide
import HandS.Style
import HandS.Flow
import HandS.Zip
import HandS.SortRule
import KE.GoesNew
import HandS.TupMul
import HandS.Conv
import PyProof.ReprRoads
import HandS.Text
import HandS.More
import HandS.RaiseMore
import KE.KRevSl
import HandS.SortKw
import KE.GoesMore
import KE.KDictZip
import HandS.FStr
import HandS.StrMore
import PySem.Challenge.RW_onetrace_k05_whole_forms_by_all_worths
set_option Elab.async false
set_option linter.all false
set_option maxRecDepth 100000
set_option maxHeartbeats 1000000
/-! The tree layer: data D without addresses, owned things O, the environment, readings over them. -/
namespace Tr
open PySem PySem.Spec PyProof.Rows L2

/-- data that nobody changes any more -/
inductive D where
  | non
  | bl (b : Bool)
  | int (i : Int)
  | str (x : Str)
  | tup (ds : List D)
  | lst (ds : List D)
  | frl (ds : List D)
  | dct (kvs : List (Key × D))
  | dcT (kvs : List (List Key × D))
  | ins (C : Addr) (fs : List (Str × D))
  | ty (n : String)
  | al (a : Addr)
  deriving Inhabited

/-- what one def alone holds and may change; the address tells which -/
inductive O where
  | fz (d : D)
  | lst (a : Addr) (os : List O)
  | dct (a : Addr) (kvs : List (Key × D))
  | dcT (a : Addr) (kvs : List (List Key × D))
  | ins (a dx C : Addr) (fs : List (Str × O))
  deriving Inhabited

mutual
def O.frz : O → D
  | .fz d => d
  | .lst _ os => .lst (O.frzL os)
  | .dct _ kvs => .dct kvs
  | .dcT _ kvs => .dcT kvs
  | .ins _ _ C fs => .ins C (O.frzF fs)
def O.frzL : List O → List D
  | [] => []
  | o :: os => O.frz o :: O.frzL os
def O.frzF : List (Str × O) → List (Str × D)
  | [] => []
  | p :: ps => (p.1, O.frz p.2) :: O.frzF ps
end
mutual
def O.owned : O → List Addr
  | .fz _ => []
  | .lst a os => a :: O.ownedL os
  | .dct a _ => [a]
  | .dcT a _ => [a]
  | .ins a dx _ fs => a :: dx :: O.ownedF fs
def O.ownedL : List O → List Addr
  | [] => []
  | o :: os => O.owned o ++ O.ownedL os
def O.ownedF : List (Str × O) → List Addr
  | [] => []
  | p :: ps => O.owned p.2 ++ O.ownedF ps
end
@[simp] theorem O.frz_fz (d : D) : (O.fz d).frz = d := rfl
@[simp] theorem O.owned_fz (d : D) : (O.fz d).owned = [] := rfl
theorem O.frzL_map (ds : List D) : O.frzL (ds.map O.fz) = ds := by
  induction ds with
  | nil => rfl
  | cons d r ih =>
    show O.frz (O.fz d) :: O.frzL (r.map O.fz) = d :: r
    rw [ih]
    rfl
theorem O.ownedL_map (ds : List D) : O.ownedL (ds.map O.fz) = [] := by
  induction ds with
  | nil => rfl
  | cons d r ih =>
    show O.owned (O.fz d) ++ O.ownedL (r.map O.fz) = []
    rw [ih]
    rfl
theorem O.frzL_append (xs ys : List O) : O.frzL (xs ++ ys) = O.frzL xs ++ O.frzL ys := by
  induction xs with
  | nil => rfl
  | cons o r ih =>
    show O.frz o :: O.frzL (r ++ ys) = _
    rw [ih]
    rfl
theorem O.ownedL_append (xs ys : List O) : O.ownedL (xs ++ ys) = O.ownedL xs ++ O.ownedL ys := by
  induction xs with
  | nil => rfl
  | cons o r ih =>
    show O.owned o ++ O.ownedL (r ++ ys) = _
    rw [ih, ← List.append_assoc]
    rfl

/-! ### what stands for what -/
def KOk : Key → Prop
  | .inl _ => True
  | .inr x => x.length ≤ sizeLine
def KsOk (k : List Key) : Prop := k.length ≤ sizeLine ∧ ∀ j ∈ k, KOk j
mutual
/-- the value v stands for d, in the heap of what nobody changes -/
inductive Rep (K : PySem.W.Frag) (F : Hp) : V → D → Prop
  | non : Rep K F .non .non
  | bl (b : Bool) : Rep K F (.bl b) (.bl b)
  | int (i : Int) : Rep K F (.int i) (.int i)
  | str (x : Str) : x.length ≤ sizeLine → Rep K F (.str x) (.str x)
  | tup {a : Addr} {xs : List V} {ds : List D} : F a = some (.tup xs) → ds.length ≤ sizeLine → RepL K F xs ds → Rep K F (.ref a) (.tup ds)
  | lst {a : Addr} {xs : List V} {ds : List D} : F a = some (.lst xs) → ds.length ≤ sizeLine → RepL K F xs ds → Rep K F (.ref a) (.lst ds)
  | frl {a : Addr} {xs : List V} {ds : List D} : SqL K F a xs → ds.length ≤ sizeLine → RepL K F xs ds → Rep K F (.ref a) (.frl ds)
  | dct {a : Addr} {es : List (Key × V)} {kvs : List (Key × D)} : F a = some (.dK es) → kvs.length ≤ sizeLine → RepK K F es kvs → Rep K F (.ref a) (.dct kvs)
  | dcT {a : Addr} {es : List (List Key × V)} {kvs : List (List Key × D)} : F a = some (.dT es) → kvs.length ≤ sizeLine → RepT K F es kvs → Rep K F (.ref a) (.dcT kvs)
  | ins {a C dx : Addr} {es : List (Str × V)} {fs : List (Str × D)} : F a = some (.ins C dx es) → RepS K F es fs → Rep K F (.ref a) (.ins C fs)
  | ty (n : String) : Rep K F (.ty n) (.ty n)
  | al (a : Addr) : Rep K F (.ref a) (.al a)
inductive RepL (K : PySem.W.Frag) (F : Hp) : List V → List D → Prop
  | nil : RepL K F [] []
  | cons {v : V} {vs : List V} {d : D} {ds : List D} : Rep K F v d → RepL K F vs ds → RepL K F (v :: vs) (d :: ds)
inductive RepK (K : PySem.W.Frag) (F : Hp) : List (Key × V) → List (Key × D) → Prop
  | nil : RepK K F [] []
  | cons {k : Key} {v : V} {vs : List (Key × V)} {d : D} {ds : List (Key × D)} : KOk k → Rep K F v d → RepK K F vs ds → RepK K F ((k, v) :: vs) ((k, d) :: ds)
inductive RepT (K : PySem.W.Frag) (F : Hp) : List (List Key × V) → List (List Key × D) → Prop
  | nil : RepT K F [] []
  | cons {k : List Key} {v : V} {vs : List (List Key × V)} {d : D} {ds : List (List Key × D)} : KsOk k → Rep K F v d → RepT K F vs ds → RepT K F ((k, v) :: vs) ((k, d) :: ds)
inductive RepS (K : PySem.W.Frag) (F : Hp) : List (Str × V) → List (Str × D) → Prop
  | nil : RepS K F [] []
  | cons {k : Str} {v : V} {vs : List (Str × V)} {d : D} {ds : List (Str × D)} : Rep K F v d → RepS K F vs ds → RepS K F ((k, v) :: vs) ((k, d) :: ds)
end

abbrev Sub (F F' : Hp) : Prop := ∀ b o, F b = some o → F' b = some o
theorem sqT_sub {K : PySem.W.Frag} {F F' : Hp} {a : Addr} {xs : List V} (s : Sub F F') (h : SqT K F a xs) : SqT K F' a xs := by
  rcases h with (h | ⟨o, h⟩) | h
  · exact .inl (.inl (s _ _ h))
  · exact .inl (.inr ⟨o, s _ _ h⟩)
  · exact .inr h
theorem sqL_sub {K : PySem.W.Frag} {F F' : Hp} {a : Addr} {xs : List V} (s : Sub F F') (h : SqL K F a xs) : SqL K F' a xs := by
  rcases h with (h | ⟨o, h⟩) | h
  · exact .inl (.inl (s _ _ h))
  · exact .inl (.inr ⟨o, s _ _ h⟩)
  · exact .inr h
section
variable {K : PySem.W.Frag} {F F' : Hp}
mutual
theorem Rep.mono (s : Sub F F') : ∀ {v : V} {d : D}, Rep K F v d → Rep K F' v d
  | _, _, .non => .non
  | _, _, .bl b => .bl b
  | _, _, .int i => .int i
  | _, _, .str x h => .str x h
  | _, _, .tup h z r => .tup (s _ _ h) z (RepL.mono s r)
  | _, _, .lst h z r => .lst (s _ _ h) z (RepL.mono s r)
  | _, _, .frl h z r => .frl (sqL_sub s h) z (RepL.mono s r)
  | _, _, .dct h z r => .dct (s _ _ h) z (RepK.mono s r)
  | _, _, .dcT h z r => .dcT (s _ _ h) z (RepT.mono s r)
  | _, _, .ins h r => .ins (s _ _ h) (RepS.mono s r)
  | _, _, .ty n => .ty n
  | _, _, .al n => .al n
theorem RepL.mono (s : Sub F F') : ∀ {v : List V} {d : List D}, RepL K F v d → RepL K F' v d
  | _, _, .nil => .nil
  | _, _, .cons h r => .cons (Rep.mono s h) (RepL.mono s r)
theorem RepK.mono (s : Sub F F') : ∀ {v : List (Key × V)} {d : List (Key × D)}, RepK K F v d → RepK K F' v d
  | _, _, .nil => .nil
  | _, _, .cons q h r => .cons q (Rep.mono s h) (RepK.mono s r)
theorem RepT.mono (s : Sub F F') : ∀ {v : List (List Key × V)} {d : List (List Key × D)}, RepT K F v d → RepT K F' v d
  | _, _, .nil => .nil
  | _, _, .cons q h r => .cons q (Rep.mono s h) (RepT.mono s r)
theorem RepS.mono (s : Sub F F') : ∀ {v : List (Str × V)} {d : List (Str × D)}, RepS K F v d → RepS K F' v d
  | _, _, .nil => .nil
  | _, _, .cons h r => .cons (Rep.mono s h) (RepS.mono s r)
end
theorem RepL.length : ∀ {vs : List V} {ds : List D}, RepL K F vs ds → vs.length = ds.length
  | _, _, .nil => rfl
  | _, _, .cons _ r => congrArg (· + 1) (RepL.length r)
theorem RepL.get : ∀ {vs : List V} {ds : List D} {i : Nat} {d : D}, RepL K F vs ds → ds[i]? = some d → ∃ v, vs[i]? = some v ∧ Rep K F v d
  | _, _, _, _, .nil, e => by cases e
  | _, _, 0, _, .cons h _, e => by cases e; exact ⟨_, rfl, h⟩
  | _, _, i + 1, _, .cons _ r, e => RepL.get (i := i) r (by simpa using e)
theorem RepL.get' : ∀ {vs : List V} {ds : List D} {i : Nat} {v : V}, RepL K F vs ds → vs[i]? = some v → ∃ d, ds[i]? = some d ∧ Rep K F v d
  | _, _, _, _, .nil, e => by cases e
  | _, _, 0, _, .cons h _, e => by cases e; exact ⟨_, rfl, h⟩
  | _, _, i + 1, _, .cons _ r, e => RepL.get' (i := i) r (by simpa using e)
theorem RepL.append : ∀ {vs ws : List V} {ds es : List D}, RepL K F vs ds → RepL K F ws es → RepL K F (vs ++ ws) (ds ++ es)
  | _, _, _, _, .nil, s => s
  | _, _, _, _, .cons h r, s => .cons h (RepL.append r s)
theorem RepL.take : ∀ {vs : List V} {ds : List D} (n : Nat), RepL K F vs ds → RepL K F (vs.take n) (ds.take n)
  | _, _, 0, _ => .nil
  | _, _, _ + 1, .nil => .nil
  | _, _, n + 1, .cons h r => .cons h (RepL.take n r)
theorem RepL.drop : ∀ {vs : List V} {ds : List D} (n : Nat), RepL K F vs ds → RepL K F (vs.drop n) (ds.drop n)
  | _, _, 0, r => r
  | _, _, _ + 1, .nil => .nil
  | _, _, n + 1, .cons _ r => RepL.drop n r
end

mutual
/-- the value v stands for the owned thing o -/
inductive RepO (K : PySem.W.Frag) (F H : Hp) : V → O → Prop
  | fz {v : V} {d : D} : Rep K F v d → RepO K F H v (.fz d)
  | lst {a : Addr} {xs : List V} {os : List O} : H a = some (.lst xs) → os.length ≤ sizeLine → RepOL K F H xs os → RepO K F H (.ref a) (.lst a os)
  | dct {a : Addr} {es : List (Key × V)} {kvs : List (Key × D)} : H a = some (.dK es) → kvs.length ≤ sizeLine → RepK K F es kvs → RepO K F H (.ref a) (.dct a kvs)
  | dcT {a : Addr} {es : List (List Key × V)} {kvs : List (List Key × D)} : H a = some (.dT es) → kvs.length ≤ sizeLine → RepT K F es kvs → RepO K F H (.ref a) (.dcT a kvs)
  | ins {a C dx : Addr} {es : List (Str × V)} {fs : List (Str × O)} : H a = some (.ins C dx es) → H dx = some (.own a) → RepOS K F H es fs → RepO K F H (.ref a) (.ins a dx C fs)
inductive RepOL (K : PySem.W.Frag) (F H : Hp) : List V → List O → Prop
  | nil : RepOL K F H [] []
  | cons {v : V} {vs : List V} {d : O} {ds : List O} : RepO K F H v d → RepOL K F H vs ds → RepOL K F H (v :: vs) (d :: ds)
inductive RepOS (K : PySem.W.Frag) (F H : Hp) : List (Str × V) → List (Str × O) → Prop
  | nil : RepOS K F H [] []
  | cons {k : Str} {v : V} {vs : List (Str × V)} {d : O} {ds : List (Str × O)} : RepO K F H v d → RepOS K F H vs ds → RepOS K F H ((k, v) :: vs) ((k, d) :: ds)
end
section
variable {K : PySem.W.Frag} {F F' H H' : Hp}
mutual
theorem RepO.mono (s : Sub F F') : ∀ {v : V} {o : O}, (∀ a ∈ o.owned, ∀ u, H a = some u → H' a = some u) → RepO K F H v o → RepO K F' H' v o
  | _, _, _, .fz h => .fz (h.mono s)
  | _, .lst a os, k, .lst h z r => .lst (k _ (List.mem_cons_self) _ h) z (RepOL.mono s (fun b hb => k b (List.mem_cons_of_mem _ hb)) r)
  | _, .dct a kvs, k, .dct h z r => .dct (k _ (List.mem_cons_self) _ h) z (RepK.mono s r)
  | _, .dcT a kvs, k, .dcT h z r => .dcT (k _ (List.mem_cons_self) _ h) z (RepT.mono s r)
  | _, .ins a dx C fs, k, .ins h h2 r => .ins (k _ (List.mem_cons_self) _ h) (k _ (List.mem_cons_of_mem _ List.mem_cons_self) _ h2) (RepOS.mono s (fun b hb => k b (List.mem_cons_of_mem _ (List.mem_cons_of_mem _ hb))) r)
theorem RepOL.mono (s : Sub F F') : ∀ {v : List V} {o : List O}, (∀ a ∈ O.ownedL o, ∀ u, H a = some u → H' a = some u) → RepOL K F H v o → RepOL K F' H' v o
  | _, _, _, .nil => .nil
  | _, o :: os, k, .cons h r => .cons (RepO.mono s (fun b hb => k b (List.mem_append_left _ hb)) h) (RepOL.mono s (fun b hb => k b (List.mem_append_right _ hb)) r)
theorem RepOS.mono (s : Sub F F') : ∀ {v : List (Str × V)} {o : List (Str × O)}, (∀ a ∈ O.ownedF o, ∀ u, H a = some u → H' a = some u) → RepOS K F H v o → RepOS K F' H' v o
  | _, _, _, .nil => .nil
  | _, o :: os, k, .cons h r => .cons (RepO.mono s (fun b hb => k b (List.mem_append_left _ hb)) h) (RepOS.mono s (fun b hb => k b (List.mem_append_right _ hb)) r)
end
mutual
/-- what is owned stands in the heap -/
theorem RepO.there : ∀ {v : V} {o : O}, RepO K F H v o → ∀ a ∈ o.owned, ∃ u, H a = some u
  | _, .lst a os, .lst h z r, b, hb => by
    rcases List.mem_cons.mp hb with e | hb
    · subst e; exact ⟨_, h⟩
    · exact RepOL.there r b hb
  | _, .dct a kvs, .dct h z r, b, hb => by
    have e : b = a := by simpa [O.owned] using hb
    subst e; exact ⟨_, h⟩
  | _, .dcT a kvs, .dcT h z r, b, hb => by
    have e : b = a := by simpa [O.owned] using hb
    subst e; exact ⟨_, h⟩
  | _, .ins a dx C fs, .ins h h2 r, b, hb => by
    rcases List.mem_cons.mp hb with e | hb
    · subst e; exact ⟨_, h⟩
    · rcases List.mem_cons.mp hb with e | hb
      · subst e; exact ⟨_, h2⟩
      · exact RepOS.there r b hb
theorem RepOL.there : ∀ {v : List V} {o : List O}, RepOL K F H v o → ∀ a ∈ O.ownedL o, ∃ u, H a = some u
  | _, o :: os, .cons h r, b, hb => by
    rcases List.mem_append.mp hb with hb | hb
    · exact RepO.there h b hb
    · exact RepOL.there r b hb
theorem RepOS.there : ∀ {v : List (Str × V)} {o : List (Str × O)}, RepOS K F H v o → ∀ a ∈ O.ownedF o, ∃ u, H a = some u
  | _, o :: os, .cons h r, b, hb => by
    rcases List.mem_append.mp hb with hb | hb
    · exact RepO.there h b hb
    · exact RepOS.there r b hb
end
mutual
/-- .. and is not locked -/
theorem RepO.nofrz : ∀ {v : V} {o : O}, RepO K F H v o → ∀ a ∈ o.owned, ∀ ob u, H a ≠ some (.frz ob u)
  | _, .lst a os, .lst h z r, b, hb, ob, u => by
    rcases List.mem_cons.mp hb with e | hb
    · subst e; rw [h]; exact fun q => nomatch q
    · exact RepOL.nofrz r b hb ob u
  | _, .dct a kvs, .dct h z r, b, hb, ob, u => by
    have e : b = a := by simpa [O.owned] using hb
    subst e; rw [h]; exact fun q => nomatch q
  | _, .dcT a kvs, .dcT h z r, b, hb, ob, u => by
    have e : b = a := by simpa [O.owned] using hb
    subst e; rw [h]; exact fun q => nomatch q
  | _, .ins a dx C fs, .ins h h2 r, b, hb, ob, u => by
    rcases List.mem_cons.mp hb with e | hb
    · subst e; rw [h]; exact fun q => nomatch q
    · rcases List.mem_cons.mp hb with e | hb
      · subst e; rw [h2]; exact fun q => nomatch q
      · exact RepOS.nofrz r b hb ob u
theorem RepOL.nofrz : ∀ {v : List V} {o : List O}, RepOL K F H v o → ∀ a ∈ O.ownedL o, ∀ ob u, H a ≠ some (.frz ob u)
  | _, o :: os, .cons h r, b, hb, ob, u => by
    rcases List.mem_append.mp hb with hb | hb
    · exact RepO.nofrz h b hb ob u
    · exact RepOL.nofrz r b hb ob u
theorem RepOS.nofrz : ∀ {v : List (Str × V)} {o : List (Str × O)}, RepOS K F H v o → ∀ a ∈ O.ownedF o, ∀ ob u, H a ≠ some (.frz ob u)
  | _, o :: os, .cons h r, b, hb, ob, u => by
    rcases List.mem_append.mp hb with hb | hb
    · exact RepO.nofrz h b hb ob u
    · exact RepOS.nofrz r b hb ob u
end
mutual
/-- .. and is no tuple -/
theorem RepO.nt : ∀ {v : V} {o : O}, RepO K F H v o → ∀ a ∈ o.owned, ∀ u, H a ≠ some (.tup u)
  | _, .lst a os, .lst h z r, b, hb, u => by
    rcases List.mem_cons.mp hb with e | hb
    · subst e; rw [h]; exact fun q => nomatch q
    · exact RepOL.nt r b hb u
  | _, .dct a kvs, .dct h z r, b, hb, u => by
    have e : b = a := by simpa [O.owned] using hb
    subst e; rw [h]; exact fun q => nomatch q
  | _, .dcT a kvs, .dcT h z r, b, hb, u => by
    have e : b = a := by simpa [O.owned] using hb
    subst e; rw [h]; exact fun q => nomatch q
  | _, .ins a dx C fs, .ins h h2 r, b, hb, u => by
    rcases List.mem_cons.mp hb with e | hb
    · subst e; rw [h]; exact fun q => nomatch q
    · rcases List.mem_cons.mp hb with e | hb
      · subst e; rw [h2]; exact fun q => nomatch q
      · exact RepOS.nt r b hb u
theorem RepOL.nt : ∀ {v : List V} {o : List O}, RepOL K F H v o → ∀ a ∈ O.ownedL o, ∀ u, H a ≠ some (.tup u)
  | _, o :: os, .cons h r, b, hb, u => by
    rcases List.mem_append.mp hb with hb | hb
    · exact RepO.nt h b hb u
    · exact RepOL.nt r b hb u
theorem RepOS.nt : ∀ {v : List (Str × V)} {o : List (Str × O)}, RepOS K F H v o → ∀ a ∈ O.ownedF o, ∀ u, H a ≠ some (.tup u)
  | _, o :: os, .cons h r, b, hb, u => by
    rcases List.mem_append.mp hb with hb | hb
    · exact RepO.nt h b hb u
    · exact RepOS.nt r b hb u
end
theorem RepOL.length : ∀ {v : List V} {o : List O}, RepOL K F H v o → v.length = o.length
  | _, _, .nil => rfl
  | _, _, .cons _ r => congrArg (· + 1) (RepOL.length r)
mutual
/-- an owned thing let go: nobody changes it any more -/
theorem RepO.froz (s : Sub F F') : ∀ {v : V} {o : O}, (∀ a ∈ o.owned, ∀ u, H a = some u → F' a = some u) → RepO K F H v o → Rep K F' v o.frz
  | _, _, _, .fz h => h.mono s
  | _, .lst a os, k, .lst h z r => .lst (k _ (List.mem_cons_self) _ h) (by rw [← RepL.length (RepOL.froz s (fun b hb => k b (List.mem_cons_of_mem _ hb)) r), RepOL.length r]; exact z) (RepOL.froz s (fun b hb => k b (List.mem_cons_of_mem _ hb)) r)
  | _, .dct a kvs, k, .dct h z r => .dct (k _ (List.mem_cons_self) _ h) z (RepK.mono s r)
  | _, .dcT a kvs, k, .dcT h z r => .dcT (k _ (List.mem_cons_self) _ h) z (RepT.mono s r)
  | _, .ins a dx C fs, k, .ins h h2 r => .ins (k _ (List.mem_cons_self) _ h) (RepOS.froz s (fun b hb => k b (List.mem_cons_of_mem _ (List.mem_cons_of_mem _ hb))) r)
theorem RepOL.froz (s : Sub F F') : ∀ {v : List V} {o : List O}, (∀ a ∈ O.ownedL o, ∀ u, H a = some u → F' a = some u) → RepOL K F H v o → RepL K F' v (O.frzL o)
  | _, _, _, .nil => .nil
  | _, o :: os, k, .cons h r => .cons (RepO.froz s (fun b hb => k b (List.mem_append_left _ hb)) h) (RepOL.froz s (fun b hb => k b (List.mem_append_right _ hb)) r)
theorem RepOS.froz (s : Sub F F') : ∀ {v : List (Str × V)} {o : List (Str × O)}, (∀ a ∈ O.ownedF o, ∀ u, H a = some u → F' a = some u) → RepOS K F H v o → RepS K F' v (O.frzF o)
  | _, _, _, .nil => .nil
  | _, o :: os, k, .cons h r => .cons (RepO.froz s (fun b hb => k b (List.mem_append_left _ hb)) h) (RepOS.froz s (fun b hb => k b (List.mem_append_right _ hb)) r)
end
theorem RepOL.get : ∀ {vs : List V} {os : List O} {i : Nat} {o : O}, RepOL K F H vs os → os[i]? = some o → ∃ v, vs[i]? = some v ∧ RepO K F H v o
  | _, _, _, _, .nil, e => by cases e
  | _, _, 0, _, .cons h _, e => by cases e; exact ⟨_, rfl, h⟩
  | _, _, i + 1, _, .cons _ r, e => RepOL.get (i := i) r (by simpa using e)
theorem RepOL.append : ∀ {vs ws : List V} {ds es : List O}, RepOL K F H vs ds → RepOL K F H ws es → RepOL K F H (vs ++ ws) (ds ++ es)
  | _, _, _, _, .nil, s => s
  | _, _, _, _, .cons h r, s => .cons h (RepOL.append r s)
theorem RepOL.of : ∀ {vs : List V} {ds : List D}, RepL K F vs ds → RepOL K F H vs (ds.map O.fz)
  | _, _, .nil => .nil
  | _, _, .cons h r => .cons (.fz h) (RepOL.of r)
end

/-! ### the environment -/
abbrev TEnv := List (Option O)
def slotOwned : Option O → List Addr
  | none => []
  | some o => o.owned
def ownedE : TEnv → List Addr
  | [] => []
  | s :: r => slotOwned s ++ ownedE r
/-- the heap of what nobody changes within the heap: a dict may be locked while it is walked -/
def isDct : HO → Prop
  | .dK _ => True
  | .dT _ => True
  | _ => False
def isTupO : HO → Prop
  | .tup _ => True
  | _ => False
def Sb (F H : Hp) : Prop := ∀ b o, F b = some o → H b = some o ∨ ∃ ob, isDct o ∧ H b = some (.frz ob o)
structure SR (K : PySem.W.Frag) (ρ : TEnv) (σ : L2.St) (F H : Hp) : Prop where
  sub : Sb F H
  len : ρ.length = σ.length
  slot : ∀ (i : Nat) (o : O), ρ[i]? = some (some o) → ∃ v, σ[i]? = some (some v) ∧ RepO K F H v o
  own : ∀ a ∈ ownedE ρ, F a = none
  nd : (ownedE ρ).Nodup
/-- what an evaluation does to the heaps -/
structure Frm (L : List Addr) (F H : Hp) (L' : List Addr) (F' H' : Hp) : Prop where
  fz : Sub F F'
  out : ∀ b o, b ∉ L → ¬ isTupO o → F b = none → H b = some o → H' b = some o ∧ F' b = none
  new : ∀ b ∈ L', b ∈ L ∨ H b = none
  dom : ∀ b o, H b = some o → ∃ o', H' b = some o'
  lk : ∀ b o u, H b = some (.frz o u) → H' b = some (.frz o u)
theorem Frm.refl {L : List Addr} {F H : Hp} : Frm L F H L F H := ⟨fun _ _ h => h, fun _ _ _ _ n h => ⟨h, n⟩, fun _ h => .inl h, fun _ o h => ⟨o, h⟩, fun _ _ _ h => h⟩
theorem Frm.trans {L L1 L2 : List Addr} {F H F1 H1 F2 H2 : Hp} (a : Frm L F H L1 F1 H1) (b : Frm L1 F1 H1 L2 F2 H2) : Frm L F H L2 F2 H2 where
  fz := fun c o h => b.fz c o (a.fz c o h)
  out := fun c o n nt f h => by
    obtain ⟨h1, f1⟩ := a.out c o n nt f h
    refine b.out c o (fun hc => ?_) nt f1 h1
    rcases a.new c hc with z | z
    · exact n z
    · rw [h] at z; cases z
  new := fun c hc => by
    rcases b.new c hc with z | z
    · exact a.new c z
    · refine .inr ?_
      cases q : H c with
      | none => rfl
      | some o =>
        obtain ⟨o', e⟩ := a.dom c o q
        rw [z] at e; cases e
  dom := fun c o h => by
    obtain ⟨o', e⟩ := a.dom c o h
    exact b.dom c o' e
  lk := fun c o u h => b.lk c o u (a.lk c o u h)
theorem Frm.less {L L' L'' : List Addr} {F H F' H' : Hp} (a : Frm L F H L' F' H') (h : ∀ b ∈ L'', b ∈ L') : Frm L F H L'' F' H' := ⟨a.fz, a.out, fun b hb => a.new b (h b hb), a.dom, a.lk⟩

theorem mem_ownedE : ∀ {ρ : TEnv} {i : Nat} {o : O}, ρ[i]? = some (some o) → ∀ a ∈ o.owned, a ∈ ownedE ρ
  | [], _, _, e, _, _ => by cases e
  | s :: r, 0, o, e, a, h => by cases e; exact List.mem_append_left _ h
  | s :: r, i + 1, o, e, a, h => List.mem_append_right _ (mem_ownedE (ρ := r) (i := i) (by simpa using e) a h)
theorem of_ownedE : ∀ {ρ : TEnv} {a : Addr}, a ∈ ownedE ρ → ∃ (i : Nat) (o : O), ρ[i]? = some (some o) ∧ a ∈ o.owned
  | s :: r, a, h => by
    rcases List.mem_append.mp h with h | h
    · cases s with
      | none => cases h
      | some o => exact ⟨0, o, rfl, h⟩
    · obtain ⟨i, o, e, q⟩ := of_ownedE h
      exact ⟨i + 1, o, by simpa using e, q⟩
section
variable {K : PySem.W.Frag} {ρ : TEnv} {σ : L2.St} {F H F' H' : Hp}
theorem Sb.lst {a : Addr} {xs : List V} (s : Sb F H) (h : F a = some (.lst xs)) : H a = some (.lst xs) := by
  rcases s a _ h with z | ⟨_, e, _⟩
  · exact z
  · exact e.elim
theorem Sb.ins {a C dx : Addr} {xs : List (Str × V)} (s : Sb F H) (h : F a = some (.ins C dx xs)) : H a = some (.ins C dx xs) := by
  rcases s a _ h with z | ⟨_, e, _⟩
  · exact z
  · exact e.elim
theorem Sb.dK {a : Addr} {xs : List (Key × V)} (s : Sb F H) (h : F a = some (.dK xs)) : Rd H a (.dK xs) := by
  rcases s a _ h with z | ⟨ob, e, z⟩
  · exact .inl z
  · exact .inr ⟨ob, z⟩
theorem Sb.dT {a : Addr} {xs : List (List Key × V)} (s : Sb F H) (h : F a = some (.dT xs)) : Rd H a (.dT xs) := by
  rcases s a _ h with z | ⟨ob, e, z⟩
  · exact .inl z
  · exact .inr ⟨ob, z⟩
theorem Sb.tup {a : Addr} {xs : List V} (s : Sb F H) (h : F a = some (.tup xs)) : H a = some (.tup xs) := by
  rcases s a _ h with z | ⟨_, e, _⟩
  · exact z
  · exact e.elim
theorem Sb.sqT {a : Addr} {xs : List V} (s : Sb F H) (h : F a = some (.tup xs)) : SqT K H a xs := .inl (.inl (s.tup h))
theorem Sb.sqL {a : Addr} {xs : List V} (s : Sb F H) (h : SqL K F a xs) : SqL K H a xs := by
  rcases h with (h | ⟨o, h⟩) | h
  · rcases s a _ h with z | ⟨_, e, _⟩
    · exact .inl (.inl z)
    · exact e.elim
  · rcases s a _ h with z | ⟨_, e, _⟩
    · exact .inl (.inr ⟨o, z⟩)
    · exact e.elim
  · exact .inr h
theorem SR.thereE (s : SR K ρ σ F H) : ∀ a ∈ ownedE ρ, ∃ u, H a = some u := fun a ha => by
  obtain ⟨i, o, e, h⟩ := of_ownedE ha
  obtain ⟨v, _, r⟩ := s.slot i o e
  exact r.there a h
theorem Sb.free (s : Sb F H) {p : Addr} (h : H p = none) : F p = none := by
  cases q : F p with
  | none => rfl
  | some o =>
    rcases s p o q with z | ⟨_, _, z⟩ <;> rw [h] at z <;> cases z

theorem SR.ntE (s : SR K ρ σ F H) : ∀ a ∈ ownedE ρ, ∀ u, H a = some u → ¬ isTupO u := fun a ha u hu ht => by
  obtain ⟨i, o, e, h⟩ := of_ownedE ha
  obtain ⟨v, _, r⟩ := s.slot i o e
  cases u <;> first
    | exact ht
    | exact r.nt a h _ hu
/-- a temporary on top -/
theorem SR.push {o : O} {v : V} (s : SR K ρ σ F H) (r : RepO K F H v o) (h1 : ∀ a ∈ o.owned, F a = none) (h2 : (o.owned ++ ownedE ρ).Nodup) : SR K (some o :: ρ) (some v :: σ) F H where
  sub := s.sub
  len := by rw [List.length_cons, List.length_cons, s.len]
  slot := fun i u e => by
    cases i with
    | zero => cases e; exact ⟨v, rfl, r⟩
    | succ i => exact s.slot i u (by simpa using e)
  own := fun a ha => (List.mem_append.mp ha).elim (h1 a) (s.own a)
  nd := h2
theorem SR.pushD {d : D} {v : V} (s : SR K ρ σ F H) (r : Rep K F v d) : SR K (some (.fz d) :: ρ) (some v :: σ) F H :=
  s.push (.fz r) (fun _ h => by cases h) (by simpa using s.nd)
theorem SR.pop {t : Option O} {v : Option V} (s : SR K (t :: ρ) (v :: σ) F H) : SR K ρ σ F H where
  sub := s.sub
  len := by simpa using s.len
  slot := fun i u e => s.slot (i + 1) u (by simpa using e)
  own := fun a ha => s.own a (List.mem_append_right _ ha)
  nd := (List.nodup_append.mp s.nd).2.1
theorem SR.top {o : O} {v : V} (s : SR K (some o :: ρ) (some v :: σ) F H) : RepO K F H v o := by
  obtain ⟨w, e, r⟩ := s.slot 0 o rfl
  cases e
  exact r
theorem SR.topD {d : D} {v : V} (s : SR K (some (.fz d) :: ρ) (some v :: σ) F H) : Rep K F v d := by
  cases s.top with
  | fz h => exact h
/-- what stands outside stays: a temporary over an evaluation -/
theorem SR.frame {ρ' : TEnv} {σ' : L2.St} {o : Option O} {v : Option V} (s : SR K (o :: ρ) (v :: σ) F H) (s' : SR K ρ' σ' F' H') (f : Frm (ownedE ρ) F H (ownedE ρ') F' H') :
    SR K (o :: ρ') (v :: σ') F' H' ∧ Frm (ownedE (o :: ρ)) F H (ownedE (o :: ρ')) F' H' := by
  have ap := List.nodup_append.mp s.nd
  have key : ∀ a ∈ slotOwned o, ∀ u, H a = some u → H' a = some u ∧ F' a = none := fun a ha u e =>
    f.out a u (fun hb => ap.2.2 a ha a hb rfl) (s.ntE a (List.mem_append_left _ ha) u e) (s.own a (List.mem_append_left _ ha)) e
  have th : ∀ a ∈ slotOwned o, ∃ u, H a = some u := fun a ha => s.thereE a (List.mem_append_left _ ha)
  refine ⟨⟨s'.sub, by rw [List.length_cons, List.length_cons, s'.len], fun i u e => ?_, fun a ha => ?_, ?_⟩, f.fz, fun b u hb ht hf e => ?_, fun b hb => ?_, f.dom, f.lk⟩
  · cases i with
    | zero =>
      obtain ⟨w, e1, r⟩ := s.slot 0 u e
      refine ⟨w, e1, r.mono f.fz fun a ha x hx => (key a ?_ x hx).1⟩
      have e' : o = some u := by simpa using e
      rw [e']
      exact ha
    | succ i => exact s'.slot i u (by simpa using e)
  · rcases List.mem_append.mp ha with h | h
    · obtain ⟨u, e⟩ := th a h
      exact (key a h u e).2
    · exact s'.own a h
  · refine List.nodup_append.mpr ⟨ap.1, s'.nd, fun a ha b hb e => ?_⟩
    subst e
    obtain ⟨u, e⟩ := th a ha
    rcases f.new a hb with z | z
    · exact ap.2.2 a ha a z rfl
    · rw [e] at z; cases z
  · exact f.out b u (fun z => hb (List.mem_append_right _ z)) ht hf e
  · rcases List.mem_append.mp hb with h | h
    · exact .inl (List.mem_append_left _ h)
    · exact (f.new b h).imp (List.mem_append_right _) id
/-- nothing but what is new -/
abbrev Grow (F H F' H' : Hp) : Prop := Frm [] F H [] F' H'
theorem Frm.ofGrow {L : List Addr} (g : Grow F H F' H') : Frm L F H L F' H' := ⟨g.fz, fun b o _ => g.out b o (by simp), fun _ h => .inl h, g.dom, g.lk⟩
theorem SR.grow (s : SR K ρ σ F H) (g : Grow F H F' H') (sb : Sb F' H') : SR K ρ σ F' H' where
  sub := sb
  len := s.len
  slot := fun i o e => by
    obtain ⟨v, e1, r⟩ := s.slot i o e
    exact ⟨v, e1, r.mono g.fz fun a ha u hu => (g.out a u (by simp) (s.ntE a (mem_ownedE e a ha) u hu) (s.own a (mem_ownedE e a ha)) hu).1⟩
  own := fun a ha => by
    obtain ⟨u, e⟩ := s.thereE a ha
    exact (g.out a u (by simp) (s.ntE a ha u e) (s.own a ha) e).2
  nd := s.nd
/-- a new thing that nobody changes -/
theorem grow_new {p : Addr} {o : HO} (sb : Sb F H) (hp : H p = none) : Grow F H (upd F p o) (upd H p o) ∧ Sb (upd F p o) (upd H p o) := by
  have fp : F p = none := sb.free hp
  refine ⟨⟨fun b u h => ?_, fun b u _ _ hf h => ?_, fun _ h => (nomatch h), fun b u h => ?_, fun b u w h => by rw [upd_ne (ne_of_none h hp)]; exact h⟩, fun b u h => ?_⟩
  · rw [upd_ne (ne_of_none h fp)]; exact h
  · have ne := ne_of_none h hp
    rw [upd_ne ne, upd_ne ne]
    exact ⟨h, hf⟩
  · by_cases e : b = p
    · subst e; rw [hp] at h; cases h
    · exact ⟨u, by rw [upd_ne e]; exact h⟩
  · by_cases e : b = p
    · subst e
      rw [upd_same] at h ⊢
      exact .inl h
    · rw [upd_ne e] at h
      rw [upd_ne e]
      exact sb b u h
/-- a new thing that is owned -/
theorem SR.newO {p : Addr} {u : HO} {o : O} (s : SR K ρ σ F H) (hp : H p = none) (r : RepO K F (upd H p u) (.ref p) o) (ho : o.owned = [p]) :
    SR K (some o :: ρ) (some (.ref p) :: σ) F (upd H p u) ∧ Frm (ownedE ρ) F H (ownedE (some o :: ρ)) F (upd H p u) := by
  have fp : F p = none := s.sub.free hp
  have np : p ∉ ownedE ρ := fun h => by
    obtain ⟨w, e⟩ := s.thereE p h
    rw [hp] at e; cases e
  have sb : Sb F (upd H p u) := fun b w h => by
    rw [upd_ne (ne_of_none h fp)]
    exact s.sub b w h
  have g : Grow F H F (upd H p u) := ⟨fun _ _ h => h, fun b w _ _ hf h => ⟨by rw [upd_ne (ne_of_none h hp)]; exact h, hf⟩, fun _ h => (nomatch h), fun b w h => ⟨w, by rw [upd_ne (ne_of_none h hp)]; exact h⟩, fun b w x h => by rw [upd_ne (ne_of_none h hp)]; exact h⟩
  have s1 := s.grow g sb
  refine ⟨s1.push r (fun a ha => ?_) ?_, ⟨fun _ _ h => h, fun b w _ ht hf h => g.out b w (by simp) ht hf h, fun b hb => ?_, g.dom, g.lk⟩⟩
  · rw [ho] at ha
    have e : a = p := by simpa using ha
    subst e; exact fp
  · rw [ho]
    exact List.nodup_cons.mpr ⟨np, s.nd⟩
  · rcases List.mem_append.mp hb with h | h
    · have h : b ∈ o.owned := h
      rw [ho] at h
      have e : b = p := by simpa using h
      subst e; exact .inr hp
    · exact .inl h
/-- a key of a dict, told to be data -/
theorem SR.tupF {b : Addr} {xs : List V} (s : SR K ρ σ F H) (h : H b = some (.tup xs)) : ∃ F', SR K ρ σ F' H ∧ (∀ L, Frm L F H L F' H) ∧ F' b = some (.tup xs) ∧ Sub F F' := by
  cases hF : F b with
  | some o =>
    refine ⟨F, s, fun L => .refl, ?_, fun _ _ h => h⟩
    rcases s.sub b o hF with z | ⟨_, _, z⟩
    · rw [h] at z
      rw [hF, ← Option.some.inj z]
    · rw [h] at z
      cases z
  | none =>
    have su : Sub F (upd F b (.tup xs)) := fun c u e => by
      rw [upd_ne (ne_of_none e hF)]; exact e
    refine ⟨upd F b (.tup xs), ⟨fun c u e => ?_, s.len, fun i o e => ?_, fun a ha => ?_, s.nd⟩, fun L => ⟨su, fun c u _ nt hf e => ⟨e, ?_⟩, fun _ h => .inl h, fun _ o h => ⟨o, h⟩, fun _ _ _ h => h⟩, upd_same, su⟩
    · by_cases q : c = b
      · subst q
        rw [upd_same] at e
        rw [← Option.some.inj e]
        exact .inl h
      · rw [upd_ne q] at e
        exact s.sub c u e
    · obtain ⟨v, hv, r⟩ := s.slot i o e
      exact ⟨v, hv, r.mono su fun _ _ _ h => h⟩
    · by_cases q : a = b
      · subst q
        exact absurd True.intro (s.ntE a ha _ h)
      · rw [upd_ne q]
        exact s.own a ha
    · by_cases q : c = b
      · subst q
        rw [h] at e
        rw [← Option.some.inj e] at nt
        exact absurd True.intro nt
      · rw [upd_ne q]
        exact hf
/-- .. without slots -/
theorem Sb.tupF (K0 : PySem.W.Frag) {b : Addr} {xs : List V} (s : Sb F H) (h : H b = some (.tup xs)) : ∃ F', Sb F' H ∧ Grow F H F' H ∧ F' b = some (.tup xs) := by
  have s0 : SR K0 [] [] F H := ⟨s, rfl, fun _ _ e => (by cases e), fun _ h => (by cases h), List.nodup_nil⟩
  obtain ⟨F', s1, f, e, _⟩ := s0.tupF h
  exact ⟨F', s1.sub, f [], e⟩
/-- a dict locked -/
theorem SR.lock {d : Addr} {u : HO} {od : Obj} (s : SR K ρ σ F H) (hF : F d = some u) (hd : isDct u) (hH : H d = some u) : SR K ρ σ F (upd H d (.frz od u)) ∧ ∀ L, Frm L F H L F (upd H d (.frz od u)) := by
  refine ⟨⟨fun b w h => ?_, s.len, fun i o e => ?_, s.own, s.nd⟩, fun L => ⟨fun _ _ h => h, fun b w _ _ hf e => ⟨?_, hf⟩, fun _ h => .inl h, fun b w e => ?_, fun b w x h => ?_⟩⟩
  · by_cases q : b = d
    · subst q
      rw [hF] at h
      rw [← Option.some.inj h]
      exact .inr ⟨od, hd, upd_same⟩
    · rw [upd_ne q]
      exact s.sub b w h
  · obtain ⟨v, hv, r⟩ := s.slot i o e
    refine ⟨v, hv, r.mono (fun _ _ h => h) fun a ha w hw => ?_⟩
    rw [upd_ne (fun q => by subst q; rw [s.own _ (mem_ownedE e _ ha)] at hF; cases hF)]
    exact hw
  · rw [upd_ne (fun q => by subst q; rw [hf] at hF; cases hF)]
    exact e
  · by_cases q : b = d
    · subst q
      exact ⟨_, upd_same⟩
    · exact ⟨w, by rw [upd_ne q]; exact e⟩
  · rw [upd_ne (fun q => by subst q; rw [hH] at h; rw [Option.some.inj h] at hd; exact hd)]
    exact h
/-- let go -/
theorem SR.froz {o : O} {v : V} (s : SR K (some o :: ρ) (some v :: σ) F H) : ∃ F', SR K (some (.fz o.frz) :: ρ) (some v :: σ) F' H ∧ Frm (ownedE (some o :: ρ)) F H (ownedE ρ) F' H := by
  have ap := List.nodup_append.mp s.nd
  have fF : ∀ b u, F b = some u → b ∉ o.owned := fun b u h hb => by
    rw [s.own b (List.mem_append_left _ hb)] at h; cases h
  have so : Sub F (fun b => if b ∈ o.owned then H b else F b) := fun b u h => by
    show (if b ∈ o.owned then H b else F b) = some u
    rw [if_neg (fF b u h)]; exact h
  have r := s.top
  have s0 := s.pop
  have sb : Sb (fun b => if b ∈ o.owned then H b else F b) H := fun b u h => by
    have h : (if b ∈ o.owned then H b else F b) = some u := h
    split at h
    · exact .inl h
    · exact s.sub b u h
  have s1 : SR K ρ σ (fun b => if b ∈ o.owned then H b else F b) H := by
    refine ⟨sb, s0.len, fun i w e => ?_, fun a ha => ?_, s0.nd⟩
    · obtain ⟨x, e1, q⟩ := s0.slot i w e
      exact ⟨x, e1, q.mono so fun _ _ _ h => h⟩
    · show (if a ∈ o.owned then H a else F a) = none
      rw [if_neg (fun z : a ∈ o.owned => ap.2.2 a z a ha rfl)]
      exact s0.own a ha
  refine ⟨fun b => if b ∈ o.owned then H b else F b, s1.pushD (r.froz so fun a ha u e => ?_), so, fun b u hb _ hf e => ⟨e, ?_⟩, fun b hb => .inl (List.mem_append_right _ hb), fun b u e => ⟨u, e⟩, fun _ _ _ h => h⟩
  · show (if a ∈ o.owned then H a else F a) = some u
    rw [if_pos ha]; exact e
  · show (if b ∈ o.owned then H b else F b) = none
    rw [if_neg (fun z : b ∈ o.owned => hb (List.mem_append_left _ z))]; exact hf
end
end Tr
/-! The tree layer: readings of expressions. -/
namespace Tr
open PySem PySem.Spec PyProof.Rows L2

/-! ### slots -/
def nth : TEnv → Nat → Option O
  | [], _ => none
  | s :: _, 0 => s
  | _ :: r, i + 1 => nth r i
def put : TEnv → Nat → Option O → TEnv
  | [], _, _ => []
  | _ :: r, 0, o => o :: r
  | s :: r, i + 1, o => s :: put r i o
/-- the slots behind a store, written out at once -/
def putC : TEnv → Nat → Option O → (TEnv → Prop) → Prop
  | [], _, _, k => k []
  | _ :: r, 0, o, k => k (o :: r)
  | s :: r, i + 1, o, k => putC r i o fun r' => k (s :: r')
theorem putC_eq : ∀ (ρ : TEnv) (i : Nat) (o : Option O) (k : TEnv → Prop), putC ρ i o k = k (ρ.set i o)
  | [], _, _, _ => rfl
  | _ :: _, 0, _, _ => rfl
  | s :: r, i + 1, o, k => putC_eq r i o fun r' => k (s :: r')
def frzC (o : O) (k : D → Prop) : Prop := match o with
  | .fz d => k d
  | .lst _ os => k (.lst (O.frzL os))
  | .dct _ kvs => k (.dct kvs)
  | .dcT _ kvs => k (.dcT kvs)
  | .ins _ _ C fs => k (.ins C (O.frzF fs))
theorem frzC_eq (o : O) (k : D → Prop) : frzC o k = k o.frz := by cases o <;> rfl
theorem nth_eq : ∀ {ρ : TEnv} {i : Nat} {o : O}, nth ρ i = some o → ρ[i]? = some (some o)
  | [], _, _, h => by cases h
  | s :: r, 0, o, h => by
    have h : s = some o := h
    rw [h]
    rfl
  | s :: r, i + 1, o, h => by
    rw [List.getElem?_cons_succ]
    exact nth_eq (ρ := r) h
theorem put_eq : ∀ (ρ : TEnv) (i : Nat) (o : Option O), put ρ i o = ρ.set i o
  | [], _, _ => rfl
  | _ :: _, 0, _ => rfl
  | s :: r, i + 1, o => congrArg (s :: ·) (put_eq r i o)

theorem ownedE_set : ∀ (ρ : TEnv) (i : Nat) (t : Option O), i < ρ.length → (ownedE (ρ.set i t)).Perm (slotOwned t ++ ownedE (ρ.set i none))
  | [], _, _, h => absurd h (Nat.not_lt_zero _)
  | s :: r, 0, t, _ => List.Perm.refl _
  | s :: r, i + 1, t, h => by
    have ih := ownedE_set r i t (Nat.lt_of_succ_lt_succ h)
    show (slotOwned s ++ ownedE (r.set i t)).Perm (slotOwned t ++ (slotOwned s ++ ownedE (r.set i none)))
    refine (List.Perm.append_left _ ih).trans ?_
    rw [← List.append_assoc, ← List.append_assoc]
    exact List.Perm.append_right _ List.perm_append_comm
theorem set_getElem : ∀ {ρ : TEnv} {i : Nat} {s : Option O}, ρ[i]? = some s → ρ.set i s = ρ
  | [], _, _, h => by cases h
  | x :: r, 0, s, h => by cases h; rfl
  | x :: r, i + 1, s, h => congrArg (x :: ·) (set_getElem (ρ := r) (by simpa using h))
theorem set_getElemV : ∀ {ρ : L2.St} {i : Nat} {s : Option V}, ρ[i]? = some s → ρ.set i s = ρ
  | [], _, _, h => by cases h
  | x :: r, 0, s, h => by cases h; rfl
  | x :: r, i + 1, s, h => congrArg (x :: ·) (set_getElemV (ρ := r) (by simpa using h))
theorem Frm.iff {L L1 L' L1' : List Addr} {F H F' H' : Hp} (f : Frm L F H L' F' H') (h : ∀ b, b ∈ L1 ↔ b ∈ L) (h' : ∀ b, b ∈ L1' → b ∈ L') : Frm L1 F H L1' F' H' :=
  ⟨f.fz, fun b o n => f.out b o (fun z => n ((h b).mpr z)), fun b hb => (f.new b (h' b hb)).imp (h b).mpr id, f.dom, f.lk⟩
section
variable {K : PySem.W.Frag} {ρ : TEnv} {σ : L2.St} {F H : Hp}
/-- a slot's thing as a temporary -/
theorem SR.take {i : Nat} {o : O} (s : SR K ρ σ F H) (e : ρ[i]? = some (some o)) : ∃ v, σ[i]? = some (some v) ∧ SR K (some o :: ρ.set i none) (some v :: σ) F H ∧ ∀ b, b ∈ ownedE ρ ↔ b ∈ ownedE (some o :: ρ.set i none) := by
  obtain ⟨v, hv, r⟩ := s.slot i o e
  have hi : i < ρ.length := by
    by_cases h : i < ρ.length
    · exact h
    · rw [List.getElem?_eq_none (Nat.le_of_not_lt h)] at e; cases e
  have p := ownedE_set ρ i (some o) hi
  rw [set_getElem e] at p
  refine ⟨v, hv, ⟨s.sub, by simpa using s.len, fun j u q => ?_, fun a ha => s.own a (p.mem_iff.mpr ha), p.nodup_iff.mp s.nd⟩, fun b => p.mem_iff⟩
  cases j with
  | zero => cases q; exact ⟨v, rfl, r⟩
  | succ j =>
    have q : (ρ.set i none)[j]? = some (some u) := q
    by_cases hj : i = j
    · subst hj
      rw [List.getElem?_set_self hi] at q; cases q
    · rw [List.getElem?_set_ne hj] at q
      exact s.slot j u q
/-- a temporary stored -/
theorem SR.store {i : Nat} {o : Option O} {v : Option V} (s : SR K (o :: ρ) (v :: σ) F H) : SR K (ρ.set i o) (σ.set i v) F H ∧ ∀ b, b ∈ ownedE (ρ.set i o) → b ∈ ownedE (o :: ρ) := by
  have le : ρ.length = σ.length := by simpa using s.len
  by_cases hi : i < ρ.length
  · have p := ownedE_set ρ i o hi
    have sub : ∀ b, b ∈ ownedE (ρ.set i none) → b ∈ ownedE ρ := fun b hb => by
      obtain ⟨j, u, e, h⟩ := of_ownedE hb
      by_cases hj : i = j
      · subst hj
        rw [List.getElem?_set_self hi] at e; cases e
      · rw [List.getElem?_set_ne hj] at e
        exact mem_ownedE e b h
    have mem : ∀ b, b ∈ ownedE (ρ.set i o) → b ∈ ownedE (o :: ρ) := fun b hb => by
      rcases List.mem_append.mp (p.mem_iff.mp hb) with h | h
      · exact List.mem_append_left _ h
      · exact List.mem_append_right _ (sub b h)
    have sl : ∀ (r : TEnv) (j : Nat), (ownedE (r.set j none)).Sublist (ownedE r) := by
      intro r
      induction r with
      | nil => intro j; exact List.Sublist.refl _
      | cons x r ih =>
        intro j
        cases j with
        | zero => exact List.sublist_append_right _ _
        | succ j => exact List.Sublist.append_left (ih j) _
    have nd := List.nodup_append.mp s.nd
    refine ⟨⟨s.sub, by simp [le], fun j u e => ?_, fun a ha => s.own a (mem a ha), p.nodup_iff.mpr (List.nodup_append.mpr ⟨nd.1, nd.2.1.sublist (sl ρ i), fun a ha b hb => nd.2.2 a ha b (sub b hb)⟩)⟩, mem⟩
    by_cases hj : i = j
    · subst hj
      rw [List.getElem?_set_self hi] at e
      obtain ⟨w, e1, r⟩ := s.slot 0 u (by simpa using e)
      refine ⟨w, ?_, r⟩
      rw [List.getElem?_set_self (by omega)]
      simpa using e1
    · rw [List.getElem?_set_ne hj] at e ⊢
      exact s.slot (j + 1) u (by simpa using e)
  · rw [List.set_eq_of_length_le (by omega), List.set_eq_of_length_le (by omega)]
    exact ⟨s.pop, fun b hb => List.mem_append_right _ hb⟩
/-- a slot's thing let go -/
theorem SR.let {i : Nat} {o : O} (s : SR K ρ σ F H) (e : ρ[i]? = some (some o)) : ∃ F' v, σ[i]? = some (some v) ∧ SR K (ρ.set i (some (.fz o.frz))) σ F' H ∧ Rep K F' v o.frz ∧ Frm (ownedE ρ) F H (ownedE (ρ.set i (some (.fz o.frz)))) F' H := by
  obtain ⟨v, hv, s1, m1⟩ := s.take e
  obtain ⟨F', s2, f2⟩ := s1.froz
  obtain ⟨s3, m3⟩ := s2.store (i := i)
  rw [set_getElemV hv, List.set_set] at s3
  refine ⟨F', v, hv, s3, s2.topD, ?_⟩
  refine f2.iff m1 fun b hb => ?_
  have := m3 b
  rw [List.set_set] at this
  rcases List.mem_append.mp (this hb) with h | h
  · cases h
  · exact h
end

/-! ### readings over trees -/
abbrev WD := TEnv → (D → TEnv → Prop) → Prop
abbrev WO := TEnv → (O → TEnv → Prop) → Prop
abbrev WT := TEnv → (Bool → TEnv → Prop) → Prop
abbrev WL := TEnv → (List D → TEnv → Prop) → Prop
def liftD (K : PySem.W.Frag) (w : WD) : TE := fun σ H Q => ∃ ρ F P, SR K ρ σ F H ∧ w ρ P ∧
  ∀ d ρ' F' H' v, P d ρ' → SR K ρ' σ F' H' → Rep K F' v d → Frm (ownedE ρ) F H (ownedE ρ') F' H' → Q v H'
def liftO (K : PySem.W.Frag) (w : WO) : TE := fun σ H Q => ∃ ρ F P, SR K ρ σ F H ∧ w ρ P ∧
  ∀ o ρ' F' H' v, P o ρ' → SR K (some o :: ρ') (some v :: σ) F' H' → Frm (ownedE ρ) F H (ownedE (some o :: ρ')) F' H' → Q v H'
/-- read while it stands: F'' has what is owned, too -/
def liftB (K : PySem.W.Frag) (w : WD) : TE := fun σ H Q => ∃ ρ F P, SR K ρ σ F H ∧ w ρ P ∧
  ∀ d ρ' F' F'' H' v, P d ρ' → SR K ρ' σ F' H' → Sb F'' H' → Sub F' F'' → Rep K F'' v d → Frm (ownedE ρ) F H (ownedE ρ') F' H' → Q v H'
def liftT (K : PySem.W.Frag) (w : WT) : TT := fun σ H Q => ∃ ρ F P, SR K ρ σ F H ∧ w ρ P ∧
  ∀ b ρ' F' H', P b ρ' → SR K ρ' σ F' H' → Frm (ownedE ρ) F H (ownedE ρ') F' H' → Q b H'
def liftA (K : PySem.W.Frag) (w : WL) : TA := fun σ H Q => ∃ ρ F P, SR K ρ σ F H ∧ w ρ P ∧
  ∀ ds ρ' F' H' vs, P ds ρ' → SR K ρ' σ F' H' → RepL K F' vs ds → Frm (ownedE ρ) F H (ownedE ρ') F' H' → Q vs H'
structure XE (X : Cx) (e : Expr) (w : WD) : Prop where
  pe : PE X e (liftD X.K w)
structure XO (X : Cx) (e : Expr) (w : WO) : Prop where
  pe : PE X e (liftO X.K w)
structure XB (X : Cx) (e : Expr) (w : WD) : Prop where
  pe : PE X e (liftB X.K w)
structure XT (X : Cx) (e : Expr) (w : WT) : Prop where
  pt : PT X e (liftT X.K w)
structure XA (X : Cx) (es : List Expr) (w : WL) : Prop where
  pa : PA X es (liftA X.K w)
theorem PE.imp {X : Cx} {e : Expr} {t t' : TE} (h : PE X e t) (i : ∀ σ H Q, t' σ H Q → t σ H Q) : PE X e t' := ⟨fun pins s σ H Q I hw => h.run pins s σ H Q I (i _ _ _ hw)⟩
theorem PT.imp {X : Cx} {e : Expr} {t t' : TT} (h : PT X e t) (i : ∀ σ H Q, t' σ H Q → t σ H Q) : PT X e t' := ⟨fun pins s σ H Q I hw => h.run pins s σ H Q I (i _ _ _ hw)⟩
theorem PA.imp {X : Cx} {e : List Expr} {t t' : TA} (h : PA X e t) (i : ∀ σ H Q, t' σ H Q → t σ H Q) : PA X e t' := ⟨fun pos pins s σ H Q I hw => h.run pos pins s σ H Q I (i _ _ _ hw)⟩

/-- what an operation on values makes: o at v -/
def Res (K : PySem.W.Frag) (F H : Hp) (o : O) (v : V) (F' H' : Hp) : Prop :=
  ∀ ρ σ, SR K ρ σ F H → SR K (some o :: ρ) (some v :: σ) F' H' ∧ Frm (ownedE ρ) F H (ownedE (some o :: ρ)) F' H'
theorem Res.fz {K : PySem.W.Frag} {F H : Hp} {d : D} {v : V} (r : Rep K F v d) : Res K F H (.fz d) v F H := fun _ _ s => ⟨s.pushD r, Frm.refl⟩
theorem Res.grow {K : PySem.W.Frag} {F H F' H' : Hp} {d : D} {v : V} (g : Grow F H F' H') (sb : Sb F' H') (r : Rep K F' v d) : Res K F H (.fz d) v F' H' :=
  fun _ _ s => ⟨(s.grow g sb).pushD r, .ofGrow g⟩
theorem Res.lst {K : PySem.W.Frag} {F H : Hp} {p : Addr} {xs : List V} {ds : List D} (hp : H p = none) (z : ds.length ≤ sizeLine) (r : RepL K F xs ds) :
    Res K F H (.lst p (ds.map .fz)) (.ref p) F (upd H p (.lst xs)) := fun _ _ s =>
  s.newO hp (.lst upd_same (by rw [List.length_map]; exact z) (.of r)) (by show p :: O.ownedL (ds.map O.fz) = [p]; rw [O.ownedL_map])
theorem Res.tup {K : PySem.W.Frag} {F H : Hp} {p : Addr} {xs : List V} {ds : List D} (sb : Sb F H) (hp : H p = none) (z : ds.length ≤ sizeLine) (r : RepL K F xs ds) :
    Res K F H (.fz (.tup ds)) (.ref p) (upd F p (.tup xs)) (upd H p (.tup xs)) := by
  obtain ⟨g, sb'⟩ := grow_new (o := .tup xs) sb hp
  exact Res.grow g sb' (.tup upd_same z (r.mono g.fz))
/-- the readings of a two-place operation and of one over trees go together -/
def SemR (K : PySem.W.Frag) (r : R2) (sem : D → D → (O → Prop) → Prop) : Prop :=
  ∀ (F H : Hp) (x y : V) (d e : D) (P : O → Prop) (Q : VK), Sb F H → Rep K F x d → Rep K F y e → sem d e P → (∀ o v F' H', P o → Res K F H o v F' H' → Q v H') → r x y H Q
/-- .. whose answer is no object -/
def SemS (K : PySem.W.Frag) (r : R2) (sem : D → D → (D → Prop) → Prop) : Prop :=
  ∀ (F H : Hp) (x y : V) (d e : D) (P : D → Prop) (Q : VK), Sb F H → Rep K F x d → Rep K F y e → sem d e P → (∀ u v, P u → (∀ G, Rep K G v u) → Q v H) → r x y H Q
def SemC (K : PySem.W.Frag) (r : List V → Hp → VK → Prop) (sem : List D → (O → Prop) → Prop) : Prop :=
  ∀ (F H : Hp) (xs : List V) (ds : List D) (P : O → Prop) (Q : VK), Sb F H → RepL K F xs ds → sem ds P → (∀ o v F' H', P o → Res K F H o v F' H' → Q v H') → r xs H Q
def SemC1 (K : PySem.W.Frag) (r : List V → Hp → VK → Prop) (sem : D → (D → Prop) → Prop) : Prop :=
  ∀ (F H : Hp) (x : V) (d : D) (P : D → Prop) (Q : VK), Sb F H → Rep K F x d → sem d P → (∀ u v, P u → (∀ G, Rep K G v u) → Q v H) → r [x] H Q

/-! ### names, constants, changes of form -/
def wVar (i : Nat) : WD := fun ρ P => match nth ρ i with
  | some (.fz d) => P d ρ
  | some o => frzC o fun d => putC ρ i (some (.fz d)) (P d)
  | none => False
def wLook (i : Nat) : WD := fun ρ P => match nth ρ i with
  | some o => frzC o fun d => P d ρ
  | none => False
def wC (d : D) : WD := fun ρ P => P d ρ
def wFrz (w : WO) : WD := fun ρ P => w ρ fun o ρ' => frzC o fun d => P d ρ'
def wFz (w : WD) : WO := fun ρ P => w ρ fun d ρ' => P (.fz d) ρ'
section
variable {X : Cx} {e : Expr} {pos : Pos}
theorem xe_pv {i : Nat} (h : PE X e (tVar i)) : XE X e (wVar i) := ⟨PE.imp h fun σ H Q ⟨ρ, F, P, s, w, k⟩ => by
  unfold wVar at w
  cases hn : nth ρ i with
  | none => rw [hn] at w; exact w.elim
  | some o =>
    rw [hn] at w
    have e1 := nth_eq hn
    have gen : P o.frz (ρ.set i (some (.fz o.frz))) → tVar i σ H Q := fun p => by
      obtain ⟨F', v, hv, s', r, f⟩ := s.let e1
      exact ⟨v, hv, k _ _ _ _ _ p s' r f⟩
    cases o with
    | fz d =>
      obtain ⟨v, hv, r⟩ := s.slot i _ e1
      cases r with
      | fz r => exact ⟨v, hv, k _ _ _ _ _ w s r .refl⟩
    | lst a os => exact gen (by rw [← putC_eq ρ i _ (P _)]; exact w)
    | dct a os => exact gen (by rw [← putC_eq ρ i _ (P _)]; exact w)
    | dcT a os => exact gen (by rw [← putC_eq ρ i _ (P _)]; exact w)
    | ins a b c os => exact gen (by rw [← putC_eq ρ i _ (P _)]; exact w)⟩
theorem xb_pv {i : Nat} (h : PE X e (tVar i)) : XB X e (wLook i) := ⟨PE.imp h fun σ H Q ⟨ρ, F, P, s, w, k⟩ => by
  unfold wLook at w
  cases hn : nth ρ i with
  | none => rw [hn] at w; exact w.elim
  | some o =>
    rw [hn] at w
    have e1 := nth_eq hn
    obtain ⟨F', v, hv, s', r, f⟩ := s.let e1
    have w : frzC o (fun d => P d ρ) := w
    rw [frzC_eq] at w
    exact ⟨v, hv, k _ _ _ F' _ _ w s s'.sub f.fz r .refl⟩⟩
theorem xe_c {d : D} {v : V} (h : PE X e (tC v)) (r : ∀ K G, Rep K G v d) : XE X e (wC d) := ⟨PE.imp h fun σ H Q ⟨ρ, F, P, s, w, k⟩ => k _ _ _ _ _ w s (r _ _) .refl⟩
theorem xe_int {i : Int} {j} : XE X (.Constant (.int i) j pos) (wC (.int i)) := xe_c pe_int fun _ _ => .int i
theorem xe_bl {b : Bool} {j} : XE X (.Constant (.bool b) j pos) (wC (.bl b)) := xe_c pe_bl fun _ _ => .bl b
theorem xe_non {j} : XE X (.Constant .none j pos) (wC .non) := xe_c pe_non fun _ _ => .non
theorem xe_str {x : Str} {j} (h : x.length ≤ sizeLine := by decide +kernel) : XE X (.Constant (.str x) j pos) (wC (.str x)) := xe_c pe_str fun _ _ => .str x h
theorem XO.toE {w : WO} (h : XO X e w) : XE X e (wFrz w) := ⟨PE.imp h.pe fun σ H Q ⟨ρ, F, P, s, hw, k⟩ =>
  ⟨ρ, F, _, s, hw, fun o ρ' F' H' v p s' f => by
    obtain ⟨F2, s2, f2⟩ := s'.froz
    rw [frzC_eq] at p
    exact k _ _ _ _ _ p s2.pop s2.topD (f.trans f2)⟩⟩
theorem XE.toO {w : WD} (h : XE X e w) : XO X e (wFz w) := ⟨PE.imp h.pe fun σ H Q ⟨ρ, F, P, s, hw, k⟩ =>
  ⟨ρ, F, _, s, hw, fun d ρ' F' H' v p s' r f => k _ _ _ _ _ p (s'.pushD r) f⟩⟩
theorem XE.toB {w : WD} (h : XE X e w) : XB X e w := ⟨PE.imp h.pe fun σ H Q ⟨ρ, F, P, s, hw, k⟩ =>
  ⟨ρ, F, _, s, hw, fun d ρ' F' H' v p s' r f => k _ _ _ _ _ _ p s' s'.sub (fun _ _ h => h) r f⟩⟩
end

/-! ### two operands -/
def wBin (sem : D → D → (O → Prop) → Prop) (wa wb : WD) : WO := fun ρ P => wa ρ fun d ρ1 => wb ρ1 fun e ρ2 => sem d e fun o => P o ρ2
def wCmp (sem : D → D → (D → Prop) → Prop) (wa wb : WD) : WD := fun ρ P => wa ρ fun d ρ1 => wb ρ1 fun e ρ2 => sem d e fun u => P u ρ2
/-- the left one a name -/
def wCmpL (sem : D → D → (D → Prop) → Prop) (i : Nat) (wb : WD) : WD := fun ρ P => match nth ρ i with
  | some _ => wb ρ fun e ρ2 => wLook i ρ2 fun d ρ3 => sem d e fun u => P u ρ3
  | none => False
def wTst (w : WD) : WT := fun ρ P => w ρ fun d ρ' => match d with
  | .bl b => P b ρ'
  | _ => False
section
variable {X : Cx} {a b : Expr} {wa wb : WD} {pos : Pos} {r : R2}
theorem tOp_bin {sem : D → D → (O → Prop) → Prop} (hs : SemR X.K r sem) {σ : L2.St} {H : Hp} {Q : VK} (h : liftO X.K (wBin sem wa wb) σ H Q) : tOp r (liftD X.K wa) (liftD X.K wb) σ H Q := by
  obtain ⟨ρ, F, P, s, hw, k⟩ := h
  refine ⟨ρ, F, _, s, hw, fun d ρ1 F1 H1 v p s1 r1 f1 => ?_⟩
  refine ⟨ρ1, F1, _, s1, p, fun e ρ2 F2 H2 u p2 s2 r2 f2 => ?_⟩
  refine hs F2 H2 _ _ d e _ Q s2.sub (r1.mono f2.fz) r2 p2 fun o w F3 H3 p3 res => ?_
  obtain ⟨s3, f3⟩ := res _ _ s2
  exact k _ _ _ _ _ p3 s3 ((f1.trans f2).trans f3)
theorem xo_bin {op : Operator} {sem : D → D → (O → Prop) → Prop} (ho : OpR X (binaryOp op) r) (hs : SemR X.K r sem) (ha : XE X a wa) (hb : XE X b wb) : XO X (.BinOp a op b pos) (wBin sem wa wb) :=
  ⟨PE.imp (pe_op ho ha.pe hb.pe) fun _ _ _ h => tOp_bin hs h⟩
theorem tOp_cmp {sem : D → D → (D → Prop) → Prop} (hs : SemS X.K r sem) {σ : L2.St} {H : Hp} {Q : VK} (h : liftD X.K (wCmp sem wa wb) σ H Q) : tOp r (liftD X.K wa) (liftB X.K wb) σ H Q := by
  obtain ⟨ρ, F, P, s, hw, k⟩ := h
  refine ⟨ρ, F, _, s, hw, fun d ρ1 F1 H1 v p s1 r1 f1 => ?_⟩
  refine ⟨ρ1, F1, _, s1, p, fun e ρ2 F2 G2 H2 u p2 s2 sg sub r2 f2 => ?_⟩
  exact hs G2 H2 _ _ d e _ Q sg ((r1.mono f2.fz).mono sub) r2 p2 fun u w p3 rr => k _ _ _ _ _ p3 s2 (rr _) (f1.trans f2)
theorem tOp_cmpL {sem : D → D → (D → Prop) → Prop} {i : Nat} (hs : SemS X.K r sem) {σ : L2.St} {H : Hp} {Q : VK} (h : liftD X.K (wCmpL sem i wb) σ H Q) : tOp r (tVar i) (liftB X.K wb) σ H Q := by
  obtain ⟨ρ, F, P, s, hw, k⟩ := h
  unfold wCmpL at hw
  cases hn0 : nth ρ i with
  | none => rw [hn0] at hw; exact hw.elim
  | some o0 =>
  rw [hn0] at hw
  obtain ⟨x, hx, _⟩ := s.slot i o0 (nth_eq hn0)
  refine ⟨x, hx, ρ, F, _, s, hw, fun e ρ2 F2 G2 H2 u p2 s2 sg sub r2 f2 => ?_⟩
  unfold wLook at p2
  cases hn : nth ρ2 i with
  | none => rw [hn] at p2; exact p2.elim
  | some o =>
    rw [hn] at p2
    have e1 := nth_eq hn
    obtain ⟨v, hv, ro⟩ := s2.slot i o e1
    rw [hx] at hv
    cases hv
    have p2 : frzC o (fun d => sem d e fun u => P u ρ2) := p2
    rw [frzC_eq] at p2
    -- what is owned at i joins what stands
    have fG : ∀ b w, F2 b = some w → b ∉ o.owned := fun b w h hb => by
      rw [s2.own b (mem_ownedE e1 b hb)] at h; cases h
    have hsub : Sb (fun b => if b ∈ o.owned then H2 b else G2 b) H2 := fun b w h => by
      have h : (if b ∈ o.owned then H2 b else G2 b) = some w := h
      split at h
      · exact .inl h
      · exact sg b w h
    have hG : Sub G2 (fun b => if b ∈ o.owned then H2 b else G2 b) := fun b w h => by
      show (if b ∈ o.owned then H2 b else G2 b) = some w
      split
      · rename_i hb
        obtain ⟨w', e'⟩ := ro.there b hb
        rcases sg b w h with z | ⟨ob, _, z⟩
        · exact z
        · exact absurd z (ro.nofrz b hb ob w)
      · exact h
    exact hs (fun b => if b ∈ o.owned then H2 b else G2 b) H2 _ _ o.frz e _ Q hsub (ro.froz (fun b w h => hG b w (sub b w h)) fun b hb w e' => by
      show (if b ∈ o.owned then H2 b else G2 b) = some w
      rw [if_pos hb]; exact e') (r2.mono hG) p2 fun u w p3 rr => k _ _ _ _ _ p3 s2 (rr _) f2
end

/-! ### equality of data -/
def deqL (f : D → D → Option Bool) : List D → List D → Option Bool
  | x :: xs, y :: ys => match f x y, deqL f xs ys with
    | some a, some b => some (a && b)
    | _, _ => none
  | _, _ => some true
/-- the items of a list -/
def D.lsq : D → Option (List D)
  | .lst xs => some xs
  | .frl xs => some xs
  | _ => none
def D.kd : D → Nat
  | .non => 1
  | .bl _ => 2
  | .int _ => 2
  | .str _ => 3
  | .tup _ => 4
  | .lst _ => 5
  | .frl _ => 5
  | _ => 0
def deqF (f : D → D → Option Bool) (d e : D) : Option Bool := match d, e with
  | .non, .non => some true
  | .bl a, .bl b => some (a == b)
  | .int a, .int b => some (a == b)
  | .str a, .str b => some (a == b)
  | .bl a, .int b => some ((if a then 1 else 0) == b)
  | .int a, .bl b => some (a == (if b then 1 else 0))
  | .tup xs, .tup ys => (deqL f xs ys).map (· && (xs.length == ys.length))
  | .lst xs, .lst ys => if xs.length == ys.length then deqL f xs ys else some false
  | .lst xs, .frl ys => if xs.length == ys.length then deqL f xs ys else some false
  | .frl xs, .lst ys => if xs.length == ys.length then deqL f xs ys else some false
  | .frl xs, .frl ys => if xs.length == ys.length then deqL f xs ys else some false
  | d, e => if (d.kd != 0 && e.kd != 0 && d.kd != e.kd) = true then some false else none
/-- whether two things of the language are equal, where that is plain: n deep -/
def deq : Nat → D → D → Option Bool
  | 0 => deqF fun _ _ => none
  | n + 1 => deqF (deq n)
theorem deqL_at {f : D → D → Option Bool} : ∀ {ds es : List D} {b : Bool}, deqL f ds es = some b → ∃ g : Nat → Bool, (∀ j p q, ds[j]? = some p → es[j]? = some q → f p q = some (g j)) ∧ b = (List.range (min ds.length es.length)).all g
  | [], _, b, h => by
    cases h
    exact ⟨fun _ => true, fun j p q h1 _ => (by cases h1), by simp⟩
  | _ :: _, [], b, h => by
    cases h
    exact ⟨fun _ => true, fun j p q _ h2 => (by cases h2), by simp⟩
  | x :: xs, y :: ys, b, h => by
    unfold deqL at h
    cases h1 : f x y with
    | none => rw [h1] at h; cases h
    | some a =>
      cases h2 : deqL f xs ys with
      | none => rw [h1, h2] at h; cases h
      | some c =>
        rw [h1, h2] at h
        cases h
        obtain ⟨g, hg, rfl⟩ := deqL_at h2
        refine ⟨fun j => match j with | 0 => a | j + 1 => g j, fun j p q e1 e2 => ?_, ?_⟩
        · cases j with
          | zero => cases e1; cases e2; exact h1
          | succ j => exact hg j p q (by simpa using e1) (by simpa using e2)
        · rw [List.length_cons, List.length_cons, Nat.succ_min_succ, List.range_succ_eq_map, List.all_cons, List.all_map]
          rfl
section
open SeqAt
variable {X : Cx} {pins : List (Addr × Obj)} {σ : L2.St} {F H : Hp} {s : Shared}
theorem isL (I : Inv X pins σ H s) {a : Addr} {xs : List V} (h : SqL X.K H a xs) : ∃ its : List Value, Vals xs its ∧ s.heap.IsList a its.toArray := by
  obtain ⟨its, rv, ⟨o, n, ho, hc, _, hd⟩, _⟩ := I.list h
  exact ⟨its, rv, ⟨o, ho, hc, n, hd⟩⟩
theorem isT (I : Inv X pins σ H s) {a : Addr} {xs : List V} (h : SqT X.K H a xs) : ∃ its : List Value, Vals xs its ∧ s.heap.IsTuple a its.toArray := by
  obtain ⟨its, rv, ⟨o, ho, hc, n, hd⟩, _⟩ := I.tuple h
  exact ⟨its, rv, ⟨o, ho, hc, n, hd⟩⟩
theorem Vals.at' : ∀ {xs : List V} {us : List Value} {j : Nat} {u : Value}, Vals xs us → us[j]? = some u → ∃ x, xs[j]? = some x ∧ RelV x u
  | _, _, _, _, .nil, e => by cases e
  | _, _, 0, _, .cons r _, e => by cases e; exact ⟨_, rfl, r⟩
  | _, _, j + 1, _, .cons _ r, e => Vals.at' (j := j) r (by simpa using e)
/-- the pairs of two rows of items -/
theorem pairs_at {A : Around} {f : D → D → Option Bool} (hf : ∀ x y d e b v u, Rep X.K F x d → Rep X.K F y e → RelV x v → RelV y u → f d e = some b → EqAt A s v u b) {xs ys : List V} {ds es : List D} {its its2 : List Value} {b : Bool} (r1 : RepL X.K F xs ds) (r2 : RepL X.K F ys es) (v1 : Vals xs its) (v2 : Vals ys its2)
    (h : deqL f ds es = some b) : ∃ g : Nat → Bool, (∀ j (h1 : j < its.toArray.size) (h2 : j < its2.toArray.size), EqAt A s its.toArray[j] its2.toArray[j] (g j)) ∧ b = (List.range (min its.toArray.size its2.toArray.size)).all g := by
  obtain ⟨g, hg, rfl⟩ := deqL_at h
  have l1 : its.length = ds.length := by rw [← v1.length, r1.length]
  have l2 : its2.length = es.length := by rw [← v2.length, r2.length]
  refine ⟨g, fun j h1 h2 => ?_, by rw [List.size_toArray, List.size_toArray, l1, l2]⟩
  have h1' : j < its.length := h1
  have h2' : j < its2.length := h2
  obtain ⟨x, hx, rx⟩ := Vals.at' v1 (List.getElem?_eq_getElem h1')
  obtain ⟨y, hy, ry⟩ := Vals.at' v2 (List.getElem?_eq_getElem h2')
  obtain ⟨d, hd, px⟩ := r1.get' hx
  obtain ⟨e, he, py⟩ := r2.get' hy
  exact hf _ _ _ _ _ _ _ px py rx ry (hg j d e hd he)

theorem eqAt_step_lists (I : Inv X pins σ H s) (sb : Sb F H) {A : Around} (hu : A.units < cLine) {f : D → D → Option Bool} (hf : ∀ x y d e b v u, Rep X.K F x d → Rep X.K F y e → RelV x v → RelV y u → f d e = some b → EqAt A.in1 s v u b) (hs : ∀ x d e b, Rep X.K F x d → Rep X.K F x e → f d e = some b → b = true) {a a' : Addr} {xs ys : List V} {ds es : List D} {its1 its2 : List Value} {b0 : Bool}
    (h1 : SqL X.K H a xs) (h2 : SqL X.K H a' ys) (q1 : s.heap.IsList a its1.toArray) (q2 : s.heap.IsList a' its2.toArray) (w1 : Vals xs its1) (w2 : Vals ys its2) (r1 : RepL X.K F xs ds) (r2 : RepL X.K F ys es) (h : (if ds.length == es.length then deqL f ds es else some false) = some b0) : EqAt A s (.ref a) (.ref a') b0 := by
  have l1 : its1.length = ds.length := by rw [← w1.length, r1.length]
  have l2 : its2.length = es.length := by rw [← w2.length, r2.length]
  by_cases ea : a = a'
  · subst ea
    have exy := I.list_inj h1 h2
    subst exy
    have le : ds.length = es.length := by rw [← r1.length, ← r2.length]
    rw [if_pos (by rw [le]; exact beq_self_eq_true _)] at h
    obtain ⟨g, hg, rfl⟩ := deqL_at h
    have : (List.range (min ds.length es.length)).all g = true := List.all_eq_true.mpr fun j hj => by
      have hj := List.mem_range.mp hj
      obtain ⟨x, hx, px⟩ := r1.get' (List.getElem?_eq_getElem (show j < xs.length by rw [r1.length]; omega))
      obtain ⟨y, hy, py⟩ := r2.get' (List.getElem?_eq_getElem (show j < xs.length by rw [r1.length]; omega))
      exact hs _ _ _ _ px py (hg j x y hx hy)
    rw [this]
    exact EqAt.same _
  refine EqAt.of_refs ea ?_
  by_cases le : ds.length = es.length
  · rw [if_pos (by rw [le]; exact beq_self_eq_true _)] at h
    obtain ⟨g, hg, rfl⟩ := pairs_at hf r1 r2 w1 w2 h
    have hsz : its1.toArray.size = its2.toArray.size := by rw [List.size_toArray, List.size_toArray]; omega
    rw [← hsz, Nat.min_self]
    exact RcAt.lists q1 q2 hsz hu hg
  · rw [if_neg (by simpa using le)] at h
    cases h
    exact RcAt.lists_lengths q1 q2 (by simp only [bne_iff_ne, List.size_toArray]; omega) hu
theorem eqAt_step_tups (I : Inv X pins σ H s) (sb : Sb F H) {A : Around} (hu : A.units < cLine) {f : D → D → Option Bool} (hf : ∀ x y d e b v u, Rep X.K F x d → Rep X.K F y e → RelV x v → RelV y u → f d e = some b → EqAt A.in1 s v u b) (hs : ∀ x d e b, Rep X.K F x d → Rep X.K F x e → f d e = some b → b = true) {a a' : Addr} {xs ys : List V} {ds es : List D} {its1 its2 : List Value} {b0 : Bool}
    (h1 : SqT X.K H a xs) (h2 : SqT X.K H a' ys) (q1 : s.heap.IsTuple a its1.toArray) (q2 : s.heap.IsTuple a' its2.toArray) (w1 : Vals xs its1) (w2 : Vals ys its2) (r1 : RepL X.K F xs ds) (r2 : RepL X.K F ys es) (h : (deqL f ds es).map (· && (ds.length == es.length)) = some b0) : EqAt A s (.ref a) (.ref a') b0 := by
  have l1 : its1.length = ds.length := by rw [← w1.length, r1.length]
  have l2 : its2.length = es.length := by rw [← w2.length, r2.length]
  cases hq : deqL f ds es with
  | none => rw [hq] at h; cases h
  | some c =>
  rw [hq] at h
  cases h
  by_cases ea : a = a'
  · subst ea
    have exy := I.tuple_inj h1 h2
    subst exy
    have le : ds.length = es.length := by rw [← r1.length, ← r2.length]
    obtain ⟨g, hg, rfl⟩ := deqL_at hq
    have : (List.range (min ds.length es.length)).all g = true := List.all_eq_true.mpr fun j hj => by
      have hj := List.mem_range.mp hj
      obtain ⟨x, hx, px⟩ := r1.get' (List.getElem?_eq_getElem (show j < xs.length by rw [r1.length]; omega))
      obtain ⟨y, hy, py⟩ := r2.get' (List.getElem?_eq_getElem (show j < xs.length by rw [r1.length]; omega))
      exact hs _ _ _ _ px py (hg j x y hx hy)
    rw [this, le, beq_self_eq_true]
    exact EqAt.same _
  refine EqAt.of_refs ea ?_
  obtain ⟨g, hg, rfl⟩ := pairs_at hf r1 r2 w1 w2 hq
  have e : (ds.length == es.length) = (its1.toArray.size == its2.toArray.size) := by rw [List.size_toArray, List.size_toArray, l1, l2]
  rw [e]
  exact RcAt.tuples q1 q2 hu hg
theorem eqAt_step (I : Inv X pins σ H s) (sb : Sb F H) {A : Around} (hu : A.units < cLine) {f : D → D → Option Bool} (hf : ∀ x y d e b v u, Rep X.K F x d → Rep X.K F y e → RelV x v → RelV y u → f d e = some b → EqAt A.in1 s v u b) (hs : ∀ x d e b, Rep X.K F x d → Rep X.K F x e → f d e = some b → b = true) {x0 y0 : V} {d e : D} {b0 : Bool} {v u : Value}
    (rx : Rep X.K F x0 d) (ry : Rep X.K F y0 e) (rv : RelV x0 v) (ru : RelV y0 u) (h : deqF f d e = some b0) : EqAt A s v u b0 := by
  cases rx with
  | non =>
    cases rv
    cases ry with
    | non => cases ru; cases h; exact EqAt.same _
    | bl b => cases ru; cases h; exact EqAt.none_bool b
    | int j => obtain ⟨t2, rfl⟩ := ru; cases h; exact EqAt.none_int j t2
    | str y zy => obtain ⟨t2, rfl⟩ := ru; cases h; exact EqAt.none_str y t2
    | tup h2 z2 r2 => cases ru; obtain ⟨its2, w2, q2⟩ := isT I (sb.sqT h2); cases h; exact EqAt.none_tuple q2 hu
    | lst h2 z2 r2 => cases ru; obtain ⟨its2, w2, q2⟩ := isL I (.inl (.inl (sb.lst h2))); cases h; exact EqAt.none_list q2 hu
    | frl h2 z2 r2 => cases ru; obtain ⟨its2, w2, q2⟩ := isL I (sb.sqL h2); cases h; exact EqAt.none_list q2 hu
    | dct h2 _ r2 => cases h
    | dcT h2 _ r2 => cases h
    | ins h2 r2 => cases h
    | ty m => cases h
    | al m => cases h
  | bl a =>
    cases rv
    cases ry with
    | non => cases ru; cases h; exact EqAt.bool_none a
    | bl b => cases ru; cases h; exact EqAt.bool_bool a b
    | int j => obtain ⟨t2, rfl⟩ := ru; cases h; exact EqAt.bool_int a j t2
    | str y zy => obtain ⟨t2, rfl⟩ := ru; cases h; exact EqAt.bool_str a y t2
    | tup h2 z2 r2 => cases ru; obtain ⟨its2, w2, q2⟩ := isT I (sb.sqT h2); cases h; exact EqAt.bool_tuple a q2 hu
    | lst h2 z2 r2 => cases ru; obtain ⟨its2, w2, q2⟩ := isL I (.inl (.inl (sb.lst h2))); cases h; exact EqAt.bool_list a q2 hu
    | frl h2 z2 r2 => cases ru; obtain ⟨its2, w2, q2⟩ := isL I (sb.sqL h2); cases h; exact EqAt.bool_list a q2 hu
    | dct h2 _ r2 => cases h
    | dcT h2 _ r2 => cases h
    | ins h2 r2 => cases h
    | ty m => cases h
    | al m => cases h
  | int i =>
    obtain ⟨t1, rfl⟩ := rv
    cases ry with
    | non => cases ru; cases h; exact EqAt.int_none i t1
    | bl b => cases ru; cases h; exact EqAt.int_bool i t1 b
    | int j => obtain ⟨t2, rfl⟩ := ru; cases h; exact EqAt.int_int i t1 j t2
    | str y zy => obtain ⟨t2, rfl⟩ := ru; cases h; exact EqAt.int_str i t1 y t2
    | tup h2 z2 r2 => cases ru; obtain ⟨its2, w2, q2⟩ := isT I (sb.sqT h2); cases h; exact EqAt.int_tuple i t1 q2 hu
    | lst h2 z2 r2 => cases ru; obtain ⟨its2, w2, q2⟩ := isL I (.inl (.inl (sb.lst h2))); cases h; exact EqAt.int_list i t1 q2 hu
    | frl h2 z2 r2 => cases ru; obtain ⟨its2, w2, q2⟩ := isL I (sb.sqL h2); cases h; exact EqAt.int_list i t1 q2 hu
    | dct h2 _ r2 => cases h
    | dcT h2 _ r2 => cases h
    | ins h2 r2 => cases h
    | ty m => cases h
    | al m => cases h
  | str x zx =>
    obtain ⟨t1, rfl⟩ := rv
    cases ry with
    | non => cases ru; cases h; exact EqAt.str_none x t1
    | bl b => cases ru; cases h; exact EqAt.str_bool x t1 b
    | int j => obtain ⟨t2, rfl⟩ := ru; cases h; exact EqAt.str_int x t1 j t2
    | str y zy => obtain ⟨t2, rfl⟩ := ru; cases h; exact EqAt.str_str x t1 y t2
    | tup h2 z2 r2 => cases ru; obtain ⟨its2, w2, q2⟩ := isT I (sb.sqT h2); cases h; exact EqAt.str_tuple x t1 q2 hu
    | lst h2 z2 r2 => cases ru; obtain ⟨its2, w2, q2⟩ := isL I (.inl (.inl (sb.lst h2))); cases h; exact EqAt.str_list x t1 q2 hu
    | frl h2 z2 r2 => cases ru; obtain ⟨its2, w2, q2⟩ := isL I (sb.sqL h2); cases h; exact EqAt.str_list x t1 q2 hu
    | dct h2 _ r2 => cases h
    | dcT h2 _ r2 => cases h
    | ins h2 r2 => cases h
    | ty m => cases h
    | al m => cases h
  | tup h1 z1 r1 =>
    cases rv; obtain ⟨its1, w1, q1⟩ := isT I (sb.sqT h1)
    cases ry with
    | non => cases ru; cases h; exact EqAt.tuple_none q1 hu
    | bl b => cases ru; cases h; exact EqAt.tuple_bool b q1 hu
    | int j => obtain ⟨t2, rfl⟩ := ru; cases h; exact EqAt.tuple_int j t2 q1 hu
    | str y zy => obtain ⟨t2, rfl⟩ := ru; cases h; exact EqAt.tuple_str y t2 q1 hu
    | tup h2 z2 r2 => cases ru; obtain ⟨its2, w2, q2⟩ := isT I (sb.sqT h2); exact eqAt_step_tups I sb hu hf hs (sb.sqT h1) (sb.sqT h2) q1 q2 w1 w2 r1 r2 h
    | lst h2 z2 r2 => cases ru; obtain ⟨its2, w2, q2⟩ := isL I (.inl (.inl (sb.lst h2))); cases h; exact EqAt.tuple_list q1 q2 hu
    | frl h2 z2 r2 => cases ru; obtain ⟨its2, w2, q2⟩ := isL I (sb.sqL h2); cases h; exact EqAt.tuple_list q1 q2 hu
    | dct h2 _ r2 => cases h
    | dcT h2 _ r2 => cases h
    | ins h2 r2 => cases h
    | ty m => cases h
    | al m => cases h
  | lst h1 z1 r1 =>
    cases rv; obtain ⟨its1, w1, q1⟩ := isL I (.inl (.inl (sb.lst h1)))
    cases ry with
    | non => cases ru; cases h; exact EqAt.list_none q1 hu
    | bl b => cases ru; cases h; exact EqAt.list_bool b q1 hu
    | int j => obtain ⟨t2, rfl⟩ := ru; cases h; exact EqAt.list_int j t2 q1 hu
    | str y zy => obtain ⟨t2, rfl⟩ := ru; cases h; exact EqAt.list_str y t2 q1 hu
    | tup h2 z2 r2 => cases ru; obtain ⟨its2, w2, q2⟩ := isT I (sb.sqT h2); cases h; exact EqAt.list_tuple q1 q2 hu
    | lst h2 z2 r2 => cases ru; obtain ⟨its2, w2, q2⟩ := isL I (.inl (.inl (sb.lst h2))); exact eqAt_step_lists I sb hu hf hs (.inl (.inl (sb.lst h1))) (.inl (.inl (sb.lst h2))) q1 q2 w1 w2 r1 r2 h
    | frl h2 z2 r2 => cases ru; obtain ⟨its2, w2, q2⟩ := isL I (sb.sqL h2); exact eqAt_step_lists I sb hu hf hs (.inl (.inl (sb.lst h1))) (sb.sqL h2) q1 q2 w1 w2 r1 r2 h
    | dct h2 _ r2 => cases h
    | dcT h2 _ r2 => cases h
    | ins h2 r2 => cases h
    | ty m => cases h
    | al m => cases h
  | frl h1 z1 r1 =>
    cases rv; obtain ⟨its1, w1, q1⟩ := isL I (sb.sqL h1)
    cases ry with
    | non => cases ru; cases h; exact EqAt.list_none q1 hu
    | bl b => cases ru; cases h; exact EqAt.list_bool b q1 hu
    | int j => obtain ⟨t2, rfl⟩ := ru; cases h; exact EqAt.list_int j t2 q1 hu
    | str y zy => obtain ⟨t2, rfl⟩ := ru; cases h; exact EqAt.list_str y t2 q1 hu
    | tup h2 z2 r2 => cases ru; obtain ⟨its2, w2, q2⟩ := isT I (sb.sqT h2); cases h; exact EqAt.list_tuple q1 q2 hu
    | lst h2 z2 r2 => cases ru; obtain ⟨its2, w2, q2⟩ := isL I (.inl (.inl (sb.lst h2))); exact eqAt_step_lists I sb hu hf hs (sb.sqL h1) (.inl (.inl (sb.lst h2))) q1 q2 w1 w2 r1 r2 h
    | frl h2 z2 r2 => cases ru; obtain ⟨its2, w2, q2⟩ := isL I (sb.sqL h2); exact eqAt_step_lists I sb hu hf hs (sb.sqL h1) (sb.sqL h2) q1 q2 w1 w2 r1 r2 h
    | dct h2 _ r2 => cases h
    | dcT h2 _ r2 => cases h
    | ins h2 r2 => cases h
    | ty m => cases h
    | al m => cases h
  | dct h1 _ r1 => cases ry <;> cases h
  | dcT h1 _ r1 => cases ry <;> cases h
  | ins h1 r1 => cases ry <;> cases h
  | ty n => cases ry <;> cases h
  | al n => cases ry <;> cases h
theorem rcAt_step_lists (I : Inv X pins σ H s) (sb : Sb F H) {A : Around} (hu : A.units < cLine) {f : D → D → Option Bool} (hf : ∀ x y d e b v u, Rep X.K F x d → Rep X.K F y e → RelV x v → RelV y u → f d e = some b → EqAt A.in1 s v u b) {a a' : Addr} {xs ys : List V} {ds es : List D} {its1 its2 : List Value} {b0 : Bool}
    (h1 : SqL X.K H a xs) (h2 : SqL X.K H a' ys) (q1 : s.heap.IsList a its1.toArray) (q2 : s.heap.IsList a' its2.toArray) (w1 : Vals xs its1) (w2 : Vals ys its2) (r1 : RepL X.K F xs ds) (r2 : RepL X.K F ys es) (h : (if ds.length == es.length then deqL f ds es else some false) = some b0) : RcAt A s (.ref a) (.ref a') b0 := by
  have l1 : its1.length = ds.length := by rw [← w1.length, r1.length]
  have l2 : its2.length = es.length := by rw [← w2.length, r2.length]
  by_cases le : ds.length = es.length
  · rw [if_pos (by rw [le]; exact beq_self_eq_true _)] at h
    obtain ⟨g, hg, rfl⟩ := pairs_at hf r1 r2 w1 w2 h
    have hsz : its1.toArray.size = its2.toArray.size := by rw [List.size_toArray, List.size_toArray]; omega
    rw [← hsz, Nat.min_self]
    exact RcAt.lists q1 q2 hsz hu hg
  · rw [if_neg (by simpa using le)] at h
    cases h
    exact RcAt.lists_lengths q1 q2 (by simp only [bne_iff_ne, List.size_toArray]; omega) hu
theorem rcAt_step_tups (I : Inv X pins σ H s) (sb : Sb F H) {A : Around} (hu : A.units < cLine) {f : D → D → Option Bool} (hf : ∀ x y d e b v u, Rep X.K F x d → Rep X.K F y e → RelV x v → RelV y u → f d e = some b → EqAt A.in1 s v u b) {a a' : Addr} {xs ys : List V} {ds es : List D} {its1 its2 : List Value} {b0 : Bool}
    (h1 : SqT X.K H a xs) (h2 : SqT X.K H a' ys) (q1 : s.heap.IsTuple a its1.toArray) (q2 : s.heap.IsTuple a' its2.toArray) (w1 : Vals xs its1) (w2 : Vals ys its2) (r1 : RepL X.K F xs ds) (r2 : RepL X.K F ys es) (h : (deqL f ds es).map (· && (ds.length == es.length)) = some b0) : RcAt A s (.ref a) (.ref a') b0 := by
  have l1 : its1.length = ds.length := by rw [← w1.length, r1.length]
  have l2 : its2.length = es.length := by rw [← w2.length, r2.length]
  cases hq : deqL f ds es with
  | none => rw [hq] at h; cases h
  | some c =>
  rw [hq] at h
  cases h
  obtain ⟨g, hg, rfl⟩ := pairs_at hf r1 r2 w1 w2 hq
  have e : (ds.length == es.length) = (its1.toArray.size == its2.toArray.size) := by rw [List.size_toArray, List.size_toArray, l1, l2]
  rw [e]
  exact RcAt.tuples q1 q2 hu hg
theorem rcAt_step (I : Inv X pins σ H s) (sb : Sb F H) {A : Around} (hu : A.units < cLine) {f : D → D → Option Bool} (hf : ∀ x y d e b v u, Rep X.K F x d → Rep X.K F y e → RelV x v → RelV y u → f d e = some b → EqAt A.in1 s v u b) {x0 y0 : V} {d e : D} {b0 : Bool} {v u : Value}
    (rx : Rep X.K F x0 d) (ry : Rep X.K F y0 e) (rv : RelV x0 v) (ru : RelV y0 u) (h : deqF f d e = some b0) : RcAt A s v u b0 := by
  cases rx with
  | non =>
    cases rv
    cases ry with
    | non => cases ru; cases h; exact RcAt.none_none
    | bl b => cases ru; cases h; exact RcAt.none_bool b
    | int j => obtain ⟨t2, rfl⟩ := ru; cases h; exact RcAt.none_int j t2
    | str y zy => obtain ⟨t2, rfl⟩ := ru; cases h; exact RcAt.none_str y t2
    | tup h2 z2 r2 => cases ru; obtain ⟨its2, w2, q2⟩ := isT I (sb.sqT h2); cases h; exact RcAt.none_tuple q2 hu
    | lst h2 z2 r2 => cases ru; obtain ⟨its2, w2, q2⟩ := isL I (.inl (.inl (sb.lst h2))); cases h; exact RcAt.none_list q2 hu
    | frl h2 z2 r2 => cases ru; obtain ⟨its2, w2, q2⟩ := isL I (sb.sqL h2); cases h; exact RcAt.none_list q2 hu
    | dct h2 _ r2 => cases h
    | dcT h2 _ r2 => cases h
    | ins h2 r2 => cases h
    | ty m => cases h
    | al m => cases h
  | bl a =>
    cases rv
    cases ry with
    | non => cases ru; cases h; exact RcAt.bool_none a
    | bl b => cases ru; cases h; exact RcAt.bool_bool a b
    | int j => obtain ⟨t2, rfl⟩ := ru; cases h; exact RcAt.bool_int a j t2
    | str y zy => obtain ⟨t2, rfl⟩ := ru; cases h; exact RcAt.bool_str a y t2
    | tup h2 z2 r2 => cases ru; obtain ⟨its2, w2, q2⟩ := isT I (sb.sqT h2); cases h; exact RcAt.bool_tuple a q2 hu
    | lst h2 z2 r2 => cases ru; obtain ⟨its2, w2, q2⟩ := isL I (.inl (.inl (sb.lst h2))); cases h; exact RcAt.bool_list a q2 hu
    | frl h2 z2 r2 => cases ru; obtain ⟨its2, w2, q2⟩ := isL I (sb.sqL h2); cases h; exact RcAt.bool_list a q2 hu
    | dct h2 _ r2 => cases h
    | dcT h2 _ r2 => cases h
    | ins h2 r2 => cases h
    | ty m => cases h
    | al m => cases h
  | int i =>
    obtain ⟨t1, rfl⟩ := rv
    cases ry with
    | non => cases ru; cases h; exact RcAt.int_none i t1
    | bl b => cases ru; cases h; exact RcAt.int_bool i t1 b
    | int j => obtain ⟨t2, rfl⟩ := ru; cases h; exact RcAt.int_int i t1 j t2
    | str y zy => obtain ⟨t2, rfl⟩ := ru; cases h; exact RcAt.int_str i t1 y t2
    | tup h2 z2 r2 => cases ru; obtain ⟨its2, w2, q2⟩ := isT I (sb.sqT h2); cases h; exact RcAt.int_tuple i t1 q2 hu
    | lst h2 z2 r2 => cases ru; obtain ⟨its2, w2, q2⟩ := isL I (.inl (.inl (sb.lst h2))); cases h; exact RcAt.int_list i t1 q2 hu
    | frl h2 z2 r2 => cases ru; obtain ⟨its2, w2, q2⟩ := isL I (sb.sqL h2); cases h; exact RcAt.int_list i t1 q2 hu
    | dct h2 _ r2 => cases h
    | dcT h2 _ r2 => cases h
    | ins h2 r2 => cases h
    | ty m => cases h
    | al m => cases h
  | str x zx =>
    obtain ⟨t1, rfl⟩ := rv
    cases ry with
    | non => cases ru; cases h; exact RcAt.str_none x t1
    | bl b => cases ru; cases h; exact RcAt.str_bool x t1 b
    | int j => obtain ⟨t2, rfl⟩ := ru; cases h; exact RcAt.str_int x t1 j t2
    | str y zy => obtain ⟨t2, rfl⟩ := ru; cases h; exact RcAt.str_str x t1 y t2
    | tup h2 z2 r2 => cases ru; obtain ⟨its2, w2, q2⟩ := isT I (sb.sqT h2); cases h; exact RcAt.str_tuple x t1 q2 hu
    | lst h2 z2 r2 => cases ru; obtain ⟨its2, w2, q2⟩ := isL I (.inl (.inl (sb.lst h2))); cases h; exact RcAt.str_list x t1 q2 hu
    | frl h2 z2 r2 => cases ru; obtain ⟨its2, w2, q2⟩ := isL I (sb.sqL h2); cases h; exact RcAt.str_list x t1 q2 hu
    | dct h2 _ r2 => cases h
    | dcT h2 _ r2 => cases h
    | ins h2 r2 => cases h
    | ty m => cases h
    | al m => cases h
  | tup h1 z1 r1 =>
    cases rv; obtain ⟨its1, w1, q1⟩ := isT I (sb.sqT h1)
    cases ry with
    | non => cases ru; cases h; exact RcAt.tuple_none q1 hu
    | bl b => cases ru; cases h; exact RcAt.tuple_bool b q1 hu
    | int j => obtain ⟨t2, rfl⟩ := ru; cases h; exact RcAt.tuple_int j t2 q1 hu
    | str y zy => obtain ⟨t2, rfl⟩ := ru; cases h; exact RcAt.tuple_str y t2 q1 hu
    | tup h2 z2 r2 => cases ru; obtain ⟨its2, w2, q2⟩ := isT I (sb.sqT h2); exact rcAt_step_tups I sb hu hf (sb.sqT h1) (sb.sqT h2) q1 q2 w1 w2 r1 r2 h
    | lst h2 z2 r2 => cases ru; obtain ⟨its2, w2, q2⟩ := isL I (.inl (.inl (sb.lst h2))); cases h; exact RcAt.tuple_list q1 q2 hu
    | frl h2 z2 r2 => cases ru; obtain ⟨its2, w2, q2⟩ := isL I (sb.sqL h2); cases h; exact RcAt.tuple_list q1 q2 hu
    | dct h2 _ r2 => cases h
    | dcT h2 _ r2 => cases h
    | ins h2 r2 => cases h
    | ty m => cases h
    | al m => cases h
  | lst h1 z1 r1 =>
    cases rv; obtain ⟨its1, w1, q1⟩ := isL I (.inl (.inl (sb.lst h1)))
    cases ry with
    | non => cases ru; cases h; exact RcAt.list_none q1 hu
    | bl b => cases ru; cases h; exact RcAt.list_bool b q1 hu
    | int j => obtain ⟨t2, rfl⟩ := ru; cases h; exact RcAt.list_int j t2 q1 hu
    | str y zy => obtain ⟨t2, rfl⟩ := ru; cases h; exact RcAt.list_str y t2 q1 hu
    | tup h2 z2 r2 => cases ru; obtain ⟨its2, w2, q2⟩ := isT I (sb.sqT h2); cases h; exact RcAt.list_tuple q1 q2 hu
    | lst h2 z2 r2 => cases ru; obtain ⟨its2, w2, q2⟩ := isL I (.inl (.inl (sb.lst h2))); exact rcAt_step_lists I sb hu hf (.inl (.inl (sb.lst h1))) (.inl (.inl (sb.lst h2))) q1 q2 w1 w2 r1 r2 h
    | frl h2 z2 r2 => cases ru; obtain ⟨its2, w2, q2⟩ := isL I (sb.sqL h2); exact rcAt_step_lists I sb hu hf (.inl (.inl (sb.lst h1))) (sb.sqL h2) q1 q2 w1 w2 r1 r2 h
    | dct h2 _ r2 => cases h
    | dcT h2 _ r2 => cases h
    | ins h2 r2 => cases h
    | ty m => cases h
    | al m => cases h
  | frl h1 z1 r1 =>
    cases rv; obtain ⟨its1, w1, q1⟩ := isL I (sb.sqL h1)
    cases ry with
    | non => cases ru; cases h; exact RcAt.list_none q1 hu
    | bl b => cases ru; cases h; exact RcAt.list_bool b q1 hu
    | int j => obtain ⟨t2, rfl⟩ := ru; cases h; exact RcAt.list_int j t2 q1 hu
    | str y zy => obtain ⟨t2, rfl⟩ := ru; cases h; exact RcAt.list_str y t2 q1 hu
    | tup h2 z2 r2 => cases ru; obtain ⟨its2, w2, q2⟩ := isT I (sb.sqT h2); cases h; exact RcAt.list_tuple q1 q2 hu
    | lst h2 z2 r2 => cases ru; obtain ⟨its2, w2, q2⟩ := isL I (.inl (.inl (sb.lst h2))); exact rcAt_step_lists I sb hu hf (sb.sqL h1) (.inl (.inl (sb.lst h2))) q1 q2 w1 w2 r1 r2 h
    | frl h2 z2 r2 => cases ru; obtain ⟨its2, w2, q2⟩ := isL I (sb.sqL h2); exact rcAt_step_lists I sb hu hf (sb.sqL h1) (sb.sqL h2) q1 q2 w1 w2 r1 r2 h
    | dct h2 _ r2 => cases h
    | dcT h2 _ r2 => cases h
    | ins h2 r2 => cases h
    | ty m => cases h
    | al m => cases h
  | dct h1 _ r1 => cases ry <;> cases h
  | dcT h1 _ r1 => cases ry <;> cases h
  | ins h1 r1 => cases ry <;> cases h
  | ty n => cases ry <;> cases h
  | al n => cases ry <;> cases h
theorem rcNeAt_step_lists (I : Inv X pins σ H s) (sb : Sb F H) {A : Around} (hu : A.units < cLine) {f : D → D → Option Bool} (hf : ∀ x y d e b v u, Rep X.K F x d → Rep X.K F y e → RelV x v → RelV y u → f d e = some b → EqAt A.in1 s v u b) {a a' : Addr} {xs ys : List V} {ds es : List D} {its1 its2 : List Value} {b0 : Bool}
    (h1 : SqL X.K H a xs) (h2 : SqL X.K H a' ys) (q1 : s.heap.IsList a its1.toArray) (q2 : s.heap.IsList a' its2.toArray) (w1 : Vals xs its1) (w2 : Vals ys its2) (r1 : RepL X.K F xs ds) (r2 : RepL X.K F ys es) (h : (if ds.length == es.length then deqL f ds es else some false) = some b0) : RcNeAt A s (.ref a) (.ref a') (!b0) := by
  have l1 : its1.length = ds.length := by rw [← w1.length, r1.length]
  have l2 : its2.length = es.length := by rw [← w2.length, r2.length]
  by_cases le : ds.length = es.length
  · rw [if_pos (by rw [le]; exact beq_self_eq_true _)] at h
    obtain ⟨g, hg, rfl⟩ := pairs_at hf r1 r2 w1 w2 h
    have hsz : its1.toArray.size = its2.toArray.size := by rw [List.size_toArray, List.size_toArray]; omega
    rw [← hsz, Nat.min_self]
    exact RcNeAt.lists q1 q2 hsz hu hg
  · rw [if_neg (by simpa using le)] at h
    cases h
    exact RcNeAt.lists_lengths q1 q2 (by simp only [bne_iff_ne, List.size_toArray]; omega) hu
theorem rcNeAt_step_tups (I : Inv X pins σ H s) (sb : Sb F H) {A : Around} (hu : A.units < cLine) {f : D → D → Option Bool} (hf : ∀ x y d e b v u, Rep X.K F x d → Rep X.K F y e → RelV x v → RelV y u → f d e = some b → EqAt A.in1 s v u b) {a a' : Addr} {xs ys : List V} {ds es : List D} {its1 its2 : List Value} {b0 : Bool}
    (h1 : SqT X.K H a xs) (h2 : SqT X.K H a' ys) (q1 : s.heap.IsTuple a its1.toArray) (q2 : s.heap.IsTuple a' its2.toArray) (w1 : Vals xs its1) (w2 : Vals ys its2) (r1 : RepL X.K F xs ds) (r2 : RepL X.K F ys es) (h : (deqL f ds es).map (· && (ds.length == es.length)) = some b0) : RcNeAt A s (.ref a) (.ref a') (!b0) := by
  have l1 : its1.length = ds.length := by rw [← w1.length, r1.length]
  have l2 : its2.length = es.length := by rw [← w2.length, r2.length]
  cases hq : deqL f ds es with
  | none => rw [hq] at h; cases h
  | some c =>
  rw [hq] at h
  cases h
  obtain ⟨g, hg, rfl⟩ := pairs_at hf r1 r2 w1 w2 hq
  have e : (ds.length == es.length) = (its1.toArray.size == its2.toArray.size) := by rw [List.size_toArray, List.size_toArray, l1, l2]
  rw [e]
  exact RcNeAt.tuples q1 q2 hu hg
theorem rcNeAt_step (I : Inv X pins σ H s) (sb : Sb F H) {A : Around} (hu : A.units < cLine) {f : D → D → Option Bool} (hf : ∀ x y d e b v u, Rep X.K F x d → Rep X.K F y e → RelV x v → RelV y u → f d e = some b → EqAt A.in1 s v u b) {x0 y0 : V} {d e : D} {b0 : Bool} {v u : Value}
    (rx : Rep X.K F x0 d) (ry : Rep X.K F y0 e) (rv : RelV x0 v) (ru : RelV y0 u) (h : deqF f d e = some b0) : RcNeAt A s v u (!b0) := by
  cases rx with
  | non =>
    cases rv
    cases ry with
    | non => cases ru; cases h; exact RcNeAt.none_none
    | bl b => cases ru; cases h; exact RcNeAt.none_bool b
    | int j => obtain ⟨t2, rfl⟩ := ru; cases h; exact RcNeAt.none_int j t2
    | str y zy => obtain ⟨t2, rfl⟩ := ru; cases h; exact RcNeAt.none_str y t2
    | tup h2 z2 r2 => cases ru; obtain ⟨its2, w2, q2⟩ := isT I (sb.sqT h2); cases h; exact RcNeAt.none_tuple q2 hu
    | lst h2 z2 r2 => cases ru; obtain ⟨its2, w2, q2⟩ := isL I (.inl (.inl (sb.lst h2))); cases h; exact RcNeAt.none_list q2 hu
    | frl h2 z2 r2 => cases ru; obtain ⟨its2, w2, q2⟩ := isL I (sb.sqL h2); cases h; exact RcNeAt.none_list q2 hu
    | dct h2 _ r2 => cases h
    | dcT h2 _ r2 => cases h
    | ins h2 r2 => cases h
    | ty m => cases h
    | al m => cases h
  | bl a =>
    cases rv
    cases ry with
    | non => cases ru; cases h; exact RcNeAt.bool_none a
    | bl b => cases ru; cases h; exact RcNeAt.bool_bool a b
    | int j => obtain ⟨t2, rfl⟩ := ru; cases h; exact RcNeAt.bool_int a j t2
    | str y zy => obtain ⟨t2, rfl⟩ := ru; cases h; exact RcNeAt.bool_str a y t2
    | tup h2 z2 r2 => cases ru; obtain ⟨its2, w2, q2⟩ := isT I (sb.sqT h2); cases h; exact RcNeAt.bool_tuple a q2 hu
    | lst h2 z2 r2 => cases ru; obtain ⟨its2, w2, q2⟩ := isL I (.inl (.inl (sb.lst h2))); cases h; exact RcNeAt.bool_list a q2 hu
    | frl h2 z2 r2 => cases ru; obtain ⟨its2, w2, q2⟩ := isL I (sb.sqL h2); cases h; exact RcNeAt.bool_list a q2 hu
    | dct h2 _ r2 => cases h
    | dcT h2 _ r2 => cases h
    | ins h2 r2 => cases h
    | ty m => cases h
    | al m => cases h
  | int i =>
    obtain ⟨t1, rfl⟩ := rv
    cases ry with
    | non => cases ru; cases h; exact RcNeAt.int_none i t1
    | bl b => cases ru; cases h; exact RcNeAt.int_bool i t1 b
    | int j => obtain ⟨t2, rfl⟩ := ru; cases h; exact RcNeAt.int_int i t1 j t2
    | str y zy => obtain ⟨t2, rfl⟩ := ru; cases h; exact RcNeAt.int_str i t1 y t2
    | tup h2 z2 r2 => cases ru; obtain ⟨its2, w2, q2⟩ := isT I (sb.sqT h2); cases h; exact RcNeAt.int_tuple i t1 q2 hu
    | lst h2 z2 r2 => cases ru; obtain ⟨its2, w2, q2⟩ := isL I (.inl (.inl (sb.lst h2))); cases h; exact RcNeAt.int_list i t1 q2 hu
    | frl h2 z2 r2 => cases ru; obtain ⟨its2, w2, q2⟩ := isL I (sb.sqL h2); cases h; exact RcNeAt.int_list i t1 q2 hu
    | dct h2 _ r2 => cases h
    | dcT h2 _ r2 => cases h
    | ins h2 r2 => cases h
    | ty m => cases h
    | al m => cases h
  | str x zx =>
    obtain ⟨t1, rfl⟩ := rv
    cases ry with
    | non => cases ru; cases h; exact RcNeAt.str_none x t1
    | bl b => cases ru; cases h; exact RcNeAt.str_bool x t1 b
    | int j => obtain ⟨t2, rfl⟩ := ru; cases h; exact RcNeAt.str_int x t1 j t2
    | str y zy => obtain ⟨t2, rfl⟩ := ru; cases h; exact RcNeAt.str_str x t1 y t2
    | tup h2 z2 r2 => cases ru; obtain ⟨its2, w2, q2⟩ := isT I (sb.sqT h2); cases h; exact RcNeAt.str_tuple x t1 q2 hu
    | lst h2 z2 r2 => cases ru; obtain ⟨its2, w2, q2⟩ := isL I (.inl (.inl (sb.lst h2))); cases h; exact RcNeAt.str_list x t1 q2 hu
    | frl h2 z2 r2 => cases ru; obtain ⟨its2, w2, q2⟩ := isL I (sb.sqL h2); cases h; exact RcNeAt.str_list x t1 q2 hu
    | dct h2 _ r2 => cases h
    | dcT h2 _ r2 => cases h
    | ins h2 r2 => cases h
    | ty m => cases h
    | al m => cases h
  | tup h1 z1 r1 =>
    cases rv; obtain ⟨its1, w1, q1⟩ := isT I (sb.sqT h1)
    cases ry with
    | non => cases ru; cases h; exact RcNeAt.tuple_none q1 hu
    | bl b => cases ru; cases h; exact RcNeAt.tuple_bool b q1 hu
    | int j => obtain ⟨t2, rfl⟩ := ru; cases h; exact RcNeAt.tuple_int j t2 q1 hu
    | str y zy => obtain ⟨t2, rfl⟩ := ru; cases h; exact RcNeAt.tuple_str y t2 q1 hu
    | tup h2 z2 r2 => cases ru; obtain ⟨its2, w2, q2⟩ := isT I (sb.sqT h2); exact rcNeAt_step_tups I sb hu hf (sb.sqT h1) (sb.sqT h2) q1 q2 w1 w2 r1 r2 h
    | lst h2 z2 r2 => cases ru; obtain ⟨its2, w2, q2⟩ := isL I (.inl (.inl (sb.lst h2))); cases h; exact RcNeAt.tuple_list q1 q2 hu
    | frl h2 z2 r2 => cases ru; obtain ⟨its2, w2, q2⟩ := isL I (sb.sqL h2); cases h; exact RcNeAt.tuple_list q1 q2 hu
    | dct h2 _ r2 => cases h
    | dcT h2 _ r2 => cases h
    | ins h2 r2 => cases h
    | ty m => cases h
    | al m => cases h
  | lst h1 z1 r1 =>
    cases rv; obtain ⟨its1, w1, q1⟩ := isL I (.inl (.inl (sb.lst h1)))
    cases ry with
    | non => cases ru; cases h; exact RcNeAt.list_none q1 hu
    | bl b => cases ru; cases h; exact RcNeAt.list_bool b q1 hu
    | int j => obtain ⟨t2, rfl⟩ := ru; cases h; exact RcNeAt.list_int j t2 q1 hu
    | str y zy => obtain ⟨t2, rfl⟩ := ru; cases h; exact RcNeAt.list_str y t2 q1 hu
    | tup h2 z2 r2 => cases ru; obtain ⟨its2, w2, q2⟩ := isT I (sb.sqT h2); cases h; exact RcNeAt.list_tuple q1 q2 hu
    | lst h2 z2 r2 => cases ru; obtain ⟨its2, w2, q2⟩ := isL I (.inl (.inl (sb.lst h2))); exact rcNeAt_step_lists I sb hu hf (.inl (.inl (sb.lst h1))) (.inl (.inl (sb.lst h2))) q1 q2 w1 w2 r1 r2 h
    | frl h2 z2 r2 => cases ru; obtain ⟨its2, w2, q2⟩ := isL I (sb.sqL h2); exact rcNeAt_step_lists I sb hu hf (.inl (.inl (sb.lst h1))) (sb.sqL h2) q1 q2 w1 w2 r1 r2 h
    | dct h2 _ r2 => cases h
    | dcT h2 _ r2 => cases h
    | ins h2 r2 => cases h
    | ty m => cases h
    | al m => cases h
  | frl h1 z1 r1 =>
    cases rv; obtain ⟨its1, w1, q1⟩ := isL I (sb.sqL h1)
    cases ry with
    | non => cases ru; cases h; exact RcNeAt.list_none q1 hu
    | bl b => cases ru; cases h; exact RcNeAt.list_bool b q1 hu
    | int j => obtain ⟨t2, rfl⟩ := ru; cases h; exact RcNeAt.list_int j t2 q1 hu
    | str y zy => obtain ⟨t2, rfl⟩ := ru; cases h; exact RcNeAt.list_str y t2 q1 hu
    | tup h2 z2 r2 => cases ru; obtain ⟨its2, w2, q2⟩ := isT I (sb.sqT h2); cases h; exact RcNeAt.list_tuple q1 q2 hu
    | lst h2 z2 r2 => cases ru; obtain ⟨its2, w2, q2⟩ := isL I (.inl (.inl (sb.lst h2))); exact rcNeAt_step_lists I sb hu hf (sb.sqL h1) (.inl (.inl (sb.lst h2))) q1 q2 w1 w2 r1 r2 h
    | frl h2 z2 r2 => cases ru; obtain ⟨its2, w2, q2⟩ := isL I (sb.sqL h2); exact rcNeAt_step_lists I sb hu hf (sb.sqL h1) (sb.sqL h2) q1 q2 w1 w2 r1 r2 h
    | dct h2 _ r2 => cases h
    | dcT h2 _ r2 => cases h
    | ins h2 r2 => cases h
    | ty m => cases h
    | al m => cases h
  | dct h1 _ r1 => cases ry <;> cases h
  | dcT h1 _ r1 => cases ry <;> cases h
  | ins h1 r1 => cases ry <;> cases h
  | ty n => cases ry <;> cases h
  | al n => cases ry <;> cases h
theorem deqF_same (I : Inv X pins σ H s) (sb : Sb F H) {f : D → D → Option Bool} (hs : ∀ x d e b, Rep X.K F x d → Rep X.K F x e → f d e = some b → b = true) {x : V} {d e : D} {b : Bool} (r1 : Rep X.K F x d) (r2 : Rep X.K F x e) (h : deqF f d e = some b) : b = true := by
  have seqs : ∀ {xs : List V} {ds es : List D} {c : Bool}, RepL X.K F xs ds → RepL X.K F xs es → deqL f ds es = some c → c = true := fun {xs ds es c} p q hq => by
    obtain ⟨g, hg, rfl⟩ := deqL_at hq
    exact List.all_eq_true.mpr fun j hj => by
      have hj := List.mem_range.mp hj
      obtain ⟨x, hx, px⟩ := p.get' (List.getElem?_eq_getElem (show j < xs.length by rw [p.length]; omega))
      obtain ⟨y, hy, py⟩ := q.get' (List.getElem?_eq_getElem (show j < xs.length by rw [p.length]; omega))
      exact hs _ _ _ _ px py (hg j x y hx hy)
  have lst : ∀ {a : Addr} {xs ys : List V} {ds es : List D} {c : Bool}, SqL X.K H a xs → SqL X.K H a ys → RepL X.K F xs ds → RepL X.K F ys es → (if ds.length == es.length then deqL f ds es else some false) = some c → c = true := fun {a xs ys ds es c} p q r t hq => by
    have e := I.list_inj p q
    subst e
    have le : ds.length = es.length := by rw [← r.length, ← t.length]
    rw [if_pos (by rw [le]; exact beq_self_eq_true _)] at hq
    exact seqs r t hq
  cases r1 with
  | non => cases r2; cases h; rfl
  | bl a => cases r2; cases h; exact beq_self_eq_true _
  | int a => cases r2; cases h; exact beq_self_eq_true _
  | str a z => cases r2; cases h; exact beq_self_eq_true _
  | ty n => cases r2; cases h
  | al n => cases r2 <;> cases h
  | dct h1 _ r => cases r2 <;> cases h
  | dcT h1 _ r => cases r2 <;> cases h
  | ins h1 r => cases r2 <;> cases h
  | lst h1 z r => cases r2 with
    | lst h2 z2 t => exact lst (.inl (.inl (sb.lst h1))) (.inl (.inl (sb.lst h2))) r t h
    | frl h2 z2 t => exact lst (.inl (.inl (sb.lst h1))) (sb.sqL h2) r t h
    | tup h2 z2 t =>
      obtain ⟨i1, _, q1⟩ := isL I (.inl (.inl (sb.lst h1)))
      obtain ⟨i2, _, q2⟩ := isT I (sb.sqT h2)
      exact absurd rfl (ne_of_list_tuple q1 q2)
    | _ => cases h
  | frl h1 z r => cases r2 with
    | lst h2 z2 t => exact lst (sb.sqL h1) (.inl (.inl (sb.lst h2))) r t h
    | frl h2 z2 t => exact lst (sb.sqL h1) (sb.sqL h2) r t h
    | tup h2 z2 t =>
      obtain ⟨i1, _, q1⟩ := isL I (sb.sqL h1)
      obtain ⟨i2, _, q2⟩ := isT I (sb.sqT h2)
      exact absurd rfl (ne_of_list_tuple q1 q2)
    | _ => cases h
  | tup h1 z r => cases r2 with
    | lst h2 z2 t =>
      obtain ⟨i1, _, q1⟩ := isL I (.inl (.inl (sb.lst h2)))
      obtain ⟨i2, _, q2⟩ := isT I (sb.sqT h1)
      exact absurd rfl (ne_of_list_tuple q1 q2)
    | frl h2 z2 t =>
      obtain ⟨i1, _, q1⟩ := isL I (sb.sqL h2)
      obtain ⟨i2, _, q2⟩ := isT I (sb.sqT h1)
      exact absurd rfl (ne_of_list_tuple q1 q2)
    | tup h2 z2 t =>
      have e := I.tuple_inj (sb.sqT h1) (sb.sqT h2)
      subst e
      have h : (deqL f _ _).map (· && (_ == _)) = some b := h
      cases hq : deqL f _ _ with
      | none => rw [hq] at h; cases h
      | some c =>
        rw [hq] at h
        cases h
        rw [seqs r t hq, show List.length _ = List.length _ from r.length.symm.trans t.length, beq_self_eq_true]
        rfl
    | _ => cases h
theorem deq_same (I : Inv X pins σ H s) (sb : Sb F H) : ∀ (n : Nat) (x : V) (d e : D) (b : Bool), Rep X.K F x d → Rep X.K F x e → deq n d e = some b → b = true
  | 0, x, d, e, b, r1, r2, h => deqF_same I sb (fun _ _ _ _ _ _ h => (by cases h)) r1 r2 h
  | n + 1, x, d, e, b, r1, r2, h => deqF_same I sb (fun x d e b => deq_same I sb n x d e b) r1 r2 h
theorem deq_eqAt (I : Inv X pins σ H s) (sb : Sb F H) : ∀ (n : Nat) (A : Around), A.units + n < cLine → ∀ (x y : V) (d e : D) (b : Bool) (v u : Value), Rep X.K F x d → Rep X.K F y e → RelV x v → RelV y u → deq n d e = some b → EqAt A s v u b
  | 0, A, hu, x, y, d, e, b, v, u, r1, r2, p1, p2, h => eqAt_step I sb hu (fun _ _ _ _ _ _ _ _ _ _ _ h => (by cases h)) (fun _ _ _ _ _ _ h => (by cases h)) r1 r2 p1 p2 h
  | n + 1, A, hu, x, y, d, e, b, v, u, r1, r2, p1, p2, h => eqAt_step I sb (by omega) (deq_eqAt I sb n A.in1 (by show A.units + 1 + n < cLine; omega)) (fun x d e b => deq_same I sb n x d e b) r1 r2 p1 p2 h
def rEqX (K : PySem.W.Frag) : R2 := fun x y H Q => ∃ F d e b, Sb F H ∧ Rep K F x d ∧ Rep K F y e ∧ deq 60 d e = some b ∧ Q (.bl b) H
def rNeX (K : PySem.W.Frag) : R2 := fun x y H Q => ∃ F d e b, Sb F H ∧ Rep K F x d ∧ Rep K F y e ∧ deq 60 d e = some b ∧ Q (.bl (!b)) H
theorem op_eqX (hu : X.A.units + 64 < cLine) : OpR X (compareOp .Eq) (rEqX X.K) := by
  intro pins s σ H x y v u Q I rx ry h
  obtain ⟨F, d, e, b, sb, r1, r2, hq, q⟩ := h
  exact rcAt_step I sb (by omega) (deq_eqAt I sb 59 X.A.in1 (by show X.A.units + 1 + 59 < cLine; omega)) r1 r2 rx ry hq X.prog X.w _ _ ⟨.bl b, H, I, rfl, q⟩
theorem op_neX (hu : X.A.units + 64 < cLine) : OpR X (compareOp .NotEq) (rNeX X.K) := by
  intro pins s σ H x y v u Q I rx ry h
  obtain ⟨F, d, e, b, sb, r1, r2, hq, q⟩ := h
  exact rcNeAt_step I sb (by omega) (deq_eqAt I sb 59 X.A.in1 (by show X.A.units + 1 + 59 < cLine; omega)) r1 r2 rx ry hq X.prog X.w _ _ ⟨.bl (!b), H, I, rfl, q⟩
end

end Tr
/-! The tree layer: operations. -/
namespace Tr
open PySem PySem.Spec PyProof.Rows L2

/-! ### data as the library's data -/
mutual
def D.py : D → PyData
  | .non => .none
  | .bl b => .bool b
  | .int i => .int i
  | .str x => .str x
  | .tup ds => .tuple (D.pyL ds)
  | .lst ds => .list (D.pyL ds)
  | .frl ds => .list (D.pyL ds)
  | .dct _ => .none
  | .dcT _ => .none
  | .ins _ _ => .none
  | .ty _ => .none
  | .al _ => .none
def D.pyL : List D → List PyData
  | [] => []
  | d :: ds => D.py d :: D.pyL ds
end
mutual
/-- made of None, truths, whole numbers, texts, lists and tuples alone -/
def D.plain : D → Bool
  | .tup ds => D.plainL ds
  | .lst ds => D.plainL ds
  | .frl ds => D.plainL ds
  | .dct _ => false
  | .dcT _ => false
  | .ins _ _ => false
  | .ty _ => false
  | .al _ => false
  | _ => true
def D.plainL : List D → Bool
  | [] => true
  | d :: ds => D.plain d && D.plainL ds
end
theorem D.pyL_map (ds : List D) : D.pyL ds = ds.map D.py := by
  induction ds with
  | nil => rfl
  | cons d r ih => show D.py d :: D.pyL r = _; rw [ih]; rfl
section
variable {K : PySem.W.Frag} {F H : Hp}
mutual
theorem Rep.dp (sb : Sb F H) : ∀ {v : V} {d : D}, Rep K F v d → d.plain = true → Dp K H v d.py
  | _, _, .non, _ => .non
  | _, _, .bl b, _ => .bl b
  | _, _, .int i, _ => .int i
  | _, _, .str x _, _ => .str x
  | _, _, .tup h _ r, p => .tup (sb.sqT h) (RepL.dp sb r p)
  | _, _, .lst h _ r, p => .lst (.inl (.inl (sb.lst h))) (RepL.dp sb r p)
  | _, _, .frl h _ r, p => .lst (sb.sqL h) (RepL.dp sb r p)
theorem RepL.dp (sb : Sb F H) : ∀ {v : List V} {d : List D}, RepL K F v d → D.plainL d = true → DpAll K H v (D.pyL d)
  | _, _, .nil, _ => .nil
  | _, d :: ds, .cons h r, p => .cons (Rep.dp sb h (by
      have p : (D.plain d && D.plainL ds) = true := p
      exact (Bool.and_eq_true _ _ ▸ p).1)) (RepL.dp sb r (by
      have p : (D.plain d && D.plainL ds) = true := p
      exact (Bool.and_eq_true _ _ ▸ p).2))
end
end
/-- it can be held against others -/
def D.eqs (d : D) : Prop := d.plain = true ∧ SeqAt.shaped d.py = true
/-- a flat thing as a value -/
def D.v : D → V
  | .non => .non
  | .bl b => .bl b
  | .int i => .int i
  | .str x => .str x
  | _ => .non
def D.flat : D → Bool
  | .non => true
  | .bl _ => true
  | .int _ => true
  | .str _ => true
  | _ => false
theorem Rep.flat {K : PySem.W.Frag} {F : Hp} {x : V} {d : D} (r : Rep K F x d) (h : d.flat = true) : x = d.v ∧ flatV x = true := by
  cases r <;> first
    | exact ⟨rfl, rfl⟩
    | exact absurd h Bool.false_ne_true
theorem RepL.flat {K : PySem.W.Frag} {F : Hp} : ∀ {xs : List V} {ds : List D}, RepL K F xs ds → ds.all D.flat = true → xs = ds.map D.v ∧ xs.all flatV = true
  | _, _, .nil, _ => ⟨rfl, rfl⟩
  | _, _, .cons h r, q => by
    rw [List.all_cons, Bool.and_eq_true] at q
    obtain ⟨e1, f1⟩ := h.flat q.1
    obtain ⟨e2, f2⟩ := RepL.flat r q.2
    exact ⟨by rw [e1, e2]; rfl, by rw [List.all_cons, f1, f2]; rfl⟩
theorem str_len_add (x y : Str) : (x ++ y).length = x.length + y.length := by
  show (x.cps ++ y.cps).size = _
  rw [Array.size_append]
  rfl

/-! ### arithmetic -/
section
variable {K : PySem.W.Frag} {X : Cx}
def semAdd (d e : D) (P : O → Prop) : Prop := match d, e with
  | .int i, .int j => P (.fz (.int (i + j)))
  | .str x, .str y => x.length + y.length ≤ sizeLine ∧ P (.fz (.str (x ++ y)))
  | .tup xs, .tup ys => xs.length + ys.length ≤ sizeLine ∧ P (.fz (.tup (xs ++ ys)))
  | .lst xs, .lst ys => xs.length + ys.length ≤ sizeLine ∧ ∀ a, P (.lst a ((xs ++ ys).map .fz))
  | _, _ => False
def rAddT (K : PySem.W.Frag) : R2 := fun x y H Q => (rI0 (fun i j => .int (i + j)) x y H Q ∨ ∃ i j, x = .str i ∧ y = .str j ∧ i.length + j.length ≤ sizeLine ∧ Q (.str (i ++ j)) H) ∨ rCatA K x y H Q ∨ rCat x y H Q
theorem op_addT : OpR X (binaryOp .Add) (rAddT X.K) := (op_add.or op_add_str).or (op_catA.or op_cat)
theorem sem_add : SemR K (rAddT K) semAdd := by
  intro F H x y d e P Q sb rx ry hs k
  unfold semAdd at hs
  split at hs
  · cases rx; cases ry
    exact .inl (.inl ⟨_, _, rfl, rfl, k _ _ _ _ hs (.fz (.int _))⟩)
  · cases rx; cases ry
    exact .inl (.inr ⟨_, _, rfl, rfl, hs.1, k _ _ _ _ hs.2 (.fz (.str _ (by rw [str_len_add]; exact hs.1)))⟩)
  · rename_i xs ys
    cases rx with
    | @tup a vs _ h1 z1 r1 =>
    cases ry with
    | @tup b ws _ h2 z2 r2 =>
    refine .inr (.inl ⟨_, _, vs, ws, rfl, rfl, sb.sqT h1, sb.sqT h2, by rw [r1.length, r2.length]; exact hs.1, fun e0 => ?_, fun _ e0 => ?_, fun _ _ p hp => ?_⟩)
    · subst e0
      cases r1
      exact k _ _ _ _ hs.2 (.fz (.tup h2 z2 r2))
    · subst e0
      cases r2
      refine k _ _ _ _ hs.2 (.fz ?_)
      rw [List.append_nil]
      exact .tup h1 z1 r1
    · exact k _ _ _ _ hs.2 (.tup sb hp (by rw [List.length_append]; exact hs.1) (r1.append r2))
  · rename_i xs ys
    cases rx with
    | lst h1 z1 r1 =>
    cases ry with
    | lst h2 z2 r2 =>
    exact .inr (.inr ⟨_, _, _, _, rfl, rfl, sb.lst h1, sb.lst h2, by rw [r1.length, r2.length]; exact hs.1, fun p hp => k _ _ _ _ (hs.2 p) (.lst hp (by rw [List.length_append]; exact hs.1) (r1.append r2))⟩)
  · exact hs.elim
def semSub (d e : D) (P : O → Prop) : Prop := match d, e with
  | .int i, .int j => P (.fz (.int (i - j)))
  | _, _ => False
theorem sem_sub : SemR K (rI0 fun i j => .int (i - j)) semSub := by
  intro F H x y d e P Q sb rx ry hs k
  unfold semSub at hs
  split at hs
  · cases rx; cases ry
    exact ⟨_, _, rfl, rfl, k _ _ _ _ hs (.fz (.int _))⟩
  · exact hs.elim
theorem tuple_mul1 (l : Addr) (items : Array Value) (n : Nat) (dd : Option Addr) (sl : Array (Option Value)) (u : Tok) :
    Meets (Builtin.«tuple.__mul__» ⟨[.ref l, .int 1 u], []⟩) (fun _ R s => s.heap.get? l = some { cls := .type "tuple", dict := dd, data := .seq items n, slots := sl } ∧ R (.ok (.ret (.ref l))) s) :=
  .of_wp fun prog w A R s h => by
    obtain ⟨hp, g, d, tk, os⟩ := s
    obtain ⟨hl, h⟩ := h
    have f1 := AutoSeq1.idx_int
    have c1 : (items.isEmpty || (1 : Int) == 1) = true := by simp
    wp_walk using wpAny_loadPart' hl
    exact ⟨_, rfl, h⟩
/-- a tuple once: itself -/
def rRep1 (K : PySem.W.Frag) : R2 := fun x y H Q => ∃ l xs, x = .ref l ∧ y = .int 1 ∧ SqT K H l xs ∧ Q (.ref l) H
theorem op_rep1 {X : Cx} : OpR X (binaryOp .Mult) (rRep1 X.K) := by
  intro pins s σ H x y v u Q I rx ry h
  obtain ⟨l, xs, rfl, rfl, hT, q⟩ := h
  cases rx
  obtain ⟨t, rfl⟩ := ry
  obtain ⟨its, r, ⟨⟨cls, dd, data, sl⟩, ho, hc, n, hd⟩, hs⟩ := I.tuple hT
  simp only at hc hd
  subst hc hd
  exact wpAny_binaryOp_repeat_ref (T := "tuple") (U := "int") (by decide) ⟨_, ho, rfl⟩ (fun s' => typeIs_int s' 1 t) noFill_tuple_mul F.fills_int_mul F.slot_int_rmul repeat_tuple F.slot_int_index.lookup
    (call_meets F.slot_int_rmul (typeIs_int s 1 t) F.entry_int_rmul (F.args_int_rmul_2 _ _) (int_rmul_tuple 1 t l its.toArray n dd sl)
      ⟨ho, rfl, ⟨_, ho, rfl⟩, call_meets F.slot_tuple_mul ⟨_, ho, rfl⟩ F.entry_tuple_mul (F.args_tuple_mul_2 _ _) (tuple_mul1 l its.toArray n dd sl t) ⟨ho, .ref l, H, I, rfl, q⟩⟩)
def semMul (d e : D) (P : O → Prop) : Prop := match d, e with
  | .int i, .int j => CMulW i j ∧ P (.fz (.int (i * j)))
  | .lst xs, .int k => -(2 ^ 63) ≤ k ∧ k < 2 ^ 63 ∧ xs.length * k.toNat ≤ sizeLine ∧ ∀ a, P (.lst a ((List.replicate k.toNat xs).flatten.map .fz))
  | .tup xs, .int k => 1 ≤ k ∧ k ≤ 1000 ∧ xs.length ≤ 1000 ∧ xs.isEmpty = false ∧ P (.fz (.tup (List.replicate k.toNat xs).flatten))
  | _, _ => False
theorem RepL.rep {F : Hp} {vs : List V} {ds : List D} (r : RepL K F vs ds) : ∀ n : Nat, RepL K F (List.replicate n vs).flatten (List.replicate n ds).flatten
  | 0 => .nil
  | n + 1 => by
    rw [List.replicate_succ, List.replicate_succ, List.flatten_cons, List.flatten_cons]
    exact r.append (RepL.rep r n)
def rMulT (K : PySem.W.Frag) : R2 := fun x y H Q => (rI CMulW (fun i j => .int (i * j)) x y H Q ∨ rRep x y H Q) ∨ (rRepT K x y H Q ∨ rRep1 K x y H Q)
theorem sem_mul : SemR K (rMulT K) semMul := by
  intro F H x y d e P Q sb rx ry hs k
  unfold semMul at hs
  split at hs
  · cases rx; cases ry
    exact .inl (.inl ⟨_, _, rfl, rfl, hs.1, k _ _ _ _ hs.2 (.fz (.int _))⟩)
  · rename_i xs n
    cases ry
    cases rx with
    | lst h1 z1 r1 =>
    refine .inl (.inr ⟨_, _, _, rfl, rfl, sb.lst h1, hs.1, hs.2.1, by rw [r1.length]; exact hs.2.2.1, fun p hp => k _ _ _ _ (hs.2.2.2 p) (.lst hp ?_ (r1.rep _))⟩)
    rw [List.length_flatten, List.map_replicate, List.sum_replicate_nat, Nat.mul_comm]
    exact hs.2.2.1
  · rename_i xs n
    cases ry
    cases rx with
    | tup h1 z1 r1 =>
    obtain ⟨h2, h3, h4, h5, h6⟩ := hs
    by_cases e : n = 1
    · subst e
      refine .inr (.inr ⟨_, _, rfl, rfl, sb.sqT h1, k _ _ _ _ h6 (.fz ?_)⟩)
      show Rep K F _ (.tup (xs ++ []))
      rw [List.append_nil]
      exact .tup h1 z1 r1
    · have len : (List.replicate n.toNat xs).flatten.length ≤ sizeLine := by
        rw [List.length_flatten, List.map_replicate, List.sum_replicate_nat, sizeLine_eq]
        have a1 : n.toNat * xs.length ≤ 1000 * 1000 := Nat.mul_le_mul (by omega) h4
        omega
      refine .inr (.inl ⟨_, _, _, rfl, rfl, sb.sqT h1, fun e0 => ?_, by omega, h3, by rw [r1.length]; exact h4, fun p hp => k _ _ _ _ h6 (.tup sb hp len (r1.rep _))⟩)
      subst e0
      cases r1
      cases h5
  · exact hs.elim
theorem op_mulT : OpR X (binaryOp .Mult) (rMulT X.K) := (op_mulW.or op_rep).or (op_repT.or op_rep1)
def semMod (d e : D) (P : O → Prop) : Prop := match d, e with
  | .int i, .int j => 0 < j ∧ P (.fz (.int (i % j)))
  | _, _ => False
theorem sem_mod : SemR K (rI (fun _ j => 0 < j) fun i j => .int (i % j)) semMod := by
  intro F H x y d e P Q sb rx ry hs k
  unfold semMod at hs
  split at hs
  · cases rx; cases ry
    exact ⟨_, _, rfl, rfl, hs.1, k _ _ _ _ hs.2 (.fz (.int _))⟩
  · exact hs.elim
def semDiv (d e : D) (P : O → Prop) : Prop := match d, e with
  | .int i, .int j => CDivW i j ∧ P (.fz (.int (i / j)))
  | _, _ => False
theorem sem_div : SemR K (rI CDivW fun i j => .int (i / j)) semDiv := by
  intro F H x y d e P Q sb rx ry hs k
  unfold semDiv at hs
  split at hs
  · cases rx; cases ry
    exact ⟨_, _, rfl, rfl, hs.1, k _ _ _ _ hs.2 (.fz (.int _))⟩
  · exact hs.elim
def semPow (d e : D) (P : O → Prop) : Prop := match d, e with
  | .int i, .int j => CPow i j ∧ P (.fz (.int (i ^ j.toNat)))
  | _, _ => False
theorem sem_pow : SemR K (rI CPow fun i j => .int (i ^ j.toNat)) semPow := by
  intro F H x y d e P Q sb rx ry hs k
  unfold semPow at hs
  split at hs
  · cases rx; cases ry
    exact ⟨_, _, rfl, rfl, hs.1, k _ _ _ _ hs.2 (.fz (.int _))⟩
  · exact hs.elim

/-! ### comparisons -/
def semEq (d e : D) (P : D → Prop) : Prop := match d, e with
  | .int i, .int j => P (.bl (decide (i = j)))
  | .str x, .str y => P (.bl (decide (x = y)))
  | d, e => ∃ b, deq 60 d e = some b ∧ P (.bl b)
def semNe (d e : D) (P : D → Prop) : Prop := match d, e with
  | .int i, .int j => P (.bl (!decide (i = j)))
  | .str x, .str y => P (.bl (!decide (x = y)))
  | d, e => ∃ b, deq 60 d e = some b ∧ P (.bl (!b))
theorem op_eqT (hu : X.A.units + 64 < cLine) : OpR X (compareOp .Eq) (fun x y H Q => rEq x y H Q ∨ rEqX X.K x y H Q) := op_eq.or (op_eqX hu)
theorem op_neT (hu : X.A.units + 64 < cLine) : OpR X (compareOp .NotEq) (fun x y H Q => rNe x y H Q ∨ rNeX X.K x y H Q) := op_ne.or (op_neX hu)
theorem decV_int (i j : Int) : decide (V.int i = V.int j) = decide (i = j) := by
  rw [Bool.eq_iff_iff]; simp
theorem decV_str (i j : Str) : decide (V.str i = V.str j) = decide (i = j) := by
  rw [Bool.eq_iff_iff]; simp
theorem sem_eq : SemS K (fun x y H Q => rEq x y H Q ∨ rEqX K x y H Q) semEq := by
  intro F H x y d e P Q sb rx ry hs k
  unfold semEq at hs
  split at hs
  · cases rx; cases ry
    exact .inl ⟨rfl, by rw [decV_int]; exact k _ _ hs fun _ => .bl _⟩
  · cases rx; cases ry
    exact .inl ⟨rfl, by rw [decV_str]; exact k _ _ hs fun _ => .bl _⟩
  · obtain ⟨b, hq, h⟩ := hs
    exact .inr ⟨F, _, _, b, sb, rx, ry, hq, k _ _ h fun _ => .bl _⟩
theorem sem_ne : SemS K (fun x y H Q => rNe x y H Q ∨ rNeX K x y H Q) semNe := by
  intro F H x y d e P Q sb rx ry hs k
  unfold semNe at hs
  split at hs
  · cases rx; cases ry
    exact .inl ⟨rfl, by rw [decV_int]; exact k _ _ hs fun _ => .bl _⟩
  · cases rx; cases ry
    exact .inl ⟨rfl, by rw [decV_str]; exact k _ _ hs fun _ => .bl _⟩
  · obtain ⟨b, hq, h⟩ := hs
    exact .inr ⟨F, _, _, b, sb, rx, ry, hq, k _ _ h fun _ => .bl _⟩
def semLt (d e : D) (P : D → Prop) : Prop := match d, e with
  | .int i, .int j => P (.bl (decide (i < j)))
  | .str x, .str y => P (.bl (decide (x.cps.toList < y.cps.toList)))
  | _, _ => False
theorem op_ltT' : OpR X (compareOp .Lt) (fun x y H Q => rI0 (fun i j => .bl (decide (i < j))) x y H Q ∨ ∃ i j, x = .str i ∧ y = .str j ∧ Q (.bl (decide (i.cps.toList < j.cps.toList))) H) := op_lt.or op_lt_str
theorem sem_lt : SemS K (fun x y H Q => rI0 (fun i j => .bl (decide (i < j))) x y H Q ∨ ∃ i j, x = .str i ∧ y = .str j ∧ Q (.bl (decide (i.cps.toList < j.cps.toList))) H) semLt := by
  intro F H x y d e P Q sb rx ry hs k
  unfold semLt at hs
  split at hs
  · cases rx; cases ry
    exact .inl ⟨_, _, rfl, rfl, k _ _ hs fun _ => .bl _⟩
  · cases rx; cases ry
    exact .inr ⟨_, _, rfl, rfl, k _ _ hs fun _ => .bl _⟩
  · exact hs.elim
def semLe (d e : D) (P : D → Prop) : Prop := match d, e with
  | .int i, .int j => P (.bl (decide (i ≤ j)))
  | .str x, .str y => P (.bl (!decide (y.cps.toList < x.cps.toList)))
  | _, _ => False
theorem op_leT' : OpR X (compareOp .LtE) (fun x y H Q => rI0 (fun i j => .bl (decide (i ≤ j))) x y H Q ∨ ∃ i j, x = .str i ∧ y = .str j ∧ Q (.bl (!decide (j.cps.toList < i.cps.toList))) H) := op_le.or op_le_str
theorem sem_le : SemS K (fun x y H Q => rI0 (fun i j => .bl (decide (i ≤ j))) x y H Q ∨ ∃ i j, x = .str i ∧ y = .str j ∧ Q (.bl (!decide (j.cps.toList < i.cps.toList))) H) semLe := by
  intro F H x y d e P Q sb rx ry hs k
  unfold semLe at hs
  split at hs
  · cases rx; cases ry
    exact .inl ⟨_, _, rfl, rfl, k _ _ hs fun _ => .bl _⟩
  · cases rx; cases ry
    exact .inr ⟨_, _, rfl, rfl, k _ _ hs fun _ => .bl _⟩
  · exact hs.elim
def semGt (d e : D) (P : D → Prop) : Prop := match d, e with
  | .int i, .int j => P (.bl (decide (j < i)))
  | .str x, .str y => P (.bl (decide (y.cps.toList < x.cps.toList)))
  | _, _ => False
theorem op_gtT' : OpR X (compareOp .Gt) (fun x y H Q => rI0 (fun i j => .bl (decide (j < i))) x y H Q ∨ ∃ i j, x = .str i ∧ y = .str j ∧ Q (.bl (decide (j.cps.toList < i.cps.toList))) H) := op_gt.or op_gt_str
theorem sem_gt : SemS K (fun x y H Q => rI0 (fun i j => .bl (decide (j < i))) x y H Q ∨ ∃ i j, x = .str i ∧ y = .str j ∧ Q (.bl (decide (j.cps.toList < i.cps.toList))) H) semGt := by
  intro F H x y d e P Q sb rx ry hs k
  unfold semGt at hs
  split at hs
  · cases rx; cases ry
    exact .inl ⟨_, _, rfl, rfl, k _ _ hs fun _ => .bl _⟩
  · cases rx; cases ry
    exact .inr ⟨_, _, rfl, rfl, k _ _ hs fun _ => .bl _⟩
  · exact hs.elim
def semGe (d e : D) (P : D → Prop) : Prop := match d, e with
  | .int i, .int j => P (.bl (decide (j ≤ i)))
  | .str x, .str y => P (.bl (!decide (x.cps.toList < y.cps.toList)))
  | _, _ => False
theorem op_geT' : OpR X (compareOp .GtE) (fun x y H Q => rI0 (fun i j => .bl (decide (j ≤ i))) x y H Q ∨ ∃ i j, x = .str i ∧ y = .str j ∧ Q (.bl (!decide (i.cps.toList < j.cps.toList))) H) := op_ge.or op_ge_str
theorem sem_ge : SemS K (fun x y H Q => rI0 (fun i j => .bl (decide (j ≤ i))) x y H Q ∨ ∃ i j, x = .str i ∧ y = .str j ∧ Q (.bl (!decide (i.cps.toList < j.cps.toList))) H) semGe := by
  intro F H x y d e P Q sb rx ry hs k
  unfold semGe at hs
  split at hs
  · cases rx; cases ry
    exact .inl ⟨_, _, rfl, rfl, k _ _ hs fun _ => .bl _⟩
  · cases rx; cases ry
    exact .inr ⟨_, _, rfl, rfl, k _ _ hs fun _ => .bl _⟩
  · exact hs.elim
/-- the items of a list or a tuple -/
def D.items : D → Option (List D)
  | .tup ds => some ds
  | .lst ds => some ds
  | .frl ds => some ds
  | _ => none
theorem Rep.seq {F H : Hp} {v : V} {d : D} {ds : List D} (r : Rep K F v d) (sb : Sb F H) (h : d.items = some ds) : ∃ p xs, v = .ref p ∧ (SqL K H p xs ∨ SqT K H p xs) ∧ RepL K F xs ds ∧ ds.length ≤ sizeLine := by
  cases r <;> first
    | (cases h; done)
    | skip
  all_goals (have h' := Option.some.inj h; subst h')
  · rename_i h1 z r; exact ⟨_, _, rfl, .inr (sb.sqT h1), r, z⟩
  · rename_i h1 z r; exact ⟨_, _, rfl, .inl (.inl (.inl (sb.lst h1))), r, z⟩
  · rename_i h1 z r; exact ⟨_, _, rfl, .inl (sb.sqL h1), r, z⟩
/-- d in e -/
def semInB (neg : Bool) (d e : D) (P : D → Prop) : Prop := match e with
  | .str z => ∃ c, d = .str ⟨#[c]⟩ ∧ P (.bl (if neg then !decide (c ∈ z.cps.toList) else decide (c ∈ z.cps.toList)))
  | e => ∃ ds, e.items = some ds ∧ d.flat = true ∧ ds.all D.flat = true ∧ P (.bl (if neg then !(ds.any fun z => eqV z.v d.v) else ds.any fun z => eqV z.v d.v))
def rInT (K : PySem.W.Frag) (neg : Bool) : R2 := fun x y H Q => (∃ (c : Nat) (z : Str), x = .str ⟨#[c]⟩ ∧ y = .str z ∧ Q (.bl (if neg then !decide (c ∈ z.cps.toList) else decide (c ∈ z.cps.toList))) H) ∨ rIn K neg x y H Q
theorem op_inT : OpR X (compareOp .In) (rInT X.K false) := op_in_sign.or op_in_seq
theorem op_notInT : OpR X (compareOp .NotIn) (rInT X.K true) := op_notIn_sign.or op_notIn_seq
theorem sem_in (neg : Bool) : SemS K (rInT K neg) (semInB neg) := by
  intro F H x y d e P Q sb rx ry hs k
  unfold semInB at hs
  split at hs
  · obtain ⟨c, rfl, h⟩ := hs
    cases rx; cases ry
    exact .inl ⟨c, _, rfl, rfl, k _ _ h fun _ => .bl _⟩
  · obtain ⟨ds, hi, hf, ha, h⟩ := hs
    obtain ⟨p, xs, rfl, hq, r, z⟩ := ry.seq sb hi
    obtain ⟨e1, f1⟩ := rx.flat hf
    obtain ⟨e2, f2⟩ := r.flat ha
    refine .inr ⟨p, xs, rfl, hq, f1, f2, ?_⟩
    have e3 : inV x xs = ds.any fun z => eqV z.v d.v := by
      unfold inV
      rw [e1, e2, List.any_map]
      rfl
    rw [e3]
    exact k _ _ h fun _ => .bl _
/-- is None, is True .. -/
def semIs (neg : Bool) (d e : D) (P : D → Prop) : Prop := match d, e with
  | .bl a, .bl b => P (.bl (if neg then !decide (a = b) else decide (a = b)))
  | .non, .non => P (.bl (!neg))
  | .bl _, .non => P (.bl neg)
  | .int _, .non => P (.bl neg)
  | .str _, .non => P (.bl neg)
  | .tup _, .non => P (.bl neg)
  | .lst _, .non => P (.bl neg)
  | .dct _, .non => P (.bl neg)
  | .dcT _, .non => P (.bl neg)
  | .ins _ _, .non => P (.bl neg)
  | _, _ => False
def rIsT (neg : Bool) : R2 := fun x y H Q => (y = .non ∧ Q (.bl (if neg then !decide (x = .non) else decide (x = .non))) H) ∨ ∃ a b, x = .bl a ∧ y = .bl b ∧ Q (.bl (if neg then !decide (a = b) else decide (a = b))) H
theorem op_isT : OpR X (compareOp .Is) (rIsT false) := op_isN.or op_is_bl
theorem op_isNotT : OpR X (compareOp .IsNot) (rIsT true) := op_notN.or op_isnot_bl
theorem sem_is (neg : Bool) : SemS K (rIsT neg) (semIs neg) := by
  intro F H x y d e P Q sb rx ry hs k
  unfold semIs at hs
  split at hs
  · cases rx; cases ry
    exact .inr ⟨_, _, rfl, rfl, k _ _ hs fun _ => .bl _⟩
  all_goals first
    | exact hs.elim
    | (cases ry; cases rx <;> (refine .inl ⟨rfl, ?_⟩; cases neg <;> exact k _ _ hs fun _ => .bl _))

/-! ### indices, slices -/
def semIx (d e : D) (P : D → Prop) : Prop := match d, e with
  | .tup ds, .int i => ∃ u, atI ds i = some u ∧ P u
  | .lst ds, .int i => ∃ u, atI ds i = some u ∧ P u
  | .frl ds, .int i => ∃ u, atI ds i = some u ∧ P u
  | .str z, .int i => ∃ c, atI z.cps.toList i = some c ∧ P (.str ⟨#[c]⟩)
  | _, _ => False
theorem RepL.atI {F : Hp} {xs : List V} {ds : List D} {i : Int} {u : D} (r : RepL K F xs ds) (h : L2.atI ds i = some u) : ∃ v, L2.atI xs i = some v ∧ Rep K F v u := by
  unfold L2.atI at h ⊢
  rw [r.length]
  cases q : ixN ds.length i with
  | none => rw [q] at h; cases h
  | some j =>
    rw [q] at h
    exact r.get h
def cutG {α : Type} (xs : List α) (lo hi : Option Int) : List α := (xs.drop (HT.sIx xs.length 0 lo)).take (HT.sIx xs.length xs.length hi - HT.sIx xs.length 0 lo)
theorem RepL.cut {F : Hp} {xs : List V} {ds : List D} (r : RepL K F xs ds) (lo hi : Option Int) : RepL K F (cutV xs lo hi) (cutG ds lo hi) := by
  unfold cutV cutG
  rw [r.length]
  exact (r.drop _).take _
theorem cutG_len {α : Type} (xs : List α) (lo hi : Option Int) : (cutG xs lo hi).length ≤ xs.length := by
  unfold cutG
  rw [List.length_take, List.length_drop]
  omega
theorem cutG_all {α : Type} {xs : List α} {lo hi : Option Int} (h : HT.sIx xs.length 0 lo = 0 ∧ HT.sIx xs.length xs.length hi = xs.length) : cutG xs lo hi = xs := by
  unfold cutG
  rw [h.1, h.2]
  simp
def semSl (d : D) (lo hi : Option Int) (P : O → Prop) : Prop := match d with
  | .str z => P (.fz (.str (cutS z lo hi)))
  | .tup ds => P (.fz (.tup (cutG ds lo hi)))
  | .lst ds => ∀ a, P (.lst a ((cutG ds lo hi).map .fz))
  | .frl ds => ∀ a, P (.lst a ((cutG ds lo hi).map .fz))
  | _ => False
def rSlT' (K : PySem.W.Frag) : V → Option Int → Option Int → Hp → VK → Prop := fun x lo hi H Q => rSlS x lo hi H Q ∨ rSlA K x lo hi H Q ∨ rSlL K x lo hi H Q
theorem sl_T : SlR X (rSlT' X.K) := sl_str.or (sl_tupA.or sl_list)
theorem sem_sl {F H : Hp} {x : V} {d : D} {lo hi : Option Int} {P : O → Prop} {Q : VK} (sb : Sb F H) (rx : Rep K F x d) (hs : semSl d lo hi P) (k : ∀ o v F' H', P o → Res K F H o v F' H' → Q v H') : rSlT' K x lo hi H Q := by
  unfold semSl at hs
  split at hs
  · rename_i z
    cases rx with
    | str _ hz => exact .inl ⟨_, rfl, hz, k _ _ _ _ hs (.fz (.str _ (Nat.le_trans (cutS_length _ _ _) hz)))⟩
  · rename_i ds
    cases rx with
    | @tup a vs _ h z r =>
    refine .inr (.inl ⟨a, vs, rfl, sb.sqT h, fun e => ?_, fun _ p hp => ?_⟩)
    · have e' := cutG_all (xs := ds) (by rw [← r.length]; exact e)
      rw [e'] at hs
      exact k _ _ _ _ hs (.fz (.tup h z r))
    · exact k _ _ _ _ hs (.tup sb hp (Nat.le_trans (cutG_len _ _ _) z) (r.cut lo hi))
  · cases rx with
    | lst h z r => exact .inr (.inr ⟨_, _, rfl, .inl (.inl (sb.lst h)), fun p hp => k _ _ _ _ (hs p) (.lst hp (Nat.le_trans (cutG_len _ _ _) z) (r.cut lo hi))⟩)
  · cases rx with
    | frl h z r => exact .inr (.inr ⟨_, _, rfl, sb.sqL h, fun p hp => k _ _ _ _ (hs p) (.lst hp (Nat.le_trans (cutG_len _ _ _) z) (r.cut lo hi))⟩)
  · exact hs.elim
end

/-! ### built-in functions -/
section
variable {K : PySem.W.Frag} {X : Cx}
def semLen (d : D) (P : D → Prop) : Prop := match d with
  | .str z => P (.int z.length)
  | .dct kvs => P (.int kvs.length)
  | d => ∃ ds, d.items = some ds ∧ P (.int ds.length)
def rLenT (K : PySem.W.Frag) : List V → Hp → VK → Prop := fun xs H Q => (∃ p ys, xs = [.ref p] ∧ (SqL K H p ys ∨ SqT K H p ys) ∧ Q (.int ys.length) H) ∨ ∃ z, xs = [.str z] ∧ z.length ≤ sizeLine ∧ Q (.int z.length) H
theorem cr_lenT : CallR X (.builtin "len") (rLenT X.K) := call_len_seq.or call_len_str
theorem RepK.length {F : Hp} : ∀ {es : List (Key × V)} {kvs : List (Key × D)}, RepK K F es kvs → es.length = kvs.length
  | _, _, .nil => rfl
  | _, _, .cons _ _ r => congrArg (· + 1) (RepK.length r)
def rLenD : List V → Hp → VK → Prop := fun xs H Q => ∃ a kvs, xs = [V.ref a] ∧ Rd H a (.dK kvs) ∧ Q (.int kvs.length) H
theorem cr_lenD : CallR X (.builtin "len") rLenD := by
  intro pins s σ H xs us Q I r h
  obtain ⟨a, kvs, rfl, hr, q⟩ := h
  cases r with
  | cons r rr =>
    cases rr
    cases r
    exact d_len I hr fun t s' I' => ⟨.int kvs.length, H, I', ⟨t, rfl⟩, q⟩
theorem sem_len : SemC1 K (fun xs H Q => rLenT K xs H Q ∨ rLenD xs H Q) semLen := by
  intro F H x d P Q sb rx hs k
  unfold semLen at hs
  split at hs
  · cases rx with
    | str _ hz => exact .inl (.inr ⟨_, rfl, hz, k _ _ hs fun _ => .int _⟩)
  · cases rx with
    | dct h _ r => exact .inr ⟨_, _, rfl, sb.dK h, by rw [r.length]; exact k _ _ hs fun _ => .int _⟩
  · obtain ⟨ds, hi, h⟩ := hs
    obtain ⟨p, xs, rfl, hq, r, z⟩ := rx.seq sb hi
    exact .inl (.inl ⟨p, xs, rfl, hq, by rw [r.length]; exact k _ _ h fun _ => .int _⟩)
theorem cr_len : CallR X (.builtin "len") (fun xs H Q => rLenT X.K xs H Q ∨ rLenD xs H Q) := cr_lenT.or cr_lenD
def semAbs (d : D) (P : D → Prop) : Prop := match d with
  | .int i => P (.int (if i < 0 then -i else i))
  | _ => False
theorem sem_abs : SemC1 K (fun xs H Q => ∃ i, xs = [.int i] ∧ Q (.int (if i < 0 then -i else i)) H) semAbs := by
  intro F H x d P Q sb rx hs k
  unfold semAbs at hs
  split at hs
  · cases rx; exact ⟨_, rfl, k _ _ hs fun _ => .int _⟩
  · exact hs.elim
def semInt (d : D) (P : D → Prop) : Prop := match d with
  | .int i => P (.int i)
  | .bl b => P (.int (if b then 1 else 0))
  | _ => False
theorem sem_int : SemC1 K (fun xs H Q => (∃ i, xs = [.int i] ∧ Q (.int i) H) ∨ ∃ k, xs = [.bl k] ∧ Q (.int (if k then 1 else 0)) H) semInt := by
  intro F H x d P Q sb rx hs k
  unfold semInt at hs
  split at hs
  · cases rx; exact .inl ⟨_, rfl, k _ _ hs fun _ => .int _⟩
  · cases rx; exact .inr ⟨_, rfl, k _ _ hs fun _ => .int _⟩
  · exact hs.elim
/-- the ints of things, the truths of things -/
def D.ints : List D → Option (List Int)
  | [] => some []
  | .int i :: r => (D.ints r).map (i :: ·)
  | _ :: _ => none
def D.bls : List D → Option (List Bool)
  | [] => some []
  | .bl i :: r => (D.bls r).map (i :: ·)
  | _ :: _ => none
theorem ints_map (ns : List Int) : D.ints (ns.map D.int) = some ns := by
  induction ns with
  | nil => rfl
  | cons n r ih => show (D.ints (r.map D.int)).map _ = _; rw [ih]; rfl
theorem bls_map (ns : List Bool) : D.bls (ns.map D.bl) = some ns := by
  induction ns with
  | nil => rfl
  | cons n r ih => show (D.bls (r.map D.bl)).map _ = _; rw [ih]; rfl
theorem RepL.ints {F : Hp} : ∀ {xs : List V} {ds : List D} {ns : List Int}, RepL K F xs ds → D.ints ds = some ns → xs = ns.map V.int
  | _, _, _, .nil, h => by cases h; rfl
  | _, d :: ds, ns, .cons h r, q => by
    cases h <;> first
      | (cases q; done)
      | skip
    rename_i i
    have q : (D.ints ds).map (i :: ·) = some ns := q
    cases e : D.ints ds with
    | none => rw [e] at q; cases q
    | some ms =>
      rw [e] at q
      cases q
      rw [RepL.ints r e]
      rfl
theorem RepL.bls {F : Hp} : ∀ {xs : List V} {ds : List D} {ns : List Bool}, RepL K F xs ds → D.bls ds = some ns → xs = ns.map V.bl
  | _, _, _, .nil, h => by cases h; rfl
  | _, d :: ds, ns, .cons h r, q => by
    cases h <;> first
      | (cases q; done)
      | skip
    rename_i i
    have q : (D.bls ds).map (i :: ·) = some ns := q
    cases e : D.bls ds with
    | none => rw [e] at q; cases q
    | some ms =>
      rw [e] at q
      cases q
      rw [RepL.bls r e]
      rfl
def semAll (d : D) (P : D → Prop) : Prop := match d with
  | .lst ds => ∃ bs, D.bls ds = some bs ∧ P (.bl (bs.all id))
  | _ => False
theorem sem_all : SemC1 K (rAll K) semAll := by
  intro F H x d P Q sb rx hs k
  unfold semAll at hs
  split at hs
  · obtain ⟨bs, e, h⟩ := hs
    cases rx with
    | lst h1 z r => exact ⟨_, bs, rfl, by rw [← r.bls e]; exact .inl (.inl (sb.lst h1)), k _ _ h fun _ => .bl _⟩
  · exact hs.elim
def semAny (d : D) (P : D → Prop) : Prop := match d with
  | .lst ds => ∃ bs, D.bls ds = some bs ∧ P (.bl (bs.any id))
  | _ => False
theorem sem_any : SemC1 K (rAny K) semAny := by
  intro F H x d P Q sb rx hs k
  unfold semAny at hs
  split at hs
  · obtain ⟨bs, e, h⟩ := hs
    cases rx with
    | lst h1 z r => exact ⟨_, bs, rfl, by rw [← r.bls e]; exact .inl (.inl (sb.lst h1)), k _ _ h fun _ => .bl _⟩
  · exact hs.elim
def semSum (d : D) (P : D → Prop) : Prop := match d with
  | .lst ds => ∃ ns, D.ints ds = some ns ∧ P (.int ns.sum)
  | _ => False
theorem sem_sum : SemC1 K (rSum K) semSum := by
  intro F H x d P Q sb rx hs k
  unfold semSum at hs
  split at hs
  · obtain ⟨ns, e, h⟩ := hs
    cases rx with
    | lst h1 z r => exact ⟨_, ns, rfl, by rw [← r.ints e]; exact .inl (.inl (sb.lst h1)), k _ _ h fun _ => .int _⟩
  · exact hs.elim
def semMax2 (d e : D) (P : D → Prop) : Prop := match d, e with
  | .int i, .int j => P (.int (if j > i then j else i))
  | _, _ => False
def semMin2 (d e : D) (P : D → Prop) : Prop := match d, e with
  | .int i, .int j => P (.int (if j < i then j else i))
  | _, _ => False
/-- isinstance by a built-in class -/
def D.isA (T : String) : D → Option Bool
  | .non => kitB "NoneType" T
  | .bl _ => kitB "bool" T
  | .int _ => kitB "int" T
  | .str _ => kitB "str" T
  | .tup _ => kitB "tuple" T
  | .lst _ => kitB "list" T
  | .dct _ => kitB "dict" T
  | _ => none
def semIsi (d e : D) (P : D → Prop) : Prop := match e with
  | .ty T => ∃ b, d.isA T = some b ∧ P (.bl b)
  | _ => False
theorem TyX.tup {F H : Hp} {a : Addr} {xs : List V} (sb : Sb F H) (h : F a = some (.tup xs)) : L2.TyX K H (.ref a) (.type "tuple") := .base (.tup (sb.tup h))
theorem TyX.dict {F H : Hp} {a : Addr} {kvs : List (Key × V)} (sb : Sb F H) (h : F a = some (.dK kvs)) : L2.TyX K H (.ref a) (.type "dict") := by
  rcases sb a _ h with z | ⟨ob, e, z⟩
  · exact .base (.dK z)
  · exact .fDict z
theorem isi_ok {F H : Hp} {x : V} {d : D} {T : String} {b : Bool} (sb : Sb F H) (rx : Rep K F x d) (h : d.isA T = some b) : ∃ t, L2.TyX K H x t ∧ PySem.W.kitOne K t (.type T) = some b := by
  cases rx with
  | non => exact ⟨_, .base .non, kit_ty h⟩
  | bl b => exact ⟨_, .base (.bl _), kit_ty h⟩
  | int b => exact ⟨_, .base (.int _), kit_ty h⟩
  | str b _ => exact ⟨_, .base (.str _), kit_ty h⟩
  | tup h1 z r => exact ⟨_, TyX.tup sb h1, kit_ty h⟩
  | lst h1 z r => exact ⟨_, .base (.lst (sb.lst h1)), kit_ty h⟩
  | dct h1 _ r => exact ⟨_, TyX.dict sb h1, kit_ty h⟩
  | _ => cases h
end
end Tr
/-! The tree layer: expressions, calls. -/
namespace Tr
open PySem PySem.Spec PyProof.Rows L2

/-! ### comparisons, tests -/
/-- a parting of the ways -/
def br (c : Bool) (A B : Prop) : Prop := (c = true → A) ∧ (c = false → B)
def wChain (sem sem' : D → D → (D → Prop) → Prop) (wa wb wc : WD) : WD := fun ρ P => wa ρ fun d ρ1 => wb ρ1 fun e ρ2 => sem d e fun u => match u with
  | .bl b => br b (wc ρ2 fun f ρ3 => sem' e f fun v => P v ρ3) (P (.bl false) ρ2)
  | _ => False
def truD : D → Option Bool
  | .non => some false
  | .bl b => some b
  | .int i => some (i != 0)
  | .str x => some ((x.length : Int) != 0)
  | .tup ds => some (!ds.isEmpty)
  | .lst ds => some (!ds.isEmpty)
  | .frl ds => some (!ds.isEmpty)
  | _ => none
def wTru (w : WD) : WT := fun ρ P => w ρ fun d ρ' => match truD d with
  | some b => P b ρ'
  | none => False
def wAnd (wa wb : WT) : WT := fun ρ P => wa ρ fun c ρ1 => br c (wb ρ1 P) (P false ρ1)
def wOr (wa wb : WT) : WT := fun ρ P => wa ρ fun c ρ1 => br c (P true ρ1) (wb ρ1 P)
def wNot (wa : WT) : WT := fun ρ P => wa ρ fun c ρ1 => P (!c) ρ1
def wBl (w : WT) : WD := fun ρ P => w ρ fun c ρ1 => P (.bl c) ρ1
def wAndV (wa wb : WD) : WD := fun ρ P => wTst wa ρ fun c ρ1 => br c (wb ρ1 P) (P (.bl false) ρ1)
def wOrV (wa wb : WD) : WD := fun ρ P => wTst wa ρ fun c ρ1 => br c (P (.bl true) ρ1) (wb ρ1 P)
def wNotV (wa : WD) : WD := fun ρ P => wTst wa ρ fun c ρ1 => P (.bl (!c)) ρ1
def wIf {α : Type} (wc : WT) (wa wb : TEnv → (α → TEnv → Prop) → Prop) : TEnv → (α → TEnv → Prop) → Prop := fun ρ P => wc ρ fun c ρ1 => br c (wa ρ1 P) (wb ρ1 P)
structure XW (X : Cx) (e : Expr) (w : WT) : Prop where
  pw : PW X e (liftT X.K w)
theorem PW.imp {X : Cx} {e : Expr} {t t' : TT} (h : PW X e t) (i : ∀ σ H Q, t' σ H Q → t σ H Q) : PW X e t' := ⟨fun wh pins s σ H Q I hw => h.run wh pins s σ H Q I (i _ _ _ hw)⟩
theorem Rep.tru {K : PySem.W.Frag} {F H : Hp} {v : V} {d : D} {b : Bool} (r : Rep K F v d) (sb : Sb F H) (h : truD d = some b) : TruV K v H b := by
  cases r with
  | non => cases h; rfl
  | bl b => cases h; rfl
  | int i => cases h; rfl
  | str x z => cases h; exact ⟨z, rfl⟩
  | tup h1 z r =>
    cases h
    refine .inr (.inl ⟨_, sb.sqT h1, ?_⟩)
    have e := r.length
    rename_i xs ds
    cases xs <;> cases ds <;> first
      | rfl
      | (cases e)
  | lst h1 z r =>
    cases h
    refine .inl ⟨_, .inl (.inl (sb.lst h1)), ?_⟩
    have e := r.length
    rename_i xs ds
    cases xs <;> cases ds <;> first
      | rfl
      | (cases e)
  | frl h1 z r =>
    cases h
    refine .inl ⟨_, sb.sqL h1, ?_⟩
    have e := r.length
    rename_i xs ds
    cases xs <;> cases ds <;> first
      | rfl
      | (cases e)
  | _ => cases h
section
variable {X : Cx} {a b c e : Expr} {wa wb wc w : WD} {pos : Pos} {r r' : R2} {op op' : CmpOp} {sem sem' : D → D → (D → Prop) → Prop} {rest : List Expr}
theorem xe_cmp (ho : OpR X (compareOp op) r) (hs : SemS X.K r sem) (ha : XE X a wa) (hb : XB X b wb) (hm : behindInMarks op b = false := by first | exact nomark _ | rfl) : XE X (.Compare a [op] [b] pos) (wCmp sem wa wb) :=
  ⟨PE.imp (pe_cmpR ho ha.pe hb.pe hm) fun _ _ _ h => tOp_cmp hs h⟩
theorem xe_cmpL {i : Nat} (ho : OpR X (compareOp op) r) (hs : SemS X.K r sem) (ha : PE X a (tVar i)) (hb : XB X b wb) (hm : behindInMarks op b = false := by first | exact nomark _ | rfl) : XE X (.Compare a [op] [b] pos) (wCmpL sem i wb) :=
  ⟨PE.imp (pe_cmpR ho ha hb.pe hm) fun _ _ _ h => tOp_cmpL hs h⟩
/-- a reading of a truth as a test -/
theorem lift_tst {K : PySem.W.Frag} {w : WD} {σ : L2.St} {H : Hp} {Q : Bool → Hp → Prop} (h : liftT K (wTst w) σ H Q) : liftD K w σ H (fun x H' => ∃ k, x = .bl k ∧ Q k H') := by
  obtain ⟨ρ, F, P, s, hw, k⟩ := h
  refine ⟨ρ, F, _, s, hw, fun d ρ' F' H' v p s' r f => ?_⟩
  cases d <;> first
    | exact p.elim
    | skip
  cases r
  exact ⟨_, rfl, k _ _ _ _ p s' f⟩
theorem xt_cmp (ho : OpR X (compareOp op) r) (hs : SemS X.K r sem) (ha : XE X a wa) (hb : XB X b wb) (hm : behindInMarks op b = false := by first | exact nomark _ | rfl) : XT X (.Compare a [op] [b] pos) (wTst (wCmp sem wa wb)) :=
  ⟨PT.imp (pt_cmpR ho ha.pe hb.pe hm) fun _ _ _ h => tOp_cmp hs (lift_tst h)⟩
theorem xt_cmpL {i : Nat} (ho : OpR X (compareOp op) r) (hs : SemS X.K r sem) (ha : PE X a (tVar i)) (hb : XB X b wb) (hm : behindInMarks op b = false := by first | exact nomark _ | rfl) : XT X (.Compare a [op] [b] pos) (wTst (wCmpL sem i wb)) :=
  ⟨PT.imp (pt_cmpR ho ha hb.pe hm) fun _ _ _ h => tOp_cmpL hs (lift_tst h)⟩
theorem t_chain (hs : SemS X.K r sem) (hs' : SemS X.K r' sem') {σ : L2.St} {H : Hp} {Q : VK} (h : liftD X.K (wChain sem sem' wa wb wc) σ H Q) : tChain r r' (liftD X.K wa) (liftD X.K wb) (liftD X.K wc) σ H Q := by
  obtain ⟨ρ, F, P, s, hw, k⟩ := h
  refine ⟨ρ, F, _, s, hw, fun d ρ1 F1 H1 v p s1 r1 f1 => ?_⟩
  refine ⟨ρ1, F1, _, s1, p, fun e ρ2 F2 H2 u p2 s2 r2 f2 => ?_⟩
  refine hs F2 H2 _ _ d e _ _ s2.sub (r1.mono f2.fz) r2 p2 fun u' w p3 rr => ?_
  cases u' <;> first
    | exact p3.elim
    | skip
  rename_i b
  have e1 := rr F2
  cases e1
  refine ⟨b, rfl, ?_⟩
  cases b with
  | false =>
    have p3 : P (.bl false) ρ2 := by simpa [br] using p3
    rw [if_neg Bool.false_ne_true]
    exact k _ _ _ _ _ p3 s2 (.bl false) (f1.trans f2)
  | true =>
    rw [if_pos rfl]
    have p3 : wc ρ2 fun f ρ3 => sem' e f fun v => P v ρ3 := by simpa [br] using p3
    refine ⟨ρ2, F2, _, s2, p3, fun f ρ3 F3 H3 x p4 s3 r3 f3 => ?_⟩
    exact hs' F3 H3 _ _ e f _ Q s3.sub (r2.mono f3.fz) r3 p4 fun u w p5 rr => k _ _ _ _ _ p5 s3 (rr _) ((f1.trans f2).trans f3)
theorem xe_chain (ho : OpR X (compareOp op) r) (hs : SemS X.K r sem) (ho' : OpR X (compareOp op') r') (hs' : SemS X.K r' sem') (ha : XE X a wa) (hb : XE X b wb) (hc : XE X c wc) (hm : lastMarks [op, op'] [b, c] = false := by with_unfolding_all rfl) :
    XE X (.Compare a [op, op'] [b, c] pos) (wChain sem sem' wa wb wc) := ⟨PE.imp (pe_chain ho ho' ha.pe hb.pe hc.pe hm) fun _ _ _ h => t_chain hs hs' h⟩
theorem xt_chain (ho : OpR X (compareOp op) r) (hs : SemS X.K r sem) (ho' : OpR X (compareOp op') r') (hs' : SemS X.K r' sem') (ha : XE X a wa) (hb : XE X b wb) (hc : XE X c wc) (hm : lastMarks [op, op'] [b, c] = false := by with_unfolding_all rfl) :
    XT X (.Compare a [op, op'] [b, c] pos) (wTst (wChain sem sem' wa wb wc)) := ⟨PT.imp (pt_chain ho ho' ha.pe hb.pe hc.pe hm) fun _ _ _ h => t_chain hs hs' (lift_tst h)⟩
/-- a name, a call .. as a test -/
theorem xt_tru (h : XB X e w) (he : ∀ whole, isTrue e X.env whole = (do let v ← whole; standAt e.pos; holding [v] (truthy v)) := by intro _; rfl) : XT X e (wTru w) := ⟨PT.imp (pt_truth h.pe he) fun σ H Q ⟨ρ, F, P, s, hw, k⟩ =>
  ⟨ρ, F, _, s, hw, fun d ρ' F' F'' H' v p s' sb su r f => by
    cases hd : truD d with
    | none => rw [hd] at p; exact p.elim
    | some b =>
      rw [hd] at p
      exact ⟨b, r.tru sb hd, k _ _ _ _ p s' f⟩⟩⟩
theorem XT.w1 {wt : WT} (h : XT X a wt) : XW X (.BoolOp .And [a] pos) wt := ⟨pw_and1 h.pt⟩
theorem XT.o1 {wt : WT} (h : XT X a wt) : XW X (.BoolOp .Or [a] pos) wt := ⟨pw_or1 h.pt⟩
theorem xw_and {wt wu : WT} (h : XT X a wt) (h2 : XW X (.BoolOp .And (b :: rest) pos) wu) : XW X (.BoolOp .And (a :: b :: rest) pos) (wAnd wt wu) := ⟨PW.imp (pw_and h.pt h2.pw) fun σ H Q ⟨ρ, F, P, s, hw, k⟩ =>
  ⟨ρ, F, _, s, hw, fun c ρ1 F1 H1 p s1 f1 => by
    cases c with
    | true =>
      have p : wu ρ1 P := by simpa [br] using p
      rw [if_pos rfl]
      exact ⟨ρ1, F1, P, s1, p, fun b ρ2 F2 H2 p2 s2 f2 => k _ _ _ _ p2 s2 (f1.trans f2)⟩
    | false =>
      have p : P false ρ1 := by simpa [br] using p
      rw [if_neg Bool.false_ne_true]
      exact k _ _ _ _ p s1 f1⟩⟩
theorem xw_or {wt wu : WT} (h : XT X a wt) (h2 : XW X (.BoolOp .Or (b :: rest) pos) wu) : XW X (.BoolOp .Or (a :: b :: rest) pos) (wOr wt wu) := ⟨PW.imp (pw_or h.pt h2.pw) fun σ H Q ⟨ρ, F, P, s, hw, k⟩ =>
  ⟨ρ, F, _, s, hw, fun c ρ1 F1 H1 p s1 f1 => by
    cases c with
    | false =>
      have p : wu ρ1 P := by simpa [br] using p
      rw [if_neg Bool.false_ne_true]
      exact ⟨ρ1, F1, P, s1, p, fun b ρ2 F2 H2 p2 s2 f2 => k _ _ _ _ p2 s2 (f1.trans f2)⟩
    | true =>
      have p : P true ρ1 := by simpa [br] using p
      rw [if_pos rfl]
      exact k _ _ _ _ p s1 f1⟩⟩
theorem XW.t {wt : WT} (h : XW X e wt) : XT X e wt := ⟨h.pw.pt⟩
theorem xt_not {wt : WT} (h : XT X a wt) : XT X (.UnaryOp .Not a pos) (wNot wt) := ⟨PT.imp (pt_not h.pt) fun σ H Q ⟨ρ, F, P, s, hw, k⟩ =>
  ⟨ρ, F, _, s, hw, fun c ρ1 F1 H1 p s1 f1 => k _ _ _ _ p s1 f1⟩⟩
theorem xe_and1 {op : BoolOp} (h : XE X a wa) : XE X (.BoolOp op [a] pos) wa := ⟨pe_one h.pe⟩
theorem xe_and (h : XE X a wa) (h2 : XE X (.BoolOp .And (b :: rest) pos) wb) : XE X (.BoolOp .And (a :: b :: rest) pos) (wAndV wa wb) := ⟨PE.imp (pe_and h.pe h2.pe) fun σ H Q ⟨ρ, F, P, s, hw, k⟩ =>
  ⟨ρ, F, _, s, hw, fun d ρ1 F1 H1 v p s1 r1 f1 => by
    cases d <;> first
      | exact p.elim
      | skip
    cases r1
    rename_i c
    refine ⟨c, rfl, ?_⟩
    cases c with
    | true =>
      have p : wb ρ1 P := by simpa [br] using p
      rw [if_pos rfl]
      exact ⟨ρ1, F1, P, s1, p, fun b ρ2 F2 H2 v p2 s2 r2 f2 => k _ _ _ _ _ p2 s2 r2 (f1.trans f2)⟩
    | false =>
      have p : P (.bl false) ρ1 := by simpa [br] using p
      rw [if_neg Bool.false_ne_true]
      exact k _ _ _ _ _ p s1 (.bl false) f1⟩⟩
theorem xe_or (h : XE X a wa) (h2 : XE X (.BoolOp .Or (b :: rest) pos) wb) : XE X (.BoolOp .Or (a :: b :: rest) pos) (wOrV wa wb) := ⟨PE.imp (pe_or h.pe h2.pe) fun σ H Q ⟨ρ, F, P, s, hw, k⟩ =>
  ⟨ρ, F, _, s, hw, fun d ρ1 F1 H1 v p s1 r1 f1 => by
    cases d <;> first
      | exact p.elim
      | skip
    cases r1
    rename_i c
    refine ⟨c, rfl, ?_⟩
    cases c with
    | false =>
      have p : wb ρ1 P := by simpa [br] using p
      rw [if_neg Bool.false_ne_true]
      exact ⟨ρ1, F1, P, s1, p, fun b ρ2 F2 H2 v p2 s2 r2 f2 => k _ _ _ _ _ p2 s2 r2 (f1.trans f2)⟩
    | true =>
      have p : P (.bl true) ρ1 := by simpa [br] using p
      rw [if_pos rfl]
      exact k _ _ _ _ _ p s1 (.bl true) f1⟩⟩
theorem xe_not (h : XE X a wa) : XE X (.UnaryOp .Not a pos) (wNotV wa) := ⟨PE.imp (pe_not h.pe) fun σ H Q ⟨ρ, F, P, s, hw, k⟩ =>
  ⟨ρ, F, _, s, hw, fun d ρ1 F1 H1 v p s1 r1 f1 => by
    cases d <;> first
      | exact p.elim
      | skip
    cases r1
    rename_i c
    exact ⟨c, rfl, k _ _ _ _ _ p s1 (.bl (!c)) f1⟩⟩⟩
theorem xo_if {wt : WT} {va vb : WO} (hc : XT X c wt) (ha : XO X a va) (hb : XO X b vb) : XO X (.IfExp c a b pos) (wIf wt va vb) := ⟨PE.imp (pe_ifExp hc.pt ha.pe hb.pe) fun σ H Q ⟨ρ, F, P, s, hw, k⟩ =>
  ⟨ρ, F, _, s, hw, fun c ρ1 F1 H1 p s1 f1 => by
    cases c with
    | true =>
      have p : va ρ1 P := by simpa [br] using p
      rw [if_pos rfl]
      exact ⟨ρ1, F1, P, s1, p, fun b ρ2 F2 H2 v p2 s2 f2 => k _ _ _ _ _ p2 s2 (f1.trans f2)⟩
    | false =>
      have p : vb ρ1 P := by simpa [br] using p
      rw [if_neg Bool.false_ne_true]
      exact ⟨ρ1, F1, P, s1, p, fun b ρ2 F2 H2 v p2 s2 f2 => k _ _ _ _ _ p2 s2 (f1.trans f2)⟩⟩⟩
theorem xe_if {wt : WT} (hc : XT X c wt) (ha : XE X a wa) (hb : XE X b wb) : XE X (.IfExp c a b pos) (wIf wt wa wb) := ⟨PE.imp (pe_ifExp hc.pt ha.pe hb.pe) fun σ H Q ⟨ρ, F, P, s, hw, k⟩ =>
  ⟨ρ, F, _, s, hw, fun c ρ1 F1 H1 p s1 f1 => by
    cases c with
    | true =>
      have p : wa ρ1 P := by simpa [br] using p
      rw [if_pos rfl]
      exact ⟨ρ1, F1, P, s1, p, fun b ρ2 F2 H2 v p2 s2 r2 f2 => k _ _ _ _ _ p2 s2 r2 (f1.trans f2)⟩
    | false =>
      have p : wb ρ1 P := by simpa [br] using p
      rw [if_neg Bool.false_ne_true]
      exact ⟨ρ1, F1, P, s1, p, fun b ρ2 F2 H2 v p2 s2 r2 f2 => k _ _ _ _ _ p2 s2 r2 (f1.trans f2)⟩⟩⟩
def wNeg (w : WD) : WD := fun ρ P => w ρ fun d ρ' => match d with
  | .int i => P (.int (-i)) ρ'
  | _ => False
theorem xe_neg (h : XE X a wa) : XE X (.UnaryOp .USub a pos) (wNeg wa) := ⟨PE.imp (pe_un un_neg h.pe) fun σ H Q ⟨ρ, F, P, s, hw, k⟩ =>
  ⟨ρ, F, _, s, hw, fun d ρ1 F1 H1 v p s1 r1 f1 => by
    cases d <;> first
      | exact p.elim
      | skip
    cases r1
    exact ⟨_, rfl, k _ _ _ _ _ p s1 (.int _) f1⟩⟩⟩
end

/-! ### lists of expressions -/
def wNil : WL := fun ρ P => P [] ρ
def wCons (w : WD) (wl : WL) : WL := fun ρ P => w ρ fun d ρ1 => wl ρ1 fun ds ρ2 => P (d :: ds) ρ2
abbrev WLO := TEnv → (List O → TEnv → Prop) → Prop
def wNilO : WLO := fun ρ P => P [] ρ
def wConsO (w : WO) (wl : WLO) : WLO := fun ρ P => w ρ fun d ρ1 => wl ρ1 fun ds ρ2 => P (d :: ds) ρ2
def liftAO (K : PySem.W.Frag) (w : WLO) : TA := fun σ H Q => ∃ ρ F P, SR K ρ σ F H ∧ w ρ P ∧
  ∀ os ρ' F' H' vs, P os ρ' → SR K (os.map some ++ ρ') (vs.map some ++ σ) F' H' → vs.length = os.length → Frm (ownedE ρ) F H (ownedE (os.map some ++ ρ')) F' H' → Q vs H'
structure XAO (X : Cx) (es : List Expr) (w : WLO) : Prop where
  pa : PA X es (liftAO X.K w)
theorem ownedE_os : ∀ (os : List O) (ρ : TEnv), ownedE (os.map some ++ ρ) = O.ownedL os ++ ownedE ρ
  | [], _ => rfl
  | o :: os, ρ => by
    show o.owned ++ ownedE (os.map some ++ ρ) = (o.owned ++ O.ownedL os) ++ ownedE ρ
    rw [ownedE_os os ρ, List.append_assoc]
section
variable {X : Cx} {e : Expr} {es : List Expr} {w : WD} {wl : WL} {wo : WO} {wlo : WLO} {pos : Pos}
theorem xa_nil : XA X [] wNil := ⟨PA.imp pa_nil fun σ H Q ⟨ρ, F, P, s, hw, k⟩ => k _ _ _ _ _ hw s .nil .refl⟩
theorem xa_cons (h : XE X e w) (r : XA X es wl) (hs : starEach (e :: es) X.env = (false, eval e X.env) :: starEach es X.env := by rfl) : XA X (e :: es) (wCons w wl) := ⟨PA.imp (pa_cons h.pe r.pa hs) fun σ H Q ⟨ρ, F, P, s, hw, k⟩ =>
  ⟨ρ, F, _, s, hw, fun d ρ1 F1 H1 v p s1 r1 f1 => ⟨ρ1, F1, _, s1, p, fun ds ρ2 F2 H2 vs p2 s2 r2 f2 => k _ _ _ _ _ p2 s2 (.cons (r1.mono f2.fz) r2) (f1.trans f2)⟩⟩⟩
theorem xao_nil : XAO X [] wNilO := ⟨PA.imp pa_nil fun σ H Q ⟨ρ, F, P, s, hw, k⟩ => k [] _ _ _ [] hw s rfl .refl⟩
theorem xao_cons (h : XO X e wo) (r : XAO X es wlo) (hs : starEach (e :: es) X.env = (false, eval e X.env) :: starEach es X.env := by rfl) : XAO X (e :: es) (wConsO wo wlo) := ⟨PA.imp (pa_cons h.pe r.pa hs) fun σ H Q ⟨ρ, F, P, s, hw, k⟩ =>
  ⟨ρ, F, _, s, hw, fun o ρ1 F1 H1 v p s1 f1 => ⟨ρ1, F1, _, s1.pop, p, fun os ρ2 F2 H2 vs p2 s2 l2 f2 => by
    obtain ⟨s3, f3⟩ := s1.frame s2 f2
    exact k (o :: os) ρ2 F2 H2 (v :: vs) p2 s3 (by rw [List.length_cons, List.length_cons, l2]) (f1.trans f3)⟩⟩⟩
def wTup (wl : WL) : WD := fun ρ P => wl ρ fun ds ρ' => ds.length ≤ sizeLine ∧ P (.tup ds) ρ'
theorem xe_tup {x1} (h : XA X es wl) : XE X (.Tuple es x1 pos) (wTup wl) := ⟨PE.imp (pe_tup h.pa) fun σ H Q ⟨ρ, F, P, s, hw, k⟩ =>
  ⟨ρ, F, _, s, hw, fun ds ρ1 F1 H1 vs p s1 r1 f1 => ⟨by rw [r1.length]; exact p.1, fun q hq => by
    obtain ⟨s2, f2⟩ := Res.tup s1.sub hq p.1 r1 _ _ s1
    exact k _ _ _ _ _ p.2 s2.pop s2.topD (f1.trans f2)⟩⟩⟩
theorem RepOL.split {K : PySem.W.Frag} {F H : Hp} : ∀ {os : List O} {ρ : TEnv} {vs : List V} {σ : L2.St}, SR K (os.map some ++ ρ) (vs.map some ++ σ) F H → vs.length = os.length → RepOL K F H vs os ∧ SR K ρ σ F H
  | [], ρ, [], σ, s, _ => ⟨.nil, s⟩
  | o :: os, ρ, v :: vs, σ, s, l => by
    obtain ⟨r, s'⟩ := RepOL.split (os := os) (vs := vs) s.pop (by simpa using l)
    exact ⟨.cons s.top r, s'⟩
def wLst (wl : WLO) : WO := fun ρ P => wl ρ fun os ρ' => os.length ≤ sizeLine ∧ ∀ a, P (.lst a os) ρ'
theorem xo_lst (h : XAO X es wlo) : XO X (.List es pos) (wLst wlo) := ⟨PE.imp (pe_lst h.pa) fun σ H Q ⟨ρ, F, P, s, hw, k⟩ =>
  ⟨ρ, F, _, s, hw, fun os ρ1 F1 H1 vs p s1 l1 f1 => ⟨by rw [l1]; exact p.1, fun q hq => by
    obtain ⟨r, s2⟩ := RepOL.split s1 l1
    have fq : F1 q = none := s1.sub.free hq
    have nq : q ∉ ownedE (os.map some ++ ρ1) := fun z => by
      obtain ⟨u, e⟩ := s1.thereE q z
      rw [hq] at e; cases e
    have own := s1.own
    have nd := s1.nd
    rw [ownedE_os] at nq own nd
    have st : ∀ b u, H1 b = some u → upd H1 q (.lst vs) b = some u := fun b u e => by
      rw [upd_ne (ne_of_none e hq)]; exact e
    have r' : RepOL X.K F1 (upd H1 q (.lst vs)) vs os := r.mono (fun _ _ h => h) fun b _ u e => st b u e
    have g : Grow F1 H1 F1 (upd H1 q (.lst vs)) := ⟨fun _ _ h => h, fun b u _ _ hf e => ⟨st b u e, hf⟩, fun _ h => (nomatch h), fun b u e => ⟨u, st b u e⟩, fun b u w e => st b _ e⟩
    have sb : Sb F1 (upd H1 q (.lst vs)) := fun b u h => by
      rw [upd_ne (ne_of_none h fq)]; exact s1.sub b u h
    have s3 := s2.grow g sb
    refine k (.lst q os) ρ1 F1 _ _ (p.2 q) (s3.push (.lst upd_same p.1 r') ?_ ?_) ?_
    · intro a ha
      rcases List.mem_cons.mp ha with e | ha
      · subst e; exact fq
      · exact own a (List.mem_append_left _ ha)
    · exact List.nodup_cons.mpr ⟨nq, nd⟩
    · refine f1.trans ⟨g.fz, fun b u _ ht hf e => g.out b u (by simp) ht hf e, fun b hb => ?_, g.dom, g.lk⟩
      rw [ownedE_os]
      rcases List.mem_append.mp hb with h | h
      · rcases List.mem_cons.mp h with e | h
        · subst e; exact .inr hq
        · exact .inl (List.mem_append_left _ h)
      · exact .inl (List.mem_append_right _ h)⟩⟩⟩
end

/-! ### indices, slices -/
def wIx (wa wb : WD) : WD := fun ρ P => wa ρ fun d ρ1 => wb ρ1 fun e ρ2 => semIx d e fun u => P u ρ2
/-- of a name's list, which is held -/
def wIxL (i : Nat) (wb : WD) : WD := fun ρ P => match nth ρ i with
  | some _ => wb ρ fun e ρ2 => match nth ρ2 i with
    | some (.fz d) => semIx d e fun u => P u ρ2
    | some (.lst _ os) => ∃ k u, e = .int k ∧ atI os k = some (.fz u) ∧ P u ρ2
    | _ => False
  | none => False
abbrev WP := TEnv → (Option Int → TEnv → Prop) → Prop
def liftP (K : PySem.W.Frag) (w : WP) : TO := fun σ H Q => ∃ ρ F P, SR K ρ σ F H ∧ w ρ P ∧
  ∀ b ρ' F' H', P b ρ' → SR K ρ' σ F' H' → Frm (ownedE ρ) F H (ownedE ρ') F' H' → Q b H'
structure XP (X : Cx) (e : Option Expr) (w : WP) : Prop where
  po : PO X e (liftP X.K w)
def wNoP : WP := fun ρ P => P none ρ
def wSoP (w : WD) : WP := fun ρ P => w ρ fun d ρ' => match d with
  | .int i => P (some i) ρ'
  | _ => False
def wSl (wa : WD) (wl wh : WP) : WO := fun ρ P => wa ρ fun d ρ1 => wl ρ1 fun lo ρ2 => wh ρ2 fun hi ρ3 => semSl d lo hi fun o => P o ρ3
theorem PO.imp {X : Cx} {e : Option Expr} {t t' : TO} (h : PO X e t) (i : ∀ σ H Q, t' σ H Q → t σ H Q) : PO X e t' := ⟨fun pins s σ H Q I hw => h.run pins s σ H Q I (i _ _ _ hw)⟩
section
variable {X : Cx} {a b e : Expr} {wa wb w : WD} {pos p2 : Pos} {lo hi : Option Expr} {wl wh : WP}
theorem RepOL.atI {K : PySem.W.Frag} {F H : Hp} {xs : List V} {ds : List O} {i : Int} {u : O} (r : RepOL K F H xs ds) (h : L2.atI ds i = some u) : ∃ v, L2.atI xs i = some v ∧ RepO K F H v u := by
  unfold L2.atI at h ⊢
  rw [r.length]
  cases q : ixN ds.length i with
  | none => rw [q] at h; cases h
  | some j =>
    rw [q] at h
    exact r.get h
theorem sem_ix {K : PySem.W.Frag} {F H : Hp} {x y : V} {d e : D} {P : D → Prop} {Q : VK} (sb : Sb F H) (rx : Rep K F x d) (ry : Rep K F y e) (hs : semIx d e P) (k : ∀ u v, P u → Rep K F v u → Q v H) : rIx K x y H Q := by
  unfold semIx at hs
  split at hs
  · obtain ⟨u, h, p⟩ := hs
    cases ry
    cases rx with
    | tup h1 z r =>
      obtain ⟨v, hv, rv⟩ := r.atI h
      exact .inr (.inl ⟨_, _, _, v, rfl, rfl, sb.sqT h1, hv, k _ _ p rv⟩)
  · obtain ⟨u, h, p⟩ := hs
    cases ry
    cases rx with
    | lst h1 z r =>
      obtain ⟨v, hv, rv⟩ := r.atI h
      exact .inl ⟨_, _, _, v, rfl, rfl, .inl (.inl (sb.lst h1)), hv, k _ _ p rv⟩
  · obtain ⟨u, h, p⟩ := hs
    cases ry
    cases rx with
    | frl h1 z r =>
      obtain ⟨v, hv, rv⟩ := r.atI h
      exact .inl ⟨_, _, _, v, rfl, rfl, sb.sqL h1, hv, k _ _ p rv⟩
  · obtain ⟨c, h, p⟩ := hs
    cases ry
    cases rx with
    | str _ z => exact .inr (.inr ⟨_, _, c, rfl, rfl, z, h, k _ _ p (.str _ (by show 1 ≤ sizeLine; decide))⟩)
  · exact hs.elim
theorem xe_ix (ha : XE X a wa) (hb : XE X b wb) (hs : PlainIx b := by exact fun _ _ => rfl) : XE X (.Subscript a b pos) (wIx wa wb) := ⟨PE.imp (pe_ix ix_seq ha.pe hb.pe hs) fun σ H Q ⟨ρ, F, P, s, hw, k⟩ =>
  ⟨ρ, F, _, s, hw, fun d ρ1 F1 H1 v p s1 r1 f1 => ⟨ρ1, F1, _, s1, p, fun e ρ2 F2 H2 u p2 s2 r2 f2 => sem_ix s2.sub (r1.mono f2.fz) r2 p2 fun u' v' p3 r3 => k _ _ _ _ _ p3 s2 r3 (f1.trans f2)⟩⟩⟩
theorem xe_ixL {i : Nat} (ha : PE X a (tVar i)) (hb : XE X b wb) (hs : PlainIx b := by exact fun _ _ => rfl) : XE X (.Subscript a b pos) (wIxL i wb) := ⟨PE.imp (pe_ix ix_seq ha hb.pe hs) fun σ H Q ⟨ρ, F, P, s, hw, k⟩ => by
  unfold wIxL at hw
  cases hn0 : nth ρ i with
  | none => rw [hn0] at hw; exact hw.elim
  | some o0 =>
  rw [hn0] at hw
  obtain ⟨x, hx, _⟩ := s.slot i o0 (nth_eq hn0)
  refine ⟨x, hx, ρ, F, _, s, hw, fun e ρ2 F2 H2 u p2 s2 r2 f2 => ?_⟩
  cases hn : nth ρ2 i with
  | none => rw [hn] at p2; exact p2.elim
  | some o =>
    rw [hn] at p2
    obtain ⟨v, hv, ro⟩ := s2.slot i o (nth_eq hn)
    rw [hx] at hv
    cases hv
    cases o with
    | fz d =>
      cases ro with
      | fz r => exact sem_ix s2.sub r r2 p2 fun u' v' p3 r3 => k _ _ _ _ _ p3 s2 r3 f2
    | lst a os =>
      obtain ⟨n, u', e1, e2, p3⟩ := p2
      subst e1
      cases r2
      cases ro with
      | lst h z r =>
        obtain ⟨w, hw', rw'⟩ := r.atI e2
        cases rw' with
        | fz rw' => exact .inl ⟨_, _, _, w, rfl, rfl, .inl (.inl h), hw', k _ _ _ _ _ p3 s2 rw' f2⟩
    | dct a os => exact p2.elim
    | dcT a os => exact p2.elim
    | ins a b c os => exact p2.elim⟩
theorem xp_none : XP X none wNoP := ⟨PO.imp po_none fun σ H Q ⟨ρ, F, P, s, hw, k⟩ => k _ _ _ _ hw s .refl⟩
theorem xp_some (h : XE X e w) : XP X (some e) (wSoP w) := ⟨PO.imp (po_some h.pe) fun σ H Q ⟨ρ, F, P, s, hw, k⟩ =>
  ⟨ρ, F, _, s, hw, fun d ρ1 F1 H1 v p s1 r1 f1 => by
    cases d <;> first
      | exact p.elim
      | skip
    cases r1
    exact ⟨_, rfl, k _ _ _ _ p s1 f1⟩⟩⟩
theorem xo_sl (ha : XE X a wa) (hl : XP X lo wl) (hh : XP X hi wh) : XO X (.Subscript a (.Slice lo hi none p2) pos) (wSl wa wl wh) := ⟨PE.imp (pe_slice sl_T ha.pe hl.po hh.po) fun σ H Q ⟨ρ, F, P, s, hw, k⟩ =>
  ⟨ρ, F, _, s, hw, fun d ρ1 F1 H1 v p s1 r1 f1 => ⟨ρ1, F1, _, s1, p, fun l ρ2 F2 H2 p2 s2 f2 => ⟨ρ2, F2, _, s2, p2, fun h ρ3 F3 H3 p3 s3 f3 =>
    sem_sl s3.sub ((r1.mono f2.fz).mono f3.fz) p3 fun o v' F4 H4 p4 res => by
      obtain ⟨s4, f4⟩ := res _ _ s3
      exact k _ _ _ _ _ p4 s4 (((f1.trans f2).trans f3).trans f4)⟩⟩⟩⟩
end
end Tr
/-! The tree layer: calls, statements. -/
namespace Tr
open PySem PySem.Spec PyProof.Rows L2

/-! ### calls of built-in functions -/
def SemO1 (K : PySem.W.Frag) (r : List V → Hp → VK → Prop) (sem : D → (O → Prop) → Prop) : Prop :=
  ∀ (F H : Hp) (x : V) (d : D) (P : O → Prop) (Q : VK), Sb F H → Rep K F x d → sem d P → (∀ o v F' H', P o → Res K F H o v F' H' → Q v H') → r [x] H Q
def wC1 (sem : D → (D → Prop) → Prop) (w : WD) : WD := fun ρ P => w ρ fun d ρ' => sem d fun u => P u ρ'
def wO1 (sem : D → (O → Prop) → Prop) (w : WD) : WO := fun ρ P => w ρ fun d ρ' => sem d fun u => P u ρ'
/-- the built-in classes that isinstance is asked of -/
inductive PT where
  | int
  | bl
  | str
  | tup
  | lst
  | dct
def PT.nm : PT → String
  | .int => "int"
  | .bl => "bool"
  | .str => "str"
  | .tup => "tuple"
  | .lst => "list"
  | .dct => "dict"
def D.is (t : PT) (d : D) : Option Bool := match d with
  | .non => some false
  | .bl _ => some (match t with
    | .bl => true
    | .int => true
    | _ => false)
  | .int _ => some (match t with
    | .int => true
    | _ => false)
  | .str _ => some (match t with
    | .str => true
    | _ => false)
  | .tup _ => some (match t with
    | .tup => true
    | _ => false)
  | .lst _ => some (match t with
    | .lst => true
    | _ => false)
  | .dct _ => some (match t with
    | .dct => true
    | _ => false)
  | _ => none
theorem is_isA {t : PT} {d : D} {b : Bool} (h : d.is t = some b) : d.isA t.nm = some b := by
  cases d <;> first
    | (cases h; done)
    | (cases h; cases t <;> rfl)
def wIsi (t : PT) (w : WD) : WD := fun ρ P => w ρ fun d ρ' => match d.is t with
  | some b => P (.bl b) ρ'
  | none => False
section
variable {X : Cx} {x : Str} {p pos pn : Pos} {e e2 : Expr} {id T : String} {r : List V → Hp → VK → Prop} {sem : D → (D → Prop) → Prop} {semo : D → (O → Prop) → Prop} {w w2 : WD}
theorem t_c1 (hs : SemC1 X.K r sem) {σ : L2.St} {H : Hp} {Q : VK} (h : liftD X.K (wC1 sem w) σ H Q) : tCB r (tCons (liftB X.K w) tNil) σ H Q := by
  obtain ⟨ρ, F, P, s, hw, k⟩ := h
  exact ⟨ρ, F, _, s, hw, fun d ρ' F' F'' H' v p s' sb su r f => hs F'' H' _ d _ Q sb r p fun u v' p' rr => k _ _ _ _ _ p' s' (rr _) f⟩
theorem t_o1 (hs : SemO1 X.K r semo) {σ : L2.St} {H : Hp} {Q : VK} (h : liftO X.K (wO1 semo w) σ H Q) : tCB r (tCons (liftD X.K w) tNil) σ H Q := by
  obtain ⟨ρ, F, P, s, hw, k⟩ := h
  exact ⟨ρ, F, _, s, hw, fun d ρ' F' H' v p s' r f => hs F' H' _ d _ Q s'.sub r p fun o v' F2 H2 p' res => by
    obtain ⟨s2, f2⟩ := res _ _ s'
    exact k _ _ _ _ _ p' s2 (f.trans f2)⟩
theorem xe_callB (hc : CallR X (.builtin id) r) (hs : SemC1 X.K r sem) (hg : Gl X x) (hm : X.mg x = none) (hv : bootBuiltins x = some (.builtin id)) (ha : XB X e w) (hn : x ≠ "__name__" := by decide) (hdb : (x == ("__debug__" : Str)) = false := by decide)
    (he : starEach [e] X.env = (false, eval e X.env) :: starEach [] X.env := by rfl) (hpl : (backTo pos (starEach [] X.env)).any (·.1) = false := by rfl) : XE X (.Call (.Name x p) [e] [] pos) (wC1 sem w) :=
  ⟨PE.imp (pe_callB hc hg hm hv (pa_cons ha.pe pa_nil he) hn hdb he hpl) fun _ _ _ h => t_c1 hs h⟩
theorem xe_callTy (hc : CallR X (.type T) r) (hs : SemC1 X.K r sem) (hg : Gl X x) (hm : X.mg x = none) (hv : bootBuiltins x = some (.type T)) (ha : XB X e w) (hn : x ≠ "__name__" := by decide) (hdb : (x == ("__debug__" : Str)) = false := by decide)
    (he : starEach [e] X.env = (false, eval e X.env) :: starEach [] X.env := by rfl) (hpl : (backTo pos (starEach [] X.env)).any (·.1) = false := by rfl) : XE X (.Call (.Name x p) [e] [] pos) (wC1 sem w) :=
  ⟨PE.imp (pe_callTy hc hg hm hv (pa_cons ha.pe pa_nil he) hn hdb he hpl) fun _ _ _ h => t_c1 hs h⟩
theorem xo_callTy (hc : CallR X (.type T) r) (hs : SemO1 X.K r semo) (hg : Gl X x) (hm : X.mg x = none) (hv : bootBuiltins x = some (.type T)) (ha : XE X e w) (hn : x ≠ "__name__" := by decide) (hdb : (x == ("__debug__" : Str)) = false := by decide)
    (he : starEach [e] X.env = (false, eval e X.env) :: starEach [] X.env := by rfl) (hpl : (backTo pos (starEach [] X.env)).any (·.1) = false := by rfl) : XO X (.Call (.Name x p) [e] [] pos) (wO1 semo w) :=
  ⟨PE.imp (pe_callTy hc hg hm hv (pa_cons ha.pe pa_nil he) hn hdb he hpl) fun _ _ _ h => t_o1 hs h⟩
theorem xo_callB (hc : CallR X (.builtin id) r) (hs : SemO1 X.K r semo) (hg : Gl X x) (hm : X.mg x = none) (hv : bootBuiltins x = some (.builtin id)) (ha : XE X e w) (hn : x ≠ "__name__" := by decide) (hdb : (x == ("__debug__" : Str)) = false := by decide)
    (he : starEach [e] X.env = (false, eval e X.env) :: starEach [] X.env := by rfl) (hpl : (backTo pos (starEach [] X.env)).any (·.1) = false := by rfl) : XO X (.Call (.Name x p) [e] [] pos) (wO1 semo w) :=
  ⟨PE.imp (pe_callB hc hg hm hv (pa_cons ha.pe pa_nil he) hn hdb he hpl) fun _ _ _ h => t_o1 hs h⟩
/-- two operands, an answer that is no object -/
def SemC2 (K : PySem.W.Frag) (r : List V → Hp → VK → Prop) (sem : D → D → (D → Prop) → Prop) : Prop :=
  ∀ (F H : Hp) (x y : V) (d e : D) (P : D → Prop) (Q : VK), Sb F H → Rep K F x d → Rep K F y e → sem d e P → (∀ u v, P u → (∀ G, Rep K G v u) → Q v H) → r [x, y] H Q
theorem xe_callB2 {sem2 : D → D → (D → Prop) → Prop} (hc : CallR X (.builtin id) r) (hs : SemC2 X.K r sem2) (hg : Gl X x) (hm : X.mg x = none) (hv : bootBuiltins x = some (.builtin id)) (ha : XE X e w) (hb : XE X e2 w2) (hn : x ≠ "__name__" := by decide) (hdb : (x == ("__debug__" : Str)) = false := by decide)
    (he : starEach [e, e2] X.env = (false, eval e X.env) :: starEach [e2] X.env := by rfl) (he2 : starEach [e2] X.env = (false, eval e2 X.env) :: starEach [] X.env := by rfl) (hpl : (backTo pos (starEach [e2] X.env)).any (·.1) = false := by rfl) :
    XE X (.Call (.Name x p) [e, e2] [] pos) (wCmp sem2 w w2) :=
  ⟨PE.imp (pe_callB hc hg hm hv (pa_cons ha.pe (pa_cons hb.pe pa_nil he2) he) hn hdb he hpl) fun σ H Q ⟨ρ, F, P, s, hw, k⟩ =>
    ⟨ρ, F, _, s, hw, fun d ρ1 F1 H1 v p s1 r1 f1 => ⟨ρ1, F1, _, s1, p, fun e ρ2 F2 H2 u p2 s2 r2 f2 =>
      hs F2 H2 _ _ d e _ Q s2.sub (r1.mono f2.fz) r2 p2 fun u' v' p3 rr => k _ _ _ _ _ p3 s2 (rr _) (f1.trans f2)⟩⟩⟩
theorem sem_max2 : SemC2 X.K (fun xs H Q => ∃ i j, xs = [.int i, .int j] ∧ Q (.int (if j > i then j else i)) H) semMax2 := by
  intro F H x y d e P Q sb rx ry hs k
  unfold semMax2 at hs
  split at hs
  · cases rx; cases ry; exact ⟨_, _, rfl, k _ _ hs fun _ => .int _⟩
  · exact hs.elim
theorem sem_min2 : SemC2 X.K (fun xs H Q => ∃ i j, xs = [.int i, .int j] ∧ Q (.int (if j < i then j else i)) H) semMin2 := by
  intro F H x y d e P Q sb rx ry hs k
  unfold semMin2 at hs
  split at hs
  · cases rx; cases ry; exact ⟨_, _, rfl, k _ _ hs fun _ => .int _⟩
  · exact hs.elim
/-- isinstance(e, T), T a built-in class -/
theorem xe_isi {t : PT} (hg : Gl X "isinstance") (hm : X.mg "isinstance" = none) (hgT : Gl X x) (hmT : X.mg x = none) (hvT : bootBuiltins x = some (.type t.nm)) (ha : XB X e w) (hn : x ≠ "__name__" := by decide) (hdb : (x == ("__debug__" : Str)) = false := by decide)
    (he : starEach [e, .Name x pn] X.env = (false, eval e X.env) :: starEach [.Name x pn] X.env := by rfl) (he2 : starEach [.Name x pn] X.env = (false, eval (.Name x pn) X.env) :: starEach [] X.env := by rfl) (hpl : (backTo pos (starEach [.Name x pn] X.env)).any (·.1) = false := by rfl) :
    XE X (.Call (.Name "isinstance" p) [e, .Name x pn] [] pos) (wIsi t w) := by
  have hN : PE X (.Name x pn) (tC (.ty t.nm)) := pe_bltn hgT hmT hvT rfl hn hdb
  refine ⟨PE.imp (pe_callB call_isi hg hm boot_isinstance (pa_cons ha.pe (pa_cons hN pa_nil he2) he) (by decide) (by decide) he hpl) fun σ H Q ⟨ρ, F, P, s, hw, k⟩ => ?_⟩
  refine ⟨ρ, F, _, s, hw, fun d ρ' F' F'' H' v p s' sb su r f => ?_⟩
  cases hd : d.is t with
  | none => rw [hd] at p; exact p.elim
  | some b =>
    rw [hd] at p
    obtain ⟨tt, ty, kt⟩ := isi_ok sb r (is_isA hd)
    exact ⟨v, .ty t.nm, tt, .type t.nm, b, rfl, .ty t.nm, ty, kt, k _ _ _ _ _ p s' (.bl b) f⟩
def semTuple (d : D) (P : O → Prop) : Prop := match d.items with
  | some ds => P (.fz (.tup ds))
  | none => False
theorem sem_tuple : SemO1 X.K (fun xs H Q => ∃ p ys, xs = [.ref p] ∧ ((SqL X.K H p ys ∧ ∀ l, H l = none → Q (.ref l) (upd H l (.tup ys))) ∨ (SqT X.K H p ys ∧ Q (.ref p) H))) semTuple := by
  intro F H x d P Q sb rx hs k
  unfold semTuple at hs
  cases rx <;> first
    | (exact hs.elim)
    | skip
  · rename_i h1 z r; exact ⟨_, _, rfl, .inr ⟨sb.sqT h1, k _ _ _ _ hs (.fz (.tup h1 z r))⟩⟩
  · rename_i h1 z r; exact ⟨_, _, rfl, .inl ⟨.inl (.inl (sb.lst h1)), fun l hl => k _ _ _ _ hs (.tup sb hl z r)⟩⟩
  · rename_i h1 z r; exact ⟨_, _, rfl, .inl ⟨sb.sqL h1, fun l hl => k _ _ _ _ hs (.tup sb hl z r)⟩⟩
def semList (d : D) (P : O → Prop) : Prop := match d.items with
  | some ds => ∀ a, P (.lst a (ds.map .fz))
  | none => False
theorem sem_list : SemO1 X.K (fun xs H Q => ∃ p ys, xs = [.ref p] ∧ (SqL X.K H p ys ∨ SqT X.K H p ys) ∧ ∀ l, H l = none → Q (.ref l) (upd H l (.lst ys))) semList := by
  intro F H x d P Q sb rx hs k
  unfold semList at hs
  cases hi : d.items with
  | none => rw [hi] at hs; exact hs.elim
  | some ds =>
    rw [hi] at hs
    obtain ⟨p, xs, rfl, hq, r, z⟩ := rx.seq sb hi
    exact ⟨p, xs, rfl, hq, fun l hl => k _ _ _ _ (hs l) (.lst hl z r)⟩
end

/-- {} -/
def wDct0 : WO := fun ρ P => ∀ a, P (.dct a []) ρ
theorem xo_dct0 {X : Cx} {pos : Pos} : XO X (.Dict [] [] pos) wDct0 := ⟨PE.imp pe_dnewK fun σ H Q ⟨ρ, F, P, s, hw, k⟩ q hq => by
  obtain ⟨s2, f2⟩ := s.newO (u := .dK []) (o := .dct q []) hq (.dct upd_same (Nat.zero_le _) .nil) rfl
  exact k _ _ _ _ _ (hw q) s2 f2⟩
/-! ### calls of the text's defs -/
/-- what a def does to things: its arguments, its answer and what the arguments are behind it -/
abbrev SpT := List O → (O → List O → Prop) → Prop
def liftSp (K : PySem.W.Frag) (sp : SpT) : Sp := fun vs H Q _ => ∃ os F P, SR K (os.map some) (vs.map some) F H ∧ sp os P ∧
  ∀ o os' F' H' v, P o os' → SR K (some o :: os'.map some) (some v :: vs.map some) F' H' → Frm (ownedE (os.map some)) F H (ownedE (some o :: os'.map some)) F' H' → Q v H'
section
variable {K : PySem.W.Frag} {ρ : TEnv} {σ : L2.St} {F H F' H' : Hp}
theorem ownedE_D : ∀ ds : List D, ownedE ((ds.map O.fz).map some) = []
  | [] => rfl
  | d :: ds => by
    show ([] : List Addr) ++ ownedE ((ds.map O.fz).map some) = []
    rw [ownedE_D ds]
    rfl
theorem SR.args (s : SR K ρ σ F H) : ∀ {vs : List V} {ds : List D}, RepL K F vs ds → SR K ((ds.map O.fz).map some) (vs.map some) F H
  | _, _, .nil => ⟨s.sub, rfl, fun _ _ e => (by cases e), fun _ h => (by cases h), List.nodup_nil⟩
  | _, _, .cons h r => (SR.args s r).pushD h
/-- what stands outside stays -/
theorem SR.out {L L' : List Addr} (s : SR K ρ σ F H) (f : Frm L F H L' F' H') (sb : Sb F' H') (d : ∀ a ∈ ownedE ρ, a ∉ L) : SR K ρ σ F' H' ∧ ∀ a ∈ ownedE ρ, a ∉ L' := by
  have key : ∀ a ∈ ownedE ρ, ∀ u, H a = some u → H' a = some u ∧ F' a = none := fun a ha u e => f.out a u (d a ha) (s.ntE a ha u e) (s.own a ha) e
  refine ⟨⟨sb, s.len, fun i o e => ?_, fun a ha => ?_, s.nd⟩, fun a ha hL => ?_⟩
  · obtain ⟨v, hv, r⟩ := s.slot i o e
    exact ⟨v, hv, r.mono f.fz fun a ha u hu => (key a (mem_ownedE e a ha) u hu).1⟩
  · obtain ⟨u, e⟩ := s.thereE a ha
    exact (key a ha u e).2
  · obtain ⟨u, e⟩ := s.thereE a ha
    rcases f.new a hL with z | z
    · exact d a ha z
    · rw [e] at z; cases z
theorem SR.set {i : Nat} {o : O} {v : V} (s : SR K (some o :: ρ) (some v :: σ) F H) (hv : σ[i]? = some (some v)) : SR K (ρ.set i (some o)) σ F H ∧ ∀ b, b ∈ ownedE (ρ.set i (some o)) → b ∈ ownedE (some o :: ρ) := by
  obtain ⟨s1, m⟩ := s.store (i := i)
  rw [set_getElemV hv] at s1
  exact ⟨s1, m⟩
/-- a call with data alone -/
theorem liftSp_D {sp : SpT} {vs : List V} {ds : List D} {P : O → Prop} {Q : VK} {E : XK} (s : SR K ρ σ F H) (r : RepL K F vs ds) (h : sp (ds.map .fz) fun o _ => P o)
    (k : ∀ o F' H' v, P o → SR K (some o :: ρ) (some v :: σ) F' H' → Frm (ownedE ρ) F H (ownedE (some o :: ρ)) F' H' → Q v H') : liftSp K sp vs H Q E := by
  refine ⟨ds.map .fz, F, _, s.args r, h, fun o os' F' H' v p s' f => ?_⟩
  rw [ownedE_D] at f
  obtain ⟨s1, n1⟩ := s.out f s'.sub fun _ _ h => by cases h
  have nd := List.nodup_append.mp s'.nd
  refine k o F' H' v p (s1.push s'.top (fun a ha => s'.own a (List.mem_append_left _ ha)) ?_) ⟨f.fz, fun b u _ => f.out b u (by simp), fun b hb => ?_, f.dom, f.lk⟩
  · exact List.nodup_append.mpr ⟨nd.1, s1.nd, fun a ha b hb e => by
      subst e
      exact n1 a hb (List.mem_append_left _ ha)⟩
  · rcases List.mem_append.mp hb with h | h
    · rcases f.new b (List.mem_append_left _ h) with z | z
      · cases z
      · exact .inr z
    · exact .inl h
/-- a call that changes the thing at slot i -/
theorem liftSp_S {sp : SpT} {i : Nat} {o0 : O} {v0 : V} {vs : List V} {ds : List D} {P : O → TEnv → Prop} {Q : VK} {E : XK} (s : SR K ρ σ F H) (e0 : ρ[i]? = some (some o0)) (hv0 : σ[i]? = some (some v0)) (r : RepL K F vs ds)
    (h : sp (o0 :: ds.map .fz) fun o os' => ∃ o' r', os' = o' :: r' ∧ P o (ρ.set i (some o')))
    (k : ∀ o ρ' F' H' v, P o ρ' → SR K (some o :: ρ') (some v :: σ) F' H' → Frm (ownedE ρ) F H (ownedE (some o :: ρ')) F' H' → Q v H') : liftSp K sp (v0 :: vs) H Q E := by
  obtain ⟨v, hv, st, mt⟩ := s.take e0
  rw [hv0] at hv
  cases hv
  have ndt := List.nodup_append.mp st.nd
  have sa : SR K ((o0 :: ds.map O.fz).map some) ((v0 :: vs).map some) F H := by
    refine (s.args r).push st.top (fun a ha => st.own a (List.mem_append_left _ ha)) ?_
    rw [ownedE_D, List.append_nil]
    exact ndt.1
  have eA : ownedE ((o0 :: ds.map O.fz).map some) = o0.owned := by
    show o0.owned ++ ownedE ((ds.map O.fz).map some) = _
    rw [ownedE_D, List.append_nil]
  refine ⟨o0 :: ds.map .fz, F, _, sa, h, fun o os' F' H' v p s' f => ?_⟩
  rw [eA] at f
  obtain ⟨o', r', rfl, p⟩ := p
  obtain ⟨sB, nB⟩ := st.pop.out f s'.sub fun a ha hb => ndt.2.2 a hb a ha rfl
  -- s' : answer, the changed thing, the rest
  have nd := List.nodup_append.mp s'.nd
  have nd2 : o'.owned.Nodup ∧ (ownedE (r'.map some)).Nodup ∧ ∀ a ∈ o'.owned, ∀ b ∈ ownedE (r'.map some), a ≠ b := List.nodup_append.mp nd.2.1
  have s2 : SR K (some o' :: ρ.set i none) (some v0 :: σ) F' H' := sB.push s'.pop.top (fun a ha => s'.own a (List.mem_append_right _ (List.mem_append_left _ ha))) (List.nodup_append.mpr ⟨nd2.1, sB.nd, fun a ha b hb e => by
    subst e
    exact nB a hb (List.mem_append_right _ (List.mem_append_left _ ha))⟩)
  obtain ⟨s3, m3⟩ := s2.set (i := i) hv0
  rw [List.set_set] at s3 m3
  have s4 : SR K (some o :: ρ.set i (some o')) (some v :: σ) F' H' := s3.push s'.top (fun a ha => s'.own a (List.mem_append_left _ ha)) (List.nodup_append.mpr ⟨nd.1, s3.nd, fun a ha b hb e => by
    subst e
    rcases List.mem_append.mp (m3 a hb) with h | h
    · exact nd.2.2 a ha a (List.mem_append_left _ h) rfl
    · exact nB a h (List.mem_append_left _ ha)⟩)
  refine k o _ F' H' v p s4 ⟨f.fz, fun b u hb ht hf e => f.out b u (fun z => hb ((mt b).mpr (List.mem_append_left _ z))) ht hf e, fun b hb => ?_, f.dom, f.lk⟩
  rcases List.mem_append.mp hb with h | h
  · rcases f.new b (List.mem_append_left _ h) with z | z
    · exact .inl ((mt b).mpr (List.mem_append_left _ z))
    · exact .inr z
  · rcases List.mem_append.mp (m3 b h) with h | h
    · rcases f.new b (List.mem_append_right _ (List.mem_append_left _ h)) with z | z
      · exact .inl ((mt b).mpr (List.mem_append_left _ z))
      · exact .inr z
    · exact .inl ((mt b).mpr (List.mem_append_right _ h))
end
def wCall (sp : SpT) (wl : WL) : WO := fun ρ P => wl ρ fun ds ρ' => sp (ds.map .fz) fun o _ => P o ρ'
def wCallS (sp : SpT) (i : Nat) (wl : WL) : WO := fun ρ P => match nth ρ i with
  | some _ => wl ρ fun ds ρ' => match nth ρ' i with
    | some o => sp (o :: ds.map .fz) fun r os' => ∃ o' t, os' = o' :: t ∧ putC ρ' i (some o') (P r)
    | none => False
  | none => False
section
variable {X : Cx} {k : Nat} {f : Addr} {fd : FuncData} {ps : List Str} {sp : SpT} {x : Str} {p pos : Pos} {e : Expr} {es : List Expr} {wl : WL} {i : Nat}
theorem t_call {σ : L2.St} {H : Hp} {Q : VK} {E : XK} (h : liftO X.K (wCall sp wl) σ H Q) : tCall (liftSp X.K sp) [] E (liftA X.K wl) σ H Q := by
  obtain ⟨ρ, F, P, s, hw, k⟩ := h
  refine ⟨ρ, F, _, s, hw, fun ds ρ1 F1 H1 vs p s1 r1 f1 => ?_⟩
  show liftSp X.K sp (vs ++ []) H1 Q E
  rw [List.append_nil]
  exact liftSp_D (P := fun o => P o ρ1) s1 r1 p fun o F' H' v p' s' f' => k _ _ _ _ _ p' s' (f1.trans f')
theorem xo_call (G : FnOk X.prog X.w X.K X.mg X.base CX0 k f fd ps (liftSp X.K sp)) (hr : Room k X.A) (hg : Gl X x) (hm : X.mg x = some (.ref f)) (hk : PySem.W.keepIn X.K (.ref f) = true) (hb : Binds X.K fd ps [])
    (ha : XA X (e :: es) wl) (hdb : (x == ("__debug__" : Str)) = false := by decide) (he : starEach (e :: es) X.env = (false, eval e X.env) :: starEach es X.env := by rfl) (hpl : (backTo pos (starEach es X.env)).any (·.1) = false := by rfl) :
    XO X (.Call (.Name x p) (e :: es) [] pos) (wCall sp wl) := ⟨PE.imp (pe_call G hr hg hm hk hb .nil pass0 ha.pa hdb he hpl) fun _ _ _ h => t_call h⟩
theorem xo_call0 (G : FnOk X.prog X.w X.K X.mg X.base CX0 k f fd ps (liftSp X.K sp)) (hr : Room k X.A) (hg : Gl X x) (hm : X.mg x = some (.ref f)) (hk : PySem.W.keepIn X.K (.ref f) = true) (hb : Binds X.K fd ps [])
    (hdb : (x == ("__debug__" : Str)) = false := by decide) : XO X (.Call (.Name x p) [] [] pos) (wCall sp wNil) := ⟨PE.imp (pe_call0 G hr hg hm hk hb .nil pass0 hdb) fun σ H Q h => by
  obtain ⟨ρ, F, P, s, hw, k⟩ := h
  show liftSp X.K sp ([] ++ []) H Q E0
  exact liftSp_D (P := fun o => P o ρ) s .nil hw fun o F' H' v p' s' f' => k _ _ _ _ _ p' s' f'⟩
theorem t_callS {σ : L2.St} {H : Hp} {Q : VK} {E : XK} (h : liftO X.K (wCallS sp i wl) σ H Q) : tCall (liftSp X.K sp) [] E (tCons (tVar i) (liftA X.K wl)) σ H Q := by
  obtain ⟨ρ, F, P, s, hw, k⟩ := h
  unfold wCallS at hw
  cases hn0 : nth ρ i with
  | none => rw [hn0] at hw; exact hw.elim
  | some o0 =>
  rw [hn0] at hw
  obtain ⟨v0, hv0, _⟩ := s.slot i o0 (nth_eq hn0)
  refine ⟨v0, hv0, ρ, F, _, s, hw, fun ds ρ1 F1 H1 vs p s1 r1 f1 => ?_⟩
  show liftSp X.K sp (v0 :: vs ++ []) H1 Q E
  rw [List.append_nil]
  cases hn : nth ρ1 i with
  | none => rw [hn] at p; exact p.elim
  | some o1 =>
  rw [hn] at p
  refine liftSp_S (P := P) s1 (nth_eq hn) hv0 r1 ?_ fun o ρ' F' H' v p' s' f' => k _ _ _ _ _ p' s' (f1.trans f')
  have e : ∀ o' r, putC ρ1 i (some o') (P r) = P r (ρ1.set i (some o')) := fun o' r => putC_eq _ _ _ _
  simp only [e] at p
  exact p
/-- f(s, ..), the def changes what stands at s -/
theorem xo_callS (G : FnOk X.prog X.w X.K X.mg X.base CX0 k f fd ps (liftSp X.K sp)) (hr : Room k X.A) (hg : Gl X x) (hm : X.mg x = some (.ref f)) (hk : PySem.W.keepIn X.K (.ref f) = true) (hb : Binds X.K fd ps [])
    (h0 : PE X e (tVar i)) (ha : XA X es wl) (hdb : (x == ("__debug__" : Str)) = false := by decide) (he : starEach (e :: es) X.env = (false, eval e X.env) :: starEach es X.env := by rfl) (hpl : (backTo pos (starEach es X.env)).any (·.1) = false := by rfl) :
    XO X (.Call (.Name x p) (e :: es) [] pos) (wCallS sp i wl) := ⟨PE.imp (pe_call G hr hg hm hk hb .nil pass0 (pa_cons h0 ha.pa he) hdb he hpl) fun _ _ _ h => t_callS h⟩
end

/-! ### keywords -/
def pickL {α : Type} (ix : List Nat) (l : List α) : List α := ix.filterMap fun i => l[i]?
/-- how a call with m values and keywords ks binds: the parameters are what stands at ix among the values and the keywords' values -/
structure KwB (K : PySem.W.Frag) (fd : FuncData) (ps ks : List Str) (m : Nat) (ix : List Nat) : Prop where
  to : ∀ (s : Shared) (us ws : List Value), K.In s.heap → us.length = m → ws.length = ks.length → BindsTo s fd ⟨us, ks.zip ws⟩ (ps.zip (pickL ix (us ++ ws)))
  len : ix.length = ps.length
  lt : ∀ i ∈ ix, i < m + ks.length
theorem pick_len {α : Type} {l : List α} : ∀ {ix : List Nat}, (∀ i ∈ ix, i < l.length) → (pickL ix l).length = ix.length
  | [], _ => rfl
  | i :: ix, h => by
    have h1 := h i List.mem_cons_self
    unfold pickL
    rw [List.filterMap_cons, List.getElem?_eq_getElem h1]
    show (pickL ix l).length + 1 = _
    rw [pick_len fun j hj => h j (List.mem_cons_of_mem _ hj)]
    rfl
theorem pick_vals {l : List V} {us : List Value} (r : Vals l us) : ∀ ix : List Nat, Vals (pickL ix l) (pickL ix us)
  | [] => .nil
  | i :: ix => by
    unfold pickL
    rw [List.filterMap_cons, List.filterMap_cons]
    cases e : l[i]? with
    | none =>
      rw [r.none_of e]
      exact pick_vals r ix
    | some v =>
      obtain ⟨u, hu, rv⟩ := r.get e
      rw [hu]
      exact .cons rv (pick_vals r ix)
theorem pick_rep {K : PySem.W.Frag} {F : Hp} {l : List V} {ds : List D} (r : RepL K F l ds) : ∀ ix : List Nat, RepL K F (pickL ix l) (pickL ix ds)
  | [] => .nil
  | i :: ix => by
    unfold pickL
    rw [List.filterMap_cons, List.filterMap_cons]
    cases e : ds[i]? with
    | none =>
      have e' : l[i]? = none := List.getElem?_eq_none_iff.mpr (by rw [r.length]; exact List.getElem?_eq_none_iff.mp e)
      rw [e']
      exact pick_rep r ix
    | some d =>
      obtain ⟨u, hu, rv⟩ := r.get e
      rw [hu]
      exact .cons rv (pick_rep r ix)
structure XKw (X : Cx) (kws : List Keyword) (w : WL) : Prop where
  pk : PK X kws (liftA X.K w)
theorem PK.imp {X : Cx} {e : List Keyword} {t t' : TA} (h : PK X e t) (i : ∀ σ H Q, t' σ H Q → t σ H Q) : PK X e t' := ⟨fun pos pins s σ H Q I hw => h.run pos pins s σ H Q I (i _ _ _ hw)⟩
def wCallK (sp : SpT) (m n : Nat) (ix : List Nat) (wl wk : WL) : WO := fun ρ P => wl ρ fun ds ρ1 => wk ρ1 fun es ρ2 => ds.length = m ∧ es.length = n ∧ sp ((pickL ix (ds ++ es)).map .fz) fun o _ => P o ρ2
section
variable {X : Cx} {k m : Nat} {f : Addr} {fd : FuncData} {ps ks : List Str} {ix : List Nat} {sp : SpT} {x : Str} {p pos kpos : Pos} {e : Expr} {es : List Expr} {kws : List Keyword} {w : WD} {wl wk : WL} {nm : Option Str}
theorem xk_nil : XKw X [] wNil := ⟨PK.imp pk_nil fun σ H Q ⟨ρ, F, P, s, hw, k⟩ => k _ _ _ _ _ hw s .nil .refl⟩
theorem xk_cons (h : XE X e w) (r : XKw X kws wk) : XKw X (⟨nm, e, kpos⟩ :: kws) (wCons w wk) := ⟨PK.imp (pk_cons h.pe r.pk) fun σ H Q ⟨ρ, F, P, s, hw, k⟩ =>
  ⟨ρ, F, _, s, hw, fun d ρ1 F1 H1 v p s1 r1 f1 => ⟨ρ1, F1, _, s1, p, fun ds ρ2 F2 H2 vs p2 s2 r2 f2 => k _ _ _ _ _ p2 s2 (.cons (r1.mono f2.fz) r2) (f1.trans f2)⟩⟩⟩
/-- the callee runs -/
theorem run_kw {E : XK} {pins : List (Addr × Obj)} {σ : L2.St} {H : Hp} {s : Shared} {Q : VK} {us ws : List Value} {vs zs : List V} {sp : Sp} (G : FnOk X.prog X.w X.K X.mg X.base CX0 k f fd ps sp) (hr : Room k X.A) (hb : KwB X.K fd ps ks m ix)
    (I : Inv X pins σ H s) (r : Vals vs us) (rz : Vals zs ws) (l1 : vs.length = m) (l2 : zs.length = ks.length) (h : sp (pickL ix (vs ++ zs)) H Q E) : wpAny (model X.prog X.w) X.A (call (.ref f) us (ks.zip ws)) (EP X pins σ Q) X.xe s := by
  have n1 : us.length = m := by rw [← r.length, l1]
  have n2 : ws.length = ks.length := by rw [← rz.length, l2]
  refine wpAny_call (codeAny_mono (G.run X.A X.stack s H ⟨us, ks.zip ws⟩ (pickL ix (us ++ ws)) (pickL ix (vs ++ zs)) Q E hr I.env0 (hb.to s us ws I.kIn n1 n2) (pick_vals (r.append rz) ix) h) fun res s' hq => ?_)
  cases res with
  | error er => exact False.elim hq
  | ok fl => cases fl with
    | ret u => exact I.after hq
    | _ => exact False.elim hq
theorem xo_callK (G : FnOk X.prog X.w X.K X.mg X.base CX0 k f fd ps (liftSp X.K sp)) (hr : Room k X.A) (hg : Gl X x) (hm : X.mg x = some (.ref f)) (hk : PySem.W.keepIn X.K (.ref f) = true) (hb : KwB X.K fd ps ks m ix)
    (ha : XA X (e :: es) wl) (hkw : XKw X kws wk) (hall : (backToKw pos (keywordEach kws X.env)).all (·.1.isSome) = true := by rfl) (hks : (backToKw pos (keywordEach kws X.env)).filterMap (·.1) = ks := by rfl)
    (hdb : (x == ("__debug__" : Str)) = false := by decide) (he : starEach (e :: es) X.env = (false, eval e X.env) :: starEach es X.env := by rfl)
    (hpl : ((backTo pos (starEach (e :: es) X.env)).any (·.1) || (backToKw pos (keywordEach kws X.env)).any (·.1.isNone)) = false := by rfl) :
    XO X (.Call (.Name x p) (e :: es) kws pos) (wCallK sp m ks.length ix wl wk) := by
  refine ⟨⟨fun pins s σ H Q I h => ?_⟩⟩
  obtain ⟨ρ, F, P, sr, hw, kk⟩ := h
  refine wpAny_Call_Name_kw (ld_glob I hg hm ?_ hdb)
  refine PySem.W.callWith_KW (h₀ := X.base) I.ok.mod.kin hk hall (thn (ha.pa.run pos pins s σ H _ I ⟨ρ, F, _, sr, hw, fun ds ρ1 F1 H1 vs p1 s1 r1 f1 => (show ∃ ds ρ1 F1, SR X.K ρ1 σ F1 H1 ∧ RepL X.K F1 vs ds ∧ Frm (ownedE ρ) F H (ownedE ρ1) F1 H1 ∧ wk ρ1 fun es ρ2 => ds.length = m ∧ es.length = ks.length ∧ sp ((pickL ix (ds ++ es)).map .fz) fun o _ => P o ρ2 from ⟨ds, ρ1, F1, s1, r1, f1, p1⟩)⟩) fun us s1 ⟨vs, H1, I1, r, ds, ρ1, F1, sr1, r1, f1, q⟩ => ?_) hpl he
  refine thn (hkw.pk.run pos pins s1 σ H1 _ I1 ⟨ρ1, F1, _, sr1, q, fun es ρ2 F2 H2 zs p2 s2 r2 f2 => (show ∃ es ρ2 F2, SR X.K ρ2 σ F2 H2 ∧ RepL X.K F2 zs es ∧ Frm (ownedE ρ1) F1 H1 (ownedE ρ2) F2 H2 ∧ (ds.length = m ∧ es.length = ks.length ∧ sp ((pickL ix (ds ++ es)).map .fz) fun o _ => P o ρ2) from ⟨es, ρ2, F2, s2, r2, f2, p2⟩)⟩) fun ws s2 ⟨zs, H2, I2, rz, es', ρ2, F2, sr2, r2, f2, l1, l2, q2⟩ => ⟨I2.kIn, ?_⟩
  rw [hks]
  refine run_kw (E := E0) G hr hb I2 r rz (by rw [r1.length, l1]) (by rw [r2.length, l2]) ?_
  exact liftSp_D (P := fun o => P o ρ2) sr2 (pick_rep ((r1.mono f2.fz).append r2) ix) q2 fun o F' H' v p' s' f' => kk _ _ _ _ _ p' s' ((f1.trans f2).trans f')
theorem xo_callK0 (G : FnOk X.prog X.w X.K X.mg X.base CX0 k f fd ps (liftSp X.K sp)) (hr : Room k X.A) (hg : Gl X x) (hm : X.mg x = some (.ref f)) (hk : PySem.W.keepIn X.K (.ref f) = true) (hb : KwB X.K fd ps ks 0 ix)
    (hkw : XKw X kws wk) (hall : (backToKw pos (keywordEach kws X.env)).all (·.1.isSome) = true := by rfl) (hks : (backToKw pos (keywordEach kws X.env)).filterMap (·.1) = ks := by rfl)
    (hdb : (x == ("__debug__" : Str)) = false := by decide)
    (hpl : ((backTo pos (starEach [] X.env)).any (·.1) || (backToKw pos (keywordEach kws X.env)).any (·.1.isNone)) = false := by rfl) :
    XO X (.Call (.Name x p) [] kws pos) (wCallK sp 0 ks.length ix wNil wk) := by
  refine ⟨⟨fun pins s σ H Q I h => ?_⟩⟩
  obtain ⟨ρ, F, P, sr, hw, kk⟩ := h
  refine wpAny_Call_Name_kw (ld_glob I hg hm ?_ hdb)
  refine PySem.W.callWith_KW0 (h₀ := X.base) I.ok.mod.kin hk hall ?_ hpl
  have hw : wk ρ fun es ρ2 => ([] : List D).length = 0 ∧ es.length = ks.length ∧ sp ((pickL ix ([] ++ es)).map .fz) fun o _ => P o ρ2 := hw
  refine thn (hkw.pk.run pos pins s σ H _ I ⟨ρ, F, _, sr, hw, fun es ρ2 F2 H2 zs p2 s2 r2 f2 => (show ∃ es ρ2 F2, SR X.K ρ2 σ F2 H2 ∧ RepL X.K F2 zs es ∧ Frm (ownedE ρ) F H (ownedE ρ2) F2 H2 ∧ (([] : List D).length = 0 ∧ es.length = ks.length ∧ sp ((pickL ix ([] ++ es)).map .fz) fun o _ => P o ρ2) from ⟨es, ρ2, F2, s2, r2, f2, p2⟩)⟩) fun ws s2 ⟨zs, H2, I2, rz, es', ρ2, F2, sr2, r2, f2, l1, l2, q2⟩ => ⟨I2.kIn, ?_⟩
  rw [hks]
  refine run_kw (us := []) (vs := []) (E := E0) G hr hb I2 .nil rz rfl (by rw [r2.length, l2]) ?_
  exact liftSp_D (P := fun o => P o ρ2) sr2 (pick_rep r2 ix) q2 fun o F' H' v p' s' f' => kk _ _ _ _ _ p' s' (f2.trans f')
end
end Tr
/-! The tree layer: statements, loops, comprehensions, defs. -/
namespace Tr
open PySem PySem.Spec PyProof.Rows L2

/-! ### statements -/
structure TEnds where
  nx : TEnv → Prop
  rt : O → TEnv → Prop
  bk : TEnv → Prop := fun _ => False
  ct : TEnv → Prop := fun _ => False
/-- another way on -/
def TEnds.on (E : TEnds) (f : TEnv → Prop) : TEnds := { E with nx := f }
/-- .. and the ways of a loop's body -/
def TEnds.lp (E : TEnds) (f : TEnv → Prop) : TEnds := { E with nx := f, ct := f, bk := E.nx }
abbrev WS := TEnv → TEnds → Prop
structure EOk (K : PySem.W.Frag) (ρ : TEnv) (F H : Hp) (E : TEnds) (Dn : Ends) : Prop where
  nx : ∀ ρ' σ' F' H', E.nx ρ' → SR K ρ' σ' F' H' → Frm (ownedE ρ) F H (ownedE ρ') F' H' → Dn.nx σ' H'
  rt : ∀ o ρ' σ' F' H' v, E.rt o ρ' → SR K (some o :: ρ') (some v :: σ') F' H' → Frm (ownedE ρ) F H (ownedE (some o :: ρ')) F' H' → Dn.rt v H'
  bk : ∀ ρ' σ' F' H', E.bk ρ' → SR K ρ' σ' F' H' → Frm (ownedE ρ) F H (ownedE ρ') F' H' → Dn.bk σ' H'
  ct : ∀ ρ' σ' F' H', E.ct ρ' → SR K ρ' σ' F' H' → Frm (ownedE ρ) F H (ownedE ρ') F' H' → Dn.ct σ' H'
theorem EOk.on {K : PySem.W.Frag} {ρ ρ1 : TEnv} {F H F1 H1 : Hp} {E : TEnds} {Dn : Ends} (k : EOk K ρ F H E Dn) (f : Frm (ownedE ρ) F H (ownedE ρ1) F1 H1) : EOk K ρ1 F1 H1 E Dn :=
  ⟨fun _ _ _ _ p s g => k.nx _ _ _ _ p s (f.trans g), fun _ _ _ _ _ _ p s g => k.rt _ _ _ _ _ _ p s (f.trans g), fun _ _ _ _ p s g => k.bk _ _ _ _ p s (f.trans g), fun _ _ _ _ p s g => k.ct _ _ _ _ p s (f.trans g)⟩
def liftS (K : PySem.W.Frag) (w : WS) : TS := fun Dn σ H => ∃ ρ F E, SR K ρ σ F H ∧ w ρ E ∧ EOk K ρ F H E Dn
structure XS (X : Cx) (st : Stmt) (w : WS) : Prop where
  ps : PS X st (liftS X.K w)
structure XSs (X : Cx) (st : List Stmt) (w : WS) : Prop where
  ps : PSs X st (liftS X.K w)
theorem PS.imp {X : Cx} {e : Stmt} {t t' : TS} (h : PS X e t) (i : ∀ D σ H, t' D σ H → t D σ H) : PS X e t' := ⟨fun pins s σ H D I hw => h.run pins s σ H D I (i _ _ _ hw)⟩
theorem PSs.imp {X : Cx} {e : List Stmt} {t t' : TS} (h : PSs X e t) (i : ∀ D σ H, t' D σ H → t D σ H) : PSs X e t' := ⟨fun pins s σ H D I hw => h.run pins s σ H D I (i _ _ _ hw)⟩
def wSkip : WS := fun ρ E => E.nx ρ
structure wSeq (w1 w2 : WS) (ρ : TEnv) (E : TEnds) : Prop where
  go : w1 ρ (E.on fun ρ' => w2 ρ' E)
/-- what holds between two statements -/
theorem seq_mid {w1 w2 : WS} {ρ : TEnv} {E : TEnds} (M : TEnv → Prop) (h1 : ∀ N : TEnv → Prop, (∀ ρ', M ρ' → N ρ') → w1 ρ (E.on N)) (h2 : ∀ ρ', M ρ' → w2 ρ' E) : wSeq w1 w2 ρ E := ⟨h1 _ h2⟩
def wSet (i : Nat) (w : WO) : WS := fun ρ E => w ρ fun o ρ' => putC ρ' i (some o) E.nx
def wIfS (wc : WT) (w1 w2 : WS) : WS := fun ρ E => wc ρ fun c ρ1 => br c (w1 ρ1 E) (w2 ρ1 E)
def wRet (w : WO) : WS := fun ρ E => w ρ fun o ρ' => E.rt o ρ'
/-- a name's thing is handed back -/
def wRetV (i : Nat) : WS := fun ρ E => match nth ρ i with
  | some o => putC ρ i none (E.rt o)
  | none => False
def wRetN : WS := fun ρ E => E.rt (.fz .non) ρ
def wDrop (w : WO) : WS := fun ρ E => w ρ fun _ ρ' => E.nx ρ'
def wBrk : WS := fun ρ E => E.bk ρ
def wCnt : WS := fun ρ E => E.ct ρ
/-- x += e of whole numbers -/
def wAug (g : Int → Int → Int) (i : Nat) (w : WD) : WS := fun ρ E => match nth ρ i with
  | some (.fz (.int a)) => w ρ fun d ρ' => match d with
    | .int b => putC ρ' i (some (.fz (.int (g a b)))) E.nx
    | _ => False
  | _ => False
/-- xs.append(e) -/
def wApp (i : Nat) (w : WO) : WS := fun ρ E => match nth ρ i with
  | some (.lst _ _) => w ρ fun o ρ' => match nth ρ' i with
    | some (.lst a os) => os.length < sizeLine ∧ putC ρ' i (some (.lst a (os ++ [o]))) E.nx
    | _ => False
  | _ => False
/-- xs[k] = e -/
def wSetIx (i : Nat) (wi : WD) (w : WO) : WS := fun ρ E => match nth ρ i with
  | some (.lst _ _) => w ρ fun o ρ1 => wi ρ1 fun d ρ2 => match nth ρ2 i with
    | some (.lst a os) => ∃ k j, d = .int k ∧ ixN os.length k = some j ∧ putC ρ2 i (some (.lst a (os.set j o))) E.nx
    | _ => False
  | _ => False
section
variable {X : Cx} {st : Stmt} {rest : List Stmt} {w w1 w2 : WS} {e : Expr} {wo : WO} {we wi : WD} {wt : WT} {pos : Pos} {i : Nat}
theorem xss_nil : XSs X [] wSkip := ⟨PSs.imp pss_nil fun D σ H ⟨ρ, F, E, s, hw, k⟩ => k.nx _ _ _ _ hw s .refl⟩
theorem xss_cons (h1 : XS X st w1) (h2 : XSs X rest w2) : XSs X (st :: rest) (wSeq w1 w2) := ⟨PSs.imp (pss_cons h1.ps h2.ps) fun D σ H ⟨ρ, F, E, s, hw, k⟩ =>
  ⟨ρ, F, _, s, hw.go, ⟨fun ρ' σ' F' H' p s' f => ⟨ρ', F', E, s', p, k.on f⟩, k.rt, k.bk, k.ct⟩⟩⟩
theorem xss_one (h1 : XS X st w) : XSs X [st] w := ⟨PSs.imp (pss_one h1.ps) fun _ _ _ h => h⟩
theorem xs_pass : XS X (.Pass pos) wSkip := ⟨PS.imp ps_pass fun D σ H ⟨ρ, F, E, s, hw, k⟩ => k.nx _ _ _ _ hw s .refl⟩
theorem xs_break : XS X (.Break pos) wBrk := ⟨PS.imp ps_break fun D σ H ⟨ρ, F, E, s, hw, k⟩ => k.bk _ _ _ _ hw s .refl⟩
theorem xs_cont : XS X (.Continue pos) wCnt := ⟨PS.imp ps_continue fun D σ H ⟨ρ, F, E, s, hw, k⟩ => k.ct _ _ _ _ hw s .refl⟩
theorem xs_doc {x j pos'} : XS X (.Expr (.Constant (.str x) j pos) pos') wSkip := ⟨PS.imp ps_doc fun D σ H ⟨ρ, F, E, s, hw, k⟩ => k.nx _ _ _ _ hw s .refl⟩
/-- x = e; i: x's slot -/
theorem xs_set {te : TE} (h : PS X st (tAsg te (gName i))) (l : ∀ σ H Q, liftO X.K wo σ H Q → te σ H Q) : XS X st (wSet i wo) := ⟨PS.imp h fun D σ H ⟨ρ, F, E, s, hw, k⟩ => by
  refine l _ _ _ ⟨ρ, F, _, s, hw, fun o ρ' F' H' v p s' f => ?_⟩
  obtain ⟨s2, m⟩ := s'.store (i := i)
  rw [putC_eq] at p
  exact k.nx _ _ _ _ p s2 (f.less m)⟩
theorem xs_if {c : Expr} {a b : List Stmt} (hc : XT X c wt) (ha : XSs X a w1) (hb : XSs X b w2) : XS X (.If c a b pos) (wIfS wt w1 w2) := ⟨PS.imp (ps_if hc.pt ha.ps hb.ps) fun D σ H ⟨ρ, F, E, s, hw, k⟩ =>
  ⟨ρ, F, _, s, hw, fun b ρ' F' H' p s' f => by
    cases b with
    | true =>
      have p : w1 ρ' E := by simpa [br] using p
      rw [if_pos rfl]
      exact ⟨ρ', F', E, s', p, k.on f⟩
    | false =>
      have p : w2 ρ' E := by simpa [br] using p
      rw [if_neg Bool.false_ne_true]
      exact ⟨ρ', F', E, s', p, k.on f⟩⟩⟩
theorem xs_ret (h : XO X e wo) : XS X (.Return (some e) pos) (wRet wo) := ⟨PS.imp (ps_ret h.pe) fun D σ H ⟨ρ, F, E, s, hw, k⟩ =>
  ⟨ρ, F, _, s, hw, fun o ρ' F' H' v p s' f => k.rt _ _ _ _ _ _ p s' f⟩⟩
theorem xs_retN : XS X (.Return none pos) wRetN := ⟨PS.imp ps_retN fun D σ H ⟨ρ, F, E, s, hw, k⟩ => k.rt _ _ _ _ _ _ hw (s.pushD .non) .refl⟩
theorem xs_retV (h : PE X e (tVar i)) : XS X (.Return (some e) pos) (wRetV i) := ⟨PS.imp (ps_ret h) fun D σ H ⟨ρ, F, E, s, hw, k⟩ => by
  unfold wRetV at hw
  cases hn : nth ρ i with
  | none => rw [hn] at hw; exact hw.elim
  | some o =>
    rw [hn] at hw
    obtain ⟨v, hv, s', m⟩ := s.take (nth_eq hn)
    have hw : putC ρ i none (E.rt o) := hw
    rw [putC_eq] at hw
    exact ⟨v, hv, k.rt _ _ _ _ _ _ hw s' (Frm.refl.less fun b hb => (m b).mpr hb)⟩⟩
theorem xs_drop (h : XO X e wo) (hs : swapsWith e none pos.line X.env = pure false := by rfl) : XS X (.Expr e pos) (wDrop wo) := ⟨PS.imp (ps_expr h.pe hs) fun D σ H ⟨ρ, F, E, s, hw, k⟩ =>
  ⟨ρ, F, _, s, hw, fun o ρ' F' H' v p s' f => k.nx _ _ _ _ p s'.pop (f.less fun b hb => List.mem_append_right _ hb)⟩⟩
theorem xs_aug {g : Int → Int → Int} {te : TE} (h : PS X st (tAug i te (ipI g))) (l : ∀ σ H Q, liftD X.K we σ H Q → te σ H Q) : XS X st (wAug g i we) := ⟨PS.imp h fun D σ H ⟨ρ, F, E, s, hw, k⟩ => by
  unfold wAug at hw
  cases hn : nth ρ i with
  | none => rw [hn] at hw; exact hw.elim
  | some o =>
    rw [hn] at hw
    cases o <;> first
      | (exact hw.elim)
      | skip
    rename_i d
    cases d <;> first
      | (exact hw.elim)
      | skip
    rename_i a
    obtain ⟨v, hv, r⟩ := s.slot i _ (nth_eq hn)
    cases r with
    | fz r =>
      cases r
      refine ⟨_, hv, l _ _ _ ⟨ρ, F, _, s, hw, fun d ρ' F' H' v p s' r f => ?_⟩⟩
      cases d <;> first
        | exact p.elim
        | skip
      rename_i b
      cases r
      refine ⟨a, b, rfl, rfl, ?_⟩
      obtain ⟨s2, m⟩ := (s'.pushD (.int (g a b))).store (i := i)
      have p : putC ρ' i (some (.fz (.int (g a b)))) E.nx := p
      rw [putC_eq] at p
      exact k.nx _ _ _ _ p s2 (f.less m)⟩

/-! ### a list that is held is changed -/
theorem SR.mutL {K : PySem.W.Frag} {ρ : TEnv} {σ : L2.St} {F H : Hp} {o : O} {y : V} {a : Addr} {os os' : List O} {xs' : List V} (s : SR K (some o :: some (.lst a os) :: ρ) (some y :: some (.ref a) :: σ) F H) (r : RepOL K F H xs' os') (z : os'.length ≤ sizeLine)
    (m : ∀ b ∈ O.ownedL os', b ∈ o.owned ++ O.ownedL os) (nd : (O.ownedL os').Nodup) :
    SR K (some (.lst a os') :: ρ) (some (.ref a) :: σ) F (upd H a (.lst xs')) ∧ Frm (ownedE (some o :: some (.lst a os) :: ρ)) F H (ownedE (some (.lst a os') :: ρ)) F (upd H a (.lst xs')) := by
  have n1 := List.nodup_append.mp s.nd
  have n2 := List.nodup_append.mp n1.2.1
  have ha : a ∈ slotOwned (some (O.lst a os)) := List.mem_cons_self
  have fa : F a = none := s.own a (List.mem_append_right _ (List.mem_append_left _ ha))
  have na : a ∉ O.ownedL os' := fun h => by
    rcases List.mem_append.mp (m a h) with q | q
    · exact n1.2.2 a q a (List.mem_append_left _ ha) rfl
    · exact (List.nodup_cons.mp n2.1).1 q
  have nr : a ∉ ownedE ρ := fun h => n2.2.2 a ha a h rfl
  have sb : Sb F (upd H a (.lst xs')) := fun b u h => by
    rw [upd_ne (fun e => by subst e; rw [fa] at h; cases h)]
    exact s.sub b u h
  have s0 := s.pop.pop
  have sρ : SR K ρ σ F (upd H a (.lst xs')) := ⟨sb, s0.len, fun i u e => by
    obtain ⟨v, hv, q⟩ := s0.slot i u e
    exact ⟨v, hv, q.mono (fun _ _ h => h) fun b hb w hw => by
      rw [upd_ne (fun e' => nr (by subst e'; exact mem_ownedE e b hb))]; exact hw⟩, s0.own, s0.nd⟩
  obtain ⟨xs, hxs⟩ : ∃ xs, H a = some (.lst xs) := by
    have q := s.pop.top
    cases q with
    | lst h _ _ => exact ⟨_, h⟩
  refine ⟨sρ.push (.lst upd_same z (r.mono (fun _ _ h => h) fun b hb w hw => by
      rw [upd_ne (fun e' => na (by subst e'; exact hb))]; exact hw)) (fun b hb => ?_) ?_, fun _ _ h => h, fun b u hb _ hf e => ?_, fun b hb => ?_, fun b u e => ?_, fun b u w e => by rw [upd_ne (fun q => by subst q; rw [hxs] at e; cases e)]; exact e⟩
  · rcases List.mem_cons.mp hb with e | hb
    · subst e; exact fa
    · rcases List.mem_append.mp (m b hb) with q | q
      · exact s.own b (List.mem_append_left _ q)
      · exact s.own b (List.mem_append_right _ (List.mem_append_left _ (List.mem_cons_of_mem _ q)))
  · refine List.nodup_append.mpr ⟨List.nodup_cons.mpr ⟨na, nd⟩, s0.nd, fun b hb c hc e => ?_⟩
    subst e
    rcases List.mem_cons.mp hb with e | hb
    · subst e; exact nr hc
    · rcases List.mem_append.mp (m b hb) with q | q
      · exact n1.2.2 b q b (List.mem_append_right _ hc) rfl
      · exact n2.2.2 b (List.mem_cons_of_mem _ q) b hc rfl
  · refine ⟨?_, hf⟩
    rw [upd_ne (fun e' => hb (by subst e'; exact List.mem_append_right _ (List.mem_append_left _ ha)))]; exact e
  · refine .inl ?_
    rcases List.mem_append.mp hb with h | h
    · have h : b ∈ a :: O.ownedL os' := h
      rcases List.mem_cons.mp h with e | h
      · subst e; exact List.mem_append_right _ (List.mem_append_left _ ha)
      · rcases List.mem_append.mp (m b h) with q | q
        · exact List.mem_append_left _ q
        · exact List.mem_append_right _ (List.mem_append_left _ (List.mem_cons_of_mem _ q))
    · exact List.mem_append_right _ (List.mem_append_right _ h)
  · by_cases q : b = a
    · subst q; exact ⟨_, upd_same⟩
    · exact ⟨u, by rw [upd_ne q]; exact e⟩
theorem SR.snoc {K : PySem.W.Frag} {ρ : TEnv} {σ : L2.St} {F H : Hp} {o : O} {y : V} {a : Addr} {os : List O} {xs : List V} (s : SR K (some o :: some (.lst a os) :: ρ) (some y :: some (.ref a) :: σ) F H) (hx : H a = some (.lst xs)) (z : os.length < sizeLine) :
    SR K (some (.lst a (os ++ [o])) :: ρ) (some (.ref a) :: σ) F (upd H a (.lst (xs ++ [y]))) ∧ Frm (ownedE (some o :: some (.lst a os) :: ρ)) F H (ownedE (some (.lst a (os ++ [o])) :: ρ)) F (upd H a (.lst (xs ++ [y]))) := by
  have q := s.pop.top
  have e : O.ownedL (os ++ [o]) = O.ownedL os ++ o.owned := by
    rw [O.ownedL_append]
    show O.ownedL os ++ (o.owned ++ []) = _
    rw [List.append_nil]
  cases q with
  | lst h z1 r =>
    rw [hx] at h
    cases h
    have n1 := List.nodup_append.mp s.nd
    have n2 := List.nodup_append.mp n1.2.1
    refine s.mutL (r.append (.cons s.top .nil)) (by rw [List.length_append]; exact z) (fun b hb => ?_) ?_
    · rw [e] at hb
      exact (List.mem_append.mp hb).elim (List.mem_append_right _) (List.mem_append_left _)
    · rw [e]
      exact List.nodup_append.mpr ⟨(List.nodup_cons.mp n2.1).2, n1.1, fun b hb c hc e => by
        subst e
        exact n1.2.2 b hc b (List.mem_append_left _ (List.mem_cons_of_mem _ hb)) rfl⟩
theorem RepOL.setAt {K : PySem.W.Frag} {F H : Hp} {o : O} {y : V} (ro : RepO K F H y o) : ∀ {xs : List V} {os : List O} (j : Nat), RepOL K F H xs os → RepOL K F H (xs.set j y) (os.set j o)
  | _, _, _, .nil => .nil
  | _, _, 0, .cons _ r => .cons ro r
  | _, _, j + 1, .cons h r => .cons h (RepOL.setAt ro j r)
theorem ownedL_set {o : O} : ∀ (os : List O) (j : Nat), (∀ b ∈ O.ownedL (os.set j o), b ∈ o.owned ++ O.ownedL os) ∧ ((o.owned ++ O.ownedL os).Nodup → (O.ownedL (os.set j o)).Nodup)
  | [], _ => ⟨fun b hb => (by cases hb), fun _ => List.nodup_nil⟩
  | u :: os, 0 => by
    refine ⟨fun b hb => ?_, fun h => ?_⟩
    · rcases List.mem_append.mp (show b ∈ o.owned ++ O.ownedL os from hb) with q | q
      · exact List.mem_append_left _ q
      · exact List.mem_append_right _ (List.mem_append_right _ q)
    · have h : (o.owned ++ (u.owned ++ O.ownedL os)).Nodup := h
      have n := List.nodup_append.mp h
      exact List.nodup_append.mpr ⟨n.1, (List.nodup_append.mp n.2.1).2.1, fun a ha b hb => n.2.2 a ha b (List.mem_append_right _ hb)⟩
  | u :: os, j + 1 => by
    obtain ⟨i1, i2⟩ := ownedL_set os j
    refine ⟨fun b hb => ?_, fun h => ?_⟩
    · rcases List.mem_append.mp (show b ∈ u.owned ++ O.ownedL (os.set j o) from hb) with q | q
      · exact List.mem_append_right _ (List.mem_append_left _ q)
      · rcases List.mem_append.mp (i1 b q) with q | q
        · exact List.mem_append_left _ q
        · exact List.mem_append_right _ (List.mem_append_right _ q)
    · have h : (o.owned ++ (u.owned ++ O.ownedL os)).Nodup := h
      have n := List.nodup_append.mp h
      have n2 := List.nodup_append.mp n.2.1
      have i3 := i2 (List.nodup_append.mpr ⟨n.1, n2.2.1, fun a ha b hb => n.2.2 a ha b (List.mem_append_right _ hb)⟩)
      show (u.owned ++ O.ownedL (os.set j o)).Nodup
      refine List.nodup_append.mpr ⟨n2.1, i3, fun a ha b hb e => ?_⟩
      subst e
      rcases List.mem_append.mp (i1 a hb) with q | q
      · exact n.2.2 a q a (List.mem_append_left _ ha) rfl
      · exact n2.2.2 a ha a q rfl
/-- a slot's list changed, the new item on top -/
theorem SR.atSlot {K : PySem.W.Frag} {ρ : TEnv} {σ : L2.St} {F H : Hp} {o : O} {y : V} {a : Addr} {os : List O} (s : SR K (some o :: ρ) (some y :: σ) F H) (e : ρ[i]? = some (some (.lst a os))) :
    σ[i]? = some (some (.ref a)) ∧ (∃ xs, H a = some (.lst xs)) ∧ SR K (some o :: some (.lst a os) :: ρ.set i none) (some y :: some (.ref a) :: σ) F H ∧ ∀ b, b ∈ ownedE (some o :: some (.lst a os) :: ρ.set i none) ↔ b ∈ ownedE (some o :: ρ) := by
  obtain ⟨v, hv, s1, m⟩ := s.pop.take e
  have q := s1.top
  cases q with
  | lst h z r =>
    have n := List.nodup_append.mp s.nd
    refine ⟨hv, ⟨_, h⟩, s1.push s.top (fun b hb => s.own b (List.mem_append_left _ hb)) (List.nodup_append.mpr ⟨n.1, s1.nd, fun b hb c hc e' => ?_⟩), fun b => ?_⟩
    · subst e'
      exact n.2.2 b hb b ((m b).mpr hc) rfl
    · constructor
      · intro hb
        rcases List.mem_append.mp hb with q | q
        · exact List.mem_append_left _ q
        · exact List.mem_append_right _ ((m b).mpr q)
      · intro hb
        rcases List.mem_append.mp hb with q | q
        · exact List.mem_append_left _ q
        · exact List.mem_append_right _ ((m b).mp q)
theorem xs_app {o : Expr} {apos cpos : Pos} (ho : PE X o (tVar i)) (he : XO X e wo)
    (hbase : attributeBase o "append" X.env (eval o X.env) = eval o X.env := by rfl)
    (hfew : ((backTo cpos (starEach [e] X.env)).all (fun x => !x.1) && (backToKw cpos (keywordEach [] X.env)).all (fun x => x.1.isSome)
      && decide ([e].length + ([] : List Keyword).length + (if ([] : List Keyword).isEmpty then 0 else 1) < 30)) = true := by rfl)
    (hline : (apos.endLine == cpos.line) = true := by rfl) (hst : starEach [e] X.env = (false, eval e X.env) :: starEach [] X.env := by rfl) (hpl : (backTo cpos (starEach [] X.env)).any (·.1) = false := by rfl)
    (hs : swapsWith (.Call (.Attribute o "append" apos) [e] [] cpos) none pos.line X.env = pure false := by rfl) : XS X (.Expr (.Call (.Attribute o "append" apos) [e] [] cpos) pos) (wApp i wo) :=
  ⟨PS.imp (ps_expr (pe_bm PySem.F.plainAttrs_list PySem.F.slot_list_append PySem.F.type_list_append mt_append ho (pa_cons he.pe pa_nil hst) hbase hfew hline hst hpl) hs) fun D σ H ⟨ρ, F, E, s, hw, k⟩ => by
    unfold wApp at hw
    cases hn0 : nth ρ i with
    | none => rw [hn0] at hw; exact hw.elim
    | some o0 =>
    rw [hn0] at hw
    cases o0 <;> first
      | (exact hw.elim)
      | skip
    rename_i a0 os0
    obtain ⟨v0, hv0, r0⟩ := s.slot i _ (nth_eq hn0)
    cases r0 with
    | lst h0 _ _ =>
    refine ⟨_, hv0, .inl ⟨rfl, _, .inl (.inl h0)⟩, ρ, F, _, s, hw, fun o ρ1 F1 H1 y p s1 f1 => ?_⟩
    cases hn : nth ρ1 i with
    | none => rw [hn] at p; exact p.elim
    | some o1 =>
    rw [hn] at p
    cases o1 <;> first
      | (exact p.elim)
      | skip
    rename_i a os
    obtain ⟨hv, ⟨xs, hx⟩, s2, m2⟩ := s1.atSlot (nth_eq hn)
    rw [hv0] at hv
    cases hv
    obtain ⟨s3, f3⟩ := s2.snoc hx p.1
    have l : xs.length = os.length := by
      have q := s2.pop.top
      cases q with
      | lst h _ r =>
        rw [hx] at h
        cases h
        exact r.length
    refine ⟨_, xs, y, rfl, rfl, hx, by rw [l]; exact p.1, ?_⟩
    obtain ⟨s4, m4⟩ := s3.set (i := i) hv0
    rw [List.set_set] at s4 m4
    have p2 := p.2
    rw [putC_eq] at p2
    exact k.nx _ _ _ _ p2 s4 (f1.trans ((f3.iff (fun b => (m2 b).symm) fun b hb => hb).less m4))⟩
/-- xs[k] = e; te, ti: the readings of e and k -/
theorem xs_setIx (h : PS X st (tAsg (liftO X.K wo) (gSub (tVar i) (liftD X.K wi) rSetL))) : XS X st (wSetIx i wi wo) := ⟨PS.imp h fun D σ H ⟨ρ, F, E, s, hw, k⟩ => by
    unfold wSetIx at hw
    cases hn0 : nth ρ i with
    | none => rw [hn0] at hw; exact hw.elim
    | some o0 =>
    rw [hn0] at hw
    cases o0 <;> first
      | (exact hw.elim)
      | skip
    rename_i a0 os0
    obtain ⟨v0, hv0, r0⟩ := s.slot i _ (nth_eq hn0)
    refine ⟨ρ, F, _, s, hw, fun o ρ1 F1 H1 y p s1 f1 => ⟨_, hv0, ρ1, F1, _, s1.pop, p, fun d ρ2 F2 H2 u p2 s2 r2 f2 => ?_⟩⟩
    obtain ⟨s3, f3⟩ := s1.frame s2 f2
    cases hn : nth ρ2 i with
    | none => rw [hn] at p2; exact p2.elim
    | some o1 =>
    rw [hn] at p2
    cases o1 <;> first
      | (exact p2.elim)
      | skip
    rename_i a os
    obtain ⟨n, j, rfl, hj, p3⟩ := p2
    cases r2
    obtain ⟨hv, ⟨xs, hx⟩, s4, m4⟩ := s3.atSlot (nth_eq hn)
    rw [hv0] at hv
    cases hv
    have q := s4.pop.top
    cases q with
    | lst hx' z r =>
    rw [hx] at hx'
    cases hx'
    have n1 := List.nodup_append.mp s4.nd
    have n2 := List.nodup_append.mp n1.2.1
    obtain ⟨w1, w2⟩ := ownedL_set (o := o) os j
    obtain ⟨s5, f5⟩ := s4.mutL (r.setAt s4.top j) (by rw [List.length_set]; exact z) w1 (w2 (List.nodup_append.mpr ⟨n1.1, (List.nodup_cons.mp n2.1).2, fun b hb c hc => n1.2.2 b hb c (List.mem_append_left _ (List.mem_cons_of_mem _ hc))⟩))
    refine ⟨a, xs, n, j, rfl, rfl, hx, by rw [r.length]; exact hj, ?_⟩
    obtain ⟨s6, m6⟩ := s5.set (i := i) hv0
    rw [List.set_set] at s6 m6
    rw [putC_eq] at p3
    exact k.nx _ _ _ _ p3 s6 ((f1.trans f3).trans ((f5.iff (fun b => (m4 b).symm) fun b hb => hb).less m6))⟩
end
end Tr
/-! The tree layer: what is walked. -/
namespace Tr
open PySem PySem.Spec PyProof.Rows L2

/-! ### a list or a tuple, told by k -/
def SqK (k : Bool) (K : PySem.W.Frag) (H : Hp) (a : Addr) (xs : List V) : Prop := if k then SqL K H a xs else SqT K H a xs
def ItK (k : Bool) (h : Heap) (it a : Addr) (i : Nat) : Prop := if k then h.IsListIter it a i else h.IsTupleIter it a i
def HsK (k : Bool) (h : Heap) (a : Addr) (its : Array Value) : Prop := if k then h.IsList a its else h.IsTuple a its
theorem drawsK {prog : Program} {w : World} {A : Around} (hh : A.handled = none) (k : Bool) (it a : Addr) (hne : a ≠ it) (its : Array Value) :
    Draws prog w A it [it, a] its.size (fun i v => its[i]? = some v) (fun i h => ItK k h it a i ∧ HsK k h a its) := by
  cases k
  · exact Draws.tuple hh it a hne its
  · exact Draws.list hh it a hne its
theorem beginsK (k : Bool) (a : Addr) (its : Array Value) : ∃ o, Begins (.ref a) o (fun h => HsK k h a its) ∧ ∀ (h : Heap) (it : Addr), h.get? it = some o → ItK k h it a 0 := by
  cases k
  · exact ⟨_, begins_tuple a its, fun h it e => ⟨_, e, rfl, rfl⟩⟩
  · exact ⟨_, begins_list a its, fun h it e => ⟨_, e, rfl, rfl⟩⟩
theorem ItK.obj {k : Bool} {h : Heap} {it a : Addr} {i : Nat} (x : ItK k h it a i) : ∃ o, h.get? it = some o ∧ ∀ v, o.data ≠ .cell v := by
  cases k
  · obtain ⟨o, e, _, d⟩ := (show h.IsTupleIter it a i from x)
    exact ⟨o, e, fun v z => by rw [d] at z; cases z⟩
  · obtain ⟨o, e, _, d⟩ := (show h.IsListIter it a i from x)
    exact ⟨o, e, fun v z => by rw [d] at z; cases z⟩
theorem ItK.keep {k : Bool} {h h' : Heap} {it a : Addr} {i : Nat} (x : ItK k h it a i) (e : ∀ o, h.get? it = some o → h'.get? it = some o) : ItK k h' it a i := by
  cases k
  · exact (show h.IsTupleIter it a i from x).at fun o q => e o q
  · exact (show h.IsListIter it a i from x).at fun o q => e o q
section
variable {X : Cx} {pins : List (Addr × Obj)} {σ : L2.St} {H : Hp} {s : Shared} {a : Addr} {xs ys : List V} {k : Bool}
theorem Inv.sqK (I : Inv X pins σ H s) (h : SqK k X.K H a xs) : ∃ its : List Value, Vals xs its ∧ HsK k s.heap a its.toArray ∧ a < s.heap.objs.size := by
  cases k
  · obtain ⟨its, r, p, _⟩ := I.tuple (show SqT X.K H a xs from h)
    exact ⟨its, r, p, p.lt⟩
  · obtain ⟨its, r, p, _⟩ := I.list (show SqL X.K H a xs from h)
    exact ⟨its, r, p.isList, p.lt⟩
theorem Inv.sqK_inj (I : Inv X pins σ H s) (h : SqK k X.K H a xs) (h' : SqK k X.K H a ys) : xs = ys := by
  cases k
  · exact I.tuple_inj h h'
  · exact I.list_inj h h'
end

/-! ### zip of lists and tuples in any mix -/
def ItzM (K : PySem.W.Frag) (k l : Bool) (a b : Addr) : It :=
  ⟨fun i H => ∃ (xs ys : List V) (x y : V), SqK k K H a xs ∧ SqK l K H b ys ∧ xs[i]? = some x ∧ ys[i]? = some y,
    fun i H v H' => ∃ T x y, v = .ref T ∧ H T = none ∧ H' = upd H T (.tup [x, y]) ∧ (∀ xs, SqK k K H a xs → xs[i]? = some x) ∧ ∀ ys, SqK l K H b ys → ys[i]? = some y,
    fun i H => ∃ xs ys : List V, SqK k K H a xs ∧ SqK l K H b ys ∧ i = min xs.length ys.length⟩
theorem turn_zipM {P : Program} {w : World} {K : PySem.W.Frag} {k l : Bool} {elts : List Expr} {kk : Nat} {tpos : Pos} {a b z TI TO i1 i2 : Addr} (S : ZipSep2 z TI TO i1 i2 [i1, a] [i2, b]) (ha : a ≠ i1) (hb : b ≠ i2) :
    Turn P w K (.Tuple elts kk tpos) (ItzM K k l a b) [z, TI, TO, i1, i2] z (fun i h => IsZip h z TI TO .none ∧ IsTupOf2 h TI (.ref i1) (.ref i2) ∧ (∃ x y, IsTupOf2 h TO x y) ∧ ItK k h i1 a i ∧ ItK l h i2 b i) where
  mem := by simp
  obj := fun i h ⟨h1, h2, ⟨x, y, h3⟩, h4, h5⟩ c hc => by
    simp only [List.mem_cons, List.not_mem_nil, or_false] at hc
    rcases hc with rfl | rfl | rfl | rfl | rfl
    · exact ⟨_, h1, fun v q => nomatch q⟩
    · exact ⟨_, h2, fun v q => nomatch q⟩
    · exact ⟨_, h3, fun v q => nomatch q⟩
    · exact h4.obj
    · exact h5.obj
  keep := fun i h h' ⟨h1, h2, ⟨x, y, h3⟩, h4, h5⟩ q =>
    ⟨q _ (by simp) _ h1, q _ (by simp) _ h2, ⟨x, y, q _ (by simp) _ h3⟩, h4.keep (q _ (by simp)), h5.keep (q _ (by simp))⟩
  item := by
    intro X hP hw hK hc i pins s σ H E I hf st hg
    subst hP hw hK
    obtain ⟨h1, h2, h3, h4, h5⟩ := st
    obtain ⟨xs, ys, x, y, qx, qy, ex, ey⟩ := hg
    obtain ⟨us, ru, pu, _⟩ := Inv.sqK I qx
    obtain ⟨ws, rw', pw, _⟩ := Inv.sqK I qy
    obtain ⟨u, hu, ru1⟩ := ru.get ex
    obtain ⟨v, hv, rv1⟩ := rw'.get ey
    have hhd : X.A.in1.handled = none := I.ok.hd hc
    have W := GoesN.zip2 (prog := X.prog) (w := X.w) (A := X.A) (elts := elts) (x1 := kk) (pos := tpos) S (drawsK hhd k i1 a ha us.toArray) (drawsK hhd l i2 b hb ws.toArray)
    have lu : i < us.length := by
      by_cases q : i < us.length
      · exact q
      · rw [List.getElem?_eq_none (Nat.le_of_not_lt q)] at hu; cases hu
    have lw : i < ws.length := by
      by_cases q : i < ws.length
      · exact q
      · rw [List.getElem?_eq_none (Nat.le_of_not_lt q)] at hv; cases hv
    refine W.goes i s _ E (by simp; omega) ⟨h1, h2, h3, ⟨h4, pu⟩, ⟨h5, pw⟩⟩ fun val h' tk hY st' hk _ => ?_
    obtain ⟨T, x', y', rfl, hT, e1, e2, hI⟩ := hY
    have ex' : x' = u := by
      have q : us[i]? = some x' := by simpa using e1
      rw [hu] at q; exact (Option.some.inj q).symm
    have ey' : y' = v := by
      have q : ws[i]? = some y' := by simpa using e2
      rw [hv] at q; exact (Option.some.inj q).symm
    subst ex' ey'
    obtain ⟨g1, g2, g3, g4, g5⟩ := st'
    have kp : ∀ c o, c ∉ [z, TI, TO, i1, i2] → s.heap.get? c = some o → h'.get? c = some o := fun c o hc' e => hk c o (fun q => hc' (by
      simp only [List.mem_cons, List.not_mem_nil, or_false] at q ⊢
      rcases q with q | q | q | q
      · exact .inl q
      · exact .inr (.inr (.inl q))
      · exact .inr (.inr (.inr (.inl q)))
      · exact .inr (.inr (.inr (.inr q))))) e
    have I1 := I.turnedNew (t' := tk) (ob := .tup [x, y]) kp hf hT ⟨by show 2 ≤ sizeLine; decide, [x', y'], .cons ru1 (.cons rv1 .nil), hI⟩
    refine ⟨.ref T, _, I1, rfl, ⟨T, x, y, rfl, I.hok.fresh hT, rfl, fun zs hz => by rw [Inv.sqK_inj I hz qx]; exact ex, fun zs hz => by rw [Inv.sqK_inj I hz qy]; exact ey⟩, ⟨g1, g2, g3, g4.1, g5.1⟩, fun c hcm => ?_⟩
    have lt : c < s.heap.objs.size := by
      simp only [List.mem_cons, List.not_mem_nil, or_false] at hcm
      rcases hcm with rfl | rfl | rfl | rfl | rfl
      · exact Heap.lt_size h1
      · exact Heap.lt_size h2
      · obtain ⟨_, _, h3⟩ := h3; exact Heap.lt_size h3
      · obtain ⟨_, e, _⟩ := h4.obj; exact Heap.lt_size e
      · obtain ⟨_, e, _⟩ := h5.obj; exact Heap.lt_size e
    rw [upd_ne (Nat.ne_of_lt (Nat.lt_of_lt_of_le lt hT))]
    exact (hf c hcm).1
  done := by
    intro X hP hw hK hc i pins s σ H E I hf st hg
    subst hP hw hK
    obtain ⟨h1, h2, h3, h4, h5⟩ := st
    obtain ⟨xs, ys, qx, qy, ei⟩ := hg
    obtain ⟨us, ru, pu, _⟩ := Inv.sqK I qx
    obtain ⟨ws, rw', pw, _⟩ := Inv.sqK I qy
    have hhd : X.A.in1.handled = none := I.ok.hd hc
    have W := GoesN.zip2 (prog := X.prog) (w := X.w) (A := X.A) (elts := elts) (x1 := kk) (pos := tpos) S (drawsK hhd k i1 a ha us.toArray) (drawsK hhd l i2 b hb ws.toArray)
    have en : i = min us.toArray.size ws.toArray.size := by rw [List.size_toArray, List.size_toArray, ← ru.length, ← rw'.length]; exact ei
    subst en
    refine W.stops s _ E ⟨h1, h2, h3, ⟨h4, pu⟩, ⟨h5, pw⟩⟩ fun h' tk hk _ => ?_
    exact I.turnedL (fun c o hc' e => hk c o (fun q => hc' (by
      simp only [List.mem_cons, List.not_mem_nil, or_false] at q ⊢
      rcases q with q | q | q | q
      · exact .inl q
      · exact .inr (.inr (.inl q))
      · exact .inr (.inr (.inr (.inl q)))
      · exact .inr (.inr (.inr (.inr q))))) e) hf
  self := fun A i s Q E st h => wpAny_pyIter_zip st.1 h
def iZipM (K : PySem.W.Frag) (ta : TA) : TI := fun σ H R => ta σ H fun vs H1 => ∃ k l a b xs ys, vs = [.ref a, .ref b] ∧ SqK k K H1 a xs ∧ SqK l K H1 b ys ∧ R (ItzM K k l a b) H1
theorem pi_zipM {X : Cx} {e e2 : Expr} {ta : TA} {p pos tpos : Pos} {elts : List Expr} {kk : Nat} (hg : Gl X "zip") (hm : X.mg "zip" = none) (ha : PA X [e, e2] ta)
    (hs : starEach [e, e2] X.env = (false, eval e X.env) :: starEach [e2] X.env := by rfl) (hpl : (backTo pos (starEach [e2] X.env)).any (·.1) = false := by rfl) :
    PI X (.Tuple elts kk tpos) (.Call (.Name "zip" p) [e, e2] [] pos) (iZipM X.K ta) := by
  refine ⟨fun pins s σ H R I h => Call_ (ld_blt I hg hm PyProof.Rows.boot_zip (PyProof.Rows.callWith_type1 (thn (ha.run pos pins s σ H _ I h) fun us s1 ⟨vs, H1, I1, r1, q1⟩ => ?_) hs hpl))⟩
  obtain ⟨k, l, a, b, xs, ys, ex, qx, qy, q⟩ := q1
  subst ex
  obtain ⟨u1, u2, rfl, ra, rb⟩ := vals2 r1
  cases ra
  cases rb
  obtain ⟨us, ru, pu, la⟩ := Inv.sqK I1 qx
  obtain ⟨ws, rw', pw, lb⟩ := Inv.sqK I1 qy
  obtain ⟨o1, B1, b1⟩ := beginsK k a us.toArray
  obtain ⟨o2, B2, b2⟩ := beginsK l b ws.toArray
  refine zip_begins2 B1 B2 pu pw fun h' hz hTI hTO e1 e2 hsz hk => wpAny_pyIter_zip hz ?_
  have I2 : Inv X pins σ H1 { s1 with heap := h' } := I1.kept (t' := s1.toks) hk
  have na : a ≠ s1.heap.objs.size := Nat.ne_of_lt la
  have nb : b ≠ s1.heap.objs.size + 1 := Nat.ne_of_lt (Nat.lt_succ_of_lt lb)
  refine ⟨_, _, _, _, H1, rfl, I2, turn_zipM (zip_sep2 (N := s1.heap.objs.size) (fp1 := [a]) (fp2 := [b]) (fun c hc => by rw [List.mem_singleton.mp hc]; exact la) fun c hc => by rw [List.mem_singleton.mp hc]; exact lb) na nb, ⟨hz, hTI, ⟨_, _, hTO⟩, b1 _ _ e1, b2 _ _ e2⟩, fun c hc => ?_, q⟩
  have le : s1.heap.objs.size ≤ c := by
    simp only [List.mem_cons, List.not_mem_nil, or_false] at hc
    rcases hc with rfl | rfl | rfl | rfl | rfl
    · exact Nat.le_add_right _ _
    · exact Nat.le_add_right _ _
    · exact Nat.le_add_right _ _
    · exact Nat.le_refl _
    · exact Nat.le_add_right _ _
  exact I1.fpOk le (I1.hok.fresh le)

/-! ### enumerate of a list or a tuple -/
theorem meets_enum1 {v : Value} {o : Obj} {H : Heap → Prop} (B : Begins v o H) :
    Meets (Builtin.«enumerate.__new__» ⟨[.type "enumerate", v], []⟩) (fun _ R s => H s.heap ∧
      R (.ok (.ret (.ref (s.heap.push o).objs.size))) { s with heap := (s.heap.push o).push { cls := .type "enumerate", data := .fields #[.none, .bool false, .ref s.heap.objs.size, rawInt 0, .none, .none] } }) :=
  .of_wp fun prog w A R s ⟨h1, h⟩ => by
    obtain ⟨hp, g, d, tk, os⟩ := s
    have hsub := sub_enumerate
    have it : ∀ {A' : Around} {E : Value → Shared → Prop} {Q : Value → Shared → Prop}, Q (.ref hp.objs.size) ⟨hp.push o, g, d, tk, os⟩ → wpAny (model prog w) A' (pyIter v) Q E ⟨hp, g, d, tk, os⟩ := fun q => B.iter prog w _ _ ⟨hp, g, d, tk, os⟩ _ h1 q
    wp_walk using it
    refine wpAny_stack_any fun st => wpAny_pure ?_
    split
    · rename_i c _ _ _ _ _
      cases (c == Value.type "enumerate") <;> (wp_walk using it; exact ⟨_, rfl, h⟩)
    · wp_walk using it
      exact ⟨_, rfl, h⟩
theorem call_enum1 {prog : Program} {w : World} {A : Around} {E : Value → Shared → Prop} {s : Shared} {v : Value} {o : Obj} {H : Heap → Prop} {Q : Value → Shared → Prop} (B : Begins v o H) (h1 : H s.heap)
    (h : ∀ h', IsEnum h' (s.heap.objs.size + 1) s.heap.objs.size 0 .none → h'.get? s.heap.objs.size = some o → (∀ b o, s.heap.get? b = some o → h'.get? b = some o) → Q (.ref (s.heap.objs.size + 1)) { s with heap := h' }) :
    wpAny (model prog w) A (call (.type "enumerate") [v]) Q E s := by
  refine callType_new F.called_enumerate (by decide) (F.typeCall_enumerate_1 _) (F.newCall_enumerate_1 _) (fun obj => F.args_object_init_2 obj _) F.entry_enumerate_new (meets_enum1 B) ⟨h1, ?_⟩
  have hz : (s.heap.push o).objs.size = s.heap.objs.size + 1 := Heap.size_push ..
  have he := Heap.get?_push_size (s.heap.push o) (o := { cls := .type "enumerate", data := .fields #[.none, .bool false, .ref s.heap.objs.size, rawInt 0, .none, .none] }) rfl
  show _ ∧ _
  rw [hz] at he ⊢
  exact ⟨⟨_, he, rfl⟩, h _ he (Heap.get?_push_of_some _ (Heap.get?_push_size _ B.free)) fun b o x => Heap.get?_push_of_some _ (Heap.get?_push_of_some _ x)⟩
def IteM (K : PySem.W.Frag) (k : Bool) (a : Addr) : It :=
  ⟨fun i H => ∃ (xs : List V) (x : V), SqK k K H a xs ∧ xs[i]? = some x,
    fun i H v H' => ∃ T x, v = .ref T ∧ H T = none ∧ H' = upd H T (.tup [.int (i : Nat), x]) ∧ ∀ xs, SqK k K H a xs → xs[i]? = some x,
    fun i H => ∃ xs : List V, SqK k K H a xs ∧ i = xs.length⟩
theorem turn_enumM {P : Program} {w : World} {K : PySem.W.Frag} {k : Bool} {elts : List Expr} {kk : Nat} {tpos : Pos} {a e it : Addr} (hei : e ≠ it) (hea : e ≠ a) (ha : a ≠ it) :
    Turn P w K (.Tuple elts kk tpos) (IteM K k a) [e, it] e (fun i h => (∃ old, IsEnum h e it (0 + (i : Int)) old) ∧ ItK k h it a i) where
  mem := by simp
  obj := fun i h ⟨⟨old, h1⟩, h2⟩ c hc => by
    simp only [List.mem_cons, List.not_mem_nil, or_false] at hc
    rcases hc with rfl | rfl
    · exact ⟨_, h1, fun v q => nomatch q⟩
    · exact h2.obj
  keep := fun i h h' ⟨⟨old, h1⟩, h2⟩ q => ⟨⟨old, q _ (by simp) _ h1⟩, h2.keep (q _ (by simp))⟩
  item := by
    intro X hP hw hK hc i pins s σ H E I hf st hg
    subst hP hw hK
    obtain ⟨⟨old, h1⟩, h2⟩ := st
    obtain ⟨xs, x, qx, ex⟩ := hg
    obtain ⟨us, ru, pu, _⟩ := Inv.sqK I qx
    obtain ⟨u, hu, ru1⟩ := ru.get ex
    have hhd : X.A.in1.handled = none := I.ok.hd hc
    have W := GoesN.enumFrom (prog := X.prog) (w := X.w) (A := X.A) (elts := elts) (x1 := kk) (pos := tpos) 0 (drawsK hhd k it a ha us.toArray) e hei (by simp [hei, hea]) (by simp)
    have lu : i < us.length := by
      by_cases q : i < us.length
      · exact q
      · rw [List.getElem?_eq_none (Nat.le_of_not_lt q)] at hu; cases hu
    refine W.goes i s _ E (by simpa using lu) ⟨⟨old, h1⟩, h2, pu⟩ fun val h' tk hY st' hk _ => ?_
    obtain ⟨T, t, x', rfl, hT, e1, hI⟩ := hY
    have ex' : x' = u := by
      have q : us[i]? = some x' := by simpa using e1
      rw [hu] at q; exact (Option.some.inj q).symm
    subst ex'
    obtain ⟨g1, g2, _⟩ := st'
    have kp : ∀ c o, c ∉ [e, it] → s.heap.get? c = some o → h'.get? c = some o := fun c o hc' q => hk c o hc' q
    have e0 : (0 : Int) + (i : Int) = ((i : Nat) : Int) := by omega
    rw [e0] at hI
    have I1 := I.turnedNew (t' := tk) (ob := .tup [.int (i : Nat), x]) kp hf hT ⟨by show 2 ≤ sizeLine; decide, [.int (i : Nat) t, x'], .cons ⟨t, rfl⟩ (.cons ru1 .nil), hI⟩
    refine ⟨.ref T, _, I1, rfl, ⟨T, x, rfl, I.hok.fresh hT, rfl, fun zs hz => by rw [Inv.sqK_inj I hz qx]; exact ex⟩, ⟨g1, g2⟩, fun c hcm => ?_⟩
    have lt : c < s.heap.objs.size := by
      simp only [List.mem_cons, List.not_mem_nil, or_false] at hcm
      rcases hcm with rfl | rfl
      · exact Heap.lt_size h1
      · obtain ⟨_, q, _⟩ := h2.obj; exact Heap.lt_size q
    rw [upd_ne (Nat.ne_of_lt (Nat.lt_of_lt_of_le lt hT))]
    exact (hf c hcm).1
  done := by
    intro X hP hw hK hc i pins s σ H E I hf st hg
    subst hP hw hK
    obtain ⟨⟨old, h1⟩, h2⟩ := st
    obtain ⟨xs, qx, ei⟩ := hg
    obtain ⟨us, ru, pu, _⟩ := Inv.sqK I qx
    have hhd : X.A.in1.handled = none := I.ok.hd hc
    have W := GoesN.enumFrom (prog := X.prog) (w := X.w) (A := X.A) (elts := elts) (x1 := kk) (pos := tpos) 0 (drawsK hhd k it a ha us.toArray) e hei (by simp [hei, hea]) (by simp)
    have en : i = us.toArray.size := by rw [List.size_toArray, ← ru.length]; exact ei
    subst en
    exact W.stops s _ E ⟨⟨old, h1⟩, h2, pu⟩ fun h' tk hk _ => I.turnedL (fun c o hc' q => hk c o hc' q) hf
  self := fun A i s Q E st h => let ⟨⟨_, he⟩, _⟩ := st; wpAny_pyIter_enum he h
def iEnumM (K : PySem.W.Frag) (ta : TA) : TI := fun σ H R => ta σ H fun vs H1 => ∃ k a xs, vs = [.ref a] ∧ SqK k K H1 a xs ∧ R (IteM K k a) H1
theorem pi_enumM {X : Cx} {e : Expr} {ta : TA} {p pos tpos : Pos} {elts : List Expr} {kk : Nat} (hg : Gl X "enumerate") (hm : X.mg "enumerate" = none) (ha : PA X [e] ta) (hs : starEach [e] X.env = [(false, eval e X.env)] := by rfl) :
    PI X (.Tuple elts kk tpos) (.Call (.Name "enumerate" p) [e] [] pos) (iEnumM X.K ta) := by
  refine ⟨fun pins s σ H R I h => Call_ (ld_blt I hg hm boot_enumerate (PyProof.Rows.callWith_type1 (thn (ha.run pos pins s σ H _ I h) fun us s1 ⟨vs, H1, I1, r1, q1⟩ => ?_) hs rfl))⟩
  obtain ⟨k, a, xs, ex, qx, q⟩ := q1
  subst ex
  obtain ⟨u1, rfl, ra⟩ := vals1 r1
  cases ra
  obtain ⟨us, ru, pu, la⟩ := Inv.sqK I1 qx
  obtain ⟨o1, B1, b1⟩ := beginsK k a us.toArray
  refine call_enum1 B1 pu fun h' hz e1 hk => wpAny_pyIter_enum hz ?_
  have I2 : Inv X pins σ H1 { s1 with heap := h' } := I1.kept (t' := s1.toks) hk
  have na : a ≠ s1.heap.objs.size := Nat.ne_of_lt la
  refine ⟨_, _, _, _, H1, rfl, I2, turn_enumM (k := k) (Nat.succ_ne_self _) (Nat.ne_of_gt (Nat.lt_succ_of_lt la)) na, ⟨⟨.none, by simpa using hz⟩, b1 _ _ e1⟩, fun c hc => ?_, q⟩
  have le : s1.heap.objs.size ≤ c := by
    simp only [List.mem_cons, List.not_mem_nil, or_false] at hc
    rcases hc with rfl | rfl
    · exact Nat.le_add_right _ _
    · exact Nat.le_refl _
  exact I1.fpOk le (I1.hok.fresh le)

/-! ### a list, a tuple or a text, whatever it is -/
def iAny (K : PySem.W.Frag) (te : TE) : TI := fun σ H R => te σ H fun x H1 => (∃ a xs, x = .ref a ∧ SqL K H1 a xs ∧ R (Itl K a) H1) ∨ (∃ a xs, x = .ref a ∧ SqT K H1 a xs ∧ R (Itt K a) H1) ∨ (∃ z, x = .str z ∧ R (Its z) H1) ∨
  ∃ d o, x = .ref d ∧ ((∃ kvs, H1 d = some (.frz o (.dK kvs)) ∧ R (Itk d o kvs) H1) ∨ ∃ kvs, H1 d = some (.frz o (.dT kvs)) ∧ R (Itkt d o kvs) H1)
theorem pi_any {X : Cx} {tg e : Expr} {te : TE} (he : PE X e te) : PI X tg e (iAny X.K te) := by
  refine ⟨fun pins s σ H R I h => thn (he.run pins s σ H _ I h) fun v s1 ⟨x, H1, I1, r1, q1⟩ => ?_⟩
  have one : ∀ b, b ∈ [s1.heap.objs.size] → FpOk X pins H1 b := fun b hb => by
    rw [List.mem_singleton.mp hb]
    exact I1.fpOk (Nat.le_refl _) (I1.hok.fresh (Nat.le_refl _))
  have kp : ∀ o, Inv X pins σ H1 { s1 with heap := s1.heap.push o } := fun o => I1.kept (t' := s1.toks) fun b u q => Heap.get?_push_of_some _ q
  rcases q1 with ⟨a, xs, rfl, hq, q⟩ | ⟨a, xs, rfl, hq, q⟩ | ⟨z, rfl, q⟩ | ⟨d, o, rfl, q⟩
  · cases r1
    obtain ⟨its, _, p, _⟩ := I1.list hq
    exact wpAny_pyIter_list p.isList ⟨_, _, _, _, H1, rfl, kp _, turn_list a _, ⟨_, Heap.get?_push_size _ rfl, rfl, rfl⟩, one, q⟩
  · cases r1
    obtain ⟨its, _, p, _⟩ := I1.tuple hq
    exact wpAny_pyIter_tuple (show s1.heap.IsTuple a its.toArray from p) ⟨_, _, _, _, H1, rfl, kp _, turn_tuple a _, ⟨_, Heap.get?_push_size _ rfl, rfl, rfl⟩, one, q⟩
  · obtain ⟨t, rfl⟩ := r1
    cases ha : z.cps.all (· < 128)
    · exact wpAny_pyIter_wide ha (pi_one (tk := s1.toks) I1 _ (turn_str _ z t "str_iterator" (.inr rfl)) ⟨_, Heap.get?_push_size _ rfl, rfl, rfl⟩ q)
    · exact wpAny_pyIter_ascii ha (pi_one (tk := s1.toks) I1 _ (turn_str _ z t "str_ascii_iterator" (.inl rfl)) ⟨_, Heap.get?_push_size _ rfl, rfl, rfl⟩ q)
  · cases r1
    rcases q with ⟨kvs, hd, q⟩ | ⟨kvs, hd, q⟩
    · obtain ⟨hs, hgd, hx, es, ep, vs, hdt, hsz, kv, hm⟩ := I1.frzK hd
      refine iter_keys hs hgd hx hdt (pi_one (tk := s1.toks) I1 _ (turn_keys _ hdt) ⟨_, Heap.get?_push_size _ rfl, rfl, ?_⟩ q)
      rw [hsz] <;> rfl
    · obtain ⟨hs, hgd, hx, es, ep, hdt, hsz, ent⟩ := I1.frzT hd
      refine iter_keys hs hgd hx hdt (pi_one (tk := s1.toks) I1 _ (turn_keysT _ hdt) ⟨_, Heap.get?_push_size _ rfl, rfl, ?_⟩ q)
      rw [hsz] <;> rfl
end Tr
/-! The tree layer: targets, loops, comprehensions, defs. -/
namespace Tr
open PySem PySem.Spec PyProof.Rows L2

/-! ### targets -/
abbrev WG := D → TEnv → (TEnv → Prop) → Prop
abbrev WGs := List D → TEnv → (TEnv → Prop) → Prop
/-- what a target does to the slots: at ix alone -/
structure Slots (ix : List Nat) (ρ ρ' : TEnv) (σ σ' : L2.St) : Prop where
  mem : ∀ b ∈ ownedE ρ', b ∈ ownedE ρ
  at_ : ∀ j, j ∉ ix → σ'[j]? = σ[j]?
  len : σ'.length = σ.length
theorem Slots.refl {ix : List Nat} {ρ : TEnv} {σ : L2.St} : Slots ix ρ ρ σ σ := ⟨fun _ h => h, fun _ _ => rfl, rfl⟩
theorem Slots.trans {ix : List Nat} {ρ ρ1 ρ2 : TEnv} {σ σ1 σ2 : L2.St} (a : Slots ix ρ ρ1 σ σ1) (b : Slots ix ρ1 ρ2 σ1 σ2) : Slots ix ρ ρ2 σ σ2 :=
  ⟨fun c h => a.mem c (b.mem c h), fun j h => (b.at_ j h).trans (a.at_ j h), b.len.trans a.len⟩
theorem Slots.mono {ix ix' : List Nat} {ρ ρ1 : TEnv} {σ σ1 : L2.St} (a : Slots ix ρ ρ1 σ σ1) (h : ∀ j ∈ ix, j ∈ ix') : Slots ix' ρ ρ1 σ σ1 := ⟨a.mem, fun j q => a.at_ j fun z => q (h j z), a.len⟩
def liftG (K : PySem.W.Frag) (ix : List Nat) (g : WG) : TG := fun v σ H Q => ∃ ρ F d P, SR K ρ σ F H ∧ Rep K F v d ∧ g d ρ P ∧ ∀ ρ' σ', P ρ' → SR K ρ' σ' F H → Slots ix ρ ρ' σ σ' → Q σ' H
def liftGs (K : PySem.W.Frag) (ix : List Nat) (g : WGs) : TGs := fun vs σ H Q => ∃ ρ F ds P, SR K ρ σ F H ∧ RepL K F vs ds ∧ g ds ρ P ∧ ∀ ρ' σ', P ρ' → SR K ρ' σ' F H → Slots ix ρ ρ' σ σ' → Q σ' H
structure XG (X : Cx) (tg : Expr) (ix : List Nat) (g : WG) : Prop where
  pg : PG X tg (liftG X.K ix g)
structure XGs (X : Cx) (ts : List Expr) (ix : List Nat) (g : WGs) : Prop where
  pg : PGs X ts (liftGs X.K ix g)
theorem PG.imp {X : Cx} {e : Expr} {t t' : TG} (h : PG X e t) (i : ∀ v σ H Q, t' v σ H Q → t v σ H Q) : PG X e t' := ⟨fun pins s σ H v u Q I r hw => h.run pins s σ H v u Q I r (i _ _ _ _ hw)⟩
theorem PGs.imp {X : Cx} {e : List Expr} {t t' : TGs} (h : PGs X e t) (i : ∀ v σ H Q, t' v σ H Q → t v σ H Q) : PGs X e t' := ⟨fun pins s σ H v u Q I r hw => h.run pins s σ H v u Q I r (i _ _ _ _ hw)⟩
def gN (i : Nat) : WG := fun d ρ P => putC ρ i (some (.fz d)) P
def gsNil : WGs := fun ds ρ P => match ds with
  | [] => P ρ
  | _ => False
def gsCons (g : WG) (gs : WGs) : WGs := fun ds ρ P => match ds with
  | d :: r => g d ρ fun ρ1 => gs r ρ1 P
  | _ => False
def gT (n : Nat) (gs : WGs) : WG := fun d ρ P => match d with
  | .tup ds => ds.length = n ∧ gs ds ρ P
  | _ => False
section
variable {X : Cx} {e : Expr} {es : List Expr} {ix ix' : List Nat} {g : WG} {gs : WGs} {pos : Pos}
theorem xg_name {i : Nat} (h : PG X e (gName i)) : XG X e [i] (gN i) := ⟨PG.imp h fun v σ H Q ⟨ρ, F, d, P, s, r, hw, k⟩ => by
  obtain ⟨s2, m⟩ := (s.pushD r).store (i := i)
  have hw : putC ρ i (some (.fz d)) P := hw
  rw [putC_eq] at hw
  exact k _ _ hw s2 ⟨m, fun j hj => List.getElem?_set_ne (fun e => hj (by rw [e]; exact List.mem_singleton_self _)), List.length_set⟩⟩
theorem xgs_nil : XGs X [] [] gsNil := ⟨PGs.imp pgs_nil fun v σ H Q ⟨ρ, F, ds, P, s, r, hw, k⟩ => by
  cases r with
  | nil => exact ⟨rfl, k _ _ hw s .refl⟩
  | cons a b => exact (show False from hw).elim⟩
theorem xgs_cons (h : XG X e ix g) (hr : XGs X es ix' gs) (hs : (assignEach (e :: es) X.env).map (·.2) = assign e X.env :: (assignEach es X.env).map (·.2) := by rfl) : XGs X (e :: es) (ix ++ ix') (gsCons g gs) :=
  ⟨PGs.imp (pgs_cons h.pg hr.pg hs) fun v σ H Q ⟨ρ, F, ds, P, s, r, hw, k⟩ => by
    cases r with
    | nil => exact (show False from hw).elim
    | cons a b =>
      exact ⟨_, _, rfl, ρ, F, _, _, s, a, hw, fun ρ1 σ1 p1 s1 t1 => ⟨ρ1, F, _, _, s1, b, p1, fun ρ2 σ2 p2 s2 t2 => k _ _ p2 s2 ((t1.mono fun j q => List.mem_append_left _ q).trans (t2.mono fun j q => List.mem_append_right _ q))⟩⟩⟩
theorem xg_tup {k n : Nat} (hc : X.calm = true) (h : XGs X es ix gs) (hn : (assignEach es X.env).length = n := by rfl) (hst : (assignEach es X.env).findIdx? (·.1) = none := by rfl) : XG X (.Tuple es k pos) ix (gT n gs) :=
  ⟨PG.imp (pg_tup hc h.pg hn hst) fun v σ H Q ⟨ρ, F, d, P, s, r, hw, k⟩ => by
    unfold gT at hw
    split at hw
    · cases r with
      | tup h1 z r =>
        exact ⟨_, _, rfl, s.sub.sqT h1, by rw [r.length]; exact hw.1, ρ, F, _, P, s, r, hw.2, k⟩
    · exact hw.elim⟩
/-- target = e -/
def wAsg (g : WG) (w : WD) : WS := fun ρ E => w ρ fun d ρ' => g d ρ' E.nx
theorem xs_asg {st : Stmt} {w : WD} (h : PS X st (tAsg (liftD X.K w) (liftG X.K ix g))) : XS X st (wAsg g w) := ⟨PS.imp h fun D σ H ⟨ρ, F, E, s, hw, k⟩ =>
  ⟨ρ, F, _, s, hw, fun d ρ' F' H' v p s' r f => ⟨ρ', F', d, _, s', r, p, fun ρ2 σ2 p2 s2 t => k.nx _ _ _ _ p2 s2 (f.less t.mem)⟩⟩⟩
/-- a, b = e1, e2 -/
def wPar (i j : Nat) (wa wb : WD) : WS := fun ρ E => wa ρ fun d ρ1 => wb ρ1 fun e ρ2 => putC ρ2 i (some (.fz d)) fun ρ3 => putC ρ3 j (some (.fz e)) E.nx
theorem xs_par {st : Stmt} {i j : Nat} {wa wb : WD} (h : PS X st (tPar i j (liftA X.K (wCons wa (wCons wb wNil))))) : XS X st (wPar i j wa wb) := ⟨PS.imp h fun D σ H ⟨ρ, F, E, s, hw, k⟩ =>
  ⟨ρ, F, fun ds ρ' => match ds with
    | [d, e] => putC ρ' i (some (.fz d)) fun ρ3 => putC ρ3 j (some (.fz e)) E.nx
    | _ => False, s, hw, fun ds ρ' F' H' vs p s' r f => by
    match ds, p with
    | [d, e], p =>
    cases r with
    | cons a r =>
    cases r with
    | cons b r =>
    cases r
    have p : putC ρ' i (some (.fz d)) fun ρ3 => putC ρ3 j (some (.fz e)) E.nx := p
    refine ⟨_, _, rfl, ?_⟩
    obtain ⟨s2, m2⟩ := (s'.pushD a).store (i := i)
    obtain ⟨s3, m3⟩ := (s2.pushD b).store (i := j)
    rw [putC_eq, putC_eq] at p
    exact k.nx _ _ _ _ p s3 (f.less fun c hc => m2 c (m3 c hc))⟩⟩
/-- a, b, c = e1, e2, e3 -/
def wPar3 (i j l : Nat) (wa wb wc : WD) : WS := fun ρ E => wa ρ fun d ρ1 => wb ρ1 fun e ρ2 => wc ρ2 fun u ρ3 => putC ρ3 i (some (.fz d)) fun ρ4 => putC ρ4 j (some (.fz e)) fun ρ5 => putC ρ5 l (some (.fz u)) E.nx
theorem xs_par3 {st : Stmt} {i j l : Nat} {wa wb wc : WD} (h : PS X st (tPar3 i j l (liftA X.K (wCons wa (wCons wb (wCons wc wNil)))))) : XS X st (wPar3 i j l wa wb wc) := ⟨PS.imp h fun D σ H ⟨ρ, F, E, s, hw, k⟩ =>
  ⟨ρ, F, fun ds ρ' => match ds with
    | [d, e, u] => putC ρ' i (some (.fz d)) fun ρ4 => putC ρ4 j (some (.fz e)) fun ρ5 => putC ρ5 l (some (.fz u)) E.nx
    | _ => False, s, hw, fun ds ρ' F' H' vs p s' r f => by
    match ds, p with
    | [d, e, u], p =>
    cases r with
    | cons a r =>
    cases r with
    | cons b r =>
    cases r with
    | cons c r =>
    cases r
    have p : putC ρ' i (some (.fz d)) fun ρ4 => putC ρ4 j (some (.fz e)) fun ρ5 => putC ρ5 l (some (.fz u)) E.nx := p
    refine ⟨_, _, _, rfl, ?_⟩
    obtain ⟨s2, m2⟩ := (s'.pushD a).store (i := i)
    obtain ⟨s3, m3⟩ := (s2.pushD b).store (i := j)
    obtain ⟨s4, m4⟩ := (s3.pushD c).store (i := l)
    rw [putC_eq, putC_eq, putC_eq] at p
    exact k.nx _ _ _ _ p s4 (f.less fun c hc => m2 c (m3 c (m4 c hc)))⟩⟩
end

/-! ### what is walked -/
/-- what is locked stays locked -/
def Lk (H0 H : Hp) : Prop := ∀ b o u, H0 b = some (.frz o u) → H b = some (.frz o u)
structure ItOk (K : PySem.W.Frag) (J : It) (F H0 : Hp) (ds : List D) : Prop where
  sz : ds.length ≤ sizeLine
  go : ∀ i H F1, i < ds.length → Sub F F1 → Sb F1 H → Lk H0 H → J.go i H
  stop : ∀ H F1, Sub F F1 → Sb F1 H → Lk H0 H → J.stop ds.length H
  yld : ∀ i H F1 x H', i < ds.length → Sub F F1 → Sb F1 H → Lk H0 H → J.yld i H x H' → ∃ d F2, ds[i]? = some d ∧ Rep K F2 x d ∧ Grow F1 H F2 H' ∧ Sb F2 H'
def liftI (K : PySem.W.Frag) (w : WL) : TI := fun σ H R => ∃ ρ F P, SR K ρ σ F H ∧ w ρ P ∧
  ∀ ds ρ' F' H' J, P ds ρ' → SR K ρ' σ F' H' → Frm (ownedE ρ) F H (ownedE ρ') F' H' → ItOk K J F' H' ds → R J H'
structure XI (X : Cx) (tg it : Expr) (w : WL) : Prop where
  pi : PI X tg it (liftI X.K w)
theorem PI.imp {X : Cx} {tg e : Expr} {t t' : TI} (h : PI X tg e t) (i : ∀ σ H Q, t' σ H Q → t σ H Q) : PI X tg e t' := ⟨fun pins s σ H Q I hw => h.run pins s σ H Q I (i _ _ _ hw)⟩
theorem Grow.refl {F H : Hp} : Grow F H F H := ⟨fun _ _ h => h, fun _ _ _ _ n h => ⟨h, n⟩, fun _ h => (nomatch h), fun _ o h => ⟨o, h⟩, fun _ _ _ h => h⟩
/-- the signs of a text -/
def signs (z : Str) : List D := z.cps.toList.map fun c => .str ⟨#[c]⟩
def kD : Key → D
  | .inl i => .int i
  | .inr x => .str x
/-- a tuple of keys -/
def kT (k : List Key) : D := .tup (k.map kD)
def D.walk : D → Option (List D)
  | .str z => some (signs z)
  | .dct kvs => some (kvs.map fun q => kD q.1)
  | .dcT kvs => some (kvs.map fun q => kT q.1)
  | d => d.items
def wWalk (w : WD) : WL := fun ρ P => w ρ fun d ρ' => match d.walk with
  | some ds => P ds ρ'
  | none => False
def wRng1 (w : WD) : WL := fun ρ P => w ρ fun d ρ' => match d with
  | .int j => (-(2 ^ 62) ≤ j ∧ j ≤ 16777216) ∧ P ((List.range j.toNat).map fun (k : Nat) => .int k) ρ'
  | _ => False
def wRng2 (wa wb : WD) : WL := fun ρ P => wa ρ fun d ρ1 => wb ρ1 fun e ρ2 => match d, e with
  | .int i, .int j => (0 ≤ i ∧ i < 2 ^ 62 ∧ -(2 ^ 62) ≤ j ∧ j ≤ 16777216) ∧ P ((List.range (j - i).toNat).map fun (k : Nat) => .int (i + k)) ρ2
  | _, _ => False
def wZip (wa wb : WD) : WL := fun ρ P => wa ρ fun d ρ1 => wb ρ1 fun e ρ2 => match d.items, e.items with
  | some ds, some es => P ((ds.zip es).map fun p => .tup [p.1, p.2]) ρ2
  | _, _ => False
def wEnum (wa : WD) : WL := fun ρ P => wa ρ fun d ρ1 => match d.items with
  | some ds => P (ds.zipIdx.map fun p => .tup [.int p.2, p.1]) ρ1
  | none => False
section
variable {X : Cx} {tg e e2 : Expr} {w wa wb : WD}
theorem Rep.sqK {K : PySem.W.Frag} {F : Hp} {v : V} {d : D} {ds : List D} (r : Rep K F v d) (h : d.items = some ds) : ∃ k p xs, v = .ref p ∧ (∀ F1 H, Sub F F1 → Sb F1 H → SqK k K H p xs) ∧ RepL K F xs ds ∧ ds.length ≤ sizeLine := by
  cases r <;> first
    | (cases h; done)
    | skip
  all_goals (have h' := Option.some.inj h; subst h')
  · rename_i h1 z r; exact ⟨false, _, _, rfl, fun F1 H su sb => sb.sqT (su _ _ h1), r, z⟩
  · rename_i h1 z r; exact ⟨true, _, _, rfl, fun F1 H su sb => sb.sqL (sqL_sub su (.inl (.inl h1))), r, z⟩
  · rename_i h1 z r; exact ⟨true, _, _, rfl, fun F1 H su sb => sb.sqL (sqL_sub su h1), r, z⟩
theorem getElem_of {α : Type} {l : List α} {i : Nat} (h : i < l.length) : ∃ x, l[i]? = some x := ⟨l[i], List.getElem?_eq_getElem h⟩
/-- a dict that is walked is locked -/
def tLk (td : TE) : TE := fun σ H Q => td σ H fun x H1 => Q x H1 ∨ ∃ d u, H1 d = some u ∧ Mut (some u) ∧ ∀ od, Q x (upd H1 d (.frz od u))
theorem pe_lk {td : TE} (h : PE X e td) : PE X e (tLk td) := ⟨fun pins s σ H Q I hw => by
  refine thn (h.run pins s σ H _ I hw) fun u s1 ⟨x, H1, I1, r1, q1⟩ => ?_
  rcases q1 with q | ⟨d, w, hd, mu, q⟩
  · exact ⟨x, H1, I1, r1, q⟩
  · obtain ⟨od, I2⟩ := I1.lock hd mu
    exact ⟨x, _, I2, r1, q od⟩⟩
theorem PI_or {t t' : TI} (h : PI X tg e t) (h' : PI X tg e t') : PI X tg e (fun σ H R => t σ H R ∨ t' σ H R) := ⟨fun pins s σ H Q I hw => hw.elim (h.run pins s σ H Q I) (h'.run pins s σ H Q I)⟩
theorem RepK.at {K : PySem.W.Frag} {F : Hp} : ∀ {es : List (Key × V)} {kvs : List (Key × D)} {i : Nat} {k : Key} {v : V}, RepK K F es kvs → es[i]? = some (k, v) → KOk k ∧ ∃ d, kvs[i]? = some (k, d) ∧ Rep K F v d
  | _, _, _, _, _, .nil, e => by cases e
  | _, _, 0, _, _, .cons q h _, e => by cases e; exact ⟨q, _, rfl, h⟩
  | _, _, i + 1, _, _, .cons _ _ r, e => RepK.at (i := i) r (by simpa using e)
theorem RepT.at {K : PySem.W.Frag} {F : Hp} : ∀ {es : List (List Key × V)} {kvs : List (List Key × D)} {i : Nat} {k : List Key} {v : V}, RepT K F es kvs → es[i]? = some (k, v) → KsOk k ∧ ∃ d, kvs[i]? = some (k, d) ∧ Rep K F v d
  | _, _, _, _, _, .nil, e => by cases e
  | _, _, 0, _, _, .cons q h _, e => by cases e; exact ⟨q, _, rfl, h⟩
  | _, _, i + 1, _, _, .cons _ _ r, e => RepT.at (i := i) r (by simpa using e)
theorem RepT.length {K : PySem.W.Frag} {F : Hp} : ∀ {es : List (List Key × V)} {kvs : List (List Key × D)}, RepT K F es kvs → es.length = kvs.length
  | _, _, .nil => rfl
  | _, _, .cons _ _ r => congrArg (· + 1) (RepT.length r)
theorem kD_rep {K : PySem.W.Frag} {F : Hp} {k : Key} (h : KOk k) : Rep K F (kV k) (kD k) := by
  cases k with
  | inl i => exact .int i
  | inr x => exact .str x h
theorem kDs_rep {K : PySem.W.Frag} {F : Hp} : ∀ {k : List Key}, (∀ j ∈ k, KOk j) → RepL K F (k.map kV) (k.map kD)
  | [], _ => .nil
  | k :: ks, h => .cons (kD_rep (h k List.mem_cons_self)) (kDs_rep fun j hj => h j (List.mem_cons_of_mem _ hj))
theorem xi_any (he : XE X e w) : XI X tg e (wWalk w) := ⟨PI.imp (pi_any (pe_lk he.pe)) fun σ H R ⟨ρ, F, P, s, hw, k⟩ =>
  ⟨ρ, F, _, s, hw, fun d ρ' F' H' v p s' r f => by
    have seq : ∀ ds, d.items = some ds → P ds ρ' → (∃ a xs, v = .ref a ∧ SqL X.K H' a xs ∧ R (Itl X.K a) H') ∨ (∃ a xs, v = .ref a ∧ SqT X.K H' a xs ∧ R (Itt X.K a) H') ∨ (∃ z, v = .str z ∧ R (Its z) H') ∨
      ∃ d o, v = .ref d ∧ ((∃ kvs, H' d = some (.frz o (.dK kvs)) ∧ R (Itk d o kvs) H') ∨ ∃ kvs, H' d = some (.frz o (.dT kvs)) ∧ R (Itkt d o kvs) H') := fun ds hi p => by
      obtain ⟨kd, a, xs, rfl, hq, r, z⟩ := r.sqK hi
      cases kd
      · refine .inr (.inl ⟨a, xs, rfl, hq F' H' (fun _ _ h => h) s'.sub, k _ _ _ _ _ p s' f ⟨z, fun i H1 F1 hi su sb _ => ?_, fun H1 F1 su sb _ => ⟨xs, hq F1 H1 su sb, by rw [r.length]; exact Nat.le_refl _⟩, fun i H1 F1 x H2 hi su sb _ y => ?_⟩⟩)
        · obtain ⟨x, hx⟩ := getElem_of (l := xs) (by rw [r.length]; exact hi)
          exact ⟨xs, x, hq F1 H1 su sb, hx⟩
        · obtain ⟨rfl, y⟩ := y
          obtain ⟨u, hu, ru⟩ := r.get' (y xs (hq F1 _ su sb))
          exact ⟨u, F1, hu, ru.mono su, .refl, sb⟩
      · refine .inl ⟨a, xs, rfl, hq F' H' (fun _ _ h => h) s'.sub, k _ _ _ _ _ p s' f ⟨z, fun i H1 F1 hi su sb _ => ?_, fun H1 F1 su sb _ => ⟨xs, hq F1 H1 su sb, by rw [r.length]; exact Nat.le_refl _⟩, fun i H1 F1 x H2 hi su sb _ y => ?_⟩⟩
        · obtain ⟨x, hx⟩ := getElem_of (l := xs) (by rw [r.length]; exact hi)
          exact ⟨xs, x, hq F1 H1 su sb, hx⟩
        · obtain ⟨rfl, y⟩ := y
          obtain ⟨u, hu, ru⟩ := r.get' (y xs (hq F1 _ su sb))
          exact ⟨u, F1, hu, ru.mono su, .refl, sb⟩
    cases hd : d.walk with
    | none => rw [hd] at p; exact p.elim
    | some ds =>
      rw [hd] at p
      cases d <;> first
        | exact .inl (seq ds hd p)
        | skip
      case dct kvs =>
        cases hd
        cases r with
        | @dct a es _ hF lz rk =>
        have ok : ∀ o H2, H2 a = some (.frz o (.dK es)) → ItOk X.K (Itk a o es) F' H2 (kvs.map fun q => kD q.1) := fun o H2 h2 => ⟨by rw [List.length_map]; exact lz, fun i H1 F1 hi su sb lk => ⟨lk _ _ _ h2, by rw [rk.length]; simpa using hi⟩, fun H1 F1 su sb lk => ⟨lk _ _ _ h2, by rw [rk.length]; simp⟩, fun i H1 F1 x H2 hi su sb _ y => by
          obtain ⟨rfl, key, v, hv, rfl⟩ := y
          obtain ⟨ko, u, hu, _⟩ := rk.at hv
          exact ⟨kD key, F1, by rw [List.getElem?_map, hu]; rfl, kD_rep ko, .refl, sb⟩⟩
        rcases s'.sub.dK hF with h | ⟨o, h⟩
        · refine .inr ⟨a, _, h, True.intro, fun od => .inr (.inr (.inr ⟨a, od, rfl, .inl ⟨es, upd_same, ?_⟩⟩))⟩
          obtain ⟨s2, f2⟩ := s'.lock (od := od) hF True.intro h
          exact k _ _ _ _ _ p s2 (f.trans (f2 _)) (ok od _ upd_same)
        · exact .inl (.inr (.inr (.inr ⟨a, o, rfl, .inl ⟨es, h, k _ _ _ _ _ p s' f (ok o _ h)⟩⟩)))
      case dcT kvs =>
        cases hd
        cases r with
        | @dcT a es _ hF lz rk =>
        have ok : ∀ o H2, H2 a = some (.frz o (.dT es)) → ItOk X.K (Itkt a o es) F' H2 (kvs.map fun q => kT q.1) := fun o H2 h2 => ⟨by rw [List.length_map]; exact lz, fun i H1 F1 hi su sb lk => ⟨lk _ _ _ h2, by rw [rk.length]; simpa using hi⟩, fun H1 F1 su sb lk => ⟨lk _ _ _ h2, by rw [rk.length]; simp⟩, fun i H1 F1 x H2 hi su sb _ y => by
          obtain ⟨rfl, key, v, q, hv, rfl, hq⟩ := y
          obtain ⟨ko, u, hu, _⟩ := rk.at hv
          obtain ⟨F2, sb2, g2, e2⟩ := sb.tupF X.K hq
          exact ⟨kT key, F2, by rw [List.getElem?_map, hu]; rfl, .tup e2 (by rw [List.length_map]; exact ko.1) (kDs_rep ko.2), g2, sb2⟩⟩
        rcases s'.sub.dT hF with h | ⟨o, h⟩
        · refine .inr ⟨a, _, h, True.intro, fun od => .inr (.inr (.inr ⟨a, od, rfl, .inr ⟨es, upd_same, ?_⟩⟩))⟩
          obtain ⟨s2, f2⟩ := s'.lock (od := od) hF True.intro h
          exact k _ _ _ _ _ p s2 (f.trans (f2 _)) (ok od _ upd_same)
        · exact .inl (.inr (.inr (.inr ⟨a, o, rfl, .inr ⟨es, h, k _ _ _ _ _ p s' f (ok o _ h)⟩⟩)))
      rename_i z
      cases hd
      cases r with
      | str _ hz =>
      have len : (signs z).length = z.cps.size := by unfold signs; rw [List.length_map, Array.length_toList]
      refine .inl (.inr (.inr (.inl ⟨z, rfl, k _ _ _ _ _ p s' f ⟨by rw [len]; exact hz, fun i H1 F1 hi su sb _ => by rw [len] at hi; exact hi, fun H1 F1 su sb _ => by rw [len]; exact Nat.le_refl _, fun i H1 F1 x H2 hi su sb _ y => ?_⟩⟩)))
      obtain ⟨rfl, c, hc, rfl⟩ := y
      refine ⟨.str ⟨#[c]⟩, F1, ?_, .str _ (by show 1 ≤ sizeLine; decide), .refl, sb⟩
      unfold signs
      rw [List.getElem?_map, Array.getElem?_toList, hc]
      rfl⟩⟩
theorem xi_rng1 {p pos : Pos} (hg : Gl X "range") (hm : X.mg "range" = none) (ha : XE X e w) (hs : starEach [e] X.env = [(false, eval e X.env)] := by rfl) (hs' : starEach [e] X.env = (false, eval e X.env) :: starEach [] X.env := by rfl) : XI X tg (.Call (.Name "range" p) [e] [] pos) (wRng1 w) :=
  ⟨PI.imp (pi_range1 hg hm (pa_cons ha.pe pa_nil hs') hs) fun σ H R ⟨ρ, F, P, s, hw, k⟩ =>
    ⟨ρ, F, _, s, hw, fun d ρ' F' H' v p s' r f => by
      cases d <;> first
        | exact p.elim
        | skip
      rename_i j
      cases r
      have len : ((List.range j.toNat).map fun (k : Nat) => D.int k).length = j.toNat := by rw [List.length_map, List.length_range]
      have p0 : (-(2 ^ 62) ≤ j ∧ j ≤ 16777216) := p.1
      refine ⟨j, rfl, p0.1, Int.lt_of_le_of_lt p0.2 (by decide), k _ _ _ _ _ p.2 s' f ⟨by rw [len, sizeLine_eq]; omega, fun i H1 F1 hi su sb _ => by rw [len] at hi; exact hi, fun H1 F1 su sb _ => by rw [len]; exact Nat.le_refl _, fun i H1 F1 x H2 hi su sb _ y => ?_⟩⟩
      obtain ⟨rfl, rfl⟩ := y
      rw [len] at hi
      refine ⟨.int i, F1, by rw [List.getElem?_map, List.getElem?_range hi]; rfl, ?_, .refl, sb⟩
      rw [Int.zero_add]
      exact .int _⟩⟩
theorem xi_rng2 {p pos : Pos} (hg : Gl X "range") (hm : X.mg "range" = none) (ha : XE X e wa) (hb : XE X e2 wb) (hs : starEach [e, e2] X.env = [(false, eval e X.env), (false, eval e2 X.env)] := by rfl) (hs2 : starEach [e2] X.env = [(false, eval e2 X.env)] := by rfl)
    (h1 : starEach [e, e2] X.env = (false, eval e X.env) :: starEach [e2] X.env := by rfl) (h2 : starEach [e2] X.env = (false, eval e2 X.env) :: starEach [] X.env := by rfl) : XI X tg (.Call (.Name "range" p) [e, e2] [] pos) (wRng2 wa wb) :=
  ⟨PI.imp (pi_range2 hg hm (pa_cons ha.pe (pa_cons hb.pe pa_nil h2) h1) hs hs2) fun σ H R ⟨ρ, F, P, s, hw, k⟩ =>
    ⟨ρ, F, _, s, hw, fun d ρ1 F1 H1 v p s1 r1 f1 => ⟨ρ1, F1, _, s1, p, fun e' ρ' F' H' u p s' r2 f2 => by
      match d, e', p, r1, r2 with
      | .int i, .int j, p, r1, r2 =>
      cases r1
      cases r2
      have len : ((List.range (j - i).toNat).map fun (k : Nat) => D.int (i + k)).length = (j - i).toNat := by rw [List.length_map, List.length_range]
      have p0 : (0 ≤ i ∧ i < 2 ^ 62 ∧ -(2 ^ 62) ≤ j ∧ j ≤ 16777216) := p.1
      refine ⟨i, j, rfl, ⟨Int.le_trans (by decide) p0.1, p0.2.1, p0.2.2.1, Int.lt_of_le_of_lt p0.2.2.2 (by decide)⟩, k _ _ _ _ _ p.2 s' (f1.trans f2) ⟨by rw [len, sizeLine_eq]; omega, fun i H1 F1 hi su sb _ => by rw [len] at hi; exact hi, fun H1 F1 su sb _ => by rw [len]; exact Nat.le_refl _, fun n H1 F1 x H2 hi su sb _ y => ?_⟩⟩
      obtain ⟨rfl, rfl⟩ := y
      rw [len] at hi
      exact ⟨.int (i + n), F1, by rw [List.getElem?_map, List.getElem?_range hi]; rfl, .int _, .refl, sb⟩⟩⟩⟩
/-- a new pair -/
theorem new_pair {K : PySem.W.Frag} {F1 H1 H2 : Hp} {T : Addr} {x y : V} {d u : D} (sb : Sb F1 H1) (hT : H1 T = none) (e : H2 = upd H1 T (.tup [x, y])) (rx : Rep K F1 x d) (ry : Rep K F1 y u) :
    ∃ F2, Rep K F2 (.ref T) (.tup [d, u]) ∧ Grow F1 H1 F2 H2 ∧ Sb F2 H2 := by
  subst e
  obtain ⟨g, sb'⟩ := grow_new (o := .tup [x, y]) sb hT
  exact ⟨_, .tup upd_same (by show 2 ≤ sizeLine; decide) (.cons (rx.mono g.fz) (.cons (ry.mono g.fz) .nil)), g, sb'⟩
theorem xi_zip {p pos tpos : Pos} {elts : List Expr} {kk : Nat} (hg : Gl X "zip") (hm : X.mg "zip" = none) (ha : XE X e wa) (hb : XE X e2 wb)
    (h1 : starEach [e, e2] X.env = (false, eval e X.env) :: starEach [e2] X.env := by rfl) (h2 : starEach [e2] X.env = (false, eval e2 X.env) :: starEach [] X.env := by rfl) (hpl : (backTo pos (starEach [e2] X.env)).any (·.1) = false := by rfl) :
    XI X (.Tuple elts kk tpos) (.Call (.Name "zip" p) [e, e2] [] pos) (wZip wa wb) :=
  ⟨PI.imp (pi_zipM hg hm (pa_cons ha.pe (pa_cons hb.pe pa_nil h2) h1) h1 hpl) fun σ H R ⟨ρ, F, P, s, hw, k⟩ =>
    ⟨ρ, F, _, s, hw, fun d ρ1 F1 H1 v p s1 r1 f1 => ⟨ρ1, F1, _, s1, p, fun e' ρ' F' H' u p s' r2 f2 => by
      cases hd : d.items with
      | none => rw [hd] at p; exact p.elim
      | some ds =>
      cases he : e'.items with
      | none => rw [hd, he] at p; exact p.elim
      | some es =>
      rw [hd, he] at p
      obtain ⟨ka, a, xs, rfl, qa, ra, za⟩ := (r1.mono f2.fz).sqK hd
      obtain ⟨kb, b, ys, rfl, qb, rb, _⟩ := r2.sqK he
      have len : ((ds.zip es).map fun p => D.tup [p.1, p.2]).length = min xs.length ys.length := by rw [List.length_map, List.length_zip, ra.length, rb.length]
      refine ⟨ka, kb, a, b, xs, ys, rfl, qa F' H' (fun _ _ h => h) s'.sub, qb F' H' (fun _ _ h => h) s'.sub, k _ _ _ _ _ p s' (f1.trans f2) ⟨by rw [len, ra.length]; exact Nat.le_trans (Nat.min_le_left _ _) za, fun i G1 E1 hi su sb _ => ?_, fun G1 E1 su sb _ => ⟨xs, ys, qa E1 G1 su sb, qb E1 G1 su sb, len⟩, fun i G1 E1 x G2 hi su sb _ y => ?_⟩⟩
      · rw [len] at hi
        obtain ⟨x, hx⟩ := getElem_of (l := xs) (i := i) (by omega)
        obtain ⟨y, hy⟩ := getElem_of (l := ys) (i := i) (by omega)
        exact ⟨xs, ys, x, y, qa E1 G1 su sb, qb E1 G1 su sb, hx, hy⟩
      · obtain ⟨T, x1, y1, rfl, hT, e, yx, yy⟩ := y
        obtain ⟨dx, hdx, rx⟩ := ra.get' (yx xs (qa E1 G1 su sb))
        obtain ⟨dy, hdy, ry⟩ := rb.get' (yy ys (qb E1 G1 su sb))
        obtain ⟨F2, r, g, sb'⟩ := new_pair sb hT e (rx.mono su) (ry.mono su)
        refine ⟨_, F2, ?_, r, g, sb'⟩
        rw [List.getElem?_map, show (ds.zip es)[i]? = some (dx, dy) from by rw [List.getElem?_zip_eq_some]; exact ⟨hdx, hdy⟩]
        rfl⟩⟩⟩
theorem xi_enum {p pos tpos : Pos} {elts : List Expr} {kk : Nat} (hg : Gl X "enumerate") (hm : X.mg "enumerate" = none) (ha : XE X e wa) (hs : starEach [e] X.env = [(false, eval e X.env)] := by rfl) (hs' : starEach [e] X.env = (false, eval e X.env) :: starEach [] X.env := by rfl) :
    XI X (.Tuple elts kk tpos) (.Call (.Name "enumerate" p) [e] [] pos) (wEnum wa) :=
  ⟨PI.imp (pi_enumM hg hm (pa_cons ha.pe pa_nil hs') hs) fun σ H R ⟨ρ, F, P, s, hw, k⟩ =>
    ⟨ρ, F, _, s, hw, fun d ρ' F' H' v p s' r1 f => by
      cases hd : d.items with
      | none => rw [hd] at p; exact p.elim
      | some ds =>
      rw [hd] at p
      obtain ⟨ka, a, xs, rfl, qa, ra, za⟩ := r1.sqK hd
      have len : (ds.zipIdx.map fun p => D.tup [.int p.2, p.1]).length = xs.length := by rw [List.length_map, List.length_zipIdx, ra.length]
      refine ⟨ka, a, xs, rfl, qa F' H' (fun _ _ h => h) s'.sub, k _ _ _ _ _ p s' f ⟨by rw [len, ra.length]; exact za, fun i G1 E1 hi su sb _ => ?_, fun G1 E1 su sb _ => ⟨xs, qa E1 G1 su sb, len⟩, fun i G1 E1 x G2 hi su sb _ y => ?_⟩⟩
      · rw [len] at hi
        obtain ⟨x, hx⟩ := getElem_of (l := xs) (i := i) hi
        exact ⟨xs, x, qa E1 G1 su sb, hx⟩
      · obtain ⟨T, x1, rfl, hT, e, yx⟩ := y
        obtain ⟨dx, hdx, rx⟩ := ra.get' (yx xs (qa E1 G1 su sb))
        obtain ⟨F2, r, g, sb'⟩ := new_pair sb hT e (.int _) (rx.mono su)
        refine ⟨_, F2, ?_, r, g, sb'⟩
        rw [List.getElem?_map, List.getElem?_zipIdx, hdx]
        simp⟩⟩
end

/-! ### for, while -/
def wForL (g : WG) (wb : WS) : List D → TEnv → TEnds → Prop
  | [], ρ, E => E.nx ρ
  | d :: ds, ρ, E => g d ρ fun ρ1 => wb ρ1 (E.lp fun ρ2 => wForL g wb ds ρ2 E)
def wFor (wi : WL) (g : WG) (wb : WS) : WS := fun ρ E => wi ρ fun ds ρ1 => wForL g wb ds ρ1 E
def wWhileN (wc : WT) (wb : WS) : Nat → TEnv → TEnds → Prop
  | 0, _, _ => False
  | n + 1, ρ, E => wc ρ fun c ρ1 => br c (wb ρ1 (E.lp fun ρ2 => wWhileN wc wb n ρ2 E)) (E.nx ρ1)
def wWhile (wc : WT) (wb : WS) : WS := fun ρ E => ∃ n, wWhileN wc wb n ρ E
section
variable {X : Cx} {tg it c : Expr} {body : List Stmt} {wi : WL} {g : WG} {wb : WS} {wc : WT} {ix : List Nat} {pos : Pos}
theorem xs_for (hp : PassesOwn (model X.prog X.w) X.A X.env X.xe) (hc : X.calm = true) (hi : XI X tg it wi) (hg : XG X tg ix g) (hb : XSs X body wb) (hs : ∀ x, foldedSetIterable it X.env x = pure x := by intro _; rfl) : XS X (.For tg it body [] pos) (wFor wi g wb) :=
  ⟨PS.imp (ps_for hp hc hi.pi hg.pg hb.ps hs) fun Dn σ H ⟨ρ, F, E, s, hw, k⟩ =>
    ⟨ρ, F, _, s, hw, fun ds ρ1 F1 H1 J p s1 f1 ok => by
      refine ⟨fun i m σ' H' => m = ds.length - i ∧ i ≤ ds.length ∧ ∃ ρ' F', SR X.K ρ' σ' F' H' ∧ Frm (ownedE ρ1) F1 H1 (ownedE ρ') F' H' ∧ wForL g wb (ds.drop i) ρ' E, ⟨_, rfl, Nat.zero_le _, ρ1, F1, s1, .refl, p⟩, ?_⟩
      rintro i m σ' H' ⟨rfl, hi, ρ', F', s', f', p'⟩
      by_cases hlt : i < ds.length
      · refine .inr ⟨ok.go i H' F' hlt f'.fz s'.sub f'.lk, fun σ2 H2 => ∃ ρ2 F2, SR X.K ρ2 σ2 F2 H2 ∧ Frm (ownedE ρ1) F1 H1 (ownedE ρ2) F2 H2 ∧ wForL g wb (ds.drop (i + 1)) ρ2 E,
          fun σ2 H2 ⟨ρ2, F2, s2, f2, p2⟩ => ⟨_, by omega, rfl, hlt, ρ2, F2, s2, f2, p2⟩, fun x H2 hy => ?_⟩
        obtain ⟨d, F2, hd, r, gr, sb2⟩ := ok.yld i H' F' x H2 hlt f'.fz s'.sub f'.lk hy
        have e : ds.drop i = d :: ds.drop (i + 1) := by
          rw [List.drop_eq_getElem_cons hlt]
          rw [List.getElem?_eq_getElem hlt] at hd
          rw [Option.some.inj hd]
        rw [e] at p'
        have s2 := s'.grow gr sb2
        have f2 : Frm (ownedE ρ1) F1 H1 (ownedE ρ') F2 H2 := f'.trans (.ofGrow gr)
        refine ⟨ρ', F2, d, _, s2, r, p', fun ρ3 σ3 p3 s3 t3 => ⟨ρ3, F2, _, s3, p3, ?_⟩⟩
        have f3 : Frm (ownedE ρ1) F1 H1 (ownedE ρ3) F2 H2 := f2.less t3.mem
        exact ⟨fun ρ4 σ4 F4 H4 p4 s4 f4 => ⟨ρ4, F4, s4, f3.trans f4, p4⟩, fun o ρ4 σ4 F4 H4 v p4 s4 f4 => k.rt _ _ _ _ _ _ p4 s4 (f1.trans (f3.trans f4)), fun ρ4 σ4 F4 H4 p4 s4 f4 => k.nx _ _ _ _ p4 s4 (f1.trans (f3.trans f4)),
          fun ρ4 σ4 F4 H4 p4 s4 f4 => ⟨ρ4, F4, s4, f3.trans f4, p4⟩⟩
      · have e : i = ds.length := by omega
        subst e
        rw [List.drop_length] at p'
        exact .inl ⟨ok.stop H' F' f'.fz s'.sub f'.lk, k.nx _ _ _ _ p' s' (f1.trans f')⟩⟩⟩
theorem xs_while (hp : PassesOwn (model X.prog X.w) X.A X.env X.xe) (hc : XT X c wc) (hb : XSs X body wb) : XS X (.While c body [] pos) (wWhile wc wb) :=
  ⟨PS.imp (ps_while hp hc.pt hb.ps) fun Dn σ H ⟨ρ, F, E, s, ⟨n, hw⟩, k⟩ => by
    refine ⟨fun m σ' H' => ∃ ρ' F', SR X.K ρ' σ' F' H' ∧ Frm (ownedE ρ) F H (ownedE ρ') F' H' ∧ wWhileN wc wb m ρ' E, ⟨n, ρ, F, s, .refl, hw⟩, ?_⟩
    rintro m σ' H' ⟨ρ', F', s', f', p'⟩
    cases m with
    | zero => exact p'.elim
    | succ m =>
    refine ⟨ρ', F', _, s', p', fun b ρ1 F1 H1 p1 s1 f1 => ?_⟩
    cases b with
    | false =>
      have p1 : E.nx ρ1 := by simpa [br] using p1
      rw [if_neg Bool.false_ne_true]
      exact k.nx _ _ _ _ p1 s1 (f'.trans f1)
    | true =>
      have p1 := p1.1 rfl
      rw [if_pos rfl]
      refine ⟨fun σ2 H2 => ∃ ρ2 F2, SR X.K ρ2 σ2 F2 H2 ∧ Frm (ownedE ρ) F H (ownedE ρ2) F2 H2 ∧ wWhileN wc wb m ρ2 E, fun σ2 H2 q => ⟨m, Nat.lt_succ_self _, q⟩, ρ1, F1, _, s1, p1, ?_⟩
      have f2 := f'.trans f1
      exact ⟨fun ρ4 σ4 F4 H4 p4 s4 f4 => ⟨ρ4, F4, s4, f2.trans f4, p4⟩, fun o ρ4 σ4 F4 H4 v p4 s4 f4 => k.rt _ _ _ _ _ _ p4 s4 (f2.trans f4), fun ρ4 σ4 F4 H4 p4 s4 f4 => k.nx _ _ _ _ p4 s4 (f2.trans f4),
        fun ρ4 σ4 F4 H4 p4 s4 f4 => ⟨ρ4, F4, s4, f2.trans f4, p4⟩⟩⟩
end
end Tr
/-! The tree layer: comprehensions, defs. -/
namespace Tr
open PySem PySem.Spec PyProof.Rows L2

/-! ### comprehensions -/
def wipeE (ρ : TEnv) : List Nat → TEnv
  | [] => ρ
  | v :: vs => put (wipeE ρ vs) v none
def wipeC (ρ : TEnv) : List Nat → (TEnv → Prop) → Prop
  | [], k => k ρ
  | v :: vs, k => wipeC ρ vs fun ρ' => putC ρ' v none k
theorem wipeC_eq (ρ : TEnv) : ∀ (vs : List Nat) (k : TEnv → Prop), wipeC ρ vs k = k (wipeE ρ vs)
  | [], _ => rfl
  | v :: vs, k => by
    show wipeC ρ vs (fun ρ' => putC ρ' v none k) = k (put (wipeE ρ vs) v none)
    rw [wipeC_eq, putC_eq, put_eq]
/-- the block's names as they were ahead -/
def resE (ρ0 : TEnv) : List Nat → TEnv → TEnv
  | [], ρ => ρ
  | v :: vs, ρ => match nth ρ0 v with
    | some (.fz d) => put (resE ρ0 vs ρ) v (some (.fz d))
    | _ => resE ρ0 vs ρ
def resC (ρ0 : TEnv) : List Nat → TEnv → (TEnv → Prop) → Prop
  | [], ρ, k => k ρ
  | v :: vs, ρ, k => resC ρ0 vs ρ fun ρ' => match nth ρ0 v with
    | some (.fz d) => putC ρ' v (some (.fz d)) k
    | _ => k ρ'
theorem resC_eq (ρ0 : TEnv) : ∀ (vs : List Nat) (ρ : TEnv) (k : TEnv → Prop), resC ρ0 vs ρ k = k (resE ρ0 vs ρ)
  | [], _, _ => rfl
  | v :: vs, ρ, k => by
    unfold resC resE
    rw [resC_eq]
    cases nth ρ0 v with
    | none => rfl
    | some o => cases o <;> first
      | rfl
      | (show putC _ _ _ _ = k (put (resE ρ0 vs ρ) v _); rw [putC_eq, put_eq])
def wYes : WT := fun ρ P => P true ρ
def wLcL (g : WG) (wt : WT) (we : WO) (own : List Nat) : List D → TEnv → List O → (List O → TEnv → Prop) → Prop
  | [], ρ, acc, P => P acc ρ
  | d :: ds, ρ, acc, P => g d ρ fun ρ1 => wt ρ1 fun b ρ2 => br b (we ρ2 fun o ρ3 => wLcL g wt we own ds (wipeE ρ3 own) (acc ++ [o]) P) (wLcL g wt we own ds (wipeE ρ2 own) acc P)
def wLc (wi : WL) (g : WG) (wt : WT) (we : WO) (own : List Nat) : WO := fun ρ P => wi ρ fun ds ρ1 => wipeC ρ1 own fun ρ' => wLcL g wt we own ds ρ' [] fun os ρ2 => ∀ a, resC ρ1 own ρ2 (P (.lst a os))
section
variable {K : PySem.W.Frag} {ρ : TEnv} {σ : L2.St} {F H : Hp}
theorem SR.pushN (s : SR K ρ σ F H) : SR K (none :: ρ) (none :: σ) F H where
  sub := s.sub
  len := by rw [List.length_cons, List.length_cons, s.len]
  slot := fun i o e => by
    cases i with
    | zero => cases e
    | succ i => exact s.slot i o (by simpa using e)
  own := s.own
  nd := s.nd
theorem SR.drop1 (s : SR K ρ σ F H) (v : Nat) : SR K (put ρ v none) (σ.set v none) F H ∧ ∀ b, b ∈ ownedE (put ρ v none) → b ∈ ownedE ρ := by
  obtain ⟨s1, m⟩ := s.pushN.store (i := v)
  rw [← put_eq] at s1 m
  exact ⟨s1, m⟩
theorem SR.wipe (s : SR K ρ σ F H) : ∀ vs : List Nat, SR K (wipeE ρ vs) (L2.wipe σ vs) F H ∧ ∀ b, b ∈ ownedE (wipeE ρ vs) → b ∈ ownedE ρ
  | [] => ⟨s, fun _ h => h⟩
  | v :: vs => by
    obtain ⟨s1, m1⟩ := s.wipe vs
    obtain ⟨s2, m2⟩ := s1.drop1 v
    exact ⟨s2, fun b h => m1 b (m2 b h)⟩
theorem SR.weak {σ' : L2.St} (s : SR K ρ σ' F H) (h : ∀ (i : Nat) (v : V), σ'[i]? = some (some v) → σ[i]? = some (some v)) (l : σ'.length = σ.length) : SR K ρ σ F H :=
  ⟨s.sub, s.len.trans l, fun i o e => let ⟨v, hv, r⟩ := s.slot i o e; ⟨v, h i v hv, r⟩, s.own, s.nd⟩
theorem SR.res {ρ0 : TEnv} {F0 H0 : Hp} (s0 : SR K ρ0 σ F0 H0) (su : Sub F0 F) (s : SR K ρ σ F H) : ∀ vs : List Nat, SR K (resE ρ0 vs ρ) σ F H ∧ ∀ b, b ∈ ownedE (resE ρ0 vs ρ) → b ∈ ownedE ρ
  | [] => ⟨s, fun _ h => h⟩
  | v :: vs => by
    obtain ⟨s1, m1⟩ := SR.res s0 su s vs
    unfold resE
    cases hn : nth ρ0 v with
    | none => exact ⟨s1, m1⟩
    | some o =>
      cases o <;> first
        | exact ⟨s1, m1⟩
        | skip
      rename_i d
      obtain ⟨x, hx, r⟩ := s0.slot v _ (nth_eq hn)
      cases r with
      | fz r =>
        obtain ⟨s2, m2⟩ := (s1.pushD (r.mono su)).set hx
        rw [← put_eq] at s2 m2
        exact ⟨s2, fun b h => m1 b (m2 b h)⟩
theorem wipe_get (τ : L2.St) (vs : List Nat) (j : Nat) : (L2.wipe τ vs)[j]? = if j ∈ vs ∧ j < τ.length then some none else τ[j]? := by
  induction vs with
  | nil => simp [L2.wipe]
  | cons v vs ih =>
    show ((L2.wipe τ vs).set v none)[j]? = _
    rw [List.getElem?_set, wipe_length, ih]
    by_cases e : v = j
    · subst e
      by_cases q : v < τ.length
      · simp [q]
      · simp [q]
    · have e' : j ≠ v := fun z => e z.symm
      simp [e, e']
theorem wipe_at {τ : L2.St} {vs : List Nat} {j : Nat} (h : j ∉ vs) : (L2.wipe τ vs)[j]? = τ[j]? := by
  rw [wipe_get, if_neg (fun z => h z.1)]
theorem wipe_cong {vs : List Nat} {σ σ' : L2.St} (h : ∀ j, j ∉ vs → σ'[j]? = σ[j]?) (l : σ'.length = σ.length) : L2.wipe σ' vs = L2.wipe σ vs := by
  apply List.ext_getElem?
  intro j
  rw [wipe_get, wipe_get, l]
  by_cases q : j ∈ vs
  · by_cases q2 : j < σ.length
    · rw [if_pos ⟨q, q2⟩, if_pos ⟨q, q2⟩]
    · rw [if_neg (fun z => q2 z.2), if_neg (fun z => q2 z.2), List.getElem?_eq_none (by omega), List.getElem?_eq_none (by omega)]
  · rw [if_neg (fun z => q z.1), if_neg (fun z => q z.1)]
    exact h j q
end
structure XTs (X : Cx) (ifs : List Expr) (w : WT) : Prop where
  pt : PTs X ifs (liftT X.K w)
section
variable {X : Cx} {c : Expr} {wt : WT}
theorem xts_nil : XTs X [] wYes := ⟨⟨fun pins s σ H Q I ⟨ρ, F, P, sr, hw, k⟩ => pts_nil.run pins s σ H Q I (k _ _ _ _ hw sr .refl)⟩⟩
theorem xts_one (h : XT X c wt) : XTs X [c] wt := ⟨pts_one h.pt⟩
/-- a walk whose iterator leans on what the slots hold -/
structure ItG (K : PySem.W.Frag) (J : It) (F H0 : Hp) (ds : List D) (C : TEnv → Prop) : Prop where
  sz : ds.length ≤ sizeLine
  go : ∀ i H F1 ρ σ, i < ds.length → Sub F F1 → SR K ρ σ F1 H → Lk H0 H → C ρ → J.go i H
  stop : ∀ H F1 ρ σ, Sub F F1 → SR K ρ σ F1 H → Lk H0 H → C ρ → J.stop ds.length H
  yld : ∀ i H F1 ρ σ x H', i < ds.length → Sub F F1 → SR K ρ σ F1 H → Lk H0 H → C ρ → J.yld i H x H' → ∃ d F2, ds[i]? = some d ∧ Rep K F2 x d ∧ Grow F1 H F2 H' ∧ Sb F2 H'
theorem ItOk.g {K : PySem.W.Frag} {J : It} {F H0 : Hp} {ds : List D} (ok : ItOk K J F H0 ds) : ItG K J F H0 ds fun _ => True :=
  ⟨ok.sz, fun i H F1 ρ σ hi su s lk _ => ok.go i H F1 hi su s.sub lk, fun H F1 ρ σ su s lk _ => ok.stop H F1 su s.sub lk, fun i H F1 ρ σ x H' hi su s lk _ y => ok.yld i H F1 x H' hi su s.sub lk y⟩
theorem tLc_core {K : PySem.W.Frag} {g g' : WG} {C : TEnv → Prop} {ix vs : List Nat} {we : WO} (hgc : ∀ d ρ P, g' d ρ P → C ρ ∧ g d ρ P) (hix : ∀ j ∈ ix, j ∈ vs) {σ : L2.St} {Q : VK} {ds : List D} {ρ1 : TEnv} {F1 H1 : Hp} {J : It} {P : O → TEnv → Prop} {R : List O → TEnv → Prop}
    (s1 : SR K ρ1 σ F1 H1) (ok : ItG K J F1 H1 ds C) (hR : ∀ os ρ2, R os ρ2 → C ρ2 ∧ ∀ a, P (.lst a os) (resE ρ1 vs ρ2)) (p : wLcL g' wt we vs ds (wipeE ρ1 vs) [] R)
    (k : ∀ o ρ' F' H' v, P o ρ' → SR K (some o :: ρ') (some v :: σ) F' H' → Frm (ownedE ρ1) F1 H1 (ownedE (some o :: ρ')) F' H' → Q v H') :
    tLc (fun _ H R => R J H) (liftG K ix g) (liftT K wt) (liftO K we) vs σ H1 Q := by
  intro D hD
  obtain ⟨sl, fl⟩ := Res.lst (xs := []) (ds := []) hD (Nat.zero_le _) .nil _ _ s1
  have sl : SR K (some (.lst D []) :: ρ1) (some (.ref D) :: σ) F1 (upd H1 D (.lst [])) := sl
  have fl : Frm (ownedE ρ1) F1 H1 (ownedE (some (.lst D []) :: ρ1)) F1 (upd H1 D (.lst [])) := fl
  have sw : SR K (some (.lst D []) :: wipeE ρ1 vs) (some (.ref D) :: L2.wipe σ vs) F1 (upd H1 D (.lst [])) ∧ ∀ b, b ∈ ownedE (some (.lst D []) :: wipeE ρ1 vs) → b ∈ ownedE (some (.lst D []) :: ρ1) := by
    obtain ⟨s2, m2⟩ := sl.pop.wipe vs
    have n := List.nodup_append.mp sl.nd
    refine ⟨s2.push sl.top (fun a ha => sl.own a (List.mem_append_left _ ha)) (List.nodup_append.mpr ⟨n.1, s2.nd, fun a ha b hb => n.2.2 a ha b (m2 b hb)⟩), fun b hb => ?_⟩
    rcases List.mem_append.mp hb with h | h
    · exact List.mem_append_left _ h
    · exact List.mem_append_right _ (m2 b h)
  refine ⟨fun i m H' => m = ds.length - i ∧ i ≤ ds.length ∧ ∃ ρ' F' acc, SR K (some (.lst D acc) :: ρ') (some (.ref D) :: L2.wipe σ vs) F' H' ∧ Frm (ownedE ρ1) F1 H1 (ownedE (some (.lst D acc) :: ρ')) F' H' ∧ acc.length ≤ i ∧
    wLcL g' wt we vs (ds.drop i) ρ' acc R, ⟨_, rfl, Nat.zero_le _, wipeE ρ1 vs, F1, [], sw.1, fl.less sw.2, Nat.le_refl _, p⟩, ?_⟩
  rintro i m H' ⟨rfl, hi, ρ', F', acc, s', f', la, p'⟩
  by_cases hlt : i < ds.length
  · rw [List.drop_eq_getElem_cons hlt] at p'
    have cg := hgc _ _ _ p'
    refine .inr ⟨ok.go i H' F' _ _ hlt f'.fz s'.pop f'.lk cg.1, fun H2 => ∃ ρ2 F2 acc2, SR K (some (.lst D acc2) :: ρ2) (some (.ref D) :: L2.wipe σ vs) F2 H2 ∧ Frm (ownedE ρ1) F1 H1 (ownedE (some (.lst D acc2) :: ρ2)) F2 H2 ∧ acc2.length ≤ i + 1 ∧
      wLcL g' wt we vs (ds.drop (i + 1)) ρ2 acc2 R, fun H2 ⟨ρ2, F2, acc2, s2, f2, l2, p2⟩ => ⟨_, by omega, rfl, hlt, ρ2, F2, acc2, s2, f2, l2, p2⟩, fun x H2 hy => ?_⟩
    obtain ⟨d, F2, hd, r, gr, sb2⟩ := ok.yld i H' F' _ _ x H2 hlt f'.fz s'.pop f'.lk cg.1 hy
    rw [List.getElem?_eq_getElem hlt] at hd
    have e : ds[i] = d := Option.some.inj hd
    rw [e] at cg
    have s2 := s'.grow gr sb2
    have f2 : Frm (ownedE ρ1) F1 H1 (ownedE (some (.lst D acc) :: ρ')) F2 H2 := f'.trans (.ofGrow gr)
    refine ⟨ρ', F2, d, _, s2.pop, r, cg.2, fun ρ3 σ3 p3 s3 t3 => ?_⟩
    have hw3 : L2.wipe σ3 vs = L2.wipe σ vs := by
      rw [wipe_cong (fun j hj => t3.at_ j fun z => hj (hix j z)) t3.len]
      exact wipe_cong (fun j hj => wipe_at hj) (wipe_length _ _)
    -- the list over the target's store
    have n := List.nodup_append.mp s2.nd
    have s4 : SR K (some (.lst D acc) :: ρ3) (some (.ref D) :: σ3) F2 H2 := s3.push s2.top (fun a ha => s2.own a (List.mem_append_left _ ha)) (List.nodup_append.mpr ⟨n.1, s3.nd, fun a ha b hb => n.2.2 a ha b (t3.mem b hb)⟩)
    have f4 : Frm (ownedE ρ1) F1 H1 (ownedE (some (.lst D acc) :: ρ3)) F2 H2 := f2.less fun b hb => by
      rcases List.mem_append.mp hb with h | h
      · exact List.mem_append_left _ h
      · exact List.mem_append_right _ (t3.mem b h)
    refine ⟨hw3, ρ3, F2, _, s3, p3, fun b ρ4 F4 H4 p4 s5 f5 => ?_⟩
    obtain ⟨s6, f6⟩ := s4.frame s5 f5
    -- what is left of the slots
    have fin : ∀ {ρ7 : TEnv} {F7 H7 : Hp} {acc' : List O}, SR K (some (.lst D acc') :: ρ7) (some (.ref D) :: σ3) F7 H7 → SR K (some (.lst D acc') :: wipeE ρ7 vs) (some (.ref D) :: L2.wipe σ vs) F7 H7 ∧ ∀ b, b ∈ ownedE (some (.lst D acc') :: wipeE ρ7 vs) → b ∈ ownedE (some (.lst D acc') :: ρ7) := fun {ρ7 F7 H7 acc'} q => by
      obtain ⟨s8, m8⟩ := q.pop.wipe vs
      rw [hw3] at s8
      have n := List.nodup_append.mp q.nd
      refine ⟨s8.push q.top (fun a ha => q.own a (List.mem_append_left _ ha)) (List.nodup_append.mpr ⟨n.1, s8.nd, fun a ha b hb => n.2.2 a ha b (m8 b hb)⟩), fun b hb => ?_⟩
      rcases List.mem_append.mp hb with h | h
      · exact List.mem_append_left _ h
      · exact List.mem_append_right _ (m8 b h)
    cases b with
    | false =>
      have p4 : wLcL g' wt we vs (ds.drop (i + 1)) (wipeE ρ4 vs) acc R := by simpa [br] using p4
      rw [if_neg Bool.false_ne_true]
      obtain ⟨s8, m8⟩ := fin s6
      exact ⟨_, _, _, s8, (f4.trans f6).less m8, by omega, p4⟩
    | true =>
      have p4 := p4.1 rfl
      rw [if_pos rfl]
      refine ⟨ρ4, F4, _, s5, p4, fun o ρ5 F5 H5 y p5 s7 f7 => ?_⟩
      -- the new item above the list
      have base : SR K (some o :: some (.lst D acc) :: ρ5) (some y :: some (.ref D) :: σ3) F5 H5 ∧ Frm (ownedE (some (.lst D acc) :: ρ4)) F4 H4 (ownedE (some o :: some (.lst D acc) :: ρ5)) F5 H5 := by
        obtain ⟨s8, f8⟩ := s6.frame s7 f7
        have n8 := List.nodup_append.mp s8.nd
        have n9 : o.owned.Nodup ∧ (ownedE ρ5).Nodup ∧ ∀ a ∈ o.owned, ∀ b ∈ ownedE ρ5, a ≠ b := List.nodup_append.mp n8.2.1
        have q : SR K (some (.lst D acc) :: ρ5) (some (.ref D) :: σ3) F5 H5 := s7.pop.push s8.top (fun a ha => s8.own a (List.mem_append_left _ ha)) (List.nodup_append.mpr ⟨n8.1, n9.2.1, fun a ha b hb => n8.2.2 a ha b (List.mem_append_right _ hb)⟩)
        refine ⟨q.push s7.top (fun a ha => s7.own a (List.mem_append_left _ ha)) (List.nodup_append.mpr ⟨n9.1, q.nd, fun a ha b hb e => ?_⟩), f8.less fun b hb => ?_⟩
        · subst e
          rcases List.mem_append.mp hb with h | h
          · exact n8.2.2 a h a (List.mem_append_left _ ha) rfl
          · exact n9.2.2 a ha a h rfl
        · rcases List.mem_append.mp hb with h | h
          · exact List.mem_append_right _ (List.mem_append_left _ h)
          · rcases List.mem_append.mp h with h | h
            · exact List.mem_append_left _ h
            · exact List.mem_append_right _ (List.mem_append_right _ h)
      obtain ⟨b1, b2⟩ := base
      have q := b1.pop.top
      cases q with
      | @lst _ xs _ hx z r =>
      have lz : acc.length < sizeLine := Nat.lt_of_le_of_lt la (Nat.lt_of_lt_of_le hlt ok.sz)
      obtain ⟨s9, f9⟩ := b1.snoc hx lz
      obtain ⟨s10, m10⟩ := fin s9
      exact ⟨xs, hx, by rw [r.length]; exact lz, _, _, _, s10, (((f4.trans f6).trans b2).trans f9).less m10, by rw [List.length_append]; exact Nat.succ_le_succ la, p5⟩
  · have e : i = ds.length := by omega
    subst e
    rw [List.drop_length] at p'
    have pr := hR _ _ p'
    refine .inl ⟨ok.stop H' F' _ _ f'.fz s'.pop f'.lk pr.1, ?_⟩
    have sa : SR K (some (.lst D acc) :: ρ') (some (.ref D) :: σ) F' H' := s'.weak (fun j v e => by
      cases j with
      | zero => exact e
      | succ j => exact (wipe_some (vs := vs) (show (L2.wipe σ vs)[j]? = some (some v) from e)).1) (by rw [List.length_cons, List.length_cons, wipe_length])
    obtain ⟨sr, mr⟩ := SR.res s1 f'.fz sa.pop vs
    have n := List.nodup_append.mp sa.nd
    have sb : SR K (some (.lst D acc) :: resE ρ1 vs ρ') (some (.ref D) :: σ) F' H' := sr.push sa.top (fun a ha => sa.own a (List.mem_append_left _ ha)) (List.nodup_append.mpr ⟨n.1, sr.nd, fun a ha b hb => n.2.2 a ha b (mr b hb)⟩)
    exact k _ _ _ _ _ (pr.2 D) sb (f'.less fun b hb => by
      rcases List.mem_append.mp hb with h | h
      · exact List.mem_append_left _ h
      · exact List.mem_append_right _ (mr b h))
theorem tLc_of {K : PySem.W.Frag} {wi : WL} {g : WG} {ix vs : List Nat} {we : WO} (hix : ∀ j ∈ ix, j ∈ vs) {σ : L2.St} {H : Hp} {Q : VK} (h : liftO K (wLc wi g wt we vs) σ H Q) :
    tLc (liftI K wi) (liftG K ix g) (liftT K wt) (liftO K we) vs σ H Q := by
  obtain ⟨ρ, F, P, s, hw, k⟩ := h
  refine ⟨ρ, F, _, s, hw, fun ds ρ1 F1 H1 J p s1 f1 ok => ?_⟩
  rw [wipeC_eq] at p
  simp only [resC_eq] at p
  exact tLc_core (C := fun _ => True) (fun d ρ P h => ⟨trivial, h⟩) hix s1 ok.g (fun os ρ2 h => ⟨trivial, h⟩) p fun o ρ' F' H' v po so fo => k o ρ' F' H' v po so (f1.trans fo)
/-- the target, while a held thing stays as it is -/
def gChk (i : Nat) (o : O) (g : WG) : WG := fun d ρ P => nth ρ i = some o ∧ g d ρ P
/-- a comprehension over a name's held list of data: it stays held -/
def wLcH (i : Nat) (g : WG) (wt : WT) (we : WO) (own : List Nat) : WO := fun ρ P => match nth ρ i with
  | some (.lst a os) => ∃ us : List D, os = us.map .fz ∧ wipeC ρ own fun ρ' => wLcL (gChk i (.lst a os) g) wt we own us ρ' [] fun acc ρ2 => nth ρ2 i = some (.lst a os) ∧ ∀ b, resC ρ own ρ2 (P (.lst b acc))
  | some (.fz d) => match d.walk with
    | some ds => wipeC ρ own fun ρ' => wLcL g wt we own ds ρ' [] fun acc ρ2 => ∀ b, resC ρ own ρ2 (P (.lst b acc))
    | none => False
  | _ => False
theorem RepOL.data {K : PySem.W.Frag} {F H : Hp} : ∀ {us : List D} {vs : List V}, RepOL K F H vs (us.map .fz) → RepL K F vs us
  | [], _, .nil => .nil
  | _ :: us, _, .cons (.fz h) r => .cons h (RepOL.data (us := us) r)
/-- a walk of a held list -/
def tWalkH (K : PySem.W.Frag) (i : Nat) : TI := fun σ H R => ∃ ρ F a us, SR K ρ σ F H ∧ nth ρ i = some (.lst a (us.map .fz)) ∧ (∀ J, ItG K J F H us (fun ρ => nth ρ i = some (.lst a (us.map .fz))) → R J H)
theorem pi_walkH {tg e : Expr} {i : Nat} (h : PE X e (tVar i)) : PI X tg e (tWalkH X.K i) := PI.imp (pi_any h) fun σ H R ⟨ρ, F, a, us, s, hn, k⟩ => by
  obtain ⟨v, hv, r⟩ := s.slot i _ (nth_eq hn)
  cases r with
  | @lst _ xs _ hx z rl =>
  have get : ∀ {ρ2 : TEnv} {σ2 : L2.St} {F2 H2 : Hp}, SR X.K ρ2 σ2 F2 H2 → nth ρ2 i = some (.lst a (us.map .fz)) → ∃ ys, H2 a = some (.lst ys) ∧ RepL X.K F2 ys us := fun s2 n2 => by
    obtain ⟨v2, _, r2⟩ := s2.slot i _ (nth_eq n2)
    cases r2 with
    | lst h2 _ rl2 => exact ⟨_, h2, rl2.data⟩
  rw [List.length_map] at z
  refine ⟨_, hv, .inl ⟨a, xs, rfl, .inl (.inl hx), k _ ⟨z, fun j H1 F1 ρ1 σ1 hj su s1 _ n1 => ?_, fun H1 F1 ρ1 σ1 su s1 _ n1 => ?_, fun j H1 F1 ρ1 σ1 x H2 hj su s1 _ n1 y => ?_⟩⟩⟩
  · obtain ⟨ys, hy, ry⟩ := get s1 n1
    obtain ⟨x, hx⟩ := getElem_of (l := ys) (by rw [ry.length]; exact hj)
    exact ⟨ys, x, .inl (.inl hy), hx⟩
  · obtain ⟨ys, hy, ry⟩ := get s1 n1
    exact ⟨ys, .inl (.inl hy), by rw [ry.length]; exact Nat.le_refl _⟩
  · obtain ⟨ys, hy, ry⟩ := get s1 n1
    obtain ⟨rfl, y⟩ := y
    obtain ⟨u, hu, ru⟩ := ry.get' (y ys (.inl (.inl hy)))
    exact ⟨u, F1, hu, ru, .refl, s1.sub⟩
theorem tLc_ofH {K : PySem.W.Frag} {i : Nat} {g : WG} {ix vs : List Nat} {we : WO} (hix : ∀ j ∈ ix, j ∈ vs) {σ : L2.St} {H : Hp} {Q : VK} (h : liftO K (wLcH i g wt we vs) σ H Q) :
    tLc (fun σ H R => tWalkH K i σ H R ∨ liftI K (wWalk (wVar i)) σ H R) (liftG K ix g) (liftT K wt) (liftO K we) vs σ H Q := by
  obtain ⟨ρ, F, P, s, hw, k⟩ := h
  unfold wLcH at hw
  cases hn : nth ρ i with
  | none => rw [hn] at hw; exact hw.elim
  | some o =>
  rw [hn] at hw
  cases o <;> first
    | (exact hw.elim)
    | skip
  · rename_i d
    have hw : (match d.walk with
      | some ds => wipeC ρ vs fun ρ' => wLcL g wt we vs ds ρ' [] fun acc ρ2 => ∀ b, resC ρ vs ρ2 (P (.lst b acc))
      | none => False) := hw
    cases hd : d.walk with
    | none => rw [hd] at hw; exact hw.elim
    | some ds =>
    rw [hd] at hw
    refine .inr (tLc_of (wi := wWalk (wVar i)) hix (Q := Q) ⟨ρ, F, P, s, ?_, k⟩)
    unfold wLc wWalk wVar
    rw [hn]
    show (match d.walk with
      | some ds => wipeC ρ vs fun ρ' => wLcL g wt we vs ds ρ' [] fun acc ρ2 => ∀ b, resC ρ vs ρ2 (P (.lst b acc))
      | none => False)
    rw [hd]
    exact hw
  · rename_i a os
    obtain ⟨us, rfl, p⟩ := hw
    refine .inl ⟨ρ, F, a, us, s, hn, fun J ok => ?_⟩
    rw [wipeC_eq] at p
    simp only [resC_eq] at p
    exact tLc_core (fun d ρ P h => h) hix s ok (fun os ρ2 h => h) p k
end
section
variable {X : Cx} {elt tg iter : Expr} {ifs : List Expr} {scope : Scope} {own : List (Str × Nat)} {pos : Pos} {wi : WL} {g : WG} {ix : List Nat} {wt : WT} {we : WO}
theorem xo_lc (hc : X.calm = true) (hN : X.N.Nodup) (hi : XI X tg iter wi) (ok : BlkOk X.N X.env.scope scope own)
    (hg : ∀ (s : Shared) (H : Hp) (C : Addr) (cl : List (Str × Addr)) (fp : List Addr), XG (X.blk s H scope (compEnvC scope cl C X.env) fp) tg ix g) (ht : ∀ (s : Shared) (H : Hp) (C : Addr) (cl : List (Str × Addr)) (fp : List Addr), XTs (X.blk s H scope (compEnvC scope cl C X.env) fp) ifs wt)
    (he : ∀ (s : Shared) (H : Hp) (C : Addr) (cl : List (Str × Addr)) (fp : List Addr), XO (X.blk s H scope (compEnvC scope cl C X.env) fp) elt we) (hix : ∀ j ∈ ix, j ∈ own.map (·.2)) (hs : ∀ x, foldedSetIterable iter X.env x = pure x := by intro _; rfl) :
    XO X (.ListComp elt [⟨tg, iter, ifs, 0⟩] scope pos) (wLc wi g wt we (own.map (·.2))) :=
  ⟨PE.imp (pe_lc hc hN hi.pi ok (fun s H C cl fp => (hg s H C cl fp).pg) (fun s H C cl fp => (ht s H C cl fp).pt) (fun s H C cl fp => (he s H C cl fp).pe) hs) fun _ _ _ h => tLc_of hix h⟩
theorem xo_lcH {i : Nat} (hc : X.calm = true) (hN : X.N.Nodup) (hi : PE X iter (tVar i)) (ok : BlkOk X.N X.env.scope scope own)
    (hg : ∀ (s : Shared) (H : Hp) (C : Addr) (cl : List (Str × Addr)) (fp : List Addr), XG (X.blk s H scope (compEnvC scope cl C X.env) fp) tg ix g) (ht : ∀ (s : Shared) (H : Hp) (C : Addr) (cl : List (Str × Addr)) (fp : List Addr), XTs (X.blk s H scope (compEnvC scope cl C X.env) fp) ifs wt)
    (he : ∀ (s : Shared) (H : Hp) (C : Addr) (cl : List (Str × Addr)) (fp : List Addr), XO (X.blk s H scope (compEnvC scope cl C X.env) fp) elt we) (hix : ∀ j ∈ ix, j ∈ own.map (·.2)) (hs : ∀ x, foldedSetIterable iter X.env x = pure x := by intro _; rfl) :
    XO X (.ListComp elt [⟨tg, iter, ifs, 0⟩] scope pos) (wLcH i g wt we (own.map (·.2))) :=
  ⟨PE.imp (pe_lc hc hN (PI_or (pi_walkH hi) (xi_any (xe_pv hi)).pi) ok (fun s H C cl fp => (hg s H C cl fp).pg) (fun s H C cl fp => (ht s H C cl fp).pt) (fun s H C cl fp => (he s H C cl fp).pe) hs) fun _ _ _ h => tLc_ofH hix h⟩
/-- y = [.. for .. in x] on one row, x held -/
theorem xs_lcH {i j : Nat} {y : Str} {py spos : Pos} (hc : X.calm = true) (hN : X.N.Nodup) (hy : X.N[j]? = some y) (hyl : X.env.scope.names.lookup y = some .local)
    (hsw : swapsWith (.ListComp elt [⟨tg, iter, ifs, 0⟩] scope pos) (some (.Name y py)) spos.line X.env = pure true) (hi : PE X iter (tVar i)) (ok : BlkOk X.N X.env.scope scope own)
    (hg : ∀ (s : Shared) (H : Hp) (C : Addr) (cl : List (Str × Addr)) (fp : List Addr), XG (X.blk s H scope (compEnvC scope cl C X.env) fp) tg ix g) (ht : ∀ (s : Shared) (H : Hp) (C : Addr) (cl : List (Str × Addr)) (fp : List Addr), XTs (X.blk s H scope (compEnvC scope cl C X.env) fp) ifs wt)
    (he : ∀ (s : Shared) (H : Hp) (C : Addr) (cl : List (Str × Addr)) (fp : List Addr), XO (X.blk s H scope (compEnvC scope cl C X.env) fp) elt we) (hix : ∀ j ∈ ix, j ∈ own.map (·.2)) (hs : ∀ x, foldedSetIterable iter X.env x = pure x := by intro _; rfl) :
    XS X (.Assign [.Name y py] (.ListComp elt [⟨tg, iter, ifs, 0⟩] scope pos) spos) (wSet j (wLcH i g wt we (own.map (·.2)))) :=
  xs_set (ps_setLc hc hN hy hyl hsw (PI_or (pi_walkH hi) (xi_any (xe_pv hi)).pi) ok (fun s H C cl fp => (hg s H C cl fp).pg) (fun s H C cl fp => (ht s H C cl fp).pt) (fun s H C cl fp => (he s H C cl fp).pe) hs) fun _ _ _ h => tLc_ofH hix h
/-- y = [..] on one row -/
theorem xs_lc {i : Nat} {y : Str} {py spos : Pos} (hc : X.calm = true) (hN : X.N.Nodup) (hy : X.N[i]? = some y) (hyl : X.env.scope.names.lookup y = some .local)
    (hsw : swapsWith (.ListComp elt [⟨tg, iter, ifs, 0⟩] scope pos) (some (.Name y py)) spos.line X.env = pure true) (hi : XI X tg iter wi) (ok : BlkOk X.N X.env.scope scope own)
    (hg : ∀ (s : Shared) (H : Hp) (C : Addr) (cl : List (Str × Addr)) (fp : List Addr), XG (X.blk s H scope (compEnvC scope cl C X.env) fp) tg ix g) (ht : ∀ (s : Shared) (H : Hp) (C : Addr) (cl : List (Str × Addr)) (fp : List Addr), XTs (X.blk s H scope (compEnvC scope cl C X.env) fp) ifs wt)
    (he : ∀ (s : Shared) (H : Hp) (C : Addr) (cl : List (Str × Addr)) (fp : List Addr), XO (X.blk s H scope (compEnvC scope cl C X.env) fp) elt we) (hix : ∀ j ∈ ix, j ∈ own.map (·.2)) (hs : ∀ x, foldedSetIterable iter X.env x = pure x := by intro _; rfl) :
    XS X (.Assign [.Name y py] (.ListComp elt [⟨tg, iter, ifs, 0⟩] scope pos) spos) (wSet i (wLc wi g wt we (own.map (·.2)))) :=
  xs_set (ps_setLc hc hN hy hyl hsw hi.pi ok (fun s H C cl fp => (hg s H C cl fp).pg) (fun s H C cl fp => (ht s H C cl fp).pt) (fun s H C cl fp => (he s H C cl fp).pe) hs) fun _ _ _ h => tLc_of hix h
end

/-! ### defs -/
/-- the first address of a thing -/
def O.root : O → Option Addr
  | .fz _ => none
  | .lst a _ => some a
  | .dct a _ => some a
  | .dcT a _ => some a
  | .ins a _ _ _ => some a
/-- what the arguments are behind a def: data stays, a held thing stands at its name -/
def back : List O → TEnv → List O
  | [], _ => []
  | o :: os, ρ => (match o with
    | .fz d => .fz d
    | o => (nth ρ 0).getD (.fz .non)) :: back os ρ.tail
def roots : List O → List O → Prop
  | [], _ => True
  | .fz _ :: os, _ :: us => roots os us
  | o :: os, u :: us => u.root = o.root ∧ roots os us
  | _, _ => False
def start0 (n : Nat) (os : List O) : TEnv := os.map some ++ List.replicate (n - os.length) none
/-- a def's ends: the answer r, the arguments behind it -/
def endsOf (os : List O) (P : O → List O → Prop) : TEnds where
  nx := fun ρ => roots os (back os ρ) ∧ P (.fz .non) (back os ρ)
  rt := fun r ρ => roots os (back os ρ) ∧ P r (back os ρ)
section
variable {K : PySem.W.Frag} {F H F' H' : Hp}
theorem RepO.root {v v' : V} {o u : O} (r : RepO K F H v o) (r' : RepO K F' H' v' u) (h : u.root = o.root) (hn : o.root ≠ none) : v' = v := by
  cases r <;> cases r' <;> first
    | (exact absurd rfl hn)
    | (cases h; done)
    | (cases h; rfl)
theorem nth_tail : ∀ (ρ : TEnv) (i : Nat), nth ρ.tail i = nth ρ (i + 1)
  | [], _ => rfl
  | _ :: _, _ => rfl
/-- the arguments behind a def, as an environment -/
theorem SR.back : ∀ {os : List O} {vs : List V} {ρ0 : TEnv} {σ0 : L2.St}, SR K (os.map some) (vs.map some) F H → Sub F F' → SR K ρ0 σ0 F' H' → roots os (Tr.back os ρ0) →
    SR K ((Tr.back os ρ0).map some) (vs.map some) F' H' ∧ ∀ b ∈ ownedE ((Tr.back os ρ0).map some), b ∈ ownedE ρ0
  | [], [], ρ0, σ0, s, su, s0, _ => ⟨⟨s0.sub, rfl, fun _ _ e => (by cases e), fun _ h => (by cases h), List.nodup_nil⟩, fun _ h => (by cases h)⟩
  | o :: os, v :: vs, ρ0, σ0, s, su, s0, hr => by
    have tl : SR K ρ0.tail σ0.tail F' H' ∧ (∀ b ∈ ownedE ρ0.tail, b ∈ ownedE ρ0) := by
      cases ρ0 with
      | nil =>
        have e : σ0 = [] := List.length_eq_zero_iff.mp s0.len.symm
        subst e
        exact ⟨s0, fun _ h => h⟩
      | cons t r =>
        cases σ0 with
        | nil => cases s0.len
        | cons x y => exact ⟨s0.pop, fun b h => List.mem_append_right _ h⟩
    have data : ∀ d, o = .fz d → roots os (Tr.back os ρ0.tail) → SR K ((Tr.back (o :: os) ρ0).map some) ((v :: vs).map some) F' H' ∧ ∀ b ∈ ownedE ((Tr.back (o :: os) ρ0).map some), b ∈ ownedE ρ0 := fun d e hr => by
      subst e
      obtain ⟨s1, m1⟩ := SR.back (os := os) (vs := vs) s.pop su tl.1 hr
      exact ⟨s1.pushD (s.topD.mono su), fun b h => tl.2 b (m1 b h)⟩
    have held : (∀ d, o ≠ .fz d) → ((nth ρ0 0).getD (.fz .non)).root = o.root → o.root ≠ none → roots os (Tr.back os ρ0.tail) → Tr.back (o :: os) ρ0 = (nth ρ0 0).getD (.fz .non) :: Tr.back os ρ0.tail →
        SR K ((Tr.back (o :: os) ρ0).map some) ((v :: vs).map some) F' H' ∧ ∀ b ∈ ownedE ((Tr.back (o :: os) ρ0).map some), b ∈ ownedE ρ0 := fun nd hroot hn hr eb => by
      obtain ⟨s1, m1⟩ := SR.back (os := os) (vs := vs) s.pop su tl.1 hr
      cases ρ0 with
      | nil => exact absurd hroot.symm hn
      | cons t r =>
        cases σ0 with
        | nil => cases s0.len
        | cons x y =>
          cases t with
          | none => exact absurd hroot.symm hn
          | some u =>
            have hroot : u.root = o.root := hroot
            obtain ⟨w, hw, rw'⟩ := s0.slot 0 u rfl
            have e := RepO.root s.top rw' hroot hn
            subst e
            have n := List.nodup_append.mp s0.nd
            rw [eb]
            refine ⟨s1.push rw' (fun a ha => s0.own a (List.mem_append_left _ ha)) (List.nodup_append.mpr ⟨n.1, s1.nd, fun a ha b hb => n.2.2 a ha b (m1 b hb)⟩), fun b hb => ?_⟩
            rcases List.mem_append.mp hb with h | h
            · exact List.mem_append_left _ h
            · exact List.mem_append_right _ (m1 b h)
    cases o with
    | fz d => exact data d rfl hr
    | lst a us => exact held (fun _ h => nomatch h) hr.1 (fun h => nomatch h) hr.2 rfl
    | dct a us => exact held (fun _ h => nomatch h) hr.1 (fun h => nomatch h) hr.2 rfl
    | dcT a us => exact held (fun _ h => nomatch h) hr.1 (fun h => nomatch h) hr.2 rfl
    | ins a b c us => exact held (fun _ h => nomatch h) hr.1 (fun h => nomatch h) hr.2 rfl
  | [], v :: vs, ρ0, σ0, s, su, s0, hr => by cases s.len
  | o :: os, [], ρ0, σ0, s, su, s0, hr => by cases s.len
theorem SR.start {os : List O} {vs : List V} (s : SR K (os.map some) (vs.map some) F H) (m : Nat) : SR K (os.map some ++ List.replicate m none) (vs.map some ++ List.replicate m none) F H ∧ ownedE (os.map some ++ List.replicate m none) = ownedE (os.map some) := by
  have e0 : ∀ m, ownedE (List.replicate m none) = [] := by
    intro m
    induction m with
    | zero => rfl
    | succ m ih => exact ih
  have e : ownedE (os.map some ++ List.replicate m none) = ownedE (os.map some) := by
    rw [ownedE_os, e0, List.append_nil]
    have := ownedE_os os []
    rw [List.append_nil] at this
    rw [this]
    exact (List.append_nil _).symm
  have l : os.length = vs.length := by simpa using s.len
  refine ⟨⟨s.sub, by simp [l], fun i o h => ?_, by rw [e]; exact s.own, by rw [e]; exact s.nd⟩, e⟩
  by_cases q : i < os.length
  · rw [List.getElem?_append_left (by simpa using q)] at h
    rw [List.getElem?_append_left (by rw [List.length_map, ← l]; exact q)]
    exact s.slot i o h
  · rw [List.getElem?_append_right (by simpa using Nat.le_of_not_lt q), List.getElem?_replicate] at h
    split at h <;> cases h
end
section
variable {P : Program} {w : World} {K : PySem.W.Frag} {mg : Str → Option Value} {base : Heap}
/-- a def's body, at one entry -/
theorem tree_ex {qual : Str} {st : Stmt} {f : Addr} {N : List Str} {sp : SpT} {wb : WS} {cdv : Value} {A : Around} {outer : List Env} {s : Shared} {H : Hp} {E : XK} {vs : List V} {Q : VK}
    (body : XSs (cxOf CX0 P w K mg base N qual (defScope st) f cdv A outer s H E).nox (defBody st) wb) (does : ∀ os P, sp os P → wb (start0 N.length os) (endsOf os P)) (h : liftSp K sp vs H Q E) :
    ∃ t, PSs (cxOf CX0 P w K mg base N qual (defScope st) f cdv A outer s H E).nox (defBody st) t ∧ t { nx := fun _ H' => Q .non H', rt := Q } (L2.start N vs) H := by
  obtain ⟨os, F, Pp, sr, hsp, kk⟩ := h
  refine ⟨_, body.ps, ?_⟩
  have l : os.length = vs.length := by simpa using sr.len
  obtain ⟨s0, e0⟩ := sr.start (N.length - vs.length)
  have fin : ∀ {r : O} {ρ' : TEnv} {σ' : L2.St} {F' H' : Hp} {v : V}, roots os (Tr.back os ρ') ∧ Pp r (Tr.back os ρ') → SR K (some r :: ρ') (some v :: σ') F' H' → Frm (ownedE (os.map some)) F H (ownedE (some r :: ρ')) F' H' → Q v H' := fun {r ρ' σ' F' H' v} p s' f' => by
    obtain ⟨sb, mb⟩ := SR.back sr f'.fz s'.pop p.1
    have n := List.nodup_append.mp s'.nd
    refine kk r _ F' H' v p.2 (sb.push s'.top (fun a ha => s'.own a (List.mem_append_left _ ha)) (List.nodup_append.mpr ⟨n.1, sb.nd, fun a ha b hb => n.2.2 a ha b (mb b hb)⟩)) (f'.less fun b hb => ?_)
    rcases List.mem_append.mp hb with h | h
    · exact List.mem_append_left _ h
    · exact List.mem_append_right _ (mb b h)
  have e1 : start0 N.length os = os.map some ++ List.replicate (N.length - vs.length) none := by unfold start0; rw [l]
  refine ⟨start0 N.length os, F, endsOf os Pp, by rw [e1]; exact s0, does _ _ hsp, ⟨fun ρ' σ' F' H' p s' f' => ?_, fun o ρ' σ' F' H' v p s' f' => ?_, fun ρ' σ' F' H' p s' f' => p.elim, fun ρ' σ' F' H' p s' f' => p.elim⟩⟩
  · rw [e1, e0] at f'
    exact fin p (s'.pushD .non) f'
  · rw [e1, e0] at f'
    exact fin p s' f'
/-- THE RULE for a def: its body's reading, and that it does what is promised -/
theorem fn_tree {x qual : Str} {st : Stmt} {f : Addr} {fd : FuncData} {N ps : List Str} {k : Nat} {sp : SpT} {wb : WS} (Fn : Fun K x qual st f fd) (S : FnScope N ps (defScope st)) (len : ∀ os P, sp os P → os.length = ps.length)
    (body : ∀ (cdv : Value) (A : Around) (outer : List Env) (s : Shared) (H : Hp) (E : XK), Room k (A.deeper (envOfC qual (defScope st) s.heap.objs.size f cdv)) → XSs (cxOf CX0 P w K mg base N qual (defScope st) f cdv A outer s H E).nox (defBody st) wb)
    (does : ∀ os P, sp os P → wb (start0 N.length os) (endsOf os P)) : FnOk P w K mg base CX0 (k + 1) f fd ps (liftSp K sp) := by
  refine Fn.ok S (fun vs H Q E h => ?_) (fun cdv A outer s H vs Q E hr h => tree_ex (body cdv A outer s H E hr) does h)
  obtain ⟨os, F, Pp, sr, hsp, _⟩ := h
  have l := sr.len
  rw [List.length_map, List.length_map] at l
  rw [← l]
  exact len _ _ hsp
end
end Tr
/-! The tree layer: the module's own constants, keywords, things moved out and put back, the end of a law. -/
namespace Tr
open PySem PySem.Spec PyProof.Rows L2

section
variable {X : Cx} {x : Str} {pos : Pos} {i : Nat} {e : Expr}
theorem xe_globI {n : Int} (hg : Gl X x) (h : ∃ t, X.mg x = some (.int n t)) (hd : (x == ("__debug__" : Str)) = false := by decide) : XE X (.Name x pos) (wC (.int n)) := by
  obtain ⟨t, h⟩ := h
  exact xe_c (v := .int n) (pe_glob hg h ⟨t, rfl⟩ hd) fun _ _ => .int n
/-- the slot's thing handed on -/
def wMov (i : Nat) : WO := fun ρ P => match nth ρ i with
  | some o => putC ρ i none (P o)
  | none => False
theorem xo_mov (h : PE X e (tVar i)) : XO X e (wMov i) := ⟨PE.imp h fun σ H Q ⟨ρ, F, P, s, w, k⟩ => by
  unfold wMov at w
  cases hn : nth ρ i with
  | none => rw [hn] at w; exact w.elim
  | some o =>
    rw [hn] at w
    obtain ⟨v, hv, s', m⟩ := s.take (nth_eq hn)
    have w : putC ρ i none (P o) := w
    rw [putC_eq] at w
    exact ⟨v, hv, k _ _ _ _ _ w s' (Frm.refl.less fun b hb => (m b).mpr hb)⟩⟩
end

/-! ### a list's item moved out and put back -/
theorem ownedL_mv {o : O} {d : D} : ∀ {os : List O} {j : Nat}, os[j]? = some o → (O.ownedL os).Perm (o.owned ++ O.ownedL (os.set j (.fz d)))
  | [], _, h => by cases h
  | u :: os, 0, h => by cases h; exact List.Perm.refl _
  | u :: os, j + 1, h => by
    have ih := ownedL_mv (d := d) (os := os) (j := j) (by simpa using h)
    show (u.owned ++ O.ownedL os).Perm (o.owned ++ (u.owned ++ O.ownedL (os.set j (.fz d))))
    refine (List.Perm.append_left _ ih).trans ?_
    rw [← List.append_assoc, ← List.append_assoc]
    exact List.Perm.append_right _ List.perm_append_comm
theorem set_same {α : Type} : ∀ {xs : List α} {j : Nat} {y : α}, xs[j]? = some y → xs.set j y = xs
  | [], _, _, h => by cases h
  | x :: r, 0, _, h => by cases h; rfl
  | x :: r, j + 1, _, h => congrArg (x :: ·) (set_same (xs := r) (by simpa using h))
section
variable {K : PySem.W.Frag} {ρ : TEnv} {σ : L2.St} {F H : Hp} {i j k : Nat} {a b : Addr} {os xs : List O}
theorem SR.mvOut {y : V} (s : SR K ρ σ F H) (e : ρ[i]? = some (some (.lst a os))) (hj : os[j]? = some (.lst b xs)) :
    SR K (some (.lst b xs) :: ρ.set i (some (.lst a (os.set j (.fz (.al b)))))) (some (.ref b) :: σ) F H ∧ ∀ c, c ∈ ownedE (some (.lst b xs) :: ρ.set i (some (.lst a (os.set j (.fz (.al b)))))) → c ∈ ownedE ρ := by
  obtain ⟨v, hv, s1, m1⟩ := s.take e
  have q := s1.top
  cases q with
  | @lst _ vs _ h z r =>
  obtain ⟨w, hw, rw'⟩ := r.get hj
  have ew : w = .ref b := by cases rw'; rfl
  subst ew
  have n := List.nodup_append.mp s1.nd
  have pm := ownedL_mv (d := .al b) hj
  have n0 : (a :: O.ownedL os).Nodup := n.1
  have n1 := List.nodup_cons.mp n0
  have n2 := List.nodup_append.mp (pm.nodup_iff.mp n1.2)
  have rset : RepOL K F H vs (os.set j (.fz (.al b))) := by
    have := r.setAt (o := .fz (.al b)) (y := .ref b) (.fz (.al b)) j
    rwa [set_same hw] at this
  have mem : ∀ c, c ∈ O.ownedL (os.set j (.fz (.al b))) → c ∈ O.ownedL os := fun c hc => pm.mem_iff.mpr (List.mem_append_right _ hc)
  have memb : ∀ c, c ∈ (O.lst b xs).owned → c ∈ O.ownedL os := fun c hc => pm.mem_iff.mpr (List.mem_append_left _ hc)
  have s2 : SR K (some (.lst a (os.set j (.fz (.al b)))) :: ρ.set i none) (some (.ref a) :: σ) F H := s1.pop.push (.lst h (by rw [List.length_set]; exact z) rset) (fun c hc => by
      refine s1.own c (List.mem_append_left _ ?_)
      rcases List.mem_cons.mp hc with q | q
      · subst q; exact List.mem_cons_self
      · exact List.mem_cons_of_mem _ (mem c q)) (List.nodup_append.mpr ⟨List.nodup_cons.mpr ⟨fun z => n1.1 (mem a z), n2.2.1⟩, n.2.1, fun c hc d hd => n.2.2 c (by
      rcases List.mem_cons.mp hc with q | q
      · subst q; exact List.mem_cons_self
      · exact List.mem_cons_of_mem _ (mem c q)) d hd⟩)
  obtain ⟨s3, m3⟩ := s2.set (i := i) hv
  rw [List.set_set] at s3 m3
  have key : ∀ c, c ∈ ownedE (ρ.set i (some (.lst a (os.set j (.fz (.al b)))))) → c = a ∨ c ∈ O.ownedL (os.set j (.fz (.al b))) ∨ c ∈ ownedE (ρ.set i none) := fun c hc => by
    rcases List.mem_append.mp (m3 c hc) with q | q
    · rcases List.mem_cons.mp (show c ∈ a :: O.ownedL _ from q) with q | q
      · exact .inl q
      · exact .inr (.inl q)
    · exact .inr (.inr q)
  refine ⟨s3.push rw' (fun c hc => s1.own c (List.mem_append_left _ (List.mem_cons_of_mem _ (memb c hc)))) (List.nodup_append.mpr ⟨n2.1, s3.nd, fun c hc d hd e' => ?_⟩), fun c hc => ?_⟩
  · subst e'
    rcases key c hd with q | q | q
    · subst q; exact n1.1 (memb c hc)
    · exact n2.2.2 c hc c q rfl
    · exact n.2.2 c (List.mem_cons_of_mem _ (memb c hc)) c q rfl
  · refine (m1 c).mpr ?_
    rcases List.mem_append.mp hc with q | q
    · exact List.mem_append_left _ (List.mem_cons_of_mem _ (memb c q))
    · rcases key c q with q | q | q
      · subst q; exact List.mem_append_left _ List.mem_cons_self
      · exact List.mem_append_left _ (List.mem_cons_of_mem _ (mem c q))
      · exact List.mem_append_right _ q
theorem SR.join (s : SR K ρ σ F H) (ne : i ≠ k) (e : ρ[i]? = some (some (.lst a os))) (ek : ρ[k]? = some (some (.lst b xs))) (hj : os[j]? = some (.fz (.al b))) :
    SR K ((ρ.set k none).set i (some (.lst a (os.set j (.lst b xs))))) σ F H ∧ ∀ c, c ∈ ownedE ((ρ.set k none).set i (some (.lst a (os.set j (.lst b xs))))) → c ∈ ownedE ρ := by
  obtain ⟨v, hv, s1, m1⟩ := s.take ek
  have e1 : (ρ.set k none)[i]? = some (some (.lst a os)) := by rw [List.getElem?_set_ne (fun q => ne q.symm)]; exact e
  obtain ⟨hi, ⟨ys, hys⟩, s2, m2⟩ := s1.atSlot e1
  have q := s2.pop.top
  cases q with
  | @lst _ vs _ h z r =>
  obtain ⟨w, hw, rw'⟩ := r.get hj
  have ew : w = .ref b := by
    cases rw' with
    | fz q => cases q; rfl
  subst ew
  have qb := s2.top
  have ev : v = .ref b := by cases qb; rfl
  subst ev
  have rset : RepOL K F H vs (os.set j (.lst b xs)) := by
    have := r.setAt qb j
    rwa [set_same hw] at this
  have n := List.nodup_append.mp s2.nd
  have n2 := List.nodup_append.mp n.2.1
  have n20 : (a :: O.ownedL os).Nodup := n2.1
  have pm : (O.ownedL (os.set j (.lst b xs))).Perm ((O.lst b xs).owned ++ O.ownedL os) := by
    have hlt : j < os.length := by
      by_cases q : j < os.length
      · exact q
      · rw [List.getElem?_eq_none (Nat.le_of_not_lt q)] at hj; cases hj
    have := ownedL_mv (o := .lst b xs) (d := .al b) (os := os.set j (.lst b xs)) (j := j) (List.getElem?_set_self hlt)
    rw [List.set_set, set_same hj] at this
    exact this
  have mem : ∀ c, c ∈ (O.lst a (os.set j (.lst b xs))).owned → c = a ∨ c ∈ (O.lst b xs).owned ∨ c ∈ O.ownedL os := fun c hc => by
    rcases List.mem_cons.mp (show c ∈ a :: O.ownedL _ from hc) with q | q
    · exact .inl q
    · exact .inr (List.mem_append.mp (pm.mem_iff.mp q))
  have s3 : SR K (some (.lst a (os.set j (.lst b xs))) :: (ρ.set k none).set i none) (some (.ref a) :: σ) F H := s2.pop.pop.push (.lst h (by rw [List.length_set]; exact z) rset) (fun c hc => by
      rcases mem c hc with q | q | q
      · subst q; exact s2.own c (List.mem_append_right _ (List.mem_append_left _ List.mem_cons_self))
      · exact s2.own c (List.mem_append_left _ q)
      · exact s2.own c (List.mem_append_right _ (List.mem_append_left _ (List.mem_cons_of_mem _ q)))) (List.nodup_append.mpr ⟨?_, n2.2.1, fun c hc d hd e' => ?_⟩)
  · obtain ⟨s4, m4⟩ := s3.set (i := i) hi
    rw [List.set_set] at s4 m4
    refine ⟨s4, fun c hc => (m1 c).mpr ((m2 c).mp ?_)⟩
    rcases List.mem_append.mp (m4 c hc) with q | q
    · rcases mem c q with q | q | q
      · subst q; exact List.mem_append_right _ (List.mem_append_left _ List.mem_cons_self)
      · exact List.mem_append_left _ q
      · exact List.mem_append_right _ (List.mem_append_left _ (List.mem_cons_of_mem _ q))
    · exact List.mem_append_right _ (List.mem_append_right _ q)
  · refine List.nodup_cons.mpr ⟨fun q => ?_, pm.nodup_iff.mpr (List.nodup_append.mpr ⟨n.1, (List.nodup_cons.mp n20).2, fun c hc d hd => n.2.2 c hc d (List.mem_append_left _ (List.mem_cons_of_mem _ hd))⟩)⟩
    rcases List.mem_append.mp (pm.mem_iff.mp q) with q | q
    · exact n.2.2 a q a (List.mem_append_left _ List.mem_cons_self) rfl
    · exact (List.nodup_cons.mp n20).1 q
  · subst e'
    rcases mem c hc with q | q | q
    · subst q; exact n2.2.2 c List.mem_cons_self c hd rfl
    · exact n.2.2 c q c (List.mem_append_right _ hd) rfl
    · exact n2.2.2 c (List.mem_cons_of_mem _ q) c hd rfl
end
/-- the item at a place of slot i's list, moved out: a reference stays -/
def wMvIx (i : Nat) (wb : WD) : WO := fun ρ P => match nth ρ i with
  | some _ => wb ρ fun d ρ2 => match nth ρ2 i with
    | some (.lst a os) => ∃ n j b xs, d = .int n ∧ ixN os.length n = some j ∧ os[j]? = some (.lst b xs) ∧ putC ρ2 i (some (.lst a (os.set j (.fz (.al b))))) (P (.lst b xs))
    | _ => False
  | none => False
section
variable {X : Cx} {a b : Expr} {wb : WD} {pos : Pos} {i : Nat}
theorem xo_mvIx (ha : PE X a (tVar i)) (hb : XE X b wb) (hs : PlainIx b := by exact fun _ _ => rfl) : XO X (.Subscript a b pos) (wMvIx i wb) := ⟨PE.imp (pe_ix ix_seq ha hb.pe hs) fun σ H Q ⟨ρ, F, P, s, hw, k⟩ => by
  unfold wMvIx at hw
  cases hn0 : nth ρ i with
  | none => rw [hn0] at hw; exact hw.elim
  | some o0 =>
  rw [hn0] at hw
  obtain ⟨x, hx, _⟩ := s.slot i o0 (nth_eq hn0)
  refine ⟨x, hx, ρ, F, _, s, hw, fun e ρ2 F2 H2 u p2 s2 r2 f2 => ?_⟩
  cases hn : nth ρ2 i with
  | none => rw [hn] at p2; exact p2.elim
  | some o =>
    rw [hn] at p2
    obtain ⟨v, hv, ro⟩ := s2.slot i o (nth_eq hn)
    rw [hx] at hv
    cases hv
    cases o <;> first
      | (exact p2.elim)
      | skip
    rename_i a os
    obtain ⟨n, j, b, xs, e1, e2, e3, p3⟩ := p2
    subst e1
    cases r2
    cases ro with
    | lst h z r =>
      obtain ⟨s3, m3⟩ := SR.mvOut (y := .non) s2 (nth_eq hn) e3
      rw [putC_eq] at p3
      obtain ⟨w, hw', rw'⟩ := r.get e3
      have ew : w = .ref b := by cases rw'; rfl
      subst ew
      refine .inl ⟨_, _, _, .ref b, rfl, rfl, .inl (.inl h), ?_, k _ _ _ _ _ p3 s3 (f2.less m3)⟩
      unfold L2.atI
      rw [r.length, e2]
      exact hw'⟩
end
/-- slot k's list put back into its place in slot i -/
def joinP (i j k : Nat) (ρ : TEnv) (P : TEnv → Prop) : Prop := match nth ρ i, nth ρ k with
  | some (.lst a os), some (.lst b xs) => os[j]? = some (.fz (.al b)) ∧ putC ρ k none fun ρ' => putC ρ' i (some (.lst a (os.set j (.lst b xs)))) P
  | _, _ => P ρ
theorem SR.joinP {K : PySem.W.Frag} {ρ : TEnv} {σ : L2.St} {F H : Hp} {i j k : Nat} {P : TEnv → Prop} (ne : i ≠ k) (s : SR K ρ σ F H) (h : Tr.joinP i j k ρ P) : ∃ ρ', P ρ' ∧ SR K ρ' σ F H ∧ ∀ c, c ∈ ownedE ρ' → c ∈ ownedE ρ := by
  unfold Tr.joinP at h
  split at h
  · rename_i a os b xs h1 h2
    obtain ⟨s1, m1⟩ := s.join ne (nth_eq h1) (nth_eq h2) h.1
    have h := h.2
    rw [putC_eq, putC_eq] at h
    exact ⟨_, h, s1, m1⟩
  · exact ⟨ρ, h, s, fun _ h => h⟩
/-- .. at the ends of a body -/
def wJn (i j k : Nat) (w : WS) : WS := fun ρ E => w ρ { E with nx := fun ρ' => joinP i j k ρ' E.nx, rt := fun r ρ' => joinP i j k ρ' (E.rt r) }
theorem xss_jn {X : Cx} {b : List Stmt} {w : WS} (i j k : Nat) (h : XSs X b w) (ne : i ≠ k := by decide) : XSs X b (wJn i j k w) := ⟨PSs.imp h.ps fun D σ H ⟨ρ, F, E, s, hw, kk⟩ =>
  ⟨ρ, F, _, s, hw, ⟨fun ρ' σ' F' H' p s' f => by
    obtain ⟨ρ2, p2, s1, m1⟩ := s'.joinP ne p
    exact kk.nx _ _ _ _ p2 s1 (f.less m1), fun o ρ' σ' F' H' v p s' f => by
    obtain ⟨ρ2, p2, s1, m1⟩ := s'.pop.joinP ne p
    have n := List.nodup_append.mp s'.nd
    refine kk.rt _ _ _ _ _ _ p2 (s1.push s'.top (fun c hc => s'.own c (List.mem_append_left _ hc)) (List.nodup_append.mpr ⟨n.1, s1.nd, fun c hc d hd => n.2.2 c hc d (m1 d hd)⟩)) (f.less fun c hc => ?_)
    rcases List.mem_append.mp hc with q | q
    · exact List.mem_append_left _ q
    · exact List.mem_append_right _ (m1 c q), kk.bk, kk.ct⟩⟩⟩

/-! ### keywords -/
theorem kwb_mk {K : PySem.W.Frag} {x qual : Str} {st : Stmt} {f : Addr} {fd : FuncData} {ps ks : List Str} {m : Nat} {ix : List Nat} (Fn : Fun K x qual st f fd) (len : ix.length = ps.length) (lt : ∀ i ∈ ix, i < m + ks.length)
    (h : ∀ (kV doc pm : Value) (an : Option Addr) (cdv ct : Value) (us ws : List Value), us.length = m → ws.length = ks.length → bindArgs (PySem.W.fnOf x qual (defArgs st) (defBody st) (defScope st) .none kV doc pm an cdv ct) ⟨us, ks.zip ws⟩ = pure (ps.zip (pickL ix (us ++ ws)))) : KwB K fd ps ks m ix := by
  obtain ⟨oc, od, kV, doc, pm, an, cdv, ct, osl, rfl, lk, hcd⟩ := Fn.ex
  exact ⟨fun s us ws _ h1 h2 => .of_eq (h kV doc pm an cdv ct us ws h1 h2), len, lt⟩

/-! ### the law -/
structure lawSp (n : Nat) (os : List O) (P : O → List O → Prop) : Prop where
  ex : ∃ ns : List Int, ns.length ≤ n ∧ os = [.fz (.frl (ns.map .int))] ∧ P (.fz (.bl true)) os
theorem lawSp_len {n : Nat} : ∀ os P, lawSp n os P → os.length = 1 := fun os P ⟨_, _, e, _⟩ => by rw [e]; rfl
theorem repL_ints {K : PySem.W.Frag} {F : Hp} : ∀ ns : List Int, RepL K F (ns.map V.int) (ns.map D.int)
  | [] => .nil
  | n :: ns => .cons (.int n) (repL_ints ns)
theorem law_end {K : PySem.W.Frag} {H : Hp} {a : Addr} {n : Nat} {ns : List Int} (hn : n ≤ sizeLine) (hl : ns.length ≤ n) (hS : SqL K H a (ns.map V.int)) : liftSp K (lawSp n) [.ref a] H (fun v _ => v = .bl true) fun _ _ _ => False := by
  refine ⟨[.fz (.frl (ns.map .int))], H, fun o _ => o = .fz (.bl true), ?_, ⟨ns, hl, rfl, rfl⟩, fun o os' F' H' v p s' f => ?_⟩
  · have s0 : SR K [] [] H H := ⟨fun b o h => .inl h, rfl, fun i o e => (by cases e), fun a h => (by cases h), List.nodup_nil⟩
    exact s0.pushD (.frl hS (by rw [List.length_map]; exact Nat.le_trans hl hn) (repL_ints ns))
  · subst p
    have r := s'.top
    cases r with
    | fz r => cases r; rfl
end Tr
/-! What the laws share: the draws. -/
namespace Tr
open PySem PySem.Spec PyProof.Rows L2

local macro_rules | `(tactic| walk_at "tw") => `(tactic| ((conv => whnf); (repeat (refine wSeq.mk ?_; (conv => whnf)))))
local macro_rules | `(tactic| walk_at "tm") => `(tactic| (conv => whnf))

theorem cmul_small {i j : Int} (h1 : i.natAbs < 2 ^ 4000) (h2 : j.natAbs < 2 ^ 4000) : CMulW i j := by
  have b : ∀ n : Nat, n < 2 ^ 4000 → n.log2 < 400000 := fun n h => by
    by_cases z : n = 0
    · subst z; decide
    · exact Nat.lt_of_lt_of_le ((Nat.log2_lt z).mpr h) (by decide)
  have h3 := b _ h1
  have h4 := b _ h2
  unfold CMulW
  omega
theorem big64 : (2 : Nat) ^ 64 ≤ 2 ^ 4000 := Nat.pow_le_pow_right (by decide) (by decide)
theorem cmul64 {i j : Int} (h1 : -(2 ^ 64) < i) (h2 : i < 2 ^ 64) (h3 : -(2 ^ 64) < j) (h4 : j < 2 ^ 64) : CMulW i j :=
  cmul_small (Nat.lt_of_lt_of_le (by omega) big64) (Nat.lt_of_lt_of_le (by omega) big64)
theorem cdiv64 {i j : Int} (h3 : 0 < j) (h4 : j < 2 ^ 64) : CDivW i j := by
  refine ⟨h3, ?_⟩
  have : j.natAbs ≠ 0 := by omega
  exact Nat.lt_of_lt_of_le ((Nat.log2_lt this).mpr (show j.natAbs < 2 ^ 64 by omega)) (by decide)
theorem ixN_in {n : Nat} {i : Int} (h0 : 0 ≤ i) (h1 : i < n) : ixN n i = some i.toNat := by
  unfold ixN
  rw [if_pos h0, if_pos h1]
theorem atI_in {α : Type} {xs : List α} {i : Int} (h0 : 0 ≤ i) (h1 : i < xs.length) : atI xs i = some (xs[i.toNat]'(by omega)) := by
  unfold atI
  rw [ixN_in h0 h1]
  exact List.getElem?_eq_getElem (by omega)

theorem frzL_ints : ∀ ns : List Int, O.frzL (ns.map fun n => .fz (.int n)) = ns.map .int
  | [] => rfl
  | n :: ns => congrArg (D.int n :: ·) (frzL_ints ns)
theorem atI_map {α β : Type} (f : α → β) {xs : List α} {i : Int} (h0 : 0 ≤ i) (h1 : i < xs.length) : atI (xs.map f) i = some (f (xs[i.toNat]'(by omega))) := by
  rw [atI_in h0 (by rw [List.length_map]; exact h1), List.getElem_map]
/-- the state of the draws: what its list holds -/
def DS (xs : List O) : Prop := ∃ c ns at_ mix, xs = [.lst c (ns.map fun n => .fz (.int n)), .fz (.int at_), .fz (.int mix)] ∧ ns ≠ [] ∧ (∀ n ∈ ns, (0 : Int) ≤ n) ∧ (0 : Int) ≤ at_ ∧ (0 : Int) ≤ mix ∧ mix < 2 ^ 31
structure spDraw (os : List O) (P : O → List O → Prop) : Prop where
  ex : ∃ a xs many, os = [.lst a xs, .fz (.int many)] ∧ DS xs ∧ 0 < many ∧ many < 2 ^ 62 ∧ ∀ k ys, 0 ≤ k → k < many → DS ys → P (.fz (.int k)) [.lst a ys, .fz (.int many)]
theorem spDraw_len : ∀ os P, spDraw os P → os.length = 2 := fun os P ⟨_, _, _, e, _⟩ => by rw [e]; rfl
def wDraw : WS :=
  (wJn 0 0 2 (wSeq (wSet 2 (wMvIx 0 (wC (.int 0))))
    (wSeq (wSet 3 (wBin semMod (wIxL 0 (wC (.int 1))) (wC1 semLen (wLook 2))))
    (wSeq (wSet 4 (wFz (wIxL 2 (wVar 3))))
    (wSeq (wIfS (wTst (wCmpL semGe 4 (wC (.int 1000000000000000000)))) (wSeq (wSetIx 2 (wVar 3) (wBin semDiv (wVar 4) (wVar 1)))
    (wRet (wBin semMod (wVar 4) (wVar 1)))) wSkip)
    (wSeq (wSetIx 0 (wC (.int 1)) (wBin semAdd (wIxL 0 (wC (.int 1))) (wC (.int 1))))
    (wSeq (wSetIx 0 (wC (.int 2)) (wBin semMod (wFrz (wBin semAdd (wFrz (wBin semAdd (wFrz (wBin semMul (wIxL 0 (wC (.int 2))) (wC (.int 48271)))) (wVar 4))) (wC (.int 12345)))) (wC (.int 2147483647))))
    (wRet (wBin semMod (wFrz (wBin semDiv (wFrz (wBin semMod (wFrz (wBin semMul (wIxL 0 (wC (.int 2))) (wIxL 0 (wC (.int 2))))) (wC (.int 2147483629)))) (wC (.int 16)))) (wVar 1))))))))))
theorem wDraw_does : ∀ os P, spDraw os P → wDraw (start0 5 os) (endsOf os P) := by
  rintro os P ⟨a, xs, many, rfl, ⟨c, ns, at_, mix, rfl, hne, hns, hat, hm0, hm1⟩, hp, hp2, k⟩
  have hl : 0 < ns.length := List.length_pos_iff.mpr hne
  walk_at "tw"
  refine ⟨_, _, _, _, rfl, rfl, rfl, ?_⟩
  walk_at "tw"
  refine ⟨_, _, rfl, rfl, ?_⟩
  walk_at "tw"
  refine ⟨ns.map .int, congrArg some (frzL_ints ns), ?_⟩
  walk_at "tw"
  have hl' : (0 : Int) < ((ns.map D.int).length : Int) := by rw [List.length_map]; omega
  refine ⟨hl', ?_⟩
  generalize hat2 : at_ % ((ns.map D.int).length : Int) = at2
  have h20 : 0 ≤ at2 := hat2 ▸ Int.emod_nonneg _ (by omega)
  have h21 : at2 < (ns.length : Int) := by
    have := Int.emod_lt_of_pos at_ hl'
    rw [hat2, List.length_map] at this
    exact this
  walk_at "tw"
  refine ⟨at2, _, rfl, atI_map _ h20 h21, ?_⟩
  have hc : 0 ≤ ns[at2.toNat]'(by omega) := hns _ (List.getElem_mem _)
  generalize ns[at2.toNat]'(by omega) = cell at hc ⊢
  walk_at "tw"
  refine ⟨fun _ => ?_, fun hs => ?_⟩
  · -- a large cell
    have hj : at2.toNat < ns.length := by omega
    refine ⟨cdiv64 hp (by omega), at2, at2.toNat, rfl, ?_, ?_⟩
    · rw [List.length_map]; exact ixN_in h20 h21
    walk_at "tw"
    refine ⟨hp, rfl, ⟨rfl, trivial⟩, ?_⟩
    refine k _ _ (Int.emod_nonneg _ (by omega)) (Int.emod_lt_of_pos _ hp) ⟨c, ns.set at2.toNat (cell / many), at_, mix, ?_, ?_, ?_, hat, hm0, hm1⟩
    · rw [List.map_set]
      rfl
    · intro e
      have := congrArg List.length e
      rw [List.length_set] at this
      exact absurd this (by simp; omega)
    · intro n hn
      rcases List.mem_or_eq_of_mem_set hn with h | h
      · exact hns n h
      · subst h; exact Int.ediv_nonneg hc (by omega)
  · have hs' : cell < 1000000000000000000 := by simpa using hs
    walk_at "tw"
    refine ⟨1, _, rfl, rfl, ?_⟩
    walk_at "tw"
    refine ⟨_, _, rfl, rfl, ?_⟩
    walk_at "tw"
    refine ⟨2, _, rfl, rfl, ?_⟩
    walk_at "tw"
    refine ⟨cmul64 (by omega) (by omega) (by decide) (by decide), ?_⟩
    walk_at "tw"
    refine ⟨by decide, ?_⟩
    generalize hm2 : (mix * 48271 + cell + 12345) % 2147483647 = mix2
    have h0 : 0 ≤ mix2 := hm2 ▸ Int.emod_nonneg _ (by decide)
    have h1 : mix2 < 2 ^ 31 := by
      have := Int.emod_lt_of_pos (mix * 48271 + cell + 12345) (show (0 : Int) < 2147483647 by decide)
      omega
    walk_at "tw"
    refine ⟨_, _, rfl, rfl, ?_⟩
    walk_at "tw"
    refine ⟨2, _, rfl, rfl, ?_⟩
    walk_at "tw"
    refine ⟨2, _, rfl, rfl, ?_⟩
    walk_at "tw"
    refine ⟨cmul64 (by omega) (by omega) (by omega) (by omega), ?_⟩
    walk_at "tw"
    refine ⟨by decide, ?_⟩
    walk_at "tw"
    refine ⟨cdiv64 (by decide) (by decide), ?_⟩
    walk_at "tw"
    refine ⟨hp, rfl, ⟨rfl, trivial⟩, ?_⟩
    exact k _ _ (Int.emod_nonneg _ (by omega)) (Int.emod_lt_of_pos _ hp) ⟨c, ns, at_ + 1, mix2, rfl, hne, hns, by omega, h0, h1⟩
theorem draw_i {a : Addr} {xs : List O} {many : Int} {P : O → List O → Prop} (h : DS xs) (h1 : 0 < many) (h2 : many < 2 ^ 62) (k : ∀ k ys, 0 ≤ k → k < many → DS ys → P (.fz (.int k)) [.lst a ys, .fz (.int many)]) : spDraw [.lst a xs, .fz (.int many)] P := ⟨a, xs, many, rfl, h, h1, h2, k⟩

/-! ### loops by what holds -/
theorem lc_inv {g : WG} {wt : WT} {we : WO} {own : List Nat} {P : List O → TEnv → Prop} (ds : List D) (I : List D → TEnv → List O → Prop)
    (step : ∀ pre d post ρ acc, ds = pre ++ d :: post → I pre ρ acc → ∀ (A : O → TEnv → Prop) (B : TEnv → Prop), (∀ o ρ', I (pre ++ [d]) ρ' (acc ++ [o]) → A o ρ') → (∀ ρ', I (pre ++ [d]) ρ' acc → B ρ') →
      g d ρ fun ρ1 => wt ρ1 fun b ρ2 => br b (we ρ2 fun o ρ3 => A o (wipeE ρ3 own)) (B (wipeE ρ2 own)))
    (fin : ∀ ρ acc, I ds ρ acc → P acc ρ) : ∀ (post pre : List D) ρ acc, ds = pre ++ post → I pre ρ acc → wLcL g wt we own post ρ acc P
  | [], pre, ρ, acc, e, h => by
    rw [List.append_nil] at e
    subst e
    exact fin _ _ h
  | d :: post, pre, ρ, acc, e, h => by
    have e2 : ds = (pre ++ [d]) ++ post := by rw [e, List.append_assoc]; rfl
    exact step pre d post ρ acc e h (fun o ρ' => wLcL g wt we own post ρ' (acc ++ [o]) P) (fun ρ' => wLcL g wt we own post ρ' acc P)
      (fun o ρ' h' => lc_inv ds I step fin post _ ρ' _ e2 h') (fun ρ' h' => lc_inv ds I step fin post _ ρ' _ e2 h')
/-- each item its answer, the names untouched -/
theorem lc_map {g : WG} {wt : WT} {we : WO} {own : List Nat} {P : List O → TEnv → Prop} {ρ : TEnv} (ds : List D) (f : D → Option O)
    (step : ∀ d ∈ ds, ∀ (A : O → TEnv → Prop) (B : TEnv → Prop), (∀ o, f d = some o → A o ρ) → (f d = none → B ρ) → g d ρ fun ρ1 => wt ρ1 fun b ρ2 => br b (we ρ2 fun o ρ3 => A o (wipeE ρ3 own)) (B (wipeE ρ2 own)))
    (fin : P (ds.filterMap f) ρ) : wLcL g wt we own ds ρ [] P := by
  refine lc_inv ds (fun pre ρ' acc => ρ' = ρ ∧ acc = pre.filterMap f) (fun pre d post ρ' acc e h A B hA hB => ?_) (fun ρ' acc h => ?_) ds [] ρ [] rfl ⟨rfl, rfl⟩
  · obtain ⟨rfl, rfl⟩ := h
    refine step d (by rw [e]; exact List.mem_append_right _ List.mem_cons_self) A B (fun o ho => hA o _ ⟨rfl, ?_⟩) (fun hn => hB _ ⟨rfl, ?_⟩)
    · rw [List.filterMap_append, List.filterMap_cons, ho]; rfl
    · rw [List.filterMap_append, List.filterMap_cons, hn, List.filterMap_nil, List.append_nil]
  · obtain ⟨rfl, rfl⟩ := h
    exact fin
/-- .. of a list of one kind -/
theorem lc_mapA {α : Type} {g : WG} {wt : WT} {we : WO} {own : List Nat} {P : List O → TEnv → Prop} {ρ : TEnv} (c : α → D) (ms : List α) (f : α → Option O)
    (step : ∀ m ∈ ms, ∀ (A : O → TEnv → Prop) (B : TEnv → Prop), (∀ o, f m = some o → A o ρ) → (f m = none → B ρ) → g (c m) ρ fun ρ1 => wt ρ1 fun b ρ2 => br b (we ρ2 fun o ρ3 => A o (wipeE ρ3 own)) (B (wipeE ρ2 own)))
    (fin : P (ms.filterMap f) ρ) : wLcL g wt we own (ms.map c) ρ [] P := by
  refine lc_inv (ms.map c) (fun pre ρ' acc => ρ' = ρ ∧ ∃ qs rs, ms = qs ++ rs ∧ pre = qs.map c ∧ acc = qs.filterMap f) (fun pre d post ρ' acc e h A B hA hB => ?_) (fun ρ' acc h => ?_) (ms.map c) [] ρ [] rfl ⟨rfl, [], ms, rfl, rfl, rfl⟩
  · obtain ⟨rfl, qs, rs, e2, rfl, rfl⟩ := h
    rw [e2, List.map_append] at e
    have e3 := List.append_cancel_left e
    cases rs with
    | nil => cases e3
    | cons m rs =>
      rw [List.map_cons] at e3
      obtain ⟨rfl, _⟩ := List.cons.inj e3
      have e4 : ms = (qs ++ [m]) ++ rs := by rw [e2, List.append_assoc]; rfl
      refine step m (by rw [e2]; exact List.mem_append_right _ List.mem_cons_self) A B (fun o ho => hA o _ ⟨rfl, qs ++ [m], rs, e4, by rw [List.map_append]; rfl, ?_⟩) (fun hn => hB _ ⟨rfl, qs ++ [m], rs, e4, by rw [List.map_append]; rfl, ?_⟩)
      · rw [List.filterMap_append, List.filterMap_cons, ho]; rfl
      · rw [List.filterMap_append, List.filterMap_cons, hn, List.filterMap_nil, List.append_nil]
  · obtain ⟨rfl, qs, rs, e2, e3, rfl⟩ := h
    have hl := congrArg List.length e3
    rw [List.length_map, List.length_map] at hl
    have hr : rs = [] := by
      have := congrArg List.length e2
      rw [List.length_append] at this
      exact List.length_eq_zero_iff.mp (by omega)
    rw [hr, List.append_nil] at e2
    rw [← e2]
    exact fin
/-- .. each item has one -/
theorem lc_all {α : Type} {g : WG} {we : WO} {own : List Nat} {P : List O → TEnv → Prop} {ρ : TEnv} (c : α → D) (ms : List α) (f : α → O)
    (step : ∀ m ∈ ms, ∀ (A : O → TEnv → Prop) (B : TEnv → Prop), A (f m) ρ → g (c m) ρ fun ρ1 => wYes ρ1 fun b ρ2 => br b (we ρ2 fun o ρ3 => A o (wipeE ρ3 own)) (B (wipeE ρ2 own)))
    (fin : P (ms.map f) ρ) : wLcL g wYes we own (ms.map c) ρ [] P := by
  refine lc_mapA c ms (fun m => some (f m)) (fun m hm A B hA hB => step m hm A B (hA _ rfl)) ?_
  rw [List.filterMap_eq_map']
  exact fin
/-- .. of any things -/
theorem lc_allD {g : WG} {we : WO} {own : List Nat} {P : List O → TEnv → Prop} {ρ : TEnv} (ds : List D) (f : D → O)
    (step : ∀ m ∈ ds, ∀ (A : O → TEnv → Prop) (B : TEnv → Prop), A (f m) ρ → g m ρ fun ρ1 => wYes ρ1 fun b ρ2 => br b (we ρ2 fun o ρ3 => A o (wipeE ρ3 own)) (B (wipeE ρ2 own)))
    (fin : P (ds.map f) ρ) : wLcL g wYes we own ds ρ [] P := by
  have := lc_all (g := g) (we := we) (own := own) (P := P) (ρ := ρ) (fun d => d) ds f step fin
  rwa [List.map_id'] at this
/-- .. the ones that a test lets by -/
theorem lc_flt {g : WG} {wt : WT} {we : WO} {own : List Nat} {P : List O → TEnv → Prop} {ρ : TEnv} (ds : List D) (p : D → Bool)
    (step : ∀ m ∈ ds, ∀ (A : O → TEnv → Prop) (B : TEnv → Prop), (p m = true → A (.fz m) ρ) → (p m = false → B ρ) → g m ρ fun ρ1 => wt ρ1 fun b ρ2 => br b (we ρ2 fun o ρ3 => A o (wipeE ρ3 own)) (B (wipeE ρ2 own)))
    (fin : P ((ds.filter p).map .fz) ρ) : wLcL g wt we own ds ρ [] P := by
  refine lc_map ds (fun m => if p m = true then some (.fz m) else none) (fun m hm A B hA hB => step m hm A B (fun h => hA _ (by rw [if_pos h])) (fun h => hB (by rw [if_neg (by rw [h]; exact Bool.false_ne_true)]))) ?_
  have e : ds.filterMap (fun m => if p m = true then some (O.fz m) else none) = (ds.filter p).map O.fz := by
    clear step fin
    induction ds with
    | nil => rfl
    | cons d ds ih =>
      rw [List.filterMap_cons, List.filter_cons]
      by_cases h : p d = true
      · rw [if_pos h, if_pos h, List.map_cons, ih]
      · rw [if_neg h, if_neg h, ih]
  rw [e]
  exact fin
theorem for_inv {g : WG} {wb : WS} {E : TEnds} (ds : List D) (I : List D → TEnv → Prop)
    (step : ∀ pre d post ρ, ds = pre ++ d :: post → I pre ρ → ∀ (N : TEnv → Prop), (∀ ρ', I (pre ++ [d]) ρ' → N ρ') → g d ρ fun ρ1 => wb ρ1 (E.lp N))
    (fin : ∀ ρ, I ds ρ → E.nx ρ) : ∀ (post pre : List D) ρ, ds = pre ++ post → I pre ρ → wForL g wb post ρ E
  | [], pre, ρ, e, h => by
    rw [List.append_nil] at e
    subst e
    exact fin _ h
  | d :: post, pre, ρ, e, h => by
    have e2 : ds = (pre ++ [d]) ++ post := by rw [e, List.append_assoc]; rfl
    exact step pre d post ρ e h (fun ρ' => wForL g wb post ρ' E) (fun ρ' h' => for_inv ds I step fin post _ ρ' e2 h')
/-- a loop over range(n) -/
theorem for_rng {g : WG} {wb : WS} {E : TEnds} {ρ : TEnv} (n : Nat) (I : Nat → TEnv → Prop) (h0 : I 0 ρ)
    (step : ∀ k ρ, k < n → I k ρ → ∀ (N : TEnv → Prop), (∀ ρ', I (k + 1) ρ' → N ρ') → g (.int k) ρ fun ρ1 => wb ρ1 (E.lp N))
    (fin : ∀ ρ, I n ρ → E.nx ρ) : wForL g wb ((List.range n).map fun (k : Nat) => .int k) ρ E := by
  refine for_inv ((List.range n).map fun (k : Nat) => D.int k) (fun pre ρ => I pre.length ρ) (fun pre d post ρ e h N hN => ?_) (fun ρ h => ?_) _ [] ρ rfl h0
  · have hl := congrArg List.length e
    rw [List.length_map, List.length_range, List.length_append, List.length_cons] at hl
    have hd : d = .int (pre.length : Nat) := by
      have h1 : ((List.range n).map fun (k : Nat) => D.int k)[pre.length]? = some d := by
        rw [e, List.getElem?_append_right (Nat.le_refl _), Nat.sub_self]; rfl
      rw [List.getElem?_map, List.getElem?_range (by omega)] at h1
      exact (Option.some.inj h1).symm
    subst hd
    exact step pre.length ρ (by omega) h N fun ρ' h' => hN ρ' (by rw [List.length_append]; exact h')
  · exact fin ρ (by have h : I ((List.range n).map fun (k : Nat) => D.int k).length ρ := h; rw [List.length_map, List.length_range] at h; exact h)

/-- a while loop by a measure -/
theorem while_go {wc : WT} {wb : WS} {E : TEnds} (I : Nat → TEnv → Prop) (step : ∀ n ρ, I n ρ → ∀ (N : TEnv → Prop), (∀ k ρ', k < n → I k ρ' → N ρ') → wc ρ fun c ρ1 => br c (wb ρ1 (E.lp N)) (E.nx ρ1)) : ∀ n k ρ, k ≤ n → I k ρ → wWhileN wc wb (n + 1) ρ E
  | 0, k, ρ, hk, h => step k ρ h _ fun j ρ' hj _ => absurd hj (by omega)
  | n + 1, k, ρ, hk, h => step k ρ h _ fun j ρ' hj hI => while_go I step n j ρ' (by omega) hI
theorem while_inv {wc : WT} {wb : WS} {E : TEnds} (I : Nat → TEnv → Prop) (step : ∀ n ρ, I n ρ → ∀ (N : TEnv → Prop), (∀ k ρ', k < n → I k ρ' → N ρ') → wc ρ fun c ρ1 => br c (wb ρ1 (E.lp N)) (E.nx ρ1)) {n : Nat} {ρ : TEnv} (h : I n ρ) : wWhile wc wb ρ E :=
  ⟨n + 1, while_go I step n n ρ (Nat.le_refl _) h⟩

/-! ### the state's making -/
structure spState (os : List O) (P : O → List O → Prop) : Prop where
  ex : ∃ ns : List Int, os = [.fz (.frl (ns.map .int))] ∧ ∀ a xs, DS xs → P (.lst a xs) os
theorem spState_len : ∀ os P, spState os P → os.length = 1 := fun os P ⟨_, e, _⟩ => by rw [e]; rfl
def wState : WS :=
  (wSeq (wSet 1 (wLc (wWalk (wFrz (wSl (wVar 0) wNoP (wSoP (wC (.int 63)))))) (gN 2) wYes (wFz (wC1 semAbs (wLook 2))) [2]))
    (wSeq (wIfS (wTst (wCmp semEq (wC1 semLen (wLook 1)) (wC (.int 0)))) (wSet 1 (wLst (wConsO (wFz (wC (.int 5))) wNilO))) wSkip)
    (wRet (wLst (wConsO (wMov 1) (wConsO (wFz (wC (.int 0))) (wConsO (wFz (wC (.int 1))) wNilO)))))))
theorem cutG_map {α β : Type} (f : α → β) (xs : List α) (lo hi : Option Int) : cutG (xs.map f) lo hi = (cutG xs lo hi).map f := by
  unfold cutG
  rw [List.length_map, ← List.map_drop, ← List.map_take]
theorem wState_does : ∀ os P, spState os P → wState (start0 3 os) (endsOf os P) := by
  rintro os P ⟨ns, rfl, k⟩
  walk_at "tw"
  intro b
  walk_at "tw"
  rw [O.frzL_map, cutG_map]
  generalize cutG ns none (some 63) = ms
  refine lc_all D.int ms (fun n => .fz (.int (if n < 0 then -n else n))) (fun m hm A B hA => ?_) ?_
  · walk_at "tw"
    exact ⟨fun _ => hA, fun h => nomatch h⟩
  · intro c
    walk_at "tw"
    refine ⟨_, rfl, ?_⟩
    walk_at "tw"
    refine ⟨fun h => ?_, fun h => ?_⟩
    · walk_at "tw"
      refine ⟨by decide, fun c => ?_⟩
      walk_at "tw"
      refine ⟨by show 3 ≤ sizeLine; decide, fun d => ?_⟩
      walk_at "tw"
      refine ⟨trivial, ?_⟩
      exact k _ _ ⟨c, [5], 0, 1, rfl, by simp, by simp, by decide, by decide, by decide⟩
    · walk_at "tw"
      refine ⟨by show 3 ≤ sizeLine; decide, fun d => ?_⟩
      walk_at "tw"
      refine ⟨trivial, ?_⟩
      refine k _ _ ⟨c, ms.map fun n => if n < 0 then -n else n, 0, 1, ?_, ?_, ?_, by decide, by decide, by decide⟩
      · rw [List.map_map]; rfl
      · intro e
        rw [List.map_eq_nil_iff.mp e] at h
        exact absurd h (by decide)
      · intro n hn
        obtain ⟨x, _, rfl⟩ := List.mem_map.mp hn
        show 0 ≤ if x < 0 then -x else x
        split <;> omega
end Tr
/-! Data that can be held against others; lists of one kind. -/
namespace Tr
open PySem PySem.Spec PyProof.Rows L2

/-! ### equality of lists of one kind -/
theorem deqL_map {α β : Type} {f : D → D → Option Bool} {g : α → D} {h : β → D} {p : α → β → Bool} (hf : ∀ x y, f (g x) (h y) = some (p x y)) : ∀ (l : List α) (m : List β), deqL f (l.map g) (m.map h) = some ((l.zip m).all fun q => p q.1 q.2)
  | [], _ => rfl
  | _ :: _, [] => rfl
  | x :: l, y :: m => by
    show (match f (g x) (h y), deqL f (l.map g) (m.map h) with | some a, some b => some (a && b) | _, _ => none) = _
    rw [hf, deqL_map hf l m]
    rfl
theorem zip_all_eq {α : Type} [DecidableEq α] : ∀ l m : List α, (((l.zip m).all fun q => decide (q.1 = q.2)) && (l.length == m.length)) = decide (l = m)
  | [], [] => by simp
  | [], _ :: _ => by simp
  | _ :: _, [] => by simp
  | x :: l, y :: m => by
    have ih := zip_all_eq l m
    by_cases e : x = y
    · subst e
      simp only [List.zip_cons_cons, List.all_cons, List.length_cons]
      simp at ih ⊢
      rw [ih]
    · simp [e]
/-- the things of g are equal when their sources are -/
def EqM {α : Type} [DecidableEq α] (n : Nat) (g : α → D) : Prop := ∀ x y, deq n (g x) (g y) = some (decide (x = y))
theorem eqM_int (n : Nat) : EqM n D.int := fun x y => by
  cases n <;> exact congrArg some (by rw [Bool.eq_iff_iff]; simp)
theorem eqM_str (n : Nat) : EqM n D.str := fun x y => by
  cases n <;> exact congrArg some (by rw [Bool.eq_iff_iff]; simp)
theorem eqM_bl (n : Nat) : EqM n D.bl := fun x y => by
  cases n <;> exact congrArg some (by rw [Bool.eq_iff_iff]; simp)
theorem EqM.tup {α : Type} [DecidableEq α] {n : Nat} {g : α → D} (h : EqM n g) : EqM (n + 1) fun l : List α => .tup (l.map g) := fun l m => by
  show (deqL (deq n) (l.map g) (m.map g)).map (· && ((l.map g).length == (m.map g).length)) = _
  rw [deqL_map (fun x y => h x y), List.length_map, List.length_map]
  exact congrArg some (zip_all_eq l m)
theorem EqM.lst {α : Type} [DecidableEq α] {n : Nat} {g : α → D} (h : EqM n g) : EqM (n + 1) fun l : List α => .lst (l.map g) := fun l m => by
  show (if ((l.map g).length == (m.map g).length) = true then deqL (deq n) (l.map g) (m.map g) else some false) = _
  rw [deqL_map (fun x y => h x y), List.length_map, List.length_map, ← zip_all_eq l m]
  cases l.length == m.length <;> simp
theorem EqM.pair {α β : Type} [DecidableEq α] [DecidableEq β] {n : Nat} {g : α → D} {h : β → D} (hg : EqM n g) (hh : EqM n h) : EqM (n + 1) fun q : α × β => .tup [g q.1, h q.2] := fun l m => by
  show ((match deq n (g l.1) (g m.1), (match deq n (h l.2) (h m.2), some true with | some a, some b => some (a && b) | _, _ => none) with | some a, some b => some (a && b) | _, _ => none).map (· && true)) = _
  rw [hg, hh]
  refine congrArg some ?_
  rw [Bool.eq_iff_iff]
  simp [Prod.ext_iff]
theorem deq_lnil {n : Nat} {xs : List D} : deq n (.lst xs) (.lst []) = some xs.isEmpty := by
  cases n <;> cases xs <;> rfl
theorem deq_nill {n : Nat} {xs : List D} : deq n (.lst []) (.lst xs) = some xs.isEmpty := by
  cases n <;> cases xs <;> rfl
theorem deq_tnil {n : Nat} {xs : List D} : deq n (.tup xs) (.tup []) = some xs.isEmpty := by
  cases n <;> cases xs <;> rfl

theorem frzL_mapfz {α : Type} (g : α → D) : ∀ l : List α, O.frzL (l.map fun x => .fz (g x)) = l.map g
  | [] => rfl
  | x :: l => congrArg (g x :: ·) (frzL_mapfz g l)
theorem frz_map {α : Type} (g : α → D) (b : Addr) (l : List α) : (O.lst b (l.map fun x => .fz (g x))).frz = .lst (l.map g) := congrArg D.lst (frzL_mapfz g l)
theorem ints_mapf {α : Type} (f : α → Int) : ∀ l : List α, D.ints (l.map fun x => .int (f x)) = some (l.map f)
  | [] => rfl
  | x :: l => by
    show (D.ints (l.map fun x => .int (f x))).map (f x :: ·) = _
    rw [ints_mapf f l]
    rfl
theorem bls_mapf {α : Type} (f : α → Bool) : ∀ l : List α, D.bls (l.map fun x => .bl (f x)) = some (l.map f)
  | [] => rfl
  | x :: l => by
    show (D.bls (l.map fun x => .bl (f x))).map (f x :: ·) = _
    rw [bls_mapf f l]
    rfl
theorem atI_mem {α : Type} {xs : List α} {i : Int} (h0 : 0 ≤ i) (h1 : i < xs.length) : ∃ u, u ∈ xs ∧ atI xs i = some u := ⟨_, List.getElem_mem _, atI_in h0 h1⟩
theorem cutG_mem {α : Type} {xs : List α} {lo hi : Option Int} {x : α} (h : x ∈ cutG xs lo hi) : x ∈ xs := List.mem_of_mem_drop (List.mem_of_mem_take h)
theorem zip_map2 {α β : Type} (f : α → D) (g : β → D) (l : List α) (m : List β) : (((l.map f).zip (m.map g)).map fun p => D.tup [p.1, p.2]) = (l.zip m).map fun q => .tup [f q.1, g q.2] := by
  rw [List.zip_map, List.map_map]
  rfl
theorem enum_map {α : Type} (f : α → D) (l : List α) : ((l.map f).zipIdx.map fun p => D.tup [.int p.2, p.1]) = l.zipIdx.map fun q => .tup [.int q.2, f q.1] := by
  rw [List.zipIdx_map, List.map_map]
  rfl
/-- a loop over a list of one kind -/
theorem for_map {α : Type} {g : WG} {wb : WS} {E : TEnds} (c : α → D) (ms : List α) (I : List α → TEnv → Prop)
    (step : ∀ pre m post ρ, ms = pre ++ m :: post → I pre ρ → ∀ (N : TEnv → Prop), (∀ ρ', I (pre ++ [m]) ρ' → N ρ') → g (c m) ρ fun ρ1 => wb ρ1 (E.lp N))
    (fin : ∀ ρ, I ms ρ → E.nx ρ) : ∀ (post pre : List α) ρ, ms = pre ++ post → I pre ρ → wForL g wb (post.map c) ρ E
  | [], pre, ρ, e, h => by
    rw [List.append_nil] at e
    subst e
    exact fin _ h
  | m :: post, pre, ρ, e, h => by
    have e2 : ms = (pre ++ [m]) ++ post := by rw [e, List.append_assoc]; rfl
    exact step pre m post ρ e h (fun ρ' => wForL g wb (post.map c) ρ' E) (fun ρ' h' => for_map c ms I step fin post _ ρ' e2 h')
theorem for_map0 {α : Type} {g : WG} {wb : WS} {E : TEnds} {ρ : TEnv} (c : α → D) (ms : List α) (I : List α → TEnv → Prop) (h0 : I [] ρ)
    (step : ∀ pre m post ρ, ms = pre ++ m :: post → I pre ρ → ∀ (N : TEnv → Prop), (∀ ρ', I (pre ++ [m]) ρ' → N ρ') → g (c m) ρ fun ρ1 => wb ρ1 (E.lp N))
    (fin : ∀ ρ, I ms ρ → E.nx ρ) : wForL g wb (ms.map c) ρ E := for_map c ms I step fin ms [] ρ rfl h0
theorem zipIdx_at {α : Type} {l : List α} {pre post : List (α × Nat)} {m : α × Nat} (h : l.zipIdx = pre ++ m :: post) : m.2 = pre.length ∧ l[pre.length]? = some m.1 := by
  have e : l.zipIdx[pre.length]? = some m := by
    rw [h, List.getElem?_append_right (Nat.le_refl _), Nat.sub_self]; rfl
  rw [List.getElem?_zipIdx] at e
  cases q : l[pre.length]? with
  | none => rw [q] at e; cases e
  | some x =>
    rw [q] at e
    have e := Option.some.inj e
    subst e
    exact ⟨Nat.zero_add _, rfl⟩
end Tr
/-! sorted: of pairs whose first ones are unlike whole numbers. -/
namespace Tr
open PySem PySem.Spec PyProof.Rows L2 SrtO

/-- a pair whose first is a whole number -/
def IsPr (h : Heap) (v : Value) (x : Int) : Prop := ∃ a o t y n, v = .ref a ∧ h.get? a = some o ∧ o.cls = .type "tuple" ∧ o.data = .seq #[.int x t, y] n
theorem IsPr.keeps {h h' : Heap} {v : Value} {x : Int} (p : IsPr h v x) (k : ∀ b o, h.get? b = some o → o.cls = .type "tuple" → h'.get? b = some o) : IsPr h' v x := by
  obtain ⟨a, o, t, u, n, e, ho, hc, hd⟩ := p
  exact ⟨a, o, t, u, n, e, k _ _ ho hc, hc, hd⟩
theorem swo_first (k : Value → Int) : Swo fun v u => decide (k v < k u) := by
  refine ⟨fun x y h => ?_, fun x y z h1 h2 => ?_⟩
  · have a := of_decide_eq_true h
    exact decide_eq_false (by omega)
  · have a := of_decide_eq_false h1
    have b := of_decide_eq_false h2
    exact decide_eq_false (by omega)
theorem swo_firstV (k : V → Int) : Swo fun v u => decide (k v < k u) := by
  refine ⟨fun x y h => ?_, fun x y z h1 h2 => ?_⟩
  · have a := of_decide_eq_true h
    exact decide_eq_false (by omega)
  · have a := of_decide_eq_false h1
    have b := of_decide_eq_false h2
    exact decide_eq_false (by omega)
section
variable {prog : Program} {w : World} {A : Around} {s : Shared}
theorem pr_cmp {vs : List Value} {k : Value → Int} (hp : ∀ v ∈ vs, IsPr s.heap v (k v)) (hi : ∀ v ∈ vs, ∀ u ∈ vs, k v = k u → v = u) : Cmp prog w A s (tuples' true) (fun p => p.1 ∈ vs) (lt2 fun v u => decide (k v < k u)) := by
  intro p q hm hm'
  have h1 := hp _ hm
  have h2 := hp _ hm'
  have h3 := hi _ hm _ hm'
  show wpAny (model prog w) A (keyLt' (tuples' true) p.1 q.1) (fun r s' => s' = s ∧ r = decide (k p.1 < k q.1)) (fun _ _ => False) s
  generalize k p.1 = x at h1 h3 ⊢
  generalize k q.1 = x' at h2 h3 ⊢
  obtain ⟨a, o, t, u, n, e, ho, hc, hd⟩ := h1
  obtain ⟨a', o', t', u', n', e', ho', hc', hd'⟩ := h2
  rw [e, e'] at h3 ⊢
  refine PySem.W.kat_lt ho hd ho' hd' ?_
  show PySem.W.KatLex prog w A true (decide (2 < 2)) _ [(.int x t, .int x' t'), (u, u')] 0 s
  refine PySem.W.kat_cons (SeqAt.EqAt.int_int x t x' t' prog w _ _ ?_)
  refine PySem.W.kat_go (fun e1 => ?_) (fun e1 => ?_)
  · have ex : x = x' := by simpa using e1
    have ea := h3 ex
    cases ea
    rw [ho] at ho'
    cases ho'
    rw [hd] at hd'
    have eu : u = u' := by
      injection hd' with e1 e2
      have e3 := congrArg Array.toList e1
      simp at e3
      exact e3.2
    subst eu
    refine PySem.W.kat_yes (PySem.W.kat_cons (SeqAt.EqAt.same u prog w _ _ ?_))
    refine PySem.W.kat_yes (PySem.W.kat_nil ⟨rfl, ?_⟩)
    rw [ex]
    exact (decide_eq_false (Int.lt_irrefl _)).symm
  · exact PySem.W.kat_no (oneLt_int ⟨rfl, rfl⟩)
theorem prFirsts {h : Heap} : ∀ {vs : List Value}, (∀ v ∈ vs, ∃ x, IsPr h v x) → ∃ fs : List Value, PySem.W.KatTups h vs fs ∧ fs.length = vs.length ∧ ∀ f ∈ fs, ∃ x t, f = Value.int x t
  | [], _ => ⟨[], PySem.W.KatTups.nil, rfl, fun _ hm => by simp at hm⟩
  | v :: vs, hp => by
    obtain ⟨fs, h1, h2, h3⟩ := prFirsts (vs := vs) fun v' hm => hp v' (List.mem_cons_of_mem _ hm)
    obtain ⟨x, a, o, t, y, n, e, ho, hc, hd⟩ := hp v (List.mem_cons_self ..)
    subst e
    refine ⟨.int x t :: fs, PySem.W.KatTups.cons ho hc hd rfl h1, by rw [List.length_cons, List.length_cons, h2], fun f hm => ?_⟩
    rcases List.mem_cons.mp hm with rfl | hm
    · exact ⟨x, t, rfl⟩
    · exact h3 f hm
theorem pr_sortable {a : Addr} {vs : List Value} {k : Value → Int} (h0 : 0 < vs.length) (hp : ∀ v ∈ vs, IsPr s.heap v (k v)) (hi : ∀ v ∈ vs, ∀ u ∈ vs, k v = k u → v = u) (ha : ∀ o, s.heap.get? a = some o → o.cls ≠ .type "tuple") : SortableO prog w A s a vs fun v u => decide (k v < k u) := by
  intro h' keep
  have hp' : ∀ v ∈ vs, IsPr h' v (k v) := fun v hm => (hp v hm).keeps fun b o e c => keep b o (fun z => by subst z; exact ha o e c) e
  obtain ⟨fs, h1, h2, h3⟩ := prFirsts fun v hm => ⟨_, hp' v hm⟩
  refine ⟨tuples' true, fun Q E hq => ?_, pr_cmp hp' hi⟩
  refine PySem.W.kat_kind (T := .type "int") h1 (by omega) (fun f hm => ?_) (by rfl) ?_
  · obtain ⟨x, t, rfl⟩ := h3 f hm
    exact PySem.W.Looks.now
  · have e : (Value.type "int" != Value.type "tuple") = true := by first | decide +kernel | rfl | decide
    rw [e]
    exact hq
theorem sorted_prs {l : Addr} {vs : List Value} {k : Value → Int} {Q : Value → Shared → Prop} {E : Value → Shared → Prop} (hl : s.heap.IsList l vs.toArray) (hz : vs.length ≤ sizeLine) (hp : ∀ v ∈ vs, IsPr s.heap v (k v)) (hi : ∀ v ∈ vs, ∀ u ∈ vs, k v = k u → v = u)
    (h : ∀ (h' : Heap) (d : Addr) (out : List Value), Srtd (fun v u => decide (k v < k u)) out → Stb (fun v u => decide (k v < k u)) out vs → (∀ b o, s.heap.get? b = some o → h'.get? b = some o) → s.heap.objs.size ≤ d → (∃ n, h'.get? d = some (seqObj "list" out.toArray n)) → Q (.ref d) { s with heap := h' }) :
    wpAny (model prog w) A (call (.builtin "sorted") [.ref l]) Q E s := by
  refine sorted_ord (swo_first k) hl hz (fun h2 h₁ a ha kk => ?_) fun out hs hb => ?_
  · refine pr_sortable (s := { s with heap := h₁ }) (by omega) (fun v hm => (hp v hm).keeps fun b o e _ => (kk b o e).2) hi fun o e => ?_
    have e' : some o = some (seqObj "list" vs.toArray 0) := e.symm.trans ha
    cases e'
    intro c
    exact absurd (Value.type.inj c) (by decide)
  · exact h _ _ out hs hb (fun b o e => sortedAll_old e) (Nat.le_succ _) (sortedAll_at s.heap vs out.toArray)
end
theorem perm_lift {α β : Type} (f : α → β) {l k : List β} (h : l.Perm k) : ∀ {m : List α}, k = m.map f → ∃ m' : List α, m'.Perm m ∧ l = m'.map f := by
  induction h with
  | nil => intro m e; exact ⟨[], by rw [List.map_eq_nil_iff.mp e.symm], rfl⟩
  | cons a _ ih =>
    intro m e
    cases m with
    | nil => cases e
    | cons b m =>
      rw [List.map_cons] at e
      obtain ⟨h1, h2⟩ := List.cons.inj e
      subst h1
      obtain ⟨m', p, rfl⟩ := ih h2
      exact ⟨b :: m', p.cons b, rfl⟩
  | swap a b l =>
    intro m e
    cases m with
    | nil => cases e
    | cons c m =>
      cases m with
      | nil => cases e
      | cons d m =>
        rw [List.map_cons, List.map_cons] at e
        obtain ⟨h1, h2⟩ := List.cons.inj e
        obtain ⟨h3, h4⟩ := List.cons.inj h2
        subst h1 h3 h4
        exact ⟨d :: c :: m, List.Perm.swap _ _ _, rfl⟩
  | trans _ _ ih1 ih2 =>
    intro m e
    obtain ⟨m2, p2, e2⟩ := ih2 e
    obtain ⟨m1, p1, e1⟩ := ih1 e2
    exact ⟨m1, p1.trans p2, e1⟩
/-- sorted(xs) of pairs, by their first ones, which are unlike whole numbers -/
def rSortedF (K : PySem.W.Frag) : List V → Hp → VK → Prop := fun vs H Q => ∃ (a : Addr) (l : List (V × D)) (k : D → Int), vs = [V.ref a] ∧ SqL K H a (l.map (·.1)) ∧ (∀ q ∈ l, ∃ t y, q.1 = V.ref t ∧ SqT K H t [.int (k q.2), y]) ∧ (∀ q ∈ l, ∀ r ∈ l, k q.2 = k r.2 → q = r) ∧
  ∀ (m : List (V × D)) p, m.Perm l → m.Pairwise (fun x y => k x.2 ≤ k y.2) → H p = none → Q (.ref p) (upd H p (.lst (m.map (·.1))))
theorem cr_sortedF {X : Cx} : CallR X (.builtin "sorted") (rSortedF X.K) := by
  intro pins s σ H vs us Q I r h
  obtain ⟨a, l, k, rfl, hs, hx, hi, q⟩ := h
  obtain ⟨its, rv, hl, hz⟩ := I.list hs
  obtain ⟨u, rfl, ru⟩ := vals1 r
  obtain rfl : u = Value.ref a := ru
  obtain ⟨e1, e2⟩ := refs_back rv fun x m => by
    obtain ⟨q, hq, rfl⟩ := List.mem_map.mp m
    obtain ⟨t, y, e, _⟩ := hx q hq
    exact ⟨t, e⟩
  -- a thing's number
  let kf : V → Int := fun x => if h : ∃ q, q ∈ l ∧ q.1 = x then k (Classical.choose h).2 else 0
  have kf_at : ∀ q ∈ l, kf q.1 = k q.2 := fun q hq => by
    have h : ∃ r, r ∈ l ∧ r.1 = q.1 := ⟨q, hq, rfl⟩
    have e : kf q.1 = k (Classical.choose h).2 := dif_pos h
    rw [e]
    obtain ⟨hr, er⟩ := Classical.choose_spec h
    generalize Classical.choose h = r at hr er
    obtain ⟨t, y, et, ht⟩ := hx q hq
    obtain ⟨t', y', et', ht'⟩ := hx r hr
    rw [er, et] at et'
    cases et'
    have e2 := I.tuple_inj ht ht'
    injection e2 with e3 _
    injection e3 with e4
    exact e4.symm
  have inx : ∀ t, Value.ref t ∈ its → ∃ q ∈ l, q.1 = V.ref t := fun t hv => by
    have : V.ref t ∈ l.map (·.1) := by rw [e1]; exact List.mem_map.mpr ⟨_, hv, rfl⟩
    exact List.mem_map.mp this
  refine sorted_prs (k := fun u => kf (backV u)) hl.isList (by rw [← rv.length]; exact hz) (fun v hv => ?_) (fun v hv u hu e => ?_) fun h' d out h1 h2 kp hd hn => ?_
  · obtain ⟨t, rfl⟩ := e2 v hv
    obtain ⟨q, hq, eq⟩ := inx t hv
    obtain ⟨t', y, e, ht⟩ := hx q hq
    rw [eq] at e
    cases e
    obtain ⟨its2, r2, ⟨o, ho, hc, n, hd⟩, _⟩ := I.tuple ht
    obtain ⟨u1, u2, rfl, ri, rj⟩ := vals2 r2
    obtain ⟨t1, rfl⟩ := ri
    refine ⟨t, o, t1, u2, n, rfl, ho, hc, ?_⟩
    have e : kf (backV (Value.ref t)) = k q.2 := by
      show kf (V.ref t) = _
      rw [← eq]; exact kf_at q hq
    rw [e]
    exact hd
  · obtain ⟨t, rfl⟩ := e2 v hv
    obtain ⟨t', rfl⟩ := e2 u hu
    obtain ⟨q, hq, eq⟩ := inx t hv
    obtain ⟨r, hr, er⟩ := inx t' hu
    have e : kf (V.ref t) = kf (V.ref t') := e
    rw [← eq, ← er, kf_at q hq, kf_at r hr] at e
    have := hi q hq r hr e
    rw [this, er] at eq
    cases eq
    rfl
  · have h3 : ∀ u ∈ out, ∃ a, u = Value.ref a := fun u hu => e2 u (h2.perm.mem_iff.mp hu)
    obtain ⟨n, hn⟩ := hn
    have hb : Stb (fun v u => decide (kf v < kf u)) (out.map backV) (l.map (·.1)) := by
      rw [e1]
      exact Stb.map (swo_firstV kf) backV h2
    obtain ⟨m, pm, em⟩ := perm_lift (fun q : V × D => q.1) hb.perm rfl
    refine ⟨.ref d, upd H d (.lst (out.map backV)), I.laid (t' := s.toks) kp hd ⟨?_, out, n, vals_back h3, hn⟩, rfl, ?_⟩
    · rw [hb.len]
      exact hz
    · rw [em]
      refine q m d pm ?_ (I.hok.fresh hd)
      have hs2 : (out.map backV).Pairwise (fun (x y : V) => kf x ≤ kf y) := by
        rw [List.pairwise_map]
        refine List.Pairwise.imp (fun {x y} e => ?_) h1
        have := of_decide_eq_false e
        omega
      rw [em, List.pairwise_map (f := fun q : V × D => q.1)] at hs2
      refine List.Pairwise.imp_of_mem (fun {x y : V × D} hx hy h => ?_) hs2
      rwa [kf_at x (pm.mem_iff.mp hx), kf_at y (pm.mem_iff.mp hy)] at h
theorem nodup_inj {α : Type} : ∀ {l : List α}, l.Nodup → ∀ {i j : Nat} (hi : i < l.length) (hj : j < l.length), l[i] = l[j] → i = j
  | [], _, _, _, hi, _, _ => absurd hi (Nat.not_lt_zero _)
  | x :: l, _, 0, 0, _, _, _ => rfl
  | x :: l, h, 0, j + 1, _, hj, e => by
    have := (List.nodup_cons.mp h).1
    exact absurd (show x ∈ l from (show x = l[j]'(by simpa using hj) from e) ▸ List.getElem_mem _) this
  | x :: l, h, i + 1, 0, hi, _, e => by
    have := (List.nodup_cons.mp h).1
    exact absurd (show x ∈ l from (show l[i]'(by simpa using hi) = x from e) ▸ List.getElem_mem _) this
  | x :: l, h, i + 1, j + 1, hi, hj, e => congrArg (· + 1) (nodup_inj (List.nodup_cons.mp h).2 (by simpa using hi) (by simpa using hj) e)
/-- a pair's first -/
def D.fst : D → Int
  | .tup (.int i :: _) => i
  | _ => 0
def semSortF (d : D) (P : O → Prop) : Prop := match d with
  | .lst ds => (∀ d ∈ ds, ∃ i e, d = .tup [.int i, e]) ∧ (ds.map D.fst).Nodup ∧ ∀ a (es : List D), es.Perm ds → es.Pairwise (fun x y => x.fst ≤ y.fst) → P (.lst a (es.map .fz))
  | _ => False
theorem sem_sortF {K : PySem.W.Frag} : SemO1 K (rSortedF K) semSortF := by
  intro F H x d P Q sb rx hs k
  unfold semSortF at hs
  split at hs
  · rename_i ds
    obtain ⟨h1, h2, h3⟩ := hs
    cases rx with
    | @lst a xs _ ha z r =>
      have e1 : (xs.zip ds).map (·.1) = xs := by rw [List.map_fst_zip]; rw [r.length]; exact Nat.le_refl _
      have e2 : (xs.zip ds).map (·.2) = ds := by rw [List.map_snd_zip]; rw [r.length]; exact Nat.le_refl _
      have rep : ∀ q ∈ xs.zip ds, Rep K F q.1 q.2 := fun q hq => by
        obtain ⟨j, hj, e⟩ := List.getElem_of_mem hq
        have hj2 : j < ds.length := by rw [List.length_zip] at hj; omega
        have hj1 : j < xs.length := by rw [List.length_zip] at hj; omega
        obtain ⟨v, hv, rv⟩ := r.get (List.getElem?_eq_getElem hj2)
        rw [List.getElem?_eq_getElem hj1] at hv
        cases hv
        rw [← e, List.getElem_zip]
        exact rv
      refine ⟨a, xs.zip ds, D.fst, rfl, ?_, fun q hq => ?_, fun q hq q' hq' e => ?_, fun m p pm ps hp => ?_⟩
      · rw [e1]; exact .inl (.inl (sb.lst ha))
      · have hd : q.2 ∈ ds := (List.of_mem_zip (a := q.1) (b := q.2) hq).2
        obtain ⟨i, e, ed⟩ := h1 _ hd
        have rq := rep q hq
        rw [ed] at rq ⊢
        revert rq
        generalize q.1 = v
        intro rq
        cases rq with
        | tup ht _ rl =>
          cases rl with
          | cons ra rb =>
          cases rb with
          | cons rb rc =>
          cases rc
          cases ra
          exact ⟨_, _, rfl, sb.sqT ht⟩
      · -- unlike numbers, so one place
        obtain ⟨j, hj, ej⟩ := List.getElem_of_mem hq
        obtain ⟨j', hj', ej'⟩ := List.getElem_of_mem hq'
        have lz : (xs.zip ds).length = ds.length := by rw [List.length_zip, r.length, Nat.min_self]
        have f1 : (ds.map D.fst)[j]'(by rw [List.length_map]; omega) = q.2.fst := by
          rw [List.getElem_map]
          have : (xs.zip ds)[j].2 = ds[j]'(by omega) := by rw [List.getElem_zip]
          rw [← this, ej]
        have f2 : (ds.map D.fst)[j']'(by rw [List.length_map]; omega) = q'.2.fst := by
          rw [List.getElem_map]
          have : (xs.zip ds)[j'].2 = ds[j']'(by omega) := by rw [List.getElem_zip]
          rw [← this, ej']
        have : j = j' := nodup_inj h2 _ _ (f1.trans (e.trans f2.symm))
        subst this
        exact ej.symm.trans ej'
      · have pm2 : (m.map (·.2)).Perm ds := by
          have := pm.map (·.2)
          rwa [e2] at this
        have rl : RepL K F (m.map (·.1)) (m.map (·.2)) := by
          have hm : ∀ q ∈ m, Rep K F q.1 q.2 := fun q hq => rep q (pm.mem_iff.mp hq)
          clear pm ps pm2
          induction m with
          | nil => exact .nil
          | cons q m ih => exact .cons (hm q List.mem_cons_self) (ih fun q hq => hm q (List.mem_cons_of_mem _ hq))
        exact k _ _ _ _ (h3 p _ pm2 (List.pairwise_map.mpr ps)) (Res.lst hp (by rw [pm2.length_eq]; exact z) rl)
  · exact hs.elim
end Tr
/-! x.remove(y), any data. -/
namespace Tr
open PySem PySem.MeetsSeq PySem.SeqAt
open AutoSeq1 (wpAny_loadPart')
theorem rem_loopAt (l : Addr) (items : Array Value) (n : Nat) (x : Value) (e : Nat → Bool) (j : Nat) (hj : j < items.size) (hit : e j = true) (k : Nat) (hs1 : items.size ≤ sizeLine) :
    ∀ i : Nat, j - i = k → i ≤ j → (∀ m (hm : m < items.size), i ≤ m → m < j → e m = false) → Meets (Builtin.«list.remove.loop» ⟨[.ref l, x, rawInt i], []⟩)
      (fun A R s => s.heap.get? l = some { cls := .type "list", dict := none, data := .seq items n, slots := #[] } ∧ (∀ m (hm : m < items.size), m ≤ j → EqAt A.in1 s items[m] x (e m)) ∧ R (.ok (.ret .none)) { s with heap := s.heap.update l (Obj.mapSeq fun xs => xs.eraseIdxIfInBounds j) }) := by
  induction k with
  | zero =>
    intro i hk hij hno prog w A R s h
    obtain ⟨hp, g, d, tk, os⟩ := s; obtain ⟨hl, he, h⟩ := h
    have hij' : i = j := by omega
    subst hij'
    wp_walk using wpAny_loadPart' hl
    have hi : items[((i : Nat) : Int).toNat]? = some items[i] := by simp [hj]
    rw [hi]
    refine wpAny_bind (he i hj (Nat.le_refl _) prog w _ _ ?_)
    rw [hit]
    have hz' : (items.eraseIdxIfInBounds i).size ≤ sizeLine + 1 := Nat.le_trans (size_erased items _) (Nat.le_succ_of_le hs1)
    wp_walk using (wpAny_updateSeq hl rfl (hz := hs1) (_hz' := hz')), wpAny_loadPart' hl
    simpa using h
  | succ k ih =>
    intro i hk hij hno prog w A R s h
    obtain ⟨hp, g, d, tk, os⟩ := s; obtain ⟨hl, he, h⟩ := h
    have hlt : i < items.size := by omega
    wp_walk using wpAny_loadPart' hl
    have hi : items[((i : Nat) : Int).toNat]? = some items[i] := by simp [hlt]
    have hc : ((i : Int) + 1) = ((i + 1 : Nat) : Int) := by push_cast; rfl
    rw [hi]
    refine wpAny_bind (he i hlt hij prog w _ _ ?_)
    rw [hno i hlt (Nat.le_refl _) (by omega)]
    wp_walk
    rw [hc]
    exact ⟨plainId_quiet plain_remove_loop _, codeAny_builtin entry_remove_loop (by
      rw [Around.under_plainId plain_remove_loop _]
      exact ih (i + 1) (by omega) (by omega) (fun m hm h1 h2 => hno m hm (by omega) h2) prog w A R _ ⟨hl, he, h⟩)⟩
theorem rem_listAt (l : Addr) (items : Array Value) (n : Nat) (x : Value) (e : Nat → Bool) (j : Nat) (hj : j < items.size)
    (hit : e j = true) (hno : ∀ m (hm : m < items.size), m < j → e m = false) (hs1 : items.size ≤ sizeLine) :
    Meets (Builtin.«list.remove» ⟨[.ref l, x], []⟩)
      (fun A R s => s.heap.get? l = some { cls := .type "list", dict := none, data := .seq items n, slots := #[] } ∧ (∀ m (hm : m < items.size), m ≤ j → EqAt A.in1 s items[m] x (e m)) ∧ R (.ok (.ret .none)) { s with heap := s.heap.update l (Obj.mapSeq fun xs => xs.eraseIdxIfInBounds j) }) := by
  intro prog w A R s h
  obtain ⟨hp, g, d, tk, os⟩ := s; obtain ⟨hl, he, h⟩ := h
  wp_walk using wpAny_loadPart' hl
  exact ⟨plainId_quiet plain_remove_loop _, codeAny_builtin entry_remove_loop (by
    rw [Around.under_plainId plain_remove_loop _]
    exact rem_loopAt l items n x e j hj hit _ hs1 0 rfl (Nat.zero_le _) (fun m hm _ h2 => hno m hm h2) prog w A R _ ⟨hl, he, h⟩)⟩
end Tr
namespace Tr
open PySem PySem.Spec PyProof.Rows L2
/-- o.remove(e): the first that is equal -/
def tRemD (K : PySem.W.Frag) (to te : TE) : TE := fun σ H Q => to σ H fun x H1 => tyV K "list" x H1 ∧ te σ H1 fun y H2 => ∃ (l : Addr) (xs : List V) (j : Nat) (F : Hp) (d : D), x = .ref l ∧ H2 l = some (.lst xs) ∧ Sb F H2 ∧ Rep K F y d ∧ j < xs.length ∧
  (∀ m v, m ≤ j → xs[m]? = some v → ∃ u, Rep K F v u ∧ deq 58 u d = some (decide (m = j))) ∧ Q .non (upd H2 l (.lst (xs.eraseIdx j)))
theorem pe_remD {X : Cx} {o e : Expr} {to te : TE} {apos cpos : Pos} (hu : X.A.units + 64 < cLine) (ho : PE X o to) (he : PE X e te) (hbase : attributeBase o "remove" X.env (eval o X.env) = eval o X.env := by rfl)
    (hfew : ((backTo cpos (starEach [e] X.env)).all (fun x => !x.1) && (backToKw cpos (keywordEach [] X.env)).all (fun x => x.1.isSome)
      && decide (([e] : List Expr).length + ([] : List Keyword).length + (if ([] : List Keyword).isEmpty then 0 else 1) < 30)) = true := by rfl)
    (hline : (apos.endLine == cpos.line) = true := by rfl) (hs : starEach [e] X.env = (false, eval e X.env) :: starEach [] X.env := by rfl) (hplain : (backTo cpos (starEach [] X.env)).any (·.1) = false := by rfl) :
    PE X (.Call (.Attribute o "remove" apos) [e] [] cpos) (tRemD X.K to te) := by
  refine ⟨fun pins s σ H Q I h => ?_⟩
  refine wpAny_Call_method_late hbase hfew hline rfl (thn (ho.run pins s σ H _ I h) fun v s1 ⟨x, H1, I1, r1, ty, q1⟩ => ?_)
  obtain ⟨h1, h2⟩ := tyV_is I1 r1 ty
  refine ⟨"list", _, PySem.F.plainAttrs_list, PySem.F.slot_list_remove, PySem.F.type_list_remove, h1, h2, ?_⟩
  rw [hs]
  refine Calls.callWith_builtin (by show (false || (backTo cpos (starEach [] X.env)).any (·.1)) = false; rw [hplain] <;> rfl) (Calls.evalArgs_plain ?_)
  show wpAny _ _ (spliced ((false, eval e X.env) :: backTo cpos (starEach [] X.env))) _ _ s1
  refine Calls.spliced_cons (thn (he.run pins s1 σ H1 _ I1 q1) fun u s2 ⟨y, H2, I2, ry, q2⟩ => ?_)
  refine Calls.spliced_nil ?_
  obtain ⟨l, xs, j, F, d, ex, hH, sb, rd, hj, heq, qy⟩ := q2
  subst ex
  cases (show v = Value.ref l from r1)
  obtain ⟨z, its, n, r, hl, e0⟩ := I2.lstM hH
  have hj2 : j < its.length := by rw [← r.length]; exact hj
  refine call_meets PySem.F.slot_list_remove ⟨_, e0, rfl⟩ PySem.F.entry_list_remove (PySem.F.args_list_remove_2 _ _)
    (rem_listAt l its.toArray n u (fun m => decide (m = j)) j (by rw [List.size_toArray]; exact hj2) (by simp) (fun m hm hlt => decide_eq_false (by omega)) (by rw [List.size_toArray, ← r.length]; exact z)) ⟨e0, fun m hm hmj => ?_, ?_⟩
  · have hm2 : m < its.length := hm
    obtain ⟨w, hw, rw'⟩ := Vals.at' r (List.getElem?_eq_getElem hm2)
    obtain ⟨t, rt, ht⟩ := heq m w hmj hw
    refine deq_eqAt I2 sb 58 _ ?_ _ _ _ _ _ _ _ rt rd rw' ry ht
    first
      | omega
      | (show X.A.units + 1 + 58 < cLine; omega)
      | (show X.A.units + 2 + 58 < cLine; omega)
  · have r2 : Vals (xs.eraseIdx j) (its.eraseIdx j) := r.eraseIdx j
    refine ⟨.non, _, I2.lset (its' := its.eraseIdx j) hH e0 ?_ r2 ?_, rfl, qy⟩
    · show its.toArray.eraseIdxIfInBounds j = (its.eraseIdx j).toArray
      rw [List.eraseIdxIfInBounds_toArray]
    · exact Nat.le_trans (by rw [List.length_eraseIdx]; split <;> omega) z
/-- xs.remove(e); the list's items are data -/
def wRem (i : Nat) (w : WD) : WS := fun ρ E => match nth ρ i with
  | some (.lst _ _) => w ρ fun d ρ1 => match nth ρ1 i with
    | some (.lst a os) => ∃ (us : List D) (j : Nat), os = us.map .fz ∧ j < us.length ∧ (∀ m u, m ≤ j → us[m]? = some u → deq 58 u d = some (decide (m = j))) ∧ putC ρ1 i (some (.lst a ((us.eraseIdx j).map .fz))) E.nx
    | _ => False
  | _ => False
theorem RepL.eraseIdx {K : PySem.W.Frag} {F : Hp} : ∀ {us : List D} {vs : List V} (j : Nat), RepL K F vs us → RepL K F (vs.eraseIdx j) (us.eraseIdx j)
  | [], _, _, .nil => .nil
  | _ :: _, _, 0, .cons _ r => r
  | _ :: _, _, j + 1, .cons h r => .cons h (RepL.eraseIdx j r)
theorem xs_rem {X : Cx} {o e : Expr} {apos cpos pos : Pos} {i : Nat} {w : WD} (hu : X.A.units + 64 < cLine) (ho : PE X o (tVar i)) (he : XE X e w) (hbase : attributeBase o "remove" X.env (eval o X.env) = eval o X.env := by rfl)
    (hfew : ((backTo cpos (starEach [e] X.env)).all (fun x => !x.1) && (backToKw cpos (keywordEach [] X.env)).all (fun x => x.1.isSome)
      && decide (([e] : List Expr).length + ([] : List Keyword).length + (if ([] : List Keyword).isEmpty then 0 else 1) < 30)) = true := by rfl)
    (hline : (apos.endLine == cpos.line) = true := by rfl) (hst : starEach [e] X.env = (false, eval e X.env) :: starEach [] X.env := by rfl) (hplain : (backTo cpos (starEach [] X.env)).any (·.1) = false := by rfl)
    (hs : swapsWith (.Call (.Attribute o "remove" apos) [e] [] cpos) none pos.line X.env = pure false := by rfl) : XS X (.Expr (.Call (.Attribute o "remove" apos) [e] [] cpos) pos) (wRem i w) :=
  ⟨PS.imp (ps_expr (pe_remD hu ho he.pe hbase hfew hline hst hplain) hs) fun D σ H ⟨ρ, F, E, s, hw, k⟩ => by
    unfold wRem at hw
    cases hn0 : nth ρ i with
    | none => rw [hn0] at hw; exact hw.elim
    | some o0 =>
    rw [hn0] at hw
    cases o0 <;> first
      | (exact hw.elim)
      | skip
    rename_i a0 os0
    obtain ⟨v0, hv0, r0⟩ := s.slot i _ (nth_eq hn0)
    cases r0 with
    | lst h0 _ _ =>
    refine ⟨_, hv0, .inl ⟨rfl, _, .inl (.inl h0)⟩, ρ, F, _, s, hw, fun d ρ1 F1 H1 y p s1 rd f1 => ?_⟩
    cases hn : nth ρ1 i with
    | none => rw [hn] at p; exact p.elim
    | some o1 =>
    rw [hn] at p
    cases o1 <;> first
      | (exact p.elim)
      | skip
    rename_i a os
    obtain ⟨us, j, rfl, hj, heq, p2⟩ := p
    obtain ⟨hv, ⟨xs, hx⟩, s2, m2⟩ := (s1.pushD rd).atSlot (nth_eq hn)
    rw [hv0] at hv
    cases hv
    have q := s2.pop.top
    cases q with
    | @lst _ xs' _ hx' z r =>
    rw [hx] at hx'
    cases hx'
    have rl := RepOL.data r
    have z2 : us.length ≤ sizeLine := by rwa [List.length_map] at z
    obtain ⟨s3, f3⟩ := s2.mutL (os' := (us.eraseIdx j).map O.fz) (RepOL.of (RepL.eraseIdx j rl)) (by rw [List.length_map]; exact Nat.le_trans (by rw [List.length_eraseIdx]; split <;> omega) z2) (fun b hb => by rw [O.ownedL_map] at hb; cases hb) (by rw [O.ownedL_map]; exact List.nodup_nil)
    refine ⟨_, xs, j, F1, d, rfl, hx, s1.sub, rd, by rw [rl.length]; exact hj, fun m v hm hv => ?_, ?_⟩
    · obtain ⟨u, hu, ru⟩ := rl.get' hv
      exact ⟨u, ru, heq m u hm hu⟩
    · obtain ⟨s4, m4⟩ := s3.set (i := i) hv0
      rw [List.set_set] at s4 m4
      rw [putC_eq] at p2
      exact k.nx _ _ _ _ p2 s4 (f1.trans ((f3.iff (fun b => (m2 b).symm) fun b hb => hb).less m4))⟩
end Tr
/-! targets that change a held list: x[i], y = e. -/
namespace Tr
open PySem PySem.Spec PyProof.Rows L2
def liftH (K : PySem.W.Frag) (g : WG) : TG := fun v σ H Q => ∃ ρ F d P, SR K ρ σ F H ∧ Rep K F v d ∧ g d ρ P ∧ ∀ ρ' F' σ' H', P ρ' → SR K ρ' σ' F' H' → Frm (ownedE ρ) F H (ownedE ρ') F' H' → Q σ' H'
def liftHs (K : PySem.W.Frag) (g : WGs) : TGs := fun vs σ H Q => ∃ ρ F ds P, SR K ρ σ F H ∧ RepL K F vs ds ∧ g ds ρ P ∧ ∀ ρ' F' σ' H', P ρ' → SR K ρ' σ' F' H' → Frm (ownedE ρ) F H (ownedE ρ') F' H' → Q σ' H'
structure XH (X : Cx) (e : Expr) (g : WG) : Prop where
  pg : PG X e (liftH X.K g)
structure XHs (X : Cx) (es : List Expr) (g : WGs) : Prop where
  pgs : PGs X es (liftHs X.K g)
/-- x[i] = .. -/
def gIx (k : Nat) (wi : WD) : WG := fun d ρ P => match nth ρ k with
  | some (.lst _ _) => wi ρ fun e ρ1 => match nth ρ1 k with
    | some (.lst a os) => ∃ n j, e = .int n ∧ ixN os.length n = some j ∧ putC ρ1 k (some (.lst a (os.set j (.fz d)))) P
    | _ => False
  | _ => False
section
variable {X : Cx} {e o i : Expr} {es : List Expr} {g : WG} {gs : WGs} {wi : WD} {pos : Pos} {k : Nat}
theorem xh_of {ix : List Nat} (h : XG X e ix g) : XH X e g := ⟨PG.imp h.pg fun v σ H Q ⟨ρ, F, d, P, s, r, hw, kk⟩ =>
  ⟨ρ, F, d, P, s, r, hw, fun ρ' σ' p s' t => kk ρ' F σ' H p s' (Frm.refl.less t.mem)⟩⟩
theorem xhs_nil : XHs X [] gsNil := ⟨PGs.imp pgs_nil fun vs σ H Q ⟨ρ, F, ds, P, s, r, hw, kk⟩ => by
  cases ds with
  | nil =>
    cases r
    exact ⟨rfl, kk _ _ _ _ hw s .refl⟩
  | cons d ds => exact hw.elim⟩
theorem xhs_cons (h1 : XH X e g) (h2 : XHs X es gs) (hs : (assignEach (e :: es) X.env).map (·.2) = assign e X.env :: (assignEach es X.env).map (·.2) := by rfl) : XHs X (e :: es) (gsCons g gs) := ⟨PGs.imp (pgs_cons h1.pg h2.pgs hs) fun vs σ H Q ⟨ρ, F, ds, P, s, r, hw, kk⟩ => by
  cases ds with
  | nil => exact hw.elim
  | cons d ds =>
    cases r with
    | cons rd rr =>
    refine ⟨_, _, rfl, ρ, F, d, _, s, rd, hw, fun ρ1 F1 σ1 H1 p s1 f1 => ?_⟩
    exact ⟨ρ1, F1, ds, P, s1, rr.mono f1.fz, p, fun ρ2 F2 σ2 H2 p2 s2 f2 => kk _ _ _ _ p2 s2 (f1.trans f2)⟩⟩
theorem xh_tup {n : Nat} {kp : Nat} (hc : X.calm = true) (h : XHs X es gs) (hn : (assignEach es X.env).length = n := by rfl) (hst : (assignEach es X.env).findIdx? (·.1) = none := by rfl) : XH X (.Tuple es kp pos) (gT n gs) :=
  ⟨PG.imp (pg_tup hc h.pgs hn hst) fun v σ H Q ⟨ρ, F, d, P, s, r, hw, kk⟩ => by
    cases r <;> first
      | (exact hw.elim)
      | skip
    rename_i h1 z rl _
    exact ⟨_, _, rfl, s.sub.sqT h1, rl.length.trans hw.1, ρ, F, _, P, s, rl, hw.2, kk⟩⟩
theorem xh_ix (ho : PE X o (tVar k)) (hi : XE X i wi)
    (ha : ∀ v, assign (.Subscript o i pos) X.env v = (do
      let ov ← holding [v] (eval o X.env)
      let iv ← holding [v, ov] (eval i X.env)
      standAt pos
      holding [v, ov, iv] (setItem ov iv v)
      release [v, ov, iv] []) := by intro _; rfl) : XH X (.Subscript o i pos) (gIx k wi) := ⟨PG.imp (pg_sub ho hi.pe set_list ha) fun v σ H Q ⟨ρ, F, d, P, s, r, hw, kk⟩ => by
  unfold gIx at hw
  cases hn0 : nth ρ k with
  | none => rw [hn0] at hw; exact hw.elim
  | some o0 =>
  rw [hn0] at hw
  cases o0 <;> first
    | (exact hw.elim)
    | skip
  obtain ⟨v0, hv0, r0⟩ := s.slot k _ (nth_eq hn0)
  refine ⟨_, hv0, ρ, F, _, s, hw, fun e ρ2 F2 H2 u p2 s2 r2 f2 => ?_⟩
  cases hn : nth ρ2 k with
  | none => rw [hn] at p2; exact p2.elim
  | some o1 =>
  rw [hn] at p2
  cases o1 <;> first
    | (exact p2.elim)
    | skip
  rename_i a os
  obtain ⟨n, j, rfl, hj, p3⟩ := p2
  cases r2
  obtain ⟨hv, ⟨xs, hx⟩, s4, m4⟩ := (s2.pushD (r.mono f2.fz)).atSlot (nth_eq hn)
  rw [hv0] at hv
  cases hv
  have q := s4.pop.top
  cases q with
  | lst hx' z rl =>
  rw [hx] at hx'
  cases hx'
  have n1 := List.nodup_append.mp s4.nd
  have n2 := List.nodup_append.mp n1.2.1
  obtain ⟨w1, w2⟩ := ownedL_set (o := .fz d) os j
  obtain ⟨s5, f5⟩ := s4.mutL (rl.setAt s4.top j) (by rw [List.length_set]; exact z) w1 (w2 (List.nodup_append.mpr ⟨n1.1, (List.nodup_cons.mp n2.1).2, fun b hb c hc => n1.2.2 b hb c (List.mem_append_left _ (List.mem_cons_of_mem _ hc))⟩))
  refine ⟨a, xs, n, j, rfl, rfl, hx, by rw [rl.length]; exact hj, ?_⟩
  obtain ⟨s6, m6⟩ := s5.set (i := k) hv0
  rw [List.set_set] at s6 m6
  rw [putC_eq] at p3
  exact kk _ _ _ _ p3 s6 (f2.trans ((f5.iff (fun b => (m4 b).symm) fun b hb => hb).less m6))⟩
theorem xs_asgH {st : Stmt} {w : WD} (h : PS X st (tAsg (liftD X.K w) (liftH X.K g))) : XS X st (wAsg g w) := ⟨PS.imp h fun D σ H ⟨ρ, F, E, s, hw, k⟩ =>
  ⟨ρ, F, _, s, hw, fun d ρ' F' H' v p s' r f => ⟨ρ', F', d, _, s', r, p, fun ρ2 F2 σ2 H2 p2 s2 f2 => k.nx _ _ _ _ p2 s2 (f.trans f2)⟩⟩⟩
end
end Tr
/-! dicts: stores, keys, displays. -/
namespace Tr
open PySem PySem.Spec PyProof.Rows L2
section
variable {κ : Type} [DecidableEq κ]
def getG (kvs : List (κ × D)) (k : κ) : Option D := (kvs.find? fun kv => decide (kv.1 = k)).map (·.2)
def putG (kvs : List (κ × D)) (k : κ) (v : D) : List (κ × D) :=
  if (kvs.any fun kv => decide (kv.1 = k)) = true then kvs.map (fun kv => if kv.1 = k then (kv.1, v) else kv) else kvs ++ [(k, v)]
theorem getG_pos {p : κ × D} {r : List (κ × D)} {k : κ} (e : p.1 = k) : getG (p :: r) k = some p.2 := by simp [getG, List.find?_cons, e]
theorem getG_neg {p : κ × D} {r : List (κ × D)} {k : κ} (e : ¬ p.1 = k) : getG (p :: r) k = getG r k := by simp [getG, List.find?_cons, e]
theorem length_putG (kvs : List (κ × D)) (k : κ) (v : D) : (putG kvs k v).length ≤ kvs.length + 1 := by
  unfold putG
  split
  · rw [List.length_map]; omega
  · rw [List.length_append]; exact Nat.le_refl _
end
def D.key : D → Option Key
  | .int i => some (.inl i)
  | .str x => some (.inr x)
  | _ => none
def D.keyL : List D → Option (List Key)
  | [] => some []
  | d :: ds => match d.key, D.keyL ds with
    | some k, some ks => some (k :: ks)
    | _, _ => none
def D.keys : D → Option (List Key)
  | .tup ds => D.keyL ds
  | _ => none
section
variable {K : PySem.W.Frag} {F H : Hp}
theorem Rep.key {v : V} {d : D} {k : Key} (r : Rep K F v d) (h : d.key = some k) : v = kV k ∧ KOk k ∧ d = kD k := by
  cases r <;> first
    | (cases h; done)
    | skip
  · cases h; exact ⟨rfl, True.intro, rfl⟩
  · rename_i z; cases h; exact ⟨rfl, z, rfl⟩
theorem RepL.keyL : ∀ {vs : List V} {ds : List D} {ks : List Key}, RepL K F vs ds → D.keyL ds = some ks → vs = ks.map kV ∧ (∀ j ∈ ks, KOk j) ∧ ks.length = ds.length
  | _, _, ks, .nil, h => by cases h; exact ⟨rfl, fun _ h => (by cases h), rfl⟩
  | _, _, ks, .cons (v := v) (d := d) (ds := ds) rv r, h => by
    unfold D.keyL at h
    cases h1 : d.key with
    | none => rw [h1] at h; cases h
    | some k =>
      cases h2 : D.keyL ds with
      | none => rw [h1, h2] at h; cases h
      | some ks' =>
        rw [h1, h2] at h
        cases h
        obtain ⟨e1, o1, _⟩ := rv.key h1
        obtain ⟨e2, o2, l2⟩ := RepL.keyL r h2
        refine ⟨by rw [e1, e2]; rfl, fun j hj => ?_, congrArg (· + 1) l2⟩
        rcases List.mem_cons.mp hj with q | q
        · rw [q]; exact o1
        · exact o2 j q
theorem Rep.keys {v : V} {d : D} {ks : List Key} (r : Rep K F v d) (h : d.keys = some ks) : ∃ b, v = .ref b ∧ F b = some (.tup (ks.map kV)) ∧ KsOk ks := by
  cases r <;> first
    | (cases h; done)
    | skip
  rename_i a xs ds hF z rl
  obtain ⟨e, o, l⟩ := rl.keyL h
  exact ⟨a, rfl, by rw [← e]; exact hF, by rw [l]; exact z, o⟩
theorem RepK.get : ∀ {es : List (Key × V)} {kvs : List (Key × D)} (k : Key), RepK K F es kvs → (valV es k = none ∧ getG kvs k = none) ∨ ∃ v d, valV es k = some v ∧ getG kvs k = some d ∧ Rep K F v d
  | _, _, k, .nil => .inl ⟨rfl, rfl⟩
  | _, _, k, .cons (k := j) (v := v) (d := d) q h r => by
    by_cases e : j = k
    · refine .inr ⟨v, d, valV_pos e, ?_, h⟩
      simp [getG, List.find?_cons, e]
    · rw [valV_neg e, getG_neg e]
      exact RepK.get k r
theorem RepT.get : ∀ {es : List (List Key × V)} {kvs : List (List Key × D)} (k : List Key), RepT K F es kvs → (valV es k = none ∧ getG kvs k = none) ∨ ∃ v d, valV es k = some v ∧ getG kvs k = some d ∧ Rep K F v d
  | _, _, k, .nil => .inl ⟨rfl, rfl⟩
  | _, _, k, .cons (k := j) (v := v) (d := d) q h r => by
    by_cases e : j = k
    · refine .inr ⟨v, d, valV_pos e, ?_, h⟩
      simp [getG, List.find?_cons, e]
    · rw [valV_neg e, getG_neg e]
      exact RepT.get k r
theorem RepK.isSome {es : List (Key × V)} {kvs : List (Key × D)} (r : RepK K F es kvs) (k : Key) : (valV es k).isSome = (getG kvs k).isSome := by
  rcases r.get k with ⟨e1, e2⟩ | ⟨v, d, e1, e2, _⟩ <;> rw [e1, e2] <;> rfl
theorem RepT.isSome {es : List (List Key × V)} {kvs : List (List Key × D)} (r : RepT K F es kvs) (k : List Key) : (valV es k).isSome = (getG kvs k).isSome := by
  rcases r.get k with ⟨e1, e2⟩ | ⟨v, d, e1, e2, _⟩ <;> rw [e1, e2] <;> rfl
theorem RepK.any : ∀ {es : List (Key × V)} {kvs : List (Key × D)} (k : Key), RepK K F es kvs → (es.any fun kv => decide (kv.1 = k)) = kvs.any fun kv => decide (kv.1 = k)
  | _, _, k, .nil => rfl
  | _, _, k, .cons _ _ r => by
    rw [List.any_cons, List.any_cons, RepK.any k r]
theorem RepT.any : ∀ {es : List (List Key × V)} {kvs : List (List Key × D)} (k : List Key), RepT K F es kvs → (es.any fun kv => decide (kv.1 = k)) = kvs.any fun kv => decide (kv.1 = k)
  | _, _, k, .nil => rfl
  | _, _, k, .cons _ _ r => by
    rw [List.any_cons, List.any_cons, RepT.any k r]
theorem RepK.repl {k : Key} {v : V} {d : D} (rv : Rep K F v d) : ∀ {es : List (Key × V)} {kvs : List (Key × D)}, RepK K F es kvs → RepK K F (es.map fun kv => if kv.1 = k then (kv.1, v) else kv) (kvs.map fun kv => if kv.1 = k then (kv.1, d) else kv)
  | _, _, .nil => .nil
  | _, _, .cons (k := j) q h r => by
    rw [List.map_cons, List.map_cons]
    by_cases e : j = k
    · simp only [e, if_true]; exact .cons (e ▸ q) rv (RepK.repl rv r)
    · simp only [e, if_false]; exact .cons q h (RepK.repl rv r)
theorem RepT.repl {k : List Key} {v : V} {d : D} (rv : Rep K F v d) : ∀ {es : List (List Key × V)} {kvs : List (List Key × D)}, RepT K F es kvs → RepT K F (es.map fun kv => if kv.1 = k then (kv.1, v) else kv) (kvs.map fun kv => if kv.1 = k then (kv.1, d) else kv)
  | _, _, .nil => .nil
  | _, _, .cons (k := j) q h r => by
    rw [List.map_cons, List.map_cons]
    by_cases e : j = k
    · simp only [e, if_true]; exact .cons (e ▸ q) rv (RepT.repl rv r)
    · simp only [e, if_false]; exact .cons q h (RepT.repl rv r)
theorem RepK.snoc {k : Key} {v : V} {d : D} (qk : KOk k) (rv : Rep K F v d) : ∀ {es : List (Key × V)} {kvs : List (Key × D)}, RepK K F es kvs → RepK K F (es ++ [(k, v)]) (kvs ++ [(k, d)])
  | _, _, .nil => .cons qk rv .nil
  | _, _, .cons q h r => .cons q h (RepK.snoc qk rv r)
theorem RepT.snoc {k : List Key} {v : V} {d : D} (qk : KsOk k) (rv : Rep K F v d) : ∀ {es : List (List Key × V)} {kvs : List (List Key × D)}, RepT K F es kvs → RepT K F (es ++ [(k, v)]) (kvs ++ [(k, d)])
  | _, _, .nil => .cons qk rv .nil
  | _, _, .cons q h r => .cons q h (RepT.snoc qk rv r)
theorem RepK.put {es : List (Key × V)} {kvs : List (Key × D)} {k : Key} {v : V} {d : D} (r : RepK K F es kvs) (qk : KOk k) (rv : Rep K F v d) : RepK K F (putK es k v) (putG kvs k d) := by
  unfold putK putG
  rw [r.any k]
  split
  · exact r.repl rv
  · exact r.snoc qk rv
theorem RepT.put {es : List (List Key × V)} {kvs : List (List Key × D)} {k : List Key} {v : V} {d : D} (r : RepT K F es kvs) (qk : KsOk k) (rv : Rep K F v d) : RepT K F (putK es k v) (putG kvs k d) := by
  unfold putK putG
  rw [r.any k]
  split
  · exact r.repl rv
  · exact r.snoc qk rv
end

/-! ### k in d -/
def semInD (neg : Bool) (d e : D) (P : D → Prop) : Prop := match e with
  | .dct kvs => ∃ k, d.key = some k ∧ P (.bl (if neg then !(getG kvs k).isSome else (getG kvs k).isSome))
  | .dcT kvs => ∃ ks, d.keys = some ks ∧ P (.bl (if neg then !(getG kvs ks).isSome else (getG kvs ks).isSome))
  | e => semInB neg d e P
def rInD (K : PySem.W.Frag) (neg : Bool) : R2 := fun x y H Q => rInT K neg x y H Q ∨ ∃ a o, y = .ref a ∧ DGet H a x o ∧ Q (.bl (if neg then !o.isSome else o.isSome)) H
theorem op_inD {X : Cx} (hu : X.A.units + 64 < cLine) : OpR X (compareOp .In) (rInD X.K false) := op_inT.or (by
  intro pins s σ H x y v u Q I rx ry h
  obtain ⟨a, o, rfl, g, q⟩ := h
  obtain rfl : u = Value.ref a := ry
  exact d_in (by omega) I g rx fun s3 I3 => ⟨.bl o.isSome, H, I3, rfl, q⟩)
theorem op_notInD {X : Cx} (hu : X.A.units + 64 < cLine) : OpR X (compareOp .NotIn) (rInD X.K true) := op_notInT.or (by
  intro pins s σ H x y v u Q I rx ry h
  obtain ⟨a, o, rfl, g, q⟩ := h
  obtain rfl : u = Value.ref a := ry
  exact d_notIn (by omega) I g rx fun s3 I3 => ⟨.bl (!o.isSome), H, I3, rfl, q⟩)
theorem sem_inD {K : PySem.W.Frag} (neg : Bool) : SemS K (rInD K neg) (semInD neg) := by
  intro F H x y d e P Q sb rx ry hs k
  cases e <;> first
    | (exact .inl (sem_in neg F H x y d _ P Q sb rx ry hs k))
    | skip
  · obtain ⟨kk, hk, h⟩ := hs
    obtain ⟨rfl, ok, _⟩ := rx.key hk
    cases ry with
    | @dct a es _ hF z r =>
    refine .inr ⟨a, valV es kk, rfl, .inl ⟨es, kk, sb.dK hF, rfl, rfl⟩, ?_⟩
    rw [r.isSome kk]
    exact k _ _ h fun _ => .bl _
  · obtain ⟨kk, hk, h⟩ := hs
    obtain ⟨b, rfl, hb, ok⟩ := rx.keys hk
    cases ry with
    | @dcT a es _ hF z r =>
    refine .inr ⟨a, valV es kk, rfl, .inr ⟨es, kk, b, sb.dT hF, rfl, sb.tup hb, rfl⟩, ?_⟩
    rw [r.isSome kk]
    exact k _ _ h fun _ => .bl _

/-! ### a held dict changed -/
section
variable {K : PySem.W.Frag} {F H : Hp} {ρ : TEnv} {σ : L2.St}
/-- a held thing of one object, no other held thing within, is written -/
theorem SR.mut1 {a : Addr} {o o' : O} {u : HO} (s : SR K (some o :: ρ) (some (.ref a) :: σ) F H) (ho : o.owned = [a]) (ho' : o'.owned = [a]) (r : RepO K F (upd H a u) (.ref a) o') :
    SR K (some o' :: ρ) (some (.ref a) :: σ) F (upd H a u) ∧ Frm (ownedE (some o :: ρ)) F H (ownedE (some o' :: ρ)) F (upd H a u) := by
  have n1 := List.nodup_append.mp s.nd
  have ha : a ∈ slotOwned (some o) := by show a ∈ o.owned; rw [ho]; exact List.mem_singleton_self _
  have fa : F a = none := s.own a (List.mem_append_left _ ha)
  have nr : a ∉ ownedE ρ := fun h => n1.2.2 a ha a h rfl
  have sb : Sb F (upd H a u) := fun b w h => by
    rw [upd_ne (fun e => by subst e; rw [fa] at h; cases h)]
    exact s.sub b w h
  have s0 := s.pop
  have sρ : SR K ρ σ F (upd H a u) := ⟨sb, s0.len, fun i w e => by
    obtain ⟨v, hv, q⟩ := s0.slot i w e
    exact ⟨v, hv, q.mono (fun _ _ h => h) fun b hb x hx => by
      rw [upd_ne (fun e' => nr (by subst e'; exact mem_ownedE e b hb))]; exact hx⟩, s0.own, s0.nd⟩
  have nf : ∀ ob w, H a ≠ some (.frz ob w) := s.top.nofrz a ha
  refine ⟨sρ.push r (fun b hb => ?_) ?_, fun _ _ h => h, fun b w hb _ hf e => ⟨?_, hf⟩, fun b hb => .inl ?_, fun b w e => ?_, fun b ob w e => ?_⟩
  · rw [ho'] at hb
    rw [List.mem_singleton.mp hb]; exact fa
  · rw [ho']
    exact List.nodup_cons.mpr ⟨nr, s0.nd⟩
  · rw [upd_ne (fun q => hb (by subst q; exact List.mem_append_left _ ha))]; exact e
  · rcases List.mem_append.mp hb with h | h
    · have h : b ∈ o'.owned := h
      rw [ho'] at h
      rw [List.mem_singleton.mp h]
      exact List.mem_append_left _ ha
    · exact List.mem_append_right _ h
  · by_cases q : b = a
    · subst q; exact ⟨_, upd_same⟩
    · exact ⟨w, by rw [upd_ne q]; exact e⟩
  · rw [upd_ne (fun q => nf ob w (by subst q; exact e))]; exact e
end
/-- x[k] = e, x a held dict -/
def wSetK (i : Nat) (wk w : WD) : WS := fun ρ E => w ρ fun v ρ1 => match nth ρ1 i with
  | some _ => wk ρ1 fun d ρ2 => match nth ρ2 i with
    | some (.dcT a kvs) => ∃ ks, d.keys = some ks ∧ kvs.length < sizeLine ∧ putC ρ2 i (some (.dcT a (putG kvs ks v))) E.nx
    | some (.dct a kvs) => ∃ k, d.key = some k ∧ kvs.length < sizeLine ∧ putC ρ2 i (some (.dct a (putG kvs k v))) E.nx
    | _ => False
  | none => False
section
variable {X : Cx} {st : Stmt} {o e ei : Expr} {wk w : WD} {pos pos' : Pos} {i : Nat}
theorem xs_setK (hu : X.A.units + 64 < cLine) (ho : PE X o (tVar i)) (hk : XE X ei wk) (hv : XE X e w) (hs : swapsWith e (some (.Subscript o ei pos')) pos.line X.env = pure false := by rfl) : XS X (.Assign [.Subscript o ei pos'] e pos) (wSetK i wk w) :=
  ⟨PS.imp (ps_dput (by omega) ho hk.pe hv.pe hs) fun Dn σ H ⟨ρ, F, E, s, hw, k⟩ => by
    refine ⟨ρ, F, _, s, hw, fun v ρ1 F1 H1 y p s1 rv f1 => ?_⟩
    cases hn1 : nth ρ1 i with
    | none => rw [hn1] at p; exact p.elim
    | some o1 =>
    rw [hn1] at p
    obtain ⟨x0, hx0, r0⟩ := s1.slot i _ (nth_eq hn1)
    refine ⟨x0, hx0, ρ1, F1, _, s1, p, fun d ρ2 F2 H2 z p2 s2 rd f2 => ?_⟩
    cases hn2 : nth ρ2 i with
    | none => rw [hn2] at p2; exact p2.elim
    | some o2 =>
    rw [hn2] at p2
    obtain ⟨x, hx, s3, m3⟩ := s2.take (nth_eq hn2)
    rw [hx0] at hx
    cases hx
    have rv2 := rv.mono f2.fz
    cases o2 <;> first
      | (exact p2.elim)
      | skip
    · rename_i a kvs
      obtain ⟨kk, hkk, hl, p3⟩ := p2
      obtain ⟨rfl, ok, _⟩ := rd.key hkk
      have q := s3.top
      cases q with
      | @dct _ es _ hH lz rk =>
      have r2 := rk.put ok rv2
      obtain ⟨s4, f4⟩ := s3.mut1 (o' := .dct a (putG kvs kk v)) (u := .dK (putK es kk y)) rfl rfl (.dct upd_same (Nat.le_trans (length_putG _ _ _) hl) r2)
      obtain ⟨s5, m5⟩ := s4.set (i := i) hx0
      rw [List.set_set] at s5 m5
      rw [putC_eq] at p3
      exact ⟨a, _, rfl, .inl ⟨es, kk, hH, rfl, by rw [rk.length]; exact hl, rfl⟩, k.nx _ _ _ _ p3 s5 (f1.trans (f2.trans ((f4.iff (fun b => m3 b) fun b hb => hb).less m5)))⟩
    · rename_i a kvs
      obtain ⟨kk, hkk, hl, p3⟩ := p2
      obtain ⟨b, rfl, hb, ok⟩ := rd.keys hkk
      have q := s3.top
      cases q with
      | @dcT _ es _ hH lz rk =>
      have r2 := rk.put ok rv2
      obtain ⟨s4, f4⟩ := s3.mut1 (o' := .dcT a (putG kvs kk v)) (u := .dT (putK es kk y)) rfl rfl (.dcT upd_same (Nat.le_trans (length_putG _ _ _) hl) r2)
      obtain ⟨s5, m5⟩ := s4.set (i := i) hx0
      rw [List.set_set] at s5 m5
      rw [putC_eq] at p3
      exact ⟨a, _, rfl, .inr ⟨es, kk, b, hH, rfl, s2.sub.tup hb, by rw [rk.length]; exact hl, rfl⟩, k.nx _ _ _ _ p3 s5 (f1.trans (f2.trans ((f4.iff (fun b => m3 b) fun b hb => hb).less m5)))⟩⟩
end

/-! ### what stands in the heap as a tuple, told to be data -/
def addT (F : Hp) (b : Addr) (xs : List V) : Hp := match F b with
  | some _ => F
  | none => upd F b (.tup xs)
def addTs (F : Hp) : List (Addr × List V) → Hp
  | [] => F
  | q :: l => addTs (addT F q.1 q.2) l
section
variable {K : PySem.W.Frag} {F H : Hp} {ρ : TEnv} {σ : L2.St}
theorem SR.addT {b : Addr} {xs : List V} (s : SR K ρ σ F H) (h : H b = some (.tup xs)) : SR K ρ σ (addT F b xs) H ∧ (∀ L, Frm L F H L (addT F b xs) H) ∧ (addT F b xs) b = some (.tup xs) := by
  cases hF : F b with
  | some o =>
    rw [show Tr.addT F b xs = F by unfold Tr.addT; rw [hF]]
    refine ⟨s, fun L => .refl, ?_⟩
    rcases s.sub b o hF with z | ⟨_, _, z⟩
    · rw [h] at z
      rw [hF, ← Option.some.inj z]
    · rw [h] at z
      cases z
  | none =>
    rw [show Tr.addT F b xs = upd F b (.tup xs) by unfold Tr.addT; rw [hF]]
    have su : Sub F (upd F b (.tup xs)) := fun c u e => by
      rw [upd_ne (ne_of_none e hF)]; exact e
    refine ⟨⟨fun c u e => ?_, s.len, fun i o e => ?_, fun a ha => ?_, s.nd⟩, fun L => ⟨su, fun c u _ nt hf e => ⟨e, ?_⟩, fun _ h => .inl h, fun _ o h => ⟨o, h⟩, fun _ _ _ h => h⟩, upd_same⟩
    · by_cases q : c = b
      · subst q
        rw [upd_same] at e
        rw [← Option.some.inj e]
        exact .inl h
      · rw [upd_ne q] at e
        exact s.sub c u e
    · obtain ⟨v, hv, r⟩ := s.slot i o e
      exact ⟨v, hv, r.mono su fun _ _ _ h => h⟩
    · by_cases q : a = b
      · subst q
        exact absurd True.intro (s.ntE a ha _ h)
      · rw [upd_ne q]
        exact s.own a ha
    · by_cases q : c = b
      · subst q
        rw [h] at e
        rw [← Option.some.inj e] at nt
        exact absurd True.intro nt
      · rw [upd_ne q]
        exact hf
theorem SR.addTs : ∀ {l : List (Addr × List V)} {F : Hp}, (∀ q ∈ l, H q.1 = some (.tup q.2)) → SR K ρ σ F H → SR K ρ σ (Tr.addTs F l) H ∧ (∀ L, Frm L F H L (Tr.addTs F l) H) ∧ ∀ q ∈ l, (Tr.addTs F l) q.1 = some (.tup q.2)
  | [], F, _, s => ⟨s, fun _ => .refl, fun _ h => (by cases h)⟩
  | q :: l, F, h, s => by
    obtain ⟨s1, f1, e1⟩ := s.addT (h q List.mem_cons_self)
    obtain ⟨s2, f2, e2⟩ := SR.addTs (l := l) (fun r hr => h r (List.mem_cons_of_mem _ hr)) s1
    refine ⟨s2, fun L => (f1 L).trans (f2 L), fun r hr => ?_⟩
    rcases List.mem_cons.mp hr with e | m
    · rw [e]
      exact (f2 []).fz _ _ e1
    · exact e2 r m
/-- the keys of a dict, as a new list -/
theorem keys_rep {kvs : List (List Key × D)} : ∀ {es : List (List Key × V)} {kvs : List (List Key × D)} {bs : List Addr} {F : Hp}, RepT K F es kvs → IsKeys H es bs → (∀ q ∈ bs.zip (es.map fun e => e.1.map kV), F q.1 = some (.tup q.2)) → RepL K F (bs.map V.ref) (kvs.map fun q => kT q.1)
  | _, _, _, _, .nil, .nil, _ => .nil
  | _, _, _, _, .cons q h r, .cons hb t, hF => .cons (.tup (hF _ List.mem_cons_self) (by rw [List.length_map]; exact q.1) (kDs_rep q.2)) (keys_rep (kvs := []) r t fun x hx => hF x (List.mem_cons_of_mem _ hx))
theorem isKeys_zip : ∀ {es : List (List Key × V)} {bs : List Addr}, IsKeys H es bs → ∀ q ∈ bs.zip (es.map fun e => e.1.map kV), H q.1 = some (.tup q.2)
  | _, _, .nil, _, h => by cases h
  | _, _, .cons hb t, q, h => by
    rcases List.mem_cons.mp h with e | m
    · rw [e]; exact hb
    · exact isKeys_zip t q m
theorem RepT.mono' {F F' : Hp} (s : Sub F F') {es : List (List Key × V)} {kvs : List (List Key × D)} (r : RepT K F es kvs) : RepT K F' es kvs := RepT.mono s r
end
/-- list(x), x held: its keys, or its items -/
def wListH (i : Nat) : WO := fun ρ P => match nth ρ i with
  | some (.dcT _ kvs) => ∀ b, P (.lst b ((kvs.map fun q => kT q.1).map .fz)) ρ
  | some (.lst _ os) => ∃ us : List D, os = us.map .fz ∧ ∀ b, P (.lst b (us.map .fz)) ρ
  | _ => False
section
variable {X : Cx} {e : Expr} {p pos : Pos} {i : Nat}
theorem xo_listH (hc : X.calm = true) (hg : Gl X "list") (hm : X.mg "list" = none) (h : PE X e (tVar i))
    (he : starEach [e] X.env = (false, eval e X.env) :: starEach [] X.env := by rfl) (hpl : (backTo pos (starEach [] X.env)).any (·.1) = false := by rfl) : XO X (.Call (.Name "list" p) [e] [] pos) (wListH i) :=
  ⟨PE.imp (pe_callTy (call_list_of.or (call_list_dT hc)) hg hm (by decide +kernel) (pa_cons h pa_nil he) (by decide) (by decide) he hpl) fun σ H Q ⟨ρ, F, P, s, hw, k⟩ => by
    unfold wListH at hw
    cases hn : nth ρ i with
    | none => rw [hn] at hw; exact hw.elim
    | some o =>
    rw [hn] at hw
    obtain ⟨v, hv, ro⟩ := s.slot i _ (nth_eq hn)
    cases o <;> first
      | (exact hw.elim)
      | skip
    · rename_i a os
      obtain ⟨us, rfl, p2⟩ := hw
      cases ro with
      | @lst _ xs _ hx z rl =>
      refine ⟨_, hv, .inl ⟨a, xs, rfl, .inl (.inl (.inl hx)), fun l hl => ?_⟩⟩
      obtain ⟨s2, f2⟩ := Res.lst (K := X.K) hl (by rw [List.length_map] at z; exact z) rl.data ρ σ s
      exact k _ _ _ _ _ (p2 l) s2 f2
    · rename_i a kvs
      cases ro with
      | @dcT _ es _ hx z rk =>
      refine ⟨_, hv, .inr ⟨a, es, rfl, .inl hx, fun l bs hl hk => ?_⟩⟩
      obtain ⟨s1, f1, g1⟩ := s.addTs (isKeys_zip hk)
      have r2 := keys_rep (kvs := []) (rk.mono' (f1 []).fz) hk g1
      obtain ⟨s2, f2⟩ := Res.lst (K := X.K) hl (by rw [List.length_map]; exact z) r2 ρ σ s1
      exact k _ _ _ _ _ (hw l) s2 ((f1 _).trans f2)⟩
end

/-! ### {k: v}, k a tuple -/
def tDisp1T (tk tv : TE) : TE := fun σ H Q => ∀ p, H p = none → tk σ (upd H p (.dT [])) fun x H1 => tv σ H1 fun y H2 => ∃ (b : Addr) (ks : List Key), x = .ref b ∧ H2 b = some (.tup (ks.map kV)) ∧ H2 p = some (.dT []) ∧ Q (.ref p) (upd H2 p (.dT [(ks, y)]))
theorem pe_disp1T {X : Cx} {kx vx : Expr} {pos : Pos} {tk tv : TE} (hu : X.A.units + 64 < cLine) (hk : PE X kx tk) (hv : PE X vx tv) : PE X (.Dict [some kx] [vx] pos) (tDisp1T tk tv) := by
  refine ⟨fun pins s σ H Q I q => ?_⟩
  have hn := I.hok.fresh (Nat.le_refl s.heap.objs.size)
  have I1 := I.laid (a := s.heap.objs.size) (o := .dT []) (h' := s.heap.push { cls := .type "dict", data := .dict #[] }) (t' := s.toks) (fun _ _ q => Heap.get?_push_of_some _ q) (Nat.le_refl _) (dt_empty s.heap I.big)
  rw [arm_eval_Dict, zip_pairTrees [some kx] [vx] X.env pos rfl rfl, dictDisplay_pairs _ (by simp [pairTrees]) (by simp [pairTrees])]
  refine wpAny_bind (wpAny_standAt (wpAny_bind ?_))
  unfold subDict
  refine wpAny_bind (wpAny_alloc ?_)
  refine wpAny_bind (wpAny_holding ?_)
  rw [if_pos (by simp [pairTrees])]
  refine wpAny_bind (pairTrees_cons_walk (thn (hk.run pins _ σ _ _ I1 (q _ hn)) fun u s1 ⟨x, H1, I2, rx, q1⟩ => thn (hv.run pins s1 σ H1 _ I2 q1) fun w2 s2 ⟨y, H2, I3, ry, b, ks, ex, hb, hp, q2⟩ => pairTrees_nil_walk ?_))
  subst ex
  cases (show u = Value.ref b from rx)
  obtain ⟨z, hd, xs, rel, dd⟩ := dt_of I3.hok hp
  cases rel
  refine wpAny_holding ?_
  refine wpAny_bind ?_
  rw [List.forIn_cons]
  refine wpAny_bind (wpAny_bind (wpAny_dictSet_heap (hsz := Nat.zero_le _) (show X.A.units < cLine by omega) (key_of I3.hok hb) dd fun h' dd' hs => wpAny_pure ?_))
  dsimp only
  rw [List.forIn_nil]
  refine wpAny_pure (wpAny_pure (wpAny_pure (wpAny_pure ?_)))
  obtain ⟨q, es, ep, hq, h2, h3, h4, _, h5⟩ := dd'
  refine ⟨.ref s.heap.objs.size, _, d_write (ob := .dT [(ks, y)]) I3 (by rw [hp]; exact True.intro) hs ⟨q, hq⟩ ⟨by show 1 ≤ sizeLine; decide, hd, _, KT.keeps (KT.put (kvs := []) (xs := []) .nil ks hb ry) fun c ys ec => ?_, q, es, ep, hq, h2, h3, h4, h5⟩, rfl, q2⟩
  rw [upd_ne (ne_of ec hp (fun z => nomatch z))]
  exact ec
/-- {k: v}, one pair, k a tuple -/
def wDisp1T (wk wv : WD) : WO := fun ρ P => wk ρ fun d ρ1 => wv ρ1 fun e ρ2 => ∃ ks, d.keys = some ks ∧ ∀ a, P (.dcT a [(ks, e)]) ρ2
theorem xo_disp1T {X : Cx} {kx vx : Expr} {pos : Pos} {wk wv : WD} (hu : X.A.units + 64 < cLine) (hk : XE X kx wk) (hv : XE X vx wv) : XO X (.Dict [some kx] [vx] pos) (wDisp1T wk wv) :=
  ⟨PE.imp (pe_disp1T hu hk.pe hv.pe) fun σ H Q ⟨ρ, F, P, s, hw, k⟩ p hp => by
    obtain ⟨s0, f0⟩ := s.newO (u := .dT []) (o := .dcT p []) hp (.dcT upd_same (Nat.zero_le _) .nil) rfl
    refine ⟨ρ, F, _, s0.pop, hw, fun d ρ1 F1 H1 x p1 s1 rd f1 => ?_⟩
    obtain ⟨t1, g1⟩ := s0.frame s1 f1
    refine ⟨ρ1, F1, _, s1, p1, fun e ρ2 F2 H2 y p2 s2 re f2 => ?_⟩
    obtain ⟨t2, g2⟩ := t1.frame s2 f2
    obtain ⟨ks, hks, p3⟩ := p2
    obtain ⟨b, rfl, hb, ok⟩ := (rd.mono f2.fz).keys hks
    have q := t2.top
    cases q with
    | @dcT _ es _ hH lz rk =>
    cases rk
    obtain ⟨t3, g3⟩ := t2.mut1 (o' := .dcT p [(ks, e)]) (u := .dT [(ks, y)]) rfl rfl (.dcT upd_same (by show 1 ≤ sizeLine; decide) (.cons ok re .nil))
    exact ⟨b, ks, rfl, s2.sub.tup hb, hH, k _ _ _ _ _ (p3 p) t3 (f0.trans (g1.trans (g2.trans g3)))⟩⟩
end Tr
/-! the law's own def at the outermost call, where no repr runs; repr of plain data. -/
namespace Tr
open PySem PySem.Spec PyProof.Rows L2
/-- a def of one parameter, called outermost -/
structure TopOk (P : Program) (w : World) (K : PySem.W.Frag) (mg : Str → Option Value) (base : Heap) (f : Addr) (fd : FuncData) (x : Str) (sp : Sp) : Prop where
  run : ∀ (s : Shared) (H : Hp) (u : Value) (v : V) (Q : VK), Env0 P w K mg base callerA [] s H → BindsTo s fd ⟨[u], []⟩ [(x, u)] → RelV v u → sp [v] H Q (fun _ _ _ => False) →
    codeAny (model P w) callerA (.call (.ref f) ⟨[u], []⟩) (CR CX0 [] P w H s Q fun _ _ _ => False) s
section
variable {P : Program} {w : World} {K : PySem.W.Frag} {mg : Str → Option Value} {base : Heap}
theorem top_tree {y qual x : Str} {st : Stmt} {f : Addr} {fd : FuncData} {N : List Str} {k : Nat} {sp : SpT} {wb : WS} (Fn : Fun K y qual st f fd) (S : FnScope N [x] (defScope st)) (hr : Room (k + 1) callerA)
    (body : ∀ (cdv : Value) (A : Around) (outer : List Env) (s : Shared) (H : Hp) (E : XK), Room k (A.deeper (envOfC qual (defScope st) s.heap.objs.size f cdv)) → (A.deeper (envOfC qual (defScope st) s.heap.objs.size f cdv)).guards = some [] →
      XSs (cxOf CX0 P w K mg base N qual (defScope st) f cdv A outer s H E).nox (defBody st) wb)
    (does : ∀ os P, sp os P → wb (start0 N.length os) (endsOf os P)) : TopOk P w K mg base f fd x (liftSp K sp) := by
  obtain ⟨oc, od, kV, doc, pm, an, cdv, ct, osl, rfl, lk, hcd⟩ := Fn.ex
  constructor
  intro s H u v Q e0 hb rv hsp
  have old : ∀ b o, base.get? b = some o → s.heap.get? b = some o := fun b o e => (e0.bs b o e).1
  have kin : K.In s.heap := e0.mod.kin.keeps old
  refine codeAny_call_function hr.depth (kin _ _ lk) rfl S.co S.gen rfl (PySem.W.codeRec_of kin hcd) (hb _ _ _ _ (wpAny_newFunctionEnv_cells S.kind (fun q hq => ?_) fun env he s1 ic => ?_))
  · have eq : q = (x, u) := List.mem_singleton.mp hq
    subst eq
    exact (S.par x List.mem_cons_self).imp id fun c => ⟨c, PySem.W.cellsFrom_some _ _ _ (.inl c)⟩
  subst he
  obtain ⟨t, pt, hq⟩ := tree_ex (body cdv callerA [] s H (fun _ _ _ => False) (hr.deeper _) rfl) does hsp
  have I0 := inv_start (CX := CX0) (E := fun _ _ _ => False) S hr.hd e0 (show [v].length = [x].length from rfl) (.cons rv .nil) ic
  refine ⟨(e0.mod.nolimit.keeps old).keeps ic.toInCall.keep, codeAny_func (wpAny_mono (pt.nox.run [] s1 (L2.start N [v]) H _ I0 hq) (fun fl s2 h2 => ?_) fun _ _ h => h)⟩
  cases fl <;> first
    | (obtain ⟨σ', H', J, q⟩ := h2; exact ⟨.non, H', J.os, J.bare, J.base, J.hok, rfl, q⟩)
    | (obtain ⟨_, _, _, q⟩ := h2; exact q.elim)
    | (obtain ⟨r, σ', H', J, rr, q⟩ := h2; exact ⟨r, H', J.os, J.bare, J.base, J.hok, rr, q⟩)
end
/-- the law called with its script -/
theorem top_call {P : Program} {w : World} {K : PySem.W.Frag} {mg mb : Str → Option Value} {f a : Addr} {fd : FuncData} {x : Str} {sp : Sp} {z : Shared} {vs : List Value} {ns : List Int} (kin : K.In z.heap) (gl : z.heap.Ns mainGlobals mg) (bl : z.heap.Ns builtinsNs mb)
    (bb : ∀ x : Str, x ≠ "__name__" → mb x = bootBuiltins x) (lim : z.heap.NoLimit) (gens : z.gens = #[]) (ha : z.heap.get? a = some { cls := .type "list", data := .seq vs.toArray }) (iar : IntsAre vs ns) (len : ns.length ≤ sizeLine)
    (T : ∀ base : Heap, K.In base → base.Ns mainGlobals mg → TopOk P w K mg base f fd x sp) (bind : ∀ (s : Shared) (u : Value), BindsTo s fd ⟨[u], []⟩ [(x, u)]) (law : ∀ H : Hp, SqL K H a (ns.map V.int) → sp [.ref a] H (fun v _ => v = .bl true) fun _ _ _ => False) :
    codeAny (model P w) callerA (.call (.ref f) ⟨[.ref a], []⟩) (fun r t => r = .ok (.ret (.bool true)) ∧ OldK z.heap t.heap ∧ t.os = z.os ∧ AllBare t.gens) z := by
  -- the script alone is tracked, where it is no object of the text's own
  let G : Hp := fun b => if b = a ∧ K.lookup a = none then some (.frz { cls := .type "list", data := .seq vs.toArray } (.lst (ns.map V.int))) else none
  have inG : ∀ {b : Addr} {u : HO}, G b = some u → b = a ∧ K.lookup a = none ∧ u = .frz { cls := .type "list", data := .seq vs.toArray } (.lst (ns.map V.int)) := fun {b u} e => by
    by_cases q : b = a ∧ K.lookup a = none
    · have e := (if_pos q).symm.trans e
      exact ⟨q.1, q.2, (Option.some.inj e).symm⟩
    · have e := (if_neg q).symm.trans e
      cases e
  have rel := vals_ints iar
  have hG : HOk P w G z.heap := fun b u e => by
    obtain ⟨rfl, _, rfl⟩ := inG e
    exact ⟨ha, by rw [List.length_map]; exact len, vs, _, rel, ha⟩
  have sq : SqL K G a (ns.map V.int) := by
    cases hk : K.lookup a with
    | none => exact .inl (.inr ⟨_, if_pos ⟨rfl, hk⟩⟩)
    | some o =>
      have e := kin a o hk
      rw [ha] at e
      cases e
      exact .inr ⟨_, vs.toArray, _, hk, rfl, rfl, rfl, by rw [List.size_toArray, iar.length]; exact len, by simpa using rel⟩
  have put : ∀ {b : Addr} {o : Obj}, z.heap.get? b = some o → G b = none → (hidT z.heap G).get? b = some o := fun e n => hidT_get e n
  have nsAt : ∀ {b : Addr} {m : Str → Option Value}, z.heap.Ns b m → (hidT z.heap G).Ns b m := fun {b m} ⟨o, es, ep, e, d, rest⟩ => ⟨o, es, ep, put e (by
    cases q : G b with
    | none => rfl
    | some u =>
      obtain ⟨rfl, _, _⟩ := inG q
      rw [ha] at e
      cases e
      cases d), d, rest⟩
  have kinT : K.In (hidT z.heap G) := fun b o e => put (kin b o e) (by
    cases q : G b with
    | none => rfl
    | some u =>
      obtain ⟨rfl, n, _⟩ := inG q
      rw [n] at e
      cases e)
  have mo : Mod K mg (hidT z.heap G) := ⟨kinT, nsAt gl, ⟨mb, nsAt bl, bb⟩, by obtain ⟨mc, l1, l2⟩ := lim; exact ⟨mc, nsAt l1, l2⟩⟩
  have ent : Env0 P w K mg (hidT z.heap G) callerA [] z G :=
    { frames := rfl, mod := mo, bs := fun b o e => of_hidT e, bsz := Nat.le_of_eq (hidT_size _ _), funs := trivial, frf := fun b h => absurd (show b ∈ ([] : List Addr) from h) (by simp), hok := hG, bare := .of_eq gens }
  refine codeAny_mono ((T _ kinT (nsAt gl)).run z G (.ref a) (.ref a) _ ent (bind z _) rfl (law G sq)) fun r t h => ?_
  cases r with
  | error e => exact False.elim h
  | ok fl =>
    cases fl <;> first
      | exact False.elim h
      | skip
    obtain ⟨v, H', os, bare, un, ok', rv, rfl⟩ := h
    obtain rfl := (show _ = Value.bool true from rv)
    refine ⟨rfl, OldK.of_keep fun b o e => ?_, os, bare⟩
    cases q : G b with
    | none => exact un.keep b o e q (fun h => absurd (show b ∈ ([] : List Addr) from h) (by simp)) (by simp)
    | some u =>
      obtain ⟨rfl, _, rfl⟩ := inG q
      obtain ⟨g1, _⟩ := hG _ _ q
      obtain ⟨g2, _⟩ := ok' _ _ (un.frzs _ _ _ q)
      exact g2.trans (g1.symm.trans e)
/-- the law's goal -/
theorem top_of {l : PySem.W.OpenLaw} {n : Nat} {q : Program} {loose : List Str} {XP : (Str → Option Value) → Heap → Prop} {YP : World → Heap → Prop} {d : DefRec} {K : Params → PySem.W.Frag} {sp : PySem.W.Frag → Sp} {x : Str} (hn : l.most = some n) (hn2 : n ≤ sizeLine) (hdf : d.params.defaults = [])
    (hY : ∀ (w : World) (h : Heap), YP w h → (K w.params).In h)
    (F : ∀ (w : World) (mg : Str → Option Value) (fa : Addr) (h : Heap), (K w.params).In h → h.Ns mainGlobals mg → mg d.name = some (.ref fa) →
      ∃ fd : FuncData, (∀ (s : Shared) (u : Value), BindsTo s fd ⟨[u], []⟩ [(x, u)]) ∧ ∀ base : Heap, (K w.params).In base → base.Ns mainGlobals mg → TopOk l.prog w (K w.params) mg base fa fd x (sp (K w.params)))
    (law : ∀ (K : PySem.W.Frag) (H : Hp) (a : Addr) (ns : List Int), ns.length ≤ n → SqL K H a (ns.map V.int) → sp K [.ref a] H (fun v _ => v = .bl true) fun _ _ _ => False) :
    PySem.W.WalkO q loose XP YP l.row.toRowW d [] (fun f vs => PySem.call f vs) := by
  refine Att.attach_call hn hdf fun w s0 s1 mg mb fa o pm cd doc a vs ns G Y _ _ _ hmg hobj hints hlen hg => ?_
  obtain ⟨fd, hb, T⟩ := F w mg fa _ (hY w _ Y) G.T.g hmg
  exact top_call (hY w _ Y) G.T.g G.T.b G.T.builtins G.T.nolimit hg hobj hints (Nat.le_trans hlen hn2) T hb fun H hS => law _ H a ns hlen hS

/-! ### repr -/
def rReprD (K : PySem.W.Frag) : List V → Hp → VK → Prop := fun xs H Q => ∃ (a : Addr) (d : PyData), xs = [.ref a] ∧ Dp K H (.ref a) d ∧ d.showable = true ∧ d.hasDict = false ∧ d.depth ≤ 20 ∧ d.shown.length ≤ sizeLine ∧ Q (.str d.shown) H
theorem call_reprD {X : Cx} (hg : X.A.guards = some []) (hu : X.A.units + 64 < cLine) : CallR X (.builtin "repr") (rReprD X.K) := by
  intro pins s σ H xs us Q I r h
  obtain ⟨a, d, rfl, hd, hs, hh, hdep, hz, q⟩ := h
  obtain ⟨u, rfl, ru⟩ := vals1 r
  cases ru
  obtain ⟨as, rd⟩ := Dp.reads I d (.ref a) (.ref a) hd rfl
  exact repr_of_reads' rd hs (fun e => absurd (hh.symm.trans e) Bool.false_ne_true) hg (by omega) (fun _ _ e => e) (fun h' t tk hk => ⟨.str d.shown, H, I.kept hk, ⟨t, rfl⟩, q⟩) hz
/-- a list or a tuple -/
def D.isSeq : D → Bool
  | .tup _ => true
  | .lst _ => true
  | _ => false
structure ReprOk (d : D) : Prop where
  seq : d.isSeq = true
  plain : d.plain = true
  show_ : d.py.showable = true
  nod : d.py.hasDict = false
  dep : d.py.depth ≤ 20
  len : d.py.shown.length ≤ sizeLine
def semRepr (d : D) (P : D → Prop) : Prop := ReprOk d ∧ P (.str d.py.shown)
theorem sem_repr {K : PySem.W.Frag} {F H : Hp} {x : V} {d : D} {P : D → Prop} {Q : VK} (sb : Sb F H) (rx : Rep K F x d) (hs : semRepr d P) (k : ∀ u v, P u → Rep K F v u → Q v H) : rReprD K [x] H Q := by
  obtain ⟨ok, p⟩ := hs
  have dp := rx.dp sb ok.plain
  have : ∃ a, x = .ref a := by
    cases rx <;> first
      | (cases ok.seq; done)
      | exact ⟨_, rfl⟩
  obtain ⟨a, rfl⟩ := this
  exact ⟨a, d.py, rfl, dp, ok.show_, ok.nod, ok.dep, ok.len, k _ _ p (.str _ ok.len)⟩
section
variable {X : Cx} {e : Expr} {p pos : Pos} {w : WD}
theorem xe_repr (hgd : X.A.guards = some []) (hu : X.A.units + 64 < cLine) (hg : Gl X "repr") (hm : X.mg "repr" = none) (ha : XE X e w)
    (he : starEach [e] X.env = (false, eval e X.env) :: starEach [] X.env := by rfl) (hpl : (backTo pos (starEach [] X.env)).any (·.1) = false := by rfl) : XE X (.Call (.Name "repr" p) [e] [] pos) (wC1 semRepr w) :=
  ⟨PE.imp (pe_callB (call_reprD hgd hu) hg hm (by decide +kernel) (pa_cons ha.pe pa_nil he) (by decide) (by decide) he hpl) fun σ H Q ⟨ρ, F, P, s, hw, k⟩ =>
    ⟨ρ, F, _, s, hw, fun d ρ' F' H' v q s' r f => sem_repr s'.sub r q fun u v' pu ru => k _ _ _ _ _ pu s' ru f⟩⟩
end
end Tr
/-! texts: the module's own, join; {k: v} with a plain key. -/
namespace Tr
open PySem PySem.Spec PyProof.Rows L2
section
variable {X : Cx} {x : Str} {pos apos : Pos} {o e : Expr} {wa wb : WD}
theorem xe_globS {z : Str} (hg : Gl X x) (h : ∃ t, X.mg x = some (.str z t)) (hz : z.length ≤ sizeLine := by decide +kernel) (hd : (x == ("__debug__" : Str)) = false := by decide) : XE X (.Name x pos) (wC (.str z)) := by
  obtain ⟨t, h⟩ := h
  exact xe_c (v := .str z) (pe_glob hg h ⟨t, rfl⟩ hd) fun _ _ => .str z hz
/-- a.join(e) -/
def wJoin (wa wb : WD) : WD := fun ρ P => wa ρ fun d ρ1 => match d with
  | .str a => wb ρ1 fun e ρ2 => ∃ ys : List Str, e.items = some (ys.map .str) ∧ (ys.map (·.length)).sum + ys.length * a.length ≤ 16777216 ∧ (Txt.join a ys).length ≤ sizeLine ∧ P (.str (Txt.join a ys)) ρ2
  | _ => False
theorem repL_strs {K : PySem.W.Frag} {F : Hp} : ∀ {ys : List Str} {vs : List V}, RepL K F vs (ys.map .str) → vs = ys.map V.str
  | [], _, .nil => rfl
  | y :: ys, _, .cons h r => by
    cases h
    rw [repL_strs r]
    rfl
theorem xe_join (ho : XE X o wa) (he : XE X e wb) (hs : starEach [e] X.env = [(false, eval e X.env)] := by rfl) (hbase : attributeBase o "join" X.env (eval o X.env) = eval o X.env := by rfl) (hline : (apos.endLine == pos.line) = true := by rfl) :
    XE X (.Call (.Attribute o "join" apos) [e] [] pos) (wJoin wa wb) := ⟨PE.imp (pe_join ho.pe he.pe hs hbase hline) fun σ H Q ⟨ρ, F, P, s, hw, k⟩ =>
  ⟨ρ, F, _, s, hw, fun d ρ1 F1 H1 v p s1 r1 f1 => by
    cases d <;> first
      | (exact p.elim)
      | skip
    rename_i a
    cases r1
    refine ⟨⟨a, rfl⟩, ρ1, F1, _, s1, p, fun e' ρ2 F2 H2 u p2 s2 r2 f2 => ?_⟩
    obtain ⟨ys, hi, hz, hl, p3⟩ := p2
    obtain ⟨q, xs, rfl, hq, rl, _⟩ := r2.seq s2.sub hi
    have ex := repL_strs rl
    subst ex
    exact ⟨a, q, ys, rfl, rfl, hq, hz, k _ _ _ _ _ p3 s2 (.str _ hl) (f1.trans f2)⟩⟩⟩
/-- {k: v}, one pair, k a number or a text -/
def wDisp1K (wk wv : WD) : WO := fun ρ P => wk ρ fun d ρ1 => wv ρ1 fun e ρ2 => ∃ k, d.key = some k ∧ ∀ a, P (.dct a [(k, e)]) ρ2
theorem xo_disp1K {kx vx : Expr} {wk wv : WD} (hk : XE X kx wk) (hv : XE X vx wv) : XO X (.Dict [some kx] [vx] pos) (wDisp1K wk wv) :=
  ⟨PE.imp (pe_disp (pps_cons hk.pe hv.pe pps_nil) rfl rfl (by simp) (by show 1 ≤ 15; decide)) fun σ H Q ⟨ρ, F, P, s, hw, k⟩ p hp => by
    obtain ⟨s0, f0⟩ := s.newO (u := .dK []) (o := .dct p []) hp (.dct upd_same (Nat.zero_le _) .nil) rfl
    refine ⟨ρ, F, _, s0.pop, hw, fun d ρ1 F1 H1 x p1 s1 rd f1 => ?_⟩
    obtain ⟨t1, g1⟩ := s0.frame s1 f1
    refine ⟨ρ1, F1, _, s1, p1, fun e ρ2 F2 H2 y p2 s2 re f2 => ?_⟩
    obtain ⟨t2, g2⟩ := t1.frame s2 f2
    obtain ⟨kk, hkk, p3⟩ := p2
    obtain ⟨rfl, ok, _⟩ := (rd.mono f2.fz).key hkk
    have q := t2.top
    cases q with
    | @dct _ es _ hH lz rk =>
    cases rk
    obtain ⟨t3, g3⟩ := t2.mut1 (o' := .dct p [(kk, e)]) (u := .dK [(kk, y)]) rfl rfl (.dct upd_same (by show 1 ≤ sizeLine; decide) (.cons ok re .nil))
    refine ⟨hH, [(kk, y)], rfl, by show 1 ≤ 15; decide, k _ _ _ _ _ (p3 p) t3 (f0.trans (g1.trans (g2.trans g3)))⟩⟩
end
end Tr
/-! str(n), d[k], d.get(k, e), dict(pairs), sorted texts, sorted(d), xs[::-1]. -/
namespace Tr
open PySem PySem.Spec PyProof.Rows L2
section
variable {X : Cx} {K : PySem.W.Frag}
/-! ### str(n) -/
def numS (i : Int) : Str := Str.ofString (toString i)
def semStr (d : D) (P : D → Prop) : Prop := match d with
  | .int i => i.natAbs.log2 < 1920 ∧ P (.str (numS i))
  | .str z => P (.str z)
  | _ => False
def rStr : List V → Hp → VK → Prop := fun xs H Q => (∃ i, xs = [.int i] ∧ i.natAbs.log2 < 1920 ∧ Q (.str (toString i)) H) ∨ ∃ a, xs = [.str a] ∧ a.length ≤ sizeLine ∧ Q (.str a) H
theorem cr_str : CallR X (.type "str") rStr := call_str_int.or fun pins s σ H xs us Q I r h => by
  obtain ⟨a, e, _, q⟩ := h
  exact SkE.call_str_str pins s σ H xs us Q I r ⟨a, e, q⟩
theorem sem_str : SemC1 K rStr semStr := by
  intro F H x d P Q sb rx hs k
  unfold semStr at hs
  split at hs
  · cases rx
    exact .inl ⟨_, rfl, hs.1, k _ _ hs.2 fun _ => .str _ (int_text_fits hs.1)⟩
  · cases rx with
    | str _ z => exact .inr ⟨_, rfl, z, k _ _ hs fun _ => .str _ z⟩
  · exact hs.elim
theorem PE_or {e : Expr} {t t' : TE} (h : PE X e t) (h' : PE X e t') : PE X e (fun σ H Q => t σ H Q ∨ t' σ H Q) := ⟨fun pins s σ H Q I hw => hw.elim (h.run pins s σ H Q I) (h'.run pins s σ H Q I)⟩

/-! ### a name's dict, held or not: d[k], d.get(k, e) -/
def O.at? (o : O) (k : D) (P : Option D → Prop) : Prop := match o with
  | .dct _ kvs => ∃ kk, k.key = some kk ∧ P (getG kvs kk)
  | .fz (.dct kvs) => ∃ kk, k.key = some kk ∧ P (getG kvs kk)
  | .dcT _ kvs => ∃ kk, k.keys = some kk ∧ P (getG kvs kk)
  | .fz (.dcT kvs) => ∃ kk, k.keys = some kk ∧ P (getG kvs kk)
  | _ => False
theorem at_get {F H : Hp} {o : O} {v y : V} {k : D} {P : Option D → Prop} {Q : Option V → Prop} (sb : Sb F H) (r : RepO K F H v o) (ry : Rep K F y k) (h : o.at? k P) (q : ∀ d u, P d → (d = none ∧ u = none ∨ ∃ e x, d = some e ∧ u = some x ∧ Rep K F x e) → Q u) :
    ∃ a u, v = .ref a ∧ DGet H a y u ∧ Q u := by
  have fin : ∀ {a : Addr} {es : List (Key × V)} {kvs : List (Key × D)} (kk : Key), Rd H a (.dK es) → RepK K F es kvs → k.key = some kk → P (getG kvs kk) → ∃ u, DGet H a y u ∧ Q u := fun {a es kvs} kk hd rk hk p => by
    obtain ⟨rfl, _, _⟩ := ry.key hk
    refine ⟨valV es kk, .inl ⟨es, kk, hd, rfl, rfl⟩, q _ _ p ?_⟩
    rcases rk.get kk with ⟨e1, e2⟩ | ⟨x, e, e1, e2, re⟩
    · exact .inl ⟨e2, e1⟩
    · exact .inr ⟨e, x, e2, e1, re⟩
  have finT : ∀ {a : Addr} {es : List (List Key × V)} {kvs : List (List Key × D)} (kk : List Key), Rd H a (.dT es) → RepT K F es kvs → k.keys = some kk → P (getG kvs kk) → ∃ u, DGet H a y u ∧ Q u := fun {a es kvs} kk hd rk hk p => by
    obtain ⟨b, rfl, hb, _⟩ := ry.keys hk
    refine ⟨valV es kk, .inr ⟨es, kk, b, hd, rfl, sb.tup hb, rfl⟩, q _ _ p ?_⟩
    rcases rk.get kk with ⟨e1, e2⟩ | ⟨x, e, e1, e2, re⟩
    · exact .inl ⟨e2, e1⟩
    · exact .inr ⟨e, x, e2, e1, re⟩
  unfold O.at? at h
  split at h
  · obtain ⟨kk, hk, p⟩ := h
    cases r with
    | dct hH _ rk =>
      obtain ⟨u, g, q⟩ := fin kk (.inl hH) rk hk p
      exact ⟨_, u, rfl, g, q⟩
  · obtain ⟨kk, hk, p⟩ := h
    cases r with
    | fz r =>
      cases r with
      | dct hF _ rk =>
        obtain ⟨u, g, q⟩ := fin kk (sb.dK hF) rk hk p
        exact ⟨_, u, rfl, g, q⟩
  · obtain ⟨kk, hk, p⟩ := h
    cases r with
    | dcT hH _ rk =>
      obtain ⟨u, g, q⟩ := finT kk (.inl hH) rk hk p
      exact ⟨_, u, rfl, g, q⟩
  · obtain ⟨kk, hk, p⟩ := h
    cases r with
    | fz r =>
      cases r with
      | dcT hF _ rk =>
        obtain ⟨u, g, q⟩ := finT kk (sb.dT hF) rk hk p
        exact ⟨_, u, rfl, g, q⟩
  · exact h.elim
/-- d[k], d a name of a dict -/
def wIxD (i : Nat) (wk : WD) : WD := fun ρ P => match nth ρ i with
  | some _ => wk ρ fun k ρ1 => match nth ρ1 i with
    | some o => o.at? k fun r => ∃ u, r = some u ∧ P u ρ1
    | none => False
  | none => False
theorem xe_ixD {o e : Expr} {i : Nat} {wk : WD} {pos : Pos} (hu : X.A.units + 64 < cLine) (ho : PE X o (tVar i)) (hk : XE X e wk) (hs : NoSl e := by intro _ _; rfl) : XE X (.Subscript o e pos) (wIxD i wk) :=
  ⟨PE.imp (pe_dget (by omega) ho hk.pe hs) fun σ H Q ⟨ρ, F, P, s, hw, k⟩ => by
    unfold wIxD at hw
    cases hn0 : nth ρ i with
    | none => rw [hn0] at hw; exact hw.elim
    | some o0 =>
    rw [hn0] at hw
    obtain ⟨x, hx, _⟩ := s.slot i o0 (nth_eq hn0)
    refine ⟨x, hx, ρ, F, _, s, hw, fun d ρ2 F2 H2 y p2 s2 r2 f2 => ?_⟩
    cases hn : nth ρ2 i with
    | none => rw [hn] at p2; exact p2.elim
    | some o1 =>
      rw [hn] at p2
      obtain ⟨v, hv, ro⟩ := s2.slot i o1 (nth_eq hn)
      rw [hx] at hv
      cases hv
      obtain ⟨a, u, rfl, g, w, rfl, q⟩ := at_get (Q := fun u => ∃ w, u = some w ∧ Q w H2) s2.sub ro r2 p2 fun d u p hd => by
        obtain ⟨e, rfl, p⟩ := p
        rcases hd with ⟨h, _⟩ | ⟨e', x', h, h', re⟩
        · cases h
        · cases h
          exact ⟨x', h', k _ _ _ _ _ p s2 re f2⟩
      exact ⟨a, w, rfl, g, q⟩⟩
def O.isD : O → Bool
  | .dct _ _ => true
  | .dcT _ _ => true
  | .fz (.dct _) => true
  | .fz (.dcT _) => true
  | _ => false
theorem isD_of {F H : Hp} {o : O} {v : V} (sb : Sb F H) (r : RepO K F H v o) (h : o.isD = true) : ∃ a, v = .ref a ∧ IsD H a := by
  unfold O.isD at h
  split at h
  · cases r with
    | dct hH _ _ => exact ⟨_, rfl, .inl ⟨_, .inl hH⟩⟩
  · cases r with
    | dcT hH _ _ => exact ⟨_, rfl, .inr ⟨_, .inl hH⟩⟩
  · cases r with
    | fz r => cases r with
      | dct hF _ _ => exact ⟨_, rfl, .inl ⟨_, sb.dK hF⟩⟩
  · cases r with
    | fz r => cases r with
      | dcT hF _ _ => exact ⟨_, rfl, .inr ⟨_, sb.dT hF⟩⟩
  · cases h
/-- d.get(k, e), d a name of a dict -/
def wGet2 (i : Nat) (wk we : WD) : WD := fun ρ P => match nth ρ i with
  | some o => o.isD = true ∧ wk ρ fun k ρ1 => we ρ1 fun e ρ2 => match nth ρ2 i with
    | some o => o.at? k fun r => P (r.getD e) ρ2
    | none => False
  | none => False
theorem xe_get2 {o e f : Expr} {i : Nat} {wk we : WD} {apos cpos : Pos} (hu : X.A.units + 64 < cLine) (ho : PE X o (tVar i)) (hk : XE X e wk) (he : XE X f we)
    (m1 : attributeBase o "get" X.env (eval o X.env) = eval o X.env := by rfl)
    (m2 : ((backTo cpos (starEach [e, f] X.env)).all (fun x => !x.1) && (backToKw cpos (keywordEach [] X.env)).all (fun x => x.1.isSome)
    && decide (([e, f] : List Expr).length + ([] : List Keyword).length + (if ([] : List Keyword).isEmpty then 0 else 1) < 30)) = true := by rfl)
    (m3 : (apos.endLine == cpos.line) = true := by rfl) (m4 : backTo cpos (starEach [e, f] X.env) = [(false, eval e X.env), (false, eval f X.env)] := by rfl) :
    XE X (.Call (.Attribute o "get" apos) [e, f] [] cpos) (wGet2 i wk we) :=
  ⟨PE.imp (pe_dget2 (by omega) ho hk.pe he.pe ⟨m1, m2, m3, m4⟩) fun σ H Q ⟨ρ, F, P, s, hw, k⟩ => by
    unfold wGet2 at hw
    cases hn0 : nth ρ i with
    | none => rw [hn0] at hw; exact hw.elim
    | some o0 =>
    rw [hn0] at hw
    obtain ⟨hd0, hw⟩ := hw
    obtain ⟨x, hx, ro0⟩ := s.slot i o0 (nth_eq hn0)
    obtain ⟨a, rfl, hd⟩ := isD_of s.sub ro0 hd0
    refine ⟨_, hx, a, rfl, hd, ρ, F, _, s, hw, fun d ρ1 F1 H1 y p1 s1 r1 f1 => ⟨ρ1, F1, _, s1, p1, fun e' ρ2 F2 H2 z p2 s2 r2 f2 => ?_⟩⟩
    cases hn : nth ρ2 i with
    | none => rw [hn] at p2; exact p2.elim
    | some o1 =>
      rw [hn] at p2
      obtain ⟨v, hv, ro⟩ := s2.slot i o1 (nth_eq hn)
      rw [hx] at hv
      cases hv
      obtain ⟨b, u, e0, g, q⟩ := at_get (Q := fun u => Q (u.getD z) H2) s2.sub ro (r1.mono f2.fz) p2 fun d u p hd => by
        rcases hd with ⟨rfl, rfl⟩ | ⟨e'', x', rfl, rfl, re⟩
        · exact k _ _ _ _ _ p s2 r2 (f1.trans f2)
        · exact k _ _ _ _ _ p s2 re (f1.trans f2)
      cases e0
      exact ⟨u, g, q⟩⟩

/-! ### dict(pairs) -/
def mergeG (kvs : List (Key × D)) (more : List (Key × D)) : List (Key × D) := more.foldl (fun acc kv => putG acc kv.1 kv.2) kvs
theorem RepK.merge {F : Hp} : ∀ {more : List (Key × V)} {rs : List (Key × D)} {kvs : List (Key × V)} {ds : List (Key × D)}, RepK K F more rs → RepK K F kvs ds → RepK K F (mergeK kvs more) (mergeG ds rs)
  | _, _, _, _, .nil, r => r
  | _, _, _, _, .cons qk rv rr, r => by
    have := RepK.merge rr (r.put qk rv)
    exact this
def pairsD (kvs : List (Key × D)) : List D := kvs.map fun q => .tup [kD q.1, q.2]
def semDict (d : D) (P : O → Prop) : Prop := match d with
  | .lst ds => ∃ kvs, ds = pairsD kvs ∧ ∀ a, P (.dct a (mergeG [] kvs))
  | _ => False
theorem repL_pairs {F H : Hp} (sb : Sb F H) : ∀ {kvs : List (Key × D)} {vs : List V}, RepL K F vs (pairsD kvs) → ∃ (ps : List Addr) (es : List (Key × V)), vs = ps.map V.ref ∧ Paired (fun p kv => SqT K H p [kV kv.1, kv.2]) ps es ∧ RepK K F es kvs
  | [], _, .nil => ⟨[], [], rfl, .nil, .nil⟩
  | q :: kvs, _, .cons h r => by
    obtain ⟨ps, es, e, hp, rk⟩ := repL_pairs sb r
    cases h with
    | tup hF _ rl =>
      cases rl with
      | cons ra rb =>
      cases rb with
      | cons rb rc =>
      cases rc
      obtain ⟨e1, ok, _⟩ := ra.key (k := q.1) (by cases q.1 <;> rfl)
      subst e1
      exact ⟨_ :: ps, (q.1, _) :: es, by rw [e]; rfl, .cons (sb.sqT hF) hp, .cons ok rb rk⟩
theorem length_mergeG : ∀ (more kvs : List (Key × D)), (mergeG kvs more).length ≤ kvs.length + more.length
  | [], kvs => Nat.le_refl _
  | q :: more, kvs => by
    show (mergeG (putG kvs q.1 q.2) more).length ≤ _
    have := length_mergeG more (putG kvs q.1 q.2)
    have := length_putG kvs q.1 q.2
    rw [List.length_cons]
    omega
theorem Res.dct {F H : Hp} {p : Addr} {es : List (Key × V)} {kvs : List (Key × D)} (hp : H p = none) (z : kvs.length ≤ sizeLine) (r : RepK K F es kvs) : Res K F H (.dct p kvs) (.ref p) F (upd H p (.dK es)) := fun _ _ s =>
  s.newO hp (.dct upd_same z r) rfl
theorem sem_dict : SemO1 K (fun xs H Q => ∃ (a : Addr) (ps : List Addr) (kvs : List (Key × V)), xs = [.ref a] ∧ SqL K H a (ps.map V.ref) ∧ Paired (fun p kv => SqT K H p [kV kv.1, kv.2]) ps kvs ∧
    ∀ p, H p = none → Q (.ref p) (upd H p (.dK (mergeK [] kvs)))) semDict := by
  intro F H x d P Q sb rx hs k
  unfold semDict at hs
  split at hs
  · obtain ⟨kvs, rfl, h⟩ := hs
    cases rx with
    | @lst a xs _ ha z r =>
      obtain ⟨ps, es, rfl, hp, rk⟩ := repL_pairs sb r
      refine ⟨a, ps, es, rfl, .inl (.inl (sb.lst ha)), hp, fun p hn => k _ _ _ _ (h p) (Res.dct hn ?_ (rk.merge .nil))⟩
      have := length_mergeG kvs []
      rw [List.length_nil, Nat.zero_add] at this
      refine Nat.le_trans this ?_
      have z : (pairsD kvs).length ≤ sizeLine := z
      unfold pairsD at z
      rwa [List.length_map] at z
  · exact hs.elim

/-! ### sorted, of texts, of a dict's texts -/
def semSortS (d : D) (P : O → Prop) : Prop := match d with
  | .lst ds => ∃ zs : List Str, ds = zs.map .str ∧ zs.length < 64 ∧ ∀ (ys : List Str) a, ys.Perm zs → sortedS ys = true → P (.lst a (ys.map fun z => .fz (.str z)))
  | .frl ds => ∃ zs : List Str, ds = zs.map .str ∧ zs.length < 64 ∧ ∀ (ys : List Str) a, ys.Perm zs → sortedS ys = true → P (.lst a (ys.map fun z => .fz (.str z)))
  | .dct kvs => ∃ zs : List Str, kvs.map (·.1) = zs.map Sum.inr ∧ zs.length < 64 ∧ ∀ (ys : List Str) a, ys.Perm zs → sortedS ys = true → P (.lst a (ys.map fun z => .fz (.str z)))
  | _ => False
def rSortDS : List V → Hp → VK → Prop := fun xs H Q => ∃ (a : Addr) (kvs : List (Key × V)) (ks : List Str), xs = [.ref a] ∧ Rd H a (.dK kvs) ∧ kvs.map (·.1) = ks.map Sum.inr ∧ ks.length < 64 ∧
    ∀ ys p, ys.Perm ks → sortedS ys = true → H p = none → Q (.ref p) (upd H p (.lst (ys.map V.str)))
theorem cr_sortS (hc : X.calm = true) : CallR X (.builtin "sorted") (fun xs H Q => rSortedS X.K xs H Q ∨ rSortDS xs H Q) := cr_sortedS.or (call_sortedD hc)
theorem repL_strs_of {F : Hp} : ∀ (ys : List Str), (∀ y ∈ ys, y.length ≤ sizeLine) → RepL K F (ys.map V.str) (ys.map D.str)
  | [], _ => .nil
  | y :: ys, h => .cons (.str y (h y List.mem_cons_self)) (repL_strs_of ys fun z hz => h z (List.mem_cons_of_mem _ hz))
theorem repL_strs_len {F : Hp} : ∀ {ys : List Str} {vs : List V}, RepL K F vs (ys.map .str) → ∀ y ∈ ys, y.length ≤ sizeLine
  | [], _, .nil => fun _ h => (by cases h)
  | y :: ys, _, .cons h r => fun z hz => by
    rcases List.mem_cons.mp hz with e | e
    · subst e
      cases h with
      | str _ z => exact z
    · exact repL_strs_len r z e
theorem RepK.keysS {F : Hp} : ∀ {es : List (Key × V)} {kvs : List (Key × D)} {zs : List Str}, RepK K F es kvs → kvs.map (·.1) = zs.map Sum.inr → es.map (·.1) = zs.map Sum.inr ∧ ∀ z ∈ zs, z.length ≤ sizeLine
  | _, _, zs, .nil, h => by
    cases zs with
    | nil => exact ⟨rfl, fun _ h => (by cases h)⟩
    | cons z zs => cases h
  | _, _, zs, .cons (k := k) q rv r, h => by
    cases zs with
    | nil => cases h
    | cons z zs =>
      rw [List.map_cons, List.map_cons] at h
      injection h with h1 h2
      obtain ⟨e, o⟩ := RepK.keysS r h2
      have h1 : k = Sum.inr z := h1
      subst h1
      refine ⟨by rw [List.map_cons, List.map_cons, e], fun y hy => ?_⟩
      rcases List.mem_cons.mp hy with e | e
      · rw [e]; exact q
      · exact o y e
theorem Res.strs {F H : Hp} {p : Addr} {ys : List Str} (hp : H p = none) (z : ys.length ≤ sizeLine) (h : ∀ y ∈ ys, y.length ≤ sizeLine) : Res K F H (.lst p (ys.map fun z => .fz (.str z))) (.ref p) F (upd H p (.lst (ys.map V.str))) := by
  have := Res.lst (K := K) (F := F) (H := H) (p := p) hp (by rw [List.length_map]; exact z) (repL_strs_of ys h)
  rwa [List.map_map] at this
theorem sem_sortS : SemO1 K (fun xs H Q => rSortedS K xs H Q ∨ rSortDS xs H Q) semSortS := by
  intro F H x d P Q sb rx hs k
  unfold semSortS at hs
  split at hs
  · obtain ⟨zs, rfl, h64, h⟩ := hs
    cases rx with
    | @lst a xs _ ha z r =>
      have e := repL_strs r
      subst e
      have ln := repL_strs_len r
      exact .inl ⟨a, zs, rfl, .inl (.inl (sb.lst ha)), h64, fun ys p pm so hp => k _ _ _ _ (h ys p pm so) (Res.strs hp (by rw [pm.length_eq]; exact small64 h64) fun y hy => ln y (pm.mem_iff.mp hy))⟩
  · obtain ⟨zs, rfl, h64, h⟩ := hs
    cases rx with
    | @frl a xs _ ha z r =>
      have e := repL_strs r
      subst e
      have ln := repL_strs_len r
      exact .inl ⟨a, zs, rfl, sb.sqL ha, h64, fun ys p pm so hp => k _ _ _ _ (h ys p pm so) (Res.strs hp (by rw [pm.length_eq]; exact small64 h64) fun y hy => ln y (pm.mem_iff.mp hy))⟩
  · obtain ⟨zs, e, h64, h⟩ := hs
    cases rx with
    | @dct a es _ ha z r =>
      obtain ⟨e2, ln⟩ := r.keysS e
      exact .inr ⟨a, es, zs, rfl, sb.dK ha, e2, h64, fun ys p pm so hp => k _ _ _ _ (h ys p pm so) (Res.strs hp (by rw [pm.length_eq]; exact small64 h64) fun y hy => ln y (pm.mem_iff.mp hy))⟩
  · exact hs.elim

/-! ### xs[::-1] -/
end
section
open HT
variable {prog : Program} {w : World} {A : Around} {E : Value → Shared → Prop} {s : Shared}
theorem pick_rev (xs : Array Value) : ((List.range xs.size).filterMap fun (m : Nat) => xs[(((xs.size : Int) - 1) + (m : Int) * (-1)).toNat]?).toArray = xs.toList.reverse.toArray := by
  congr 1
  rw [← PySem.W.krv_all xs, ← List.filterMap_reverse, ← PySem.W.krv_range, List.filterMap_map]
  have cg : ∀ (l : List Nat) (f g : Nat → Option Value), (∀ m ∈ l, f m = g m) → l.filterMap f = l.filterMap g := fun l f g => by
    induction l with
    | nil => intro _; rfl
    | cons m l ih =>
      intro h
      rw [List.filterMap_cons, List.filterMap_cons, h m List.mem_cons_self, ih fun q hq => h q (List.mem_cons_of_mem _ hq)]
  refine cg _ _ _ fun m hm => ?_
  have := List.mem_range.mp hm
  show xs[(((xs.size : Int) - 1) + (m : Int) * (-1)).toNat]? = xs[xs.size - 1 - m]?
  rw [show (((xs.size : Int) - 1) + (m : Int) * (-1)).toNat = xs.size - 1 - m by omega]
theorem sliceApplied_rev {sl : Addr} {vs : Value} {n : Nat} {Q : Int × Int × Nat → Shared → Prop} (hs : s.heap.IsSliceOf sl .none .none vs) (ps : IsPart vs (some (-1)))
    (h : Q ((n : Int) - 1, -1, n) s) : wpAny (model prog w) A (Builtin.Slice.sliceApplied (.ref sl) (pure (n : Int))) Q E s := by
  obtain ⟨os, hos, hcs, hds⟩ := id hs
  unfold Builtin.Slice.sliceApplied Builtin.Slice.sliceFields
  refine wpAny_bind (wpAny_bind (wpAny_field hos hds (x := .none) rfl (wpAny_bind (wpAny_field hos hds (x := .none) rfl (wpAny_bind (wpAny_field hos hds (x := vs) rfl (wpAny_pure ?_)))))))
  refine wpAny_bind (slicePart_ ps ?_)
  show wpAny _ _ (if ((-1 : Int) == 0) = true then _ else _) _ _ s
  rw [if_neg (by decide)]
  refine wpAny_bind (slicePart_none (wpAny_bind (slicePart_none (wpAny_bind (wpAny_pure ?_)))))
  show wpAny _ _ (pure ((n : Int) - 1, (-1 : Int), Builtin.Slice.slicePlaces ((n : Int) - 1) (-1) (-1))) _ _ s
  have e : Builtin.Slice.slicePlaces ((n : Int) - 1) (-1) (-1) = n := by
    unfold Builtin.Slice.slicePlaces
    rw [if_neg (by decide)]
    by_cases z : n = 0
    · subst z; rfl
    · rw [if_pos (by omega), show -(-1 : Int) = 1 from rfl, Int.ediv_one]; omega
  rw [e]
  exact wpAny_pure h
theorem getItem_tuple_rev {t sl : Addr} {items : Array Value} {vs : Value} {Q : Value → Shared → Prop} (ht : IsTup s.heap t items) (hs : s.heap.IsSliceOf sl .none .none vs) (ps : IsPart vs (some (-1)))
    (h : Q (.ref s.heap.objs.size) { s with heap := s.heap.push { cls := .type "tuple", data := .seq items.toList.reverse.toArray } })
    (hsz : items.size ≤ sizeLine) : wpAny (model prog w) A (getItem (.ref t) (.ref sl)) Q E s := by
  have htake : sizeOk (.seq items.toList.reverse.toArray) := by
    show items.toList.reverse.toArray.size ≤ sizeLine
    rw [List.size_toArray, List.length_reverse, Array.length_toList]
    exact hsz
  obtain ⟨os, hos, hcs, hds⟩ := id hs
  have hTs : s.TypeIs (.ref sl) "slice" := ⟨os, hos, hcs⟩
  unfold getItem
  try with_reducible refine wpAny_holding ?_
  first | refine wpAny_bind (wpAny_pure ?_) | skip
  refine wpAny_bind (wpAny_sequenceKey ht.typeIs (by decide) ?_)
  refine wpAny_bind (wpAny_callSpecial?_slot (name := Str.ofString "__getitem__") ht.typeIs PyProof.Rows.slot_tuple_getitem
    (wpAny_call_entry PyProof.Rows.slot_tuple_getitem ht.typeIs entry_tuple_getitem ?_ (args_tuple_getitem _ _)))
  show wpAny _ _ (Builtin.Tuple.tupleItemsOf (.ref t) >>= _) _ _ s
  refine wpAny_bind (tupleItemsOf_ ht ?_)
  refine wpAny_bind (wpAny_typeOf hTs ?_)
  rw [if_pos (by decide)]
  refine wpAny_bind (sliceApplied_rev hs ps ?_)
  show wpAny _ _ (if (((items.size : Int) - 1) == 0 && (-1 : Int) == 1 && items.size == items.size) = true then _ else _) _ _ s
  rw [if_neg (by simp), pick_rev]
  first
    | exact wpAny_bind (m := Builtin.Tuple.tupleExact _) (wpAny_newObj_type (wpAny_pure ⟨_, rfl, wpAny_pure h⟩) htake)
    | exact wpAny_bind (m := Builtin.Tuple.tupleExact _) (wpAny_newObj_type (wpAny_bind (wpAny_pure (wpAny_pure ⟨_, rfl, wpAny_pure h⟩))) htake)
    | exact wpAny_bind (wpAny_bind (m := Builtin.Tuple.tupleExact _) (wpAny_newObj_type (wpAny_pure (wpAny_pure ⟨_, rfl, wpAny_pure h⟩)) htake))
    | exact wpAny_bind (wpAny_bind (m := Builtin.Tuple.tupleExact _) (wpAny_newObj_type (wpAny_pure ⟨_, rfl, wpAny_pure h⟩) htake))
end
section
variable {X : Cx} {K : PySem.W.Frag}
def tRevX (K : PySem.W.Frag) (te : TE) : TE := fun σ H Q => te σ H fun x H1 => ∃ a xs, x = .ref a ∧ ((SqL K H1 a xs ∧ ∀ p, H1 p = none → Q (.ref p) (upd H1 p (.lst xs.reverse))) ∨ (SqT K H1 a xs ∧ ∀ p, H1 p = none → Q (.ref p) (upd H1 p (.tup xs.reverse))))
theorem pe_revX {e : Expr} {te : TE} {k : Nat} {p1 p2 p3 pos : Pos} (he : PE X e te) : PE X (.Subscript e (.Slice none none (some (.UnaryOp .USub (.Constant (.int 1) k p1) p2)) p3) pos) (tRevX X.K te) := by
  refine ⟨fun pins s σ H Q I h => ?_⟩
  refine Subscript_ (thn (he.run pins s σ H _ I h) fun v s1 ⟨x, H1, I1, r1, q1⟩ => ?_)
  obtain ⟨a, xs, ex, hx⟩ := q1
  subst ex
  cases r1
  have hst : PO X (some (.UnaryOp .USub (.Constant (.int 1) k p1) p2)) (tPart (tUn (rU fun i => .int (-i)) (tC (.int 1)))) := po_some (pe_un un_neg pe_int)
  refine wpAny_Slice (thn (po_none.run pins s1 σ H1 (fun o H2 => o = none ∧ H2 = H1) I1 ⟨rfl, rfl⟩) fun vl s2 ⟨l, H2, I2, pl, el, e2⟩ => ?_)
  subst el e2
  refine thn (po_none.run pins s2 σ H2 (fun o H3 => o = none ∧ H3 = H2) I2 ⟨rfl, rfl⟩) fun vu s3 ⟨u, H3, I3, pu, eu, e3⟩ => ?_
  subst eu e3
  refine thn (hst.run pins s3 σ H3 (fun o H4 => o = some (-1) ∧ H4 = H3) I3 ⟨1, rfl, -1, rfl, rfl, rfl⟩) fun vs s4 ⟨o, H4, I4, ps, eo, e4⟩ => ?_
  subst eo e4
  have I5 : Inv X pins σ H4 { s4 with heap := s4.heap.push { cls := .type "slice", data := .fields #[vl, vu, vs] } } := I4.kept (t' := s4.toks) fun b ob q => Heap.get?_push_of_some _ q
  rcases hx with ⟨hx, q⟩ | ⟨hx, q⟩
  · obtain ⟨its, r, ht, hz⟩ := I5.list hx
    have hlen := r.length
    show wpAny (model X.prog X.w) X.A (subscriptTail e (.Slice none none (some (.UnaryOp .USub (.Constant (.int 1) k p1) p2)) p3) (.ref a) (.ref s4.heap.objs.size)) (EP X pins σ Q) X.xe { s4 with heap := s4.heap.push { cls := .type "slice", data := .fields #[vl, vu, vs] } }
    refine tail_any (ops := [.ref a, .ref s4.heap.objs.size]) ht.isList.typeIs (PySem.slot_list_getitem.lookup) ?_ (by with_unfolding_all rfl)
    refine wpAny_getItem_list_slice ht.isList (Heap.IsSliceOf.new _ vl vu vs) pl pu ps (by decide) ?_ (by rw [List.size_toArray]; omega)
    rw [PySem.W.krv_pick]
    refine ⟨.ref _, _, I5.laid (t' := s4.toks) (o := .lst xs.reverse) (fun b ob q => Heap.get?_push_of_some _ q) (Nat.le_refl _) ?_, rfl, q _ (I5.hok.fresh (Nat.le_refl _))⟩
    exact ⟨by rw [List.length_reverse]; exact hz, _, 0, r.reverse, Heap.get?_push_size _ rfl⟩
  · obtain ⟨its, r, ht, hz⟩ := I5.tuple hx
    have hlen := r.length
    cases pl
    cases pu
    show wpAny (model X.prog X.w) X.A (subscriptTail e (.Slice none none (some (.UnaryOp .USub (.Constant (.int 1) k p1) p2)) p3) (.ref a) (.ref s4.heap.objs.size)) (EP X pins σ Q) X.xe { s4 with heap := s4.heap.push { cls := .type "slice", data := .fields #[.none, .none, vs] } }
    refine tail_any (ops := [.ref a, .ref s4.heap.objs.size]) ht.typeIs (PyProof.Rows.slot_tuple_getitem.lookup) ?_ (by with_unfolding_all rfl)
    refine getItem_tuple_rev ht (Heap.IsSliceOf.new _ .none .none vs) ps ?_ (by rw [List.size_toArray]; omega)
    refine ⟨.ref _, _, I5.laid (t' := s4.toks) (o := .tup xs.reverse) (fun b ob q => Heap.get?_push_of_some _ q) (Nat.le_refl _) ?_, rfl, q _ (I5.hok.fresh (Nat.le_refl _))⟩
    exact ⟨by rw [List.length_reverse]; exact hz, _, r.reverse, IsTup.new _ _⟩
/-- x[::-1], a list or a tuple -/
def wRev (w : WD) : WO := fun ρ P => w ρ fun d ρ1 => match d with
  | .tup ds => P (.fz (.tup ds.reverse)) ρ1
  | .lst ds => ∀ a, P (.lst a (ds.reverse.map .fz)) ρ1
  | .frl ds => ∀ a, P (.lst a (ds.reverse.map .fz)) ρ1
  | _ => False
theorem RepL.reverse {F : Hp} : ∀ {vs : List V} {ds : List D}, RepL K F vs ds → RepL K F vs.reverse ds.reverse
  | _, _, .nil => .nil
  | _, _, .cons h r => by
    rw [List.reverse_cons, List.reverse_cons]
    exact (RepL.reverse r).append (.cons h .nil)
theorem xo_rev {e : Expr} {w : WD} {k : Nat} {p1 p2 p3 pos : Pos} (he : XE X e w) : XO X (.Subscript e (.Slice none none (some (.UnaryOp .USub (.Constant (.int 1) k p1) p2)) p3) pos) (wRev w) :=
  ⟨PE.imp (pe_revX he.pe) fun σ H Q ⟨ρ, F, P, s, hw, k⟩ => by
    refine ⟨ρ, F, _, s, hw, fun d ρ1 F1 H1 v p s1 r f => ?_⟩
    cases d <;> first
      | (exact p.elim)
      | skip
    · cases r with
      | @tup a xs ds hF z r =>
        refine ⟨a, xs, rfl, .inr ⟨s1.sub.sqT hF, fun q hq => ?_⟩⟩
        obtain ⟨t, g⟩ := Res.tup (K := X.K) s1.sub hq (by rw [List.length_reverse]; exact z) r.reverse ρ1 σ s1
        exact k _ _ _ _ _ p t (f.trans g)
    · cases r with
      | @lst a xs ds hF z r =>
        refine ⟨a, xs, rfl, .inl ⟨.inl (.inl (s1.sub.lst hF)), fun q hq => ?_⟩⟩
        obtain ⟨t, g⟩ := Res.lst (K := X.K) hq (by rw [List.length_reverse]; exact z) r.reverse ρ1 σ s1
        exact k _ _ _ _ _ (p q) t (f.trans g)
    · cases r with
      | @frl a xs ds hF z r =>
        refine ⟨a, xs, rfl, .inl ⟨s1.sub.sqL hF, fun q hq => ?_⟩⟩
        obtain ⟨t, g⟩ := Res.lst (K := X.K) hq (by rw [List.length_reverse]; exact z) r.reverse ρ1 σ s1
        exact k _ _ _ _ _ (p q) t (f.trans g)⟩
end

/-! ### a text so many times; a, b = e1, e2 held -/
section
variable {X : Cx} {K : PySem.W.Frag}
def repS (x : Str) (n : Int) : Str := ⟨(List.replicate n.toNat x.cps).foldl (· ++ ·) #[]⟩
theorem repS_len (x : Str) (n : Int) : (repS x n).length = n.toNat * x.length := by
  have : ∀ (k : Nat) (acc : Array Nat), ((List.replicate k x.cps).foldl (· ++ ·) acc).size = acc.size + k * x.length := by
    intro k
    induction k with
    | zero => intro acc; simp
    | succ k ih =>
      intro acc
      rw [List.replicate_succ, List.foldl_cons, ih, Array.size_append, Nat.succ_mul]
      show acc.size + x.length + k * x.length = _
      omega
  have := this n.toNat #[]
  rw [show (#[] : Array Nat).size = 0 from rfl, Nat.zero_add] at this
  exact this
def rMulS : R2 := fun x y H Q => ∃ (a : Str) (n : Int), x = .str a ∧ y = .int n ∧ 2 ≤ n ∧ n ≤ 1000 ∧ 1 ≤ a.length ∧ a.length ≤ 1000 ∧ Q (.str (repS a n)) H
theorem op_mulS : OpR X (binaryOp .Mult) rMulS := by
  intro pins s σ H x y v u Q I rx ry h
  obtain ⟨a, n, rfl, rfl, h1, h2, h3, h4, q⟩ := h
  obtain ⟨t, rfl⟩ := rx
  obtain ⟨t2, rfl⟩ := ry
  have hk : n.toNat ≤ 1000 := by omega
  have hm : a.length * n.toNat ≤ 1000 * 1000 := Nat.mul_le_mul h4 hk
  have hlen : (repS a n).length ≤ sizeLine := by
    rw [repS_len, Nat.mul_comm]
    exact Nat.le_trans hm (by decide)
  refine PySem.P.mul_str (by rw [decide_eq_false (by omega), decide_eq_false (by omega)]; rfl) (fun _ _ hgt => ?_) (fun _ _ => ?_) ?_
  · have e1 : (1000 : Int) ≤ (2 ^ 63 - 1) / n := by
      rw [Int.le_ediv_iff_mul_le (by omega)]
      omega
    omega
  · exact decide_eq_false (by have := Nat.le_trans hm (show 1000 * 1000 ≤ sizeLine by decide); omega)
  · rw [if_neg (by omega), if_neg (by
      rw [Bool.or_eq_true]
      rintro (e | e)
      · have := eq_of_beq e; omega
      · have := eq_of_beq e; omega)]
    exact ⟨hlen, .str (repS a n), H, I.tok _, ⟨_, rfl⟩, q⟩
def semMulX (d e : D) (P : O → Prop) : Prop := match d, e with
  | .str x, .int n => 2 ≤ n ∧ n ≤ 1000 ∧ 1 ≤ x.length ∧ x.length ≤ 1000 ∧ P (.fz (.str (repS x n)))
  | _, _ => False
theorem sem_mulX : SemR K rMulS semMulX := by
  intro F H x y d e P Q sb rx ry hs k
  unfold semMulX at hs
  split at hs
  · cases rx; cases ry
    obtain ⟨h1, h2, h3, h4, p⟩ := hs
    refine ⟨_, _, rfl, rfl, h1, h2, h3, h4, k _ _ _ _ p (.fz (.str _ ?_))⟩
    rw [repS_len]
    exact Nat.le_trans (Nat.mul_le_mul (show Int.toNat _ ≤ 1000 by omega) h4) (by decide)
  · exact hs.elim
/-- a, b = e1, e2, each as its maker holds it -/
def wParO (i j : Nat) (wa wb : WO) : WS := fun ρ E => wa ρ fun d ρ1 => wb ρ1 fun e ρ2 => putC ρ2 i (some d) fun ρ3 => putC ρ3 j (some e) E.nx
theorem xs_parO {st : Stmt} {i j : Nat} {wa wb : WO} (h : PS X st (tPar i j (liftAO X.K (wConsO wa (wConsO wb wNilO))))) : XS X st (wParO i j wa wb) := ⟨PS.imp h fun D σ H ⟨ρ, F, E, s, hw, k⟩ =>
  ⟨ρ, F, fun ds ρ' => match ds with
    | [d, e] => putC ρ' i (some d) fun ρ3 => putC ρ3 j (some e) E.nx
    | _ => False, s, hw, fun ds ρ' F' H' vs p s' l f => by
    match ds, p with
    | [d, e], p =>
    match vs, l with
    | [v, w], l =>
    have p : putC ρ' i (some d) fun ρ3 => putC ρ3 j (some e) E.nx := p
    refine ⟨_, _, rfl, ?_⟩
    have s' : SR X.K (some d :: some e :: ρ') (some v :: some w :: σ) F' H' := s'
    obtain ⟨s2, m2⟩ := s'.store (i := i + 1)
    have s2 : SR X.K (some e :: ρ'.set i (some d)) (some w :: σ.set i (some v)) F' H' := s2
    obtain ⟨s3, m3⟩ := s2.store (i := j)
    rw [putC_eq, putC_eq] at p
    exact k.nx _ _ _ _ p s3 (f.less fun c hc => m2 c (m3 c hc))⟩⟩
end
end Tr
/-! a def below the law's that asks repr: it is called where no repr runs. -/
namespace Tr
open PySem PySem.Spec PyProof.Rows L2
structure FnOkG (P : Program) (w : World) (K : PySem.W.Frag) (mg : Str → Option Value) (base : Heap) (k : Nat) (f : Addr) (fd : FuncData) (ps : List Str) (sp : Sp) : Prop where
  len : ∀ vs H Q E, sp vs H Q E → vs.length = ps.length
  run : ∀ (A : Around) (outer : List Env) (s : Shared) (H : Hp) (args : Args) (us : List Value) (vs : List V) (Q : VK) (E : XK), Room k A → A.guards = some [] → Env0 P w K mg base A outer s H → BindsTo s fd args (ps.zip us) → Vals vs us → sp vs H Q E →
    codeAny (model P w) A (.call (.ref f) args) (CR CX0 outer P w H s Q E) s
section
variable {P : Program} {w : World} {K : PySem.W.Frag} {mg : Str → Option Value} {base : Heap}
theorem fn_treeG {x qual : Str} {st : Stmt} {f : Addr} {fd : FuncData} {N ps : List Str} {k : Nat} {sp : SpT} {wb : WS} (Fn : Fun K x qual st f fd) (S : FnScope N ps (defScope st)) (len : ∀ os P, sp os P → os.length = ps.length)
    (body : ∀ (cdv : Value) (A : Around) (outer : List Env) (s : Shared) (H : Hp) (E : XK), Room k (A.deeper (envOfC qual (defScope st) s.heap.objs.size f cdv)) → (A.deeper (envOfC qual (defScope st) s.heap.objs.size f cdv)).guards = some [] →
      XSs (cxOf CX0 P w K mg base N qual (defScope st) f cdv A outer s H E).nox (defBody st) wb)
    (does : ∀ os P, sp os P → wb (start0 N.length os) (endsOf os P)) : FnOkG P w K mg base (k + 1) f fd ps (liftSp K sp) := by
  have hlen : ∀ vs H Q E, liftSp K sp vs H Q E → vs.length = ps.length := fun vs H Q E h => by
    obtain ⟨os, F, Pp, sr, hsp, _⟩ := h
    have l := sr.len
    rw [List.length_map, List.length_map] at l
    rw [← l]
    exact len _ _ hsp
  obtain ⟨oc, od, kV, doc, pm, an, cdv, ct, osl, rfl, lk, hcd⟩ := Fn.ex
  refine ⟨hlen, fun A outer s H args us vs Q E hr hg e0 hb r hsp => ?_⟩
  have hl := hlen _ _ _ _ hsp
  have old : ∀ b o, base.get? b = some o → s.heap.get? b = some o := fun b o e => (e0.bs b o e).1
  have kin : K.In s.heap := e0.mod.kin.keeps old
  refine codeAny_call_function hr.depth (kin _ _ lk) rfl S.co S.gen rfl (PySem.W.codeRec_of kin hcd) (hb _ _ _ _ (wpAny_newFunctionEnv_cells S.kind (fun q hq => ?_) fun env he s1 ic => ?_))
  · obtain ⟨n, v⟩ := q
    rcases S.par n (List.of_mem_zip hq).1 with q | q
    · exact .inl q
    · exact .inr ⟨q, PySem.W.cellsFrom_some _ _ _ (.inl q)⟩
  subst he
  obtain ⟨t, pt, hq⟩ := tree_ex (body cdv A outer s H E (hr.deeper _) hg) does hsp
  have I0 := inv_start (CX := CX0) (E := E) S hr.hd e0 hl r ic
  refine ⟨(e0.mod.nolimit.keeps old).keeps ic.toInCall.keep, codeAny_func (wpAny_mono (pt.nox.run [] s1 (L2.start N vs) H _ I0 hq) (fun fl s2 h2 => ?_) fun _ _ h => h)⟩
  cases fl <;> first
    | (obtain ⟨σ', H', J, q⟩ := h2; exact ⟨.non, H', J.os, J.bare, J.base, J.hok, rfl, q⟩)
    | (obtain ⟨_, _, _, q⟩ := h2; exact q.elim)
    | (obtain ⟨r, σ', H', J, rr, q⟩ := h2; exact ⟨r, H', J.os, J.bare, J.base, J.hok, rr, q⟩)
end
section
variable {X : Cx} {k : Nat} {f : Addr} {fd : FuncData} {ps : List Str} {sp : SpT} {x : Str} {p pos : Pos} {e : Expr} {es : List Expr} {wl : WL} {i : Nat}
theorem run_fnG {sp : Sp} {E : XK} {pins : List (Addr × Obj)} {σ : L2.St} {H : Hp} {s : Shared} {Q : VK} {us : List Value} {vs : List V} (F : FnOkG X.prog X.w X.K X.mg X.base k f fd ps sp) (hgd : X.A.guards = some []) (hr : Room k X.A) (hb : Binds X.K fd ps [])
    (I : Inv X pins σ H s) (r : Vals vs us) (h : sp (vs ++ []) H Q E) : wpAny (model X.prog X.w) X.A (call (.ref f) us) (EP X pins σ Q) X.xe s := by
  have r2 : Vals (vs ++ []) (us ++ []) := r.append .nil
  have hl : (us ++ []).length = ps.length := by rw [← r2.length]; exact F.len _ _ _ _ h
  refine wpAny_call (codeAny_mono (F.run X.A X.stack s H ⟨us, []⟩ (us ++ []) (vs ++ []) Q E hr hgd I.env0 (hb s us I.kIn hl) r2 h) fun r s' hq => ?_)
  cases r with
  | error e => exact hq.elim
  | ok fl =>
    cases fl with
    | ret u => exact I.after hq
    | _ => exact False.elim hq
theorem pe_callG {sp : Sp} {E : XK} {t : TA} (F : FnOkG X.prog X.w X.K X.mg X.base k f fd ps sp) (hgd : X.A.guards = some []) (hr : Room k X.A) (hg : Gl X x) (hm : X.mg x = some (.ref f)) (hk : PySem.W.keepIn X.K (.ref f) = true) (hb : Binds X.K fd ps [])
    (ha : PA X (e :: es) t) (hdb : (x == ("__debug__" : Str)) = false := by decide) (he : starEach (e :: es) X.env = (false, eval e X.env) :: starEach es X.env := by rfl) (hpl : (backTo pos (starEach es X.env)).any (·.1) = false := by rfl) :
    PE X (.Call (.Name x p) (e :: es) [] pos) (tCall sp [] E t) := by
  refine ⟨fun pins s σ H Q I h => ?_⟩
  refine wpAny_Call_Name_kw (ld_glob I hg hm ?_ hdb)
  refine PySem.W.callWith_K (h₀ := X.base) I.ok.mod.kin hk (thn (ha.run pos pins s σ H _ I h) fun us s1 ⟨vs, H1, I1, r, q⟩ => ⟨I1.kIn, ?_⟩) he hpl
  exact run_fnG F hgd hr hb I1 r q
theorem xo_callG (G : FnOkG X.prog X.w X.K X.mg X.base k f fd ps (liftSp X.K sp)) (hgd : X.A.guards = some []) (hr : Room k X.A) (hg : Gl X x) (hm : X.mg x = some (.ref f)) (hk : PySem.W.keepIn X.K (.ref f) = true) (hb : Binds X.K fd ps [])
    (ha : XA X (e :: es) wl) (hdb : (x == ("__debug__" : Str)) = false := by decide) (he : starEach (e :: es) X.env = (false, eval e X.env) :: starEach es X.env := by rfl) (hpl : (backTo pos (starEach es X.env)).any (·.1) = false := by rfl) :
    XO X (.Call (.Name x p) (e :: es) [] pos) (wCall sp wl) := ⟨PE.imp (pe_callG (E := E0) G hgd hr hg hm hk hb ha.pa hdb he hpl) fun _ _ _ h => t_call h⟩
theorem xo_callSG (G : FnOkG X.prog X.w X.K X.mg X.base k f fd ps (liftSp X.K sp)) (hgd : X.A.guards = some []) (hr : Room k X.A) (hg : Gl X x) (hm : X.mg x = some (.ref f)) (hk : PySem.W.keepIn X.K (.ref f) = true) (hb : Binds X.K fd ps [])
    (h0 : PE X e (tVar i)) (ha : XA X es wl) (hdb : (x == ("__debug__" : Str)) = false := by decide) (he : starEach (e :: es) X.env = (false, eval e X.env) :: starEach es X.env := by rfl) (hpl : (backTo pos (starEach es X.env)).any (·.1) = false := by rfl) :
    XO X (.Call (.Name x p) (e :: es) [] pos) (wCallS sp i wl) := ⟨PE.imp (pe_callG (E := E0) G hgd hr hg hm hk hb (pa_cons h0 ha.pa he) hdb he hpl) fun _ _ _ h => t_callS h⟩
end
end Tr
/-! sum(xs, start=k). -/
namespace Tr
open PySem PySem.Spec PyProof.Rows L2
section
variable {prog : Program} {w : World} {A : Around} {E : Value → Shared → Prop} {s : Shared}
theorem function_tree_kw {id : String} {b : Builtin} {args : List Value} {kw : List (Str × Value)} {Q : Value → Shared → Prop} (hk : builtinKind id = none) (hp : plainId id = true)
    (hb : entryFor table id = some b) (ha : argsOk id ⟨args, kw⟩)
    (hc : wpAny (model prog w) A.in1 (b ⟨args, kw⟩) (fun fin s' => match fin with
      | .done f => (match (Except.ok f : Result) with | .ok (.ret v) => Q v s' | .ok _ => False | .error e => E e s')
      | .again c' => c'.quiet = true ∧ codeAny (model prog w) A c' (fun r s' => match r with | .ok (.ret v) => Q v s' | .ok _ => False | .error e => E e s') s') E s) :
    wpAny (model prog w) A (call (.builtin id) args kw) Q E s := by
  refine wpAny_call (codeAny_call_builtin hp hb ?_)
  simp only [checkBuiltinCall, hk]
  cases hsig : Manifest.signature? id with
  | none => exact wpAny_pure hc
  | some sig =>
    simp only [argsOk, hsig] at ha
    have h2 : Bind.checkArgs id sig ⟨args, kw⟩ = pure () := ha
    show wpAny _ A.in1 (Bind.checkArgs id sig ⟨args, kw⟩) _ _ s
    rw [h2]; exact wpAny_pure hc
def aheadP (P : Nat → Value → Prop) : Nat → Value → Prop
  | 0, _ => False
  | i + 1, v => P i v
def aheadS (St : Nat → Heap → Prop) : Nat → Heap → Prop
  | 0, _ => False
  | i + 1, h => St i h
def aheadV (a : Int) (val : Nat → Int) : Nat → Int
  | 0 => a
  | i + 1 => val i
theorem walks_ahead {I : Addr} {fp wr : List Addr} {n : Nat} {P : Nat → Value → Prop} {St : Nat → Heap → Prop} (W : Walks prog w A I fp wr n P St) : Walks prog w A I fp wr (n + 1) (aheadP P) (aheadS St) where
  sub := W.sub
  frame := fun i h h' st hk => match i, st with
    | 0, st => False.elim st
    | i + 1, st => W.frame i h h' st hk
  item := fun i s Q E hi st hQ => match i, st, hQ with
    | 0, st, _ => False.elim st
    | i + 1, st, hQ => W.item i s Q E (by omega) st hQ
  done := fun s Q E st hQ => W.done s Q E st hQ
  self := fun i s Q E st hQ => match i, st with
    | 0, st => False.elim st
    | i + 1, st => W.self i s Q E st hQ
theorem preSum_ahead (a : Int) (val : Nat → Int) : ∀ k, preSum (aheadV a val) (k + 1) = a + preSum val k
  | 0 => by show (0 : Int) + a = a + 0; omega
  | k + 1 => by
    show preSum (aheadV a val) (k + 1) + val k = a + (preSum val k + val k)
    rw [preSum_ahead a val k]; omega
theorem sum_start {l : Addr} {xs : Array (Int × Tok)} {a : Int} {t : Tok} {Q : Value → Shared → Prop} (hh : A.handled = none) (hl : s.heap.IsList l (intItems xs))
    (h : ∀ h' tk t', (∀ b o, s.heap.get? b = some o → h'.get? b = some o) → Q (.int (a + preSum (numAt xs) xs.size) t') { s with heap := h', toks := tk }) :
    wpAny (model prog w) A (call (.builtin "sum") [.ref l] [("start", .int a t)]) Q E s := by
  refine function_tree_kw F.kind_sum F.plain_sum F.entry_sum (by unfold argsOk; kernel_rfl) ?_
  unfold Builtin.«sum»
  simp only [List.length_cons, List.length_nil]
  rw [if_neg (by decide)]
  refine wpAny_bind (wpAny_of_eq (show Builtin.Builtins.bindParams "sum" ["start"] 0 ⟨[], [("start", .int a t)]⟩ = pure [some (.int a t)] from rfl) ?_)
  refine wpAny_bind (iter_intList hl fun s₂ e st hfp hlI => ?_)
  have W := walks_ahead (Walks.list (prog := prog) (w := w) (A := A.in1) hh s.heap.objs.size l hlI (intItems xs))
  subst e
  have fin : ∀ (t2 t3 : Tok) (stage : Int), (stage = 0 ∨ stage = 2) → wpAny (model prog w) A.in1 (do
      let x ← newList [Value.int a t2]
      again (Code.builtin "sum.loop" ⟨[Value.ref s.heap.objs.size, x, rawInt stage, rawInt 0], []⟩)) (fun fin s' => match fin with
      | .done f => (match (Except.ok f : Result) with | .ok (.ret v) => Q v s' | .ok _ => False | .error e => E e s')
      | .again c' => c'.quiet = true ∧ codeAny (model prog w) A c' (fun r s' => match r with | .ok (.ret v) => Q v s' | .ok _ => False | .error e => E e s') s') E
      { s with heap := s.heap.push { cls := .type "list_iterator", data := .fields #[.ref l, .int 0 0] }, toks := t3 } := fun t2 t3 stage hs => by
    refine wpAny_bind (wpAny_newObj_type ?_)
    have hp1 : preSum (aheadV a (numAt xs)) 1 = a := Int.zero_add a
    have hSf : (s.heap.push { cls := .type "list_iterator", data := .fields #[.ref l, .int 0 0] }).objs.size ∉ [s.heap.objs.size, l] := fun hm => Nat.lt_irrefl _ (hfp _ hm)
    refine wpAny_pure ⟨plainId_quiet F.plain_sum_loop _, codeAny_sum_loopG W (aheadV a (numAt xs)) (fun i v hv => ?_) _ hSf (intItems xs).size 1 _ t2 0 stage hs (by omega) (by omega)
      (W.frame 1 _ _ st fun b _ o e => Heap.get?_push_of_some _ e) (by rw [hp1]; exact Heap.get?_push_size _ rfl) fun h' tk t' hk => ?_⟩
    · match i, hv with
      | 0, hv => exact False.elim hv
      | i + 1, hv => exact intItems_at hv
    · have hn : (intItems xs).size = xs.size := by simp [intItems]
      rw [preSum_ahead, hn]
      exact h h' tk t' fun b o e => hk b o (fun hb => absurd (Heap.lt_size e) (by rw [List.mem_singleton.mp hb]; exact Nat.lt_irrefl _)) (Nat.ne_of_lt (Nat.lt_trans (Heap.lt_size e) (by rw [Heap.size_push]; exact Nat.lt_succ_self _))) (Heap.get?_push_of_some _ (Heap.get?_push_of_some _ e))
  have chk : ∀ (t2 t3 : Tok) (stage : Int), (stage = 0 ∨ stage = 2) → True := fun _ _ _ _ => trivial
  dsimp only
  split
  · refine wpAny_bind (wpAny_rule ?_)
    refine wpAny_bind (wpAny_mkInt ?_)
    refine wpAny_bind (wpAny_pure ?_)
    simp only [List.forIn_cons, List.forIn_nil]
    refine wpAny_bind (wpAny_bind (wpAny_bind (wpAny_isInstance (T := "int") (b := false) (PySem.typeIs_int _ _ _) PySem.sub_int_str ?_)))
    simp only [Bool.false_eq_true, if_false]
    refine wpAny_pure (wpAny_bind (wpAny_bind (wpAny_isInstance (T := "int") (b := false) (PySem.typeIs_int _ _ _) PySem.sub_int_bytes ?_)))
    simp only [Bool.false_eq_true, if_false]
    refine wpAny_pure (wpAny_bind (wpAny_bind (wpAny_isInstance (T := "int") (b := false) (PySem.typeIs_int _ _ _) PySem.sub_int_bytearray ?_)))
    simp only [Bool.false_eq_true, if_false]
    refine wpAny_pure (wpAny_pure ?_)
    exact fin _ _ 0 (.inl rfl)
  · refine wpAny_bind (wpAny_pure ?_)
    simp only [List.forIn_cons, List.forIn_nil]
    refine wpAny_bind (wpAny_bind (wpAny_bind (wpAny_isInstance (T := "int") (b := false) (PySem.typeIs_int _ _ _) PySem.sub_int_str ?_)))
    simp only [Bool.false_eq_true, if_false]
    refine wpAny_pure (wpAny_bind (wpAny_bind (wpAny_isInstance (T := "int") (b := false) (PySem.typeIs_int _ _ _) PySem.sub_int_bytes ?_)))
    simp only [Bool.false_eq_true, if_false]
    refine wpAny_pure (wpAny_bind (wpAny_bind (wpAny_isInstance (T := "int") (b := false) (PySem.typeIs_int _ _ _) PySem.sub_int_bytearray ?_)))
    simp only [Bool.false_eq_true, if_false]
    refine wpAny_pure (wpAny_pure ?_)
    exact fin _ _ 2 (.inr rfl)
end
section
variable {X : Cx} {K : PySem.W.Frag}
def rSumS (K : PySem.W.Frag) : List V → List V → Hp → VK → Prop := fun xs zs H Q => ∃ (a : Addr) (ns : List Int) (k : Int), xs = [.ref a] ∧ zs = [.int k] ∧ SqL K H a (ns.map V.int) ∧ Q (.int (k + ns.sum)) H
theorem cr_sumS (hc : X.calm = true) : CallRK X (.builtin "sum") [("start" : Str)] (rSumS X.K) := by
  intro pins s σ H vs zs us ws Q I r rz h
  obtain ⟨a, ns, k, rfl, rfl, hs, q⟩ := h
  obtain ⟨its, rv, hl, _⟩ := I.list hs
  rw [Vals.ref1 r]
  obtain ⟨u, rfl, t, rfl⟩ := vals1 rz
  have hi := rv.ints
  obtain ⟨xs, e⟩ := hi.allInts.items
  have hn : numsOf (intItems xs).toList = ns := by rw [← e]; exact hi.numsOf
  rw [nums_intItems] at hn
  have hl := hl.isList
  rw [e] at hl
  refine sum_start (I.ok.hd hc) hl fun h' tk t' hk => ⟨.int _, H, I.kept hk, ⟨_, rfl⟩, ?_⟩
  rw [preSum_eq, List.take_of_length_le (by simp), hn]
  exact q
def semSumS (d e : D) (P : D → Prop) : Prop := match d, e with
  | .lst ds, .int k => ∃ ns, D.ints ds = some ns ∧ P (.int (k + ns.sum))
  | _, _ => False
variable {e e2 : Expr} {w w2 : WD} {p pos kpos : Pos}
theorem xe_sumS (hc : X.calm = true) (hg : Gl X "sum") (hm : X.mg "sum" = none) (ha : XE X e w) (hb : XE X e2 w2)
    (he : starEach [e] X.env = (false, eval e X.env) :: starEach [] X.env := by rfl)
    (he2 : backTo pos (starEach [e] X.env) = (false, eval e X.env) :: backTo pos (starEach [] X.env) := by rfl) (hpl : (backTo pos (starEach [e] X.env)).any (·.1) = false := by rfl)
    (hall : (backToKw pos (keywordEach [⟨some "start", e2, kpos⟩] X.env)).all (·.1.isSome) = true := by rfl) (hnone : (backToKw pos (keywordEach [⟨some "start", e2, kpos⟩] X.env)).any (·.1.isNone) = false := by rfl)
    (hks : (backToKw pos (keywordEach [⟨some "start", e2, kpos⟩] X.env)).filterMap (·.1) = [("start" : Str)] := by rfl) :
    XE X (.Call (.Name "sum" p) [e] [⟨some "start", e2, kpos⟩] pos) (wCmp semSumS w w2) :=
  ⟨PE.imp (pe_callBK (cr_sumS hc) hg hm (by decide +kernel) (pa_cons ha.pe pa_nil he) (pk_cons hb.pe pk_nil) (by decide) (by decide) he2 hpl hall hnone hks) fun σ H Q ⟨ρ, F, P, s, hw, k⟩ =>
    ⟨ρ, F, _, s, hw, fun d ρ1 F1 H1 v p s1 r1 f1 => ⟨ρ1, F1, _, s1, p, fun e ρ2 F2 H2 u p2 s2 r2 f2 => by
      unfold semSumS at p2
      split at p2
      · obtain ⟨ns, en, h⟩ := p2
        have r1 := r1.mono f2.fz
        cases r1 with
        | lst h1 z r =>
          cases r2
          exact ⟨_, ns, _, rfl, rfl, by rw [← r.ints en]; exact .inl (.inl (s2.sub.lst h1)), k _ _ _ _ _ h s2 (.int _) (f1.trans f2)⟩
      · exact p2.elim⟩⟩⟩
end
end Tr
/-! dicts: a copy, and == of two. -/
namespace Tr
open PySem PySem.Spec PyProof.Rows L2
open SeqAt
section
variable {X : Cx} {K : PySem.W.Frag}
/-- dict(d) of a dict -/
def semDictD (d : D) (P : O → Prop) : Prop := match d with
  | .dct kvs => ∀ a, P (.dct a kvs)
  | _ => False
theorem sem_dictD : SemO1 K (fun xs H Q => ∃ (a : Addr) (kvs : List (Key × V)), xs = [.ref a] ∧ Rd H a (.dK kvs) ∧ ∀ p, H p = none → Q (.ref p) (upd H p (.dK kvs))) semDictD := by
  intro F H x d P Q sb rx hs k
  unfold semDictD at hs
  split at hs
  · cases rx with
    | @dct a es kvs ha z r =>
      exact ⟨a, es, rfl, sb.dK ha, fun p hp => k _ _ _ _ (hs p) (Res.dct hp z r)⟩
  · exact hs.elim
def deqK (ls : List (Key × D)) : List (Key × D) → Option Bool
  | [] => some true
  | (k, d) :: r => match getG ls k with
    | none => some false
    | some e => match deq 59 d e, deqK ls r with
      | some a, some b => some (a && b)
      | _, _ => none
theorem hits_of {pins : List (Addr × Obj)} {σ : L2.St} {F H : Hp} {s : Shared} (I : Inv X pins σ H s) (sb : Sb F H) {A : Around} (hu : A.units + 59 < cLine) {es2 : List (Key × V)} {ls : List (Key × D)} {vb : List (Key × Value)} (r2 : RepK X.K F es2 ls) (kb : KV es2 vb) {es1 : List (Key × V)} {va : List (Key × Value)} (ka : KV es1 va) :
    ∀ (ks : List (Key × D)) (r : Bool), RepK X.K F es1 ks → deqK ls ks = some r → PySem.W.KeqHits A s vb va r := by
  unfold KV at ka
  induction ka with
  | nil =>
    intro ks r r1 h
    cases r1
    cases h
    exact .nil
  | @cons p q ps qs h t ih =>
    intro ks r r1 hq
    obtain ⟨h1, h2⟩ := h
    obtain ⟨key, v⟩ := q
    cases r1 with
    | @cons k x _ d kvs qk rv r1 =>
      have h1 : k = key := h1
      subst h1
      have h2 : RelV x v := h2
      unfold deqK at hq
      rcases r2.get k with ⟨e1, e2⟩ | ⟨v', e, e1, e2, rr⟩
      · rw [e2] at hq
        cases hq
        refine .miss ?_
        have rr : RelO (none : Option V) (valueAt vb k) := by rw [← e1]; exact kb.val k
        revert rr
        cases valueAt vb k with
        | none => exact fun _ => rfl
        | some y => exact fun h => (by cases h)
      · rw [e2] at hq
        dsimp only at hq
        have rr2 : RelO (some v') (valueAt vb k) := by rw [← e1]; exact kb.val k
        obtain ⟨y, hy, ry⟩ := rr2.some_of
        cases hd : deq 59 d e with
        | none => rw [hd] at hq; cases hq
        | some a =>
          cases hk : deqK ls kvs with
          | none => rw [hd, hk] at hq; cases hq
          | some b =>
            rw [hd, hk] at hq
            cases hq
            exact .hit hy (deq_eqAt I sb 59 A hu _ _ _ _ _ _ _ rv rr h2 ry hd) (ih _ _ r1 hk)
def rEqK (K : PySem.W.Frag) : R2 := fun x y H Q => ∃ F ks ls r, Sb F H ∧ Rep K F x (.dct ks) ∧ Rep K F y (.dct ls) ∧ (ks.length = ls.length → deqK ls ks = some r) ∧ Q (.bl (ks.length == ls.length && r)) H
def rNeK (K : PySem.W.Frag) : R2 := fun x y H Q => ∃ F ks ls r, Sb F H ∧ Rep K F x (.dct ks) ∧ Rep K F y (.dct ls) ∧ (ks.length = ls.length → deqK ls ks = some r) ∧ Q (.bl (!(ks.length == ls.length && r))) H
theorem op_eqK (hu : X.A.units + 64 < cLine) : OpR X (compareOp .Eq) (rEqK X.K) := by
  intro pins s σ H x y v u Q I rx ry h
  obtain ⟨F, ks, ls, r, sb, r1, r2, hq, q⟩ := h
  cases r1 with
  | @dct a es1 _ ha z1 r1 =>
    cases r2 with
    | @dct b es2 _ hb z2 r2 =>
      obtain rfl : v = Value.ref a := rx
      obtain rfl : u = Value.ref b := ry
      obtain ⟨_, ya, va, ra, da⟩ := dk_rd I.hok (sb.dK ha)
      obtain ⟨_, yb, vb, rb, db⟩ := dk_rd I.hok (sb.dK hb)
      have l1 : va.length = ks.length := by rw [← ra.length, r1.length]
      have l2 : vb.length = ls.length := by rw [← rb.length, r2.length]
      exact PySem.W.keq_eq (knd := mixKind X.prog X.w) (r := r) ya yb da db (by omega) (fun hl => hits_of I sb (by show X.A.units + 1 + 59 < cLine; omega) r2 rb ra ks r r1 (hq (by rw [← l1, ← l2]; exact hl)))
        ⟨.bl _, H, I, rfl, by rw [l1, l2]; exact q⟩
theorem op_neK (hu : X.A.units + 64 < cLine) : OpR X (compareOp .NotEq) (rNeK X.K) := by
  intro pins s σ H x y v u Q I rx ry h
  obtain ⟨F, ks, ls, r, sb, r1, r2, hq, q⟩ := h
  cases r1 with
  | @dct a es1 _ ha z1 r1 =>
    cases r2 with
    | @dct b es2 _ hb z2 r2 =>
      obtain rfl : v = Value.ref a := rx
      obtain rfl : u = Value.ref b := ry
      obtain ⟨_, ya, va, ra, da⟩ := dk_rd I.hok (sb.dK ha)
      obtain ⟨_, yb, vb, rb, db⟩ := dk_rd I.hok (sb.dK hb)
      have l1 : va.length = ks.length := by rw [← ra.length, r1.length]
      have l2 : vb.length = ls.length := by rw [← rb.length, r2.length]
      exact PySem.W.keq_ne (knd := mixKind X.prog X.w) (r := r) ya yb da db (by omega) (fun hl => hits_of I sb (by show X.A.units + 1 + 59 < cLine; omega) r2 rb ra ks r r1 (hq (by rw [← l1, ← l2]; exact hl)))
        ⟨.bl _, H, I, rfl, by rw [l1, l2]; exact q⟩
def semEqK (d e : D) (P : D → Prop) : Prop := match d, e with
  | .dct ks, .dct ls => ∃ r, (ks.length = ls.length → deqK ls ks = some r) ∧ P (.bl (ks.length == ls.length && r))
  | _, _ => False
def semNeK (d e : D) (P : D → Prop) : Prop := match d, e with
  | .dct ks, .dct ls => ∃ r, (ks.length = ls.length → deqK ls ks = some r) ∧ P (.bl (!(ks.length == ls.length && r)))
  | _, _ => False
theorem sem_eqK : SemS K (rEqK K) semEqK := by
  intro F H x y d e P Q sb rx ry hs k
  unfold semEqK at hs
  split at hs
  · obtain ⟨r, hq, h⟩ := hs
    exact ⟨F, _, _, r, sb, rx, ry, hq, k _ _ h fun _ => .bl _⟩
  · exact hs.elim
theorem sem_neK : SemS K (rNeK K) semNeK := by
  intro F H x y d e P Q sb rx ry hs k
  unfold semNeK at hs
  split at hs
  · obtain ⟨r, hq, h⟩ := hs
    exact ⟨F, _, _, r, sb, rx, ry, hq, k _ _ h fun _ => .bl _⟩
  · exact hs.elim
theorem deqK_self : ∀ (kvs more : List (Key × D)), ((kvs ++ more).map (·.1)).Nodup → (∀ q ∈ more, deq 59 q.2 q.2 = some true) → deqK (kvs ++ more) more = some true
  | _, [], _, _ => rfl
  | kvs, (k, d) :: r, nd, h => by
    have hk : k ∉ kvs.map (·.1) := fun hm => by
      rw [List.map_append, List.nodup_append] at nd
      exact nd.2.2 _ hm _ (by rw [List.map_cons]; exact List.mem_cons_self) rfl
    have hg : getG (kvs ++ (k, d) :: r) k = some d := by
      clear nd h
      induction kvs with
      | nil => exact getG_pos rfl
      | cons q kvs ih =>
        rw [List.map_cons, List.mem_cons, not_or] at hk
        rw [List.cons_append, getG_neg (fun e => hk.1 e.symm)]
        exact ih hk.2
    have := deqK_self (kvs ++ [(k, d)]) r (by rw [List.append_assoc]; exact nd) fun q hq => h q (List.mem_cons_of_mem _ hq)
    rw [List.append_assoc] at this
    unfold deqK
    rw [hg]
    dsimp only
    rw [h (k, d) List.mem_cons_self, show kvs ++ (k, d) :: r = kvs ++ ([(k, d)] ++ r) from rfl, this]
    rfl
end
end Tr
/-! texts: split, lstrip, int(text), f-strings; None in ..; repr of None; a long text * n. -/
namespace Tr
open PySem PySem.Spec PyProof.Rows L2
open SeqAt
section
variable {X : Cx} {K : PySem.W.Frag} {o e : Expr} {wa wb w : WD} {apos pos p : Pos}
def wSplit (wa wb : WD) : WO := fun ρ P => wa ρ fun d ρ1 => match d with
  | .str a => wb ρ1 fun e ρ2 => match e with
    | .str b => (b.length == 0) = false ∧ a.length + 2 ≤ sizeLine ∧ (∀ z ∈ Txt.split a b, z.length ≤ sizeLine) ∧ ∀ p, P (.lst p ((Txt.split a b).map fun z => .fz (.str z))) ρ2
    | _ => False
  | _ => False
theorem xo_split (ho : XE X o wa) (he : XE X e wb) (hs : starEach [e] X.env = [(false, eval e X.env)] := by rfl) (hbase : attributeBase o "split" X.env (eval o X.env) = eval o X.env := by rfl) (hline : (apos.endLine == pos.line) = true := by rfl) :
    XO X (.Call (.Attribute o "split" apos) [e] [] pos) (wSplit wa wb) := ⟨PE.imp (pe_m1 F.slot_str_split F.type_str_split mt_split ho.pe he.pe hs hbase hline) fun σ H Q ⟨ρ, F, P, s, hw, k⟩ =>
  ⟨ρ, F, _, s, hw, fun d ρ1 F1 H1 v p s1 r1 f1 => by
    cases d <;> first
      | (exact p.elim)
      | skip
    rename_i a
    cases r1
    refine ⟨⟨a, rfl⟩, ρ1, F1, _, s1, p, fun e' ρ2 F2 H2 u p2 s2 r2 f2 => ?_⟩
    cases e' <;> first
      | (exact p2.elim)
      | skip
    rename_i b
    cases r2
    obtain ⟨h1, h2, h3, p3⟩ := p2
    refine ⟨a, b, rfl, rfl, h1, h2, fun q hq => ?_⟩
    obtain ⟨t, g⟩ := Res.strs (K := X.K) (F := F2) (H := H2) hq (Nat.le_trans (PyProof.Rows.split_le a b) h2) h3 ρ2 σ s2
    exact k _ _ _ _ _ (p3 q) t ((f1.trans f2).trans g)⟩⟩
def wLstrip (wa wb : WD) : WD := fun ρ P => wa ρ fun d ρ1 => match d with
  | .str a => wb ρ1 fun e ρ2 => match e with
    | .str b => a.length ≤ sizeLine ∧ (Txt.lstripChars a b).length ≤ sizeLine ∧ P (.str (Txt.lstripChars a b)) ρ2
    | _ => False
  | _ => False
theorem xe_lstrip (ho : XE X o wa) (he : XE X e wb) (hs : starEach [e] X.env = [(false, eval e X.env)] := by rfl) (hbase : attributeBase o "lstrip" X.env (eval o X.env) = eval o X.env := by rfl) (hline : (apos.endLine == pos.line) = true := by rfl) :
    XE X (.Call (.Attribute o "lstrip" apos) [e] [] pos) (wLstrip wa wb) := ⟨PE.imp (pe_m1 F.slot_str_lstrip F.type_str_lstrip mt_lstripChars ho.pe he.pe hs hbase hline) fun σ H Q ⟨ρ, F, P, s, hw, k⟩ =>
  ⟨ρ, F, _, s, hw, fun d ρ1 F1 H1 v p s1 r1 f1 => by
    cases d <;> first
      | (exact p.elim)
      | skip
    rename_i a
    cases r1
    refine ⟨⟨a, rfl⟩, ρ1, F1, _, s1, p, fun e' ρ2 F2 H2 u p2 s2 r2 f2 => ?_⟩
    cases e' <;> first
      | (exact p2.elim)
      | skip
    rename_i b
    cases r2
    obtain ⟨h1, h2, p3⟩ := p2
    exact ⟨a, b, rfl, rfl, h1, k _ _ _ _ _ p3 s2 (.str _ h2) (f1.trans f2)⟩⟩⟩
/-- int(text) -/
def semIntS (d : D) (P : D → Prop) : Prop := match d with
  | .str a => ∃ n, PySem.intText? a = some n ∧ a.length ≤ 640 ∧ P (.int n)
  | _ => False
theorem sem_intS : SemC1 K (fun xs H Q => ∃ a n, xs = [.str a] ∧ PySem.intText? a = some n ∧ a.length ≤ 640 ∧ Q (.int n) H) semIntS := by
  intro F H x d P Q sb rx hs k
  unfold semIntS at hs
  split at hs
  · obtain ⟨n, h1, h2, h3⟩ := hs
    cases rx
    exact ⟨_, n, rfl, h1, h2, k _ _ h3 fun _ => .int _⟩
  · exact hs.elim
/-- {x} -/
def wFmt (w : WD) : WD := fun ρ P => w ρ fun d ρ1 => match d with
  | .str y => y.length ≤ sizeLine ∧ P (.str y) ρ1
  | .int i => i.natAbs.log2 < 1920 ∧ P (.str (numS i)) ρ1
  | _ => False
theorem xe_fmt (h : XE X e w) : XE X (.FormattedValue e (-1) none pos) (wFmt w) := ⟨PE.imp (pe_fmt h.pe) fun σ H Q ⟨ρ, F, P, s, hw, k⟩ =>
  ⟨ρ, F, _, s, hw, fun d ρ1 F1 H1 v p s1 r1 f1 => by
    cases d <;> first
      | (exact p.elim)
      | skip
    · cases r1
      obtain ⟨hz, p⟩ := p
      exact .inr ⟨_, rfl, hz, k _ _ _ _ _ p s1 (.str _ (int_text_fits hz)) f1⟩
    · cases r1
      obtain ⟨hz, p⟩ := p
      exact .inl ⟨_, rfl, hz, k _ _ _ _ _ p s1 (.str _ hz) f1⟩⟩⟩
inductive XJ (X : Cx) : List Expr → List WD → Prop where
  | nil : XJ X [] []
  | cons {e : Expr} {w : WD} {es : List Expr} {ws : List WD} (h : XE X e w) (r : XJ X es ws) : XJ X (e :: es) (w :: ws)
theorem XJ.pj {es : List Expr} {ws : List WD} (h : XJ X es ws) : PJ X es (ws.map (liftD X.K)) := by
  induction h with
  | nil => exact .nil
  | cons h _ ih => exact .cons h.pe ih
def wJs : List WD → Str → TEnv → (Str → TEnv → Prop) → Prop
  | [], acc, ρ, P => P acc ρ
  | w :: ws, acc, ρ, P => w ρ fun d ρ1 => match d with
    | .str y => (acc ++ y).length ≤ sizeLine ∧ wJs ws (acc ++ y) ρ1 P
    | _ => False
theorem js_of {σ : L2.St} : ∀ (ws : List WD) (acc : Str) (ρ : TEnv) (F H : Hp) (P : Str → TEnv → Prop) (Q : Str → Hp → Prop), SR X.K ρ σ F H → acc.length ≤ sizeLine → wJs ws acc ρ P →
    (∀ z ρ' F' H', z.length ≤ sizeLine → P z ρ' → SR X.K ρ' σ F' H' → Frm (ownedE ρ) F H (ownedE ρ') F' H' → Q z H') → tJs (ws.map (liftD X.K)) acc σ H Q
  | [], acc, ρ, F, H, P, Q, s, hz, hw, k => k acc ρ F H hz hw s .refl
  | w :: ws, acc, ρ, F, H, P, Q, s, hz, hw, k => by
    refine ⟨ρ, F, _, s, hw, fun d ρ1 F1 H1 v p s1 r1 f1 => ?_⟩
    cases d <;> first
      | (exact p.elim)
      | skip
    rename_i y
    cases r1
    obtain ⟨h1, p⟩ := p
    exact ⟨y, rfl, h1, js_of ws (acc ++ y) ρ1 F1 H1 P Q s1 h1 p fun z ρ' F' H' hz p s' f' => k z ρ' F' H' hz p s' (f1.trans f')⟩
def wJoined (ws : List WD) : WD := fun ρ P => wJs ws Str.empty ρ fun z ρ1 => P (.str z) ρ1
theorem xe_joined {v1 v2 : Expr} {rest : List Expr} {ws : List WD} (h : XJ X (v1 :: v2 :: rest) ws) : XE X (.JoinedStr (v1 :: v2 :: rest) pos) (wJoined ws) := ⟨PE.imp (pe_joined h.pj) fun σ H Q ⟨ρ, F, P, s, hw, k⟩ =>
  js_of ws Str.empty ρ F H _ _ s (Nat.zero_le _) hw fun z ρ' F' H' hz p s' f' => k _ _ _ _ _ p s' (.str _ hz) f'⟩
/-- None in a list of Nones and tuples -/
def D.isN : D → Bool
  | .non => true
  | _ => false
def D.nOrT : D → Bool
  | .non => true
  | .tup _ => true
  | _ => false
def semNoneIn (neg : Bool) (d e : D) (P : D → Prop) : Prop := match d, e with
  | .non, .lst ds => ds.all D.nOrT = true ∧ P (.bl (if neg then !ds.any D.isN else ds.any D.isN))
  | _, _ => False
def rNoneInD (K : PySem.W.Frag) (neg : Bool) : R2 := fun x y H Q => ∃ F q xs ds, Sb F H ∧ x = .non ∧ y = .ref q ∧ SqL K H q xs ∧ RepL K F xs ds ∧ ds.all D.nOrT = true ∧ Q (.bl (if neg then !ds.any D.isN else ds.any D.isN)) H
theorem nIn_any {F : Hp} : ∀ {xs : List V} {us : List Value} {ds : List D}, Vals xs us → RepL K F xs ds → ds.all D.nOrT = true → us.any PySem.Numpy.isNone = ds.any D.isN
  | _, _, _, .nil, .nil, _ => rfl
  | _, _, _, .cons r t, .cons h rl, f => by
    rw [List.all_cons, Bool.and_eq_true] at f
    rw [List.any_cons, List.any_cons, nIn_any t rl f.2]
    cases h <;> first
      | (cases f.1; done)
      | (cases r; rfl)
theorem nIn_eq {F H : Hp} {pins : List (Addr × Obj)} {σ : L2.St} {s : Shared} (I : Inv X pins σ H s) (sb : Sb F H) {A : Around} (hu : A.units + 59 < cLine) : ∀ {xs : List V} {us : List Value} {ds : List D}, Vals xs us → RepL X.K F xs ds → ds.all D.nOrT = true → ∀ u ∈ us, EqAt A s u .none (PySem.Numpy.isNone u)
  | _, _, _, .nil, .nil, _ => fun u h => by cases h
  | _, _, _, .cons r t, .cons h rl, f => fun u hu' => by
    rw [List.all_cons, Bool.and_eq_true] at f
    rcases List.mem_cons.mp hu' with e | e
    · subst e
      cases h <;> first
        | (cases f.1; done)
        | skip
      · cases r
        exact EqAt.same _
      · rename_i h1 z rr
        have := deq_eqAt I sb 59 A hu _ _ _ _ false _ _ (.tup h1 z rr) (.non (K := X.K) (F := F)) r (show RelV V.non Value.none from rfl) rfl
        cases r
        exact this
    · exact nIn_eq I sb hu t rl f.2 u e
theorem op_noneInD (hu : X.A.units + 64 < cLine) : OpR X (compareOp .In) (rNoneInD X.K false) := by
  intro pins s σ H x y v u Q I rx ry h
  obtain ⟨F, p, xs, ds, sb, rfl, rfl, hq, rl, f, q⟩ := h
  cases rx
  cases ry
  obtain ⟨its, rv, hl, _⟩ := I.list hq
  refine SeqAt.in_listAt PySem.Numpy.isNone hl.isList (fun z hz => nIn_eq I sb (by show X.A.units + 1 + 59 < cLine; omega) rv rl f z (by simpa using hz)) ⟨.bl _, H, I, rfl, ?_⟩
  rw [show its.toArray.any PySem.Numpy.isNone = its.any PySem.Numpy.isNone by simp, nIn_any rv rl f]
  exact q
theorem sem_noneIn : SemS K (rNoneInD K false) (semNoneIn false) := by
  intro F H x y d e P Q sb rx ry hs k
  unfold semNoneIn at hs
  split at hs
  · cases rx
    cases ry with
    | lst h1 z r => exact ⟨F, _, _, _, sb, rfl, rfl, .inl (.inl (sb.lst h1)), r, hs.1, k _ _ hs.2 fun _ => .bl _⟩
  · exact hs.elim
/-- repr, None among the things -/
def semReprN (d : D) (P : D → Prop) : Prop := match d with
  | .non => P (.str "None")
  | d => semRepr d P
theorem call_reprN : CallR X (.builtin "repr") (fun xs H Q => xs = [.non] ∧ Q (.str "None") H) := by
  intro pins s σ H xs us Q I r h
  obtain ⟨rfl, q⟩ := h
  obtain ⟨u, rfl, ru⟩ := vals1 r
  cases ru
  exact PySem.P.repr_of_none ⟨.str "None", H, I.tok _, ⟨_, rfl⟩, q⟩
theorem xe_reprN (hgd : X.A.guards = some []) (hu : X.A.units + 64 < cLine) (hg : Gl X "repr") (hm : X.mg "repr" = none) (ha : XE X e w)
    (he : starEach [e] X.env = (false, eval e X.env) :: starEach [] X.env := by rfl) (hpl : (backTo pos (starEach [] X.env)).any (·.1) = false := by rfl) : XE X (.Call (.Name "repr" p) [e] [] pos) (wC1 semReprN w) :=
  ⟨PE.imp (pe_callB (CallR.or (call_reprD hgd hu) call_reprN) hg hm (by decide +kernel) (pa_cons ha.pe pa_nil he) (by decide) (by decide) he hpl) fun σ H Q ⟨ρ, F, P, s, hw, k⟩ =>
    ⟨ρ, F, _, s, hw, fun d ρ' F' H' v q s' r f => by
      unfold semReprN at q
      split at q
      · cases r
        exact .inr ⟨rfl, k _ _ _ _ _ q s' (.str _ (by decide)) f⟩
      · exact .inl (sem_repr s'.sub r q fun u v' pu ru => k _ _ _ _ _ pu s' ru f)⟩⟩
/-- a sign n times -/
def rMulS1 : R2 := fun x y H Q => ∃ (a : Str) (n : Int), x = .str a ∧ y = .int n ∧ 2 ≤ n ∧ n ≤ 100000 ∧ a.length = 1 ∧ Q (.str (repS a n)) H
theorem op_mulS1 : OpR X (binaryOp .Mult) rMulS1 := by
  intro pins s σ H x y v u Q I rx ry h
  obtain ⟨a, n, rfl, rfl, h1, h2, h3, q⟩ := h
  obtain ⟨t, rfl⟩ := rx
  obtain ⟨t2, rfl⟩ := ry
  have hk : n.toNat ≤ 100000 := by omega
  have hm : a.length * n.toNat ≤ 100000 := by rw [h3, Nat.one_mul]; exact hk
  have hlen : (repS a n).length ≤ sizeLine := by
    rw [repS_len, Nat.mul_comm]
    exact Nat.le_trans hm (by decide)
  refine PySem.P.mul_str (by rw [decide_eq_false (by omega), decide_eq_false (by omega)]; rfl) (fun _ _ hgt => ?_) (fun _ _ => ?_) ?_
  · have e1 : (1 : Int) ≤ (2 ^ 63 - 1) / n := by
      rw [Int.le_ediv_iff_mul_le (by omega)]
      omega
    omega
  · exact decide_eq_false (by have := Nat.le_trans hm (show 100000 ≤ sizeLine by decide); omega)
  · rw [if_neg (by omega), if_neg (by
      rw [Bool.or_eq_true]
      rintro (e | e)
      · have := eq_of_beq e; omega
      · have := eq_of_beq e; omega)]
    exact ⟨hlen, .str (repS a n), H, I.tok _, ⟨_, rfl⟩, q⟩
def semMulS1 (d e : D) (P : O → Prop) : Prop := match d, e with
  | .str x, .int n => 2 ≤ n ∧ n ≤ 100000 ∧ x.length = 1 ∧ P (.fz (.str (repS x n)))
  | _, _ => False
theorem sem_mulS1 : SemR K rMulS1 semMulS1 := by
  intro F H x y d e P Q sb rx ry hs k
  unfold semMulS1 at hs
  split at hs
  · cases rx; cases ry
    obtain ⟨h1, h2, h3, p⟩ := hs
    refine ⟨_, _, rfl, rfl, h1, h2, h3, k _ _ _ _ p (.fz (.str _ ?_))⟩
    rw [repS_len, h3, Nat.mul_one]
    exact Nat.le_trans (show Int.toNat _ ≤ 100000 by omega) (by decide)
  · exact hs.elim
end
end Tr
/-! a, b, c = e1, e2, e3, each as its maker holds it -/
namespace Tr
open PySem PySem.Spec PyProof.Rows L2
section
variable {X : Cx}
def wPar3O (i j l : Nat) (wa wb wc : WO) : WS := fun ρ E => wa ρ fun d ρ1 => wb ρ1 fun e ρ2 => wc ρ2 fun u ρ3 => putC ρ3 i (some d) fun ρ4 => putC ρ4 j (some e) fun ρ5 => putC ρ5 l (some u) E.nx
theorem xs_par3O {st : Stmt} {i j l : Nat} {wa wb wc : WO} (h : PS X st (tPar3 i j l (liftAO X.K (wConsO wa (wConsO wb (wConsO wc wNilO)))))) : XS X st (wPar3O i j l wa wb wc) := ⟨PS.imp h fun D σ H ⟨ρ, F, E, s, hw, k⟩ =>
  ⟨ρ, F, fun ds ρ' => match ds with
    | [d, e, u] => putC ρ' i (some d) fun ρ3 => putC ρ3 j (some e) fun ρ4 => putC ρ4 l (some u) E.nx
    | _ => False, s, hw, fun ds ρ' F' H' vs p s' l' f => by
    match ds, p with
    | [d, e, u], p =>
    match vs, l' with
    | [v, w, x], l' =>
    have p : putC ρ' i (some d) fun ρ3 => putC ρ3 j (some e) fun ρ4 => putC ρ4 l (some u) E.nx := p
    refine ⟨_, _, _, rfl, ?_⟩
    have s' : SR X.K (some d :: some e :: some u :: ρ') (some v :: some w :: some x :: σ) F' H' := s'
    obtain ⟨s2, m2⟩ := s'.store (i := i + 2)
    have s2 : SR X.K (some e :: some u :: ρ'.set i (some d)) (some w :: some x :: σ.set i (some v)) F' H' := s2
    obtain ⟨s3, m3⟩ := s2.store (i := j + 1)
    have s3 : SR X.K (some u :: (ρ'.set i (some d)).set j (some e)) (some x :: (σ.set i (some v)).set j (some w)) F' H' := s3
    obtain ⟨s4, m4⟩ := s3.store (i := l)
    rw [putC_eq, putC_eq, putC_eq] at p
    exact k.nx _ _ _ _ p s4 (f.less fun c hc => m2 c (m3 c (m4 c hc)))⟩⟩
end
end Tr
/-! dict(zip(a list of texts, a tuple)). -/
namespace Tr
open PySem PySem.Spec PyProof.Rows L2
section
variable {prog : Program} {w : World} {A : Around} {E : Value → Shared → Prop} {s : Shared}
variable {z TI TO T i1 i2 : Addr} {f : Bool} {oT : Obj} {fp1 fp2 : List Addr} {n1 n2 i : Nat} {P1 P2 : Nat → Value → Prop} {St1 St2 : Nat → Heap → Prop}
theorem zipD2_item_held {Q : Value → Shared → Prop} (S : ZipSep2 z TI TO i1 i2 fp1 fp2) (D1 : Draws prog w A i1 fp1 n1 P1 St1) (D2 : Draws prog w A i2 fp2 n2 P2 St2)
    (hz : IsZipHeld s.heap z TI TO T f) (hT : s.heap.get? T = some oT) (hTI : IsPair s.heap TI (.ref i1) (.ref i2)) (st1 : St1 i s.heap) (st2 : St2 i s.heap) (hlt1 : i < n1) (hlt2 : i < n2)
    (hQ : ∀ x1 x2 h' tk, P1 i x1 → P2 i x2 → IsZipHeld h' z TI TO T true → St1 (i + 1) h' → St2 (i + 1) h' → IsPair h' s.heap.objs.size x1 x2 → h'.objs.size = s.heap.objs.size + 1 →
      (∀ c o, c ≠ z → c ≠ i1 → c ≠ i2 → s.heap.get? c = some o → h'.get? c = some o) → Q (.ref s.heap.objs.size) { s with heap := h', toks := tk }) :
    wpAny (model prog w) A (Builtin.«zip.__next__» ⟨[.ref z], []⟩) (fun fin s' => ∃ v, fin = .done (.ret v) ∧ Q v s') E s := by
  show wpAny _ _ (field (.ref z) 2 >>= _) _ _ _
  refine wpAny_bind (wpAny_field hz rfl (x := .bool false) rfl ?_)
  show wpAny _ _ (field (.ref z) 3 >>= _) _ _ _
  refine wpAny_bind (wpAny_field hz rfl (x := .ref TI) rfl ?_)
  refine wpAny_bind (wpAny_seqItems hTI rfl ?_)
  show wpAny _ _ (Builtin.SmallTypes.ownedTupleIsFree (.ref z) >>= _) _ _ _
  refine wpAny_bind (wpAny_tupleHeld_zip hz hT fun h₁ hz₁ hs₁ => ?_)
  simp only [Bool.false_eq_true, if_false]
  refine wpAny_bind ?_
  rw [← Array.forIn_toList]
  simp only [List.forIn_cons, List.forIn_nil]
  refine wpAny_bind (wpAny_bind (wpAny_holding ?_))
  show wpAny _ _ (Builtin.SmallTypes.nextOf (.ref i1) >>= _) _ _ _
  refine wpAny_bind (D1.item i { s with heap := h₁ } _ _ hlt1 (D1.over st1 hs₁ S.zf1) fun x1 h₂ tk₂ p1 st1₂ hs₂ => wpAny_pure ?_)
  refine wpAny_pure ?_
  refine wpAny_bind (wpAny_bind (wpAny_holding ?_))
  show wpAny _ _ (Builtin.SmallTypes.nextOf (.ref i2) >>= _) _ _ _
  refine wpAny_bind (D2.item i { s with heap := h₂, toks := tk₂ } _ _ hlt2 (D2.over (D2.over st2 hs₁ S.zf2) hs₂ S.sep1_2) fun x2 h₃ tk₃ p2 st2₃ hs₃ => wpAny_pure ?_)
  refine wpAny_pure (wpAny_pure ?_)
  show wpAny _ _ (newTuple [x1, x2] >>= _) _ _ _
  refine wpAny_bind (wpAny_newTuple ?_)
  have hs₂ : Heap.SameBut i1 h₁ h₂ := hs₂
  have hs₃ : Heap.SameBut i2 h₂ h₃ := hs₃
  have hsz : h₃.objs.size = s.heap.objs.size := by rw [hs₃.1, hs₂.1, hs₁.1]
  have hz₃ : IsZipHeld h₃ z TI TO T true := hs₃.extBut _ _ S.zi2 (hs₂.extBut _ _ S.zi1 hz₁)
  have hk : ∀ c o, c ≠ z → c ≠ i1 → c ≠ i2 → s.heap.get? c = some o → h₃.get? c = some o := fun c o c1 c2 c3 e => hs₃.extBut _ _ c3 (hs₂.extBut _ _ c2 (hs₁.extBut _ _ c1 e))
  have st1₃ : St1 (i + 1) h₃ := D1.over st1₂ hs₃ S.sep2_1
  refine wpAny_pure ⟨_, rfl, ?_⟩
  show Q (.ref h₃.objs.size) _
  have hp : IsPair (h₃.push { cls := .type "tuple", data := .seq #[x1, x2] }) h₃.objs.size x1 x2 := Heap.get?_push_size _ rfl
  have hz4 : (h₃.push { cls := .type "tuple", data := .seq #[x1, x2] }).objs.size = h₃.objs.size + 1 := Heap.size_push ..
  rw [hsz] at hp hz4 ⊢
  exact hQ x1 x2 _ tk₃ p1 p2 (Heap.get?_push_of_some _ hz₃) (D1.frame _ _ _ st1₃ fun b _ o e => Heap.get?_push_of_some _ e) (D2.frame _ _ _ st2₃ fun b _ o e => Heap.get?_push_of_some _ e) hp hz4
    fun c o c1 c2 c3 e => Heap.get?_push_of_some _ (hk c o c1 c2 c3 e)
theorem zipD2_end_held {Q : Fin → Shared → Prop} (S : ZipSep2 z TI TO i1 i2 fp1 fp2) (D1 : Draws prog w A i1 fp1 n1 P1 St1) (D2 : Draws prog w A i2 fp2 n2 P2 St2)
    (hz : IsZipHeld s.heap z TI TO T f) (hT : s.heap.get? T = some oT) (hTI : IsPair s.heap TI (.ref i1) (.ref i2)) (st1 : St1 i s.heap) (st2 : St2 i s.heap) (he1 : i = n1)
    (hE : ∀ h' e, (∀ c o, c ≠ z → c ≠ i1 → c ≠ i2 → s.heap.get? c = some o → h'.get? c = some o) → (∃ o, h'.get? e = some o ∧ o.cls = .type "StopIteration") → E (.ref e) { s with heap := h' }) :
    wpAny (model prog w) A (Builtin.«zip.__next__» ⟨[.ref z], []⟩) Q E s := by
  show wpAny _ _ (field (.ref z) 2 >>= _) _ _ _
  refine wpAny_bind (wpAny_field hz rfl (x := .bool false) rfl ?_)
  show wpAny _ _ (field (.ref z) 3 >>= _) _ _ _
  refine wpAny_bind (wpAny_field hz rfl (x := .ref TI) rfl ?_)
  refine wpAny_bind (wpAny_seqItems hTI rfl ?_)
  show wpAny _ _ (Builtin.SmallTypes.ownedTupleIsFree (.ref z) >>= _) _ _ _
  refine wpAny_bind (wpAny_tupleHeld_zip hz hT fun h₁ hz₁ hs₁ => ?_)
  simp only [Bool.false_eq_true, if_false]
  refine wpAny_bind ?_
  rw [← Array.forIn_toList]
  simp only [List.forIn_cons, List.forIn_nil]
  refine wpAny_bind (wpAny_bind (wpAny_holding ?_))
  show wpAny _ _ (Builtin.SmallTypes.nextOf (.ref i1) >>= _) _ _ _
  refine wpAny_bind (D1.done { s with heap := h₁ } _ _ (by rw [← he1]; exact D1.over st1 hs₁ S.zf1) fun h₂ e hs₂ he => ?_)
  exact hE h₂ e (fun c o c1 c2 _ x => hs₂ _ _ c2 (hs₁.extBut _ _ c1 x)) he
theorem pyNext_zipD2_item_held {Q : Option Value → Shared → Prop} (S : ZipSep2 z TI TO i1 i2 fp1 fp2) (D1 : Draws prog w A.in1 i1 fp1 n1 P1 St1) (D2 : Draws prog w A.in1 i2 fp2 n2 P2 St2)
    (hz : IsZipHeld s.heap z TI TO T f) (hT : s.heap.get? T = some oT) (hTI : IsPair s.heap TI (.ref i1) (.ref i2)) (st1 : St1 i s.heap) (st2 : St2 i s.heap) (hlt1 : i < n1) (hlt2 : i < n2)
    (hQ : ∀ x1 x2 h' tk, P1 i x1 → P2 i x2 → IsZipHeld h' z TI TO T true → St1 (i + 1) h' → St2 (i + 1) h' → IsPair h' s.heap.objs.size x1 x2 → h'.objs.size = s.heap.objs.size + 1 →
      (∀ c o, c ≠ z → c ≠ i1 → c ≠ i2 → s.heap.get? c = some o → h'.get? c = some o) → Q (some (.ref s.heap.objs.size)) { s with heap := h', toks := tk }) :
    wpAny (model prog w) A (pyNext (.ref z)) Q E s := by
  have hTy : s.TypeIs (.ref z) "zip" := ⟨_, hz, rfl⟩
  unfold pyNext
  exact wpAny_bind (wpAny_attempt (wpAny_callSpecial?_slot (name := Str.ofString "__next__") hTy F.slot_zip_next
    (wpAny_call_entry F.slot_zip_next hTy F.entry_zip_next
      (zipD2_item_held S D1 D2 hz hT hTI st1 st2 hlt1 hlt2 fun x1 x2 h' tk p1 p2 a1 a3 a4 a5 a6 a7 => wpAny_pure (hQ x1 x2 h' tk p1 p2 a1 a3 a4 a5 a6 a7)) (F.args_zip_next_1 _))))
theorem pyNext_zipD2_end_held {Q : Option Value → Shared → Prop} (S : ZipSep2 z TI TO i1 i2 fp1 fp2) (D1 : Draws prog w A.in1 i1 fp1 n1 P1 St1) (D2 : Draws prog w A.in1 i2 fp2 n2 P2 St2)
    (hz : IsZipHeld s.heap z TI TO T f) (hT : s.heap.get? T = some oT) (hTI : IsPair s.heap TI (.ref i1) (.ref i2)) (st1 : St1 i s.heap) (st2 : St2 i s.heap) (he1 : i = n1)
    (hQ : ∀ h', (∀ c o, c ≠ z → c ≠ i1 → c ≠ i2 → s.heap.get? c = some o → h'.get? c = some o) → Q none { s with heap := h' }) : wpAny (model prog w) A (pyNext (.ref z)) Q E s := by
  have hTy : s.TypeIs (.ref z) "zip" := ⟨_, hz, rfl⟩
  unfold pyNext
  refine wpAny_bind (wpAny_attempt (wpAny_callSpecial?_slot (name := Str.ofString "__next__") hTy F.slot_zip_next
    (wpAny_call_entry F.slot_zip_next hTy F.entry_zip_next (zipD2_end_held S D1 D2 hz hT hTI st1 st2 he1 fun h' e hk he => ?_) (F.args_zip_next_1 _))))
  obtain ⟨o, ho, hc⟩ := he
  refine wpAny_bind (wpAny_isInstance (T := "StopIteration") (b := true) ⟨o, ho, hc⟩ isSubtype_stop ?_)
  exact wpAny_pure (hQ _ hk)
end
end Tr
/-! dict(zip(xs, ys)): xs of keys, ys as long. -/
namespace Tr
open PySem PySem.Spec PyProof.Rows L2
theorem HsK.keep {k : Bool} {h h' : Heap} {a : Addr} {its : Array Value} (x : HsK k h a its) (e : ∀ o, h.get? a = some o → h'.get? a = some o) : HsK k h' a its := by
  cases k
  · exact (show h.IsTuple a its from x).at fun o q => e o q
  · exact (show h.IsList a its from x).at fun o q => e o q
theorem HsK.there {k : Bool} {h : Heap} {a : Addr} {its : Array Value} (x : HsK k h a its) : ∃ o, h.get? a = some o := by
  cases k
  · obtain ⟨o, e, _⟩ := (show h.IsTuple a its from x)
    exact ⟨o, e⟩
  · obtain ⟨o, e, _⟩ := (show h.IsList a its from x)
    exact ⟨o, e⟩
section
variable {prog : Program} {w : World}
theorem pairArg_zipK {k l : Bool} {z TI TO i1 i2 a b : Addr} (S : ZipSep2 z TI TO i1 i2 [i1, a] [i2, b]) (ha : a ≠ i1) (hb : b ≠ i2) (xs ys : Array Value) (hl : xs.size = ys.size) :
    PairArg prog w "zip" z [z, TI, TO, i1, i2, a, b] [z, TO, i1, i2] xs.size (fun i k v => xs[i]? = some k ∧ ys[i]? = some v)
      (fun h => IsZip h z TI TO .none ∧ IsTupOf2 h TI (.ref i1) (.ref i2) ∧ (∃ x y, IsTupOf2 h TO x y) ∧ ItK k h i1 a 0 ∧ ItK l h i2 b 0 ∧ HsK k h a xs ∧ HsK l h b ys) where
  type := fun s ok => ⟨_, ok.1, rfl⟩
  notDict := by decide
  keep := fun h h' ok hk => by
    obtain ⟨hz, hTI, ⟨x, y, hTO⟩, h1, h2, hl1, hl2⟩ := ok
    exact ⟨hk _ _ hz, hk _ _ hTI, ⟨x, y, hk _ _ hTO⟩, h1.keep fun o e => hk _ o e, h2.keep fun o e => hk _ o e, hl1.keep fun o e => hk _ o e, hl2.keep fun o e => hk _ o e⟩
  there := fun h ok c hc => by
    obtain ⟨hz, hTI, ⟨x, y, hTO⟩, h1, h2, hl1, hl2⟩ := ok
    simp only [List.mem_cons, List.not_mem_nil, or_false] at hc
    rcases hc with rfl | rfl | rfl | rfl | rfl | rfl | rfl
    · exact ⟨_, hz⟩
    · exact ⟨_, hTI⟩
    · exact ⟨_, hTO⟩
    · exact h1.obj.imp fun _ q => q.1
    · exact h2.obj.imp fun _ q => q.1
    · exact hl1.there
    · exact hl2.there
  sub := fun b hb => by simp at hb ⊢; rcases hb with rfl | rfl | rfl | rfl <;> simp
  noKeys := fun A s Q E hA ok h => getAttrOr_miss_zip ok.1 rfl rfl rfl zip_no_keys (by decide +kernel) hA h
  iter := fun A s d Q E hA ok hd hdf h => by
    obtain ⟨hz, hTI, ⟨x, y, hTO⟩, h1, h2, hl1, hl2⟩ := ok
    simp only [List.mem_cons, List.not_mem_nil, or_false, not_or] at hdf
    obtain ⟨dz, dTI, dTO, di1, di2, da, db⟩ := hdf
    have zz1 : z ≠ a := fun e => S.zf1 (by simp [e])
    have zz2 : z ≠ b := fun e => S.zf2 (by simp [e])
    have tt1 : TO ≠ a := fun e => S.Tf1 (by simp [e])
    have tt2 : TO ≠ b := fun e => S.Tf2 (by simp [e])
    have i12 : i1 ≠ i2 := fun e => S.sep1_2 (by simp [e])
    have i1b : i1 ≠ b := fun e => S.sep1_2 (by simp [e])
    have i2a : i2 ≠ a := fun e => S.sep2_1 (by simp [e])
    have D1 := drawsK (prog := prog) (w := w) (A := A.in1) hA k i1 a ha xs
    have D2 := drawsK (prog := prog) (w := w) (A := A.in1) hA l i2 b hb ys
    refine wpAny_pyIter_zip hz (h z [z, TO, i1, i2] (fun i h => IsTupOf2 h TI (.ref i1) (.ref i2) ∧ ItK k h i1 a i ∧ ItK l h i2 b i ∧ HsK k h a xs ∧ HsK l h b ys ∧
      ((IsZip h z TI TO .none ∧ ∃ x y, IsTupOf2 h TO x y) ∨ ∃ T f oT, IsZipHeld h z TI TO T f ∧ h.get? T = some oT ∧ T ≠ z ∧ T ≠ i1 ∧ T ≠ i2 ∧ T ≠ d)) s.heap s.toks ?_
      ⟨hTI, h1, h2, hl1, hl2, .inl ⟨hz, x, y, hTO⟩⟩ (fun _ _ e => e) fun b hb => .inl hb)
    exact {
      off := fun hm => by
        simp only [List.mem_cons, List.not_mem_nil, or_false] at hm
        rcases hm with e | e | e | e
        · exact dz e
        · exact dTO e
        · exact di1 e
        · exact di2 e
      frame := fun i h₁ h₂ st hk => by
        obtain ⟨hTI, h1, h2, hl1, hl2, hz⟩ := st
        refine ⟨hk _ _ (Ne.symm dTI) hTI, h1.keep fun o e => hk _ o (Ne.symm di1) e, h2.keep fun o e => hk _ o (Ne.symm di2) e, hl1.keep fun o e => hk _ o (Ne.symm da) e, hl2.keep fun o e => hk _ o (Ne.symm db) e, ?_⟩
        rcases hz with ⟨hz, x, y, hTO⟩ | ⟨T, f, oT, hz, hT, r1, r2, r3, r4⟩
        · exact .inl ⟨hk _ _ (Ne.symm dz) hz, x, y, hk _ _ (Ne.symm dTO) hTO⟩
        · exact .inr ⟨T, f, oT, hk _ _ (Ne.symm dz) hz, hk _ _ r4 hT, r1, r2, r3, r4⟩
      item := fun i s₁ Q₁ E₁ hi st hds hQ => by
        obtain ⟨hTI, h1, h2, hl1, hl2, hz⟩ := st
        have lt : ∀ {c o}, s₁.heap.get? c = some o → s₁.heap.objs.size ≠ c := fun e => Nat.ne_of_gt (Heap.lt_size e)
        have n1 : s₁.heap.objs.size ≠ i1 := let ⟨_, e, _⟩ := h1.obj; lt e
        have n2 : s₁.heap.objs.size ≠ i2 := let ⟨_, e, _⟩ := h2.obj; lt e
        have hi2 : i < ys.size := hl ▸ hi
        rcases hz with ⟨hz, x, y, hTO⟩ | ⟨T, f, oT, hz, hT, r1, r2, r3, r4⟩
        · refine wpAny_pyNext_zipD2_item S D1 D2 hz hTI hTO ⟨h1, hl1⟩ ⟨h2, hl2⟩ hi hi2 fun x1 x2 h' tk p1 p2 a1 a2 a3 a4 a5 a6 hk => ?_
          exact hQ s₁.heap.objs.size _ _ h' tk ⟨p1, p2⟩ (.inl ⟨_, a5, rfl, _, rfl⟩)
            ⟨hk _ _ S.TIz S.TITO S.TIi1 S.TIi2 hTI, a3.1, a4.1, a3.2, a4.2, .inr ⟨s₁.heap.objs.size, false, _, a1, a5, lt hz, n1, n2, Nat.ne_of_gt hds⟩⟩
            fun c o hc e => hk c o (fun x => hc (by simp [x])) (fun x => hc (by simp [x])) (fun x => hc (by simp [x])) (fun x => hc (by simp [x])) e
        · refine pyNext_zipD2_item_held S D1 D2 hz hT hTI ⟨h1, hl1⟩ ⟨h2, hl2⟩ hi hi2 fun x1 x2 h' tk p1 p2 a1 a3 a4 a5 a6 hk => ?_
          exact hQ s₁.heap.objs.size _ _ h' tk ⟨p1, p2⟩ (.inl ⟨_, a5, rfl, _, rfl⟩)
            ⟨hk _ _ S.TIz S.TIi1 S.TIi2 hTI, a3.1, a4.1, a3.2, a4.2, .inr ⟨T, true, oT, a1, hk _ _ r1 r2 r3 hT, r1, r2, r3, r4⟩⟩
            fun c o hc e => hk c o (fun x => hc (by simp [x])) (fun x => hc (by simp [x])) (fun x => hc (by simp [x])) e
      done := fun s₁ Q₁ E₁ st hQ => by
        obtain ⟨hTI, h1, h2, hl1, hl2, hz⟩ := st
        rcases hz with ⟨hz, x, y, hTO⟩ | ⟨T, f, oT, hz, hT, r1, r2, r3, r4⟩
        · exact wpAny_pyNext_zipD2_end S D1 D2 hz hTI hTO ⟨h1, hl1⟩ ⟨h2, hl2⟩ (Nat.le_refl _) (Nat.le_of_eq hl) (.inl rfl) fun h' tk hk => hQ h' tk fun c o hc e => hk c o (fun x => hc (by simp [x])) (fun x => hc (by simp [x])) (fun x => hc (by simp [x])) (fun x => hc (by simp [x])) e
        · exact pyNext_zipD2_end_held S D1 D2 hz hT hTI ⟨h1, hl1⟩ ⟨h2, hl2⟩ rfl fun h' hk => hQ h' s₁.toks fun c o hc e => hk c o (fun x => hc (by simp [x])) (fun x => hc (by simp [x])) (fun x => hc (by simp [x])) e }
end
theorem kv_zip : ∀ {zs : List Key} {ys : List V} {us : List Value}, Vals ys us → KV (zs.zip ys) (zs.zip us)
  | [], _, _, _ => .nil
  | _ :: _, _, _, .nil => .nil
  | z :: zs, _, _, .cons h r => .cons ⟨rfl, h⟩ (kv_zip (zs := zs) r)
def tDZ (K : PySem.W.Frag) (ta : TA) : TE := fun σ H Q => ta σ H fun vs H1 => ∃ (k l : Bool) (a b : Addr) (zs : List Key) (ys : List V), vs = [.ref a, .ref b] ∧ SqK k K H1 a (zs.map kV) ∧ SqK l K H1 b ys ∧ zs.length = ys.length ∧ zs.length ≤ sizeLine ∧
  ∀ p, H1 p = none → Q (.ref p) (upd H1 p (.dK (mergeK [] (zs.zip ys))))
theorem pe_dictzip {X : Cx} {e e2 : Expr} {ta : TA} {p0 pos p pos2 : Pos} (hc : X.calm = true) (hgs : Gl X "dict") (hms : X.mg "dict" = none) (hg : Gl X "zip") (hm : X.mg "zip" = none) (ha : PA X [e, e2] ta)
    (hs1 : starEach [.Call (.Name "zip" p) [e, e2] [] pos2] X.env = (false, eval (.Call (.Name "zip" p) [e, e2] [] pos2) X.env) :: starEach [] X.env := by rfl)
    (hp1 : (backTo pos (starEach [] X.env)).any (·.1) = false := by rfl) (hs : starEach [e, e2] X.env = (false, eval e X.env) :: starEach [e2] X.env := by rfl) (hpl : (backTo pos2 (starEach [e2] X.env)).any (·.1) = false := by rfl) :
    PE X (.Call (.Name "dict" p0) [.Call (.Name "zip" p) [e, e2] [] pos2] [] pos) (tDZ X.K ta) := by
  refine ⟨fun pins s σ H Q I h => ?_⟩
  refine wpAny_Call_Name_kw (ld_blt I hgs hms boot_dict ?_)
  refine PyProof.Rows.callWith_type1 ?_ hs1 hp1
  rw [hs1]
  show wpAny _ _ (spliced ((false, eval (.Call (.Name "zip" p) [e, e2] [] pos2) X.env) :: backTo pos (starEach [] X.env))) _ _ s
  refine Calls.spliced_cons ?_
  refine wpAny_Call_Name_kw (ld_blt I hg hm PyProof.Rows.boot_zip ?_)
  refine PyProof.Rows.callWith_type1 (thn (ha.run pos2 pins s σ H _ I h) fun us s1 ⟨vs, H1, I1, r1, q1⟩ => ?_) hs hpl
  obtain ⟨k, l, a, b, zs, ys, ex, qx, qy, hlen, hz, q⟩ := q1
  subst ex
  obtain ⟨u1, u2, rfl, ra, rb⟩ := vals2 r1
  cases ra
  cases rb
  obtain ⟨us, ru, pu, la⟩ := Inv.sqK I1 qx
  obtain ⟨ws, rw', pw, lb⟩ := Inv.sqK I1 qy
  obtain ⟨o1, B1, b1⟩ := beginsK k a us.toArray
  obtain ⟨o2, B2, b2⟩ := beginsK l b ws.toArray
  refine zip_begins2 B1 B2 pu pw fun h' hz' hTI hTO e1 e2 hsz hk => Calls.spliced_nil ?_
  have na : a ≠ s1.heap.objs.size := Nat.ne_of_lt la
  have nb : b ≠ s1.heap.objs.size + 1 := Nat.ne_of_lt (Nat.lt_succ_of_lt lb)
  have S := zip_sep2 (N := s1.heap.objs.size) (fp1 := [a]) (fp2 := [b]) (fun c hc => by rw [List.mem_singleton.mp hc]; exact la) fun c hc => by rw [List.mem_singleton.mp hc]; exact lb
  have lu : us.length = zs.length := by rw [← ru.length, List.length_map]
  have lw : ws.length = zs.length := by rw [← rw'.length, hlen]
  refine call_dict_pairs (knd := mixKind X.prog X.w) (kvs := zs.zip ws) (pairArg_zipK S na nb us.toArray ws.toArray (by simp [lu, lw])) (I1.ok.hd hc) ⟨hz', hTI, ⟨_, _, hTO⟩, b1 _ _ e1, b2 _ _ e2, pu.keep fun o e => hk _ o e, pw.keep fun o e => hk _ o e⟩ ⟨by simp [lu, lw], fun i key v hr => ?_⟩ (by simpa [lu] using hz) fun h2 tk hd' kp => ?_
  · obtain ⟨g1, g2⟩ := hr
    have g1 : us[i]? = some key := by simpa using g1
    have g2 : ws[i]? = some v := by simpa using g2
    have li : i < zs.length := by
      have := (List.getElem?_eq_some_iff.mp g1).1
      omega
    have hzi : zs[i]? = some zs[i] := List.getElem?_eq_getElem li
    obtain ⟨u, hu, rk⟩ := ru.get (i := i) (x := kV zs[i]) (by rw [List.getElem?_map, hzi]; rfl)
    rw [hu] at g1
    have := Option.some.inj g1
    subst this
    exact ⟨zs[i], by rw [List.getElem?_zip_eq_some]; exact ⟨hzi, g2⟩, kV_is rk⟩
  · have rel : KV (zs.zip ys) (zs.zip ws) := kv_zip rw'
    have hm' : ((s1.heap.objs.size + 5 : Addr) == sysModules) = false := beq_eq_false_iff_ne.mpr (Nat.ne_of_gt (Nat.lt_of_lt_of_le I1.big (Nat.le_add_right _ _)))
    have hl2 : (mergeK [] (zs.zip ys)).length ≤ sizeLine := by
      refine Nat.le_trans (length_mergeK (zs.zip ys) []) ?_
      rw [List.length_nil, Nat.zero_add, List.length_zip]
      omega
    change (h2.DictOf (mixKind X.prog X.w) h'.objs.size (merged [] (zs.zip ws))) at hd'
    have kk : ∀ c o, s1.heap.get? c = some o → h2.get? c = some o := fun c o e => kp c o (fun hm => by
      have := Heap.lt_size e
      simp only [List.mem_cons, List.not_mem_nil, or_false] at hm
      rcases hm with rfl | rfl | rfl | rfl
      · exact Nat.not_lt.mpr (Nat.le_add_right _ _) this
      · exact Nat.not_lt.mpr (Nat.le_add_right _ _) this
      · exact Nat.lt_irrefl _ this
      · exact Nat.not_lt.mpr (Nat.le_add_right _ _) this) (hk c o e)
    show ∃ v H', _
    rw [hsz] at hd' ⊢
    exact ⟨.ref (s1.heap.objs.size + 5), upd H1 (s1.heap.objs.size + 5) (.dK (mergeK [] (zs.zip ys))), I1.laid (t' := tk) kk (Nat.le_add_right _ _) (show ObjOk X.prog X.w _ _ _ (.dK (mergeK [] (zs.zip ys))) from ⟨hl2, hm', merged [] (zs.zip ws), KV.merge rel .nil, hd'⟩), rfl, q _ (I1.hok.fresh (Nat.le_add_right _ _))⟩
theorem repL_keys {K : PySem.W.Frag} {F : Hp} : ∀ {zs : List Key} {vs : List V}, RepL K F vs (zs.map kD) → vs = zs.map kV
  | [], _, .nil => rfl
  | z :: zs, _, .cons h r => by
    obtain ⟨e1, _, _⟩ := h.key (k := z) (by cases z <;> rfl)
    rw [e1, repL_keys r]
    rfl
theorem repK_zip {K : PySem.W.Frag} {F : Hp} : ∀ {zs : List Key} {ds : List D} {ys : List V}, RepL K F (zs.map kV) (zs.map kD) → RepL K F ys ds → RepK K F (zs.zip ys) (zs.zip ds)
  | [], _, _, _, _ => .nil
  | _ :: _, _, _, _, .nil => .nil
  | z :: zs, _, _, .cons hk rk, .cons h r => .cons (hk.key (k := z) (by cases z <;> rfl)).2.1 h (repK_zip (zs := zs) rk r)
def dSeq : D → Option (Bool × List D)
  | .lst ds => some (true, ds)
  | .tup ds => some (false, ds)
  | _ => none
/-- dict(zip(xs, ys)), xs a list or tuple of keys, ys one as long -/
def semDZ (d e : D) (P : O → Prop) : Prop := ∃ (k l : Bool) (zs : List Key) (es : List D), dSeq d = some (k, zs.map kD) ∧ dSeq e = some (l, es) ∧ zs.length = es.length ∧ ∀ a, P (.dct a (mergeG [] (zs.zip es)))
def wDZ (wa wb : WD) : WO := fun ρ P => wa ρ fun d ρ1 => wb ρ1 fun e ρ2 => semDZ d e fun u => P u ρ2
theorem rep_seq {K : PySem.W.Frag} {F H : Hp} (sb : Sb F H) {v : V} {d : D} {k : Bool} {ds : List D} (r : Rep K F v d) (h : dSeq d = some (k, ds)) : ∃ a xs, v = .ref a ∧ SqK k K H a xs ∧ RepL K F xs ds ∧ ds.length ≤ sizeLine := by
  cases r with
  | lst hF z rl =>
    cases h
    exact ⟨_, _, rfl, .inl (.inl (sb.lst hF)), rl, z⟩
  | tup hF z rl =>
    cases h
    exact ⟨_, _, rfl, sb.sqT hF, rl, z⟩
  | _ => cases h
section
variable {X : Cx} {K : PySem.W.Frag} {e e2 : Expr} {w w2 : WD} {p0 pos p pos2 : Pos}
theorem xo_dictzip (hc : X.calm = true) (hgs : Gl X "dict") (hms : X.mg "dict" = none) (hg : Gl X "zip") (hm : X.mg "zip" = none) (ha : XE X e w) (hb : XE X e2 w2)
    (hs1 : starEach [.Call (.Name "zip" p) [e, e2] [] pos2] X.env = (false, eval (.Call (.Name "zip" p) [e, e2] [] pos2) X.env) :: starEach [] X.env := by rfl)
    (hp1 : (backTo pos (starEach [] X.env)).any (·.1) = false := by rfl) (hs : starEach [e, e2] X.env = (false, eval e X.env) :: starEach [e2] X.env := by rfl) (hs2 : starEach [e2] X.env = (false, eval e2 X.env) :: starEach [] X.env := by rfl) (hpl : (backTo pos2 (starEach [e2] X.env)).any (·.1) = false := by rfl) :
    XO X (.Call (.Name "dict" p0) [.Call (.Name "zip" p) [e, e2] [] pos2] [] pos) (wDZ w w2) :=
  ⟨PE.imp (pe_dictzip hc hgs hms hg hm (pa_cons ha.pe (pa_cons hb.pe pa_nil hs2) hs) hs1 hp1 hs hpl) fun σ H Q ⟨ρ, F, P, s, hw, k⟩ =>
    ⟨ρ, F, _, s, hw, fun d ρ1 F1 H1 v p s1 r1 f1 => ⟨ρ1, F1, _, s1, p, fun e ρ2 F2 H2 u p2 s2 r2 f2 => by
      obtain ⟨bk, bl, zs, es, e1, e2, hl, h⟩ := p2
      obtain ⟨a, xs, rfl, hx, rl, hz⟩ := rep_seq s2.sub (r1.mono f2.fz) e1
      obtain ⟨b, ys, rfl, hy, rl2, _⟩ := rep_seq s2.sub r2 e2
      have ek := repL_keys rl
      subst ek
      refine ⟨bk, bl, a, b, zs, ys, rfl, hx, hy, by rw [hl, rl2.length], by simpa using hz, fun p hn => ?_⟩
      have hlz : (mergeG [] (zs.zip es)).length ≤ sizeLine := by
        refine Nat.le_trans (length_mergeG _ _) ?_
        rw [List.length_nil, Nat.zero_add, List.length_zip]
        have : zs.length ≤ sizeLine := by simpa using hz
        omega
      obtain ⟨s3, f3⟩ := Res.dct hn hlz ((repK_zip rl rl2).merge .nil) _ _ s2
      exact k _ _ _ _ _ (h p) s3 ((f1.trans f2).trans f3)⟩⟩⟩
end
end Tr
namespace Lw
open PySem PySem.Spec PyProof.Rows L2 Tr
local macro_rules | `(tactic| walk_at "tw") => `(tactic| ((conv => whnf); (repeat (refine wSeq.mk ?_; (conv => whnf)))))
local macro_rules | `(tactic| walk_at "tm") => `(tactic| (conv => whnf))
/-- a thing of the language that no def of the law's makes more of -/
def Pl0 : D → Bool
  | .non => true
  | .bl _ => true
  | .int _ => true
  | .str _ => true
  | .tup _ => true
  | .lst _ => true
  | .dct _ => true
  | _ => false
def isTup : D → Bool
  | .tup _ => true
  | _ => false
def isNum (p : Int) : D → Bool
  | .int i => decide (0 ≤ i) && decide (i < p)
  | _ => false
def isInt : D → Bool
  | .int _ => true
  | _ => false
def isBl : D → Bool
  | .bl _ => true
  | _ => false
structure sp_is_whole (os : List O) (P : O → List O → Prop) : Prop where
  ex : ∃ d, os = [.fz d] ∧ Pl0 d = true ∧ P (.fz (.bl (isInt d))) os
structure sp_is_number (os : List O) (P : O → List O → Prop) : Prop where
  ex : ∃ d, ∃ p : Int, os = [.fz d, .fz (.int p)] ∧ Pl0 d = true ∧ P (.fz (.bl (isNum p d))) os
theorem len_is_whole : ∀ os P, sp_is_whole os P → os.length = 1 := fun os P ⟨_, e, _⟩ => by rw [e]; rfl
theorem len_is_number : ∀ os P, sp_is_number os P → os.length = 2 := fun os P ⟨_, _, e, _⟩ => by rw [e]; rfl
structure sp__law_begun (os : List O) (P : O → List O → Prop) : Prop where
  ex : ∃ ns : List Int, os = [.fz (.frl (ns.map .int))] ∧ ns.length ≤ 63 ∧ ∀ a xs, DS xs → P (.lst a xs) os
def sp__law_draw : SpT := spDraw
theorem len__law_begun : ∀ os P, sp__law_begun os P → os.length = 1 := fun os P ⟨_, e, _⟩ => by rw [e]; rfl
theorem len__law_draw : ∀ os P, sp__law_draw os P → os.length = 2 := spDraw_len
def primes : List Int := [2, 3, 5, 7, 11, 13, 29, 53, 97, 101, 499, 523, 991, 997]
def letters : Str := "abcdefghijklmnopqrstuvwxyz"
def figures : Str := "0123456789"
def plSigns : List Nat := (letters ++ "0123456789.").cps.toList
structure WdOk (z : Str) : Prop where
  ne : 1 ≤ z.length
  hd : z.cps.toList.headD 0 ∈ letters.cps.toList
  ch : ∀ c ∈ z.cps.toList, c ∈ plSigns
structure PlOk (z : Str) : Prop where
  wd : WdOk z
  le : z.length ≤ 40
structure sp__law_place (os : List O) (P : O → List O → Prop) : Prop where
  ex : ∃ a xs, os = [.lst a xs] ∧ DS xs ∧ ∀ (z : Str) ys, PlOk z → z.length ∈ [1, 2, 3, 6, 40] → DS ys → P (.fz (.str z)) [.lst a ys]
theorem len__law_place : ∀ os P, sp__law_place os P → os.length = 1 := fun os P ⟨_, _, e, _⟩ => by rw [e]; rfl
def nameB (z : Str) (n : Int) (more : Str) : Bool := decide (1 ≤ ((z.length : Nat) : Int)) && decide (((z.length : Nat) : Int) ≤ n) && decide (z.cps.toList.headD 0 ∈ letters.cps.toList) && z.cps.toList.all fun c => decide (c ∈ (letters ++ more).cps.toList)
def nmD (n : Int) (more : Str) : D → Bool
  | .str z => nameB z n more
  | _ => false
def plB (d : D) : Bool := nmD 40 "0123456789." d
structure sp_is_place (os : List O) (P : O → List O → Prop) : Prop where
  ex : ∃ d, os = [.fz d] ∧ Pl0 d = true ∧ P (.fz (.bl (nmD 40 "0123456789." d))) os
theorem len_is_place : ∀ os P, sp_is_place os P → os.length = 1 := fun os P ⟨_, e, _⟩ => by rw [e]; rfl
/-- things within things within things -/
def Pl1 (d : D) : Bool := Pl0 d && decide (d.kd ≠ 0)
def pl3 : Nat → D → Bool
  | 0, d => Pl1 d
  | n + 1, .tup ds => ds.all (pl3 n)
  | _ + 1, d => Pl1 d
def ltS (x y : Str) : Prop := x.cps.toList < y.cps.toList
instance : DecidableRel ltS := fun x y => inferInstanceAs (Decidable (x.cps.toList < y.cps.toList))
def posD : D → Bool
  | .int i => decide (0 < i)
  | _ => false
def termB (p : Int) : D → Bool
  | .tup [a, b] => nmD 40 "0123456789." a && (isNum p b && posD b)
  | _ => false
def fstS : D → Str
  | .tup (.str z :: _) => z
  | _ => ""
def risB : List D → Bool
  | [] => true
  | [_] => true
  | x :: y :: r => decide (ltS (fstS x) (fstS y)) && risB (y :: r)
def formB (p : Int) : D → Bool
  | .tup [n, .tup ts] => isNum p n && (ts.all (termB p) && risB ts)
  | _ => false
def termD (t : Str × Int) : D := .tup [.str t.1, .int t.2]
def formD (n : Int) (ts : List (Str × Int)) : D := .tup [.int n, .tup (ts.map termD)]
structure FormOk (q n : Int) (ts : List (Str × Int)) : Prop where
  n0 : 0 ≤ n
  n1 : n < q
  pl : ∀ t ∈ ts, PlOk t.1
  t0 : ∀ t ∈ ts, 0 < t.2
  t1 : ∀ t ∈ ts, t.2 < q
  rise : ts.Pairwise fun s t => ltS s.1 t.1
structure sp_is_term (os : List O) (P : O → List O → Prop) : Prop where
  ex : ∃ d, ∃ p : Int, os = [.fz d, .fz (.int p)] ∧ pl3 1 d = true ∧ P (.fz (.bl (termB p d))) os
structure sp_is_form (os : List O) (P : O → List O → Prop) : Prop where
  ex : ∃ d, ∃ p : Int, os = [.fz d, .fz (.int p)] ∧ pl3 3 d = true ∧ P (.fz (.bl (formB p d))) os
theorem len_is_term : ∀ os P, sp_is_term os P → os.length = 2 := fun os P ⟨_, _, e, _⟩ => by rw [e]; rfl
theorem len_is_form : ∀ os P, sp_is_form os P → os.length = 2 := fun os P ⟨_, _, e, _⟩ => by rw [e]; rfl
structure sp__law_places (os : List O) (P : O → List O → Prop) : Prop where
  ex : ∃ a xs, ∃ many : Int, os = [.lst a xs, .fz (.int many)] ∧ DS xs ∧ 0 ≤ many ∧ many ≤ 20 ∧ ∀ b (zs : List Str) ys, (zs.length : Int) = many → zs.Nodup → (∀ z ∈ zs, PlOk z) → DS ys → P (.lst b (zs.map fun z => .fz (.str z))) [.lst a ys, .fz (.int many)]
theorem len__law_places : ∀ os P, sp__law_places os P → os.length = 2 := fun os P ⟨_, _, _, e, _⟩ => by rw [e]; rfl
def tot (p : Int) (cs : List (Str × Int)) (z : Str) : Int := ((cs.filter fun c => decide (c.1 = z)).map (·.2)).sum % p
def Rise (ts : List (Str × Int)) : Prop := ts.Pairwise fun s t => ltS s.1 t.1
structure IsNf (p : Int) (cs ts : List (Str × Int)) : Prop where
  rise : Rise ts
  mem : ∀ z v, (z, v) ∈ ts ↔ v = tot p cs z ∧ 0 < v
structure sp_new_form (os : List O) (P : O → List O → Prop) : Prop where
  ex : ∃ (n : Int) (cs : List (Str × Int)) (p : Int), os = [.fz (.int n), .fz (.lst (cs.map termD)), .fz (.int p)] ∧ 0 < p ∧ cs.length < 64 ∧ ∀ ts, IsNf p cs ts → ts.length ≤ cs.length → P (.fz (formD (n % p) ts)) os
theorem len_new_form : ∀ os P, sp_new_form os P → os.length = 3 := fun os P ⟨_, _, _, e, _⟩ => by rw [e]; rfl
structure sp__law_form (os : List O) (P : O → List O → Prop) : Prop where
  ex : ∃ a xs, ∃ (zs : List Str) (q : Int), os = [.lst a xs, .fz (.lst (zs.map .str)), .fz (.int q)] ∧ DS xs ∧ zs.length < 64 ∧ zs.Nodup ∧ (∀ z ∈ zs, PlOk z) ∧ 2 ≤ q ∧ q ≤ 1000 ∧ ∀ n ts ys, FormOk q n ts → (∀ t ∈ ts, t.1 ∈ zs) → ts.length ≤ zs.length → DS ys → P (.fz (formD n ts)) [.lst a ys, .fz (.lst (zs.map .str)), .fz (.int q)]
theorem len__law_form : ∀ os P, sp__law_form os P → os.length = 3 := fun os P ⟨_, _, _, _, e, _⟩ => by rw [e]; rfl
/-- the numbers that stand at a place -/
def sm (cs : List (Str × Int)) (z : Str) : Int := ((cs.filter fun c => decide (c.1 = z)).map (·.2)).sum
abbrev Frm2 := Int × List (Str × Int)
def frm2 (f : Frm2) : D := formD f.1 f.2
def tms (v : Int) (ts : List (Str × Int)) : List (Str × Int) := ts.map fun t => (t.1, t.2 * v)
def small (v : Int) : Prop := -(2 ^ 64) < v ∧ v < 2 ^ 64
/-- what forms or numbers are told of places -/
def look {α : Type} (fs : List (Str × α)) (z : Str) : Option α := (fs.find? fun f => decide (f.1 = z)).map (·.2)
def dctF {α : Type} (g : α → D) (fs : List (Str × α)) : List (Key × D) := fs.map fun f => (.inr f.1, g f.2)
def subF (fs : List (Str × Frm2)) (z : Str) : Frm2 := (look fs z).getD (0, [(z, 1)])
def putN (n : Int) (ts : List (Str × Int)) (fs : List (Str × Frm2)) : Int := n + (ts.map fun t => t.2 * (subF fs t.1).1).sum
def putT (ts : List (Str × Int)) (fs : List (Str × Frm2)) : List (Str × Int) := ts.flatMap fun t => tms t.2 (subF fs t.1).2
structure sp_sum_of (os : List O) (P : O → List O → Prop) : Prop where
  ex : ∃ (a b : Frm2) (p : Int), os = [.fz (frm2 a), .fz (frm2 b), .fz (.int p)] ∧ 0 < p ∧ a.2.length + b.2.length < 64 ∧ ∀ ts, IsNf p (a.2 ++ b.2) ts → ts.length ≤ a.2.length + b.2.length → P (.fz (formD ((a.1 + b.1) % p) ts)) os
structure sp_times_of (os : List O) (P : O → List O → Prop) : Prop where
  ex : ∃ (a : Frm2) (n p : Int), os = [.fz (frm2 a), .fz (.int n), .fz (.int p)] ∧ 0 < p ∧ a.2.length < 64 ∧ small n ∧ small a.1 ∧ (∀ t ∈ a.2, small t.2) ∧ ∀ ts, IsNf p (tms n a.2) ts → ts.length ≤ a.2.length → P (.fz (formD (a.1 * n % p) ts)) os
structure sp_put_in (os : List O) (P : O → List O → Prop) : Prop where
  ex : ∃ (a : Frm2) (fs : List (Str × Frm2)) (p : Int), os = [.fz (frm2 a), .fz (.dct (dctF frm2 fs)), .fz (.int p)] ∧ 0 < p ∧ p ≤ 1000 ∧ 0 ≤ a.1 ∧ a.1 < p ∧ a.2.length ≤ 7 ∧ (∀ t ∈ a.2, small t.2) ∧ (∀ z f, look fs z = some f → small f.1 ∧ f.2.length ≤ 7 ∧ ∀ t ∈ f.2, small t.2) ∧
    ∀ ts, IsNf p (putT a.2 fs) ts → ts.length ≤ 49 → P (.fz (formD (putN a.1 a.2 fs % p) ts)) os
structure sp_worth_of (os : List O) (P : O → List O → Prop) : Prop where
  ex : ∃ (a : Frm2) (ws : List (Str × Int)) (p : Int), os = [.fz (frm2 a), .fz (.dct (dctF .int ws)), .fz (.int p)] ∧ 0 < p ∧ a.2.length ≤ 1000 ∧ (∀ t ∈ a.2, small t.2) ∧ (∀ z w, look ws z = some w → small w) ∧ P (.fz (.int ((a.1 + (a.2.map fun t => t.2 * (look ws t.1).getD 0).sum) % p))) os
theorem len_sum_of : ∀ os P, sp_sum_of os P → os.length = 3 := fun os P ⟨_, _, _, e, _⟩ => by rw [e]; rfl
theorem len_times_of : ∀ os P, sp_times_of os P → os.length = 3 := fun os P ⟨_, _, _, e, _⟩ => by rw [e]; rfl
theorem len_put_in : ∀ os P, sp_put_in os P → os.length = 3 := fun os P ⟨_, _, _, e, _⟩ => by rw [e]; rfl
theorem len_worth_of : ∀ os P, sp_worth_of os P → os.length = 3 := fun os P ⟨_, _, _, e, _⟩ => by rw [e]; rfl
def dig (c : Nat) : Bool := decide (48 ≤ c) && decide (c ≤ 57)
def mkS (l : List Nat) : Str := ⟨l.toArray⟩
def tlS (z : Str) : List Nat := z.cps.toList
def leadL (l : List Nat) : List Nat := l.takeWhile dig
def restL (l : List Nat) : List Nat := l.dropWhile dig
def valD (l : List Nat) : Int := ((NumText.digitsVal l : Nat) : Int)
def tIn (l : List Nat) : Option (Str × Int) := if l = [] ∨ 3 < (leadL l).length then none else some (mkS (restL l), if leadL l = [] then 1 else valD (leadL l))
def sp (l : List Nat) : List (List Nat) := TL.spl [43] 0 [] l
def termT (t : Str × Int) : Str := if t.2 = 1 then t.1 else numS t.2 ++ t.1
def piecesT (n : Int) (ts : List (Str × Int)) : List Str := (if n ≠ 0 ∨ ts = [] then [numS n] else []) ++ ts.map termT
def formT (n : Int) (ts : List (Str × Int)) : Str := Txt.join "+" (piecesT n ts)
def rdF (p : Int) (z : Str) : Option (Int × List (Str × Int)) :=
  let ps := (sp (tlS z)).map tIn
  if ps.any Option.isNone = true then none else
    let ts := ps.filterMap id
    let n := ((ts.filter fun (t : Str × Int) => decide (t.1 = "")).map (·.2)).sum
    let us := ts.filter fun (t : Str × Int) => !decide (t.1 = "")
    if formB p (formD n us) = true ∧ formT n us = z then some (n, us) else none
def rdD (p : Int) : D → D
  | .str z => ((rdF p z).map fun f => formD f.1 f.2).getD .non
  | _ => .non
def optD (o : Option (Str × Int)) : D := (o.map termD).getD .non
structure sp_term_text (os : List O) (P : O → List O → Prop) : Prop where
  ex : ∃ (z : Str) (v : Int), os = [.fz (.str z), .fz (.int v)] ∧ z.length ≤ 1000 ∧ -(2 ^ 64) < v ∧ v < 2 ^ 64 ∧ P (.fz (.str (termT (z, v)))) os
structure sp_form_text (os : List O) (P : O → List O → Prop) : Prop where
  ex : ∃ (n : Int) (ts : List (Str × Int)), os = [.fz (formD n ts)] ∧ (-(2 ^ 64) < n ∧ n < 2 ^ 64) ∧ ts.length ≤ 30000 ∧ (∀ t ∈ ts, t.1.length ≤ 100 ∧ -(2 ^ 64) < t.2 ∧ t.2 < 2 ^ 64) ∧ P (.fz (.str (formT n ts))) os
structure sp_term_in (os : List O) (P : O → List O → Prop) : Prop where
  ex : ∃ (z : Str), os = [.fz (.str z)] ∧ z.length ≤ 100000 ∧ P (.fz (optD (tIn (tlS z)))) os
/-- a text that is short enough, or no text -/
def TxOk (d : D) : Prop := (∃ z, d = .str z ∧ z.length ≤ 20000) ∨ d.is .str = some false
structure sp_read_form (os : List O) (P : O → List O → Prop) : Prop where
  ex : ∃ (d : D) (p : Int), os = [.fz d, .fz (.int p)] ∧ TxOk d ∧ p ≤ 1000 ∧ P (.fz (rdD p d)) os
theorem len_term_text : ∀ os P, sp_term_text os P → os.length = 2 := fun os P ⟨_, _, e, _⟩ => by rw [e]; rfl
theorem len_form_text : ∀ os P, sp_form_text os P → os.length = 1 := fun os P ⟨_, _, e, _⟩ => by rw [e]; rfl
theorem len_term_in : ∀ os P, sp_term_in os P → os.length = 1 := fun os P ⟨_, e, _⟩ => by rw [e]; rfl
theorem len_read_form : ∀ os P, sp_read_form os P → os.length = 2 := fun os P ⟨_, _, e, _⟩ => by rw [e]; rfl
def rowsF (q : Nat) : Nat → List (List Int)
  | 0 => [[]]
  | k + 1 => (List.range q).flatMap fun (num : Nat) => (rowsF q k).map fun r => r ++ [(num : Int)]
def rowD (r : List Int) : D := .tup (r.map .int)
/-- a list, held or not -/
def IsL (o : O) (ds : List D) : Prop := o = .fz (.lst ds) ∨ ∃ a, o = .lst a (ds.map .fz)
structure sp__law_rows (os : List O) (P : O → List O → Prop) : Prop where
  ex : ∃ (m q : Nat), os = [.fz (.int m), .fz (.int q)] ∧ m ≤ 3 ∧ 2 ≤ q ∧ q ≤ 5 ∧ ∀ o, IsL o ((rowsF q m).map rowD) → P o os
structure sp_inverse (os : List O) (P : O → List O → Prop) : Prop where
  ex : ∃ n p, os = [.fz (.int n), .fz (.int p)] ∧ p ∈ primes ∧ 0 < n ∧ n < p ∧ ∀ r : Int, 0 ≤ r → r < p → n * r % p = 1 → P (.fz (.int r)) os
structure sp_places_in (os : List O) (P : O → List O → Prop) : Prop where
  ex : ∃ a : Frm2, os = [.fz (frm2 a)] ∧ a.2.length ≤ 1000 ∧ P (.fz (.tup (a.2.map fun t => .str t.1))) os
structure sp__law_held (os : List O) (P : O → List O → Prop) : Prop where
  ex : ∃ (a b : Frm2) (v : Int) (fs : List (Str × Frm2)) (ws : List (Str × Int)) (q : Int), os = [.fz (frm2 a), .fz (frm2 b), .fz (.int v), .fz (.dct (dctF frm2 fs)), .fz (.dct (dctF .int ws)), .fz (.int q)] ∧
    2 ≤ q ∧ q ≤ 1000 ∧ FormOk q a.1 a.2 ∧ FormOk q b.1 b.2 ∧ a.2.length ≤ 7 ∧ b.2.length ≤ 7 ∧ small v ∧ (fs.map (·.1)).Nodup ∧ fs.length ≤ 7 ∧ (∀ f ∈ fs, FormOk q f.2.1 f.2.2 ∧ f.2.2.length ≤ 7) ∧ (∀ w ∈ ws, small w.2) ∧ (∀ t ∈ a.2, t.1 ∈ fs.map (·.1)) ∧ P (.fz (.bl true)) os
theorem len__law_rows : ∀ os P, sp__law_rows os P → os.length = 2 := fun os P ⟨_, _, e, _⟩ => by rw [e]; rfl
theorem len_inverse : ∀ os P, sp_inverse os P → os.length = 2 := fun os P ⟨_, _, e, _⟩ => by rw [e]; rfl
theorem len_places_in : ∀ os P, sp_places_in os P → os.length = 1 := fun os P ⟨_, e, _⟩ => by rw [e]; rfl
theorem len__law_held : ∀ os P, sp__law_held os P → os.length = 6 := fun os P ⟨_, _, _, _, _, _, e, _⟩ => by rw [e]; rfl
def sp_law : SpT := lawSp 63
theorem len_law : ∀ os P, sp_law os P → os.length = 1 := lawSp_len
def wb__law_begun : WS :=
  (wRet (wLst (wConsO (wBin semAdd (wFrz (wLc (wWalk (wVar 0)) (gN 1) wYes (wFz (wC1 semAbs (wLook 1))) [1])) (wFrz (wBin semMul (wFrz (wLst (wConsO (wFz (wC (.int 1))) wNilO))) (wC1 semInt (wCmp semEq (wC1 semLen (wLook 0)) (wC (.int 0))))))) (wConsO (wFz (wC (.int 0))) (wConsO (wFz (wC (.int 1))) wNilO)))))
def wb__law_draw : WS :=
  (wJn 0 0 2 (wSeq (wSet 2 (wMvIx 0 (wC (.int 0))))
    (wSeq (wSet 3 (wBin semMod (wIxL 0 (wC (.int 1))) (wC1 semLen (wLook 2))))
    (wSeq (wSet 4 (wFz (wIxL 2 (wVar 3))))
    (wSeq (wIfS (wTst (wCmpL semGe 4 (wC (.int 1000000000000000000)))) (wSeq (wSetIx 2 (wVar 3) (wBin semDiv (wVar 4) (wVar 1)))
    (wRet (wBin semMod (wVar 4) (wVar 1)))) wSkip)
    (wSeq (wSetIx 0 (wC (.int 1)) (wBin semAdd (wIxL 0 (wC (.int 1))) (wC (.int 1))))
    (wSeq (wSetIx 0 (wC (.int 2)) (wBin semMod (wFrz (wBin semAdd (wFrz (wBin semAdd (wFrz (wBin semMul (wIxL 0 (wC (.int 2))) (wC (.int 48271)))) (wVar 4))) (wC (.int 12345)))) (wC (.int 2147483647))))
    (wRet (wBin semMod (wFrz (wBin semDiv (wFrz (wBin semMod (wFrz (wBin semMul (wIxL 0 (wC (.int 2))) (wIxL 0 (wC (.int 2))))) (wC (.int 2147483629)))) (wC (.int 16)))) (wVar 1))))))))))
def wb__law_place : WS :=
  (wSeq (wSet 1 (wFz (wC (.str ("abcxyz0189.mnopqrstuvwdefghijkl234567" : Str)))))
    (wSeq (wSet 2 (wFz (wIx (wFrz (wLst (wConsO (wFz (wC (.int 1))) (wConsO (wFz (wC (.int 1))) (wConsO (wFz (wC (.int 2))) (wConsO (wFz (wC (.int 3))) (wConsO (wFz (wC (.int 6))) (wConsO (wFz (wC (.int 40))) wNilO)))))))) (wFrz (wCallS sp__law_draw 0 (wCons (wC (.int 6)) wNil))))))
    (wSeq (wSet 3 (wFz (wIx (wC (.str ("abcxyzqm" : Str))) (wFrz (wCallS sp__law_draw 0 (wCons (wC (.int 8)) wNil))))))
    (wSeq (wWhile (wTst (wCmp semLt (wC1 semLen (wLook 3)) (wLook 2))) (wSet 3 (wBin semAdd (wVar 3) (wIxL 1 (wFrz (wCallS sp__law_draw 0 (wCons (wC (.int 37)) wNil)))))))
    (wRetV 3)))))
def wb__law_places : WS :=
  (wSeq (wSet 2 (wLst wNilO))
    (wSeq (wFor (wRng1 (wVar 1)) (gN 3) (wSeq (wSet 4 (wCallS sp__law_place 0 wNil))
    (wSeq (wIfS (wAnd (wTst (wCmpL semNe 2 (wFrz (wLst wNilO)))) (wTst (wCmp semEq (wFrz (wCallS sp__law_draw 0 (wCons (wC (.int 3)) wNil))) (wC (.int 0))))) (wSet 4 (wBin semAdd (wFrz (wSl (wIxL 2 (wNeg (wC (.int 1)))) wNoP (wSoP (wC (.int 39))))) (wIx (wFrz (wLst (wConsO (wFz (wC (.str ("a" : Str)))) (wConsO (wFz (wC (.str ("." : Str)))) (wConsO (wFz (wC (.str ("0" : Str)))) (wConsO (wFz (wC (.str ("z" : Str)))) wNilO)))))) (wFrz (wCallS sp__law_draw 0 (wCons (wC (.int 4)) wNil)))))) wSkip)
    (wSeq (wWhile (wTst (wCmpL (semInD false) 4 (wLook 2))) (wSet 4 (wBin semAdd (wFrz (wBin semAdd (wC (.str ("q" : Str))) (wC1 semStr (wC1 semLen (wLook 2))))) (wFrz (wSl (wVar 4) wNoP (wSoP (wC (.int 30))))))))
    (wApp 2 (wFz (wVar 4)))))))
    (wRetV 2)))
def wb__law_form : WS :=
  (wSeq (wSet 3 (wLst wNilO))
    (wSeq (wFor (wWalk (wFrz (wO1 semSortS (wVar 1)))) (gN 4) (wSeq (wSet 5 (wFz (wIx (wFrz (wLst (wConsO (wFz (wC (.int 0))) (wConsO (wFz (wC (.int 1))) (wConsO (wBin semSub (wVar 2) (wC (.int 1))) (wConsO (wCallS sp__law_draw 0 (wCons (wVar 2) wNil)) wNilO)))))) (wFrz (wCallS sp__law_draw 0 (wCons (wC (.int 4)) wNil))))))
    (wIfS (wTst (wCmpL semGt 5 (wC (.int 0)))) (wApp 3 (wFz (wTup (wCons (wVar 4) (wCons (wVar 5) wNil))))) wSkip)))
    (wRet (wFz (wTup (wCons (wIx (wFrz (wLst (wConsO (wFz (wC (.int 0))) (wConsO (wFz (wC (.int 1))) (wConsO (wBin semSub (wVar 2) (wC (.int 1))) (wConsO (wCallS sp__law_draw 0 (wCons (wVar 2) wNil)) wNilO)))))) (wFrz (wCallS sp__law_draw 0 (wCons (wC (.int 4)) wNil)))) (wCons (wFrz (wO1 semTuple (wVar 3))) wNil)))))))
def wb_new_form : WS :=
  (wSeq (wSet 3 wDct0)
    (wSeq (wFor (wWalk (wVar 1)) (gT 2 (gsCons (gN 4) (gsCons (gN 5) gsNil))) (wSetK 3 (wVar 4) (wFrz (wBin semMod (wFrz (wBin semAdd (wGet2 3 (wVar 4) (wC (.int 0))) (wVar 5))) (wVar 2)))))
    (wRet (wFz (wTup (wCons (wFrz (wBin semMod (wVar 0) (wVar 2))) (wCons (wFrz (wO1 semTuple (wFrz (wLc (wWalk (wFrz (wO1 semSortS (wVar 3)))) (gN 4) (wTst (wCmp semGt (wIxD 3 (wVar 4)) (wC (.int 0)))) (wFz (wTup (wCons (wVar 4) (wCons (wIxD 3 (wVar 4)) wNil)))) [4])))) wNil)))))))
def wb__law_rows : WS :=
  (wSeq (wSet 2 (wLst (wConsO (wFz (wTup wNil)) wNilO)))
    (wSeq (wFor (wRng1 (wVar 0)) (gN 3) (wSeq (wSet 4 (wLst wNilO))
    (wSeq (wFor (wRng1 (wVar 1)) (gN 5) (wSet 4 (wBin semAdd (wVar 4) (wFrz (wLc (wWalk (wVar 2)) (gN 6) wYes (wBin semAdd (wVar 6) (wTup (wCons (wVar 5) wNil))) [6])))))
    (wSet 2 (wFz (wVar 4))))))
    (wRetV 2)))
def wb_worth_of : WS :=
  (wSeq (wAsg (gT 2 (gsCons (gN 3) (gsCons (gN 4) gsNil))) (wVar 0))
    (wRet (wBin semMod (wCmp semSumS (wFrz (wLc (wWalk (wVar 4)) (gT 2 (gsCons (gN 5) (gsCons (gN 6) gsNil))) wYes (wBin semMul (wVar 6) (wGet2 1 (wVar 5) (wC (.int 0)))) [5, 6])) (wVar 3)) (wVar 2))))
def wb_sum_of : WS :=
  (wRet (wCall sp_new_form (wCons (wFrz (wBin semAdd (wIxL 0 (wC (.int 0))) (wIxL 1 (wC (.int 0))))) (wCons (wFrz (wO1 semList (wFrz (wBin semAdd (wIxL 0 (wC (.int 1))) (wIxL 1 (wC (.int 1))))))) (wCons (wVar 2) wNil)))))
def wb_times_of : WS :=
  (wRet (wCall sp_new_form (wCons (wFrz (wBin semMul (wIxL 0 (wC (.int 0))) (wVar 1))) (wCons (wFrz (wLc (wWalk (wIxL 0 (wC (.int 1)))) (gT 2 (gsCons (gN 3) (gsCons (gN 4) gsNil))) wYes (wFz (wTup (wCons (wVar 3) (wCons (wFrz (wBin semMul (wVar 4) (wVar 1))) wNil)))) [3, 4])) (wCons (wVar 2) wNil)))))
def wb_put_in : WS :=
  (wSeq (wAsg (gT 2 (gsCons (gN 3) (gsCons (gN 4) gsNil))) (wVar 0))
    (wSeq (wSet 5 (wFz (wTup (wCons (wVar 3) (wCons (wTup wNil) wNil)))))
    (wSeq (wFor (wWalk (wVar 4)) (gT 2 (gsCons (gN 6) (gsCons (gN 7) gsNil))) (wSet 5 (wCall sp_sum_of (wCons (wVar 5) (wCons (wFrz (wCall sp_times_of (wCons (wGet2 1 (wVar 6) (wTup (wCons (wC (.int 0)) (wCons (wTup (wCons (wTup (wCons (wVar 6) (wCons (wC (.int 1)) wNil))) wNil)) wNil)))) (wCons (wVar 7) (wCons (wVar 2) wNil))))) (wCons (wVar 2) wNil))))))
    (wRetV 5))))
def wb__law_held : WS :=
  (wSeq (wPar 6 7 (wFrz (wCall sp_worth_of (wCons (wVar 0) (wCons (wVar 4) (wCons (wVar 5) wNil))))) (wFrz (wCall sp_worth_of (wCons (wVar 1) (wCons (wVar 4) (wCons (wVar 5) wNil))))))
    (wSeq (wIfS (wTst (wCmp semNe (wFrz (wCall sp_worth_of (wCons (wFrz (wCall sp_sum_of (wCons (wVar 0) (wCons (wVar 1) (wCons (wVar 5) wNil))))) (wCons (wVar 4) (wCons (wVar 5) wNil))))) (wFrz (wBin semMod (wFrz (wBin semAdd (wVar 6) (wVar 7))) (wVar 5))))) (wRet (wFz (wC (.bl false)))) wSkip)
    (wSeq (wIfS (wTst (wCmp semNe (wFrz (wCall sp_worth_of (wCons (wFrz (wCall sp_times_of (wCons (wVar 0) (wCons (wVar 2) (wCons (wVar 5) wNil))))) (wCons (wVar 4) (wCons (wVar 5) wNil))))) (wFrz (wBin semMod (wFrz (wBin semMul (wVar 6) (wVar 2))) (wVar 5))))) (wRet (wFz (wC (.bl false)))) wSkip)
    (wSeq (wSet 8 (wO1 semDict (wFrz (wLc (wWalk (wVar 3)) (gN 9) wYes (wFz (wTup (wCons (wVar 9) (wCons (wFrz (wCall sp_worth_of (wCons (wIxD 3 (wVar 9)) (wCons (wVar 4) (wCons (wVar 5) wNil))))) wNil)))) [9]))))
    (wRet (wFz (wCmp semEq (wFrz (wCall sp_worth_of (wCons (wFrz (wCall sp_put_in (wCons (wVar 0) (wCons (wVar 3) (wCons (wVar 5) wNil))))) (wCons (wVar 4) (wCons (wVar 5) wNil))))) (wFrz (wCall sp_worth_of (wCons (wVar 0) (wCons (wVar 8) (wCons (wVar 5) wNil))))))))))))
def wb_is_whole : WS :=
  (wRet (wFz (wAndV (wIsi .int (wLook 0)) (wNotV (wIsi .bl (wLook 0))))))
def wb_is_number : WS :=
  (wRet (wFz (wAndV (wFrz (wCall sp_is_whole (wCons (wVar 0) wNil))) (wChain semLe semLt (wC (.int 0)) (wVar 0) (wVar 1)))))
def wb_is_place : WS :=
  (wSeq (wIfS (wOr (wNot (wTru (wIsi .str (wLook 0)))) (wOr (wNot (wTst (wChain semLe semLe (wC (.int 1)) (wC1 semLen (wLook 0)) (wC (.int 40))))) (wTst (wCmp (semInD true) (wIxL 0 (wC (.int 0))) (wC (.str ("abcdefghijklmnopqrstuvwxyz" : Str))))))) (wRet (wFz (wC (.bl false)))) wSkip)
    (wRet (wFz (wC1 semAll (wFrz (wLc (wWalk (wVar 0)) (gN 1) wYes (wFz (wOrV (wCmpL (semInD false) 1 (wC (.str ("abcdefghijklmnopqrstuvwxyz" : Str)))) (wOrV (wCmpL (semInD false) 1 (wC (.str ("0123456789" : Str)))) (wCmpL semEq 1 (wC (.str ("." : Str))))))) [1]))))))
def wb_is_term : WS :=
  (wSeq (wIfS (wOr (wNot (wTru (wIsi .tup (wLook 0)))) (wTst (wCmp semNe (wC1 semLen (wLook 0)) (wC (.int 2))))) (wRet (wFz (wC (.bl false)))) wSkip)
    (wSeq (wAsg (gT 2 (gsCons (gN 2) (gsCons (gN 3) gsNil))) (wVar 0))
    (wRet (wFz (wAndV (wFrz (wCall sp_is_place (wCons (wVar 2) wNil))) (wAndV (wFrz (wCall sp_is_number (wCons (wVar 3) (wCons (wVar 1) wNil)))) (wCmpL semGt 3 (wC (.int 0)))))))))
def wb_is_form : WS :=
  (wSeq (wIfS (wOr (wNot (wTru (wIsi .tup (wLook 0)))) (wOr (wTst (wCmp semNe (wC1 semLen (wLook 0)) (wC (.int 2)))) (wNot (wTru (wFrz (wCall sp_is_number (wCons (wIxL 0 (wC (.int 0))) (wCons (wVar 1) wNil)))))))) (wRet (wFz (wC (.bl false)))) wSkip)
    (wSeq (wAsg (gT 2 (gsCons (gN 2) (gsCons (gN 3) gsNil))) (wVar 0))
    (wSeq (wIfS (wOr (wNot (wTru (wIsi .tup (wLook 3)))) (wNot (wTru (wC1 semAll (wFrz (wLc (wWalk (wVar 3)) (gN 4) wYes (wCall sp_is_term (wCons (wVar 4) (wCons (wVar 1) wNil))) [4])))))) (wRet (wFz (wC (.bl false)))) wSkip)
    (wRet (wFz (wC1 semAll (wFrz (wLc (wZip (wVar 3) (wFrz (wSl (wVar 3) (wSoP (wC (.int 1))) wNoP))) (gT 2 (gsCons (gN 5) (gsCons (gN 6) gsNil))) wYes (wFz (wCmp semLt (wIxL 5 (wC (.int 0))) (wIxL 6 (wC (.int 0))))) [5, 6]))))))))
def wb_inverse : WS :=
  (wSeq (wPar3 2 3 4 (wC (.int 1)) (wVar 0) (wFrz (wBin semSub (wVar 1) (wC (.int 2)))))
    (wSeq (wWhile (wTst (wCmpL semGt 4 (wC (.int 0)))) (wSeq (wIfS (wTst (wCmp semEq (wFrz (wBin semMod (wVar 4) (wC (.int 2)))) (wC (.int 1)))) (wSet 2 (wBin semMod (wFrz (wBin semMul (wVar 2) (wVar 3))) (wVar 1))) wSkip)
    (wSeq (wSet 3 (wBin semMod (wFrz (wBin semMul (wVar 3) (wVar 3))) (wVar 1)))
    (wSet 4 (wBin semDiv (wVar 4) (wC (.int 2)))))))
    (wRet (wBin semMod (wVar 2) (wVar 1)))))
def wb_places_in : WS :=
  (wRet (wO1 semTuple (wFrz (wLc (wWalk (wIxL 0 (wC (.int 1)))) (gT 2 (gsCons (gN 1) (gsCons (gN 2) gsNil))) wYes (wFz (wVar 1)) [1, 2]))))
def wb_term_in : WS :=
  (wSeq (wSet 1 (wBin semSub (wC1 semLen (wLook 0)) (wC1 semLen (wLstrip (wVar 0) (wC (.str ("0123456789" : Str)))))))
    (wSeq (wPar 2 3 (wFrz (wSl (wVar 0) wNoP (wSoP (wVar 1)))) (wFrz (wSl (wVar 0) (wSoP (wVar 1)) wNoP)))
    (wSeq (wIfS (wOr (wTst (wCmpL semEq 0 (wC (.str ("" : Str))))) (wTst (wCmpL semGt 1 (wC (.int 3))))) (wRet (wFz (wC .non))) wSkip)
    (wRet (wFz (wTup (wCons (wVar 3) (wCons (wIf (wTst (wCmpL semNe 2 (wC (.str ("" : Str))))) (wC1 semIntS (wLook 2)) (wC (.int 1))) wNil))))))))
def wb_term_text : WS :=
  (wRet (wIf (wTst (wCmpL semEq 1 (wC (.int 1)))) (wMov 0) (wFz (wJoined [(wFmt (wVar 1)), (wFmt (wVar 0))]))))
def wb_form_text : WS :=
  (wSeq (wAsg (gT 2 (gsCons (gN 1) (gsCons (gN 2) gsNil))) (wVar 0))
    (wSeq (wSet 3 (wIf (wOr (wTst (wCmpL semNe 1 (wC (.int 0)))) (wTst (wCmpL semEq 2 (wTup wNil)))) (wLst (wConsO (wFz (wC1 semStr (wLook 1))) wNilO)) (wLst wNilO)))
    (wRet (wFz (wJoin (wC (.str ("+" : Str))) (wFrz (wBin semAdd (wVar 3) (wFrz (wLc (wWalk (wVar 2)) (gT 2 (gsCons (gN 4) (gsCons (gN 5) gsNil))) wYes (wCall sp_term_text (wCons (wVar 4) (wCons (wVar 5) wNil))) [4, 5])))))))))
def wb_read_form : WS :=
  (wSeq (wIfS (wNot (wTru (wIsi .str (wLook 0)))) (wRet (wFz (wC .non))) wSkip)
    (wSeq (wSet 2 (wLc (wWalk (wFrz (wSplit (wVar 0) (wC (.str ("+" : Str)))))) (gN 5) wYes (wCall sp_term_in (wCons (wVar 5) wNil)) [5]))
    (wSeq (wIfS (wTst (wCmp (semNoneIn false) (wC .non) (wLook 2))) (wRet (wFz (wC .non))) wSkip)
    (wSeq (wSet 3 (wFz (wC1 semSum (wFrz (wLc (wWalk (wVar 2)) (gT 2 (gsCons (gN 6) (gsCons (gN 7) gsNil))) (wTst (wCmpL semEq 6 (wC (.str ("" : Str))))) (wFz (wVar 7)) [6, 7])))))
    (wSeq (wSet 4 (wFz (wTup (wCons (wVar 3) (wCons (wFrz (wO1 semTuple (wFrz (wLc (wWalk (wVar 2)) (gT 2 (gsCons (gN 6) (gsCons (gN 7) gsNil))) (wTst (wCmpL semNe 6 (wC (.str ("" : Str))))) (wFz (wTup (wCons (wVar 6) (wCons (wVar 7) wNil)))) [6, 7])))) wNil)))))
    (wRet (wIf (wAnd (wTru (wFrz (wCall sp_is_form (wCons (wVar 4) (wCons (wVar 1) wNil))))) (wTst (wCmp semEq (wFrz (wCall sp_form_text (wCons (wVar 4) wNil))) (wLook 0)))) (wMov 4) (wFz (wC .non)))))))))
def wb_law : WS :=
  (wSeq (wSet 1 (wCall sp__law_begun (wCons (wVar 0) wNil)))
    (wSeq (wFor (wRng1 (wC (.int 3))) (gN 2) (wSeq (wSet 3 (wFz (wIx (wFrz (wLst (wConsO (wFz (wC (.int 2))) (wConsO (wFz (wC (.int 3))) (wConsO (wFz (wC (.int 5))) wNilO))))) (wFrz (wCallS sp__law_draw 1 (wCons (wC (.int 3)) wNil))))))
    (wSeq (wSet 4 (wO1 semSortS (wFrz (wCallS sp__law_places 1 (wCons (wFrz (wCallS sp__law_draw 1 (wCons (wC (.int 4)) wNil))) wNil)))))
    (wSeq (wPar 5 6 (wFrz (wCallS sp__law_form 1 (wCons (wVar 4) (wCons (wVar 3) wNil)))) (wFrz (wCallS sp__law_form 1 (wCons (wVar 4) (wCons (wVar 3) wNil)))))
    (wSeq (wIfS (wTst (wCmp semEq (wFrz (wCallS sp__law_draw 1 (wCons (wC (.int 3)) wNil))) (wC (.int 0)))) (wSet 6 (wCall sp_new_form (wCons (wFrz (wBin semAdd (wIxL 5 (wC (.int 0))) (wFrz (wBin semMul (wVar 3) (wFrz (wCallS sp__law_draw 1 (wCons (wC (.int 3)) wNil))))))) (wCons (wFrz (wRev (wFrz (wO1 semList (wIxL 5 (wC (.int 1))))))) (wCons (wVar 3) wNil))))) wSkip)
    (wSeq (wSet 7 (wO1 semDict (wFrz (wLc (wWalk (wVar 4)) (gN 14) wYes (wFz (wTup (wCons (wVar 14) (wCons (wFrz (wCallS sp__law_form 1 (wCons (wVar 4) (wCons (wVar 3) wNil)))) wNil)))) [14]))))
    (wSeq (wPar 8 9 (wFrz (wBin semSub (wFrz (wCallS sp__law_draw 1 (wCons (wC (.int 9)) wNil))) (wC (.int 4)))) (wC (.bl true)))
    (wSeq (wFor (wWalk (wFrz (wCall sp__law_rows (wCons (wC1 semLen (wLook 4)) (wCons (wVar 3) wNil))))) (gN 10) (wSeq (wSet 11 (wDZ (wVar 4) (wVar 10)))
    (wSeq (wSet 9 (wFz (wAndV (wVar 9) (wCmp semEq (wFrz (wCall sp_worth_of (wCons (wVar 5) (wCons (wVar 11) (wCons (wVar 3) wNil))))) (wFrz (wCall sp_worth_of (wCons (wVar 6) (wCons (wVar 11) (wCons (wVar 3) wNil)))))))))
    (wIfS (wNot (wTru (wFrz (wCall sp__law_held (wCons (wVar 5) (wCons (wVar 6) (wCons (wVar 8) (wCons (wVar 7) (wCons (wVar 11) (wCons (wVar 3) wNil)))))))))) (wRet (wFz (wC (.bl false)))) wSkip))))
    (wSeq (wIfS (wOr (wTst (wCmp semNe (wCmpL semEq 5 (wLook 6)) (wLook 9))) (wNot (wTru (wFrz (wCall sp_is_form (wCons (wFrz (wCall sp_put_in (wCons (wVar 5) (wCons (wVar 7) (wCons (wVar 3) wNil))))) (wCons (wVar 3) wNil))))))) (wRet (wFz (wC (.bl false)))) wSkip)
    (wSeq (wSet 12 (wIf (wTst (wCmp semGt (wFrz (wBin semMod (wVar 8) (wVar 3))) (wC (.int 0)))) (wCall sp_inverse (wCons (wFrz (wBin semMod (wVar 8) (wVar 3))) (wCons (wVar 3) wNil))) (wFz (wC (.int 0)))))
    (wSeq (wIfS (wAnd (wTst (wCmpL semGt 12 (wC (.int 0)))) (wTst (wCmp semNe (wFrz (wCall sp_times_of (wCons (wFrz (wCall sp_times_of (wCons (wVar 5) (wCons (wVar 8) (wCons (wVar 3) wNil))))) (wCons (wVar 12) (wCons (wVar 3) wNil))))) (wLook 5)))) (wRet (wFz (wC (.bl false)))) wSkip)
    (wSeq (wSet 13 (wCall sp_put_in (wCons (wVar 5) (wCons (wFrz (wO1 semDict (wFrz (wLc (wWalk (wVar 4)) (gN 14) wYes (wFz (wTup (wCons (wVar 14) (wCons (wTup (wCons (wC (.int 0)) (wCons (wTup wNil) wNil))) wNil)))) [14])))) (wCons (wVar 3) wNil)))))
    (wSeq (wIfS (wTst (wCmpL semNe 13 (wTup (wCons (wIxL 5 (wC (.int 0))) (wCons (wTup wNil) wNil))))) (wRet (wFz (wC (.bl false)))) wSkip)
    (wSeq (wIfS (wTst (wCmp semNe (wFrz (wLc (wWalk (wFrz (wCall sp_places_in (wCons (wVar 5) wNil)))) (gN 14) (wTst (wCmpL (semInD true) 14 (wLook 4))) (wFz (wVar 14)) [14])) (wFrz (wLst wNilO)))) (wRet (wFz (wC (.bl false)))) wSkip)
    (wIfS (wOr (wTst (wCmp semNe (wFrz (wCall sp_read_form (wCons (wFrz (wCall sp_form_text (wCons (wVar 5) wNil))) (wCons (wVar 3) wNil)))) (wLook 5))) (wTst (wCmp semNe (wCmp semEq (wFrz (wCall sp_form_text (wCons (wVar 5) wNil))) (wFrz (wCall sp_form_text (wCons (wVar 6) wNil)))) (wLook 9)))) (wRet (wFz (wC (.bl false)))) wSkip)))))))))))))))
    (wRet (wFz (wC (.bl true))))))
theorem does__law_draw : ∀ os P, sp__law_draw os P → wb__law_draw (start0 5 os) (endsOf os P) := wDraw_does
theorem deq_bl {n : Nat} (a b : Bool) : deq n (.bl a) (.bl b) = some (a == b) := by cases n <;> rfl
/-- a comprehension over range(n) by what holds -/
theorem lc_rng {g : WG} {wt : WT} {we : WO} {own : List Nat} {P : List O → TEnv → Prop} {ρ : TEnv} (n : Nat) (I : Nat → TEnv → List O → Prop) (h0 : I 0 ρ [])
    (step : ∀ k ρ acc, k < n → I k ρ acc → ∀ (A : O → TEnv → Prop) (B : TEnv → Prop), (∀ o ρ', I (k + 1) ρ' (acc ++ [o]) → A o ρ') → (∀ ρ', I (k + 1) ρ' acc → B ρ') → g (.int k) ρ fun ρ1 => wt ρ1 fun b ρ2 => br b (we ρ2 fun o ρ3 => A o (wipeE ρ3 own)) (B (wipeE ρ2 own)))
    (fin : ∀ ρ acc, I n ρ acc → P acc ρ) : wLcL g wt we own ((List.range n).map fun (k : Nat) => .int k) ρ [] P := by
  refine lc_inv ((List.range n).map fun (k : Nat) => D.int k) (fun pre ρ acc => I pre.length ρ acc) (fun pre d post ρ acc e h A B hA hB => ?_) (fun ρ acc h => ?_) _ [] ρ [] rfl h0
  · have hl := congrArg List.length e
    rw [List.length_map, List.length_range, List.length_append, List.length_cons] at hl
    have hd : d = .int (pre.length : Nat) := by
      have h1 : ((List.range n).map fun (k : Nat) => D.int k)[pre.length]? = some d := by
        rw [e, List.getElem?_append_right (Nat.le_refl _), Nat.sub_self]; rfl
      rw [List.getElem?_map, List.getElem?_range (by omega)] at h1
      exact (Option.some.inj h1).symm
    subst hd
    exact step pre.length ρ acc (by omega) h A B (fun o ρ' h' => hA o ρ' (by rw [List.length_append]; exact h')) (fun ρ' h' => hB ρ' (by rw [List.length_append]; exact h'))
  · exact fin ρ acc (by have h : I ((List.range n).map fun (k : Nat) => D.int k).length ρ acc := h; rw [List.length_map, List.length_range] at h; exact h)
theorem all_bls {α : Type} (ms : List α) (q : α → Bool) : (ms.map q).all id = ms.all q := by
  rw [List.all_map]; rfl
theorem does__law_begun : ∀ os P, sp__law_begun os P → wb__law_begun (start0 2 os) (endsOf os P) := by
  rintro os P ⟨ns, rfl, hle, k⟩
  walk_at "tw"
  refine lc_all D.int ns (fun n => .fz (.int (if n < 0 then -n else n))) (fun m hm A B hA => ?_) ?_
  · walk_at "tw"
    exact ⟨fun _ => hA, fun h => nomatch h⟩
  intro c
  walk_at "tw"
  refine ⟨by show 1 ≤ sizeLine; decide, fun c2 => ?_⟩
  walk_at "tw"
  refine ⟨_, rfl, ?_⟩
  walk_at "tw"
  rw [frzL_mapfz (fun n : Int => D.int (if n < 0 then -n else n))]
  have hl : ((List.map D.int ns).length : Int) = ns.length := by rw [List.length_map]
  rw [hl]
  have fin : ∀ (ms : List Int) (c : Addr) (k1 : Int), (k1 = 0 ∨ k1 = 1) → (0 < ns.length ∨ k1 = 1) → DS [.lst c ((((ns.map fun n => if n < 0 then -n else n) ++ List.replicate k1.toNat 1)).map fun n => .fz (.int n)), .fz (.int 0), .fz (.int 1)] := fun ms c k1 h1 h2 => by
    refine ⟨c, _, 0, 1, rfl, ?_, ?_, by decide, by decide, by decide⟩
    · intro e
      have := congrArg List.length e
      rw [List.length_append, List.length_map, List.length_replicate] at this
      simp only [List.length_nil] at this
      omega
    · intro n hn
      rcases List.mem_append.mp hn with q | q
      · obtain ⟨x, _, rfl⟩ := List.mem_map.mp q
        show 0 ≤ if x < 0 then -x else x
        split <;> omega
      · rw [(List.mem_replicate.mp q).2]; decide
  have hk : ∃ k1 : Int, (if decide ((ns.length : Int) = 0) = true then (1 : Int) else 0) = k1 ∧ (k1 = 0 ∨ k1 = 1) ∧ (0 < ns.length ∨ k1 = 1) := by
    by_cases z : (ns.length : Int) = 0
    · exact ⟨1, by rw [if_pos (decide_eq_true z)], .inr rfl, .inr rfl⟩
    · exact ⟨0, by rw [if_neg (by simpa using z)], .inl rfl, .inl (by omega)⟩
  obtain ⟨k1, ek, hk1, hk2⟩ := hk
  rw [ek]
  refine ⟨by omega, by omega, ?_, fun c3 => ?_⟩
  · show 1 * k1.toNat ≤ sizeLine
    exact Nat.le_trans (show 1 * k1.toNat ≤ 1 by omega) (by decide)
  walk_at "tw"
  have fl : O.frzL (List.map O.fz (List.replicate k1.toNat (O.frzL [O.fz (D.int 1)])).flatten) = (List.replicate k1.toNat (1 : Int)).map D.int := by
    rcases hk1 with e | e <;> subst e <;> rfl
  rw [fl]
  refine ⟨?_, fun c4 => ?_⟩
  · rw [List.length_map, List.length_map, List.length_replicate]
    exact Nat.le_trans (show _ ≤ 64 by omega) (by decide)
  walk_at "tw"
  refine ⟨by show 3 ≤ sizeLine; decide, fun c5 => ?_⟩
  walk_at "tw"
  refine ⟨trivial, ?_⟩
  have := k c5 _ (fin [] c4 k1 hk1 hk2)
  rw [List.map_append, List.map_map] at this
  rw [List.map_append, List.map_map, List.map_map]
  exact this
theorem not_of {b : Bool} (h : (!b) = true) : b = false := by cases b <;> first | rfl | cases h
theorem yes_of {b : Bool} (h : (!b) = false) : b = true := by cases b <;> first | rfl | cases h
theorem is_tup {d : D} (h : Pl0 d = true) : d.is .tup = some (isTup d) := by
  cases d <;> first
    | rfl
    | cases h
theorem is_int {d : D} (h : Pl0 d = true) : d.is .int = some (isInt d || isBl d) := by
  cases d <;> first
    | rfl
    | cases h
theorem is_bl {d : D} (h : Pl0 d = true) : d.is .bl = some (isBl d) := by
  cases d <;> first
    | rfl
    | cases h
theorem does_is_whole : ∀ os P, sp_is_whole os P → wb_is_whole (start0 1 os) (endsOf os P) := by
  rintro os P ⟨d, rfl, h, k⟩
  cases d <;> first
    | (cases h; done)
    | skip
  all_goals
    walk_at "tw"
    refine ⟨fun h => ?_, fun h => ?_⟩
    all_goals first
      | (cases h; done)
      | (walk_at "tw"; exact ⟨trivial, k⟩)
theorem does_is_number : ∀ os P, sp_is_number os P → wb_is_number (start0 2 os) (endsOf os P) := by
  rintro os P ⟨d, p, rfl, h, k⟩
  walk_at "tw"
  refine ⟨⟨d, rfl, h, ?_⟩⟩
  walk_at "tw"
  refine ⟨fun hi => ?_, fun hi => ?_⟩
  · cases d <;> first
      | (cases hi; done)
      | skip
    rename_i i
    walk_at "tw"
    refine ⟨fun h1 => ?_, fun h1 => ?_⟩
    · walk_at "tw"
      refine ⟨trivial, ?_⟩
      have e : isNum p (.int i) = decide (i < p) := by
        show (decide (0 ≤ i) && decide (i < p)) = _
        rw [show decide (0 ≤ i) = true from h1, Bool.true_and]
      rw [e] at k
      exact k
    · walk_at "tw"
      refine ⟨trivial, ?_⟩
      have e : isNum p (.int i) = false := by
        show (decide (0 ≤ i) && decide (i < p)) = _
        rw [show decide (0 ≤ i) = false from h1, Bool.false_and]
      rw [e] at k
      exact k
  · walk_at "tw"
    refine ⟨trivial, ?_⟩
    have e : isNum p d = false := by
      cases d <;> first
        | rfl
        | cases hi
    rw [e] at k
    exact k
theorem flt_map {α β : Type} (ms : List α) (p : α → Bool) (f : α → β) : (ms.filterMap fun m => if p m = true then some (f m) else none) = (ms.filter p).map f := by
  induction ms with
  | nil => rfl
  | cons m ms ih =>
    rw [List.filterMap_cons, List.filter_cons]
    by_cases h : p m = true
    · rw [if_pos h, if_pos h, List.map_cons, ih]
    · rw [if_neg h, if_neg h, ih]
theorem isE_map {α β : Type} (ms : List α) (f : α → β) : (ms.map f).isEmpty = ms.isEmpty := by cases ms <;> rfl
theorem isE_filter {α : Type} (ms : List α) (p : α → Bool) : (ms.filter p).isEmpty = ms.all fun m => !p m := by
  induction ms with
  | nil => rfl
  | cons m ms ih =>
    rw [List.filter_cons, List.all_cons]
    cases h : p m
    · rw [if_neg (by simp), ih]; rfl
    · rw [if_pos rfl]; rfl
theorem atI_head {xs : List Nat} (h : 0 < xs.length) : atI xs 0 = some (xs.headD 0) := by
  cases xs with
  | nil => cases h
  | cons x xs =>
    rw [atI_in (by decide) (by rw [List.length_cons]; omega)]
    rfl
theorem nm_no {z : Str} {n : Int} {more : Str} (h : decide (1 ≤ ((z.length : Nat) : Int)) = false ∨ decide (((z.length : Nat) : Int) ≤ n) = false) : nameB z n more = false := by
  unfold nameB
  rcases h with h | h <;> rw [h] <;> simp
theorem mem_app {x y : Str} {c : Nat} : c ∈ (x ++ y).cps.toList ↔ c ∈ x.cps.toList ∨ c ∈ y.cps.toList := by
  show c ∈ (x.cps ++ y.cps).toList ↔ _
  rw [Array.toList_append, List.mem_append]
theorem sign_dot (c : Nat) : decide ((⟨#[c]⟩ : Str) = Str.ofString ".") = decide (c = 46) := by
  refine decide_eq_decide.mpr ⟨fun h => ?_, fun h => ?_⟩
  · have := congrArg (fun s : Str => s.cps.toList) h
    have : [c] = [46] := this
    injection this
  · subst h; rfl
theorem does_is_place : ∀ os P, sp_is_place os P → wb_is_place (start0 2 os) (endsOf os P) := by
  rintro os P ⟨d, rfl, h, k⟩
  cases d <;> first
    | (cases h; done)
    | skip
  case str z =>
    walk_at "tw"
    refine ⟨fun h => (nomatch h), fun _ => ?_⟩
    walk_at "tw"
    refine ⟨fun h1 => ?_, fun h1 => ?_⟩
    · walk_at "tw"
      refine ⟨fun h2 => ?_, fun h2 => ?_⟩
      · walk_at "tw"
        refine ⟨fun _ => ?_, fun h => nomatch h⟩
        walk_at "tw"
        refine ⟨trivial, ?_⟩
        rw [show nmD 40 "0123456789." (.str z) = false from nm_no (.inr (by revert h2; cases decide (((z.length : Nat) : Int) ≤ 40) <;> simp))] at k
        exact k
      · have h2 : decide (((z.length : Nat) : Int) ≤ 40) = true := by revert h2; cases decide (((z.length : Nat) : Int) ≤ 40) <;> simp
        walk_at "tw"
        have hl : 0 < z.cps.toList.length := by have := of_decide_eq_true h1; have e : z.length = z.cps.toList.length := rfl; omega
        refine ⟨_, atI_head hl, ?_⟩
        walk_at "tw"
        refine ⟨_, rfl, ?_⟩
        walk_at "tw"
        refine ⟨fun h3 => ?_, fun h3 => ?_⟩
        · walk_at "tw"
          refine ⟨trivial, ?_⟩
          have e : nmD 40 "0123456789." (.str z) = false := by
            show (_ && _ && decide (z.cps.toList.headD 0 ∈ letters.cps.toList) && _) = _
            rw [not_of (show (!decide (z.cps.toList.headD 0 ∈ letters.cps.toList)) = true from h3), Bool.and_false, Bool.false_and]
          rw [e] at k
          exact k
        · walk_at "tw"
          refine lc_all (fun c : Nat => D.str ⟨#[c]⟩) z.cps.toList (fun c => .fz (.bl (decide (c ∈ letters.cps.toList) || (decide (c ∈ figures.cps.toList) || decide (c = 46))))) (fun c hc A B hA => ?_) ?_
          · walk_at "tw"
            refine ⟨fun _ => ?_, fun h => nomatch h⟩
            walk_at "tw"
            refine ⟨_, rfl, ?_⟩
            walk_at "tw"
            refine ⟨fun h => ?_, fun h => ?_⟩
            · rw [show decide (c ∈ letters.cps.toList) = true from h, Bool.true_or] at hA
              exact hA
            · rw [show decide (c ∈ letters.cps.toList) = false from h, Bool.false_or] at hA
              walk_at "tw"
              refine ⟨_, rfl, ?_⟩
              walk_at "tw"
              refine ⟨fun h => ?_, fun h => ?_⟩
              · rw [show decide (c ∈ figures.cps.toList) = true from h, Bool.true_or] at hA
                exact hA
              · rw [show decide (c ∈ figures.cps.toList) = false from h, Bool.false_or, ← sign_dot] at hA
                walk_at "tw"
                exact hA
          intro a
          walk_at "tw"
          refine ⟨z.cps.toList.map fun c => (decide (c ∈ letters.cps.toList) || (decide (c ∈ figures.cps.toList) || decide (c = 46))), by rw [frzL_mapfz, bls_mapf], ?_⟩
          walk_at "tw"
          refine ⟨trivial, ?_⟩
          have e : nmD 40 "0123456789." (.str z) = (z.cps.toList.map fun c => (decide (c ∈ letters.cps.toList) || (decide (c ∈ figures.cps.toList) || decide (c = 46)))).all id := by
            show (_ && _ && decide (z.cps.toList.headD 0 ∈ letters.cps.toList) && z.cps.toList.all fun c => decide (c ∈ (letters ++ (Str.ofString "0123456789.")).cps.toList)) = _
            rw [h1, h2, Bool.true_and, yes_of (show (!decide (z.cps.toList.headD 0 ∈ letters.cps.toList)) = false from h3), Bool.true_and, Bool.true_and, all_bls]
            congr 1
            funext c
            rw [← Bool.decide_or, ← Bool.decide_or]
            refine decide_eq_decide.mpr (mem_app.trans ?_)
            have e3 : (Str.ofString "0123456789.").cps.toList = figures.cps.toList ++ [46] := by decide +kernel
            rw [e3, List.mem_append, List.mem_singleton]
          rw [e] at k
          exact k
    · walk_at "tw"
      refine ⟨fun _ => ?_, fun h => nomatch h⟩
      walk_at "tw"
      refine ⟨fun _ => ?_, fun h => nomatch h⟩
      walk_at "tw"
      refine ⟨trivial, ?_⟩
      rw [show nmD 40 "0123456789." (.str z) = false from nm_no (.inl h1)] at k
      exact k
  all_goals
    walk_at "tw"
    refine ⟨fun _ => ?_, fun h => nomatch h⟩
    walk_at "tw"
    refine ⟨fun _ => ?_, fun h => nomatch h⟩
    walk_at "tw"
    exact ⟨trivial, k⟩
def wordsL : List Nat := (Str.ofString "abcxyzqm").cps.toList
def sizeL2 : List Int := [1, 1, 2, 3, 6, 40]
theorem sizeL2_ok : ∀ z ∈ sizeL2, 1 ≤ z ∧ z ≤ 40 := by decide +kernel
def ChOk (z : Str) : Prop := ∀ c ∈ z.cps.toList, c ∈ plSigns
theorem plOk_nm {z : Str} (h : PlOk z) : nameB z 40 "0123456789." = true := by
  unfold nameB
  rw [decide_eq_true (show 1 ≤ ((z.length : Nat) : Int) by have := h.wd.ne; omega), decide_eq_true (show ((z.length : Nat) : Int) ≤ 40 by have := h.le; omega), decide_eq_true h.wd.hd, Bool.true_and, Bool.true_and, Bool.true_and, List.all_eq_true]
  exact fun c hc => decide_eq_true (h.wd.ch c hc)
theorem nm_plOk {z : Str} (h : nameB z 40 "0123456789." = true) : PlOk z := by
  unfold nameB at h
  rw [Bool.and_eq_true, Bool.and_eq_true, Bool.and_eq_true, List.all_eq_true] at h
  obtain ⟨⟨⟨h1, h2⟩, h3⟩, h4⟩ := h
  have h1 := of_decide_eq_true h1
  have h2 := of_decide_eq_true h2
  exact ⟨⟨by omega, of_decide_eq_true h3, fun c hc => of_decide_eq_true (h4 c hc)⟩, by omega⟩
theorem headD_app {l m : List Nat} (h : 0 < l.length) : (l ++ m).headD 0 = l.headD 0 := by
  cases l with
  | nil => cases h
  | cons x l => rfl
theorem WdOk.app {x y : Str} (h : WdOk x) (g : ChOk y) : WdOk (x ++ y) := by
  have e : (x ++ y).cps.toList = x.cps.toList ++ y.cps.toList := Array.toList_append ..
  refine ⟨by rw [str_len_add]; have := h.ne; omega, ?_, fun c hc => ?_⟩
  · rw [e, headD_app (show 0 < x.cps.toList.length from h.ne)]
    exact h.hd
  · rw [e] at hc
    rcases List.mem_append.mp hc with q | q
    · exact h.ch c q
    · exact g c q
theorem ChOk.app {x y : Str} (h : ChOk x) (g : ChOk y) : ChOk (x ++ y) := fun c hc => by
  have e : (x ++ y).cps.toList = x.cps.toList ++ y.cps.toList := Array.toList_append ..
  rw [e] at hc
  rcases List.mem_append.mp hc with q | q
  · exact h c q
  · exact g c q
theorem letters_sub : ∀ c ∈ letters.cps.toList, c ∈ plSigns := by decide +kernel
theorem wd_one (c : Nat) (h : c ∈ letters.cps.toList) : WdOk ⟨#[c]⟩ := ⟨Nat.le_refl _, h, fun d hd => by
  rw [List.mem_singleton.mp (show d ∈ [c] from hd)]; exact letters_sub c h⟩
theorem ch_one (c : Nat) (h : c ∈ plSigns) : ChOk ⟨#[c]⟩ := fun d hd => by
  rw [List.mem_singleton.mp (show d ∈ [c] from hd)]; exact h
theorem words_ok : ∀ c ∈ (Str.ofString "abcxyzqm").cps.toList, c ∈ letters.cps.toList := by decide +kernel
theorem figs_ok : ∀ c ∈ (Str.ofString "abcxyz0189.mnopqrstuvwdefghijkl234567").cps.toList, c ∈ plSigns := by decide +kernel
theorem sizeL2_six : ∀ z ∈ sizeL2, z ∈ [1, 2, 3, 6, 40] := by decide +kernel
theorem does__law_place : ∀ os P, sp__law_place os P → wb__law_place (start0 4 os) (endsOf os P) := by
  rintro os P ⟨a, xs, rfl, hd, k⟩
  walk_at "tw"
  refine ⟨by show 6 ≤ sizeLine; decide, fun b => ?_⟩
  walk_at "tw"
  refine draw_i hd (by decide) (by decide) fun n ys h0 h1 hy => ⟨_, _, rfl, ?_⟩
  walk_at "tw"
  refine ⟨_, atI_map D.int (xs := sizeL2) h0 h1, ?_⟩
  have hs := sizeL2_ok _ (List.getElem_mem (l := sizeL2) (n := n.toNat) (by show n.toNat < 6; omega))
  have hs2 := sizeL2_six _ (List.getElem_mem (l := sizeL2) (n := n.toNat) (by show n.toNat < 6; omega))
  generalize sizeL2[n.toNat]'(by show n.toNat < 6; omega) = s at hs hs2 ⊢
  walk_at "tw"
  refine draw_i hy (by decide) (by decide) fun n2 ys h0 h1 hy => ⟨_, _, rfl, ?_⟩
  walk_at "tw"
  refine ⟨_, atI_in (xs := (Str.ofString "abcxyzqm").cps.toList) h0 (by rw [show (Str.ofString "abcxyzqm").cps.toList.length = 8 from by decide +kernel]; exact h1), ?_⟩
  generalize hg : (⟨#[_]⟩ : Str) = w0
  have hw0 : w0.length = 1 := by rw [← hg]; rfl
  walk_at "tw"
  have hok0 : WdOk w0 := by
    rw [← hg]
    exact wd_one _ (words_ok _ (List.getElem_mem _))
  refine while_inv (fun j ρ => ∃ ys w, DS ys ∧ WdOk w ∧ (w.length : Int) ≤ 1 + s ∧ (w.length = 1 ∨ (w.length : Int) ≤ s) ∧ j = 42 - w.length ∧ ρ = [some (.lst a ys), some (.fz (.str (Str.ofString "abcxyz0189.mnopqrstuvwdefghijkl234567"))), some (.fz (.int s)), some (.fz (.str w))]) (n := 41) ?_ ⟨ys, w0, hy, hok0, by omega, .inl hw0, by omega, rfl⟩
  rintro j ρ ⟨ys, w, hy, hok, hl, hl2, rfl, rfl⟩ N hN
  walk_at "tw"
  refine ⟨fun h => ?_, fun h => ?_⟩
  · have h := of_decide_eq_true h
    walk_at "tw"
    refine draw_i hy (by decide) (by decide) fun n2 ys h0 h1 hy => ⟨_, _, rfl, ?_⟩
    walk_at "tw"
    refine ⟨_, atI_in (xs := (Str.ofString "abcxyz0189.mnopqrstuvwdefghijkl234567").cps.toList) h0 (by rw [show (Str.ofString "abcxyz0189.mnopqrstuvwdefghijkl234567").cps.toList.length = 37 from by decide +kernel]; exact h1), ?_⟩
    generalize hg : (⟨#[_]⟩ : Str) = w1
    have hw1 : w1.length = 1 := by rw [← hg]; rfl
    have hok1 : ChOk w1 := by
      rw [← hg]
      exact ch_one _ (figs_ok _ (List.getElem_mem _))
    walk_at "tw"
    refine ⟨Nat.le_trans (show _ ≤ 64 by omega) (by decide), ?_⟩
    refine hN _ _ ?_ ⟨ys, w ++ w1, hy, hok.app hok1, by rw [str_len_add]; omega, .inr (by rw [str_len_add]; omega), rfl, rfl⟩
    rw [str_len_add]; omega
  · walk_at "tw"
    exact ⟨⟨rfl, trivial⟩, k _ _ ⟨hok, by omega⟩ (by
      have := of_decide_eq_false h
      simp only [List.mem_cons, List.not_mem_nil, or_false] at hs2 ⊢
      omega) hy⟩
theorem lt_irrefl {x : Str} : ¬ ltS x x := List.lt_irrefl _
theorem pl3_1 : ∀ (n : Nat) (d : D), pl3 n d = true → Pl1 d = true
  | 0, _, h => h
  | n + 1, d, h => by
    cases d <;> first
      | rfl
      | exact h
theorem pl3_0 (n : Nat) (d : D) (h : pl3 n d = true) : Pl0 d = true := ((Bool.and_eq_true _ _).mp (pl3_1 n d h)).1
theorem pl3_k (n : Nat) (d : D) (h : pl3 n d = true) : d.kd ≠ 0 := of_decide_eq_true ((Bool.and_eq_true _ _).mp (pl3_1 n d h)).2
theorem pl3_in {n : Nat} {ds : List D} (h : pl3 (n + 1) (.tup ds) = true) : ∀ d ∈ ds, pl3 n d = true := List.all_eq_true.mp h
theorem len2 {ds : List D} (h : ds.length = 2) : ∃ a b, ds = [a, b] := by
  match ds, h with
  | [a, b], _ => exact ⟨a, b, rfl⟩
theorem termB_no {p : Int} {ds : List D} (h : ds.length ≠ 2) : termB p (.tup ds) = false := by
  unfold termB
  split
  · rename_i e
    cases e
    exact absurd rfl h
  · rfl
theorem termB_nt {p : Int} {d : D} (h : isTup d = false) : termB p d = false := by
  cases d <;> first
    | (cases h; done)
    | rfl
theorem isTup_ex {d : D} (h : isTup d = true) : ∃ ds, d = .tup ds := by
  cases d <;> first
    | (cases h; done)
    | exact ⟨_, rfl⟩
theorem nmD_ex {n : Int} {more : Str} {d : D} (h : nmD n more d = true) : ∃ z, d = .str z := by
  cases d <;> first
    | (cases h; done)
    | exact ⟨_, rfl⟩
theorem isNum_ex {p : Int} {d : D} (h : isNum p d = true) : ∃ i, d = .int i := by
  cases d <;> first
    | (cases h; done)
    | exact ⟨_, rfl⟩
theorem does_is_term : ∀ os P, sp_is_term os P → wb_is_term (start0 4 os) (endsOf os P) := by
  rintro os P ⟨d, p, rfl, h, k⟩
  walk_at "tw"
  rw [is_tup (pl3_0 _ _ h)]
  walk_at "tw"
  refine ⟨fun hn => ?_, fun hn => ?_⟩
  · walk_at "tw"
    refine ⟨fun _ => ?_, fun h => nomatch h⟩
    walk_at "tw"
    refine ⟨trivial, ?_⟩
    rw [termB_nt (not_of hn)] at k
    exact k
  obtain ⟨ds, rfl⟩ := isTup_ex (yes_of hn)
  walk_at "tw"
  refine ⟨ds, rfl, ?_⟩
  walk_at "tw"
  refine ⟨fun hl => ?_, fun hl => ?_⟩
  · walk_at "tw"
    refine ⟨trivial, ?_⟩
    rw [termB_no (fun e => by rw [e] at hl; cases hl)] at k
    exact k
  have hl := of_decide_eq_true (yes_of hl)
  obtain ⟨a, b, rfl⟩ := len2 (ds := ds) (by omega)
  have hin := pl3_in h
  walk_at "tw"
  refine ⟨rfl, ?_⟩
  walk_at "tw"
  refine ⟨a, rfl, pl3_0 _ _ (hin a List.mem_cons_self), ?_⟩
  walk_at "tw"
  refine ⟨fun h1 => ?_, fun h1 => ?_⟩
  · walk_at "tw"
    refine ⟨b, p, rfl, pl3_0 _ _ (hin b (List.mem_cons_of_mem _ List.mem_cons_self)), ?_⟩
    walk_at "tw"
    refine ⟨fun h2 => ?_, fun h2 => ?_⟩
    · obtain ⟨i, rfl⟩ := isNum_ex h2
      walk_at "tw"
      refine ⟨trivial, ?_⟩
      have e : termB p (.tup [a, .int i]) = decide (0 < i) := by
        show (nmD 40 "0123456789." a && (isNum p (.int i) && decide (0 < i))) = _
        rw [show nmD 40 "0123456789." a = true from h1, show isNum p (.int i) = true from h2, Bool.true_and, Bool.true_and]
      rw [e] at k
      exact k
    · walk_at "tw"
      refine ⟨trivial, ?_⟩
      have e : termB p (.tup [a, b]) = false := by
        show (nmD 40 "0123456789." a && (isNum p b && posD b)) = _
        rw [show isNum p b = false from h2, Bool.false_and, Bool.and_false]
      rw [e] at k
      exact k
  · walk_at "tw"
    refine ⟨trivial, ?_⟩
    have e : termB p (.tup [a, b]) = false := by
      show (nmD 40 "0123456789." a && (isNum p b && posD b)) = _
      rw [show nmD 40 "0123456789." a = false from h1, Bool.false_and]
    rw [e] at k
    exact k
theorem formB_nt {p : Int} {d : D} (h : isTup d = false) : formB p d = false := by
  cases d <;> first
    | (cases h; done)
    | rfl
theorem formB_no {p : Int} {ds : List D} (h : ds.length ≠ 2) : formB p (.tup ds) = false := by
  unfold formB
  split
  · rename_i e
    cases e
    exact absurd rfl h
  · rfl
theorem formB_n {p : Int} {a b : D} (h : isNum p a = false) : formB p (.tup [a, b]) = false := by
  cases b <;> first
    | rfl
    | skip
  show (isNum p a && _) = _
  rw [h, Bool.false_and]
theorem formB_t {p : Int} {a b : D} (h : isTup b = false) : formB p (.tup [a, b]) = false := by
  cases b <;> first
    | rfl
    | (cases h; done)
theorem zip_ris : ∀ ts : List D, ((ts.zip ts.tail).map fun q => decide (ltS (fstS q.1) (fstS q.2))).all id = risB ts
  | [] => rfl
  | [_] => rfl
  | x :: y :: r => by
    have ih := zip_ris (y :: r)
    show (decide _ && (((y :: r).zip (y :: r).tail).map _).all id) = _
    rw [ih]
    rfl
theorem term_fst {p : Int} {d : D} (h : termB p d = true) : ∃ z i, d = .tup [.str z, .int i] ∧ nameB z 40 "0123456789." = true ∧ isNum p (.int i) = true ∧ 0 < i := by
  unfold termB at h
  split at h
  · rename_i a b
    rw [Bool.and_eq_true, Bool.and_eq_true] at h
    obtain ⟨h1, h2, h3⟩ := h
    cases a <;> first
      | (cases h1; done)
      | skip
    cases b <;> first
      | (cases h2; done)
      | skip
    exact ⟨_, _, rfl, h1, h2, of_decide_eq_true h3⟩
  · cases h
theorem cut_tail (ts : List D) : cutG ts (some 1) none = ts.tail := by
  cases ts with
  | nil => rfl
  | cons x r =>
    unfold cutG
    have e : HT.sIx (x :: r).length 0 (some 1) = 1 := by
      rw [show (1 : Int) = ((1 : Nat) : Int) from rfl, HT.sIx_nat, List.length_cons]
      omega
    rw [e, HT.sIx_none, List.drop_one, List.tail_cons]
    exact List.take_of_length_le (by rw [List.length_cons]; omega)
theorem does_is_form : ∀ os P, sp_is_form os P → wb_is_form (start0 7 os) (endsOf os P) := by
  rintro os P ⟨d, p, rfl, h, k⟩
  walk_at "tw"
  rw [is_tup (pl3_0 _ _ h)]
  walk_at "tw"
  refine ⟨fun hn => ?_, fun hn => ?_⟩
  · walk_at "tw"
    refine ⟨fun _ => ?_, fun h => nomatch h⟩
    walk_at "tw"
    refine ⟨trivial, ?_⟩
    rw [formB_nt (not_of hn)] at k
    exact k
  obtain ⟨ds, rfl⟩ := isTup_ex (yes_of hn)
  walk_at "tw"
  refine ⟨ds, rfl, ?_⟩
  walk_at "tw"
  refine ⟨fun hl => ?_, fun hl => ?_⟩
  · walk_at "tw"
    refine ⟨fun _ => ?_, fun h => nomatch h⟩
    walk_at "tw"
    refine ⟨trivial, ?_⟩
    rw [formB_no (fun e => by rw [e] at hl; cases hl)] at k
    exact k
  have hl := of_decide_eq_true (yes_of hl)
  obtain ⟨a, b, rfl⟩ := len2 (ds := ds) (by omega)
  have hin := pl3_in h
  walk_at "tw"
  refine ⟨_, rfl, ?_⟩
  walk_at "tw"
  refine ⟨a, p, rfl, pl3_0 _ _ (hin a List.mem_cons_self), ?_⟩
  walk_at "tw"
  refine ⟨fun hn => ?_, fun hn => ?_⟩
  · walk_at "tw"
    refine ⟨trivial, ?_⟩
    rw [formB_n (not_of hn)] at k
    exact k
  have hnum := yes_of hn
  walk_at "tw"
  refine ⟨rfl, ?_⟩
  walk_at "tw"
  have hb := hin b (List.mem_cons_of_mem _ List.mem_cons_self)
  rw [is_tup (pl3_0 _ _ hb)]
  walk_at "tw"
  refine ⟨fun hn => ?_, fun hn => ?_⟩
  · walk_at "tw"
    refine ⟨fun _ => ?_, fun h => nomatch h⟩
    walk_at "tw"
    refine ⟨trivial, ?_⟩
    rw [formB_t (not_of hn)] at k
    exact k
  obtain ⟨ts, rfl⟩ := isTup_ex (yes_of hn)
  have hts := pl3_in hb
  walk_at "tw"
  refine lc_allD ts (fun d => .fz (.bl (termB p d))) (fun m hm A B hA => ?_) ?_
  · walk_at "tw"
    refine ⟨fun _ => ?_, fun h => nomatch h⟩
    walk_at "tw"
    exact ⟨⟨m, p, rfl, hts m hm, hA⟩⟩
  intro c
  walk_at "tw"
  refine ⟨ts.map (termB p), by rw [frzL_mapfz, bls_mapf], ?_⟩
  walk_at "tw"
  rw [all_bls]
  refine ⟨fun hn => ?_, fun hn => ?_⟩
  · walk_at "tw"
    refine ⟨trivial, ?_⟩
    have e : formB p (.tup [a, .tup ts]) = false := by
      show (isNum p a && (ts.all (termB p) && risB ts)) = _
      rw [not_of hn, Bool.false_and, Bool.and_false]
    rw [e] at k
    exact k
  have hall := yes_of hn
  walk_at "tw"
  rw [cut_tail]
  refine lc_all (fun q : D × D => D.tup [q.1, q.2]) (ts.zip ts.tail) (fun q => .fz (.bl (decide (ltS (fstS q.1) (fstS q.2))))) (fun m hm A B hA => ?_) ?_
  · obtain ⟨x, y⟩ := m
    obtain ⟨hx, hy⟩ := List.of_mem_zip hm
    obtain ⟨z1, i1, rfl, _⟩ := term_fst (List.all_eq_true.mp hall x hx)
    obtain ⟨z2, i2, rfl, _⟩ := term_fst (List.all_eq_true.mp hall y (List.mem_of_mem_tail hy))
    walk_at "tw"
    refine ⟨rfl, ?_⟩
    walk_at "tw"
    refine ⟨fun _ => ?_, fun h => nomatch h⟩
    walk_at "tw"
    refine ⟨_, rfl, ?_⟩
    walk_at "tw"
    refine ⟨_, rfl, ?_⟩
    exact hA
  intro c
  walk_at "tw"
  refine ⟨(ts.zip ts.tail).map fun q => decide (ltS (fstS q.1) (fstS q.2)), by rw [frzL_mapfz, bls_mapf], ?_⟩
  walk_at "tw"
  rw [zip_ris]
  refine ⟨trivial, ?_⟩
  have e : formB p (.tup [a, .tup ts]) = risB ts := by
    show (isNum p a && (ts.all (termB p) && risB ts)) = _
    rw [hnum, hall, Bool.true_and, Bool.true_and]
  rw [e] at k
  exact k
def hd_ (n : Nat) : List Nat := if n < 10 then [113, 48 + n] else [113, 48 + n / 10, 48 + n % 10]
/-- the word that the loop comes to, where it doesn't end ahead -/
def fixL (n : Nat) : List Nat := if n < 10 then (List.replicate 16 (hd_ n)).flatten else (List.replicate 11 (hd_ n)).flatten
def pre10 : List Nat := (fixL 10).dropLast
structure NF (k : Nat) (e : List Nat) : Prop where
  fx : ∀ m, k < m → m < 20 → e ≠ fixL m
  pr : k < 10 → e ≠ pre10
theorem len_fix : ∀ m < 20, (fixL m).length = 32 ∨ (fixL m).length = 33 := by decide +kernel
theorem fix_hd : ∀ n < 20, fixL n = hd_ n ++ (fixL n).take 30 := by decide +kernel
theorem len_hd : ∀ n < 20, (hd_ n).length = if n < 10 then 2 else 3 := by decide +kernel
theorem len_fix2 : ∀ n < 20, (fixL n).length = if n < 10 then 32 else 33 := by decide +kernel
theorem numS_hd : ∀ n < 20, 113 :: (numS (n : Nat)).cps.toList = hd_ n := by decide +kernel
theorem fix_last : ∀ m < 20, fixL m = (fixL m).dropLast ++ [48 + m % 10] := by decide +kernel
theorem pre_last : pre10 = pre10.dropLast ++ [49] := by decide +kernel
theorem len_pre : pre10.length = 32 := by decide +kernel
theorem fix_pre : ∀ m < 20, 0 < m → m % 10 = 0 → m = 10 := by decide
theorem fix_ne : ∀ m < 20, ∀ k < 20, k < m → (hd_ k).length = (hd_ m).length → hd_ k ≠ hd_ m := by decide +kernel
theorem nf_rand {k : Nat} {z : Str} (h : z.length ∈ [1, 2, 3, 6, 40]) : NF k z.cps.toList := by
  have e : z.cps.toList.length = z.length := rfl
  simp only [List.mem_cons, List.not_mem_nil, or_false] at h
  refine ⟨fun m _ hm hz => ?_, fun _ hz => ?_⟩
  · have := len_fix m hm
    rw [← hz] at this
    omega
  · have := len_pre
    rw [← hz] at this
    omega
theorem snoc_inj {l m : List Nat} {x y : Nat} (h : l ++ [x] = m ++ [y]) : l = m ∧ x = y := by
  have := List.append_inj' h rfl
  exact ⟨this.1, by injection this.2⟩
theorem nf_add {k : Nat} {p : List Nat} {x : Nat} (hk : k < 10 → p ≠ pre10) (hx : x ∈ [97, 46, 48, 122]) : NF k (p.take 39 ++ [x]) := by
  simp only [List.mem_cons, List.not_mem_nil, or_false] at hx
  refine ⟨fun m h1 hm hz => ?_, fun _ hz => ?_⟩
  · rw [fix_last m hm] at hz
    obtain ⟨e1, e2⟩ := snoc_inj hz
    have m10 : m = 10 := fix_pre m hm (by omega) (by omega)
    subst m10
    have e1 : p.take 39 = pre10 := e1
    refine hk h1 ?_
    have hl := congrArg List.length e1
    rw [len_pre, List.length_take] at hl
    rw [← e1, List.take_of_length_le (by omega)]
  · rw [pre_last] at hz
    have := (snoc_inj hz).2
    omega
theorem nf_q {k : Nat} (hk : k < 20) {r : List Nat} (hr : r.length ≤ 30) (hl : ∀ c, r.head? = some c → c ∈ letters.cps.toList) : NF k (hd_ k ++ r) := by
  refine ⟨fun m h1 hm hz => ?_, fun h10 hz => ?_⟩
  · rw [fix_hd m hm] at hz
    have l1 := len_hd k hk
    have l2 := len_hd m hm
    by_cases e : (hd_ k).length = (hd_ m).length
    · exact fix_ne m hm k hk h1 e (List.append_inj hz e).1
    · have hz2 := congrArg List.length hz
      rw [← fix_hd m hm, len_fix2 m hm, List.length_append, l1] at hz2
      rw [l1, l2] at e
      by_cases c1 : k < 10
      · by_cases c2 : m < 10
        · rw [if_pos c1, if_pos c2] at e; exact e rfl
        · rw [if_pos c1, if_neg c2] at hz2; omega
      · exact e (by rw [if_neg c1, if_neg (by omega)])
  · have e1 : hd_ k = [113, 48 + k] := by unfold hd_; rw [if_pos h10]
    have e2 : pre10 = 113 :: 49 :: 48 :: pre10.drop 3 := by decide +kernel
    rw [e1, e2] at hz
    injection hz with _ hz
    injection hz with _ hz
    have hz : r = 48 :: pre10.drop 3 := hz
    have := hl 48 (by rw [hz]; rfl)
    revert this
    decide +kernel
theorem cut_to (z : Str) (k : Nat) : (cutS z none (some (k : Int))).cps.toList = z.cps.toList.take k := by
  show (z.cps.toList.drop (HT.sIx z.length 0 none)).take (HT.sIx z.length z.length (some (k : Int)) - HT.sIx z.length 0 none) = _
  rw [HT.sIx_none, HT.sIx_nat, List.drop_zero, Nat.sub_zero]
  have : z.cps.toList.length = z.length := rfl
  by_cases h : k ≤ z.length
  · rw [Nat.min_eq_left h]
  · rw [Nat.min_eq_right (by omega), List.take_of_length_le (by omega), List.take_of_length_le (by omega)]
theorem str_app (x y : Str) : (x ++ y).cps.toList = x.cps.toList ++ y.cps.toList := Array.toList_append ..
theorem ch_cut {z : Str} (h : WdOk z) (k : Nat) : ChOk (cutS z none (some (k : Int))) := fun c hc => by
  rw [cut_to] at hc
  exact h.ch c (List.mem_of_mem_take hc)
theorem wd_cut {z : Str} (h : WdOk z) (k : Nat) (hk : 0 < k) : WdOk (cutS z none (some (k : Int))) := by
  refine ⟨?_, ?_, ch_cut h k⟩
  · show 1 ≤ (cutS z none (some (k : Int))).cps.toList.length
    rw [cut_to, List.length_take]
    have : 1 ≤ z.cps.toList.length := h.ne
    omega
  · rw [cut_to]
    have h1 := h.hd
    have h2 : 1 ≤ z.cps.toList.length := h.ne
    cases hz : z.cps.toList with
    | nil => rw [hz] at h2; cases h2
    | cons c l =>
      rw [hz] at h1
      cases k with
      | zero => cases hk
      | succ k => exact h1
theorem cut_len (z : Str) (k : Nat) : (cutS z none (some (k : Int))).length ≤ k := by
  show (cutS z none (some (k : Int))).cps.toList.length ≤ k
  rw [cut_to, List.length_take]
  omega
theorem hd_wd : ∀ n < 20, WdOk (Str.ofString "q" ++ numS (n : Nat)) := by
  intro n hn
  have e : (Str.ofString "q" ++ numS (n : Nat)).cps.toList = hd_ n := by
    rw [str_app, ← numS_hd n hn]
    rfl
  have l : (Str.ofString "q" ++ numS (n : Nat)).length = (hd_ n).length := by rw [← e]; rfl
  refine ⟨by rw [l, len_hd n hn]; split <;> omega, ?_, ?_⟩
  · rw [e]
    revert n
    decide +kernel
  · rw [e]
    have : ∀ n < 20, ∀ c ∈ hd_ n, c ∈ plSigns := by decide +kernel
    exact this n hn
/-- what the loop makes of a word -/
theorem step_fix {n : Nat} (hn : n < 20) {w : List Nat} {t : Nat} (ht : t ≤ 30) (h : w.take t = (fixL n).take t) : (hd_ n ++ w.take 30).take ((hd_ n).length + t) = (fixL n).take ((hd_ n).length + t) := by
  rw [fix_hd n hn, List.take_append, List.take_append, List.take_take, List.take_take, Nat.add_sub_cancel_left, Nat.min_eq_left ht]
  congr 1
structure Pls (zs : List Str) : Prop where
  nd : zs.Nodup
  ok : ∀ z ∈ zs, PlOk z
  nf : ∀ k e, zs[k]? = some e → NF k e.cps.toList
theorem Pls.snoc {zs : List Str} {w : Str} (h : Pls zs) (hw : PlOk w) (hn : w ∉ zs) (hf : NF zs.length w.cps.toList) : Pls (zs ++ [w]) := by
  refine ⟨List.nodup_append.mpr ⟨h.nd, List.nodup_cons.mpr ⟨fun h => (by cases h), List.nodup_nil⟩, fun x hx y hy e => ?_⟩, fun z hz => ?_, fun k e hk => ?_⟩
  · rw [List.mem_singleton.mp hy] at e
    exact hn (e ▸ hx)
  · rcases List.mem_append.mp hz with q | q
    · exact h.ok z q
    · rw [List.mem_singleton.mp q]; exact hw
  · by_cases c : k < zs.length
    · rw [List.getElem?_append_left c] at hk
      exact h.nf k e hk
    · rw [List.getElem?_append_right (by omega)] at hk
      cases hj : k - zs.length with
      | zero =>
        rw [hj] at hk
        cases hk
        rw [show k = zs.length by omega]
        exact hf
      | succ j => rw [hj] at hk; cases hk
theorem flat_strs (zs : List Str) : (zs.map D.str).all D.flat = true := by
  rw [List.all_map]
  exact List.all_eq_true.mpr fun _ _ => rfl
theorem any_strs (zs : List Str) (w : Str) : ((zs.map D.str).any fun z => eqV z.v (D.str w).v) = decide (w ∈ zs) := by
  rw [List.any_map, Bool.eq_iff_iff, List.any_eq_true, decide_eq_true_eq]
  constructor
  · rintro ⟨z, hz, h⟩
    have h : (z == w) = true := h
    rw [← eq_of_beq h]
    exact hz
  · intro h
    exact ⟨w, h, show (w == w) = true from beq_self_eq_true w⟩
theorem atI_end {α β : Type} (f : α → β) {xs : List α} (h : xs ≠ []) : ∃ z, xs[xs.length - 1]? = some z ∧ z ∈ xs ∧ atI (xs.map f) (-1) = some (f z) := by
  have hl : 0 < xs.length := List.length_pos_iff.mpr h
  have hi : xs.length - 1 < xs.length := by omega
  refine ⟨xs[xs.length - 1], List.getElem?_eq_getElem hi, List.getElem_mem _, ?_⟩
  unfold atI ixN
  rw [if_neg (by decide), List.length_map]
  rw [if_pos (by omega)]
  show (xs.map f)[(-1 + (xs.length : Int)).toNat]? = _
  rw [show (-1 + (xs.length : Int)).toNat = xs.length - 1 by omega, List.getElem?_map, List.getElem?_eq_getElem hi]
  rfl
def strL4 : List Str := ["a", ".", "0", "z"]
theorem strL4_ok : ∀ s ∈ strL4, (s.length = 1 ∧ s.cps.toList = [s.cps.toList.headD 0]) ∧ s.cps.toList.headD 0 ∈ [97, 46, 48, 122] ∧ ∀ c ∈ s.cps.toList, c ∈ plSigns := by decide +kernel
theorem does__law_places : ∀ os P, sp__law_places os P → wb__law_places (start0 5 os) (endsOf os P) := by
  rintro os P ⟨a, xs, many, rfl, hd, h0, h20, k⟩
  walk_at "tw"
  refine ⟨by show 0 ≤ sizeLine; decide, fun b => ?_⟩
  walk_at "tw"
  refine ⟨⟨by omega, by omega⟩, ?_⟩
  refine for_rng many.toNat (fun i ρ => ∃ zs ys x3 x4, zs.length = i ∧ Pls zs ∧ DS ys ∧ ρ = [some (.lst a ys), some (.fz (.int many)), some (.lst b (zs.map fun z : Str => .fz (.str z))), x3, x4]) ⟨[], xs, none, none, rfl, ⟨List.nodup_nil, fun _ h => (by cases h), fun k e h => (by cases h)⟩, hd, rfl⟩ (fun i ρ hi hI N hN => ?_) (fun ρ hI => ?_)
  · obtain ⟨zs, ys, x3, x4, rfl, hz, hy, rfl⟩ := hI
    have hn : zs.length < 20 := by omega
    walk_at "tm"
    refine seq_mid (fun ρ => ∃ ys w, PlOk w ∧ w.length ∈ [1, 2, 3, 6, 40] ∧ DS ys ∧ ρ = [some (.lst a ys), some (.fz (.int many)), some (.lst b (zs.map fun z : Str => .fz (.str z))), some (.fz (.int (zs.length : Nat))), some (.fz (.str w))]) (fun N1 hN1 => ?_) ?_
    · walk_at "tw"
      refine ⟨a, ys, rfl, hy, fun z ys h1 h2 hy => ⟨_, _, rfl, ?_⟩⟩
      exact hN1 _ ⟨ys, z, h1, h2, hy, rfl⟩
    rintro _ ⟨ys, w, hw, hwl, hy, rfl⟩
    refine seq_mid (fun ρ => ∃ ys w, PlOk w ∧ NF zs.length w.cps.toList ∧ DS ys ∧ ρ = [some (.lst a ys), some (.fz (.int many)), some (.lst b (zs.map fun z : Str => .fz (.str z))), some (.fz (.int (zs.length : Nat))), some (.fz (.str w))]) (fun N1 hN1 => ?_) ?_
    · walk_at "tw"
      refine ⟨by show 0 ≤ sizeLine; decide, fun c => ?_⟩
      walk_at "tw"
      refine ⟨_, deq_lnil, ?_⟩
      rw [frzL_mapfz]
      walk_at "tw"
      refine ⟨fun hne => ?_, fun _ => ?_⟩
      · have hne : zs ≠ [] := fun e => by subst e; cases hne
        walk_at "tw"
        refine draw_i hy (by decide) (by decide) fun n1 ys h0 h1 hy => ⟨_, _, rfl, ?_⟩
        walk_at "tw"
        refine ⟨fun _ => ?_, fun _ => ?_⟩
        · obtain ⟨z, hz1, hz2, hz3⟩ := atI_end (fun z : Str => O.fz (.str z)) hne
          walk_at "tw"
          refine ⟨-1, _, rfl, hz3, ?_⟩
          walk_at "tw"
          refine ⟨by show 4 ≤ sizeLine; decide, fun c1 => ?_⟩
          walk_at "tw"
          refine draw_i hy (by decide) (by decide) fun n2 ys h0 h1 hy => ⟨_, _, rfl, ?_⟩
          walk_at "tw"
          refine ⟨_, atI_map D.str (xs := strL4) h0 h1, ?_⟩
          have hx := strL4_ok _ (List.getElem_mem (l := strL4) (n := n2.toNat) (by show n2.toNat < 4; omega))
          generalize strL4[n2.toNat]'(by show n2.toNat < 4; omega) = x at hx ⊢
          obtain ⟨⟨hx1, hx2⟩, hx3, hx4⟩ := hx
          have hzo := hz.ok z hz2
          have hcl := cut_len z 39
          walk_at "tw"
          refine ⟨Nat.le_trans (show _ ≤ 64 by have hcl : (cutS z none (some 39)).length ≤ 39 := hcl; omega) (by decide), ?_⟩
          refine hN1 _ ⟨ys, cutS z none (some ((39 : Nat) : Int)) ++ x, ⟨(wd_cut hzo.wd 39 (by decide)).app hx4, by rw [str_len_add]; omega⟩, ?_, hy, rfl⟩
          rw [str_app, cut_to, hx2]
          refine nf_add (fun h10 => (hz.nf _ _ hz1).pr (by omega)) hx3
        · exact hN1 _ ⟨ys, w, hw, nf_rand hwl, hy, rfl⟩
      · walk_at "tw"
        exact ⟨fun h => (nomatch h), fun _ => hN1 _ ⟨ys, w, hw, nf_rand hwl, hy, rfl⟩⟩
    rintro _ ⟨ys, w, hw, hnf, hy, rfl⟩
    walk_at "tw"
    refine while_inv (fun j ρ => ∃ (i : Nat) (w : Str), PlOk w ∧ NF zs.length w.cps.toList ∧ j = 17 - i ∧ (i = 0 ∨ w.cps.toList.length ≤ (fixL zs.length).length) ∧ w.cps.toList.take ((hd_ zs.length).length * i) = (fixL zs.length).take ((hd_ zs.length).length * i) ∧ ρ = [some (.lst a ys), some (.fz (.int many)), some (.lst b (zs.map fun z : Str => .fz (.str z))), some (.fz (.int (zs.length : Nat))), some (.fz (.str w))]) (n := 17) ?_ ⟨0, w, hw, hnf, rfl, .inl rfl, by rw [Nat.mul_zero]; rfl, rfl⟩
    rintro j ρ ⟨i, w, hw, hnf, rfl, hl, ht, rfl⟩ M hM
    walk_at "tw"
    rw [frzL_mapfz]
    refine ⟨_, rfl, rfl, flat_strs zs, ?_⟩
    rw [any_strs]
    walk_at "tw"
    refine ⟨fun hin => ?_, fun hin => ?_⟩
    · have hin : w ∈ zs := of_decide_eq_true hin
      have hlt : (hd_ zs.length).length * i < (fixL zs.length).length := by
        rcases Nat.lt_or_ge ((hd_ zs.length).length * i) (fixL zs.length).length with g | g
        · exact g
        · exfalso
          rw [List.take_of_length_le (l := fixL zs.length) g] at ht
          have hi0 : i ≠ 0 := fun e => by
            subst e
            have := len_fix _ hn
            rw [Nat.mul_zero] at g
            omega
          rcases hl with e | hl
          · exact hi0 e
          rw [List.take_of_length_le (by omega)] at ht
          obtain ⟨k, hk, ek⟩ := List.getElem_of_mem hin
          exact (hz.nf k w (by rw [List.getElem?_eq_getElem hk, ek])).fx _ hk hn ht
      have l1 := len_hd _ hn
      have l2 := len_fix2 _ hn
      have h30 : (hd_ zs.length).length * i ≤ 30 ∧ i < 17 := by
        by_cases c : zs.length < 10
        · rw [if_pos c] at l1 l2
          rw [l1, l2] at hlt
          rw [l1]
          omega
        · rw [if_neg c] at l1 l2
          rw [l1, l2] at hlt
          rw [l1]
          omega
      have hwd := hd_wd _ hn
      have hcl := cut_len w 30
      walk_at "tw"
      rw [frzL_mapfz]
      refine ⟨_, rfl, ?_⟩
      walk_at "tw"
      rw [List.length_map]
      refine ⟨Nat.lt_of_le_of_lt (Nat.log2_le_self _) (by omega), ?_⟩
      walk_at "tw"
      have q0 : (Str.ofString "q" ++ numS (zs.length : Nat)).cps.toList = hd_ zs.length := by
        rw [str_app, ← numS_hd _ hn]
        rfl
      have q1 : (Str.ofString "q" ++ numS (zs.length : Nat)).length = (hd_ zs.length).length := by rw [← q0]; rfl
      have q3 : (hd_ zs.length).length ≤ 3 := by rw [l1]; split <;> omega
      refine ⟨Nat.le_trans (show _ ≤ 64 by rw [← str_len_add, q1]; omega) (by decide), ?_⟩
      walk_at "tw"
      have hcl : (cutS w none (some 30)).length ≤ 30 := hcl
      refine ⟨Nat.le_trans (show _ ≤ 64 by rw [q1]; omega) (by decide), ?_⟩
      have ew : (Str.ofString "q" ++ numS (zs.length : Nat) ++ cutS w none (some ((30 : Nat) : Int))).cps.toList = hd_ zs.length ++ w.cps.toList.take 30 := by
        rw [str_app, q0, cut_to]
      refine hM (17 - (i + 1)) _ (by omega) ⟨i + 1, Str.ofString "q" ++ numS (zs.length : Nat) ++ cutS w none (some ((30 : Nat) : Int)), ⟨hwd.app (ch_cut hw.wd 30), ?_⟩, ?_, rfl, .inr ?_, ?_, rfl⟩
      · rw [str_len_add, q1]
        show _ + (cutS w none (some 30)).length ≤ 40
        omega
      · rw [ew]
        refine nf_q hn (by rw [List.length_take]; omega) fun c hc => ?_
        have h1 := hw.wd.hd
        cases hz : w.cps.toList with
        | nil => rw [hz] at hc; cases hc
        | cons x l =>
          rw [hz] at hc h1
          cases hc
          exact h1
      · rw [ew, List.length_append, List.length_take, l1, l2]
        by_cases c : zs.length < 10
        · rw [if_pos c, if_pos c]; omega
        · rw [if_neg c, if_neg c]; omega
      · rw [ew, Nat.mul_succ, Nat.add_comm]
        exact step_fix hn h30.1 ht
    · have hin : w ∉ zs := of_decide_eq_false hin
      walk_at "tw"
      refine ⟨by rw [List.length_map]; exact Nat.lt_of_lt_of_le hn (by decide), ?_⟩
      exact hN _ ⟨zs ++ [w], ys, _, _, by rw [List.length_append]; rfl, hz.snoc hw hin hnf, hy, by rw [List.map_append]; rfl⟩
  · obtain ⟨zs, ys, x3, x4, hl, hz, hy, rfl⟩ := hI
    walk_at "tw"
    exact ⟨⟨rfl, trivial⟩, k b zs ys (by omega) hz.nd hz.ok hy⟩
theorem ltS_trans {x y z : Str} (h : ltS x y) (g : ltS y z) : ltS x z := List.lt_trans h g
theorem ltS_irr {x : Str} : ¬ ltS x x := List.lt_irrefl _
theorem ltS_asym {x y : Str} (h : ltS x y) : ¬ ltS y x := List.lt_asymm h
theorem ltS_tri {x y : Str} (h : ¬ ltS x y) (g : ¬ ltS y x) : x = y := TL.ext_tl (List.le_antisymm (by exact g) (by exact h))
theorem ltS_le {x y z : Str} (h : ¬ ltS y x) (g : ltS y z) : ltS x z := by
  rcases Classical.em (ltS x y) with c | c
  · exact ltS_trans c g
  · rw [ltS_tri c h]; exact g
theorem rising_lt : ∀ (p : Str) (l : List Str), risingS p l = true → p ∉ l → l.Nodup → (∀ x ∈ l, ltS p x) ∧ l.Pairwise ltS
  | _, [], _, _, _ => ⟨fun _ h => (by cases h), .nil⟩
  | p, x :: r, h, hn, nd => by
    have h : (!ltCps x.cps.toList p.cps.toList && risingS x r) = true := h
    rw [Bool.and_eq_true, ltCps_eq] at h
    have h1 : ¬ ltS x p := of_decide_eq_false (not_of h.1)
    have hpx : p ≠ x := fun e => hn (e ▸ List.mem_cons_self)
    have hlt : ltS p x := by
      rcases Classical.em (ltS p x) with c | c
      · exact c
      · exact absurd (ltS_tri c h1) hpx
    obtain ⟨h2, h3⟩ := rising_lt x r h.2 (List.nodup_cons.mp nd).1 (List.nodup_cons.mp nd).2
    refine ⟨fun y hy => ?_, List.pairwise_cons.mpr ⟨h2, h3⟩⟩
    rcases List.mem_cons.mp hy with e | e
    · rw [e]; exact hlt
    · exact ltS_trans hlt (h2 y e)
theorem sorted_lt {l : List Str} (h : sortedS l = true) (nd : l.Nodup) : l.Pairwise ltS := by
  cases l with
  | nil => exact .nil
  | cons x r =>
    obtain ⟨h1, h2⟩ := rising_lt x r h (List.nodup_cons.mp nd).1 (List.nodup_cons.mp nd).2
    exact List.pairwise_cons.mpr ⟨h1, h2⟩
theorem rise_uniq : ∀ {ts us : List (Str × Int)}, Rise ts → Rise us → (∀ q, q ∈ ts ↔ q ∈ us) → ts = us
  | [], [], _, _, _ => rfl
  | [], u :: us, _, _, h => absurd ((h u).mpr List.mem_cons_self) (by simp)
  | t :: ts, [], _, _, h => absurd ((h t).mp List.mem_cons_self) (by simp)
  | t :: ts, u :: us, r1, r2, h => by
    obtain ⟨a1, a2⟩ := List.pairwise_cons.mp r1
    obtain ⟨b1, b2⟩ := List.pairwise_cons.mp r2
    have e : t = u := by
      rcases List.mem_cons.mp ((h t).mp List.mem_cons_self) with c | c
      · exact c
      · rcases List.mem_cons.mp ((h u).mpr List.mem_cons_self) with d | d
        · exact d.symm
        · exact absurd (a1 u d) (ltS_asym (b1 t c))
    subst e
    congr 1
    refine rise_uniq a2 b2 fun q => ⟨fun hq => ?_, fun hq => ?_⟩
    · rcases List.mem_cons.mp ((h q).mp (List.mem_cons_of_mem _ hq)) with c | c
      · subst c; exact absurd (a1 q hq) ltS_irr
      · exact c
    · rcases List.mem_cons.mp ((h q).mpr (List.mem_cons_of_mem _ hq)) with c | c
      · subst c; exact absurd (b1 q hq) ltS_irr
      · exact c
theorem IsNf.uniq {p : Int} {cs ts us : List (Str × Int)} (h : IsNf p cs ts) (g : IsNf p cs us) : ts = us :=
  rise_uniq h.rise g.rise fun ⟨z, v⟩ => (h.mem z v).trans (g.mem z v).symm
theorem tot_snoc (p : Int) (cs : List (Str × Int)) (c : Str × Int) (z : Str) : tot p (cs ++ [c]) z = if c.1 = z then (tot p cs z + c.2) % p else tot p cs z := by
  unfold tot
  rw [List.filter_append, List.map_append, List.sum_append]
  by_cases h : c.1 = z
  · rw [if_pos h, List.filter_cons, if_pos (decide_eq_true h), List.filter_nil, List.map_cons, List.map_nil, List.sum_cons, List.sum_nil, Int.add_zero, Int.emod_add_emod]
  · rw [if_neg h, List.filter_cons, if_neg (by simpa using h), List.filter_nil, List.map_nil, List.sum_nil, Int.add_zero]
theorem tot_none (p : Int) (cs : List (Str × Int)) (z : Str) (h : ∀ c ∈ cs, c.1 ≠ z) : tot p cs z = 0 := by
  unfold tot
  rw [List.filter_eq_nil_iff.mpr fun c hc => by simpa using h c hc]
  rfl
theorem tot_nonneg {p : Int} (hp : 0 < p) (cs : List (Str × Int)) (z : Str) : 0 ≤ tot p cs z := Int.emod_nonneg _ (by omega)
theorem tot_lt {p : Int} (hp : 0 < p) (cs : List (Str × Int)) (z : Str) : tot p cs z < p := Int.emod_lt_of_pos _ hp
section
variable {κ : Type} [DecidableEq κ]
theorem getG_none {kvs : List (κ × D)} {k : κ} (h : k ∉ kvs.map (·.1)) : getG kvs k = none := by
  unfold getG
  rw [List.find?_eq_none.mpr]
  · rfl
  · intro q hq e
    exact h (List.mem_map.mpr ⟨q, hq, of_decide_eq_true e⟩)
theorem any_key {kvs : List (κ × D)} {k : κ} : (kvs.any fun kv => decide (kv.1 = k)) = decide (k ∈ kvs.map (·.1)) := by
  rw [Bool.eq_iff_iff, List.any_eq_true, decide_eq_true_eq, List.mem_map]
  exact ⟨fun ⟨q, h, e⟩ => ⟨q, h, of_decide_eq_true e⟩, fun ⟨q, h, e⟩ => ⟨q, h, decide_eq_true e⟩⟩
theorem getG_repl {k j : κ} {v : D} : ∀ kvs : List (κ × D), getG (kvs.map fun kv => if kv.1 = k then (kv.1, v) else kv) j = if j = k ∧ k ∈ kvs.map (·.1) then some v else getG kvs j
  | [] => by simp [getG]
  | q :: r => by
    rw [List.map_cons]
    by_cases e : q.1 = k
    · rw [if_pos e]
      by_cases e2 : q.1 = j
      · rw [getG_pos (p := (q.1, v)) e2, if_pos ⟨by rw [← e2, e], by rw [List.map_cons, e]; exact List.mem_cons_self⟩]
      · rw [getG_neg (p := (q.1, v)) e2, getG_repl r, getG_neg e2]
        have : j ≠ k := fun h => e2 (by rw [e, h])
        rw [if_neg (fun h => this h.1), if_neg (fun h => this h.1)]
    · rw [if_neg e]
      by_cases e2 : q.1 = j
      · rw [getG_pos e2, getG_pos e2, if_neg (fun h => e (by rw [e2, h.1]))]
      · rw [getG_neg e2, getG_neg e2, getG_repl r]
        have : (k ∈ (q :: r).map (·.1)) ↔ k ∈ r.map (·.1) := by
          rw [List.map_cons, List.mem_cons]
          exact ⟨fun h => h.resolve_left fun e' => e e'.symm, .inr⟩
        simp only [this]
theorem getG_app {k : κ} : ∀ (kvs more : List (κ × D)), k ∉ kvs.map (·.1) → getG (kvs ++ more) k = getG more k
  | [], _, _ => rfl
  | q :: r, more, h => by
    rw [List.map_cons, List.mem_cons, not_or] at h
    rw [List.cons_append, getG_neg (fun e => h.1 e.symm)]
    exact getG_app r more h.2
theorem getG_app_l {k : κ} : ∀ (kvs more : List (κ × D)), k ∈ kvs.map (·.1) → getG (kvs ++ more) k = getG kvs k
  | [], _, h => by cases h
  | q :: r, more, h => by
    by_cases e : q.1 = k
    · rw [List.cons_append, getG_pos e, getG_pos e]
    · rw [List.cons_append, getG_neg e, getG_neg e]
      rw [List.map_cons, List.mem_cons] at h
      exact getG_app_l r more (h.resolve_left fun e' => e e'.symm)
theorem getG_put (kvs : List (κ × D)) (k j : κ) (v : D) : getG (putG kvs k v) j = if j = k then some v else getG kvs j := by
  unfold putG
  rw [any_key]
  by_cases h : k ∈ kvs.map (·.1)
  · rw [decide_eq_true h, if_pos rfl, getG_repl]
    simp only [h, and_true]
  · rw [decide_eq_false h, if_neg (by simp)]
    by_cases e : j = k
    · rw [if_pos e, e, getG_app _ _ h, getG_pos rfl]
    · rw [if_neg e]
      by_cases hj : j ∈ kvs.map (·.1)
      · exact getG_app_l _ _ hj
      · rw [getG_app _ _ hj, getG_none hj, getG_neg (fun e' => e e'.symm)]
        rfl
theorem keys_put (kvs : List (κ × D)) (k : κ) (v : D) : (putG kvs k v).map (·.1) = if k ∈ kvs.map (·.1) then kvs.map (·.1) else kvs.map (·.1) ++ [k] := by
  unfold putG
  rw [any_key]
  by_cases h : k ∈ kvs.map (·.1)
  · rw [decide_eq_true h, if_pos rfl, if_pos h, List.map_map]
    refine List.map_congr_left fun q _ => ?_
    show (if q.1 = k then (q.1, v) else q).1 = q.1
    split <;> rfl
  · rw [decide_eq_false h, if_neg (by simp), if_neg h, List.map_append]
    rfl
end
theorem mem_inr {zs : List Str} {z : Str} : (Sum.inr z : Key) ∈ zs.map Sum.inr ↔ z ∈ zs := by
  rw [List.mem_map]
  exact ⟨fun ⟨y, h, e⟩ => by injection e with e; exact e ▸ h, fun h => ⟨z, h, rfl⟩⟩
/-- the dict that new_form makes behind some pairs -/
structure Fnd (p : Int) (cs : List (Str × Int)) (kvs : List (Key × D)) : Prop where
  ex : ∃ zs : List Str, kvs.map (·.1) = zs.map Sum.inr ∧ zs.Nodup ∧ (∀ z, z ∈ zs ↔ ∃ c ∈ cs, c.1 = z) ∧ (∀ z ∈ zs, getG kvs (.inr z) = some (.int (tot p cs z))) ∧ zs.length ≤ cs.length
theorem Fnd.nil {p : Int} : Fnd p [] [] := ⟨⟨[], rfl, List.nodup_nil, fun z => ⟨fun h => (by cases h), fun ⟨c, h, _⟩ => (by cases h)⟩, fun z h => (by cases h), Nat.le_refl _⟩⟩
theorem Fnd.get {p : Int} {cs : List (Str × Int)} {kvs : List (Key × D)} (h : Fnd p cs kvs) (z : Str) : (getG kvs (.inr z)).getD (.int 0) = .int (tot p cs z) := by
  obtain ⟨zs, e, nd, hm, hg, _⟩ := h.ex
  by_cases hz : z ∈ zs
  · rw [hg z hz]; rfl
  · rw [getG_none (by rw [e]; exact fun h => hz (mem_inr.mp h)), tot_none p cs z fun c hc ec => hz ((hm z).mpr ⟨c, hc, ec⟩)]
    rfl
theorem Fnd.put {p : Int} {cs : List (Str × Int)} {kvs : List (Key × D)} (h : Fnd p cs kvs) (z : Str) (v : Int) : Fnd p (cs ++ [(z, v)]) (putG kvs (.inr z) (.int ((tot p cs z + v) % p))) := by
  obtain ⟨zs, e, nd, hm, hg, hl⟩ := h.ex
  have gt : ∀ y, y ∈ zs ∨ y = z → getG (putG kvs (.inr z) (.int ((tot p cs z + v) % p))) (.inr y) = some (.int (tot p (cs ++ [(z, v)]) y)) := fun y hy => by
    rw [getG_put, tot_snoc]
    by_cases e : z = y
    · rw [if_pos (by rw [e]), if_pos e, e]
    · rw [if_neg (fun h => e (by injection h with h; exact h.symm)), if_neg e]
      exact hg y (hy.resolve_right fun h => e h.symm)
  have mem : ∀ y, (∃ c ∈ cs ++ [(z, v)], c.1 = y) ↔ y ∈ zs ∨ y = z := fun y => by
    constructor
    · rintro ⟨c, hc, ec⟩
      rcases List.mem_append.mp hc with q | q
      · exact .inl ((hm y).mpr ⟨c, q, ec⟩)
      · rw [List.mem_singleton.mp q] at ec; exact .inr ec.symm
    · rintro (q | q)
      · obtain ⟨c, hc, ec⟩ := (hm y).mp q
        exact ⟨c, List.mem_append_left _ hc, ec⟩
      · exact ⟨(z, v), List.mem_append_right _ List.mem_cons_self, q.symm⟩
  constructor
  by_cases hz : z ∈ zs
  · refine ⟨zs, by rw [keys_put, e, if_pos (mem_inr.mpr hz)], nd, fun y => ?_, fun y hy => gt y (.inl hy), by rw [List.length_append]; omega⟩
    rw [mem]
    exact ⟨.inl, fun h => h.elim id fun e => e ▸ hz⟩
  · refine ⟨zs ++ [z], by rw [keys_put, e, if_neg (fun h => hz (mem_inr.mp h)), List.map_append]; rfl, ?_, fun y => ?_, fun y hy => gt y ?_, by rw [List.length_append, List.length_append]; exact Nat.succ_le_succ hl⟩
    · exact List.nodup_append.mpr ⟨nd, List.nodup_cons.mpr ⟨fun h => (by cases h), List.nodup_nil⟩, fun x hx y hy e => by
        rw [List.mem_singleton.mp hy] at e
        exact hz (e ▸ hx)⟩
    · rw [mem, List.mem_append, List.mem_singleton]
    · rw [List.mem_append, List.mem_singleton] at hy
      exact hy
/-- what is told of the sums: the form's terms -/
theorem nf_of {p : Int} (hp : 0 < p) {cs : List (Str × Int)} {srt : List Str} (hs : srt.Pairwise ltS) (hm : ∀ c ∈ cs, c.1 ∈ srt) (f : Int → Bool) (hf : ∀ v, 0 ≤ v → (f v = true ↔ 0 < v)) :
    IsNf p cs ((srt.filter fun z => f (tot p cs z)).map fun z => (z, tot p cs z)) := by
  refine ⟨?_, fun z v => ?_⟩
  · refine List.pairwise_map.mpr ?_
    exact List.Pairwise.filter _ hs
  · rw [List.mem_map]
    constructor
    · rintro ⟨y, hy, e⟩
      injection e with e1 e2
      subst e1
      subst e2
      exact ⟨rfl, (hf _ (tot_nonneg hp _ _)).mp (List.mem_filter.mp hy).2⟩
    · rintro ⟨rfl, hv⟩
      refine ⟨z, List.mem_filter.mpr ⟨?_, (hf _ (tot_nonneg hp _ _)).mpr hv⟩, rfl⟩
      rcases Classical.em (z ∈ srt) with c | c
      · exact c
      · rw [tot_none p cs z fun q hq e => c (e ▸ hm q hq)] at hv
        omega
theorem does_new_form : ∀ os P, sp_new_form os P → wb_new_form (start0 6 os) (endsOf os P) := by
  rintro os P ⟨n, cs, p, rfl, hp, h64, k⟩
  walk_at "tw"
  intro b
  walk_at "tw"
  refine for_map0 termD cs (fun pre ρ => ∃ (kvs : List (Key × D)) (x4 : Option D) (x5 : Option O), Fnd p pre kvs ∧ kvs.length ≤ pre.length ∧ ρ = [some (.fz (.int n)), some (.fz (.lst (cs.map termD))), some (.fz (.int p)), some (.dct b kvs), x4.map .fz, x5]) ⟨[], none, none, Fnd.nil, Nat.le_refl _, rfl⟩ (fun pre m post ρ e hI N hN => ?_) (fun ρ hI => ?_)
  · obtain ⟨kvs, x4, x5, hf, hl, rfl⟩ := hI
    obtain ⟨z, v⟩ := m
    walk_at "tw"
    refine ⟨rfl, ?_⟩
    walk_at "tw"
    refine ⟨rfl, ?_⟩
    walk_at "tw"
    refine ⟨_, rfl, ?_⟩
    dsimp only
    rw [hf.get z]
    walk_at "tw"
    refine ⟨hp, ?_⟩
    walk_at "tw"
    have hpl : pre.length < cs.length := by rw [e, List.length_append, List.length_cons]; omega
    refine ⟨_, rfl, Nat.lt_of_le_of_lt hl (Nat.lt_of_lt_of_le (show _ < 64 by omega) (by decide)), ?_⟩
    exact hN _ ⟨_, some (.str z), _, hf.put z v, by rw [List.length_append]; exact Nat.le_trans (length_putG _ _ _) (Nat.succ_le_succ hl), rfl⟩
  · obtain ⟨kvs, x4, x5, hf, hl, rfl⟩ := hI
    obtain ⟨zs, ek, nd, hm, hg, hzl⟩ := hf.ex
    walk_at "tw"
    refine ⟨hp, ?_⟩
    walk_at "tw"
    refine ⟨zs, ek, by omega, fun srt c hperm hsort => ?_⟩
    walk_at "tw"
    rw [frzL_mapfz]
    have hs := sorted_lt hsort (hperm.nodup_iff.mpr nd)
    have hnf := nf_of hp hs (fun c hc => hperm.mem_iff.mpr ((hm c.1).mpr ⟨c, hc, rfl⟩)) (fun v => decide (0 < v)) (fun v _ => decide_eq_true_iff)
    have hlen : ((srt.filter fun z => decide (0 < tot p cs z)).map fun z => (z, tot p cs z)).length ≤ cs.length := by
      rw [List.length_map]
      exact Nat.le_trans (List.length_filter_le _ _) (by rw [hperm.length_eq]; exact hzl)
    have kk := k _ hnf hlen
    unfold formD at kk
    rw [List.map_map] at kk
    have step : ∀ z ∈ srt, ∀ (A : O → TEnv → Prop) (B : TEnv → Prop) (x5 : Option O), (∀ o, (if decide (0 < tot p cs z) = true then some (O.fz (termD (z, tot p cs z))) else none) = some o → A o [some (.fz (.int n)), some (.fz (.lst (cs.map termD))), some (.fz (.int p)), some (.fz (.dct kvs)), none, x5]) →
        ((if decide (0 < tot p cs z) = true then some (O.fz (termD (z, tot p cs z))) else none) = none → B [some (.fz (.int n)), some (.fz (.lst (cs.map termD))), some (.fz (.int p)), some (.fz (.dct kvs)), none, x5]) →
        gN 4 (.str z) [some (.fz (.int n)), some (.fz (.lst (cs.map termD))), some (.fz (.int p)), some (.fz (.dct kvs)), none, x5] fun ρ1 => wTst (Tr.wCmp semGt (wIxD 3 (wVar 4)) (wC (.int 0))) ρ1 fun b ρ2 => br b (wFz (wTup (wCons (wVar 4) (wCons (wIxD 3 (wVar 4)) wNil))) ρ2 fun o ρ3 => A o (wipeE ρ3 [4])) (B (wipeE ρ2 [4])) := fun z hz A B x5 hA hB => by
      have hgz := hg z (hperm.mem_iff.mp hz)
      walk_at "tw"
      refine ⟨_, rfl, _, hgz, ?_⟩
      walk_at "tw"
      refine ⟨fun h => ?_, fun h => ?_⟩
      · walk_at "tw"
        refine ⟨_, rfl, _, hgz, ?_⟩
        walk_at "tw"
        exact ⟨by show 2 ≤ sizeLine; decide, hA _ (if_pos h)⟩
      · exact hB (if_neg (by rw [show decide (0 < tot p cs z) = false from h]; simp))
    refine lc_mapA D.str srt (fun z => if decide (0 < tot p cs z) = true then some (.fz (termD (z, tot p cs z))) else none) (fun z hz A B hA hB => step z hz A B _ hA hB) ?_
    rw [flt_map]
    intro c2
    have fin : (O.frzL ((srt.filter fun z => decide (0 < tot p cs z)).map fun z => O.fz (termD (z, tot p cs z)))) = (srt.filter fun z => decide (0 < tot p cs z)).map fun z => termD (z, tot p cs z) := frzL_mapfz _ _
    cases x4
    · walk_at "tw"
      rw [fin]
      exact ⟨by show 2 ≤ sizeLine; decide, trivial, kk⟩
    · walk_at "tw"
      rw [fin]
      exact ⟨by show 2 ≤ sizeLine; decide, trivial, kk⟩
def four (q d : Int) : List Int := [0, 1, q - 1, d]
theorem does__law_form : ∀ os P, sp__law_form os P → wb__law_form (start0 6 os) (endsOf os P) := by
  rintro os P ⟨a, xs, zs, q, rfl, hd, h64, nd, hpl, hq, hq2, k⟩
  walk_at "tw"
  refine ⟨by show 0 ≤ sizeLine; decide, fun b => ?_⟩
  walk_at "tw"
  refine ⟨zs, rfl, h64, fun srt c hperm hsort => ?_⟩
  walk_at "tw"
  rw [frzL_mapfz]
  have hs := sorted_lt hsort (hperm.nodup_iff.mpr nd)
  refine for_map0 D.str srt (fun pre ρ => ∃ ys ts x4 x5, DS ys ∧ (ts.map (·.1)).Sublist pre ∧ (∀ t ∈ ts, 0 < t.2 ∧ t.2 < q) ∧ ρ = [some (.lst a ys), some (.fz (.lst (zs.map .str))), some (.fz (.int q)), some (.lst b (ts.map fun t : Str × Int => .fz (termD t))), x4, x5]) ⟨xs, [], none, none, hd, List.Sublist.slnil, fun _ h => (by cases h), rfl⟩ (fun pre z post ρ e hI N hN => ?_) (fun ρ hI => ?_)
  · obtain ⟨ys, ts, x4, x5, hy, hsub, ht, rfl⟩ := hI
    walk_at "tw"
    refine draw_i hy (by omega) (by omega) fun n1 ys g0 g1 hy => ⟨_, _, rfl, ?_⟩
    walk_at "tw"
    refine ⟨by show 4 ≤ sizeLine; decide, fun c1 => ?_⟩
    walk_at "tw"
    refine draw_i hy (by decide) (by decide) fun n2 ys h0 h1 hy => ⟨_, _, rfl, ?_⟩
    walk_at "tw"
    refine ⟨_, atI_map D.int (xs := four q n1) h0 h1, ?_⟩
    have hm : ∀ v ∈ four q n1, 0 ≤ v ∧ v < q := by
      intro v hv
      simp only [four, List.mem_cons, List.not_mem_nil, or_false] at hv
      omega
    have hv := hm _ (List.getElem_mem (l := four q n1) (n := n2.toNat) (by show n2.toNat < 4; omega))
    generalize (four q n1)[n2.toNat]'(by show n2.toNat < 4; omega) = v at hv ⊢
    walk_at "tw"
    have hsub2 : (ts.map (·.1)).Sublist (pre ++ [z]) := hsub.trans (List.sublist_append_left _ _)
    refine ⟨fun hp => ?_, fun hp => ?_⟩
    · have hp := of_decide_eq_true hp
      walk_at "tw"
      refine ⟨by show 2 ≤ sizeLine; decide, ?_⟩
      walk_at "tw"
      have hlen : ts.length < 64 := by
        have h1 := hsub.length_le
        rw [List.length_map] at h1
        have h2 : pre.length ≤ srt.length := by rw [e, List.length_append]; omega
        rw [hperm.length_eq] at h2
        omega
      refine ⟨by rw [List.length_map]; exact Nat.lt_of_lt_of_le hlen (by decide), ?_⟩
      refine hN _ ⟨ys, ts ++ [(z, v)], _, _, hy, ?_, fun t hq => ?_, by rw [List.map_append]; rfl⟩
      · rw [List.map_append]
        exact List.Sublist.append hsub (List.Sublist.refl _)
      · rcases List.mem_append.mp hq with c | c
        · exact ht t c
        · rw [List.mem_singleton.mp c]; exact ⟨hp, hv.2⟩
    · exact hN _ ⟨ys, ts, _, _, hy, hsub2, ht, rfl⟩
  · obtain ⟨ys, ts, x4, x5, hy, hsub, ht, rfl⟩ := hI
    walk_at "tw"
    refine draw_i hy (by omega) (by omega) fun n1 ys g0 g1 hy => ⟨_, _, rfl, ?_⟩
    walk_at "tw"
    refine ⟨by show 4 ≤ sizeLine; decide, fun c1 => ?_⟩
    walk_at "tw"
    refine draw_i hy (by decide) (by decide) fun n2 ys h0 h1 hy => ⟨_, _, rfl, ?_⟩
    walk_at "tw"
    refine ⟨_, atI_map D.int (xs := four q n1) h0 h1, ?_⟩
    have hm : ∀ v ∈ four q n1, 0 ≤ v ∧ v < q := by
      intro v hv
      simp only [four, List.mem_cons, List.not_mem_nil, or_false] at hv
      omega
    have hv := hm _ (List.getElem_mem (l := four q n1) (n := n2.toNat) (by show n2.toNat < 4; omega))
    generalize (four q n1)[n2.toNat]'(by show n2.toNat < 4; omega) = v at hv ⊢
    walk_at "tw"
    rw [frzL_mapfz]
    have hin : ∀ t ∈ ts, t.1 ∈ zs := fun t h => hperm.mem_iff.mp (hsub.subset (List.mem_map.mpr ⟨t, h, rfl⟩))
    have hr : (ts.map (·.1)).Pairwise ltS := List.Pairwise.sublist hsub hs
    refine ⟨by show 2 ≤ sizeLine; decide, ⟨rfl, trivial⟩, k v ts ys ⟨hv.1, hv.2, fun t h => hpl _ (hin t h), fun t h => (ht t h).1, fun t h => (ht t h).2, List.pairwise_map.mp hr⟩ hin ?_ hy⟩
    have h1 := hsub.length_le
    rw [List.length_map, hperm.length_eq] at h1
    exact h1
theorem putG_new {κ : Type} [DecidableEq κ] {kvs : List (κ × D)} {k : κ} {v : D} (h : k ∉ kvs.map (·.1)) : putG kvs k v = kvs ++ [(k, v)] := by
  unfold putG
  rw [any_key, if_neg (fun e => h (of_decide_eq_true e))]
theorem mergeG_new : ∀ (more kvs : List (Key × D)), ((kvs ++ more).map (·.1)).Nodup → mergeG kvs more = kvs ++ more
  | [], kvs, _ => (List.append_nil _).symm
  | q :: r, kvs, h => by
    have hk : q.1 ∉ kvs.map (·.1) := fun hm => by
      rw [List.map_append, List.nodup_append] at h
      exact h.2.2 _ hm _ (by rw [List.map_cons]; exact List.mem_cons_self) rfl
    show mergeG (putG kvs q.1 q.2) r = _
    rw [putG_new hk, mergeG_new r (kvs ++ [(q.1, q.2)]) (by rw [List.append_assoc]; exact h), List.append_assoc]
    rfl
theorem mergeG_strs {zs : List Str} (nd : zs.Nodup) (f : Str → D) : mergeG [] (zs.map fun z => ((.inr z : Key), f z)) = zs.map fun z => ((.inr z : Key), f z) := by
  refine mergeG_new _ [] ?_
  rw [List.nil_append, List.map_map]
  exact List.pairwise_map.mpr (List.Pairwise.imp (fun hne e => hne (by injection e)) nd)
theorem getG_strs (f : Str → D) {z : Str} : ∀ {zs : List Str}, z ∈ zs → getG (zs.map fun z => ((.inr z : Key), f z)) (.inr z) = some (f z)
  | [], h => by cases h
  | y :: zs, h => by
    rw [List.map_cons]
    by_cases e : y = z
    · rw [getG_pos (by rw [e]), e]
    · rw [getG_neg (fun h => e (by injection h))]
      exact getG_strs f ((List.mem_cons.mp h).resolve_left fun h => e h.symm)
theorem ne_self {α : Type} [DecidableEq α] {s : α} {A B : Prop} (h : B) : br (!decide (s = s)) A B := ⟨fun e => absurd e (by simp), fun _ => h⟩
theorem plSigns_small : ∀ c ∈ plSigns, c < 16 ^ 8 := by decide +kernel
theorem int_small_len {i : Int} (h : i.natAbs < 1000) : (PyData.shown (.int i)).length ≤ 13 := PyData.shown_int_le (by omega)
theorem log_small {i : Int} (h : i.natAbs < 1024) : i.natAbs.log2 ≤ 9 := by
  rcases Nat.eq_zero_or_pos i.natAbs with z | z
  · rw [z]; decide
  · have := (Nat.log2_lt (by omega)).mpr (show i.natAbs < 2 ^ 10 from h)
    omega
theorem repr_terms : ∀ ts : List (Str × Int), (∀ t ∈ ts, PlOk t.1 ∧ 0 < t.2 ∧ t.2 < 1000) →
    D.plainL (ts.map termD) = true ∧ PyData.showableAll (D.pyL (ts.map termD)) = true ∧ PyData.hasDictAll (D.pyL (ts.map termD)) = false ∧ PyData.depthAll (D.pyL (ts.map termD)) ≤ 4 ∧
    PyData.leavesShortAll 13 (D.pyL (ts.map termD)) = true ∧ PyData.weightAll (D.pyL (ts.map termD)) ≤ 53 * ts.length
  | [], _ => ⟨rfl, rfl, rfl, Nat.zero_le _, rfl, Nat.zero_le _⟩
  | (z, v) :: ts, h => by
    obtain ⟨h1, h2, h3, h4, h5, h6⟩ := repr_terms ts fun t ht => h t (List.mem_cons_of_mem _ ht)
    obtain ⟨hp, hv0, hv1⟩ := h (z, v) List.mem_cons_self
    dsimp only at hp hv0 hv1
    have hva : v.natAbs < 1000 := by omega
    have hl := log_small (i := v) (by omega)
    refine ⟨h1, ?_, ?_, ?_, ?_, ?_⟩
    · show ((true && (decide (v.natAbs.log2 < 1920) && true)) && PyData.showableAll (D.pyL (ts.map termD))) = true
      rw [h2, decide_eq_true (by omega)]; rfl
    · show ((false || (false || false)) || PyData.hasDictAll (D.pyL (ts.map termD))) = false
      rw [h3]; rfl
    · show max _ (PyData.depthAll (D.pyL (ts.map termD))) ≤ 4
      refine Nat.max_le.mpr ⟨?_, h4⟩
      show PyData.depth (.tuple [.str z, .int v]) ≤ 4
      simp only [PyData.depth, PyData.depthAll]
      decide
    · show (((z.cps.toList.all fun c => decide (c < 16 ^ 8)) && (decide ((PyData.shown (.int v)).length ≤ 13) && true)) && PyData.leavesShortAll 13 (D.pyL (ts.map termD))) = true
      rw [h5, decide_eq_true (int_small_len hva), List.all_eq_true.mpr fun c hc => decide_eq_true (plSigns_small c (hp.wd.ch c hc))]; rfl
    · show (z.cps.size + 1 + ((if (v == 0) = true then 0 else v.natAbs.log2 + 1) + 1 + 0)) + 1 + PyData.weightAll (D.pyL (ts.map termD)) ≤ 53 * (ts.length + 1)
      rw [if_neg (by simp; omega)]
      have hz : z.cps.size ≤ 40 := hp.le
      omega
theorem repr_form {n : Int} {ts : List (Str × Int)} (h0 : 0 ≤ n) (h1 : n < 1000) (hl : ts.length ≤ 19000) (h : ∀ t ∈ ts, PlOk t.1 ∧ 0 < t.2 ∧ t.2 < 1000) : ReprOk (formD n ts) := by
  obtain ⟨g1, g2, g3, g4, g5, g6⟩ := repr_terms ts h
  have hl9 := log_small (i := n) (by omega)
  refine ⟨rfl, ?_, ?_, ?_, ?_, PyData.shown_fits (B := 13) (by decide) (by decide) ?_ ?_⟩
  · show (true && (D.plainL (ts.map termD) && true)) = true
    rw [g1]; rfl
  · show (decide (n.natAbs.log2 < 1920) && (PyData.showableAll (D.pyL (ts.map termD)) && true)) = true
    rw [g2, decide_eq_true (by omega)]; rfl
  · show (false || (PyData.hasDictAll (D.pyL (ts.map termD)) || false)) = false
    rw [g3]; rfl
  · show PyData.depth (.tuple [.int n, .tuple (D.pyL (ts.map termD))]) ≤ 20
    simp only [PyData.depth, PyData.depthAll]
    omega
  · show (decide ((PyData.shown (.int n)).length ≤ 13) && (PyData.leavesShortAll 13 (D.pyL (ts.map termD)) && true)) = true
    rw [g5, decide_eq_true (int_small_len (by omega))]; rfl
  · show (if (n == 0) = true then 0 else n.natAbs.log2 + 1) + 1 + (PyData.weightAll (D.pyL (ts.map termD)) + 1 + 0) ≤ 2 ^ 20
    have : (if (n == 0) = true then 0 else n.natAbs.log2 + 1) ≤ 10 := by split <;> omega
    omega
theorem eqM_form (k : Nat) : EqM (k + 3) fun q : Int × List (Str × Int) => formD q.1 q.2 := EqM.pair (eqM_int _) (EqM.tup (EqM.pair (eqM_str _) (eqM_int _)))
theorem deq_places (ts : List (Str × Int)) : deq 60 (.tup (ts.map fun t => .str t.1)) (.tup (ts.map fun t => .str t.1)) = some (decide (ts.map (·.1) = ts.map (·.1))) := by
  have h := EqM.tup (eqM_str 59) (ts.map (·.1)) (ts.map (·.1))
  dsimp only at h
  rw [List.map_map] at h
  exact h
theorem tot_sm (p : Int) (cs : List (Str × Int)) (z : Str) : tot p cs z = sm cs z % p := rfl
theorem sm_nil (z : Str) : sm [] z = 0 := rfl
theorem sm_cons (c : Str × Int) (cs : List (Str × Int)) (z : Str) : sm (c :: cs) z = (if c.1 = z then c.2 else 0) + sm cs z := by
  unfold sm
  rw [List.filter_cons]
  by_cases h : c.1 = z
  · rw [if_pos h, if_pos (decide_eq_true h), List.map_cons, List.sum_cons]
  · rw [if_neg h, if_neg (by simpa using h), Int.zero_add]
theorem sm_app (cs ds : List (Str × Int)) (z : Str) : sm (cs ++ ds) z = sm cs z + sm ds z := by
  unfold sm
  rw [List.filter_append, List.map_append, List.sum_append]
theorem sm_none {cs : List (Str × Int)} {z : Str} (h : ∀ c ∈ cs, c.1 ≠ z) : sm cs z = 0 := by
  unfold sm
  rw [List.filter_eq_nil_iff.mpr fun c hc => by simpa using h c hc]
  rfl
theorem sm_rise : ∀ {ts : List (Str × Int)} {z : Str} {v : Int}, Rise ts → (z, v) ∈ ts → sm ts z = v
  | [], _, _, _, h => by cases h
  | t :: ts, z, v, r, h => by
    obtain ⟨a, b⟩ := List.pairwise_cons.mp r
    rw [sm_cons]
    rcases List.mem_cons.mp h with e | e
    · rw [← e, if_pos rfl, sm_none fun c hc ec => ltS_irr (by have := a c hc; rw [← e, ec] at this; exact this), Int.add_zero]
    · rw [if_neg fun e' => ltS_irr (by have := a _ e; rw [e'] at this; exact this), sm_rise b e, Int.zero_add]
theorem nf_tot {p : Int} (hp : 0 < p) {cs ts : List (Str × Int)} (h : IsNf p cs ts) (z : Str) : sm ts z = tot p cs z := by
  rcases Int.lt_or_le 0 (tot p cs z) with g | g
  · exact sm_rise h.rise ((h.mem z _).mpr ⟨rfl, g⟩)
  · have : tot p cs z = 0 := by have := tot_nonneg hp cs z; omega
    rw [this]
    refine sm_none fun c hc e => ?_
    obtain ⟨z', v⟩ := c
    obtain ⟨e1, e2⟩ := (h.mem z' v).mp hc
    have e : z' = z := e
    rw [e1, e] at e2
    omega
theorem IsNf.congr {p : Int} {cs ds ts : List (Str × Int)} (h : IsNf p cs ts) (e : ∀ z, tot p cs z = tot p ds z) : IsNf p ds ts := ⟨h.rise, fun z v => by rw [h.mem, e]⟩
theorem IsNf.congr_sm {p : Int} {cs ds ts : List (Str × Int)} (h : IsNf p cs ts) (e : ∀ z, sm cs z = sm ds z) : IsNf p ds ts := h.congr fun z => by rw [tot_sm, tot_sm, e]
theorem IsNf.add {p : Int} (hp : 0 < p) {cs ds ts us ws : List (Str × Int)} (h : IsNf p cs ts) (g : IsNf p ds us) (k : IsNf p (ts ++ us) ws) : IsNf p (cs ++ ds) ws := k.congr fun z => by
  rw [tot_sm, tot_sm, sm_app, sm_app, nf_tot hp h, nf_tot hp g, tot_sm, tot_sm, ← Int.add_emod]
theorem nf_self {q n : Int} {ts : List (Str × Int)} (h : FormOk q n ts) : IsNf q ts ts := ⟨h.rise, fun z v => by
  constructor
  · intro hm
    have h0 := h.t0 _ hm
    have h1 := h.t1 _ hm
    refine ⟨?_, h0⟩
    rw [tot_sm, sm_rise h.rise hm, Int.emod_eq_of_lt (by omega) h1]
  · rintro ⟨e, hv⟩
    have : ∃ c ∈ ts, c.1 = z := by
      refine Classical.byContradiction fun hn => ?_
      rw [tot_none q ts z fun c hc ec => hn ⟨c, hc, ec⟩] at e
      omega
    obtain ⟨⟨z', w⟩, hc, ez⟩ := this
    have ez : z' = z := ez
    subst ez
    have h0 := h.t0 _ hc
    have h1 := h.t1 _ hc
    rw [tot_sm, sm_rise h.rise hc, Int.emod_eq_of_lt (by exact Int.le_of_lt h0) h1] at e
    rw [e]; exact hc⟩
theorem nf_nil (p : Int) : IsNf p [] [] := ⟨.nil, fun z v => ⟨fun h => (by cases h), fun ⟨e, h⟩ => by
  have : tot p [] z = 0 := by rw [tot_sm, sm_nil, Int.zero_emod]
  omega⟩⟩
theorem tms_len (v : Int) (ts : List (Str × Int)) : (tms v ts).length = ts.length := List.length_map ..
theorem tms_one (ts : List (Str × Int)) : tms 1 ts = ts := by
  unfold tms
  simp
theorem small_mul {i j : Int} (h : small i) (g : small j) : CMulW i j := cmul64 h.1 h.2 g.1 g.2
theorem getG_dctF {α : Type} (g : α → D) : ∀ (fs : List (Str × α)) (z : Str), getG (dctF g fs) (.inr z) = (look fs z).map g
  | [], _ => rfl
  | f :: fs, z => by
    show getG ((.inr f.1, g f.2) :: dctF g fs) (.inr z) = _
    unfold look
    rw [List.find?_cons]
    by_cases e : f.1 = z
    · rw [getG_pos (by rw [e]), decide_eq_true e]; rfl
    · rw [getG_neg (fun h => e (by injection h)), decide_eq_false e]
      exact getG_dctF g fs z
theorem does_sum_of : ∀ os P, sp_sum_of os P → wb_sum_of (start0 3 os) (endsOf os P) := by
  rintro os P ⟨⟨a, ta⟩, ⟨b, tb⟩, p, rfl, hp, h64, k⟩
  dsimp only at h64 k
  walk_at "tw"
  refine ⟨_, rfl, ?_⟩
  walk_at "tw"
  refine ⟨_, rfl, ?_⟩
  walk_at "tw"
  refine ⟨_, rfl, ?_⟩
  walk_at "tw"
  refine ⟨_, rfl, ?_⟩
  walk_at "tw"
  refine ⟨by rw [List.length_map, List.length_map]; exact Nat.le_trans (Nat.le_of_lt h64) (by decide), ?_⟩
  walk_at "tw"
  intro c
  walk_at "tw"
  rw [O.frzL_map, ← List.map_append]
  refine ⟨a + b, ta ++ tb, p, rfl, hp, by rw [List.length_append]; exact h64, fun ts h1 h2 => ?_⟩
  walk_at "tw"
  exact ⟨trivial, k ts h1 (by rw [List.length_append] at h2; exact h2)⟩
theorem does_times_of : ∀ os P, sp_times_of os P → wb_times_of (start0 5 os) (endsOf os P) := by
  rintro os P ⟨⟨a, ta⟩, n, p, rfl, hp, h64, hn, ha, hta, k⟩
  dsimp only at h64 k ha hta
  walk_at "tw"
  refine ⟨_, rfl, ?_⟩
  walk_at "tw"
  refine ⟨small_mul ha hn, ?_⟩
  walk_at "tw"
  refine ⟨_, rfl, ?_⟩
  walk_at "tw"
  refine lc_all termD ta (fun t => .fz (termD (t.1, t.2 * n))) (fun t ht A B hA => ?_) ?_
  · obtain ⟨z, v⟩ := t
    walk_at "tw"
    refine ⟨rfl, ?_⟩
    walk_at "tw"
    refine ⟨fun _ => ?_, fun h => nomatch h⟩
    walk_at "tw"
    refine ⟨small_mul (hta _ ht) hn, ?_⟩
    walk_at "tw"
    exact ⟨by show 2 ≤ sizeLine; decide, hA⟩
  intro c
  walk_at "tw"
  rw [frzL_mapfz]
  refine ⟨a * n, tms n ta, p, by unfold tms; rw [List.map_map]; rfl, hp, by rw [tms_len]; exact h64, fun ts h1 h2 => ?_⟩
  walk_at "tw"
  exact ⟨trivial, k ts h1 (by rw [tms_len] at h2; exact h2)⟩
theorem sub_get (fs : List (Str × Frm2)) (z : Str) : ((look fs z).map frm2).getD (.tup [.int 0, .tup [.tup [.str z, .int 1]]]) = frm2 (subF fs z) := by
  unfold subF
  cases look fs z <;> rfl
theorem putT_snoc (ts : List (Str × Int)) (t : Str × Int) (fs : List (Str × Frm2)) : putT (ts ++ [t]) fs = putT ts fs ++ tms t.2 (subF fs t.1).2 := by
  unfold putT
  rw [List.flatMap_append, List.flatMap_singleton]
theorem putN_snoc (n : Int) (ts : List (Str × Int)) (t : Str × Int) (fs : List (Str × Frm2)) : putN n (ts ++ [t]) fs = putN n ts fs + t.2 * (subF fs t.1).1 := by
  unfold putN
  rw [List.map_append, List.sum_append, List.map_cons, List.map_nil, List.sum_cons, List.sum_nil, Int.add_zero, Int.add_assoc]
theorem sub_ok {fs : List (Str × Frm2)} (h : ∀ z f, look fs z = some f → small f.1 ∧ f.2.length ≤ 7 ∧ ∀ t ∈ f.2, small t.2) (z : Str) : small (subF fs z).1 ∧ (subF fs z).2.length ≤ 7 ∧ ∀ t ∈ (subF fs z).2, small t.2 := by
  unfold subF
  cases e : look fs z with
  | some f => exact h z f e
  | none =>
    refine ⟨⟨by show -(2 ^ 64) < (0 : Int); decide, by show (0 : Int) < 2 ^ 64; decide⟩, by show 1 ≤ 7; decide, fun t ht => ?_⟩
    rw [show ((none : Option Frm2).getD (0, [(z, 1)])).2 = [(z, 1)] from rfl] at ht
    rw [List.mem_singleton.mp ht]
    exact ⟨by show -(2 ^ 64) < (1 : Int); decide, by show (1 : Int) < 2 ^ 64; decide⟩
theorem does_put_in : ∀ os P, sp_put_in os P → wb_put_in (start0 8 os) (endsOf os P) := by
  rintro os P ⟨⟨a, ta⟩, fs, p, rfl, hp, hp2, ha0, ha1, hl, hta, hfs, k⟩
  dsimp only at hl hta ha0 ha1 k
  walk_at "tw"
  refine ⟨rfl, ?_⟩
  walk_at "tw"
  refine ⟨by show 0 ≤ sizeLine; decide, ?_⟩
  walk_at "tw"
  refine ⟨by show 2 ≤ sizeLine; decide, ?_⟩
  walk_at "tw"
  refine for_map0 termD ta (fun pre ρ => ∃ ts x6 x7, IsNf p (putT pre fs) ts ∧ ts.length ≤ 7 * pre.length ∧ ρ = [some (.fz (formD a ta)), some (.fz (.dct (dctF frm2 fs))), some (.fz (.int p)), some (.fz (.int a)), some (.fz (.tup (ta.map termD))), some (.fz (formD (putN a pre fs % p) ts)), x6, x7])
    ⟨[], none, none, nf_nil p, Nat.zero_le _, by rw [show putN a [] fs = a from Int.add_zero a, Int.emod_eq_of_lt ha0 ha1]; rfl⟩ (fun pre t post ρ e hI N hN => ?_) (fun ρ hI => ?_)
  · obtain ⟨ts, x6, x7, hnf, htl, rfl⟩ := hI
    obtain ⟨z, v⟩ := t
    have hpl : pre.length < 7 := by
      have := congrArg List.length e
      rw [List.length_append, List.length_cons] at this
      omega
    have hv : small v := hta _ (by rw [e]; exact List.mem_append_right _ List.mem_cons_self)
    obtain ⟨s1, s2, s3⟩ := sub_ok hfs z
    walk_at "tw"
    refine ⟨rfl, ?_⟩
    walk_at "tw"
    refine ⟨rfl, ?_⟩
    walk_at "tw"
    refine ⟨by show 2 ≤ sizeLine; decide, ?_⟩
    walk_at "tw"
    refine ⟨by show 1 ≤ sizeLine; decide, ?_⟩
    walk_at "tw"
    refine ⟨by show 2 ≤ sizeLine; decide, ?_⟩
    walk_at "tw"
    refine ⟨.inr z, rfl, ?_⟩
    rw [getG_dctF]
    dsimp only
    rw [sub_get]
    walk_at "tw"
    refine ⟨subF fs z, v, p, rfl, hp, by omega, hv, s1, s3, fun us hu hul => ?_⟩
    walk_at "tw"
    refine ⟨(putN a pre fs % p, ts), ((subF fs z).1 * v % p, us), p, rfl, hp, by dsimp only; omega, fun ws hw hwl => ?_⟩
    dsimp only at hw hwl
    have en : (putN a pre fs % p + (subF fs z).1 * v % p) % p = putN a (pre ++ [(z, v)]) fs % p := by
      rw [putN_snoc, ← Int.add_emod, Int.mul_comm]
    refine hN _ ⟨ws, some (.fz (.str z)), some (.fz (.int v)), ?_, by rw [List.length_append, List.length_singleton]; omega, by rw [← en]⟩
    rw [putT_snoc]
    exact IsNf.add hp hnf hu hw
  · obtain ⟨ts, x6, x7, hnf, htl, rfl⟩ := hI
    walk_at "tw"
    exact ⟨trivial, k ts hnf (by omega)⟩
theorem does_worth_of : ∀ os P, sp_worth_of os P → wb_worth_of (start0 7 os) (endsOf os P) := by
  rintro os P ⟨⟨a, ta⟩, fs, p, rfl, hp, hl, hta, hfs, k⟩
  dsimp only at hl hta k
  walk_at "tw"
  refine ⟨rfl, ?_⟩
  walk_at "tw"
  refine lc_all termD ta (fun t => .fz (.int (t.2 * (look fs t.1).getD 0))) (fun t ht A B hA => ?_) ?_
  · obtain ⟨z, v⟩ := t
    walk_at "tw"
    refine ⟨rfl, ?_⟩
    walk_at "tw"
    refine ⟨fun _ => ?_, fun h => nomatch h⟩
    walk_at "tw"
    refine ⟨rfl, ?_⟩
    walk_at "tw"
    refine ⟨.inr z, rfl, ?_⟩
    rw [getG_dctF]
    dsimp only
    rw [show ((look fs z).map D.int).getD (.int 0) = .int ((look fs z).getD 0) by cases look fs z <;> rfl]
    walk_at "tw"
    refine ⟨small_mul (hta _ ht) ?_, hA⟩
    cases e : look fs z with
    | none => exact ⟨by decide, by decide⟩
    | some w => exact hfs z w e
  intro c
  walk_at "tw"
  rw [frzL_mapfz]
  refine ⟨_, ints_mapf _ _, ?_⟩
  walk_at "tw"
  refine ⟨hp, ?_⟩
  exact ⟨trivial, k⟩
theorem rise_notin {pre post : List (Str × Int)} {t : Str × Int} (h : Rise (pre ++ t :: post)) : ∀ c ∈ pre, c.1 ≠ t.1 := fun c hc e => by
  have := (List.pairwise_append.mp h).2.2 c hc t List.mem_cons_self
  rw [e] at this
  exact ltS_irr this
theorem pl_ne {z : Str} (h : PlOk z) : z ≠ "" := fun e => by
  have := h.wd.ne
  rw [e] at this
  exact absurd this (by decide)
theorem dctF_app {α : Type} (g : α → D) (fs gs : List (Str × α)) : dctF g (fs ++ gs) = dctF g fs ++ dctF g gs := List.map_append ..
theorem dctF_keys {α : Type} (g : α → D) (fs : List (Str × α)) (z : Str) : (.inr z : Key) ∈ (dctF g fs).map (·.1) ↔ z ∈ fs.map (·.1) := by
  unfold dctF
  rw [List.map_map, List.mem_map, List.mem_map]
  constructor
  · rintro ⟨f, hf, e⟩
    exact ⟨f, hf, by injection e⟩
  · rintro ⟨f, hf, e⟩
    exact ⟨f, hf, by rw [← e]; rfl⟩
theorem tms_fst (v : Int) (ts : List (Str × Int)) : (tms v ts).map (·.1) = ts.map (·.1) := by
  unfold tms
  rw [List.map_map]; rfl
theorem rise_nodup {ts : List (Str × Int)} (h : Rise ts) : (ts.map (·.1)).Nodup :=
  List.pairwise_map.mpr (List.Pairwise.imp (fun {a b} hl (e : a.1 = b.1) => ltS_irr (by rw [e] at hl; exact hl)) h)
theorem look_mem {α : Type} : ∀ {fs : List (Str × α)} {z : Str} {v : α}, (fs.map (·.1)).Nodup → (z, v) ∈ fs → look fs z = some v
  | f :: fs, z, v, nd, h => by
    unfold look
    rw [List.find?_cons]
    rcases List.mem_cons.mp h with e | e
    · rw [← e, decide_eq_true rfl]; rfl
    · rw [List.map_cons, List.nodup_cons] at nd
      rw [decide_eq_false fun e' => nd.1 (by rw [e']; exact List.mem_map.mpr ⟨_, e, rfl⟩)]
      exact look_mem nd.2 e
theorem look_form {fs : List (Str × Frm2)} {z : Str} : ((look fs z).isSome = true → ∃ f, look fs z = some f) ∧ ((look fs z).isSome = false → look fs z = none) := by
  cases look fs z with
  | none => exact ⟨fun h => (nomatch h), fun _ => rfl⟩
  | some f => exact ⟨fun _ => ⟨f, rfl⟩, fun h => (nomatch h)⟩
theorem FormOk.small {q n : Int} {ts : List (Str × Int)} (hq : q ≤ 1000) (h : FormOk q n ts) : small n ∧ ∀ t ∈ ts, small t.2 := by
  have h0 := h.n0
  have h1 := h.n1
  refine ⟨⟨by omega, by omega⟩, fun t ht => ?_⟩
  have h2 := h.t0 t ht
  have h3 := h.t1 t ht
  exact ⟨by omega, by omega⟩
theorem tms_pl {v : Int} {ts : List (Str × Int)} (hp : ∀ t ∈ ts, PlOk t.1) : ∀ t ∈ tms v ts, PlOk t.1 := fun c hc => by
  obtain ⟨t, ht, rfl⟩ := List.mem_map.mp hc
  exact hp t ht
theorem ris_terms : ∀ {ts : List (Str × Int)}, Rise ts → risB (ts.map termD) = true
  | [], _ => rfl
  | [_], _ => rfl
  | s :: t :: ts, h => by
    obtain ⟨h1, h2⟩ := List.pairwise_cons.mp h
    show (decide (ltS s.1 t.1) && risB ((t :: ts).map termD)) = true
    rw [decide_eq_true (h1 t List.mem_cons_self), ris_terms h2]; rfl
theorem FormOk.isB {q n : Int} {ts : List (Str × Int)} (h : FormOk q n ts) : formB q (formD n ts) = true := by
  show ((decide (0 ≤ n) && decide (n < q)) && ((ts.map termD).all (termB q) && risB (ts.map termD))) = true
  have e : (ts.map termD).all (termB q) = true := by
    rw [List.all_map]
    refine List.all_eq_true.mpr fun t ht => ?_
    show (nameB t.1 40 "0123456789." && ((decide (0 ≤ t.2) && decide (t.2 < q)) && decide (0 < t.2))) = true
    have h0 := h.t0 t ht
    rw [plOk_nm (h.pl t ht), decide_eq_true (show 0 ≤ t.2 by omega), decide_eq_true (h.t1 t ht), decide_eq_true h0]; rfl
  rw [e, decide_eq_true h.n0, decide_eq_true h.n1, ris_terms h.rise]; rfl
theorem FormOk.repr {q n : Int} {ts : List (Str × Int)} (hq : q ≤ 1000) (h : FormOk q n ts) (hl : ts.length ≤ 19000) : ReprOk (formD n ts) :=
  repr_form h.n0 (by have := h.n1; omega) hl fun t ht => ⟨h.pl t ht, h.t0 t ht, by have := h.t1 t ht; omega⟩
theorem form_pl3 (n : Int) (ts : List (Str × Int)) : pl3 3 (formD n ts) = true := by
  have e : (ts.map termD).all (pl3 1) = true := by
    rw [List.all_map]
    exact List.all_eq_true.mpr fun _ _ => rfl
  show (true && ((ts.map termD).all (pl3 1) && true)) = true
  rw [e]; rfl
/-- a comprehension over a list of one kind, by what holds -/
theorem lc_invA {α : Type} {g : WG} {wt : WT} {we : WO} {own : List Nat} {P : List O → TEnv → Prop} {ρ : TEnv} (c : α → D) (ms : List α) (I : List α → TEnv → List O → Prop) (h0 : I [] ρ [])
    (step : ∀ pre m post ρ acc, ms = pre ++ m :: post → I pre ρ acc → ∀ (A : O → TEnv → Prop) (B : TEnv → Prop), (∀ o ρ', I (pre ++ [m]) ρ' (acc ++ [o]) → A o ρ') → (∀ ρ', I (pre ++ [m]) ρ' acc → B ρ') →
      g (c m) ρ fun ρ1 => wt ρ1 fun b ρ2 => br b (we ρ2 fun o ρ3 => A o (wipeE ρ3 own)) (B (wipeE ρ2 own)))
    (fin : ∀ ρ acc, I ms ρ acc → P acc ρ) : wLcL g wt we own (ms.map c) ρ [] P := by
  refine lc_inv (ms.map c) (fun pre ρ acc => ∃ qs rs, ms = qs ++ rs ∧ pre = qs.map c ∧ I qs ρ acc) (fun pre d post ρ acc e h A B hA hB => ?_) (fun ρ acc h => ?_) (ms.map c) [] ρ [] rfl ⟨[], ms, rfl, rfl, h0⟩
  · obtain ⟨qs, rs, e2, rfl, hI⟩ := h
    rw [e2, List.map_append] at e
    have e3 := List.append_cancel_left e
    cases rs with
    | nil => cases e3
    | cons m rs =>
      rw [List.map_cons] at e3
      obtain ⟨rfl, _⟩ := List.cons.inj e3
      have e4 : ms = (qs ++ [m]) ++ rs := by rw [e2, List.append_assoc]; rfl
      exact step qs m rs ρ acc e2 hI A B (fun o ρ' h' => hA o ρ' ⟨qs ++ [m], rs, e4, by rw [List.map_append]; rfl, h'⟩) (fun ρ' h' => hB ρ' ⟨qs ++ [m], rs, e4, by rw [List.map_append]; rfl, h'⟩)
  · obtain ⟨qs, rs, e2, e3, hI⟩ := h
    have hl := congrArg List.length e3
    rw [List.length_map, List.length_map] at hl
    have hr : rs = [] := by
      have := congrArg List.length e2
      rw [List.length_append] at this
      exact List.length_eq_zero_iff.mp (by omega)
    rw [hr, List.append_nil] at e2
    exact fin ρ acc (by rw [e2]; exact hI)
theorem nf_form {q x : Int} {cs us : List (Str × Int)} (hq : 0 < q) (h : IsNf q cs us) (hp : ∀ c ∈ cs, PlOk c.1) : FormOk q (x % q) us := by
  have key : ∀ t ∈ us, t.2 = tot q cs t.1 ∧ 0 < t.2 := fun t ht => (h.mem t.1 t.2).mp ht
  refine ⟨Int.emod_nonneg _ (by omega), Int.emod_lt_of_pos _ hq, fun t ht => ?_, fun t ht => (key t ht).2, fun t ht => ?_, h.rise⟩
  · obtain ⟨e, h0⟩ := key t ht
    refine Classical.byContradiction fun hn => ?_
    rw [tot_none q cs t.1 fun c hc ec => hn (ec ▸ hp c hc)] at e
    omega
  · rw [(key t ht).1]
    exact tot_lt hq _ _

theorem mergeG_dctF {α : Type} (g : α → D) {fs : List (Str × α)} (nd : (fs.map (·.1)).Nodup) : mergeG [] (dctF g fs) = dctF g fs := by
  refine mergeG_new _ [] ?_
  rw [List.nil_append]
  unfold dctF
  rw [List.map_map]
  rw [List.nodup_iff_pairwise_ne] at *
  exact List.pairwise_map.mpr (List.Pairwise.imp (fun {a b} hne (e : (Sum.inr a.1 : Key) = .inr b.1) => hne (by injection e)) (List.pairwise_map.mp nd))
theorem putG_old {κ : Type} [DecidableEq κ] {kvs : List (κ × D)} {k : κ} {v : D} (h : k ∈ kvs.map (·.1)) : putG kvs k v = kvs.map fun kv => if kv.1 = k then (kv.1, v) else kv := by
  unfold putG
  rw [any_key, if_pos (decide_eq_true h)]
theorem put_dctF {α : Type} (g : α → D) {fs : List (Str × α)} (nd : (fs.map (·.1)).Nodup) (z : Str) (x : α) : ∃ gs, putG (dctF g fs) (.inr z) (g x) = dctF g gs ∧ (gs.map (·.1)).Nodup ∧ (∀ f ∈ gs, f ∈ fs ∨ f = (z, x)) ∧ gs.length ≤ fs.length + 1 := by
  by_cases hz : z ∈ fs.map (·.1)
  · refine ⟨fs.map fun f => if f.1 = z then (f.1, x) else f, ?_, ?_, fun f hf => ?_, by rw [List.length_map]; omega⟩
    · rw [putG_old ((dctF_keys g fs z).mpr hz)]
      unfold dctF
      rw [List.map_map, List.map_map]
      refine List.map_congr_left fun f _ => ?_
      show (if (Sum.inr f.1 : Key) = .inr z then _ else _) = ((Sum.inr (if f.1 = z then (f.1, x) else f).1 : Key), g (if f.1 = z then (f.1, x) else f).2)
      by_cases e : f.1 = z
      · rw [if_pos (by rw [e]), if_pos e]
      · rw [if_neg (fun h => e (by injection h)), if_neg e]
    · rw [List.map_map]
      have : (fs.map ((·.1) ∘ fun f => if f.1 = z then (f.1, x) else f)) = fs.map (·.1) := List.map_congr_left fun f _ => by
        show (if f.1 = z then (f.1, x) else f).1 = f.1
        split <;> rfl
      rw [this]; exact nd
    · obtain ⟨f', hf', rfl⟩ := List.mem_map.mp hf
      by_cases e : f'.1 = z
      · rw [if_pos e, e]; exact .inr rfl
      · rw [if_neg e]; exact .inl hf'
  · refine ⟨fs ++ [(z, x)], ?_, ?_, fun f hf => ?_, by rw [List.length_append]; exact Nat.le_refl _⟩
    · rw [putG_new (fun h => hz ((dctF_keys g fs z).mp h)), dctF_app]; rfl
    · rw [List.map_append]
      exact List.nodup_append.mpr ⟨nd, List.nodup_cons.mpr ⟨fun h => (by cases h), List.nodup_nil⟩, fun a ha b hb e => by
        rw [List.mem_singleton.mp hb] at e
        exact hz (by rw [← show a = z from e]; exact ha)⟩
    · rcases List.mem_append.mp hf with h | h
      · exact .inl h
      · exact .inr (List.mem_singleton.mp h)
theorem look_in {α : Type} {fs : List (Str × α)} {z : Str} {x : α} (h : look fs z = some x) : (z, x) ∈ fs := by
  unfold look at h
  cases e : fs.find? fun f => decide (f.1 = z) with
  | none => rw [e] at h; cases h
  | some f =>
    rw [e] at h
    cases h
    have h1 := List.mem_of_find?_eq_some e
    have h2 := List.find?_some e
    have h2 : f.1 = z := of_decide_eq_true h2
    rw [← h2]; exact h1
theorem putT_pl {ts : List (Str × Int)} {fs : List (Str × Frm2)} (hp : ∀ t ∈ ts, PlOk t.1) (hf : ∀ z f, look fs z = some f → ∀ t ∈ f.2, PlOk t.1) : ∀ c ∈ putT ts fs, PlOk c.1 := fun c hc => by
  obtain ⟨t, ht, h⟩ := List.mem_flatMap.mp hc
  obtain ⟨u, hu, rfl⟩ := List.mem_map.mp h
  show PlOk u.1
  unfold subF at hu
  cases e : look fs t.1 with
  | none =>
    rw [e] at hu
    rw [List.mem_singleton.mp hu]
    exact hp t ht
  | some f =>
    rw [e] at hu
    exact hf _ _ e u hu
theorem prime_le {p : Int} (h : p ∈ primes) : 2 ≤ p ∧ p ≤ 1000 := by
  simp only [primes, List.mem_cons, List.not_mem_nil, or_false] at h
  omega
/-- what inverse does: at most 12 halvings -/
def invGo (p : Int) : Nat → Int → Int → Int → Int
  | 0, found, _, _ => found
  | k + 1, found, base, left => if 0 < left then invGo p k (if left % 2 = 1 then found * base % p else found) (base * base % p) (left / 2) else found
def invOk (p : Int) : Bool := (List.range p.toNat).all fun n => n == 0 || decide ((n : Int) * (invGo p 12 1 n (p - 2) % p) % p = 1)
theorem inv_ok : ∀ p ∈ primes, invOk p = true := by decide +kernel
theorem does_inverse : ∀ os P, sp_inverse os P → wb_inverse (start0 5 os) (endsOf os P) := by
  rintro os P ⟨n, p, rfl, hp, hn, hnp, k⟩
  obtain ⟨hp2, hp3⟩ := prime_le hp
  walk_at "tw"
  refine while_inv (fun j ρ => ∃ (i : Nat) (found base left : Int), j = i ∧ left < 2 ^ i ∧ 0 ≤ left ∧ 0 ≤ found ∧ found < 1000 ∧ 0 ≤ base ∧ base < 1000 ∧ i ≤ 12 ∧ invGo p i found base left = invGo p 12 1 n (p - 2) ∧ ρ = [some (.fz (.int n)), some (.fz (.int p)), some (.fz (.int found)), some (.fz (.int base)), some (.fz (.int left))]) (n := 12) ?_ ⟨12, 1, n, p - 2, rfl, by omega, by omega, by omega, by omega, by omega, by omega, by omega, rfl, rfl⟩
  rintro j ρ ⟨i, found, base, left, rfl, hl, hl0, hf0, hf1, hb0, hb1, hi, he, rfl⟩ N hN
  walk_at "tw"
  refine ⟨fun h => ?_, fun h => ?_⟩
  · have hpos : 0 < left := of_decide_eq_true h
    cases j with
    | zero => omega
    | succ i =>
      unfold invGo at he
      rw [if_pos hpos] at he
      have hl2 : left / 2 < 2 ^ i := by
        rw [Int.pow_succ] at hl
        omega
      have fin : ∀ f : Int, 0 ≤ f → f < 1000 → f = (if left % 2 = 1 then found * base % p else found) → N [some (.fz (.int n)), some (.fz (.int p)), some (.fz (.int f)), some (.fz (.int (base * base % p))), some (.fz (.int (left / 2)))] := fun f h0 h1 e => by
        refine hN i _ (Nat.lt_succ_self _) ⟨i, f, base * base % p, left / 2, rfl, hl2, by omega, h0, h1, Int.emod_nonneg _ (by omega), ?_, by omega, by rw [e]; exact he, rfl⟩
        have := Int.emod_lt_of_pos (base * base) (show 0 < p by omega)
        omega
      walk_at "tw"
      refine ⟨by decide, ?_⟩
      walk_at "tw"
      refine ⟨fun h2 => ?_, fun h2 => ?_⟩
      · have h2 : left % 2 = 1 := of_decide_eq_true h2
        walk_at "tw"
        refine ⟨cmul64 (by omega) (by omega) (by omega) (by omega), ?_⟩
        walk_at "tw"
        refine ⟨by omega, ?_⟩
        walk_at "tw"
        refine ⟨cmul64 (by omega) (by omega) (by omega) (by omega), ?_⟩
        walk_at "tw"
        refine ⟨by omega, ?_⟩
        walk_at "tw"
        refine ⟨cdiv64 (by decide) (by decide), ?_⟩
        refine fin _ (Int.emod_nonneg _ (by omega)) ?_ (by rw [if_pos h2])
        have := Int.emod_lt_of_pos (found * base) (show 0 < p by omega)
        omega
      · have h2 : ¬ left % 2 = 1 := of_decide_eq_false h2
        walk_at "tw"
        refine ⟨cmul64 (by omega) (by omega) (by omega) (by omega), ?_⟩
        walk_at "tw"
        refine ⟨by omega, ?_⟩
        walk_at "tw"
        refine ⟨cdiv64 (by decide) (by decide), ?_⟩
        exact fin _ hf0 hf1 (by rw [if_neg h2])
  · have hnot : ¬ 0 < left := of_decide_eq_false h
    have hfound : invGo p 12 1 n (p - 2) = found := by
      rw [← he]
      cases j with
      | zero => rfl
      | succ i => unfold invGo; rw [if_neg hnot]
    walk_at "tw"
    refine ⟨by omega, trivial, ?_⟩
    refine k (found % p) (Int.emod_nonneg _ (by omega)) (Int.emod_lt_of_pos _ (by omega)) ?_
    have ok := inv_ok p hp
    unfold invOk at ok
    rw [List.all_eq_true] at ok
    have := ok n.toNat (List.mem_range.mpr (by omega))
    rw [Bool.or_eq_true] at this
    rcases this with z | z
    · have : n.toNat = 0 := by simpa using z
      omega
    · have z := of_decide_eq_true z
      rwa [Int.toNat_of_nonneg (by omega), hfound] at z
theorem tl_mkS (l : List Nat) : tlS (mkS l) = l := rfl
theorem mk_tlS (z : Str) : mkS (tlS z) = z := TL.mk_tl z
theorem ext_tlS {x y : Str} (h : tlS x = tlS y) : x = y := TL.ext_tl h
theorem tlS_app (x y : Str) : tlS (x ++ y) = tlS x ++ tlS y := TL.tl_append x y
theorem tlS_len (x : Str) : x.length = (tlS x).length := TL.len_tl x
theorem tlS_num {n : Int} (h : 0 ≤ n) : tlS (numS n) = TL.numL n.toNat := by
  have := TL.tl_num n.toNat
  rw [Int.toNat_of_nonneg h] at this
  exact this
theorem lead_rest (l : List Nat) : leadL l ++ restL l = l := List.takeWhile_append_dropWhile
theorem mem_tw {p : Nat → Bool} {c : Nat} : ∀ {l : List Nat}, c ∈ l.takeWhile p → p c = true
  | d :: l, h => by
    rw [List.takeWhile_cons] at h
    by_cases e : p d = true
    · rw [if_pos e] at h
      rcases List.mem_cons.mp h with h | h
      · rw [h]; exact e
      · exact mem_tw h
    · rw [if_neg e] at h; cases h
theorem lead_dig (l : List Nat) : NumText.AllDigits (leadL l) := fun c hc => by
  have := mem_tw hc
  simp only [dig, Bool.and_eq_true, decide_eq_true_eq] at this
  exact this
theorem dig_of {d : List Nat} (h : NumText.AllDigits d) : ∀ c ∈ d, dig c = true := fun c hc => by
  have := h c hc
  simp only [dig, Bool.and_eq_true, decide_eq_true_eq]
  exact this
theorem lead_app {d r : List Nat} (hd : NumText.AllDigits d) (hr : r = [] ∨ dig (r.headD 0) = false) : leadL (d ++ r) = d ∧ restL (d ++ r) = r := by
  have e1 : r.takeWhile dig = [] := by
    rcases hr with h | h
    · rw [h]; rfl
    · cases r with
      | nil => rfl
      | cons c r => rw [List.takeWhile_cons, if_neg (by rw [show dig c = false from h]; simp)]
  have e2 : r.dropWhile dig = r := by
    rcases hr with h | h
    · rw [h]; rfl
    · cases r with
      | nil => rfl
      | cons c r => rw [List.dropWhile_cons, if_neg (by rw [show dig c = false from h]; simp)]
  constructor
  · unfold leadL
    rw [List.takeWhile_append_of_pos (dig_of hd), e1, List.append_nil]
  · unfold restL
    rw [List.dropWhile_append_of_pos (dig_of hd), e2]
theorem letters_nodig : ∀ c ∈ letters.cps.toList, dig c = false := by decide +kernel
theorem signs_no43 : ∀ c ∈ plSigns, c ≠ 43 := by decide +kernel
theorem pl_ndig {z : Str} (h : PlOk z) : dig ((tlS z).headD 0) = false := letters_nodig _ h.wd.hd
theorem pl_nnil {z : Str} (h : PlOk z) : tlS z ≠ [] := fun e => by
  have := h.wd.ne
  rw [tlS_len, e] at this
  exact absurd this (by decide)
theorem numL_small {n : Int} (h0 : 0 ≤ n) (h1 : n < 1000) : (TL.numL n.toNat).length ≤ 3 := TL.numL_len (by decide) (by omega)
theorem termL {z : Str} {v : Int} (hv : 0 < v) : tlS (termT (z, v)) = (if v = 1 then [] else TL.numL v.toNat) ++ tlS z := by
  unfold termT
  by_cases e : v = 1
  · rw [if_pos e, if_pos e]; rfl
  · rw [if_neg e, if_neg e, tlS_app, tlS_num (by exact Int.le_of_lt hv)]
theorem term_lead {z : Str} {v : Int} (hz : PlOk z) (hv : 0 < v) : leadL (tlS (termT (z, v))) = (if v = 1 then [] else TL.numL v.toNat) ∧ restL (tlS (termT (z, v))) = tlS z := by
  rw [termL hv]
  refine lead_app ?_ (.inr (pl_ndig hz))
  split
  · exact fun c hc => (by cases hc)
  · exact TL.numL_digits _
theorem tIn_term {z : Str} {v : Int} (hz : PlOk z) (hv : 0 < v) (h1 : v < 1000) : tIn (tlS (termT (z, v))) = some (z, v) := by
  obtain ⟨e1, e2⟩ := term_lead hz hv
  unfold tIn
  rw [e1, e2]
  have hl : ¬ (tlS (termT (z, v)) = [] ∨ 3 < (if v = 1 then [] else TL.numL v.toNat).length) := by
    rintro (h | h)
    · rw [termL hv] at h
      exact pl_nnil hz (List.append_eq_nil_iff.mp h).2
    · split at h
      · cases h
      · have := numL_small (n := v) (by omega) h1
        omega
  rw [if_neg hl, mk_tlS]
  by_cases e : v = 1
  · rw [if_pos e, if_pos rfl, e]
  · rw [if_neg e, if_neg (TL.numL_ne _)]
    unfold valD
    rw [TL.numL_val, Int.toNat_of_nonneg (by omega)]
theorem tIn_num {n : Int} (h0 : 0 ≤ n) (h1 : n < 1000) : tIn (tlS (numS n)) = some (("" : Str), n) := by
  rw [tlS_num h0]
  have hla := lead_app (r := []) (TL.numL_digits n.toNat) (.inl rfl)
  rw [List.append_nil] at hla
  unfold tIn
  rw [hla.1, hla.2, if_neg, if_neg (TL.numL_ne _)]
  · unfold valD
    rw [TL.numL_val, Int.toNat_of_nonneg h0]; rfl
  · rintro (h | h)
    · exact TL.numL_ne _ h
    · have := numL_small h0 h1
      omega
theorem no43_dig {d : List Nat} (h : NumText.AllDigits d) : 43 ∉ d := fun hm => by have := h 43 hm; omega
theorem no43_pl {z : Str} (h : PlOk z) : 43 ∉ tlS z := fun hm => signs_no43 43 (h.wd.ch 43 hm) rfl
theorem no43_term {z : Str} {v : Int} (hz : PlOk z) (hv : 0 < v) : 43 ∉ tlS (termT (z, v)) := by
  rw [termL hv]
  intro hm
  rcases List.mem_append.mp hm with h | h
  · split at h
    · cases h
    · exact no43_dig (TL.numL_digits _) h
  · exact no43_pl hz h
theorem plus_tl : TL.tl ("+" : Str) = [43] := by decide +kernel
theorem formT_tl (n : Int) (ts : List (Str × Int)) : tlS (formT n ts) = TL.joinL [43] ((piecesT n ts).map tlS) := by
  unfold formT
  rw [TL.join_eq]
  show TL.tl _ = _
  rw [TL.tl_join, plus_tl]; rfl
theorem pieces_ne (n : Int) (ts : List (Str × Int)) : piecesT n ts ≠ [] := by
  unfold piecesT
  cases ts with
  | nil => rw [if_pos (.inr rfl)]; simp
  | cons t ts => simp
theorem pieces_43 {q n : Int} {ts : List (Str × Int)} (h : FormOk q n ts) : ∀ l ∈ (piecesT n ts).map tlS, 43 ∉ l := fun l hl => by
  obtain ⟨z, hz, rfl⟩ := List.mem_map.mp hl
  unfold piecesT at hz
  rcases List.mem_append.mp hz with c | c
  · split at c
    · rw [List.mem_singleton.mp c, tlS_num h.n0]
      exact no43_dig (TL.numL_digits _)
    · cases c
  · obtain ⟨t, ht, rfl⟩ := List.mem_map.mp c
    exact no43_term (h.pl t ht) (h.t0 t ht)
theorem sp_form {q n : Int} {ts : List (Str × Int)} (h : FormOk q n ts) : sp (tlS (formT n ts)) = (piecesT n ts).map tlS := by
  rw [formT_tl]
  exact TL.spl_join (fun e => pieces_ne n ts (List.map_eq_nil_iff.mp e)) (pieces_43 h)
theorem spl_ne : ∀ (l acc : List Nat), TL.spl [43] 0 acc l ≠ []
  | [], acc => by rw [TL.spl_nil]; simp
  | c :: r, acc => by
    cases h : TL.pre [43] (c :: r)
    · rw [TL.spl_miss h]; exact spl_ne r _
    · rw [TL.spl_hit h]; simp
theorem joinL_cons {p : List Nat} {ps : List (List Nat)} (h : ps ≠ []) : TL.joinL [43] (p :: ps) = p ++ ([43] ++ TL.joinL [43] ps) := by
  cases ps with
  | nil => exact absurd rfl h
  | cons q r => rfl
theorem join_spl : ∀ (l acc : List Nat), TL.joinL [43] (TL.spl [43] 0 acc l) = acc ++ l
  | [], acc => by rw [TL.spl_nil, List.append_nil]; rfl
  | c :: r, acc => by
    cases h : TL.pre [43] (c :: r)
    · rw [TL.spl_miss h, join_spl r, List.append_assoc]; rfl
    · have hc : c = 43 := by
        have h : ([c] == [43]) = true := h
        have := eq_of_beq h
        injection this
      rw [TL.spl_hit h, joinL_cons (by show TL.spl [43] 0 [] r ≠ []; exact spl_ne r _)]
      show acc ++ ([43] ++ TL.joinL [43] (TL.spl [43] 0 [] r)) = _
      rw [join_spl r, List.nil_append, hc]
      rfl
theorem join_sp (l : List Nat) : TL.joinL [43] (sp l) = l := by
  have := join_spl l []
  rwa [List.nil_append] at this
theorem isB_ok {p n : Int} {ts : List (Str × Int)} (h : formB p (formD n ts) = true) : FormOk p n ts := by
  have hh : ((decide (0 ≤ n) && decide (n < p)) && ((ts.map termD).all (termB p) && risB (ts.map termD))) = true := h
  simp only [Bool.and_eq_true, decide_eq_true_eq, List.all_map] at hh
  obtain ⟨⟨h0, h1⟩, h2, h3⟩ := hh
  have key : ∀ t ∈ ts, nameB t.1 40 "0123456789." = true ∧ (0 ≤ t.2 ∧ t.2 < p) ∧ 0 < t.2 := fun t ht => by
    have := List.all_eq_true.mp h2 t ht
    have this : (nameB t.1 40 "0123456789." && ((decide (0 ≤ t.2) && decide (t.2 < p)) && decide (0 < t.2))) = true := this
    simp only [Bool.and_eq_true, decide_eq_true_eq] at this
    exact this
  refine ⟨h0, h1, fun t ht => nm_plOk (key t ht).1, fun t ht => (key t ht).2.2, fun t ht => (key t ht).2.1.2, ?_⟩
  clear h2 key h
  induction ts with
  | nil => exact .nil
  | cons s ts ih =>
    cases ts with
    | nil => exact List.pairwise_singleton _ _
    | cons t ts =>
      have h3 : (decide (ltS s.1 t.1) && risB ((t :: ts).map termD)) = true := h3
      rw [Bool.and_eq_true, decide_eq_true_eq] at h3
      have ih := ih h3.2
      refine List.pairwise_cons.mpr ⟨fun u hu => ?_, ih⟩
      rcases List.mem_cons.mp hu with e | e
      · rw [e]; exact h3.1
      · exact ltS_trans h3.1 ((List.pairwise_cons.mp ih).1 u e)
theorem rdF_ok {p : Int} {z : Str} {f : Int × List (Str × Int)} (h : rdF p z = some f) : FormOk p f.1 f.2 ∧ formT f.1 f.2 = z := by
  unfold rdF at h
  dsimp only at h
  split at h
  · cases h
  · split at h
    · rename_i hc
      cases h
      exact ⟨isB_ok hc.1, hc.2⟩
    · cases h
theorem map_some {α β : Type} (l : List α) (f : α → Option β) (g : α → β) (h : ∀ x ∈ l, f x = some (g x)) : l.map f = (l.map g).map some := by
  rw [List.map_map]
  exact List.map_congr_left h
theorem any_some {β : Type} : ∀ l : List β, (l.map some).any Option.isNone = false
  | [] => rfl
  | b :: l => any_some l
theorem fm_some {β : Type} : ∀ l : List β, (l.map some).filterMap id = l
  | [] => rfl
  | b :: l => by
    rw [List.map_cons, List.filterMap_cons]
    exact congrArg (b :: ·) (fm_some l)
theorem form_isB {q n : Int} {ts : List (Str × Int)} (h : FormOk q n ts) : formB q (formD n ts) = true := h.isB
theorem rdF_form {p n : Int} {ts : List (Str × Int)} (hp : p ≤ 1000) (h : FormOk p n ts) : rdF p (formT n ts) = some (n, ts) := by
  have h0 := h.n0
  have h1 := h.n1
  have eT : (ts.map (tlS ∘ termT)).map tIn = ts.map some := by
    rw [List.map_map]
    refine List.map_congr_left fun t ht => ?_
    exact tIn_term (h.pl t ht) (h.t0 t ht) (by have := h.t1 t ht; omega)
  have eA : (sp (tlS (formT n ts))).map tIn = ((if n ≠ 0 ∨ ts = [] then [(("" : Str), n)] else []) ++ ts).map some := by
    rw [sp_form h]
    unfold piecesT
    rw [List.map_append, List.map_append, List.map_append, List.map_map (f := termT), eT]
    split
    · rw [List.map_cons, List.map_cons, tIn_num h0 (by omega)]; rfl
    · rfl
  have e0 : ∀ t ∈ ts, decide (t.1 = "") = false := fun t ht => decide_eq_false fun e => by
    have := (h.pl t ht).wd.ne
    rw [e] at this
    exact absurd this (by decide)
  have f1 : ts.filter (fun (t : Str × Int) => decide (t.1 = "")) = [] := List.filter_eq_nil_iff.mpr fun t ht => by rw [e0 t ht]; simp
  have f2 : ts.filter (fun (t : Str × Int) => !decide (t.1 = "")) = ts := List.filter_eq_self.mpr fun t ht => by rw [e0 t ht]; rfl
  unfold rdF
  dsimp only
  rw [eA, any_some, if_neg (by simp), fm_some, List.filter_append, List.filter_append, f1, f2]
  have es : ((((if n ≠ 0 ∨ ts = [] then [(("" : Str), n)] else [] : List (Str × Int)).filter fun (t : Str × Int) => decide (t.1 = "")) ++ []).map fun (t : Str × Int) => t.2).sum = n := by
    rw [List.append_nil]
    split
    · rw [List.filter_cons, if_pos (decide_eq_true rfl)]
      show n + 0 = n
      omega
    · rename_i hc
      have : n = 0 := by
        refine Classical.byContradiction fun e => hc (.inl e)
      rw [this]; rfl
  have eu : ((if n ≠ 0 ∨ ts = [] then [(("" : Str), n)] else [] : List (Str × Int)).filter fun (t : Str × Int) => !decide (t.1 = "")) = [] := by
    split
    · rw [List.filter_cons, if_neg (by simp)]; rfl
    · rfl
  rw [es, eu, List.nil_append, if_pos ⟨h.isB, rfl⟩]
theorem num_len {i : Int} (h0 : -(2 ^ 64) < i) (h1 : i < 2 ^ 64) : (numS i).length ≤ 21 := by
  have := int_text_length_le10 (a := i) (k := 20) (by decide) (by omega)
  unfold numS
  rw [PySem.ofString_length]
  exact this
theorem termT_len {z : Str} {v : Int} (h0 : -(2 ^ 64) < v) (h1 : v < 2 ^ 64) : (termT (z, v)).length ≤ z.length + 21 := by
  unfold termT
  split
  · show z.length ≤ _; omega
  · have := num_len h0 h1
    rw [tlS_len, tlS_app, List.length_append, ← tlS_len, ← tlS_len]
    show (numS v).length + z.length ≤ _
    omega
theorem emp_app (x : Str) : Str.empty ++ x = x := ext_tlS (by rw [tlS_app]; rfl)
theorem log64 {i : Int} (h0 : -(2 ^ 64) < i) (h1 : i < 2 ^ 64) : i.natAbs.log2 < 1920 := by
  rcases Nat.eq_zero_or_pos i.natAbs with z | z
  · rw [z]; decide
  · have := (Nat.log2_lt (n := i.natAbs) (k := 64) (by omega)).mpr (by omega)
    omega
theorem does_term_text : ∀ os P, sp_term_text os P → wb_term_text (start0 2 os) (endsOf os P) := by
  rintro os P ⟨z, v, rfl, hz, h0, h1, k⟩
  have hn := num_len h0 h1
  walk_at "tw"
  refine ⟨fun h => ?_, fun h => ?_⟩
  · have h : v = 1 := of_decide_eq_true h
    walk_at "tw"
    unfold termT at k
    rw [if_pos h] at k
    exact ⟨trivial, k⟩
  · have h : ¬ v = 1 := of_decide_eq_false h
    have hlen : (numS v ++ z).length ≤ 1021 := by
      rw [tlS_len, tlS_app, List.length_append, ← tlS_len, ← tlS_len]
      omega
    walk_at "tw"
    refine ⟨log64 h0 h1, ?_⟩
    walk_at "tw"
    rw [emp_app]
    refine ⟨Nat.le_trans hn (by decide), ?_⟩
    walk_at "tw"
    refine ⟨Nat.le_trans hz (by decide), ?_⟩
    walk_at "tw"
    refine ⟨Nat.le_trans hlen (by decide), ?_⟩
    walk_at "tw"
    unfold termT at k
    rw [if_neg h] at k
    exact ⟨trivial, k⟩
theorem sum_le : ∀ (l : List Str) (b : Nat), (∀ z ∈ l, z.length ≤ b) → (l.map (·.length)).sum ≤ l.length * b
  | [], b, _ => by rw [List.map_nil, List.sum_nil]; exact Nat.zero_le _
  | z :: l, b, h => by
    have h1 := h z List.mem_cons_self
    have h2 := sum_le l b fun y hy => h y (List.mem_cons_of_mem _ hy)
    rw [List.map_cons, List.sum_cons, List.length_cons, Nat.succ_mul]
    omega
theorem join_ok {l : List Str} {m b : Nat} (hl : l.length ≤ m) (h : ∀ z ∈ l, z.length ≤ b) (hmb : m * (b + 1) ≤ 15000000) : (l.map (·.length)).sum + l.length * ("+" : Str).length ≤ 16777216 ∧ (Txt.join "+" l).length ≤ sizeLine := by
  have h1 := sum_le l b h
  have h2 : l.length * b ≤ m * b := Nat.mul_le_mul_right _ hl
  have h3 : m * (b + 1) = m * b + m := Nat.mul_succ _ _
  have e1 : ("+" : Str).length = 1 := by decide +kernel
  have h4 := PySem.StrLaws.join_length_le "+" l
  rw [TL.join_eq]
  rw [e1] at h4 ⊢
  refine ⟨by omega, Nat.le_trans (m := 15000000) (by omega) (by decide)⟩
theorem pieces_len {n : Int} {ts : List (Str × Int)} (hn : -(2 ^ 64) < n ∧ n < 2 ^ 64) (ht : ∀ t ∈ ts, t.1.length ≤ 100 ∧ -(2 ^ 64) < t.2 ∧ t.2 < 2 ^ 64) : (∀ z ∈ piecesT n ts, z.length ≤ 121) ∧ (piecesT n ts).length ≤ ts.length + 1 := by
  unfold piecesT
  constructor
  · intro z hz
    rcases List.mem_append.mp hz with c | c
    · split at c
      · rw [List.mem_singleton.mp c]
        have := num_len hn.1 hn.2
        omega
      · cases c
    · obtain ⟨t, h, rfl⟩ := List.mem_map.mp c
      have := termT_len (z := t.1) (ht t h).2.1 (ht t h).2.2
      have h1 := (ht t h).1
      show (termT (t.1, t.2)).length ≤ 121
      omega
  · rw [List.length_append, List.length_map]
    have : (if n ≠ 0 ∨ ts = [] then [numS n] else []).length ≤ 1 := by split <;> simp
    omega
theorem does_form_text : ∀ os P, sp_form_text os P → wb_form_text (start0 6 os) (endsOf os P) := by
  rintro os P ⟨n, ts, rfl, hn, hl, ht, k⟩
  obtain ⟨hp1, hp2⟩ := pieces_len hn ht
  walk_at "tw"
  refine ⟨rfl, ?_⟩
  walk_at "tm"
  refine seq_mid (fun ρ => ∃ (b : Addr) (os : List O), O.frzL os = (if n ≠ 0 ∨ ts = [] then [numS n] else []).map .str ∧ ρ = [some (.fz (formD n ts)), some (.fz (.int n)), some (.fz (.tup (ts.map termD))), some (.lst b os), none, none]) (fun N hN => ?_) ?_
  · walk_at "tw"
    refine ⟨fun h => ?_, fun h => ?_⟩
    · have h : n ≠ 0 := fun e => by
        have h : (!decide (n = 0)) = true := h
        rw [e] at h; cases h
      walk_at "tw"
      refine ⟨fun _ => ?_, fun h => nomatch h⟩
      walk_at "tw"
      refine ⟨log64 hn.1 hn.2, ?_⟩
      walk_at "tw"
      refine ⟨by show 1 ≤ sizeLine; decide, fun b => hN _ ⟨b, _, ?_, rfl⟩⟩
      rw [if_pos (.inl h)]; rfl
    · have h : n = 0 := Classical.byContradiction fun e => by
        have h : (!decide (n = 0)) = false := h
        rw [decide_eq_false e] at h; cases h
      walk_at "tw"
      refine ⟨by show 0 ≤ sizeLine; decide, ?_⟩
      walk_at "tw"
      refine ⟨_, deq_tnil, ?_⟩
      cases ts with
      | nil =>
        refine ⟨fun _ => ?_, fun h => nomatch h⟩
        walk_at "tw"
        refine ⟨log64 hn.1 hn.2, ?_⟩
        walk_at "tw"
        exact ⟨by show 1 ≤ sizeLine; decide, fun b => hN _ ⟨b, _, by rw [if_pos (.inr rfl)]; rfl, rfl⟩⟩
      | cons t ts =>
        refine ⟨fun h => (nomatch h), fun _ => ?_⟩
        walk_at "tw"
        refine ⟨by show 0 ≤ sizeLine; decide, fun b => hN _ ⟨b, _, ?_, rfl⟩⟩
        rw [if_neg (by rintro (g | g); · exact g h
                       · cases g)]
        rfl
  rintro _ ⟨b, os, ho, rfl⟩
  walk_at "tw"
  refine lc_all termD ts (fun t => .fz (.str (termT t))) (fun t hm A B hA => ?_) ?_
  · obtain ⟨z, v⟩ := t
    obtain ⟨h1, h2, h3⟩ := ht _ hm
    walk_at "tw"
    refine ⟨rfl, ?_⟩
    walk_at "tw"
    refine ⟨fun _ => ?_, fun h => nomatch h⟩
    walk_at "tw"
    refine ⟨z, v, rfl, Nat.le_trans h1 (by decide), h2, h3, ?_⟩
    exact hA
  intro c
  walk_at "tw"
  rw [frzL_mapfz, ho]
  have eP : ((if n ≠ 0 ∨ ts = [] then [numS n] else []).map D.str) ++ (ts.map fun t => D.str (termT t)) = (piecesT n ts).map .str := by
    unfold piecesT
    rw [List.map_append, List.map_map]; rfl
  refine ⟨?_, fun c2 => ?_⟩
  · have := congrArg List.length eP
    rw [List.length_append, List.length_map (as := piecesT n ts)] at this
    rw [this]
    exact Nat.le_trans hp2 (Nat.le_trans (Nat.succ_le_succ hl) (by decide))
  rw [eP]
  walk_at "tw"
  rw [O.frzL_map]
  obtain ⟨j1, j2⟩ := join_ok (m := 30001) (by omega) hp1 (by decide)
  refine ⟨piecesT n ts, rfl, j1, j2, trivial, k⟩
theorem cut_from (z : Str) (k : Nat) : tlS (cutS z (some (k : Int)) none) = (tlS z).drop k := by
  show (z.cps.toList.drop (HT.sIx z.length 0 (some (k : Int)))).take (HT.sIx z.length z.length none - HT.sIx z.length 0 (some (k : Int))) = _
  rw [HT.sIx_none, HT.sIx_nat]
  have : z.cps.toList.length = z.length := rfl
  rw [List.take_of_length_le (by rw [List.length_drop]; omega)]
  by_cases h : k ≤ z.length
  · rw [Nat.min_eq_left h]; rfl
  · rw [Nat.min_eq_right (by omega), List.drop_of_length_le (by omega), List.drop_of_length_le (by show z.cps.toList.length ≤ k; omega)]
theorem tw_take (p : Nat → Bool) : ∀ l : List Nat, l.take (l.takeWhile p).length = l.takeWhile p ∧ l.drop (l.takeWhile p).length = l.dropWhile p
  | [] => ⟨rfl, rfl⟩
  | c :: l => by
    rw [List.takeWhile_cons, List.dropWhile_cons]
    split
    · exact ⟨congrArg (c :: ·) (tw_take p l).1, (tw_take p l).2⟩
    · exact ⟨rfl, rfl⟩
theorem cut_lead (z : Str) : cutS z none (some ((leadL (tlS z)).length : Int)) = mkS (leadL (tlS z)) ∧ cutS z (some ((leadL (tlS z)).length : Int)) none = mkS (restL (tlS z)) :=
  ⟨ext_tlS (by show (cutS z none (some ((leadL (tlS z)).length : Int))).cps.toList = _; rw [cut_to]; exact (tw_take dig (tlS z)).1), ext_tlS (by rw [cut_from]; exact (tw_take dig (tlS z)).2)⟩
theorem figs_dig : (("0123456789" : Str).cps.contains : Nat → Bool) = dig := by
  funext c
  have e : ("0123456789" : Str).cps = #[48, 49, 50, 51, 52, 53, 54, 55, 56, 57] := by decide +kernel
  rw [e]
  unfold dig
  rw [Bool.eq_iff_iff]
  simp only [Array.contains_eq_mem, Bool.and_eq_true, decide_eq_true_eq]
  simp
  omega
theorem lstrip_len (z : Str) : (Txt.lstripChars z "0123456789").length = z.length - (leadL (tlS z)).length := by
  unfold Txt.lstripChars Txt.stripBy
  rw [figs_dig]
  have e1 : stripLo dig true z = (leadL (tlS z)).length := rfl
  have hle : (leadL (tlS z)).length ≤ z.length := by
    have := congrArg List.length (lead_rest (tlS z))
    rw [List.length_append, ← tlS_len] at this
    omega
  split
  · rename_i h
    unfold stripSame at h
    rw [Bool.and_eq_true, e1] at h
    have := eq_of_beq h.1
    omega
  · unfold stripped
    rw [e1, show stripHi dig false z (leadL (tlS z)).length = z.length from rfl, tlS_len]
    show (TL.tl _).length = _
    rw [TL.tl_strSub_end, List.length_drop, ← TL.len_tl]
theorem mk_nil_iff (l : List Nat) : decide (mkS l = "") = decide (l = []) := by
  rw [Bool.eq_iff_iff, decide_eq_true_eq, decide_eq_true_eq]
  exact ⟨fun h => congrArg tlS h, fun h => by rw [h]; rfl⟩
theorem str_nil_iff (z : Str) : decide (z = "") = decide (tlS z = []) := by
  rw [← mk_nil_iff, mk_tlS]
theorem does_term_in : ∀ os P, sp_term_in os P → wb_term_in (start0 4 os) (endsOf os P) := by
  rintro os P ⟨z, rfl, hz, k⟩
  have hbig : z.length ≤ sizeLine := Nat.le_trans hz (by decide)
  have hle : (leadL (tlS z)).length ≤ z.length := by
    have := congrArg List.length (lead_rest (tlS z))
    rw [List.length_append, ← tlS_len] at this
    omega
  walk_at "tw"
  refine ⟨hbig, by rw [lstrip_len]; omega, ?_⟩
  walk_at "tw"
  rw [lstrip_len, show ((z.length : Int) - ((z.length - (leadL (tlS z)).length : Nat) : Int)) = ((leadL (tlS z)).length : Int) by omega]
  walk_at "tw"
  rw [(cut_lead z).1, (cut_lead z).2]
  by_cases hc : tlS z = [] ∨ 3 < (leadL (tlS z)).length
  · have et : tIn (tlS z) = none := by
      unfold tIn
      rw [if_pos hc]
    rw [et] at k
    refine ⟨fun h => ?_, fun h => ?_⟩
    · walk_at "tw"
      exact ⟨fun _ => ⟨trivial, k⟩, fun h => nomatch h⟩
    · have h2 : 3 < (leadL (tlS z)).length := hc.resolve_left fun e => by
        rw [str_nil_iff, decide_eq_true e] at h; cases h
      walk_at "tw"
      refine ⟨fun _ => ⟨trivial, k⟩, fun h => ?_⟩
      exact absurd (of_decide_eq_false h) (by omega)
  · have h1 : tlS z ≠ [] := fun e => hc (.inl e)
    have h2 : (leadL (tlS z)).length ≤ 3 := by
      rcases Nat.lt_or_ge 3 (leadL (tlS z)).length with g | g
      · exact absurd (.inr g) hc
      · exact g
    have et : tIn (tlS z) = some (mkS (restL (tlS z)), if leadL (tlS z) = [] then 1 else valD (leadL (tlS z))) := by
      unfold tIn
      rw [if_neg hc]
    rw [et] at k
    refine ⟨fun h => ?_, fun _ => ?_⟩
    · rw [str_nil_iff, decide_eq_false h1] at h; cases h
    walk_at "tw"
    refine ⟨fun h => absurd (of_decide_eq_true h) (by omega), fun _ => ?_⟩
    walk_at "tw"
    rw [mk_nil_iff]
    by_cases e : leadL (tlS z) = []
    · rw [if_pos e] at k
      rw [decide_eq_true e]
      refine ⟨fun h => (nomatch h), fun _ => ?_⟩
      walk_at "tw"
      exact ⟨by show 2 ≤ sizeLine; decide, trivial, k⟩
    · rw [if_neg e] at k
      rw [decide_eq_false e]
      refine ⟨fun _ => ?_, fun h => nomatch h⟩
      walk_at "tw"
      refine ⟨valD (leadL (tlS z)), intText_digits (x := mkS (leadL (tlS z))) (lead_dig _) e (by show (leadL (tlS z)).length ≤ 4300; omega), by show (leadL (tlS z)).length ≤ 640; omega, ?_⟩
      walk_at "tw"
      exact ⟨by show 2 ≤ sizeLine; decide, trivial, k⟩

theorem spl_len : ∀ (l acc : List Nat), ∀ p ∈ TL.spl [43] 0 acc l, p.length ≤ acc.length + l.length
  | [], acc, p, h => by
    rw [TL.spl_nil] at h
    rw [List.mem_singleton.mp h]
    exact Nat.le_refl _
  | c :: r, acc, p, h => by
    cases e : TL.pre [43] (c :: r)
    · rw [TL.spl_miss e] at h
      have := spl_len r _ p h
      rw [List.length_append] at this
      rw [List.length_cons]
      have h1 : [c].length = 1 := rfl
      omega
    · rw [TL.spl_hit e] at h
      rw [List.length_cons]
      rcases List.mem_cons.mp h with h | h
      · rw [h]; omega
      · have := spl_len r [] p h
        rw [List.length_nil] at this
        omega
theorem spl_num : ∀ (l acc : List Nat), (TL.spl [43] 0 acc l).length ≤ l.length + 1
  | [], acc => by rw [TL.spl_nil]; exact Nat.le_refl _
  | c :: r, acc => by
    cases e : TL.pre [43] (c :: r)
    · rw [TL.spl_miss e, List.length_cons]
      have := spl_num r (acc ++ [c])
      omega
    · rw [TL.spl_hit e, List.length_cons, List.length_cons]
      exact Nat.succ_le_succ (spl_num r [])
theorem split_sp (z : Str) : Txt.split z "+" = (sp (tlS z)).map mkS := by
  refine TL.map_tl_inj ?_
  rw [TL.split_spl z "+" (by rw [plus_tl]; simp) (TL.kind_ok (by decide +kernel)), plus_tl, List.map_map]
  exact (List.map_id'' (fun _ => rfl) _).symm
theorem optD_nt (ps : List (Option (Str × Int))) : (ps.map optD).all D.nOrT = true := by
  rw [List.all_map]
  refine List.all_eq_true.mpr fun o _ => ?_
  cases o <;> rfl
theorem optD_any (ps : List (Option (Str × Int))) : (ps.map optD).any D.isN = ps.any Option.isNone := by
  rw [List.any_map]
  congr 1
  funext o
  cases o <;> rfl
theorem all_some : ∀ {ps : List (Option (Str × Int))}, ps.any Option.isNone = false → ps = (ps.filterMap id).map some
  | [], _ => rfl
  | none :: ps, h => by cases h
  | some t :: ps, h => by
    rw [List.filterMap_cons]
    exact congrArg (some t :: ·) (all_some (ps := ps) h)
theorem does_read_form : ∀ os P, sp_read_form os P → wb_read_form (start0 8 os) (endsOf os P) := by
  rintro os P ⟨d, p, rfl, ht, hp, k⟩
  have hno : d.is .str = some false → rdD p d = .non := fun h => by
    cases d <;> first
      | (cases h; done)
      | rfl
  rcases ht with ⟨z, rfl, hz⟩ | hn
  · have k : P (.fz (((rdF p z).map fun f => formD f.1 f.2).getD .non)) [.fz (.str z), .fz (.int p)] := k
    walk_at "tw"
    refine ⟨fun h => (nomatch h), fun _ => ?_⟩
    walk_at "tw"
    have hlen : ∀ y ∈ Txt.split z "+", y.length ≤ 20000 := fun y hy => by
      rw [split_sp] at hy
      obtain ⟨l, hl, rfl⟩ := List.mem_map.mp hy
      have := spl_len (tlS z) [] l hl
      rw [List.length_nil, ← tlS_len] at this
      show l.length ≤ 20000
      omega
    refine ⟨by decide +kernel, Nat.le_trans (Nat.add_le_add_right hz 2) (by decide), fun y hy => Nat.le_trans (hlen y hy) (by decide), fun b => ?_⟩
    walk_at "tw"
    rw [split_sp] at hlen ⊢
    rw [frzL_mapfz, List.map_map]
    refine lc_all (D.str ∘ mkS) (sp (tlS z)) (fun l => .fz (optD (tIn l))) (fun l hl A B hA => ?_) ?_
    · walk_at "tw"
      refine ⟨fun _ => ?_, fun h => nomatch h⟩
      walk_at "tw"
      exact ⟨mkS l, rfl, Nat.le_trans (hlen _ (List.mem_map.mpr ⟨l, hl, rfl⟩)) (by decide), hA⟩
    intro c
    have e0 : (sp (tlS z)).map (fun l => O.fz (optD (tIn l))) = ((sp (tlS z)).map tIn).map fun o => O.fz (optD o) := by rw [List.map_map]; rfl
    have eR : rdF p z = (let ps := (sp (tlS z)).map tIn
      if ps.any Option.isNone = true then none else
        let ts := ps.filterMap id
        let n := ((ts.filter fun (t : Str × Int) => decide (t.1 = "")).map (·.2)).sum
        let us := ts.filter fun (t : Str × Int) => !decide (t.1 = "")
        if formB p (formD n us) = true ∧ formT n us = z then some (n, us) else none) := rfl
    have hpl : ((sp (tlS z)).map tIn).length ≤ 20001 := by
      rw [List.length_map]
      have := spl_num (tlS z) []
      rw [← tlS_len] at this
      exact Nat.le_trans this (by omega)
    rw [e0]
    generalize (sp (tlS z)).map tIn = ps at eR hpl
    dsimp only at eR
    walk_at "tw"
    rw [frzL_mapfz]
    refine ⟨optD_nt ps, ?_⟩
    rw [optD_any]
    cases hany : ps.any Option.isNone with
    | true =>
      rw [hany, if_pos rfl] at eR
      refine ⟨fun _ => ?_, fun h => nomatch h⟩
      walk_at "tw"
      rw [eR] at k
      exact ⟨trivial, k⟩
    | false =>
      rw [hany, if_neg (by simp)] at eR
      refine ⟨fun h => (nomatch h), fun _ => ?_⟩
      have eps := all_some hany
      have etl : (ps.filterMap id).length ≤ 20001 := Nat.le_trans (List.length_filterMap_le _ _) hpl
      generalize ps.filterMap id = ts at eps eR etl
      have eO : (ps.map fun o => O.fz (optD o)) = ts.map fun t => O.fz (termD t) := by rw [eps, List.map_map]; rfl
      rw [eO]
      walk_at "tw"
      rw [frzL_mapfz]
      refine lc_mapA termD ts (fun t => if decide (t.1 = "") = true then some (.fz (.int t.2)) else none) (fun t hm A B hA hB => ?_) ?_
      · obtain ⟨y, v⟩ := t
        walk_at "tw"
        refine ⟨rfl, ?_⟩
        walk_at "tw"
        refine ⟨fun h => ?_, fun h => ?_⟩
        · exact hA _ (if_pos h)
        · exact hB (if_neg (by rw [show decide (y = "") = false from h]; simp))
      rw [flt_map]
      intro c2
      walk_at "tw"
      rw [frzL_mapfz]
      refine ⟨_, ints_mapf _ _, ?_⟩
      walk_at "tw"
      refine lc_mapA termD ts (fun t => if (!decide (t.1 = "")) = true then some (.fz (termD t)) else none) (fun t hm A B hA hB => ?_) ?_
      · obtain ⟨y, v⟩ := t
        walk_at "tw"
        refine ⟨rfl, ?_⟩
        walk_at "tw"
        refine ⟨fun h => ?_, fun h => ?_⟩
        · walk_at "tw"
          exact ⟨by show 2 ≤ sizeLine; decide, hA _ (if_pos h)⟩
        · exact hB (if_neg (by rw [show (!decide (y = "")) = false from h]; simp))
      rw [flt_map]
      intro c3
      walk_at "tw"
      rw [frzL_mapfz]
      refine ⟨by show 2 ≤ sizeLine; decide, ?_⟩
      have hul : (ts.filter fun (t : Str × Int) => !decide (t.1 = "")).length ≤ 20001 := Nat.le_trans (List.length_filter_le _ _) etl
      generalize (ts.filter fun (t : Str × Int) => !decide (t.1 = "")) = us at eR hul ⊢
      generalize ((ts.filter fun (t : Str × Int) => decide (t.1 = "")).map (·.2)).sum = n at eR ⊢
      walk_at "tw"
      refine ⟨formD n us, p, rfl, form_pl3 n us, ?_⟩
      walk_at "tw"
      cases hb : formB p (formD n us) with
      | false =>
        rw [hb, if_neg (by simp)] at eR
        rw [eR] at k
        refine ⟨fun h => (nomatch h), fun _ => ?_⟩
        walk_at "tw"
        exact ⟨fun h => (nomatch h), fun _ => ⟨trivial, k⟩⟩
      | true =>
        rw [hb] at eR
        have hf := isB_ok hb
        refine ⟨fun _ => ?_, fun h => nomatch h⟩
        walk_at "tw"
        have g0 := hf.n0
        have g1 := hf.n1
        refine ⟨n, us, rfl, ⟨by omega, by omega⟩, by omega, fun t h => ⟨Nat.le_trans (hf.pl t h).le (by decide), by have := hf.t0 t h; omega, by have := hf.t1 t h; omega⟩, ?_⟩
        walk_at "tw"
        cases he : decide (formT n us = z) with
        | true =>
          rw [if_pos ⟨rfl, of_decide_eq_true he⟩] at eR
          rw [eR] at k
          refine ⟨fun _ => ?_, fun h => nomatch h⟩
          walk_at "tw"
          exact ⟨trivial, k⟩
        | false =>
          rw [if_neg (fun h => by rw [decide_eq_true h.2] at he; cases he)] at eR
          rw [eR] at k
          exact ⟨fun h => (nomatch h), fun _ => ⟨trivial, k⟩⟩
  · rw [hno hn] at k
    cases d <;> first
      | (cases hn; done)
      | (walk_at "tw"
         refine ⟨fun _ => ?_, fun h => nomatch h⟩
         walk_at "tw"
         exact ⟨trivial, k⟩)
theorem em_l (a b p : Int) : a % p * b % p = a * b % p := by rw [Int.mul_emod, Int.emod_emod, ← Int.mul_emod]
theorem em_r (a b p : Int) : a * (b % p) % p = a * b % p := by rw [Int.mul_emod, Int.emod_emod, ← Int.mul_emod]
def dot (w : Str → Int) (cs : List (Str × Int)) : Int := (cs.map fun c => c.2 * w c.1).sum
def wrt (w : Str → Int) (f : Frm2) : Int := f.1 + dot w f.2
def wk (ws : List (Str × Int)) (z : Str) : Int := (look ws z).getD 0
theorem dot_nil (w : Str → Int) : dot w [] = 0 := rfl
theorem dot_cons (w : Str → Int) (c : Str × Int) (cs : List (Str × Int)) : dot w (c :: cs) = c.2 * w c.1 + dot w cs := by
  unfold dot
  rw [List.map_cons, List.sum_cons]
theorem dot_app (w : Str → Int) (cs ds : List (Str × Int)) : dot w (cs ++ ds) = dot w cs + dot w ds := by
  unfold dot
  rw [List.map_append, List.sum_append]
theorem dot_tms (w : Str → Int) (v : Int) : ∀ ts : List (Str × Int), dot w (tms v ts) = dot w ts * v
  | [] => by rw [show tms v [] = [] from rfl, dot_nil, Int.zero_mul]
  | t :: ts => by
    rw [show tms v (t :: ts) = (t.1, t.2 * v) :: tms v ts from rfl, dot_cons, dot_cons, dot_tms w v ts, Int.add_mul, Int.mul_right_comm]
theorem sm_tms (v : Int) (z : Str) : ∀ ts : List (Str × Int), sm (tms v ts) z = sm ts z * v
  | [] => by rw [show tms v [] = [] from rfl, sm_nil, Int.zero_mul]
  | t :: ts => by
    rw [show tms v (t :: ts) = (t.1, t.2 * v) :: tms v ts from rfl, sm_cons, sm_cons, sm_tms v z ts, Int.add_mul]
    split
    · rfl
    · rw [Int.zero_mul]
theorem sum_pick (x : Str) (v : Int) (w : Str → Int) : ∀ Z : List Str, Z.Nodup → x ∈ Z → (Z.map fun z => (if x = z then v else 0) * w z).sum = v * w x
  | y :: Z, nd, h => by
    obtain ⟨n1, n2⟩ := List.nodup_cons.mp nd
    rw [List.map_cons, List.sum_cons]
    by_cases e : x = y
    · subst e
      rw [if_pos rfl]
      have : (Z.map fun z => (if x = z then v else 0) * w z).sum = 0 := by
        have : ∀ l : List Str, x ∉ l → (l.map fun z => (if x = z then v else 0) * w z).sum = 0 := by
          intro l
          induction l with
          | nil => intro _; rfl
          | cons a l ih =>
            intro h
            rw [List.mem_cons, not_or] at h
            rw [List.map_cons, List.sum_cons, if_neg h.1, Int.zero_mul, ih h.2]; rfl
        exact this Z n1
      rw [this, Int.add_zero]
    · rw [if_neg e, Int.zero_mul, Int.zero_add]
      exact sum_pick x v w Z n2 ((List.mem_cons.mp h).resolve_left e)
theorem sum_zero (w : Str → Int) (Z : List Str) : (Z.map fun z => sm [] z * w z).sum = 0 := by
  induction Z with
  | nil => rfl
  | cons a l ih => rw [List.map_cons, List.sum_cons, ih, sm_nil, Int.zero_mul]; rfl
theorem sum_add (f g : Str → Int) (Z : List Str) : (Z.map fun z => f z + g z).sum = (Z.map f).sum + (Z.map g).sum := by
  induction Z with
  | nil => rfl
  | cons a l ih => rw [List.map_cons, List.map_cons, List.map_cons, List.sum_cons, List.sum_cons, List.sum_cons, ih]; omega
theorem dot_sum (w : Str → Int) {Z : List Str} (nd : Z.Nodup) : ∀ cs : List (Str × Int), (∀ c ∈ cs, c.1 ∈ Z) → dot w cs = (Z.map fun z => sm cs z * w z).sum
  | [], _ => by rw [sum_zero]; rfl
  | c :: cs, h => by
    have e : (Z.map fun z => sm (c :: cs) z * w z).sum = (Z.map fun z => (if c.1 = z then c.2 else 0) * w z + sm cs z * w z).sum := by
      congr 1
      refine List.map_congr_left fun z _ => ?_
      rw [sm_cons, Int.add_mul]
    rw [e, sum_add, sum_pick _ _ _ _ nd (h c List.mem_cons_self), dot_cons, dot_sum w nd cs fun d hd => h d (List.mem_cons_of_mem _ hd)]
theorem ex_nd : ∀ l : List Str, ∃ Z : List Str, Z.Nodup ∧ ∀ z ∈ l, z ∈ Z
  | [] => ⟨[], List.nodup_nil, fun _ h => (by cases h)⟩
  | x :: l => by
    obtain ⟨Z, nd, h⟩ := ex_nd l
    by_cases e : x ∈ Z
    · exact ⟨Z, nd, fun z hz => (List.mem_cons.mp hz).elim (fun q => by rw [q]; exact e) (h z)⟩
    · exact ⟨x :: Z, List.nodup_cons.mpr ⟨e, nd⟩, fun z hz => (List.mem_cons.mp hz).elim (fun q => by rw [q]; exact List.mem_cons_self) fun q => List.mem_cons_of_mem _ (h z q)⟩
theorem sum_mod (p : Int) (f g : Str → Int) (Z : List Str) (h : ∀ z ∈ Z, f z % p = g z % p) : (Z.map f).sum % p = (Z.map g).sum % p := by
  induction Z with
  | nil => rfl
  | cons a l ih =>
    rw [List.map_cons, List.map_cons, List.sum_cons, List.sum_cons, Int.add_emod, h a List.mem_cons_self, ih fun z hz => h z (List.mem_cons_of_mem _ hz), ← Int.add_emod]
theorem nf_dot {p : Int} (hp : 0 < p) {cs ts : List (Str × Int)} (h : IsNf p cs ts) (w : Str → Int) : dot w ts % p = dot w cs % p := by
  obtain ⟨Z, nd, hZ⟩ := ex_nd ((cs ++ ts).map (·.1))
  rw [dot_sum w nd cs fun c hc => hZ _ (List.mem_map.mpr ⟨c, List.mem_append.mpr (.inl hc), rfl⟩), dot_sum w nd ts fun c hc => hZ _ (List.mem_map.mpr ⟨c, List.mem_append.mpr (.inr hc), rfl⟩)]
  refine sum_mod p _ _ Z fun z _ => ?_
  rw [nf_tot hp h, tot_sm, em_l]
theorem wrt_mod {p : Int} (hp : 0 < p) {n : Int} {cs ts : List (Str × Int)} (h : IsNf p cs ts) (w : Str → Int) : wrt w (n % p, ts) % p = wrt w (n, cs) % p := by
  unfold wrt
  dsimp only
  rw [Int.add_emod, Int.emod_emod, nf_dot hp h, ← Int.add_emod]
theorem wrt_put (w : Str → Int) (n : Int) (fs : List (Str × Frm2)) : ∀ ts : List (Str × Int), wrt w (putN n ts fs, putT ts fs) = n + (ts.map fun t => t.2 * wrt w (subF fs t.1)).sum
  | [] => by
    unfold wrt putN putT dot
    simp
  | t :: ts => by
    have ih := wrt_put w n fs ts
    unfold wrt putN at ih ⊢
    dsimp only at ih ⊢
    rw [show putT (t :: ts) fs = tms t.2 (subF fs t.1).2 ++ putT ts fs from List.flatMap_cons .., dot_app, dot_tms, List.map_cons, List.sum_cons, List.map_cons, List.sum_cons, Int.mul_add, Int.mul_comm (dot w (subF fs t.1).2)]
    omega
theorem look_key {α : Type} : ∀ {fs : List (Str × α)} {z : Str}, z ∈ fs.map (·.1) → ∃ x, look fs z = some x
  | f :: fs, z, h => by
    unfold look
    rw [List.find?_cons]
    by_cases e : f.1 = z
    · exact ⟨f.2, by rw [decide_eq_true e]; rfl⟩
    · rw [decide_eq_false e]
      rw [List.map_cons, List.mem_cons] at h
      exact look_key (h.resolve_left fun q => e q.symm)
theorem look_map {α β : Type} (g : α → β) : ∀ (fs : List (Str × α)) (z : Str), look (fs.map fun f => (f.1, g f.2)) z = (look fs z).map g
  | [], _ => rfl
  | f :: fs, z => by
    unfold look
    rw [List.map_cons, List.find?_cons, List.find?_cons]
    by_cases e : f.1 = z
    · rw [decide_eq_true e]; rfl
    · rw [decide_eq_false e]
      exact look_map g fs z
theorem isum_mod (p : Int) (f g : Str × Int → Int) (Z : List (Str × Int)) (h : ∀ z ∈ Z, f z % p = g z % p) : (Z.map f).sum % p = (Z.map g).sum % p := by
  induction Z with
  | nil => rfl
  | cons a l ih =>
    rw [List.map_cons, List.map_cons, List.sum_cons, List.sum_cons, Int.add_emod, h a List.mem_cons_self, ih fun z hz => h z (List.mem_cons_of_mem _ hz), ← Int.add_emod]
def pastF (q : Int) (w : Str → Int) (fs : List (Str × Frm2)) : List (Str × Int) := fs.map fun f => (f.1, wrt w f.2 % q)
theorem put_worth {q : Int} (hq : 0 < q) (w : Str → Int) (n : Int) {ts us : List (Str × Int)} {fs : List (Str × Frm2)} (h : ∀ t ∈ ts, t.1 ∈ fs.map (·.1)) (hu : IsNf q (putT ts fs) us) :
    wrt w (putN n ts fs % q, us) % q = wrt (wk (pastF q w fs)) (n, ts) % q := by
  rw [wrt_mod hq hu, wrt_put]
  rw [show wrt (wk (pastF q w fs)) (n, ts) = n + (ts.map fun c => c.2 * wk (pastF q w fs) c.1).sum from rfl]
  rw [Int.add_emod, isum_mod q _ (fun c => c.2 * wk (pastF q w fs) c.1) ts ?_, ← Int.add_emod]
  intro t ht
  obtain ⟨f, hf⟩ := look_key (h t ht)
  unfold wk pastF subF
  rw [look_map (fun f => wrt w f % q), hf]
  show t.2 * wrt w f % q = t.2 * (wrt w f % q) % q
  rw [em_r]
theorem rows_mem {q : Nat} : ∀ {m : Nat} {r : List Int}, r ∈ rowsF q m ↔ r.length = m ∧ ∀ x ∈ r, 0 ≤ x ∧ x < q
  | 0, r => by
    show r ∈ [[]] ↔ _
    rw [List.mem_singleton]
    constructor
    · rintro rfl; exact ⟨rfl, fun _ h => (by cases h)⟩
    · rintro ⟨h, _⟩; exact List.length_eq_zero_iff.mp h
  | k + 1, r => by
    show r ∈ ((List.range q).flatMap fun (num : Nat) => (rowsF q k).map fun r => r ++ [(num : Int)]) ↔ _
    rw [List.mem_flatMap]
    constructor
    · rintro ⟨num, hn, h⟩
      obtain ⟨s, hs, rfl⟩ := List.mem_map.mp h
      obtain ⟨h1, h2⟩ := rows_mem.mp hs
      have := List.mem_range.mp hn
      refine ⟨by rw [List.length_append, h1]; rfl, fun x hx => ?_⟩
      rcases List.mem_append.mp hx with c | c
      · exact h2 x c
      · rw [List.mem_singleton.mp c]; omega
    · rintro ⟨h1, h2⟩
      have hne : r ≠ [] := fun e => by rw [e] at h1; cases h1
      have hl := h2 _ (List.getLast_mem hne)
      refine ⟨(r.getLast hne).toNat, List.mem_range.mpr (by omega), List.mem_map.mpr ⟨r.dropLast, rows_mem.mpr ⟨by rw [List.length_dropLast, h1]; rfl, fun x hx => h2 x (List.dropLast_subset _ hx)⟩, ?_⟩⟩
      rw [Int.toNat_of_nonneg hl.1]
      exact List.dropLast_concat_getLast hne
theorem rows_len (q : Nat) : ∀ m, (rowsF q m).length = q ^ m
  | 0 => rfl
  | k + 1 => by
    have : ∀ l : List Nat, (l.flatMap fun (num : Nat) => (rowsF q k).map fun r => r ++ [(num : Int)]).length = l.length * q ^ k := by
      intro l
      induction l with
      | nil => simp
      | cons a l ih => rw [List.flatMap_cons, List.length_append, ih, List.length_map, rows_len q k, List.length_cons, Nat.succ_mul, Nat.add_comm]
    show ((List.range q).flatMap fun (num : Nat) => (rowsF q k).map fun r => r ++ [(num : Int)]).length = _
    rw [this, List.length_range, Nat.pow_succ, Nat.mul_comm]
theorem dot_unit (z : Str) : ∀ cs : List (Str × Int), dot (fun y => if y = z then 1 else 0) cs = sm cs z
  | [] => rfl
  | c :: cs => by
    rw [dot_cons, sm_cons, dot_unit z cs]
    split
    · rw [Int.mul_one]
    · rw [Int.mul_zero]
theorem wk_zip (f : Str → Int) : ∀ (zs : List Str) (y : Str), wk (zs.zip (zs.map f)) y = if y ∈ zs then f y else 0
  | [], y => by rw [if_neg (by simp)]; rfl
  | z :: zs, y => by
    unfold wk look
    rw [List.map_cons, List.zip_cons_cons, List.find?_cons]
    by_cases e : z = y
    · subst e
      rw [decide_eq_true rfl, if_pos List.mem_cons_self]; rfl
    · rw [decide_eq_false e]
      have := wk_zip f zs y
      unfold wk look at this
      rw [this]
      by_cases h : y ∈ zs
      · rw [if_pos h, if_pos (List.mem_cons_of_mem _ h)]
      · rw [if_neg h, if_neg fun q => (List.mem_cons.mp q).elim (fun q => e q.symm) h]
theorem emod_cancel {q n a b : Int} (h : (n + a) % q = (n + b) % q) : a % q = b % q := by
  have e := Int.emod_emod_of_dvd
  have h2 : (-n + (n + a)) % q = (-n + (n + b)) % q := by rw [Int.add_emod, h, ← Int.add_emod]
  rwa [Int.neg_add_cancel_left, Int.neg_add_cancel_left] at h2
theorem rows_same {q : Nat} (hq : 2 ≤ q) {a b : Frm2} (ha : FormOk q a.1 a.2) (hb : FormOk q b.1 b.2) {zs : List Str} (pa : ∀ t ∈ a.2, t.1 ∈ zs) (pb : ∀ t ∈ b.2, t.1 ∈ zs)
    (h : ∀ r ∈ rowsF q zs.length, wrt (wk (zs.zip r)) a % (q : Int) = wrt (wk (zs.zip r)) b % (q : Int)) : a = b := by
  obtain ⟨n, ts⟩ := a
  obtain ⟨n2, us⟩ := b
  have hz : n = n2 := by
    have := h (zs.map fun _ => 0) (rows_mem.mpr ⟨List.length_map .., fun x hx => by obtain ⟨_, _, rfl⟩ := List.mem_map.mp hx; omega⟩)
    have e : wk (zs.zip (zs.map fun _ => (0 : Int))) = fun _ => 0 := by
      funext y
      rw [wk_zip (fun _ => 0)]
      split <;> rfl
    rw [e] at this
    have d0 : ∀ cs : List (Str × Int), dot (fun _ => 0) cs = 0 := by
      intro cs
      induction cs with
      | nil => rfl
      | cons c cs ih => rw [dot_cons, ih, Int.mul_zero]; rfl
    unfold wrt at this
    rw [d0, d0] at this
    have a0 := ha.n0
    have a1 := ha.n1
    have b0 := hb.n0
    have b1 := hb.n1
    dsimp only at this a0 a1 b0 b1
    rwa [Int.add_zero, Int.add_zero, Int.emod_eq_of_lt a0 a1, Int.emod_eq_of_lt b0 b1] at this
  subst hz
  have ht : ∀ z, tot q ts z = tot q us z := fun z => by
    by_cases hz : z ∈ zs
    · have := h (zs.map fun y => if y = z then 1 else 0) (rows_mem.mpr ⟨List.length_map .., fun x hx => by obtain ⟨y, _, rfl⟩ := List.mem_map.mp hx; split <;> omega⟩)
      have e : wk (zs.zip (zs.map fun y => if y = z then (1 : Int) else 0)) = fun y => if y = z then 1 else 0 := by
        funext y
        rw [wk_zip (fun y => if y = z then (1 : Int) else 0)]
        by_cases c : y = z
        · rw [if_pos (by rw [c]; exact hz)]
        · rw [if_neg c]; split <;> rfl
      rw [e] at this
      unfold wrt at this
      rw [dot_unit, dot_unit] at this
      rw [tot_sm, tot_sm]
      exact emod_cancel this
    · rw [tot_sm, tot_sm, sm_none fun c hc e => hz (by rw [← e]; exact pa c hc), sm_none fun c hc e => hz (by rw [← e]; exact pb c hc)]
  have : ts = us := ((nf_self ha).congr ht).uniq (nf_self hb)
  rw [this]
theorem back_same {q v r n : Int} {ts us ws : List (Str × Int)} (hq : 2 ≤ q) (hf : FormOk q n ts) (hv : v % q * r % q = 1) (h : IsNf q (tms v ts) us) (g : IsNf q (tms r us) ws) : ws = ts ∧ n * v % q * r % q = n := by
  have hq0 : 0 < q := by omega
  have key : ∀ x : Int, x * v % q * r % q = x % q := fun x => by
    rw [em_l] at hv
    rw [em_l, Int.mul_assoc, ← em_r, hv, Int.mul_one]
  refine ⟨?_, by rw [key, Int.emod_eq_of_lt hf.n0 hf.n1]⟩
  refine (g.congr fun z => ?_).uniq (nf_self hf)
  rw [tot_sm, tot_sm, sm_tms, nf_tot hq0 h, tot_sm, sm_tms, key]
theorem does_places_in : ∀ os P, sp_places_in os P → wb_places_in (start0 3 os) (endsOf os P) := by
  rintro os P ⟨⟨a, ta⟩, rfl, hl, k⟩
  dsimp only at hl k
  walk_at "tw"
  refine ⟨_, rfl, ?_⟩
  walk_at "tw"
  refine lc_all termD ta (fun t => .fz (.str t.1)) (fun t ht A B hA => ?_) ?_
  · obtain ⟨z, v⟩ := t
    walk_at "tw"
    refine ⟨rfl, ?_⟩
    walk_at "tw"
    exact ⟨fun _ => hA, fun h => nomatch h⟩
  intro c
  walk_at "tw"
  rw [frzL_mapfz]
  exact ⟨trivial, k⟩
theorem frz_fz : ∀ l : List D, O.frzL (l.map .fz) = l
  | [] => rfl
  | d :: l => by
    show d :: O.frzL (l.map .fz) = _
    rw [frz_fz l]
theorem rows_snoc (q i j : Nat) : ((List.range (j + 1)).flatMap fun (num : Nat) => (rowsF q i).map fun r => r ++ [(num : Int)]) = ((List.range j).flatMap fun (num : Nat) => (rowsF q i).map fun r => r ++ [(num : Int)]) ++ (rowsF q i).map fun r => r ++ [(j : Int)] := by
  rw [List.range_succ, List.flatMap_append, List.flatMap_cons, List.flatMap_nil, List.append_nil]
theorem rows_part (q i j : Nat) : ((List.range j).flatMap fun (num : Nat) => (rowsF q i).map fun r => r ++ [(num : Int)]).length = j * q ^ i := by
  induction j with
  | zero => rw [Nat.zero_mul]; rfl
  | succ j ih => rw [rows_snoc, List.length_append, ih, List.length_map, rows_len, Nat.succ_mul]
theorem does__law_rows : ∀ os P, sp__law_rows os P → wb__law_rows (start0 7 os) (endsOf os P) := by
  rintro os P ⟨m, q, rfl, hm, hq, hq5, k⟩
  walk_at "tw"
  refine ⟨by show 0 ≤ sizeLine; decide, ?_⟩
  walk_at "tw"
  refine ⟨by show 1 ≤ sizeLine; decide, fun a => ?_⟩
  walk_at "tw"
  refine ⟨⟨by omega, by omega⟩, ?_⟩
  walk_at "tw"
  rw [Int.toNat_natCast]
  refine for_rng m (fun i ρ => ∃ o x3 x4 x5, IsL o ((rowsF q i).map rowD) ∧ ρ = [some (.fz (.int m)), some (.fz (.int q)), some o, x3, x4, x5, none]) ⟨_, none, none, none, .inr ⟨a, rfl⟩, rfl⟩ (fun i ρ hi hI N hN => ?_) (fun ρ hI => ?_)
  · obtain ⟨o, x3, x4, x5, ho, rfl⟩ := hI
    have hlen := rows_len q i
    have hqi : q ^ i ≤ 25 := by
      have h2 : q ^ i ≤ 5 ^ 2 := Nat.le_trans (Nat.pow_le_pow_left hq5 i) (Nat.pow_le_pow_right (by decide) (by omega))
      exact h2
    walk_at "tw"
    refine ⟨by show 0 ≤ sizeLine; decide, fun b => ?_⟩
    walk_at "tw"
    refine ⟨⟨by omega, by omega⟩, ?_⟩
    walk_at "tw"
    rw [Int.toNat_natCast]
    refine for_rng q (fun j ρ => ∃ o o2 y5, IsL o ((rowsF q i).map rowD) ∧ IsL o2 (((List.range j).flatMap fun (num : Nat) => (rowsF q i).map fun r => r ++ [(num : Int)]).map rowD) ∧ ρ = [some (.fz (.int m)), some (.fz (.int q)), some o, some (.fz (.int i)), some o2, y5, none]) ⟨_, _, x5, ho, .inr ⟨b, rfl⟩, rfl⟩ (fun j ρ hj hI N2 hN2 => ?_) (fun ρ hI => ?_)
    · obtain ⟨o, o2, y5, ho, ho2, rfl⟩ := hI
      rcases ho2 with rfl | ⟨b2, rfl⟩ <;> rcases ho with rfl | ⟨a2, rfl⟩ <;>
      ( walk_at "tw"
        (try rw [frz_fz])
        (try rw [frz_fz])
        refine lc_all rowD (rowsF q i) (fun r => .fz (rowD (r ++ [(j : Int)]))) (fun r hr A B hA => ?_) ?_
        · walk_at "tw"
          refine ⟨fun _ => ?_, fun h => nomatch h⟩
          walk_at "tw"
          refine ⟨by show 1 ≤ sizeLine; decide, ?_⟩
          walk_at "tw"
          have hrl : r.length = i := (rows_mem.mp hr).1
          refine ⟨?_, ?_⟩
          · show (r.map D.int).length + 1 ≤ sizeLine
            rw [List.length_map]
            exact Nat.le_trans (show r.length + 1 ≤ 10 by omega) (by decide)
          have e : D.tup (r.map D.int ++ [.int j]) = rowD (r ++ [(j : Int)]) := by unfold rowD; rw [List.map_append]; rfl
          walk_at "tw"
          rw [e]
          exact hA
        intro c
        walk_at "tw"
        rw [frzL_mapfz]
        have hlp := rows_part q i j
        have hjq : j * q ^ i ≤ 5 * 25 := Nat.mul_le_mul (by omega) hqi
        refine ⟨?_, fun c2 => ?_⟩
        · rw [List.length_map, List.length_map, hlp, hlen]
          exact Nat.le_trans (show _ ≤ 200 by omega) (by decide)
        walk_at "tw"
        refine hN2 _ ⟨_, _, _, .inl rfl, .inr ⟨c2, ?_⟩, rfl⟩
        rw [rows_snoc]
        simp only [List.map_append, List.map_map]
        rfl )
    · obtain ⟨o, o2, y5, ho, ho2, rfl⟩ := hI
      rcases ho2 with rfl | ⟨b2, rfl⟩
      · walk_at "tw"
        exact hN _ ⟨_, _, _, _, .inl rfl, rfl⟩
      · walk_at "tw"
        rw [frz_fz]
        exact hN _ ⟨_, _, _, _, .inl rfl, rfl⟩
  · obtain ⟨o, x3, x4, x5, ho, rfl⟩ := hI
    walk_at "tw"
    exact ⟨trivial, k o ho⟩
theorem worth_at {a : Frm2} {ws : List (Str × Int)} {p : Int} {os : List O} {P : O → List O → Prop} (e : os = [.fz (frm2 a), .fz (.dct (dctF .int ws)), .fz (.int p)]) (hp : 0 < p) (hl : a.2.length ≤ 1000) (ht : ∀ t ∈ a.2, small t.2) (hw : ∀ z w, look ws z = some w → small w)
    (k : P (.fz (.int (wrt (wk ws) a % p))) os) : sp_worth_of os P := ⟨a, ws, p, e, hp, hl, ht, hw, k⟩
theorem worth_small {q : Int} (h0 : 0 < q) (h1 : q ≤ 1000) (x : Int) : small (x % q) := by
  have := Int.emod_nonneg x (by omega : q ≠ 0)
  have := Int.emod_lt_of_pos x h0
  exact ⟨by omega, by omega⟩
theorem does__law_held : ∀ os P, sp__law_held os P → wb__law_held (start0 10 os) (endsOf os P) := by
  rintro os P ⟨⟨n, ts⟩, ⟨n2, ts2⟩, v, fs, ws, q, rfl, hq2, hq3, hf, hf2, hl, hl2, hv, nd, hfl, hfs, hws, hin, k⟩
  dsimp only at hf hf2 hl hl2 hin
  have hq0 : 0 < q := by omega
  have hlw : ∀ z w, look ws z = some w → small w := fun z w e => hws _ (look_in e)
  have hlf : ∀ z f, look fs z = some f → FormOk q f.1 f.2 ∧ f.2.length ≤ 7 := fun z f e => hfs _ (look_in e)
  obtain ⟨sn, sts⟩ := hf.small hq3
  obtain ⟨sn2, sts2⟩ := hf2.small hq3
  walk_at "tw"
  refine worth_at (a := (n, ts)) rfl hq0 (by dsimp only; omega) sts hlw ?_
  walk_at "tw"
  refine worth_at (a := (n2, ts2)) rfl hq0 (by dsimp only; omega) sts2 hlw ?_
  walk_at "tw"
  refine ⟨(n, ts), (n2, ts2), q, rfl, hq0, by dsimp only; omega, fun us hus hul => ?_⟩
  dsimp only at hus hul ⊢
  have hfu := nf_form (x := n + n2) hq0 hus (fun c hc => (List.mem_append.mp hc).elim (hf.pl c) (hf2.pl c))
  walk_at "tw"
  refine worth_at (a := ((n + n2) % q, us)) rfl hq0 (by dsimp only; omega) (hfu.small hq3).2 hlw ?_
  walk_at "tw"
  refine ⟨hq0, ?_⟩
  walk_at "tw"
  have w_hs : wrt (wk ws) ((n + n2) % q, us) % q = (wrt (wk ws) (n, ts) % q + wrt (wk ws) (n2, ts2) % q) % q := by
    rw [wrt_mod hq0 hus, ← Int.add_emod]
    congr 1
    show n + n2 + dot _ (ts ++ ts2) = n + dot _ ts + (n2 + dot _ ts2)
    rw [dot_app]; omega
  rw [w_hs]
  refine ne_self ?_
  walk_at "tw"
  refine ⟨(n, ts), v, q, rfl, hq0, by dsimp only; omega, hv, sn, sts, fun us1 hus1 hul1 => ?_⟩
  dsimp only at hus1 hul1 ⊢
  have hfu1 := nf_form (x := n * v) hq0 hus1 (tms_pl hf.pl)
  walk_at "tw"
  refine worth_at (a := (n * v % q, us1)) rfl hq0 (by dsimp only; omega) (hfu1.small hq3).2 hlw ?_
  walk_at "tw"
  refine ⟨small_mul (worth_small hq0 hq3 _) hv, ?_⟩
  walk_at "tw"
  refine ⟨hq0, ?_⟩
  walk_at "tw"
  have w_ht : wrt (wk ws) (n * v % q, us1) % q = wrt (wk ws) (n, ts) % q * v % q := by
    rw [wrt_mod hq0 hus1, em_l]
    congr 1
    show n * v + dot _ (tms v ts) = (n + dot _ ts) * v
    rw [dot_tms, Int.add_mul]
  rw [w_ht]
  refine ne_self ?_
  walk_at "tw"
  rw [show (dctF frm2 fs).map (fun q : Key × D => kD q.1) = fs.map fun f => D.str f.1 by unfold dctF; rw [List.map_map]; rfl]
  refine lc_all (fun f : Str × Frm2 => D.str f.1) fs (fun f => .fz (.tup [.str f.1, .int (wrt (wk ws) f.2 % q)])) (fun f hf' A B hA => ?_) ?_
  · obtain ⟨z, nz, tz⟩ := f
    obtain ⟨hfz, hlz⟩ := hfs _ hf'
    walk_at "tw"
    refine ⟨fun _ => ?_, fun h => nomatch h⟩
    walk_at "tw"
    refine ⟨.inr z, rfl, ?_⟩
    rw [getG_dctF, look_mem nd hf']
    refine ⟨_, rfl, ?_⟩
    walk_at "tw"
    refine worth_at (a := (nz, tz)) rfl hq0 (by dsimp only; dsimp only at hlz; omega) (hfz.small hq3).2 hlw ?_
    walk_at "tw"
    exact ⟨by show 2 ≤ sizeLine; decide, hA⟩
  intro c
  walk_at "tw"
  rw [frzL_mapfz]
  have ndp : ((pastF q (wk ws) fs).map (·.1)).Nodup := by
    unfold pastF
    rw [List.map_map]
    exact nd
  refine ⟨dctF .int (pastF q (wk ws) fs), by unfold pairsD dctF pastF; rw [List.map_map, List.map_map]; rfl, fun b5 => ?_⟩
  rw [mergeG_dctF D.int ndp]
  walk_at "tw"
  refine ⟨(n, ts), fs, q, rfl, hq0, hq3, hf.n0, hf.n1, by dsimp only; omega, sts, fun z f e => ⟨((hlf z f e).1.small hq3).1, (hlf z f e).2, ((hlf z f e).1.small hq3).2⟩, fun us3 hus3 hul3 => ?_⟩
  dsimp only at hus3 ⊢
  have hfu3 := nf_form (x := putN n ts fs) hq0 hus3 (putT_pl hf.pl fun z f e => (hlf z f e).1.pl)
  walk_at "tw"
  refine worth_at (a := (putN n ts fs % q, us3)) rfl hq0 (by dsimp only; omega) (hfu3.small hq3).2 hlw ?_
  walk_at "tw"
  refine worth_at (a := (n, ts)) (ws := pastF q (wk ws) fs) rfl hq0 (by dsimp only; omega) sts (fun z w e => ?_) ?_
  · obtain ⟨f, _, e2⟩ := List.mem_map.mp (look_in e)
    injection e2 with _ e3
    rw [← e3]
    exact worth_small hq0 hq3 _
  rw [put_worth hq0 (wk ws) n hin hus3]
  walk_at "tw"
  rw [decide_eq_true rfl]
  exact ⟨trivial, k⟩
theorem nf_places {p : Int} {cs us : List (Str × Int)} (h : IsNf p cs us) : ∀ t ∈ us, ∃ c ∈ cs, c.1 = t.1 := fun t ht => by
  obtain ⟨e, h0⟩ := (h.mem t.1 t.2).mp ht
  refine Classical.byContradiction fun hn => ?_
  rw [tot_none p cs t.1 fun c hc ec => hn ⟨c, hc, ec⟩] at e
  omega
theorem put_zero (n : Int) {zs : List Str} : ∀ {ts : List (Str × Int)}, (∀ t ∈ ts, t.1 ∈ zs) → putN n ts (zs.map fun z => (z, ((0, []) : Frm2))) = n ∧ putT ts (zs.map fun z => (z, ((0, []) : Frm2))) = [] := by
  intro ts h
  have hs : ∀ t ∈ ts, subF (zs.map fun z => (z, ((0, []) : Frm2))) t.1 = (0, []) := fun t ht => by
    obtain ⟨f, hf⟩ := look_key (fs := zs.map fun z => (z, ((0, []) : Frm2))) (z := t.1) (by rw [List.map_map]; exact List.mem_map.mpr ⟨t.1, h t ht, rfl⟩)
    obtain ⟨y, _, e⟩ := List.mem_map.mp (look_in hf)
    injection e with _ e
    unfold subF
    rw [hf, ← e]; rfl
  constructor
  · unfold putN
    have : ∀ l : List (Str × Int), (∀ t ∈ l, subF (zs.map fun z => (z, ((0, []) : Frm2))) t.1 = (0, [])) → (l.map fun t => t.2 * (subF (zs.map fun z => (z, ((0, []) : Frm2))) t.1).1).sum = 0 := by
      intro l
      induction l with
      | nil => intro _; rfl
      | cons t l ih =>
        intro h
        rw [List.map_cons, List.sum_cons, h t List.mem_cons_self, ih fun u hu => h u (List.mem_cons_of_mem _ hu)]
        show t.2 * 0 + 0 = 0
        omega
    rw [this ts hs, Int.add_zero]
  · unfold putT
    rw [List.flatMap_eq_nil_iff]
    intro t ht
    rw [hs t ht]; rfl
theorem formT_len {q n : Int} {ts : List (Str × Int)} (h : FormOk q n ts) (hq : q ≤ 1000) (hl : ts.length ≤ 3) : (formT n ts).length ≤ 20000 := by
  obtain ⟨h1, h2⟩ := h.small hq
  obtain ⟨g1, g2⟩ := pieces_len (n := n) (ts := ts) h1 fun t ht => ⟨by have := (h.pl t ht).le; omega, h2 t ht⟩
  have h3 := sum_le _ 121 g1
  have h4 := PySem.StrLaws.join_length_le "+" (piecesT n ts)
  have e1 : ("+" : Str).length = 1 := by decide +kernel
  have h5 : (piecesT n ts).length * 121 ≤ 4 * 121 := Nat.mul_le_mul_right _ (by omega)
  unfold formT
  rw [TL.join_eq]
  rw [e1] at h4
  omega
theorem formT_eq {q n n2 : Int} {ts ts2 : List (Str × Int)} (hq : q ≤ 1000) (h : FormOk q n ts) (g : FormOk q n2 ts2) : decide (formT n ts = formT n2 ts2) = decide (((n, ts) : Frm2) = (n2, ts2)) := by
  rw [Bool.eq_iff_iff, decide_eq_true_eq, decide_eq_true_eq]
  constructor
  · intro e
    have := rdF_form hq h
    rw [e, rdF_form hq g] at this
    exact (Option.some.inj this).symm
  · intro e
    injection e with e1 e2
    rw [e1, e2]
theorem frzC_isL {o : O} {ds : List D} {P : D → Prop} (h : IsL o ds) (k : P (.lst ds)) : frzC o P := by
  rcases h with rfl | ⟨a, rfl⟩
  · exact k
  · show P (.lst (O.frzL (ds.map .fz)))
    rw [frz_fz]; exact k
theorem zip_dct : ∀ (zs : List Str) (r : List Int), (zs.map (Sum.inr : Str → Key)).zip (r.map D.int) = dctF D.int (zs.zip r)
  | [], _ => rfl
  | _ :: _, [] => rfl
  | z :: zs, x :: r => by
    rw [List.map_cons, List.map_cons, List.zip_cons_cons, zip_dct zs r]
    rfl
theorem does_law : ∀ os P, sp_law os P → wb_law (start0 15 os) (endsOf os P) := by
  rintro os P ⟨ns, hle, rfl, k⟩
  walk_at "tw"
  refine ⟨ns, rfl, hle, fun a xs hd => ?_⟩
  walk_at "tw"
  refine ⟨⟨by decide, by decide⟩, ?_⟩
  refine for_rng 3 (fun i ρ => ∃ ys x2 x3 x4 x5 x6 x7 x8 x9 x10 x11 x12 x13, DS ys ∧ ρ = [some (.fz (.frl (ns.map .int))), some (.lst a ys), x2, x3, x4, x5, x6, x7, x8, x9, x10, x11, x12, x13, none]) ⟨xs, none, none, none, none, none, none, none, none, none, none, none, none, hd, rfl⟩ (fun i ρ hi hI N hN => ?_) (fun ρ hI => ?_)
  rotate_left
  · obtain ⟨ys, x2, x3, x4, x5, x6, x7, x8, x9, x10, x11, x12, x13, hy, rfl⟩ := hI
    walk_at "tw"
    exact ⟨trivial, k⟩
  obtain ⟨ys, x2, x3, x4, x5, x6, x7, x8, x9, x10, x11, x12, x13, hy, rfl⟩ := hI
  walk_at "tw"
  refine ⟨by show 3 ≤ sizeLine; decide, fun b0 => ?_⟩
  walk_at "tw"
  refine draw_i hy (by decide) (by decide) fun n1 ys h0 h1 hy => ⟨_, _, rfl, ?_⟩
  walk_at "tw"
  refine ⟨_, atI_map D.int (xs := [2, 3, 5]) h0 h1, ?_⟩
  have hq := List.getElem_mem (l := ([2, 3, 5] : List Int)) (n := n1.toNat) (by show n1.toNat < 3; omega)
  generalize ([2, 3, 5] : List Int)[n1.toNat]'(by show n1.toNat < 3; omega) = q at hq ⊢
  obtain ⟨qn, rfl, hq2, hq5, hqp⟩ : ∃ qn : Nat, q = (qn : Int) ∧ 2 ≤ qn ∧ qn ≤ 5 ∧ (qn : Int) ∈ primes := by
    simp only [List.mem_cons, List.not_mem_nil, or_false] at hq
    rcases hq with rfl | rfl | rfl
    · exact ⟨2, rfl, by decide, by decide, by decide⟩
    · exact ⟨3, rfl, by decide, by decide, by decide⟩
    · exact ⟨5, rfl, by decide, by decide, by decide⟩
  have hq0 : (0 : Int) < qn := by omega
  walk_at "tw"
  refine draw_i hy (by decide) (by decide) fun n2 ys g0 g1 hy => ⟨_, _, rfl, ?_⟩
  walk_at "tw"
  refine ⟨a, ys, n2, rfl, hy, g0, by omega, fun b zs0 ys hzl nd0 hpl0 hy => ⟨_, _, rfl, ?_⟩⟩
  walk_at "tw"
  rw [frzL_mapfz]
  refine ⟨zs0, rfl, by omega, fun zs c hperm hsort => ?_⟩
  have nd : zs.Nodup := hperm.nodup_iff.mpr nd0
  have hpl : ∀ z ∈ zs, PlOk z := fun z hz => hpl0 z (hperm.mem_iff.mp hz)
  have hzl : zs.length ≤ 3 := by rw [hperm.length_eq]; omega
  walk_at "tw"
  rw [frzL_mapfz]
  refine ⟨a, ys, zs, qn, rfl, hy, by omega, nd, hpl, by omega, by omega, fun n ts ys hf hin hlt hy => ⟨_, _, rfl, ?_⟩⟩
  walk_at "tw"
  refine ⟨a, ys, zs, qn, rfl, hy, by omega, nd, hpl, by omega, by omega, fun n3 ts3 ys hf3 hin3 hlt3 hy => ⟨_, _, rfl, ?_⟩⟩
  walk_at "tm"
  refine seq_mid (fun ρ => ∃ ys n3 ts3, DS ys ∧ FormOk qn n3 ts3 ∧ (∀ t ∈ ts3, t.1 ∈ zs) ∧ ts3.length ≤ 3 ∧ ρ = [some (.fz (.frl (ns.map .int))), some (.lst a ys), some (.fz (.int i)), some (.fz (.int qn)), some (.fz (.lst (zs.map .str))), some (.fz (formD n ts)), some (.fz (formD n3 ts3)), x7, x8, x9, x10, x11, x12, x13, none]) (fun N2 hN2 => ?_) ?_
  · walk_at "tw"
    refine draw_i hy (by decide) (by decide) fun n4 ys k0 k1 hy => ⟨_, _, rfl, ?_⟩
    walk_at "tw"
    refine ⟨fun _ => ?_, fun _ => ?_⟩
    · walk_at "tw"
      refine ⟨_, rfl, ?_⟩
      walk_at "tw"
      refine draw_i hy (by decide) (by decide) fun n5 ys m0 m1 hy => ⟨_, _, rfl, ?_⟩
      walk_at "tw"
      refine ⟨small_mul ⟨by omega, by omega⟩ ⟨by omega, by omega⟩, ?_⟩
      walk_at "tw"
      refine ⟨_, rfl, ?_⟩
      walk_at "tw"
      intro c0
      walk_at "tw"
      rw [frz_fz]
      intro c1
      walk_at "tw"
      rw [frz_fz, ← List.map_reverse]
      refine ⟨n + qn * n5, ts.reverse, qn, rfl, hq0, by rw [List.length_reverse]; omega, fun us hus hul => ?_⟩
      rw [List.length_reverse] at hul
      walk_at "tw"
      refine hN2 _ ⟨_, _, us, hy, nf_form hq0 hus fun c hc => hf.pl c (List.mem_reverse.mp hc), fun t ht => ?_, by omega, rfl⟩
      obtain ⟨c, hc, e⟩ := nf_places hus t ht
      rw [← e]
      exact hin c (List.mem_reverse.mp hc)
    · exact hN2 _ ⟨_, _, _, hy, hf3, hin3, by omega, rfl⟩
  clear hf3 hin3 hlt3 hy
  rintro _ ⟨ys, n3, ts3, hy, hf3, hin3, hlt3, rfl⟩
  walk_at "tm"
  refine seq_mid (fun ρ => ∃ (ys : List O) (b : Addr) (fs : List (Str × Frm2)), DS ys ∧ fs.map (·.1) = zs ∧ (∀ f ∈ fs, FormOk qn f.2.1 f.2.2 ∧ f.2.2.length ≤ 3) ∧ ρ = [some (.fz (.frl (ns.map .int))), some (.lst a ys), some (.fz (.int i)), some (.fz (.int qn)), some (.fz (.lst (zs.map .str))), some (.fz (formD n ts)), some (.fz (formD n3 ts3)), some (.dct b (dctF frm2 fs)), x8, x9, x10, x11, x12, x13, none]) (fun N2 hN2 => ?_) ?_
  · walk_at "tw"
    refine lc_invA D.str zs (fun pre ρ acc => ∃ (ys : List O) (fs : List (Str × Frm2)), DS ys ∧ fs.map (·.1) = pre ∧ (∀ f ∈ fs, FormOk qn f.2.1 f.2.2 ∧ f.2.2.length ≤ 3) ∧ acc = (fs.map fun f => .fz (.tup [.str f.1, frm2 f.2])) ∧ ρ = [some (.fz (.frl (ns.map .int))), some (.lst a ys), some (.fz (.int i)), some (.fz (.int qn)), some (.fz (.lst (zs.map .str))), some (.fz (formD n ts)), some (.fz (formD n3 ts3)), x7, x8, x9, x10, x11, x12, x13, none])
      ⟨ys, [], hy, rfl, fun _ h => (by cases h), rfl, rfl⟩ (fun pre z post ρ acc e hI A B hA hB => ?_) (fun ρ acc hI => ?_)
    · obtain ⟨ys, fs, hy, hsub, hfs, rfl, rfl⟩ := hI
      walk_at "tw"
      refine ⟨fun _ => ?_, fun h => nomatch h⟩
      walk_at "tw"
      refine ⟨a, ys, zs, qn, rfl, hy, by omega, nd, hpl, by omega, by omega, fun n4 ts4 ys hf4 hin4 hlt4 hy => ⟨_, _, rfl, ?_⟩⟩
      walk_at "tw"
      refine ⟨by show 2 ≤ sizeLine; decide, ?_⟩
      refine hA _ _ ⟨ys, fs ++ [(z, (n4, ts4))], hy, by rw [List.map_append, hsub]; rfl, fun f hq => ?_, by rw [List.map_append]; rfl, rfl⟩
      rcases List.mem_append.mp hq with c | c
      · exact hfs f c
      · rw [List.mem_singleton.mp c]; exact ⟨hf4, by dsimp only; omega⟩
    · obtain ⟨ys, fs, hy, hsub, hfs, rfl, rfl⟩ := hI
      have ndf : (fs.map (·.1)).Nodup := by rw [hsub]; exact nd
      intro c2
      walk_at "tw"
      rw [frzL_mapfz]
      refine ⟨dctF frm2 fs, by unfold pairsD dctF; rw [List.map_map]; rfl, fun b5 => ?_⟩
      rw [mergeG_dctF frm2 ndf]
      exact hN2 _ ⟨ys, b5, fs, hy, hsub, hfs, rfl⟩
  clear hy
  rintro _ ⟨ys, bl, fs, hy, hfz, hfs, rfl⟩
  have ndf : (fs.map (·.1)).Nodup := by rw [hfz]; exact nd
  have hfl : fs.length ≤ 3 := by have := congrArg List.length hfz; rw [List.length_map] at this; omega
  walk_at "tw"
  refine draw_i hy (by decide) (by decide) fun n6 ys g2 g3 hy => ⟨_, _, rfl, ?_⟩
  walk_at "tm"
  generalize hv : n6 - 4 = v
  have hvs : small v := ⟨by omega, by omega⟩
  refine seq_mid (fun ρ => ∃ x7 x10 x11, (x7 = O.dct bl (dctF frm2 fs) ∨ x7 = .fz (.dct (dctF frm2 fs))) ∧ ρ = [some (.fz (.frl (ns.map .int))), some (.lst a ys), some (.fz (.int i)), some (.fz (.int qn)), some (.fz (.lst (zs.map .str))), some (.fz (formD n ts)), some (.fz (formD n3 ts3)), some x7, some (.fz (.int v)), some (.fz (.bl (decide (((n, ts) : Frm2) = (n3, ts3))))), x10, x11, x12, x13, none]) (fun N2 hN2 => ?_) ?_
  · walk_at "tw"
    refine ⟨_, rfl, ?_⟩
    walk_at "tw"
    rw [List.length_map]
    refine ⟨zs.length, qn, rfl, hzl, hq2, hq5, fun o ho => ?_⟩
    refine frzC_isL ho ?_
    walk_at "tw"
    refine for_map0 rowD (rowsF qn zs.length) (fun pre ρ => ∃ x7 x10 x11, (x7 = O.dct bl (dctF frm2 fs) ∨ x7 = .fz (.dct (dctF frm2 fs))) ∧ ρ = [some (.fz (.frl (ns.map .int))), some (.lst a ys), some (.fz (.int i)), some (.fz (.int qn)), some (.fz (.lst (zs.map .str))), some (.fz (formD n ts)), some (.fz (formD n3 ts3)), some x7, some (.fz (.int v)), some (.fz (.bl (pre.all fun r => decide (wrt (wk (zs.zip r)) (n, ts) % (qn : Int) = wrt (wk (zs.zip r)) (n3, ts3) % (qn : Int))))), x10, x11, x12, x13, none])
      ⟨_, _, _, .inl rfl, rfl⟩ (fun pre r post ρ e hI N3 hN3 => ?_) (fun ρ hI => ?_)
    · obtain ⟨x7, x10, x11, hx7, rfl⟩ := hI
      obtain ⟨hrl, hrx⟩ := rows_mem.mp (show r ∈ rowsF qn zs.length by rw [e]; simp)
      have hws : ∀ w ∈ zs.zip r, small w.2 := fun w hw => by
        have := hrx w.2 (List.of_mem_zip (a := w.1) (b := w.2) hw).2
        exact ⟨by omega, by omega⟩
      have hlw : ∀ z w, look (zs.zip r) z = some w → small w := fun z w e => hws _ (look_in e)
      have ndr : ((zs.zip r).map (·.1)).Nodup := by
        rw [List.map_fst_zip (by omega)]; exact nd
      walk_at "tw"
      refine ⟨true, false, zs.map Sum.inr, r.map .int, by rw [List.map_map]; rfl, rfl, by rw [List.length_map, List.length_map]; omega, fun b11 => ?_⟩
      rw [zip_dct, mergeG_dctF D.int ndr]
      walk_at "tm"
      refine seq_mid (fun ρ => ∃ x11, (x11 = O.dct b11 (dctF D.int (zs.zip r)) ∨ x11 = .fz (.dct (dctF D.int (zs.zip r)))) ∧ ρ = [some (.fz (.frl (ns.map .int))), some (.lst a ys), some (.fz (.int i)), some (.fz (.int qn)), some (.fz (.lst (zs.map .str))), some (.fz (formD n ts)), some (.fz (formD n3 ts3)), some x7, some (.fz (.int v)), some (.fz (.bl ((pre ++ [r]).all fun r => decide (wrt (wk (zs.zip r)) (n, ts) % (qn : Int) = wrt (wk (zs.zip r)) (n3, ts3) % (qn : Int))))), some (.fz (rowD r)), some x11, x12, x13, none]) (fun N4 hN4 => ?_) ?_
      · rw [List.all_append] at hN4
        walk_at "tw"
        refine ⟨fun h => ?_, fun h => ?_⟩
        · walk_at "tw"
          refine worth_at (a := (n, ts)) rfl hq0 (by dsimp only; omega) (hf.small (by omega)).2 hlw ?_
          walk_at "tw"
          refine worth_at (a := (n3, ts3)) rfl hq0 (by dsimp only; omega) (hf3.small (by omega)).2 hlw ?_
          walk_at "tw"
          refine hN4 _ ⟨_, .inr rfl, ?_⟩
          rw [h, Bool.true_and, List.all_cons, List.all_nil, Bool.and_true]
        · walk_at "tw"
          refine hN4 _ ⟨_, .inl rfl, ?_⟩
          rw [h, Bool.false_and]
      rintro _ ⟨x11, hx11, rfl⟩
      rcases hx7 with rfl | rfl <;> rcases hx11 with rfl | rfl <;>
      ( walk_at "tw"
        refine ⟨(n, ts), (n3, ts3), v, fs, zs.zip r, qn, rfl, by omega, by omega, hf, hf3, by dsimp only; omega, by dsimp only; omega, hvs, ndf, by omega, fun f h => ⟨(hfs f h).1, by have := (hfs f h).2; omega⟩, hws, fun t ht => by rw [hfz]; exact hin t ht, ?_⟩
        walk_at "tw"
        refine ⟨fun h => (nomatch h), fun _ => ?_⟩
        exact hN3 _ ⟨_, _, _, .inr rfl, rfl⟩ )
    · obtain ⟨x7, x10, x11, hx7, rfl⟩ := hI
      refine hN2 _ ⟨x7, x10, x11, hx7, ?_⟩
      have e : (rowsF qn zs.length).all (fun r => decide (wrt (wk (zs.zip r)) (n, ts) % (qn : Int) = wrt (wk (zs.zip r)) (n3, ts3) % (qn : Int))) = decide (((n, ts) : Frm2) = (n3, ts3)) := by
        rw [Bool.eq_iff_iff, List.all_eq_true, decide_eq_true_eq]
        constructor
        · intro h
          exact rows_same hq2 hf hf3 hin hin3 fun r hr => of_decide_eq_true (h r hr)
        · intro h r _
          rw [h]; exact decide_eq_true rfl
      rw [e]
  rintro _ ⟨x7, x10, x11, hx7, rfl⟩
  walk_at "tm"
  have hlk : ∀ z f, look fs z = some f → FormOk qn f.1 f.2 ∧ f.2.length ≤ 3 := fun z f e => hfs _ (look_in e)
  have hkeep : ∀ z f, look fs z = some f → small f.1 ∧ f.2.length ≤ 7 ∧ ∀ t ∈ f.2, small t.2 := fun z f e => ⟨((hlk z f e).1.small (by omega)).1, by have := (hlk z f e).2; omega, ((hlk z f e).1.small (by omega)).2⟩
  obtain ⟨sn, sts⟩ := hf.small (by omega)
  refine seq_mid (fun ρ => ∃ x7, ρ = [some (.fz (.frl (ns.map .int))), some (.lst a ys), some (.fz (.int i)), some (.fz (.int qn)), some (.fz (.lst (zs.map .str))), some (.fz (formD n ts)), some (.fz (formD n3 ts3)), x7, some (.fz (.int v)), some (.fz (.bl (decide (((n, ts) : Frm2) = (n3, ts3))))), x10, x11, x12, x13, none]) (fun N2 hN2 => ?_) ?_
  · rcases hx7 with rfl | rfl <;>
    ( walk_at "tw"
      refine ⟨_, eqM_form 57 (n, ts) (n3, ts3), ?_⟩
      walk_at "tw"
      refine ⟨_, deq_bl _ _, ?_⟩
      rw [beq_self_eq_true]
      refine ⟨fun h => (nomatch h), fun _ => ?_⟩
      walk_at "tw"
      refine ⟨(n, ts), fs, qn, rfl, hq0, by omega, hf.n0, hf.n1, by dsimp only; omega, sts, hkeep, fun us hus hul => ?_⟩
      dsimp only at hus
      have hfu := nf_form (x := putN n ts fs) hq0 hus (putT_pl hf.pl fun z f e => (hlk z f e).1.pl)
      walk_at "tw"
      refine ⟨_, qn, rfl, form_pl3 _ _, ?_⟩
      dsimp only
      rw [hfu.isB]
      walk_at "tw"
      refine ⟨fun h => (nomatch h), fun _ => ?_⟩
      exact hN2 _ ⟨_, rfl⟩ )
  clear hx7
  rintro _ ⟨x7, rfl⟩
  refine seq_mid (fun ρ => ∃ r : Int, 0 ≤ r ∧ (0 < r → v % qn * r % qn = 1) ∧ r < qn ∧ ρ = [some (.fz (.frl (ns.map .int))), some (.lst a ys), some (.fz (.int i)), some (.fz (.int qn)), some (.fz (.lst (zs.map .str))), some (.fz (formD n ts)), some (.fz (formD n3 ts3)), x7, some (.fz (.int v)), some (.fz (.bl (decide (((n, ts) : Frm2) = (n3, ts3))))), x10, x11, some (.fz (.int r)), x13, none]) (fun N2 hN2 => ?_) ?_
  · have hv0 := Int.emod_nonneg v (by omega : (qn : Int) ≠ 0)
    have hv1 := Int.emod_lt_of_pos v hq0
    walk_at "tw"
    refine ⟨hq0, ?_⟩
    walk_at "tw"
    refine ⟨fun h => ?_, fun _ => ?_⟩
    · have h := of_decide_eq_true h
      walk_at "tw"
      refine ⟨hq0, ?_⟩
      walk_at "tw"
      refine ⟨v % qn, qn, rfl, hqp, h, hv1, fun r h1 h2 h3 => ?_⟩
      walk_at "tw"
      exact hN2 _ ⟨r, h1, fun _ => h3, h2, rfl⟩
    · walk_at "tw"
      exact hN2 _ ⟨0, by omega, fun h => absurd h (by decide), hq0, rfl⟩
  rintro _ ⟨r, hr0, hrv, hrq, rfl⟩
  refine seq_mid (fun ρ => ρ = [some (.fz (.frl (ns.map .int))), some (.lst a ys), some (.fz (.int i)), some (.fz (.int qn)), some (.fz (.lst (zs.map .str))), some (.fz (formD n ts)), some (.fz (formD n3 ts3)), x7, some (.fz (.int v)), some (.fz (.bl (decide (((n, ts) : Frm2) = (n3, ts3))))), x10, x11, some (.fz (.int r)), x13, none]) (fun N2 hN2 => ?_) ?_
  · walk_at "tw"
    refine ⟨fun h => ?_, fun _ => ?_⟩
    · have h := of_decide_eq_true h
      walk_at "tw"
      refine ⟨(n, ts), v, qn, rfl, hq0, by dsimp only; omega, hvs, sn, sts, fun us hus hul => ?_⟩
      dsimp only at hus hul
      have hfu := nf_form (x := n * v) hq0 hus (tms_pl hf.pl)
      obtain ⟨sn1, sts1⟩ := hfu.small (by omega)
      walk_at "tw"
      refine ⟨(n * v % qn, us), r, qn, rfl, hq0, by dsimp only; omega, ⟨by omega, by omega⟩, sn1, sts1, fun us2 hus2 hul2 => ?_⟩
      dsimp only at hus2
      obtain ⟨e1, e2⟩ := back_same (by omega) hf (hrv h) hus hus2
      subst e1
      walk_at "tw"
      dsimp only
      rw [e2]
      refine ⟨_, eqM_form 57 (n, us2) (n, us2), ?_⟩
      refine ne_self ?_
      exact hN2 _ rfl
    · refine ⟨fun h => (nomatch h), fun _ => ?_⟩
      exact hN2 _ rfl
  rintro _ rfl
  have e0 : putN n ts (zs.map fun z => (z, ((0, []) : Frm2))) = n ∧ putT ts (zs.map fun z => (z, ((0, []) : Frm2))) = [] := put_zero n hin
  refine seq_mid (fun ρ => ρ = [some (.fz (.frl (ns.map .int))), some (.lst a ys), some (.fz (.int i)), some (.fz (.int qn)), some (.fz (.lst (zs.map .str))), some (.fz (formD n ts)), some (.fz (formD n3 ts3)), x7, some (.fz (.int v)), some (.fz (.bl (decide (((n, ts) : Frm2) = (n3, ts3))))), x10, x11, some (.fz (.int r)), some (.fz (formD n [])), none]) (fun N2 hN2 => ?_) ?_
  · walk_at "tw"
    refine lc_all D.str zs (fun z => .fz (.tup [.str z, frm2 (0, [])])) (fun z hz A B hA => ?_) ?_
    · walk_at "tw"
      refine ⟨fun _ => ?_, fun h => nomatch h⟩
      walk_at "tw"
      refine ⟨by show 0 ≤ sizeLine; decide, ?_⟩
      walk_at "tw"
      refine ⟨by show 2 ≤ sizeLine; decide, ?_⟩
      walk_at "tw"
      exact ⟨by show 2 ≤ sizeLine; decide, hA⟩
    intro c
    walk_at "tw"
    rw [frzL_mapfz]
    refine ⟨dctF frm2 (zs.map fun z => (z, ((0, []) : Frm2))), by unfold pairsD dctF; rw [List.map_map, List.map_map]; rfl, fun b5 => ?_⟩
    rw [mergeG_dctF frm2 (by rw [List.map_map]; exact (List.map_id' zs).symm ▸ nd)]
    walk_at "tw"
    refine ⟨(n, ts), zs.map fun z => (z, ((0, []) : Frm2)), qn, rfl, hq0, by omega, hf.n0, hf.n1, by dsimp only; omega, sts, fun z f e => ?_, fun us hus hul => ?_⟩
    · obtain ⟨y, _, e2⟩ := List.mem_map.mp (look_in e)
      injection e2 with _ e3
      subst e3
      exact ⟨⟨by decide, by decide⟩, by decide, fun _ h => (by cases h)⟩
    dsimp only at hus ⊢
    rw [e0.2] at hus
    obtain rfl := hus.uniq (nf_nil qn)
    rw [e0.1, Int.emod_eq_of_lt hf.n0 hf.n1]
    exact hN2 _ rfl
  rintro _ rfl
  walk_at "tw"
  refine ⟨_, rfl, ?_⟩
  walk_at "tw"
  refine ⟨by show 0 ≤ sizeLine; decide, ?_⟩
  walk_at "tw"
  refine ⟨by show 2 ≤ sizeLine; decide, ?_⟩
  walk_at "tw"
  refine ⟨_, eqM_form 57 (n, []) (n, []), ?_⟩
  refine ne_self ?_
  walk_at "tm"
  refine seq_mid (fun ρ => ρ = [some (.fz (.frl (ns.map .int))), some (.lst a ys), some (.fz (.int i)), some (.fz (.int qn)), some (.fz (.lst (zs.map .str))), some (.fz (formD n ts)), some (.fz (formD n3 ts3)), x7, some (.fz (.int v)), some (.fz (.bl (decide (((n, ts) : Frm2) = (n3, ts3))))), x10, x11, some (.fz (.int r)), some (.fz (formD n [])), none]) (fun N2 hN2 => ?_) ?_
  · walk_at "tw"
    refine ⟨(n, ts), rfl, by dsimp only; omega, ?_⟩
    walk_at "tw"
    refine lc_invA (fun t : Str × Int => D.str t.1) ts (fun pre ρ acc => acc = [] ∧ ρ = [some (.fz (.frl (ns.map .int))), some (.lst a ys), some (.fz (.int i)), some (.fz (.int qn)), some (.fz (.lst (zs.map .str))), some (.fz (formD n ts)), some (.fz (formD n3 ts3)), x7, some (.fz (.int v)), some (.fz (.bl (decide (((n, ts) : Frm2) = (n3, ts3))))), x10, x11, some (.fz (.int r)), some (.fz (formD n [])), none])
      ⟨rfl, rfl⟩ (fun pre t post ρ acc e hI A B hA hB => ?_) (fun ρ acc hI => ?_)
    · obtain ⟨rfl, rfl⟩ := hI
      have ht : t.1 ∈ zs := hin t (by rw [e]; simp)
      walk_at "tw"
      refine ⟨_, rfl, rfl, by rw [List.all_map]; exact List.all_eq_true.mpr fun _ _ => rfl, ?_⟩
      rw [if_pos rfl, any_strs, decide_eq_true ht]
      walk_at "tw"
      refine ⟨fun h => (nomatch h), fun _ => ?_⟩
      exact hB _ ⟨rfl, rfl⟩
    · obtain ⟨rfl, rfl⟩ := hI
      intro c
      walk_at "tw"
      refine ⟨by show 0 ≤ sizeLine; decide, fun c2 => ?_⟩
      walk_at "tw"
      refine ⟨true, rfl, ?_⟩
      refine ⟨fun h => (nomatch h), fun _ => ?_⟩
      exact hN2 _ rfl
  rintro _ rfl
  have hlen : ∀ {n : Int} {ts : List (Str × Int)}, FormOk qn n ts → ts.length ≤ 3 → (-(2 ^ 64) < n ∧ n < 2 ^ 64) ∧ ts.length ≤ 30000 ∧ (∀ t ∈ ts, t.1.length ≤ 100 ∧ -(2 ^ 64) < t.2 ∧ t.2 < 2 ^ 64) := fun {n ts} hf hl => by
    obtain ⟨h1, h2⟩ := hf.small (by omega)
    exact ⟨h1, by omega, fun t ht => ⟨by have := (hf.pl t ht).le; omega, h2 t ht⟩⟩
  have hlt3 : ts.length ≤ 3 := by omega
  walk_at "tw"
  refine ⟨n, ts, rfl, (hlen hf hlt3).1, (hlen hf hlt3).2.1, (hlen hf hlt3).2.2, ?_⟩
  walk_at "tw"
  refine ⟨.str (formT n ts), qn, rfl, .inl ⟨_, rfl, formT_len hf (by omega) hlt3⟩, by omega, ?_⟩
  rw [show rdD qn (.str (formT n ts)) = formD n ts by show ((rdF qn (formT n ts)).map fun f => formD f.1 f.2).getD .non = _; rw [rdF_form (by omega) hf]; rfl]
  walk_at "tw"
  refine ⟨_, eqM_form 57 (n, ts) (n, ts), ?_⟩
  refine ne_self ?_
  walk_at "tw"
  refine ⟨n, ts, rfl, (hlen hf hlt3).1, (hlen hf hlt3).2.1, (hlen hf hlt3).2.2, ?_⟩
  walk_at "tw"
  refine ⟨n3, ts3, rfl, (hlen hf3 (by omega)).1, (hlen hf3 (by omega)).2.1, (hlen hf3 (by omega)).2.2, ?_⟩
  walk_at "tw"
  rw [formT_eq (by omega) hf hf3]
  refine ⟨_, deq_bl _ _, ?_⟩
  rw [beq_self_eq_true]
  refine ⟨fun h => (nomatch h), fun _ => ?_⟩
  exact hN _ ⟨ys, _, _, _, _, _, _, _, _, _, _, _, _, hy, rfl⟩
def topS (i : Nat) : Stmt := PySem.Challenge.pw_onetrace_k05_whole_forms_by_all_worths.main.body.getD i (.Pass ⟨0, 0, 0, 0⟩)
abbrev s__law_begun : Stmt := topS 23
abbrev N__law_begun : List Str := ["script", "cell"]
theorem sc__law_begun : FnScope N__law_begun ["script"] (defScope s__law_begun) := ⟨rfl, rfl, rfl, by decide +kernel, rfl, by decide +kernel, by decide +kernel⟩
abbrev s__law_draw : Stmt := topS 24
abbrev N__law_draw : List Str := ["state", "many", "cells", "at", "cell"]
theorem sc__law_draw : FnScope N__law_draw ["state", "many"] (defScope s__law_draw) := ⟨rfl, rfl, rfl, by decide +kernel, rfl, by decide +kernel, by decide +kernel⟩
abbrev s__law_place : Stmt := topS 25
abbrev N__law_place : List Str := ["state", "signs", "size", "word"]
theorem sc__law_place : FnScope N__law_place ["state"] (defScope s__law_place) := ⟨rfl, rfl, rfl, by decide +kernel, rfl, by decide +kernel, by decide +kernel⟩
abbrev s__law_places : Stmt := topS 26
abbrev N__law_places : List Str := ["state", "many", "some", "k", "place"]
theorem sc__law_places : FnScope N__law_places ["state", "many"] (defScope s__law_places) := ⟨rfl, rfl, rfl, by decide +kernel, rfl, by decide +kernel, by decide +kernel⟩
abbrev s__law_form : Stmt := topS 27
abbrev N__law_form : List Str := ["state", "places", "q", "terms", "place", "times"]
theorem sc__law_form : FnScope N__law_form ["state", "places", "q"] (defScope s__law_form) := ⟨rfl, rfl, rfl, by decide +kernel, rfl, by decide +kernel, by decide +kernel⟩
abbrev s_new_form : Stmt := topS 12
abbrev N_new_form : List Str := ["n", "pairs", "p", "found", "place", "times"]
theorem sc_new_form : FnScope N_new_form ["n", "pairs", "p"] (defScope s_new_form) := ⟨rfl, rfl, rfl, by decide +kernel, rfl, by decide +kernel, by decide +kernel⟩
abbrev s__law_rows : Stmt := topS 28
abbrev N__law_rows : List Str := ["many", "q", "rows", "k", "longer", "num", "row"]
theorem sc__law_rows : FnScope N__law_rows ["many", "q"] (defScope s__law_rows) := ⟨rfl, rfl, rfl, by decide +kernel, rfl, by decide +kernel, by decide +kernel⟩
abbrev s_worth_of : Stmt := topS 16
abbrev N_worth_of : List Str := ["form", "worths", "p", "n", "terms", "place", "times"]
theorem sc_worth_of : FnScope N_worth_of ["form", "worths", "p"] (defScope s_worth_of) := ⟨rfl, rfl, rfl, by decide +kernel, rfl, by decide +kernel, by decide +kernel⟩
abbrev s_sum_of : Stmt := topS 13
abbrev N_sum_of : List Str := ["a", "b", "p"]
theorem sc_sum_of : FnScope N_sum_of ["a", "b", "p"] (defScope s_sum_of) := ⟨rfl, rfl, rfl, by decide +kernel, rfl, by decide +kernel, by decide +kernel⟩
abbrev s_times_of : Stmt := topS 14
abbrev N_times_of : List Str := ["a", "n", "p", "place", "times"]
theorem sc_times_of : FnScope N_times_of ["a", "n", "p"] (defScope s_times_of) := ⟨rfl, rfl, rfl, by decide +kernel, rfl, by decide +kernel, by decide +kernel⟩
abbrev s_put_in : Stmt := topS 15
abbrev N_put_in : List Str := ["form", "forms", "p", "n", "terms", "found", "place", "times"]
theorem sc_put_in : FnScope N_put_in ["form", "forms", "p"] (defScope s_put_in) := ⟨rfl, rfl, rfl, by decide +kernel, rfl, by decide +kernel, by decide +kernel⟩
abbrev s__law_held : Stmt := topS 29
abbrev N__law_held : List Str := ["one", "other", "times", "lots", "held", "q", "first", "second", "past", "place"]
theorem sc__law_held : FnScope N__law_held ["one", "other", "times", "lots", "held", "q"] (defScope s__law_held) := ⟨rfl, rfl, rfl, by decide +kernel, rfl, by decide +kernel, by decide +kernel⟩
abbrev s_is_whole : Stmt := topS 4
abbrev N_is_whole : List Str := ["thing"]
theorem sc_is_whole : FnScope N_is_whole ["thing"] (defScope s_is_whole) := ⟨rfl, rfl, rfl, by decide +kernel, rfl, by decide +kernel, by decide +kernel⟩
abbrev s_is_number : Stmt := topS 5
abbrev N_is_number : List Str := ["thing", "p"]
theorem sc_is_number : FnScope N_is_number ["thing", "p"] (defScope s_is_number) := ⟨rfl, rfl, rfl, by decide +kernel, rfl, by decide +kernel, by decide +kernel⟩
abbrev s_is_place : Stmt := topS 6
abbrev N_is_place : List Str := ["thing", "sign"]
theorem sc_is_place : FnScope N_is_place ["thing"] (defScope s_is_place) := ⟨rfl, rfl, rfl, by decide +kernel, rfl, by decide +kernel, by decide +kernel⟩
abbrev s_is_term : Stmt := topS 10
abbrev N_is_term : List Str := ["thing", "p", "place", "times"]
theorem sc_is_term : FnScope N_is_term ["thing", "p"] (defScope s_is_term) := ⟨rfl, rfl, rfl, by decide +kernel, rfl, by decide +kernel, by decide +kernel⟩
abbrev s_is_form : Stmt := topS 11
abbrev N_is_form : List Str := ["thing", "p", "n", "terms", "term", "one", "other"]
theorem sc_is_form : FnScope N_is_form ["thing", "p"] (defScope s_is_form) := ⟨rfl, rfl, rfl, by decide +kernel, rfl, by decide +kernel, by decide +kernel⟩
abbrev s_inverse : Stmt := topS 7
abbrev N_inverse : List Str := ["n", "p", "found", "base", "left"]
theorem sc_inverse : FnScope N_inverse ["n", "p"] (defScope s_inverse) := ⟨rfl, rfl, rfl, by decide +kernel, rfl, by decide +kernel, by decide +kernel⟩
abbrev s_places_in : Stmt := topS 17
abbrev N_places_in : List Str := ["form", "place", "times"]
theorem sc_places_in : FnScope N_places_in ["form"] (defScope s_places_in) := ⟨rfl, rfl, rfl, by decide +kernel, rfl, by decide +kernel, by decide +kernel⟩
abbrev s_term_in : Stmt := topS 20
abbrev N_term_in : List Str := ["piece", "many", "figures", "place"]
theorem sc_term_in : FnScope N_term_in ["piece"] (defScope s_term_in) := ⟨rfl, rfl, rfl, by decide +kernel, rfl, by decide +kernel, by decide +kernel⟩
abbrev s_term_text : Stmt := topS 18
abbrev N_term_text : List Str := ["place", "times"]
theorem sc_term_text : FnScope N_term_text ["place", "times"] (defScope s_term_text) := ⟨rfl, rfl, rfl, by decide +kernel, rfl, by decide +kernel, by decide +kernel⟩
abbrev s_form_text : Stmt := topS 19
abbrev N_form_text : List Str := ["form", "n", "terms", "ahead", "place", "times"]
theorem sc_form_text : FnScope N_form_text ["form"] (defScope s_form_text) := ⟨rfl, rfl, rfl, by decide +kernel, rfl, by decide +kernel, by decide +kernel⟩
abbrev s_read_form : Stmt := topS 21
abbrev N_read_form : List Str := ["text", "p", "pieces", "n", "form", "piece", "place", "times"]
theorem sc_read_form : FnScope N_read_form ["text", "p"] (defScope s_read_form) := ⟨rfl, rfl, rfl, by decide +kernel, rfl, by decide +kernel, by decide +kernel⟩
abbrev s_law : Stmt := topS 30
abbrev N_law : List Str := ["script", "state", "turn", "q", "places", "one", "other", "lots", "times", "same", "row", "held", "back", "gone", "place"]
theorem sc_law : FnScope N_law ["script"] (defScope s_law) := ⟨rfl, rfl, rfl, by decide +kernel, rfl, by decide +kernel, by decide +kernel⟩
/-- what the top has written -/
structure Txt (K : PySem.W.Frag) (mg : Str → Option Value) where
  a__law_begun : Addr
  fd__law_begun : FuncData
  F__law_begun : Fun K "_law_begun" "_law_begun" s__law_begun a__law_begun fd__law_begun
  g__law_begun : mg "_law_begun" = some (.ref a__law_begun)
  a__law_draw : Addr
  fd__law_draw : FuncData
  F__law_draw : Fun K "_law_draw" "_law_draw" s__law_draw a__law_draw fd__law_draw
  g__law_draw : mg "_law_draw" = some (.ref a__law_draw)
  a__law_place : Addr
  fd__law_place : FuncData
  F__law_place : Fun K "_law_place" "_law_place" s__law_place a__law_place fd__law_place
  g__law_place : mg "_law_place" = some (.ref a__law_place)
  a__law_places : Addr
  fd__law_places : FuncData
  F__law_places : Fun K "_law_places" "_law_places" s__law_places a__law_places fd__law_places
  g__law_places : mg "_law_places" = some (.ref a__law_places)
  a__law_form : Addr
  fd__law_form : FuncData
  F__law_form : Fun K "_law_form" "_law_form" s__law_form a__law_form fd__law_form
  g__law_form : mg "_law_form" = some (.ref a__law_form)
  a_new_form : Addr
  fd_new_form : FuncData
  F_new_form : Fun K "new_form" "new_form" s_new_form a_new_form fd_new_form
  g_new_form : mg "new_form" = some (.ref a_new_form)
  a__law_rows : Addr
  fd__law_rows : FuncData
  F__law_rows : Fun K "_law_rows" "_law_rows" s__law_rows a__law_rows fd__law_rows
  g__law_rows : mg "_law_rows" = some (.ref a__law_rows)
  a_worth_of : Addr
  fd_worth_of : FuncData
  F_worth_of : Fun K "worth_of" "worth_of" s_worth_of a_worth_of fd_worth_of
  g_worth_of : mg "worth_of" = some (.ref a_worth_of)
  a_sum_of : Addr
  fd_sum_of : FuncData
  F_sum_of : Fun K "sum_of" "sum_of" s_sum_of a_sum_of fd_sum_of
  g_sum_of : mg "sum_of" = some (.ref a_sum_of)
  a_times_of : Addr
  fd_times_of : FuncData
  F_times_of : Fun K "times_of" "times_of" s_times_of a_times_of fd_times_of
  g_times_of : mg "times_of" = some (.ref a_times_of)
  a_put_in : Addr
  fd_put_in : FuncData
  F_put_in : Fun K "put_in" "put_in" s_put_in a_put_in fd_put_in
  g_put_in : mg "put_in" = some (.ref a_put_in)
  a__law_held : Addr
  fd__law_held : FuncData
  F__law_held : Fun K "_law_held" "_law_held" s__law_held a__law_held fd__law_held
  g__law_held : mg "_law_held" = some (.ref a__law_held)
  a_is_whole : Addr
  fd_is_whole : FuncData
  F_is_whole : Fun K "is_whole" "is_whole" s_is_whole a_is_whole fd_is_whole
  g_is_whole : mg "is_whole" = some (.ref a_is_whole)
  a_is_number : Addr
  fd_is_number : FuncData
  F_is_number : Fun K "is_number" "is_number" s_is_number a_is_number fd_is_number
  g_is_number : mg "is_number" = some (.ref a_is_number)
  a_is_place : Addr
  fd_is_place : FuncData
  F_is_place : Fun K "is_place" "is_place" s_is_place a_is_place fd_is_place
  g_is_place : mg "is_place" = some (.ref a_is_place)
  a_is_term : Addr
  fd_is_term : FuncData
  F_is_term : Fun K "is_term" "is_term" s_is_term a_is_term fd_is_term
  g_is_term : mg "is_term" = some (.ref a_is_term)
  a_is_form : Addr
  fd_is_form : FuncData
  F_is_form : Fun K "is_form" "is_form" s_is_form a_is_form fd_is_form
  g_is_form : mg "is_form" = some (.ref a_is_form)
  a_inverse : Addr
  fd_inverse : FuncData
  F_inverse : Fun K "inverse" "inverse" s_inverse a_inverse fd_inverse
  g_inverse : mg "inverse" = some (.ref a_inverse)
  a_places_in : Addr
  fd_places_in : FuncData
  F_places_in : Fun K "places_in" "places_in" s_places_in a_places_in fd_places_in
  g_places_in : mg "places_in" = some (.ref a_places_in)
  a_term_in : Addr
  fd_term_in : FuncData
  F_term_in : Fun K "term_in" "term_in" s_term_in a_term_in fd_term_in
  g_term_in : mg "term_in" = some (.ref a_term_in)
  a_term_text : Addr
  fd_term_text : FuncData
  F_term_text : Fun K "term_text" "term_text" s_term_text a_term_text fd_term_text
  g_term_text : mg "term_text" = some (.ref a_term_text)
  a_form_text : Addr
  fd_form_text : FuncData
  F_form_text : Fun K "form_text" "form_text" s_form_text a_form_text fd_form_text
  g_form_text : mg "form_text" = some (.ref a_form_text)
  a_read_form : Addr
  fd_read_form : FuncData
  F_read_form : Fun K "read_form" "read_form" s_read_form a_read_form fd_read_form
  g_read_form : mg "read_form" = some (.ref a_read_form)
  a_law : Addr
  fd_law : FuncData
  F_law : Fun K "law" "law" s_law a_law fd_law
  g_law : mg "law" = some (.ref a_law)
  n_abs : mg "abs" = none
  n_int : mg "int" = none
  n_len : mg "len" = none
  n_range : mg "range" = none
  n_str : mg "str" = none
  n_sorted : mg "sorted" = none
  n_tuple : mg "tuple" = none
  n_sum : mg "sum" = none
  n_list : mg "list" = none
  n_dict : mg "dict" = none
  n_isinstance : mg "isinstance" = none
  n_bool : mg "bool" = none
  n_all : mg "all" = none
  n_zip : mg "zip" = none
  c_MOST_PLACE : ∃ t, mg "MOST_PLACE" = some (.int 40 t)
  c_LETTERS : ∃ t, mg "LETTERS" = some (.str "abcdefghijklmnopqrstuvwxyz" t)
  c_FIGURES : ∃ t, mg "FIGURES" = some (.str "0123456789" t)
  c_MOST_FIGURES : ∃ t, mg "MOST_FIGURES" = some (.int 3 t)
section
variable {P : Program} {w : World} {K : PySem.W.Frag} {mg : Str → Option Value} {base : Heap}
theorem b__law_begun (T : Txt K mg) : Binds K T.fd__law_begun ["script"] [] := T.F__law_begun.binds (ps := ["script"]) fun _ _ _ _ _ _ us hl => match us, hl with | [_], _ => rfl
theorem b__law_draw (T : Txt K mg) : Binds K T.fd__law_draw ["state", "many"] [] := T.F__law_draw.binds (ps := ["state", "many"]) fun _ _ _ _ _ _ us hl => match us, hl with | [_, _], _ => rfl
theorem b__law_place (T : Txt K mg) : Binds K T.fd__law_place ["state"] [] := T.F__law_place.binds (ps := ["state"]) fun _ _ _ _ _ _ us hl => match us, hl with | [_], _ => rfl
theorem b__law_places (T : Txt K mg) : Binds K T.fd__law_places ["state", "many"] [] := T.F__law_places.binds (ps := ["state", "many"]) fun _ _ _ _ _ _ us hl => match us, hl with | [_, _], _ => rfl
theorem b__law_form (T : Txt K mg) : Binds K T.fd__law_form ["state", "places", "q"] [] := T.F__law_form.binds (ps := ["state", "places", "q"]) fun _ _ _ _ _ _ us hl => match us, hl with | [_, _, _], _ => rfl
theorem b_new_form (T : Txt K mg) : Binds K T.fd_new_form ["n", "pairs", "p"] [] := T.F_new_form.binds (ps := ["n", "pairs", "p"]) fun _ _ _ _ _ _ us hl => match us, hl with | [_, _, _], _ => rfl
theorem b__law_rows (T : Txt K mg) : Binds K T.fd__law_rows ["many", "q"] [] := T.F__law_rows.binds (ps := ["many", "q"]) fun _ _ _ _ _ _ us hl => match us, hl with | [_, _], _ => rfl
theorem b_worth_of (T : Txt K mg) : Binds K T.fd_worth_of ["form", "worths", "p"] [] := T.F_worth_of.binds (ps := ["form", "worths", "p"]) fun _ _ _ _ _ _ us hl => match us, hl with | [_, _, _], _ => rfl
theorem b_sum_of (T : Txt K mg) : Binds K T.fd_sum_of ["a", "b", "p"] [] := T.F_sum_of.binds (ps := ["a", "b", "p"]) fun _ _ _ _ _ _ us hl => match us, hl with | [_, _, _], _ => rfl
theorem b_times_of (T : Txt K mg) : Binds K T.fd_times_of ["a", "n", "p"] [] := T.F_times_of.binds (ps := ["a", "n", "p"]) fun _ _ _ _ _ _ us hl => match us, hl with | [_, _, _], _ => rfl
theorem b_put_in (T : Txt K mg) : Binds K T.fd_put_in ["form", "forms", "p"] [] := T.F_put_in.binds (ps := ["form", "forms", "p"]) fun _ _ _ _ _ _ us hl => match us, hl with | [_, _, _], _ => rfl
theorem b__law_held (T : Txt K mg) : Binds K T.fd__law_held ["one", "other", "times", "lots", "held", "q"] [] := T.F__law_held.binds (ps := ["one", "other", "times", "lots", "held", "q"]) fun _ _ _ _ _ _ us hl => match us, hl with | [_, _, _, _, _, _], _ => rfl
theorem b_is_whole (T : Txt K mg) : Binds K T.fd_is_whole ["thing"] [] := T.F_is_whole.binds (ps := ["thing"]) fun _ _ _ _ _ _ us hl => match us, hl with | [_], _ => rfl
theorem b_is_number (T : Txt K mg) : Binds K T.fd_is_number ["thing", "p"] [] := T.F_is_number.binds (ps := ["thing", "p"]) fun _ _ _ _ _ _ us hl => match us, hl with | [_, _], _ => rfl
theorem b_is_place (T : Txt K mg) : Binds K T.fd_is_place ["thing"] [] := T.F_is_place.binds (ps := ["thing"]) fun _ _ _ _ _ _ us hl => match us, hl with | [_], _ => rfl
theorem b_is_term (T : Txt K mg) : Binds K T.fd_is_term ["thing", "p"] [] := T.F_is_term.binds (ps := ["thing", "p"]) fun _ _ _ _ _ _ us hl => match us, hl with | [_, _], _ => rfl
theorem b_is_form (T : Txt K mg) : Binds K T.fd_is_form ["thing", "p"] [] := T.F_is_form.binds (ps := ["thing", "p"]) fun _ _ _ _ _ _ us hl => match us, hl with | [_, _], _ => rfl
theorem b_inverse (T : Txt K mg) : Binds K T.fd_inverse ["n", "p"] [] := T.F_inverse.binds (ps := ["n", "p"]) fun _ _ _ _ _ _ us hl => match us, hl with | [_, _], _ => rfl
theorem b_places_in (T : Txt K mg) : Binds K T.fd_places_in ["form"] [] := T.F_places_in.binds (ps := ["form"]) fun _ _ _ _ _ _ us hl => match us, hl with | [_], _ => rfl
theorem b_term_in (T : Txt K mg) : Binds K T.fd_term_in ["piece"] [] := T.F_term_in.binds (ps := ["piece"]) fun _ _ _ _ _ _ us hl => match us, hl with | [_], _ => rfl
theorem b_term_text (T : Txt K mg) : Binds K T.fd_term_text ["place", "times"] [] := T.F_term_text.binds (ps := ["place", "times"]) fun _ _ _ _ _ _ us hl => match us, hl with | [_, _], _ => rfl
theorem b_form_text (T : Txt K mg) : Binds K T.fd_form_text ["form"] [] := T.F_form_text.binds (ps := ["form"]) fun _ _ _ _ _ _ us hl => match us, hl with | [_], _ => rfl
theorem b_read_form (T : Txt K mg) : Binds K T.fd_read_form ["text", "p"] [] := T.F_read_form.binds (ps := ["text", "p"]) fun _ _ _ _ _ _ us hl => match us, hl with | [_, _], _ => rfl
theorem b_law (T : Txt K mg) : Binds K T.fd_law ["script"] [] := T.F_law.binds (ps := ["script"]) fun _ _ _ _ _ _ us hl => match us, hl with | [_], _ => rfl
theorem body__law_begun (T : Txt K mg) (cdv : Value) (A : Around) (outer : List Env) (s : Shared) (H : Hp) (E : XK) (hr : Room 0 (A.deeper (envOfC "_law_begun" (defScope s__law_begun) s.heap.objs.size T.a__law_begun cdv))) :
    XSs (cxOf CX0 P w K mg base N__law_begun "_law_begun" (defScope s__law_begun) T.a__law_begun cdv A outer s H E).nox (defBody s__law_begun) wb__law_begun :=
  (xss_one (xs_ret (xo_lst (xao_cons (xo_bin op_addT sem_add (XO.toE (xo_lc (own := [("cell", 1)]) (by rfl) sc__law_begun.nd (xi_any (xe_pv (pv 0))) (blkOk_by (own := [("cell", 1)]) (N := N__law_begun) (sc := defScope s__law_begun) (by decide +kernel)) (fun _ _ _ _ _ => (xg_name (i := 1) (pg_name sc__law_begun.nd rfl (.inl rfl)))) (fun _ _ _ _ _ => xts_nil) (fun _ _ _ _ _ => (XE.toO (xe_callB call_abs sem_abs (by rfl) T.n_abs (by decide +kernel) (xb_pv (pv 1))))) (by decide))) (XO.toE (xo_bin op_mulT sem_mul (XO.toE (xo_lst (xao_cons (XE.toO xe_int) xao_nil))) (xe_callTy call_int1 sem_int (by rfl) T.n_int (by decide +kernel) (XE.toB (xe_cmp (op_eqT hr.units) sem_eq (xe_callB cr_len sem_len (by rfl) T.n_len (by decide +kernel) (xb_pv (pv 0))) (XE.toB xe_int))))))) (xao_cons (XE.toO xe_int) (xao_cons (XE.toO xe_int) xao_nil))))))
theorem ok__law_begun (T : Txt K mg) : FnOk P w K mg base CX0 1 T.a__law_begun T.fd__law_begun ["script"] (liftSp K sp__law_begun) :=
  fn_tree T.F__law_begun sc__law_begun len__law_begun (body__law_begun T) does__law_begun
theorem body__law_draw (T : Txt K mg) (cdv : Value) (A : Around) (outer : List Env) (s : Shared) (H : Hp) (E : XK) (hr : Room 0 (A.deeper (envOfC "_law_draw" (defScope s__law_draw) s.heap.objs.size T.a__law_draw cdv))) :
    XSs (cxOf CX0 P w K mg base N__law_draw "_law_draw" (defScope s__law_draw) T.a__law_draw cdv A outer s H E).nox (defBody s__law_draw) wb__law_draw :=
  (xss_jn 0 0 2 (xss_cons (xs_set (i := 2) (ps_set (i := 2) sc__law_draw.nd rfl (.inl rfl) (XO.pe (xo_mvIx (i := 0) (pv 0) xe_int))) (fun _ _ _ h => h))
    (xss_cons (xs_set (i := 3) (ps_set (i := 3) sc__law_draw.nd rfl (.inl rfl) (XO.pe (xo_bin op_mod sem_mod (xe_ixL (i := 0) (pv 0) xe_int) (xe_callB cr_len sem_len (by rfl) T.n_len (by decide +kernel) (xb_pv (pv 2)))))) (fun _ _ _ h => h))
    (xss_cons (xs_set (i := 4) (ps_set (i := 4) sc__law_draw.nd rfl (.inl rfl) (XO.pe (XE.toO (xe_ixL (i := 2) (pv 2) (xe_pv (pv 3)))))) (fun _ _ _ h => h))
    (xss_cons (xs_if (xt_cmpL (i := 4) op_geT' sem_ge (pv 4) (XE.toB xe_int)) (xss_cons (xs_setIx (i := 2) (ps_asg (XO.pe (xo_bin op_fdivW sem_div (xe_pv (pv 4)) (xe_pv (pv 1)))) (pg_sub (pv 2) (XE.pe (xe_pv (pv 3))) set_list)))
    (xss_one (xs_ret (xo_bin op_mod sem_mod (xe_pv (pv 4)) (xe_pv (pv 1)))))) xss_nil)
    (xss_cons (xs_setIx (i := 0) (ps_asg (XO.pe (xo_bin op_addT sem_add (xe_ixL (i := 0) (pv 0) xe_int) xe_int)) (pg_sub (pv 0) (XE.pe xe_int) set_list)))
    (xss_cons (xs_setIx (i := 0) (ps_asg (XO.pe (xo_bin op_mod sem_mod (XO.toE (xo_bin op_addT sem_add (XO.toE (xo_bin op_addT sem_add (XO.toE (xo_bin op_mulT sem_mul (xe_ixL (i := 0) (pv 0) xe_int) xe_int)) (xe_pv (pv 4)))) xe_int)) xe_int)) (pg_sub (pv 0) (XE.pe xe_int) set_list)))
    (xss_one (xs_ret (xo_bin op_mod sem_mod (XO.toE (xo_bin op_fdivW sem_div (XO.toE (xo_bin op_mod sem_mod (XO.toE (xo_bin op_mulT sem_mul (xe_ixL (i := 0) (pv 0) xe_int) (xe_ixL (i := 0) (pv 0) xe_int))) xe_int)) xe_int)) (xe_pv (pv 1))))))))))))
theorem ok__law_draw (T : Txt K mg) : FnOk P w K mg base CX0 1 T.a__law_draw T.fd__law_draw ["state", "many"] (liftSp K sp__law_draw) :=
  fn_tree T.F__law_draw sc__law_draw len__law_draw (body__law_draw T) does__law_draw
theorem body__law_place (T : Txt K mg) (G__law_draw : FnOk P w K mg base CX0 1 T.a__law_draw T.fd__law_draw ["state", "many"] (liftSp K sp__law_draw)) (cdv : Value) (A : Around) (outer : List Env) (s : Shared) (H : Hp) (E : XK) (hr : Room 1 (A.deeper (envOfC "_law_place" (defScope s__law_place) s.heap.objs.size T.a__law_place cdv))) :
    XSs (cxOf CX0 P w K mg base N__law_place "_law_place" (defScope s__law_place) T.a__law_place cdv A outer s H E).nox (defBody s__law_place) wb__law_place :=
  (xss_cons (xs_set (i := 1) (ps_set (i := 1) sc__law_place.nd rfl (.inl rfl) (XO.pe (XE.toO xe_str))) (fun _ _ _ h => h))
    (xss_cons (xs_set (i := 2) (ps_set (i := 2) sc__law_place.nd rfl (.inl rfl) (XO.pe (XE.toO (xe_ix (XO.toE (xo_lst (xao_cons (XE.toO xe_int) (xao_cons (XE.toO xe_int) (xao_cons (XE.toO xe_int) (xao_cons (XE.toO xe_int) (xao_cons (XE.toO xe_int) (xao_cons (XE.toO xe_int) xao_nil)))))))) (XO.toE (xo_callS (i := 0) G__law_draw (hr.mono (by decide)) (by rfl) T.g__law_draw T.F__law_draw.kp (b__law_draw T) (pv 0) (xa_cons xe_int xa_nil))))))) (fun _ _ _ h => h))
    (xss_cons (xs_set (i := 3) (ps_set (i := 3) sc__law_place.nd rfl (.inl rfl) (XO.pe (XE.toO (xe_ix xe_str (XO.toE (xo_callS (i := 0) G__law_draw (hr.mono (by decide)) (by rfl) T.g__law_draw T.F__law_draw.kp (b__law_draw T) (pv 0) (xa_cons xe_int xa_nil))))))) (fun _ _ _ h => h))
    (xss_cons (xs_while PassesOwn.never (xt_cmp op_ltT' sem_lt (xe_callB cr_len sem_len (by rfl) T.n_len (by decide +kernel) (xb_pv (pv 3))) (xb_pv (pv 2))) (xss_one (xs_set (i := 3) (ps_set (i := 3) sc__law_place.nd rfl (.inl rfl) (XO.pe (xo_bin op_addT sem_add (xe_pv (pv 3)) (xe_ixL (i := 1) (pv 1) (XO.toE (xo_callS (i := 0) G__law_draw (hr.mono (by decide)) (by rfl) T.g__law_draw T.F__law_draw.kp (b__law_draw T) (pv 0) (xa_cons xe_int xa_nil))))))) (fun _ _ _ h => h))))
    (xss_one (xs_retV (pv 3)))))))
theorem ok__law_place (T : Txt K mg) (G__law_draw : FnOk P w K mg base CX0 1 T.a__law_draw T.fd__law_draw ["state", "many"] (liftSp K sp__law_draw)) : FnOk P w K mg base CX0 2 T.a__law_place T.fd__law_place ["state"] (liftSp K sp__law_place) :=
  fn_tree T.F__law_place sc__law_place len__law_place (body__law_place T G__law_draw) does__law_place
theorem body__law_places (T : Txt K mg) (G__law_place : FnOk P w K mg base CX0 2 T.a__law_place T.fd__law_place ["state"] (liftSp K sp__law_place)) (G__law_draw : FnOk P w K mg base CX0 1 T.a__law_draw T.fd__law_draw ["state", "many"] (liftSp K sp__law_draw)) (cdv : Value) (A : Around) (outer : List Env) (s : Shared) (H : Hp) (E : XK) (hr : Room 2 (A.deeper (envOfC "_law_places" (defScope s__law_places) s.heap.objs.size T.a__law_places cdv))) :
    XSs (cxOf CX0 P w K mg base N__law_places "_law_places" (defScope s__law_places) T.a__law_places cdv A outer s H E).nox (defBody s__law_places) wb__law_places :=
  (xss_cons (xs_set (i := 2) (ps_set (i := 2) sc__law_places.nd rfl (.inl rfl) (XO.pe (xo_lst xao_nil))) (fun _ _ _ h => h))
    (xss_cons (xs_for PassesOwn.never (by rfl) (xi_rng1 (by rfl) T.n_range (xe_pv (pv 1))) (xg_name (i := 3) (pg_name sc__law_places.nd rfl (.inl rfl))) (xss_cons (xs_set (i := 4) (ps_set (i := 4) sc__law_places.nd rfl (.inl rfl) (XO.pe (xo_callS (i := 0) G__law_place (hr.mono (by decide)) (by rfl) T.g__law_place T.F__law_place.kp (b__law_place T) (pv 0) xa_nil))) (fun _ _ _ h => h))
    (xss_cons (xs_if (XW.t (xw_and (xt_cmpL (i := 2) (op_neT hr.units) sem_ne (pv 2) (XE.toB (XO.toE (xo_lst xao_nil)))) (XT.w1 (xt_cmp (op_eqT hr.units) sem_eq (XO.toE (xo_callS (i := 0) G__law_draw (hr.mono (by decide)) (by rfl) T.g__law_draw T.F__law_draw.kp (b__law_draw T) (pv 0) (xa_cons xe_int xa_nil))) (XE.toB xe_int))))) (xss_one (xs_set (i := 4) (ps_set (i := 4) sc__law_places.nd rfl (.inl rfl) (XO.pe (xo_bin op_addT sem_add (XO.toE (xo_sl (xe_ixL (i := 2) (pv 2) (xe_neg xe_int)) xp_none (xp_some xe_int))) (xe_ix (XO.toE (xo_lst (xao_cons (XE.toO xe_str) (xao_cons (XE.toO xe_str) (xao_cons (XE.toO xe_str) (xao_cons (XE.toO xe_str) xao_nil)))))) (XO.toE (xo_callS (i := 0) G__law_draw (hr.mono (by decide)) (by rfl) T.g__law_draw T.F__law_draw.kp (b__law_draw T) (pv 0) (xa_cons xe_int xa_nil))))))) (fun _ _ _ h => h))) xss_nil)
    (xss_cons (xs_while PassesOwn.never (xt_cmpL (i := 4) (op_inD hr.units) (sem_inD false) (pv 4) (xb_pv (pv 2))) (xss_one (xs_set (i := 4) (ps_set (i := 4) sc__law_places.nd rfl (.inl rfl) (XO.pe (xo_bin op_addT sem_add (XO.toE (xo_bin op_addT sem_add xe_str (xe_callTy cr_str sem_str (by rfl) T.n_str (by decide +kernel) (XE.toB (xe_callB cr_len sem_len (by rfl) T.n_len (by decide +kernel) (xb_pv (pv 2))))))) (XO.toE (xo_sl (xe_pv (pv 4)) xp_none (xp_some xe_int)))))) (fun _ _ _ h => h))))
    (xss_one (xs_app (pv 2) (XE.toO (xe_pv (pv 4)))))))))
    (xss_one (xs_retV (pv 2)))))
theorem ok__law_places (T : Txt K mg) (G__law_place : FnOk P w K mg base CX0 2 T.a__law_place T.fd__law_place ["state"] (liftSp K sp__law_place)) (G__law_draw : FnOk P w K mg base CX0 1 T.a__law_draw T.fd__law_draw ["state", "many"] (liftSp K sp__law_draw)) : FnOk P w K mg base CX0 3 T.a__law_places T.fd__law_places ["state", "many"] (liftSp K sp__law_places) :=
  fn_tree T.F__law_places sc__law_places len__law_places (body__law_places T G__law_place G__law_draw) does__law_places
theorem body__law_form (T : Txt K mg) (G__law_draw : FnOk P w K mg base CX0 1 T.a__law_draw T.fd__law_draw ["state", "many"] (liftSp K sp__law_draw)) (cdv : Value) (A : Around) (outer : List Env) (s : Shared) (H : Hp) (E : XK) (hr : Room 1 (A.deeper (envOfC "_law_form" (defScope s__law_form) s.heap.objs.size T.a__law_form cdv))) :
    XSs (cxOf CX0 P w K mg base N__law_form "_law_form" (defScope s__law_form) T.a__law_form cdv A outer s H E).nox (defBody s__law_form) wb__law_form :=
  (xss_cons (xs_set (i := 3) (ps_set (i := 3) sc__law_form.nd rfl (.inl rfl) (XO.pe (xo_lst xao_nil))) (fun _ _ _ h => h))
    (xss_cons (xs_for PassesOwn.never (by rfl) (xi_any (XO.toE (xo_callB (cr_sortS rfl) sem_sortS (by rfl) T.n_sorted (by decide +kernel) (xe_pv (pv 1))))) (xg_name (i := 4) (pg_name sc__law_form.nd rfl (.inl rfl))) (xss_cons (xs_set (i := 5) (ps_set (i := 5) sc__law_form.nd rfl (.inl rfl) (XO.pe (XE.toO (xe_ix (XO.toE (xo_lst (xao_cons (XE.toO xe_int) (xao_cons (XE.toO xe_int) (xao_cons (xo_bin op_sub sem_sub (xe_pv (pv 2)) xe_int) (xao_cons (xo_callS (i := 0) G__law_draw (hr.mono (by decide)) (by rfl) T.g__law_draw T.F__law_draw.kp (b__law_draw T) (pv 0) (xa_cons (xe_pv (pv 2)) xa_nil)) xao_nil)))))) (XO.toE (xo_callS (i := 0) G__law_draw (hr.mono (by decide)) (by rfl) T.g__law_draw T.F__law_draw.kp (b__law_draw T) (pv 0) (xa_cons xe_int xa_nil))))))) (fun _ _ _ h => h))
    (xss_one (xs_if (xt_cmpL (i := 5) op_gtT' sem_gt (pv 5) (XE.toB xe_int)) (xss_one (xs_app (pv 3) (XE.toO (xe_tup (xa_cons (xe_pv (pv 4)) (xa_cons (xe_pv (pv 5)) xa_nil)))))) xss_nil))))
    (xss_one (xs_ret (XE.toO (xe_tup (xa_cons (xe_ix (XO.toE (xo_lst (xao_cons (XE.toO xe_int) (xao_cons (XE.toO xe_int) (xao_cons (xo_bin op_sub sem_sub (xe_pv (pv 2)) xe_int) (xao_cons (xo_callS (i := 0) G__law_draw (hr.mono (by decide)) (by rfl) T.g__law_draw T.F__law_draw.kp (b__law_draw T) (pv 0) (xa_cons (xe_pv (pv 2)) xa_nil)) xao_nil)))))) (XO.toE (xo_callS (i := 0) G__law_draw (hr.mono (by decide)) (by rfl) T.g__law_draw T.F__law_draw.kp (b__law_draw T) (pv 0) (xa_cons xe_int xa_nil)))) (xa_cons (XO.toE (xo_callTy call_tuple_of sem_tuple (by rfl) T.n_tuple (by decide +kernel) (xe_pv (pv 3)))) xa_nil))))))))
theorem ok__law_form (T : Txt K mg) (G__law_draw : FnOk P w K mg base CX0 1 T.a__law_draw T.fd__law_draw ["state", "many"] (liftSp K sp__law_draw)) : FnOk P w K mg base CX0 2 T.a__law_form T.fd__law_form ["state", "places", "q"] (liftSp K sp__law_form) :=
  fn_tree T.F__law_form sc__law_form len__law_form (body__law_form T G__law_draw) does__law_form
theorem body_new_form (T : Txt K mg) (cdv : Value) (A : Around) (outer : List Env) (s : Shared) (H : Hp) (E : XK) (hr : Room 0 (A.deeper (envOfC "new_form" (defScope s_new_form) s.heap.objs.size T.a_new_form cdv))) :
    XSs (cxOf CX0 P w K mg base N_new_form "new_form" (defScope s_new_form) T.a_new_form cdv A outer s H E).nox (defBody s_new_form) wb_new_form :=
  (xss_cons (xs_set (i := 3) (ps_set (i := 3) sc_new_form.nd rfl (.inr rfl) (XO.pe xo_dct0)) (fun _ _ _ h => h))
    (xss_cons (xs_for PassesOwn.never (by rfl) (xi_any (xe_pv (pv 1))) (xg_tup rfl (xgs_cons (xg_name (i := 4) (pg_name sc_new_form.nd rfl (.inl rfl))) (xgs_cons (xg_name (i := 5) (pg_name sc_new_form.nd rfl (.inl rfl))) xgs_nil))) (xss_one (xs_setK (i := 3) hr.units (pv 3) (xe_pv (pv 4)) (XO.toE (xo_bin op_mod sem_mod (XO.toE (xo_bin op_addT sem_add (xe_get2 (i := 3) hr.units (pv 3) (xe_pv (pv 4)) xe_int) (xe_pv (pv 5)))) (xe_pv (pv 2)))))))
    (xss_one (xs_ret (XE.toO (xe_tup (xa_cons (XO.toE (xo_bin op_mod sem_mod (xe_pv (pv 0)) (xe_pv (pv 2)))) (xa_cons (XO.toE (xo_callTy call_tuple_of sem_tuple (by rfl) T.n_tuple (by decide +kernel) (XO.toE (xo_lc (own := [("place", 4)]) (by rfl) sc_new_form.nd (xi_any (XO.toE (xo_callB (cr_sortS rfl) sem_sortS (by rfl) T.n_sorted (by decide +kernel) (xe_pv (pv 3))))) (blkOk_by (own := [("place", 4)]) (N := N_new_form) (sc := defScope s_new_form) (by decide +kernel)) (fun _ _ _ _ _ => (xg_name (i := 4) (pg_name sc_new_form.nd rfl (.inl rfl)))) (fun _ _ _ _ _ => (xts_one (xt_cmp op_gtT' sem_gt (xe_ixD (i := 3) hr.units (pv 3) (xe_pv (pv 4))) (XE.toB xe_int)))) (fun _ _ _ _ _ => (XE.toO (xe_tup (xa_cons (xe_pv (pv 4)) (xa_cons (xe_ixD (i := 3) hr.units (pv 3) (xe_pv (pv 4))) xa_nil))))) (by decide))))) xa_nil))))))))
theorem ok_new_form (T : Txt K mg) : FnOk P w K mg base CX0 1 T.a_new_form T.fd_new_form ["n", "pairs", "p"] (liftSp K sp_new_form) :=
  fn_tree T.F_new_form sc_new_form len_new_form (body_new_form T) does_new_form
theorem body__law_rows (T : Txt K mg) (cdv : Value) (A : Around) (outer : List Env) (s : Shared) (H : Hp) (E : XK) (hr : Room 0 (A.deeper (envOfC "_law_rows" (defScope s__law_rows) s.heap.objs.size T.a__law_rows cdv))) :
    XSs (cxOf CX0 P w K mg base N__law_rows "_law_rows" (defScope s__law_rows) T.a__law_rows cdv A outer s H E).nox (defBody s__law_rows) wb__law_rows :=
  (xss_cons (xs_set (i := 2) (ps_set (i := 2) sc__law_rows.nd rfl (.inl rfl) (XO.pe (xo_lst (xao_cons (XE.toO (xe_tup xa_nil)) xao_nil)))) (fun _ _ _ h => h))
    (xss_cons (xs_for PassesOwn.never (by rfl) (xi_rng1 (by rfl) T.n_range (xe_pv (pv 0))) (xg_name (i := 3) (pg_name sc__law_rows.nd rfl (.inl rfl))) (xss_cons (xs_set (i := 4) (ps_set (i := 4) sc__law_rows.nd rfl (.inl rfl) (XO.pe (xo_lst xao_nil))) (fun _ _ _ h => h))
    (xss_cons (xs_for PassesOwn.never (by rfl) (xi_rng1 (by rfl) T.n_range (xe_pv (pv 1))) (xg_name (i := 5) (pg_name sc__law_rows.nd rfl (.inr rfl))) (xss_one (xs_set (i := 4) (ps_set (i := 4) sc__law_rows.nd rfl (.inl rfl) (XO.pe (xo_bin op_addT sem_add (xe_pv (pv 4)) (XO.toE (xo_lc (own := [("row", 6)]) (by rfl) sc__law_rows.nd (xi_any (xe_pv (pv 2))) (blkOk_by (own := [("row", 6)]) (N := N__law_rows) (sc := defScope s__law_rows) (by decide +kernel)) (fun _ _ _ _ _ => (xg_name (i := 6) (pg_name sc__law_rows.nd rfl (.inl rfl)))) (fun _ _ _ _ _ => xts_nil) (fun _ _ _ _ _ => (xo_bin op_addT sem_add (xe_pv (pv 6)) (xe_tup (xa_cons (xe_pv (pv 5)) xa_nil)))) (by decide)))))) (fun _ _ _ h => h))))
    (xss_one (xs_set (i := 2) (ps_set (i := 2) sc__law_rows.nd rfl (.inl rfl) (XO.pe (XE.toO (xe_pv (pv 4))))) (fun _ _ _ h => h))))))
    (xss_one (xs_retV (pv 2)))))
theorem ok__law_rows (T : Txt K mg) : FnOk P w K mg base CX0 1 T.a__law_rows T.fd__law_rows ["many", "q"] (liftSp K sp__law_rows) :=
  fn_tree T.F__law_rows sc__law_rows len__law_rows (body__law_rows T) does__law_rows
theorem body_worth_of (T : Txt K mg) (cdv : Value) (A : Around) (outer : List Env) (s : Shared) (H : Hp) (E : XK) (hr : Room 0 (A.deeper (envOfC "worth_of" (defScope s_worth_of) s.heap.objs.size T.a_worth_of cdv))) :
    XSs (cxOf CX0 P w K mg base N_worth_of "worth_of" (defScope s_worth_of) T.a_worth_of cdv A outer s H E).nox (defBody s_worth_of) wb_worth_of :=
  (xss_cons (xs_asg (ps_asg (XE.pe (xe_pv (pv 0))) (XG.pg (xg_tup rfl (xgs_cons (xg_name (i := 3) (pg_name sc_worth_of.nd rfl (.inl rfl))) (xgs_cons (xg_name (i := 4) (pg_name sc_worth_of.nd rfl (.inl rfl))) xgs_nil))))))
    (xss_one (xs_ret (xo_bin op_mod sem_mod (xe_sumS (by rfl) (by rfl) T.n_sum (XO.toE (xo_lc (own := [("place", 5), ("times", 6)]) (by rfl) sc_worth_of.nd (xi_any (xe_pv (pv 4))) (blkOk_by (own := [("place", 5), ("times", 6)]) (N := N_worth_of) (sc := defScope s_worth_of) (by decide +kernel)) (fun _ _ _ _ _ => (xg_tup rfl (xgs_cons (xg_name (i := 5) (pg_name sc_worth_of.nd rfl (.inl rfl))) (xgs_cons (xg_name (i := 6) (pg_name sc_worth_of.nd rfl (.inl rfl))) xgs_nil)))) (fun _ _ _ _ _ => xts_nil) (fun _ _ _ _ _ => (xo_bin op_mulT sem_mul (xe_pv (pv 6)) (xe_get2 (i := 1) hr.units (pv 1) (xe_pv (pv 5)) xe_int))) (by decide))) (xe_pv (pv 3))) (xe_pv (pv 2))))))
theorem ok_worth_of (T : Txt K mg) : FnOk P w K mg base CX0 1 T.a_worth_of T.fd_worth_of ["form", "worths", "p"] (liftSp K sp_worth_of) :=
  fn_tree T.F_worth_of sc_worth_of len_worth_of (body_worth_of T) does_worth_of
theorem body_sum_of (T : Txt K mg) (G_new_form : FnOk P w K mg base CX0 1 T.a_new_form T.fd_new_form ["n", "pairs", "p"] (liftSp K sp_new_form)) (cdv : Value) (A : Around) (outer : List Env) (s : Shared) (H : Hp) (E : XK) (hr : Room 1 (A.deeper (envOfC "sum_of" (defScope s_sum_of) s.heap.objs.size T.a_sum_of cdv))) :
    XSs (cxOf CX0 P w K mg base N_sum_of "sum_of" (defScope s_sum_of) T.a_sum_of cdv A outer s H E).nox (defBody s_sum_of) wb_sum_of :=
  (xss_one (xs_ret (xo_call G_new_form (hr.mono (by decide)) (by rfl) T.g_new_form T.F_new_form.kp (b_new_form T) (xa_cons (XO.toE (xo_bin op_addT sem_add (xe_ixL (i := 0) (pv 0) xe_int) (xe_ixL (i := 1) (pv 1) xe_int))) (xa_cons (XO.toE (xo_callTy call_list_of sem_list (by rfl) T.n_list (by decide +kernel) (XO.toE (xo_bin op_addT sem_add (xe_ixL (i := 0) (pv 0) xe_int) (xe_ixL (i := 1) (pv 1) xe_int))))) (xa_cons (xe_pv (pv 2)) xa_nil))))))
theorem ok_sum_of (T : Txt K mg) (G_new_form : FnOk P w K mg base CX0 1 T.a_new_form T.fd_new_form ["n", "pairs", "p"] (liftSp K sp_new_form)) : FnOk P w K mg base CX0 2 T.a_sum_of T.fd_sum_of ["a", "b", "p"] (liftSp K sp_sum_of) :=
  fn_tree T.F_sum_of sc_sum_of len_sum_of (body_sum_of T G_new_form) does_sum_of
theorem body_times_of (T : Txt K mg) (G_new_form : FnOk P w K mg base CX0 1 T.a_new_form T.fd_new_form ["n", "pairs", "p"] (liftSp K sp_new_form)) (cdv : Value) (A : Around) (outer : List Env) (s : Shared) (H : Hp) (E : XK) (hr : Room 1 (A.deeper (envOfC "times_of" (defScope s_times_of) s.heap.objs.size T.a_times_of cdv))) :
    XSs (cxOf CX0 P w K mg base N_times_of "times_of" (defScope s_times_of) T.a_times_of cdv A outer s H E).nox (defBody s_times_of) wb_times_of :=
  (xss_one (xs_ret (xo_call G_new_form (hr.mono (by decide)) (by rfl) T.g_new_form T.F_new_form.kp (b_new_form T) (xa_cons (XO.toE (xo_bin op_mulT sem_mul (xe_ixL (i := 0) (pv 0) xe_int) (xe_pv (pv 1)))) (xa_cons (XO.toE (xo_lc (own := [("place", 3), ("times", 4)]) (by rfl) sc_times_of.nd (xi_any (xe_ixL (i := 0) (pv 0) xe_int)) (blkOk_by (own := [("place", 3), ("times", 4)]) (N := N_times_of) (sc := defScope s_times_of) (by decide +kernel)) (fun _ _ _ _ _ => (xg_tup rfl (xgs_cons (xg_name (i := 3) (pg_name sc_times_of.nd rfl (.inl rfl))) (xgs_cons (xg_name (i := 4) (pg_name sc_times_of.nd rfl (.inl rfl))) xgs_nil)))) (fun _ _ _ _ _ => xts_nil) (fun _ _ _ _ _ => (XE.toO (xe_tup (xa_cons (xe_pv (pv 3)) (xa_cons (XO.toE (xo_bin op_mulT sem_mul (xe_pv (pv 4)) (xe_pv (pv 1)))) xa_nil))))) (by decide))) (xa_cons (xe_pv (pv 2)) xa_nil))))))
theorem ok_times_of (T : Txt K mg) (G_new_form : FnOk P w K mg base CX0 1 T.a_new_form T.fd_new_form ["n", "pairs", "p"] (liftSp K sp_new_form)) : FnOk P w K mg base CX0 2 T.a_times_of T.fd_times_of ["a", "n", "p"] (liftSp K sp_times_of) :=
  fn_tree T.F_times_of sc_times_of len_times_of (body_times_of T G_new_form) does_times_of
theorem body_put_in (T : Txt K mg) (G_sum_of : FnOk P w K mg base CX0 2 T.a_sum_of T.fd_sum_of ["a", "b", "p"] (liftSp K sp_sum_of)) (G_times_of : FnOk P w K mg base CX0 2 T.a_times_of T.fd_times_of ["a", "n", "p"] (liftSp K sp_times_of)) (cdv : Value) (A : Around) (outer : List Env) (s : Shared) (H : Hp) (E : XK) (hr : Room 2 (A.deeper (envOfC "put_in" (defScope s_put_in) s.heap.objs.size T.a_put_in cdv))) :
    XSs (cxOf CX0 P w K mg base N_put_in "put_in" (defScope s_put_in) T.a_put_in cdv A outer s H E).nox (defBody s_put_in) wb_put_in :=
  (xss_cons (xs_asg (ps_asg (XE.pe (xe_pv (pv 0))) (XG.pg (xg_tup rfl (xgs_cons (xg_name (i := 3) (pg_name sc_put_in.nd rfl (.inl rfl))) (xgs_cons (xg_name (i := 4) (pg_name sc_put_in.nd rfl (.inl rfl))) xgs_nil))))))
    (xss_cons (xs_set (i := 5) (ps_set (i := 5) sc_put_in.nd rfl (.inl rfl) (XO.pe (XE.toO (xe_tup (xa_cons (xe_pv (pv 3)) (xa_cons (xe_tup xa_nil) xa_nil)))))) (fun _ _ _ h => h))
    (xss_cons (xs_for PassesOwn.never (by rfl) (xi_any (xe_pv (pv 4))) (xg_tup rfl (xgs_cons (xg_name (i := 6) (pg_name sc_put_in.nd rfl (.inl rfl))) (xgs_cons (xg_name (i := 7) (pg_name sc_put_in.nd rfl (.inl rfl))) xgs_nil))) (xss_one (xs_set (i := 5) (ps_set (i := 5) sc_put_in.nd rfl (.inl rfl) (XO.pe (xo_call G_sum_of (hr.mono (by decide)) (by rfl) T.g_sum_of T.F_sum_of.kp (b_sum_of T) (xa_cons (xe_pv (pv 5)) (xa_cons (XO.toE (xo_call G_times_of (hr.mono (by decide)) (by rfl) T.g_times_of T.F_times_of.kp (b_times_of T) (xa_cons (xe_get2 (i := 1) hr.units (pv 1) (xe_pv (pv 6)) (xe_tup (xa_cons xe_int (xa_cons (xe_tup (xa_cons (xe_tup (xa_cons (xe_pv (pv 6)) (xa_cons xe_int xa_nil))) xa_nil)) xa_nil)))) (xa_cons (xe_pv (pv 7)) (xa_cons (xe_pv (pv 2)) xa_nil))))) (xa_cons (xe_pv (pv 2)) xa_nil)))))) (fun _ _ _ h => h))))
    (xss_one (xs_retV (pv 5))))))
theorem ok_put_in (T : Txt K mg) (G_sum_of : FnOk P w K mg base CX0 2 T.a_sum_of T.fd_sum_of ["a", "b", "p"] (liftSp K sp_sum_of)) (G_times_of : FnOk P w K mg base CX0 2 T.a_times_of T.fd_times_of ["a", "n", "p"] (liftSp K sp_times_of)) : FnOk P w K mg base CX0 3 T.a_put_in T.fd_put_in ["form", "forms", "p"] (liftSp K sp_put_in) :=
  fn_tree T.F_put_in sc_put_in len_put_in (body_put_in T G_sum_of G_times_of) does_put_in
theorem body__law_held (T : Txt K mg) (G_worth_of : FnOk P w K mg base CX0 1 T.a_worth_of T.fd_worth_of ["form", "worths", "p"] (liftSp K sp_worth_of)) (G_sum_of : FnOk P w K mg base CX0 2 T.a_sum_of T.fd_sum_of ["a", "b", "p"] (liftSp K sp_sum_of)) (G_times_of : FnOk P w K mg base CX0 2 T.a_times_of T.fd_times_of ["a", "n", "p"] (liftSp K sp_times_of)) (G_put_in : FnOk P w K mg base CX0 3 T.a_put_in T.fd_put_in ["form", "forms", "p"] (liftSp K sp_put_in)) (cdv : Value) (A : Around) (outer : List Env) (s : Shared) (H : Hp) (E : XK) (hr : Room 3 (A.deeper (envOfC "_law_held" (defScope s__law_held) s.heap.objs.size T.a__law_held cdv))) :
    XSs (cxOf CX0 P w K mg base N__law_held "_law_held" (defScope s__law_held) T.a__law_held cdv A outer s H E).nox (defBody s__law_held) wb__law_held :=
  (xss_cons (xs_par (i := 6) (j := 7) (ps_par (by rfl) sc__law_held.nd rfl rfl (by decide) rfl rfl (XA.pa (xa_cons (XO.toE (xo_call G_worth_of (hr.mono (by decide)) (by rfl) T.g_worth_of T.F_worth_of.kp (b_worth_of T) (xa_cons (xe_pv (pv 0)) (xa_cons (xe_pv (pv 4)) (xa_cons (xe_pv (pv 5)) xa_nil))))) (xa_cons (XO.toE (xo_call G_worth_of (hr.mono (by decide)) (by rfl) T.g_worth_of T.F_worth_of.kp (b_worth_of T) (xa_cons (xe_pv (pv 1)) (xa_cons (xe_pv (pv 4)) (xa_cons (xe_pv (pv 5)) xa_nil))))) xa_nil))) (by rfl)))
    (xss_cons (xs_if (xt_cmp (op_neT hr.units) sem_ne (XO.toE (xo_call G_worth_of (hr.mono (by decide)) (by rfl) T.g_worth_of T.F_worth_of.kp (b_worth_of T) (xa_cons (XO.toE (xo_call G_sum_of (hr.mono (by decide)) (by rfl) T.g_sum_of T.F_sum_of.kp (b_sum_of T) (xa_cons (xe_pv (pv 0)) (xa_cons (xe_pv (pv 1)) (xa_cons (xe_pv (pv 5)) xa_nil))))) (xa_cons (xe_pv (pv 4)) (xa_cons (xe_pv (pv 5)) xa_nil))))) (XE.toB (XO.toE (xo_bin op_mod sem_mod (XO.toE (xo_bin op_addT sem_add (xe_pv (pv 6)) (xe_pv (pv 7)))) (xe_pv (pv 5)))))) (xss_one (xs_ret (XE.toO xe_bl))) xss_nil)
    (xss_cons (xs_if (xt_cmp (op_neT hr.units) sem_ne (XO.toE (xo_call G_worth_of (hr.mono (by decide)) (by rfl) T.g_worth_of T.F_worth_of.kp (b_worth_of T) (xa_cons (XO.toE (xo_call G_times_of (hr.mono (by decide)) (by rfl) T.g_times_of T.F_times_of.kp (b_times_of T) (xa_cons (xe_pv (pv 0)) (xa_cons (xe_pv (pv 2)) (xa_cons (xe_pv (pv 5)) xa_nil))))) (xa_cons (xe_pv (pv 4)) (xa_cons (xe_pv (pv 5)) xa_nil))))) (XE.toB (XO.toE (xo_bin op_mod sem_mod (XO.toE (xo_bin op_mulT sem_mul (xe_pv (pv 6)) (xe_pv (pv 2)))) (xe_pv (pv 5)))))) (xss_one (xs_ret (XE.toO xe_bl))) xss_nil)
    (xss_cons (xs_set (i := 8) (ps_set (i := 8) sc__law_held.nd rfl (.inl rfl) (XO.pe (xo_callTy (call_dictP rfl) sem_dict (by rfl) T.n_dict (by decide +kernel) (XO.toE (xo_lc (own := [("place", 9)]) (by rfl) sc__law_held.nd (xi_any (xe_pv (pv 3))) (blkOk_by (own := [("place", 9)]) (N := N__law_held) (sc := defScope s__law_held) (by decide +kernel)) (fun _ _ _ _ _ => (xg_name (i := 9) (pg_name sc__law_held.nd rfl (.inl rfl)))) (fun _ _ _ _ _ => xts_nil) (fun _ _ _ _ _ => (XE.toO (xe_tup (xa_cons (xe_pv (pv 9)) (xa_cons (XO.toE (xo_call G_worth_of (hr.mono (by decide)) (by rfl) T.g_worth_of T.F_worth_of.kp (b_worth_of T) (xa_cons (xe_ixD (i := 3) hr.units (pv 3) (xe_pv (pv 9))) (xa_cons (xe_pv (pv 4)) (xa_cons (xe_pv (pv 5)) xa_nil))))) xa_nil))))) (by decide)))))) (fun _ _ _ h => h))
    (xss_one (xs_ret (XE.toO (xe_cmp (op_eqT hr.units) sem_eq (XO.toE (xo_call G_worth_of (hr.mono (by decide)) (by rfl) T.g_worth_of T.F_worth_of.kp (b_worth_of T) (xa_cons (XO.toE (xo_call G_put_in (hr.mono (by decide)) (by rfl) T.g_put_in T.F_put_in.kp (b_put_in T) (xa_cons (xe_pv (pv 0)) (xa_cons (xe_pv (pv 3)) (xa_cons (xe_pv (pv 5)) xa_nil))))) (xa_cons (xe_pv (pv 4)) (xa_cons (xe_pv (pv 5)) xa_nil))))) (XE.toB (XO.toE (xo_call G_worth_of (hr.mono (by decide)) (by rfl) T.g_worth_of T.F_worth_of.kp (b_worth_of T) (xa_cons (xe_pv (pv 0)) (xa_cons (xe_pv (pv 8)) (xa_cons (xe_pv (pv 5)) xa_nil))))))))))))))
theorem ok__law_held (T : Txt K mg) (G_worth_of : FnOk P w K mg base CX0 1 T.a_worth_of T.fd_worth_of ["form", "worths", "p"] (liftSp K sp_worth_of)) (G_sum_of : FnOk P w K mg base CX0 2 T.a_sum_of T.fd_sum_of ["a", "b", "p"] (liftSp K sp_sum_of)) (G_times_of : FnOk P w K mg base CX0 2 T.a_times_of T.fd_times_of ["a", "n", "p"] (liftSp K sp_times_of)) (G_put_in : FnOk P w K mg base CX0 3 T.a_put_in T.fd_put_in ["form", "forms", "p"] (liftSp K sp_put_in)) : FnOk P w K mg base CX0 4 T.a__law_held T.fd__law_held ["one", "other", "times", "lots", "held", "q"] (liftSp K sp__law_held) :=
  fn_tree T.F__law_held sc__law_held len__law_held (body__law_held T G_worth_of G_sum_of G_times_of G_put_in) does__law_held
theorem body_is_whole (T : Txt K mg) (cdv : Value) (A : Around) (outer : List Env) (s : Shared) (H : Hp) (E : XK) (hr : Room 0 (A.deeper (envOfC "is_whole" (defScope s_is_whole) s.heap.objs.size T.a_is_whole cdv))) :
    XSs (cxOf CX0 P w K mg base N_is_whole "is_whole" (defScope s_is_whole) T.a_is_whole cdv A outer s H E).nox (defBody s_is_whole) wb_is_whole :=
  (xss_one (xs_ret (XE.toO (xe_and (xe_isi (t := .int) (by rfl) T.n_isinstance (by rfl) T.n_int (by decide +kernel) (xb_pv (pv 0))) (xe_and1 (xe_not (xe_isi (t := .bl) (by rfl) T.n_isinstance (by rfl) T.n_bool (by decide +kernel) (xb_pv (pv 0)))))))))
theorem ok_is_whole (T : Txt K mg) : FnOk P w K mg base CX0 1 T.a_is_whole T.fd_is_whole ["thing"] (liftSp K sp_is_whole) :=
  fn_tree T.F_is_whole sc_is_whole len_is_whole (body_is_whole T) does_is_whole
theorem body_is_number (T : Txt K mg) (G_is_whole : FnOk P w K mg base CX0 1 T.a_is_whole T.fd_is_whole ["thing"] (liftSp K sp_is_whole)) (cdv : Value) (A : Around) (outer : List Env) (s : Shared) (H : Hp) (E : XK) (hr : Room 1 (A.deeper (envOfC "is_number" (defScope s_is_number) s.heap.objs.size T.a_is_number cdv))) :
    XSs (cxOf CX0 P w K mg base N_is_number "is_number" (defScope s_is_number) T.a_is_number cdv A outer s H E).nox (defBody s_is_number) wb_is_number :=
  (xss_one (xs_ret (XE.toO (xe_and (XO.toE (xo_call G_is_whole (hr.mono (by decide)) (by rfl) T.g_is_whole T.F_is_whole.kp (b_is_whole T) (xa_cons (xe_pv (pv 0)) xa_nil))) (xe_and1 (xe_chain op_leT' sem_le op_ltT' sem_lt xe_int (xe_pv (pv 0)) (xe_pv (pv 1))))))))
theorem ok_is_number (T : Txt K mg) (G_is_whole : FnOk P w K mg base CX0 1 T.a_is_whole T.fd_is_whole ["thing"] (liftSp K sp_is_whole)) : FnOk P w K mg base CX0 2 T.a_is_number T.fd_is_number ["thing", "p"] (liftSp K sp_is_number) :=
  fn_tree T.F_is_number sc_is_number len_is_number (body_is_number T G_is_whole) does_is_number
theorem body_is_place (T : Txt K mg) (cdv : Value) (A : Around) (outer : List Env) (s : Shared) (H : Hp) (E : XK) (hr : Room 0 (A.deeper (envOfC "is_place" (defScope s_is_place) s.heap.objs.size T.a_is_place cdv))) :
    XSs (cxOf CX0 P w K mg base N_is_place "is_place" (defScope s_is_place) T.a_is_place cdv A outer s H E).nox (defBody s_is_place) wb_is_place :=
  (xss_cons (xs_if (XW.t (xw_or (xt_not (xt_tru (XE.toB (xe_isi (t := .str) (by rfl) T.n_isinstance (by rfl) T.n_str (by decide +kernel) (xb_pv (pv 0)))))) (xw_or (xt_not (xt_chain op_leT' sem_le op_leT' sem_le xe_int (xe_callB cr_len sem_len (by rfl) T.n_len (by decide +kernel) (xb_pv (pv 0))) (xe_globI (by rfl) T.c_MOST_PLACE))) (XT.o1 (xt_cmp (op_notInD hr.units) (sem_inD true) (xe_ixL (i := 0) (pv 0) xe_int) (XE.toB (xe_globS (by rfl) T.c_LETTERS))))))) (xss_one (xs_ret (XE.toO xe_bl))) xss_nil)
    (xss_one (xs_ret (XE.toO (xe_callB (cr_all rfl) sem_all (by rfl) T.n_all (by decide +kernel) (XE.toB (XO.toE (xo_lc (own := [("sign", 1)]) (by rfl) sc_is_place.nd (xi_any (xe_pv (pv 0))) (blkOk_by (own := [("sign", 1)]) (N := N_is_place) (sc := defScope s_is_place) (by decide +kernel)) (fun _ _ _ _ _ => (xg_name (i := 1) (pg_name sc_is_place.nd rfl (.inl rfl)))) (fun _ _ _ _ _ => xts_nil) (fun _ _ _ _ _ => (XE.toO (xe_or (xe_cmpL (i := 1) (op_inD hr.units) (sem_inD false) (pv 1) (XE.toB (xe_globS (by rfl) T.c_LETTERS))) (xe_or (xe_cmpL (i := 1) (op_inD hr.units) (sem_inD false) (pv 1) (XE.toB (xe_globS (by rfl) T.c_FIGURES))) (xe_and1 (xe_cmpL (i := 1) (op_eqT hr.units) sem_eq (pv 1) (XE.toB xe_str))))))) (by decide)))))))))
theorem ok_is_place (T : Txt K mg) : FnOk P w K mg base CX0 1 T.a_is_place T.fd_is_place ["thing"] (liftSp K sp_is_place) :=
  fn_tree T.F_is_place sc_is_place len_is_place (body_is_place T) does_is_place
theorem body_is_term (T : Txt K mg) (G_is_number : FnOk P w K mg base CX0 2 T.a_is_number T.fd_is_number ["thing", "p"] (liftSp K sp_is_number)) (G_is_place : FnOk P w K mg base CX0 1 T.a_is_place T.fd_is_place ["thing"] (liftSp K sp_is_place)) (cdv : Value) (A : Around) (outer : List Env) (s : Shared) (H : Hp) (E : XK) (hr : Room 2 (A.deeper (envOfC "is_term" (defScope s_is_term) s.heap.objs.size T.a_is_term cdv))) :
    XSs (cxOf CX0 P w K mg base N_is_term "is_term" (defScope s_is_term) T.a_is_term cdv A outer s H E).nox (defBody s_is_term) wb_is_term :=
  (xss_cons (xs_if (XW.t (xw_or (xt_not (xt_tru (XE.toB (xe_isi (t := .tup) (by rfl) T.n_isinstance (by rfl) T.n_tuple (by decide +kernel) (xb_pv (pv 0)))))) (XT.o1 (xt_cmp (op_neT hr.units) sem_ne (xe_callB cr_len sem_len (by rfl) T.n_len (by decide +kernel) (xb_pv (pv 0))) (XE.toB xe_int))))) (xss_one (xs_ret (XE.toO xe_bl))) xss_nil)
    (xss_cons (xs_asg (ps_asg (XE.pe (xe_pv (pv 0))) (XG.pg (xg_tup rfl (xgs_cons (xg_name (i := 2) (pg_name sc_is_term.nd rfl (.inl rfl))) (xgs_cons (xg_name (i := 3) (pg_name sc_is_term.nd rfl (.inl rfl))) xgs_nil))))))
    (xss_one (xs_ret (XE.toO (xe_and (XO.toE (xo_call G_is_place (hr.mono (by decide)) (by rfl) T.g_is_place T.F_is_place.kp (b_is_place T) (xa_cons (xe_pv (pv 2)) xa_nil))) (xe_and (XO.toE (xo_call G_is_number (hr.mono (by decide)) (by rfl) T.g_is_number T.F_is_number.kp (b_is_number T) (xa_cons (xe_pv (pv 3)) (xa_cons (xe_pv (pv 1)) xa_nil)))) (xe_and1 (xe_cmpL (i := 3) op_gtT' sem_gt (pv 3) (XE.toB xe_int))))))))))
theorem ok_is_term (T : Txt K mg) (G_is_number : FnOk P w K mg base CX0 2 T.a_is_number T.fd_is_number ["thing", "p"] (liftSp K sp_is_number)) (G_is_place : FnOk P w K mg base CX0 1 T.a_is_place T.fd_is_place ["thing"] (liftSp K sp_is_place)) : FnOk P w K mg base CX0 3 T.a_is_term T.fd_is_term ["thing", "p"] (liftSp K sp_is_term) :=
  fn_tree T.F_is_term sc_is_term len_is_term (body_is_term T G_is_number G_is_place) does_is_term
theorem body_is_form (T : Txt K mg) (G_is_number : FnOk P w K mg base CX0 2 T.a_is_number T.fd_is_number ["thing", "p"] (liftSp K sp_is_number)) (G_is_term : FnOk P w K mg base CX0 3 T.a_is_term T.fd_is_term ["thing", "p"] (liftSp K sp_is_term)) (cdv : Value) (A : Around) (outer : List Env) (s : Shared) (H : Hp) (E : XK) (hr : Room 3 (A.deeper (envOfC "is_form" (defScope s_is_form) s.heap.objs.size T.a_is_form cdv))) :
    XSs (cxOf CX0 P w K mg base N_is_form "is_form" (defScope s_is_form) T.a_is_form cdv A outer s H E).nox (defBody s_is_form) wb_is_form :=
  (xss_cons (xs_if (XW.t (xw_or (xt_not (xt_tru (XE.toB (xe_isi (t := .tup) (by rfl) T.n_isinstance (by rfl) T.n_tuple (by decide +kernel) (xb_pv (pv 0)))))) (xw_or (xt_cmp (op_neT hr.units) sem_ne (xe_callB cr_len sem_len (by rfl) T.n_len (by decide +kernel) (xb_pv (pv 0))) (XE.toB xe_int)) (XT.o1 (xt_not (xt_tru (XE.toB (XO.toE (xo_call G_is_number (hr.mono (by decide)) (by rfl) T.g_is_number T.F_is_number.kp (b_is_number T) (xa_cons (xe_ixL (i := 0) (pv 0) xe_int) (xa_cons (xe_pv (pv 1)) xa_nil))))))))))) (xss_one (xs_ret (XE.toO xe_bl))) xss_nil)
    (xss_cons (xs_asg (ps_asg (XE.pe (xe_pv (pv 0))) (XG.pg (xg_tup rfl (xgs_cons (xg_name (i := 2) (pg_name sc_is_form.nd rfl (.inl rfl))) (xgs_cons (xg_name (i := 3) (pg_name sc_is_form.nd rfl (.inl rfl))) xgs_nil))))))
    (xss_cons (xs_if (XW.t (xw_or (xt_not (xt_tru (XE.toB (xe_isi (t := .tup) (by rfl) T.n_isinstance (by rfl) T.n_tuple (by decide +kernel) (xb_pv (pv 3)))))) (XT.o1 (xt_not (xt_tru (XE.toB (xe_callB (cr_all rfl) sem_all (by rfl) T.n_all (by decide +kernel) (XE.toB (XO.toE (xo_lc (own := [("term", 4)]) (by rfl) sc_is_form.nd (xi_any (xe_pv (pv 3))) (blkOk_by (own := [("term", 4)]) (N := N_is_form) (sc := defScope s_is_form) (by decide +kernel)) (fun _ _ _ _ _ => (xg_name (i := 4) (pg_name sc_is_form.nd rfl (.inl rfl)))) (fun _ _ _ _ _ => xts_nil) (fun _ _ _ _ _ => (xo_call G_is_term (hr.mono (by decide)) (by rfl) T.g_is_term T.F_is_term.kp (b_is_term T) (xa_cons (xe_pv (pv 4)) (xa_cons (xe_pv (pv 1)) xa_nil)))) (by decide))))))))))) (xss_one (xs_ret (XE.toO xe_bl))) xss_nil)
    (xss_one (xs_ret (XE.toO (xe_callB (cr_all rfl) sem_all (by rfl) T.n_all (by decide +kernel) (XE.toB (XO.toE (xo_lc (own := [("one", 5), ("other", 6)]) (by rfl) sc_is_form.nd (xi_zip (by rfl) T.n_zip (xe_pv (pv 3)) (XO.toE (xo_sl (xe_pv (pv 3)) (xp_some xe_int) xp_none))) (blkOk_by (own := [("one", 5), ("other", 6)]) (N := N_is_form) (sc := defScope s_is_form) (by decide +kernel)) (fun _ _ _ _ _ => (xg_tup rfl (xgs_cons (xg_name (i := 5) (pg_name sc_is_form.nd rfl (.inl rfl))) (xgs_cons (xg_name (i := 6) (pg_name sc_is_form.nd rfl (.inl rfl))) xgs_nil)))) (fun _ _ _ _ _ => xts_nil) (fun _ _ _ _ _ => (XE.toO (xe_cmp op_ltT' sem_lt (xe_ixL (i := 5) (pv 5) xe_int) (XE.toB (xe_ixL (i := 6) (pv 6) xe_int))))) (by decide)))))))))))
theorem ok_is_form (T : Txt K mg) (G_is_number : FnOk P w K mg base CX0 2 T.a_is_number T.fd_is_number ["thing", "p"] (liftSp K sp_is_number)) (G_is_term : FnOk P w K mg base CX0 3 T.a_is_term T.fd_is_term ["thing", "p"] (liftSp K sp_is_term)) : FnOk P w K mg base CX0 4 T.a_is_form T.fd_is_form ["thing", "p"] (liftSp K sp_is_form) :=
  fn_tree T.F_is_form sc_is_form len_is_form (body_is_form T G_is_number G_is_term) does_is_form
theorem body_inverse (T : Txt K mg) (cdv : Value) (A : Around) (outer : List Env) (s : Shared) (H : Hp) (E : XK) (hr : Room 0 (A.deeper (envOfC "inverse" (defScope s_inverse) s.heap.objs.size T.a_inverse cdv))) :
    XSs (cxOf CX0 P w K mg base N_inverse "inverse" (defScope s_inverse) T.a_inverse cdv A outer s H E).nox (defBody s_inverse) wb_inverse :=
  (xss_cons (xs_par3 (i := 2) (j := 3) (l := 4) (ps_par3 (by rfl) sc_inverse.nd rfl rfl rfl (by decide) (by decide) (by decide) rfl rfl rfl (XA.pa (xa_cons xe_int (xa_cons (xe_pv (pv 0)) (xa_cons (XO.toE (xo_bin op_sub sem_sub (xe_pv (pv 1)) xe_int)) xa_nil)))) (by rfl)))
    (xss_cons (xs_while PassesOwn.never (xt_cmpL (i := 4) op_gtT' sem_gt (pv 4) (XE.toB xe_int)) (xss_cons (xs_if (xt_cmp (op_eqT hr.units) sem_eq (XO.toE (xo_bin op_mod sem_mod (xe_pv (pv 4)) xe_int)) (XE.toB xe_int)) (xss_one (xs_set (i := 2) (ps_set (i := 2) sc_inverse.nd rfl (.inl rfl) (XO.pe (xo_bin op_mod sem_mod (XO.toE (xo_bin op_mulT sem_mul (xe_pv (pv 2)) (xe_pv (pv 3)))) (xe_pv (pv 1))))) (fun _ _ _ h => h))) xss_nil)
    (xss_cons (xs_set (i := 3) (ps_set (i := 3) sc_inverse.nd rfl (.inl rfl) (XO.pe (xo_bin op_mod sem_mod (XO.toE (xo_bin op_mulT sem_mul (xe_pv (pv 3)) (xe_pv (pv 3)))) (xe_pv (pv 1))))) (fun _ _ _ h => h))
    (xss_one (xs_set (i := 4) (ps_set (i := 4) sc_inverse.nd rfl (.inl rfl) (XO.pe (xo_bin op_fdivW sem_div (xe_pv (pv 4)) xe_int))) (fun _ _ _ h => h))))))
    (xss_one (xs_ret (xo_bin op_mod sem_mod (xe_pv (pv 2)) (xe_pv (pv 1)))))))
theorem ok_inverse (T : Txt K mg) : FnOk P w K mg base CX0 1 T.a_inverse T.fd_inverse ["n", "p"] (liftSp K sp_inverse) :=
  fn_tree T.F_inverse sc_inverse len_inverse (body_inverse T) does_inverse
theorem body_places_in (T : Txt K mg) (cdv : Value) (A : Around) (outer : List Env) (s : Shared) (H : Hp) (E : XK) (hr : Room 0 (A.deeper (envOfC "places_in" (defScope s_places_in) s.heap.objs.size T.a_places_in cdv))) :
    XSs (cxOf CX0 P w K mg base N_places_in "places_in" (defScope s_places_in) T.a_places_in cdv A outer s H E).nox (defBody s_places_in) wb_places_in :=
  (xss_one (xs_ret (xo_callTy call_tuple_of sem_tuple (by rfl) T.n_tuple (by decide +kernel) (XO.toE (xo_lc (own := [("place", 1), ("times", 2)]) (by rfl) sc_places_in.nd (xi_any (xe_ixL (i := 0) (pv 0) xe_int)) (blkOk_by (own := [("place", 1), ("times", 2)]) (N := N_places_in) (sc := defScope s_places_in) (by decide +kernel)) (fun _ _ _ _ _ => (xg_tup rfl (xgs_cons (xg_name (i := 1) (pg_name sc_places_in.nd rfl (.inl rfl))) (xgs_cons (xg_name (i := 2) (pg_name sc_places_in.nd rfl (.inl rfl))) xgs_nil)))) (fun _ _ _ _ _ => xts_nil) (fun _ _ _ _ _ => (XE.toO (xe_pv (pv 1)))) (by decide))))))
theorem ok_places_in (T : Txt K mg) : FnOk P w K mg base CX0 1 T.a_places_in T.fd_places_in ["form"] (liftSp K sp_places_in) :=
  fn_tree T.F_places_in sc_places_in len_places_in (body_places_in T) does_places_in
theorem body_term_in (T : Txt K mg) (cdv : Value) (A : Around) (outer : List Env) (s : Shared) (H : Hp) (E : XK) (hr : Room 0 (A.deeper (envOfC "term_in" (defScope s_term_in) s.heap.objs.size T.a_term_in cdv))) :
    XSs (cxOf CX0 P w K mg base N_term_in "term_in" (defScope s_term_in) T.a_term_in cdv A outer s H E).nox (defBody s_term_in) wb_term_in :=
  (xss_cons (xs_set (i := 1) (ps_set (i := 1) sc_term_in.nd rfl (.inl rfl) (XO.pe (xo_bin op_sub sem_sub (xe_callB cr_len sem_len (by rfl) T.n_len (by decide +kernel) (xb_pv (pv 0))) (xe_callB cr_len sem_len (by rfl) T.n_len (by decide +kernel) (XE.toB (xe_lstrip (xe_pv (pv 0)) (xe_globS (by rfl) T.c_FIGURES))))))) (fun _ _ _ h => h))
    (xss_cons (xs_par (i := 2) (j := 3) (ps_par (by rfl) sc_term_in.nd rfl rfl (by decide) rfl rfl (XA.pa (xa_cons (XO.toE (xo_sl (xe_pv (pv 0)) xp_none (xp_some (xe_pv (pv 1))))) (xa_cons (XO.toE (xo_sl (xe_pv (pv 0)) (xp_some (xe_pv (pv 1))) xp_none)) xa_nil))) (by rfl)))
    (xss_cons (xs_if (XW.t (xw_or (xt_cmpL (i := 0) (op_eqT hr.units) sem_eq (pv 0) (XE.toB xe_str)) (XT.o1 (xt_cmpL (i := 1) op_gtT' sem_gt (pv 1) (XE.toB (xe_globI (by rfl) T.c_MOST_FIGURES)))))) (xss_one (xs_ret (XE.toO xe_non))) xss_nil)
    (xss_one (xs_ret (XE.toO (xe_tup (xa_cons (xe_pv (pv 3)) (xa_cons (xe_if (xt_cmpL (i := 2) (op_neT hr.units) sem_ne (pv 2) (XE.toB xe_str)) (xe_callTy call_int_str sem_intS (by rfl) T.n_int (by decide +kernel) (xb_pv (pv 2))) xe_int) xa_nil)))))))))
theorem ok_term_in (T : Txt K mg) : FnOk P w K mg base CX0 1 T.a_term_in T.fd_term_in ["piece"] (liftSp K sp_term_in) :=
  fn_tree T.F_term_in sc_term_in len_term_in (body_term_in T) does_term_in
theorem body_term_text (T : Txt K mg) (cdv : Value) (A : Around) (outer : List Env) (s : Shared) (H : Hp) (E : XK) (hr : Room 0 (A.deeper (envOfC "term_text" (defScope s_term_text) s.heap.objs.size T.a_term_text cdv))) :
    XSs (cxOf CX0 P w K mg base N_term_text "term_text" (defScope s_term_text) T.a_term_text cdv A outer s H E).nox (defBody s_term_text) wb_term_text :=
  (xss_one (xs_ret (xo_if (xt_cmpL (i := 1) (op_eqT hr.units) sem_eq (pv 1) (XE.toB xe_int)) (xo_mov (pv 0)) (XE.toO (xe_joined (XJ.cons (xe_fmt (xe_pv (pv 1))) (XJ.cons (xe_fmt (xe_pv (pv 0))) XJ.nil)))))))
theorem ok_term_text (T : Txt K mg) : FnOk P w K mg base CX0 1 T.a_term_text T.fd_term_text ["place", "times"] (liftSp K sp_term_text) :=
  fn_tree T.F_term_text sc_term_text len_term_text (body_term_text T) does_term_text
theorem body_form_text (T : Txt K mg) (G_term_text : FnOk P w K mg base CX0 1 T.a_term_text T.fd_term_text ["place", "times"] (liftSp K sp_term_text)) (cdv : Value) (A : Around) (outer : List Env) (s : Shared) (H : Hp) (E : XK) (hr : Room 1 (A.deeper (envOfC "form_text" (defScope s_form_text) s.heap.objs.size T.a_form_text cdv))) :
    XSs (cxOf CX0 P w K mg base N_form_text "form_text" (defScope s_form_text) T.a_form_text cdv A outer s H E).nox (defBody s_form_text) wb_form_text :=
  (xss_cons (xs_asg (ps_asg (XE.pe (xe_pv (pv 0))) (XG.pg (xg_tup rfl (xgs_cons (xg_name (i := 1) (pg_name sc_form_text.nd rfl (.inl rfl))) (xgs_cons (xg_name (i := 2) (pg_name sc_form_text.nd rfl (.inl rfl))) xgs_nil))))))
    (xss_cons (xs_set (i := 3) (ps_set (i := 3) sc_form_text.nd rfl (.inl rfl) (XO.pe (xo_if (XW.t (xw_or (xt_cmpL (i := 1) (op_neT hr.units) sem_ne (pv 1) (XE.toB xe_int)) (XT.o1 (xt_cmpL (i := 2) (op_eqT hr.units) sem_eq (pv 2) (XE.toB (xe_tup xa_nil)))))) (xo_lst (xao_cons (XE.toO (xe_callTy cr_str sem_str (by rfl) T.n_str (by decide +kernel) (xb_pv (pv 1)))) xao_nil)) (xo_lst xao_nil)))) (fun _ _ _ h => h))
    (xss_one (xs_ret (XE.toO (xe_join xe_str (XO.toE (xo_bin op_addT sem_add (xe_pv (pv 3)) (XO.toE (xo_lc (own := [("place", 4), ("times", 5)]) (by rfl) sc_form_text.nd (xi_any (xe_pv (pv 2))) (blkOk_by (own := [("place", 4), ("times", 5)]) (N := N_form_text) (sc := defScope s_form_text) (by decide +kernel)) (fun _ _ _ _ _ => (xg_tup rfl (xgs_cons (xg_name (i := 4) (pg_name sc_form_text.nd rfl (.inl rfl))) (xgs_cons (xg_name (i := 5) (pg_name sc_form_text.nd rfl (.inl rfl))) xgs_nil)))) (fun _ _ _ _ _ => xts_nil) (fun _ _ _ _ _ => (xo_call G_term_text (hr.mono (by decide)) (by rfl) T.g_term_text T.F_term_text.kp (b_term_text T) (xa_cons (xe_pv (pv 4)) (xa_cons (xe_pv (pv 5)) xa_nil)))) (by decide)))))))))))
theorem ok_form_text (T : Txt K mg) (G_term_text : FnOk P w K mg base CX0 1 T.a_term_text T.fd_term_text ["place", "times"] (liftSp K sp_term_text)) : FnOk P w K mg base CX0 2 T.a_form_text T.fd_form_text ["form"] (liftSp K sp_form_text) :=
  fn_tree T.F_form_text sc_form_text len_form_text (body_form_text T G_term_text) does_form_text
theorem body_read_form (T : Txt K mg) (G_term_in : FnOk P w K mg base CX0 1 T.a_term_in T.fd_term_in ["piece"] (liftSp K sp_term_in)) (G_is_form : FnOk P w K mg base CX0 4 T.a_is_form T.fd_is_form ["thing", "p"] (liftSp K sp_is_form)) (G_form_text : FnOk P w K mg base CX0 2 T.a_form_text T.fd_form_text ["form"] (liftSp K sp_form_text)) (cdv : Value) (A : Around) (outer : List Env) (s : Shared) (H : Hp) (E : XK) (hr : Room 4 (A.deeper (envOfC "read_form" (defScope s_read_form) s.heap.objs.size T.a_read_form cdv))) :
    XSs (cxOf CX0 P w K mg base N_read_form "read_form" (defScope s_read_form) T.a_read_form cdv A outer s H E).nox (defBody s_read_form) wb_read_form :=
  (xss_cons (xs_if (xt_not (xt_tru (XE.toB (xe_isi (t := .str) (by rfl) T.n_isinstance (by rfl) T.n_str (by decide +kernel) (xb_pv (pv 0)))))) (xss_one (xs_ret (XE.toO xe_non))) xss_nil)
    (xss_cons (xs_lc (i := 2) (own := [("piece", 5)]) (by rfl) sc_read_form.nd rfl rfl (sw_true rfl rfl rfl (by decide +kernel)) (xi_any (XO.toE (xo_split (xe_pv (pv 0)) xe_str))) (blkOk_by (own := [("piece", 5)]) (N := N_read_form) (sc := defScope s_read_form) (by decide +kernel)) (fun _ _ _ _ _ => (xg_name (i := 5) (pg_name sc_read_form.nd rfl (.inl rfl)))) (fun _ _ _ _ _ => xts_nil) (fun _ _ _ _ _ => (xo_call G_term_in (hr.mono (by decide)) (by rfl) T.g_term_in T.F_term_in.kp (b_term_in T) (xa_cons (xe_pv (pv 5)) xa_nil))) (by decide))
    (xss_cons (xs_if (xt_cmp (op_noneInD hr.units) sem_noneIn xe_non (xb_pv (pv 2))) (xss_one (xs_ret (XE.toO xe_non))) xss_nil)
    (xss_cons (xs_set (i := 3) (ps_set (i := 3) sc_read_form.nd rfl (.inl rfl) (XO.pe (XE.toO (xe_callB (cr_sum rfl) sem_sum (by rfl) T.n_sum (by decide +kernel) (XE.toB (XO.toE (xo_lc (own := [("place", 6), ("times", 7)]) (by rfl) sc_read_form.nd (xi_any (xe_pv (pv 2))) (blkOk_by (own := [("place", 6), ("times", 7)]) (N := N_read_form) (sc := defScope s_read_form) (by decide +kernel)) (fun _ _ _ _ _ => (xg_tup rfl (xgs_cons (xg_name (i := 6) (pg_name sc_read_form.nd rfl (.inl rfl))) (xgs_cons (xg_name (i := 7) (pg_name sc_read_form.nd rfl (.inl rfl))) xgs_nil)))) (fun _ _ _ _ _ => (xts_one (xt_cmpL (i := 6) (op_eqT hr.units) sem_eq (pv 6) (XE.toB xe_str)))) (fun _ _ _ _ _ => (XE.toO (xe_pv (pv 7)))) (by decide)))))))) (fun _ _ _ h => h))
    (xss_cons (xs_set (i := 4) (ps_set (i := 4) sc_read_form.nd rfl (.inl rfl) (XO.pe (XE.toO (xe_tup (xa_cons (xe_pv (pv 3)) (xa_cons (XO.toE (xo_callTy call_tuple_of sem_tuple (by rfl) T.n_tuple (by decide +kernel) (XO.toE (xo_lc (own := [("place", 6), ("times", 7)]) (by rfl) sc_read_form.nd (xi_any (xe_pv (pv 2))) (blkOk_by (own := [("place", 6), ("times", 7)]) (N := N_read_form) (sc := defScope s_read_form) (by decide +kernel)) (fun _ _ _ _ _ => (xg_tup rfl (xgs_cons (xg_name (i := 6) (pg_name sc_read_form.nd rfl (.inl rfl))) (xgs_cons (xg_name (i := 7) (pg_name sc_read_form.nd rfl (.inl rfl))) xgs_nil)))) (fun _ _ _ _ _ => (xts_one (xt_cmpL (i := 6) (op_neT hr.units) sem_ne (pv 6) (XE.toB xe_str)))) (fun _ _ _ _ _ => (XE.toO (xe_tup (xa_cons (xe_pv (pv 6)) (xa_cons (xe_pv (pv 7)) xa_nil))))) (by decide))))) xa_nil)))))) (fun _ _ _ h => h))
    (xss_one (xs_ret (xo_if (XW.t (xw_and (xt_tru (XE.toB (XO.toE (xo_call G_is_form (hr.mono (by decide)) (by rfl) T.g_is_form T.F_is_form.kp (b_is_form T) (xa_cons (xe_pv (pv 4)) (xa_cons (xe_pv (pv 1)) xa_nil)))))) (XT.w1 (xt_cmp (op_eqT hr.units) sem_eq (XO.toE (xo_call G_form_text (hr.mono (by decide)) (by rfl) T.g_form_text T.F_form_text.kp (b_form_text T) (xa_cons (xe_pv (pv 4)) xa_nil))) (xb_pv (pv 0)))))) (xo_mov (pv 4)) (XE.toO xe_non)))))))))
theorem ok_read_form (T : Txt K mg) (G_term_in : FnOk P w K mg base CX0 1 T.a_term_in T.fd_term_in ["piece"] (liftSp K sp_term_in)) (G_is_form : FnOk P w K mg base CX0 4 T.a_is_form T.fd_is_form ["thing", "p"] (liftSp K sp_is_form)) (G_form_text : FnOk P w K mg base CX0 2 T.a_form_text T.fd_form_text ["form"] (liftSp K sp_form_text)) : FnOk P w K mg base CX0 5 T.a_read_form T.fd_read_form ["text", "p"] (liftSp K sp_read_form) :=
  fn_tree T.F_read_form sc_read_form len_read_form (body_read_form T G_term_in G_is_form G_form_text) does_read_form
theorem body_law (T : Txt K mg) (G__law_begun : FnOk P w K mg base CX0 1 T.a__law_begun T.fd__law_begun ["script"] (liftSp K sp__law_begun)) (G__law_draw : FnOk P w K mg base CX0 1 T.a__law_draw T.fd__law_draw ["state", "many"] (liftSp K sp__law_draw)) (G__law_places : FnOk P w K mg base CX0 3 T.a__law_places T.fd__law_places ["state", "many"] (liftSp K sp__law_places)) (G__law_form : FnOk P w K mg base CX0 2 T.a__law_form T.fd__law_form ["state", "places", "q"] (liftSp K sp__law_form)) (G_new_form : FnOk P w K mg base CX0 1 T.a_new_form T.fd_new_form ["n", "pairs", "p"] (liftSp K sp_new_form)) (G__law_rows : FnOk P w K mg base CX0 1 T.a__law_rows T.fd__law_rows ["many", "q"] (liftSp K sp__law_rows)) (G_worth_of : FnOk P w K mg base CX0 1 T.a_worth_of T.fd_worth_of ["form", "worths", "p"] (liftSp K sp_worth_of)) (G__law_held : FnOk P w K mg base CX0 4 T.a__law_held T.fd__law_held ["one", "other", "times", "lots", "held", "q"] (liftSp K sp__law_held)) (G_is_form : FnOk P w K mg base CX0 4 T.a_is_form T.fd_is_form ["thing", "p"] (liftSp K sp_is_form)) (G_put_in : FnOk P w K mg base CX0 3 T.a_put_in T.fd_put_in ["form", "forms", "p"] (liftSp K sp_put_in)) (G_inverse : FnOk P w K mg base CX0 1 T.a_inverse T.fd_inverse ["n", "p"] (liftSp K sp_inverse)) (G_times_of : FnOk P w K mg base CX0 2 T.a_times_of T.fd_times_of ["a", "n", "p"] (liftSp K sp_times_of)) (G_places_in : FnOk P w K mg base CX0 1 T.a_places_in T.fd_places_in ["form"] (liftSp K sp_places_in)) (G_read_form : FnOk P w K mg base CX0 5 T.a_read_form T.fd_read_form ["text", "p"] (liftSp K sp_read_form)) (G_form_text : FnOk P w K mg base CX0 2 T.a_form_text T.fd_form_text ["form"] (liftSp K sp_form_text)) (cdv : Value) (A : Around) (outer : List Env) (s : Shared) (H : Hp) (E : XK) (hr : Room 5 (A.deeper (envOfC "law" (defScope s_law) s.heap.objs.size T.a_law cdv))) :
    XSs (cxOf CX0 P w K mg base N_law "law" (defScope s_law) T.a_law cdv A outer s H E).nox (defBody s_law) wb_law :=
  (xss_cons (xs_set (i := 1) (ps_set (i := 1) sc_law.nd rfl (.inr rfl) (XO.pe (xo_call G__law_begun (hr.mono (by decide)) (by rfl) T.g__law_begun T.F__law_begun.kp (b__law_begun T) (xa_cons (xe_pv (pv 0)) xa_nil)))) (fun _ _ _ h => h))
    (xss_cons (xs_for PassesOwn.never (by rfl) (xi_rng1 (by rfl) T.n_range xe_int) (xg_name (i := 2) (pg_name sc_law.nd rfl (.inl rfl))) (xss_cons (xs_set (i := 3) (ps_set (i := 3) sc_law.nd rfl (.inr rfl) (XO.pe (XE.toO (xe_ix (XO.toE (xo_lst (xao_cons (XE.toO xe_int) (xao_cons (XE.toO xe_int) (xao_cons (XE.toO xe_int) xao_nil))))) (XO.toE (xo_callS (i := 1) G__law_draw (hr.mono (by decide)) (by rfl) T.g__law_draw T.F__law_draw.kp (b__law_draw T) (pv 1) (xa_cons xe_int xa_nil))))))) (fun _ _ _ h => h))
    (xss_cons (xs_set (i := 4) (ps_set (i := 4) sc_law.nd rfl (.inr rfl) (XO.pe (xo_callB (cr_sortS rfl) sem_sortS (by rfl) T.n_sorted (by decide +kernel) (XO.toE (xo_callS (i := 1) G__law_places (hr.mono (by decide)) (by rfl) T.g__law_places T.F__law_places.kp (b__law_places T) (pv 1) (xa_cons (XO.toE (xo_callS (i := 1) G__law_draw (hr.mono (by decide)) (by rfl) T.g__law_draw T.F__law_draw.kp (b__law_draw T) (pv 1) (xa_cons xe_int xa_nil))) xa_nil)))))) (fun _ _ _ h => h))
    (xss_cons (xs_par (i := 5) (j := 6) (ps_par (by rfl) sc_law.nd rfl rfl (by decide) rfl rfl (XA.pa (xa_cons (XO.toE (xo_callS (i := 1) G__law_form (hr.mono (by decide)) (by rfl) T.g__law_form T.F__law_form.kp (b__law_form T) (pv 1) (xa_cons (xe_pv (pv 4)) (xa_cons (xe_pv (pv 3)) xa_nil)))) (xa_cons (XO.toE (xo_callS (i := 1) G__law_form (hr.mono (by decide)) (by rfl) T.g__law_form T.F__law_form.kp (b__law_form T) (pv 1) (xa_cons (xe_pv (pv 4)) (xa_cons (xe_pv (pv 3)) xa_nil)))) xa_nil))) (by rfl)))
    (xss_cons (xs_if (xt_cmp (op_eqT hr.units) sem_eq (XO.toE (xo_callS (i := 1) G__law_draw (hr.mono (by decide)) (by rfl) T.g__law_draw T.F__law_draw.kp (b__law_draw T) (pv 1) (xa_cons xe_int xa_nil))) (XE.toB xe_int)) (xss_one (xs_set (i := 6) (ps_set (i := 6) sc_law.nd rfl (.inl rfl) (XO.pe (xo_call G_new_form (hr.mono (by decide)) (by rfl) T.g_new_form T.F_new_form.kp (b_new_form T) (xa_cons (XO.toE (xo_bin op_addT sem_add (xe_ixL (i := 5) (pv 5) xe_int) (XO.toE (xo_bin op_mulT sem_mul (xe_pv (pv 3)) (XO.toE (xo_callS (i := 1) G__law_draw (hr.mono (by decide)) (by rfl) T.g__law_draw T.F__law_draw.kp (b__law_draw T) (pv 1) (xa_cons xe_int xa_nil))))))) (xa_cons (XO.toE (xo_rev (XO.toE (xo_callTy call_list_of sem_list (by rfl) T.n_list (by decide +kernel) (xe_ixL (i := 5) (pv 5) xe_int))))) (xa_cons (xe_pv (pv 3)) xa_nil)))))) (fun _ _ _ h => h))) xss_nil)
    (xss_cons (xs_set (i := 7) (ps_set (i := 7) sc_law.nd rfl (.inl rfl) (XO.pe (xo_callTy (call_dictP rfl) sem_dict (by rfl) T.n_dict (by decide +kernel) (XO.toE (xo_lc (own := [("place", 14)]) (by rfl) sc_law.nd (xi_any (xe_pv (pv 4))) (blkOk_by (own := [("place", 14)]) (N := N_law) (sc := defScope s_law) (by decide +kernel)) (fun _ _ _ _ _ => (xg_name (i := 14) (pg_name sc_law.nd rfl (.inl rfl)))) (fun _ _ _ _ _ => xts_nil) (fun _ _ _ _ _ => (XE.toO (xe_tup (xa_cons (xe_pv (pv 14)) (xa_cons (XO.toE (xo_callS (i := 1) G__law_form (hr.mono (by decide)) (by rfl) T.g__law_form T.F__law_form.kp (b__law_form T) (pv 1) (xa_cons (xe_pv (pv 4)) (xa_cons (xe_pv (pv 3)) xa_nil)))) xa_nil))))) (by decide)))))) (fun _ _ _ h => h))
    (xss_cons (xs_par (i := 8) (j := 9) (ps_par (by rfl) sc_law.nd rfl rfl (by decide) rfl rfl (XA.pa (xa_cons (XO.toE (xo_bin op_sub sem_sub (XO.toE (xo_callS (i := 1) G__law_draw (hr.mono (by decide)) (by rfl) T.g__law_draw T.F__law_draw.kp (b__law_draw T) (pv 1) (xa_cons xe_int xa_nil))) xe_int)) (xa_cons xe_bl xa_nil))) (by rfl)))
    (xss_cons (xs_for PassesOwn.never (by rfl) (xi_any (XO.toE (xo_call G__law_rows (hr.mono (by decide)) (by rfl) T.g__law_rows T.F__law_rows.kp (b__law_rows T) (xa_cons (xe_callB cr_len sem_len (by rfl) T.n_len (by decide +kernel) (xb_pv (pv 4))) (xa_cons (xe_pv (pv 3)) xa_nil))))) (xg_name (i := 10) (pg_name sc_law.nd rfl (.inl rfl))) (xss_cons (xs_set (i := 11) (ps_set (i := 11) sc_law.nd rfl (.inl rfl) (XO.pe (xo_dictzip rfl (by rfl) T.n_dict (by rfl) T.n_zip (xe_pv (pv 4)) (xe_pv (pv 10))))) (fun _ _ _ h => h))
    (xss_cons (xs_set (i := 9) (ps_set (i := 9) sc_law.nd rfl (.inl rfl) (XO.pe (XE.toO (xe_and (xe_pv (pv 9)) (xe_and1 (xe_cmp (op_eqT hr.units) sem_eq (XO.toE (xo_call G_worth_of (hr.mono (by decide)) (by rfl) T.g_worth_of T.F_worth_of.kp (b_worth_of T) (xa_cons (xe_pv (pv 5)) (xa_cons (xe_pv (pv 11)) (xa_cons (xe_pv (pv 3)) xa_nil))))) (XE.toB (XO.toE (xo_call G_worth_of (hr.mono (by decide)) (by rfl) T.g_worth_of T.F_worth_of.kp (b_worth_of T) (xa_cons (xe_pv (pv 6)) (xa_cons (xe_pv (pv 11)) (xa_cons (xe_pv (pv 3)) xa_nil)))))))))))) (fun _ _ _ h => h))
    (xss_one (xs_if (xt_not (xt_tru (XE.toB (XO.toE (xo_call G__law_held (hr.mono (by decide)) (by rfl) T.g__law_held T.F__law_held.kp (b__law_held T) (xa_cons (xe_pv (pv 5)) (xa_cons (xe_pv (pv 6)) (xa_cons (xe_pv (pv 8)) (xa_cons (xe_pv (pv 7)) (xa_cons (xe_pv (pv 11)) (xa_cons (xe_pv (pv 3)) xa_nil))))))))))) (xss_one (xs_ret (XE.toO xe_bl))) xss_nil)))))
    (xss_cons (xs_if (XW.t (xw_or (xt_cmp (op_neT hr.units) sem_ne (xe_cmpL (i := 5) (op_eqT hr.units) sem_eq (pv 5) (xb_pv (pv 6))) (xb_pv (pv 9))) (XT.o1 (xt_not (xt_tru (XE.toB (XO.toE (xo_call G_is_form (hr.mono (by decide)) (by rfl) T.g_is_form T.F_is_form.kp (b_is_form T) (xa_cons (XO.toE (xo_call G_put_in (hr.mono (by decide)) (by rfl) T.g_put_in T.F_put_in.kp (b_put_in T) (xa_cons (xe_pv (pv 5)) (xa_cons (xe_pv (pv 7)) (xa_cons (xe_pv (pv 3)) xa_nil))))) (xa_cons (xe_pv (pv 3)) xa_nil)))))))))) (xss_one (xs_ret (XE.toO xe_bl))) xss_nil)
    (xss_cons (xs_set (i := 12) (ps_set (i := 12) sc_law.nd rfl (.inl rfl) (XO.pe (xo_if (xt_cmp op_gtT' sem_gt (XO.toE (xo_bin op_mod sem_mod (xe_pv (pv 8)) (xe_pv (pv 3)))) (XE.toB xe_int)) (xo_call G_inverse (hr.mono (by decide)) (by rfl) T.g_inverse T.F_inverse.kp (b_inverse T) (xa_cons (XO.toE (xo_bin op_mod sem_mod (xe_pv (pv 8)) (xe_pv (pv 3)))) (xa_cons (xe_pv (pv 3)) xa_nil))) (XE.toO xe_int)))) (fun _ _ _ h => h))
    (xss_cons (xs_if (XW.t (xw_and (xt_cmpL (i := 12) op_gtT' sem_gt (pv 12) (XE.toB xe_int)) (XT.w1 (xt_cmp (op_neT hr.units) sem_ne (XO.toE (xo_call G_times_of (hr.mono (by decide)) (by rfl) T.g_times_of T.F_times_of.kp (b_times_of T) (xa_cons (XO.toE (xo_call G_times_of (hr.mono (by decide)) (by rfl) T.g_times_of T.F_times_of.kp (b_times_of T) (xa_cons (xe_pv (pv 5)) (xa_cons (xe_pv (pv 8)) (xa_cons (xe_pv (pv 3)) xa_nil))))) (xa_cons (xe_pv (pv 12)) (xa_cons (xe_pv (pv 3)) xa_nil))))) (xb_pv (pv 5)))))) (xss_one (xs_ret (XE.toO xe_bl))) xss_nil)
    (xss_cons (xs_set (i := 13) (ps_set (i := 13) sc_law.nd rfl (.inl rfl) (XO.pe (xo_call G_put_in (hr.mono (by decide)) (by rfl) T.g_put_in T.F_put_in.kp (b_put_in T) (xa_cons (xe_pv (pv 5)) (xa_cons (XO.toE (xo_callTy (call_dictP rfl) sem_dict (by rfl) T.n_dict (by decide +kernel) (XO.toE (xo_lc (own := [("place", 14)]) (by rfl) sc_law.nd (xi_any (xe_pv (pv 4))) (blkOk_by (own := [("place", 14)]) (N := N_law) (sc := defScope s_law) (by decide +kernel)) (fun _ _ _ _ _ => (xg_name (i := 14) (pg_name sc_law.nd rfl (.inl rfl)))) (fun _ _ _ _ _ => xts_nil) (fun _ _ _ _ _ => (XE.toO (xe_tup (xa_cons (xe_pv (pv 14)) (xa_cons (xe_tup (xa_cons xe_int (xa_cons (xe_tup xa_nil) xa_nil))) xa_nil))))) (by decide))))) (xa_cons (xe_pv (pv 3)) xa_nil)))))) (fun _ _ _ h => h))
    (xss_cons (xs_if (xt_cmpL (i := 13) (op_neT hr.units) sem_ne (pv 13) (XE.toB (xe_tup (xa_cons (xe_ixL (i := 5) (pv 5) xe_int) (xa_cons (xe_tup xa_nil) xa_nil))))) (xss_one (xs_ret (XE.toO xe_bl))) xss_nil)
    (xss_cons (xs_if (xt_cmp (op_neT hr.units) sem_ne (XO.toE (xo_lc (own := [("place", 14)]) (by rfl) sc_law.nd (xi_any (XO.toE (xo_call G_places_in (hr.mono (by decide)) (by rfl) T.g_places_in T.F_places_in.kp (b_places_in T) (xa_cons (xe_pv (pv 5)) xa_nil)))) (blkOk_by (own := [("place", 14)]) (N := N_law) (sc := defScope s_law) (by decide +kernel)) (fun _ _ _ _ _ => (xg_name (i := 14) (pg_name sc_law.nd rfl (.inl rfl)))) (fun _ _ _ _ _ => (xts_one (xt_cmpL (i := 14) (op_notInD hr.units) (sem_inD true) (pv 14) (xb_pv (pv 4))))) (fun _ _ _ _ _ => (XE.toO (xe_pv (pv 14)))) (by decide))) (XE.toB (XO.toE (xo_lst xao_nil)))) (xss_one (xs_ret (XE.toO xe_bl))) xss_nil)
    (xss_one (xs_if (XW.t (xw_or (xt_cmp (op_neT hr.units) sem_ne (XO.toE (xo_call G_read_form (hr.mono (by decide)) (by rfl) T.g_read_form T.F_read_form.kp (b_read_form T) (xa_cons (XO.toE (xo_call G_form_text (hr.mono (by decide)) (by rfl) T.g_form_text T.F_form_text.kp (b_form_text T) (xa_cons (xe_pv (pv 5)) xa_nil))) (xa_cons (xe_pv (pv 3)) xa_nil)))) (xb_pv (pv 5))) (XT.o1 (xt_cmp (op_neT hr.units) sem_ne (xe_cmp (op_eqT hr.units) sem_eq (XO.toE (xo_call G_form_text (hr.mono (by decide)) (by rfl) T.g_form_text T.F_form_text.kp (b_form_text T) (xa_cons (xe_pv (pv 5)) xa_nil))) (XE.toB (XO.toE (xo_call G_form_text (hr.mono (by decide)) (by rfl) T.g_form_text T.F_form_text.kp (b_form_text T) (xa_cons (xe_pv (pv 6)) xa_nil))))) (xb_pv (pv 9)))))) (xss_one (xs_ret (XE.toO xe_bl))) xss_nil))))))))))))))))
    (xss_one (xs_ret (XE.toO xe_bl)))))
theorem ok_law (T : Txt K mg) (G__law_begun : FnOk P w K mg base CX0 1 T.a__law_begun T.fd__law_begun ["script"] (liftSp K sp__law_begun)) (G__law_draw : FnOk P w K mg base CX0 1 T.a__law_draw T.fd__law_draw ["state", "many"] (liftSp K sp__law_draw)) (G__law_places : FnOk P w K mg base CX0 3 T.a__law_places T.fd__law_places ["state", "many"] (liftSp K sp__law_places)) (G__law_form : FnOk P w K mg base CX0 2 T.a__law_form T.fd__law_form ["state", "places", "q"] (liftSp K sp__law_form)) (G_new_form : FnOk P w K mg base CX0 1 T.a_new_form T.fd_new_form ["n", "pairs", "p"] (liftSp K sp_new_form)) (G__law_rows : FnOk P w K mg base CX0 1 T.a__law_rows T.fd__law_rows ["many", "q"] (liftSp K sp__law_rows)) (G_worth_of : FnOk P w K mg base CX0 1 T.a_worth_of T.fd_worth_of ["form", "worths", "p"] (liftSp K sp_worth_of)) (G__law_held : FnOk P w K mg base CX0 4 T.a__law_held T.fd__law_held ["one", "other", "times", "lots", "held", "q"] (liftSp K sp__law_held)) (G_is_form : FnOk P w K mg base CX0 4 T.a_is_form T.fd_is_form ["thing", "p"] (liftSp K sp_is_form)) (G_put_in : FnOk P w K mg base CX0 3 T.a_put_in T.fd_put_in ["form", "forms", "p"] (liftSp K sp_put_in)) (G_inverse : FnOk P w K mg base CX0 1 T.a_inverse T.fd_inverse ["n", "p"] (liftSp K sp_inverse)) (G_times_of : FnOk P w K mg base CX0 2 T.a_times_of T.fd_times_of ["a", "n", "p"] (liftSp K sp_times_of)) (G_places_in : FnOk P w K mg base CX0 1 T.a_places_in T.fd_places_in ["form"] (liftSp K sp_places_in)) (G_read_form : FnOk P w K mg base CX0 5 T.a_read_form T.fd_read_form ["text", "p"] (liftSp K sp_read_form)) (G_form_text : FnOk P w K mg base CX0 2 T.a_form_text T.fd_form_text ["form"] (liftSp K sp_form_text)) : FnOk P w K mg base CX0 6 T.a_law T.fd_law ["script"] (liftSp K sp_law) :=
  fn_tree T.F_law sc_law len_law (body_law T G__law_begun G__law_draw G__law_places G__law_form G_new_form G__law_rows G_worth_of G__law_held G_is_form G_put_in G_inverse G_times_of G_places_in G_read_form G_form_text) does_law
theorem all_ok (T : Txt K mg) : FnOk P w K mg base CX0 6 T.a_law T.fd_law ["script"] (liftSp K sp_law) := by
  have G__law_begun := ok__law_begun (P := P) (w := w) (base := base) T
  have G__law_draw := ok__law_draw (P := P) (w := w) (base := base) T
  have G__law_place := ok__law_place (P := P) (w := w) (base := base) T G__law_draw
  have G__law_places := ok__law_places (P := P) (w := w) (base := base) T G__law_place G__law_draw
  have G__law_form := ok__law_form (P := P) (w := w) (base := base) T G__law_draw
  have G_new_form := ok_new_form (P := P) (w := w) (base := base) T
  have G__law_rows := ok__law_rows (P := P) (w := w) (base := base) T
  have G_worth_of := ok_worth_of (P := P) (w := w) (base := base) T
  have G_sum_of := ok_sum_of (P := P) (w := w) (base := base) T G_new_form
  have G_times_of := ok_times_of (P := P) (w := w) (base := base) T G_new_form
  have G_put_in := ok_put_in (P := P) (w := w) (base := base) T G_sum_of G_times_of
  have G__law_held := ok__law_held (P := P) (w := w) (base := base) T G_worth_of G_sum_of G_times_of G_put_in
  have G_is_whole := ok_is_whole (P := P) (w := w) (base := base) T
  have G_is_number := ok_is_number (P := P) (w := w) (base := base) T G_is_whole
  have G_is_place := ok_is_place (P := P) (w := w) (base := base) T
  have G_is_term := ok_is_term (P := P) (w := w) (base := base) T G_is_number G_is_place
  have G_is_form := ok_is_form (P := P) (w := w) (base := base) T G_is_number G_is_term
  have G_inverse := ok_inverse (P := P) (w := w) (base := base) T
  have G_places_in := ok_places_in (P := P) (w := w) (base := base) T
  have G_term_in := ok_term_in (P := P) (w := w) (base := base) T
  have G_term_text := ok_term_text (P := P) (w := w) (base := base) T
  have G_form_text := ok_form_text (P := P) (w := w) (base := base) T G_term_text
  have G_read_form := ok_read_form (P := P) (w := w) (base := base) T G_term_in G_is_form G_form_text
  have G_law := ok_law (P := P) (w := w) (base := base) T G__law_begun G__law_draw G__law_places G__law_form G_new_form G__law_rows G_worth_of G__law_held G_is_form G_put_in G_inverse G_times_of G_places_in G_read_form G_form_text
  exact G_law
end
theorem all_mk {l : PySem.W.OpenLaw} {w : World} {K : PySem.W.Frag} {h : Heap} {mg : Str → Option Value} {fa : Addr} (X : K.In h) (G : h.Ns mainGlobals mg) (hfa : mg "law" = some (.ref fa))
    {f__law_begun : Addr} {od__law_begun an__law_begun : Option Addr} {sl__law_begun : Array (Option Value)} {oc__law_begun kV__law_begun dc__law_begun pm__law_begun cd__law_begun ct__law_begun : Value}
    {f__law_draw : Addr} {od__law_draw an__law_draw : Option Addr} {sl__law_draw : Array (Option Value)} {oc__law_draw kV__law_draw dc__law_draw pm__law_draw cd__law_draw ct__law_draw : Value}
    {f__law_place : Addr} {od__law_place an__law_place : Option Addr} {sl__law_place : Array (Option Value)} {oc__law_place kV__law_place dc__law_place pm__law_place cd__law_place ct__law_place : Value}
    {f__law_places : Addr} {od__law_places an__law_places : Option Addr} {sl__law_places : Array (Option Value)} {oc__law_places kV__law_places dc__law_places pm__law_places cd__law_places ct__law_places : Value}
    {f__law_form : Addr} {od__law_form an__law_form : Option Addr} {sl__law_form : Array (Option Value)} {oc__law_form kV__law_form dc__law_form pm__law_form cd__law_form ct__law_form : Value}
    {f_new_form : Addr} {od_new_form an_new_form : Option Addr} {sl_new_form : Array (Option Value)} {oc_new_form kV_new_form dc_new_form pm_new_form cd_new_form ct_new_form : Value}
    {f__law_rows : Addr} {od__law_rows an__law_rows : Option Addr} {sl__law_rows : Array (Option Value)} {oc__law_rows kV__law_rows dc__law_rows pm__law_rows cd__law_rows ct__law_rows : Value}
    {f_worth_of : Addr} {od_worth_of an_worth_of : Option Addr} {sl_worth_of : Array (Option Value)} {oc_worth_of kV_worth_of dc_worth_of pm_worth_of cd_worth_of ct_worth_of : Value}
    {f_sum_of : Addr} {od_sum_of an_sum_of : Option Addr} {sl_sum_of : Array (Option Value)} {oc_sum_of kV_sum_of dc_sum_of pm_sum_of cd_sum_of ct_sum_of : Value}
    {f_times_of : Addr} {od_times_of an_times_of : Option Addr} {sl_times_of : Array (Option Value)} {oc_times_of kV_times_of dc_times_of pm_times_of cd_times_of ct_times_of : Value}
    {f_put_in : Addr} {od_put_in an_put_in : Option Addr} {sl_put_in : Array (Option Value)} {oc_put_in kV_put_in dc_put_in pm_put_in cd_put_in ct_put_in : Value}
    {f__law_held : Addr} {od__law_held an__law_held : Option Addr} {sl__law_held : Array (Option Value)} {oc__law_held kV__law_held dc__law_held pm__law_held cd__law_held ct__law_held : Value}
    {f_is_whole : Addr} {od_is_whole an_is_whole : Option Addr} {sl_is_whole : Array (Option Value)} {oc_is_whole kV_is_whole dc_is_whole pm_is_whole cd_is_whole ct_is_whole : Value}
    {f_is_number : Addr} {od_is_number an_is_number : Option Addr} {sl_is_number : Array (Option Value)} {oc_is_number kV_is_number dc_is_number pm_is_number cd_is_number ct_is_number : Value}
    {f_is_place : Addr} {od_is_place an_is_place : Option Addr} {sl_is_place : Array (Option Value)} {oc_is_place kV_is_place dc_is_place pm_is_place cd_is_place ct_is_place : Value}
    {f_is_term : Addr} {od_is_term an_is_term : Option Addr} {sl_is_term : Array (Option Value)} {oc_is_term kV_is_term dc_is_term pm_is_term cd_is_term ct_is_term : Value}
    {f_is_form : Addr} {od_is_form an_is_form : Option Addr} {sl_is_form : Array (Option Value)} {oc_is_form kV_is_form dc_is_form pm_is_form cd_is_form ct_is_form : Value}
    {f_inverse : Addr} {od_inverse an_inverse : Option Addr} {sl_inverse : Array (Option Value)} {oc_inverse kV_inverse dc_inverse pm_inverse cd_inverse ct_inverse : Value}
    {f_places_in : Addr} {od_places_in an_places_in : Option Addr} {sl_places_in : Array (Option Value)} {oc_places_in kV_places_in dc_places_in pm_places_in cd_places_in ct_places_in : Value}
    {f_term_in : Addr} {od_term_in an_term_in : Option Addr} {sl_term_in : Array (Option Value)} {oc_term_in kV_term_in dc_term_in pm_term_in cd_term_in ct_term_in : Value}
    {f_term_text : Addr} {od_term_text an_term_text : Option Addr} {sl_term_text : Array (Option Value)} {oc_term_text kV_term_text dc_term_text pm_term_text cd_term_text ct_term_text : Value}
    {f_form_text : Addr} {od_form_text an_form_text : Option Addr} {sl_form_text : Array (Option Value)} {oc_form_text kV_form_text dc_form_text pm_form_text cd_form_text ct_form_text : Value}
    {f_read_form : Addr} {od_read_form an_read_form : Option Addr} {sl_read_form : Array (Option Value)} {oc_read_form kV_read_form dc_read_form pm_read_form cd_read_form ct_read_form : Value}
    {f_law : Addr} {od_law an_law : Option Addr} {sl_law : Array (Option Value)} {oc_law kV_law dc_law pm_law cd_law ct_law : Value}
    {t_MOST_PLACE : Tok}
    {t_LETTERS : Tok}
    {t_FIGURES : Tok}
    {t_MOST_FIGURES : Tok}
    (a__law_begun : PySem.W.nsIn K mainGlobals "_law_begun" = some (some (.ref f__law_begun))) (l__law_begun : K.lookup f__law_begun = some ⟨oc__law_begun, od__law_begun, .func (PySem.W.fnOf "_law_begun" "_law_begun" (defArgs s__law_begun) (defBody s__law_begun) (defScope s__law_begun) .none kV__law_begun dc__law_begun pm__law_begun an__law_begun cd__law_begun ct__law_begun), sl__law_begun⟩) (c__law_begun : PySem.W.codeIn K cd__law_begun "_law_begun" = true) (k__law_begun : PySem.W.keepIn K (.ref f__law_begun) = true)
    (a__law_draw : PySem.W.nsIn K mainGlobals "_law_draw" = some (some (.ref f__law_draw))) (l__law_draw : K.lookup f__law_draw = some ⟨oc__law_draw, od__law_draw, .func (PySem.W.fnOf "_law_draw" "_law_draw" (defArgs s__law_draw) (defBody s__law_draw) (defScope s__law_draw) .none kV__law_draw dc__law_draw pm__law_draw an__law_draw cd__law_draw ct__law_draw), sl__law_draw⟩) (c__law_draw : PySem.W.codeIn K cd__law_draw "_law_draw" = true) (k__law_draw : PySem.W.keepIn K (.ref f__law_draw) = true)
    (a__law_place : PySem.W.nsIn K mainGlobals "_law_place" = some (some (.ref f__law_place))) (l__law_place : K.lookup f__law_place = some ⟨oc__law_place, od__law_place, .func (PySem.W.fnOf "_law_place" "_law_place" (defArgs s__law_place) (defBody s__law_place) (defScope s__law_place) .none kV__law_place dc__law_place pm__law_place an__law_place cd__law_place ct__law_place), sl__law_place⟩) (c__law_place : PySem.W.codeIn K cd__law_place "_law_place" = true) (k__law_place : PySem.W.keepIn K (.ref f__law_place) = true)
    (a__law_places : PySem.W.nsIn K mainGlobals "_law_places" = some (some (.ref f__law_places))) (l__law_places : K.lookup f__law_places = some ⟨oc__law_places, od__law_places, .func (PySem.W.fnOf "_law_places" "_law_places" (defArgs s__law_places) (defBody s__law_places) (defScope s__law_places) .none kV__law_places dc__law_places pm__law_places an__law_places cd__law_places ct__law_places), sl__law_places⟩) (c__law_places : PySem.W.codeIn K cd__law_places "_law_places" = true) (k__law_places : PySem.W.keepIn K (.ref f__law_places) = true)
    (a__law_form : PySem.W.nsIn K mainGlobals "_law_form" = some (some (.ref f__law_form))) (l__law_form : K.lookup f__law_form = some ⟨oc__law_form, od__law_form, .func (PySem.W.fnOf "_law_form" "_law_form" (defArgs s__law_form) (defBody s__law_form) (defScope s__law_form) .none kV__law_form dc__law_form pm__law_form an__law_form cd__law_form ct__law_form), sl__law_form⟩) (c__law_form : PySem.W.codeIn K cd__law_form "_law_form" = true) (k__law_form : PySem.W.keepIn K (.ref f__law_form) = true)
    (a_new_form : PySem.W.nsIn K mainGlobals "new_form" = some (some (.ref f_new_form))) (l_new_form : K.lookup f_new_form = some ⟨oc_new_form, od_new_form, .func (PySem.W.fnOf "new_form" "new_form" (defArgs s_new_form) (defBody s_new_form) (defScope s_new_form) .none kV_new_form dc_new_form pm_new_form an_new_form cd_new_form ct_new_form), sl_new_form⟩) (c_new_form : PySem.W.codeIn K cd_new_form "new_form" = true) (k_new_form : PySem.W.keepIn K (.ref f_new_form) = true)
    (a__law_rows : PySem.W.nsIn K mainGlobals "_law_rows" = some (some (.ref f__law_rows))) (l__law_rows : K.lookup f__law_rows = some ⟨oc__law_rows, od__law_rows, .func (PySem.W.fnOf "_law_rows" "_law_rows" (defArgs s__law_rows) (defBody s__law_rows) (defScope s__law_rows) .none kV__law_rows dc__law_rows pm__law_rows an__law_rows cd__law_rows ct__law_rows), sl__law_rows⟩) (c__law_rows : PySem.W.codeIn K cd__law_rows "_law_rows" = true) (k__law_rows : PySem.W.keepIn K (.ref f__law_rows) = true)
    (a_worth_of : PySem.W.nsIn K mainGlobals "worth_of" = some (some (.ref f_worth_of))) (l_worth_of : K.lookup f_worth_of = some ⟨oc_worth_of, od_worth_of, .func (PySem.W.fnOf "worth_of" "worth_of" (defArgs s_worth_of) (defBody s_worth_of) (defScope s_worth_of) .none kV_worth_of dc_worth_of pm_worth_of an_worth_of cd_worth_of ct_worth_of), sl_worth_of⟩) (c_worth_of : PySem.W.codeIn K cd_worth_of "worth_of" = true) (k_worth_of : PySem.W.keepIn K (.ref f_worth_of) = true)
    (a_sum_of : PySem.W.nsIn K mainGlobals "sum_of" = some (some (.ref f_sum_of))) (l_sum_of : K.lookup f_sum_of = some ⟨oc_sum_of, od_sum_of, .func (PySem.W.fnOf "sum_of" "sum_of" (defArgs s_sum_of) (defBody s_sum_of) (defScope s_sum_of) .none kV_sum_of dc_sum_of pm_sum_of an_sum_of cd_sum_of ct_sum_of), sl_sum_of⟩) (c_sum_of : PySem.W.codeIn K cd_sum_of "sum_of" = true) (k_sum_of : PySem.W.keepIn K (.ref f_sum_of) = true)
    (a_times_of : PySem.W.nsIn K mainGlobals "times_of" = some (some (.ref f_times_of))) (l_times_of : K.lookup f_times_of = some ⟨oc_times_of, od_times_of, .func (PySem.W.fnOf "times_of" "times_of" (defArgs s_times_of) (defBody s_times_of) (defScope s_times_of) .none kV_times_of dc_times_of pm_times_of an_times_of cd_times_of ct_times_of), sl_times_of⟩) (c_times_of : PySem.W.codeIn K cd_times_of "times_of" = true) (k_times_of : PySem.W.keepIn K (.ref f_times_of) = true)
    (a_put_in : PySem.W.nsIn K mainGlobals "put_in" = some (some (.ref f_put_in))) (l_put_in : K.lookup f_put_in = some ⟨oc_put_in, od_put_in, .func (PySem.W.fnOf "put_in" "put_in" (defArgs s_put_in) (defBody s_put_in) (defScope s_put_in) .none kV_put_in dc_put_in pm_put_in an_put_in cd_put_in ct_put_in), sl_put_in⟩) (c_put_in : PySem.W.codeIn K cd_put_in "put_in" = true) (k_put_in : PySem.W.keepIn K (.ref f_put_in) = true)
    (a__law_held : PySem.W.nsIn K mainGlobals "_law_held" = some (some (.ref f__law_held))) (l__law_held : K.lookup f__law_held = some ⟨oc__law_held, od__law_held, .func (PySem.W.fnOf "_law_held" "_law_held" (defArgs s__law_held) (defBody s__law_held) (defScope s__law_held) .none kV__law_held dc__law_held pm__law_held an__law_held cd__law_held ct__law_held), sl__law_held⟩) (c__law_held : PySem.W.codeIn K cd__law_held "_law_held" = true) (k__law_held : PySem.W.keepIn K (.ref f__law_held) = true)
    (a_is_whole : PySem.W.nsIn K mainGlobals "is_whole" = some (some (.ref f_is_whole))) (l_is_whole : K.lookup f_is_whole = some ⟨oc_is_whole, od_is_whole, .func (PySem.W.fnOf "is_whole" "is_whole" (defArgs s_is_whole) (defBody s_is_whole) (defScope s_is_whole) .none kV_is_whole dc_is_whole pm_is_whole an_is_whole cd_is_whole ct_is_whole), sl_is_whole⟩) (c_is_whole : PySem.W.codeIn K cd_is_whole "is_whole" = true) (k_is_whole : PySem.W.keepIn K (.ref f_is_whole) = true)
    (a_is_number : PySem.W.nsIn K mainGlobals "is_number" = some (some (.ref f_is_number))) (l_is_number : K.lookup f_is_number = some ⟨oc_is_number, od_is_number, .func (PySem.W.fnOf "is_number" "is_number" (defArgs s_is_number) (defBody s_is_number) (defScope s_is_number) .none kV_is_number dc_is_number pm_is_number an_is_number cd_is_number ct_is_number), sl_is_number⟩) (c_is_number : PySem.W.codeIn K cd_is_number "is_number" = true) (k_is_number : PySem.W.keepIn K (.ref f_is_number) = true)
    (a_is_place : PySem.W.nsIn K mainGlobals "is_place" = some (some (.ref f_is_place))) (l_is_place : K.lookup f_is_place = some ⟨oc_is_place, od_is_place, .func (PySem.W.fnOf "is_place" "is_place" (defArgs s_is_place) (defBody s_is_place) (defScope s_is_place) .none kV_is_place dc_is_place pm_is_place an_is_place cd_is_place ct_is_place), sl_is_place⟩) (c_is_place : PySem.W.codeIn K cd_is_place "is_place" = true) (k_is_place : PySem.W.keepIn K (.ref f_is_place) = true)
    (a_is_term : PySem.W.nsIn K mainGlobals "is_term" = some (some (.ref f_is_term))) (l_is_term : K.lookup f_is_term = some ⟨oc_is_term, od_is_term, .func (PySem.W.fnOf "is_term" "is_term" (defArgs s_is_term) (defBody s_is_term) (defScope s_is_term) .none kV_is_term dc_is_term pm_is_term an_is_term cd_is_term ct_is_term), sl_is_term⟩) (c_is_term : PySem.W.codeIn K cd_is_term "is_term" = true) (k_is_term : PySem.W.keepIn K (.ref f_is_term) = true)
    (a_is_form : PySem.W.nsIn K mainGlobals "is_form" = some (some (.ref f_is_form))) (l_is_form : K.lookup f_is_form = some ⟨oc_is_form, od_is_form, .func (PySem.W.fnOf "is_form" "is_form" (defArgs s_is_form) (defBody s_is_form) (defScope s_is_form) .none kV_is_form dc_is_form pm_is_form an_is_form cd_is_form ct_is_form), sl_is_form⟩) (c_is_form : PySem.W.codeIn K cd_is_form "is_form" = true) (k_is_form : PySem.W.keepIn K (.ref f_is_form) = true)
    (a_inverse : PySem.W.nsIn K mainGlobals "inverse" = some (some (.ref f_inverse))) (l_inverse : K.lookup f_inverse = some ⟨oc_inverse, od_inverse, .func (PySem.W.fnOf "inverse" "inverse" (defArgs s_inverse) (defBody s_inverse) (defScope s_inverse) .none kV_inverse dc_inverse pm_inverse an_inverse cd_inverse ct_inverse), sl_inverse⟩) (c_inverse : PySem.W.codeIn K cd_inverse "inverse" = true) (k_inverse : PySem.W.keepIn K (.ref f_inverse) = true)
    (a_places_in : PySem.W.nsIn K mainGlobals "places_in" = some (some (.ref f_places_in))) (l_places_in : K.lookup f_places_in = some ⟨oc_places_in, od_places_in, .func (PySem.W.fnOf "places_in" "places_in" (defArgs s_places_in) (defBody s_places_in) (defScope s_places_in) .none kV_places_in dc_places_in pm_places_in an_places_in cd_places_in ct_places_in), sl_places_in⟩) (c_places_in : PySem.W.codeIn K cd_places_in "places_in" = true) (k_places_in : PySem.W.keepIn K (.ref f_places_in) = true)
    (a_term_in : PySem.W.nsIn K mainGlobals "term_in" = some (some (.ref f_term_in))) (l_term_in : K.lookup f_term_in = some ⟨oc_term_in, od_term_in, .func (PySem.W.fnOf "term_in" "term_in" (defArgs s_term_in) (defBody s_term_in) (defScope s_term_in) .none kV_term_in dc_term_in pm_term_in an_term_in cd_term_in ct_term_in), sl_term_in⟩) (c_term_in : PySem.W.codeIn K cd_term_in "term_in" = true) (k_term_in : PySem.W.keepIn K (.ref f_term_in) = true)
    (a_term_text : PySem.W.nsIn K mainGlobals "term_text" = some (some (.ref f_term_text))) (l_term_text : K.lookup f_term_text = some ⟨oc_term_text, od_term_text, .func (PySem.W.fnOf "term_text" "term_text" (defArgs s_term_text) (defBody s_term_text) (defScope s_term_text) .none kV_term_text dc_term_text pm_term_text an_term_text cd_term_text ct_term_text), sl_term_text⟩) (c_term_text : PySem.W.codeIn K cd_term_text "term_text" = true) (k_term_text : PySem.W.keepIn K (.ref f_term_text) = true)
    (a_form_text : PySem.W.nsIn K mainGlobals "form_text" = some (some (.ref f_form_text))) (l_form_text : K.lookup f_form_text = some ⟨oc_form_text, od_form_text, .func (PySem.W.fnOf "form_text" "form_text" (defArgs s_form_text) (defBody s_form_text) (defScope s_form_text) .none kV_form_text dc_form_text pm_form_text an_form_text cd_form_text ct_form_text), sl_form_text⟩) (c_form_text : PySem.W.codeIn K cd_form_text "form_text" = true) (k_form_text : PySem.W.keepIn K (.ref f_form_text) = true)
    (a_read_form : PySem.W.nsIn K mainGlobals "read_form" = some (some (.ref f_read_form))) (l_read_form : K.lookup f_read_form = some ⟨oc_read_form, od_read_form, .func (PySem.W.fnOf "read_form" "read_form" (defArgs s_read_form) (defBody s_read_form) (defScope s_read_form) .none kV_read_form dc_read_form pm_read_form an_read_form cd_read_form ct_read_form), sl_read_form⟩) (c_read_form : PySem.W.codeIn K cd_read_form "read_form" = true) (k_read_form : PySem.W.keepIn K (.ref f_read_form) = true)
    (a_law : PySem.W.nsIn K mainGlobals "law" = some (some (.ref f_law))) (l_law : K.lookup f_law = some ⟨oc_law, od_law, .func (PySem.W.fnOf "law" "law" (defArgs s_law) (defBody s_law) (defScope s_law) .none kV_law dc_law pm_law an_law cd_law ct_law), sl_law⟩) (c_law : PySem.W.codeIn K cd_law "law" = true) (k_law : PySem.W.keepIn K (.ref f_law) = true)
    (n_abs : PySem.W.nsIn K mainGlobals "abs" = some none)
    (n_int : PySem.W.nsIn K mainGlobals "int" = some none)
    (n_len : PySem.W.nsIn K mainGlobals "len" = some none)
    (n_range : PySem.W.nsIn K mainGlobals "range" = some none)
    (n_str : PySem.W.nsIn K mainGlobals "str" = some none)
    (n_sorted : PySem.W.nsIn K mainGlobals "sorted" = some none)
    (n_tuple : PySem.W.nsIn K mainGlobals "tuple" = some none)
    (n_sum : PySem.W.nsIn K mainGlobals "sum" = some none)
    (n_list : PySem.W.nsIn K mainGlobals "list" = some none)
    (n_dict : PySem.W.nsIn K mainGlobals "dict" = some none)
    (n_isinstance : PySem.W.nsIn K mainGlobals "isinstance" = some none)
    (n_bool : PySem.W.nsIn K mainGlobals "bool" = some none)
    (n_all : PySem.W.nsIn K mainGlobals "all" = some none)
    (n_zip : PySem.W.nsIn K mainGlobals "zip" = some none)
    (v_MOST_PLACE : PySem.W.nsIn K mainGlobals "MOST_PLACE" = some (some (.int 40 t_MOST_PLACE)))
    (v_LETTERS : PySem.W.nsIn K mainGlobals "LETTERS" = some (some (.str "abcdefghijklmnopqrstuvwxyz" t_LETTERS)))
    (v_FIGURES : PySem.W.nsIn K mainGlobals "FIGURES" = some (some (.str "0123456789" t_FIGURES)))
    (v_MOST_FIGURES : PySem.W.nsIn K mainGlobals "MOST_FIGURES" = some (some (.int 3 t_MOST_FIGURES)))
    : ∃ fd : FuncData, (∀ (s : Shared) (v : Value), BindsTo s fd ⟨[v], []⟩ [("script", v)]) ∧ ∀ base : Heap, K.In base → base.Ns mainGlobals mg → FnOk l.prog w K mg base CX0 6 fa fd ["script"] (liftSp K sp_law) := by
  have e := hfa.symm.trans (PySem.W.mg_of X G a_law)
  cases e
  exact ⟨_, fun s v => .of_eq rfl, fun base _ _ => all_ok (T := { a__law_begun := f__law_begun, fd__law_begun := _, F__law_begun := fun_mk (st := s__law_begun) l__law_begun c__law_begun k__law_begun, g__law_begun := PySem.W.mg_of X G a__law_begun, a__law_draw := f__law_draw, fd__law_draw := _, F__law_draw := fun_mk (st := s__law_draw) l__law_draw c__law_draw k__law_draw, g__law_draw := PySem.W.mg_of X G a__law_draw, a__law_place := f__law_place, fd__law_place := _, F__law_place := fun_mk (st := s__law_place) l__law_place c__law_place k__law_place, g__law_place := PySem.W.mg_of X G a__law_place, a__law_places := f__law_places, fd__law_places := _, F__law_places := fun_mk (st := s__law_places) l__law_places c__law_places k__law_places, g__law_places := PySem.W.mg_of X G a__law_places, a__law_form := f__law_form, fd__law_form := _, F__law_form := fun_mk (st := s__law_form) l__law_form c__law_form k__law_form, g__law_form := PySem.W.mg_of X G a__law_form, a_new_form := f_new_form, fd_new_form := _, F_new_form := fun_mk (st := s_new_form) l_new_form c_new_form k_new_form, g_new_form := PySem.W.mg_of X G a_new_form, a__law_rows := f__law_rows, fd__law_rows := _, F__law_rows := fun_mk (st := s__law_rows) l__law_rows c__law_rows k__law_rows, g__law_rows := PySem.W.mg_of X G a__law_rows, a_worth_of := f_worth_of, fd_worth_of := _, F_worth_of := fun_mk (st := s_worth_of) l_worth_of c_worth_of k_worth_of, g_worth_of := PySem.W.mg_of X G a_worth_of, a_sum_of := f_sum_of, fd_sum_of := _, F_sum_of := fun_mk (st := s_sum_of) l_sum_of c_sum_of k_sum_of, g_sum_of := PySem.W.mg_of X G a_sum_of, a_times_of := f_times_of, fd_times_of := _, F_times_of := fun_mk (st := s_times_of) l_times_of c_times_of k_times_of, g_times_of := PySem.W.mg_of X G a_times_of, a_put_in := f_put_in, fd_put_in := _, F_put_in := fun_mk (st := s_put_in) l_put_in c_put_in k_put_in, g_put_in := PySem.W.mg_of X G a_put_in, a__law_held := f__law_held, fd__law_held := _, F__law_held := fun_mk (st := s__law_held) l__law_held c__law_held k__law_held, g__law_held := PySem.W.mg_of X G a__law_held, a_is_whole := f_is_whole, fd_is_whole := _, F_is_whole := fun_mk (st := s_is_whole) l_is_whole c_is_whole k_is_whole, g_is_whole := PySem.W.mg_of X G a_is_whole, a_is_number := f_is_number, fd_is_number := _, F_is_number := fun_mk (st := s_is_number) l_is_number c_is_number k_is_number, g_is_number := PySem.W.mg_of X G a_is_number, a_is_place := f_is_place, fd_is_place := _, F_is_place := fun_mk (st := s_is_place) l_is_place c_is_place k_is_place, g_is_place := PySem.W.mg_of X G a_is_place, a_is_term := f_is_term, fd_is_term := _, F_is_term := fun_mk (st := s_is_term) l_is_term c_is_term k_is_term, g_is_term := PySem.W.mg_of X G a_is_term, a_is_form := f_is_form, fd_is_form := _, F_is_form := fun_mk (st := s_is_form) l_is_form c_is_form k_is_form, g_is_form := PySem.W.mg_of X G a_is_form, a_inverse := f_inverse, fd_inverse := _, F_inverse := fun_mk (st := s_inverse) l_inverse c_inverse k_inverse, g_inverse := PySem.W.mg_of X G a_inverse, a_places_in := f_places_in, fd_places_in := _, F_places_in := fun_mk (st := s_places_in) l_places_in c_places_in k_places_in, g_places_in := PySem.W.mg_of X G a_places_in, a_term_in := f_term_in, fd_term_in := _, F_term_in := fun_mk (st := s_term_in) l_term_in c_term_in k_term_in, g_term_in := PySem.W.mg_of X G a_term_in, a_term_text := f_term_text, fd_term_text := _, F_term_text := fun_mk (st := s_term_text) l_term_text c_term_text k_term_text, g_term_text := PySem.W.mg_of X G a_term_text, a_form_text := f_form_text, fd_form_text := _, F_form_text := fun_mk (st := s_form_text) l_form_text c_form_text k_form_text, g_form_text := PySem.W.mg_of X G a_form_text, a_read_form := f_read_form, fd_read_form := _, F_read_form := fun_mk (st := s_read_form) l_read_form c_read_form k_read_form, g_read_form := PySem.W.mg_of X G a_read_form, a_law := fa, fd_law := _, F_law := fun_mk (st := s_law) l_law c_law k_law, g_law := PySem.W.mg_of X G a_law, n_abs := PySem.W.mg_none_of X G n_abs, n_int := PySem.W.mg_none_of X G n_int, n_len := PySem.W.mg_none_of X G n_len, n_range := PySem.W.mg_none_of X G n_range, n_str := PySem.W.mg_none_of X G n_str, n_sorted := PySem.W.mg_none_of X G n_sorted, n_tuple := PySem.W.mg_none_of X G n_tuple, n_sum := PySem.W.mg_none_of X G n_sum, n_list := PySem.W.mg_none_of X G n_list, n_dict := PySem.W.mg_none_of X G n_dict, n_isinstance := PySem.W.mg_none_of X G n_isinstance, n_bool := PySem.W.mg_none_of X G n_bool, n_all := PySem.W.mg_none_of X G n_all, n_zip := PySem.W.mg_none_of X G n_zip, c_MOST_PLACE := ⟨t_MOST_PLACE, PySem.W.mg_of X G v_MOST_PLACE⟩, c_LETTERS := ⟨t_LETTERS, PySem.W.mg_of X G v_LETTERS⟩, c_FIGURES := ⟨t_FIGURES, PySem.W.mg_of X G v_FIGURES⟩, c_MOST_FIGURES := ⟨t_MOST_FIGURES, PySem.W.mg_of X G v_MOST_FIGURES⟩ })⟩
end Lw
open PySem PySem.W PyProof.Rows
set_option maxRecDepth 100000 in
set_option maxHeartbeats 0 in
theorem PySem.Challenge.cw_onetrace_k05_whole_forms_by_all_worths_holds : PySem.Challenge.rw_onetrace_k05_whole_forms_by_all_worths.Holds := by
  w_on; o_law; k_head; (case hw => w_witness2)
  k_fill
  refine L2.walk_of (l := PySem.Challenge.rw_onetrace_k05_whole_forms_by_all_worths) (n := 63) (k := 6) (x := "script") (CX := fun _ => L2.CX0) (sp := fun w => Tr.liftSp _ Lw.sp_law) rfl (by decide) rfl ⟨rfl, by decide, by decide⟩ (fun w h Y => PySem.W.kIn_of Y) ?F (fun _ _ _ _ hl _ hS => Tr.law_end (by decide) hl hS) (fun _ _ _ _ _ h => h)
  case F =>
    intro w mg fa h KX G hmg
    refine' Lw.all_mk KX G hmg ?a__law_begun ?l__law_begun ?c__law_begun ?k__law_begun ?a__law_draw ?l__law_draw ?c__law_draw ?k__law_draw ?a__law_place ?l__law_place ?c__law_place ?k__law_place ?a__law_places ?l__law_places ?c__law_places ?k__law_places ?a__law_form ?l__law_form ?c__law_form ?k__law_form ?a_new_form ?l_new_form ?c_new_form ?k_new_form ?a__law_rows ?l__law_rows ?c__law_rows ?k__law_rows ?a_worth_of ?l_worth_of ?c_worth_of ?k_worth_of ?a_sum_of ?l_sum_of ?c_sum_of ?k_sum_of ?a_times_of ?l_times_of ?c_times_of ?k_times_of ?a_put_in ?l_put_in ?c_put_in ?k_put_in ?a__law_held ?l__law_held ?c__law_held ?k__law_held ?a_is_whole ?l_is_whole ?c_is_whole ?k_is_whole ?a_is_number ?l_is_number ?c_is_number ?k_is_number ?a_is_place ?l_is_place ?c_is_place ?k_is_place ?a_is_term ?l_is_term ?c_is_term ?k_is_term ?a_is_form ?l_is_form ?c_is_form ?k_is_form ?a_inverse ?l_inverse ?c_inverse ?k_inverse ?a_places_in ?l_places_in ?c_places_in ?k_places_in ?a_term_in ?l_term_in ?c_term_in ?k_term_in ?a_term_text ?l_term_text ?c_term_text ?k_term_text ?a_form_text ?l_form_text ?c_form_text ?k_form_text ?a_read_form ?l_read_form ?c_read_form ?k_read_form ?a_law ?l_law ?c_law ?k_law ?n_abs ?n_int ?n_len ?n_range ?n_str ?n_sorted ?n_tuple ?n_sum ?n_list ?n_dict ?n_isinstance ?n_bool ?n_all ?n_zip ?v_MOST_PLACE ?v_LETTERS ?v_FIGURES ?v_MOST_FIGURES
    (case a__law_begun => k_is); (case l__law_begun => k_is); (case c__law_begun => k_is); (case k__law_begun => k_is); (case a__law_draw => k_is); (case l__law_draw => k_is); (case c__law_draw => k_is); (case k__law_draw => k_is); (case a__law_place => k_is); (case l__law_place => k_is); (case c__law_place => k_is); (case k__law_place => k_is); (case a__law_places => k_is); (case l__law_places => k_is); (case c__law_places => k_is); (case k__law_places => k_is); (case a__law_form => k_is); (case l__law_form => k_is); (case c__law_form => k_is); (case k__law_form => k_is); (case a_new_form => k_is); (case l_new_form => k_is); (case c_new_form => k_is); (case k_new_form => k_is); (case a__law_rows => k_is); (case l__law_rows => k_is); (case c__law_rows => k_is); (case k__law_rows => k_is); (case a_worth_of => k_is); (case l_worth_of => k_is); (case c_worth_of => k_is); (case k_worth_of => k_is); (case a_sum_of => k_is); (case l_sum_of => k_is); (case c_sum_of => k_is); (case k_sum_of => k_is); (case a_times_of => k_is); (case l_times_of => k_is); (case c_times_of => k_is); (case k_times_of => k_is); (case a_put_in => k_is); (case l_put_in => k_is); (case c_put_in => k_is); (case k_put_in => k_is); (case a__law_held => k_is); (case l__law_held => k_is); (case c__law_held => k_is); (case k__law_held => k_is); (case a_is_whole => k_is); (case l_is_whole => k_is); (case c_is_whole => k_is); (case k_is_whole => k_is); (case a_is_number => k_is); (case l_is_number => k_is); (case c_is_number => k_is); (case k_is_number => k_is); (case a_is_place => k_is); (case l_is_place => k_is); (case c_is_place => k_is); (case k_is_place => k_is); (case a_is_term => k_is); (case l_is_term => k_is); (case c_is_term => k_is); (case k_is_term => k_is); (case a_is_form => k_is); (case l_is_form => k_is); (case c_is_form => k_is); (case k_is_form => k_is); (case a_inverse => k_is); (case l_inverse => k_is); (case c_inverse => k_is); (case k_inverse => k_is); (case a_places_in => k_is); (case l_places_in => k_is); (case c_places_in => k_is); (case k_places_in => k_is); (case a_term_in => k_is); (case l_term_in => k_is); (case c_term_in => k_is); (case k_term_in => k_is); (case a_term_text => k_is); (case l_term_text => k_is); (case c_term_text => k_is); (case k_term_text => k_is); (case a_form_text => k_is); (case l_form_text => k_is); (case c_form_text => k_is); (case k_form_text => k_is); (case a_read_form => k_is); (case l_read_form => k_is); (case c_read_form => k_is); (case k_read_form => k_is); (case a_law => k_is); (case l_law => k_is); (case c_law => k_is); (case k_law => k_is); (case n_abs => k_is); (case n_int => k_is); (case n_len => k_is); (case n_range => k_is); (case n_str => k_is); (case n_sorted => k_is); (case n_tuple => k_is); (case n_sum => k_is); (case n_list => k_is); (case n_dict => k_is); (case n_isinstance => k_is); (case n_bool => k_is); (case n_all => k_is); (case n_zip => k_is); (case v_MOST_PLACE => k_is); (case v_LETTERS => k_is); (case v_FIGURES => k_is); (case v_MOST_FIGURES => k_is)
