import PyProof.Rows.All
import Wide.All
import OpenK.AllK
import Wide.FinOn
import HandS.ForMost
import HandS.TupAny
import HandS.TupLe
import HandS.Deep
import HandS.IsInst
import HandS.Wide
import HandS.Style
import HandS.Flow
import HandS.Zip
import HandS.SortRule
import KE.GoesNew
import HandS.TupMul
import HandS.Conv
import PySem.Challenge.RW_onetrace_k09_common_and_without
set_option Elab.async false
set_option linter.all false
set_option maxRecDepth 100000
set_option maxHeartbeats 1000000
/-! The tree layer: data D without addresses, owned things O, the environment, readings over them. -/
namespace Tr
open PySem PySem.Spec PyProof.Rows L2

/-- data that nobody changes any more -/
inductive D where
  | non
  | bl (b : Bool)
  | int (i : Int)
  | str (x : Str)
  | tup (ds : List D)
  | lst (ds : List D)
  | frl (ds : List D)
  | dct (kvs : List (Key × D))
  | dcT (kvs : List (List Key × D))
  | ins (C : Addr) (fs : List (Str × D))
  | ty (n : String)
  | al (a : Addr)
  deriving Inhabited

/-- what one def alone holds and may change; the address tells which -/
inductive O where
  | fz (d : D)
  | lst (a : Addr) (os : List O)
  | dct (a : Addr) (kvs : List (Key × D))
  | dcT (a : Addr) (kvs : List (List Key × D))
  | ins (a dx C : Addr) (fs : List (Str × O))
  deriving Inhabited

mutual
def O.frz : O → D
  | .fz d => d
  | .lst _ os => .lst (O.frzL os)
  | .dct _ kvs => .dct kvs
  | .dcT _ kvs => .dcT kvs
  | .ins _ _ C fs => .ins C (O.frzF fs)
def O.frzL : List O → List D
  | [] => []
  | o :: os => O.frz o :: O.frzL os
def O.frzF : List (Str × O) → List (Str × D)
  | [] => []
  | p :: ps => (p.1, O.frz p.2) :: O.frzF ps
end
mutual
def O.owned : O → List Addr
  | .fz _ => []
  | .lst a os => a :: O.ownedL os
  | .dct a _ => [a]
  | .dcT a _ => [a]
  | .ins a dx _ fs => a :: dx :: O.ownedF fs
def O.ownedL : List O → List Addr
  | [] => []
  | o :: os => O.owned o ++ O.ownedL os
def O.ownedF : List (Str × O) → List Addr
  | [] => []
  | p :: ps => O.owned p.2 ++ O.ownedF ps
end
@[simp] theorem O.frz_fz (d : D) : (O.fz d).frz = d := rfl
@[simp] theorem O.owned_fz (d : D) : (O.fz d).owned = [] := rfl
theorem O.frzL_map (ds : List D) : O.frzL (ds.map O.fz) = ds := by
  induction ds with
  | nil => rfl
  | cons d r ih =>
    show O.frz (O.fz d) :: O.frzL (r.map O.fz) = d :: r
    rw [ih]
    rfl
theorem O.ownedL_map (ds : List D) : O.ownedL (ds.map O.fz) = [] := by
  induction ds with
  | nil => rfl
  | cons d r ih =>
    show O.owned (O.fz d) ++ O.ownedL (r.map O.fz) = []
    rw [ih]
    rfl
theorem O.frzL_append (xs ys : List O) : O.frzL (xs ++ ys) = O.frzL xs ++ O.frzL ys := by
  induction xs with
  | nil => rfl
  | cons o r ih =>
    show O.frz o :: O.frzL (r ++ ys) = _
    rw [ih]
    rfl
theorem O.ownedL_append (xs ys : List O) : O.ownedL (xs ++ ys) = O.ownedL xs ++ O.ownedL ys := by
  induction xs with
  | nil => rfl
  | cons o r ih =>
    show O.owned o ++ O.ownedL (r ++ ys) = _
    rw [ih, ← List.append_assoc]
    rfl

/-! ### what stands for what -/
def KOk : Key → Prop
  | .inl _ => True
  | .inr x => x.length ≤ sizeLine
def KsOk (k : List Key) : Prop := k.length ≤ sizeLine ∧ ∀ j ∈ k, KOk j
mutual
/-- the value v stands for d, in the heap of what nobody changes -/
inductive Rep (K : PySem.W.Frag) (F : Hp) : V → D → Prop
  | non : Rep K F .non .non
  | bl (b : Bool) : Rep K F (.bl b) (.bl b)
  | int (i : Int) : Rep K F (.int i) (.int i)
  | str (x : Str) : x.length ≤ sizeLine → Rep K F (.str x) (.str x)
  | tup {a : Addr} {xs : List V} {ds : List D} : F a = some (.tup xs) → ds.length ≤ sizeLine → RepL K F xs ds → Rep K F (.ref a) (.tup ds)
  | lst {a : Addr} {xs : List V} {ds : List D} : F a = some (.lst xs) → ds.length ≤ sizeLine → RepL K F xs ds → Rep K F (.ref a) (.lst ds)
  | frl {a : Addr} {xs : List V} {ds : List D} : SqL K F a xs → ds.length ≤ sizeLine → RepL K F xs ds → Rep K F (.ref a) (.frl ds)
  | dct {a : Addr} {es : List (Key × V)} {kvs : List (Key × D)} : F a = some (.dK es) → kvs.length ≤ sizeLine → RepK K F es kvs → Rep K F (.ref a) (.dct kvs)
  | dcT {a : Addr} {es : List (List Key × V)} {kvs : List (List Key × D)} : F a = some (.dT es) → kvs.length ≤ sizeLine → RepT K F es kvs → Rep K F (.ref a) (.dcT kvs)
  | ins {a C dx : Addr} {es : List (Str × V)} {fs : List (Str × D)} : F a = some (.ins C dx es) → RepS K F es fs → Rep K F (.ref a) (.ins C fs)
  | ty (n : String) : Rep K F (.ty n) (.ty n)
  | al (a : Addr) : Rep K F (.ref a) (.al a)
inductive RepL (K : PySem.W.Frag) (F : Hp) : List V → List D → Prop
  | nil : RepL K F [] []
  | cons {v : V} {vs : List V} {d : D} {ds : List D} : Rep K F v d → RepL K F vs ds → RepL K F (v :: vs) (d :: ds)
inductive RepK (K : PySem.W.Frag) (F : Hp) : List (Key × V) → List (Key × D) → Prop
  | nil : RepK K F [] []
  | cons {k : Key} {v : V} {vs : List (Key × V)} {d : D} {ds : List (Key × D)} : KOk k → Rep K F v d → RepK K F vs ds → RepK K F ((k, v) :: vs) ((k, d) :: ds)
inductive RepT (K : PySem.W.Frag) (F : Hp) : List (List Key × V) → List (List Key × D) → Prop
  | nil : RepT K F [] []
  | cons {k : List Key} {v : V} {vs : List (List Key × V)} {d : D} {ds : List (List Key × D)} : KsOk k → Rep K F v d → RepT K F vs ds → RepT K F ((k, v) :: vs) ((k, d) :: ds)
inductive RepS (K : PySem.W.Frag) (F : Hp) : List (Str × V) → List (Str × D) → Prop
  | nil : RepS K F [] []
  | cons {k : Str} {v : V} {vs : List (Str × V)} {d : D} {ds : List (Str × D)} : Rep K F v d → RepS K F vs ds → RepS K F ((k, v) :: vs) ((k, d) :: ds)
end

abbrev Sub (F F' : Hp) : Prop := ∀ b o, F b = some o → F' b = some o
theorem sqT_sub {K : PySem.W.Frag} {F F' : Hp} {a : Addr} {xs : List V} (s : Sub F F') (h : SqT K F a xs) : SqT K F' a xs := by
  rcases h with (h | ⟨o, h⟩) | h
  · exact .inl (.inl (s _ _ h))
  · exact .inl (.inr ⟨o, s _ _ h⟩)
  · exact .inr h
theorem sqL_sub {K : PySem.W.Frag} {F F' : Hp} {a : Addr} {xs : List V} (s : Sub F F') (h : SqL K F a xs) : SqL K F' a xs := by
  rcases h with (h | ⟨o, h⟩) | h
  · exact .inl (.inl (s _ _ h))
  · exact .inl (.inr ⟨o, s _ _ h⟩)
  · exact .inr h
section
variable {K : PySem.W.Frag} {F F' : Hp}
mutual
theorem Rep.mono (s : Sub F F') : ∀ {v : V} {d : D}, Rep K F v d → Rep K F' v d
  | _, _, .non => .non
  | _, _, .bl b => .bl b
  | _, _, .int i => .int i
  | _, _, .str x h => .str x h
  | _, _, .tup h z r => .tup (s _ _ h) z (RepL.mono s r)
  | _, _, .lst h z r => .lst (s _ _ h) z (RepL.mono s r)
  | _, _, .frl h z r => .frl (sqL_sub s h) z (RepL.mono s r)
  | _, _, .dct h z r => .dct (s _ _ h) z (RepK.mono s r)
  | _, _, .dcT h z r => .dcT (s _ _ h) z (RepT.mono s r)
  | _, _, .ins h r => .ins (s _ _ h) (RepS.mono s r)
  | _, _, .ty n => .ty n
  | _, _, .al n => .al n
theorem RepL.mono (s : Sub F F') : ∀ {v : List V} {d : List D}, RepL K F v d → RepL K F' v d
  | _, _, .nil => .nil
  | _, _, .cons h r => .cons (Rep.mono s h) (RepL.mono s r)
theorem RepK.mono (s : Sub F F') : ∀ {v : List (Key × V)} {d : List (Key × D)}, RepK K F v d → RepK K F' v d
  | _, _, .nil => .nil
  | _, _, .cons q h r => .cons q (Rep.mono s h) (RepK.mono s r)
theorem RepT.mono (s : Sub F F') : ∀ {v : List (List Key × V)} {d : List (List Key × D)}, RepT K F v d → RepT K F' v d
  | _, _, .nil => .nil
  | _, _, .cons q h r => .cons q (Rep.mono s h) (RepT.mono s r)
theorem RepS.mono (s : Sub F F') : ∀ {v : List (Str × V)} {d : List (Str × D)}, RepS K F v d → RepS K F' v d
  | _, _, .nil => .nil
  | _, _, .cons h r => .cons (Rep.mono s h) (RepS.mono s r)
end
theorem RepL.length : ∀ {vs : List V} {ds : List D}, RepL K F vs ds → vs.length = ds.length
  | _, _, .nil => rfl
  | _, _, .cons _ r => congrArg (· + 1) (RepL.length r)
theorem RepL.get : ∀ {vs : List V} {ds : List D} {i : Nat} {d : D}, RepL K F vs ds → ds[i]? = some d → ∃ v, vs[i]? = some v ∧ Rep K F v d
  | _, _, _, _, .nil, e => by cases e
  | _, _, 0, _, .cons h _, e => by cases e; exact ⟨_, rfl, h⟩
  | _, _, i + 1, _, .cons _ r, e => RepL.get (i := i) r (by simpa using e)
theorem RepL.get' : ∀ {vs : List V} {ds : List D} {i : Nat} {v : V}, RepL K F vs ds → vs[i]? = some v → ∃ d, ds[i]? = some d ∧ Rep K F v d
  | _, _, _, _, .nil, e => by cases e
  | _, _, 0, _, .cons h _, e => by cases e; exact ⟨_, rfl, h⟩
  | _, _, i + 1, _, .cons _ r, e => RepL.get' (i := i) r (by simpa using e)
theorem RepL.append : ∀ {vs ws : List V} {ds es : List D}, RepL K F vs ds → RepL K F ws es → RepL K F (vs ++ ws) (ds ++ es)
  | _, _, _, _, .nil, s => s
  | _, _, _, _, .cons h r, s => .cons h (RepL.append r s)
theorem RepL.take : ∀ {vs : List V} {ds : List D} (n : Nat), RepL K F vs ds → RepL K F (vs.take n) (ds.take n)
  | _, _, 0, _ => .nil
  | _, _, _ + 1, .nil => .nil
  | _, _, n + 1, .cons h r => .cons h (RepL.take n r)
theorem RepL.drop : ∀ {vs : List V} {ds : List D} (n : Nat), RepL K F vs ds → RepL K F (vs.drop n) (ds.drop n)
  | _, _, 0, r => r
  | _, _, _ + 1, .nil => .nil
  | _, _, n + 1, .cons _ r => RepL.drop n r
end

mutual
/-- the value v stands for the owned thing o -/
inductive RepO (K : PySem.W.Frag) (F H : Hp) : V → O → Prop
  | fz {v : V} {d : D} : Rep K F v d → RepO K F H v (.fz d)
  | lst {a : Addr} {xs : List V} {os : List O} : H a = some (.lst xs) → os.length ≤ sizeLine → RepOL K F H xs os → RepO K F H (.ref a) (.lst a os)
  | dct {a : Addr} {es : List (Key × V)} {kvs : List (Key × D)} : H a = some (.dK es) → kvs.length ≤ sizeLine → RepK K F es kvs → RepO K F H (.ref a) (.dct a kvs)
  | dcT {a : Addr} {es : List (List Key × V)} {kvs : List (List Key × D)} : H a = some (.dT es) → kvs.length ≤ sizeLine → RepT K F es kvs → RepO K F H (.ref a) (.dcT a kvs)
  | ins {a C dx : Addr} {es : List (Str × V)} {fs : List (Str × O)} : H a = some (.ins C dx es) → H dx = some (.own a) → RepOS K F H es fs → RepO K F H (.ref a) (.ins a dx C fs)
inductive RepOL (K : PySem.W.Frag) (F H : Hp) : List V → List O → Prop
  | nil : RepOL K F H [] []
  | cons {v : V} {vs : List V} {d : O} {ds : List O} : RepO K F H v d → RepOL K F H vs ds → RepOL K F H (v :: vs) (d :: ds)
inductive RepOS (K : PySem.W.Frag) (F H : Hp) : List (Str × V) → List (Str × O) → Prop
  | nil : RepOS K F H [] []
  | cons {k : Str} {v : V} {vs : List (Str × V)} {d : O} {ds : List (Str × O)} : RepO K F H v d → RepOS K F H vs ds → RepOS K F H ((k, v) :: vs) ((k, d) :: ds)
end
section
variable {K : PySem.W.Frag} {F F' H H' : Hp}
mutual
theorem RepO.mono (s : Sub F F') : ∀ {v : V} {o : O}, (∀ a ∈ o.owned, ∀ u, H a = some u → H' a = some u) → RepO K F H v o → RepO K F' H' v o
  | _, _, _, .fz h => .fz (h.mono s)
  | _, .lst a os, k, .lst h z r => .lst (k _ (List.mem_cons_self) _ h) z (RepOL.mono s (fun b hb => k b (List.mem_cons_of_mem _ hb)) r)
  | _, .dct a kvs, k, .dct h z r => .dct (k _ (List.mem_cons_self) _ h) z (RepK.mono s r)
  | _, .dcT a kvs, k, .dcT h z r => .dcT (k _ (List.mem_cons_self) _ h) z (RepT.mono s r)
  | _, .ins a dx C fs, k, .ins h h2 r => .ins (k _ (List.mem_cons_self) _ h) (k _ (List.mem_cons_of_mem _ List.mem_cons_self) _ h2) (RepOS.mono s (fun b hb => k b (List.mem_cons_of_mem _ (List.mem_cons_of_mem _ hb))) r)
theorem RepOL.mono (s : Sub F F') : ∀ {v : List V} {o : List O}, (∀ a ∈ O.ownedL o, ∀ u, H a = some u → H' a = some u) → RepOL K F H v o → RepOL K F' H' v o
  | _, _, _, .nil => .nil
  | _, o :: os, k, .cons h r => .cons (RepO.mono s (fun b hb => k b (List.mem_append_left _ hb)) h) (RepOL.mono s (fun b hb => k b (List.mem_append_right _ hb)) r)
theorem RepOS.mono (s : Sub F F') : ∀ {v : List (Str × V)} {o : List (Str × O)}, (∀ a ∈ O.ownedF o, ∀ u, H a = some u → H' a = some u) → RepOS K F H v o → RepOS K F' H' v o
  | _, _, _, .nil => .nil
  | _, o :: os, k, .cons h r => .cons (RepO.mono s (fun b hb => k b (List.mem_append_left _ hb)) h) (RepOS.mono s (fun b hb => k b (List.mem_append_right _ hb)) r)
end
mutual
/-- what is owned stands in the heap -/
theorem RepO.there : ∀ {v : V} {o : O}, RepO K F H v o → ∀ a ∈ o.owned, ∃ u, H a = some u
  | _, .lst a os, .lst h z r, b, hb => by
    rcases List.mem_cons.mp hb with e | hb
    · subst e; exact ⟨_, h⟩
    · exact RepOL.there r b hb
  | _, .dct a kvs, .dct h z r, b, hb => by
    have e : b = a := by simpa [O.owned] using hb
    subst e; exact ⟨_, h⟩
  | _, .dcT a kvs, .dcT h z r, b, hb => by
    have e : b = a := by simpa [O.owned] using hb
    subst e; exact ⟨_, h⟩
  | _, .ins a dx C fs, .ins h h2 r, b, hb => by
    rcases List.mem_cons.mp hb with e | hb
    · subst e; exact ⟨_, h⟩
    · rcases List.mem_cons.mp hb with e | hb
      · subst e; exact ⟨_, h2⟩
      · exact RepOS.there r b hb
theorem RepOL.there : ∀ {v : List V} {o : List O}, RepOL K F H v o → ∀ a ∈ O.ownedL o, ∃ u, H a = some u
  | _, o :: os, .cons h r, b, hb => by
    rcases List.mem_append.mp hb with hb | hb
    · exact RepO.there h b hb
    · exact RepOL.there r b hb
theorem RepOS.there : ∀ {v : List (Str × V)} {o : List (Str × O)}, RepOS K F H v o → ∀ a ∈ O.ownedF o, ∃ u, H a = some u
  | _, o :: os, .cons h r, b, hb => by
    rcases List.mem_append.mp hb with hb | hb
    · exact RepO.there h b hb
    · exact RepOS.there r b hb
end
mutual
/-- .. and is not locked -/
theorem RepO.nofrz : ∀ {v : V} {o : O}, RepO K F H v o → ∀ a ∈ o.owned, ∀ ob u, H a ≠ some (.frz ob u)
  | _, .lst a os, .lst h z r, b, hb, ob, u => by
    rcases List.mem_cons.mp hb with e | hb
    · subst e; rw [h]; exact fun q => nomatch q
    · exact RepOL.nofrz r b hb ob u
  | _, .dct a kvs, .dct h z r, b, hb, ob, u => by
    have e : b = a := by simpa [O.owned] using hb
    subst e; rw [h]; exact fun q => nomatch q
  | _, .dcT a kvs, .dcT h z r, b, hb, ob, u => by
    have e : b = a := by simpa [O.owned] using hb
    subst e; rw [h]; exact fun q => nomatch q
  | _, .ins a dx C fs, .ins h h2 r, b, hb, ob, u => by
    rcases List.mem_cons.mp hb with e | hb
    · subst e; rw [h]; exact fun q => nomatch q
    · rcases List.mem_cons.mp hb with e | hb
      · subst e; rw [h2]; exact fun q => nomatch q
      · exact RepOS.nofrz r b hb ob u
theorem RepOL.nofrz : ∀ {v : List V} {o : List O}, RepOL K F H v o → ∀ a ∈ O.ownedL o, ∀ ob u, H a ≠ some (.frz ob u)
  | _, o :: os, .cons h r, b, hb, ob, u => by
    rcases List.mem_append.mp hb with hb | hb
    · exact RepO.nofrz h b hb ob u
    · exact RepOL.nofrz r b hb ob u
theorem RepOS.nofrz : ∀ {v : List (Str × V)} {o : List (Str × O)}, RepOS K F H v o → ∀ a ∈ O.ownedF o, ∀ ob u, H a ≠ some (.frz ob u)
  | _, o :: os, .cons h r, b, hb, ob, u => by
    rcases List.mem_append.mp hb with hb | hb
    · exact RepO.nofrz h b hb ob u
    · exact RepOS.nofrz r b hb ob u
end
mutual
/-- .. and is no tuple -/
theorem RepO.nt : ∀ {v : V} {o : O}, RepO K F H v o → ∀ a ∈ o.owned, ∀ u, H a ≠ some (.tup u)
  | _, .lst a os, .lst h z r, b, hb, u => by
    rcases List.mem_cons.mp hb with e | hb
    · subst e; rw [h]; exact fun q => nomatch q
    · exact RepOL.nt r b hb u
  | _, .dct a kvs, .dct h z r, b, hb, u => by
    have e : b = a := by simpa [O.owned] using hb
    subst e; rw [h]; exact fun q => nomatch q
  | _, .dcT a kvs, .dcT h z r, b, hb, u => by
    have e : b = a := by simpa [O.owned] using hb
    subst e; rw [h]; exact fun q => nomatch q
  | _, .ins a dx C fs, .ins h h2 r, b, hb, u => by
    rcases List.mem_cons.mp hb with e | hb
    · subst e; rw [h]; exact fun q => nomatch q
    · rcases List.mem_cons.mp hb with e | hb
      · subst e; rw [h2]; exact fun q => nomatch q
      · exact RepOS.nt r b hb u
theorem RepOL.nt : ∀ {v : List V} {o : List O}, RepOL K F H v o → ∀ a ∈ O.ownedL o, ∀ u, H a ≠ some (.tup u)
  | _, o :: os, .cons h r, b, hb, u => by
    rcases List.mem_append.mp hb with hb | hb
    · exact RepO.nt h b hb u
    · exact RepOL.nt r b hb u
theorem RepOS.nt : ∀ {v : List (Str × V)} {o : List (Str × O)}, RepOS K F H v o → ∀ a ∈ O.ownedF o, ∀ u, H a ≠ some (.tup u)
  | _, o :: os, .cons h r, b, hb, u => by
    rcases List.mem_append.mp hb with hb | hb
    · exact RepO.nt h b hb u
    · exact RepOS.nt r b hb u
end
theorem RepOL.length : ∀ {v : List V} {o : List O}, RepOL K F H v o → v.length = o.length
  | _, _, .nil => rfl
  | _, _, .cons _ r => congrArg (· + 1) (RepOL.length r)
mutual
/-- an owned thing let go: nobody changes it any more -/
theorem RepO.froz (s : Sub F F') : ∀ {v : V} {o : O}, (∀ a ∈ o.owned, ∀ u, H a = some u → F' a = some u) → RepO K F H v o → Rep K F' v o.frz
  | _, _, _, .fz h => h.mono s
  | _, .lst a os, k, .lst h z r => .lst (k _ (List.mem_cons_self) _ h) (by rw [← RepL.length (RepOL.froz s (fun b hb => k b (List.mem_cons_of_mem _ hb)) r), RepOL.length r]; exact z) (RepOL.froz s (fun b hb => k b (List.mem_cons_of_mem _ hb)) r)
  | _, .dct a kvs, k, .dct h z r => .dct (k _ (List.mem_cons_self) _ h) z (RepK.mono s r)
  | _, .dcT a kvs, k, .dcT h z r => .dcT (k _ (List.mem_cons_self) _ h) z (RepT.mono s r)
  | _, .ins a dx C fs, k, .ins h h2 r => .ins (k _ (List.mem_cons_self) _ h) (RepOS.froz s (fun b hb => k b (List.mem_cons_of_mem _ (List.mem_cons_of_mem _ hb))) r)
theorem RepOL.froz (s : Sub F F') : ∀ {v : List V} {o : List O}, (∀ a ∈ O.ownedL o, ∀ u, H a = some u → F' a = some u) → RepOL K F H v o → RepL K F' v (O.frzL o)
  | _, _, _, .nil => .nil
  | _, o :: os, k, .cons h r => .cons (RepO.froz s (fun b hb => k b (List.mem_append_left _ hb)) h) (RepOL.froz s (fun b hb => k b (List.mem_append_right _ hb)) r)
theorem RepOS.froz (s : Sub F F') : ∀ {v : List (Str × V)} {o : List (Str × O)}, (∀ a ∈ O.ownedF o, ∀ u, H a = some u → F' a = some u) → RepOS K F H v o → RepS K F' v (O.frzF o)
  | _, _, _, .nil => .nil
  | _, o :: os, k, .cons h r => .cons (RepO.froz s (fun b hb => k b (List.mem_append_left _ hb)) h) (RepOS.froz s (fun b hb => k b (List.mem_append_right _ hb)) r)
end
theorem RepOL.get : ∀ {vs : List V} {os : List O} {i : Nat} {o : O}, RepOL K F H vs os → os[i]? = some o → ∃ v, vs[i]? = some v ∧ RepO K F H v o
  | _, _, _, _, .nil, e => by cases e
  | _, _, 0, _, .cons h _, e => by cases e; exact ⟨_, rfl, h⟩
  | _, _, i + 1, _, .cons _ r, e => RepOL.get (i := i) r (by simpa using e)
theorem RepOL.append : ∀ {vs ws : List V} {ds es : List O}, RepOL K F H vs ds → RepOL K F H ws es → RepOL K F H (vs ++ ws) (ds ++ es)
  | _, _, _, _, .nil, s => s
  | _, _, _, _, .cons h r, s => .cons h (RepOL.append r s)
theorem RepOL.of : ∀ {vs : List V} {ds : List D}, RepL K F vs ds → RepOL K F H vs (ds.map O.fz)
  | _, _, .nil => .nil
  | _, _, .cons h r => .cons (.fz h) (RepOL.of r)
end

/-! ### the environment -/
abbrev TEnv := List (Option O)
def slotOwned : Option O → List Addr
  | none => []
  | some o => o.owned
def ownedE : TEnv → List Addr
  | [] => []
  | s :: r => slotOwned s ++ ownedE r
/-- the heap of what nobody changes within the heap: a dict may be locked while it is walked -/
def isDct : HO → Prop
  | .dK _ => True
  | .dT _ => True
  | _ => False
def isTupO : HO → Prop
  | .tup _ => True
  | _ => False
def Sb (F H : Hp) : Prop := ∀ b o, F b = some o → H b = some o ∨ ∃ ob, isDct o ∧ H b = some (.frz ob o)
structure SR (K : PySem.W.Frag) (ρ : TEnv) (σ : L2.St) (F H : Hp) : Prop where
  sub : Sb F H
  len : ρ.length = σ.length
  slot : ∀ (i : Nat) (o : O), ρ[i]? = some (some o) → ∃ v, σ[i]? = some (some v) ∧ RepO K F H v o
  own : ∀ a ∈ ownedE ρ, F a = none
  nd : (ownedE ρ).Nodup
/-- what an evaluation does to the heaps -/
structure Frm (L : List Addr) (F H : Hp) (L' : List Addr) (F' H' : Hp) : Prop where
  fz : Sub F F'
  out : ∀ b o, b ∉ L → ¬ isTupO o → F b = none → H b = some o → H' b = some o ∧ F' b = none
  new : ∀ b ∈ L', b ∈ L ∨ H b = none
  dom : ∀ b o, H b = some o → ∃ o', H' b = some o'
  lk : ∀ b o u, H b = some (.frz o u) → H' b = some (.frz o u)
theorem Frm.refl {L : List Addr} {F H : Hp} : Frm L F H L F H := ⟨fun _ _ h => h, fun _ _ _ _ n h => ⟨h, n⟩, fun _ h => .inl h, fun _ o h => ⟨o, h⟩, fun _ _ _ h => h⟩
theorem Frm.trans {L L1 L2 : List Addr} {F H F1 H1 F2 H2 : Hp} (a : Frm L F H L1 F1 H1) (b : Frm L1 F1 H1 L2 F2 H2) : Frm L F H L2 F2 H2 where
  fz := fun c o h => b.fz c o (a.fz c o h)
  out := fun c o n nt f h => by
    obtain ⟨h1, f1⟩ := a.out c o n nt f h
    refine b.out c o (fun hc => ?_) nt f1 h1
    rcases a.new c hc with z | z
    · exact n z
    · rw [h] at z; cases z
  new := fun c hc => by
    rcases b.new c hc with z | z
    · exact a.new c z
    · refine .inr ?_
      cases q : H c with
      | none => rfl
      | some o =>
        obtain ⟨o', e⟩ := a.dom c o q
        rw [z] at e; cases e
  dom := fun c o h => by
    obtain ⟨o', e⟩ := a.dom c o h
    exact b.dom c o' e
  lk := fun c o u h => b.lk c o u (a.lk c o u h)
theorem Frm.less {L L' L'' : List Addr} {F H F' H' : Hp} (a : Frm L F H L' F' H') (h : ∀ b ∈ L'', b ∈ L') : Frm L F H L'' F' H' := ⟨a.fz, a.out, fun b hb => a.new b (h b hb), a.dom, a.lk⟩

theorem mem_ownedE : ∀ {ρ : TEnv} {i : Nat} {o : O}, ρ[i]? = some (some o) → ∀ a ∈ o.owned, a ∈ ownedE ρ
  | [], _, _, e, _, _ => by cases e
  | s :: r, 0, o, e, a, h => by cases e; exact List.mem_append_left _ h
  | s :: r, i + 1, o, e, a, h => List.mem_append_right _ (mem_ownedE (ρ := r) (i := i) (by simpa using e) a h)
theorem of_ownedE : ∀ {ρ : TEnv} {a : Addr}, a ∈ ownedE ρ → ∃ (i : Nat) (o : O), ρ[i]? = some (some o) ∧ a ∈ o.owned
  | s :: r, a, h => by
    rcases List.mem_append.mp h with h | h
    · cases s with
      | none => cases h
      | some o => exact ⟨0, o, rfl, h⟩
    · obtain ⟨i, o, e, q⟩ := of_ownedE h
      exact ⟨i + 1, o, by simpa using e, q⟩
section
variable {K : PySem.W.Frag} {ρ : TEnv} {σ : L2.St} {F H F' H' : Hp}
theorem Sb.lst {a : Addr} {xs : List V} (s : Sb F H) (h : F a = some (.lst xs)) : H a = some (.lst xs) := by
  rcases s a _ h with z | ⟨_, e, _⟩
  · exact z
  · exact e.elim
theorem Sb.ins {a C dx : Addr} {xs : List (Str × V)} (s : Sb F H) (h : F a = some (.ins C dx xs)) : H a = some (.ins C dx xs) := by
  rcases s a _ h with z | ⟨_, e, _⟩
  · exact z
  · exact e.elim
theorem Sb.dK {a : Addr} {xs : List (Key × V)} (s : Sb F H) (h : F a = some (.dK xs)) : Rd H a (.dK xs) := by
  rcases s a _ h with z | ⟨ob, e, z⟩
  · exact .inl z
  · exact .inr ⟨ob, z⟩
theorem Sb.dT {a : Addr} {xs : List (List Key × V)} (s : Sb F H) (h : F a = some (.dT xs)) : Rd H a (.dT xs) := by
  rcases s a _ h with z | ⟨ob, e, z⟩
  · exact .inl z
  · exact .inr ⟨ob, z⟩
theorem Sb.tup {a : Addr} {xs : List V} (s : Sb F H) (h : F a = some (.tup xs)) : H a = some (.tup xs) := by
  rcases s a _ h with z | ⟨_, e, _⟩
  · exact z
  · exact e.elim
theorem Sb.sqT {a : Addr} {xs : List V} (s : Sb F H) (h : F a = some (.tup xs)) : SqT K H a xs := .inl (.inl (s.tup h))
theorem Sb.sqL {a : Addr} {xs : List V} (s : Sb F H) (h : SqL K F a xs) : SqL K H a xs := by
  rcases h with (h | ⟨o, h⟩) | h
  · rcases s a _ h with z | ⟨_, e, _⟩
    · exact .inl (.inl z)
    · exact e.elim
  · rcases s a _ h with z | ⟨_, e, _⟩
    · exact .inl (.inr ⟨o, z⟩)
    · exact e.elim
  · exact .inr h
theorem SR.thereE (s : SR K ρ σ F H) : ∀ a ∈ ownedE ρ, ∃ u, H a = some u := fun a ha => by
  obtain ⟨i, o, e, h⟩ := of_ownedE ha
  obtain ⟨v, _, r⟩ := s.slot i o e
  exact r.there a h
theorem Sb.free (s : Sb F H) {p : Addr} (h : H p = none) : F p = none := by
  cases q : F p with
  | none => rfl
  | some o =>
    rcases s p o q with z | ⟨_, _, z⟩ <;> rw [h] at z <;> cases z

theorem SR.ntE (s : SR K ρ σ F H) : ∀ a ∈ ownedE ρ, ∀ u, H a = some u → ¬ isTupO u := fun a ha u hu ht => by
  obtain ⟨i, o, e, h⟩ := of_ownedE ha
  obtain ⟨v, _, r⟩ := s.slot i o e
  cases u <;> first
    | exact ht
    | exact r.nt a h _ hu
/-- a temporary on top -/
theorem SR.push {o : O} {v : V} (s : SR K ρ σ F H) (r : RepO K F H v o) (h1 : ∀ a ∈ o.owned, F a = none) (h2 : (o.owned ++ ownedE ρ).Nodup) : SR K (some o :: ρ) (some v :: σ) F H where
  sub := s.sub
  len := by rw [List.length_cons, List.length_cons, s.len]
  slot := fun i u e => by
    cases i with
    | zero => cases e; exact ⟨v, rfl, r⟩
    | succ i => exact s.slot i u (by simpa using e)
  own := fun a ha => (List.mem_append.mp ha).elim (h1 a) (s.own a)
  nd := h2
theorem SR.pushD {d : D} {v : V} (s : SR K ρ σ F H) (r : Rep K F v d) : SR K (some (.fz d) :: ρ) (some v :: σ) F H :=
  s.push (.fz r) (fun _ h => by cases h) (by simpa using s.nd)
theorem SR.pop {t : Option O} {v : Option V} (s : SR K (t :: ρ) (v :: σ) F H) : SR K ρ σ F H where
  sub := s.sub
  len := by simpa using s.len
  slot := fun i u e => s.slot (i + 1) u (by simpa using e)
  own := fun a ha => s.own a (List.mem_append_right _ ha)
  nd := (List.nodup_append.mp s.nd).2.1
theorem SR.top {o : O} {v : V} (s : SR K (some o :: ρ) (some v :: σ) F H) : RepO K F H v o := by
  obtain ⟨w, e, r⟩ := s.slot 0 o rfl
  cases e
  exact r
theorem SR.topD {d : D} {v : V} (s : SR K (some (.fz d) :: ρ) (some v :: σ) F H) : Rep K F v d := by
  cases s.top with
  | fz h => exact h
/-- what stands outside stays: a temporary over an evaluation -/
theorem SR.frame {ρ' : TEnv} {σ' : L2.St} {o : Option O} {v : Option V} (s : SR K (o :: ρ) (v :: σ) F H) (s' : SR K ρ' σ' F' H') (f : Frm (ownedE ρ) F H (ownedE ρ') F' H') :
    SR K (o :: ρ') (v :: σ') F' H' ∧ Frm (ownedE (o :: ρ)) F H (ownedE (o :: ρ')) F' H' := by
  have ap := List.nodup_append.mp s.nd
  have key : ∀ a ∈ slotOwned o, ∀ u, H a = some u → H' a = some u ∧ F' a = none := fun a ha u e =>
    f.out a u (fun hb => ap.2.2 a ha a hb rfl) (s.ntE a (List.mem_append_left _ ha) u e) (s.own a (List.mem_append_left _ ha)) e
  have th : ∀ a ∈ slotOwned o, ∃ u, H a = some u := fun a ha => s.thereE a (List.mem_append_left _ ha)
  refine ⟨⟨s'.sub, by rw [List.length_cons, List.length_cons, s'.len], fun i u e => ?_, fun a ha => ?_, ?_⟩, f.fz, fun b u hb ht hf e => ?_, fun b hb => ?_, f.dom, f.lk⟩
  · cases i with
    | zero =>
      obtain ⟨w, e1, r⟩ := s.slot 0 u e
      refine ⟨w, e1, r.mono f.fz fun a ha x hx => (key a ?_ x hx).1⟩
      have e' : o = some u := by simpa using e
      rw [e']
      exact ha
    | succ i => exact s'.slot i u (by simpa using e)
  · rcases List.mem_append.mp ha with h | h
    · obtain ⟨u, e⟩ := th a h
      exact (key a h u e).2
    · exact s'.own a h
  · refine List.nodup_append.mpr ⟨ap.1, s'.nd, fun a ha b hb e => ?_⟩
    subst e
    obtain ⟨u, e⟩ := th a ha
    rcases f.new a hb with z | z
    · exact ap.2.2 a ha a z rfl
    · rw [e] at z; cases z
  · exact f.out b u (fun z => hb (List.mem_append_right _ z)) ht hf e
  · rcases List.mem_append.mp hb with h | h
    · exact .inl (List.mem_append_left _ h)
    · exact (f.new b h).imp (List.mem_append_right _) id
/-- nothing but what is new -/
abbrev Grow (F H F' H' : Hp) : Prop := Frm [] F H [] F' H'
theorem Frm.ofGrow {L : List Addr} (g : Grow F H F' H') : Frm L F H L F' H' := ⟨g.fz, fun b o _ => g.out b o (by simp), fun _ h => .inl h, g.dom, g.lk⟩
theorem SR.grow (s : SR K ρ σ F H) (g : Grow F H F' H') (sb : Sb F' H') : SR K ρ σ F' H' where
  sub := sb
  len := s.len
  slot := fun i o e => by
    obtain ⟨v, e1, r⟩ := s.slot i o e
    exact ⟨v, e1, r.mono g.fz fun a ha u hu => (g.out a u (by simp) (s.ntE a (mem_ownedE e a ha) u hu) (s.own a (mem_ownedE e a ha)) hu).1⟩
  own := fun a ha => by
    obtain ⟨u, e⟩ := s.thereE a ha
    exact (g.out a u (by simp) (s.ntE a ha u e) (s.own a ha) e).2
  nd := s.nd
/-- a new thing that nobody changes -/
theorem grow_new {p : Addr} {o : HO} (sb : Sb F H) (hp : H p = none) : Grow F H (upd F p o) (upd H p o) ∧ Sb (upd F p o) (upd H p o) := by
  have fp : F p = none := sb.free hp
  refine ⟨⟨fun b u h => ?_, fun b u _ _ hf h => ?_, fun _ h => (nomatch h), fun b u h => ?_, fun b u w h => by rw [upd_ne (ne_of_none h hp)]; exact h⟩, fun b u h => ?_⟩
  · rw [upd_ne (ne_of_none h fp)]; exact h
  · have ne := ne_of_none h hp
    rw [upd_ne ne, upd_ne ne]
    exact ⟨h, hf⟩
  · by_cases e : b = p
    · subst e; rw [hp] at h; cases h
    · exact ⟨u, by rw [upd_ne e]; exact h⟩
  · by_cases e : b = p
    · subst e
      rw [upd_same] at h ⊢
      exact .inl h
    · rw [upd_ne e] at h
      rw [upd_ne e]
      exact sb b u h
/-- a new thing that is owned -/
theorem SR.newO {p : Addr} {u : HO} {o : O} (s : SR K ρ σ F H) (hp : H p = none) (r : RepO K F (upd H p u) (.ref p) o) (ho : o.owned = [p]) :
    SR K (some o :: ρ) (some (.ref p) :: σ) F (upd H p u) ∧ Frm (ownedE ρ) F H (ownedE (some o :: ρ)) F (upd H p u) := by
  have fp : F p = none := s.sub.free hp
  have np : p ∉ ownedE ρ := fun h => by
    obtain ⟨w, e⟩ := s.thereE p h
    rw [hp] at e; cases e
  have sb : Sb F (upd H p u) := fun b w h => by
    rw [upd_ne (ne_of_none h fp)]
    exact s.sub b w h
  have g : Grow F H F (upd H p u) := ⟨fun _ _ h => h, fun b w _ _ hf h => ⟨by rw [upd_ne (ne_of_none h hp)]; exact h, hf⟩, fun _ h => (nomatch h), fun b w h => ⟨w, by rw [upd_ne (ne_of_none h hp)]; exact h⟩, fun b w x h => by rw [upd_ne (ne_of_none h hp)]; exact h⟩
  have s1 := s.grow g sb
  refine ⟨s1.push r (fun a ha => ?_) ?_, ⟨fun _ _ h => h, fun b w _ ht hf h => g.out b w (by simp) ht hf h, fun b hb => ?_, g.dom, g.lk⟩⟩
  · rw [ho] at ha
    have e : a = p := by simpa using ha
    subst e; exact fp
  · rw [ho]
    exact List.nodup_cons.mpr ⟨np, s.nd⟩
  · rcases List.mem_append.mp hb with h | h
    · have h : b ∈ o.owned := h
      rw [ho] at h
      have e : b = p := by simpa using h
      subst e; exact .inr hp
    · exact .inl h
/-- a key of a dict, told to be data -/
theorem SR.tupF {b : Addr} {xs : List V} (s : SR K ρ σ F H) (h : H b = some (.tup xs)) : ∃ F', SR K ρ σ F' H ∧ (∀ L, Frm L F H L F' H) ∧ F' b = some (.tup xs) ∧ Sub F F' := by
  cases hF : F b with
  | some o =>
    refine ⟨F, s, fun L => .refl, ?_, fun _ _ h => h⟩
    rcases s.sub b o hF with z | ⟨_, _, z⟩
    · rw [h] at z
      rw [hF, ← Option.some.inj z]
    · rw [h] at z
      cases z
  | none =>
    have su : Sub F (upd F b (.tup xs)) := fun c u e => by
      rw [upd_ne (ne_of_none e hF)]; exact e
    refine ⟨upd F b (.tup xs), ⟨fun c u e => ?_, s.len, fun i o e => ?_, fun a ha => ?_, s.nd⟩, fun L => ⟨su, fun c u _ nt hf e => ⟨e, ?_⟩, fun _ h => .inl h, fun _ o h => ⟨o, h⟩, fun _ _ _ h => h⟩, upd_same, su⟩
    · by_cases q : c = b
      · subst q
        rw [upd_same] at e
        rw [← Option.some.inj e]
        exact .inl h
      · rw [upd_ne q] at e
        exact s.sub c u e
    · obtain ⟨v, hv, r⟩ := s.slot i o e
      exact ⟨v, hv, r.mono su fun _ _ _ h => h⟩
    · by_cases q : a = b
      · subst q
        exact absurd True.intro (s.ntE a ha _ h)
      · rw [upd_ne q]
        exact s.own a ha
    · by_cases q : c = b
      · subst q
        rw [h] at e
        rw [← Option.some.inj e] at nt
        exact absurd True.intro nt
      · rw [upd_ne q]
        exact hf
/-- .. without slots -/
theorem Sb.tupF (K0 : PySem.W.Frag) {b : Addr} {xs : List V} (s : Sb F H) (h : H b = some (.tup xs)) : ∃ F', Sb F' H ∧ Grow F H F' H ∧ F' b = some (.tup xs) := by
  have s0 : SR K0 [] [] F H := ⟨s, rfl, fun _ _ e => (by cases e), fun _ h => (by cases h), List.nodup_nil⟩
  obtain ⟨F', s1, f, e, _⟩ := s0.tupF h
  exact ⟨F', s1.sub, f [], e⟩
/-- a dict locked -/
theorem SR.lock {d : Addr} {u : HO} {od : Obj} (s : SR K ρ σ F H) (hF : F d = some u) (hd : isDct u) (hH : H d = some u) : SR K ρ σ F (upd H d (.frz od u)) ∧ ∀ L, Frm L F H L F (upd H d (.frz od u)) := by
  refine ⟨⟨fun b w h => ?_, s.len, fun i o e => ?_, s.own, s.nd⟩, fun L => ⟨fun _ _ h => h, fun b w _ _ hf e => ⟨?_, hf⟩, fun _ h => .inl h, fun b w e => ?_, fun b w x h => ?_⟩⟩
  · by_cases q : b = d
    · subst q
      rw [hF] at h
      rw [← Option.some.inj h]
      exact .inr ⟨od, hd, upd_same⟩
    · rw [upd_ne q]
      exact s.sub b w h
  · obtain ⟨v, hv, r⟩ := s.slot i o e
    refine ⟨v, hv, r.mono (fun _ _ h => h) fun a ha w hw => ?_⟩
    rw [upd_ne (fun q => by subst q; rw [s.own _ (mem_ownedE e _ ha)] at hF; cases hF)]
    exact hw
  · rw [upd_ne (fun q => by subst q; rw [hf] at hF; cases hF)]
    exact e
  · by_cases q : b = d
    · subst q
      exact ⟨_, upd_same⟩
    · exact ⟨w, by rw [upd_ne q]; exact e⟩
  · rw [upd_ne (fun q => by subst q; rw [hH] at h; rw [Option.some.inj h] at hd; exact hd)]
    exact h
/-- let go -/
theorem SR.froz {o : O} {v : V} (s : SR K (some o :: ρ) (some v :: σ) F H) : ∃ F', SR K (some (.fz o.frz) :: ρ) (some v :: σ) F' H ∧ Frm (ownedE (some o :: ρ)) F H (ownedE ρ) F' H := by
  have ap := List.nodup_append.mp s.nd
  have fF : ∀ b u, F b = some u → b ∉ o.owned := fun b u h hb => by
    rw [s.own b (List.mem_append_left _ hb)] at h; cases h
  have so : Sub F (fun b => if b ∈ o.owned then H b else F b) := fun b u h => by
    show (if b ∈ o.owned then H b else F b) = some u
    rw [if_neg (fF b u h)]; exact h
  have r := s.top
  have s0 := s.pop
  have sb : Sb (fun b => if b ∈ o.owned then H b else F b) H := fun b u h => by
    have h : (if b ∈ o.owned then H b else F b) = some u := h
    split at h
    · exact .inl h
    · exact s.sub b u h
  have s1 : SR K ρ σ (fun b => if b ∈ o.owned then H b else F b) H := by
    refine ⟨sb, s0.len, fun i w e => ?_, fun a ha => ?_, s0.nd⟩
    · obtain ⟨x, e1, q⟩ := s0.slot i w e
      exact ⟨x, e1, q.mono so fun _ _ _ h => h⟩
    · show (if a ∈ o.owned then H a else F a) = none
      rw [if_neg (fun z : a ∈ o.owned => ap.2.2 a z a ha rfl)]
      exact s0.own a ha
  refine ⟨fun b => if b ∈ o.owned then H b else F b, s1.pushD (r.froz so fun a ha u e => ?_), so, fun b u hb _ hf e => ⟨e, ?_⟩, fun b hb => .inl (List.mem_append_right _ hb), fun b u e => ⟨u, e⟩, fun _ _ _ h => h⟩
  · show (if a ∈ o.owned then H a else F a) = some u
    rw [if_pos ha]; exact e
  · show (if b ∈ o.owned then H b else F b) = none
    rw [if_neg (fun z : b ∈ o.owned => hb (List.mem_append_left _ z))]; exact hf
end
end Tr
/-! The tree layer: readings of expressions. -/
namespace Tr
open PySem PySem.Spec PyProof.Rows L2

/-! ### slots -/
def nth : TEnv → Nat → Option O
  | [], _ => none
  | s :: _, 0 => s
  | _ :: r, i + 1 => nth r i
def put : TEnv → Nat → Option O → TEnv
  | [], _, _ => []
  | _ :: r, 0, o => o :: r
  | s :: r, i + 1, o => s :: put r i o
/-- the slots behind a store, written out at once -/
def putC : TEnv → Nat → Option O → (TEnv → Prop) → Prop
  | [], _, _, k => k []
  | _ :: r, 0, o, k => k (o :: r)
  | s :: r, i + 1, o, k => putC r i o fun r' => k (s :: r')
theorem putC_eq : ∀ (ρ : TEnv) (i : Nat) (o : Option O) (k : TEnv → Prop), putC ρ i o k = k (ρ.set i o)
  | [], _, _, _ => rfl
  | _ :: _, 0, _, _ => rfl
  | s :: r, i + 1, o, k => putC_eq r i o fun r' => k (s :: r')
def frzC (o : O) (k : D → Prop) : Prop := match o with
  | .fz d => k d
  | .lst _ os => k (.lst (O.frzL os))
  | .dct _ kvs => k (.dct kvs)
  | .dcT _ kvs => k (.dcT kvs)
  | .ins _ _ C fs => k (.ins C (O.frzF fs))
theorem frzC_eq (o : O) (k : D → Prop) : frzC o k = k o.frz := by cases o <;> rfl
theorem nth_eq : ∀ {ρ : TEnv} {i : Nat} {o : O}, nth ρ i = some o → ρ[i]? = some (some o)
  | [], _, _, h => by cases h
  | s :: r, 0, o, h => by
    have h : s = some o := h
    rw [h]
    rfl
  | s :: r, i + 1, o, h => by
    rw [List.getElem?_cons_succ]
    exact nth_eq (ρ := r) h
theorem put_eq : ∀ (ρ : TEnv) (i : Nat) (o : Option O), put ρ i o = ρ.set i o
  | [], _, _ => rfl
  | _ :: _, 0, _ => rfl
  | s :: r, i + 1, o => congrArg (s :: ·) (put_eq r i o)

theorem ownedE_set : ∀ (ρ : TEnv) (i : Nat) (t : Option O), i < ρ.length → (ownedE (ρ.set i t)).Perm (slotOwned t ++ ownedE (ρ.set i none))
  | [], _, _, h => absurd h (Nat.not_lt_zero _)
  | s :: r, 0, t, _ => List.Perm.refl _
  | s :: r, i + 1, t, h => by
    have ih := ownedE_set r i t (Nat.lt_of_succ_lt_succ h)
    show (slotOwned s ++ ownedE (r.set i t)).Perm (slotOwned t ++ (slotOwned s ++ ownedE (r.set i none)))
    refine (List.Perm.append_left _ ih).trans ?_
    rw [← List.append_assoc, ← List.append_assoc]
    exact List.Perm.append_right _ List.perm_append_comm
theorem set_getElem : ∀ {ρ : TEnv} {i : Nat} {s : Option O}, ρ[i]? = some s → ρ.set i s = ρ
  | [], _, _, h => by cases h
  | x :: r, 0, s, h => by cases h; rfl
  | x :: r, i + 1, s, h => congrArg (x :: ·) (set_getElem (ρ := r) (by simpa using h))
theorem set_getElemV : ∀ {ρ : L2.St} {i : Nat} {s : Option V}, ρ[i]? = some s → ρ.set i s = ρ
  | [], _, _, h => by cases h
  | x :: r, 0, s, h => by cases h; rfl
  | x :: r, i + 1, s, h => congrArg (x :: ·) (set_getElemV (ρ := r) (by simpa using h))
theorem Frm.iff {L L1 L' L1' : List Addr} {F H F' H' : Hp} (f : Frm L F H L' F' H') (h : ∀ b, b ∈ L1 ↔ b ∈ L) (h' : ∀ b, b ∈ L1' → b ∈ L') : Frm L1 F H L1' F' H' :=
  ⟨f.fz, fun b o n => f.out b o (fun z => n ((h b).mpr z)), fun b hb => (f.new b (h' b hb)).imp (h b).mpr id, f.dom, f.lk⟩
section
variable {K : PySem.W.Frag} {ρ : TEnv} {σ : L2.St} {F H : Hp}
/-- a slot's thing as a temporary -/
theorem SR.take {i : Nat} {o : O} (s : SR K ρ σ F H) (e : ρ[i]? = some (some o)) : ∃ v, σ[i]? = some (some v) ∧ SR K (some o :: ρ.set i none) (some v :: σ) F H ∧ ∀ b, b ∈ ownedE ρ ↔ b ∈ ownedE (some o :: ρ.set i none) := by
  obtain ⟨v, hv, r⟩ := s.slot i o e
  have hi : i < ρ.length := by
    by_cases h : i < ρ.length
    · exact h
    · rw [List.getElem?_eq_none (Nat.le_of_not_lt h)] at e; cases e
  have p := ownedE_set ρ i (some o) hi
  rw [set_getElem e] at p
  refine ⟨v, hv, ⟨s.sub, by simpa using s.len, fun j u q => ?_, fun a ha => s.own a (p.mem_iff.mpr ha), p.nodup_iff.mp s.nd⟩, fun b => p.mem_iff⟩
  cases j with
  | zero => cases q; exact ⟨v, rfl, r⟩
  | succ j =>
    have q : (ρ.set i none)[j]? = some (some u) := q
    by_cases hj : i = j
    · subst hj
      rw [List.getElem?_set_self hi] at q; cases q
    · rw [List.getElem?_set_ne hj] at q
      exact s.slot j u q
/-- a temporary stored -/
theorem SR.store {i : Nat} {o : Option O} {v : Option V} (s : SR K (o :: ρ) (v :: σ) F H) : SR K (ρ.set i o) (σ.set i v) F H ∧ ∀ b, b ∈ ownedE (ρ.set i o) → b ∈ ownedE (o :: ρ) := by
  have le : ρ.length = σ.length := by simpa using s.len
  by_cases hi : i < ρ.length
  · have p := ownedE_set ρ i o hi
    have sub : ∀ b, b ∈ ownedE (ρ.set i none) → b ∈ ownedE ρ := fun b hb => by
      obtain ⟨j, u, e, h⟩ := of_ownedE hb
      by_cases hj : i = j
      · subst hj
        rw [List.getElem?_set_self hi] at e; cases e
      · rw [List.getElem?_set_ne hj] at e
        exact mem_ownedE e b h
    have mem : ∀ b, b ∈ ownedE (ρ.set i o) → b ∈ ownedE (o :: ρ) := fun b hb => by
      rcases List.mem_append.mp (p.mem_iff.mp hb) with h | h
      · exact List.mem_append_left _ h
      · exact List.mem_append_right _ (sub b h)
    have sl : ∀ (r : TEnv) (j : Nat), (ownedE (r.set j none)).Sublist (ownedE r) := by
      intro r
      induction r with
      | nil => intro j; exact List.Sublist.refl _
      | cons x r ih =>
        intro j
        cases j with
        | zero => exact List.sublist_append_right _ _
        | succ j => exact List.Sublist.append_left (ih j) _
    have nd := List.nodup_append.mp s.nd
    refine ⟨⟨s.sub, by simp [le], fun j u e => ?_, fun a ha => s.own a (mem a ha), p.nodup_iff.mpr (List.nodup_append.mpr ⟨nd.1, nd.2.1.sublist (sl ρ i), fun a ha b hb => nd.2.2 a ha b (sub b hb)⟩)⟩, mem⟩
    by_cases hj : i = j
    · subst hj
      rw [List.getElem?_set_self hi] at e
      obtain ⟨w, e1, r⟩ := s.slot 0 u (by simpa using e)
      refine ⟨w, ?_, r⟩
      rw [List.getElem?_set_self (by omega)]
      simpa using e1
    · rw [List.getElem?_set_ne hj] at e ⊢
      exact s.slot (j + 1) u (by simpa using e)
  · rw [List.set_eq_of_length_le (by omega), List.set_eq_of_length_le (by omega)]
    exact ⟨s.pop, fun b hb => List.mem_append_right _ hb⟩
/-- a slot's thing let go -/
theorem SR.let {i : Nat} {o : O} (s : SR K ρ σ F H) (e : ρ[i]? = some (some o)) : ∃ F' v, σ[i]? = some (some v) ∧ SR K (ρ.set i (some (.fz o.frz))) σ F' H ∧ Rep K F' v o.frz ∧ Frm (ownedE ρ) F H (ownedE (ρ.set i (some (.fz o.frz)))) F' H := by
  obtain ⟨v, hv, s1, m1⟩ := s.take e
  obtain ⟨F', s2, f2⟩ := s1.froz
  obtain ⟨s3, m3⟩ := s2.store (i := i)
  rw [set_getElemV hv, List.set_set] at s3
  refine ⟨F', v, hv, s3, s2.topD, ?_⟩
  refine f2.iff m1 fun b hb => ?_
  have := m3 b
  rw [List.set_set] at this
  rcases List.mem_append.mp (this hb) with h | h
  · cases h
  · exact h
end

/-! ### readings over trees -/
abbrev WD := TEnv → (D → TEnv → Prop) → Prop
abbrev WO := TEnv → (O → TEnv → Prop) → Prop
abbrev WT := TEnv → (Bool → TEnv → Prop) → Prop
abbrev WL := TEnv → (List D → TEnv → Prop) → Prop
def liftD (K : PySem.W.Frag) (w : WD) : TE := fun σ H Q => ∃ ρ F P, SR K ρ σ F H ∧ w ρ P ∧
  ∀ d ρ' F' H' v, P d ρ' → SR K ρ' σ F' H' → Rep K F' v d → Frm (ownedE ρ) F H (ownedE ρ') F' H' → Q v H'
def liftO (K : PySem.W.Frag) (w : WO) : TE := fun σ H Q => ∃ ρ F P, SR K ρ σ F H ∧ w ρ P ∧
  ∀ o ρ' F' H' v, P o ρ' → SR K (some o :: ρ') (some v :: σ) F' H' → Frm (ownedE ρ) F H (ownedE (some o :: ρ')) F' H' → Q v H'
/-- read while it stands: F'' has what is owned, too -/
def liftB (K : PySem.W.Frag) (w : WD) : TE := fun σ H Q => ∃ ρ F P, SR K ρ σ F H ∧ w ρ P ∧
  ∀ d ρ' F' F'' H' v, P d ρ' → SR K ρ' σ F' H' → Sb F'' H' → Sub F' F'' → Rep K F'' v d → Frm (ownedE ρ) F H (ownedE ρ') F' H' → Q v H'
def liftT (K : PySem.W.Frag) (w : WT) : TT := fun σ H Q => ∃ ρ F P, SR K ρ σ F H ∧ w ρ P ∧
  ∀ b ρ' F' H', P b ρ' → SR K ρ' σ F' H' → Frm (ownedE ρ) F H (ownedE ρ') F' H' → Q b H'
def liftA (K : PySem.W.Frag) (w : WL) : TA := fun σ H Q => ∃ ρ F P, SR K ρ σ F H ∧ w ρ P ∧
  ∀ ds ρ' F' H' vs, P ds ρ' → SR K ρ' σ F' H' → RepL K F' vs ds → Frm (ownedE ρ) F H (ownedE ρ') F' H' → Q vs H'
structure XE (X : Cx) (e : Expr) (w : WD) : Prop where
  pe : PE X e (liftD X.K w)
structure XO (X : Cx) (e : Expr) (w : WO) : Prop where
  pe : PE X e (liftO X.K w)
structure XB (X : Cx) (e : Expr) (w : WD) : Prop where
  pe : PE X e (liftB X.K w)
structure XT (X : Cx) (e : Expr) (w : WT) : Prop where
  pt : PT X e (liftT X.K w)
structure XA (X : Cx) (es : List Expr) (w : WL) : Prop where
  pa : PA X es (liftA X.K w)
theorem PE.imp {X : Cx} {e : Expr} {t t' : TE} (h : PE X e t) (i : ∀ σ H Q, t' σ H Q → t σ H Q) : PE X e t' := ⟨fun pins s σ H Q I hw => h.run pins s σ H Q I (i _ _ _ hw)⟩
theorem PT.imp {X : Cx} {e : Expr} {t t' : TT} (h : PT X e t) (i : ∀ σ H Q, t' σ H Q → t σ H Q) : PT X e t' := ⟨fun pins s σ H Q I hw => h.run pins s σ H Q I (i _ _ _ hw)⟩
theorem PA.imp {X : Cx} {e : List Expr} {t t' : TA} (h : PA X e t) (i : ∀ σ H Q, t' σ H Q → t σ H Q) : PA X e t' := ⟨fun pos pins s σ H Q I hw => h.run pos pins s σ H Q I (i _ _ _ hw)⟩

/-- what an operation on values makes: o at v -/
def Res (K : PySem.W.Frag) (F H : Hp) (o : O) (v : V) (F' H' : Hp) : Prop :=
  ∀ ρ σ, SR K ρ σ F H → SR K (some o :: ρ) (some v :: σ) F' H' ∧ Frm (ownedE ρ) F H (ownedE (some o :: ρ)) F' H'
theorem Res.fz {K : PySem.W.Frag} {F H : Hp} {d : D} {v : V} (r : Rep K F v d) : Res K F H (.fz d) v F H := fun _ _ s => ⟨s.pushD r, Frm.refl⟩
theorem Res.grow {K : PySem.W.Frag} {F H F' H' : Hp} {d : D} {v : V} (g : Grow F H F' H') (sb : Sb F' H') (r : Rep K F' v d) : Res K F H (.fz d) v F' H' :=
  fun _ _ s => ⟨(s.grow g sb).pushD r, .ofGrow g⟩
theorem Res.lst {K : PySem.W.Frag} {F H : Hp} {p : Addr} {xs : List V} {ds : List D} (hp : H p = none) (z : ds.length ≤ sizeLine) (r : RepL K F xs ds) :
    Res K F H (.lst p (ds.map .fz)) (.ref p) F (upd H p (.lst xs)) := fun _ _ s =>
  s.newO hp (.lst upd_same (by rw [List.length_map]; exact z) (.of r)) (by show p :: O.ownedL (ds.map O.fz) = [p]; rw [O.ownedL_map])
theorem Res.tup {K : PySem.W.Frag} {F H : Hp} {p : Addr} {xs : List V} {ds : List D} (sb : Sb F H) (hp : H p = none) (z : ds.length ≤ sizeLine) (r : RepL K F xs ds) :
    Res K F H (.fz (.tup ds)) (.ref p) (upd F p (.tup xs)) (upd H p (.tup xs)) := by
  obtain ⟨g, sb'⟩ := grow_new (o := .tup xs) sb hp
  exact Res.grow g sb' (.tup upd_same z (r.mono g.fz))
/-- the readings of a two-place operation and of one over trees go together -/
def SemR (K : PySem.W.Frag) (r : R2) (sem : D → D → (O → Prop) → Prop) : Prop :=
  ∀ (F H : Hp) (x y : V) (d e : D) (P : O → Prop) (Q : VK), Sb F H → Rep K F x d → Rep K F y e → sem d e P → (∀ o v F' H', P o → Res K F H o v F' H' → Q v H') → r x y H Q
/-- .. whose answer is no object -/
def SemS (K : PySem.W.Frag) (r : R2) (sem : D → D → (D → Prop) → Prop) : Prop :=
  ∀ (F H : Hp) (x y : V) (d e : D) (P : D → Prop) (Q : VK), Sb F H → Rep K F x d → Rep K F y e → sem d e P → (∀ u v, P u → (∀ G, Rep K G v u) → Q v H) → r x y H Q
def SemC (K : PySem.W.Frag) (r : List V → Hp → VK → Prop) (sem : List D → (O → Prop) → Prop) : Prop :=
  ∀ (F H : Hp) (xs : List V) (ds : List D) (P : O → Prop) (Q : VK), Sb F H → RepL K F xs ds → sem ds P → (∀ o v F' H', P o → Res K F H o v F' H' → Q v H') → r xs H Q
def SemC1 (K : PySem.W.Frag) (r : List V → Hp → VK → Prop) (sem : D → (D → Prop) → Prop) : Prop :=
  ∀ (F H : Hp) (x : V) (d : D) (P : D → Prop) (Q : VK), Sb F H → Rep K F x d → sem d P → (∀ u v, P u → (∀ G, Rep K G v u) → Q v H) → r [x] H Q

/-! ### names, constants, changes of form -/
def wVar (i : Nat) : WD := fun ρ P => match nth ρ i with
  | some (.fz d) => P d ρ
  | some o => frzC o fun d => putC ρ i (some (.fz d)) (P d)
  | none => False
def wLook (i : Nat) : WD := fun ρ P => match nth ρ i with
  | some o => frzC o fun d => P d ρ
  | none => False
def wC (d : D) : WD := fun ρ P => P d ρ
def wFrz (w : WO) : WD := fun ρ P => w ρ fun o ρ' => frzC o fun d => P d ρ'
def wFz (w : WD) : WO := fun ρ P => w ρ fun d ρ' => P (.fz d) ρ'
section
variable {X : Cx} {e : Expr} {pos : Pos}
theorem xe_pv {i : Nat} (h : PE X e (tVar i)) : XE X e (wVar i) := ⟨PE.imp h fun σ H Q ⟨ρ, F, P, s, w, k⟩ => by
  unfold wVar at w
  cases hn : nth ρ i with
  | none => rw [hn] at w; exact w.elim
  | some o =>
    rw [hn] at w
    have e1 := nth_eq hn
    have gen : P o.frz (ρ.set i (some (.fz o.frz))) → tVar i σ H Q := fun p => by
      obtain ⟨F', v, hv, s', r, f⟩ := s.let e1
      exact ⟨v, hv, k _ _ _ _ _ p s' r f⟩
    cases o with
    | fz d =>
      obtain ⟨v, hv, r⟩ := s.slot i _ e1
      cases r with
      | fz r => exact ⟨v, hv, k _ _ _ _ _ w s r .refl⟩
    | lst a os => exact gen (by rw [← putC_eq ρ i _ (P _)]; exact w)
    | dct a os => exact gen (by rw [← putC_eq ρ i _ (P _)]; exact w)
    | dcT a os => exact gen (by rw [← putC_eq ρ i _ (P _)]; exact w)
    | ins a b c os => exact gen (by rw [← putC_eq ρ i _ (P _)]; exact w)⟩
theorem xb_pv {i : Nat} (h : PE X e (tVar i)) : XB X e (wLook i) := ⟨PE.imp h fun σ H Q ⟨ρ, F, P, s, w, k⟩ => by
  unfold wLook at w
  cases hn : nth ρ i with
  | none => rw [hn] at w; exact w.elim
  | some o =>
    rw [hn] at w
    have e1 := nth_eq hn
    obtain ⟨F', v, hv, s', r, f⟩ := s.let e1
    have w : frzC o (fun d => P d ρ) := w
    rw [frzC_eq] at w
    exact ⟨v, hv, k _ _ _ F' _ _ w s s'.sub f.fz r .refl⟩⟩
theorem xe_c {d : D} {v : V} (h : PE X e (tC v)) (r : ∀ K G, Rep K G v d) : XE X e (wC d) := ⟨PE.imp h fun σ H Q ⟨ρ, F, P, s, w, k⟩ => k _ _ _ _ _ w s (r _ _) .refl⟩
theorem xe_int {i : Int} {j} : XE X (.Constant (.int i) j pos) (wC (.int i)) := xe_c pe_int fun _ _ => .int i
theorem xe_bl {b : Bool} {j} : XE X (.Constant (.bool b) j pos) (wC (.bl b)) := xe_c pe_bl fun _ _ => .bl b
theorem xe_non {j} : XE X (.Constant .none j pos) (wC .non) := xe_c pe_non fun _ _ => .non
theorem xe_str {x : Str} {j} (h : x.length ≤ sizeLine := by decide +kernel) : XE X (.Constant (.str x) j pos) (wC (.str x)) := xe_c pe_str fun _ _ => .str x h
theorem XO.toE {w : WO} (h : XO X e w) : XE X e (wFrz w) := ⟨PE.imp h.pe fun σ H Q ⟨ρ, F, P, s, hw, k⟩ =>
  ⟨ρ, F, _, s, hw, fun o ρ' F' H' v p s' f => by
    obtain ⟨F2, s2, f2⟩ := s'.froz
    rw [frzC_eq] at p
    exact k _ _ _ _ _ p s2.pop s2.topD (f.trans f2)⟩⟩
theorem XE.toO {w : WD} (h : XE X e w) : XO X e (wFz w) := ⟨PE.imp h.pe fun σ H Q ⟨ρ, F, P, s, hw, k⟩ =>
  ⟨ρ, F, _, s, hw, fun d ρ' F' H' v p s' r f => k _ _ _ _ _ p (s'.pushD r) f⟩⟩
theorem XE.toB {w : WD} (h : XE X e w) : XB X e w := ⟨PE.imp h.pe fun σ H Q ⟨ρ, F, P, s, hw, k⟩ =>
  ⟨ρ, F, _, s, hw, fun d ρ' F' H' v p s' r f => k _ _ _ _ _ _ p s' s'.sub (fun _ _ h => h) r f⟩⟩
end

/-! ### two operands -/
def wBin (sem : D → D → (O → Prop) → Prop) (wa wb : WD) : WO := fun ρ P => wa ρ fun d ρ1 => wb ρ1 fun e ρ2 => sem d e fun o => P o ρ2
def wCmp (sem : D → D → (D → Prop) → Prop) (wa wb : WD) : WD := fun ρ P => wa ρ fun d ρ1 => wb ρ1 fun e ρ2 => sem d e fun u => P u ρ2
/-- the left one a name -/
def wCmpL (sem : D → D → (D → Prop) → Prop) (i : Nat) (wb : WD) : WD := fun ρ P => match nth ρ i with
  | some _ => wb ρ fun e ρ2 => wLook i ρ2 fun d ρ3 => sem d e fun u => P u ρ3
  | none => False
def wTst (w : WD) : WT := fun ρ P => w ρ fun d ρ' => match d with
  | .bl b => P b ρ'
  | _ => False
section
variable {X : Cx} {a b : Expr} {wa wb : WD} {pos : Pos} {r : R2}
theorem tOp_bin {sem : D → D → (O → Prop) → Prop} (hs : SemR X.K r sem) {σ : L2.St} {H : Hp} {Q : VK} (h : liftO X.K (wBin sem wa wb) σ H Q) : tOp r (liftD X.K wa) (liftD X.K wb) σ H Q := by
  obtain ⟨ρ, F, P, s, hw, k⟩ := h
  refine ⟨ρ, F, _, s, hw, fun d ρ1 F1 H1 v p s1 r1 f1 => ?_⟩
  refine ⟨ρ1, F1, _, s1, p, fun e ρ2 F2 H2 u p2 s2 r2 f2 => ?_⟩
  refine hs F2 H2 _ _ d e _ Q s2.sub (r1.mono f2.fz) r2 p2 fun o w F3 H3 p3 res => ?_
  obtain ⟨s3, f3⟩ := res _ _ s2
  exact k _ _ _ _ _ p3 s3 ((f1.trans f2).trans f3)
theorem xo_bin {op : Operator} {sem : D → D → (O → Prop) → Prop} (ho : OpR X (binaryOp op) r) (hs : SemR X.K r sem) (ha : XE X a wa) (hb : XE X b wb) : XO X (.BinOp a op b pos) (wBin sem wa wb) :=
  ⟨PE.imp (pe_op ho ha.pe hb.pe) fun _ _ _ h => tOp_bin hs h⟩
theorem tOp_cmp {sem : D → D → (D → Prop) → Prop} (hs : SemS X.K r sem) {σ : L2.St} {H : Hp} {Q : VK} (h : liftD X.K (wCmp sem wa wb) σ H Q) : tOp r (liftD X.K wa) (liftB X.K wb) σ H Q := by
  obtain ⟨ρ, F, P, s, hw, k⟩ := h
  refine ⟨ρ, F, _, s, hw, fun d ρ1 F1 H1 v p s1 r1 f1 => ?_⟩
  refine ⟨ρ1, F1, _, s1, p, fun e ρ2 F2 G2 H2 u p2 s2 sg sub r2 f2 => ?_⟩
  exact hs G2 H2 _ _ d e _ Q sg ((r1.mono f2.fz).mono sub) r2 p2 fun u w p3 rr => k _ _ _ _ _ p3 s2 (rr _) (f1.trans f2)
theorem tOp_cmpL {sem : D → D → (D → Prop) → Prop} {i : Nat} (hs : SemS X.K r sem) {σ : L2.St} {H : Hp} {Q : VK} (h : liftD X.K (wCmpL sem i wb) σ H Q) : tOp r (tVar i) (liftB X.K wb) σ H Q := by
  obtain ⟨ρ, F, P, s, hw, k⟩ := h
  unfold wCmpL at hw
  cases hn0 : nth ρ i with
  | none => rw [hn0] at hw; exact hw.elim
  | some o0 =>
  rw [hn0] at hw
  obtain ⟨x, hx, _⟩ := s.slot i o0 (nth_eq hn0)
  refine ⟨x, hx, ρ, F, _, s, hw, fun e ρ2 F2 G2 H2 u p2 s2 sg sub r2 f2 => ?_⟩
  unfold wLook at p2
  cases hn : nth ρ2 i with
  | none => rw [hn] at p2; exact p2.elim
  | some o =>
    rw [hn] at p2
    have e1 := nth_eq hn
    obtain ⟨v, hv, ro⟩ := s2.slot i o e1
    rw [hx] at hv
    cases hv
    have p2 : frzC o (fun d => sem d e fun u => P u ρ2) := p2
    rw [frzC_eq] at p2
    -- what is owned at i joins what stands
    have fG : ∀ b w, F2 b = some w → b ∉ o.owned := fun b w h hb => by
      rw [s2.own b (mem_ownedE e1 b hb)] at h; cases h
    have hsub : Sb (fun b => if b ∈ o.owned then H2 b else G2 b) H2 := fun b w h => by
      have h : (if b ∈ o.owned then H2 b else G2 b) = some w := h
      split at h
      · exact .inl h
      · exact sg b w h
    have hG : Sub G2 (fun b => if b ∈ o.owned then H2 b else G2 b) := fun b w h => by
      show (if b ∈ o.owned then H2 b else G2 b) = some w
      split
      · rename_i hb
        obtain ⟨w', e'⟩ := ro.there b hb
        rcases sg b w h with z | ⟨ob, _, z⟩
        · exact z
        · exact absurd z (ro.nofrz b hb ob w)
      · exact h
    exact hs (fun b => if b ∈ o.owned then H2 b else G2 b) H2 _ _ o.frz e _ Q hsub (ro.froz (fun b w h => hG b w (sub b w h)) fun b hb w e' => by
      show (if b ∈ o.owned then H2 b else G2 b) = some w
      rw [if_pos hb]; exact e') (r2.mono hG) p2 fun u w p3 rr => k _ _ _ _ _ p3 s2 (rr _) f2
end

/-! ### equality of data -/
def deqL (f : D → D → Option Bool) : List D → List D → Option Bool
  | x :: xs, y :: ys => match f x y, deqL f xs ys with
    | some a, some b => some (a && b)
    | _, _ => none
  | _, _ => some true
/-- the items of a list -/
def D.lsq : D → Option (List D)
  | .lst xs => some xs
  | .frl xs => some xs
  | _ => none
def D.kd : D → Nat
  | .non => 1
  | .bl _ => 2
  | .int _ => 2
  | .str _ => 3
  | .tup _ => 4
  | .lst _ => 5
  | .frl _ => 5
  | _ => 0
def deqF (f : D → D → Option Bool) (d e : D) : Option Bool := match d, e with
  | .non, .non => some true
  | .bl a, .bl b => some (a == b)
  | .int a, .int b => some (a == b)
  | .str a, .str b => some (a == b)
  | .bl a, .int b => some ((if a then 1 else 0) == b)
  | .int a, .bl b => some (a == (if b then 1 else 0))
  | .tup xs, .tup ys => (deqL f xs ys).map (· && (xs.length == ys.length))
  | .lst xs, .lst ys => if xs.length == ys.length then deqL f xs ys else some false
  | .lst xs, .frl ys => if xs.length == ys.length then deqL f xs ys else some false
  | .frl xs, .lst ys => if xs.length == ys.length then deqL f xs ys else some false
  | .frl xs, .frl ys => if xs.length == ys.length then deqL f xs ys else some false
  | d, e => if (d.kd != 0 && e.kd != 0 && d.kd != e.kd) = true then some false else none
/-- whether two things of the language are equal, where that is plain: n deep -/
def deq : Nat → D → D → Option Bool
  | 0 => deqF fun _ _ => none
  | n + 1 => deqF (deq n)
theorem deqL_at {f : D → D → Option Bool} : ∀ {ds es : List D} {b : Bool}, deqL f ds es = some b → ∃ g : Nat → Bool, (∀ j p q, ds[j]? = some p → es[j]? = some q → f p q = some (g j)) ∧ b = (List.range (min ds.length es.length)).all g
  | [], _, b, h => by
    cases h
    exact ⟨fun _ => true, fun j p q h1 _ => (by cases h1), by simp⟩
  | _ :: _, [], b, h => by
    cases h
    exact ⟨fun _ => true, fun j p q _ h2 => (by cases h2), by simp⟩
  | x :: xs, y :: ys, b, h => by
    unfold deqL at h
    cases h1 : f x y with
    | none => rw [h1] at h; cases h
    | some a =>
      cases h2 : deqL f xs ys with
      | none => rw [h1, h2] at h; cases h
      | some c =>
        rw [h1, h2] at h
        cases h
        obtain ⟨g, hg, rfl⟩ := deqL_at h2
        refine ⟨fun j => match j with | 0 => a | j + 1 => g j, fun j p q e1 e2 => ?_, ?_⟩
        · cases j with
          | zero => cases e1; cases e2; exact h1
          | succ j => exact hg j p q (by simpa using e1) (by simpa using e2)
        · rw [List.length_cons, List.length_cons, Nat.succ_min_succ, List.range_succ_eq_map, List.all_cons, List.all_map]
          rfl
section
open SeqAt
variable {X : Cx} {pins : List (Addr × Obj)} {σ : L2.St} {F H : Hp} {s : Shared}
theorem isL (I : Inv X pins σ H s) {a : Addr} {xs : List V} (h : SqL X.K H a xs) : ∃ its : List Value, Vals xs its ∧ s.heap.IsList a its.toArray := by
  obtain ⟨its, rv, ⟨o, n, ho, hc, _, hd⟩, _⟩ := I.list h
  exact ⟨its, rv, ⟨o, ho, hc, n, hd⟩⟩
theorem isT (I : Inv X pins σ H s) {a : Addr} {xs : List V} (h : SqT X.K H a xs) : ∃ its : List Value, Vals xs its ∧ s.heap.IsTuple a its.toArray := by
  obtain ⟨its, rv, ⟨o, ho, hc, n, hd⟩, _⟩ := I.tuple h
  exact ⟨its, rv, ⟨o, ho, hc, n, hd⟩⟩
theorem Vals.at' : ∀ {xs : List V} {us : List Value} {j : Nat} {u : Value}, Vals xs us → us[j]? = some u → ∃ x, xs[j]? = some x ∧ RelV x u
  | _, _, _, _, .nil, e => by cases e
  | _, _, 0, _, .cons r _, e => by cases e; exact ⟨_, rfl, r⟩
  | _, _, j + 1, _, .cons _ r, e => Vals.at' (j := j) r (by simpa using e)
/-- the pairs of two rows of items -/
theorem pairs_at {A : Around} {f : D → D → Option Bool} (hf : ∀ x y d e b v u, Rep X.K F x d → Rep X.K F y e → RelV x v → RelV y u → f d e = some b → EqAt A s v u b) {xs ys : List V} {ds es : List D} {its its2 : List Value} {b : Bool} (r1 : RepL X.K F xs ds) (r2 : RepL X.K F ys es) (v1 : Vals xs its) (v2 : Vals ys its2)
    (h : deqL f ds es = some b) : ∃ g : Nat → Bool, (∀ j (h1 : j < its.toArray.size) (h2 : j < its2.toArray.size), EqAt A s its.toArray[j] its2.toArray[j] (g j)) ∧ b = (List.range (min its.toArray.size its2.toArray.size)).all g := by
  obtain ⟨g, hg, rfl⟩ := deqL_at h
  have l1 : its.length = ds.length := by rw [← v1.length, r1.length]
  have l2 : its2.length = es.length := by rw [← v2.length, r2.length]
  refine ⟨g, fun j h1 h2 => ?_, by rw [List.size_toArray, List.size_toArray, l1, l2]⟩
  have h1' : j < its.length := h1
  have h2' : j < its2.length := h2
  obtain ⟨x, hx, rx⟩ := Vals.at' v1 (List.getElem?_eq_getElem h1')
  obtain ⟨y, hy, ry⟩ := Vals.at' v2 (List.getElem?_eq_getElem h2')
  obtain ⟨d, hd, px⟩ := r1.get' hx
  obtain ⟨e, he, py⟩ := r2.get' hy
  exact hf _ _ _ _ _ _ _ px py rx ry (hg j d e hd he)

theorem eqAt_step_lists (I : Inv X pins σ H s) (sb : Sb F H) {A : Around} (hu : A.units < cLine) {f : D → D → Option Bool} (hf : ∀ x y d e b v u, Rep X.K F x d → Rep X.K F y e → RelV x v → RelV y u → f d e = some b → EqAt A.in1 s v u b) (hs : ∀ x d e b, Rep X.K F x d → Rep X.K F x e → f d e = some b → b = true) {a a' : Addr} {xs ys : List V} {ds es : List D} {its1 its2 : List Value} {b0 : Bool}
    (h1 : SqL X.K H a xs) (h2 : SqL X.K H a' ys) (q1 : s.heap.IsList a its1.toArray) (q2 : s.heap.IsList a' its2.toArray) (w1 : Vals xs its1) (w2 : Vals ys its2) (r1 : RepL X.K F xs ds) (r2 : RepL X.K F ys es) (h : (if ds.length == es.length then deqL f ds es else some false) = some b0) : EqAt A s (.ref a) (.ref a') b0 := by
  have l1 : its1.length = ds.length := by rw [← w1.length, r1.length]
  have l2 : its2.length = es.length := by rw [← w2.length, r2.length]
  by_cases ea : a = a'
  · subst ea
    have exy := I.list_inj h1 h2
    subst exy
    have le : ds.length = es.length := by rw [← r1.length, ← r2.length]
    rw [if_pos (by rw [le]; exact beq_self_eq_true _)] at h
    obtain ⟨g, hg, rfl⟩ := deqL_at h
    have : (List.range (min ds.length es.length)).all g = true := List.all_eq_true.mpr fun j hj => by
      have hj := List.mem_range.mp hj
      obtain ⟨x, hx, px⟩ := r1.get' (List.getElem?_eq_getElem (show j < xs.length by rw [r1.length]; omega))
      obtain ⟨y, hy, py⟩ := r2.get' (List.getElem?_eq_getElem (show j < xs.length by rw [r1.length]; omega))
      exact hs _ _ _ _ px py (hg j x y hx hy)
    rw [this]
    exact EqAt.same _
  refine EqAt.of_refs ea ?_
  by_cases le : ds.length = es.length
  · rw [if_pos (by rw [le]; exact beq_self_eq_true _)] at h
    obtain ⟨g, hg, rfl⟩ := pairs_at hf r1 r2 w1 w2 h
    have hsz : its1.toArray.size = its2.toArray.size := by rw [List.size_toArray, List.size_toArray]; omega
    rw [← hsz, Nat.min_self]
    exact RcAt.lists q1 q2 hsz hu hg
  · rw [if_neg (by simpa using le)] at h
    cases h
    exact RcAt.lists_lengths q1 q2 (by simp only [bne_iff_ne, List.size_toArray]; omega) hu
theorem eqAt_step_tups (I : Inv X pins σ H s) (sb : Sb F H) {A : Around} (hu : A.units < cLine) {f : D → D → Option Bool} (hf : ∀ x y d e b v u, Rep X.K F x d → Rep X.K F y e → RelV x v → RelV y u → f d e = some b → EqAt A.in1 s v u b) (hs : ∀ x d e b, Rep X.K F x d → Rep X.K F x e → f d e = some b → b = true) {a a' : Addr} {xs ys : List V} {ds es : List D} {its1 its2 : List Value} {b0 : Bool}
    (h1 : SqT X.K H a xs) (h2 : SqT X.K H a' ys) (q1 : s.heap.IsTuple a its1.toArray) (q2 : s.heap.IsTuple a' its2.toArray) (w1 : Vals xs its1) (w2 : Vals ys its2) (r1 : RepL X.K F xs ds) (r2 : RepL X.K F ys es) (h : (deqL f ds es).map (· && (ds.length == es.length)) = some b0) : EqAt A s (.ref a) (.ref a') b0 := by
  have l1 : its1.length = ds.length := by rw [← w1.length, r1.length]
  have l2 : its2.length = es.length := by rw [← w2.length, r2.length]
  cases hq : deqL f ds es with
  | none => rw [hq] at h; cases h
  | some c =>
  rw [hq] at h
  cases h
  by_cases ea : a = a'
  · subst ea
    have exy := I.tuple_inj h1 h2
    subst exy
    have le : ds.length = es.length := by rw [← r1.length, ← r2.length]
    obtain ⟨g, hg, rfl⟩ := deqL_at hq
    have : (List.range (min ds.length es.length)).all g = true := List.all_eq_true.mpr fun j hj => by
      have hj := List.mem_range.mp hj
      obtain ⟨x, hx, px⟩ := r1.get' (List.getElem?_eq_getElem (show j < xs.length by rw [r1.length]; omega))
      obtain ⟨y, hy, py⟩ := r2.get' (List.getElem?_eq_getElem (show j < xs.length by rw [r1.length]; omega))
      exact hs _ _ _ _ px py (hg j x y hx hy)
    rw [this, le, beq_self_eq_true]
    exact EqAt.same _
  refine EqAt.of_refs ea ?_
  obtain ⟨g, hg, rfl⟩ := pairs_at hf r1 r2 w1 w2 hq
  have e : (ds.length == es.length) = (its1.toArray.size == its2.toArray.size) := by rw [List.size_toArray, List.size_toArray, l1, l2]
  rw [e]
  exact RcAt.tuples q1 q2 hu hg
theorem eqAt_step (I : Inv X pins σ H s) (sb : Sb F H) {A : Around} (hu : A.units < cLine) {f : D → D → Option Bool} (hf : ∀ x y d e b v u, Rep X.K F x d → Rep X.K F y e → RelV x v → RelV y u → f d e = some b → EqAt A.in1 s v u b) (hs : ∀ x d e b, Rep X.K F x d → Rep X.K F x e → f d e = some b → b = true) {x0 y0 : V} {d e : D} {b0 : Bool} {v u : Value}
    (rx : Rep X.K F x0 d) (ry : Rep X.K F y0 e) (rv : RelV x0 v) (ru : RelV y0 u) (h : deqF f d e = some b0) : EqAt A s v u b0 := by
  cases rx with
  | non =>
    cases rv
    cases ry with
    | non => cases ru; cases h; exact EqAt.same _
    | bl b => cases ru; cases h; exact EqAt.none_bool b
    | int j => obtain ⟨t2, rfl⟩ := ru; cases h; exact EqAt.none_int j t2
    | str y zy => obtain ⟨t2, rfl⟩ := ru; cases h; exact EqAt.none_str y t2
    | tup h2 z2 r2 => cases ru; obtain ⟨its2, w2, q2⟩ := isT I (sb.sqT h2); cases h; exact EqAt.none_tuple q2 hu
    | lst h2 z2 r2 => cases ru; obtain ⟨its2, w2, q2⟩ := isL I (.inl (.inl (sb.lst h2))); cases h; exact EqAt.none_list q2 hu
    | frl h2 z2 r2 => cases ru; obtain ⟨its2, w2, q2⟩ := isL I (sb.sqL h2); cases h; exact EqAt.none_list q2 hu
    | dct h2 _ r2 => cases h
    | dcT h2 _ r2 => cases h
    | ins h2 r2 => cases h
    | ty m => cases h
    | al m => cases h
  | bl a =>
    cases rv
    cases ry with
    | non => cases ru; cases h; exact EqAt.bool_none a
    | bl b => cases ru; cases h; exact EqAt.bool_bool a b
    | int j => obtain ⟨t2, rfl⟩ := ru; cases h; exact EqAt.bool_int a j t2
    | str y zy => obtain ⟨t2, rfl⟩ := ru; cases h; exact EqAt.bool_str a y t2
    | tup h2 z2 r2 => cases ru; obtain ⟨its2, w2, q2⟩ := isT I (sb.sqT h2); cases h; exact EqAt.bool_tuple a q2 hu
    | lst h2 z2 r2 => cases ru; obtain ⟨its2, w2, q2⟩ := isL I (.inl (.inl (sb.lst h2))); cases h; exact EqAt.bool_list a q2 hu
    | frl h2 z2 r2 => cases ru; obtain ⟨its2, w2, q2⟩ := isL I (sb.sqL h2); cases h; exact EqAt.bool_list a q2 hu
    | dct h2 _ r2 => cases h
    | dcT h2 _ r2 => cases h
    | ins h2 r2 => cases h
    | ty m => cases h
    | al m => cases h
  | int i =>
    obtain ⟨t1, rfl⟩ := rv
    cases ry with
    | non => cases ru; cases h; exact EqAt.int_none i t1
    | bl b => cases ru; cases h; exact EqAt.int_bool i t1 b
    | int j => obtain ⟨t2, rfl⟩ := ru; cases h; exact EqAt.int_int i t1 j t2
    | str y zy => obtain ⟨t2, rfl⟩ := ru; cases h; exact EqAt.int_str i t1 y t2
    | tup h2 z2 r2 => cases ru; obtain ⟨its2, w2, q2⟩ := isT I (sb.sqT h2); cases h; exact EqAt.int_tuple i t1 q2 hu
    | lst h2 z2 r2 => cases ru; obtain ⟨its2, w2, q2⟩ := isL I (.inl (.inl (sb.lst h2))); cases h; exact EqAt.int_list i t1 q2 hu
    | frl h2 z2 r2 => cases ru; obtain ⟨its2, w2, q2⟩ := isL I (sb.sqL h2); cases h; exact EqAt.int_list i t1 q2 hu
    | dct h2 _ r2 => cases h
    | dcT h2 _ r2 => cases h
    | ins h2 r2 => cases h
    | ty m => cases h
    | al m => cases h
  | str x zx =>
    obtain ⟨t1, rfl⟩ := rv
    cases ry with
    | non => cases ru; cases h; exact EqAt.str_none x t1
    | bl b => cases ru; cases h; exact EqAt.str_bool x t1 b
    | int j => obtain ⟨t2, rfl⟩ := ru; cases h; exact EqAt.str_int x t1 j t2
    | str y zy => obtain ⟨t2, rfl⟩ := ru; cases h; exact EqAt.str_str x t1 y t2
    | tup h2 z2 r2 => cases ru; obtain ⟨its2, w2, q2⟩ := isT I (sb.sqT h2); cases h; exact EqAt.str_tuple x t1 q2 hu
    | lst h2 z2 r2 => cases ru; obtain ⟨its2, w2, q2⟩ := isL I (.inl (.inl (sb.lst h2))); cases h; exact EqAt.str_list x t1 q2 hu
    | frl h2 z2 r2 => cases ru; obtain ⟨its2, w2, q2⟩ := isL I (sb.sqL h2); cases h; exact EqAt.str_list x t1 q2 hu
    | dct h2 _ r2 => cases h
    | dcT h2 _ r2 => cases h
    | ins h2 r2 => cases h
    | ty m => cases h
    | al m => cases h
  | tup h1 z1 r1 =>
    cases rv; obtain ⟨its1, w1, q1⟩ := isT I (sb.sqT h1)
    cases ry with
    | non => cases ru; cases h; exact EqAt.tuple_none q1 hu
    | bl b => cases ru; cases h; exact EqAt.tuple_bool b q1 hu
    | int j => obtain ⟨t2, rfl⟩ := ru; cases h; exact EqAt.tuple_int j t2 q1 hu
    | str y zy => obtain ⟨t2, rfl⟩ := ru; cases h; exact EqAt.tuple_str y t2 q1 hu
    | tup h2 z2 r2 => cases ru; obtain ⟨its2, w2, q2⟩ := isT I (sb.sqT h2); exact eqAt_step_tups I sb hu hf hs (sb.sqT h1) (sb.sqT h2) q1 q2 w1 w2 r1 r2 h
    | lst h2 z2 r2 => cases ru; obtain ⟨its2, w2, q2⟩ := isL I (.inl (.inl (sb.lst h2))); cases h; exact EqAt.tuple_list q1 q2 hu
    | frl h2 z2 r2 => cases ru; obtain ⟨its2, w2, q2⟩ := isL I (sb.sqL h2); cases h; exact EqAt.tuple_list q1 q2 hu
    | dct h2 _ r2 => cases h
    | dcT h2 _ r2 => cases h
    | ins h2 r2 => cases h
    | ty m => cases h
    | al m => cases h
  | lst h1 z1 r1 =>
    cases rv; obtain ⟨its1, w1, q1⟩ := isL I (.inl (.inl (sb.lst h1)))
    cases ry with
    | non => cases ru; cases h; exact EqAt.list_none q1 hu
    | bl b => cases ru; cases h; exact EqAt.list_bool b q1 hu
    | int j => obtain ⟨t2, rfl⟩ := ru; cases h; exact EqAt.list_int j t2 q1 hu
    | str y zy => obtain ⟨t2, rfl⟩ := ru; cases h; exact EqAt.list_str y t2 q1 hu
    | tup h2 z2 r2 => cases ru; obtain ⟨its2, w2, q2⟩ := isT I (sb.sqT h2); cases h; exact EqAt.list_tuple q1 q2 hu
    | lst h2 z2 r2 => cases ru; obtain ⟨its2, w2, q2⟩ := isL I (.inl (.inl (sb.lst h2))); exact eqAt_step_lists I sb hu hf hs (.inl (.inl (sb.lst h1))) (.inl (.inl (sb.lst h2))) q1 q2 w1 w2 r1 r2 h
    | frl h2 z2 r2 => cases ru; obtain ⟨its2, w2, q2⟩ := isL I (sb.sqL h2); exact eqAt_step_lists I sb hu hf hs (.inl (.inl (sb.lst h1))) (sb.sqL h2) q1 q2 w1 w2 r1 r2 h
    | dct h2 _ r2 => cases h
    | dcT h2 _ r2 => cases h
    | ins h2 r2 => cases h
    | ty m => cases h
    | al m => cases h
  | frl h1 z1 r1 =>
    cases rv; obtain ⟨its1, w1, q1⟩ := isL I (sb.sqL h1)
    cases ry with
    | non => cases ru; cases h; exact EqAt.list_none q1 hu
    | bl b => cases ru; cases h; exact EqAt.list_bool b q1 hu
    | int j => obtain ⟨t2, rfl⟩ := ru; cases h; exact EqAt.list_int j t2 q1 hu
    | str y zy => obtain ⟨t2, rfl⟩ := ru; cases h; exact EqAt.list_str y t2 q1 hu
    | tup h2 z2 r2 => cases ru; obtain ⟨its2, w2, q2⟩ := isT I (sb.sqT h2); cases h; exact EqAt.list_tuple q1 q2 hu
    | lst h2 z2 r2 => cases ru; obtain ⟨its2, w2, q2⟩ := isL I (.inl (.inl (sb.lst h2))); exact eqAt_step_lists I sb hu hf hs (sb.sqL h1) (.inl (.inl (sb.lst h2))) q1 q2 w1 w2 r1 r2 h
    | frl h2 z2 r2 => cases ru; obtain ⟨its2, w2, q2⟩ := isL I (sb.sqL h2); exact eqAt_step_lists I sb hu hf hs (sb.sqL h1) (sb.sqL h2) q1 q2 w1 w2 r1 r2 h
    | dct h2 _ r2 => cases h
    | dcT h2 _ r2 => cases h
    | ins h2 r2 => cases h
    | ty m => cases h
    | al m => cases h
  | dct h1 _ r1 => cases ry <;> cases h
  | dcT h1 _ r1 => cases ry <;> cases h
  | ins h1 r1 => cases ry <;> cases h
  | ty n => cases ry <;> cases h
  | al n => cases ry <;> cases h
theorem rcAt_step_lists (I : Inv X pins σ H s) (sb : Sb F H) {A : Around} (hu : A.units < cLine) {f : D → D → Option Bool} (hf : ∀ x y d e b v u, Rep X.K F x d → Rep X.K F y e → RelV x v → RelV y u → f d e = some b → EqAt A.in1 s v u b) {a a' : Addr} {xs ys : List V} {ds es : List D} {its1 its2 : List Value} {b0 : Bool}
    (h1 : SqL X.K H a xs) (h2 : SqL X.K H a' ys) (q1 : s.heap.IsList a its1.toArray) (q2 : s.heap.IsList a' its2.toArray) (w1 : Vals xs its1) (w2 : Vals ys its2) (r1 : RepL X.K F xs ds) (r2 : RepL X.K F ys es) (h : (if ds.length == es.length then deqL f ds es else some false) = some b0) : RcAt A s (.ref a) (.ref a') b0 := by
  have l1 : its1.length = ds.length := by rw [← w1.length, r1.length]
  have l2 : its2.length = es.length := by rw [← w2.length, r2.length]
  by_cases le : ds.length = es.length
  · rw [if_pos (by rw [le]; exact beq_self_eq_true _)] at h
    obtain ⟨g, hg, rfl⟩ := pairs_at hf r1 r2 w1 w2 h
    have hsz : its1.toArray.size = its2.toArray.size := by rw [List.size_toArray, List.size_toArray]; omega
    rw [← hsz, Nat.min_self]
    exact RcAt.lists q1 q2 hsz hu hg
  · rw [if_neg (by simpa using le)] at h
    cases h
    exact RcAt.lists_lengths q1 q2 (by simp only [bne_iff_ne, List.size_toArray]; omega) hu
theorem rcAt_step_tups (I : Inv X pins σ H s) (sb : Sb F H) {A : Around} (hu : A.units < cLine) {f : D → D → Option Bool} (hf : ∀ x y d e b v u, Rep X.K F x d → Rep X.K F y e → RelV x v → RelV y u → f d e = some b → EqAt A.in1 s v u b) {a a' : Addr} {xs ys : List V} {ds es : List D} {its1 its2 : List Value} {b0 : Bool}
    (h1 : SqT X.K H a xs) (h2 : SqT X.K H a' ys) (q1 : s.heap.IsTuple a its1.toArray) (q2 : s.heap.IsTuple a' its2.toArray) (w1 : Vals xs its1) (w2 : Vals ys its2) (r1 : RepL X.K F xs ds) (r2 : RepL X.K F ys es) (h : (deqL f ds es).map (· && (ds.length == es.length)) = some b0) : RcAt A s (.ref a) (.ref a') b0 := by
  have l1 : its1.length = ds.length := by rw [← w1.length, r1.length]
  have l2 : its2.length = es.length := by rw [← w2.length, r2.length]
  cases hq : deqL f ds es with
  | none => rw [hq] at h; cases h
  | some c =>
  rw [hq] at h
  cases h
  obtain ⟨g, hg, rfl⟩ := pairs_at hf r1 r2 w1 w2 hq
  have e : (ds.length == es.length) = (its1.toArray.size == its2.toArray.size) := by rw [List.size_toArray, List.size_toArray, l1, l2]
  rw [e]
  exact RcAt.tuples q1 q2 hu hg
theorem rcAt_step (I : Inv X pins σ H s) (sb : Sb F H) {A : Around} (hu : A.units < cLine) {f : D → D → Option Bool} (hf : ∀ x y d e b v u, Rep X.K F x d → Rep X.K F y e → RelV x v → RelV y u → f d e = some b → EqAt A.in1 s v u b) {x0 y0 : V} {d e : D} {b0 : Bool} {v u : Value}
    (rx : Rep X.K F x0 d) (ry : Rep X.K F y0 e) (rv : RelV x0 v) (ru : RelV y0 u) (h : deqF f d e = some b0) : RcAt A s v u b0 := by
  cases rx with
  | non =>
    cases rv
    cases ry with
    | non => cases ru; cases h; exact RcAt.none_none
    | bl b => cases ru; cases h; exact RcAt.none_bool b
    | int j => obtain ⟨t2, rfl⟩ := ru; cases h; exact RcAt.none_int j t2
    | str y zy => obtain ⟨t2, rfl⟩ := ru; cases h; exact RcAt.none_str y t2
    | tup h2 z2 r2 => cases ru; obtain ⟨its2, w2, q2⟩ := isT I (sb.sqT h2); cases h; exact RcAt.none_tuple q2 hu
    | lst h2 z2 r2 => cases ru; obtain ⟨its2, w2, q2⟩ := isL I (.inl (.inl (sb.lst h2))); cases h; exact RcAt.none_list q2 hu
    | frl h2 z2 r2 => cases ru; obtain ⟨its2, w2, q2⟩ := isL I (sb.sqL h2); cases h; exact RcAt.none_list q2 hu
    | dct h2 _ r2 => cases h
    | dcT h2 _ r2 => cases h
    | ins h2 r2 => cases h
    | ty m => cases h
    | al m => cases h
  | bl a =>
    cases rv
    cases ry with
    | non => cases ru; cases h; exact RcAt.bool_none a
    | bl b => cases ru; cases h; exact RcAt.bool_bool a b
    | int j => obtain ⟨t2, rfl⟩ := ru; cases h; exact RcAt.bool_int a j t2
    | str y zy => obtain ⟨t2, rfl⟩ := ru; cases h; exact RcAt.bool_str a y t2
    | tup h2 z2 r2 => cases ru; obtain ⟨its2, w2, q2⟩ := isT I (sb.sqT h2); cases h; exact RcAt.bool_tuple a q2 hu
    | lst h2 z2 r2 => cases ru; obtain ⟨its2, w2, q2⟩ := isL I (.inl (.inl (sb.lst h2))); cases h; exact RcAt.bool_list a q2 hu
    | frl h2 z2 r2 => cases ru; obtain ⟨its2, w2, q2⟩ := isL I (sb.sqL h2); cases h; exact RcAt.bool_list a q2 hu
    | dct h2 _ r2 => cases h
    | dcT h2 _ r2 => cases h
    | ins h2 r2 => cases h
    | ty m => cases h
    | al m => cases h
  | int i =>
    obtain ⟨t1, rfl⟩ := rv
    cases ry with
    | non => cases ru; cases h; exact RcAt.int_none i t1
    | bl b => cases ru; cases h; exact RcAt.int_bool i t1 b
    | int j => obtain ⟨t2, rfl⟩ := ru; cases h; exact RcAt.int_int i t1 j t2
    | str y zy => obtain ⟨t2, rfl⟩ := ru; cases h; exact RcAt.int_str i t1 y t2
    | tup h2 z2 r2 => cases ru; obtain ⟨its2, w2, q2⟩ := isT I (sb.sqT h2); cases h; exact RcAt.int_tuple i t1 q2 hu
    | lst h2 z2 r2 => cases ru; obtain ⟨its2, w2, q2⟩ := isL I (.inl (.inl (sb.lst h2))); cases h; exact RcAt.int_list i t1 q2 hu
    | frl h2 z2 r2 => cases ru; obtain ⟨its2, w2, q2⟩ := isL I (sb.sqL h2); cases h; exact RcAt.int_list i t1 q2 hu
    | dct h2 _ r2 => cases h
    | dcT h2 _ r2 => cases h
    | ins h2 r2 => cases h
    | ty m => cases h
    | al m => cases h
  | str x zx =>
    obtain ⟨t1, rfl⟩ := rv
    cases ry with
    | non => cases ru; cases h; exact RcAt.str_none x t1
    | bl b => cases ru; cases h; exact RcAt.str_bool x t1 b
    | int j => obtain ⟨t2, rfl⟩ := ru; cases h; exact RcAt.str_int x t1 j t2
    | str y zy => obtain ⟨t2, rfl⟩ := ru; cases h; exact RcAt.str_str x t1 y t2
    | tup h2 z2 r2 => cases ru; obtain ⟨its2, w2, q2⟩ := isT I (sb.sqT h2); cases h; exact RcAt.str_tuple x t1 q2 hu
    | lst h2 z2 r2 => cases ru; obtain ⟨its2, w2, q2⟩ := isL I (.inl (.inl (sb.lst h2))); cases h; exact RcAt.str_list x t1 q2 hu
    | frl h2 z2 r2 => cases ru; obtain ⟨its2, w2, q2⟩ := isL I (sb.sqL h2); cases h; exact RcAt.str_list x t1 q2 hu
    | dct h2 _ r2 => cases h
    | dcT h2 _ r2 => cases h
    | ins h2 r2 => cases h
    | ty m => cases h
    | al m => cases h
  | tup h1 z1 r1 =>
    cases rv; obtain ⟨its1, w1, q1⟩ := isT I (sb.sqT h1)
    cases ry with
    | non => cases ru; cases h; exact RcAt.tuple_none q1 hu
    | bl b => cases ru; cases h; exact RcAt.tuple_bool b q1 hu
    | int j => obtain ⟨t2, rfl⟩ := ru; cases h; exact RcAt.tuple_int j t2 q1 hu
    | str y zy => obtain ⟨t2, rfl⟩ := ru; cases h; exact RcAt.tuple_str y t2 q1 hu
    | tup h2 z2 r2 => cases ru; obtain ⟨its2, w2, q2⟩ := isT I (sb.sqT h2); exact rcAt_step_tups I sb hu hf (sb.sqT h1) (sb.sqT h2) q1 q2 w1 w2 r1 r2 h
    | lst h2 z2 r2 => cases ru; obtain ⟨its2, w2, q2⟩ := isL I (.inl (.inl (sb.lst h2))); cases h; exact RcAt.tuple_list q1 q2 hu
    | frl h2 z2 r2 => cases ru; obtain ⟨its2, w2, q2⟩ := isL I (sb.sqL h2); cases h; exact RcAt.tuple_list q1 q2 hu
    | dct h2 _ r2 => cases h
    | dcT h2 _ r2 => cases h
    | ins h2 r2 => cases h
    | ty m => cases h
    | al m => cases h
  | lst h1 z1 r1 =>
    cases rv; obtain ⟨its1, w1, q1⟩ := isL I (.inl (.inl (sb.lst h1)))
    cases ry with
    | non => cases ru; cases h; exact RcAt.list_none q1 hu
    | bl b => cases ru; cases h; exact RcAt.list_bool b q1 hu
    | int j => obtain ⟨t2, rfl⟩ := ru; cases h; exact RcAt.list_int j t2 q1 hu
    | str y zy => obtain ⟨t2, rfl⟩ := ru; cases h; exact RcAt.list_str y t2 q1 hu
    | tup h2 z2 r2 => cases ru; obtain ⟨its2, w2, q2⟩ := isT I (sb.sqT h2); cases h; exact RcAt.list_tuple q1 q2 hu
    | lst h2 z2 r2 => cases ru; obtain ⟨its2, w2, q2⟩ := isL I (.inl (.inl (sb.lst h2))); exact rcAt_step_lists I sb hu hf (.inl (.inl (sb.lst h1))) (.inl (.inl (sb.lst h2))) q1 q2 w1 w2 r1 r2 h
    | frl h2 z2 r2 => cases ru; obtain ⟨its2, w2, q2⟩ := isL I (sb.sqL h2); exact rcAt_step_lists I sb hu hf (.inl (.inl (sb.lst h1))) (sb.sqL h2) q1 q2 w1 w2 r1 r2 h
    | dct h2 _ r2 => cases h
    | dcT h2 _ r2 => cases h
    | ins h2 r2 => cases h
    | ty m => cases h
    | al m => cases h
  | frl h1 z1 r1 =>
    cases rv; obtain ⟨its1, w1, q1⟩ := isL I (sb.sqL h1)
    cases ry with
    | non => cases ru; cases h; exact RcAt.list_none q1 hu
    | bl b => cases ru; cases h; exact RcAt.list_bool b q1 hu
    | int j => obtain ⟨t2, rfl⟩ := ru; cases h; exact RcAt.list_int j t2 q1 hu
    | str y zy => obtain ⟨t2, rfl⟩ := ru; cases h; exact RcAt.list_str y t2 q1 hu
    | tup h2 z2 r2 => cases ru; obtain ⟨its2, w2, q2⟩ := isT I (sb.sqT h2); cases h; exact RcAt.list_tuple q1 q2 hu
    | lst h2 z2 r2 => cases ru; obtain ⟨its2, w2, q2⟩ := isL I (.inl (.inl (sb.lst h2))); exact rcAt_step_lists I sb hu hf (sb.sqL h1) (.inl (.inl (sb.lst h2))) q1 q2 w1 w2 r1 r2 h
    | frl h2 z2 r2 => cases ru; obtain ⟨its2, w2, q2⟩ := isL I (sb.sqL h2); exact rcAt_step_lists I sb hu hf (sb.sqL h1) (sb.sqL h2) q1 q2 w1 w2 r1 r2 h
    | dct h2 _ r2 => cases h
    | dcT h2 _ r2 => cases h
    | ins h2 r2 => cases h
    | ty m => cases h
    | al m => cases h
  | dct h1 _ r1 => cases ry <;> cases h
  | dcT h1 _ r1 => cases ry <;> cases h
  | ins h1 r1 => cases ry <;> cases h
  | ty n => cases ry <;> cases h
  | al n => cases ry <;> cases h
theorem rcNeAt_step_lists (I : Inv X pins σ H s) (sb : Sb F H) {A : Around} (hu : A.units < cLine) {f : D → D → Option Bool} (hf : ∀ x y d e b v u, Rep X.K F x d → Rep X.K F y e → RelV x v → RelV y u → f d e = some b → EqAt A.in1 s v u b) {a a' : Addr} {xs ys : List V} {ds es : List D} {its1 its2 : List Value} {b0 : Bool}
    (h1 : SqL X.K H a xs) (h2 : SqL X.K H a' ys) (q1 : s.heap.IsList a its1.toArray) (q2 : s.heap.IsList a' its2.toArray) (w1 : Vals xs its1) (w2 : Vals ys its2) (r1 : RepL X.K F xs ds) (r2 : RepL X.K F ys es) (h : (if ds.length == es.length then deqL f ds es else some false) = some b0) : RcNeAt A s (.ref a) (.ref a') (!b0) := by
  have l1 : its1.length = ds.length := by rw [← w1.length, r1.length]
  have l2 : its2.length = es.length := by rw [← w2.length, r2.length]
  by_cases le : ds.length = es.length
  · rw [if_pos (by rw [le]; exact beq_self_eq_true _)] at h
    obtain ⟨g, hg, rfl⟩ := pairs_at hf r1 r2 w1 w2 h
    have hsz : its1.toArray.size = its2.toArray.size := by rw [List.size_toArray, List.size_toArray]; omega
    rw [← hsz, Nat.min_self]
    exact RcNeAt.lists q1 q2 hsz hu hg
  · rw [if_neg (by simpa using le)] at h
    cases h
    exact RcNeAt.lists_lengths q1 q2 (by simp only [bne_iff_ne, List.size_toArray]; omega) hu
theorem rcNeAt_step_tups (I : Inv X pins σ H s) (sb : Sb F H) {A : Around} (hu : A.units < cLine) {f : D → D → Option Bool} (hf : ∀ x y d e b v u, Rep X.K F x d → Rep X.K F y e → RelV x v → RelV y u → f d e = some b → EqAt A.in1 s v u b) {a a' : Addr} {xs ys : List V} {ds es : List D} {its1 its2 : List Value} {b0 : Bool}
    (h1 : SqT X.K H a xs) (h2 : SqT X.K H a' ys) (q1 : s.heap.IsTuple a its1.toArray) (q2 : s.heap.IsTuple a' its2.toArray) (w1 : Vals xs its1) (w2 : Vals ys its2) (r1 : RepL X.K F xs ds) (r2 : RepL X.K F ys es) (h : (deqL f ds es).map (· && (ds.length == es.length)) = some b0) : RcNeAt A s (.ref a) (.ref a') (!b0) := by
  have l1 : its1.length = ds.length := by rw [← w1.length, r1.length]
  have l2 : its2.length = es.length := by rw [← w2.length, r2.length]
  cases hq : deqL f ds es with
  | none => rw [hq] at h; cases h
  | some c =>
  rw [hq] at h
  cases h
  obtain ⟨g, hg, rfl⟩ := pairs_at hf r1 r2 w1 w2 hq
  have e : (ds.length == es.length) = (its1.toArray.size == its2.toArray.size) := by rw [List.size_toArray, List.size_toArray, l1, l2]
  rw [e]
  exact RcNeAt.tuples q1 q2 hu hg
theorem rcNeAt_step (I : Inv X pins σ H s) (sb : Sb F H) {A : Around} (hu : A.units < cLine) {f : D → D → Option Bool} (hf : ∀ x y d e b v u, Rep X.K F x d → Rep X.K F y e → RelV x v → RelV y u → f d e = some b → EqAt A.in1 s v u b) {x0 y0 : V} {d e : D} {b0 : Bool} {v u : Value}
    (rx : Rep X.K F x0 d) (ry : Rep X.K F y0 e) (rv : RelV x0 v) (ru : RelV y0 u) (h : deqF f d e = some b0) : RcNeAt A s v u (!b0) := by
  cases rx with
  | non =>
    cases rv
    cases ry with
    | non => cases ru; cases h; exact RcNeAt.none_none
    | bl b => cases ru; cases h; exact RcNeAt.none_bool b
    | int j => obtain ⟨t2, rfl⟩ := ru; cases h; exact RcNeAt.none_int j t2
    | str y zy => obtain ⟨t2, rfl⟩ := ru; cases h; exact RcNeAt.none_str y t2
    | tup h2 z2 r2 => cases ru; obtain ⟨its2, w2, q2⟩ := isT I (sb.sqT h2); cases h; exact RcNeAt.none_tuple q2 hu
    | lst h2 z2 r2 => cases ru; obtain ⟨its2, w2, q2⟩ := isL I (.inl (.inl (sb.lst h2))); cases h; exact RcNeAt.none_list q2 hu
    | frl h2 z2 r2 => cases ru; obtain ⟨its2, w2, q2⟩ := isL I (sb.sqL h2); cases h; exact RcNeAt.none_list q2 hu
    | dct h2 _ r2 => cases h
    | dcT h2 _ r2 => cases h
    | ins h2 r2 => cases h
    | ty m => cases h
    | al m => cases h
  | bl a =>
    cases rv
    cases ry with
    | non => cases ru; cases h; exact RcNeAt.bool_none a
    | bl b => cases ru; cases h; exact RcNeAt.bool_bool a b
    | int j => obtain ⟨t2, rfl⟩ := ru; cases h; exact RcNeAt.bool_int a j t2
    | str y zy => obtain ⟨t2, rfl⟩ := ru; cases h; exact RcNeAt.bool_str a y t2
    | tup h2 z2 r2 => cases ru; obtain ⟨its2, w2, q2⟩ := isT I (sb.sqT h2); cases h; exact RcNeAt.bool_tuple a q2 hu
    | lst h2 z2 r2 => cases ru; obtain ⟨its2, w2, q2⟩ := isL I (.inl (.inl (sb.lst h2))); cases h; exact RcNeAt.bool_list a q2 hu
    | frl h2 z2 r2 => cases ru; obtain ⟨its2, w2, q2⟩ := isL I (sb.sqL h2); cases h; exact RcNeAt.bool_list a q2 hu
    | dct h2 _ r2 => cases h
    | dcT h2 _ r2 => cases h
    | ins h2 r2 => cases h
    | ty m => cases h
    | al m => cases h
  | int i =>
    obtain ⟨t1, rfl⟩ := rv
    cases ry with
    | non => cases ru; cases h; exact RcNeAt.int_none i t1
    | bl b => cases ru; cases h; exact RcNeAt.int_bool i t1 b
    | int j => obtain ⟨t2, rfl⟩ := ru; cases h; exact RcNeAt.int_int i t1 j t2
    | str y zy => obtain ⟨t2, rfl⟩ := ru; cases h; exact RcNeAt.int_str i t1 y t2
    | tup h2 z2 r2 => cases ru; obtain ⟨its2, w2, q2⟩ := isT I (sb.sqT h2); cases h; exact RcNeAt.int_tuple i t1 q2 hu
    | lst h2 z2 r2 => cases ru; obtain ⟨its2, w2, q2⟩ := isL I (.inl (.inl (sb.lst h2))); cases h; exact RcNeAt.int_list i t1 q2 hu
    | frl h2 z2 r2 => cases ru; obtain ⟨its2, w2, q2⟩ := isL I (sb.sqL h2); cases h; exact RcNeAt.int_list i t1 q2 hu
    | dct h2 _ r2 => cases h
    | dcT h2 _ r2 => cases h
    | ins h2 r2 => cases h
    | ty m => cases h
    | al m => cases h
  | str x zx =>
    obtain ⟨t1, rfl⟩ := rv
    cases ry with
    | non => cases ru; cases h; exact RcNeAt.str_none x t1
    | bl b => cases ru; cases h; exact RcNeAt.str_bool x t1 b
    | int j => obtain ⟨t2, rfl⟩ := ru; cases h; exact RcNeAt.str_int x t1 j t2
    | str y zy => obtain ⟨t2, rfl⟩ := ru; cases h; exact RcNeAt.str_str x t1 y t2
    | tup h2 z2 r2 => cases ru; obtain ⟨its2, w2, q2⟩ := isT I (sb.sqT h2); cases h; exact RcNeAt.str_tuple x t1 q2 hu
    | lst h2 z2 r2 => cases ru; obtain ⟨its2, w2, q2⟩ := isL I (.inl (.inl (sb.lst h2))); cases h; exact RcNeAt.str_list x t1 q2 hu
    | frl h2 z2 r2 => cases ru; obtain ⟨its2, w2, q2⟩ := isL I (sb.sqL h2); cases h; exact RcNeAt.str_list x t1 q2 hu
    | dct h2 _ r2 => cases h
    | dcT h2 _ r2 => cases h
    | ins h2 r2 => cases h
    | ty m => cases h
    | al m => cases h
  | tup h1 z1 r1 =>
    cases rv; obtain ⟨its1, w1, q1⟩ := isT I (sb.sqT h1)
    cases ry with
    | non => cases ru; cases h; exact RcNeAt.tuple_none q1 hu
    | bl b => cases ru; cases h; exact RcNeAt.tuple_bool b q1 hu
    | int j => obtain ⟨t2, rfl⟩ := ru; cases h; exact RcNeAt.tuple_int j t2 q1 hu
    | str y zy => obtain ⟨t2, rfl⟩ := ru; cases h; exact RcNeAt.tuple_str y t2 q1 hu
    | tup h2 z2 r2 => cases ru; obtain ⟨its2, w2, q2⟩ := isT I (sb.sqT h2); exact rcNeAt_step_tups I sb hu hf (sb.sqT h1) (sb.sqT h2) q1 q2 w1 w2 r1 r2 h
    | lst h2 z2 r2 => cases ru; obtain ⟨its2, w2, q2⟩ := isL I (.inl (.inl (sb.lst h2))); cases h; exact RcNeAt.tuple_list q1 q2 hu
    | frl h2 z2 r2 => cases ru; obtain ⟨its2, w2, q2⟩ := isL I (sb.sqL h2); cases h; exact RcNeAt.tuple_list q1 q2 hu
    | dct h2 _ r2 => cases h
    | dcT h2 _ r2 => cases h
    | ins h2 r2 => cases h
    | ty m => cases h
    | al m => cases h
  | lst h1 z1 r1 =>
    cases rv; obtain ⟨its1, w1, q1⟩ := isL I (.inl (.inl (sb.lst h1)))
    cases ry with
    | non => cases ru; cases h; exact RcNeAt.list_none q1 hu
    | bl b => cases ru; cases h; exact RcNeAt.list_bool b q1 hu
    | int j => obtain ⟨t2, rfl⟩ := ru; cases h; exact RcNeAt.list_int j t2 q1 hu
    | str y zy => obtain ⟨t2, rfl⟩ := ru; cases h; exact RcNeAt.list_str y t2 q1 hu
    | tup h2 z2 r2 => cases ru; obtain ⟨its2, w2, q2⟩ := isT I (sb.sqT h2); cases h; exact RcNeAt.list_tuple q1 q2 hu
    | lst h2 z2 r2 => cases ru; obtain ⟨its2, w2, q2⟩ := isL I (.inl (.inl (sb.lst h2))); exact rcNeAt_step_lists I sb hu hf (.inl (.inl (sb.lst h1))) (.inl (.inl (sb.lst h2))) q1 q2 w1 w2 r1 r2 h
    | frl h2 z2 r2 => cases ru; obtain ⟨its2, w2, q2⟩ := isL I (sb.sqL h2); exact rcNeAt_step_lists I sb hu hf (.inl (.inl (sb.lst h1))) (sb.sqL h2) q1 q2 w1 w2 r1 r2 h
    | dct h2 _ r2 => cases h
    | dcT h2 _ r2 => cases h
    | ins h2 r2 => cases h
    | ty m => cases h
    | al m => cases h
  | frl h1 z1 r1 =>
    cases rv; obtain ⟨its1, w1, q1⟩ := isL I (sb.sqL h1)
    cases ry with
    | non => cases ru; cases h; exact RcNeAt.list_none q1 hu
    | bl b => cases ru; cases h; exact RcNeAt.list_bool b q1 hu
    | int j => obtain ⟨t2, rfl⟩ := ru; cases h; exact RcNeAt.list_int j t2 q1 hu
    | str y zy => obtain ⟨t2, rfl⟩ := ru; cases h; exact RcNeAt.list_str y t2 q1 hu
    | tup h2 z2 r2 => cases ru; obtain ⟨its2, w2, q2⟩ := isT I (sb.sqT h2); cases h; exact RcNeAt.list_tuple q1 q2 hu
    | lst h2 z2 r2 => cases ru; obtain ⟨its2, w2, q2⟩ := isL I (.inl (.inl (sb.lst h2))); exact rcNeAt_step_lists I sb hu hf (sb.sqL h1) (.inl (.inl (sb.lst h2))) q1 q2 w1 w2 r1 r2 h
    | frl h2 z2 r2 => cases ru; obtain ⟨its2, w2, q2⟩ := isL I (sb.sqL h2); exact rcNeAt_step_lists I sb hu hf (sb.sqL h1) (sb.sqL h2) q1 q2 w1 w2 r1 r2 h
    | dct h2 _ r2 => cases h
    | dcT h2 _ r2 => cases h
    | ins h2 r2 => cases h
    | ty m => cases h
    | al m => cases h
  | dct h1 _ r1 => cases ry <;> cases h
  | dcT h1 _ r1 => cases ry <;> cases h
  | ins h1 r1 => cases ry <;> cases h
  | ty n => cases ry <;> cases h
  | al n => cases ry <;> cases h
theorem deqF_same (I : Inv X pins σ H s) (sb : Sb F H) {f : D → D → Option Bool} (hs : ∀ x d e b, Rep X.K F x d → Rep X.K F x e → f d e = some b → b = true) {x : V} {d e : D} {b : Bool} (r1 : Rep X.K F x d) (r2 : Rep X.K F x e) (h : deqF f d e = some b) : b = true := by
  have seqs : ∀ {xs : List V} {ds es : List D} {c : Bool}, RepL X.K F xs ds → RepL X.K F xs es → deqL f ds es = some c → c = true := fun {xs ds es c} p q hq => by
    obtain ⟨g, hg, rfl⟩ := deqL_at hq
    exact List.all_eq_true.mpr fun j hj => by
      have hj := List.mem_range.mp hj
      obtain ⟨x, hx, px⟩ := p.get' (List.getElem?_eq_getElem (show j < xs.length by rw [p.length]; omega))
      obtain ⟨y, hy, py⟩ := q.get' (List.getElem?_eq_getElem (show j < xs.length by rw [p.length]; omega))
      exact hs _ _ _ _ px py (hg j x y hx hy)
  have lst : ∀ {a : Addr} {xs ys : List V} {ds es : List D} {c : Bool}, SqL X.K H a xs → SqL X.K H a ys → RepL X.K F xs ds → RepL X.K F ys es → (if ds.length == es.length then deqL f ds es else some false) = some c → c = true := fun {a xs ys ds es c} p q r t hq => by
    have e := I.list_inj p q
    subst e
    have le : ds.length = es.length := by rw [← r.length, ← t.length]
    rw [if_pos (by rw [le]; exact beq_self_eq_true _)] at hq
    exact seqs r t hq
  cases r1 with
  | non => cases r2; cases h; rfl
  | bl a => cases r2; cases h; exact beq_self_eq_true _
  | int a => cases r2; cases h; exact beq_self_eq_true _
  | str a z => cases r2; cases h; exact beq_self_eq_true _
  | ty n => cases r2; cases h
  | al n => cases r2 <;> cases h
  | dct h1 _ r => cases r2 <;> cases h
  | dcT h1 _ r => cases r2 <;> cases h
  | ins h1 r => cases r2 <;> cases h
  | lst h1 z r => cases r2 with
    | lst h2 z2 t => exact lst (.inl (.inl (sb.lst h1))) (.inl (.inl (sb.lst h2))) r t h
    | frl h2 z2 t => exact lst (.inl (.inl (sb.lst h1))) (sb.sqL h2) r t h
    | tup h2 z2 t =>
      obtain ⟨i1, _, q1⟩ := isL I (.inl (.inl (sb.lst h1)))
      obtain ⟨i2, _, q2⟩ := isT I (sb.sqT h2)
      exact absurd rfl (ne_of_list_tuple q1 q2)
    | _ => cases h
  | frl h1 z r => cases r2 with
    | lst h2 z2 t => exact lst (sb.sqL h1) (.inl (.inl (sb.lst h2))) r t h
    | frl h2 z2 t => exact lst (sb.sqL h1) (sb.sqL h2) r t h
    | tup h2 z2 t =>
      obtain ⟨i1, _, q1⟩ := isL I (sb.sqL h1)
      obtain ⟨i2, _, q2⟩ := isT I (sb.sqT h2)
      exact absurd rfl (ne_of_list_tuple q1 q2)
    | _ => cases h
  | tup h1 z r => cases r2 with
    | lst h2 z2 t =>
      obtain ⟨i1, _, q1⟩ := isL I (.inl (.inl (sb.lst h2)))
      obtain ⟨i2, _, q2⟩ := isT I (sb.sqT h1)
      exact absurd rfl (ne_of_list_tuple q1 q2)
    | frl h2 z2 t =>
      obtain ⟨i1, _, q1⟩ := isL I (sb.sqL h2)
      obtain ⟨i2, _, q2⟩ := isT I (sb.sqT h1)
      exact absurd rfl (ne_of_list_tuple q1 q2)
    | tup h2 z2 t =>
      have e := I.tuple_inj (sb.sqT h1) (sb.sqT h2)
      subst e
      have h : (deqL f _ _).map (· && (_ == _)) = some b := h
      cases hq : deqL f _ _ with
      | none => rw [hq] at h; cases h
      | some c =>
        rw [hq] at h
        cases h
        rw [seqs r t hq, show List.length _ = List.length _ from r.length.symm.trans t.length, beq_self_eq_true]
        rfl
    | _ => cases h
theorem deq_same (I : Inv X pins σ H s) (sb : Sb F H) : ∀ (n : Nat) (x : V) (d e : D) (b : Bool), Rep X.K F x d → Rep X.K F x e → deq n d e = some b → b = true
  | 0, x, d, e, b, r1, r2, h => deqF_same I sb (fun _ _ _ _ _ _ h => (by cases h)) r1 r2 h
  | n + 1, x, d, e, b, r1, r2, h => deqF_same I sb (fun x d e b => deq_same I sb n x d e b) r1 r2 h
theorem deq_eqAt (I : Inv X pins σ H s) (sb : Sb F H) : ∀ (n : Nat) (A : Around), A.units + n < cLine → ∀ (x y : V) (d e : D) (b : Bool) (v u : Value), Rep X.K F x d → Rep X.K F y e → RelV x v → RelV y u → deq n d e = some b → EqAt A s v u b
  | 0, A, hu, x, y, d, e, b, v, u, r1, r2, p1, p2, h => eqAt_step I sb hu (fun _ _ _ _ _ _ _ _ _ _ _ h => (by cases h)) (fun _ _ _ _ _ _ h => (by cases h)) r1 r2 p1 p2 h
  | n + 1, A, hu, x, y, d, e, b, v, u, r1, r2, p1, p2, h => eqAt_step I sb (by omega) (deq_eqAt I sb n A.in1 (by show A.units + 1 + n < cLine; omega)) (fun x d e b => deq_same I sb n x d e b) r1 r2 p1 p2 h
def rEqX (K : PySem.W.Frag) : R2 := fun x y H Q => ∃ F d e b, Sb F H ∧ Rep K F x d ∧ Rep K F y e ∧ deq 60 d e = some b ∧ Q (.bl b) H
def rNeX (K : PySem.W.Frag) : R2 := fun x y H Q => ∃ F d e b, Sb F H ∧ Rep K F x d ∧ Rep K F y e ∧ deq 60 d e = some b ∧ Q (.bl (!b)) H
theorem op_eqX (hu : X.A.units + 64 < cLine) : OpR X (compareOp .Eq) (rEqX X.K) := by
  intro pins s σ H x y v u Q I rx ry h
  obtain ⟨F, d, e, b, sb, r1, r2, hq, q⟩ := h
  exact rcAt_step I sb (by omega) (deq_eqAt I sb 59 X.A.in1 (by show X.A.units + 1 + 59 < cLine; omega)) r1 r2 rx ry hq X.prog X.w _ _ ⟨.bl b, H, I, rfl, q⟩
theorem op_neX (hu : X.A.units + 64 < cLine) : OpR X (compareOp .NotEq) (rNeX X.K) := by
  intro pins s σ H x y v u Q I rx ry h
  obtain ⟨F, d, e, b, sb, r1, r2, hq, q⟩ := h
  exact rcNeAt_step I sb (by omega) (deq_eqAt I sb 59 X.A.in1 (by show X.A.units + 1 + 59 < cLine; omega)) r1 r2 rx ry hq X.prog X.w _ _ ⟨.bl (!b), H, I, rfl, q⟩
end

end Tr
/-! The tree layer: operations. -/
namespace Tr
open PySem PySem.Spec PyProof.Rows L2

/-! ### data as the library's data -/
mutual
def D.py : D → PyData
  | .non => .none
  | .bl b => .bool b
  | .int i => .int i
  | .str x => .str x
  | .tup ds => .tuple (D.pyL ds)
  | .lst ds => .list (D.pyL ds)
  | .frl ds => .list (D.pyL ds)
  | .dct _ => .none
  | .dcT _ => .none
  | .ins _ _ => .none
  | .ty _ => .none
  | .al _ => .none
def D.pyL : List D → List PyData
  | [] => []
  | d :: ds => D.py d :: D.pyL ds
end
mutual
/-- made of None, truths, whole numbers, texts, lists and tuples alone -/
def D.plain : D → Bool
  | .tup ds => D.plainL ds
  | .lst ds => D.plainL ds
  | .frl ds => D.plainL ds
  | .dct _ => false
  | .dcT _ => false
  | .ins _ _ => false
  | .ty _ => false
  | .al _ => false
  | _ => true
def D.plainL : List D → Bool
  | [] => true
  | d :: ds => D.plain d && D.plainL ds
end
theorem D.pyL_map (ds : List D) : D.pyL ds = ds.map D.py := by
  induction ds with
  | nil => rfl
  | cons d r ih => show D.py d :: D.pyL r = _; rw [ih]; rfl
section
variable {K : PySem.W.Frag} {F H : Hp}
mutual
theorem Rep.dp (sb : Sb F H) : ∀ {v : V} {d : D}, Rep K F v d → d.plain = true → Dp K H v d.py
  | _, _, .non, _ => .non
  | _, _, .bl b, _ => .bl b
  | _, _, .int i, _ => .int i
  | _, _, .str x _, _ => .str x
  | _, _, .tup h _ r, p => .tup (sb.sqT h) (RepL.dp sb r p)
  | _, _, .lst h _ r, p => .lst (.inl (.inl (sb.lst h))) (RepL.dp sb r p)
  | _, _, .frl h _ r, p => .lst (sb.sqL h) (RepL.dp sb r p)
theorem RepL.dp (sb : Sb F H) : ∀ {v : List V} {d : List D}, RepL K F v d → D.plainL d = true → DpAll K H v (D.pyL d)
  | _, _, .nil, _ => .nil
  | _, d :: ds, .cons h r, p => .cons (Rep.dp sb h (by
      have p : (D.plain d && D.plainL ds) = true := p
      exact (Bool.and_eq_true _ _ ▸ p).1)) (RepL.dp sb r (by
      have p : (D.plain d && D.plainL ds) = true := p
      exact (Bool.and_eq_true _ _ ▸ p).2))
end
end
/-- it can be held against others -/
def D.eqs (d : D) : Prop := d.plain = true ∧ SeqAt.shaped d.py = true
/-- a flat thing as a value -/
def D.v : D → V
  | .non => .non
  | .bl b => .bl b
  | .int i => .int i
  | .str x => .str x
  | _ => .non
def D.flat : D → Bool
  | .non => true
  | .bl _ => true
  | .int _ => true
  | .str _ => true
  | _ => false
theorem Rep.flat {K : PySem.W.Frag} {F : Hp} {x : V} {d : D} (r : Rep K F x d) (h : d.flat = true) : x = d.v ∧ flatV x = true := by
  cases r <;> first
    | exact ⟨rfl, rfl⟩
    | exact absurd h Bool.false_ne_true
theorem RepL.flat {K : PySem.W.Frag} {F : Hp} : ∀ {xs : List V} {ds : List D}, RepL K F xs ds → ds.all D.flat = true → xs = ds.map D.v ∧ xs.all flatV = true
  | _, _, .nil, _ => ⟨rfl, rfl⟩
  | _, _, .cons h r, q => by
    rw [List.all_cons, Bool.and_eq_true] at q
    obtain ⟨e1, f1⟩ := h.flat q.1
    obtain ⟨e2, f2⟩ := RepL.flat r q.2
    exact ⟨by rw [e1, e2]; rfl, by rw [List.all_cons, f1, f2]; rfl⟩
theorem str_len_add (x y : Str) : (x ++ y).length = x.length + y.length := by
  show (x.cps ++ y.cps).size = _
  rw [Array.size_append]
  rfl

/-! ### arithmetic -/
section
variable {K : PySem.W.Frag} {X : Cx}
def semAdd (d e : D) (P : O → Prop) : Prop := match d, e with
  | .int i, .int j => P (.fz (.int (i + j)))
  | .str x, .str y => x.length + y.length ≤ sizeLine ∧ P (.fz (.str (x ++ y)))
  | .tup xs, .tup ys => xs.length + ys.length ≤ sizeLine ∧ P (.fz (.tup (xs ++ ys)))
  | .lst xs, .lst ys => xs.length + ys.length ≤ sizeLine ∧ ∀ a, P (.lst a ((xs ++ ys).map .fz))
  | _, _ => False
def rAddT (K : PySem.W.Frag) : R2 := fun x y H Q => (rI0 (fun i j => .int (i + j)) x y H Q ∨ ∃ i j, x = .str i ∧ y = .str j ∧ i.length + j.length ≤ sizeLine ∧ Q (.str (i ++ j)) H) ∨ rCatA K x y H Q ∨ rCat x y H Q
theorem op_addT : OpR X (binaryOp .Add) (rAddT X.K) := (op_add.or op_add_str).or (op_catA.or op_cat)
theorem sem_add : SemR K (rAddT K) semAdd := by
  intro F H x y d e P Q sb rx ry hs k
  unfold semAdd at hs
  split at hs
  · cases rx; cases ry
    exact .inl (.inl ⟨_, _, rfl, rfl, k _ _ _ _ hs (.fz (.int _))⟩)
  · cases rx; cases ry
    exact .inl (.inr ⟨_, _, rfl, rfl, hs.1, k _ _ _ _ hs.2 (.fz (.str _ (by rw [str_len_add]; exact hs.1)))⟩)
  · rename_i xs ys
    cases rx with
    | @tup a vs _ h1 z1 r1 =>
    cases ry with
    | @tup b ws _ h2 z2 r2 =>
    refine .inr (.inl ⟨_, _, vs, ws, rfl, rfl, sb.sqT h1, sb.sqT h2, by rw [r1.length, r2.length]; exact hs.1, fun e0 => ?_, fun _ e0 => ?_, fun _ _ p hp => ?_⟩)
    · subst e0
      cases r1
      exact k _ _ _ _ hs.2 (.fz (.tup h2 z2 r2))
    · subst e0
      cases r2
      refine k _ _ _ _ hs.2 (.fz ?_)
      rw [List.append_nil]
      exact .tup h1 z1 r1
    · exact k _ _ _ _ hs.2 (.tup sb hp (by rw [List.length_append]; exact hs.1) (r1.append r2))
  · rename_i xs ys
    cases rx with
    | lst h1 z1 r1 =>
    cases ry with
    | lst h2 z2 r2 =>
    exact .inr (.inr ⟨_, _, _, _, rfl, rfl, sb.lst h1, sb.lst h2, by rw [r1.length, r2.length]; exact hs.1, fun p hp => k _ _ _ _ (hs.2 p) (.lst hp (by rw [List.length_append]; exact hs.1) (r1.append r2))⟩)
  · exact hs.elim
def semSub (d e : D) (P : O → Prop) : Prop := match d, e with
  | .int i, .int j => P (.fz (.int (i - j)))
  | _, _ => False
theorem sem_sub : SemR K (rI0 fun i j => .int (i - j)) semSub := by
  intro F H x y d e P Q sb rx ry hs k
  unfold semSub at hs
  split at hs
  · cases rx; cases ry
    exact ⟨_, _, rfl, rfl, k _ _ _ _ hs (.fz (.int _))⟩
  · exact hs.elim
theorem tuple_mul1 (l : Addr) (items : Array Value) (n : Nat) (dd : Option Addr) (sl : Array (Option Value)) (u : Tok) :
    Meets (Builtin.«tuple.__mul__» ⟨[.ref l, .int 1 u], []⟩) (fun _ R s => s.heap.get? l = some { cls := .type "tuple", dict := dd, data := .seq items n, slots := sl } ∧ R (.ok (.ret (.ref l))) s) :=
  .of_wp fun prog w A R s h => by
    obtain ⟨hp, g, d, tk, os⟩ := s
    obtain ⟨hl, h⟩ := h
    have f1 := AutoSeq1.idx_int
    have c1 : (items.isEmpty || (1 : Int) == 1) = true := by simp
    wp_walk using wpAny_loadPart' hl
    exact ⟨_, rfl, h⟩
/-- a tuple once: itself -/
def rRep1 (K : PySem.W.Frag) : R2 := fun x y H Q => ∃ l xs, x = .ref l ∧ y = .int 1 ∧ SqT K H l xs ∧ Q (.ref l) H
theorem op_rep1 {X : Cx} : OpR X (binaryOp .Mult) (rRep1 X.K) := by
  intro pins s σ H x y v u Q I rx ry h
  obtain ⟨l, xs, rfl, rfl, hT, q⟩ := h
  cases rx
  obtain ⟨t, rfl⟩ := ry
  obtain ⟨its, r, ⟨⟨cls, dd, data, sl⟩, ho, hc, n, hd⟩, hs⟩ := I.tuple hT
  simp only at hc hd
  subst hc hd
  exact wpAny_binaryOp_repeat_ref (T := "tuple") (U := "int") (by decide) ⟨_, ho, rfl⟩ (fun s' => typeIs_int s' 1 t) noFill_tuple_mul F.fills_int_mul F.slot_int_rmul repeat_tuple F.slot_int_index.lookup
    (call_meets F.slot_int_rmul (typeIs_int s 1 t) F.entry_int_rmul (F.args_int_rmul_2 _ _) (int_rmul_tuple 1 t l its.toArray n dd sl)
      ⟨ho, rfl, ⟨_, ho, rfl⟩, call_meets F.slot_tuple_mul ⟨_, ho, rfl⟩ F.entry_tuple_mul (F.args_tuple_mul_2 _ _) (tuple_mul1 l its.toArray n dd sl t) ⟨ho, .ref l, H, I, rfl, q⟩⟩)
def semMul (d e : D) (P : O → Prop) : Prop := match d, e with
  | .int i, .int j => CMulW i j ∧ P (.fz (.int (i * j)))
  | .lst xs, .int k => -(2 ^ 63) ≤ k ∧ k < 2 ^ 63 ∧ xs.length * k.toNat ≤ sizeLine ∧ ∀ a, P (.lst a ((List.replicate k.toNat xs).flatten.map .fz))
  | .tup xs, .int k => 1 ≤ k ∧ k ≤ 1000 ∧ xs.length ≤ 1000 ∧ xs.isEmpty = false ∧ P (.fz (.tup (List.replicate k.toNat xs).flatten))
  | _, _ => False
theorem RepL.rep {F : Hp} {vs : List V} {ds : List D} (r : RepL K F vs ds) : ∀ n : Nat, RepL K F (List.replicate n vs).flatten (List.replicate n ds).flatten
  | 0 => .nil
  | n + 1 => by
    rw [List.replicate_succ, List.replicate_succ, List.flatten_cons, List.flatten_cons]
    exact r.append (RepL.rep r n)
def rMulT (K : PySem.W.Frag) : R2 := fun x y H Q => (rI CMulW (fun i j => .int (i * j)) x y H Q ∨ rRep x y H Q) ∨ (rRepT K x y H Q ∨ rRep1 K x y H Q)
theorem sem_mul : SemR K (rMulT K) semMul := by
  intro F H x y d e P Q sb rx ry hs k
  unfold semMul at hs
  split at hs
  · cases rx; cases ry
    exact .inl (.inl ⟨_, _, rfl, rfl, hs.1, k _ _ _ _ hs.2 (.fz (.int _))⟩)
  · rename_i xs n
    cases ry
    cases rx with
    | lst h1 z1 r1 =>
    refine .inl (.inr ⟨_, _, _, rfl, rfl, sb.lst h1, hs.1, hs.2.1, by rw [r1.length]; exact hs.2.2.1, fun p hp => k _ _ _ _ (hs.2.2.2 p) (.lst hp ?_ (r1.rep _))⟩)
    rw [List.length_flatten, List.map_replicate, List.sum_replicate_nat, Nat.mul_comm]
    exact hs.2.2.1
  · rename_i xs n
    cases ry
    cases rx with
    | tup h1 z1 r1 =>
    obtain ⟨h2, h3, h4, h5, h6⟩ := hs
    by_cases e : n = 1
    · subst e
      refine .inr (.inr ⟨_, _, rfl, rfl, sb.sqT h1, k _ _ _ _ h6 (.fz ?_)⟩)
      show Rep K F _ (.tup (xs ++ []))
      rw [List.append_nil]
      exact .tup h1 z1 r1
    · have len : (List.replicate n.toNat xs).flatten.length ≤ sizeLine := by
        rw [List.length_flatten, List.map_replicate, List.sum_replicate_nat, sizeLine_eq]
        have a1 : n.toNat * xs.length ≤ 1000 * 1000 := Nat.mul_le_mul (by omega) h4
        omega
      refine .inr (.inl ⟨_, _, _, rfl, rfl, sb.sqT h1, fun e0 => ?_, by omega, h3, by rw [r1.length]; exact h4, fun p hp => k _ _ _ _ h6 (.tup sb hp len (r1.rep _))⟩)
      subst e0
      cases r1
      cases h5
  · exact hs.elim
theorem op_mulT : OpR X (binaryOp .Mult) (rMulT X.K) := (op_mulW.or op_rep).or (op_repT.or op_rep1)
def semMod (d e : D) (P : O → Prop) : Prop := match d, e with
  | .int i, .int j => 0 < j ∧ P (.fz (.int (i % j)))
  | _, _ => False
theorem sem_mod : SemR K (rI (fun _ j => 0 < j) fun i j => .int (i % j)) semMod := by
  intro F H x y d e P Q sb rx ry hs k
  unfold semMod at hs
  split at hs
  · cases rx; cases ry
    exact ⟨_, _, rfl, rfl, hs.1, k _ _ _ _ hs.2 (.fz (.int _))⟩
  · exact hs.elim
def semDiv (d e : D) (P : O → Prop) : Prop := match d, e with
  | .int i, .int j => CDivW i j ∧ P (.fz (.int (i / j)))
  | _, _ => False
theorem sem_div : SemR K (rI CDivW fun i j => .int (i / j)) semDiv := by
  intro F H x y d e P Q sb rx ry hs k
  unfold semDiv at hs
  split at hs
  · cases rx; cases ry
    exact ⟨_, _, rfl, rfl, hs.1, k _ _ _ _ hs.2 (.fz (.int _))⟩
  · exact hs.elim
def semPow (d e : D) (P : O → Prop) : Prop := match d, e with
  | .int i, .int j => CPow i j ∧ P (.fz (.int (i ^ j.toNat)))
  | _, _ => False
theorem sem_pow : SemR K (rI CPow fun i j => .int (i ^ j.toNat)) semPow := by
  intro F H x y d e P Q sb rx ry hs k
  unfold semPow at hs
  split at hs
  · cases rx; cases ry
    exact ⟨_, _, rfl, rfl, hs.1, k _ _ _ _ hs.2 (.fz (.int _))⟩
  · exact hs.elim

/-! ### comparisons -/
def semEq (d e : D) (P : D → Prop) : Prop := match d, e with
  | .int i, .int j => P (.bl (decide (i = j)))
  | .str x, .str y => P (.bl (decide (x = y)))
  | d, e => ∃ b, deq 60 d e = some b ∧ P (.bl b)
def semNe (d e : D) (P : D → Prop) : Prop := match d, e with
  | .int i, .int j => P (.bl (!decide (i = j)))
  | .str x, .str y => P (.bl (!decide (x = y)))
  | d, e => ∃ b, deq 60 d e = some b ∧ P (.bl (!b))
theorem op_eqT (hu : X.A.units + 64 < cLine) : OpR X (compareOp .Eq) (fun x y H Q => rEq x y H Q ∨ rEqX X.K x y H Q) := op_eq.or (op_eqX hu)
theorem op_neT (hu : X.A.units + 64 < cLine) : OpR X (compareOp .NotEq) (fun x y H Q => rNe x y H Q ∨ rNeX X.K x y H Q) := op_ne.or (op_neX hu)
theorem decV_int (i j : Int) : decide (V.int i = V.int j) = decide (i = j) := by
  rw [Bool.eq_iff_iff]; simp
theorem decV_str (i j : Str) : decide (V.str i = V.str j) = decide (i = j) := by
  rw [Bool.eq_iff_iff]; simp
theorem sem_eq : SemS K (fun x y H Q => rEq x y H Q ∨ rEqX K x y H Q) semEq := by
  intro F H x y d e P Q sb rx ry hs k
  unfold semEq at hs
  split at hs
  · cases rx; cases ry
    exact .inl ⟨rfl, by rw [decV_int]; exact k _ _ hs fun _ => .bl _⟩
  · cases rx; cases ry
    exact .inl ⟨rfl, by rw [decV_str]; exact k _ _ hs fun _ => .bl _⟩
  · obtain ⟨b, hq, h⟩ := hs
    exact .inr ⟨F, _, _, b, sb, rx, ry, hq, k _ _ h fun _ => .bl _⟩
theorem sem_ne : SemS K (fun x y H Q => rNe x y H Q ∨ rNeX K x y H Q) semNe := by
  intro F H x y d e P Q sb rx ry hs k
  unfold semNe at hs
  split at hs
  · cases rx; cases ry
    exact .inl ⟨rfl, by rw [decV_int]; exact k _ _ hs fun _ => .bl _⟩
  · cases rx; cases ry
    exact .inl ⟨rfl, by rw [decV_str]; exact k _ _ hs fun _ => .bl _⟩
  · obtain ⟨b, hq, h⟩ := hs
    exact .inr ⟨F, _, _, b, sb, rx, ry, hq, k _ _ h fun _ => .bl _⟩
def semLt (d e : D) (P : D → Prop) : Prop := match d, e with
  | .int i, .int j => P (.bl (decide (i < j)))
  | .str x, .str y => P (.bl (decide (x.cps.toList < y.cps.toList)))
  | _, _ => False
theorem op_ltT' : OpR X (compareOp .Lt) (fun x y H Q => rI0 (fun i j => .bl (decide (i < j))) x y H Q ∨ ∃ i j, x = .str i ∧ y = .str j ∧ Q (.bl (decide (i.cps.toList < j.cps.toList))) H) := op_lt.or op_lt_str
theorem sem_lt : SemS K (fun x y H Q => rI0 (fun i j => .bl (decide (i < j))) x y H Q ∨ ∃ i j, x = .str i ∧ y = .str j ∧ Q (.bl (decide (i.cps.toList < j.cps.toList))) H) semLt := by
  intro F H x y d e P Q sb rx ry hs k
  unfold semLt at hs
  split at hs
  · cases rx; cases ry
    exact .inl ⟨_, _, rfl, rfl, k _ _ hs fun _ => .bl _⟩
  · cases rx; cases ry
    exact .inr ⟨_, _, rfl, rfl, k _ _ hs fun _ => .bl _⟩
  · exact hs.elim
def semLe (d e : D) (P : D → Prop) : Prop := match d, e with
  | .int i, .int j => P (.bl (decide (i ≤ j)))
  | .str x, .str y => P (.bl (!decide (y.cps.toList < x.cps.toList)))
  | _, _ => False
theorem op_leT' : OpR X (compareOp .LtE) (fun x y H Q => rI0 (fun i j => .bl (decide (i ≤ j))) x y H Q ∨ ∃ i j, x = .str i ∧ y = .str j ∧ Q (.bl (!decide (j.cps.toList < i.cps.toList))) H) := op_le.or op_le_str
theorem sem_le : SemS K (fun x y H Q => rI0 (fun i j => .bl (decide (i ≤ j))) x y H Q ∨ ∃ i j, x = .str i ∧ y = .str j ∧ Q (.bl (!decide (j.cps.toList < i.cps.toList))) H) semLe := by
  intro F H x y d e P Q sb rx ry hs k
  unfold semLe at hs
  split at hs
  · cases rx; cases ry
    exact .inl ⟨_, _, rfl, rfl, k _ _ hs fun _ => .bl _⟩
  · cases rx; cases ry
    exact .inr ⟨_, _, rfl, rfl, k _ _ hs fun _ => .bl _⟩
  · exact hs.elim
def semGt (d e : D) (P : D → Prop) : Prop := match d, e with
  | .int i, .int j => P (.bl (decide (j < i)))
  | .str x, .str y => P (.bl (decide (y.cps.toList < x.cps.toList)))
  | _, _ => False
theorem op_gtT' : OpR X (compareOp .Gt) (fun x y H Q => rI0 (fun i j => .bl (decide (j < i))) x y H Q ∨ ∃ i j, x = .str i ∧ y = .str j ∧ Q (.bl (decide (j.cps.toList < i.cps.toList))) H) := op_gt.or op_gt_str
theorem sem_gt : SemS K (fun x y H Q => rI0 (fun i j => .bl (decide (j < i))) x y H Q ∨ ∃ i j, x = .str i ∧ y = .str j ∧ Q (.bl (decide (j.cps.toList < i.cps.toList))) H) semGt := by
  intro F H x y d e P Q sb rx ry hs k
  unfold semGt at hs
  split at hs
  · cases rx; cases ry
    exact .inl ⟨_, _, rfl, rfl, k _ _ hs fun _ => .bl _⟩
  · cases rx; cases ry
    exact .inr ⟨_, _, rfl, rfl, k _ _ hs fun _ => .bl _⟩
  · exact hs.elim
def semGe (d e : D) (P : D → Prop) : Prop := match d, e with
  | .int i, .int j => P (.bl (decide (j ≤ i)))
  | .str x, .str y => P (.bl (!decide (x.cps.toList < y.cps.toList)))
  | _, _ => False
theorem op_geT' : OpR X (compareOp .GtE) (fun x y H Q => rI0 (fun i j => .bl (decide (j ≤ i))) x y H Q ∨ ∃ i j, x = .str i ∧ y = .str j ∧ Q (.bl (!decide (i.cps.toList < j.cps.toList))) H) := op_ge.or op_ge_str
theorem sem_ge : SemS K (fun x y H Q => rI0 (fun i j => .bl (decide (j ≤ i))) x y H Q ∨ ∃ i j, x = .str i ∧ y = .str j ∧ Q (.bl (!decide (i.cps.toList < j.cps.toList))) H) semGe := by
  intro F H x y d e P Q sb rx ry hs k
  unfold semGe at hs
  split at hs
  · cases rx; cases ry
    exact .inl ⟨_, _, rfl, rfl, k _ _ hs fun _ => .bl _⟩
  · cases rx; cases ry
    exact .inr ⟨_, _, rfl, rfl, k _ _ hs fun _ => .bl _⟩
  · exact hs.elim
/-- the items of a list or a tuple -/
def D.items : D → Option (List D)
  | .tup ds => some ds
  | .lst ds => some ds
  | .frl ds => some ds
  | _ => none
theorem Rep.seq {F H : Hp} {v : V} {d : D} {ds : List D} (r : Rep K F v d) (sb : Sb F H) (h : d.items = some ds) : ∃ p xs, v = .ref p ∧ (SqL K H p xs ∨ SqT K H p xs) ∧ RepL K F xs ds ∧ ds.length ≤ sizeLine := by
  cases r <;> first
    | (cases h; done)
    | skip
  all_goals (have h' := Option.some.inj h; subst h')
  · rename_i h1 z r; exact ⟨_, _, rfl, .inr (sb.sqT h1), r, z⟩
  · rename_i h1 z r; exact ⟨_, _, rfl, .inl (.inl (.inl (sb.lst h1))), r, z⟩
  · rename_i h1 z r; exact ⟨_, _, rfl, .inl (sb.sqL h1), r, z⟩
/-- d in e -/
def semInB (neg : Bool) (d e : D) (P : D → Prop) : Prop := match e with
  | .str z => ∃ c, d = .str ⟨#[c]⟩ ∧ P (.bl (if neg then !decide (c ∈ z.cps.toList) else decide (c ∈ z.cps.toList)))
  | e => ∃ ds, e.items = some ds ∧ d.flat = true ∧ ds.all D.flat = true ∧ P (.bl (if neg then !(ds.any fun z => eqV z.v d.v) else ds.any fun z => eqV z.v d.v))
def rInT (K : PySem.W.Frag) (neg : Bool) : R2 := fun x y H Q => (∃ (c : Nat) (z : Str), x = .str ⟨#[c]⟩ ∧ y = .str z ∧ Q (.bl (if neg then !decide (c ∈ z.cps.toList) else decide (c ∈ z.cps.toList))) H) ∨ rIn K neg x y H Q
theorem op_inT : OpR X (compareOp .In) (rInT X.K false) := op_in_sign.or op_in_seq
theorem op_notInT : OpR X (compareOp .NotIn) (rInT X.K true) := op_notIn_sign.or op_notIn_seq
theorem sem_in (neg : Bool) : SemS K (rInT K neg) (semInB neg) := by
  intro F H x y d e P Q sb rx ry hs k
  unfold semInB at hs
  split at hs
  · obtain ⟨c, rfl, h⟩ := hs
    cases rx; cases ry
    exact .inl ⟨c, _, rfl, rfl, k _ _ h fun _ => .bl _⟩
  · obtain ⟨ds, hi, hf, ha, h⟩ := hs
    obtain ⟨p, xs, rfl, hq, r, z⟩ := ry.seq sb hi
    obtain ⟨e1, f1⟩ := rx.flat hf
    obtain ⟨e2, f2⟩ := r.flat ha
    refine .inr ⟨p, xs, rfl, hq, f1, f2, ?_⟩
    have e3 : inV x xs = ds.any fun z => eqV z.v d.v := by
      unfold inV
      rw [e1, e2, List.any_map]
      rfl
    rw [e3]
    exact k _ _ h fun _ => .bl _
/-- is None, is True .. -/
def semIs (neg : Bool) (d e : D) (P : D → Prop) : Prop := match d, e with
  | .bl a, .bl b => P (.bl (if neg then !decide (a = b) else decide (a = b)))
  | .non, .non => P (.bl (!neg))
  | .bl _, .non => P (.bl neg)
  | .int _, .non => P (.bl neg)
  | .str _, .non => P (.bl neg)
  | .tup _, .non => P (.bl neg)
  | .lst _, .non => P (.bl neg)
  | .dct _, .non => P (.bl neg)
  | .dcT _, .non => P (.bl neg)
  | .ins _ _, .non => P (.bl neg)
  | _, _ => False
def rIsT (neg : Bool) : R2 := fun x y H Q => (y = .non ∧ Q (.bl (if neg then !decide (x = .non) else decide (x = .non))) H) ∨ ∃ a b, x = .bl a ∧ y = .bl b ∧ Q (.bl (if neg then !decide (a = b) else decide (a = b))) H
theorem op_isT : OpR X (compareOp .Is) (rIsT false) := op_isN.or op_is_bl
theorem op_isNotT : OpR X (compareOp .IsNot) (rIsT true) := op_notN.or op_isnot_bl
theorem sem_is (neg : Bool) : SemS K (rIsT neg) (semIs neg) := by
  intro F H x y d e P Q sb rx ry hs k
  unfold semIs at hs
  split at hs
  · cases rx; cases ry
    exact .inr ⟨_, _, rfl, rfl, k _ _ hs fun _ => .bl _⟩
  all_goals first
    | exact hs.elim
    | (cases ry; cases rx <;> (refine .inl ⟨rfl, ?_⟩; cases neg <;> exact k _ _ hs fun _ => .bl _))

/-! ### indices, slices -/
def semIx (d e : D) (P : D → Prop) : Prop := match d, e with
  | .tup ds, .int i => ∃ u, atI ds i = some u ∧ P u
  | .lst ds, .int i => ∃ u, atI ds i = some u ∧ P u
  | .frl ds, .int i => ∃ u, atI ds i = some u ∧ P u
  | .str z, .int i => ∃ c, atI z.cps.toList i = some c ∧ P (.str ⟨#[c]⟩)
  | _, _ => False
theorem RepL.atI {F : Hp} {xs : List V} {ds : List D} {i : Int} {u : D} (r : RepL K F xs ds) (h : L2.atI ds i = some u) : ∃ v, L2.atI xs i = some v ∧ Rep K F v u := by
  unfold L2.atI at h ⊢
  rw [r.length]
  cases q : ixN ds.length i with
  | none => rw [q] at h; cases h
  | some j =>
    rw [q] at h
    exact r.get h
def cutG {α : Type} (xs : List α) (lo hi : Option Int) : List α := (xs.drop (HT.sIx xs.length 0 lo)).take (HT.sIx xs.length xs.length hi - HT.sIx xs.length 0 lo)
theorem RepL.cut {F : Hp} {xs : List V} {ds : List D} (r : RepL K F xs ds) (lo hi : Option Int) : RepL K F (cutV xs lo hi) (cutG ds lo hi) := by
  unfold cutV cutG
  rw [r.length]
  exact (r.drop _).take _
theorem cutG_len {α : Type} (xs : List α) (lo hi : Option Int) : (cutG xs lo hi).length ≤ xs.length := by
  unfold cutG
  rw [List.length_take, List.length_drop]
  omega
theorem cutG_all {α : Type} {xs : List α} {lo hi : Option Int} (h : HT.sIx xs.length 0 lo = 0 ∧ HT.sIx xs.length xs.length hi = xs.length) : cutG xs lo hi = xs := by
  unfold cutG
  rw [h.1, h.2]
  simp
def semSl (d : D) (lo hi : Option Int) (P : O → Prop) : Prop := match d with
  | .str z => P (.fz (.str (cutS z lo hi)))
  | .tup ds => P (.fz (.tup (cutG ds lo hi)))
  | .lst ds => ∀ a, P (.lst a ((cutG ds lo hi).map .fz))
  | .frl ds => ∀ a, P (.lst a ((cutG ds lo hi).map .fz))
  | _ => False
def rSlT' (K : PySem.W.Frag) : V → Option Int → Option Int → Hp → VK → Prop := fun x lo hi H Q => rSlS x lo hi H Q ∨ rSlA K x lo hi H Q ∨ rSlL K x lo hi H Q
theorem sl_T : SlR X (rSlT' X.K) := sl_str.or (sl_tupA.or sl_list)
theorem sem_sl {F H : Hp} {x : V} {d : D} {lo hi : Option Int} {P : O → Prop} {Q : VK} (sb : Sb F H) (rx : Rep K F x d) (hs : semSl d lo hi P) (k : ∀ o v F' H', P o → Res K F H o v F' H' → Q v H') : rSlT' K x lo hi H Q := by
  unfold semSl at hs
  split at hs
  · rename_i z
    cases rx with
    | str _ hz => exact .inl ⟨_, rfl, hz, k _ _ _ _ hs (.fz (.str _ (Nat.le_trans (cutS_length _ _ _) hz)))⟩
  · rename_i ds
    cases rx with
    | @tup a vs _ h z r =>
    refine .inr (.inl ⟨a, vs, rfl, sb.sqT h, fun e => ?_, fun _ p hp => ?_⟩)
    · have e' := cutG_all (xs := ds) (by rw [← r.length]; exact e)
      rw [e'] at hs
      exact k _ _ _ _ hs (.fz (.tup h z r))
    · exact k _ _ _ _ hs (.tup sb hp (Nat.le_trans (cutG_len _ _ _) z) (r.cut lo hi))
  · cases rx with
    | lst h z r => exact .inr (.inr ⟨_, _, rfl, .inl (.inl (sb.lst h)), fun p hp => k _ _ _ _ (hs p) (.lst hp (Nat.le_trans (cutG_len _ _ _) z) (r.cut lo hi))⟩)
  · cases rx with
    | frl h z r => exact .inr (.inr ⟨_, _, rfl, sb.sqL h, fun p hp => k _ _ _ _ (hs p) (.lst hp (Nat.le_trans (cutG_len _ _ _) z) (r.cut lo hi))⟩)
  · exact hs.elim
end

/-! ### built-in functions -/
section
variable {K : PySem.W.Frag} {X : Cx}
def semLen (d : D) (P : D → Prop) : Prop := match d with
  | .str z => P (.int z.length)
  | .dct kvs => P (.int kvs.length)
  | d => ∃ ds, d.items = some ds ∧ P (.int ds.length)
def rLenT (K : PySem.W.Frag) : List V → Hp → VK → Prop := fun xs H Q => (∃ p ys, xs = [.ref p] ∧ (SqL K H p ys ∨ SqT K H p ys) ∧ Q (.int ys.length) H) ∨ ∃ z, xs = [.str z] ∧ z.length ≤ sizeLine ∧ Q (.int z.length) H
theorem cr_lenT : CallR X (.builtin "len") (rLenT X.K) := call_len_seq.or call_len_str
theorem RepK.length {F : Hp} : ∀ {es : List (Key × V)} {kvs : List (Key × D)}, RepK K F es kvs → es.length = kvs.length
  | _, _, .nil => rfl
  | _, _, .cons _ _ r => congrArg (· + 1) (RepK.length r)
def rLenD : List V → Hp → VK → Prop := fun xs H Q => ∃ a kvs, xs = [V.ref a] ∧ Rd H a (.dK kvs) ∧ Q (.int kvs.length) H
theorem cr_lenD : CallR X (.builtin "len") rLenD := by
  intro pins s σ H xs us Q I r h
  obtain ⟨a, kvs, rfl, hr, q⟩ := h
  cases r with
  | cons r rr =>
    cases rr
    cases r
    exact d_len I hr fun t s' I' => ⟨.int kvs.length, H, I', ⟨t, rfl⟩, q⟩
theorem sem_len : SemC1 K (fun xs H Q => rLenT K xs H Q ∨ rLenD xs H Q) semLen := by
  intro F H x d P Q sb rx hs k
  unfold semLen at hs
  split at hs
  · cases rx with
    | str _ hz => exact .inl (.inr ⟨_, rfl, hz, k _ _ hs fun _ => .int _⟩)
  · cases rx with
    | dct h _ r => exact .inr ⟨_, _, rfl, sb.dK h, by rw [r.length]; exact k _ _ hs fun _ => .int _⟩
  · obtain ⟨ds, hi, h⟩ := hs
    obtain ⟨p, xs, rfl, hq, r, z⟩ := rx.seq sb hi
    exact .inl (.inl ⟨p, xs, rfl, hq, by rw [r.length]; exact k _ _ h fun _ => .int _⟩)
theorem cr_len : CallR X (.builtin "len") (fun xs H Q => rLenT X.K xs H Q ∨ rLenD xs H Q) := cr_lenT.or cr_lenD
def semAbs (d : D) (P : D → Prop) : Prop := match d with
  | .int i => P (.int (if i < 0 then -i else i))
  | _ => False
theorem sem_abs : SemC1 K (fun xs H Q => ∃ i, xs = [.int i] ∧ Q (.int (if i < 0 then -i else i)) H) semAbs := by
  intro F H x d P Q sb rx hs k
  unfold semAbs at hs
  split at hs
  · cases rx; exact ⟨_, rfl, k _ _ hs fun _ => .int _⟩
  · exact hs.elim
def semInt (d : D) (P : D → Prop) : Prop := match d with
  | .int i => P (.int i)
  | .bl b => P (.int (if b then 1 else 0))
  | _ => False
theorem sem_int : SemC1 K (fun xs H Q => (∃ i, xs = [.int i] ∧ Q (.int i) H) ∨ ∃ k, xs = [.bl k] ∧ Q (.int (if k then 1 else 0)) H) semInt := by
  intro F H x d P Q sb rx hs k
  unfold semInt at hs
  split at hs
  · cases rx; exact .inl ⟨_, rfl, k _ _ hs fun _ => .int _⟩
  · cases rx; exact .inr ⟨_, rfl, k _ _ hs fun _ => .int _⟩
  · exact hs.elim
/-- the ints of things, the truths of things -/
def D.ints : List D → Option (List Int)
  | [] => some []
  | .int i :: r => (D.ints r).map (i :: ·)
  | _ :: _ => none
def D.bls : List D → Option (List Bool)
  | [] => some []
  | .bl i :: r => (D.bls r).map (i :: ·)
  | _ :: _ => none
theorem ints_map (ns : List Int) : D.ints (ns.map D.int) = some ns := by
  induction ns with
  | nil => rfl
  | cons n r ih => show (D.ints (r.map D.int)).map _ = _; rw [ih]; rfl
theorem bls_map (ns : List Bool) : D.bls (ns.map D.bl) = some ns := by
  induction ns with
  | nil => rfl
  | cons n r ih => show (D.bls (r.map D.bl)).map _ = _; rw [ih]; rfl
theorem RepL.ints {F : Hp} : ∀ {xs : List V} {ds : List D} {ns : List Int}, RepL K F xs ds → D.ints ds = some ns → xs = ns.map V.int
  | _, _, _, .nil, h => by cases h; rfl
  | _, d :: ds, ns, .cons h r, q => by
    cases h <;> first
      | (cases q; done)
      | skip
    rename_i i
    have q : (D.ints ds).map (i :: ·) = some ns := q
    cases e : D.ints ds with
    | none => rw [e] at q; cases q
    | some ms =>
      rw [e] at q
      cases q
      rw [RepL.ints r e]
      rfl
theorem RepL.bls {F : Hp} : ∀ {xs : List V} {ds : List D} {ns : List Bool}, RepL K F xs ds → D.bls ds = some ns → xs = ns.map V.bl
  | _, _, _, .nil, h => by cases h; rfl
  | _, d :: ds, ns, .cons h r, q => by
    cases h <;> first
      | (cases q; done)
      | skip
    rename_i i
    have q : (D.bls ds).map (i :: ·) = some ns := q
    cases e : D.bls ds with
    | none => rw [e] at q; cases q
    | some ms =>
      rw [e] at q
      cases q
      rw [RepL.bls r e]
      rfl
def semAll (d : D) (P : D → Prop) : Prop := match d with
  | .lst ds => ∃ bs, D.bls ds = some bs ∧ P (.bl (bs.all id))
  | _ => False
theorem sem_all : SemC1 K (rAll K) semAll := by
  intro F H x d P Q sb rx hs k
  unfold semAll at hs
  split at hs
  · obtain ⟨bs, e, h⟩ := hs
    cases rx with
    | lst h1 z r => exact ⟨_, bs, rfl, by rw [← r.bls e]; exact .inl (.inl (sb.lst h1)), k _ _ h fun _ => .bl _⟩
  · exact hs.elim
def semAny (d : D) (P : D → Prop) : Prop := match d with
  | .lst ds => ∃ bs, D.bls ds = some bs ∧ P (.bl (bs.any id))
  | _ => False
theorem sem_any : SemC1 K (rAny K) semAny := by
  intro F H x d P Q sb rx hs k
  unfold semAny at hs
  split at hs
  · obtain ⟨bs, e, h⟩ := hs
    cases rx with
    | lst h1 z r => exact ⟨_, bs, rfl, by rw [← r.bls e]; exact .inl (.inl (sb.lst h1)), k _ _ h fun _ => .bl _⟩
  · exact hs.elim
def semSum (d : D) (P : D → Prop) : Prop := match d with
  | .lst ds => ∃ ns, D.ints ds = some ns ∧ P (.int ns.sum)
  | _ => False
theorem sem_sum : SemC1 K (rSum K) semSum := by
  intro F H x d P Q sb rx hs k
  unfold semSum at hs
  split at hs
  · obtain ⟨ns, e, h⟩ := hs
    cases rx with
    | lst h1 z r => exact ⟨_, ns, rfl, by rw [← r.ints e]; exact .inl (.inl (sb.lst h1)), k _ _ h fun _ => .int _⟩
  · exact hs.elim
def semMax2 (d e : D) (P : D → Prop) : Prop := match d, e with
  | .int i, .int j => P (.int (if j > i then j else i))
  | _, _ => False
def semMin2 (d e : D) (P : D → Prop) : Prop := match d, e with
  | .int i, .int j => P (.int (if j < i then j else i))
  | _, _ => False
/-- isinstance by a built-in class -/
def D.isA (T : String) : D → Option Bool
  | .non => kitB "NoneType" T
  | .bl _ => kitB "bool" T
  | .int _ => kitB "int" T
  | .str _ => kitB "str" T
  | .tup _ => kitB "tuple" T
  | .lst _ => kitB "list" T
  | .dct _ => kitB "dict" T
  | _ => none
def semIsi (d e : D) (P : D → Prop) : Prop := match e with
  | .ty T => ∃ b, d.isA T = some b ∧ P (.bl b)
  | _ => False
theorem TyX.tup {F H : Hp} {a : Addr} {xs : List V} (sb : Sb F H) (h : F a = some (.tup xs)) : L2.TyX K H (.ref a) (.type "tuple") := .base (.tup (sb.tup h))
theorem TyX.dict {F H : Hp} {a : Addr} {kvs : List (Key × V)} (sb : Sb F H) (h : F a = some (.dK kvs)) : L2.TyX K H (.ref a) (.type "dict") := by
  rcases sb a _ h with z | ⟨ob, e, z⟩
  · exact .base (.dK z)
  · exact .fDict z
theorem isi_ok {F H : Hp} {x : V} {d : D} {T : String} {b : Bool} (sb : Sb F H) (rx : Rep K F x d) (h : d.isA T = some b) : ∃ t, L2.TyX K H x t ∧ PySem.W.kitOne K t (.type T) = some b := by
  cases rx with
  | non => exact ⟨_, .base .non, kit_ty h⟩
  | bl b => exact ⟨_, .base (.bl _), kit_ty h⟩
  | int b => exact ⟨_, .base (.int _), kit_ty h⟩
  | str b _ => exact ⟨_, .base (.str _), kit_ty h⟩
  | tup h1 z r => exact ⟨_, TyX.tup sb h1, kit_ty h⟩
  | lst h1 z r => exact ⟨_, .base (.lst (sb.lst h1)), kit_ty h⟩
  | dct h1 _ r => exact ⟨_, TyX.dict sb h1, kit_ty h⟩
  | _ => cases h
end
end Tr
/-! The tree layer: expressions, calls. -/
namespace Tr
open PySem PySem.Spec PyProof.Rows L2

/-! ### comparisons, tests -/
/-- a parting of the ways -/
def br (c : Bool) (A B : Prop) : Prop := (c = true → A) ∧ (c = false → B)
def wChain (sem sem' : D → D → (D → Prop) → Prop) (wa wb wc : WD) : WD := fun ρ P => wa ρ fun d ρ1 => wb ρ1 fun e ρ2 => sem d e fun u => match u with
  | .bl b => br b (wc ρ2 fun f ρ3 => sem' e f fun v => P v ρ3) (P (.bl false) ρ2)
  | _ => False
def truD : D → Option Bool
  | .non => some false
  | .bl b => some b
  | .int i => some (i != 0)
  | .str x => some ((x.length : Int) != 0)
  | .tup ds => some (!ds.isEmpty)
  | .lst ds => some (!ds.isEmpty)
  | .frl ds => some (!ds.isEmpty)
  | _ => none
def wTru (w : WD) : WT := fun ρ P => w ρ fun d ρ' => match truD d with
  | some b => P b ρ'
  | none => False
def wAnd (wa wb : WT) : WT := fun ρ P => wa ρ fun c ρ1 => br c (wb ρ1 P) (P false ρ1)
def wOr (wa wb : WT) : WT := fun ρ P => wa ρ fun c ρ1 => br c (P true ρ1) (wb ρ1 P)
def wNot (wa : WT) : WT := fun ρ P => wa ρ fun c ρ1 => P (!c) ρ1
def wBl (w : WT) : WD := fun ρ P => w ρ fun c ρ1 => P (.bl c) ρ1
def wAndV (wa wb : WD) : WD := fun ρ P => wTst wa ρ fun c ρ1 => br c (wb ρ1 P) (P (.bl false) ρ1)
def wOrV (wa wb : WD) : WD := fun ρ P => wTst wa ρ fun c ρ1 => br c (P (.bl true) ρ1) (wb ρ1 P)
def wNotV (wa : WD) : WD := fun ρ P => wTst wa ρ fun c ρ1 => P (.bl (!c)) ρ1
def wIf {α : Type} (wc : WT) (wa wb : TEnv → (α → TEnv → Prop) → Prop) : TEnv → (α → TEnv → Prop) → Prop := fun ρ P => wc ρ fun c ρ1 => br c (wa ρ1 P) (wb ρ1 P)
structure XW (X : Cx) (e : Expr) (w : WT) : Prop where
  pw : PW X e (liftT X.K w)
theorem PW.imp {X : Cx} {e : Expr} {t t' : TT} (h : PW X e t) (i : ∀ σ H Q, t' σ H Q → t σ H Q) : PW X e t' := ⟨fun wh pins s σ H Q I hw => h.run wh pins s σ H Q I (i _ _ _ hw)⟩
theorem Rep.tru {K : PySem.W.Frag} {F H : Hp} {v : V} {d : D} {b : Bool} (r : Rep K F v d) (sb : Sb F H) (h : truD d = some b) : TruV K v H b := by
  cases r with
  | non => cases h; rfl
  | bl b => cases h; rfl
  | int i => cases h; rfl
  | str x z => cases h; exact ⟨z, rfl⟩
  | tup h1 z r =>
    cases h
    refine .inr (.inl ⟨_, sb.sqT h1, ?_⟩)
    have e := r.length
    rename_i xs ds
    cases xs <;> cases ds <;> first
      | rfl
      | (cases e)
  | lst h1 z r =>
    cases h
    refine .inl ⟨_, .inl (.inl (sb.lst h1)), ?_⟩
    have e := r.length
    rename_i xs ds
    cases xs <;> cases ds <;> first
      | rfl
      | (cases e)
  | frl h1 z r =>
    cases h
    refine .inl ⟨_, sb.sqL h1, ?_⟩
    have e := r.length
    rename_i xs ds
    cases xs <;> cases ds <;> first
      | rfl
      | (cases e)
  | _ => cases h
section
variable {X : Cx} {a b c e : Expr} {wa wb wc w : WD} {pos : Pos} {r r' : R2} {op op' : CmpOp} {sem sem' : D → D → (D → Prop) → Prop} {rest : List Expr}
theorem xe_cmp (ho : OpR X (compareOp op) r) (hs : SemS X.K r sem) (ha : XE X a wa) (hb : XB X b wb) (hm : behindInMarks op b = false := by first | exact nomark _ | rfl) : XE X (.Compare a [op] [b] pos) (wCmp sem wa wb) :=
  ⟨PE.imp (pe_cmpR ho ha.pe hb.pe hm) fun _ _ _ h => tOp_cmp hs h⟩
theorem xe_cmpL {i : Nat} (ho : OpR X (compareOp op) r) (hs : SemS X.K r sem) (ha : PE X a (tVar i)) (hb : XB X b wb) (hm : behindInMarks op b = false := by first | exact nomark _ | rfl) : XE X (.Compare a [op] [b] pos) (wCmpL sem i wb) :=
  ⟨PE.imp (pe_cmpR ho ha hb.pe hm) fun _ _ _ h => tOp_cmpL hs h⟩
/-- a reading of a truth as a test -/
theorem lift_tst {K : PySem.W.Frag} {w : WD} {σ : L2.St} {H : Hp} {Q : Bool → Hp → Prop} (h : liftT K (wTst w) σ H Q) : liftD K w σ H (fun x H' => ∃ k, x = .bl k ∧ Q k H') := by
  obtain ⟨ρ, F, P, s, hw, k⟩ := h
  refine ⟨ρ, F, _, s, hw, fun d ρ' F' H' v p s' r f => ?_⟩
  cases d <;> first
    | exact p.elim
    | skip
  cases r
  exact ⟨_, rfl, k _ _ _ _ p s' f⟩
theorem xt_cmp (ho : OpR X (compareOp op) r) (hs : SemS X.K r sem) (ha : XE X a wa) (hb : XB X b wb) (hm : behindInMarks op b = false := by first | exact nomark _ | rfl) : XT X (.Compare a [op] [b] pos) (wTst (wCmp sem wa wb)) :=
  ⟨PT.imp (pt_cmpR ho ha.pe hb.pe hm) fun _ _ _ h => tOp_cmp hs (lift_tst h)⟩
theorem xt_cmpL {i : Nat} (ho : OpR X (compareOp op) r) (hs : SemS X.K r sem) (ha : PE X a (tVar i)) (hb : XB X b wb) (hm : behindInMarks op b = false := by first | exact nomark _ | rfl) : XT X (.Compare a [op] [b] pos) (wTst (wCmpL sem i wb)) :=
  ⟨PT.imp (pt_cmpR ho ha hb.pe hm) fun _ _ _ h => tOp_cmpL hs (lift_tst h)⟩
theorem t_chain (hs : SemS X.K r sem) (hs' : SemS X.K r' sem') {σ : L2.St} {H : Hp} {Q : VK} (h : liftD X.K (wChain sem sem' wa wb wc) σ H Q) : tChain r r' (liftD X.K wa) (liftD X.K wb) (liftD X.K wc) σ H Q := by
  obtain ⟨ρ, F, P, s, hw, k⟩ := h
  refine ⟨ρ, F, _, s, hw, fun d ρ1 F1 H1 v p s1 r1 f1 => ?_⟩
  refine ⟨ρ1, F1, _, s1, p, fun e ρ2 F2 H2 u p2 s2 r2 f2 => ?_⟩
  refine hs F2 H2 _ _ d e _ _ s2.sub (r1.mono f2.fz) r2 p2 fun u' w p3 rr => ?_
  cases u' <;> first
    | exact p3.elim
    | skip
  rename_i b
  have e1 := rr F2
  cases e1
  refine ⟨b, rfl, ?_⟩
  cases b with
  | false =>
    have p3 : P (.bl false) ρ2 := by simpa [br] using p3
    rw [if_neg Bool.false_ne_true]
    exact k _ _ _ _ _ p3 s2 (.bl false) (f1.trans f2)
  | true =>
    rw [if_pos rfl]
    have p3 : wc ρ2 fun f ρ3 => sem' e f fun v => P v ρ3 := by simpa [br] using p3
    refine ⟨ρ2, F2, _, s2, p3, fun f ρ3 F3 H3 x p4 s3 r3 f3 => ?_⟩
    exact hs' F3 H3 _ _ e f _ Q s3.sub (r2.mono f3.fz) r3 p4 fun u w p5 rr => k _ _ _ _ _ p5 s3 (rr _) ((f1.trans f2).trans f3)
theorem xe_chain (ho : OpR X (compareOp op) r) (hs : SemS X.K r sem) (ho' : OpR X (compareOp op') r') (hs' : SemS X.K r' sem') (ha : XE X a wa) (hb : XE X b wb) (hc : XE X c wc) (hm : lastMarks [op, op'] [b, c] = false := by with_unfolding_all rfl) :
    XE X (.Compare a [op, op'] [b, c] pos) (wChain sem sem' wa wb wc) := ⟨PE.imp (pe_chain ho ho' ha.pe hb.pe hc.pe hm) fun _ _ _ h => t_chain hs hs' h⟩
theorem xt_chain (ho : OpR X (compareOp op) r) (hs : SemS X.K r sem) (ho' : OpR X (compareOp op') r') (hs' : SemS X.K r' sem') (ha : XE X a wa) (hb : XE X b wb) (hc : XE X c wc) (hm : lastMarks [op, op'] [b, c] = false := by with_unfolding_all rfl) :
    XT X (.Compare a [op, op'] [b, c] pos) (wTst (wChain sem sem' wa wb wc)) := ⟨PT.imp (pt_chain ho ho' ha.pe hb.pe hc.pe hm) fun _ _ _ h => t_chain hs hs' (lift_tst h)⟩
/-- a name, a call .. as a test -/
theorem xt_tru (h : XB X e w) (he : ∀ whole, isTrue e X.env whole = (do let v ← whole; standAt e.pos; holding [v] (truthy v)) := by intro _; rfl) : XT X e (wTru w) := ⟨PT.imp (pt_truth h.pe he) fun σ H Q ⟨ρ, F, P, s, hw, k⟩ =>
  ⟨ρ, F, _, s, hw, fun d ρ' F' F'' H' v p s' sb su r f => by
    cases hd : truD d with
    | none => rw [hd] at p; exact p.elim
    | some b =>
      rw [hd] at p
      exact ⟨b, r.tru sb hd, k _ _ _ _ p s' f⟩⟩⟩
theorem XT.w1 {wt : WT} (h : XT X a wt) : XW X (.BoolOp .And [a] pos) wt := ⟨pw_and1 h.pt⟩
theorem XT.o1 {wt : WT} (h : XT X a wt) : XW X (.BoolOp .Or [a] pos) wt := ⟨pw_or1 h.pt⟩
theorem xw_and {wt wu : WT} (h : XT X a wt) (h2 : XW X (.BoolOp .And (b :: rest) pos) wu) : XW X (.BoolOp .And (a :: b :: rest) pos) (wAnd wt wu) := ⟨PW.imp (pw_and h.pt h2.pw) fun σ H Q ⟨ρ, F, P, s, hw, k⟩ =>
  ⟨ρ, F, _, s, hw, fun c ρ1 F1 H1 p s1 f1 => by
    cases c with
    | true =>
      have p : wu ρ1 P := by simpa [br] using p
      rw [if_pos rfl]
      exact ⟨ρ1, F1, P, s1, p, fun b ρ2 F2 H2 p2 s2 f2 => k _ _ _ _ p2 s2 (f1.trans f2)⟩
    | false =>
      have p : P false ρ1 := by simpa [br] using p
      rw [if_neg Bool.false_ne_true]
      exact k _ _ _ _ p s1 f1⟩⟩
theorem xw_or {wt wu : WT} (h : XT X a wt) (h2 : XW X (.BoolOp .Or (b :: rest) pos) wu) : XW X (.BoolOp .Or (a :: b :: rest) pos) (wOr wt wu) := ⟨PW.imp (pw_or h.pt h2.pw) fun σ H Q ⟨ρ, F, P, s, hw, k⟩ =>
  ⟨ρ, F, _, s, hw, fun c ρ1 F1 H1 p s1 f1 => by
    cases c with
    | false =>
      have p : wu ρ1 P := by simpa [br] using p
      rw [if_neg Bool.false_ne_true]
      exact ⟨ρ1, F1, P, s1, p, fun b ρ2 F2 H2 p2 s2 f2 => k _ _ _ _ p2 s2 (f1.trans f2)⟩
    | true =>
      have p : P true ρ1 := by simpa [br] using p
      rw [if_pos rfl]
      exact k _ _ _ _ p s1 f1⟩⟩
theorem XW.t {wt : WT} (h : XW X e wt) : XT X e wt := ⟨h.pw.pt⟩
theorem xt_not {wt : WT} (h : XT X a wt) : XT X (.UnaryOp .Not a pos) (wNot wt) := ⟨PT.imp (pt_not h.pt) fun σ H Q ⟨ρ, F, P, s, hw, k⟩ =>
  ⟨ρ, F, _, s, hw, fun c ρ1 F1 H1 p s1 f1 => k _ _ _ _ p s1 f1⟩⟩
theorem xe_and1 {op : BoolOp} (h : XE X a wa) : XE X (.BoolOp op [a] pos) wa := ⟨pe_one h.pe⟩
theorem xe_and (h : XE X a wa) (h2 : XE X (.BoolOp .And (b :: rest) pos) wb) : XE X (.BoolOp .And (a :: b :: rest) pos) (wAndV wa wb) := ⟨PE.imp (pe_and h.pe h2.pe) fun σ H Q ⟨ρ, F, P, s, hw, k⟩ =>
  ⟨ρ, F, _, s, hw, fun d ρ1 F1 H1 v p s1 r1 f1 => by
    cases d <;> first
      | exact p.elim
      | skip
    cases r1
    rename_i c
    refine ⟨c, rfl, ?_⟩
    cases c with
    | true =>
      have p : wb ρ1 P := by simpa [br] using p
      rw [if_pos rfl]
      exact ⟨ρ1, F1, P, s1, p, fun b ρ2 F2 H2 v p2 s2 r2 f2 => k _ _ _ _ _ p2 s2 r2 (f1.trans f2)⟩
    | false =>
      have p : P (.bl false) ρ1 := by simpa [br] using p
      rw [if_neg Bool.false_ne_true]
      exact k _ _ _ _ _ p s1 (.bl false) f1⟩⟩
theorem xe_or (h : XE X a wa) (h2 : XE X (.BoolOp .Or (b :: rest) pos) wb) : XE X (.BoolOp .Or (a :: b :: rest) pos) (wOrV wa wb) := ⟨PE.imp (pe_or h.pe h2.pe) fun σ H Q ⟨ρ, F, P, s, hw, k⟩ =>
  ⟨ρ, F, _, s, hw, fun d ρ1 F1 H1 v p s1 r1 f1 => by
    cases d <;> first
      | exact p.elim
      | skip
    cases r1
    rename_i c
    refine ⟨c, rfl, ?_⟩
    cases c with
    | false =>
      have p : wb ρ1 P := by simpa [br] using p
      rw [if_neg Bool.false_ne_true]
      exact ⟨ρ1, F1, P, s1, p, fun b ρ2 F2 H2 v p2 s2 r2 f2 => k _ _ _ _ _ p2 s2 r2 (f1.trans f2)⟩
    | true =>
      have p : P (.bl true) ρ1 := by simpa [br] using p
      rw [if_pos rfl]
      exact k _ _ _ _ _ p s1 (.bl true) f1⟩⟩
theorem xe_not (h : XE X a wa) : XE X (.UnaryOp .Not a pos) (wNotV wa) := ⟨PE.imp (pe_not h.pe) fun σ H Q ⟨ρ, F, P, s, hw, k⟩ =>
  ⟨ρ, F, _, s, hw, fun d ρ1 F1 H1 v p s1 r1 f1 => by
    cases d <;> first
      | exact p.elim
      | skip
    cases r1
    rename_i c
    exact ⟨c, rfl, k _ _ _ _ _ p s1 (.bl (!c)) f1⟩⟩⟩
theorem xo_if {wt : WT} {va vb : WO} (hc : XT X c wt) (ha : XO X a va) (hb : XO X b vb) : XO X (.IfExp c a b pos) (wIf wt va vb) := ⟨PE.imp (pe_ifExp hc.pt ha.pe hb.pe) fun σ H Q ⟨ρ, F, P, s, hw, k⟩ =>
  ⟨ρ, F, _, s, hw, fun c ρ1 F1 H1 p s1 f1 => by
    cases c with
    | true =>
      have p : va ρ1 P := by simpa [br] using p
      rw [if_pos rfl]
      exact ⟨ρ1, F1, P, s1, p, fun b ρ2 F2 H2 v p2 s2 f2 => k _ _ _ _ _ p2 s2 (f1.trans f2)⟩
    | false =>
      have p : vb ρ1 P := by simpa [br] using p
      rw [if_neg Bool.false_ne_true]
      exact ⟨ρ1, F1, P, s1, p, fun b ρ2 F2 H2 v p2 s2 f2 => k _ _ _ _ _ p2 s2 (f1.trans f2)⟩⟩⟩
theorem xe_if {wt : WT} (hc : XT X c wt) (ha : XE X a wa) (hb : XE X b wb) : XE X (.IfExp c a b pos) (wIf wt wa wb) := ⟨PE.imp (pe_ifExp hc.pt ha.pe hb.pe) fun σ H Q ⟨ρ, F, P, s, hw, k⟩ =>
  ⟨ρ, F, _, s, hw, fun c ρ1 F1 H1 p s1 f1 => by
    cases c with
    | true =>
      have p : wa ρ1 P := by simpa [br] using p
      rw [if_pos rfl]
      exact ⟨ρ1, F1, P, s1, p, fun b ρ2 F2 H2 v p2 s2 r2 f2 => k _ _ _ _ _ p2 s2 r2 (f1.trans f2)⟩
    | false =>
      have p : wb ρ1 P := by simpa [br] using p
      rw [if_neg Bool.false_ne_true]
      exact ⟨ρ1, F1, P, s1, p, fun b ρ2 F2 H2 v p2 s2 r2 f2 => k _ _ _ _ _ p2 s2 r2 (f1.trans f2)⟩⟩⟩
def wNeg (w : WD) : WD := fun ρ P => w ρ fun d ρ' => match d with
  | .int i => P (.int (-i)) ρ'
  | _ => False
theorem xe_neg (h : XE X a wa) : XE X (.UnaryOp .USub a pos) (wNeg wa) := ⟨PE.imp (pe_un un_neg h.pe) fun σ H Q ⟨ρ, F, P, s, hw, k⟩ =>
  ⟨ρ, F, _, s, hw, fun d ρ1 F1 H1 v p s1 r1 f1 => by
    cases d <;> first
      | exact p.elim
      | skip
    cases r1
    exact ⟨_, rfl, k _ _ _ _ _ p s1 (.int _) f1⟩⟩⟩
end

/-! ### lists of expressions -/
def wNil : WL := fun ρ P => P [] ρ
def wCons (w : WD) (wl : WL) : WL := fun ρ P => w ρ fun d ρ1 => wl ρ1 fun ds ρ2 => P (d :: ds) ρ2
abbrev WLO := TEnv → (List O → TEnv → Prop) → Prop
def wNilO : WLO := fun ρ P => P [] ρ
def wConsO (w : WO) (wl : WLO) : WLO := fun ρ P => w ρ fun d ρ1 => wl ρ1 fun ds ρ2 => P (d :: ds) ρ2
def liftAO (K : PySem.W.Frag) (w : WLO) : TA := fun σ H Q => ∃ ρ F P, SR K ρ σ F H ∧ w ρ P ∧
  ∀ os ρ' F' H' vs, P os ρ' → SR K (os.map some ++ ρ') (vs.map some ++ σ) F' H' → vs.length = os.length → Frm (ownedE ρ) F H (ownedE (os.map some ++ ρ')) F' H' → Q vs H'
structure XAO (X : Cx) (es : List Expr) (w : WLO) : Prop where
  pa : PA X es (liftAO X.K w)
theorem ownedE_os : ∀ (os : List O) (ρ : TEnv), ownedE (os.map some ++ ρ) = O.ownedL os ++ ownedE ρ
  | [], _ => rfl
  | o :: os, ρ => by
    show o.owned ++ ownedE (os.map some ++ ρ) = (o.owned ++ O.ownedL os) ++ ownedE ρ
    rw [ownedE_os os ρ, List.append_assoc]
section
variable {X : Cx} {e : Expr} {es : List Expr} {w : WD} {wl : WL} {wo : WO} {wlo : WLO} {pos : Pos}
theorem xa_nil : XA X [] wNil := ⟨PA.imp pa_nil fun σ H Q ⟨ρ, F, P, s, hw, k⟩ => k _ _ _ _ _ hw s .nil .refl⟩
theorem xa_cons (h : XE X e w) (r : XA X es wl) (hs : starEach (e :: es) X.env = (false, eval e X.env) :: starEach es X.env := by rfl) : XA X (e :: es) (wCons w wl) := ⟨PA.imp (pa_cons h.pe r.pa hs) fun σ H Q ⟨ρ, F, P, s, hw, k⟩ =>
  ⟨ρ, F, _, s, hw, fun d ρ1 F1 H1 v p s1 r1 f1 => ⟨ρ1, F1, _, s1, p, fun ds ρ2 F2 H2 vs p2 s2 r2 f2 => k _ _ _ _ _ p2 s2 (.cons (r1.mono f2.fz) r2) (f1.trans f2)⟩⟩⟩
theorem xao_nil : XAO X [] wNilO := ⟨PA.imp pa_nil fun σ H Q ⟨ρ, F, P, s, hw, k⟩ => k [] _ _ _ [] hw s rfl .refl⟩
theorem xao_cons (h : XO X e wo) (r : XAO X es wlo) (hs : starEach (e :: es) X.env = (false, eval e X.env) :: starEach es X.env := by rfl) : XAO X (e :: es) (wConsO wo wlo) := ⟨PA.imp (pa_cons h.pe r.pa hs) fun σ H Q ⟨ρ, F, P, s, hw, k⟩ =>
  ⟨ρ, F, _, s, hw, fun o ρ1 F1 H1 v p s1 f1 => ⟨ρ1, F1, _, s1.pop, p, fun os ρ2 F2 H2 vs p2 s2 l2 f2 => by
    obtain ⟨s3, f3⟩ := s1.frame s2 f2
    exact k (o :: os) ρ2 F2 H2 (v :: vs) p2 s3 (by rw [List.length_cons, List.length_cons, l2]) (f1.trans f3)⟩⟩⟩
def wTup (wl : WL) : WD := fun ρ P => wl ρ fun ds ρ' => ds.length ≤ sizeLine ∧ P (.tup ds) ρ'
theorem xe_tup {x1} (h : XA X es wl) : XE X (.Tuple es x1 pos) (wTup wl) := ⟨PE.imp (pe_tup h.pa) fun σ H Q ⟨ρ, F, P, s, hw, k⟩ =>
  ⟨ρ, F, _, s, hw, fun ds ρ1 F1 H1 vs p s1 r1 f1 => ⟨by rw [r1.length]; exact p.1, fun q hq => by
    obtain ⟨s2, f2⟩ := Res.tup s1.sub hq p.1 r1 _ _ s1
    exact k _ _ _ _ _ p.2 s2.pop s2.topD (f1.trans f2)⟩⟩⟩
theorem RepOL.split {K : PySem.W.Frag} {F H : Hp} : ∀ {os : List O} {ρ : TEnv} {vs : List V} {σ : L2.St}, SR K (os.map some ++ ρ) (vs.map some ++ σ) F H → vs.length = os.length → RepOL K F H vs os ∧ SR K ρ σ F H
  | [], ρ, [], σ, s, _ => ⟨.nil, s⟩
  | o :: os, ρ, v :: vs, σ, s, l => by
    obtain ⟨r, s'⟩ := RepOL.split (os := os) (vs := vs) s.pop (by simpa using l)
    exact ⟨.cons s.top r, s'⟩
def wLst (wl : WLO) : WO := fun ρ P => wl ρ fun os ρ' => os.length ≤ sizeLine ∧ ∀ a, P (.lst a os) ρ'
theorem xo_lst (h : XAO X es wlo) : XO X (.List es pos) (wLst wlo) := ⟨PE.imp (pe_lst h.pa) fun σ H Q ⟨ρ, F, P, s, hw, k⟩ =>
  ⟨ρ, F, _, s, hw, fun os ρ1 F1 H1 vs p s1 l1 f1 => ⟨by rw [l1]; exact p.1, fun q hq => by
    obtain ⟨r, s2⟩ := RepOL.split s1 l1
    have fq : F1 q = none := s1.sub.free hq
    have nq : q ∉ ownedE (os.map some ++ ρ1) := fun z => by
      obtain ⟨u, e⟩ := s1.thereE q z
      rw [hq] at e; cases e
    have own := s1.own
    have nd := s1.nd
    rw [ownedE_os] at nq own nd
    have st : ∀ b u, H1 b = some u → upd H1 q (.lst vs) b = some u := fun b u e => by
      rw [upd_ne (ne_of_none e hq)]; exact e
    have r' : RepOL X.K F1 (upd H1 q (.lst vs)) vs os := r.mono (fun _ _ h => h) fun b _ u e => st b u e
    have g : Grow F1 H1 F1 (upd H1 q (.lst vs)) := ⟨fun _ _ h => h, fun b u _ _ hf e => ⟨st b u e, hf⟩, fun _ h => (nomatch h), fun b u e => ⟨u, st b u e⟩, fun b u w e => st b _ e⟩
    have sb : Sb F1 (upd H1 q (.lst vs)) := fun b u h => by
      rw [upd_ne (ne_of_none h fq)]; exact s1.sub b u h
    have s3 := s2.grow g sb
    refine k (.lst q os) ρ1 F1 _ _ (p.2 q) (s3.push (.lst upd_same p.1 r') ?_ ?_) ?_
    · intro a ha
      rcases List.mem_cons.mp ha with e | ha
      · subst e; exact fq
      · exact own a (List.mem_append_left _ ha)
    · exact List.nodup_cons.mpr ⟨nq, nd⟩
    · refine f1.trans ⟨g.fz, fun b u _ ht hf e => g.out b u (by simp) ht hf e, fun b hb => ?_, g.dom, g.lk⟩
      rw [ownedE_os]
      rcases List.mem_append.mp hb with h | h
      · rcases List.mem_cons.mp h with e | h
        · subst e; exact .inr hq
        · exact .inl (List.mem_append_left _ h)
      · exact .inl (List.mem_append_right _ h)⟩⟩⟩
end

/-! ### indices, slices -/
def wIx (wa wb : WD) : WD := fun ρ P => wa ρ fun d ρ1 => wb ρ1 fun e ρ2 => semIx d e fun u => P u ρ2
/-- of a name's list, which is held -/
def wIxL (i : Nat) (wb : WD) : WD := fun ρ P => match nth ρ i with
  | some _ => wb ρ fun e ρ2 => match nth ρ2 i with
    | some (.fz d) => semIx d e fun u => P u ρ2
    | some (.lst _ os) => ∃ k u, e = .int k ∧ atI os k = some (.fz u) ∧ P u ρ2
    | _ => False
  | none => False
abbrev WP := TEnv → (Option Int → TEnv → Prop) → Prop
def liftP (K : PySem.W.Frag) (w : WP) : TO := fun σ H Q => ∃ ρ F P, SR K ρ σ F H ∧ w ρ P ∧
  ∀ b ρ' F' H', P b ρ' → SR K ρ' σ F' H' → Frm (ownedE ρ) F H (ownedE ρ') F' H' → Q b H'
structure XP (X : Cx) (e : Option Expr) (w : WP) : Prop where
  po : PO X e (liftP X.K w)
def wNoP : WP := fun ρ P => P none ρ
def wSoP (w : WD) : WP := fun ρ P => w ρ fun d ρ' => match d with
  | .int i => P (some i) ρ'
  | _ => False
def wSl (wa : WD) (wl wh : WP) : WO := fun ρ P => wa ρ fun d ρ1 => wl ρ1 fun lo ρ2 => wh ρ2 fun hi ρ3 => semSl d lo hi fun o => P o ρ3
theorem PO.imp {X : Cx} {e : Option Expr} {t t' : TO} (h : PO X e t) (i : ∀ σ H Q, t' σ H Q → t σ H Q) : PO X e t' := ⟨fun pins s σ H Q I hw => h.run pins s σ H Q I (i _ _ _ hw)⟩
section
variable {X : Cx} {a b e : Expr} {wa wb w : WD} {pos p2 : Pos} {lo hi : Option Expr} {wl wh : WP}
theorem RepOL.atI {K : PySem.W.Frag} {F H : Hp} {xs : List V} {ds : List O} {i : Int} {u : O} (r : RepOL K F H xs ds) (h : L2.atI ds i = some u) : ∃ v, L2.atI xs i = some v ∧ RepO K F H v u := by
  unfold L2.atI at h ⊢
  rw [r.length]
  cases q : ixN ds.length i with
  | none => rw [q] at h; cases h
  | some j =>
    rw [q] at h
    exact r.get h
theorem sem_ix {K : PySem.W.Frag} {F H : Hp} {x y : V} {d e : D} {P : D → Prop} {Q : VK} (sb : Sb F H) (rx : Rep K F x d) (ry : Rep K F y e) (hs : semIx d e P) (k : ∀ u v, P u → Rep K F v u → Q v H) : rIx K x y H Q := by
  unfold semIx at hs
  split at hs
  · obtain ⟨u, h, p⟩ := hs
    cases ry
    cases rx with
    | tup h1 z r =>
      obtain ⟨v, hv, rv⟩ := r.atI h
      exact .inr (.inl ⟨_, _, _, v, rfl, rfl, sb.sqT h1, hv, k _ _ p rv⟩)
  · obtain ⟨u, h, p⟩ := hs
    cases ry
    cases rx with
    | lst h1 z r =>
      obtain ⟨v, hv, rv⟩ := r.atI h
      exact .inl ⟨_, _, _, v, rfl, rfl, .inl (.inl (sb.lst h1)), hv, k _ _ p rv⟩
  · obtain ⟨u, h, p⟩ := hs
    cases ry
    cases rx with
    | frl h1 z r =>
      obtain ⟨v, hv, rv⟩ := r.atI h
      exact .inl ⟨_, _, _, v, rfl, rfl, sb.sqL h1, hv, k _ _ p rv⟩
  · obtain ⟨c, h, p⟩ := hs
    cases ry
    cases rx with
    | str _ z => exact .inr (.inr ⟨_, _, c, rfl, rfl, z, h, k _ _ p (.str _ (by show 1 ≤ sizeLine; decide))⟩)
  · exact hs.elim
theorem xe_ix (ha : XE X a wa) (hb : XE X b wb) (hs : PlainIx b := by exact fun _ _ => rfl) : XE X (.Subscript a b pos) (wIx wa wb) := ⟨PE.imp (pe_ix ix_seq ha.pe hb.pe hs) fun σ H Q ⟨ρ, F, P, s, hw, k⟩ =>
  ⟨ρ, F, _, s, hw, fun d ρ1 F1 H1 v p s1 r1 f1 => ⟨ρ1, F1, _, s1, p, fun e ρ2 F2 H2 u p2 s2 r2 f2 => sem_ix s2.sub (r1.mono f2.fz) r2 p2 fun u' v' p3 r3 => k _ _ _ _ _ p3 s2 r3 (f1.trans f2)⟩⟩⟩
theorem xe_ixL {i : Nat} (ha : PE X a (tVar i)) (hb : XE X b wb) (hs : PlainIx b := by exact fun _ _ => rfl) : XE X (.Subscript a b pos) (wIxL i wb) := ⟨PE.imp (pe_ix ix_seq ha hb.pe hs) fun σ H Q ⟨ρ, F, P, s, hw, k⟩ => by
  unfold wIxL at hw
  cases hn0 : nth ρ i with
  | none => rw [hn0] at hw; exact hw.elim
  | some o0 =>
  rw [hn0] at hw
  obtain ⟨x, hx, _⟩ := s.slot i o0 (nth_eq hn0)
  refine ⟨x, hx, ρ, F, _, s, hw, fun e ρ2 F2 H2 u p2 s2 r2 f2 => ?_⟩
  cases hn : nth ρ2 i with
  | none => rw [hn] at p2; exact p2.elim
  | some o =>
    rw [hn] at p2
    obtain ⟨v, hv, ro⟩ := s2.slot i o (nth_eq hn)
    rw [hx] at hv
    cases hv
    cases o with
    | fz d =>
      cases ro with
      | fz r => exact sem_ix s2.sub r r2 p2 fun u' v' p3 r3 => k _ _ _ _ _ p3 s2 r3 f2
    | lst a os =>
      obtain ⟨n, u', e1, e2, p3⟩ := p2
      subst e1
      cases r2
      cases ro with
      | lst h z r =>
        obtain ⟨w, hw', rw'⟩ := r.atI e2
        cases rw' with
        | fz rw' => exact .inl ⟨_, _, _, w, rfl, rfl, .inl (.inl h), hw', k _ _ _ _ _ p3 s2 rw' f2⟩
    | dct a os => exact p2.elim
    | dcT a os => exact p2.elim
    | ins a b c os => exact p2.elim⟩
theorem xp_none : XP X none wNoP := ⟨PO.imp po_none fun σ H Q ⟨ρ, F, P, s, hw, k⟩ => k _ _ _ _ hw s .refl⟩
theorem xp_some (h : XE X e w) : XP X (some e) (wSoP w) := ⟨PO.imp (po_some h.pe) fun σ H Q ⟨ρ, F, P, s, hw, k⟩ =>
  ⟨ρ, F, _, s, hw, fun d ρ1 F1 H1 v p s1 r1 f1 => by
    cases d <;> first
      | exact p.elim
      | skip
    cases r1
    exact ⟨_, rfl, k _ _ _ _ p s1 f1⟩⟩⟩
theorem xo_sl (ha : XE X a wa) (hl : XP X lo wl) (hh : XP X hi wh) : XO X (.Subscript a (.Slice lo hi none p2) pos) (wSl wa wl wh) := ⟨PE.imp (pe_slice sl_T ha.pe hl.po hh.po) fun σ H Q ⟨ρ, F, P, s, hw, k⟩ =>
  ⟨ρ, F, _, s, hw, fun d ρ1 F1 H1 v p s1 r1 f1 => ⟨ρ1, F1, _, s1, p, fun l ρ2 F2 H2 p2 s2 f2 => ⟨ρ2, F2, _, s2, p2, fun h ρ3 F3 H3 p3 s3 f3 =>
    sem_sl s3.sub ((r1.mono f2.fz).mono f3.fz) p3 fun o v' F4 H4 p4 res => by
      obtain ⟨s4, f4⟩ := res _ _ s3
      exact k _ _ _ _ _ p4 s4 (((f1.trans f2).trans f3).trans f4)⟩⟩⟩⟩
end
end Tr
/-! The tree layer: calls, statements. -/
namespace Tr
open PySem PySem.Spec PyProof.Rows L2

/-! ### calls of built-in functions -/
def SemO1 (K : PySem.W.Frag) (r : List V → Hp → VK → Prop) (sem : D → (O → Prop) → Prop) : Prop :=
  ∀ (F H : Hp) (x : V) (d : D) (P : O → Prop) (Q : VK), Sb F H → Rep K F x d → sem d P → (∀ o v F' H', P o → Res K F H o v F' H' → Q v H') → r [x] H Q
def wC1 (sem : D → (D → Prop) → Prop) (w : WD) : WD := fun ρ P => w ρ fun d ρ' => sem d fun u => P u ρ'
def wO1 (sem : D → (O → Prop) → Prop) (w : WD) : WO := fun ρ P => w ρ fun d ρ' => sem d fun u => P u ρ'
/-- the built-in classes that isinstance is asked of -/
inductive PT where
  | int
  | bl
  | str
  | tup
  | lst
  | dct
def PT.nm : PT → String
  | .int => "int"
  | .bl => "bool"
  | .str => "str"
  | .tup => "tuple"
  | .lst => "list"
  | .dct => "dict"
def D.is (t : PT) (d : D) : Option Bool := match d with
  | .non => some false
  | .bl _ => some (match t with
    | .bl => true
    | .int => true
    | _ => false)
  | .int _ => some (match t with
    | .int => true
    | _ => false)
  | .str _ => some (match t with
    | .str => true
    | _ => false)
  | .tup _ => some (match t with
    | .tup => true
    | _ => false)
  | .lst _ => some (match t with
    | .lst => true
    | _ => false)
  | .dct _ => some (match t with
    | .dct => true
    | _ => false)
  | _ => none
theorem is_isA {t : PT} {d : D} {b : Bool} (h : d.is t = some b) : d.isA t.nm = some b := by
  cases d <;> first
    | (cases h; done)
    | (cases h; cases t <;> rfl)
def wIsi (t : PT) (w : WD) : WD := fun ρ P => w ρ fun d ρ' => match d.is t with
  | some b => P (.bl b) ρ'
  | none => False
section
variable {X : Cx} {x : Str} {p pos pn : Pos} {e e2 : Expr} {id T : String} {r : List V → Hp → VK → Prop} {sem : D → (D → Prop) → Prop} {semo : D → (O → Prop) → Prop} {w w2 : WD}
theorem t_c1 (hs : SemC1 X.K r sem) {σ : L2.St} {H : Hp} {Q : VK} (h : liftD X.K (wC1 sem w) σ H Q) : tCB r (tCons (liftB X.K w) tNil) σ H Q := by
  obtain ⟨ρ, F, P, s, hw, k⟩ := h
  exact ⟨ρ, F, _, s, hw, fun d ρ' F' F'' H' v p s' sb su r f => hs F'' H' _ d _ Q sb r p fun u v' p' rr => k _ _ _ _ _ p' s' (rr _) f⟩
theorem t_o1 (hs : SemO1 X.K r semo) {σ : L2.St} {H : Hp} {Q : VK} (h : liftO X.K (wO1 semo w) σ H Q) : tCB r (tCons (liftD X.K w) tNil) σ H Q := by
  obtain ⟨ρ, F, P, s, hw, k⟩ := h
  exact ⟨ρ, F, _, s, hw, fun d ρ' F' H' v p s' r f => hs F' H' _ d _ Q s'.sub r p fun o v' F2 H2 p' res => by
    obtain ⟨s2, f2⟩ := res _ _ s'
    exact k _ _ _ _ _ p' s2 (f.trans f2)⟩
theorem xe_callB (hc : CallR X (.builtin id) r) (hs : SemC1 X.K r sem) (hg : Gl X x) (hm : X.mg x = none) (hv : bootBuiltins x = some (.builtin id)) (ha : XB X e w) (hn : x ≠ "__name__" := by decide) (hdb : (x == ("__debug__" : Str)) = false := by decide)
    (he : starEach [e] X.env = (false, eval e X.env) :: starEach [] X.env := by rfl) (hpl : (backTo pos (starEach [] X.env)).any (·.1) = false := by rfl) : XE X (.Call (.Name x p) [e] [] pos) (wC1 sem w) :=
  ⟨PE.imp (pe_callB hc hg hm hv (pa_cons ha.pe pa_nil he) hn hdb he hpl) fun _ _ _ h => t_c1 hs h⟩
theorem xe_callTy (hc : CallR X (.type T) r) (hs : SemC1 X.K r sem) (hg : Gl X x) (hm : X.mg x = none) (hv : bootBuiltins x = some (.type T)) (ha : XB X e w) (hn : x ≠ "__name__" := by decide) (hdb : (x == ("__debug__" : Str)) = false := by decide)
    (he : starEach [e] X.env = (false, eval e X.env) :: starEach [] X.env := by rfl) (hpl : (backTo pos (starEach [] X.env)).any (·.1) = false := by rfl) : XE X (.Call (.Name x p) [e] [] pos) (wC1 sem w) :=
  ⟨PE.imp (pe_callTy hc hg hm hv (pa_cons ha.pe pa_nil he) hn hdb he hpl) fun _ _ _ h => t_c1 hs h⟩
theorem xo_callTy (hc : CallR X (.type T) r) (hs : SemO1 X.K r semo) (hg : Gl X x) (hm : X.mg x = none) (hv : bootBuiltins x = some (.type T)) (ha : XE X e w) (hn : x ≠ "__name__" := by decide) (hdb : (x == ("__debug__" : Str)) = false := by decide)
    (he : starEach [e] X.env = (false, eval e X.env) :: starEach [] X.env := by rfl) (hpl : (backTo pos (starEach [] X.env)).any (·.1) = false := by rfl) : XO X (.Call (.Name x p) [e] [] pos) (wO1 semo w) :=
  ⟨PE.imp (pe_callTy hc hg hm hv (pa_cons ha.pe pa_nil he) hn hdb he hpl) fun _ _ _ h => t_o1 hs h⟩
theorem xo_callB (hc : CallR X (.builtin id) r) (hs : SemO1 X.K r semo) (hg : Gl X x) (hm : X.mg x = none) (hv : bootBuiltins x = some (.builtin id)) (ha : XE X e w) (hn : x ≠ "__name__" := by decide) (hdb : (x == ("__debug__" : Str)) = false := by decide)
    (he : starEach [e] X.env = (false, eval e X.env) :: starEach [] X.env := by rfl) (hpl : (backTo pos (starEach [] X.env)).any (·.1) = false := by rfl) : XO X (.Call (.Name x p) [e] [] pos) (wO1 semo w) :=
  ⟨PE.imp (pe_callB hc hg hm hv (pa_cons ha.pe pa_nil he) hn hdb he hpl) fun _ _ _ h => t_o1 hs h⟩
/-- two operands, an answer that is no object -/
def SemC2 (K : PySem.W.Frag) (r : List V → Hp → VK → Prop) (sem : D → D → (D → Prop) → Prop) : Prop :=
  ∀ (F H : Hp) (x y : V) (d e : D) (P : D → Prop) (Q : VK), Sb F H → Rep K F x d → Rep K F y e → sem d e P → (∀ u v, P u → (∀ G, Rep K G v u) → Q v H) → r [x, y] H Q
theorem xe_callB2 {sem2 : D → D → (D → Prop) → Prop} (hc : CallR X (.builtin id) r) (hs : SemC2 X.K r sem2) (hg : Gl X x) (hm : X.mg x = none) (hv : bootBuiltins x = some (.builtin id)) (ha : XE X e w) (hb : XE X e2 w2) (hn : x ≠ "__name__" := by decide) (hdb : (x == ("__debug__" : Str)) = false := by decide)
    (he : starEach [e, e2] X.env = (false, eval e X.env) :: starEach [e2] X.env := by rfl) (he2 : starEach [e2] X.env = (false, eval e2 X.env) :: starEach [] X.env := by rfl) (hpl : (backTo pos (starEach [e2] X.env)).any (·.1) = false := by rfl) :
    XE X (.Call (.Name x p) [e, e2] [] pos) (wCmp sem2 w w2) :=
  ⟨PE.imp (pe_callB hc hg hm hv (pa_cons ha.pe (pa_cons hb.pe pa_nil he2) he) hn hdb he hpl) fun σ H Q ⟨ρ, F, P, s, hw, k⟩ =>
    ⟨ρ, F, _, s, hw, fun d ρ1 F1 H1 v p s1 r1 f1 => ⟨ρ1, F1, _, s1, p, fun e ρ2 F2 H2 u p2 s2 r2 f2 =>
      hs F2 H2 _ _ d e _ Q s2.sub (r1.mono f2.fz) r2 p2 fun u' v' p3 rr => k _ _ _ _ _ p3 s2 (rr _) (f1.trans f2)⟩⟩⟩
theorem sem_max2 : SemC2 X.K (fun xs H Q => ∃ i j, xs = [.int i, .int j] ∧ Q (.int (if j > i then j else i)) H) semMax2 := by
  intro F H x y d e P Q sb rx ry hs k
  unfold semMax2 at hs
  split at hs
  · cases rx; cases ry; exact ⟨_, _, rfl, k _ _ hs fun _ => .int _⟩
  · exact hs.elim
theorem sem_min2 : SemC2 X.K (fun xs H Q => ∃ i j, xs = [.int i, .int j] ∧ Q (.int (if j < i then j else i)) H) semMin2 := by
  intro F H x y d e P Q sb rx ry hs k
  unfold semMin2 at hs
  split at hs
  · cases rx; cases ry; exact ⟨_, _, rfl, k _ _ hs fun _ => .int _⟩
  · exact hs.elim
/-- isinstance(e, T), T a built-in class -/
theorem xe_isi {t : PT} (hg : Gl X "isinstance") (hm : X.mg "isinstance" = none) (hgT : Gl X x) (hmT : X.mg x = none) (hvT : bootBuiltins x = some (.type t.nm)) (ha : XB X e w) (hn : x ≠ "__name__" := by decide) (hdb : (x == ("__debug__" : Str)) = false := by decide)
    (he : starEach [e, .Name x pn] X.env = (false, eval e X.env) :: starEach [.Name x pn] X.env := by rfl) (he2 : starEach [.Name x pn] X.env = (false, eval (.Name x pn) X.env) :: starEach [] X.env := by rfl) (hpl : (backTo pos (starEach [.Name x pn] X.env)).any (·.1) = false := by rfl) :
    XE X (.Call (.Name "isinstance" p) [e, .Name x pn] [] pos) (wIsi t w) := by
  have hN : PE X (.Name x pn) (tC (.ty t.nm)) := pe_bltn hgT hmT hvT rfl hn hdb
  refine ⟨PE.imp (pe_callB call_isi hg hm boot_isinstance (pa_cons ha.pe (pa_cons hN pa_nil he2) he) (by decide) (by decide) he hpl) fun σ H Q ⟨ρ, F, P, s, hw, k⟩ => ?_⟩
  refine ⟨ρ, F, _, s, hw, fun d ρ' F' F'' H' v p s' sb su r f => ?_⟩
  cases hd : d.is t with
  | none => rw [hd] at p; exact p.elim
  | some b =>
    rw [hd] at p
    obtain ⟨tt, ty, kt⟩ := isi_ok sb r (is_isA hd)
    exact ⟨v, .ty t.nm, tt, .type t.nm, b, rfl, .ty t.nm, ty, kt, k _ _ _ _ _ p s' (.bl b) f⟩
def semTuple (d : D) (P : O → Prop) : Prop := match d.items with
  | some ds => P (.fz (.tup ds))
  | none => False
theorem sem_tuple : SemO1 X.K (fun xs H Q => ∃ p ys, xs = [.ref p] ∧ ((SqL X.K H p ys ∧ ∀ l, H l = none → Q (.ref l) (upd H l (.tup ys))) ∨ (SqT X.K H p ys ∧ Q (.ref p) H))) semTuple := by
  intro F H x d P Q sb rx hs k
  unfold semTuple at hs
  cases rx <;> first
    | (exact hs.elim)
    | skip
  · rename_i h1 z r; exact ⟨_, _, rfl, .inr ⟨sb.sqT h1, k _ _ _ _ hs (.fz (.tup h1 z r))⟩⟩
  · rename_i h1 z r; exact ⟨_, _, rfl, .inl ⟨.inl (.inl (sb.lst h1)), fun l hl => k _ _ _ _ hs (.tup sb hl z r)⟩⟩
  · rename_i h1 z r; exact ⟨_, _, rfl, .inl ⟨sb.sqL h1, fun l hl => k _ _ _ _ hs (.tup sb hl z r)⟩⟩
def semList (d : D) (P : O → Prop) : Prop := match d.items with
  | some ds => ∀ a, P (.lst a (ds.map .fz))
  | none => False
theorem sem_list : SemO1 X.K (fun xs H Q => ∃ p ys, xs = [.ref p] ∧ (SqL X.K H p ys ∨ SqT X.K H p ys) ∧ ∀ l, H l = none → Q (.ref l) (upd H l (.lst ys))) semList := by
  intro F H x d P Q sb rx hs k
  unfold semList at hs
  cases hi : d.items with
  | none => rw [hi] at hs; exact hs.elim
  | some ds =>
    rw [hi] at hs
    obtain ⟨p, xs, rfl, hq, r, z⟩ := rx.seq sb hi
    exact ⟨p, xs, rfl, hq, fun l hl => k _ _ _ _ (hs l) (.lst hl z r)⟩
end

/-- {} -/
def wDct0 : WO := fun ρ P => ∀ a, P (.dct a []) ρ
theorem xo_dct0 {X : Cx} {pos : Pos} : XO X (.Dict [] [] pos) wDct0 := ⟨PE.imp pe_dnewK fun σ H Q ⟨ρ, F, P, s, hw, k⟩ q hq => by
  obtain ⟨s2, f2⟩ := s.newO (u := .dK []) (o := .dct q []) hq (.dct upd_same (Nat.zero_le _) .nil) rfl
  exact k _ _ _ _ _ (hw q) s2 f2⟩
/-! ### calls of the text's defs -/
/-- what a def does to things: its arguments, its answer and what the arguments are behind it -/
abbrev SpT := List O → (O → List O → Prop) → Prop
def liftSp (K : PySem.W.Frag) (sp : SpT) : Sp := fun vs H Q _ => ∃ os F P, SR K (os.map some) (vs.map some) F H ∧ sp os P ∧
  ∀ o os' F' H' v, P o os' → SR K (some o :: os'.map some) (some v :: vs.map some) F' H' → Frm (ownedE (os.map some)) F H (ownedE (some o :: os'.map some)) F' H' → Q v H'
section
variable {K : PySem.W.Frag} {ρ : TEnv} {σ : L2.St} {F H F' H' : Hp}
theorem ownedE_D : ∀ ds : List D, ownedE ((ds.map O.fz).map some) = []
  | [] => rfl
  | d :: ds => by
    show ([] : List Addr) ++ ownedE ((ds.map O.fz).map some) = []
    rw [ownedE_D ds]
    rfl
theorem SR.args (s : SR K ρ σ F H) : ∀ {vs : List V} {ds : List D}, RepL K F vs ds → SR K ((ds.map O.fz).map some) (vs.map some) F H
  | _, _, .nil => ⟨s.sub, rfl, fun _ _ e => (by cases e), fun _ h => (by cases h), List.nodup_nil⟩
  | _, _, .cons h r => (SR.args s r).pushD h
/-- what stands outside stays -/
theorem SR.out {L L' : List Addr} (s : SR K ρ σ F H) (f : Frm L F H L' F' H') (sb : Sb F' H') (d : ∀ a ∈ ownedE ρ, a ∉ L) : SR K ρ σ F' H' ∧ ∀ a ∈ ownedE ρ, a ∉ L' := by
  have key : ∀ a ∈ ownedE ρ, ∀ u, H a = some u → H' a = some u ∧ F' a = none := fun a ha u e => f.out a u (d a ha) (s.ntE a ha u e) (s.own a ha) e
  refine ⟨⟨sb, s.len, fun i o e => ?_, fun a ha => ?_, s.nd⟩, fun a ha hL => ?_⟩
  · obtain ⟨v, hv, r⟩ := s.slot i o e
    exact ⟨v, hv, r.mono f.fz fun a ha u hu => (key a (mem_ownedE e a ha) u hu).1⟩
  · obtain ⟨u, e⟩ := s.thereE a ha
    exact (key a ha u e).2
  · obtain ⟨u, e⟩ := s.thereE a ha
    rcases f.new a hL with z | z
    · exact d a ha z
    · rw [e] at z; cases z
theorem SR.set {i : Nat} {o : O} {v : V} (s : SR K (some o :: ρ) (some v :: σ) F H) (hv : σ[i]? = some (some v)) : SR K (ρ.set i (some o)) σ F H ∧ ∀ b, b ∈ ownedE (ρ.set i (some o)) → b ∈ ownedE (some o :: ρ) := by
  obtain ⟨s1, m⟩ := s.store (i := i)
  rw [set_getElemV hv] at s1
  exact ⟨s1, m⟩
/-- a call with data alone -/
theorem liftSp_D {sp : SpT} {vs : List V} {ds : List D} {P : O → Prop} {Q : VK} {E : XK} (s : SR K ρ σ F H) (r : RepL K F vs ds) (h : sp (ds.map .fz) fun o _ => P o)
    (k : ∀ o F' H' v, P o → SR K (some o :: ρ) (some v :: σ) F' H' → Frm (ownedE ρ) F H (ownedE (some o :: ρ)) F' H' → Q v H') : liftSp K sp vs H Q E := by
  refine ⟨ds.map .fz, F, _, s.args r, h, fun o os' F' H' v p s' f => ?_⟩
  rw [ownedE_D] at f
  obtain ⟨s1, n1⟩ := s.out f s'.sub fun _ _ h => by cases h
  have nd := List.nodup_append.mp s'.nd
  refine k o F' H' v p (s1.push s'.top (fun a ha => s'.own a (List.mem_append_left _ ha)) ?_) ⟨f.fz, fun b u _ => f.out b u (by simp), fun b hb => ?_, f.dom, f.lk⟩
  · exact List.nodup_append.mpr ⟨nd.1, s1.nd, fun a ha b hb e => by
      subst e
      exact n1 a hb (List.mem_append_left _ ha)⟩
  · rcases List.mem_append.mp hb with h | h
    · rcases f.new b (List.mem_append_left _ h) with z | z
      · cases z
      · exact .inr z
    · exact .inl h
/-- a call that changes the thing at slot i -/
theorem liftSp_S {sp : SpT} {i : Nat} {o0 : O} {v0 : V} {vs : List V} {ds : List D} {P : O → TEnv → Prop} {Q : VK} {E : XK} (s : SR K ρ σ F H) (e0 : ρ[i]? = some (some o0)) (hv0 : σ[i]? = some (some v0)) (r : RepL K F vs ds)
    (h : sp (o0 :: ds.map .fz) fun o os' => ∃ o' r', os' = o' :: r' ∧ P o (ρ.set i (some o')))
    (k : ∀ o ρ' F' H' v, P o ρ' → SR K (some o :: ρ') (some v :: σ) F' H' → Frm (ownedE ρ) F H (ownedE (some o :: ρ')) F' H' → Q v H') : liftSp K sp (v0 :: vs) H Q E := by
  obtain ⟨v, hv, st, mt⟩ := s.take e0
  rw [hv0] at hv
  cases hv
  have ndt := List.nodup_append.mp st.nd
  have sa : SR K ((o0 :: ds.map O.fz).map some) ((v0 :: vs).map some) F H := by
    refine (s.args r).push st.top (fun a ha => st.own a (List.mem_append_left _ ha)) ?_
    rw [ownedE_D, List.append_nil]
    exact ndt.1
  have eA : ownedE ((o0 :: ds.map O.fz).map some) = o0.owned := by
    show o0.owned ++ ownedE ((ds.map O.fz).map some) = _
    rw [ownedE_D, List.append_nil]
  refine ⟨o0 :: ds.map .fz, F, _, sa, h, fun o os' F' H' v p s' f => ?_⟩
  rw [eA] at f
  obtain ⟨o', r', rfl, p⟩ := p
  obtain ⟨sB, nB⟩ := st.pop.out f s'.sub fun a ha hb => ndt.2.2 a hb a ha rfl
  -- s' : answer, the changed thing, the rest
  have nd := List.nodup_append.mp s'.nd
  have nd2 : o'.owned.Nodup ∧ (ownedE (r'.map some)).Nodup ∧ ∀ a ∈ o'.owned, ∀ b ∈ ownedE (r'.map some), a ≠ b := List.nodup_append.mp nd.2.1
  have s2 : SR K (some o' :: ρ.set i none) (some v0 :: σ) F' H' := sB.push s'.pop.top (fun a ha => s'.own a (List.mem_append_right _ (List.mem_append_left _ ha))) (List.nodup_append.mpr ⟨nd2.1, sB.nd, fun a ha b hb e => by
    subst e
    exact nB a hb (List.mem_append_right _ (List.mem_append_left _ ha))⟩)
  obtain ⟨s3, m3⟩ := s2.set (i := i) hv0
  rw [List.set_set] at s3 m3
  have s4 : SR K (some o :: ρ.set i (some o')) (some v :: σ) F' H' := s3.push s'.top (fun a ha => s'.own a (List.mem_append_left _ ha)) (List.nodup_append.mpr ⟨nd.1, s3.nd, fun a ha b hb e => by
    subst e
    rcases List.mem_append.mp (m3 a hb) with h | h
    · exact nd.2.2 a ha a (List.mem_append_left _ h) rfl
    · exact nB a h (List.mem_append_left _ ha)⟩)
  refine k o _ F' H' v p s4 ⟨f.fz, fun b u hb ht hf e => f.out b u (fun z => hb ((mt b).mpr (List.mem_append_left _ z))) ht hf e, fun b hb => ?_, f.dom, f.lk⟩
  rcases List.mem_append.mp hb with h | h
  · rcases f.new b (List.mem_append_left _ h) with z | z
    · exact .inl ((mt b).mpr (List.mem_append_left _ z))
    · exact .inr z
  · rcases List.mem_append.mp (m3 b h) with h | h
    · rcases f.new b (List.mem_append_right _ (List.mem_append_left _ h)) with z | z
      · exact .inl ((mt b).mpr (List.mem_append_left _ z))
      · exact .inr z
    · exact .inl ((mt b).mpr (List.mem_append_right _ h))
end
def wCall (sp : SpT) (wl : WL) : WO := fun ρ P => wl ρ fun ds ρ' => sp (ds.map .fz) fun o _ => P o ρ'
def wCallS (sp : SpT) (i : Nat) (wl : WL) : WO := fun ρ P => match nth ρ i with
  | some _ => wl ρ fun ds ρ' => match nth ρ' i with
    | some o => sp (o :: ds.map .fz) fun r os' => ∃ o' t, os' = o' :: t ∧ putC ρ' i (some o') (P r)
    | none => False
  | none => False
section
variable {X : Cx} {k : Nat} {f : Addr} {fd : FuncData} {ps : List Str} {sp : SpT} {x : Str} {p pos : Pos} {e : Expr} {es : List Expr} {wl : WL} {i : Nat}
theorem t_call {σ : L2.St} {H : Hp} {Q : VK} {E : XK} (h : liftO X.K (wCall sp wl) σ H Q) : tCall (liftSp X.K sp) [] E (liftA X.K wl) σ H Q := by
  obtain ⟨ρ, F, P, s, hw, k⟩ := h
  refine ⟨ρ, F, _, s, hw, fun ds ρ1 F1 H1 vs p s1 r1 f1 => ?_⟩
  show liftSp X.K sp (vs ++ []) H1 Q E
  rw [List.append_nil]
  exact liftSp_D (P := fun o => P o ρ1) s1 r1 p fun o F' H' v p' s' f' => k _ _ _ _ _ p' s' (f1.trans f')
theorem xo_call (G : FnOk X.prog X.w X.K X.mg X.base CX0 k f fd ps (liftSp X.K sp)) (hr : Room k X.A) (hg : Gl X x) (hm : X.mg x = some (.ref f)) (hk : PySem.W.keepIn X.K (.ref f) = true) (hb : Binds X.K fd ps [])
    (ha : XA X (e :: es) wl) (hdb : (x == ("__debug__" : Str)) = false := by decide) (he : starEach (e :: es) X.env = (false, eval e X.env) :: starEach es X.env := by rfl) (hpl : (backTo pos (starEach es X.env)).any (·.1) = false := by rfl) :
    XO X (.Call (.Name x p) (e :: es) [] pos) (wCall sp wl) := ⟨PE.imp (pe_call G hr hg hm hk hb .nil pass0 ha.pa hdb he hpl) fun _ _ _ h => t_call h⟩
theorem xo_call0 (G : FnOk X.prog X.w X.K X.mg X.base CX0 k f fd ps (liftSp X.K sp)) (hr : Room k X.A) (hg : Gl X x) (hm : X.mg x = some (.ref f)) (hk : PySem.W.keepIn X.K (.ref f) = true) (hb : Binds X.K fd ps [])
    (hdb : (x == ("__debug__" : Str)) = false := by decide) : XO X (.Call (.Name x p) [] [] pos) (wCall sp wNil) := ⟨PE.imp (pe_call0 G hr hg hm hk hb .nil pass0 hdb) fun σ H Q h => by
  obtain ⟨ρ, F, P, s, hw, k⟩ := h
  show liftSp X.K sp ([] ++ []) H Q E0
  exact liftSp_D (P := fun o => P o ρ) s .nil hw fun o F' H' v p' s' f' => k _ _ _ _ _ p' s' f'⟩
theorem t_callS {σ : L2.St} {H : Hp} {Q : VK} {E : XK} (h : liftO X.K (wCallS sp i wl) σ H Q) : tCall (liftSp X.K sp) [] E (tCons (tVar i) (liftA X.K wl)) σ H Q := by
  obtain ⟨ρ, F, P, s, hw, k⟩ := h
  unfold wCallS at hw
  cases hn0 : nth ρ i with
  | none => rw [hn0] at hw; exact hw.elim
  | some o0 =>
  rw [hn0] at hw
  obtain ⟨v0, hv0, _⟩ := s.slot i o0 (nth_eq hn0)
  refine ⟨v0, hv0, ρ, F, _, s, hw, fun ds ρ1 F1 H1 vs p s1 r1 f1 => ?_⟩
  show liftSp X.K sp (v0 :: vs ++ []) H1 Q E
  rw [List.append_nil]
  cases hn : nth ρ1 i with
  | none => rw [hn] at p; exact p.elim
  | some o1 =>
  rw [hn] at p
  refine liftSp_S (P := P) s1 (nth_eq hn) hv0 r1 ?_ fun o ρ' F' H' v p' s' f' => k _ _ _ _ _ p' s' (f1.trans f')
  have e : ∀ o' r, putC ρ1 i (some o') (P r) = P r (ρ1.set i (some o')) := fun o' r => putC_eq _ _ _ _
  simp only [e] at p
  exact p
/-- f(s, ..), the def changes what stands at s -/
theorem xo_callS (G : FnOk X.prog X.w X.K X.mg X.base CX0 k f fd ps (liftSp X.K sp)) (hr : Room k X.A) (hg : Gl X x) (hm : X.mg x = some (.ref f)) (hk : PySem.W.keepIn X.K (.ref f) = true) (hb : Binds X.K fd ps [])
    (h0 : PE X e (tVar i)) (ha : XA X es wl) (hdb : (x == ("__debug__" : Str)) = false := by decide) (he : starEach (e :: es) X.env = (false, eval e X.env) :: starEach es X.env := by rfl) (hpl : (backTo pos (starEach es X.env)).any (·.1) = false := by rfl) :
    XO X (.Call (.Name x p) (e :: es) [] pos) (wCallS sp i wl) := ⟨PE.imp (pe_call G hr hg hm hk hb .nil pass0 (pa_cons h0 ha.pa he) hdb he hpl) fun _ _ _ h => t_callS h⟩
end

/-! ### keywords -/
def pickL {α : Type} (ix : List Nat) (l : List α) : List α := ix.filterMap fun i => l[i]?
/-- how a call with m values and keywords ks binds: the parameters are what stands at ix among the values and the keywords' values -/
structure KwB (K : PySem.W.Frag) (fd : FuncData) (ps ks : List Str) (m : Nat) (ix : List Nat) : Prop where
  to : ∀ (s : Shared) (us ws : List Value), K.In s.heap → us.length = m → ws.length = ks.length → BindsTo s fd ⟨us, ks.zip ws⟩ (ps.zip (pickL ix (us ++ ws)))
  len : ix.length = ps.length
  lt : ∀ i ∈ ix, i < m + ks.length
theorem pick_len {α : Type} {l : List α} : ∀ {ix : List Nat}, (∀ i ∈ ix, i < l.length) → (pickL ix l).length = ix.length
  | [], _ => rfl
  | i :: ix, h => by
    have h1 := h i List.mem_cons_self
    unfold pickL
    rw [List.filterMap_cons, List.getElem?_eq_getElem h1]
    show (pickL ix l).length + 1 = _
    rw [pick_len fun j hj => h j (List.mem_cons_of_mem _ hj)]
    rfl
theorem pick_vals {l : List V} {us : List Value} (r : Vals l us) : ∀ ix : List Nat, Vals (pickL ix l) (pickL ix us)
  | [] => .nil
  | i :: ix => by
    unfold pickL
    rw [List.filterMap_cons, List.filterMap_cons]
    cases e : l[i]? with
    | none =>
      rw [r.none_of e]
      exact pick_vals r ix
    | some v =>
      obtain ⟨u, hu, rv⟩ := r.get e
      rw [hu]
      exact .cons rv (pick_vals r ix)
theorem pick_rep {K : PySem.W.Frag} {F : Hp} {l : List V} {ds : List D} (r : RepL K F l ds) : ∀ ix : List Nat, RepL K F (pickL ix l) (pickL ix ds)
  | [] => .nil
  | i :: ix => by
    unfold pickL
    rw [List.filterMap_cons, List.filterMap_cons]
    cases e : ds[i]? with
    | none =>
      have e' : l[i]? = none := List.getElem?_eq_none_iff.mpr (by rw [r.length]; exact List.getElem?_eq_none_iff.mp e)
      rw [e']
      exact pick_rep r ix
    | some d =>
      obtain ⟨u, hu, rv⟩ := r.get e
      rw [hu]
      exact .cons rv (pick_rep r ix)
structure XKw (X : Cx) (kws : List Keyword) (w : WL) : Prop where
  pk : PK X kws (liftA X.K w)
theorem PK.imp {X : Cx} {e : List Keyword} {t t' : TA} (h : PK X e t) (i : ∀ σ H Q, t' σ H Q → t σ H Q) : PK X e t' := ⟨fun pos pins s σ H Q I hw => h.run pos pins s σ H Q I (i _ _ _ hw)⟩
def wCallK (sp : SpT) (m n : Nat) (ix : List Nat) (wl wk : WL) : WO := fun ρ P => wl ρ fun ds ρ1 => wk ρ1 fun es ρ2 => ds.length = m ∧ es.length = n ∧ sp ((pickL ix (ds ++ es)).map .fz) fun o _ => P o ρ2
section
variable {X : Cx} {k m : Nat} {f : Addr} {fd : FuncData} {ps ks : List Str} {ix : List Nat} {sp : SpT} {x : Str} {p pos kpos : Pos} {e : Expr} {es : List Expr} {kws : List Keyword} {w : WD} {wl wk : WL} {nm : Option Str}
theorem xk_nil : XKw X [] wNil := ⟨PK.imp pk_nil fun σ H Q ⟨ρ, F, P, s, hw, k⟩ => k _ _ _ _ _ hw s .nil .refl⟩
theorem xk_cons (h : XE X e w) (r : XKw X kws wk) : XKw X (⟨nm, e, kpos⟩ :: kws) (wCons w wk) := ⟨PK.imp (pk_cons h.pe r.pk) fun σ H Q ⟨ρ, F, P, s, hw, k⟩ =>
  ⟨ρ, F, _, s, hw, fun d ρ1 F1 H1 v p s1 r1 f1 => ⟨ρ1, F1, _, s1, p, fun ds ρ2 F2 H2 vs p2 s2 r2 f2 => k _ _ _ _ _ p2 s2 (.cons (r1.mono f2.fz) r2) (f1.trans f2)⟩⟩⟩
/-- the callee runs -/
theorem run_kw {E : XK} {pins : List (Addr × Obj)} {σ : L2.St} {H : Hp} {s : Shared} {Q : VK} {us ws : List Value} {vs zs : List V} {sp : Sp} (G : FnOk X.prog X.w X.K X.mg X.base CX0 k f fd ps sp) (hr : Room k X.A) (hb : KwB X.K fd ps ks m ix)
    (I : Inv X pins σ H s) (r : Vals vs us) (rz : Vals zs ws) (l1 : vs.length = m) (l2 : zs.length = ks.length) (h : sp (pickL ix (vs ++ zs)) H Q E) : wpAny (model X.prog X.w) X.A (call (.ref f) us (ks.zip ws)) (EP X pins σ Q) X.xe s := by
  have n1 : us.length = m := by rw [← r.length, l1]
  have n2 : ws.length = ks.length := by rw [← rz.length, l2]
  refine wpAny_call (codeAny_mono (G.run X.A X.stack s H ⟨us, ks.zip ws⟩ (pickL ix (us ++ ws)) (pickL ix (vs ++ zs)) Q E hr I.env0 (hb.to s us ws I.kIn n1 n2) (pick_vals (r.append rz) ix) h) fun res s' hq => ?_)
  cases res with
  | error er => exact False.elim hq
  | ok fl => cases fl with
    | ret u => exact I.after hq
    | _ => exact False.elim hq
theorem xo_callK (G : FnOk X.prog X.w X.K X.mg X.base CX0 k f fd ps (liftSp X.K sp)) (hr : Room k X.A) (hg : Gl X x) (hm : X.mg x = some (.ref f)) (hk : PySem.W.keepIn X.K (.ref f) = true) (hb : KwB X.K fd ps ks m ix)
    (ha : XA X (e :: es) wl) (hkw : XKw X kws wk) (hall : (backToKw pos (keywordEach kws X.env)).all (·.1.isSome) = true := by rfl) (hks : (backToKw pos (keywordEach kws X.env)).filterMap (·.1) = ks := by rfl)
    (hdb : (x == ("__debug__" : Str)) = false := by decide) (he : starEach (e :: es) X.env = (false, eval e X.env) :: starEach es X.env := by rfl)
    (hpl : ((backTo pos (starEach (e :: es) X.env)).any (·.1) || (backToKw pos (keywordEach kws X.env)).any (·.1.isNone)) = false := by rfl) :
    XO X (.Call (.Name x p) (e :: es) kws pos) (wCallK sp m ks.length ix wl wk) := by
  refine ⟨⟨fun pins s σ H Q I h => ?_⟩⟩
  obtain ⟨ρ, F, P, sr, hw, kk⟩ := h
  refine wpAny_Call_Name_kw (ld_glob I hg hm ?_ hdb)
  refine PySem.W.callWith_KW (h₀ := X.base) I.ok.mod.kin hk hall (thn (ha.pa.run pos pins s σ H _ I ⟨ρ, F, _, sr, hw, fun ds ρ1 F1 H1 vs p1 s1 r1 f1 => (show ∃ ds ρ1 F1, SR X.K ρ1 σ F1 H1 ∧ RepL X.K F1 vs ds ∧ Frm (ownedE ρ) F H (ownedE ρ1) F1 H1 ∧ wk ρ1 fun es ρ2 => ds.length = m ∧ es.length = ks.length ∧ sp ((pickL ix (ds ++ es)).map .fz) fun o _ => P o ρ2 from ⟨ds, ρ1, F1, s1, r1, f1, p1⟩)⟩) fun us s1 ⟨vs, H1, I1, r, ds, ρ1, F1, sr1, r1, f1, q⟩ => ?_) hpl he
  refine thn (hkw.pk.run pos pins s1 σ H1 _ I1 ⟨ρ1, F1, _, sr1, q, fun es ρ2 F2 H2 zs p2 s2 r2 f2 => (show ∃ es ρ2 F2, SR X.K ρ2 σ F2 H2 ∧ RepL X.K F2 zs es ∧ Frm (ownedE ρ1) F1 H1 (ownedE ρ2) F2 H2 ∧ (ds.length = m ∧ es.length = ks.length ∧ sp ((pickL ix (ds ++ es)).map .fz) fun o _ => P o ρ2) from ⟨es, ρ2, F2, s2, r2, f2, p2⟩)⟩) fun ws s2 ⟨zs, H2, I2, rz, es', ρ2, F2, sr2, r2, f2, l1, l2, q2⟩ => ⟨I2.kIn, ?_⟩
  rw [hks]
  refine run_kw (E := E0) G hr hb I2 r rz (by rw [r1.length, l1]) (by rw [r2.length, l2]) ?_
  exact liftSp_D (P := fun o => P o ρ2) sr2 (pick_rep ((r1.mono f2.fz).append r2) ix) q2 fun o F' H' v p' s' f' => kk _ _ _ _ _ p' s' ((f1.trans f2).trans f')
theorem xo_callK0 (G : FnOk X.prog X.w X.K X.mg X.base CX0 k f fd ps (liftSp X.K sp)) (hr : Room k X.A) (hg : Gl X x) (hm : X.mg x = some (.ref f)) (hk : PySem.W.keepIn X.K (.ref f) = true) (hb : KwB X.K fd ps ks 0 ix)
    (hkw : XKw X kws wk) (hall : (backToKw pos (keywordEach kws X.env)).all (·.1.isSome) = true := by rfl) (hks : (backToKw pos (keywordEach kws X.env)).filterMap (·.1) = ks := by rfl)
    (hdb : (x == ("__debug__" : Str)) = false := by decide)
    (hpl : ((backTo pos (starEach [] X.env)).any (·.1) || (backToKw pos (keywordEach kws X.env)).any (·.1.isNone)) = false := by rfl) :
    XO X (.Call (.Name x p) [] kws pos) (wCallK sp 0 ks.length ix wNil wk) := by
  refine ⟨⟨fun pins s σ H Q I h => ?_⟩⟩
  obtain ⟨ρ, F, P, sr, hw, kk⟩ := h
  refine wpAny_Call_Name_kw (ld_glob I hg hm ?_ hdb)
  refine PySem.W.callWith_KW0 (h₀ := X.base) I.ok.mod.kin hk hall ?_ hpl
  have hw : wk ρ fun es ρ2 => ([] : List D).length = 0 ∧ es.length = ks.length ∧ sp ((pickL ix ([] ++ es)).map .fz) fun o _ => P o ρ2 := hw
  refine thn (hkw.pk.run pos pins s σ H _ I ⟨ρ, F, _, sr, hw, fun es ρ2 F2 H2 zs p2 s2 r2 f2 => (show ∃ es ρ2 F2, SR X.K ρ2 σ F2 H2 ∧ RepL X.K F2 zs es ∧ Frm (ownedE ρ) F H (ownedE ρ2) F2 H2 ∧ (([] : List D).length = 0 ∧ es.length = ks.length ∧ sp ((pickL ix ([] ++ es)).map .fz) fun o _ => P o ρ2) from ⟨es, ρ2, F2, s2, r2, f2, p2⟩)⟩) fun ws s2 ⟨zs, H2, I2, rz, es', ρ2, F2, sr2, r2, f2, l1, l2, q2⟩ => ⟨I2.kIn, ?_⟩
  rw [hks]
  refine run_kw (us := []) (vs := []) (E := E0) G hr hb I2 .nil rz rfl (by rw [r2.length, l2]) ?_
  exact liftSp_D (P := fun o => P o ρ2) sr2 (pick_rep r2 ix) q2 fun o F' H' v p' s' f' => kk _ _ _ _ _ p' s' (f2.trans f')
end
end Tr
/-! The tree layer: statements, loops, comprehensions, defs. -/
namespace Tr
open PySem PySem.Spec PyProof.Rows L2

/-! ### statements -/
structure TEnds where
  nx : TEnv → Prop
  rt : O → TEnv → Prop
  bk : TEnv → Prop := fun _ => False
  ct : TEnv → Prop := fun _ => False
/-- another way on -/
def TEnds.on (E : TEnds) (f : TEnv → Prop) : TEnds := { E with nx := f }
/-- .. and the ways of a loop's body -/
def TEnds.lp (E : TEnds) (f : TEnv → Prop) : TEnds := { E with nx := f, ct := f, bk := E.nx }
abbrev WS := TEnv → TEnds → Prop
structure EOk (K : PySem.W.Frag) (ρ : TEnv) (F H : Hp) (E : TEnds) (Dn : Ends) : Prop where
  nx : ∀ ρ' σ' F' H', E.nx ρ' → SR K ρ' σ' F' H' → Frm (ownedE ρ) F H (ownedE ρ') F' H' → Dn.nx σ' H'
  rt : ∀ o ρ' σ' F' H' v, E.rt o ρ' → SR K (some o :: ρ') (some v :: σ') F' H' → Frm (ownedE ρ) F H (ownedE (some o :: ρ')) F' H' → Dn.rt v H'
  bk : ∀ ρ' σ' F' H', E.bk ρ' → SR K ρ' σ' F' H' → Frm (ownedE ρ) F H (ownedE ρ') F' H' → Dn.bk σ' H'
  ct : ∀ ρ' σ' F' H', E.ct ρ' → SR K ρ' σ' F' H' → Frm (ownedE ρ) F H (ownedE ρ') F' H' → Dn.ct σ' H'
theorem EOk.on {K : PySem.W.Frag} {ρ ρ1 : TEnv} {F H F1 H1 : Hp} {E : TEnds} {Dn : Ends} (k : EOk K ρ F H E Dn) (f : Frm (ownedE ρ) F H (ownedE ρ1) F1 H1) : EOk K ρ1 F1 H1 E Dn :=
  ⟨fun _ _ _ _ p s g => k.nx _ _ _ _ p s (f.trans g), fun _ _ _ _ _ _ p s g => k.rt _ _ _ _ _ _ p s (f.trans g), fun _ _ _ _ p s g => k.bk _ _ _ _ p s (f.trans g), fun _ _ _ _ p s g => k.ct _ _ _ _ p s (f.trans g)⟩
def liftS (K : PySem.W.Frag) (w : WS) : TS := fun Dn σ H => ∃ ρ F E, SR K ρ σ F H ∧ w ρ E ∧ EOk K ρ F H E Dn
structure XS (X : Cx) (st : Stmt) (w : WS) : Prop where
  ps : PS X st (liftS X.K w)
structure XSs (X : Cx) (st : List Stmt) (w : WS) : Prop where
  ps : PSs X st (liftS X.K w)
theorem PS.imp {X : Cx} {e : Stmt} {t t' : TS} (h : PS X e t) (i : ∀ D σ H, t' D σ H → t D σ H) : PS X e t' := ⟨fun pins s σ H D I hw => h.run pins s σ H D I (i _ _ _ hw)⟩
theorem PSs.imp {X : Cx} {e : List Stmt} {t t' : TS} (h : PSs X e t) (i : ∀ D σ H, t' D σ H → t D σ H) : PSs X e t' := ⟨fun pins s σ H D I hw => h.run pins s σ H D I (i _ _ _ hw)⟩
def wSkip : WS := fun ρ E => E.nx ρ
structure wSeq (w1 w2 : WS) (ρ : TEnv) (E : TEnds) : Prop where
  go : w1 ρ (E.on fun ρ' => w2 ρ' E)
/-- what holds between two statements -/
theorem seq_mid {w1 w2 : WS} {ρ : TEnv} {E : TEnds} (M : TEnv → Prop) (h1 : ∀ N : TEnv → Prop, (∀ ρ', M ρ' → N ρ') → w1 ρ (E.on N)) (h2 : ∀ ρ', M ρ' → w2 ρ' E) : wSeq w1 w2 ρ E := ⟨h1 _ h2⟩
def wSet (i : Nat) (w : WO) : WS := fun ρ E => w ρ fun o ρ' => putC ρ' i (some o) E.nx
def wIfS (wc : WT) (w1 w2 : WS) : WS := fun ρ E => wc ρ fun c ρ1 => br c (w1 ρ1 E) (w2 ρ1 E)
def wRet (w : WO) : WS := fun ρ E => w ρ fun o ρ' => E.rt o ρ'
/-- a name's thing is handed back -/
def wRetV (i : Nat) : WS := fun ρ E => match nth ρ i with
  | some o => putC ρ i none (E.rt o)
  | none => False
def wRetN : WS := fun ρ E => E.rt (.fz .non) ρ
def wDrop (w : WO) : WS := fun ρ E => w ρ fun _ ρ' => E.nx ρ'
def wBrk : WS := fun ρ E => E.bk ρ
def wCnt : WS := fun ρ E => E.ct ρ
/-- x += e of whole numbers -/
def wAug (g : Int → Int → Int) (i : Nat) (w : WD) : WS := fun ρ E => match nth ρ i with
  | some (.fz (.int a)) => w ρ fun d ρ' => match d with
    | .int b => putC ρ' i (some (.fz (.int (g a b)))) E.nx
    | _ => False
  | _ => False
/-- xs.append(e) -/
def wApp (i : Nat) (w : WO) : WS := fun ρ E => match nth ρ i with
  | some (.lst _ _) => w ρ fun o ρ' => match nth ρ' i with
    | some (.lst a os) => os.length < sizeLine ∧ putC ρ' i (some (.lst a (os ++ [o]))) E.nx
    | _ => False
  | _ => False
/-- xs[k] = e -/
def wSetIx (i : Nat) (wi : WD) (w : WO) : WS := fun ρ E => match nth ρ i with
  | some (.lst _ _) => w ρ fun o ρ1 => wi ρ1 fun d ρ2 => match nth ρ2 i with
    | some (.lst a os) => ∃ k j, d = .int k ∧ ixN os.length k = some j ∧ putC ρ2 i (some (.lst a (os.set j o))) E.nx
    | _ => False
  | _ => False
section
variable {X : Cx} {st : Stmt} {rest : List Stmt} {w w1 w2 : WS} {e : Expr} {wo : WO} {we wi : WD} {wt : WT} {pos : Pos} {i : Nat}
theorem xss_nil : XSs X [] wSkip := ⟨PSs.imp pss_nil fun D σ H ⟨ρ, F, E, s, hw, k⟩ => k.nx _ _ _ _ hw s .refl⟩
theorem xss_cons (h1 : XS X st w1) (h2 : XSs X rest w2) : XSs X (st :: rest) (wSeq w1 w2) := ⟨PSs.imp (pss_cons h1.ps h2.ps) fun D σ H ⟨ρ, F, E, s, hw, k⟩ =>
  ⟨ρ, F, _, s, hw.go, ⟨fun ρ' σ' F' H' p s' f => ⟨ρ', F', E, s', p, k.on f⟩, k.rt, k.bk, k.ct⟩⟩⟩
theorem xss_one (h1 : XS X st w) : XSs X [st] w := ⟨PSs.imp (pss_one h1.ps) fun _ _ _ h => h⟩
theorem xs_pass : XS X (.Pass pos) wSkip := ⟨PS.imp ps_pass fun D σ H ⟨ρ, F, E, s, hw, k⟩ => k.nx _ _ _ _ hw s .refl⟩
theorem xs_break : XS X (.Break pos) wBrk := ⟨PS.imp ps_break fun D σ H ⟨ρ, F, E, s, hw, k⟩ => k.bk _ _ _ _ hw s .refl⟩
theorem xs_cont : XS X (.Continue pos) wCnt := ⟨PS.imp ps_continue fun D σ H ⟨ρ, F, E, s, hw, k⟩ => k.ct _ _ _ _ hw s .refl⟩
theorem xs_doc {x j pos'} : XS X (.Expr (.Constant (.str x) j pos) pos') wSkip := ⟨PS.imp ps_doc fun D σ H ⟨ρ, F, E, s, hw, k⟩ => k.nx _ _ _ _ hw s .refl⟩
/-- x = e; i: x's slot -/
theorem xs_set {te : TE} (h : PS X st (tAsg te (gName i))) (l : ∀ σ H Q, liftO X.K wo σ H Q → te σ H Q) : XS X st (wSet i wo) := ⟨PS.imp h fun D σ H ⟨ρ, F, E, s, hw, k⟩ => by
  refine l _ _ _ ⟨ρ, F, _, s, hw, fun o ρ' F' H' v p s' f => ?_⟩
  obtain ⟨s2, m⟩ := s'.store (i := i)
  rw [putC_eq] at p
  exact k.nx _ _ _ _ p s2 (f.less m)⟩
theorem xs_if {c : Expr} {a b : List Stmt} (hc : XT X c wt) (ha : XSs X a w1) (hb : XSs X b w2) : XS X (.If c a b pos) (wIfS wt w1 w2) := ⟨PS.imp (ps_if hc.pt ha.ps hb.ps) fun D σ H ⟨ρ, F, E, s, hw, k⟩ =>
  ⟨ρ, F, _, s, hw, fun b ρ' F' H' p s' f => by
    cases b with
    | true =>
      have p : w1 ρ' E := by simpa [br] using p
      rw [if_pos rfl]
      exact ⟨ρ', F', E, s', p, k.on f⟩
    | false =>
      have p : w2 ρ' E := by simpa [br] using p
      rw [if_neg Bool.false_ne_true]
      exact ⟨ρ', F', E, s', p, k.on f⟩⟩⟩
theorem xs_ret (h : XO X e wo) : XS X (.Return (some e) pos) (wRet wo) := ⟨PS.imp (ps_ret h.pe) fun D σ H ⟨ρ, F, E, s, hw, k⟩ =>
  ⟨ρ, F, _, s, hw, fun o ρ' F' H' v p s' f => k.rt _ _ _ _ _ _ p s' f⟩⟩
theorem xs_retN : XS X (.Return none pos) wRetN := ⟨PS.imp ps_retN fun D σ H ⟨ρ, F, E, s, hw, k⟩ => k.rt _ _ _ _ _ _ hw (s.pushD .non) .refl⟩
theorem xs_retV (h : PE X e (tVar i)) : XS X (.Return (some e) pos) (wRetV i) := ⟨PS.imp (ps_ret h) fun D σ H ⟨ρ, F, E, s, hw, k⟩ => by
  unfold wRetV at hw
  cases hn : nth ρ i with
  | none => rw [hn] at hw; exact hw.elim
  | some o =>
    rw [hn] at hw
    obtain ⟨v, hv, s', m⟩ := s.take (nth_eq hn)
    have hw : putC ρ i none (E.rt o) := hw
    rw [putC_eq] at hw
    exact ⟨v, hv, k.rt _ _ _ _ _ _ hw s' (Frm.refl.less fun b hb => (m b).mpr hb)⟩⟩
theorem xs_drop (h : XO X e wo) (hs : swapsWith e none pos.line X.env = pure false := by rfl) : XS X (.Expr e pos) (wDrop wo) := ⟨PS.imp (ps_expr h.pe hs) fun D σ H ⟨ρ, F, E, s, hw, k⟩ =>
  ⟨ρ, F, _, s, hw, fun o ρ' F' H' v p s' f => k.nx _ _ _ _ p s'.pop (f.less fun b hb => List.mem_append_right _ hb)⟩⟩
theorem xs_aug {g : Int → Int → Int} {te : TE} (h : PS X st (tAug i te (ipI g))) (l : ∀ σ H Q, liftD X.K we σ H Q → te σ H Q) : XS X st (wAug g i we) := ⟨PS.imp h fun D σ H ⟨ρ, F, E, s, hw, k⟩ => by
  unfold wAug at hw
  cases hn : nth ρ i with
  | none => rw [hn] at hw; exact hw.elim
  | some o =>
    rw [hn] at hw
    cases o <;> first
      | (exact hw.elim)
      | skip
    rename_i d
    cases d <;> first
      | (exact hw.elim)
      | skip
    rename_i a
    obtain ⟨v, hv, r⟩ := s.slot i _ (nth_eq hn)
    cases r with
    | fz r =>
      cases r
      refine ⟨_, hv, l _ _ _ ⟨ρ, F, _, s, hw, fun d ρ' F' H' v p s' r f => ?_⟩⟩
      cases d <;> first
        | exact p.elim
        | skip
      rename_i b
      cases r
      refine ⟨a, b, rfl, rfl, ?_⟩
      obtain ⟨s2, m⟩ := (s'.pushD (.int (g a b))).store (i := i)
      have p : putC ρ' i (some (.fz (.int (g a b)))) E.nx := p
      rw [putC_eq] at p
      exact k.nx _ _ _ _ p s2 (f.less m)⟩

/-! ### a list that is held is changed -/
theorem SR.mutL {K : PySem.W.Frag} {ρ : TEnv} {σ : L2.St} {F H : Hp} {o : O} {y : V} {a : Addr} {os os' : List O} {xs' : List V} (s : SR K (some o :: some (.lst a os) :: ρ) (some y :: some (.ref a) :: σ) F H) (r : RepOL K F H xs' os') (z : os'.length ≤ sizeLine)
    (m : ∀ b ∈ O.ownedL os', b ∈ o.owned ++ O.ownedL os) (nd : (O.ownedL os').Nodup) :
    SR K (some (.lst a os') :: ρ) (some (.ref a) :: σ) F (upd H a (.lst xs')) ∧ Frm (ownedE (some o :: some (.lst a os) :: ρ)) F H (ownedE (some (.lst a os') :: ρ)) F (upd H a (.lst xs')) := by
  have n1 := List.nodup_append.mp s.nd
  have n2 := List.nodup_append.mp n1.2.1
  have ha : a ∈ slotOwned (some (O.lst a os)) := List.mem_cons_self
  have fa : F a = none := s.own a (List.mem_append_right _ (List.mem_append_left _ ha))
  have na : a ∉ O.ownedL os' := fun h => by
    rcases List.mem_append.mp (m a h) with q | q
    · exact n1.2.2 a q a (List.mem_append_left _ ha) rfl
    · exact (List.nodup_cons.mp n2.1).1 q
  have nr : a ∉ ownedE ρ := fun h => n2.2.2 a ha a h rfl
  have sb : Sb F (upd H a (.lst xs')) := fun b u h => by
    rw [upd_ne (fun e => by subst e; rw [fa] at h; cases h)]
    exact s.sub b u h
  have s0 := s.pop.pop
  have sρ : SR K ρ σ F (upd H a (.lst xs')) := ⟨sb, s0.len, fun i u e => by
    obtain ⟨v, hv, q⟩ := s0.slot i u e
    exact ⟨v, hv, q.mono (fun _ _ h => h) fun b hb w hw => by
      rw [upd_ne (fun e' => nr (by subst e'; exact mem_ownedE e b hb))]; exact hw⟩, s0.own, s0.nd⟩
  obtain ⟨xs, hxs⟩ : ∃ xs, H a = some (.lst xs) := by
    have q := s.pop.top
    cases q with
    | lst h _ _ => exact ⟨_, h⟩
  refine ⟨sρ.push (.lst upd_same z (r.mono (fun _ _ h => h) fun b hb w hw => by
      rw [upd_ne (fun e' => na (by subst e'; exact hb))]; exact hw)) (fun b hb => ?_) ?_, fun _ _ h => h, fun b u hb _ hf e => ?_, fun b hb => ?_, fun b u e => ?_, fun b u w e => by rw [upd_ne (fun q => by subst q; rw [hxs] at e; cases e)]; exact e⟩
  · rcases List.mem_cons.mp hb with e | hb
    · subst e; exact fa
    · rcases List.mem_append.mp (m b hb) with q | q
      · exact s.own b (List.mem_append_left _ q)
      · exact s.own b (List.mem_append_right _ (List.mem_append_left _ (List.mem_cons_of_mem _ q)))
  · refine List.nodup_append.mpr ⟨List.nodup_cons.mpr ⟨na, nd⟩, s0.nd, fun b hb c hc e => ?_⟩
    subst e
    rcases List.mem_cons.mp hb with e | hb
    · subst e; exact nr hc
    · rcases List.mem_append.mp (m b hb) with q | q
      · exact n1.2.2 b q b (List.mem_append_right _ hc) rfl
      · exact n2.2.2 b (List.mem_cons_of_mem _ q) b hc rfl
  · refine ⟨?_, hf⟩
    rw [upd_ne (fun e' => hb (by subst e'; exact List.mem_append_right _ (List.mem_append_left _ ha)))]; exact e
  · refine .inl ?_
    rcases List.mem_append.mp hb with h | h
    · have h : b ∈ a :: O.ownedL os' := h
      rcases List.mem_cons.mp h with e | h
      · subst e; exact List.mem_append_right _ (List.mem_append_left _ ha)
      · rcases List.mem_append.mp (m b h) with q | q
        · exact List.mem_append_left _ q
        · exact List.mem_append_right _ (List.mem_append_left _ (List.mem_cons_of_mem _ q))
    · exact List.mem_append_right _ (List.mem_append_right _ h)
  · by_cases q : b = a
    · subst q; exact ⟨_, upd_same⟩
    · exact ⟨u, by rw [upd_ne q]; exact e⟩
theorem SR.snoc {K : PySem.W.Frag} {ρ : TEnv} {σ : L2.St} {F H : Hp} {o : O} {y : V} {a : Addr} {os : List O} {xs : List V} (s : SR K (some o :: some (.lst a os) :: ρ) (some y :: some (.ref a) :: σ) F H) (hx : H a = some (.lst xs)) (z : os.length < sizeLine) :
    SR K (some (.lst a (os ++ [o])) :: ρ) (some (.ref a) :: σ) F (upd H a (.lst (xs ++ [y]))) ∧ Frm (ownedE (some o :: some (.lst a os) :: ρ)) F H (ownedE (some (.lst a (os ++ [o])) :: ρ)) F (upd H a (.lst (xs ++ [y]))) := by
  have q := s.pop.top
  have e : O.ownedL (os ++ [o]) = O.ownedL os ++ o.owned := by
    rw [O.ownedL_append]
    show O.ownedL os ++ (o.owned ++ []) = _
    rw [List.append_nil]
  cases q with
  | lst h z1 r =>
    rw [hx] at h
    cases h
    have n1 := List.nodup_append.mp s.nd
    have n2 := List.nodup_append.mp n1.2.1
    refine s.mutL (r.append (.cons s.top .nil)) (by rw [List.length_append]; exact z) (fun b hb => ?_) ?_
    · rw [e] at hb
      exact (List.mem_append.mp hb).elim (List.mem_append_right _) (List.mem_append_left _)
    · rw [e]
      exact List.nodup_append.mpr ⟨(List.nodup_cons.mp n2.1).2, n1.1, fun b hb c hc e => by
        subst e
        exact n1.2.2 b hc b (List.mem_append_left _ (List.mem_cons_of_mem _ hb)) rfl⟩
theorem RepOL.setAt {K : PySem.W.Frag} {F H : Hp} {o : O} {y : V} (ro : RepO K F H y o) : ∀ {xs : List V} {os : List O} (j : Nat), RepOL K F H xs os → RepOL K F H (xs.set j y) (os.set j o)
  | _, _, _, .nil => .nil
  | _, _, 0, .cons _ r => .cons ro r
  | _, _, j + 1, .cons h r => .cons h (RepOL.setAt ro j r)
theorem ownedL_set {o : O} : ∀ (os : List O) (j : Nat), (∀ b ∈ O.ownedL (os.set j o), b ∈ o.owned ++ O.ownedL os) ∧ ((o.owned ++ O.ownedL os).Nodup → (O.ownedL (os.set j o)).Nodup)
  | [], _ => ⟨fun b hb => (by cases hb), fun _ => List.nodup_nil⟩
  | u :: os, 0 => by
    refine ⟨fun b hb => ?_, fun h => ?_⟩
    · rcases List.mem_append.mp (show b ∈ o.owned ++ O.ownedL os from hb) with q | q
      · exact List.mem_append_left _ q
      · exact List.mem_append_right _ (List.mem_append_right _ q)
    · have h : (o.owned ++ (u.owned ++ O.ownedL os)).Nodup := h
      have n := List.nodup_append.mp h
      exact List.nodup_append.mpr ⟨n.1, (List.nodup_append.mp n.2.1).2.1, fun a ha b hb => n.2.2 a ha b (List.mem_append_right _ hb)⟩
  | u :: os, j + 1 => by
    obtain ⟨i1, i2⟩ := ownedL_set os j
    refine ⟨fun b hb => ?_, fun h => ?_⟩
    · rcases List.mem_append.mp (show b ∈ u.owned ++ O.ownedL (os.set j o) from hb) with q | q
      · exact List.mem_append_right _ (List.mem_append_left _ q)
      · rcases List.mem_append.mp (i1 b q) with q | q
        · exact List.mem_append_left _ q
        · exact List.mem_append_right _ (List.mem_append_right _ q)
    · have h : (o.owned ++ (u.owned ++ O.ownedL os)).Nodup := h
      have n := List.nodup_append.mp h
      have n2 := List.nodup_append.mp n.2.1
      have i3 := i2 (List.nodup_append.mpr ⟨n.1, n2.2.1, fun a ha b hb => n.2.2 a ha b (List.mem_append_right _ hb)⟩)
      show (u.owned ++ O.ownedL (os.set j o)).Nodup
      refine List.nodup_append.mpr ⟨n2.1, i3, fun a ha b hb e => ?_⟩
      subst e
      rcases List.mem_append.mp (i1 a hb) with q | q
      · exact n.2.2 a q a (List.mem_append_left _ ha) rfl
      · exact n2.2.2 a ha a q rfl
/-- a slot's list changed, the new item on top -/
theorem SR.atSlot {K : PySem.W.Frag} {ρ : TEnv} {σ : L2.St} {F H : Hp} {o : O} {y : V} {a : Addr} {os : List O} (s : SR K (some o :: ρ) (some y :: σ) F H) (e : ρ[i]? = some (some (.lst a os))) :
    σ[i]? = some (some (.ref a)) ∧ (∃ xs, H a = some (.lst xs)) ∧ SR K (some o :: some (.lst a os) :: ρ.set i none) (some y :: some (.ref a) :: σ) F H ∧ ∀ b, b ∈ ownedE (some o :: some (.lst a os) :: ρ.set i none) ↔ b ∈ ownedE (some o :: ρ) := by
  obtain ⟨v, hv, s1, m⟩ := s.pop.take e
  have q := s1.top
  cases q with
  | lst h z r =>
    have n := List.nodup_append.mp s.nd
    refine ⟨hv, ⟨_, h⟩, s1.push s.top (fun b hb => s.own b (List.mem_append_left _ hb)) (List.nodup_append.mpr ⟨n.1, s1.nd, fun b hb c hc e' => ?_⟩), fun b => ?_⟩
    · subst e'
      exact n.2.2 b hb b ((m b).mpr hc) rfl
    · constructor
      · intro hb
        rcases List.mem_append.mp hb with q | q
        · exact List.mem_append_left _ q
        · exact List.mem_append_right _ ((m b).mpr q)
      · intro hb
        rcases List.mem_append.mp hb with q | q
        · exact List.mem_append_left _ q
        · exact List.mem_append_right _ ((m b).mp q)
theorem xs_app {o : Expr} {apos cpos : Pos} (ho : PE X o (tVar i)) (he : XO X e wo)
    (hbase : attributeBase o "append" X.env (eval o X.env) = eval o X.env := by rfl)
    (hfew : ((backTo cpos (starEach [e] X.env)).all (fun x => !x.1) && (backToKw cpos (keywordEach [] X.env)).all (fun x => x.1.isSome)
      && decide ([e].length + ([] : List Keyword).length + (if ([] : List Keyword).isEmpty then 0 else 1) < 30)) = true := by rfl)
    (hline : (apos.endLine == cpos.line) = true := by rfl) (hst : starEach [e] X.env = (false, eval e X.env) :: starEach [] X.env := by rfl) (hpl : (backTo cpos (starEach [] X.env)).any (·.1) = false := by rfl)
    (hs : swapsWith (.Call (.Attribute o "append" apos) [e] [] cpos) none pos.line X.env = pure false := by rfl) : XS X (.Expr (.Call (.Attribute o "append" apos) [e] [] cpos) pos) (wApp i wo) :=
  ⟨PS.imp (ps_expr (pe_bm PySem.F.plainAttrs_list PySem.F.slot_list_append PySem.F.type_list_append mt_append ho (pa_cons he.pe pa_nil hst) hbase hfew hline hst hpl) hs) fun D σ H ⟨ρ, F, E, s, hw, k⟩ => by
    unfold wApp at hw
    cases hn0 : nth ρ i with
    | none => rw [hn0] at hw; exact hw.elim
    | some o0 =>
    rw [hn0] at hw
    cases o0 <;> first
      | (exact hw.elim)
      | skip
    rename_i a0 os0
    obtain ⟨v0, hv0, r0⟩ := s.slot i _ (nth_eq hn0)
    cases r0 with
    | lst h0 _ _ =>
    refine ⟨_, hv0, .inl ⟨rfl, _, .inl (.inl h0)⟩, ρ, F, _, s, hw, fun o ρ1 F1 H1 y p s1 f1 => ?_⟩
    cases hn : nth ρ1 i with
    | none => rw [hn] at p; exact p.elim
    | some o1 =>
    rw [hn] at p
    cases o1 <;> first
      | (exact p.elim)
      | skip
    rename_i a os
    obtain ⟨hv, ⟨xs, hx⟩, s2, m2⟩ := s1.atSlot (nth_eq hn)
    rw [hv0] at hv
    cases hv
    obtain ⟨s3, f3⟩ := s2.snoc hx p.1
    have l : xs.length = os.length := by
      have q := s2.pop.top
      cases q with
      | lst h _ r =>
        rw [hx] at h
        cases h
        exact r.length
    refine ⟨_, xs, y, rfl, rfl, hx, by rw [l]; exact p.1, ?_⟩
    obtain ⟨s4, m4⟩ := s3.set (i := i) hv0
    rw [List.set_set] at s4 m4
    have p2 := p.2
    rw [putC_eq] at p2
    exact k.nx _ _ _ _ p2 s4 (f1.trans ((f3.iff (fun b => (m2 b).symm) fun b hb => hb).less m4))⟩
/-- xs[k] = e; te, ti: the readings of e and k -/
theorem xs_setIx (h : PS X st (tAsg (liftO X.K wo) (gSub (tVar i) (liftD X.K wi) rSetL))) : XS X st (wSetIx i wi wo) := ⟨PS.imp h fun D σ H ⟨ρ, F, E, s, hw, k⟩ => by
    unfold wSetIx at hw
    cases hn0 : nth ρ i with
    | none => rw [hn0] at hw; exact hw.elim
    | some o0 =>
    rw [hn0] at hw
    cases o0 <;> first
      | (exact hw.elim)
      | skip
    rename_i a0 os0
    obtain ⟨v0, hv0, r0⟩ := s.slot i _ (nth_eq hn0)
    refine ⟨ρ, F, _, s, hw, fun o ρ1 F1 H1 y p s1 f1 => ⟨_, hv0, ρ1, F1, _, s1.pop, p, fun d ρ2 F2 H2 u p2 s2 r2 f2 => ?_⟩⟩
    obtain ⟨s3, f3⟩ := s1.frame s2 f2
    cases hn : nth ρ2 i with
    | none => rw [hn] at p2; exact p2.elim
    | some o1 =>
    rw [hn] at p2
    cases o1 <;> first
      | (exact p2.elim)
      | skip
    rename_i a os
    obtain ⟨n, j, rfl, hj, p3⟩ := p2
    cases r2
    obtain ⟨hv, ⟨xs, hx⟩, s4, m4⟩ := s3.atSlot (nth_eq hn)
    rw [hv0] at hv
    cases hv
    have q := s4.pop.top
    cases q with
    | lst hx' z r =>
    rw [hx] at hx'
    cases hx'
    have n1 := List.nodup_append.mp s4.nd
    have n2 := List.nodup_append.mp n1.2.1
    obtain ⟨w1, w2⟩ := ownedL_set (o := o) os j
    obtain ⟨s5, f5⟩ := s4.mutL (r.setAt s4.top j) (by rw [List.length_set]; exact z) w1 (w2 (List.nodup_append.mpr ⟨n1.1, (List.nodup_cons.mp n2.1).2, fun b hb c hc => n1.2.2 b hb c (List.mem_append_left _ (List.mem_cons_of_mem _ hc))⟩))
    refine ⟨a, xs, n, j, rfl, rfl, hx, by rw [r.length]; exact hj, ?_⟩
    obtain ⟨s6, m6⟩ := s5.set (i := i) hv0
    rw [List.set_set] at s6 m6
    rw [putC_eq] at p3
    exact k.nx _ _ _ _ p3 s6 ((f1.trans f3).trans ((f5.iff (fun b => (m4 b).symm) fun b hb => hb).less m6))⟩
end
end Tr
/-! The tree layer: what is walked. -/
namespace Tr
open PySem PySem.Spec PyProof.Rows L2

/-! ### a list or a tuple, told by k -/
def SqK (k : Bool) (K : PySem.W.Frag) (H : Hp) (a : Addr) (xs : List V) : Prop := if k then SqL K H a xs else SqT K H a xs
def ItK (k : Bool) (h : Heap) (it a : Addr) (i : Nat) : Prop := if k then h.IsListIter it a i else h.IsTupleIter it a i
def HsK (k : Bool) (h : Heap) (a : Addr) (its : Array Value) : Prop := if k then h.IsList a its else h.IsTuple a its
theorem drawsK {prog : Program} {w : World} {A : Around} (hh : A.handled = none) (k : Bool) (it a : Addr) (hne : a ≠ it) (its : Array Value) :
    Draws prog w A it [it, a] its.size (fun i v => its[i]? = some v) (fun i h => ItK k h it a i ∧ HsK k h a its) := by
  cases k
  · exact Draws.tuple hh it a hne its
  · exact Draws.list hh it a hne its
theorem beginsK (k : Bool) (a : Addr) (its : Array Value) : ∃ o, Begins (.ref a) o (fun h => HsK k h a its) ∧ ∀ (h : Heap) (it : Addr), h.get? it = some o → ItK k h it a 0 := by
  cases k
  · exact ⟨_, begins_tuple a its, fun h it e => ⟨_, e, rfl, rfl⟩⟩
  · exact ⟨_, begins_list a its, fun h it e => ⟨_, e, rfl, rfl⟩⟩
theorem ItK.obj {k : Bool} {h : Heap} {it a : Addr} {i : Nat} (x : ItK k h it a i) : ∃ o, h.get? it = some o ∧ ∀ v, o.data ≠ .cell v := by
  cases k
  · obtain ⟨o, e, _, d⟩ := (show h.IsTupleIter it a i from x)
    exact ⟨o, e, fun v z => by rw [d] at z; cases z⟩
  · obtain ⟨o, e, _, d⟩ := (show h.IsListIter it a i from x)
    exact ⟨o, e, fun v z => by rw [d] at z; cases z⟩
theorem ItK.keep {k : Bool} {h h' : Heap} {it a : Addr} {i : Nat} (x : ItK k h it a i) (e : ∀ o, h.get? it = some o → h'.get? it = some o) : ItK k h' it a i := by
  cases k
  · exact (show h.IsTupleIter it a i from x).at fun o q => e o q
  · exact (show h.IsListIter it a i from x).at fun o q => e o q
section
variable {X : Cx} {pins : List (Addr × Obj)} {σ : L2.St} {H : Hp} {s : Shared} {a : Addr} {xs ys : List V} {k : Bool}
theorem Inv.sqK (I : Inv X pins σ H s) (h : SqK k X.K H a xs) : ∃ its : List Value, Vals xs its ∧ HsK k s.heap a its.toArray ∧ a < s.heap.objs.size := by
  cases k
  · obtain ⟨its, r, p, _⟩ := I.tuple (show SqT X.K H a xs from h)
    exact ⟨its, r, p, p.lt⟩
  · obtain ⟨its, r, p, _⟩ := I.list (show SqL X.K H a xs from h)
    exact ⟨its, r, p.isList, p.lt⟩
theorem Inv.sqK_inj (I : Inv X pins σ H s) (h : SqK k X.K H a xs) (h' : SqK k X.K H a ys) : xs = ys := by
  cases k
  · exact I.tuple_inj h h'
  · exact I.list_inj h h'
end

/-! ### zip of lists and tuples in any mix -/
def ItzM (K : PySem.W.Frag) (k l : Bool) (a b : Addr) : It :=
  ⟨fun i H => ∃ (xs ys : List V) (x y : V), SqK k K H a xs ∧ SqK l K H b ys ∧ xs[i]? = some x ∧ ys[i]? = some y,
    fun i H v H' => ∃ T x y, v = .ref T ∧ H T = none ∧ H' = upd H T (.tup [x, y]) ∧ (∀ xs, SqK k K H a xs → xs[i]? = some x) ∧ ∀ ys, SqK l K H b ys → ys[i]? = some y,
    fun i H => ∃ xs ys : List V, SqK k K H a xs ∧ SqK l K H b ys ∧ i = min xs.length ys.length⟩
theorem turn_zipM {P : Program} {w : World} {K : PySem.W.Frag} {k l : Bool} {elts : List Expr} {kk : Nat} {tpos : Pos} {a b z TI TO i1 i2 : Addr} (S : ZipSep2 z TI TO i1 i2 [i1, a] [i2, b]) (ha : a ≠ i1) (hb : b ≠ i2) :
    Turn P w K (.Tuple elts kk tpos) (ItzM K k l a b) [z, TI, TO, i1, i2] z (fun i h => IsZip h z TI TO .none ∧ IsTupOf2 h TI (.ref i1) (.ref i2) ∧ (∃ x y, IsTupOf2 h TO x y) ∧ ItK k h i1 a i ∧ ItK l h i2 b i) where
  mem := by simp
  obj := fun i h ⟨h1, h2, ⟨x, y, h3⟩, h4, h5⟩ c hc => by
    simp only [List.mem_cons, List.not_mem_nil, or_false] at hc
    rcases hc with rfl | rfl | rfl | rfl | rfl
    · exact ⟨_, h1, fun v q => nomatch q⟩
    · exact ⟨_, h2, fun v q => nomatch q⟩
    · exact ⟨_, h3, fun v q => nomatch q⟩
    · exact h4.obj
    · exact h5.obj
  keep := fun i h h' ⟨h1, h2, ⟨x, y, h3⟩, h4, h5⟩ q =>
    ⟨q _ (by simp) _ h1, q _ (by simp) _ h2, ⟨x, y, q _ (by simp) _ h3⟩, h4.keep (q _ (by simp)), h5.keep (q _ (by simp))⟩
  item := by
    intro X hP hw hK hc i pins s σ H E I hf st hg
    subst hP hw hK
    obtain ⟨h1, h2, h3, h4, h5⟩ := st
    obtain ⟨xs, ys, x, y, qx, qy, ex, ey⟩ := hg
    obtain ⟨us, ru, pu, _⟩ := Inv.sqK I qx
    obtain ⟨ws, rw', pw, _⟩ := Inv.sqK I qy
    obtain ⟨u, hu, ru1⟩ := ru.get ex
    obtain ⟨v, hv, rv1⟩ := rw'.get ey
    have hhd : X.A.in1.handled = none := I.ok.hd hc
    have W := GoesN.zip2 (prog := X.prog) (w := X.w) (A := X.A) (elts := elts) (x1 := kk) (pos := tpos) S (drawsK hhd k i1 a ha us.toArray) (drawsK hhd l i2 b hb ws.toArray)
    have lu : i < us.length := by
      by_cases q : i < us.length
      · exact q
      · rw [List.getElem?_eq_none (Nat.le_of_not_lt q)] at hu; cases hu
    have lw : i < ws.length := by
      by_cases q : i < ws.length
      · exact q
      · rw [List.getElem?_eq_none (Nat.le_of_not_lt q)] at hv; cases hv
    refine W.goes i s _ E (by simp; omega) ⟨h1, h2, h3, ⟨h4, pu⟩, ⟨h5, pw⟩⟩ fun val h' tk hY st' hk _ => ?_
    obtain ⟨T, x', y', rfl, hT, e1, e2, hI⟩ := hY
    have ex' : x' = u := by
      have q : us[i]? = some x' := by simpa using e1
      rw [hu] at q; exact (Option.some.inj q).symm
    have ey' : y' = v := by
      have q : ws[i]? = some y' := by simpa using e2
      rw [hv] at q; exact (Option.some.inj q).symm
    subst ex' ey'
    obtain ⟨g1, g2, g3, g4, g5⟩ := st'
    have kp : ∀ c o, c ∉ [z, TI, TO, i1, i2] → s.heap.get? c = some o → h'.get? c = some o := fun c o hc' e => hk c o (fun q => hc' (by
      simp only [List.mem_cons, List.not_mem_nil, or_false] at q ⊢
      rcases q with q | q | q | q
      · exact .inl q
      · exact .inr (.inr (.inl q))
      · exact .inr (.inr (.inr (.inl q)))
      · exact .inr (.inr (.inr (.inr q))))) e
    have I1 := I.turnedNew (t' := tk) (ob := .tup [x, y]) kp hf hT ⟨by show 2 ≤ sizeLine; decide, [x', y'], .cons ru1 (.cons rv1 .nil), hI⟩
    refine ⟨.ref T, _, I1, rfl, ⟨T, x, y, rfl, I.hok.fresh hT, rfl, fun zs hz => by rw [Inv.sqK_inj I hz qx]; exact ex, fun zs hz => by rw [Inv.sqK_inj I hz qy]; exact ey⟩, ⟨g1, g2, g3, g4.1, g5.1⟩, fun c hcm => ?_⟩
    have lt : c < s.heap.objs.size := by
      simp only [List.mem_cons, List.not_mem_nil, or_false] at hcm
      rcases hcm with rfl | rfl | rfl | rfl | rfl
      · exact Heap.lt_size h1
      · exact Heap.lt_size h2
      · obtain ⟨_, _, h3⟩ := h3; exact Heap.lt_size h3
      · obtain ⟨_, e, _⟩ := h4.obj; exact Heap.lt_size e
      · obtain ⟨_, e, _⟩ := h5.obj; exact Heap.lt_size e
    rw [upd_ne (Nat.ne_of_lt (Nat.lt_of_lt_of_le lt hT))]
    exact (hf c hcm).1
  done := by
    intro X hP hw hK hc i pins s σ H E I hf st hg
    subst hP hw hK
    obtain ⟨h1, h2, h3, h4, h5⟩ := st
    obtain ⟨xs, ys, qx, qy, ei⟩ := hg
    obtain ⟨us, ru, pu, _⟩ := Inv.sqK I qx
    obtain ⟨ws, rw', pw, _⟩ := Inv.sqK I qy
    have hhd : X.A.in1.handled = none := I.ok.hd hc
    have W := GoesN.zip2 (prog := X.prog) (w := X.w) (A := X.A) (elts := elts) (x1 := kk) (pos := tpos) S (drawsK hhd k i1 a ha us.toArray) (drawsK hhd l i2 b hb ws.toArray)
    have en : i = min us.toArray.size ws.toArray.size := by rw [List.size_toArray, List.size_toArray, ← ru.length, ← rw'.length]; exact ei
    subst en
    refine W.stops s _ E ⟨h1, h2, h3, ⟨h4, pu⟩, ⟨h5, pw⟩⟩ fun h' tk hk _ => ?_
    exact I.turnedL (fun c o hc' e => hk c o (fun q => hc' (by
      simp only [List.mem_cons, List.not_mem_nil, or_false] at q ⊢
      rcases q with q | q | q | q
      · exact .inl q
      · exact .inr (.inr (.inl q))
      · exact .inr (.inr (.inr (.inl q)))
      · exact .inr (.inr (.inr (.inr q))))) e) hf
  self := fun A i s Q E st h => wpAny_pyIter_zip st.1 h
def iZipM (K : PySem.W.Frag) (ta : TA) : TI := fun σ H R => ta σ H fun vs H1 => ∃ k l a b xs ys, vs = [.ref a, .ref b] ∧ SqK k K H1 a xs ∧ SqK l K H1 b ys ∧ R (ItzM K k l a b) H1
theorem pi_zipM {X : Cx} {e e2 : Expr} {ta : TA} {p pos tpos : Pos} {elts : List Expr} {kk : Nat} (hg : Gl X "zip") (hm : X.mg "zip" = none) (ha : PA X [e, e2] ta)
    (hs : starEach [e, e2] X.env = (false, eval e X.env) :: starEach [e2] X.env := by rfl) (hpl : (backTo pos (starEach [e2] X.env)).any (·.1) = false := by rfl) :
    PI X (.Tuple elts kk tpos) (.Call (.Name "zip" p) [e, e2] [] pos) (iZipM X.K ta) := by
  refine ⟨fun pins s σ H R I h => Call_ (ld_blt I hg hm PyProof.Rows.boot_zip (PyProof.Rows.callWith_type1 (thn (ha.run pos pins s σ H _ I h) fun us s1 ⟨vs, H1, I1, r1, q1⟩ => ?_) hs hpl))⟩
  obtain ⟨k, l, a, b, xs, ys, ex, qx, qy, q⟩ := q1
  subst ex
  obtain ⟨u1, u2, rfl, ra, rb⟩ := vals2 r1
  cases ra
  cases rb
  obtain ⟨us, ru, pu, la⟩ := Inv.sqK I1 qx
  obtain ⟨ws, rw', pw, lb⟩ := Inv.sqK I1 qy
  obtain ⟨o1, B1, b1⟩ := beginsK k a us.toArray
  obtain ⟨o2, B2, b2⟩ := beginsK l b ws.toArray
  refine zip_begins2 B1 B2 pu pw fun h' hz hTI hTO e1 e2 hsz hk => wpAny_pyIter_zip hz ?_
  have I2 : Inv X pins σ H1 { s1 with heap := h' } := I1.kept (t' := s1.toks) hk
  have na : a ≠ s1.heap.objs.size := Nat.ne_of_lt la
  have nb : b ≠ s1.heap.objs.size + 1 := Nat.ne_of_lt (Nat.lt_succ_of_lt lb)
  refine ⟨_, _, _, _, H1, rfl, I2, turn_zipM (zip_sep2 (N := s1.heap.objs.size) (fp1 := [a]) (fp2 := [b]) (fun c hc => by rw [List.mem_singleton.mp hc]; exact la) fun c hc => by rw [List.mem_singleton.mp hc]; exact lb) na nb, ⟨hz, hTI, ⟨_, _, hTO⟩, b1 _ _ e1, b2 _ _ e2⟩, fun c hc => ?_, q⟩
  have le : s1.heap.objs.size ≤ c := by
    simp only [List.mem_cons, List.not_mem_nil, or_false] at hc
    rcases hc with rfl | rfl | rfl | rfl | rfl
    · exact Nat.le_add_right _ _
    · exact Nat.le_add_right _ _
    · exact Nat.le_add_right _ _
    · exact Nat.le_refl _
    · exact Nat.le_add_right _ _
  exact I1.fpOk le (I1.hok.fresh le)

/-! ### enumerate of a list or a tuple -/
theorem meets_enum1 {v : Value} {o : Obj} {H : Heap → Prop} (B : Begins v o H) :
    Meets (Builtin.«enumerate.__new__» ⟨[.type "enumerate", v], []⟩) (fun _ R s => H s.heap ∧
      R (.ok (.ret (.ref (s.heap.push o).objs.size))) { s with heap := (s.heap.push o).push { cls := .type "enumerate", data := .fields #[.none, .bool false, .ref s.heap.objs.size, rawInt 0, .none, .none] } }) :=
  .of_wp fun prog w A R s ⟨h1, h⟩ => by
    obtain ⟨hp, g, d, tk, os⟩ := s
    have hsub := sub_enumerate
    have it : ∀ {A' : Around} {E : Value → Shared → Prop} {Q : Value → Shared → Prop}, Q (.ref hp.objs.size) ⟨hp.push o, g, d, tk, os⟩ → wpAny (model prog w) A' (pyIter v) Q E ⟨hp, g, d, tk, os⟩ := fun q => B.iter prog w _ _ ⟨hp, g, d, tk, os⟩ _ h1 q
    wp_walk using it
    refine wpAny_stack_any fun st => wpAny_pure ?_
    split
    · rename_i c _ _ _ _ _
      cases (c == Value.type "enumerate") <;> (wp_walk using it; exact ⟨_, rfl, h⟩)
    · wp_walk using it
      exact ⟨_, rfl, h⟩
theorem call_enum1 {prog : Program} {w : World} {A : Around} {E : Value → Shared → Prop} {s : Shared} {v : Value} {o : Obj} {H : Heap → Prop} {Q : Value → Shared → Prop} (B : Begins v o H) (h1 : H s.heap)
    (h : ∀ h', IsEnum h' (s.heap.objs.size + 1) s.heap.objs.size 0 .none → h'.get? s.heap.objs.size = some o → (∀ b o, s.heap.get? b = some o → h'.get? b = some o) → Q (.ref (s.heap.objs.size + 1)) { s with heap := h' }) :
    wpAny (model prog w) A (call (.type "enumerate") [v]) Q E s := by
  refine callType_new F.called_enumerate (by decide) (F.typeCall_enumerate_1 _) (F.newCall_enumerate_1 _) (fun obj => F.args_object_init_2 obj _) F.entry_enumerate_new (meets_enum1 B) ⟨h1, ?_⟩
  have hz : (s.heap.push o).objs.size = s.heap.objs.size + 1 := Heap.size_push ..
  have he := Heap.get?_push_size (s.heap.push o) (o := { cls := .type "enumerate", data := .fields #[.none, .bool false, .ref s.heap.objs.size, rawInt 0, .none, .none] }) rfl
  show _ ∧ _
  rw [hz] at he ⊢
  exact ⟨⟨_, he, rfl⟩, h _ he (Heap.get?_push_of_some _ (Heap.get?_push_size _ B.free)) fun b o x => Heap.get?_push_of_some _ (Heap.get?_push_of_some _ x)⟩
def IteM (K : PySem.W.Frag) (k : Bool) (a : Addr) : It :=
  ⟨fun i H => ∃ (xs : List V) (x : V), SqK k K H a xs ∧ xs[i]? = some x,
    fun i H v H' => ∃ T x, v = .ref T ∧ H T = none ∧ H' = upd H T (.tup [.int (i : Nat), x]) ∧ ∀ xs, SqK k K H a xs → xs[i]? = some x,
    fun i H => ∃ xs : List V, SqK k K H a xs ∧ i = xs.length⟩
theorem turn_enumM {P : Program} {w : World} {K : PySem.W.Frag} {k : Bool} {elts : List Expr} {kk : Nat} {tpos : Pos} {a e it : Addr} (hei : e ≠ it) (hea : e ≠ a) (ha : a ≠ it) :
    Turn P w K (.Tuple elts kk tpos) (IteM K k a) [e, it] e (fun i h => (∃ old, IsEnum h e it (0 + (i : Int)) old) ∧ ItK k h it a i) where
  mem := by simp
  obj := fun i h ⟨⟨old, h1⟩, h2⟩ c hc => by
    simp only [List.mem_cons, List.not_mem_nil, or_false] at hc
    rcases hc with rfl | rfl
    · exact ⟨_, h1, fun v q => nomatch q⟩
    · exact h2.obj
  keep := fun i h h' ⟨⟨old, h1⟩, h2⟩ q => ⟨⟨old, q _ (by simp) _ h1⟩, h2.keep (q _ (by simp))⟩
  item := by
    intro X hP hw hK hc i pins s σ H E I hf st hg
    subst hP hw hK
    obtain ⟨⟨old, h1⟩, h2⟩ := st
    obtain ⟨xs, x, qx, ex⟩ := hg
    obtain ⟨us, ru, pu, _⟩ := Inv.sqK I qx
    obtain ⟨u, hu, ru1⟩ := ru.get ex
    have hhd : X.A.in1.handled = none := I.ok.hd hc
    have W := GoesN.enumFrom (prog := X.prog) (w := X.w) (A := X.A) (elts := elts) (x1 := kk) (pos := tpos) 0 (drawsK hhd k it a ha us.toArray) e hei (by simp [hei, hea]) (by simp)
    have lu : i < us.length := by
      by_cases q : i < us.length
      · exact q
      · rw [List.getElem?_eq_none (Nat.le_of_not_lt q)] at hu; cases hu
    refine W.goes i s _ E (by simpa using lu) ⟨⟨old, h1⟩, h2, pu⟩ fun val h' tk hY st' hk _ => ?_
    obtain ⟨T, t, x', rfl, hT, e1, hI⟩ := hY
    have ex' : x' = u := by
      have q : us[i]? = some x' := by simpa using e1
      rw [hu] at q; exact (Option.some.inj q).symm
    subst ex'
    obtain ⟨g1, g2, _⟩ := st'
    have kp : ∀ c o, c ∉ [e, it] → s.heap.get? c = some o → h'.get? c = some o := fun c o hc' q => hk c o hc' q
    have e0 : (0 : Int) + (i : Int) = ((i : Nat) : Int) := by omega
    rw [e0] at hI
    have I1 := I.turnedNew (t' := tk) (ob := .tup [.int (i : Nat), x]) kp hf hT ⟨by show 2 ≤ sizeLine; decide, [.int (i : Nat) t, x'], .cons ⟨t, rfl⟩ (.cons ru1 .nil), hI⟩
    refine ⟨.ref T, _, I1, rfl, ⟨T, x, rfl, I.hok.fresh hT, rfl, fun zs hz => by rw [Inv.sqK_inj I hz qx]; exact ex⟩, ⟨g1, g2⟩, fun c hcm => ?_⟩
    have lt : c < s.heap.objs.size := by
      simp only [List.mem_cons, List.not_mem_nil, or_false] at hcm
      rcases hcm with rfl | rfl
      · exact Heap.lt_size h1
      · obtain ⟨_, q, _⟩ := h2.obj; exact Heap.lt_size q
    rw [upd_ne (Nat.ne_of_lt (Nat.lt_of_lt_of_le lt hT))]
    exact (hf c hcm).1
  done := by
    intro X hP hw hK hc i pins s σ H E I hf st hg
    subst hP hw hK
    obtain ⟨⟨old, h1⟩, h2⟩ := st
    obtain ⟨xs, qx, ei⟩ := hg
    obtain ⟨us, ru, pu, _⟩ := Inv.sqK I qx
    have hhd : X.A.in1.handled = none := I.ok.hd hc
    have W := GoesN.enumFrom (prog := X.prog) (w := X.w) (A := X.A) (elts := elts) (x1 := kk) (pos := tpos) 0 (drawsK hhd k it a ha us.toArray) e hei (by simp [hei, hea]) (by simp)
    have en : i = us.toArray.size := by rw [List.size_toArray, ← ru.length]; exact ei
    subst en
    exact W.stops s _ E ⟨⟨old, h1⟩, h2, pu⟩ fun h' tk hk _ => I.turnedL (fun c o hc' q => hk c o hc' q) hf
  self := fun A i s Q E st h => let ⟨⟨_, he⟩, _⟩ := st; wpAny_pyIter_enum he h
def iEnumM (K : PySem.W.Frag) (ta : TA) : TI := fun σ H R => ta σ H fun vs H1 => ∃ k a xs, vs = [.ref a] ∧ SqK k K H1 a xs ∧ R (IteM K k a) H1
theorem pi_enumM {X : Cx} {e : Expr} {ta : TA} {p pos tpos : Pos} {elts : List Expr} {kk : Nat} (hg : Gl X "enumerate") (hm : X.mg "enumerate" = none) (ha : PA X [e] ta) (hs : starEach [e] X.env = [(false, eval e X.env)] := by rfl) :
    PI X (.Tuple elts kk tpos) (.Call (.Name "enumerate" p) [e] [] pos) (iEnumM X.K ta) := by
  refine ⟨fun pins s σ H R I h => Call_ (ld_blt I hg hm boot_enumerate (PyProof.Rows.callWith_type1 (thn (ha.run pos pins s σ H _ I h) fun us s1 ⟨vs, H1, I1, r1, q1⟩ => ?_) hs rfl))⟩
  obtain ⟨k, a, xs, ex, qx, q⟩ := q1
  subst ex
  obtain ⟨u1, rfl, ra⟩ := vals1 r1
  cases ra
  obtain ⟨us, ru, pu, la⟩ := Inv.sqK I1 qx
  obtain ⟨o1, B1, b1⟩ := beginsK k a us.toArray
  refine call_enum1 B1 pu fun h' hz e1 hk => wpAny_pyIter_enum hz ?_
  have I2 : Inv X pins σ H1 { s1 with heap := h' } := I1.kept (t' := s1.toks) hk
  have na : a ≠ s1.heap.objs.size := Nat.ne_of_lt la
  refine ⟨_, _, _, _, H1, rfl, I2, turn_enumM (k := k) (Nat.succ_ne_self _) (Nat.ne_of_gt (Nat.lt_succ_of_lt la)) na, ⟨⟨.none, by simpa using hz⟩, b1 _ _ e1⟩, fun c hc => ?_, q⟩
  have le : s1.heap.objs.size ≤ c := by
    simp only [List.mem_cons, List.not_mem_nil, or_false] at hc
    rcases hc with rfl | rfl
    · exact Nat.le_add_right _ _
    · exact Nat.le_refl _
  exact I1.fpOk le (I1.hok.fresh le)

/-! ### a list, a tuple or a text, whatever it is -/
def iAny (K : PySem.W.Frag) (te : TE) : TI := fun σ H R => te σ H fun x H1 => (∃ a xs, x = .ref a ∧ SqL K H1 a xs ∧ R (Itl K a) H1) ∨ (∃ a xs, x = .ref a ∧ SqT K H1 a xs ∧ R (Itt K a) H1) ∨ (∃ z, x = .str z ∧ R (Its z) H1) ∨
  ∃ d o, x = .ref d ∧ ((∃ kvs, H1 d = some (.frz o (.dK kvs)) ∧ R (Itk d o kvs) H1) ∨ ∃ kvs, H1 d = some (.frz o (.dT kvs)) ∧ R (Itkt d o kvs) H1)
theorem pi_any {X : Cx} {tg e : Expr} {te : TE} (he : PE X e te) : PI X tg e (iAny X.K te) := by
  refine ⟨fun pins s σ H R I h => thn (he.run pins s σ H _ I h) fun v s1 ⟨x, H1, I1, r1, q1⟩ => ?_⟩
  have one : ∀ b, b ∈ [s1.heap.objs.size] → FpOk X pins H1 b := fun b hb => by
    rw [List.mem_singleton.mp hb]
    exact I1.fpOk (Nat.le_refl _) (I1.hok.fresh (Nat.le_refl _))
  have kp : ∀ o, Inv X pins σ H1 { s1 with heap := s1.heap.push o } := fun o => I1.kept (t' := s1.toks) fun b u q => Heap.get?_push_of_some _ q
  rcases q1 with ⟨a, xs, rfl, hq, q⟩ | ⟨a, xs, rfl, hq, q⟩ | ⟨z, rfl, q⟩ | ⟨d, o, rfl, q⟩
  · cases r1
    obtain ⟨its, _, p, _⟩ := I1.list hq
    exact wpAny_pyIter_list p.isList ⟨_, _, _, _, H1, rfl, kp _, turn_list a _, ⟨_, Heap.get?_push_size _ rfl, rfl, rfl⟩, one, q⟩
  · cases r1
    obtain ⟨its, _, p, _⟩ := I1.tuple hq
    exact wpAny_pyIter_tuple (show s1.heap.IsTuple a its.toArray from p) ⟨_, _, _, _, H1, rfl, kp _, turn_tuple a _, ⟨_, Heap.get?_push_size _ rfl, rfl, rfl⟩, one, q⟩
  · obtain ⟨t, rfl⟩ := r1
    cases ha : z.cps.all (· < 128)
    · exact wpAny_pyIter_wide ha (pi_one (tk := s1.toks) I1 _ (turn_str _ z t "str_iterator" (.inr rfl)) ⟨_, Heap.get?_push_size _ rfl, rfl, rfl⟩ q)
    · exact wpAny_pyIter_ascii ha (pi_one (tk := s1.toks) I1 _ (turn_str _ z t "str_ascii_iterator" (.inl rfl)) ⟨_, Heap.get?_push_size _ rfl, rfl, rfl⟩ q)
  · cases r1
    rcases q with ⟨kvs, hd, q⟩ | ⟨kvs, hd, q⟩
    · obtain ⟨hs, hgd, hx, es, ep, vs, hdt, hsz, kv, hm⟩ := I1.frzK hd
      refine iter_keys hs hgd hx hdt (pi_one (tk := s1.toks) I1 _ (turn_keys _ hdt) ⟨_, Heap.get?_push_size _ rfl, rfl, ?_⟩ q)
      rw [hsz] <;> rfl
    · obtain ⟨hs, hgd, hx, es, ep, hdt, hsz, ent⟩ := I1.frzT hd
      refine iter_keys hs hgd hx hdt (pi_one (tk := s1.toks) I1 _ (turn_keysT _ hdt) ⟨_, Heap.get?_push_size _ rfl, rfl, ?_⟩ q)
      rw [hsz] <;> rfl
end Tr
/-! The tree layer: targets, loops, comprehensions, defs. -/
namespace Tr
open PySem PySem.Spec PyProof.Rows L2

/-! ### targets -/
abbrev WG := D → TEnv → (TEnv → Prop) → Prop
abbrev WGs := List D → TEnv → (TEnv → Prop) → Prop
/-- what a target does to the slots: at ix alone -/
structure Slots (ix : List Nat) (ρ ρ' : TEnv) (σ σ' : L2.St) : Prop where
  mem : ∀ b ∈ ownedE ρ', b ∈ ownedE ρ
  at_ : ∀ j, j ∉ ix → σ'[j]? = σ[j]?
  len : σ'.length = σ.length
theorem Slots.refl {ix : List Nat} {ρ : TEnv} {σ : L2.St} : Slots ix ρ ρ σ σ := ⟨fun _ h => h, fun _ _ => rfl, rfl⟩
theorem Slots.trans {ix : List Nat} {ρ ρ1 ρ2 : TEnv} {σ σ1 σ2 : L2.St} (a : Slots ix ρ ρ1 σ σ1) (b : Slots ix ρ1 ρ2 σ1 σ2) : Slots ix ρ ρ2 σ σ2 :=
  ⟨fun c h => a.mem c (b.mem c h), fun j h => (b.at_ j h).trans (a.at_ j h), b.len.trans a.len⟩
theorem Slots.mono {ix ix' : List Nat} {ρ ρ1 : TEnv} {σ σ1 : L2.St} (a : Slots ix ρ ρ1 σ σ1) (h : ∀ j ∈ ix, j ∈ ix') : Slots ix' ρ ρ1 σ σ1 := ⟨a.mem, fun j q => a.at_ j fun z => q (h j z), a.len⟩
def liftG (K : PySem.W.Frag) (ix : List Nat) (g : WG) : TG := fun v σ H Q => ∃ ρ F d P, SR K ρ σ F H ∧ Rep K F v d ∧ g d ρ P ∧ ∀ ρ' σ', P ρ' → SR K ρ' σ' F H → Slots ix ρ ρ' σ σ' → Q σ' H
def liftGs (K : PySem.W.Frag) (ix : List Nat) (g : WGs) : TGs := fun vs σ H Q => ∃ ρ F ds P, SR K ρ σ F H ∧ RepL K F vs ds ∧ g ds ρ P ∧ ∀ ρ' σ', P ρ' → SR K ρ' σ' F H → Slots ix ρ ρ' σ σ' → Q σ' H
structure XG (X : Cx) (tg : Expr) (ix : List Nat) (g : WG) : Prop where
  pg : PG X tg (liftG X.K ix g)
structure XGs (X : Cx) (ts : List Expr) (ix : List Nat) (g : WGs) : Prop where
  pg : PGs X ts (liftGs X.K ix g)
theorem PG.imp {X : Cx} {e : Expr} {t t' : TG} (h : PG X e t) (i : ∀ v σ H Q, t' v σ H Q → t v σ H Q) : PG X e t' := ⟨fun pins s σ H v u Q I r hw => h.run pins s σ H v u Q I r (i _ _ _ _ hw)⟩
theorem PGs.imp {X : Cx} {e : List Expr} {t t' : TGs} (h : PGs X e t) (i : ∀ v σ H Q, t' v σ H Q → t v σ H Q) : PGs X e t' := ⟨fun pins s σ H v u Q I r hw => h.run pins s σ H v u Q I r (i _ _ _ _ hw)⟩
def gN (i : Nat) : WG := fun d ρ P => putC ρ i (some (.fz d)) P
def gsNil : WGs := fun ds ρ P => match ds with
  | [] => P ρ
  | _ => False
def gsCons (g : WG) (gs : WGs) : WGs := fun ds ρ P => match ds with
  | d :: r => g d ρ fun ρ1 => gs r ρ1 P
  | _ => False
def gT (n : Nat) (gs : WGs) : WG := fun d ρ P => match d with
  | .tup ds => ds.length = n ∧ gs ds ρ P
  | _ => False
section
variable {X : Cx} {e : Expr} {es : List Expr} {ix ix' : List Nat} {g : WG} {gs : WGs} {pos : Pos}
theorem xg_name {i : Nat} (h : PG X e (gName i)) : XG X e [i] (gN i) := ⟨PG.imp h fun v σ H Q ⟨ρ, F, d, P, s, r, hw, k⟩ => by
  obtain ⟨s2, m⟩ := (s.pushD r).store (i := i)
  have hw : putC ρ i (some (.fz d)) P := hw
  rw [putC_eq] at hw
  exact k _ _ hw s2 ⟨m, fun j hj => List.getElem?_set_ne (fun e => hj (by rw [e]; exact List.mem_singleton_self _)), List.length_set⟩⟩
theorem xgs_nil : XGs X [] [] gsNil := ⟨PGs.imp pgs_nil fun v σ H Q ⟨ρ, F, ds, P, s, r, hw, k⟩ => by
  cases r with
  | nil => exact ⟨rfl, k _ _ hw s .refl⟩
  | cons a b => exact (show False from hw).elim⟩
theorem xgs_cons (h : XG X e ix g) (hr : XGs X es ix' gs) (hs : (assignEach (e :: es) X.env).map (·.2) = assign e X.env :: (assignEach es X.env).map (·.2) := by rfl) : XGs X (e :: es) (ix ++ ix') (gsCons g gs) :=
  ⟨PGs.imp (pgs_cons h.pg hr.pg hs) fun v σ H Q ⟨ρ, F, ds, P, s, r, hw, k⟩ => by
    cases r with
    | nil => exact (show False from hw).elim
    | cons a b =>
      exact ⟨_, _, rfl, ρ, F, _, _, s, a, hw, fun ρ1 σ1 p1 s1 t1 => ⟨ρ1, F, _, _, s1, b, p1, fun ρ2 σ2 p2 s2 t2 => k _ _ p2 s2 ((t1.mono fun j q => List.mem_append_left _ q).trans (t2.mono fun j q => List.mem_append_right _ q))⟩⟩⟩
theorem xg_tup {k n : Nat} (hc : X.calm = true) (h : XGs X es ix gs) (hn : (assignEach es X.env).length = n := by rfl) (hst : (assignEach es X.env).findIdx? (·.1) = none := by rfl) : XG X (.Tuple es k pos) ix (gT n gs) :=
  ⟨PG.imp (pg_tup hc h.pg hn hst) fun v σ H Q ⟨ρ, F, d, P, s, r, hw, k⟩ => by
    unfold gT at hw
    split at hw
    · cases r with
      | tup h1 z r =>
        exact ⟨_, _, rfl, s.sub.sqT h1, by rw [r.length]; exact hw.1, ρ, F, _, P, s, r, hw.2, k⟩
    · exact hw.elim⟩
/-- target = e -/
def wAsg (g : WG) (w : WD) : WS := fun ρ E => w ρ fun d ρ' => g d ρ' E.nx
theorem xs_asg {st : Stmt} {w : WD} (h : PS X st (tAsg (liftD X.K w) (liftG X.K ix g))) : XS X st (wAsg g w) := ⟨PS.imp h fun D σ H ⟨ρ, F, E, s, hw, k⟩ =>
  ⟨ρ, F, _, s, hw, fun d ρ' F' H' v p s' r f => ⟨ρ', F', d, _, s', r, p, fun ρ2 σ2 p2 s2 t => k.nx _ _ _ _ p2 s2 (f.less t.mem)⟩⟩⟩
/-- a, b = e1, e2 -/
def wPar (i j : Nat) (wa wb : WD) : WS := fun ρ E => wa ρ fun d ρ1 => wb ρ1 fun e ρ2 => putC ρ2 i (some (.fz d)) fun ρ3 => putC ρ3 j (some (.fz e)) E.nx
theorem xs_par {st : Stmt} {i j : Nat} {wa wb : WD} (h : PS X st (tPar i j (liftA X.K (wCons wa (wCons wb wNil))))) : XS X st (wPar i j wa wb) := ⟨PS.imp h fun D σ H ⟨ρ, F, E, s, hw, k⟩ =>
  ⟨ρ, F, fun ds ρ' => match ds with
    | [d, e] => putC ρ' i (some (.fz d)) fun ρ3 => putC ρ3 j (some (.fz e)) E.nx
    | _ => False, s, hw, fun ds ρ' F' H' vs p s' r f => by
    match ds, p with
    | [d, e], p =>
    cases r with
    | cons a r =>
    cases r with
    | cons b r =>
    cases r
    have p : putC ρ' i (some (.fz d)) fun ρ3 => putC ρ3 j (some (.fz e)) E.nx := p
    refine ⟨_, _, rfl, ?_⟩
    obtain ⟨s2, m2⟩ := (s'.pushD a).store (i := i)
    obtain ⟨s3, m3⟩ := (s2.pushD b).store (i := j)
    rw [putC_eq, putC_eq] at p
    exact k.nx _ _ _ _ p s3 (f.less fun c hc => m2 c (m3 c hc))⟩⟩
/-- a, b, c = e1, e2, e3 -/
def wPar3 (i j l : Nat) (wa wb wc : WD) : WS := fun ρ E => wa ρ fun d ρ1 => wb ρ1 fun e ρ2 => wc ρ2 fun u ρ3 => putC ρ3 i (some (.fz d)) fun ρ4 => putC ρ4 j (some (.fz e)) fun ρ5 => putC ρ5 l (some (.fz u)) E.nx
theorem xs_par3 {st : Stmt} {i j l : Nat} {wa wb wc : WD} (h : PS X st (tPar3 i j l (liftA X.K (wCons wa (wCons wb (wCons wc wNil)))))) : XS X st (wPar3 i j l wa wb wc) := ⟨PS.imp h fun D σ H ⟨ρ, F, E, s, hw, k⟩ =>
  ⟨ρ, F, fun ds ρ' => match ds with
    | [d, e, u] => putC ρ' i (some (.fz d)) fun ρ4 => putC ρ4 j (some (.fz e)) fun ρ5 => putC ρ5 l (some (.fz u)) E.nx
    | _ => False, s, hw, fun ds ρ' F' H' vs p s' r f => by
    match ds, p with
    | [d, e, u], p =>
    cases r with
    | cons a r =>
    cases r with
    | cons b r =>
    cases r with
    | cons c r =>
    cases r
    have p : putC ρ' i (some (.fz d)) fun ρ4 => putC ρ4 j (some (.fz e)) fun ρ5 => putC ρ5 l (some (.fz u)) E.nx := p
    refine ⟨_, _, _, rfl, ?_⟩
    obtain ⟨s2, m2⟩ := (s'.pushD a).store (i := i)
    obtain ⟨s3, m3⟩ := (s2.pushD b).store (i := j)
    obtain ⟨s4, m4⟩ := (s3.pushD c).store (i := l)
    rw [putC_eq, putC_eq, putC_eq] at p
    exact k.nx _ _ _ _ p s4 (f.less fun c hc => m2 c (m3 c (m4 c hc)))⟩⟩
end

/-! ### what is walked -/
/-- what is locked stays locked -/
def Lk (H0 H : Hp) : Prop := ∀ b o u, H0 b = some (.frz o u) → H b = some (.frz o u)
structure ItOk (K : PySem.W.Frag) (J : It) (F H0 : Hp) (ds : List D) : Prop where
  sz : ds.length ≤ sizeLine
  go : ∀ i H F1, i < ds.length → Sub F F1 → Sb F1 H → Lk H0 H → J.go i H
  stop : ∀ H F1, Sub F F1 → Sb F1 H → Lk H0 H → J.stop ds.length H
  yld : ∀ i H F1 x H', i < ds.length → Sub F F1 → Sb F1 H → Lk H0 H → J.yld i H x H' → ∃ d F2, ds[i]? = some d ∧ Rep K F2 x d ∧ Grow F1 H F2 H' ∧ Sb F2 H'
def liftI (K : PySem.W.Frag) (w : WL) : TI := fun σ H R => ∃ ρ F P, SR K ρ σ F H ∧ w ρ P ∧
  ∀ ds ρ' F' H' J, P ds ρ' → SR K ρ' σ F' H' → Frm (ownedE ρ) F H (ownedE ρ') F' H' → ItOk K J F' H' ds → R J H'
structure XI (X : Cx) (tg it : Expr) (w : WL) : Prop where
  pi : PI X tg it (liftI X.K w)
theorem PI.imp {X : Cx} {tg e : Expr} {t t' : TI} (h : PI X tg e t) (i : ∀ σ H Q, t' σ H Q → t σ H Q) : PI X tg e t' := ⟨fun pins s σ H Q I hw => h.run pins s σ H Q I (i _ _ _ hw)⟩
theorem Grow.refl {F H : Hp} : Grow F H F H := ⟨fun _ _ h => h, fun _ _ _ _ n h => ⟨h, n⟩, fun _ h => (nomatch h), fun _ o h => ⟨o, h⟩, fun _ _ _ h => h⟩
/-- the signs of a text -/
def signs (z : Str) : List D := z.cps.toList.map fun c => .str ⟨#[c]⟩
def kD : Key → D
  | .inl i => .int i
  | .inr x => .str x
/-- a tuple of keys -/
def kT (k : List Key) : D := .tup (k.map kD)
def D.walk : D → Option (List D)
  | .str z => some (signs z)
  | .dct kvs => some (kvs.map fun q => kD q.1)
  | .dcT kvs => some (kvs.map fun q => kT q.1)
  | d => d.items
def wWalk (w : WD) : WL := fun ρ P => w ρ fun d ρ' => match d.walk with
  | some ds => P ds ρ'
  | none => False
def wRng1 (w : WD) : WL := fun ρ P => w ρ fun d ρ' => match d with
  | .int j => (-(2 ^ 62) ≤ j ∧ j ≤ 16777216) ∧ P ((List.range j.toNat).map fun (k : Nat) => .int k) ρ'
  | _ => False
def wRng2 (wa wb : WD) : WL := fun ρ P => wa ρ fun d ρ1 => wb ρ1 fun e ρ2 => match d, e with
  | .int i, .int j => (0 ≤ i ∧ i < 2 ^ 62 ∧ -(2 ^ 62) ≤ j ∧ j ≤ 16777216) ∧ P ((List.range (j - i).toNat).map fun (k : Nat) => .int (i + k)) ρ2
  | _, _ => False
def wZip (wa wb : WD) : WL := fun ρ P => wa ρ fun d ρ1 => wb ρ1 fun e ρ2 => match d.items, e.items with
  | some ds, some es => P ((ds.zip es).map fun p => .tup [p.1, p.2]) ρ2
  | _, _ => False
def wEnum (wa : WD) : WL := fun ρ P => wa ρ fun d ρ1 => match d.items with
  | some ds => P (ds.zipIdx.map fun p => .tup [.int p.2, p.1]) ρ1
  | none => False
section
variable {X : Cx} {tg e e2 : Expr} {w wa wb : WD}
theorem Rep.sqK {K : PySem.W.Frag} {F : Hp} {v : V} {d : D} {ds : List D} (r : Rep K F v d) (h : d.items = some ds) : ∃ k p xs, v = .ref p ∧ (∀ F1 H, Sub F F1 → Sb F1 H → SqK k K H p xs) ∧ RepL K F xs ds ∧ ds.length ≤ sizeLine := by
  cases r <;> first
    | (cases h; done)
    | skip
  all_goals (have h' := Option.some.inj h; subst h')
  · rename_i h1 z r; exact ⟨false, _, _, rfl, fun F1 H su sb => sb.sqT (su _ _ h1), r, z⟩
  · rename_i h1 z r; exact ⟨true, _, _, rfl, fun F1 H su sb => sb.sqL (sqL_sub su (.inl (.inl h1))), r, z⟩
  · rename_i h1 z r; exact ⟨true, _, _, rfl, fun F1 H su sb => sb.sqL (sqL_sub su h1), r, z⟩
theorem getElem_of {α : Type} {l : List α} {i : Nat} (h : i < l.length) : ∃ x, l[i]? = some x := ⟨l[i], List.getElem?_eq_getElem h⟩
/-- a dict that is walked is locked -/
def tLk (td : TE) : TE := fun σ H Q => td σ H fun x H1 => Q x H1 ∨ ∃ d u, H1 d = some u ∧ Mut (some u) ∧ ∀ od, Q x (upd H1 d (.frz od u))
theorem pe_lk {td : TE} (h : PE X e td) : PE X e (tLk td) := ⟨fun pins s σ H Q I hw => by
  refine thn (h.run pins s σ H _ I hw) fun u s1 ⟨x, H1, I1, r1, q1⟩ => ?_
  rcases q1 with q | ⟨d, w, hd, mu, q⟩
  · exact ⟨x, H1, I1, r1, q⟩
  · obtain ⟨od, I2⟩ := I1.lock hd mu
    exact ⟨x, _, I2, r1, q od⟩⟩
theorem PI_or {t t' : TI} (h : PI X tg e t) (h' : PI X tg e t') : PI X tg e (fun σ H R => t σ H R ∨ t' σ H R) := ⟨fun pins s σ H Q I hw => hw.elim (h.run pins s σ H Q I) (h'.run pins s σ H Q I)⟩
theorem RepK.at {K : PySem.W.Frag} {F : Hp} : ∀ {es : List (Key × V)} {kvs : List (Key × D)} {i : Nat} {k : Key} {v : V}, RepK K F es kvs → es[i]? = some (k, v) → KOk k ∧ ∃ d, kvs[i]? = some (k, d) ∧ Rep K F v d
  | _, _, _, _, _, .nil, e => by cases e
  | _, _, 0, _, _, .cons q h _, e => by cases e; exact ⟨q, _, rfl, h⟩
  | _, _, i + 1, _, _, .cons _ _ r, e => RepK.at (i := i) r (by simpa using e)
theorem RepT.at {K : PySem.W.Frag} {F : Hp} : ∀ {es : List (List Key × V)} {kvs : List (List Key × D)} {i : Nat} {k : List Key} {v : V}, RepT K F es kvs → es[i]? = some (k, v) → KsOk k ∧ ∃ d, kvs[i]? = some (k, d) ∧ Rep K F v d
  | _, _, _, _, _, .nil, e => by cases e
  | _, _, 0, _, _, .cons q h _, e => by cases e; exact ⟨q, _, rfl, h⟩
  | _, _, i + 1, _, _, .cons _ _ r, e => RepT.at (i := i) r (by simpa using e)
theorem RepT.length {K : PySem.W.Frag} {F : Hp} : ∀ {es : List (List Key × V)} {kvs : List (List Key × D)}, RepT K F es kvs → es.length = kvs.length
  | _, _, .nil => rfl
  | _, _, .cons _ _ r => congrArg (· + 1) (RepT.length r)
theorem kD_rep {K : PySem.W.Frag} {F : Hp} {k : Key} (h : KOk k) : Rep K F (kV k) (kD k) := by
  cases k with
  | inl i => exact .int i
  | inr x => exact .str x h
theorem kDs_rep {K : PySem.W.Frag} {F : Hp} : ∀ {k : List Key}, (∀ j ∈ k, KOk j) → RepL K F (k.map kV) (k.map kD)
  | [], _ => .nil
  | k :: ks, h => .cons (kD_rep (h k List.mem_cons_self)) (kDs_rep fun j hj => h j (List.mem_cons_of_mem _ hj))
theorem xi_any (he : XE X e w) : XI X tg e (wWalk w) := ⟨PI.imp (pi_any (pe_lk he.pe)) fun σ H R ⟨ρ, F, P, s, hw, k⟩ =>
  ⟨ρ, F, _, s, hw, fun d ρ' F' H' v p s' r f => by
    have seq : ∀ ds, d.items = some ds → P ds ρ' → (∃ a xs, v = .ref a ∧ SqL X.K H' a xs ∧ R (Itl X.K a) H') ∨ (∃ a xs, v = .ref a ∧ SqT X.K H' a xs ∧ R (Itt X.K a) H') ∨ (∃ z, v = .str z ∧ R (Its z) H') ∨
      ∃ d o, v = .ref d ∧ ((∃ kvs, H' d = some (.frz o (.dK kvs)) ∧ R (Itk d o kvs) H') ∨ ∃ kvs, H' d = some (.frz o (.dT kvs)) ∧ R (Itkt d o kvs) H') := fun ds hi p => by
      obtain ⟨kd, a, xs, rfl, hq, r, z⟩ := r.sqK hi
      cases kd
      · refine .inr (.inl ⟨a, xs, rfl, hq F' H' (fun _ _ h => h) s'.sub, k _ _ _ _ _ p s' f ⟨z, fun i H1 F1 hi su sb _ => ?_, fun H1 F1 su sb _ => ⟨xs, hq F1 H1 su sb, by rw [r.length]; exact Nat.le_refl _⟩, fun i H1 F1 x H2 hi su sb _ y => ?_⟩⟩)
        · obtain ⟨x, hx⟩ := getElem_of (l := xs) (by rw [r.length]; exact hi)
          exact ⟨xs, x, hq F1 H1 su sb, hx⟩
        · obtain ⟨rfl, y⟩ := y
          obtain ⟨u, hu, ru⟩ := r.get' (y xs (hq F1 _ su sb))
          exact ⟨u, F1, hu, ru.mono su, .refl, sb⟩
      · refine .inl ⟨a, xs, rfl, hq F' H' (fun _ _ h => h) s'.sub, k _ _ _ _ _ p s' f ⟨z, fun i H1 F1 hi su sb _ => ?_, fun H1 F1 su sb _ => ⟨xs, hq F1 H1 su sb, by rw [r.length]; exact Nat.le_refl _⟩, fun i H1 F1 x H2 hi su sb _ y => ?_⟩⟩
        · obtain ⟨x, hx⟩ := getElem_of (l := xs) (by rw [r.length]; exact hi)
          exact ⟨xs, x, hq F1 H1 su sb, hx⟩
        · obtain ⟨rfl, y⟩ := y
          obtain ⟨u, hu, ru⟩ := r.get' (y xs (hq F1 _ su sb))
          exact ⟨u, F1, hu, ru.mono su, .refl, sb⟩
    cases hd : d.walk with
    | none => rw [hd] at p; exact p.elim
    | some ds =>
      rw [hd] at p
      cases d <;> first
        | exact .inl (seq ds hd p)
        | skip
      case dct kvs =>
        cases hd
        cases r with
        | @dct a es _ hF lz rk =>
        have ok : ∀ o H2, H2 a = some (.frz o (.dK es)) → ItOk X.K (Itk a o es) F' H2 (kvs.map fun q => kD q.1) := fun o H2 h2 => ⟨by rw [List.length_map]; exact lz, fun i H1 F1 hi su sb lk => ⟨lk _ _ _ h2, by rw [rk.length]; simpa using hi⟩, fun H1 F1 su sb lk => ⟨lk _ _ _ h2, by rw [rk.length]; simp⟩, fun i H1 F1 x H2 hi su sb _ y => by
          obtain ⟨rfl, key, v, hv, rfl⟩ := y
          obtain ⟨ko, u, hu, _⟩ := rk.at hv
          exact ⟨kD key, F1, by rw [List.getElem?_map, hu]; rfl, kD_rep ko, .refl, sb⟩⟩
        rcases s'.sub.dK hF with h | ⟨o, h⟩
        · refine .inr ⟨a, _, h, True.intro, fun od => .inr (.inr (.inr ⟨a, od, rfl, .inl ⟨es, upd_same, ?_⟩⟩))⟩
          obtain ⟨s2, f2⟩ := s'.lock (od := od) hF True.intro h
          exact k _ _ _ _ _ p s2 (f.trans (f2 _)) (ok od _ upd_same)
        · exact .inl (.inr (.inr (.inr ⟨a, o, rfl, .inl ⟨es, h, k _ _ _ _ _ p s' f (ok o _ h)⟩⟩)))
      case dcT kvs =>
        cases hd
        cases r with
        | @dcT a es _ hF lz rk =>
        have ok : ∀ o H2, H2 a = some (.frz o (.dT es)) → ItOk X.K (Itkt a o es) F' H2 (kvs.map fun q => kT q.1) := fun o H2 h2 => ⟨by rw [List.length_map]; exact lz, fun i H1 F1 hi su sb lk => ⟨lk _ _ _ h2, by rw [rk.length]; simpa using hi⟩, fun H1 F1 su sb lk => ⟨lk _ _ _ h2, by rw [rk.length]; simp⟩, fun i H1 F1 x H2 hi su sb _ y => by
          obtain ⟨rfl, key, v, q, hv, rfl, hq⟩ := y
          obtain ⟨ko, u, hu, _⟩ := rk.at hv
          obtain ⟨F2, sb2, g2, e2⟩ := sb.tupF X.K hq
          exact ⟨kT key, F2, by rw [List.getElem?_map, hu]; rfl, .tup e2 (by rw [List.length_map]; exact ko.1) (kDs_rep ko.2), g2, sb2⟩⟩
        rcases s'.sub.dT hF with h | ⟨o, h⟩
        · refine .inr ⟨a, _, h, True.intro, fun od => .inr (.inr (.inr ⟨a, od, rfl, .inr ⟨es, upd_same, ?_⟩⟩))⟩
          obtain ⟨s2, f2⟩ := s'.lock (od := od) hF True.intro h
          exact k _ _ _ _ _ p s2 (f.trans (f2 _)) (ok od _ upd_same)
        · exact .inl (.inr (.inr (.inr ⟨a, o, rfl, .inr ⟨es, h, k _ _ _ _ _ p s' f (ok o _ h)⟩⟩)))
      rename_i z
      cases hd
      cases r with
      | str _ hz =>
      have len : (signs z).length = z.cps.size := by unfold signs; rw [List.length_map, Array.length_toList]
      refine .inl (.inr (.inr (.inl ⟨z, rfl, k _ _ _ _ _ p s' f ⟨by rw [len]; exact hz, fun i H1 F1 hi su sb _ => by rw [len] at hi; exact hi, fun H1 F1 su sb _ => by rw [len]; exact Nat.le_refl _, fun i H1 F1 x H2 hi su sb _ y => ?_⟩⟩)))
      obtain ⟨rfl, c, hc, rfl⟩ := y
      refine ⟨.str ⟨#[c]⟩, F1, ?_, .str _ (by show 1 ≤ sizeLine; decide), .refl, sb⟩
      unfold signs
      rw [List.getElem?_map, Array.getElem?_toList, hc]
      rfl⟩⟩
theorem xi_rng1 {p pos : Pos} (hg : Gl X "range") (hm : X.mg "range" = none) (ha : XE X e w) (hs : starEach [e] X.env = [(false, eval e X.env)] := by rfl) (hs' : starEach [e] X.env = (false, eval e X.env) :: starEach [] X.env := by rfl) : XI X tg (.Call (.Name "range" p) [e] [] pos) (wRng1 w) :=
  ⟨PI.imp (pi_range1 hg hm (pa_cons ha.pe pa_nil hs') hs) fun σ H R ⟨ρ, F, P, s, hw, k⟩ =>
    ⟨ρ, F, _, s, hw, fun d ρ' F' H' v p s' r f => by
      cases d <;> first
        | exact p.elim
        | skip
      rename_i j
      cases r
      have len : ((List.range j.toNat).map fun (k : Nat) => D.int k).length = j.toNat := by rw [List.length_map, List.length_range]
      have p0 : (-(2 ^ 62) ≤ j ∧ j ≤ 16777216) := p.1
      refine ⟨j, rfl, p0.1, Int.lt_of_le_of_lt p0.2 (by decide), k _ _ _ _ _ p.2 s' f ⟨by rw [len, sizeLine_eq]; omega, fun i H1 F1 hi su sb _ => by rw [len] at hi; exact hi, fun H1 F1 su sb _ => by rw [len]; exact Nat.le_refl _, fun i H1 F1 x H2 hi su sb _ y => ?_⟩⟩
      obtain ⟨rfl, rfl⟩ := y
      rw [len] at hi
      refine ⟨.int i, F1, by rw [List.getElem?_map, List.getElem?_range hi]; rfl, ?_, .refl, sb⟩
      rw [Int.zero_add]
      exact .int _⟩⟩
theorem xi_rng2 {p pos : Pos} (hg : Gl X "range") (hm : X.mg "range" = none) (ha : XE X e wa) (hb : XE X e2 wb) (hs : starEach [e, e2] X.env = [(false, eval e X.env), (false, eval e2 X.env)] := by rfl) (hs2 : starEach [e2] X.env = [(false, eval e2 X.env)] := by rfl)
    (h1 : starEach [e, e2] X.env = (false, eval e X.env) :: starEach [e2] X.env := by rfl) (h2 : starEach [e2] X.env = (false, eval e2 X.env) :: starEach [] X.env := by rfl) : XI X tg (.Call (.Name "range" p) [e, e2] [] pos) (wRng2 wa wb) :=
  ⟨PI.imp (pi_range2 hg hm (pa_cons ha.pe (pa_cons hb.pe pa_nil h2) h1) hs hs2) fun σ H R ⟨ρ, F, P, s, hw, k⟩ =>
    ⟨ρ, F, _, s, hw, fun d ρ1 F1 H1 v p s1 r1 f1 => ⟨ρ1, F1, _, s1, p, fun e' ρ' F' H' u p s' r2 f2 => by
      match d, e', p, r1, r2 with
      | .int i, .int j, p, r1, r2 =>
      cases r1
      cases r2
      have len : ((List.range (j - i).toNat).map fun (k : Nat) => D.int (i + k)).length = (j - i).toNat := by rw [List.length_map, List.length_range]
      have p0 : (0 ≤ i ∧ i < 2 ^ 62 ∧ -(2 ^ 62) ≤ j ∧ j ≤ 16777216) := p.1
      refine ⟨i, j, rfl, ⟨Int.le_trans (by decide) p0.1, p0.2.1, p0.2.2.1, Int.lt_of_le_of_lt p0.2.2.2 (by decide)⟩, k _ _ _ _ _ p.2 s' (f1.trans f2) ⟨by rw [len, sizeLine_eq]; omega, fun i H1 F1 hi su sb _ => by rw [len] at hi; exact hi, fun H1 F1 su sb _ => by rw [len]; exact Nat.le_refl _, fun n H1 F1 x H2 hi su sb _ y => ?_⟩⟩
      obtain ⟨rfl, rfl⟩ := y
      rw [len] at hi
      exact ⟨.int (i + n), F1, by rw [List.getElem?_map, List.getElem?_range hi]; rfl, .int _, .refl, sb⟩⟩⟩⟩
/-- a new pair -/
theorem new_pair {K : PySem.W.Frag} {F1 H1 H2 : Hp} {T : Addr} {x y : V} {d u : D} (sb : Sb F1 H1) (hT : H1 T = none) (e : H2 = upd H1 T (.tup [x, y])) (rx : Rep K F1 x d) (ry : Rep K F1 y u) :
    ∃ F2, Rep K F2 (.ref T) (.tup [d, u]) ∧ Grow F1 H1 F2 H2 ∧ Sb F2 H2 := by
  subst e
  obtain ⟨g, sb'⟩ := grow_new (o := .tup [x, y]) sb hT
  exact ⟨_, .tup upd_same (by show 2 ≤ sizeLine; decide) (.cons (rx.mono g.fz) (.cons (ry.mono g.fz) .nil)), g, sb'⟩
theorem xi_zip {p pos tpos : Pos} {elts : List Expr} {kk : Nat} (hg : Gl X "zip") (hm : X.mg "zip" = none) (ha : XE X e wa) (hb : XE X e2 wb)
    (h1 : starEach [e, e2] X.env = (false, eval e X.env) :: starEach [e2] X.env := by rfl) (h2 : starEach [e2] X.env = (false, eval e2 X.env) :: starEach [] X.env := by rfl) (hpl : (backTo pos (starEach [e2] X.env)).any (·.1) = false := by rfl) :
    XI X (.Tuple elts kk tpos) (.Call (.Name "zip" p) [e, e2] [] pos) (wZip wa wb) :=
  ⟨PI.imp (pi_zipM hg hm (pa_cons ha.pe (pa_cons hb.pe pa_nil h2) h1) h1 hpl) fun σ H R ⟨ρ, F, P, s, hw, k⟩ =>
    ⟨ρ, F, _, s, hw, fun d ρ1 F1 H1 v p s1 r1 f1 => ⟨ρ1, F1, _, s1, p, fun e' ρ' F' H' u p s' r2 f2 => by
      cases hd : d.items with
      | none => rw [hd] at p; exact p.elim
      | some ds =>
      cases he : e'.items with
      | none => rw [hd, he] at p; exact p.elim
      | some es =>
      rw [hd, he] at p
      obtain ⟨ka, a, xs, rfl, qa, ra, za⟩ := (r1.mono f2.fz).sqK hd
      obtain ⟨kb, b, ys, rfl, qb, rb, _⟩ := r2.sqK he
      have len : ((ds.zip es).map fun p => D.tup [p.1, p.2]).length = min xs.length ys.length := by rw [List.length_map, List.length_zip, ra.length, rb.length]
      refine ⟨ka, kb, a, b, xs, ys, rfl, qa F' H' (fun _ _ h => h) s'.sub, qb F' H' (fun _ _ h => h) s'.sub, k _ _ _ _ _ p s' (f1.trans f2) ⟨by rw [len, ra.length]; exact Nat.le_trans (Nat.min_le_left _ _) za, fun i G1 E1 hi su sb _ => ?_, fun G1 E1 su sb _ => ⟨xs, ys, qa E1 G1 su sb, qb E1 G1 su sb, len⟩, fun i G1 E1 x G2 hi su sb _ y => ?_⟩⟩
      · rw [len] at hi
        obtain ⟨x, hx⟩ := getElem_of (l := xs) (i := i) (by omega)
        obtain ⟨y, hy⟩ := getElem_of (l := ys) (i := i) (by omega)
        exact ⟨xs, ys, x, y, qa E1 G1 su sb, qb E1 G1 su sb, hx, hy⟩
      · obtain ⟨T, x1, y1, rfl, hT, e, yx, yy⟩ := y
        obtain ⟨dx, hdx, rx⟩ := ra.get' (yx xs (qa E1 G1 su sb))
        obtain ⟨dy, hdy, ry⟩ := rb.get' (yy ys (qb E1 G1 su sb))
        obtain ⟨F2, r, g, sb'⟩ := new_pair sb hT e (rx.mono su) (ry.mono su)
        refine ⟨_, F2, ?_, r, g, sb'⟩
        rw [List.getElem?_map, show (ds.zip es)[i]? = some (dx, dy) from by rw [List.getElem?_zip_eq_some]; exact ⟨hdx, hdy⟩]
        rfl⟩⟩⟩
theorem xi_enum {p pos tpos : Pos} {elts : List Expr} {kk : Nat} (hg : Gl X "enumerate") (hm : X.mg "enumerate" = none) (ha : XE X e wa) (hs : starEach [e] X.env = [(false, eval e X.env)] := by rfl) (hs' : starEach [e] X.env = (false, eval e X.env) :: starEach [] X.env := by rfl) :
    XI X (.Tuple elts kk tpos) (.Call (.Name "enumerate" p) [e] [] pos) (wEnum wa) :=
  ⟨PI.imp (pi_enumM hg hm (pa_cons ha.pe pa_nil hs') hs) fun σ H R ⟨ρ, F, P, s, hw, k⟩ =>
    ⟨ρ, F, _, s, hw, fun d ρ' F' H' v p s' r1 f => by
      cases hd : d.items with
      | none => rw [hd] at p; exact p.elim
      | some ds =>
      rw [hd] at p
      obtain ⟨ka, a, xs, rfl, qa, ra, za⟩ := r1.sqK hd
      have len : (ds.zipIdx.map fun p => D.tup [.int p.2, p.1]).length = xs.length := by rw [List.length_map, List.length_zipIdx, ra.length]
      refine ⟨ka, a, xs, rfl, qa F' H' (fun _ _ h => h) s'.sub, k _ _ _ _ _ p s' f ⟨by rw [len, ra.length]; exact za, fun i G1 E1 hi su sb _ => ?_, fun G1 E1 su sb _ => ⟨xs, qa E1 G1 su sb, len⟩, fun i G1 E1 x G2 hi su sb _ y => ?_⟩⟩
      · rw [len] at hi
        obtain ⟨x, hx⟩ := getElem_of (l := xs) (i := i) hi
        exact ⟨xs, x, qa E1 G1 su sb, hx⟩
      · obtain ⟨T, x1, rfl, hT, e, yx⟩ := y
        obtain ⟨dx, hdx, rx⟩ := ra.get' (yx xs (qa E1 G1 su sb))
        obtain ⟨F2, r, g, sb'⟩ := new_pair sb hT e (.int _) (rx.mono su)
        refine ⟨_, F2, ?_, r, g, sb'⟩
        rw [List.getElem?_map, List.getElem?_zipIdx, hdx]
        simp⟩⟩
end

/-! ### for, while -/
def wForL (g : WG) (wb : WS) : List D → TEnv → TEnds → Prop
  | [], ρ, E => E.nx ρ
  | d :: ds, ρ, E => g d ρ fun ρ1 => wb ρ1 (E.lp fun ρ2 => wForL g wb ds ρ2 E)
def wFor (wi : WL) (g : WG) (wb : WS) : WS := fun ρ E => wi ρ fun ds ρ1 => wForL g wb ds ρ1 E
def wWhileN (wc : WT) (wb : WS) : Nat → TEnv → TEnds → Prop
  | 0, _, _ => False
  | n + 1, ρ, E => wc ρ fun c ρ1 => br c (wb ρ1 (E.lp fun ρ2 => wWhileN wc wb n ρ2 E)) (E.nx ρ1)
def wWhile (wc : WT) (wb : WS) : WS := fun ρ E => ∃ n, wWhileN wc wb n ρ E
section
variable {X : Cx} {tg it c : Expr} {body : List Stmt} {wi : WL} {g : WG} {wb : WS} {wc : WT} {ix : List Nat} {pos : Pos}
theorem xs_for (hp : PassesOwn (model X.prog X.w) X.A X.env X.xe) (hc : X.calm = true) (hi : XI X tg it wi) (hg : XG X tg ix g) (hb : XSs X body wb) (hs : ∀ x, foldedSetIterable it X.env x = pure x := by intro _; rfl) : XS X (.For tg it body [] pos) (wFor wi g wb) :=
  ⟨PS.imp (ps_for hp hc hi.pi hg.pg hb.ps hs) fun Dn σ H ⟨ρ, F, E, s, hw, k⟩ =>
    ⟨ρ, F, _, s, hw, fun ds ρ1 F1 H1 J p s1 f1 ok => by
      refine ⟨fun i m σ' H' => m = ds.length - i ∧ i ≤ ds.length ∧ ∃ ρ' F', SR X.K ρ' σ' F' H' ∧ Frm (ownedE ρ1) F1 H1 (ownedE ρ') F' H' ∧ wForL g wb (ds.drop i) ρ' E, ⟨_, rfl, Nat.zero_le _, ρ1, F1, s1, .refl, p⟩, ?_⟩
      rintro i m σ' H' ⟨rfl, hi, ρ', F', s', f', p'⟩
      by_cases hlt : i < ds.length
      · refine .inr ⟨ok.go i H' F' hlt f'.fz s'.sub f'.lk, fun σ2 H2 => ∃ ρ2 F2, SR X.K ρ2 σ2 F2 H2 ∧ Frm (ownedE ρ1) F1 H1 (ownedE ρ2) F2 H2 ∧ wForL g wb (ds.drop (i + 1)) ρ2 E,
          fun σ2 H2 ⟨ρ2, F2, s2, f2, p2⟩ => ⟨_, by omega, rfl, hlt, ρ2, F2, s2, f2, p2⟩, fun x H2 hy => ?_⟩
        obtain ⟨d, F2, hd, r, gr, sb2⟩ := ok.yld i H' F' x H2 hlt f'.fz s'.sub f'.lk hy
        have e : ds.drop i = d :: ds.drop (i + 1) := by
          rw [List.drop_eq_getElem_cons hlt]
          rw [List.getElem?_eq_getElem hlt] at hd
          rw [Option.some.inj hd]
        rw [e] at p'
        have s2 := s'.grow gr sb2
        have f2 : Frm (ownedE ρ1) F1 H1 (ownedE ρ') F2 H2 := f'.trans (.ofGrow gr)
        refine ⟨ρ', F2, d, _, s2, r, p', fun ρ3 σ3 p3 s3 t3 => ⟨ρ3, F2, _, s3, p3, ?_⟩⟩
        have f3 : Frm (ownedE ρ1) F1 H1 (ownedE ρ3) F2 H2 := f2.less t3.mem
        exact ⟨fun ρ4 σ4 F4 H4 p4 s4 f4 => ⟨ρ4, F4, s4, f3.trans f4, p4⟩, fun o ρ4 σ4 F4 H4 v p4 s4 f4 => k.rt _ _ _ _ _ _ p4 s4 (f1.trans (f3.trans f4)), fun ρ4 σ4 F4 H4 p4 s4 f4 => k.nx _ _ _ _ p4 s4 (f1.trans (f3.trans f4)),
          fun ρ4 σ4 F4 H4 p4 s4 f4 => ⟨ρ4, F4, s4, f3.trans f4, p4⟩⟩
      · have e : i = ds.length := by omega
        subst e
        rw [List.drop_length] at p'
        exact .inl ⟨ok.stop H' F' f'.fz s'.sub f'.lk, k.nx _ _ _ _ p' s' (f1.trans f')⟩⟩⟩
theorem xs_while (hp : PassesOwn (model X.prog X.w) X.A X.env X.xe) (hc : XT X c wc) (hb : XSs X body wb) : XS X (.While c body [] pos) (wWhile wc wb) :=
  ⟨PS.imp (ps_while hp hc.pt hb.ps) fun Dn σ H ⟨ρ, F, E, s, ⟨n, hw⟩, k⟩ => by
    refine ⟨fun m σ' H' => ∃ ρ' F', SR X.K ρ' σ' F' H' ∧ Frm (ownedE ρ) F H (ownedE ρ') F' H' ∧ wWhileN wc wb m ρ' E, ⟨n, ρ, F, s, .refl, hw⟩, ?_⟩
    rintro m σ' H' ⟨ρ', F', s', f', p'⟩
    cases m with
    | zero => exact p'.elim
    | succ m =>
    refine ⟨ρ', F', _, s', p', fun b ρ1 F1 H1 p1 s1 f1 => ?_⟩
    cases b with
    | false =>
      have p1 : E.nx ρ1 := by simpa [br] using p1
      rw [if_neg Bool.false_ne_true]
      exact k.nx _ _ _ _ p1 s1 (f'.trans f1)
    | true =>
      have p1 := p1.1 rfl
      rw [if_pos rfl]
      refine ⟨fun σ2 H2 => ∃ ρ2 F2, SR X.K ρ2 σ2 F2 H2 ∧ Frm (ownedE ρ) F H (ownedE ρ2) F2 H2 ∧ wWhileN wc wb m ρ2 E, fun σ2 H2 q => ⟨m, Nat.lt_succ_self _, q⟩, ρ1, F1, _, s1, p1, ?_⟩
      have f2 := f'.trans f1
      exact ⟨fun ρ4 σ4 F4 H4 p4 s4 f4 => ⟨ρ4, F4, s4, f2.trans f4, p4⟩, fun o ρ4 σ4 F4 H4 v p4 s4 f4 => k.rt _ _ _ _ _ _ p4 s4 (f2.trans f4), fun ρ4 σ4 F4 H4 p4 s4 f4 => k.nx _ _ _ _ p4 s4 (f2.trans f4),
        fun ρ4 σ4 F4 H4 p4 s4 f4 => ⟨ρ4, F4, s4, f2.trans f4, p4⟩⟩⟩
end
end Tr
/-! The tree layer: comprehensions, defs. -/
namespace Tr
open PySem PySem.Spec PyProof.Rows L2

/-! ### comprehensions -/
def wipeE (ρ : TEnv) : List Nat → TEnv
  | [] => ρ
  | v :: vs => put (wipeE ρ vs) v none
def wipeC (ρ : TEnv) : List Nat → (TEnv → Prop) → Prop
  | [], k => k ρ
  | v :: vs, k => wipeC ρ vs fun ρ' => putC ρ' v none k
theorem wipeC_eq (ρ : TEnv) : ∀ (vs : List Nat) (k : TEnv → Prop), wipeC ρ vs k = k (wipeE ρ vs)
  | [], _ => rfl
  | v :: vs, k => by
    show wipeC ρ vs (fun ρ' => putC ρ' v none k) = k (put (wipeE ρ vs) v none)
    rw [wipeC_eq, putC_eq, put_eq]
/-- the block's names as they were ahead -/
def resE (ρ0 : TEnv) : List Nat → TEnv → TEnv
  | [], ρ => ρ
  | v :: vs, ρ => match nth ρ0 v with
    | some (.fz d) => put (resE ρ0 vs ρ) v (some (.fz d))
    | _ => resE ρ0 vs ρ
def resC (ρ0 : TEnv) : List Nat → TEnv → (TEnv → Prop) → Prop
  | [], ρ, k => k ρ
  | v :: vs, ρ, k => resC ρ0 vs ρ fun ρ' => match nth ρ0 v with
    | some (.fz d) => putC ρ' v (some (.fz d)) k
    | _ => k ρ'
theorem resC_eq (ρ0 : TEnv) : ∀ (vs : List Nat) (ρ : TEnv) (k : TEnv → Prop), resC ρ0 vs ρ k = k (resE ρ0 vs ρ)
  | [], _, _ => rfl
  | v :: vs, ρ, k => by
    unfold resC resE
    rw [resC_eq]
    cases nth ρ0 v with
    | none => rfl
    | some o => cases o <;> first
      | rfl
      | (show putC _ _ _ _ = k (put (resE ρ0 vs ρ) v _); rw [putC_eq, put_eq])
def wYes : WT := fun ρ P => P true ρ
def wLcL (g : WG) (wt : WT) (we : WO) (own : List Nat) : List D → TEnv → List O → (List O → TEnv → Prop) → Prop
  | [], ρ, acc, P => P acc ρ
  | d :: ds, ρ, acc, P => g d ρ fun ρ1 => wt ρ1 fun b ρ2 => br b (we ρ2 fun o ρ3 => wLcL g wt we own ds (wipeE ρ3 own) (acc ++ [o]) P) (wLcL g wt we own ds (wipeE ρ2 own) acc P)
def wLc (wi : WL) (g : WG) (wt : WT) (we : WO) (own : List Nat) : WO := fun ρ P => wi ρ fun ds ρ1 => wipeC ρ1 own fun ρ' => wLcL g wt we own ds ρ' [] fun os ρ2 => ∀ a, resC ρ1 own ρ2 (P (.lst a os))
section
variable {K : PySem.W.Frag} {ρ : TEnv} {σ : L2.St} {F H : Hp}
theorem SR.pushN (s : SR K ρ σ F H) : SR K (none :: ρ) (none :: σ) F H where
  sub := s.sub
  len := by rw [List.length_cons, List.length_cons, s.len]
  slot := fun i o e => by
    cases i with
    | zero => cases e
    | succ i => exact s.slot i o (by simpa using e)
  own := s.own
  nd := s.nd
theorem SR.drop1 (s : SR K ρ σ F H) (v : Nat) : SR K (put ρ v none) (σ.set v none) F H ∧ ∀ b, b ∈ ownedE (put ρ v none) → b ∈ ownedE ρ := by
  obtain ⟨s1, m⟩ := s.pushN.store (i := v)
  rw [← put_eq] at s1 m
  exact ⟨s1, m⟩
theorem SR.wipe (s : SR K ρ σ F H) : ∀ vs : List Nat, SR K (wipeE ρ vs) (L2.wipe σ vs) F H ∧ ∀ b, b ∈ ownedE (wipeE ρ vs) → b ∈ ownedE ρ
  | [] => ⟨s, fun _ h => h⟩
  | v :: vs => by
    obtain ⟨s1, m1⟩ := s.wipe vs
    obtain ⟨s2, m2⟩ := s1.drop1 v
    exact ⟨s2, fun b h => m1 b (m2 b h)⟩
theorem SR.weak {σ' : L2.St} (s : SR K ρ σ' F H) (h : ∀ (i : Nat) (v : V), σ'[i]? = some (some v) → σ[i]? = some (some v)) (l : σ'.length = σ.length) : SR K ρ σ F H :=
  ⟨s.sub, s.len.trans l, fun i o e => let ⟨v, hv, r⟩ := s.slot i o e; ⟨v, h i v hv, r⟩, s.own, s.nd⟩
theorem SR.res {ρ0 : TEnv} {F0 H0 : Hp} (s0 : SR K ρ0 σ F0 H0) (su : Sub F0 F) (s : SR K ρ σ F H) : ∀ vs : List Nat, SR K (resE ρ0 vs ρ) σ F H ∧ ∀ b, b ∈ ownedE (resE ρ0 vs ρ) → b ∈ ownedE ρ
  | [] => ⟨s, fun _ h => h⟩
  | v :: vs => by
    obtain ⟨s1, m1⟩ := SR.res s0 su s vs
    unfold resE
    cases hn : nth ρ0 v with
    | none => exact ⟨s1, m1⟩
    | some o =>
      cases o <;> first
        | exact ⟨s1, m1⟩
        | skip
      rename_i d
      obtain ⟨x, hx, r⟩ := s0.slot v _ (nth_eq hn)
      cases r with
      | fz r =>
        obtain ⟨s2, m2⟩ := (s1.pushD (r.mono su)).set hx
        rw [← put_eq] at s2 m2
        exact ⟨s2, fun b h => m1 b (m2 b h)⟩
theorem wipe_get (τ : L2.St) (vs : List Nat) (j : Nat) : (L2.wipe τ vs)[j]? = if j ∈ vs ∧ j < τ.length then some none else τ[j]? := by
  induction vs with
  | nil => simp [L2.wipe]
  | cons v vs ih =>
    show ((L2.wipe τ vs).set v none)[j]? = _
    rw [List.getElem?_set, wipe_length, ih]
    by_cases e : v = j
    · subst e
      by_cases q : v < τ.length
      · simp [q]
      · simp [q]
    · have e' : j ≠ v := fun z => e z.symm
      simp [e, e']
theorem wipe_at {τ : L2.St} {vs : List Nat} {j : Nat} (h : j ∉ vs) : (L2.wipe τ vs)[j]? = τ[j]? := by
  rw [wipe_get, if_neg (fun z => h z.1)]
theorem wipe_cong {vs : List Nat} {σ σ' : L2.St} (h : ∀ j, j ∉ vs → σ'[j]? = σ[j]?) (l : σ'.length = σ.length) : L2.wipe σ' vs = L2.wipe σ vs := by
  apply List.ext_getElem?
  intro j
  rw [wipe_get, wipe_get, l]
  by_cases q : j ∈ vs
  · by_cases q2 : j < σ.length
    · rw [if_pos ⟨q, q2⟩, if_pos ⟨q, q2⟩]
    · rw [if_neg (fun z => q2 z.2), if_neg (fun z => q2 z.2), List.getElem?_eq_none (by omega), List.getElem?_eq_none (by omega)]
  · rw [if_neg (fun z => q z.1), if_neg (fun z => q z.1)]
    exact h j q
end
structure XTs (X : Cx) (ifs : List Expr) (w : WT) : Prop where
  pt : PTs X ifs (liftT X.K w)
section
variable {X : Cx} {c : Expr} {wt : WT}
theorem xts_nil : XTs X [] wYes := ⟨⟨fun pins s σ H Q I ⟨ρ, F, P, sr, hw, k⟩ => pts_nil.run pins s σ H Q I (k _ _ _ _ hw sr .refl)⟩⟩
theorem xts_one (h : XT X c wt) : XTs X [c] wt := ⟨pts_one h.pt⟩
/-- a walk whose iterator leans on what the slots hold -/
structure ItG (K : PySem.W.Frag) (J : It) (F H0 : Hp) (ds : List D) (C : TEnv → Prop) : Prop where
  sz : ds.length ≤ sizeLine
  go : ∀ i H F1 ρ σ, i < ds.length → Sub F F1 → SR K ρ σ F1 H → Lk H0 H → C ρ → J.go i H
  stop : ∀ H F1 ρ σ, Sub F F1 → SR K ρ σ F1 H → Lk H0 H → C ρ → J.stop ds.length H
  yld : ∀ i H F1 ρ σ x H', i < ds.length → Sub F F1 → SR K ρ σ F1 H → Lk H0 H → C ρ → J.yld i H x H' → ∃ d F2, ds[i]? = some d ∧ Rep K F2 x d ∧ Grow F1 H F2 H' ∧ Sb F2 H'
theorem ItOk.g {K : PySem.W.Frag} {J : It} {F H0 : Hp} {ds : List D} (ok : ItOk K J F H0 ds) : ItG K J F H0 ds fun _ => True :=
  ⟨ok.sz, fun i H F1 ρ σ hi su s lk _ => ok.go i H F1 hi su s.sub lk, fun H F1 ρ σ su s lk _ => ok.stop H F1 su s.sub lk, fun i H F1 ρ σ x H' hi su s lk _ y => ok.yld i H F1 x H' hi su s.sub lk y⟩
theorem tLc_core {K : PySem.W.Frag} {g g' : WG} {C : TEnv → Prop} {ix vs : List Nat} {we : WO} (hgc : ∀ d ρ P, g' d ρ P → C ρ ∧ g d ρ P) (hix : ∀ j ∈ ix, j ∈ vs) {σ : L2.St} {Q : VK} {ds : List D} {ρ1 : TEnv} {F1 H1 : Hp} {J : It} {P : O → TEnv → Prop} {R : List O → TEnv → Prop}
    (s1 : SR K ρ1 σ F1 H1) (ok : ItG K J F1 H1 ds C) (hR : ∀ os ρ2, R os ρ2 → C ρ2 ∧ ∀ a, P (.lst a os) (resE ρ1 vs ρ2)) (p : wLcL g' wt we vs ds (wipeE ρ1 vs) [] R)
    (k : ∀ o ρ' F' H' v, P o ρ' → SR K (some o :: ρ') (some v :: σ) F' H' → Frm (ownedE ρ1) F1 H1 (ownedE (some o :: ρ')) F' H' → Q v H') :
    tLc (fun _ H R => R J H) (liftG K ix g) (liftT K wt) (liftO K we) vs σ H1 Q := by
  intro D hD
  obtain ⟨sl, fl⟩ := Res.lst (xs := []) (ds := []) hD (Nat.zero_le _) .nil _ _ s1
  have sl : SR K (some (.lst D []) :: ρ1) (some (.ref D) :: σ) F1 (upd H1 D (.lst [])) := sl
  have fl : Frm (ownedE ρ1) F1 H1 (ownedE (some (.lst D []) :: ρ1)) F1 (upd H1 D (.lst [])) := fl
  have sw : SR K (some (.lst D []) :: wipeE ρ1 vs) (some (.ref D) :: L2.wipe σ vs) F1 (upd H1 D (.lst [])) ∧ ∀ b, b ∈ ownedE (some (.lst D []) :: wipeE ρ1 vs) → b ∈ ownedE (some (.lst D []) :: ρ1) := by
    obtain ⟨s2, m2⟩ := sl.pop.wipe vs
    have n := List.nodup_append.mp sl.nd
    refine ⟨s2.push sl.top (fun a ha => sl.own a (List.mem_append_left _ ha)) (List.nodup_append.mpr ⟨n.1, s2.nd, fun a ha b hb => n.2.2 a ha b (m2 b hb)⟩), fun b hb => ?_⟩
    rcases List.mem_append.mp hb with h | h
    · exact List.mem_append_left _ h
    · exact List.mem_append_right _ (m2 b h)
  refine ⟨fun i m H' => m = ds.length - i ∧ i ≤ ds.length ∧ ∃ ρ' F' acc, SR K (some (.lst D acc) :: ρ') (some (.ref D) :: L2.wipe σ vs) F' H' ∧ Frm (ownedE ρ1) F1 H1 (ownedE (some (.lst D acc) :: ρ')) F' H' ∧ acc.length ≤ i ∧
    wLcL g' wt we vs (ds.drop i) ρ' acc R, ⟨_, rfl, Nat.zero_le _, wipeE ρ1 vs, F1, [], sw.1, fl.less sw.2, Nat.le_refl _, p⟩, ?_⟩
  rintro i m H' ⟨rfl, hi, ρ', F', acc, s', f', la, p'⟩
  by_cases hlt : i < ds.length
  · rw [List.drop_eq_getElem_cons hlt] at p'
    have cg := hgc _ _ _ p'
    refine .inr ⟨ok.go i H' F' _ _ hlt f'.fz s'.pop f'.lk cg.1, fun H2 => ∃ ρ2 F2 acc2, SR K (some (.lst D acc2) :: ρ2) (some (.ref D) :: L2.wipe σ vs) F2 H2 ∧ Frm (ownedE ρ1) F1 H1 (ownedE (some (.lst D acc2) :: ρ2)) F2 H2 ∧ acc2.length ≤ i + 1 ∧
      wLcL g' wt we vs (ds.drop (i + 1)) ρ2 acc2 R, fun H2 ⟨ρ2, F2, acc2, s2, f2, l2, p2⟩ => ⟨_, by omega, rfl, hlt, ρ2, F2, acc2, s2, f2, l2, p2⟩, fun x H2 hy => ?_⟩
    obtain ⟨d, F2, hd, r, gr, sb2⟩ := ok.yld i H' F' _ _ x H2 hlt f'.fz s'.pop f'.lk cg.1 hy
    rw [List.getElem?_eq_getElem hlt] at hd
    have e : ds[i] = d := Option.some.inj hd
    rw [e] at cg
    have s2 := s'.grow gr sb2
    have f2 : Frm (ownedE ρ1) F1 H1 (ownedE (some (.lst D acc) :: ρ')) F2 H2 := f'.trans (.ofGrow gr)
    refine ⟨ρ', F2, d, _, s2.pop, r, cg.2, fun ρ3 σ3 p3 s3 t3 => ?_⟩
    have hw3 : L2.wipe σ3 vs = L2.wipe σ vs := by
      rw [wipe_cong (fun j hj => t3.at_ j fun z => hj (hix j z)) t3.len]
      exact wipe_cong (fun j hj => wipe_at hj) (wipe_length _ _)
    -- the list over the target's store
    have n := List.nodup_append.mp s2.nd
    have s4 : SR K (some (.lst D acc) :: ρ3) (some (.ref D) :: σ3) F2 H2 := s3.push s2.top (fun a ha => s2.own a (List.mem_append_left _ ha)) (List.nodup_append.mpr ⟨n.1, s3.nd, fun a ha b hb => n.2.2 a ha b (t3.mem b hb)⟩)
    have f4 : Frm (ownedE ρ1) F1 H1 (ownedE (some (.lst D acc) :: ρ3)) F2 H2 := f2.less fun b hb => by
      rcases List.mem_append.mp hb with h | h
      · exact List.mem_append_left _ h
      · exact List.mem_append_right _ (t3.mem b h)
    refine ⟨hw3, ρ3, F2, _, s3, p3, fun b ρ4 F4 H4 p4 s5 f5 => ?_⟩
    obtain ⟨s6, f6⟩ := s4.frame s5 f5
    -- what is left of the slots
    have fin : ∀ {ρ7 : TEnv} {F7 H7 : Hp} {acc' : List O}, SR K (some (.lst D acc') :: ρ7) (some (.ref D) :: σ3) F7 H7 → SR K (some (.lst D acc') :: wipeE ρ7 vs) (some (.ref D) :: L2.wipe σ vs) F7 H7 ∧ ∀ b, b ∈ ownedE (some (.lst D acc') :: wipeE ρ7 vs) → b ∈ ownedE (some (.lst D acc') :: ρ7) := fun {ρ7 F7 H7 acc'} q => by
      obtain ⟨s8, m8⟩ := q.pop.wipe vs
      rw [hw3] at s8
      have n := List.nodup_append.mp q.nd
      refine ⟨s8.push q.top (fun a ha => q.own a (List.mem_append_left _ ha)) (List.nodup_append.mpr ⟨n.1, s8.nd, fun a ha b hb => n.2.2 a ha b (m8 b hb)⟩), fun b hb => ?_⟩
      rcases List.mem_append.mp hb with h | h
      · exact List.mem_append_left _ h
      · exact List.mem_append_right _ (m8 b h)
    cases b with
    | false =>
      have p4 : wLcL g' wt we vs (ds.drop (i + 1)) (wipeE ρ4 vs) acc R := by simpa [br] using p4
      rw [if_neg Bool.false_ne_true]
      obtain ⟨s8, m8⟩ := fin s6
      exact ⟨_, _, _, s8, (f4.trans f6).less m8, by omega, p4⟩
    | true =>
      have p4 := p4.1 rfl
      rw [if_pos rfl]
      refine ⟨ρ4, F4, _, s5, p4, fun o ρ5 F5 H5 y p5 s7 f7 => ?_⟩
      -- the new item above the list
      have base : SR K (some o :: some (.lst D acc) :: ρ5) (some y :: some (.ref D) :: σ3) F5 H5 ∧ Frm (ownedE (some (.lst D acc) :: ρ4)) F4 H4 (ownedE (some o :: some (.lst D acc) :: ρ5)) F5 H5 := by
        obtain ⟨s8, f8⟩ := s6.frame s7 f7
        have n8 := List.nodup_append.mp s8.nd
        have n9 : o.owned.Nodup ∧ (ownedE ρ5).Nodup ∧ ∀ a ∈ o.owned, ∀ b ∈ ownedE ρ5, a ≠ b := List.nodup_append.mp n8.2.1
        have q : SR K (some (.lst D acc) :: ρ5) (some (.ref D) :: σ3) F5 H5 := s7.pop.push s8.top (fun a ha => s8.own a (List.mem_append_left _ ha)) (List.nodup_append.mpr ⟨n8.1, n9.2.1, fun a ha b hb => n8.2.2 a ha b (List.mem_append_right _ hb)⟩)
        refine ⟨q.push s7.top (fun a ha => s7.own a (List.mem_append_left _ ha)) (List.nodup_append.mpr ⟨n9.1, q.nd, fun a ha b hb e => ?_⟩), f8.less fun b hb => ?_⟩
        · subst e
          rcases List.mem_append.mp hb with h | h
          · exact n8.2.2 a h a (List.mem_append_left _ ha) rfl
          · exact n9.2.2 a ha a h rfl
        · rcases List.mem_append.mp hb with h | h
          · exact List.mem_append_right _ (List.mem_append_left _ h)
          · rcases List.mem_append.mp h with h | h
            · exact List.mem_append_left _ h
            · exact List.mem_append_right _ (List.mem_append_right _ h)
      obtain ⟨b1, b2⟩ := base
      have q := b1.pop.top
      cases q with
      | @lst _ xs _ hx z r =>
      have lz : acc.length < sizeLine := Nat.lt_of_le_of_lt la (Nat.lt_of_lt_of_le hlt ok.sz)
      obtain ⟨s9, f9⟩ := b1.snoc hx lz
      obtain ⟨s10, m10⟩ := fin s9
      exact ⟨xs, hx, by rw [r.length]; exact lz, _, _, _, s10, (((f4.trans f6).trans b2).trans f9).less m10, by rw [List.length_append]; exact Nat.succ_le_succ la, p5⟩
  · have e : i = ds.length := by omega
    subst e
    rw [List.drop_length] at p'
    have pr := hR _ _ p'
    refine .inl ⟨ok.stop H' F' _ _ f'.fz s'.pop f'.lk pr.1, ?_⟩
    have sa : SR K (some (.lst D acc) :: ρ') (some (.ref D) :: σ) F' H' := s'.weak (fun j v e => by
      cases j with
      | zero => exact e
      | succ j => exact (wipe_some (vs := vs) (show (L2.wipe σ vs)[j]? = some (some v) from e)).1) (by rw [List.length_cons, List.length_cons, wipe_length])
    obtain ⟨sr, mr⟩ := SR.res s1 f'.fz sa.pop vs
    have n := List.nodup_append.mp sa.nd
    have sb : SR K (some (.lst D acc) :: resE ρ1 vs ρ') (some (.ref D) :: σ) F' H' := sr.push sa.top (fun a ha => sa.own a (List.mem_append_left _ ha)) (List.nodup_append.mpr ⟨n.1, sr.nd, fun a ha b hb => n.2.2 a ha b (mr b hb)⟩)
    exact k _ _ _ _ _ (pr.2 D) sb (f'.less fun b hb => by
      rcases List.mem_append.mp hb with h | h
      · exact List.mem_append_left _ h
      · exact List.mem_append_right _ (mr b h))
theorem tLc_of {K : PySem.W.Frag} {wi : WL} {g : WG} {ix vs : List Nat} {we : WO} (hix : ∀ j ∈ ix, j ∈ vs) {σ : L2.St} {H : Hp} {Q : VK} (h : liftO K (wLc wi g wt we vs) σ H Q) :
    tLc (liftI K wi) (liftG K ix g) (liftT K wt) (liftO K we) vs σ H Q := by
  obtain ⟨ρ, F, P, s, hw, k⟩ := h
  refine ⟨ρ, F, _, s, hw, fun ds ρ1 F1 H1 J p s1 f1 ok => ?_⟩
  rw [wipeC_eq] at p
  simp only [resC_eq] at p
  exact tLc_core (C := fun _ => True) (fun d ρ P h => ⟨trivial, h⟩) hix s1 ok.g (fun os ρ2 h => ⟨trivial, h⟩) p fun o ρ' F' H' v po so fo => k o ρ' F' H' v po so (f1.trans fo)
/-- the target, while a held thing stays as it is -/
def gChk (i : Nat) (o : O) (g : WG) : WG := fun d ρ P => nth ρ i = some o ∧ g d ρ P
/-- a comprehension over a name's held list of data: it stays held -/
def wLcH (i : Nat) (g : WG) (wt : WT) (we : WO) (own : List Nat) : WO := fun ρ P => match nth ρ i with
  | some (.lst a os) => ∃ us : List D, os = us.map .fz ∧ wipeC ρ own fun ρ' => wLcL (gChk i (.lst a os) g) wt we own us ρ' [] fun acc ρ2 => nth ρ2 i = some (.lst a os) ∧ ∀ b, resC ρ own ρ2 (P (.lst b acc))
  | some (.fz d) => match d.walk with
    | some ds => wipeC ρ own fun ρ' => wLcL g wt we own ds ρ' [] fun acc ρ2 => ∀ b, resC ρ own ρ2 (P (.lst b acc))
    | none => False
  | _ => False
theorem RepOL.data {K : PySem.W.Frag} {F H : Hp} : ∀ {us : List D} {vs : List V}, RepOL K F H vs (us.map .fz) → RepL K F vs us
  | [], _, .nil => .nil
  | _ :: us, _, .cons (.fz h) r => .cons h (RepOL.data (us := us) r)
/-- a walk of a held list -/
def tWalkH (K : PySem.W.Frag) (i : Nat) : TI := fun σ H R => ∃ ρ F a us, SR K ρ σ F H ∧ nth ρ i = some (.lst a (us.map .fz)) ∧ (∀ J, ItG K J F H us (fun ρ => nth ρ i = some (.lst a (us.map .fz))) → R J H)
theorem pi_walkH {tg e : Expr} {i : Nat} (h : PE X e (tVar i)) : PI X tg e (tWalkH X.K i) := PI.imp (pi_any h) fun σ H R ⟨ρ, F, a, us, s, hn, k⟩ => by
  obtain ⟨v, hv, r⟩ := s.slot i _ (nth_eq hn)
  cases r with
  | @lst _ xs _ hx z rl =>
  have get : ∀ {ρ2 : TEnv} {σ2 : L2.St} {F2 H2 : Hp}, SR X.K ρ2 σ2 F2 H2 → nth ρ2 i = some (.lst a (us.map .fz)) → ∃ ys, H2 a = some (.lst ys) ∧ RepL X.K F2 ys us := fun s2 n2 => by
    obtain ⟨v2, _, r2⟩ := s2.slot i _ (nth_eq n2)
    cases r2 with
    | lst h2 _ rl2 => exact ⟨_, h2, rl2.data⟩
  rw [List.length_map] at z
  refine ⟨_, hv, .inl ⟨a, xs, rfl, .inl (.inl hx), k _ ⟨z, fun j H1 F1 ρ1 σ1 hj su s1 _ n1 => ?_, fun H1 F1 ρ1 σ1 su s1 _ n1 => ?_, fun j H1 F1 ρ1 σ1 x H2 hj su s1 _ n1 y => ?_⟩⟩⟩
  · obtain ⟨ys, hy, ry⟩ := get s1 n1
    obtain ⟨x, hx⟩ := getElem_of (l := ys) (by rw [ry.length]; exact hj)
    exact ⟨ys, x, .inl (.inl hy), hx⟩
  · obtain ⟨ys, hy, ry⟩ := get s1 n1
    exact ⟨ys, .inl (.inl hy), by rw [ry.length]; exact Nat.le_refl _⟩
  · obtain ⟨ys, hy, ry⟩ := get s1 n1
    obtain ⟨rfl, y⟩ := y
    obtain ⟨u, hu, ru⟩ := ry.get' (y ys (.inl (.inl hy)))
    exact ⟨u, F1, hu, ru, .refl, s1.sub⟩
theorem tLc_ofH {K : PySem.W.Frag} {i : Nat} {g : WG} {ix vs : List Nat} {we : WO} (hix : ∀ j ∈ ix, j ∈ vs) {σ : L2.St} {H : Hp} {Q : VK} (h : liftO K (wLcH i g wt we vs) σ H Q) :
    tLc (fun σ H R => tWalkH K i σ H R ∨ liftI K (wWalk (wVar i)) σ H R) (liftG K ix g) (liftT K wt) (liftO K we) vs σ H Q := by
  obtain ⟨ρ, F, P, s, hw, k⟩ := h
  unfold wLcH at hw
  cases hn : nth ρ i with
  | none => rw [hn] at hw; exact hw.elim
  | some o =>
  rw [hn] at hw
  cases o <;> first
    | (exact hw.elim)
    | skip
  · rename_i d
    have hw : (match d.walk with
      | some ds => wipeC ρ vs fun ρ' => wLcL g wt we vs ds ρ' [] fun acc ρ2 => ∀ b, resC ρ vs ρ2 (P (.lst b acc))
      | none => False) := hw
    cases hd : d.walk with
    | none => rw [hd] at hw; exact hw.elim
    | some ds =>
    rw [hd] at hw
    refine .inr (tLc_of (wi := wWalk (wVar i)) hix (Q := Q) ⟨ρ, F, P, s, ?_, k⟩)
    unfold wLc wWalk wVar
    rw [hn]
    show (match d.walk with
      | some ds => wipeC ρ vs fun ρ' => wLcL g wt we vs ds ρ' [] fun acc ρ2 => ∀ b, resC ρ vs ρ2 (P (.lst b acc))
      | none => False)
    rw [hd]
    exact hw
  · rename_i a os
    obtain ⟨us, rfl, p⟩ := hw
    refine .inl ⟨ρ, F, a, us, s, hn, fun J ok => ?_⟩
    rw [wipeC_eq] at p
    simp only [resC_eq] at p
    exact tLc_core (fun d ρ P h => h) hix s ok (fun os ρ2 h => h) p k
end
section
variable {X : Cx} {elt tg iter : Expr} {ifs : List Expr} {scope : Scope} {own : List (Str × Nat)} {pos : Pos} {wi : WL} {g : WG} {ix : List Nat} {wt : WT} {we : WO}
theorem xo_lc (hc : X.calm = true) (hN : X.N.Nodup) (hi : XI X tg iter wi) (ok : BlkOk X.N X.env.scope scope own)
    (hg : ∀ (s : Shared) (H : Hp) (C : Addr) (cl : List (Str × Addr)) (fp : List Addr), XG (X.blk s H scope (compEnvC scope cl C X.env) fp) tg ix g) (ht : ∀ (s : Shared) (H : Hp) (C : Addr) (cl : List (Str × Addr)) (fp : List Addr), XTs (X.blk s H scope (compEnvC scope cl C X.env) fp) ifs wt)
    (he : ∀ (s : Shared) (H : Hp) (C : Addr) (cl : List (Str × Addr)) (fp : List Addr), XO (X.blk s H scope (compEnvC scope cl C X.env) fp) elt we) (hix : ∀ j ∈ ix, j ∈ own.map (·.2)) (hs : ∀ x, foldedSetIterable iter X.env x = pure x := by intro _; rfl) :
    XO X (.ListComp elt [⟨tg, iter, ifs, 0⟩] scope pos) (wLc wi g wt we (own.map (·.2))) :=
  ⟨PE.imp (pe_lc hc hN hi.pi ok (fun s H C cl fp => (hg s H C cl fp).pg) (fun s H C cl fp => (ht s H C cl fp).pt) (fun s H C cl fp => (he s H C cl fp).pe) hs) fun _ _ _ h => tLc_of hix h⟩
theorem xo_lcH {i : Nat} (hc : X.calm = true) (hN : X.N.Nodup) (hi : PE X iter (tVar i)) (ok : BlkOk X.N X.env.scope scope own)
    (hg : ∀ (s : Shared) (H : Hp) (C : Addr) (cl : List (Str × Addr)) (fp : List Addr), XG (X.blk s H scope (compEnvC scope cl C X.env) fp) tg ix g) (ht : ∀ (s : Shared) (H : Hp) (C : Addr) (cl : List (Str × Addr)) (fp : List Addr), XTs (X.blk s H scope (compEnvC scope cl C X.env) fp) ifs wt)
    (he : ∀ (s : Shared) (H : Hp) (C : Addr) (cl : List (Str × Addr)) (fp : List Addr), XO (X.blk s H scope (compEnvC scope cl C X.env) fp) elt we) (hix : ∀ j ∈ ix, j ∈ own.map (·.2)) (hs : ∀ x, foldedSetIterable iter X.env x = pure x := by intro _; rfl) :
    XO X (.ListComp elt [⟨tg, iter, ifs, 0⟩] scope pos) (wLcH i g wt we (own.map (·.2))) :=
  ⟨PE.imp (pe_lc hc hN (PI_or (pi_walkH hi) (xi_any (xe_pv hi)).pi) ok (fun s H C cl fp => (hg s H C cl fp).pg) (fun s H C cl fp => (ht s H C cl fp).pt) (fun s H C cl fp => (he s H C cl fp).pe) hs) fun _ _ _ h => tLc_ofH hix h⟩
/-- y = [.. for .. in x] on one row, x held -/
theorem xs_lcH {i j : Nat} {y : Str} {py spos : Pos} (hc : X.calm = true) (hN : X.N.Nodup) (hy : X.N[j]? = some y) (hyl : X.env.scope.names.lookup y = some .local)
    (hsw : swapsWith (.ListComp elt [⟨tg, iter, ifs, 0⟩] scope pos) (some (.Name y py)) spos.line X.env = pure true) (hi : PE X iter (tVar i)) (ok : BlkOk X.N X.env.scope scope own)
    (hg : ∀ (s : Shared) (H : Hp) (C : Addr) (cl : List (Str × Addr)) (fp : List Addr), XG (X.blk s H scope (compEnvC scope cl C X.env) fp) tg ix g) (ht : ∀ (s : Shared) (H : Hp) (C : Addr) (cl : List (Str × Addr)) (fp : List Addr), XTs (X.blk s H scope (compEnvC scope cl C X.env) fp) ifs wt)
    (he : ∀ (s : Shared) (H : Hp) (C : Addr) (cl : List (Str × Addr)) (fp : List Addr), XO (X.blk s H scope (compEnvC scope cl C X.env) fp) elt we) (hix : ∀ j ∈ ix, j ∈ own.map (·.2)) (hs : ∀ x, foldedSetIterable iter X.env x = pure x := by intro _; rfl) :
    XS X (.Assign [.Name y py] (.ListComp elt [⟨tg, iter, ifs, 0⟩] scope pos) spos) (wSet j (wLcH i g wt we (own.map (·.2)))) :=
  xs_set (ps_setLc hc hN hy hyl hsw (PI_or (pi_walkH hi) (xi_any (xe_pv hi)).pi) ok (fun s H C cl fp => (hg s H C cl fp).pg) (fun s H C cl fp => (ht s H C cl fp).pt) (fun s H C cl fp => (he s H C cl fp).pe) hs) fun _ _ _ h => tLc_ofH hix h
/-- y = [..] on one row -/
theorem xs_lc {i : Nat} {y : Str} {py spos : Pos} (hc : X.calm = true) (hN : X.N.Nodup) (hy : X.N[i]? = some y) (hyl : X.env.scope.names.lookup y = some .local)
    (hsw : swapsWith (.ListComp elt [⟨tg, iter, ifs, 0⟩] scope pos) (some (.Name y py)) spos.line X.env = pure true) (hi : XI X tg iter wi) (ok : BlkOk X.N X.env.scope scope own)
    (hg : ∀ (s : Shared) (H : Hp) (C : Addr) (cl : List (Str × Addr)) (fp : List Addr), XG (X.blk s H scope (compEnvC scope cl C X.env) fp) tg ix g) (ht : ∀ (s : Shared) (H : Hp) (C : Addr) (cl : List (Str × Addr)) (fp : List Addr), XTs (X.blk s H scope (compEnvC scope cl C X.env) fp) ifs wt)
    (he : ∀ (s : Shared) (H : Hp) (C : Addr) (cl : List (Str × Addr)) (fp : List Addr), XO (X.blk s H scope (compEnvC scope cl C X.env) fp) elt we) (hix : ∀ j ∈ ix, j ∈ own.map (·.2)) (hs : ∀ x, foldedSetIterable iter X.env x = pure x := by intro _; rfl) :
    XS X (.Assign [.Name y py] (.ListComp elt [⟨tg, iter, ifs, 0⟩] scope pos) spos) (wSet i (wLc wi g wt we (own.map (·.2)))) :=
  xs_set (ps_setLc hc hN hy hyl hsw hi.pi ok (fun s H C cl fp => (hg s H C cl fp).pg) (fun s H C cl fp => (ht s H C cl fp).pt) (fun s H C cl fp => (he s H C cl fp).pe) hs) fun _ _ _ h => tLc_of hix h
end

/-! ### defs -/
/-- the first address of a thing -/
def O.root : O → Option Addr
  | .fz _ => none
  | .lst a _ => some a
  | .dct a _ => some a
  | .dcT a _ => some a
  | .ins a _ _ _ => some a
/-- what the arguments are behind a def: data stays, a held thing stands at its name -/
def back : List O → TEnv → List O
  | [], _ => []
  | o :: os, ρ => (match o with
    | .fz d => .fz d
    | o => (nth ρ 0).getD (.fz .non)) :: back os ρ.tail
def roots : List O → List O → Prop
  | [], _ => True
  | .fz _ :: os, _ :: us => roots os us
  | o :: os, u :: us => u.root = o.root ∧ roots os us
  | _, _ => False
def start0 (n : Nat) (os : List O) : TEnv := os.map some ++ List.replicate (n - os.length) none
/-- a def's ends: the answer r, the arguments behind it -/
def endsOf (os : List O) (P : O → List O → Prop) : TEnds where
  nx := fun ρ => roots os (back os ρ) ∧ P (.fz .non) (back os ρ)
  rt := fun r ρ => roots os (back os ρ) ∧ P r (back os ρ)
section
variable {K : PySem.W.Frag} {F H F' H' : Hp}
theorem RepO.root {v v' : V} {o u : O} (r : RepO K F H v o) (r' : RepO K F' H' v' u) (h : u.root = o.root) (hn : o.root ≠ none) : v' = v := by
  cases r <;> cases r' <;> first
    | (exact absurd rfl hn)
    | (cases h; done)
    | (cases h; rfl)
theorem nth_tail : ∀ (ρ : TEnv) (i : Nat), nth ρ.tail i = nth ρ (i + 1)
  | [], _ => rfl
  | _ :: _, _ => rfl
/-- the arguments behind a def, as an environment -/
theorem SR.back : ∀ {os : List O} {vs : List V} {ρ0 : TEnv} {σ0 : L2.St}, SR K (os.map some) (vs.map some) F H → Sub F F' → SR K ρ0 σ0 F' H' → roots os (Tr.back os ρ0) →
    SR K ((Tr.back os ρ0).map some) (vs.map some) F' H' ∧ ∀ b ∈ ownedE ((Tr.back os ρ0).map some), b ∈ ownedE ρ0
  | [], [], ρ0, σ0, s, su, s0, _ => ⟨⟨s0.sub, rfl, fun _ _ e => (by cases e), fun _ h => (by cases h), List.nodup_nil⟩, fun _ h => (by cases h)⟩
  | o :: os, v :: vs, ρ0, σ0, s, su, s0, hr => by
    have tl : SR K ρ0.tail σ0.tail F' H' ∧ (∀ b ∈ ownedE ρ0.tail, b ∈ ownedE ρ0) := by
      cases ρ0 with
      | nil =>
        have e : σ0 = [] := List.length_eq_zero_iff.mp s0.len.symm
        subst e
        exact ⟨s0, fun _ h => h⟩
      | cons t r =>
        cases σ0 with
        | nil => cases s0.len
        | cons x y => exact ⟨s0.pop, fun b h => List.mem_append_right _ h⟩
    have data : ∀ d, o = .fz d → roots os (Tr.back os ρ0.tail) → SR K ((Tr.back (o :: os) ρ0).map some) ((v :: vs).map some) F' H' ∧ ∀ b ∈ ownedE ((Tr.back (o :: os) ρ0).map some), b ∈ ownedE ρ0 := fun d e hr => by
      subst e
      obtain ⟨s1, m1⟩ := SR.back (os := os) (vs := vs) s.pop su tl.1 hr
      exact ⟨s1.pushD (s.topD.mono su), fun b h => tl.2 b (m1 b h)⟩
    have held : (∀ d, o ≠ .fz d) → ((nth ρ0 0).getD (.fz .non)).root = o.root → o.root ≠ none → roots os (Tr.back os ρ0.tail) → Tr.back (o :: os) ρ0 = (nth ρ0 0).getD (.fz .non) :: Tr.back os ρ0.tail →
        SR K ((Tr.back (o :: os) ρ0).map some) ((v :: vs).map some) F' H' ∧ ∀ b ∈ ownedE ((Tr.back (o :: os) ρ0).map some), b ∈ ownedE ρ0 := fun nd hroot hn hr eb => by
      obtain ⟨s1, m1⟩ := SR.back (os := os) (vs := vs) s.pop su tl.1 hr
      cases ρ0 with
      | nil => exact absurd hroot.symm hn
      | cons t r =>
        cases σ0 with
        | nil => cases s0.len
        | cons x y =>
          cases t with
          | none => exact absurd hroot.symm hn
          | some u =>
            have hroot : u.root = o.root := hroot
            obtain ⟨w, hw, rw'⟩ := s0.slot 0 u rfl
            have e := RepO.root s.top rw' hroot hn
            subst e
            have n := List.nodup_append.mp s0.nd
            rw [eb]
            refine ⟨s1.push rw' (fun a ha => s0.own a (List.mem_append_left _ ha)) (List.nodup_append.mpr ⟨n.1, s1.nd, fun a ha b hb => n.2.2 a ha b (m1 b hb)⟩), fun b hb => ?_⟩
            rcases List.mem_append.mp hb with h | h
            · exact List.mem_append_left _ h
            · exact List.mem_append_right _ (m1 b h)
    cases o with
    | fz d => exact data d rfl hr
    | lst a us => exact held (fun _ h => nomatch h) hr.1 (fun h => nomatch h) hr.2 rfl
    | dct a us => exact held (fun _ h => nomatch h) hr.1 (fun h => nomatch h) hr.2 rfl
    | dcT a us => exact held (fun _ h => nomatch h) hr.1 (fun h => nomatch h) hr.2 rfl
    | ins a b c us => exact held (fun _ h => nomatch h) hr.1 (fun h => nomatch h) hr.2 rfl
  | [], v :: vs, ρ0, σ0, s, su, s0, hr => by cases s.len
  | o :: os, [], ρ0, σ0, s, su, s0, hr => by cases s.len
theorem SR.start {os : List O} {vs : List V} (s : SR K (os.map some) (vs.map some) F H) (m : Nat) : SR K (os.map some ++ List.replicate m none) (vs.map some ++ List.replicate m none) F H ∧ ownedE (os.map some ++ List.replicate m none) = ownedE (os.map some) := by
  have e0 : ∀ m, ownedE (List.replicate m none) = [] := by
    intro m
    induction m with
    | zero => rfl
    | succ m ih => exact ih
  have e : ownedE (os.map some ++ List.replicate m none) = ownedE (os.map some) := by
    rw [ownedE_os, e0, List.append_nil]
    have := ownedE_os os []
    rw [List.append_nil] at this
    rw [this]
    exact (List.append_nil _).symm
  have l : os.length = vs.length := by simpa using s.len
  refine ⟨⟨s.sub, by simp [l], fun i o h => ?_, by rw [e]; exact s.own, by rw [e]; exact s.nd⟩, e⟩
  by_cases q : i < os.length
  · rw [List.getElem?_append_left (by simpa using q)] at h
    rw [List.getElem?_append_left (by rw [List.length_map, ← l]; exact q)]
    exact s.slot i o h
  · rw [List.getElem?_append_right (by simpa using Nat.le_of_not_lt q), List.getElem?_replicate] at h
    split at h <;> cases h
end
section
variable {P : Program} {w : World} {K : PySem.W.Frag} {mg : Str → Option Value} {base : Heap}
/-- THE RULE for a def: its body's reading, and that it does what is promised -/
theorem fn_tree {x qual : Str} {st : Stmt} {f : Addr} {fd : FuncData} {N ps : List Str} {k : Nat} {sp : SpT} {wb : WS} (Fn : Fun K x qual st f fd) (S : FnScope N ps (defScope st)) (len : ∀ os P, sp os P → os.length = ps.length)
    (body : ∀ (cdv : Value) (A : Around) (outer : List Env) (s : Shared) (H : Hp) (E : XK), Room k (A.deeper (envOfC qual (defScope st) s.heap.objs.size f cdv)) → XSs (cxOf CX0 P w K mg base N qual (defScope st) f cdv A outer s H E).nox (defBody st) wb)
    (does : ∀ os P, sp os P → wb (start0 N.length os) (endsOf os P)) : FnOk P w K mg base CX0 (k + 1) f fd ps (liftSp K sp) := by
  refine Fn.ok S (fun vs H Q E h => ?_) (fun cdv A outer s H vs Q E hr h => ?_)
  · obtain ⟨os, F, Pp, sr, hsp, _⟩ := h
    have l := sr.len
    rw [List.length_map, List.length_map] at l
    rw [← l]
    exact len _ _ hsp
  · obtain ⟨os, F, Pp, sr, hsp, kk⟩ := h
    refine ⟨_, (body cdv A outer s H E hr).ps, ?_⟩
    have l : os.length = vs.length := by simpa using sr.len
    obtain ⟨s0, e0⟩ := sr.start (N.length - vs.length)
    have fin : ∀ {r : O} {ρ' : TEnv} {σ' : L2.St} {F' H' : Hp} {v : V}, roots os (Tr.back os ρ') ∧ Pp r (Tr.back os ρ') → SR K (some r :: ρ') (some v :: σ') F' H' → Frm (ownedE (os.map some)) F H (ownedE (some r :: ρ')) F' H' → Q v H' := fun {r ρ' σ' F' H' v} p s' f' => by
      obtain ⟨sb, mb⟩ := SR.back sr f'.fz s'.pop p.1
      have n := List.nodup_append.mp s'.nd
      refine kk r _ F' H' v p.2 (sb.push s'.top (fun a ha => s'.own a (List.mem_append_left _ ha)) (List.nodup_append.mpr ⟨n.1, sb.nd, fun a ha b hb => n.2.2 a ha b (mb b hb)⟩)) (f'.less fun b hb => ?_)
      rcases List.mem_append.mp hb with h | h
      · exact List.mem_append_left _ h
      · exact List.mem_append_right _ (mb b h)
    have e1 : start0 N.length os = os.map some ++ List.replicate (N.length - vs.length) none := by unfold start0; rw [l]
    refine ⟨start0 N.length os, F, endsOf os Pp, by rw [e1]; exact s0, does _ _ hsp, ⟨fun ρ' σ' F' H' p s' f' => ?_, fun o ρ' σ' F' H' v p s' f' => ?_, fun ρ' σ' F' H' p s' f' => p.elim, fun ρ' σ' F' H' p s' f' => p.elim⟩⟩
    · rw [e1, e0] at f'
      exact fin p (s'.pushD .non) f'
    · rw [e1, e0] at f'
      exact fin p s' f'
end
end Tr
/-! The tree layer: the module's own constants, keywords, things moved out and put back, the end of a law. -/
namespace Tr
open PySem PySem.Spec PyProof.Rows L2

section
variable {X : Cx} {x : Str} {pos : Pos} {i : Nat} {e : Expr}
theorem xe_globI {n : Int} (hg : Gl X x) (h : ∃ t, X.mg x = some (.int n t)) (hd : (x == ("__debug__" : Str)) = false := by decide) : XE X (.Name x pos) (wC (.int n)) := by
  obtain ⟨t, h⟩ := h
  exact xe_c (v := .int n) (pe_glob hg h ⟨t, rfl⟩ hd) fun _ _ => .int n
/-- the slot's thing handed on -/
def wMov (i : Nat) : WO := fun ρ P => match nth ρ i with
  | some o => putC ρ i none (P o)
  | none => False
theorem xo_mov (h : PE X e (tVar i)) : XO X e (wMov i) := ⟨PE.imp h fun σ H Q ⟨ρ, F, P, s, w, k⟩ => by
  unfold wMov at w
  cases hn : nth ρ i with
  | none => rw [hn] at w; exact w.elim
  | some o =>
    rw [hn] at w
    obtain ⟨v, hv, s', m⟩ := s.take (nth_eq hn)
    have w : putC ρ i none (P o) := w
    rw [putC_eq] at w
    exact ⟨v, hv, k _ _ _ _ _ w s' (Frm.refl.less fun b hb => (m b).mpr hb)⟩⟩
end

/-! ### a list's item moved out and put back -/
theorem ownedL_mv {o : O} {d : D} : ∀ {os : List O} {j : Nat}, os[j]? = some o → (O.ownedL os).Perm (o.owned ++ O.ownedL (os.set j (.fz d)))
  | [], _, h => by cases h
  | u :: os, 0, h => by cases h; exact List.Perm.refl _
  | u :: os, j + 1, h => by
    have ih := ownedL_mv (d := d) (os := os) (j := j) (by simpa using h)
    show (u.owned ++ O.ownedL os).Perm (o.owned ++ (u.owned ++ O.ownedL (os.set j (.fz d))))
    refine (List.Perm.append_left _ ih).trans ?_
    rw [← List.append_assoc, ← List.append_assoc]
    exact List.Perm.append_right _ List.perm_append_comm
theorem set_same {α : Type} : ∀ {xs : List α} {j : Nat} {y : α}, xs[j]? = some y → xs.set j y = xs
  | [], _, _, h => by cases h
  | x :: r, 0, _, h => by cases h; rfl
  | x :: r, j + 1, _, h => congrArg (x :: ·) (set_same (xs := r) (by simpa using h))
section
variable {K : PySem.W.Frag} {ρ : TEnv} {σ : L2.St} {F H : Hp} {i j k : Nat} {a b : Addr} {os xs : List O}
theorem SR.mvOut {y : V} (s : SR K ρ σ F H) (e : ρ[i]? = some (some (.lst a os))) (hj : os[j]? = some (.lst b xs)) :
    SR K (some (.lst b xs) :: ρ.set i (some (.lst a (os.set j (.fz (.al b)))))) (some (.ref b) :: σ) F H ∧ ∀ c, c ∈ ownedE (some (.lst b xs) :: ρ.set i (some (.lst a (os.set j (.fz (.al b)))))) → c ∈ ownedE ρ := by
  obtain ⟨v, hv, s1, m1⟩ := s.take e
  have q := s1.top
  cases q with
  | @lst _ vs _ h z r =>
  obtain ⟨w, hw, rw'⟩ := r.get hj
  have ew : w = .ref b := by cases rw'; rfl
  subst ew
  have n := List.nodup_append.mp s1.nd
  have pm := ownedL_mv (d := .al b) hj
  have n0 : (a :: O.ownedL os).Nodup := n.1
  have n1 := List.nodup_cons.mp n0
  have n2 := List.nodup_append.mp (pm.nodup_iff.mp n1.2)
  have rset : RepOL K F H vs (os.set j (.fz (.al b))) := by
    have := r.setAt (o := .fz (.al b)) (y := .ref b) (.fz (.al b)) j
    rwa [set_same hw] at this
  have mem : ∀ c, c ∈ O.ownedL (os.set j (.fz (.al b))) → c ∈ O.ownedL os := fun c hc => pm.mem_iff.mpr (List.mem_append_right _ hc)
  have memb : ∀ c, c ∈ (O.lst b xs).owned → c ∈ O.ownedL os := fun c hc => pm.mem_iff.mpr (List.mem_append_left _ hc)
  have s2 : SR K (some (.lst a (os.set j (.fz (.al b)))) :: ρ.set i none) (some (.ref a) :: σ) F H := s1.pop.push (.lst h (by rw [List.length_set]; exact z) rset) (fun c hc => by
      refine s1.own c (List.mem_append_left _ ?_)
      rcases List.mem_cons.mp hc with q | q
      · subst q; exact List.mem_cons_self
      · exact List.mem_cons_of_mem _ (mem c q)) (List.nodup_append.mpr ⟨List.nodup_cons.mpr ⟨fun z => n1.1 (mem a z), n2.2.1⟩, n.2.1, fun c hc d hd => n.2.2 c (by
      rcases List.mem_cons.mp hc with q | q
      · subst q; exact List.mem_cons_self
      · exact List.mem_cons_of_mem _ (mem c q)) d hd⟩)
  obtain ⟨s3, m3⟩ := s2.set (i := i) hv
  rw [List.set_set] at s3 m3
  have key : ∀ c, c ∈ ownedE (ρ.set i (some (.lst a (os.set j (.fz (.al b)))))) → c = a ∨ c ∈ O.ownedL (os.set j (.fz (.al b))) ∨ c ∈ ownedE (ρ.set i none) := fun c hc => by
    rcases List.mem_append.mp (m3 c hc) with q | q
    · rcases List.mem_cons.mp (show c ∈ a :: O.ownedL _ from q) with q | q
      · exact .inl q
      · exact .inr (.inl q)
    · exact .inr (.inr q)
  refine ⟨s3.push rw' (fun c hc => s1.own c (List.mem_append_left _ (List.mem_cons_of_mem _ (memb c hc)))) (List.nodup_append.mpr ⟨n2.1, s3.nd, fun c hc d hd e' => ?_⟩), fun c hc => ?_⟩
  · subst e'
    rcases key c hd with q | q | q
    · subst q; exact n1.1 (memb c hc)
    · exact n2.2.2 c hc c q rfl
    · exact n.2.2 c (List.mem_cons_of_mem _ (memb c hc)) c q rfl
  · refine (m1 c).mpr ?_
    rcases List.mem_append.mp hc with q | q
    · exact List.mem_append_left _ (List.mem_cons_of_mem _ (memb c q))
    · rcases key c q with q | q | q
      · subst q; exact List.mem_append_left _ List.mem_cons_self
      · exact List.mem_append_left _ (List.mem_cons_of_mem _ (mem c q))
      · exact List.mem_append_right _ q
theorem SR.join (s : SR K ρ σ F H) (ne : i ≠ k) (e : ρ[i]? = some (some (.lst a os))) (ek : ρ[k]? = some (some (.lst b xs))) (hj : os[j]? = some (.fz (.al b))) :
    SR K ((ρ.set k none).set i (some (.lst a (os.set j (.lst b xs))))) σ F H ∧ ∀ c, c ∈ ownedE ((ρ.set k none).set i (some (.lst a (os.set j (.lst b xs))))) → c ∈ ownedE ρ := by
  obtain ⟨v, hv, s1, m1⟩ := s.take ek
  have e1 : (ρ.set k none)[i]? = some (some (.lst a os)) := by rw [List.getElem?_set_ne (fun q => ne q.symm)]; exact e
  obtain ⟨hi, ⟨ys, hys⟩, s2, m2⟩ := s1.atSlot e1
  have q := s2.pop.top
  cases q with
  | @lst _ vs _ h z r =>
  obtain ⟨w, hw, rw'⟩ := r.get hj
  have ew : w = .ref b := by
    cases rw' with
    | fz q => cases q; rfl
  subst ew
  have qb := s2.top
  have ev : v = .ref b := by cases qb; rfl
  subst ev
  have rset : RepOL K F H vs (os.set j (.lst b xs)) := by
    have := r.setAt qb j
    rwa [set_same hw] at this
  have n := List.nodup_append.mp s2.nd
  have n2 := List.nodup_append.mp n.2.1
  have n20 : (a :: O.ownedL os).Nodup := n2.1
  have pm : (O.ownedL (os.set j (.lst b xs))).Perm ((O.lst b xs).owned ++ O.ownedL os) := by
    have hlt : j < os.length := by
      by_cases q : j < os.length
      · exact q
      · rw [List.getElem?_eq_none (Nat.le_of_not_lt q)] at hj; cases hj
    have := ownedL_mv (o := .lst b xs) (d := .al b) (os := os.set j (.lst b xs)) (j := j) (List.getElem?_set_self hlt)
    rw [List.set_set, set_same hj] at this
    exact this
  have mem : ∀ c, c ∈ (O.lst a (os.set j (.lst b xs))).owned → c = a ∨ c ∈ (O.lst b xs).owned ∨ c ∈ O.ownedL os := fun c hc => by
    rcases List.mem_cons.mp (show c ∈ a :: O.ownedL _ from hc) with q | q
    · exact .inl q
    · exact .inr (List.mem_append.mp (pm.mem_iff.mp q))
  have s3 : SR K (some (.lst a (os.set j (.lst b xs))) :: (ρ.set k none).set i none) (some (.ref a) :: σ) F H := s2.pop.pop.push (.lst h (by rw [List.length_set]; exact z) rset) (fun c hc => by
      rcases mem c hc with q | q | q
      · subst q; exact s2.own c (List.mem_append_right _ (List.mem_append_left _ List.mem_cons_self))
      · exact s2.own c (List.mem_append_left _ q)
      · exact s2.own c (List.mem_append_right _ (List.mem_append_left _ (List.mem_cons_of_mem _ q)))) (List.nodup_append.mpr ⟨?_, n2.2.1, fun c hc d hd e' => ?_⟩)
  · obtain ⟨s4, m4⟩ := s3.set (i := i) hi
    rw [List.set_set] at s4 m4
    refine ⟨s4, fun c hc => (m1 c).mpr ((m2 c).mp ?_)⟩
    rcases List.mem_append.mp (m4 c hc) with q | q
    · rcases mem c q with q | q | q
      · subst q; exact List.mem_append_right _ (List.mem_append_left _ List.mem_cons_self)
      · exact List.mem_append_left _ q
      · exact List.mem_append_right _ (List.mem_append_left _ (List.mem_cons_of_mem _ q))
    · exact List.mem_append_right _ (List.mem_append_right _ q)
  · refine List.nodup_cons.mpr ⟨fun q => ?_, pm.nodup_iff.mpr (List.nodup_append.mpr ⟨n.1, (List.nodup_cons.mp n20).2, fun c hc d hd => n.2.2 c hc d (List.mem_append_left _ (List.mem_cons_of_mem _ hd))⟩)⟩
    rcases List.mem_append.mp (pm.mem_iff.mp q) with q | q
    · exact n.2.2 a q a (List.mem_append_left _ List.mem_cons_self) rfl
    · exact (List.nodup_cons.mp n20).1 q
  · subst e'
    rcases mem c hc with q | q | q
    · subst q; exact n2.2.2 c List.mem_cons_self c hd rfl
    · exact n.2.2 c q c (List.mem_append_right _ hd) rfl
    · exact n2.2.2 c (List.mem_cons_of_mem _ q) c hd rfl
end
/-- the item at a place of slot i's list, moved out: a reference stays -/
def wMvIx (i : Nat) (wb : WD) : WO := fun ρ P => match nth ρ i with
  | some _ => wb ρ fun d ρ2 => match nth ρ2 i with
    | some (.lst a os) => ∃ n j b xs, d = .int n ∧ ixN os.length n = some j ∧ os[j]? = some (.lst b xs) ∧ putC ρ2 i (some (.lst a (os.set j (.fz (.al b))))) (P (.lst b xs))
    | _ => False
  | none => False
section
variable {X : Cx} {a b : Expr} {wb : WD} {pos : Pos} {i : Nat}
theorem xo_mvIx (ha : PE X a (tVar i)) (hb : XE X b wb) (hs : PlainIx b := by exact fun _ _ => rfl) : XO X (.Subscript a b pos) (wMvIx i wb) := ⟨PE.imp (pe_ix ix_seq ha hb.pe hs) fun σ H Q ⟨ρ, F, P, s, hw, k⟩ => by
  unfold wMvIx at hw
  cases hn0 : nth ρ i with
  | none => rw [hn0] at hw; exact hw.elim
  | some o0 =>
  rw [hn0] at hw
  obtain ⟨x, hx, _⟩ := s.slot i o0 (nth_eq hn0)
  refine ⟨x, hx, ρ, F, _, s, hw, fun e ρ2 F2 H2 u p2 s2 r2 f2 => ?_⟩
  cases hn : nth ρ2 i with
  | none => rw [hn] at p2; exact p2.elim
  | some o =>
    rw [hn] at p2
    obtain ⟨v, hv, ro⟩ := s2.slot i o (nth_eq hn)
    rw [hx] at hv
    cases hv
    cases o <;> first
      | (exact p2.elim)
      | skip
    rename_i a os
    obtain ⟨n, j, b, xs, e1, e2, e3, p3⟩ := p2
    subst e1
    cases r2
    cases ro with
    | lst h z r =>
      obtain ⟨s3, m3⟩ := SR.mvOut (y := .non) s2 (nth_eq hn) e3
      rw [putC_eq] at p3
      obtain ⟨w, hw', rw'⟩ := r.get e3
      have ew : w = .ref b := by cases rw'; rfl
      subst ew
      refine .inl ⟨_, _, _, .ref b, rfl, rfl, .inl (.inl h), ?_, k _ _ _ _ _ p3 s3 (f2.less m3)⟩
      unfold L2.atI
      rw [r.length, e2]
      exact hw'⟩
end
/-- slot k's list put back into its place in slot i -/
def joinP (i j k : Nat) (ρ : TEnv) (P : TEnv → Prop) : Prop := match nth ρ i, nth ρ k with
  | some (.lst a os), some (.lst b xs) => os[j]? = some (.fz (.al b)) ∧ putC ρ k none fun ρ' => putC ρ' i (some (.lst a (os.set j (.lst b xs)))) P
  | _, _ => P ρ
theorem SR.joinP {K : PySem.W.Frag} {ρ : TEnv} {σ : L2.St} {F H : Hp} {i j k : Nat} {P : TEnv → Prop} (ne : i ≠ k) (s : SR K ρ σ F H) (h : Tr.joinP i j k ρ P) : ∃ ρ', P ρ' ∧ SR K ρ' σ F H ∧ ∀ c, c ∈ ownedE ρ' → c ∈ ownedE ρ := by
  unfold Tr.joinP at h
  split at h
  · rename_i a os b xs h1 h2
    obtain ⟨s1, m1⟩ := s.join ne (nth_eq h1) (nth_eq h2) h.1
    have h := h.2
    rw [putC_eq, putC_eq] at h
    exact ⟨_, h, s1, m1⟩
  · exact ⟨ρ, h, s, fun _ h => h⟩
/-- .. at the ends of a body -/
def wJn (i j k : Nat) (w : WS) : WS := fun ρ E => w ρ { E with nx := fun ρ' => joinP i j k ρ' E.nx, rt := fun r ρ' => joinP i j k ρ' (E.rt r) }
theorem xss_jn {X : Cx} {b : List Stmt} {w : WS} (i j k : Nat) (h : XSs X b w) (ne : i ≠ k := by decide) : XSs X b (wJn i j k w) := ⟨PSs.imp h.ps fun D σ H ⟨ρ, F, E, s, hw, kk⟩ =>
  ⟨ρ, F, _, s, hw, ⟨fun ρ' σ' F' H' p s' f => by
    obtain ⟨ρ2, p2, s1, m1⟩ := s'.joinP ne p
    exact kk.nx _ _ _ _ p2 s1 (f.less m1), fun o ρ' σ' F' H' v p s' f => by
    obtain ⟨ρ2, p2, s1, m1⟩ := s'.pop.joinP ne p
    have n := List.nodup_append.mp s'.nd
    refine kk.rt _ _ _ _ _ _ p2 (s1.push s'.top (fun c hc => s'.own c (List.mem_append_left _ hc)) (List.nodup_append.mpr ⟨n.1, s1.nd, fun c hc d hd => n.2.2 c hc d (m1 d hd)⟩)) (f.less fun c hc => ?_)
    rcases List.mem_append.mp hc with q | q
    · exact List.mem_append_left _ q
    · exact List.mem_append_right _ (m1 c q), kk.bk, kk.ct⟩⟩⟩

/-! ### keywords -/
theorem kwb_mk {K : PySem.W.Frag} {x qual : Str} {st : Stmt} {f : Addr} {fd : FuncData} {ps ks : List Str} {m : Nat} {ix : List Nat} (Fn : Fun K x qual st f fd) (len : ix.length = ps.length) (lt : ∀ i ∈ ix, i < m + ks.length)
    (h : ∀ (kV doc pm : Value) (an : Option Addr) (cdv ct : Value) (us ws : List Value), us.length = m → ws.length = ks.length → bindArgs (PySem.W.fnOf x qual (defArgs st) (defBody st) (defScope st) .none kV doc pm an cdv ct) ⟨us, ks.zip ws⟩ = pure (ps.zip (pickL ix (us ++ ws)))) : KwB K fd ps ks m ix := by
  obtain ⟨oc, od, kV, doc, pm, an, cdv, ct, osl, rfl, lk, hcd⟩ := Fn.ex
  exact ⟨fun s us ws _ h1 h2 => .of_eq (h kV doc pm an cdv ct us ws h1 h2), len, lt⟩

/-! ### the law -/
structure lawSp (n : Nat) (os : List O) (P : O → List O → Prop) : Prop where
  ex : ∃ ns : List Int, ns.length ≤ n ∧ os = [.fz (.frl (ns.map .int))] ∧ P (.fz (.bl true)) os
theorem lawSp_len {n : Nat} : ∀ os P, lawSp n os P → os.length = 1 := fun os P ⟨_, _, e, _⟩ => by rw [e]; rfl
theorem repL_ints {K : PySem.W.Frag} {F : Hp} : ∀ ns : List Int, RepL K F (ns.map V.int) (ns.map D.int)
  | [] => .nil
  | n :: ns => .cons (.int n) (repL_ints ns)
theorem law_end {K : PySem.W.Frag} {H : Hp} {a : Addr} {n : Nat} {ns : List Int} (hn : n ≤ sizeLine) (hl : ns.length ≤ n) (hS : SqL K H a (ns.map V.int)) : liftSp K (lawSp n) [.ref a] H (fun v _ => v = .bl true) fun _ _ _ => False := by
  refine ⟨[.fz (.frl (ns.map .int))], H, fun o _ => o = .fz (.bl true), ?_, ⟨ns, hl, rfl, rfl⟩, fun o os' F' H' v p s' f => ?_⟩
  · have s0 : SR K [] [] H H := ⟨fun b o h => .inl h, rfl, fun i o e => (by cases e), fun a h => (by cases h), List.nodup_nil⟩
    exact s0.pushD (.frl hS (by rw [List.length_map]; exact Nat.le_trans hl hn) (repL_ints ns))
  · subst p
    have r := s'.top
    cases r with
    | fz r => cases r; rfl
end Tr
/-! What the laws share: the draws. -/
namespace Tr
open PySem PySem.Spec PyProof.Rows L2

local macro_rules | `(tactic| walk_at "tw") => `(tactic| ((conv => whnf); (repeat (refine wSeq.mk ?_; (conv => whnf)))))
local macro_rules | `(tactic| walk_at "tm") => `(tactic| (conv => whnf))

theorem cmul_small {i j : Int} (h1 : i.natAbs < 2 ^ 4000) (h2 : j.natAbs < 2 ^ 4000) : CMulW i j := by
  have b : ∀ n : Nat, n < 2 ^ 4000 → n.log2 < 400000 := fun n h => by
    by_cases z : n = 0
    · subst z; decide
    · exact Nat.lt_of_lt_of_le ((Nat.log2_lt z).mpr h) (by decide)
  have h3 := b _ h1
  have h4 := b _ h2
  unfold CMulW
  omega
theorem big64 : (2 : Nat) ^ 64 ≤ 2 ^ 4000 := Nat.pow_le_pow_right (by decide) (by decide)
theorem cmul64 {i j : Int} (h1 : -(2 ^ 64) < i) (h2 : i < 2 ^ 64) (h3 : -(2 ^ 64) < j) (h4 : j < 2 ^ 64) : CMulW i j :=
  cmul_small (Nat.lt_of_lt_of_le (by omega) big64) (Nat.lt_of_lt_of_le (by omega) big64)
theorem cdiv64 {i j : Int} (h3 : 0 < j) (h4 : j < 2 ^ 64) : CDivW i j := by
  refine ⟨h3, ?_⟩
  have : j.natAbs ≠ 0 := by omega
  exact Nat.lt_of_lt_of_le ((Nat.log2_lt this).mpr (show j.natAbs < 2 ^ 64 by omega)) (by decide)
theorem ixN_in {n : Nat} {i : Int} (h0 : 0 ≤ i) (h1 : i < n) : ixN n i = some i.toNat := by
  unfold ixN
  rw [if_pos h0, if_pos h1]
theorem atI_in {α : Type} {xs : List α} {i : Int} (h0 : 0 ≤ i) (h1 : i < xs.length) : atI xs i = some (xs[i.toNat]'(by omega)) := by
  unfold atI
  rw [ixN_in h0 h1]
  exact List.getElem?_eq_getElem (by omega)

theorem frzL_ints : ∀ ns : List Int, O.frzL (ns.map fun n => .fz (.int n)) = ns.map .int
  | [] => rfl
  | n :: ns => congrArg (D.int n :: ·) (frzL_ints ns)
theorem atI_map {α β : Type} (f : α → β) {xs : List α} {i : Int} (h0 : 0 ≤ i) (h1 : i < xs.length) : atI (xs.map f) i = some (f (xs[i.toNat]'(by omega))) := by
  rw [atI_in h0 (by rw [List.length_map]; exact h1), List.getElem_map]
/-- the state of the draws: what its list holds -/
def DS (xs : List O) : Prop := ∃ c ns at_ mix, xs = [.lst c (ns.map fun n => .fz (.int n)), .fz (.int at_), .fz (.int mix)] ∧ ns ≠ [] ∧ (∀ n ∈ ns, (0 : Int) ≤ n) ∧ (0 : Int) ≤ at_ ∧ (0 : Int) ≤ mix ∧ mix < 2 ^ 31
structure spDraw (os : List O) (P : O → List O → Prop) : Prop where
  ex : ∃ a xs many, os = [.lst a xs, .fz (.int many)] ∧ DS xs ∧ 0 < many ∧ many < 2 ^ 62 ∧ ∀ k ys, 0 ≤ k → k < many → DS ys → P (.fz (.int k)) [.lst a ys, .fz (.int many)]
theorem spDraw_len : ∀ os P, spDraw os P → os.length = 2 := fun os P ⟨_, _, _, e, _⟩ => by rw [e]; rfl
def wDraw : WS :=
  (wJn 0 0 2 (wSeq (wSet 2 (wMvIx 0 (wC (.int 0))))
    (wSeq (wSet 3 (wBin semMod (wIxL 0 (wC (.int 1))) (wC1 semLen (wLook 2))))
    (wSeq (wSet 4 (wFz (wIxL 2 (wVar 3))))
    (wSeq (wIfS (wTst (wCmpL semGe 4 (wC (.int 1000000000000000000)))) (wSeq (wSetIx 2 (wVar 3) (wBin semDiv (wVar 4) (wVar 1)))
    (wRet (wBin semMod (wVar 4) (wVar 1)))) wSkip)
    (wSeq (wSetIx 0 (wC (.int 1)) (wBin semAdd (wIxL 0 (wC (.int 1))) (wC (.int 1))))
    (wSeq (wSetIx 0 (wC (.int 2)) (wBin semMod (wFrz (wBin semAdd (wFrz (wBin semAdd (wFrz (wBin semMul (wIxL 0 (wC (.int 2))) (wC (.int 48271)))) (wVar 4))) (wC (.int 12345)))) (wC (.int 2147483647))))
    (wRet (wBin semMod (wFrz (wBin semDiv (wFrz (wBin semMod (wFrz (wBin semMul (wIxL 0 (wC (.int 2))) (wIxL 0 (wC (.int 2))))) (wC (.int 2147483629)))) (wC (.int 16)))) (wVar 1))))))))))
theorem wDraw_does : ∀ os P, spDraw os P → wDraw (start0 5 os) (endsOf os P) := by
  rintro os P ⟨a, xs, many, rfl, ⟨c, ns, at_, mix, rfl, hne, hns, hat, hm0, hm1⟩, hp, hp2, k⟩
  have hl : 0 < ns.length := List.length_pos_iff.mpr hne
  walk_at "tw"
  refine ⟨_, _, _, _, rfl, rfl, rfl, ?_⟩
  walk_at "tw"
  refine ⟨_, _, rfl, rfl, ?_⟩
  walk_at "tw"
  refine ⟨ns.map .int, congrArg some (frzL_ints ns), ?_⟩
  walk_at "tw"
  have hl' : (0 : Int) < ((ns.map D.int).length : Int) := by rw [List.length_map]; omega
  refine ⟨hl', ?_⟩
  generalize hat2 : at_ % ((ns.map D.int).length : Int) = at2
  have h20 : 0 ≤ at2 := hat2 ▸ Int.emod_nonneg _ (by omega)
  have h21 : at2 < (ns.length : Int) := by
    have := Int.emod_lt_of_pos at_ hl'
    rw [hat2, List.length_map] at this
    exact this
  walk_at "tw"
  refine ⟨at2, _, rfl, atI_map _ h20 h21, ?_⟩
  have hc : 0 ≤ ns[at2.toNat]'(by omega) := hns _ (List.getElem_mem _)
  generalize ns[at2.toNat]'(by omega) = cell at hc ⊢
  walk_at "tw"
  refine ⟨fun _ => ?_, fun hs => ?_⟩
  · -- a large cell
    have hj : at2.toNat < ns.length := by omega
    refine ⟨cdiv64 hp (by omega), at2, at2.toNat, rfl, ?_, ?_⟩
    · rw [List.length_map]; exact ixN_in h20 h21
    walk_at "tw"
    refine ⟨hp, rfl, ⟨rfl, trivial⟩, ?_⟩
    refine k _ _ (Int.emod_nonneg _ (by omega)) (Int.emod_lt_of_pos _ hp) ⟨c, ns.set at2.toNat (cell / many), at_, mix, ?_, ?_, ?_, hat, hm0, hm1⟩
    · rw [List.map_set]
      rfl
    · intro e
      have := congrArg List.length e
      rw [List.length_set] at this
      exact absurd this (by simp; omega)
    · intro n hn
      rcases List.mem_or_eq_of_mem_set hn with h | h
      · exact hns n h
      · subst h; exact Int.ediv_nonneg hc (by omega)
  · have hs' : cell < 1000000000000000000 := by simpa using hs
    walk_at "tw"
    refine ⟨1, _, rfl, rfl, ?_⟩
    walk_at "tw"
    refine ⟨_, _, rfl, rfl, ?_⟩
    walk_at "tw"
    refine ⟨2, _, rfl, rfl, ?_⟩
    walk_at "tw"
    refine ⟨cmul64 (by omega) (by omega) (by decide) (by decide), ?_⟩
    walk_at "tw"
    refine ⟨by decide, ?_⟩
    generalize hm2 : (mix * 48271 + cell + 12345) % 2147483647 = mix2
    have h0 : 0 ≤ mix2 := hm2 ▸ Int.emod_nonneg _ (by decide)
    have h1 : mix2 < 2 ^ 31 := by
      have := Int.emod_lt_of_pos (mix * 48271 + cell + 12345) (show (0 : Int) < 2147483647 by decide)
      omega
    walk_at "tw"
    refine ⟨_, _, rfl, rfl, ?_⟩
    walk_at "tw"
    refine ⟨2, _, rfl, rfl, ?_⟩
    walk_at "tw"
    refine ⟨2, _, rfl, rfl, ?_⟩
    walk_at "tw"
    refine ⟨cmul64 (by omega) (by omega) (by omega) (by omega), ?_⟩
    walk_at "tw"
    refine ⟨by decide, ?_⟩
    walk_at "tw"
    refine ⟨cdiv64 (by decide) (by decide), ?_⟩
    walk_at "tw"
    refine ⟨hp, rfl, ⟨rfl, trivial⟩, ?_⟩
    exact k _ _ (Int.emod_nonneg _ (by omega)) (Int.emod_lt_of_pos _ hp) ⟨c, ns, at_ + 1, mix2, rfl, hne, hns, by omega, h0, h1⟩
theorem draw_i {a : Addr} {xs : List O} {many : Int} {P : O → List O → Prop} (h : DS xs) (h1 : 0 < many) (h2 : many < 2 ^ 62) (k : ∀ k ys, 0 ≤ k → k < many → DS ys → P (.fz (.int k)) [.lst a ys, .fz (.int many)]) : spDraw [.lst a xs, .fz (.int many)] P := ⟨a, xs, many, rfl, h, h1, h2, k⟩

/-! ### loops by what holds -/
theorem lc_inv {g : WG} {wt : WT} {we : WO} {own : List Nat} {P : List O → TEnv → Prop} (ds : List D) (I : List D → TEnv → List O → Prop)
    (step : ∀ pre d post ρ acc, ds = pre ++ d :: post → I pre ρ acc → ∀ (A : O → TEnv → Prop) (B : TEnv → Prop), (∀ o ρ', I (pre ++ [d]) ρ' (acc ++ [o]) → A o ρ') → (∀ ρ', I (pre ++ [d]) ρ' acc → B ρ') →
      g d ρ fun ρ1 => wt ρ1 fun b ρ2 => br b (we ρ2 fun o ρ3 => A o (wipeE ρ3 own)) (B (wipeE ρ2 own)))
    (fin : ∀ ρ acc, I ds ρ acc → P acc ρ) : ∀ (post pre : List D) ρ acc, ds = pre ++ post → I pre ρ acc → wLcL g wt we own post ρ acc P
  | [], pre, ρ, acc, e, h => by
    rw [List.append_nil] at e
    subst e
    exact fin _ _ h
  | d :: post, pre, ρ, acc, e, h => by
    have e2 : ds = (pre ++ [d]) ++ post := by rw [e, List.append_assoc]; rfl
    exact step pre d post ρ acc e h (fun o ρ' => wLcL g wt we own post ρ' (acc ++ [o]) P) (fun ρ' => wLcL g wt we own post ρ' acc P)
      (fun o ρ' h' => lc_inv ds I step fin post _ ρ' _ e2 h') (fun ρ' h' => lc_inv ds I step fin post _ ρ' _ e2 h')
/-- each item its answer, the names untouched -/
theorem lc_map {g : WG} {wt : WT} {we : WO} {own : List Nat} {P : List O → TEnv → Prop} {ρ : TEnv} (ds : List D) (f : D → Option O)
    (step : ∀ d ∈ ds, ∀ (A : O → TEnv → Prop) (B : TEnv → Prop), (∀ o, f d = some o → A o ρ) → (f d = none → B ρ) → g d ρ fun ρ1 => wt ρ1 fun b ρ2 => br b (we ρ2 fun o ρ3 => A o (wipeE ρ3 own)) (B (wipeE ρ2 own)))
    (fin : P (ds.filterMap f) ρ) : wLcL g wt we own ds ρ [] P := by
  refine lc_inv ds (fun pre ρ' acc => ρ' = ρ ∧ acc = pre.filterMap f) (fun pre d post ρ' acc e h A B hA hB => ?_) (fun ρ' acc h => ?_) ds [] ρ [] rfl ⟨rfl, rfl⟩
  · obtain ⟨rfl, rfl⟩ := h
    refine step d (by rw [e]; exact List.mem_append_right _ List.mem_cons_self) A B (fun o ho => hA o _ ⟨rfl, ?_⟩) (fun hn => hB _ ⟨rfl, ?_⟩)
    · rw [List.filterMap_append, List.filterMap_cons, ho]; rfl
    · rw [List.filterMap_append, List.filterMap_cons, hn, List.filterMap_nil, List.append_nil]
  · obtain ⟨rfl, rfl⟩ := h
    exact fin
/-- .. of a list of one kind -/
theorem lc_mapA {α : Type} {g : WG} {wt : WT} {we : WO} {own : List Nat} {P : List O → TEnv → Prop} {ρ : TEnv} (c : α → D) (ms : List α) (f : α → Option O)
    (step : ∀ m ∈ ms, ∀ (A : O → TEnv → Prop) (B : TEnv → Prop), (∀ o, f m = some o → A o ρ) → (f m = none → B ρ) → g (c m) ρ fun ρ1 => wt ρ1 fun b ρ2 => br b (we ρ2 fun o ρ3 => A o (wipeE ρ3 own)) (B (wipeE ρ2 own)))
    (fin : P (ms.filterMap f) ρ) : wLcL g wt we own (ms.map c) ρ [] P := by
  refine lc_inv (ms.map c) (fun pre ρ' acc => ρ' = ρ ∧ ∃ qs rs, ms = qs ++ rs ∧ pre = qs.map c ∧ acc = qs.filterMap f) (fun pre d post ρ' acc e h A B hA hB => ?_) (fun ρ' acc h => ?_) (ms.map c) [] ρ [] rfl ⟨rfl, [], ms, rfl, rfl, rfl⟩
  · obtain ⟨rfl, qs, rs, e2, rfl, rfl⟩ := h
    rw [e2, List.map_append] at e
    have e3 := List.append_cancel_left e
    cases rs with
    | nil => cases e3
    | cons m rs =>
      rw [List.map_cons] at e3
      obtain ⟨rfl, _⟩ := List.cons.inj e3
      have e4 : ms = (qs ++ [m]) ++ rs := by rw [e2, List.append_assoc]; rfl
      refine step m (by rw [e2]; exact List.mem_append_right _ List.mem_cons_self) A B (fun o ho => hA o _ ⟨rfl, qs ++ [m], rs, e4, by rw [List.map_append]; rfl, ?_⟩) (fun hn => hB _ ⟨rfl, qs ++ [m], rs, e4, by rw [List.map_append]; rfl, ?_⟩)
      · rw [List.filterMap_append, List.filterMap_cons, ho]; rfl
      · rw [List.filterMap_append, List.filterMap_cons, hn, List.filterMap_nil, List.append_nil]
  · obtain ⟨rfl, qs, rs, e2, e3, rfl⟩ := h
    have hl := congrArg List.length e3
    rw [List.length_map, List.length_map] at hl
    have hr : rs = [] := by
      have := congrArg List.length e2
      rw [List.length_append] at this
      exact List.length_eq_zero_iff.mp (by omega)
    rw [hr, List.append_nil] at e2
    rw [← e2]
    exact fin
/-- .. each item has one -/
theorem lc_all {α : Type} {g : WG} {we : WO} {own : List Nat} {P : List O → TEnv → Prop} {ρ : TEnv} (c : α → D) (ms : List α) (f : α → O)
    (step : ∀ m ∈ ms, ∀ (A : O → TEnv → Prop) (B : TEnv → Prop), A (f m) ρ → g (c m) ρ fun ρ1 => wYes ρ1 fun b ρ2 => br b (we ρ2 fun o ρ3 => A o (wipeE ρ3 own)) (B (wipeE ρ2 own)))
    (fin : P (ms.map f) ρ) : wLcL g wYes we own (ms.map c) ρ [] P := by
  refine lc_mapA c ms (fun m => some (f m)) (fun m hm A B hA hB => step m hm A B (hA _ rfl)) ?_
  rw [List.filterMap_eq_map']
  exact fin
/-- .. of any things -/
theorem lc_allD {g : WG} {we : WO} {own : List Nat} {P : List O → TEnv → Prop} {ρ : TEnv} (ds : List D) (f : D → O)
    (step : ∀ m ∈ ds, ∀ (A : O → TEnv → Prop) (B : TEnv → Prop), A (f m) ρ → g m ρ fun ρ1 => wYes ρ1 fun b ρ2 => br b (we ρ2 fun o ρ3 => A o (wipeE ρ3 own)) (B (wipeE ρ2 own)))
    (fin : P (ds.map f) ρ) : wLcL g wYes we own ds ρ [] P := by
  have := lc_all (g := g) (we := we) (own := own) (P := P) (ρ := ρ) (fun d => d) ds f step fin
  rwa [List.map_id'] at this
/-- .. the ones that a test lets by -/
theorem lc_flt {g : WG} {wt : WT} {we : WO} {own : List Nat} {P : List O → TEnv → Prop} {ρ : TEnv} (ds : List D) (p : D → Bool)
    (step : ∀ m ∈ ds, ∀ (A : O → TEnv → Prop) (B : TEnv → Prop), (p m = true → A (.fz m) ρ) → (p m = false → B ρ) → g m ρ fun ρ1 => wt ρ1 fun b ρ2 => br b (we ρ2 fun o ρ3 => A o (wipeE ρ3 own)) (B (wipeE ρ2 own)))
    (fin : P ((ds.filter p).map .fz) ρ) : wLcL g wt we own ds ρ [] P := by
  refine lc_map ds (fun m => if p m = true then some (.fz m) else none) (fun m hm A B hA hB => step m hm A B (fun h => hA _ (by rw [if_pos h])) (fun h => hB (by rw [if_neg (by rw [h]; exact Bool.false_ne_true)]))) ?_
  have e : ds.filterMap (fun m => if p m = true then some (O.fz m) else none) = (ds.filter p).map O.fz := by
    clear step fin
    induction ds with
    | nil => rfl
    | cons d ds ih =>
      rw [List.filterMap_cons, List.filter_cons]
      by_cases h : p d = true
      · rw [if_pos h, if_pos h, List.map_cons, ih]
      · rw [if_neg h, if_neg h, ih]
  rw [e]
  exact fin
theorem for_inv {g : WG} {wb : WS} {E : TEnds} (ds : List D) (I : List D → TEnv → Prop)
    (step : ∀ pre d post ρ, ds = pre ++ d :: post → I pre ρ → ∀ (N : TEnv → Prop), (∀ ρ', I (pre ++ [d]) ρ' → N ρ') → g d ρ fun ρ1 => wb ρ1 (E.lp N))
    (fin : ∀ ρ, I ds ρ → E.nx ρ) : ∀ (post pre : List D) ρ, ds = pre ++ post → I pre ρ → wForL g wb post ρ E
  | [], pre, ρ, e, h => by
    rw [List.append_nil] at e
    subst e
    exact fin _ h
  | d :: post, pre, ρ, e, h => by
    have e2 : ds = (pre ++ [d]) ++ post := by rw [e, List.append_assoc]; rfl
    exact step pre d post ρ e h (fun ρ' => wForL g wb post ρ' E) (fun ρ' h' => for_inv ds I step fin post _ ρ' e2 h')
/-- a loop over range(n) -/
theorem for_rng {g : WG} {wb : WS} {E : TEnds} {ρ : TEnv} (n : Nat) (I : Nat → TEnv → Prop) (h0 : I 0 ρ)
    (step : ∀ k ρ, k < n → I k ρ → ∀ (N : TEnv → Prop), (∀ ρ', I (k + 1) ρ' → N ρ') → g (.int k) ρ fun ρ1 => wb ρ1 (E.lp N))
    (fin : ∀ ρ, I n ρ → E.nx ρ) : wForL g wb ((List.range n).map fun (k : Nat) => .int k) ρ E := by
  refine for_inv ((List.range n).map fun (k : Nat) => D.int k) (fun pre ρ => I pre.length ρ) (fun pre d post ρ e h N hN => ?_) (fun ρ h => ?_) _ [] ρ rfl h0
  · have hl := congrArg List.length e
    rw [List.length_map, List.length_range, List.length_append, List.length_cons] at hl
    have hd : d = .int (pre.length : Nat) := by
      have h1 : ((List.range n).map fun (k : Nat) => D.int k)[pre.length]? = some d := by
        rw [e, List.getElem?_append_right (Nat.le_refl _), Nat.sub_self]; rfl
      rw [List.getElem?_map, List.getElem?_range (by omega)] at h1
      exact (Option.some.inj h1).symm
    subst hd
    exact step pre.length ρ (by omega) h N fun ρ' h' => hN ρ' (by rw [List.length_append]; exact h')
  · exact fin ρ (by have h : I ((List.range n).map fun (k : Nat) => D.int k).length ρ := h; rw [List.length_map, List.length_range] at h; exact h)

/-- a while loop by a measure -/
theorem while_go {wc : WT} {wb : WS} {E : TEnds} (I : Nat → TEnv → Prop) (step : ∀ n ρ, I n ρ → ∀ (N : TEnv → Prop), (∀ k ρ', k < n → I k ρ' → N ρ') → wc ρ fun c ρ1 => br c (wb ρ1 (E.lp N)) (E.nx ρ1)) : ∀ n k ρ, k ≤ n → I k ρ → wWhileN wc wb (n + 1) ρ E
  | 0, k, ρ, hk, h => step k ρ h _ fun j ρ' hj _ => absurd hj (by omega)
  | n + 1, k, ρ, hk, h => step k ρ h _ fun j ρ' hj hI => while_go I step n j ρ' (by omega) hI
theorem while_inv {wc : WT} {wb : WS} {E : TEnds} (I : Nat → TEnv → Prop) (step : ∀ n ρ, I n ρ → ∀ (N : TEnv → Prop), (∀ k ρ', k < n → I k ρ' → N ρ') → wc ρ fun c ρ1 => br c (wb ρ1 (E.lp N)) (E.nx ρ1)) {n : Nat} {ρ : TEnv} (h : I n ρ) : wWhile wc wb ρ E :=
  ⟨n + 1, while_go I step n n ρ (Nat.le_refl _) h⟩

/-! ### the state's making -/
structure spState (os : List O) (P : O → List O → Prop) : Prop where
  ex : ∃ ns : List Int, os = [.fz (.frl (ns.map .int))] ∧ ∀ a xs, DS xs → P (.lst a xs) os
theorem spState_len : ∀ os P, spState os P → os.length = 1 := fun os P ⟨_, e, _⟩ => by rw [e]; rfl
def wState : WS :=
  (wSeq (wSet 1 (wLc (wWalk (wFrz (wSl (wVar 0) wNoP (wSoP (wC (.int 63)))))) (gN 2) wYes (wFz (wC1 semAbs (wLook 2))) [2]))
    (wSeq (wIfS (wTst (wCmp semEq (wC1 semLen (wLook 1)) (wC (.int 0)))) (wSet 1 (wLst (wConsO (wFz (wC (.int 5))) wNilO))) wSkip)
    (wRet (wLst (wConsO (wMov 1) (wConsO (wFz (wC (.int 0))) (wConsO (wFz (wC (.int 1))) wNilO)))))))
theorem cutG_map {α β : Type} (f : α → β) (xs : List α) (lo hi : Option Int) : cutG (xs.map f) lo hi = (cutG xs lo hi).map f := by
  unfold cutG
  rw [List.length_map, ← List.map_drop, ← List.map_take]
theorem wState_does : ∀ os P, spState os P → wState (start0 3 os) (endsOf os P) := by
  rintro os P ⟨ns, rfl, k⟩
  walk_at "tw"
  intro b
  walk_at "tw"
  rw [O.frzL_map, cutG_map]
  generalize cutG ns none (some 63) = ms
  refine lc_all D.int ms (fun n => .fz (.int (if n < 0 then -n else n))) (fun m hm A B hA => ?_) ?_
  · walk_at "tw"
    exact ⟨fun _ => hA, fun h => nomatch h⟩
  · intro c
    walk_at "tw"
    refine ⟨_, rfl, ?_⟩
    walk_at "tw"
    refine ⟨fun h => ?_, fun h => ?_⟩
    · walk_at "tw"
      refine ⟨by decide, fun c => ?_⟩
      walk_at "tw"
      refine ⟨by show 3 ≤ sizeLine; decide, fun d => ?_⟩
      walk_at "tw"
      refine ⟨trivial, ?_⟩
      exact k _ _ ⟨c, [5], 0, 1, rfl, by simp, by simp, by decide, by decide, by decide⟩
    · walk_at "tw"
      refine ⟨by show 3 ≤ sizeLine; decide, fun d => ?_⟩
      walk_at "tw"
      refine ⟨trivial, ?_⟩
      refine k _ _ ⟨c, ms.map fun n => if n < 0 then -n else n, 0, 1, ?_, ?_, ?_, by decide, by decide, by decide⟩
      · rw [List.map_map]; rfl
      · intro e
        rw [List.map_eq_nil_iff.mp e] at h
        exact absurd h (by decide)
      · intro n hn
        obtain ⟨x, _, rfl⟩ := List.mem_map.mp hn
        show 0 ≤ if x < 0 then -x else x
        split <;> omega
end Tr
/-! Data that can be held against others; lists of one kind. -/
namespace Tr
open PySem PySem.Spec PyProof.Rows L2

/-! ### equality of lists of one kind -/
theorem deqL_map {α β : Type} {f : D → D → Option Bool} {g : α → D} {h : β → D} {p : α → β → Bool} (hf : ∀ x y, f (g x) (h y) = some (p x y)) : ∀ (l : List α) (m : List β), deqL f (l.map g) (m.map h) = some ((l.zip m).all fun q => p q.1 q.2)
  | [], _ => rfl
  | _ :: _, [] => rfl
  | x :: l, y :: m => by
    show (match f (g x) (h y), deqL f (l.map g) (m.map h) with | some a, some b => some (a && b) | _, _ => none) = _
    rw [hf, deqL_map hf l m]
    rfl
theorem zip_all_eq {α : Type} [DecidableEq α] : ∀ l m : List α, (((l.zip m).all fun q => decide (q.1 = q.2)) && (l.length == m.length)) = decide (l = m)
  | [], [] => by simp
  | [], _ :: _ => by simp
  | _ :: _, [] => by simp
  | x :: l, y :: m => by
    have ih := zip_all_eq l m
    by_cases e : x = y
    · subst e
      simp only [List.zip_cons_cons, List.all_cons, List.length_cons]
      simp at ih ⊢
      rw [ih]
    · simp [e]
/-- the things of g are equal when their sources are -/
def EqM {α : Type} [DecidableEq α] (n : Nat) (g : α → D) : Prop := ∀ x y, deq n (g x) (g y) = some (decide (x = y))
theorem eqM_int (n : Nat) : EqM n D.int := fun x y => by
  cases n <;> exact congrArg some (by rw [Bool.eq_iff_iff]; simp)
theorem eqM_str (n : Nat) : EqM n D.str := fun x y => by
  cases n <;> exact congrArg some (by rw [Bool.eq_iff_iff]; simp)
theorem eqM_bl (n : Nat) : EqM n D.bl := fun x y => by
  cases n <;> exact congrArg some (by rw [Bool.eq_iff_iff]; simp)
theorem EqM.tup {α : Type} [DecidableEq α] {n : Nat} {g : α → D} (h : EqM n g) : EqM (n + 1) fun l : List α => .tup (l.map g) := fun l m => by
  show (deqL (deq n) (l.map g) (m.map g)).map (· && ((l.map g).length == (m.map g).length)) = _
  rw [deqL_map (fun x y => h x y), List.length_map, List.length_map]
  exact congrArg some (zip_all_eq l m)
theorem EqM.lst {α : Type} [DecidableEq α] {n : Nat} {g : α → D} (h : EqM n g) : EqM (n + 1) fun l : List α => .lst (l.map g) := fun l m => by
  show (if ((l.map g).length == (m.map g).length) = true then deqL (deq n) (l.map g) (m.map g) else some false) = _
  rw [deqL_map (fun x y => h x y), List.length_map, List.length_map, ← zip_all_eq l m]
  cases l.length == m.length <;> simp
theorem EqM.pair {α β : Type} [DecidableEq α] [DecidableEq β] {n : Nat} {g : α → D} {h : β → D} (hg : EqM n g) (hh : EqM n h) : EqM (n + 1) fun q : α × β => .tup [g q.1, h q.2] := fun l m => by
  show ((match deq n (g l.1) (g m.1), (match deq n (h l.2) (h m.2), some true with | some a, some b => some (a && b) | _, _ => none) with | some a, some b => some (a && b) | _, _ => none).map (· && true)) = _
  rw [hg, hh]
  refine congrArg some ?_
  rw [Bool.eq_iff_iff]
  simp [Prod.ext_iff]
theorem deq_lnil {n : Nat} {xs : List D} : deq n (.lst xs) (.lst []) = some xs.isEmpty := by
  cases n <;> cases xs <;> rfl
theorem deq_nill {n : Nat} {xs : List D} : deq n (.lst []) (.lst xs) = some xs.isEmpty := by
  cases n <;> cases xs <;> rfl
theorem deq_tnil {n : Nat} {xs : List D} : deq n (.tup xs) (.tup []) = some xs.isEmpty := by
  cases n <;> cases xs <;> rfl

theorem frzL_mapfz {α : Type} (g : α → D) : ∀ l : List α, O.frzL (l.map fun x => .fz (g x)) = l.map g
  | [] => rfl
  | x :: l => congrArg (g x :: ·) (frzL_mapfz g l)
theorem frz_map {α : Type} (g : α → D) (b : Addr) (l : List α) : (O.lst b (l.map fun x => .fz (g x))).frz = .lst (l.map g) := congrArg D.lst (frzL_mapfz g l)
theorem ints_mapf {α : Type} (f : α → Int) : ∀ l : List α, D.ints (l.map fun x => .int (f x)) = some (l.map f)
  | [] => rfl
  | x :: l => by
    show (D.ints (l.map fun x => .int (f x))).map (f x :: ·) = _
    rw [ints_mapf f l]
    rfl
theorem bls_mapf {α : Type} (f : α → Bool) : ∀ l : List α, D.bls (l.map fun x => .bl (f x)) = some (l.map f)
  | [] => rfl
  | x :: l => by
    show (D.bls (l.map fun x => .bl (f x))).map (f x :: ·) = _
    rw [bls_mapf f l]
    rfl
theorem atI_mem {α : Type} {xs : List α} {i : Int} (h0 : 0 ≤ i) (h1 : i < xs.length) : ∃ u, u ∈ xs ∧ atI xs i = some u := ⟨_, List.getElem_mem _, atI_in h0 h1⟩
theorem cutG_mem {α : Type} {xs : List α} {lo hi : Option Int} {x : α} (h : x ∈ cutG xs lo hi) : x ∈ xs := List.mem_of_mem_drop (List.mem_of_mem_take h)
theorem zip_map2 {α β : Type} (f : α → D) (g : β → D) (l : List α) (m : List β) : (((l.map f).zip (m.map g)).map fun p => D.tup [p.1, p.2]) = (l.zip m).map fun q => .tup [f q.1, g q.2] := by
  rw [List.zip_map, List.map_map]
  rfl
theorem enum_map {α : Type} (f : α → D) (l : List α) : ((l.map f).zipIdx.map fun p => D.tup [.int p.2, p.1]) = l.zipIdx.map fun q => .tup [.int q.2, f q.1] := by
  rw [List.zipIdx_map, List.map_map]
  rfl
/-- a loop over a list of one kind -/
theorem for_map {α : Type} {g : WG} {wb : WS} {E : TEnds} (c : α → D) (ms : List α) (I : List α → TEnv → Prop)
    (step : ∀ pre m post ρ, ms = pre ++ m :: post → I pre ρ → ∀ (N : TEnv → Prop), (∀ ρ', I (pre ++ [m]) ρ' → N ρ') → g (c m) ρ fun ρ1 => wb ρ1 (E.lp N))
    (fin : ∀ ρ, I ms ρ → E.nx ρ) : ∀ (post pre : List α) ρ, ms = pre ++ post → I pre ρ → wForL g wb (post.map c) ρ E
  | [], pre, ρ, e, h => by
    rw [List.append_nil] at e
    subst e
    exact fin _ h
  | m :: post, pre, ρ, e, h => by
    have e2 : ms = (pre ++ [m]) ++ post := by rw [e, List.append_assoc]; rfl
    exact step pre m post ρ e h (fun ρ' => wForL g wb (post.map c) ρ' E) (fun ρ' h' => for_map c ms I step fin post _ ρ' e2 h')
theorem for_map0 {α : Type} {g : WG} {wb : WS} {E : TEnds} {ρ : TEnv} (c : α → D) (ms : List α) (I : List α → TEnv → Prop) (h0 : I [] ρ)
    (step : ∀ pre m post ρ, ms = pre ++ m :: post → I pre ρ → ∀ (N : TEnv → Prop), (∀ ρ', I (pre ++ [m]) ρ' → N ρ') → g (c m) ρ fun ρ1 => wb ρ1 (E.lp N))
    (fin : ∀ ρ, I ms ρ → E.nx ρ) : wForL g wb (ms.map c) ρ E := for_map c ms I step fin ms [] ρ rfl h0
theorem zipIdx_at {α : Type} {l : List α} {pre post : List (α × Nat)} {m : α × Nat} (h : l.zipIdx = pre ++ m :: post) : m.2 = pre.length ∧ l[pre.length]? = some m.1 := by
  have e : l.zipIdx[pre.length]? = some m := by
    rw [h, List.getElem?_append_right (Nat.le_refl _), Nat.sub_self]; rfl
  rw [List.getElem?_zipIdx] at e
  cases q : l[pre.length]? with
  | none => rw [q] at e; cases e
  | some x =>
    rw [q] at e
    have e := Option.some.inj e
    subst e
    exact ⟨Nat.zero_add _, rfl⟩
end Tr
/-! sorted: of pairs whose first ones are unlike whole numbers. -/
namespace Tr
open PySem PySem.Spec PyProof.Rows L2 SrtO

/-- a pair whose first is a whole number -/
def IsPr (h : Heap) (v : Value) (x : Int) : Prop := ∃ a o t y n, v = .ref a ∧ h.get? a = some o ∧ o.cls = .type "tuple" ∧ o.data = .seq #[.int x t, y] n
theorem IsPr.keeps {h h' : Heap} {v : Value} {x : Int} (p : IsPr h v x) (k : ∀ b o, h.get? b = some o → o.cls = .type "tuple" → h'.get? b = some o) : IsPr h' v x := by
  obtain ⟨a, o, t, u, n, e, ho, hc, hd⟩ := p
  exact ⟨a, o, t, u, n, e, k _ _ ho hc, hc, hd⟩
theorem swo_first (k : Value → Int) : Swo fun v u => decide (k v < k u) := by
  refine ⟨fun x y h => ?_, fun x y z h1 h2 => ?_⟩
  · have a := of_decide_eq_true h
    exact decide_eq_false (by omega)
  · have a := of_decide_eq_false h1
    have b := of_decide_eq_false h2
    exact decide_eq_false (by omega)
theorem swo_firstV (k : V → Int) : Swo fun v u => decide (k v < k u) := by
  refine ⟨fun x y h => ?_, fun x y z h1 h2 => ?_⟩
  · have a := of_decide_eq_true h
    exact decide_eq_false (by omega)
  · have a := of_decide_eq_false h1
    have b := of_decide_eq_false h2
    exact decide_eq_false (by omega)
section
variable {prog : Program} {w : World} {A : Around} {s : Shared}
theorem pr_cmp {vs : List Value} {k : Value → Int} (hp : ∀ v ∈ vs, IsPr s.heap v (k v)) (hi : ∀ v ∈ vs, ∀ u ∈ vs, k v = k u → v = u) : Cmp prog w A s (tuples' true) (fun p => p.1 ∈ vs) (lt2 fun v u => decide (k v < k u)) := by
  intro p q hm hm'
  have h1 := hp _ hm
  have h2 := hp _ hm'
  have h3 := hi _ hm _ hm'
  show wpAny (model prog w) A (keyLt' (tuples' true) p.1 q.1) (fun r s' => s' = s ∧ r = decide (k p.1 < k q.1)) (fun _ _ => False) s
  generalize k p.1 = x at h1 h3 ⊢
  generalize k q.1 = x' at h2 h3 ⊢
  obtain ⟨a, o, t, u, n, e, ho, hc, hd⟩ := h1
  obtain ⟨a', o', t', u', n', e', ho', hc', hd'⟩ := h2
  rw [e, e'] at h3 ⊢
  refine PySem.W.kat_lt ho hd ho' hd' ?_
  show PySem.W.KatLex prog w A true (decide (2 < 2)) _ [(.int x t, .int x' t'), (u, u')] 0 s
  refine PySem.W.kat_cons (SeqAt.EqAt.int_int x t x' t' prog w _ _ ?_)
  refine PySem.W.kat_go (fun e1 => ?_) (fun e1 => ?_)
  · have ex : x = x' := by simpa using e1
    have ea := h3 ex
    cases ea
    rw [ho] at ho'
    cases ho'
    rw [hd] at hd'
    have eu : u = u' := by
      injection hd' with e1 e2
      have e3 := congrArg Array.toList e1
      simp at e3
      exact e3.2
    subst eu
    refine PySem.W.kat_yes (PySem.W.kat_cons (SeqAt.EqAt.same u prog w _ _ ?_))
    refine PySem.W.kat_yes (PySem.W.kat_nil ⟨rfl, ?_⟩)
    rw [ex]
    exact (decide_eq_false (Int.lt_irrefl _)).symm
  · exact PySem.W.kat_no (oneLt_int ⟨rfl, rfl⟩)
theorem prFirsts {h : Heap} : ∀ {vs : List Value}, (∀ v ∈ vs, ∃ x, IsPr h v x) → ∃ fs : List Value, PySem.W.KatTups h vs fs ∧ fs.length = vs.length ∧ ∀ f ∈ fs, ∃ x t, f = Value.int x t
  | [], _ => ⟨[], PySem.W.KatTups.nil, rfl, fun _ hm => by simp at hm⟩
  | v :: vs, hp => by
    obtain ⟨fs, h1, h2, h3⟩ := prFirsts (vs := vs) fun v' hm => hp v' (List.mem_cons_of_mem _ hm)
    obtain ⟨x, a, o, t, y, n, e, ho, hc, hd⟩ := hp v (List.mem_cons_self ..)
    subst e
    refine ⟨.int x t :: fs, PySem.W.KatTups.cons ho hc hd rfl h1, by rw [List.length_cons, List.length_cons, h2], fun f hm => ?_⟩
    rcases List.mem_cons.mp hm with rfl | hm
    · exact ⟨x, t, rfl⟩
    · exact h3 f hm
theorem pr_sortable {a : Addr} {vs : List Value} {k : Value → Int} (h0 : 0 < vs.length) (hp : ∀ v ∈ vs, IsPr s.heap v (k v)) (hi : ∀ v ∈ vs, ∀ u ∈ vs, k v = k u → v = u) (ha : ∀ o, s.heap.get? a = some o → o.cls ≠ .type "tuple") : SortableO prog w A s a vs fun v u => decide (k v < k u) := by
  intro h' keep
  have hp' : ∀ v ∈ vs, IsPr h' v (k v) := fun v hm => (hp v hm).keeps fun b o e c => keep b o (fun z => by subst z; exact ha o e c) e
  obtain ⟨fs, h1, h2, h3⟩ := prFirsts fun v hm => ⟨_, hp' v hm⟩
  refine ⟨tuples' true, fun Q E hq => ?_, pr_cmp hp' hi⟩
  refine PySem.W.kat_kind (T := .type "int") h1 (by omega) (fun f hm => ?_) (by rfl) ?_
  · obtain ⟨x, t, rfl⟩ := h3 f hm
    exact PySem.W.Looks.now
  · have e : (Value.type "int" != Value.type "tuple") = true := by first | decide +kernel | rfl | decide
    rw [e]
    exact hq
theorem sorted_prs {l : Addr} {vs : List Value} {k : Value → Int} {Q : Value → Shared → Prop} {E : Value → Shared → Prop} (hl : s.heap.IsList l vs.toArray) (hz : vs.length ≤ sizeLine) (hp : ∀ v ∈ vs, IsPr s.heap v (k v)) (hi : ∀ v ∈ vs, ∀ u ∈ vs, k v = k u → v = u)
    (h : ∀ (h' : Heap) (d : Addr) (out : List Value), Srtd (fun v u => decide (k v < k u)) out → Stb (fun v u => decide (k v < k u)) out vs → (∀ b o, s.heap.get? b = some o → h'.get? b = some o) → s.heap.objs.size ≤ d → (∃ n, h'.get? d = some (seqObj "list" out.toArray n)) → Q (.ref d) { s with heap := h' }) :
    wpAny (model prog w) A (call (.builtin "sorted") [.ref l]) Q E s := by
  refine sorted_ord (swo_first k) hl hz (fun h2 h₁ a ha kk => ?_) fun out hs hb => ?_
  · refine pr_sortable (s := { s with heap := h₁ }) (by omega) (fun v hm => (hp v hm).keeps fun b o e _ => (kk b o e).2) hi fun o e => ?_
    have e' : some o = some (seqObj "list" vs.toArray 0) := e.symm.trans ha
    cases e'
    intro c
    exact absurd (Value.type.inj c) (by decide)
  · exact h _ _ out hs hb (fun b o e => sortedAll_old e) (Nat.le_succ _) (sortedAll_at s.heap vs out.toArray)
end
theorem perm_lift {α β : Type} (f : α → β) {l k : List β} (h : l.Perm k) : ∀ {m : List α}, k = m.map f → ∃ m' : List α, m'.Perm m ∧ l = m'.map f := by
  induction h with
  | nil => intro m e; exact ⟨[], by rw [List.map_eq_nil_iff.mp e.symm], rfl⟩
  | cons a _ ih =>
    intro m e
    cases m with
    | nil => cases e
    | cons b m =>
      rw [List.map_cons] at e
      obtain ⟨h1, h2⟩ := List.cons.inj e
      subst h1
      obtain ⟨m', p, rfl⟩ := ih h2
      exact ⟨b :: m', p.cons b, rfl⟩
  | swap a b l =>
    intro m e
    cases m with
    | nil => cases e
    | cons c m =>
      cases m with
      | nil => cases e
      | cons d m =>
        rw [List.map_cons, List.map_cons] at e
        obtain ⟨h1, h2⟩ := List.cons.inj e
        obtain ⟨h3, h4⟩ := List.cons.inj h2
        subst h1 h3 h4
        exact ⟨d :: c :: m, List.Perm.swap _ _ _, rfl⟩
  | trans _ _ ih1 ih2 =>
    intro m e
    obtain ⟨m2, p2, e2⟩ := ih2 e
    obtain ⟨m1, p1, e1⟩ := ih1 e2
    exact ⟨m1, p1.trans p2, e1⟩
/-- sorted(xs) of pairs, by their first ones, which are unlike whole numbers -/
def rSortedF (K : PySem.W.Frag) : List V → Hp → VK → Prop := fun vs H Q => ∃ (a : Addr) (l : List (V × D)) (k : D → Int), vs = [V.ref a] ∧ SqL K H a (l.map (·.1)) ∧ (∀ q ∈ l, ∃ t y, q.1 = V.ref t ∧ SqT K H t [.int (k q.2), y]) ∧ (∀ q ∈ l, ∀ r ∈ l, k q.2 = k r.2 → q = r) ∧
  ∀ (m : List (V × D)) p, m.Perm l → m.Pairwise (fun x y => k x.2 ≤ k y.2) → H p = none → Q (.ref p) (upd H p (.lst (m.map (·.1))))
theorem cr_sortedF {X : Cx} : CallR X (.builtin "sorted") (rSortedF X.K) := by
  intro pins s σ H vs us Q I r h
  obtain ⟨a, l, k, rfl, hs, hx, hi, q⟩ := h
  obtain ⟨its, rv, hl, hz⟩ := I.list hs
  obtain ⟨u, rfl, ru⟩ := vals1 r
  obtain rfl : u = Value.ref a := ru
  obtain ⟨e1, e2⟩ := refs_back rv fun x m => by
    obtain ⟨q, hq, rfl⟩ := List.mem_map.mp m
    obtain ⟨t, y, e, _⟩ := hx q hq
    exact ⟨t, e⟩
  -- a thing's number
  let kf : V → Int := fun x => if h : ∃ q, q ∈ l ∧ q.1 = x then k (Classical.choose h).2 else 0
  have kf_at : ∀ q ∈ l, kf q.1 = k q.2 := fun q hq => by
    have h : ∃ r, r ∈ l ∧ r.1 = q.1 := ⟨q, hq, rfl⟩
    have e : kf q.1 = k (Classical.choose h).2 := dif_pos h
    rw [e]
    obtain ⟨hr, er⟩ := Classical.choose_spec h
    generalize Classical.choose h = r at hr er
    obtain ⟨t, y, et, ht⟩ := hx q hq
    obtain ⟨t', y', et', ht'⟩ := hx r hr
    rw [er, et] at et'
    cases et'
    have e2 := I.tuple_inj ht ht'
    injection e2 with e3 _
    injection e3 with e4
    exact e4.symm
  have inx : ∀ t, Value.ref t ∈ its → ∃ q ∈ l, q.1 = V.ref t := fun t hv => by
    have : V.ref t ∈ l.map (·.1) := by rw [e1]; exact List.mem_map.mpr ⟨_, hv, rfl⟩
    exact List.mem_map.mp this
  refine sorted_prs (k := fun u => kf (backV u)) hl.isList (by rw [← rv.length]; exact hz) (fun v hv => ?_) (fun v hv u hu e => ?_) fun h' d out h1 h2 kp hd hn => ?_
  · obtain ⟨t, rfl⟩ := e2 v hv
    obtain ⟨q, hq, eq⟩ := inx t hv
    obtain ⟨t', y, e, ht⟩ := hx q hq
    rw [eq] at e
    cases e
    obtain ⟨its2, r2, ⟨o, ho, hc, n, hd⟩, _⟩ := I.tuple ht
    obtain ⟨u1, u2, rfl, ri, rj⟩ := vals2 r2
    obtain ⟨t1, rfl⟩ := ri
    refine ⟨t, o, t1, u2, n, rfl, ho, hc, ?_⟩
    have e : kf (backV (Value.ref t)) = k q.2 := by
      show kf (V.ref t) = _
      rw [← eq]; exact kf_at q hq
    rw [e]
    exact hd
  · obtain ⟨t, rfl⟩ := e2 v hv
    obtain ⟨t', rfl⟩ := e2 u hu
    obtain ⟨q, hq, eq⟩ := inx t hv
    obtain ⟨r, hr, er⟩ := inx t' hu
    have e : kf (V.ref t) = kf (V.ref t') := e
    rw [← eq, ← er, kf_at q hq, kf_at r hr] at e
    have := hi q hq r hr e
    rw [this, er] at eq
    cases eq
    rfl
  · have h3 : ∀ u ∈ out, ∃ a, u = Value.ref a := fun u hu => e2 u (h2.perm.mem_iff.mp hu)
    obtain ⟨n, hn⟩ := hn
    have hb : Stb (fun v u => decide (kf v < kf u)) (out.map backV) (l.map (·.1)) := by
      rw [e1]
      exact Stb.map (swo_firstV kf) backV h2
    obtain ⟨m, pm, em⟩ := perm_lift (fun q : V × D => q.1) hb.perm rfl
    refine ⟨.ref d, upd H d (.lst (out.map backV)), I.laid (t' := s.toks) kp hd ⟨?_, out, n, vals_back h3, hn⟩, rfl, ?_⟩
    · rw [hb.len]
      exact hz
    · rw [em]
      refine q m d pm ?_ (I.hok.fresh hd)
      have hs2 : (out.map backV).Pairwise (fun (x y : V) => kf x ≤ kf y) := by
        rw [List.pairwise_map]
        refine List.Pairwise.imp (fun {x y} e => ?_) h1
        have := of_decide_eq_false e
        omega
      rw [em, List.pairwise_map (f := fun q : V × D => q.1)] at hs2
      refine List.Pairwise.imp_of_mem (fun {x y : V × D} hx hy h => ?_) hs2
      rwa [kf_at x (pm.mem_iff.mp hx), kf_at y (pm.mem_iff.mp hy)] at h
theorem nodup_inj {α : Type} : ∀ {l : List α}, l.Nodup → ∀ {i j : Nat} (hi : i < l.length) (hj : j < l.length), l[i] = l[j] → i = j
  | [], _, _, _, hi, _, _ => absurd hi (Nat.not_lt_zero _)
  | x :: l, _, 0, 0, _, _, _ => rfl
  | x :: l, h, 0, j + 1, _, hj, e => by
    have := (List.nodup_cons.mp h).1
    exact absurd (show x ∈ l from (show x = l[j]'(by simpa using hj) from e) ▸ List.getElem_mem _) this
  | x :: l, h, i + 1, 0, hi, _, e => by
    have := (List.nodup_cons.mp h).1
    exact absurd (show x ∈ l from (show l[i]'(by simpa using hi) = x from e) ▸ List.getElem_mem _) this
  | x :: l, h, i + 1, j + 1, hi, hj, e => congrArg (· + 1) (nodup_inj (List.nodup_cons.mp h).2 (by simpa using hi) (by simpa using hj) e)
/-- a pair's first -/
def D.fst : D → Int
  | .tup (.int i :: _) => i
  | _ => 0
def semSortF (d : D) (P : O → Prop) : Prop := match d with
  | .lst ds => (∀ d ∈ ds, ∃ i e, d = .tup [.int i, e]) ∧ (ds.map D.fst).Nodup ∧ ∀ a (es : List D), es.Perm ds → es.Pairwise (fun x y => x.fst ≤ y.fst) → P (.lst a (es.map .fz))
  | _ => False
theorem sem_sortF {K : PySem.W.Frag} : SemO1 K (rSortedF K) semSortF := by
  intro F H x d P Q sb rx hs k
  unfold semSortF at hs
  split at hs
  · rename_i ds
    obtain ⟨h1, h2, h3⟩ := hs
    cases rx with
    | @lst a xs _ ha z r =>
      have e1 : (xs.zip ds).map (·.1) = xs := by rw [List.map_fst_zip]; rw [r.length]; exact Nat.le_refl _
      have e2 : (xs.zip ds).map (·.2) = ds := by rw [List.map_snd_zip]; rw [r.length]; exact Nat.le_refl _
      have rep : ∀ q ∈ xs.zip ds, Rep K F q.1 q.2 := fun q hq => by
        obtain ⟨j, hj, e⟩ := List.getElem_of_mem hq
        have hj2 : j < ds.length := by rw [List.length_zip] at hj; omega
        have hj1 : j < xs.length := by rw [List.length_zip] at hj; omega
        obtain ⟨v, hv, rv⟩ := r.get (List.getElem?_eq_getElem hj2)
        rw [List.getElem?_eq_getElem hj1] at hv
        cases hv
        rw [← e, List.getElem_zip]
        exact rv
      refine ⟨a, xs.zip ds, D.fst, rfl, ?_, fun q hq => ?_, fun q hq q' hq' e => ?_, fun m p pm ps hp => ?_⟩
      · rw [e1]; exact .inl (.inl (sb.lst ha))
      · have hd : q.2 ∈ ds := (List.of_mem_zip (a := q.1) (b := q.2) hq).2
        obtain ⟨i, e, ed⟩ := h1 _ hd
        have rq := rep q hq
        rw [ed] at rq ⊢
        revert rq
        generalize q.1 = v
        intro rq
        cases rq with
        | tup ht _ rl =>
          cases rl with
          | cons ra rb =>
          cases rb with
          | cons rb rc =>
          cases rc
          cases ra
          exact ⟨_, _, rfl, sb.sqT ht⟩
      · -- unlike numbers, so one place
        obtain ⟨j, hj, ej⟩ := List.getElem_of_mem hq
        obtain ⟨j', hj', ej'⟩ := List.getElem_of_mem hq'
        have lz : (xs.zip ds).length = ds.length := by rw [List.length_zip, r.length, Nat.min_self]
        have f1 : (ds.map D.fst)[j]'(by rw [List.length_map]; omega) = q.2.fst := by
          rw [List.getElem_map]
          have : (xs.zip ds)[j].2 = ds[j]'(by omega) := by rw [List.getElem_zip]
          rw [← this, ej]
        have f2 : (ds.map D.fst)[j']'(by rw [List.length_map]; omega) = q'.2.fst := by
          rw [List.getElem_map]
          have : (xs.zip ds)[j'].2 = ds[j']'(by omega) := by rw [List.getElem_zip]
          rw [← this, ej']
        have : j = j' := nodup_inj h2 _ _ (f1.trans (e.trans f2.symm))
        subst this
        exact ej.symm.trans ej'
      · have pm2 : (m.map (·.2)).Perm ds := by
          have := pm.map (·.2)
          rwa [e2] at this
        have rl : RepL K F (m.map (·.1)) (m.map (·.2)) := by
          have hm : ∀ q ∈ m, Rep K F q.1 q.2 := fun q hq => rep q (pm.mem_iff.mp hq)
          clear pm ps pm2
          induction m with
          | nil => exact .nil
          | cons q m ih => exact .cons (hm q List.mem_cons_self) (ih fun q hq => hm q (List.mem_cons_of_mem _ hq))
        exact k _ _ _ _ (h3 p _ pm2 (List.pairwise_map.mpr ps)) (Res.lst hp (by rw [pm2.length_eq]; exact z) rl)
  · exact hs.elim
end Tr
/-! x.remove(y), any data. -/
namespace Tr
open PySem PySem.MeetsSeq PySem.SeqAt
open AutoSeq1 (wpAny_loadPart')
theorem rem_loopAt (l : Addr) (items : Array Value) (n : Nat) (x : Value) (e : Nat → Bool) (j : Nat) (hj : j < items.size) (hit : e j = true) (k : Nat) (hs1 : items.size ≤ sizeLine) :
    ∀ i : Nat, j - i = k → i ≤ j → (∀ m (hm : m < items.size), i ≤ m → m < j → e m = false) → Meets (Builtin.«list.remove.loop» ⟨[.ref l, x, rawInt i], []⟩)
      (fun A R s => s.heap.get? l = some { cls := .type "list", dict := none, data := .seq items n, slots := #[] } ∧ (∀ m (hm : m < items.size), m ≤ j → EqAt A.in1 s items[m] x (e m)) ∧ R (.ok (.ret .none)) { s with heap := s.heap.update l (Obj.mapSeq fun xs => xs.eraseIdxIfInBounds j) }) := by
  induction k with
  | zero =>
    intro i hk hij hno prog w A R s h
    obtain ⟨hp, g, d, tk, os⟩ := s; obtain ⟨hl, he, h⟩ := h
    have hij' : i = j := by omega
    subst hij'
    wp_walk using wpAny_loadPart' hl
    have hi : items[((i : Nat) : Int).toNat]? = some items[i] := by simp [hj]
    rw [hi]
    refine wpAny_bind (he i hj (Nat.le_refl _) prog w _ _ ?_)
    rw [hit]
    have hz' : (items.eraseIdxIfInBounds i).size ≤ sizeLine + 1 := Nat.le_trans (size_erased items _) (Nat.le_succ_of_le hs1)
    wp_walk using (wpAny_updateSeq hl rfl (hz := hs1) (_hz' := hz')), wpAny_loadPart' hl
    simpa using h
  | succ k ih =>
    intro i hk hij hno prog w A R s h
    obtain ⟨hp, g, d, tk, os⟩ := s; obtain ⟨hl, he, h⟩ := h
    have hlt : i < items.size := by omega
    wp_walk using wpAny_loadPart' hl
    have hi : items[((i : Nat) : Int).toNat]? = some items[i] := by simp [hlt]
    have hc : ((i : Int) + 1) = ((i + 1 : Nat) : Int) := by push_cast; rfl
    rw [hi]
    refine wpAny_bind (he i hlt hij prog w _ _ ?_)
    rw [hno i hlt (Nat.le_refl _) (by omega)]
    wp_walk
    rw [hc]
    exact ⟨plainId_quiet plain_remove_loop _, codeAny_builtin entry_remove_loop (by
      rw [Around.under_plainId plain_remove_loop _]
      exact ih (i + 1) (by omega) (by omega) (fun m hm h1 h2 => hno m hm (by omega) h2) prog w A R _ ⟨hl, he, h⟩)⟩
theorem rem_listAt (l : Addr) (items : Array Value) (n : Nat) (x : Value) (e : Nat → Bool) (j : Nat) (hj : j < items.size)
    (hit : e j = true) (hno : ∀ m (hm : m < items.size), m < j → e m = false) (hs1 : items.size ≤ sizeLine) :
    Meets (Builtin.«list.remove» ⟨[.ref l, x], []⟩)
      (fun A R s => s.heap.get? l = some { cls := .type "list", dict := none, data := .seq items n, slots := #[] } ∧ (∀ m (hm : m < items.size), m ≤ j → EqAt A.in1 s items[m] x (e m)) ∧ R (.ok (.ret .none)) { s with heap := s.heap.update l (Obj.mapSeq fun xs => xs.eraseIdxIfInBounds j) }) := by
  intro prog w A R s h
  obtain ⟨hp, g, d, tk, os⟩ := s; obtain ⟨hl, he, h⟩ := h
  wp_walk using wpAny_loadPart' hl
  exact ⟨plainId_quiet plain_remove_loop _, codeAny_builtin entry_remove_loop (by
    rw [Around.under_plainId plain_remove_loop _]
    exact rem_loopAt l items n x e j hj hit _ hs1 0 rfl (Nat.zero_le _) (fun m hm _ h2 => hno m hm h2) prog w A R _ ⟨hl, he, h⟩)⟩
end Tr
namespace Tr
open PySem PySem.Spec PyProof.Rows L2
/-- o.remove(e): the first that is equal -/
def tRemD (K : PySem.W.Frag) (to te : TE) : TE := fun σ H Q => to σ H fun x H1 => tyV K "list" x H1 ∧ te σ H1 fun y H2 => ∃ (l : Addr) (xs : List V) (j : Nat) (F : Hp) (d : D), x = .ref l ∧ H2 l = some (.lst xs) ∧ Sb F H2 ∧ Rep K F y d ∧ j < xs.length ∧
  (∀ m v, m ≤ j → xs[m]? = some v → ∃ u, Rep K F v u ∧ deq 58 u d = some (decide (m = j))) ∧ Q .non (upd H2 l (.lst (xs.eraseIdx j)))
theorem pe_remD {X : Cx} {o e : Expr} {to te : TE} {apos cpos : Pos} (hu : X.A.units + 64 < cLine) (ho : PE X o to) (he : PE X e te) (hbase : attributeBase o "remove" X.env (eval o X.env) = eval o X.env := by rfl)
    (hfew : ((backTo cpos (starEach [e] X.env)).all (fun x => !x.1) && (backToKw cpos (keywordEach [] X.env)).all (fun x => x.1.isSome)
      && decide (([e] : List Expr).length + ([] : List Keyword).length + (if ([] : List Keyword).isEmpty then 0 else 1) < 30)) = true := by rfl)
    (hline : (apos.endLine == cpos.line) = true := by rfl) (hs : starEach [e] X.env = (false, eval e X.env) :: starEach [] X.env := by rfl) (hplain : (backTo cpos (starEach [] X.env)).any (·.1) = false := by rfl) :
    PE X (.Call (.Attribute o "remove" apos) [e] [] cpos) (tRemD X.K to te) := by
  refine ⟨fun pins s σ H Q I h => ?_⟩
  refine wpAny_Call_method_late hbase hfew hline rfl (thn (ho.run pins s σ H _ I h) fun v s1 ⟨x, H1, I1, r1, ty, q1⟩ => ?_)
  obtain ⟨h1, h2⟩ := tyV_is I1 r1 ty
  refine ⟨"list", _, PySem.F.plainAttrs_list, PySem.F.slot_list_remove, PySem.F.type_list_remove, h1, h2, ?_⟩
  rw [hs]
  refine Calls.callWith_builtin (by show (false || (backTo cpos (starEach [] X.env)).any (·.1)) = false; rw [hplain] <;> rfl) (Calls.evalArgs_plain ?_)
  show wpAny _ _ (spliced ((false, eval e X.env) :: backTo cpos (starEach [] X.env))) _ _ s1
  refine Calls.spliced_cons (thn (he.run pins s1 σ H1 _ I1 q1) fun u s2 ⟨y, H2, I2, ry, q2⟩ => ?_)
  refine Calls.spliced_nil ?_
  obtain ⟨l, xs, j, F, d, ex, hH, sb, rd, hj, heq, qy⟩ := q2
  subst ex
  cases (show v = Value.ref l from r1)
  obtain ⟨z, its, n, r, hl, e0⟩ := I2.lstM hH
  have hj2 : j < its.length := by rw [← r.length]; exact hj
  refine call_meets PySem.F.slot_list_remove ⟨_, e0, rfl⟩ PySem.F.entry_list_remove (PySem.F.args_list_remove_2 _ _)
    (rem_listAt l its.toArray n u (fun m => decide (m = j)) j (by rw [List.size_toArray]; exact hj2) (by simp) (fun m hm hlt => decide_eq_false (by omega)) (by rw [List.size_toArray, ← r.length]; exact z)) ⟨e0, fun m hm hmj => ?_, ?_⟩
  · have hm2 : m < its.length := hm
    obtain ⟨w, hw, rw'⟩ := Vals.at' r (List.getElem?_eq_getElem hm2)
    obtain ⟨t, rt, ht⟩ := heq m w hmj hw
    refine deq_eqAt I2 sb 58 _ ?_ _ _ _ _ _ _ _ rt rd rw' ry ht
    first
      | omega
      | (show X.A.units + 1 + 58 < cLine; omega)
      | (show X.A.units + 2 + 58 < cLine; omega)
  · have r2 : Vals (xs.eraseIdx j) (its.eraseIdx j) := r.eraseIdx j
    refine ⟨.non, _, I2.lset (its' := its.eraseIdx j) hH e0 ?_ r2 ?_, rfl, qy⟩
    · show its.toArray.eraseIdxIfInBounds j = (its.eraseIdx j).toArray
      rw [List.eraseIdxIfInBounds_toArray]
    · exact Nat.le_trans (by rw [List.length_eraseIdx]; split <;> omega) z
/-- xs.remove(e); the list's items are data -/
def wRem (i : Nat) (w : WD) : WS := fun ρ E => match nth ρ i with
  | some (.lst _ _) => w ρ fun d ρ1 => match nth ρ1 i with
    | some (.lst a os) => ∃ (us : List D) (j : Nat), os = us.map .fz ∧ j < us.length ∧ (∀ m u, m ≤ j → us[m]? = some u → deq 58 u d = some (decide (m = j))) ∧ putC ρ1 i (some (.lst a ((us.eraseIdx j).map .fz))) E.nx
    | _ => False
  | _ => False
theorem RepL.eraseIdx {K : PySem.W.Frag} {F : Hp} : ∀ {us : List D} {vs : List V} (j : Nat), RepL K F vs us → RepL K F (vs.eraseIdx j) (us.eraseIdx j)
  | [], _, _, .nil => .nil
  | _ :: _, _, 0, .cons _ r => r
  | _ :: _, _, j + 1, .cons h r => .cons h (RepL.eraseIdx j r)
theorem xs_rem {X : Cx} {o e : Expr} {apos cpos pos : Pos} {i : Nat} {w : WD} (hu : X.A.units + 64 < cLine) (ho : PE X o (tVar i)) (he : XE X e w) (hbase : attributeBase o "remove" X.env (eval o X.env) = eval o X.env := by rfl)
    (hfew : ((backTo cpos (starEach [e] X.env)).all (fun x => !x.1) && (backToKw cpos (keywordEach [] X.env)).all (fun x => x.1.isSome)
      && decide (([e] : List Expr).length + ([] : List Keyword).length + (if ([] : List Keyword).isEmpty then 0 else 1) < 30)) = true := by rfl)
    (hline : (apos.endLine == cpos.line) = true := by rfl) (hst : starEach [e] X.env = (false, eval e X.env) :: starEach [] X.env := by rfl) (hplain : (backTo cpos (starEach [] X.env)).any (·.1) = false := by rfl)
    (hs : swapsWith (.Call (.Attribute o "remove" apos) [e] [] cpos) none pos.line X.env = pure false := by rfl) : XS X (.Expr (.Call (.Attribute o "remove" apos) [e] [] cpos) pos) (wRem i w) :=
  ⟨PS.imp (ps_expr (pe_remD hu ho he.pe hbase hfew hline hst hplain) hs) fun D σ H ⟨ρ, F, E, s, hw, k⟩ => by
    unfold wRem at hw
    cases hn0 : nth ρ i with
    | none => rw [hn0] at hw; exact hw.elim
    | some o0 =>
    rw [hn0] at hw
    cases o0 <;> first
      | (exact hw.elim)
      | skip
    rename_i a0 os0
    obtain ⟨v0, hv0, r0⟩ := s.slot i _ (nth_eq hn0)
    cases r0 with
    | lst h0 _ _ =>
    refine ⟨_, hv0, .inl ⟨rfl, _, .inl (.inl h0)⟩, ρ, F, _, s, hw, fun d ρ1 F1 H1 y p s1 rd f1 => ?_⟩
    cases hn : nth ρ1 i with
    | none => rw [hn] at p; exact p.elim
    | some o1 =>
    rw [hn] at p
    cases o1 <;> first
      | (exact p.elim)
      | skip
    rename_i a os
    obtain ⟨us, j, rfl, hj, heq, p2⟩ := p
    obtain ⟨hv, ⟨xs, hx⟩, s2, m2⟩ := (s1.pushD rd).atSlot (nth_eq hn)
    rw [hv0] at hv
    cases hv
    have q := s2.pop.top
    cases q with
    | @lst _ xs' _ hx' z r =>
    rw [hx] at hx'
    cases hx'
    have rl := RepOL.data r
    have z2 : us.length ≤ sizeLine := by rwa [List.length_map] at z
    obtain ⟨s3, f3⟩ := s2.mutL (os' := (us.eraseIdx j).map O.fz) (RepOL.of (RepL.eraseIdx j rl)) (by rw [List.length_map]; exact Nat.le_trans (by rw [List.length_eraseIdx]; split <;> omega) z2) (fun b hb => by rw [O.ownedL_map] at hb; cases hb) (by rw [O.ownedL_map]; exact List.nodup_nil)
    refine ⟨_, xs, j, F1, d, rfl, hx, s1.sub, rd, by rw [rl.length]; exact hj, fun m v hm hv => ?_, ?_⟩
    · obtain ⟨u, hu, ru⟩ := rl.get' hv
      exact ⟨u, ru, heq m u hm hu⟩
    · obtain ⟨s4, m4⟩ := s3.set (i := i) hv0
      rw [List.set_set] at s4 m4
      rw [putC_eq] at p2
      exact k.nx _ _ _ _ p2 s4 (f1.trans ((f3.iff (fun b => (m2 b).symm) fun b hb => hb).less m4))⟩
end Tr
/-! targets that change a held list: x[i], y = e. -/
namespace Tr
open PySem PySem.Spec PyProof.Rows L2
def liftH (K : PySem.W.Frag) (g : WG) : TG := fun v σ H Q => ∃ ρ F d P, SR K ρ σ F H ∧ Rep K F v d ∧ g d ρ P ∧ ∀ ρ' F' σ' H', P ρ' → SR K ρ' σ' F' H' → Frm (ownedE ρ) F H (ownedE ρ') F' H' → Q σ' H'
def liftHs (K : PySem.W.Frag) (g : WGs) : TGs := fun vs σ H Q => ∃ ρ F ds P, SR K ρ σ F H ∧ RepL K F vs ds ∧ g ds ρ P ∧ ∀ ρ' F' σ' H', P ρ' → SR K ρ' σ' F' H' → Frm (ownedE ρ) F H (ownedE ρ') F' H' → Q σ' H'
structure XH (X : Cx) (e : Expr) (g : WG) : Prop where
  pg : PG X e (liftH X.K g)
structure XHs (X : Cx) (es : List Expr) (g : WGs) : Prop where
  pgs : PGs X es (liftHs X.K g)
/-- x[i] = .. -/
def gIx (k : Nat) (wi : WD) : WG := fun d ρ P => match nth ρ k with
  | some (.lst _ _) => wi ρ fun e ρ1 => match nth ρ1 k with
    | some (.lst a os) => ∃ n j, e = .int n ∧ ixN os.length n = some j ∧ putC ρ1 k (some (.lst a (os.set j (.fz d)))) P
    | _ => False
  | _ => False
section
variable {X : Cx} {e o i : Expr} {es : List Expr} {g : WG} {gs : WGs} {wi : WD} {pos : Pos} {k : Nat}
theorem xh_of {ix : List Nat} (h : XG X e ix g) : XH X e g := ⟨PG.imp h.pg fun v σ H Q ⟨ρ, F, d, P, s, r, hw, kk⟩ =>
  ⟨ρ, F, d, P, s, r, hw, fun ρ' σ' p s' t => kk ρ' F σ' H p s' (Frm.refl.less t.mem)⟩⟩
theorem xhs_nil : XHs X [] gsNil := ⟨PGs.imp pgs_nil fun vs σ H Q ⟨ρ, F, ds, P, s, r, hw, kk⟩ => by
  cases ds with
  | nil =>
    cases r
    exact ⟨rfl, kk _ _ _ _ hw s .refl⟩
  | cons d ds => exact hw.elim⟩
theorem xhs_cons (h1 : XH X e g) (h2 : XHs X es gs) (hs : (assignEach (e :: es) X.env).map (·.2) = assign e X.env :: (assignEach es X.env).map (·.2) := by rfl) : XHs X (e :: es) (gsCons g gs) := ⟨PGs.imp (pgs_cons h1.pg h2.pgs hs) fun vs σ H Q ⟨ρ, F, ds, P, s, r, hw, kk⟩ => by
  cases ds with
  | nil => exact hw.elim
  | cons d ds =>
    cases r with
    | cons rd rr =>
    refine ⟨_, _, rfl, ρ, F, d, _, s, rd, hw, fun ρ1 F1 σ1 H1 p s1 f1 => ?_⟩
    exact ⟨ρ1, F1, ds, P, s1, rr.mono f1.fz, p, fun ρ2 F2 σ2 H2 p2 s2 f2 => kk _ _ _ _ p2 s2 (f1.trans f2)⟩⟩
theorem xh_tup {n : Nat} {kp : Nat} (hc : X.calm = true) (h : XHs X es gs) (hn : (assignEach es X.env).length = n := by rfl) (hst : (assignEach es X.env).findIdx? (·.1) = none := by rfl) : XH X (.Tuple es kp pos) (gT n gs) :=
  ⟨PG.imp (pg_tup hc h.pgs hn hst) fun v σ H Q ⟨ρ, F, d, P, s, r, hw, kk⟩ => by
    cases r <;> first
      | (exact hw.elim)
      | skip
    rename_i h1 z rl _
    exact ⟨_, _, rfl, s.sub.sqT h1, rl.length.trans hw.1, ρ, F, _, P, s, rl, hw.2, kk⟩⟩
theorem xh_ix (ho : PE X o (tVar k)) (hi : XE X i wi)
    (ha : ∀ v, assign (.Subscript o i pos) X.env v = (do
      let ov ← holding [v] (eval o X.env)
      let iv ← holding [v, ov] (eval i X.env)
      standAt pos
      holding [v, ov, iv] (setItem ov iv v)
      release [v, ov, iv] []) := by intro _; rfl) : XH X (.Subscript o i pos) (gIx k wi) := ⟨PG.imp (pg_sub ho hi.pe set_list ha) fun v σ H Q ⟨ρ, F, d, P, s, r, hw, kk⟩ => by
  unfold gIx at hw
  cases hn0 : nth ρ k with
  | none => rw [hn0] at hw; exact hw.elim
  | some o0 =>
  rw [hn0] at hw
  cases o0 <;> first
    | (exact hw.elim)
    | skip
  obtain ⟨v0, hv0, r0⟩ := s.slot k _ (nth_eq hn0)
  refine ⟨_, hv0, ρ, F, _, s, hw, fun e ρ2 F2 H2 u p2 s2 r2 f2 => ?_⟩
  cases hn : nth ρ2 k with
  | none => rw [hn] at p2; exact p2.elim
  | some o1 =>
  rw [hn] at p2
  cases o1 <;> first
    | (exact p2.elim)
    | skip
  rename_i a os
  obtain ⟨n, j, rfl, hj, p3⟩ := p2
  cases r2
  obtain ⟨hv, ⟨xs, hx⟩, s4, m4⟩ := (s2.pushD (r.mono f2.fz)).atSlot (nth_eq hn)
  rw [hv0] at hv
  cases hv
  have q := s4.pop.top
  cases q with
  | lst hx' z rl =>
  rw [hx] at hx'
  cases hx'
  have n1 := List.nodup_append.mp s4.nd
  have n2 := List.nodup_append.mp n1.2.1
  obtain ⟨w1, w2⟩ := ownedL_set (o := .fz d) os j
  obtain ⟨s5, f5⟩ := s4.mutL (rl.setAt s4.top j) (by rw [List.length_set]; exact z) w1 (w2 (List.nodup_append.mpr ⟨n1.1, (List.nodup_cons.mp n2.1).2, fun b hb c hc => n1.2.2 b hb c (List.mem_append_left _ (List.mem_cons_of_mem _ hc))⟩))
  refine ⟨a, xs, n, j, rfl, rfl, hx, by rw [rl.length]; exact hj, ?_⟩
  obtain ⟨s6, m6⟩ := s5.set (i := k) hv0
  rw [List.set_set] at s6 m6
  rw [putC_eq] at p3
  exact kk _ _ _ _ p3 s6 (f2.trans ((f5.iff (fun b => (m4 b).symm) fun b hb => hb).less m6))⟩
theorem xs_asgH {st : Stmt} {w : WD} (h : PS X st (tAsg (liftD X.K w) (liftH X.K g))) : XS X st (wAsg g w) := ⟨PS.imp h fun D σ H ⟨ρ, F, E, s, hw, k⟩ =>
  ⟨ρ, F, _, s, hw, fun d ρ' F' H' v p s' r f => ⟨ρ', F', d, _, s', r, p, fun ρ2 F2 σ2 H2 p2 s2 f2 => k.nx _ _ _ _ p2 s2 (f.trans f2)⟩⟩⟩
end
end Tr
/-! dicts: stores, keys, displays. -/
namespace Tr
open PySem PySem.Spec PyProof.Rows L2
section
variable {κ : Type} [DecidableEq κ]
def getG (kvs : List (κ × D)) (k : κ) : Option D := (kvs.find? fun kv => decide (kv.1 = k)).map (·.2)
def putG (kvs : List (κ × D)) (k : κ) (v : D) : List (κ × D) :=
  if (kvs.any fun kv => decide (kv.1 = k)) = true then kvs.map (fun kv => if kv.1 = k then (kv.1, v) else kv) else kvs ++ [(k, v)]
theorem getG_pos {p : κ × D} {r : List (κ × D)} {k : κ} (e : p.1 = k) : getG (p :: r) k = some p.2 := by simp [getG, List.find?_cons, e]
theorem getG_neg {p : κ × D} {r : List (κ × D)} {k : κ} (e : ¬ p.1 = k) : getG (p :: r) k = getG r k := by simp [getG, List.find?_cons, e]
theorem length_putG (kvs : List (κ × D)) (k : κ) (v : D) : (putG kvs k v).length ≤ kvs.length + 1 := by
  unfold putG
  split
  · rw [List.length_map]; omega
  · rw [List.length_append]; exact Nat.le_refl _
end
def D.key : D → Option Key
  | .int i => some (.inl i)
  | .str x => some (.inr x)
  | _ => none
def D.keyL : List D → Option (List Key)
  | [] => some []
  | d :: ds => match d.key, D.keyL ds with
    | some k, some ks => some (k :: ks)
    | _, _ => none
def D.keys : D → Option (List Key)
  | .tup ds => D.keyL ds
  | _ => none
section
variable {K : PySem.W.Frag} {F H : Hp}
theorem Rep.key {v : V} {d : D} {k : Key} (r : Rep K F v d) (h : d.key = some k) : v = kV k ∧ KOk k ∧ d = kD k := by
  cases r <;> first
    | (cases h; done)
    | skip
  · cases h; exact ⟨rfl, True.intro, rfl⟩
  · rename_i z; cases h; exact ⟨rfl, z, rfl⟩
theorem RepL.keyL : ∀ {vs : List V} {ds : List D} {ks : List Key}, RepL K F vs ds → D.keyL ds = some ks → vs = ks.map kV ∧ (∀ j ∈ ks, KOk j) ∧ ks.length = ds.length
  | _, _, ks, .nil, h => by cases h; exact ⟨rfl, fun _ h => (by cases h), rfl⟩
  | _, _, ks, .cons (v := v) (d := d) (ds := ds) rv r, h => by
    unfold D.keyL at h
    cases h1 : d.key with
    | none => rw [h1] at h; cases h
    | some k =>
      cases h2 : D.keyL ds with
      | none => rw [h1, h2] at h; cases h
      | some ks' =>
        rw [h1, h2] at h
        cases h
        obtain ⟨e1, o1, _⟩ := rv.key h1
        obtain ⟨e2, o2, l2⟩ := RepL.keyL r h2
        refine ⟨by rw [e1, e2]; rfl, fun j hj => ?_, congrArg (· + 1) l2⟩
        rcases List.mem_cons.mp hj with q | q
        · rw [q]; exact o1
        · exact o2 j q
theorem Rep.keys {v : V} {d : D} {ks : List Key} (r : Rep K F v d) (h : d.keys = some ks) : ∃ b, v = .ref b ∧ F b = some (.tup (ks.map kV)) ∧ KsOk ks := by
  cases r <;> first
    | (cases h; done)
    | skip
  rename_i a xs ds hF z rl
  obtain ⟨e, o, l⟩ := rl.keyL h
  exact ⟨a, rfl, by rw [← e]; exact hF, by rw [l]; exact z, o⟩
theorem RepK.get : ∀ {es : List (Key × V)} {kvs : List (Key × D)} (k : Key), RepK K F es kvs → (valV es k = none ∧ getG kvs k = none) ∨ ∃ v d, valV es k = some v ∧ getG kvs k = some d ∧ Rep K F v d
  | _, _, k, .nil => .inl ⟨rfl, rfl⟩
  | _, _, k, .cons (k := j) (v := v) (d := d) q h r => by
    by_cases e : j = k
    · refine .inr ⟨v, d, valV_pos e, ?_, h⟩
      simp [getG, List.find?_cons, e]
    · rw [valV_neg e, getG_neg e]
      exact RepK.get k r
theorem RepT.get : ∀ {es : List (List Key × V)} {kvs : List (List Key × D)} (k : List Key), RepT K F es kvs → (valV es k = none ∧ getG kvs k = none) ∨ ∃ v d, valV es k = some v ∧ getG kvs k = some d ∧ Rep K F v d
  | _, _, k, .nil => .inl ⟨rfl, rfl⟩
  | _, _, k, .cons (k := j) (v := v) (d := d) q h r => by
    by_cases e : j = k
    · refine .inr ⟨v, d, valV_pos e, ?_, h⟩
      simp [getG, List.find?_cons, e]
    · rw [valV_neg e, getG_neg e]
      exact RepT.get k r
theorem RepK.isSome {es : List (Key × V)} {kvs : List (Key × D)} (r : RepK K F es kvs) (k : Key) : (valV es k).isSome = (getG kvs k).isSome := by
  rcases r.get k with ⟨e1, e2⟩ | ⟨v, d, e1, e2, _⟩ <;> rw [e1, e2] <;> rfl
theorem RepT.isSome {es : List (List Key × V)} {kvs : List (List Key × D)} (r : RepT K F es kvs) (k : List Key) : (valV es k).isSome = (getG kvs k).isSome := by
  rcases r.get k with ⟨e1, e2⟩ | ⟨v, d, e1, e2, _⟩ <;> rw [e1, e2] <;> rfl
theorem RepK.any : ∀ {es : List (Key × V)} {kvs : List (Key × D)} (k : Key), RepK K F es kvs → (es.any fun kv => decide (kv.1 = k)) = kvs.any fun kv => decide (kv.1 = k)
  | _, _, k, .nil => rfl
  | _, _, k, .cons _ _ r => by
    rw [List.any_cons, List.any_cons, RepK.any k r]
theorem RepT.any : ∀ {es : List (List Key × V)} {kvs : List (List Key × D)} (k : List Key), RepT K F es kvs → (es.any fun kv => decide (kv.1 = k)) = kvs.any fun kv => decide (kv.1 = k)
  | _, _, k, .nil => rfl
  | _, _, k, .cons _ _ r => by
    rw [List.any_cons, List.any_cons, RepT.any k r]
theorem RepK.repl {k : Key} {v : V} {d : D} (rv : Rep K F v d) : ∀ {es : List (Key × V)} {kvs : List (Key × D)}, RepK K F es kvs → RepK K F (es.map fun kv => if kv.1 = k then (kv.1, v) else kv) (kvs.map fun kv => if kv.1 = k then (kv.1, d) else kv)
  | _, _, .nil => .nil
  | _, _, .cons (k := j) q h r => by
    rw [List.map_cons, List.map_cons]
    by_cases e : j = k
    · simp only [e, if_true]; exact .cons (e ▸ q) rv (RepK.repl rv r)
    · simp only [e, if_false]; exact .cons q h (RepK.repl rv r)
theorem RepT.repl {k : List Key} {v : V} {d : D} (rv : Rep K F v d) : ∀ {es : List (List Key × V)} {kvs : List (List Key × D)}, RepT K F es kvs → RepT K F (es.map fun kv => if kv.1 = k then (kv.1, v) else kv) (kvs.map fun kv => if kv.1 = k then (kv.1, d) else kv)
  | _, _, .nil => .nil
  | _, _, .cons (k := j) q h r => by
    rw [List.map_cons, List.map_cons]
    by_cases e : j = k
    · simp only [e, if_true]; exact .cons (e ▸ q) rv (RepT.repl rv r)
    · simp only [e, if_false]; exact .cons q h (RepT.repl rv r)
theorem RepK.snoc {k : Key} {v : V} {d : D} (qk : KOk k) (rv : Rep K F v d) : ∀ {es : List (Key × V)} {kvs : List (Key × D)}, RepK K F es kvs → RepK K F (es ++ [(k, v)]) (kvs ++ [(k, d)])
  | _, _, .nil => .cons qk rv .nil
  | _, _, .cons q h r => .cons q h (RepK.snoc qk rv r)
theorem RepT.snoc {k : List Key} {v : V} {d : D} (qk : KsOk k) (rv : Rep K F v d) : ∀ {es : List (List Key × V)} {kvs : List (List Key × D)}, RepT K F es kvs → RepT K F (es ++ [(k, v)]) (kvs ++ [(k, d)])
  | _, _, .nil => .cons qk rv .nil
  | _, _, .cons q h r => .cons q h (RepT.snoc qk rv r)
theorem RepK.put {es : List (Key × V)} {kvs : List (Key × D)} {k : Key} {v : V} {d : D} (r : RepK K F es kvs) (qk : KOk k) (rv : Rep K F v d) : RepK K F (putK es k v) (putG kvs k d) := by
  unfold putK putG
  rw [r.any k]
  split
  · exact r.repl rv
  · exact r.snoc qk rv
theorem RepT.put {es : List (List Key × V)} {kvs : List (List Key × D)} {k : List Key} {v : V} {d : D} (r : RepT K F es kvs) (qk : KsOk k) (rv : Rep K F v d) : RepT K F (putK es k v) (putG kvs k d) := by
  unfold putK putG
  rw [r.any k]
  split
  · exact r.repl rv
  · exact r.snoc qk rv
end

/-! ### k in d -/
def semInD (neg : Bool) (d e : D) (P : D → Prop) : Prop := match e with
  | .dct kvs => ∃ k, d.key = some k ∧ P (.bl (if neg then !(getG kvs k).isSome else (getG kvs k).isSome))
  | .dcT kvs => ∃ ks, d.keys = some ks ∧ P (.bl (if neg then !(getG kvs ks).isSome else (getG kvs ks).isSome))
  | e => semInB neg d e P
def rInD (K : PySem.W.Frag) (neg : Bool) : R2 := fun x y H Q => rInT K neg x y H Q ∨ ∃ a o, y = .ref a ∧ DGet H a x o ∧ Q (.bl (if neg then !o.isSome else o.isSome)) H
theorem op_inD {X : Cx} (hu : X.A.units + 64 < cLine) : OpR X (compareOp .In) (rInD X.K false) := op_inT.or (by
  intro pins s σ H x y v u Q I rx ry h
  obtain ⟨a, o, rfl, g, q⟩ := h
  obtain rfl : u = Value.ref a := ry
  exact d_in (by omega) I g rx fun s3 I3 => ⟨.bl o.isSome, H, I3, rfl, q⟩)
theorem op_notInD {X : Cx} (hu : X.A.units + 64 < cLine) : OpR X (compareOp .NotIn) (rInD X.K true) := op_notInT.or (by
  intro pins s σ H x y v u Q I rx ry h
  obtain ⟨a, o, rfl, g, q⟩ := h
  obtain rfl : u = Value.ref a := ry
  exact d_notIn (by omega) I g rx fun s3 I3 => ⟨.bl (!o.isSome), H, I3, rfl, q⟩)
theorem sem_inD {K : PySem.W.Frag} (neg : Bool) : SemS K (rInD K neg) (semInD neg) := by
  intro F H x y d e P Q sb rx ry hs k
  cases e <;> first
    | (exact .inl (sem_in neg F H x y d _ P Q sb rx ry hs k))
    | skip
  · obtain ⟨kk, hk, h⟩ := hs
    obtain ⟨rfl, ok, _⟩ := rx.key hk
    cases ry with
    | @dct a es _ hF z r =>
    refine .inr ⟨a, valV es kk, rfl, .inl ⟨es, kk, sb.dK hF, rfl, rfl⟩, ?_⟩
    rw [r.isSome kk]
    exact k _ _ h fun _ => .bl _
  · obtain ⟨kk, hk, h⟩ := hs
    obtain ⟨b, rfl, hb, ok⟩ := rx.keys hk
    cases ry with
    | @dcT a es _ hF z r =>
    refine .inr ⟨a, valV es kk, rfl, .inr ⟨es, kk, b, sb.dT hF, rfl, sb.tup hb, rfl⟩, ?_⟩
    rw [r.isSome kk]
    exact k _ _ h fun _ => .bl _

/-! ### a held dict changed -/
section
variable {K : PySem.W.Frag} {F H : Hp} {ρ : TEnv} {σ : L2.St}
/-- a held thing of one object, no other held thing within, is written -/
theorem SR.mut1 {a : Addr} {o o' : O} {u : HO} (s : SR K (some o :: ρ) (some (.ref a) :: σ) F H) (ho : o.owned = [a]) (ho' : o'.owned = [a]) (r : RepO K F (upd H a u) (.ref a) o') :
    SR K (some o' :: ρ) (some (.ref a) :: σ) F (upd H a u) ∧ Frm (ownedE (some o :: ρ)) F H (ownedE (some o' :: ρ)) F (upd H a u) := by
  have n1 := List.nodup_append.mp s.nd
  have ha : a ∈ slotOwned (some o) := by show a ∈ o.owned; rw [ho]; exact List.mem_singleton_self _
  have fa : F a = none := s.own a (List.mem_append_left _ ha)
  have nr : a ∉ ownedE ρ := fun h => n1.2.2 a ha a h rfl
  have sb : Sb F (upd H a u) := fun b w h => by
    rw [upd_ne (fun e => by subst e; rw [fa] at h; cases h)]
    exact s.sub b w h
  have s0 := s.pop
  have sρ : SR K ρ σ F (upd H a u) := ⟨sb, s0.len, fun i w e => by
    obtain ⟨v, hv, q⟩ := s0.slot i w e
    exact ⟨v, hv, q.mono (fun _ _ h => h) fun b hb x hx => by
      rw [upd_ne (fun e' => nr (by subst e'; exact mem_ownedE e b hb))]; exact hx⟩, s0.own, s0.nd⟩
  have nf : ∀ ob w, H a ≠ some (.frz ob w) := s.top.nofrz a ha
  refine ⟨sρ.push r (fun b hb => ?_) ?_, fun _ _ h => h, fun b w hb _ hf e => ⟨?_, hf⟩, fun b hb => .inl ?_, fun b w e => ?_, fun b ob w e => ?_⟩
  · rw [ho'] at hb
    rw [List.mem_singleton.mp hb]; exact fa
  · rw [ho']
    exact List.nodup_cons.mpr ⟨nr, s0.nd⟩
  · rw [upd_ne (fun q => hb (by subst q; exact List.mem_append_left _ ha))]; exact e
  · rcases List.mem_append.mp hb with h | h
    · have h : b ∈ o'.owned := h
      rw [ho'] at h
      rw [List.mem_singleton.mp h]
      exact List.mem_append_left _ ha
    · exact List.mem_append_right _ h
  · by_cases q : b = a
    · subst q; exact ⟨_, upd_same⟩
    · exact ⟨w, by rw [upd_ne q]; exact e⟩
  · rw [upd_ne (fun q => nf ob w (by subst q; exact e))]; exact e
end
/-- x[k] = e, x a held dict -/
def wSetK (i : Nat) (wk w : WD) : WS := fun ρ E => w ρ fun v ρ1 => match nth ρ1 i with
  | some _ => wk ρ1 fun d ρ2 => match nth ρ2 i with
    | some (.dcT a kvs) => ∃ ks, d.keys = some ks ∧ kvs.length < sizeLine ∧ putC ρ2 i (some (.dcT a (putG kvs ks v))) E.nx
    | some (.dct a kvs) => ∃ k, d.key = some k ∧ kvs.length < sizeLine ∧ putC ρ2 i (some (.dct a (putG kvs k v))) E.nx
    | _ => False
  | none => False
section
variable {X : Cx} {st : Stmt} {o e ei : Expr} {wk w : WD} {pos pos' : Pos} {i : Nat}
theorem xs_setK (hu : X.A.units + 64 < cLine) (ho : PE X o (tVar i)) (hk : XE X ei wk) (hv : XE X e w) (hs : swapsWith e (some (.Subscript o ei pos')) pos.line X.env = pure false := by rfl) : XS X (.Assign [.Subscript o ei pos'] e pos) (wSetK i wk w) :=
  ⟨PS.imp (ps_dput (by omega) ho hk.pe hv.pe hs) fun Dn σ H ⟨ρ, F, E, s, hw, k⟩ => by
    refine ⟨ρ, F, _, s, hw, fun v ρ1 F1 H1 y p s1 rv f1 => ?_⟩
    cases hn1 : nth ρ1 i with
    | none => rw [hn1] at p; exact p.elim
    | some o1 =>
    rw [hn1] at p
    obtain ⟨x0, hx0, r0⟩ := s1.slot i _ (nth_eq hn1)
    refine ⟨x0, hx0, ρ1, F1, _, s1, p, fun d ρ2 F2 H2 z p2 s2 rd f2 => ?_⟩
    cases hn2 : nth ρ2 i with
    | none => rw [hn2] at p2; exact p2.elim
    | some o2 =>
    rw [hn2] at p2
    obtain ⟨x, hx, s3, m3⟩ := s2.take (nth_eq hn2)
    rw [hx0] at hx
    cases hx
    have rv2 := rv.mono f2.fz
    cases o2 <;> first
      | (exact p2.elim)
      | skip
    · rename_i a kvs
      obtain ⟨kk, hkk, hl, p3⟩ := p2
      obtain ⟨rfl, ok, _⟩ := rd.key hkk
      have q := s3.top
      cases q with
      | @dct _ es _ hH lz rk =>
      have r2 := rk.put ok rv2
      obtain ⟨s4, f4⟩ := s3.mut1 (o' := .dct a (putG kvs kk v)) (u := .dK (putK es kk y)) rfl rfl (.dct upd_same (Nat.le_trans (length_putG _ _ _) hl) r2)
      obtain ⟨s5, m5⟩ := s4.set (i := i) hx0
      rw [List.set_set] at s5 m5
      rw [putC_eq] at p3
      exact ⟨a, _, rfl, .inl ⟨es, kk, hH, rfl, by rw [rk.length]; exact hl, rfl⟩, k.nx _ _ _ _ p3 s5 (f1.trans (f2.trans ((f4.iff (fun b => m3 b) fun b hb => hb).less m5)))⟩
    · rename_i a kvs
      obtain ⟨kk, hkk, hl, p3⟩ := p2
      obtain ⟨b, rfl, hb, ok⟩ := rd.keys hkk
      have q := s3.top
      cases q with
      | @dcT _ es _ hH lz rk =>
      have r2 := rk.put ok rv2
      obtain ⟨s4, f4⟩ := s3.mut1 (o' := .dcT a (putG kvs kk v)) (u := .dT (putK es kk y)) rfl rfl (.dcT upd_same (Nat.le_trans (length_putG _ _ _) hl) r2)
      obtain ⟨s5, m5⟩ := s4.set (i := i) hx0
      rw [List.set_set] at s5 m5
      rw [putC_eq] at p3
      exact ⟨a, _, rfl, .inr ⟨es, kk, b, hH, rfl, s2.sub.tup hb, by rw [rk.length]; exact hl, rfl⟩, k.nx _ _ _ _ p3 s5 (f1.trans (f2.trans ((f4.iff (fun b => m3 b) fun b hb => hb).less m5)))⟩⟩
end

/-! ### what stands in the heap as a tuple, told to be data -/
def addT (F : Hp) (b : Addr) (xs : List V) : Hp := match F b with
  | some _ => F
  | none => upd F b (.tup xs)
def addTs (F : Hp) : List (Addr × List V) → Hp
  | [] => F
  | q :: l => addTs (addT F q.1 q.2) l
section
variable {K : PySem.W.Frag} {F H : Hp} {ρ : TEnv} {σ : L2.St}
theorem SR.addT {b : Addr} {xs : List V} (s : SR K ρ σ F H) (h : H b = some (.tup xs)) : SR K ρ σ (addT F b xs) H ∧ (∀ L, Frm L F H L (addT F b xs) H) ∧ (addT F b xs) b = some (.tup xs) := by
  cases hF : F b with
  | some o =>
    rw [show Tr.addT F b xs = F by unfold Tr.addT; rw [hF]]
    refine ⟨s, fun L => .refl, ?_⟩
    rcases s.sub b o hF with z | ⟨_, _, z⟩
    · rw [h] at z
      rw [hF, ← Option.some.inj z]
    · rw [h] at z
      cases z
  | none =>
    rw [show Tr.addT F b xs = upd F b (.tup xs) by unfold Tr.addT; rw [hF]]
    have su : Sub F (upd F b (.tup xs)) := fun c u e => by
      rw [upd_ne (ne_of_none e hF)]; exact e
    refine ⟨⟨fun c u e => ?_, s.len, fun i o e => ?_, fun a ha => ?_, s.nd⟩, fun L => ⟨su, fun c u _ nt hf e => ⟨e, ?_⟩, fun _ h => .inl h, fun _ o h => ⟨o, h⟩, fun _ _ _ h => h⟩, upd_same⟩
    · by_cases q : c = b
      · subst q
        rw [upd_same] at e
        rw [← Option.some.inj e]
        exact .inl h
      · rw [upd_ne q] at e
        exact s.sub c u e
    · obtain ⟨v, hv, r⟩ := s.slot i o e
      exact ⟨v, hv, r.mono su fun _ _ _ h => h⟩
    · by_cases q : a = b
      · subst q
        exact absurd True.intro (s.ntE a ha _ h)
      · rw [upd_ne q]
        exact s.own a ha
    · by_cases q : c = b
      · subst q
        rw [h] at e
        rw [← Option.some.inj e] at nt
        exact absurd True.intro nt
      · rw [upd_ne q]
        exact hf
theorem SR.addTs : ∀ {l : List (Addr × List V)} {F : Hp}, (∀ q ∈ l, H q.1 = some (.tup q.2)) → SR K ρ σ F H → SR K ρ σ (Tr.addTs F l) H ∧ (∀ L, Frm L F H L (Tr.addTs F l) H) ∧ ∀ q ∈ l, (Tr.addTs F l) q.1 = some (.tup q.2)
  | [], F, _, s => ⟨s, fun _ => .refl, fun _ h => (by cases h)⟩
  | q :: l, F, h, s => by
    obtain ⟨s1, f1, e1⟩ := s.addT (h q List.mem_cons_self)
    obtain ⟨s2, f2, e2⟩ := SR.addTs (l := l) (fun r hr => h r (List.mem_cons_of_mem _ hr)) s1
    refine ⟨s2, fun L => (f1 L).trans (f2 L), fun r hr => ?_⟩
    rcases List.mem_cons.mp hr with e | m
    · rw [e]
      exact (f2 []).fz _ _ e1
    · exact e2 r m
/-- the keys of a dict, as a new list -/
theorem keys_rep {kvs : List (List Key × D)} : ∀ {es : List (List Key × V)} {kvs : List (List Key × D)} {bs : List Addr} {F : Hp}, RepT K F es kvs → IsKeys H es bs → (∀ q ∈ bs.zip (es.map fun e => e.1.map kV), F q.1 = some (.tup q.2)) → RepL K F (bs.map V.ref) (kvs.map fun q => kT q.1)
  | _, _, _, _, .nil, .nil, _ => .nil
  | _, _, _, _, .cons q h r, .cons hb t, hF => .cons (.tup (hF _ List.mem_cons_self) (by rw [List.length_map]; exact q.1) (kDs_rep q.2)) (keys_rep (kvs := []) r t fun x hx => hF x (List.mem_cons_of_mem _ hx))
theorem isKeys_zip : ∀ {es : List (List Key × V)} {bs : List Addr}, IsKeys H es bs → ∀ q ∈ bs.zip (es.map fun e => e.1.map kV), H q.1 = some (.tup q.2)
  | _, _, .nil, _, h => by cases h
  | _, _, .cons hb t, q, h => by
    rcases List.mem_cons.mp h with e | m
    · rw [e]; exact hb
    · exact isKeys_zip t q m
theorem RepT.mono' {F F' : Hp} (s : Sub F F') {es : List (List Key × V)} {kvs : List (List Key × D)} (r : RepT K F es kvs) : RepT K F' es kvs := RepT.mono s r
end
/-- list(x), x held: its keys, or its items -/
def wListH (i : Nat) : WO := fun ρ P => match nth ρ i with
  | some (.dcT _ kvs) => ∀ b, P (.lst b ((kvs.map fun q => kT q.1).map .fz)) ρ
  | some (.lst _ os) => ∃ us : List D, os = us.map .fz ∧ ∀ b, P (.lst b (us.map .fz)) ρ
  | _ => False
section
variable {X : Cx} {e : Expr} {p pos : Pos} {i : Nat}
theorem xo_listH (hc : X.calm = true) (hg : Gl X "list") (hm : X.mg "list" = none) (h : PE X e (tVar i))
    (he : starEach [e] X.env = (false, eval e X.env) :: starEach [] X.env := by rfl) (hpl : (backTo pos (starEach [] X.env)).any (·.1) = false := by rfl) : XO X (.Call (.Name "list" p) [e] [] pos) (wListH i) :=
  ⟨PE.imp (pe_callTy (call_list_of.or (call_list_dT hc)) hg hm (by decide +kernel) (pa_cons h pa_nil he) (by decide) (by decide) he hpl) fun σ H Q ⟨ρ, F, P, s, hw, k⟩ => by
    unfold wListH at hw
    cases hn : nth ρ i with
    | none => rw [hn] at hw; exact hw.elim
    | some o =>
    rw [hn] at hw
    obtain ⟨v, hv, ro⟩ := s.slot i _ (nth_eq hn)
    cases o <;> first
      | (exact hw.elim)
      | skip
    · rename_i a os
      obtain ⟨us, rfl, p2⟩ := hw
      cases ro with
      | @lst _ xs _ hx z rl =>
      refine ⟨_, hv, .inl ⟨a, xs, rfl, .inl (.inl (.inl hx)), fun l hl => ?_⟩⟩
      obtain ⟨s2, f2⟩ := Res.lst (K := X.K) hl (by rw [List.length_map] at z; exact z) rl.data ρ σ s
      exact k _ _ _ _ _ (p2 l) s2 f2
    · rename_i a kvs
      cases ro with
      | @dcT _ es _ hx z rk =>
      refine ⟨_, hv, .inr ⟨a, es, rfl, .inl hx, fun l bs hl hk => ?_⟩⟩
      obtain ⟨s1, f1, g1⟩ := s.addTs (isKeys_zip hk)
      have r2 := keys_rep (kvs := []) (rk.mono' (f1 []).fz) hk g1
      obtain ⟨s2, f2⟩ := Res.lst (K := X.K) hl (by rw [List.length_map]; exact z) r2 ρ σ s1
      exact k _ _ _ _ _ (hw l) s2 ((f1 _).trans f2)⟩
end

/-! ### {k: v}, k a tuple -/
def tDisp1T (tk tv : TE) : TE := fun σ H Q => ∀ p, H p = none → tk σ (upd H p (.dT [])) fun x H1 => tv σ H1 fun y H2 => ∃ (b : Addr) (ks : List Key), x = .ref b ∧ H2 b = some (.tup (ks.map kV)) ∧ H2 p = some (.dT []) ∧ Q (.ref p) (upd H2 p (.dT [(ks, y)]))
theorem pe_disp1T {X : Cx} {kx vx : Expr} {pos : Pos} {tk tv : TE} (hu : X.A.units + 64 < cLine) (hk : PE X kx tk) (hv : PE X vx tv) : PE X (.Dict [some kx] [vx] pos) (tDisp1T tk tv) := by
  refine ⟨fun pins s σ H Q I q => ?_⟩
  have hn := I.hok.fresh (Nat.le_refl s.heap.objs.size)
  have I1 := I.laid (a := s.heap.objs.size) (o := .dT []) (h' := s.heap.push { cls := .type "dict", data := .dict #[] }) (t' := s.toks) (fun _ _ q => Heap.get?_push_of_some _ q) (Nat.le_refl _) (dt_empty s.heap I.big)
  rw [arm_eval_Dict, zip_pairTrees [some kx] [vx] X.env pos rfl rfl, dictDisplay_pairs _ (by simp [pairTrees]) (by simp [pairTrees])]
  refine wpAny_bind (wpAny_standAt (wpAny_bind ?_))
  unfold subDict
  refine wpAny_bind (wpAny_alloc ?_)
  refine wpAny_bind (wpAny_holding ?_)
  rw [if_pos (by simp [pairTrees])]
  refine wpAny_bind (pairTrees_cons_walk (thn (hk.run pins _ σ _ _ I1 (q _ hn)) fun u s1 ⟨x, H1, I2, rx, q1⟩ => thn (hv.run pins s1 σ H1 _ I2 q1) fun w2 s2 ⟨y, H2, I3, ry, b, ks, ex, hb, hp, q2⟩ => pairTrees_nil_walk ?_))
  subst ex
  cases (show u = Value.ref b from rx)
  obtain ⟨z, hd, xs, rel, dd⟩ := dt_of I3.hok hp
  cases rel
  refine wpAny_holding ?_
  refine wpAny_bind ?_
  rw [List.forIn_cons]
  refine wpAny_bind (wpAny_bind (wpAny_dictSet_heap (hsz := Nat.zero_le _) (show X.A.units < cLine by omega) (key_of I3.hok hb) dd fun h' dd' hs => wpAny_pure ?_))
  dsimp only
  rw [List.forIn_nil]
  refine wpAny_pure (wpAny_pure (wpAny_pure (wpAny_pure ?_)))
  obtain ⟨q, es, ep, hq, h2, h3, h4, _, h5⟩ := dd'
  refine ⟨.ref s.heap.objs.size, _, d_write (ob := .dT [(ks, y)]) I3 (by rw [hp]; exact True.intro) hs ⟨q, hq⟩ ⟨by show 1 ≤ sizeLine; decide, hd, _, KT.keeps (KT.put (kvs := []) (xs := []) .nil ks hb ry) fun c ys ec => ?_, q, es, ep, hq, h2, h3, h4, h5⟩, rfl, q2⟩
  rw [upd_ne (ne_of ec hp (fun z => nomatch z))]
  exact ec
/-- {k: v}, one pair, k a tuple -/
def wDisp1T (wk wv : WD) : WO := fun ρ P => wk ρ fun d ρ1 => wv ρ1 fun e ρ2 => ∃ ks, d.keys = some ks ∧ ∀ a, P (.dcT a [(ks, e)]) ρ2
theorem xo_disp1T {X : Cx} {kx vx : Expr} {pos : Pos} {wk wv : WD} (hu : X.A.units + 64 < cLine) (hk : XE X kx wk) (hv : XE X vx wv) : XO X (.Dict [some kx] [vx] pos) (wDisp1T wk wv) :=
  ⟨PE.imp (pe_disp1T hu hk.pe hv.pe) fun σ H Q ⟨ρ, F, P, s, hw, k⟩ p hp => by
    obtain ⟨s0, f0⟩ := s.newO (u := .dT []) (o := .dcT p []) hp (.dcT upd_same (Nat.zero_le _) .nil) rfl
    refine ⟨ρ, F, _, s0.pop, hw, fun d ρ1 F1 H1 x p1 s1 rd f1 => ?_⟩
    obtain ⟨t1, g1⟩ := s0.frame s1 f1
    refine ⟨ρ1, F1, _, s1, p1, fun e ρ2 F2 H2 y p2 s2 re f2 => ?_⟩
    obtain ⟨t2, g2⟩ := t1.frame s2 f2
    obtain ⟨ks, hks, p3⟩ := p2
    obtain ⟨b, rfl, hb, ok⟩ := (rd.mono f2.fz).keys hks
    have q := t2.top
    cases q with
    | @dcT _ es _ hH lz rk =>
    cases rk
    obtain ⟨t3, g3⟩ := t2.mut1 (o' := .dcT p [(ks, e)]) (u := .dT [(ks, y)]) rfl rfl (.dcT upd_same (by show 1 ≤ sizeLine; decide) (.cons ok re .nil))
    exact ⟨b, ks, rfl, s2.sub.tup hb, hH, k _ _ _ _ _ (p3 p) t3 (f0.trans (g1.trans (g2.trans g3)))⟩⟩
end Tr
namespace Lw
def InR (base : Int) (l : List Int) : Prop := ∀ x ∈ l, 0 ≤ x ∧ x < base
def times (n p : Int) (l : List Int) : List Int := l.map fun x => x * n % p
def together (p : Int) (l m : List Int) : List Int := List.zipWith (fun a b => (a + b) % p) l m
def dot (l m : List Int) : Int := (List.zipWith (fun a b => a * b) l m).sum
/-- l less n times m -/
def less (l m : List Int) (n p : Int) : List Int := List.zipWith (fun a b => (a - n * b) % p) l m
theorem dot_cons (x y : Int) (l m : List Int) : dot (x :: l) (y :: m) = x * y + dot l m := by simp [dot]
theorem em_add {p a b c d : Int} (h : a % p = b % p) (h2 : c % p = d % p) : (a + c) % p = (b + d) % p := by rw [Int.add_emod, h, h2, ← Int.add_emod]
theorem em_mul {p a b c d : Int} (h : a % p = b % p) (h2 : c % p = d % p) : (a * c) % p = (b * d) % p := by rw [Int.mul_emod, h, h2, ← Int.mul_emod]
theorem em_sub {p a b c d : Int} (h : a % p = b % p) (h2 : c % p = d % p) : (a - c) % p = (b - d) % p := by rw [Int.sub_emod, h, h2, ← Int.sub_emod]
theorem dot_nil (m : List Int) : dot [] m = 0 := rfl
theorem dot_nil_r (l : List Int) : dot l [] = 0 := by cases l <;> rfl
theorem dot_comm : ∀ l m : List Int, dot l m = dot m l
  | [], m => by rw [dot_nil, dot_nil_r]
  | _ :: _, [] => rfl
  | x :: l, y :: m => by rw [dot_cons, dot_cons, dot_comm l m, Int.mul_comm]
theorem dot_less {p n : Int} : ∀ {l m x : List Int}, l.length = m.length → dot (less l m n p) x % p = (dot l x - n * dot m x) % p
  | [], [], x, _ => by simp [less, dot]
  | [], _ :: _, _, h => by cases h
  | _ :: _, [], _, h => by cases h
  | a :: l, b :: m, [], _ => by rw [dot_nil_r, dot_nil_r, dot_nil_r]; simp
  | a :: l, b :: m, c :: x, h => by
    show dot ((a - n * b) % p :: less l m n p) (c :: x) % p = _
    rw [dot_cons, dot_cons, dot_cons]
    have ih := dot_less (p := p) (n := n) (l := l) (m := m) (x := x) (by simpa using h)
    rw [em_add (em_mul (Int.emod_emod _ _) rfl) ih]
    congr 1
    rw [Int.sub_mul, Int.mul_add, Int.mul_assoc]
    omega
theorem dot_times {p n : Int} : ∀ {l x : List Int}, dot (times n p l) x % p = n * dot l x % p
  | [], x => by simp [times, dot]
  | a :: l, [] => by rw [dot_nil_r, dot_nil_r, Int.mul_zero]
  | a :: l, c :: x => by
    show dot (a * n % p :: times n p l) (c :: x) % p = _
    rw [dot_cons, dot_cons, em_add (em_mul (Int.emod_emod _ _) rfl) (dot_times (l := l) (x := x)), Int.mul_add]
    congr 2
    rw [← Int.mul_assoc, Int.mul_comm a n]
theorem less_len {l m : List Int} {n p : Int} (h : l.length = m.length) : (less l m n p).length = l.length := by simp [less, h]
theorem times_len {l : List Int} {n p : Int} : (times n p l).length = l.length := by simp [times]
theorem less_get {l m : List Int} {n p : Int} (h : l.length = m.length) {k : Nat} (hk : k < l.length) : (less l m n p).getD k 0 = (l.getD k 0 - n * m.getD k 0) % p := by
  unfold less
  rw [List.getD_eq_getElem?_getD, List.getElem?_zipWith, List.getElem?_eq_getElem hk, List.getElem?_eq_getElem (by omega : k < m.length), List.getD_eq_getElem?_getD, List.getD_eq_getElem?_getD, List.getElem?_eq_getElem hk, List.getElem?_eq_getElem (by omega : k < m.length)]
  rfl
theorem times_get {l : List Int} {n p : Int} {k : Nat} : (times n p l).getD k 0 = l.getD k 0 * n % p := by
  unfold times
  rw [List.getD_eq_getElem?_getD, List.getElem?_map, List.getD_eq_getElem?_getD]
  cases l[k]? <;> simp
theorem less_in {l m : List Int} {n p : Int} (hp : 0 < p) : InR p (less l m n p) := fun x hx => by
  unfold less at hx
  rw [← List.map_uncurry_zip_eq_zipWith] at hx
  obtain ⟨q, _, rfl⟩ := List.mem_map.mp hx
  exact ⟨Int.emod_nonneg _ (by omega), Int.emod_lt_of_pos _ hp⟩
theorem times_in {l : List Int} {n p : Int} (hp : 0 < p) : InR p (times n p l) := fun x hx => by
  obtain ⟨q, _, rfl⟩ := List.mem_map.mp hx
  exact ⟨Int.emod_nonneg _ (by omega), Int.emod_lt_of_pos _ hp⟩
theorem inR_get {p : Int} {l : List Int} (hp : 0 < p) (h : InR p l) (k : Nat) : 0 ≤ l.getD k 0 ∧ l.getD k 0 < p := by
  rw [List.getD_eq_getElem?_getD]
  cases e : l[k]? with
  | none => exact ⟨Int.le_refl _, hp⟩
  | some x => exact h x (List.mem_of_getElem? e)
theorem ext_getD {l m : List Int} (h : l.length = m.length) (e : ∀ k, k < l.length → l.getD k 0 = m.getD k 0) : l = m := by
  apply List.ext_getElem h
  intro k h1 h2
  have := e k h1
  rwa [List.getD_eq_getElem?_getD, List.getD_eq_getElem?_getD, List.getElem?_eq_getElem h1, List.getElem?_eq_getElem h2] at this

/-! ### bases -/
abbrev Bs := List (Nat × List Int)
def nul (p : Int) (rows : List (List Int)) (x : List Int) : Prop := ∀ r ∈ rows, dot r x % p = 0
def rowsOf (B : Bs) : List (List Int) := B.map (·.2)
structure Rref (p : Int) (w : Nat) (B : Bs) : Prop where
  len : ∀ q ∈ B, q.2.length = w
  rng : ∀ q ∈ B, InR p q.2
  lt : ∀ q ∈ B, q.1 < w
  one : ∀ q ∈ B, q.2.getD q.1 0 = 1
  zero : ∀ q ∈ B, ∀ k, k < q.1 → q.2.getD k 0 = 0
  oth : ∀ q ∈ B, ∀ q' ∈ B, q.1 ≠ q'.1 → q.2.getD q'.1 0 = 0
  srt : B.Pairwise fun a b => a.1 < b.1
theorem nul_rows {p : Int} {B : Bs} {x : List Int} : nul p (rowsOf B) x ↔ ∀ q ∈ B, dot q.2 x % p = 0 := by
  unfold nul rowsOf
  simp
  exact ⟨fun h a b hab => h _ _ hab, fun h r n hn => h n r hn⟩
theorem dot_unit : ∀ {w k : Nat} (r : List Int), r.length = w → k < w → dot r ((List.replicate w (0 : Int)).set k 1) = r.getD k 0
  | 0, _, _, _, h => absurd h (Nat.not_lt_zero _)
  | w + 1, _, [], h, _ => by cases h
  | w + 1, 0, a :: r, _, _ => by
    show dot (a :: r) (1 :: List.replicate w 0) = a
    have z : ∀ (r : List Int) (w : Nat), dot r (List.replicate w 0) = 0 := by
      intro r
      induction r with
      | nil => intro w; rfl
      | cons a r ih =>
        intro w
        cases w with
        | zero => rfl
        | succ w => rw [List.replicate_succ, dot_cons, ih, Int.mul_zero]; rfl
    rw [dot_cons, z]; omega
  | w + 1, k + 1, a :: r, h, hk => by
    show dot (a :: r) (0 :: (List.replicate w 0).set k 1) = r.getD k 0
    rw [dot_cons, dot_unit r (by simpa using h) (by omega)]; omega
theorem dot_set : ∀ {r x : List Int} {j : Nat} (v : Int), r.length = x.length → j < x.length → x.getD j 0 = 0 → dot r (x.set j v) = dot r x + r.getD j 0 * v
  | [], x, j, v, h, hj, _ => by simp at h; omega
  | a :: r, [], _, _, h, _, _ => by cases h
  | a :: r, y :: x, 0, v, _, _, h0 => by
    have h0 : y = 0 := h0
    subst h0
    show dot (a :: r) (v :: x) = dot (a :: r) (0 :: x) + a * v
    rw [dot_cons, dot_cons]; omega
  | a :: r, y :: x, j + 1, v, h, hj, h0 => by
    have e1 : dot (a :: r) ((y :: x).set (j + 1) v) = a * y + dot r (x.set j v) := dot_cons a y r _
    have e2 : (a :: r).getD (j + 1) 0 = r.getD j 0 := rfl
    have e3 := dot_set (r := r) (x := x) (j := j) v (by simpa using h) (by simpa using hj) h0
    rw [e1, e2, dot_cons, e3]; omega
/-- the null that has 1 at k -/
def nullGo (p : Int) (k : Nat) (B : Bs) (x : List Int) : List Int := B.foldl (fun x q => x.set q.1 ((0 - q.2.getD k 0) % p)) x
def nullFor (p : Int) (w k : Nat) (B : Bs) : List Int := nullGo p k B ((List.replicate w 0).set k 1)
theorem getD_set_ne {x : List Int} {i j : Nat} {v : Int} (h : i ≠ j) : (x.set i v).getD j 0 = x.getD j 0 := by
  rw [List.getD_eq_getElem?_getD, List.getElem?_set_ne h, ← List.getD_eq_getElem?_getD]
theorem getD_set_eq {x : List Int} {i : Nat} {v : Int} (h : i < x.length) : (x.set i v).getD i 0 = v := by
  rw [List.getD_eq_getElem?_getD, List.getElem?_set_self h]; rfl
theorem dot_nullGo {p : Int} {k : Nat} {r : List Int} : ∀ {B : Bs} {x : List Int}, r.length = x.length → (∀ q ∈ B, q.1 < x.length ∧ x.getD q.1 0 = 0) → B.Pairwise (fun a b => a.1 < b.1) →
    dot r (nullGo p k B x) = dot r x + (B.map fun q => r.getD q.1 0 * ((0 - q.2.getD k 0) % p)).sum
  | [], x, _, _, _ => by simp [nullGo]
  | q :: B, x, h, h0, hs => by
    have hs := List.pairwise_cons.mp hs
    show dot r (nullGo p k B (x.set q.1 ((0 - q.2.getD k 0) % p))) = _
    rw [dot_nullGo (by simpa using h) (fun q' hq' => ⟨by simpa using (h0 q' (List.mem_cons_of_mem _ hq')).1, by
      rw [getD_set_ne (by have := hs.1 q' hq'; omega)]; exact (h0 q' (List.mem_cons_of_mem _ hq')).2⟩) hs.2, dot_set _ h (h0 q List.mem_cons_self).1 (h0 q List.mem_cons_self).2, List.map_cons, List.sum_cons]
    omega
def notLead (k : Nat) (B : Bs) : Prop := ∀ q ∈ B, q.1 ≠ k
theorem unit_get {w k j : Nat} (h : k ≠ j) : ((List.replicate w (0 : Int)).set k 1).getD j 0 = 0 := by
  rw [getD_set_ne h, List.getD_eq_getElem?_getD, List.getElem?_replicate]
  split <;> rfl
theorem dot_nullFor {p : Int} {w k : Nat} {r : List Int} {B : Bs} (R : Rref p w B) (hr : r.length = w) (hk : k < w) (hn : notLead k B) :
    dot r (nullFor p w k B) = r.getD k 0 + (B.map fun q => r.getD q.1 0 * ((0 - q.2.getD k 0) % p)).sum := by
  unfold nullFor
  rw [dot_nullGo (by simpa using hr) (fun q hq => ⟨by simpa using R.lt q hq, unit_get fun e => hn q hq e.symm⟩) R.srt, dot_unit r hr hk]
theorem sum_delta {f : Nat × List Int → Int} {c : Nat × List Int → Int} : ∀ {B : Bs} {q0 : Nat × List Int}, q0 ∈ B → B.Pairwise (fun a b => a.1 < b.1) → c q0 = 1 → (∀ q ∈ B, q.1 ≠ q0.1 → c q = 0) → (B.map fun q => c q * f q).sum = f q0
  | [], q0, h, _, _, _ => by cases h
  | q :: B, q0, h, hs, h1, h0 => by
    have hs := List.pairwise_cons.mp hs
    rw [List.map_cons, List.sum_cons]
    have zs : ∀ {C : Bs}, (∀ q ∈ C, c q = 0) → (C.map fun q => c q * f q).sum = 0 := by
      intro C
      induction C with
      | nil => intro _; rfl
      | cons q C ih => intro hz; rw [List.map_cons, List.sum_cons, hz q List.mem_cons_self, ih fun q hq => hz q (List.mem_cons_of_mem _ hq)]; omega
    rcases List.mem_cons.mp h with e | e
    · subst e
      rw [h1, zs fun q hq => h0 q (List.mem_cons_of_mem _ hq) (by have := hs.1 q hq; omega)]; omega
    · rw [h0 q List.mem_cons_self (by have := hs.1 q0 e; omega), sum_delta e hs.2 h1 fun q hq => h0 q (List.mem_cons_of_mem _ hq)]; omega
theorem sum_zero {f : Nat × List Int → Int} {c : Nat × List Int → Int} {C : Bs} (h : ∀ q ∈ C, c q = 0) : (C.map fun q => c q * f q).sum = 0 := by
  induction C with
  | nil => rfl
  | cons q C ih => rw [List.map_cons, List.sum_cons, h q List.mem_cons_self, ih fun q hq => h q (List.mem_cons_of_mem _ hq)]; omega
/-- it is a null -/
theorem null_nul {p : Int} {w k : Nat} {B : Bs} (R : Rref p w B) (hk : k < w) (hn : notLead k B) : nul p (rowsOf B) (nullFor p w k B) := by
  rw [nul_rows]
  intro q0 hq
  rw [dot_nullFor R (R.len q0 hq) hk hn, sum_delta (c := fun q => q0.2.getD q.1 0) hq R.srt (R.one q0 hq) fun q hq' ne => R.oth q0 hq q hq' ne.symm, Int.add_emod_emod]
  rw [show q0.2.getD k 0 + (0 - q0.2.getD k 0) = 0 by omega]; rfl
/-- a row that is nought at the leads, with a null -/
theorem dot_null_of {p : Int} {w k : Nat} {B : Bs} (R : Rref p w B) (hk : k < w) (hn : notLead k B) {z : List Int} (hz : z.length = w) (h0 : ∀ q ∈ B, z.getD q.1 0 = 0) : dot z (nullFor p w k B) = z.getD k 0 := by
  rw [dot_nullFor R hz hk hn, sum_zero (c := fun q => z.getD q.1 0) h0]; omega
theorem nullGo_len {p : Int} {k : Nat} : ∀ {B : Bs} {x : List Int}, (nullGo p k B x).length = x.length
  | [], _ => rfl
  | q :: B, x => by
    show (nullGo p k B (x.set q.1 _)).length = _
    rw [nullGo_len, List.length_set]
theorem nullFor_len {p : Int} {w k : Nat} {B : Bs} : (nullFor p w k B).length = w := by rw [nullFor, nullGo_len]; simp
/-- a vector -/
def Vec (p : Int) (w : Nat) (x : List Int) : Prop := x.length = w ∧ InR p x
theorem inR_set {p : Int} {x : List Int} {j : Nat} {v : Int} (h : InR p x) (hv : 0 ≤ v ∧ v < p) : InR p (x.set j v) := fun y hy => by
  rcases List.mem_or_eq_of_mem_set hy with h' | h'
  · exact h y h'
  · rw [h']; exact hv
theorem nullGo_in {p : Int} (hp : 1 < p) {k : Nat} : ∀ {B : Bs} {x : List Int}, InR p x → InR p (nullGo p k B x)
  | [], _, h => h
  | q :: B, x, h => nullGo_in hp (B := B) (inR_set h ⟨Int.emod_nonneg _ (by omega), Int.emod_lt_of_pos _ (by omega)⟩)
theorem nullFor_vec {p : Int} (hp : 1 < p) {w k : Nat} {B : Bs} : Vec p w (nullFor p w k B) := ⟨nullFor_len, nullGo_in hp (inR_set (fun x hx => by rw [List.eq_of_mem_replicate hx]; omega) (by omega))⟩
theorem pair_ext : ∀ {B B' : Bs}, B.Pairwise (fun a b => a.1 < b.1) → B'.Pairwise (fun a b => a.1 < b.1) → (∀ q, q ∈ B ↔ q ∈ B') → B = B'
  | [], [], _, _, _ => rfl
  | [], q :: B', _, _, h => absurd ((h q).mpr List.mem_cons_self) (by simp)
  | q :: B, [], _, _, h => absurd ((h q).mp List.mem_cons_self) (by simp)
  | q :: B, q' :: B', h1, h2, h => by
    have p1 := List.pairwise_cons.mp h1
    have p2 := List.pairwise_cons.mp h2
    have e : q = q' := by
      rcases List.mem_cons.mp ((h q).mp List.mem_cons_self) with e | m
      · exact e
      · rcases List.mem_cons.mp ((h q').mpr List.mem_cons_self) with e | m2
        · exact e.symm
        · have a := p2.1 q m
          have b := p1.1 q' m2
          omega
    subst e
    rw [pair_ext p1.2 p2.2 fun r => ⟨fun hr => ?_, fun hr => ?_⟩]
    · rcases List.mem_cons.mp ((h r).mp (List.mem_cons_of_mem _ hr)) with e | m
      · subst e
        exact absurd (p1.1 r hr) (Nat.lt_irrefl _)
      · exact m
    · rcases List.mem_cons.mp ((h r).mpr (List.mem_cons_of_mem _ hr)) with e | m
      · subst e
        exact absurd (p2.1 r hr) (Nat.lt_irrefl _)
      · exact m
/-- a base is told by its nulls -/
theorem rref_uniq {p : Int} {w : Nat} {B B' : Bs} (hp : 1 < p) (R : Rref p w B) (R' : Rref p w B') (h : ∀ x : List Int, Vec p w x → (nul p (rowsOf B) x ↔ nul p (rowsOf B') x)) : B = B' := by
  have leads : ∀ {B B' : Bs}, Rref p w B → Rref p w B' → (∀ x : List Int, Vec p w x → (nul p (rowsOf B) x ↔ nul p (rowsOf B') x)) → ∀ q ∈ B, ∃ q' ∈ B', q'.1 = q.1 := by
    intro B B' R R' h q hq
    apply Classical.byContradiction
    intro hno
    have hn : notLead q.1 B' := fun q' hq' e => hno ⟨q', hq', e⟩
    have hx := (h _ (nullFor_vec hp)).mpr (null_nul R' (R.lt q hq) hn)
    have h1 := (nul_rows.mp hx) q hq
    -- the row of B and the null of B'
    rw [dot_nullFor R' (R.len q hq) (R.lt q hq) hn, R.one q hq] at h1
    have hz : (B'.map fun q' => q.2.getD q'.1 0 * ((0 - q'.2.getD q.1 0) % p)).sum = 0 := by
      have : ∀ {C : Bs}, (∀ q' ∈ C, q' ∈ B') → (C.map fun q' => q.2.getD q'.1 0 * ((0 - q'.2.getD q.1 0) % p)).sum = 0 := by
        intro C
        induction C with
        | nil => intro _; rfl
        | cons q' C ih =>
          intro hC
          rw [List.map_cons, List.sum_cons, ih fun q hq => hC q (List.mem_cons_of_mem _ hq)]
          have hq' := hC q' List.mem_cons_self
          rcases Nat.lt_or_ge q'.1 q.1 with l | l
          · rw [R.zero q hq _ l]; omega
          · have ne : q'.1 ≠ q.1 := hn q' hq'
            rw [R'.zero q' hq' q.1 (by omega)]
            simp
      exact this fun _ h => h
    rw [hz] at h1
    have : (1 + 0) % p = 1 := Int.emod_eq_of_lt (by omega) (by omega)
    omega
  refine pair_ext R.srt R'.srt ?_
  have half : ∀ {B B' : Bs}, Rref p w B → Rref p w B' → (∀ x : List Int, Vec p w x → (nul p (rowsOf B) x ↔ nul p (rowsOf B') x)) → ∀ q ∈ B, q ∈ B' := by
    intro B B' R R' h q hq
    obtain ⟨q', hq', e⟩ := leads R R' h q hq
    have : q.2 = q'.2 := by
      refine ext_getD (by rw [R.len q hq, R'.len q' hq']) fun k hk => ?_
      rw [R.len q hq] at hk
      by_cases hl : notLead k B
      · have hn : nul p (rowsOf B') (nullFor p w k B) := (h _ (nullFor_vec hp)).mp (null_nul R hk hl)
        have h1 := (nul_rows.mp hn) q' hq'
        have co : ∀ r ∈ B, r.1 ≠ q.1 → q'.2.getD r.1 0 = 0 := fun r hr ne => by
          obtain ⟨r', hr', e'⟩ := leads R R' h r hr
          rw [← e']
          exact R'.oth q' hq' r' hr' (by omega)
        rw [dot_nullFor R (R'.len q' hq') hk hl, sum_delta (c := fun r => q'.2.getD r.1 0) hq R.srt (by show q'.2.getD q.1 0 = 1; rw [← e]; exact R'.one q' hq') co, Int.add_emod_emod] at h1
        have b1 := inR_get (by omega) (R.rng q hq) k
        have b2 := inR_get (by omega) (R'.rng q' hq') k
        have d : (q'.2.getD k 0 + (0 - q.2.getD k 0)) % p = 0 := h1
        have dv := Int.dvd_of_emod_eq_zero d
        obtain ⟨c, hc⟩ := dv
        have hc0 : c = 0 := by
          rcases Int.lt_trichotomy c 0 with l | l | l
          · have : p * c ≤ p * (-1) := Int.mul_le_mul_of_nonneg_left (by omega) (by omega)
            omega
          · exact l
          · have : p * 1 ≤ p * c := Int.mul_le_mul_of_nonneg_left (by omega) (by omega)
            omega
        subst hc0
        omega
      · have : ∃ r ∈ B, r.1 = k := by
          apply Classical.byContradiction
          intro hno
          exact hl fun r hr e => hno ⟨r, hr, e⟩
        obtain ⟨r, hr, rfl⟩ := this
        obtain ⟨r', hr', e'⟩ := leads R R' h r hr
        by_cases e2 : q.1 = r.1
        · rw [← e2, R.one q hq, ← e, R'.one q' hq']
        · rw [R.oth q hq r hr e2, ← e', R'.oth q' hq' r' hr' (by omega)]
    have e3 : q = q' := Prod.ext e.symm this
    rw [e3]; exact hq'
  exact fun q => ⟨half R R' h q, half R' R (fun x hx => (h x hx).symm) q⟩
/-! ### a row cleared -/
def clr1 (p : Int) (z : List Int) (q : Nat × List Int) : List Int := if z.getD q.1 0 ≠ 0 then less z q.2 (z.getD q.1 0) p else z
def clr (p : Int) (B : Bs) (z : List Int) : List Int := B.foldl (clr1 p) z
theorem clr1_vec {p : Int} (hp : 1 < p) {w : Nat} {z : List Int} {q : Nat × List Int} (h : Vec p w z) (hq : q.2.length = w) : Vec p w (clr1 p z q) := by
  unfold clr1
  split
  · exact ⟨by rw [less_len (by rw [h.1, hq])]; exact h.1, less_in (by omega)⟩
  · exact h
theorem clr1_get {p : Int} (hp : 1 < p) {w : Nat} {z : List Int} {q : Nat × List Int} (h : Vec p w z) (hq : q.2.length = w) {k : Nat} (hk : k < w) : (clr1 p z q).getD k 0 = (z.getD k 0 - z.getD q.1 0 * q.2.getD k 0) % p := by
  have b := inR_get (by omega) h.2 k
  unfold clr1
  split
  · exact less_get (by rw [h.1, hq]) (by rw [h.1]; exact hk)
  · rename_i e
    have e : z.getD q.1 0 = 0 := by simpa using e
    rw [e, Int.zero_mul, Int.sub_zero, Int.emod_eq_of_lt b.1 b.2]
theorem clr1_dot {p : Int} {w : Nat} {z x : List Int} {q : Nat × List Int} (h : Vec p w z) (hq : q.2.length = w) (hx : dot q.2 x % p = 0) : dot (clr1 p z q) x % p = dot z x % p := by
  unfold clr1
  split
  · rw [dot_less (by rw [h.1, hq]), em_sub rfl (em_mul rfl (show dot q.2 x % p = 0 % p by rw [hx]; simp))]
    simp
  · rfl
structure Clrd (p : Int) (w : Nat) (B : Bs) (z z' : List Int) : Prop where
  vec : Vec p w z'
  nought : ∀ q ∈ B, z'.getD q.1 0 = 0
  dot : ∀ x, nul p (rowsOf B) x → dot z' x % p = dot z x % p
theorem clr_go {p : Int} (hp : 1 < p) {w : Nat} {B : Bs} (R : Rref p w B) : ∀ {C : Bs} {z : List Int}, (∀ q ∈ C, q ∈ B) → Vec p w z →
    Vec p w (clr p C z) ∧ (∀ q ∈ B, (∀ q' ∈ C, q'.1 ≠ q.1) → (clr p C z).getD q.1 0 = z.getD q.1 0) ∧ (∀ x, nul p (rowsOf B) x → dot (clr p C z) x % p = dot z x % p)
  | [], z, _, h => ⟨h, fun _ _ _ => rfl, fun _ _ => rfl⟩
  | q :: C, z, hC, h => by
    have hq := hC q List.mem_cons_self
    have v1 := clr1_vec hp h (R.len q hq)
    obtain ⟨a, b, c⟩ := clr_go hp R (C := C) (fun q' h' => hC q' (List.mem_cons_of_mem _ h')) v1
    refine ⟨a, fun r hr hn => ?_, fun x hx => ?_⟩
    · show (clr p C (clr1 p z q)).getD r.1 0 = _
      rw [b r hr fun q' h' => hn q' (List.mem_cons_of_mem _ h'), clr1_get hp h (R.len q hq) (R.lt r hr), R.oth q hq r hr (hn q List.mem_cons_self), Int.mul_zero, Int.sub_zero]
      have bd := inR_get (by omega) h.2 r.1
      exact Int.emod_eq_of_lt bd.1 bd.2
    · show dot (clr p C (clr1 p z q)) x % p = _
      rw [c x hx, clr1_dot h (R.len q hq) ((nul_rows.mp hx) q hq)]
theorem clr_nought {p : Int} (hp : 1 < p) {w : Nat} {B : Bs} (R : Rref p w B) : ∀ {C : Bs} {z : List Int}, (∀ q ∈ C, q ∈ B) → C.Pairwise (fun a b => a.1 < b.1) → Vec p w z → ∀ q ∈ C, (clr p C z).getD q.1 0 = 0
  | [], _, _, _, _, q, h => by cases h
  | q :: C, z, hC, hs, h, r, hr => by
    have hs := List.pairwise_cons.mp hs
    have hq := hC q List.mem_cons_self
    have v1 := clr1_vec hp h (R.len q hq)
    have hC' : ∀ q' ∈ C, q' ∈ B := fun q' h' => hC q' (List.mem_cons_of_mem _ h')
    show (clr p C (clr1 p z q)).getD r.1 0 = 0
    rcases List.mem_cons.mp hr with e | m
    · subst e
      rw [(clr_go hp R hC' v1).2.1 r hq fun q' h' => by have := hs.1 q' h'; omega, clr1_get hp h (R.len r hq) (R.lt r hq), R.one r hq, Int.mul_one, Int.sub_self]; rfl
    · exact clr_nought hp R hC' hs.2 v1 r m
theorem clrd {p : Int} (hp : 1 < p) {w : Nat} {B : Bs} (R : Rref p w B) {z : List Int} (h : Vec p w z) : Clrd p w B z (clr p B z) :=
  have g := clr_go hp R (fun _ h => h) h
  ⟨g.1, clr_nought hp R (fun _ h => h) R.srt h, g.2.2⟩
theorem dot_zero {z x : List Int} (h : ∀ k, z.getD k 0 = 0) : dot z x = 0 := by
  induction z generalizing x with
  | nil => rfl
  | cons a z ih =>
    cases x with
    | nil => rfl
    | cons y x =>
      have h0 : a = 0 := h 0
      rw [dot_cons, ih fun k => h (k + 1), h0]; omega
/-- a row follows just where what is left of it is nought -/
theorem clr_zero_iff {p : Int} (hp : 1 < p) {w : Nat} {B : Bs} (R : Rref p w B) {z : List Int} (h : Vec p w z) :
    (∀ k, k < w → (clr p B z).getD k 0 = 0) ↔ ∀ x, Vec p w x → nul p (rowsOf B) x → dot z x % p = 0 := by
  have c := clrd hp R h
  constructor
  · intro h0 x hx hn
    rw [← c.dot x hn, dot_zero fun k => ?_]; simp
    by_cases hk : k < w
    · exact h0 k hk
    · rw [List.getD_eq_getElem?_getD, List.getElem?_eq_none (by rw [c.vec.1]; omega)]; rfl
  · intro h0 k hk
    by_cases hn : notLead k B
    · have hz := h0 _ (nullFor_vec hp) (null_nul R hk hn)
      rw [← c.dot _ (null_nul R hk hn), dot_null_of R hk hn c.vec.1 c.nought] at hz
      have b := inR_get (by omega) c.vec.2 k
      rwa [Int.emod_eq_of_lt b.1 b.2] at hz
    · have : ∃ r ∈ B, r.1 = k := by
        apply Classical.byContradiction
        intro hno
        exact hn fun r hr e => hno ⟨r, hr, e⟩
      obtain ⟨r, hr, rfl⟩ := this
      exact c.nought r hr
/-- what is nought with all the nulls: what follows -/
theorem perp_iff {p : Int} (hp : 1 < p) {w : Nat} {B : Bs} (R : Rref p w B) {y : List Int} (hy : Vec p w y) :
    (∀ k, k < w → notLead k B → dot (nullFor p w k B) y % p = 0) ↔ ∀ x, Vec p w x → nul p (rowsOf B) x → dot y x % p = 0 := by
  constructor
  · intro h
    refine (clr_zero_iff hp R hy).mp fun k hk => ?_
    have c := clrd hp R hy
    by_cases hn : notLead k B
    · have hz := h k hk hn
      rw [dot_comm, ← c.dot _ (null_nul R hk hn), dot_null_of R hk hn c.vec.1 c.nought] at hz
      have b := inR_get (by omega) c.vec.2 k
      rwa [Int.emod_eq_of_lt b.1 b.2] at hz
    · have : ∃ r ∈ B, r.1 = k := by
        apply Classical.byContradiction
        intro hno
        exact hn fun r hr e => hno ⟨r, hr, e⟩
      obtain ⟨r, hr, rfl⟩ := this
      exact c.nought r hr
  · intro h k hk hn
    rw [dot_comm]
    exact h _ (nullFor_vec hp) (null_nul R hk hn)
/-! ### a row laid in -/
theorem rref_nil {p : Int} {w : Nat} : Rref p w [] := ⟨fun _ h => (by cases h), fun _ h => (by cases h), fun _ h => (by cases h), fun _ h => (by cases h), fun _ h => (by cases h), fun _ h => (by cases h), List.Pairwise.nil⟩
def kept (p : Int) (r : List Int) (lead : Nat) (B : Bs) : Bs := B.map fun q => (q.1, less q.2 r (q.2.getD lead 0) p)
theorem lay_rref {p : Int} (hp : 1 < p) {w : Nat} {B es : Bs} (R : Rref p w B) {z : List Int} {lead : Nat} {iv : Int} (hz : Vec p w z) (h0 : ∀ q ∈ B, z.getD q.1 0 = 0) (hl : lead < w) (hfirst : ∀ k, k < lead → z.getD k 0 = 0) (hiv : z.getD lead 0 * iv % p = 1)
    (hperm : es.Perm (kept p (times iv p z) lead B ++ [(lead, times iv p z)])) (hsrt : es.Pairwise fun a b => a.1 ≤ b.1) :
    Rref p w es ∧ ∀ x, (nul p (rowsOf es) x ↔ nul p (rowsOf B) x ∧ dot z x % p = 0) := by
  have hp0 : 0 < p := by omega
  have hne : ∀ q ∈ B, q.1 ≠ lead := fun q hq e => by
    rw [← e, h0 q hq] at hiv
    simp at hiv
  have rl : (times iv p z).length = w := by rw [times_len]; exact hz.1
  have r1 : (times iv p z).getD lead 0 = 1 := by rw [times_get]; exact hiv
  have rz : ∀ k, z.getD k 0 = 0 → (times iv p z).getD k 0 = 0 := fun k e => by rw [times_get, e]; simp
  have mem : ∀ e, e ∈ es ↔ (∃ q ∈ B, e = (q.1, less q.2 (times iv p z) (q.2.getD lead 0) p)) ∨ e = (lead, times iv p z) := fun e => by
    rw [hperm.mem_iff, List.mem_append, List.mem_singleton]
    unfold kept
    rw [List.mem_map]
    exact ⟨fun h => h.imp (fun ⟨q, hq, e⟩ => ⟨q, hq, e.symm⟩) id, fun h => h.imp (fun ⟨q, hq, e⟩ => ⟨q, hq, e.symm⟩) id⟩
  have lg : ∀ q ∈ B, ∀ k, k < w → (less q.2 (times iv p z) (q.2.getD lead 0) p).getD k 0 = (q.2.getD k 0 - q.2.getD lead 0 * (times iv p z).getD k 0) % p := fun q hq k hk => less_get (by rw [R.len q hq, rl]) (by rw [R.len q hq]; exact hk)
  have same : ∀ q ∈ B, ∀ k, k < w → (times iv p z).getD k 0 = 0 ∨ q.2.getD lead 0 = 0 → (less q.2 (times iv p z) (q.2.getD lead 0) p).getD k 0 = q.2.getD k 0 := fun q hq k hk h => by
    have b := inR_get hp0 (R.rng q hq) k
    rw [lg q hq k hk]
    rcases h with e | e
    · rw [e, Int.mul_zero, Int.sub_zero, Int.emod_eq_of_lt b.1 b.2]
    · rw [e, Int.zero_mul, Int.sub_zero, Int.emod_eq_of_lt b.1 b.2]
  refine ⟨⟨fun e he => ?_, fun e he => ?_, fun e he => ?_, fun e he => ?_, fun e he k hk => ?_, fun e he e' he' ne => ?_, ?_⟩, fun x => ?_⟩
  · rcases (mem e).mp he with ⟨q, hq, rfl⟩ | rfl
    · show (less _ _ _ _).length = w
      rw [less_len (by rw [R.len q hq, rl]), R.len q hq]
    · exact rl
  · rcases (mem e).mp he with ⟨q, hq, rfl⟩ | rfl
    · exact less_in hp0
    · exact times_in hp0
  · rcases (mem e).mp he with ⟨q, hq, rfl⟩ | rfl
    · exact R.lt q hq
    · exact hl
  · rcases (mem e).mp he with ⟨q, hq, rfl⟩ | rfl
    · show (less _ _ _ _).getD q.1 0 = 1
      rw [same q hq _ (R.lt q hq) (.inl (rz _ (h0 q hq)))]; exact R.one q hq
    · exact r1
  · rcases (mem e).mp he with ⟨q, hq, rfl⟩ | rfl
    · have hk : k < q.1 := hk
      have hw := R.lt q hq
      show (less _ _ _ _).getD k 0 = 0
      rw [same q hq k (by omega), R.zero q hq k hk]
      rcases Nat.lt_or_ge k lead with l | l
      · exact .inl (rz _ (hfirst k l))
      · exact .inr (R.zero q hq lead (by omega))
    · exact rz _ (hfirst k hk)
  · rcases (mem e).mp he with ⟨q, hq, rfl⟩ | rfl
    · rcases (mem e').mp he' with ⟨q', hq', rfl⟩ | rfl
      · have ne : q.1 ≠ q'.1 := ne
        show (less _ _ _ _).getD q'.1 0 = 0
        rw [same q hq _ (R.lt q' hq') (.inl (rz _ (h0 q' hq')))]; exact R.oth q hq q' hq' ne
      · show (less _ _ _ _).getD lead 0 = 0
        rw [lg q hq lead hl, r1, Int.mul_one, Int.sub_self]; rfl
    · rcases (mem e').mp he' with ⟨q', hq', rfl⟩ | rfl
      · exact rz _ (h0 q' hq')
      · exact absurd rfl ne
  · -- strictly: the leads are unlike
    have nd : (es.map (·.1)).Nodup := by
      refine ((hperm.map (·.1)).nodup_iff).mpr ?_
      rw [List.map_append]
      refine List.nodup_append.mpr ⟨?_, by simp, fun a ha b hb e => ?_⟩
      · show ((B.map fun q => (q.1, less q.2 (times iv p z) (q.2.getD lead 0) p)).map (·.1)).Nodup
        rw [List.map_map]
        exact List.Pairwise.map _ (fun a b (h : a.1 < b.1) => Nat.ne_of_lt h) R.srt
      · have hb : b = lead := by simpa using hb
        obtain ⟨q, hq, rfl⟩ := List.mem_map.mp ha
        obtain ⟨q', hq', rfl⟩ := List.mem_map.mp hq
        exact hne q' hq' (e.trans hb)
    have nd2 : es.Pairwise fun a b => a.1 ≠ b.1 := List.pairwise_map.mp nd
    exact (hsrt.and nd2).imp fun ⟨a, b⟩ => Nat.lt_of_le_of_ne a b
  · have hr : dot (times iv p z) x % p = iv * dot z x % p := dot_times
    rw [nul_rows, nul_rows]
    constructor
    · intro h
      have hl2 := h _ ((mem _).mpr (.inr rfl))
      have hl3 : dot (times iv p z) x % p = 0 := hl2
      refine ⟨fun q hq => ?_, ?_⟩
      · have h1 := h _ ((mem _).mpr (.inl ⟨q, hq, rfl⟩))
        have h1 : dot (less q.2 (times iv p z) (q.2.getD lead 0) p) x % p = 0 := h1
        rw [dot_less (by rw [R.len q hq, rl]), em_sub rfl (em_mul rfl (show dot (times iv p z) x % p = 0 % p by rw [hl3]; simp))] at h1
        simpa using h1
      · -- z is its multiple
        have : dot z x % p = (z.getD lead 0 * iv) * dot z x % p := by
          rw [em_mul (show z.getD lead 0 * iv % p = 1 % p by rw [hiv]; exact (Int.emod_eq_of_lt (by omega) (by omega)).symm) rfl, Int.one_mul]
        rw [this, Int.mul_assoc, em_mul rfl (show iv * dot z x % p = 0 % p by rw [← hr, hl3]; simp)]
        simp
    · rintro ⟨h1, h2⟩ e he
      have hl3 : dot (times iv p z) x % p = 0 % p := by
        rw [hr, em_mul rfl (show dot z x % p = 0 % p by rw [h2]; simp)]; simp
      rcases (mem e).mp he with ⟨q, hq, rfl⟩ | rfl
      · show dot (less _ _ _ _) x % p = 0
        rw [dot_less (by rw [R.len q hq, rl]), em_sub (show dot q.2 x % p = 0 % p by rw [h1 q hq]; simp) (em_mul rfl hl3)]
        simp
      · show dot (times iv p z) x % p = 0
        rw [hl3]; simp
/-- what is nought with all that S has -/
def perp (p : Int) (w : Nat) (S : List Int → Prop) (x : List Int) : Prop := ∀ y, Vec p w y → S y → dot x y % p = 0
theorem perp2 {p : Int} {w : Nat} {rs : List (List Int)} (hr : ∀ r ∈ rs, Vec p w r) {x : List Int} (hx : Vec p w x) : perp p w (perp p w (nul p rs)) x ↔ nul p rs x := by
  constructor
  · intro h r hm
    rw [dot_comm]
    exact h r (hr r hm) fun z hz hn => hn r hm
  · intro h y hy hp
    rw [dot_comm]
    exact hp x hx h
theorem perp_congr {p : Int} {w : Nat} {S T : List Int → Prop} (h : ∀ y, Vec p w y → (S y ↔ T y)) (x : List Int) : perp p w S x ↔ perp p w T x :=
  ⟨fun k y hy t => k y hy ((h y hy).mpr t), fun k y hy s => k y hy ((h y hy).mp s)⟩
theorem nul_append {p : Int} {rs ts : List (List Int)} {x : List Int} : nul p (rs ++ ts) x ↔ nul p rs x ∧ nul p ts x := by
  unfold nul
  constructor
  · exact fun h => ⟨fun r m => h r (List.mem_append_left _ m), fun r m => h r (List.mem_append_right _ m)⟩
  · rintro ⟨a, b⟩ r m
    rcases List.mem_append.mp m with m | m
    · exact a r m
    · exact b r m
theorem rref_len {p : Int} {w : Nat} {B : Bs} (R : Rref p w B) : B.length ≤ w := by
  have go : ∀ {C : Bs} {m : Nat}, C.Pairwise (fun a b => a.1 < b.1) → (∀ q ∈ C, m ≤ q.1 ∧ q.1 < w) → C.length ≤ w - m := by
    intro C
    induction C with
    | nil => intro m _ _; exact Nat.zero_le _
    | cons q C ih =>
      intro m hs hm
      have hs := List.pairwise_cons.mp hs
      have h1 := hm q List.mem_cons_self
      have := ih (m := q.1 + 1) hs.2 fun r hr => ⟨hs.1 r hr, (hm r (List.mem_cons_of_mem _ hr)).2⟩
      rw [List.length_cons]
      omega
  exact go (m := 0) R.srt fun q hq => ⟨Nat.zero_le _, R.lt q hq⟩

/-! ### columns put otherwise -/
def turn (sg : List Nat) (v : List Int) : List Int := sg.map fun j => v.getD j 0
def zeros (c : Nat) : List Int := List.replicate c 0
theorem sum_perm {l m : List Int} (h : l.Perm m) : l.sum = m.sum := by
  induction h with
  | nil => rfl
  | cons a _ ih => rw [List.sum_cons, List.sum_cons, ih]
  | swap a b l => rw [List.sum_cons, List.sum_cons, List.sum_cons, List.sum_cons]; omega
  | trans _ _ a b => exact a.trans b
theorem dot_map {α : Type} (f g : α → Int) : ∀ l : List α, dot (l.map f) (l.map g) = (l.map fun x => f x * g x).sum
  | [] => rfl
  | x :: l => by rw [List.map_cons, List.map_cons, dot_cons, dot_map f g l, List.map_cons, List.sum_cons]
theorem turn_self {w : Nat} {v : List Int} (h : v.length = w) : turn (List.range w) v = v := by
  refine ext_getD (by simp [turn, h]) fun k hk => ?_
  have hk : k < w := by simpa [turn] using hk
  unfold turn
  rw [List.getD_eq_getElem?_getD, List.getElem?_map, List.getElem?_range hk]
  rfl
theorem dot_turn {w : Nat} {sg : List Nat} (hs : sg.Perm (List.range w)) {v x : List Int} (hv : v.length = w) (hx : x.length = w) : dot (turn sg v) (turn sg x) = dot v x := by
  unfold turn
  rw [dot_map, sum_perm (hs.map _), ← dot_map]
  have h1 := turn_self hv
  have h2 := turn_self hx
  unfold turn at h1 h2
  rw [h1, h2]
theorem turn_len {sg : List Nat} {v : List Int} : (turn sg v).length = sg.length := by simp [turn]
theorem turn_in {p : Int} (hp : 0 < p) {sg : List Nat} {v : List Int} (h : InR p v) : InR p (turn sg v) := fun x hx => by
  obtain ⟨j, _, rfl⟩ := List.mem_map.mp hx
  exact inR_get hp h j
def unturn (w : Nat) (sg : List Nat) (y : List Int) : List Int := (List.range w).map fun j => y.getD (sg.idxOf j) 0
theorem turn_unturn {w : Nat} {sg : List Nat} (hs : sg.Perm (List.range w)) {y : List Int} (hy : y.length = w) : turn sg (unturn w sg y) = y := by
  have hl : sg.length = w := by rw [hs.length_eq, List.length_range]
  have nd : sg.Nodup := hs.nodup_iff.mpr List.nodup_range
  refine ext_getD (by rw [turn_len, hl, hy]) fun k hk => ?_
  rw [turn_len] at hk
  have hj : sg[k] < w := List.mem_range.mp (hs.mem_iff.mp (List.getElem_mem hk))
  unfold turn unturn
  rw [List.getD_eq_getElem?_getD, List.getElem?_map, List.getElem?_eq_getElem hk]
  simp only [Option.map_some, Option.getD_some]
  rw [List.getD_eq_getElem?_getD, List.getElem?_map, List.getElem?_range hj]
  simp only [Option.map_some, Option.getD_some]
  rw [nd.idxOf_getElem k hk]
theorem unturn_vec {p : Int} (hp : 0 < p) {w : Nat} {sg : List Nat} {y : List Int} (h : InR p y) : Vec p w (unturn w sg y) := ⟨by simp [unturn], fun x hx => by
  obtain ⟨j, _, rfl⟩ := List.mem_map.mp hx
  exact inR_get hp h _⟩
/-- what follows, told in the columns put otherwise -/
theorem perp_turn {p : Int} (hp : 0 < p) {w : Nat} {sg : List Nat} (hs : sg.Perm (List.range w)) {rs : List (List Int)} (hr : ∀ r ∈ rs, Vec p w r) {u : List Int} (hu : Vec p w u) :
    perp p w (nul p (rs.map (turn sg))) (turn sg u) ↔ perp p w (nul p rs) u := by
  have hl : sg.length = w := by rw [hs.length_eq, List.length_range]
  constructor
  · intro h x hx hn
    rw [← dot_turn hs hu.1 hx.1]
    refine h _ ⟨by rw [turn_len, hl], turn_in hp hx.2⟩ fun r hm => ?_
    obtain ⟨r0, hr0, rfl⟩ := List.mem_map.mp hm
    rw [dot_turn hs (hr r0 hr0).1 hx.1]
    exact hn r0 hr0
  · intro h y hy hn
    have e := turn_unturn hs hy.1
    have hv := unturn_vec hp (w := w) (sg := sg) hy.2
    rw [← e, dot_turn hs hu.1 hv.1]
    refine h _ hv fun r hm => ?_
    have := hn _ (List.mem_map.mpr ⟨r, hm, rfl⟩)
    rwa [← e, dot_turn hs (hr r hm).1 hv.1] at this
theorem dot_zeros : ∀ {c : Nat} {l m x y : List Int}, l.length = c → dot (l ++ x) (zeros c ++ y) = dot x y
  | 0, [], _, _, _, _ => rfl
  | 0, _ :: _, _, _, _, h => by cases h
  | c + 1, [], _, _, _, h => by cases h
  | c + 1, a :: l, m, x, y, h => by
    show dot (a :: (l ++ x)) (0 :: (zeros c ++ y)) = _
    rw [dot_cons, dot_zeros (m := m) (by simpa using h)]; omega
/-! ### the rows of a base that are nought in the first columns -/
def cutB (c : Nat) (B : Bs) : Bs := (B.filter fun q => decide (c ≤ q.1)).map fun q => (q.1 - c, q.2.drop c)
theorem drop_get {l : List Int} {c k : Nat} : (l.drop c).getD k 0 = l.getD (c + k) 0 := by
  rw [List.getD_eq_getElem?_getD, List.getElem?_drop, List.getD_eq_getElem?_getD]
theorem cutB_rref {p : Int} {w c : Nat} {B : Bs} (R : Rref p w B) : Rref p (w - c) (cutB c B) := by
  have mem : ∀ e ∈ cutB c B, ∃ q ∈ B, c ≤ q.1 ∧ e = (q.1 - c, q.2.drop c) := fun e he => by
    obtain ⟨q, hq, rfl⟩ := List.mem_map.mp he
    obtain ⟨h1, h2⟩ := List.mem_filter.mp hq
    exact ⟨q, h1, of_decide_eq_true h2, rfl⟩
  refine ⟨fun e he => ?_, fun e he => ?_, fun e he => ?_, fun e he => ?_, fun e he k hk => ?_, fun e he e' he' ne => ?_, ?_⟩
  · obtain ⟨q, hq, hc, rfl⟩ := mem e he
    show (q.2.drop c).length = _
    rw [List.length_drop, R.len q hq]
  · obtain ⟨q, hq, hc, rfl⟩ := mem e he
    exact fun x hx => R.rng q hq x (List.mem_of_mem_drop hx)
  · obtain ⟨q, hq, hc, rfl⟩ := mem e he
    have := R.lt q hq
    show q.1 - c < w - c
    omega
  · obtain ⟨q, hq, hc, rfl⟩ := mem e he
    show (q.2.drop c).getD (q.1 - c) 0 = 1
    rw [drop_get, show c + (q.1 - c) = q.1 by omega]
    exact R.one q hq
  · obtain ⟨q, hq, hc, rfl⟩ := mem e he
    have hk : k < q.1 - c := hk
    show (q.2.drop c).getD k 0 = 0
    rw [drop_get]
    exact R.zero q hq _ (by omega)
  · obtain ⟨q, hq, hc, rfl⟩ := mem e he
    obtain ⟨q', hq', hc', rfl⟩ := mem e' he'
    have ne : q.1 - c ≠ q'.1 - c := ne
    show (q.2.drop c).getD (q'.1 - c) 0 = 0
    rw [drop_get, show c + (q'.1 - c) = q'.1 by omega]
    exact R.oth q hq q' hq' (by omega)
  · unfold cutB
    rw [List.pairwise_map]
    refine List.Pairwise.imp_of_mem (fun {a b} ha hb h => ?_) (R.srt.filter _)
    have h1 := of_decide_eq_true (List.mem_filter.mp ha).2
    have h2 := of_decide_eq_true (List.mem_filter.mp hb).2
    show a.1 - c < b.1 - c
    omega
theorem app_get {c k : Nat} {y : List Int} : (zeros c ++ y).getD k 0 = if k < c then 0 else y.getD (k - c) 0 := by
  rw [List.getD_eq_getElem?_getD]
  split
  · rename_i h
    rw [List.getElem?_append_left (by simpa [zeros] using h)]
    unfold zeros
    rw [List.getElem?_replicate, if_pos h]
    rfl
  · rename_i h
    rw [List.getElem?_append_right (by simpa [zeros] using h), List.getD_eq_getElem?_getD]
    simp [zeros]
theorem less_zeros {c : Nat} {y m : List Int} {n p : Int} : less (zeros c ++ y) (zeros c ++ m) n p = zeros c ++ less y m n p := by
  induction c with
  | zero => rfl
  | succ c ih =>
    show ((0 - n * 0) % p :: less (zeros c ++ y) (zeros c ++ m) n p) = 0 :: (zeros c ++ less y m n p)
    rw [ih]; simp
theorem clr_zeros {p : Int} {w c : Nat} {B : Bs} (R : Rref p w B) : ∀ {C : Bs} {y : List Int}, (∀ q ∈ C, q ∈ B) → clr p C (zeros c ++ y) = zeros c ++ clr p (cutB c C) y
  | [], _, _ => rfl
  | q :: C, y, hC => by
    have hq := hC q List.mem_cons_self
    have hC' : ∀ q ∈ C, q ∈ B := fun q h => hC q (List.mem_cons_of_mem _ h)
    show clr p C (clr1 p (zeros c ++ y) q) = _
    by_cases hc : c ≤ q.1
    · have e : cutB c (q :: C) = (q.1 - c, q.2.drop c) :: cutB c C := by
        unfold cutB
        rw [List.filter_cons_of_pos (by simpa using hc)]
        rfl
      have e2 : clr1 p (zeros c ++ y) q = zeros c ++ clr1 p y (q.1 - c, q.2.drop c) := by
        have ag : (zeros c ++ y).getD q.1 0 = y.getD (q.1 - c) 0 := by
          rw [app_get, if_neg (show ¬ q.1 < c by omega)]
        unfold clr1
        rw [ag]
        have eq2 : q.2 = zeros c ++ q.2.drop c := by
          have hlt := R.lt q hq
          have hl := R.len q hq
          refine ext_getD (by simp [zeros, hl]; omega) fun k hk => ?_
          rw [app_get]
          split
          · exact R.zero q hq k (by omega)
          · rw [drop_get, show c + (k - c) = k by omega]
        split
        · rw [show less (zeros c ++ y) q.2 (y.getD (q.1 - c) 0) p = less (zeros c ++ y) (zeros c ++ q.2.drop c) (y.getD (q.1 - c) 0) p by rw [← eq2], less_zeros]
        · rfl
      rw [e2, clr_zeros R hC', e]
      rfl
    · have e : cutB c (q :: C) = cutB c C := by
        unfold cutB
        rw [List.filter_cons_of_neg (by simpa using hc)]
      have e2 : clr1 p (zeros c ++ y) q = zeros c ++ y := by
        have ag : (zeros c ++ y).getD q.1 0 = 0 := by
          rw [app_get, if_pos (show q.1 < c by omega)]
        unfold clr1
        rw [ag, if_neg (fun h => h rfl)]
      rw [e2, clr_zeros R hC', e]
theorem zeros_vec {p : Int} (hp : 0 < p) {w c : Nat} (hc : c ≤ w) {y : List Int} (hy : Vec p (w - c) y) : Vec p w (zeros c ++ y) := ⟨by simp [zeros, hy.1]; omega, fun x hx => by
  rcases List.mem_append.mp hx with m | m
  · rw [List.eq_of_mem_replicate m]; omega
  · exact hy.2 x m⟩
theorem perp_cut {p : Int} (hp : 1 < p) {w c : Nat} (hc : c ≤ w) {B : Bs} (R : Rref p w B) {y : List Int} (hy : Vec p (w - c) y) :
    perp p (w - c) (nul p (rowsOf (cutB c B))) y ↔ perp p w (nul p (rowsOf B)) (zeros c ++ y) := by
  have e1 := clr_zero_iff hp (cutB_rref (c := c) R) hy
  have e2 := clr_zero_iff hp R (zeros_vec (by omega) hc hy)
  refine e1.symm.trans (Iff.trans ?_ e2)
  rw [clr_zeros R fun _ h => h]
  constructor
  · intro h k hk
    rw [app_get]
    split
    · rfl
    · exact h _ (by omega)
  · intro h k hk
    have := h (c + k) (by omega)
    rwa [app_get, if_neg (by omega), show c + k - c = k by omega] at this
def restOf (w : Nat) (cols : List Nat) : List Nat := (List.range w).filter fun k => !cols.contains k
theorem sg_perm {w : Nat} {cols : List Nat} (hn : cols.Nodup) (hl : ∀ j ∈ cols, j < w) : (cols ++ restOf w cols).Perm (List.range w) := by
  refine (List.perm_ext_iff_of_nodup ?_ List.nodup_range).mpr fun j => ?_
  · refine List.nodup_append.mpr ⟨hn, List.nodup_range.filter _, fun a ha b hb e => ?_⟩
    subst e
    have := (List.mem_filter.mp hb).2
    simp at this
    exact this ha
  · rw [List.mem_append, List.mem_range]
    unfold restOf
    rw [List.mem_filter, List.mem_range]
    constructor
    · rintro (h | h)
      · exact hl j h
      · exact h.1
    · intro h
      by_cases m : j ∈ cols
      · exact .inl m
      · exact .inr ⟨h, by simpa using m⟩
theorem rest_len {w : Nat} {cols : List Nat} (hn : cols.Nodup) (hl : ∀ j ∈ cols, j < w) : (restOf w cols).length = w - cols.length := by
  have := (sg_perm hn hl).length_eq
  rw [List.length_append, List.length_range] at this
  omega
theorem col_len {w : Nat} {cols : List Nat} (hn : cols.Nodup) (hl : ∀ j ∈ cols, j < w) : cols.length ≤ w := by
  have := (sg_perm hn hl).length_eq
  rw [List.length_append, List.length_range] at this
  omega

/-! ### column by column -/
theorem together_less {p x : Int} {l u : List Int} : together p l (times (p - x) p u) = less l u x p := by
  unfold together times less
  rw [List.zipWith_map_right]
  congr 1
  funext a b
  rw [Int.add_emod_emod, Int.mul_sub]
  have : a + (b * p - b * x) = (a - x * b) + b * p := by rw [Int.mul_comm b x]; omega
  rw [this, Int.add_mul_emod_self_right]
structure Col (p : Int) (w c : Nat) (B : Bs) (L rs : List (List Int)) : Prop where
  R : Rref p w B
  lt : ∀ q ∈ B, q.1 < c
  vec : ∀ l ∈ L, Vec p w l
  zer : ∀ l ∈ L, ∀ k, k < c → l.getD k 0 = 0
  nu : ∀ x, nul p (rowsOf B) x ∧ nul p L x ↔ nul p rs x
theorem Col.skip {p : Int} {w c : Nat} {B : Bs} {L rs : List (List Int)} (h : Col p w c B L rs) (hz : ∀ l ∈ L, l.getD c 0 = 0) : Col p w (c + 1) B L rs :=
  ⟨h.R, fun q hq => Nat.lt_succ_of_lt (h.lt q hq), h.vec, fun l hl k hk => by
    rcases Nat.lt_or_ge k c with q | q
    · exact h.zer l hl k q
    · have e : k = c := by omega
      rw [e]; exact hz l hl, h.nu⟩
theorem mem_erase {α : Type} {L : List α} {j : Nat} {z l : α} (hj : L[j]? = some z) : l ∈ L ↔ l = z ∨ l ∈ L.eraseIdx j := by
  have hlt : j < L.length := by
    by_cases q : j < L.length
    · exact q
    · rw [List.getElem?_eq_none (Nat.le_of_not_lt q)] at hj; cases hj
  rw [List.getElem?_eq_getElem hlt] at hj
  have e : L = L.take j ++ z :: L.drop (j + 1) := by
    rw [← Option.some.inj hj, ← List.drop_eq_getElem_cons hlt, List.take_append_drop]
  have e2 : L.eraseIdx j = L.take j ++ L.drop (j + 1) := List.eraseIdx_eq_take_drop_succ _ _
  rw [e2, List.mem_append]
  conv => lhs; rw [e]
  rw [List.mem_append, List.mem_cons]
  constructor
  · rintro (h | h | h)
    · exact .inr (.inl h)
    · exact .inl h
    · exact .inr (.inr h)
  · rintro (h | h | h)
    · exact .inr (.inl h)
    · exact .inl h
    · exact .inr (.inr h)
theorem Col.step {p : Int} (hp : 1 < p) {w c : Nat} {B : Bs} {L rs : List (List Int)} (h : Col p w c B L rs) (hc : c < w) {j : Nat} {z : List Int} {iv : Int} (hj : L[j]? = some z) (hiv : z.getD c 0 * iv % p = 1) :
    Col p w (c + 1) (kept p (times iv p z) c B ++ [(c, times iv p z)]) ((L.eraseIdx j).map fun l => less l (times iv p z) (l.getD c 0) p) rs := by
  have hz : z ∈ L := List.mem_of_getElem? hj
  have vz := h.vec z hz
  have key := lay_rref hp h.R vz (fun q hq => h.zer z hz q.1 (h.lt q hq)) hc (fun k hk => h.zer z hz k hk) hiv (List.Perm.refl _) (by
    rw [List.pairwise_append]
    refine ⟨?_, by simp, fun a ha b hb => ?_⟩
    · unfold kept
      rw [List.pairwise_map]
      exact h.R.srt.imp fun {a b} q => Nat.le_of_lt q
    · obtain ⟨q, hq, rfl⟩ := List.mem_map.mp ha
      have e : b = (c, times iv p z) := by simpa using hb
      rw [e]
      exact Nat.le_of_lt (h.lt q hq))
  have lu : (times iv p z).length = w := by rw [times_len]; exact vz.1
  have old : ∀ l, l ∈ L.eraseIdx j → l ∈ L := fun l hl => (mem_erase hj).mpr (.inr hl)
  refine ⟨key.1, fun q hq => ?_, fun l hl => ?_, fun l hl k hk => ?_, fun x => ?_⟩
  · rcases List.mem_append.mp hq with m | m
    · obtain ⟨q', hq', rfl⟩ := List.mem_map.mp m
      exact Nat.lt_succ_of_lt (h.lt q' hq')
    · have e : q = (c, times iv p z) := by simpa using m
      rw [e]; exact Nat.lt_succ_self _
  · obtain ⟨m, hm, rfl⟩ := List.mem_map.mp hl
    have vm := h.vec m (old m hm)
    exact ⟨by rw [less_len (by rw [vm.1, lu])]; exact vm.1, less_in (by omega)⟩
  · obtain ⟨m, hm, rfl⟩ := List.mem_map.mp hl
    have vm := h.vec m (old m hm)
    have hkw : k < m.length := by rw [vm.1]; omega
    rw [less_get (by rw [vm.1, lu]) hkw, times_get]
    rcases Nat.lt_or_ge k c with q | q
    · rw [h.zer m (old m hm) k q, h.zer z hz k q]; simp
    · have e : k = c := by omega
      subst e
      rw [hiv, Int.mul_one, Int.sub_self]; simp
  · rw [key.2 x, ← h.nu x]
    have dl : ∀ l ∈ L.eraseIdx j, nul p (rowsOf B) x → dot z x % p = 0 → dot (less l (times iv p z) (l.getD c 0) p) x % p = dot l x % p := fun l hl _ hx => by
      have du : dot (times iv p z) x % p = 0 := by
        rw [dot_times, Int.mul_emod, hx]; simp
      rw [dot_less (by rw [(h.vec l (old l hl)).1, lu]), em_sub rfl (em_mul rfl (show dot (times iv p z) x % p = 0 % p by rw [du]; simp))]
      simp
    constructor
    · rintro ⟨⟨h1, h2⟩, h3⟩
      refine ⟨h1, fun l hl => ?_⟩
      rcases (mem_erase hj).mp hl with rfl | m
      · exact h2
      · rw [← dl l m h1 h2]
        exact h3 _ (List.mem_map.mpr ⟨l, m, rfl⟩)
    · rintro ⟨h1, h2⟩
      refine ⟨⟨h1, h2 z hz⟩, fun r hr => ?_⟩
      obtain ⟨l, hl, rfl⟩ := List.mem_map.mp hr
      rw [dl l hl h1 (h2 z hz)]
      exact h2 l (old l hl)
theorem Col.fin {p : Int} {w : Nat} {B : Bs} {L rs : List (List Int)} (h : Col p w w B L rs) (x : List Int) : nul p (rowsOf B) x ↔ nul p rs x := by
  rw [← h.nu x]
  refine ⟨fun q => ⟨q, fun l hl => ?_⟩, fun q => q.1⟩
  rw [dot_zero]
  · simp
  · intro k
    rcases Nat.lt_or_ge k w with q | q
    · exact h.zer l hl k q
    · rw [List.getD_eq_getElem?_getD, List.getElem?_eq_none (by rw [(h.vec l hl).1]; exact q)]; rfl
theorem Col.start {p : Int} {w : Nat} {rs : List (List Int)} (hr : ∀ r ∈ rs, Vec p w r) : Col p w 0 [] rs rs :=
  ⟨rref_nil, fun q hq => (by cases hq), hr, fun l _ k hk => absurd hk (Nat.not_lt_zero _), fun x => ⟨fun h => h.2, fun h => ⟨fun _ h => (by cases h), h⟩⟩⟩
/-- the first one that isn't 0 there -/
theorem first_at (c : Nat) : ∀ L : List (List Int), (∀ l ∈ L, l.getD c 0 = 0) ∨ ∃ (j : Nat) (z : List Int), L[j]? = some z ∧ z.getD c 0 ≠ 0 ∧ ∀ (m : Nat) (u : List Int), m < j → L[m]? = some u → u.getD c 0 = 0
  | [] => .inl fun _ h => (by cases h)
  | l :: L => by
    by_cases h : l.getD c 0 = 0
    · rcases first_at c L with k | ⟨j, z, h1, h2, h3⟩
      · exact .inl fun m hm => (List.mem_cons.mp hm).elim (fun e => by rw [e]; exact h) (k m)
      · refine .inr ⟨j + 1, z, by rw [List.getElem?_cons_succ]; exact h1, h2, fun m u hm hu => ?_⟩
        cases m with
        | zero => cases hu; exact h
        | succ m => exact h3 m u (by omega) (by rw [List.getElem?_cons_succ] at hu; exact hu)
    · exact .inr ⟨0, l, rfl, h, fun m u hm => absurd hm (Nat.not_lt_zero _)⟩
/-! ### rows told otherwise -/
theorem nul_mem {p : Int} {g h : List (List Int)} (e : ∀ r, r ∈ g ↔ r ∈ h) (x : List Int) : nul p g x ↔ nul p h x := ⟨fun k r hr => k r ((e r).mpr hr), fun k r hr => k r ((e r).mp hr)⟩
theorem set_mem {α : Type} {l : List α} {i : Nat} {v r : α} (h : r ∈ l.set i v) : r ∈ l ∨ r = v := List.mem_or_eq_of_mem_set h
theorem dot_together {p : Int} : ∀ {l m x : List Int}, l.length = m.length → dot (together p l m) x % p = (dot l x + dot m x) % p
  | [], [], x, _ => by simp [together, dot]
  | [], _ :: _, _, h => by cases h
  | _ :: _, [], _, h => by cases h
  | a :: l, b :: m, [], _ => by rw [dot_nil_r, dot_nil_r, dot_nil_r]; simp
  | a :: l, b :: m, c :: x, h => by
    show dot ((a + b) % p :: together p l m) (c :: x) % p = _
    rw [dot_cons, dot_cons, dot_cons]
    have ih := dot_together (p := p) (l := l) (m := m) (x := x) (by simpa using h)
    rw [em_add (em_mul (Int.emod_emod _ _) rfl) ih]
    congr 1
    rw [Int.add_mul]
    omega
theorem together_vec {p : Int} (hp : 0 < p) {w : Nat} {l m : List Int} (hl : l.length = w) (hm : m.length = w) : Vec p w (together p l m) := by
  unfold together
  refine ⟨by simp [hl, hm], fun x hx => ?_⟩
  rw [← List.map_uncurry_zip_eq_zipWith] at hx
  obtain ⟨q, _, rfl⟩ := List.mem_map.mp hx
  exact ⟨Int.emod_nonneg _ (by omega), Int.emod_lt_of_pos _ hp⟩
theorem times_vec {p : Int} (hp : 0 < p) {w : Nat} {n : Int} {l : List Int} (hl : l.length = w) : Vec p w (times n p l) := ⟨by rw [times_len, hl], times_in hp⟩
/-- a row more a multiple of another one -/
theorem nul_add {p n : Int} {w : Nat} {g : List (List Int)} (hg : ∀ r ∈ g, Vec p w r) {i j : Nat} {a b : List Int} (hi : g[i]? = some a) (hj : g[j]? = some b) (ne : i ≠ j) (x : List Int) :
    nul p (g.set i (together p a (times n p b))) x ↔ nul p g x := by
  have ha := hg a (List.mem_of_getElem? hi)
  have hb := hg b (List.mem_of_getElem? hj)
  have d : dot (together p a (times n p b)) x % p = (dot a x + n * dot b x) % p := by
    rw [dot_together (by rw [times_len, ha.1, hb.1]), em_add rfl dot_times]
  have ilt : i < g.length := by
    by_cases q : i < g.length
    · exact q
    · rw [List.getElem?_eq_none (Nat.le_of_not_lt q)] at hi; cases hi
  have other : ∀ r, r ∈ g → r = a ∨ r ∈ g.set i (together p a (times n p b)) := fun r hr => by
    obtain ⟨k, hk⟩ := List.getElem?_of_mem hr
    by_cases e : i = k
    · subst e
      rw [hi] at hk
      exact .inl (Option.some.inj hk).symm
    · exact .inr (List.mem_of_getElem? (i := k) (by rw [List.getElem?_set_ne e]; exact hk))
  constructor
  · intro h r hr
    have hbx : dot b x % p = 0 := h b (List.mem_of_getElem? (i := j) (by rw [List.getElem?_set_ne ne]; exact hj))
    have hax : dot (together p a (times n p b)) x % p = 0 := h _ (List.mem_of_getElem? (i := i) (List.getElem?_set_self ilt))
    rw [d, em_add rfl (em_mul rfl (show dot b x % p = 0 % p by rw [hbx]; simp))] at hax
    rcases other r hr with rfl | m
    · simpa using hax
    · exact h r m
  · intro h r hr
    rcases set_mem hr with m | rfl
    · exact h r m
    · rw [d, em_add (show dot a x % p = 0 % p by rw [h a (List.mem_of_getElem? hi)]; simp) (em_mul rfl (show dot b x % p = 0 % p by rw [h b (List.mem_of_getElem? hj)]; simp))]
      simp
/-- two of them exchanged -/
theorem swap_mem {α : Type} {g : List α} {i j : Nat} {a b : α} (hi : g[i]? = some a) (hj : g[j]? = some b) (r : α) : r ∈ (g.set i b).set j a ↔ r ∈ g := by
  have lt : ∀ {k : Nat} {v : α}, g[k]? = some v → k < g.length := fun {k v} h => by
    by_cases q : k < g.length
    · exact q
    · rw [List.getElem?_eq_none (Nat.le_of_not_lt q)] at h; cases h
  constructor
  · intro h
    rcases set_mem h with m | rfl
    · rcases set_mem m with m | rfl
      · exact m
      · exact List.mem_of_getElem? hj
    · exact List.mem_of_getElem? hi
  · intro h
    obtain ⟨k, hk⟩ := List.getElem?_of_mem h
    by_cases e1 : j = k
    · subst e1
      rw [hj] at hk
      have : b = r := Option.some.inj hk
      subst this
      by_cases e2 : i = j
      · subst e2
        rw [hi] at hj
        have : a = b := Option.some.inj hj
        subst this
        exact List.mem_of_getElem? (i := i) (by rw [List.getElem?_set_self (by rw [List.length_set]; exact lt hi)])
      · exact List.mem_of_getElem? (i := i) (by rw [List.getElem?_set_ne (fun q => e2 q.symm), List.getElem?_set_self (lt hi)])
    · by_cases e2 : i = k
      · subst e2
        rw [hi] at hk
        have : a = r := Option.some.inj hk
        subst this
        exact List.mem_of_getElem? (i := j) (by rw [List.getElem?_set_self (by rw [List.length_set]; exact lt hj)])
      · exact List.mem_of_getElem? (i := k) (by rw [List.getElem?_set_ne e1, List.getElem?_set_ne e2]; exact hk)

/-! ### how many rows -/
/-- primes: each number but 0 has one that takes it to 1 -/
def Fld (p : Int) : Prop := 1 < p ∧ ∀ n : Int, 0 < n → n < p → ∃ r : Int, 0 < r ∧ r < p ∧ n * r % p = 1
theorem col_go {p : Int} (hp : Fld p) {w : Nat} {rs : List (List Int)} (hr : ∀ r ∈ rs, Vec p w r) : ∀ c, c ≤ w → ∃ B L, Col p w c B L rs ∧ B.length + L.length ≤ rs.length
  | 0, _ => ⟨[], rs, Col.start hr, by simp⟩
  | c + 1, hc => by
    obtain ⟨B, L, C, hl⟩ := col_go hp hr c (by omega)
    rcases first_at c L with hz | ⟨j, z, hj, hz, _⟩
    · exact ⟨B, L, C.skip hz, hl⟩
    · have vz := C.vec z (List.mem_of_getElem? hj)
      have bz := inR_get (p := p) (by have := hp.1; omega) vz.2 c
      obtain ⟨iv, _, _, hiv⟩ := hp.2 (z.getD c 0) (by omega) bz.2
      have hjl : j < L.length := by
        by_cases q : j < L.length
        · exact q
        · rw [List.getElem?_eq_none (Nat.le_of_not_lt q)] at hj; cases hj
      refine ⟨_, _, C.step hp.1 (by omega) hj hiv, ?_⟩
      rw [List.length_append, kept, List.length_map, List.length_map, List.length_eraseIdx, if_pos hjl]
      show B.length + 1 + (L.length - 1) ≤ _
      omega
theorem rref_ex {p : Int} (hp : Fld p) {w : Nat} {rs : List (List Int)} (hr : ∀ r ∈ rs, Vec p w r) : ∃ B, Rref p w B ∧ B.length ≤ rs.length ∧ ∀ x, nul p (rowsOf B) x ↔ nul p rs x := by
  obtain ⟨B, L, C, hl⟩ := col_go hp hr w (Nat.le_refl _)
  exact ⟨B, C.R, by omega, C.fin⟩
/-- a base has no more rows than what it comes from -/
theorem rank_le {p : Int} (hp : Fld p) {w : Nat} {B : Bs} (R : Rref p w B) {rs : List (List Int)} (hr : ∀ r ∈ rs, Vec p w r) (h : ∀ x, Vec p w x → (nul p (rowsOf B) x ↔ nul p rs x)) : B.length ≤ rs.length := by
  obtain ⟨B', R', hl, hn⟩ := rref_ex hp hr
  rw [rref_uniq hp.1 R R' fun x hx => by rw [h x hx, hn x]]
  exact hl
/-! ### all rows -/
def unitOf (w k : Nat) : List Int := (List.replicate w (0 : Int)).set k 1
theorem unit_vec {p : Int} (hp : 1 < p) {w k : Nat} : Vec p w (unitOf w k) := ⟨by simp [unitOf], inR_set (fun x hx => by rw [List.eq_of_mem_replicate hx]; omega) (by omega)⟩
def unitsB (w : Nat) : Bs := (List.range w).map fun k => (k, unitOf w k)
theorem unitsB_rref {p : Int} (hp : 1 < p) {w : Nat} : Rref p w (unitsB w) := by
  have mem : ∀ q ∈ unitsB w, ∃ k, k < w ∧ q = (k, unitOf w k) := fun q hq => by
    obtain ⟨k, hk, rfl⟩ := List.mem_map.mp hq
    exact ⟨k, List.mem_range.mp hk, rfl⟩
  refine ⟨fun q hq => ?_, fun q hq => ?_, fun q hq => ?_, fun q hq => ?_, fun q hq j hj => ?_, fun q hq q' hq' ne => ?_, ?_⟩
  · obtain ⟨k, hk, rfl⟩ := mem q hq; exact (unit_vec hp).1
  · obtain ⟨k, hk, rfl⟩ := mem q hq; exact (unit_vec hp).2
  · obtain ⟨k, hk, rfl⟩ := mem q hq; exact hk
  · obtain ⟨k, hk, rfl⟩ := mem q hq
    exact getD_set_eq (by simpa using hk)
  · obtain ⟨k, hk, rfl⟩ := mem q hq
    exact unit_get (by have : j < k := hj; omega)
  · obtain ⟨k, hk, rfl⟩ := mem q hq
    obtain ⟨k', hk', rfl⟩ := mem q' hq'
    exact unit_get ne
  · unfold unitsB
    rw [List.pairwise_map]
    exact List.pairwise_lt_range
theorem unitsB_nul {p : Int} {w : Nat} {x : List Int} (hx : Vec p w x) : nul p (rowsOf (unitsB w)) x ↔ ∀ k, k < w → x.getD k 0 = 0 := by
  have hm : ∀ k, k < w → x.getD k 0 % p = x.getD k 0 := fun k hk => by
    rw [List.getD_eq_getElem?_getD, List.getElem?_eq_getElem (by rw [hx.1]; exact hk)]
    have := hx.2 _ (List.getElem_mem (show k < x.length by rw [hx.1]; exact hk))
    exact Int.emod_eq_of_lt this.1 this.2
  rw [nul_rows]
  constructor
  · intro h k hk
    have := h (k, unitOf w k) (List.mem_map.mpr ⟨k, List.mem_range.mpr hk, rfl⟩)
    have this : dot (unitOf w k) x % p = 0 := this
    rw [dot_comm] at this
    unfold unitOf at this
    rw [dot_unit x hx.1 hk, hm k hk] at this
    exact this
  · intro h q hq
    obtain ⟨k, hk, rfl⟩ := List.mem_map.mp hq
    have hk := List.mem_range.mp hk
    show dot (unitOf w k) x % p = 0
    rw [dot_comm]
    unfold unitOf
    rw [dot_unit x hx.1 hk, h k hk]; simp
/-- a base's nulls, as many as are no leads -/
def nonLeads (w : Nat) (B : Bs) : List Nat := (List.range w).filter fun k => !(B.any fun q => q.1 == k)
theorem nonLeads_mem {w : Nat} {B : Bs} {k : Nat} : k ∈ nonLeads w B ↔ k < w ∧ notLead k B := by
  unfold nonLeads notLead
  rw [List.mem_filter, List.mem_range]
  simp
theorem nonLeads_len {p : Int} {w : Nat} {B : Bs} (R : Rref p w B) : B.length + (nonLeads w B).length = w := by
  have hp : (B.map (·.1) ++ nonLeads w B).Perm (List.range w) := by
    refine (List.perm_ext_iff_of_nodup ?_ List.nodup_range).mpr fun j => ?_
    · refine List.nodup_append.mpr ⟨List.Pairwise.map _ (fun a b (h : a.1 < b.1) => Nat.ne_of_lt h) R.srt, List.nodup_range.filter _, fun a ha b hb e => ?_⟩
      subst e
      obtain ⟨q, hq, rfl⟩ := List.mem_map.mp ha
      exact (nonLeads_mem.mp hb).2 q hq rfl
    · rw [List.mem_append, List.mem_range, nonLeads_mem]
      constructor
      · rintro (h | h)
        · obtain ⟨q, hq, rfl⟩ := List.mem_map.mp h
          exact R.lt q hq
        · exact h.1
      · intro h
        by_cases m : j ∈ B.map (·.1)
        · exact .inl m
        · exact .inr ⟨h, fun q hq e => m (List.mem_map.mpr ⟨q, hq, e⟩)⟩
  have := hp.length_eq
  rw [List.length_append, List.length_map, List.length_range] at this
  exact this
/-- rows and nulls together are as many as the width -/
theorem rank_nul {p : Int} (hp : Fld p) {w : Nat} {B C : Bs} (R : Rref p w B) (RC : Rref p w C) (h : ∀ x, Vec p w x → (nul p (rowsOf C) x ↔ perp p w (nul p (rowsOf B)) x)) : B.length + C.length = w := by
  have nl := nonLeads_len R
  have up : C.length ≤ (nonLeads w B).length := by
    have := rank_le hp RC (rs := (nonLeads w B).map fun k => nullFor p w k B) (fun r hr => by
      obtain ⟨k, _, rfl⟩ := List.mem_map.mp hr
      exact nullFor_vec hp.1) fun x hx => by
      rw [h x hx]
      refine (perp_iff hp.1 R hx).symm.trans ?_
      constructor
      · intro q r hr
        obtain ⟨k, hk, rfl⟩ := List.mem_map.mp hr
        obtain ⟨h1, h2⟩ := nonLeads_mem.mp hk
        exact q k h1 h2
      · intro q k hk hn
        exact q _ (List.mem_map.mpr ⟨k, nonLeads_mem.mpr ⟨hk, hn⟩, rfl⟩)
    rwa [List.length_map] at this
  have lo : w ≤ B.length + C.length := by
    have := rank_le hp (unitsB_rref hp.1 (w := w)) (rs := (B.map fun q => unitOf w q.1) ++ rowsOf C) (fun r hr => by
      rcases List.mem_append.mp hr with m | m
      · obtain ⟨q, _, rfl⟩ := List.mem_map.mp m
        exact unit_vec hp.1
      · obtain ⟨q, hq, rfl⟩ := List.mem_map.mp m
        exact ⟨RC.len q hq, RC.rng q hq⟩) fun x hx => by
      rw [unitsB_nul hx, nul_append]
      constructor
      · intro h0
        refine ⟨fun r hr => ?_, fun r hr => ?_⟩
        · rw [dot_comm, dot_zero fun k => ?_]
          · simp
          · rcases Nat.lt_or_ge k w with q | q
            · exact h0 k q
            · rw [List.getD_eq_getElem?_getD, List.getElem?_eq_none (by rw [hx.1]; exact q)]; rfl
        · rw [dot_comm, dot_zero fun k => ?_]
          · simp
          · rcases Nat.lt_or_ge k w with q | q
            · exact h0 k q
            · rw [List.getD_eq_getElem?_getD, List.getElem?_eq_none (by rw [hx.1]; exact q)]; rfl
      · rintro ⟨h1, h2⟩ k hk
        have hm : ∀ k, k < w → x.getD k 0 % p = x.getD k 0 := fun k hk => by
          have := inR_get (p := p) (by have := hp.1; omega) hx.2 k
          exact Int.emod_eq_of_lt this.1 this.2
        have lead0 : ∀ q ∈ B, x.getD q.1 0 = 0 := fun q hq => by
          have := h1 _ (List.mem_map.mpr ⟨q, hq, rfl⟩)
          have this : dot (unitOf w q.1) x % p = 0 := this
          rw [dot_comm] at this
          unfold unitOf at this
          rw [dot_unit x hx.1 (R.lt q hq), hm _ (R.lt q hq)] at this
          exact this
        by_cases hl : notLead k B
        · have := (h x hx).mp h2 _ (nullFor_vec hp.1) (null_nul R hk hl)
          rw [dot_null_of R hk hl hx.1 lead0, hm k hk] at this
          exact this
        · have : ∃ q ∈ B, q.1 = k := by
            apply Classical.byContradiction
            intro hno
            exact hl fun q hq e => hno ⟨q, hq, e⟩
          obtain ⟨q, hq, rfl⟩ := this
          exact lead0 q hq
    have lu : (unitsB w).length = w := by simp [unitsB]
    rw [lu, List.length_append, List.length_map] at this
    unfold rowsOf at this
    rwa [List.length_map] at this
  omega
/-! ### sums of multiples -/
/-- what follows with one row more: of what follows, and a multiple of the row -/
theorem perp_snoc {p : Int} (hp : Fld p) {w : Nat} {rs : List (List Int)} (hr : ∀ r ∈ rs, Vec p w r) {l v : List Int} (hl : Vec p w l) (hv : Vec p w v) (h : perp p w (nul p (rs ++ [l])) v) :
    ∃ n : Int, 0 ≤ n ∧ n < p ∧ perp p w (nul p rs) (less v l n p) := by
  have hp0 : 0 < p := by have := hp.1; omega
  by_cases hc : ∀ u, Vec p w u → nul p rs u → dot l u % p = 0
  · refine ⟨0, Int.le_refl _, hp0, fun x hx hn => ?_⟩
    rw [dot_less (by rw [hv.1, hl.1])]
    have := h x hx (nul_append.mpr ⟨hn, fun r hr => by rw [List.mem_singleton.mp hr]; exact hc x hx hn⟩)
    simpa using this
  · have : ∃ u, Vec p w u ∧ nul p rs u ∧ dot l u % p ≠ 0 := by
      apply Classical.byContradiction
      intro hno
      exact hc fun u hu hn => Classical.byContradiction fun h => hno ⟨u, hu, hn, h⟩
    obtain ⟨u, hu, hun, hne⟩ := this
    obtain ⟨iv, _, _, hiv⟩ := hp.2 (dot l u % p) (by have := Int.emod_nonneg (dot l u) (show p ≠ 0 by omega); omega) (Int.emod_lt_of_pos _ hp0)
    -- u, so that its product with l is 1
    have su : ∀ y : List Int, dot y (times iv p u) % p = iv * dot y u % p := fun y => by
      rw [dot_comm, dot_times, dot_comm u y]
    have vu : Vec p w (times iv p u) := ⟨by rw [times_len]; exact hu.1, times_in hp0⟩
    have lu : dot l (times iv p u) % p = 1 := by
      rw [su, Int.mul_comm, ← hiv]
      exact em_mul (Int.emod_emod _ _).symm rfl
    have nu : nul p rs (times iv p u) := fun r hr => by
      rw [su, em_mul rfl (show dot r u % p = 0 % p by rw [hun r hr]; simp)]; simp
    generalize times iv p u = t at vu lu nu
    refine ⟨dot v t % p, Int.emod_nonneg _ (by omega), Int.emod_lt_of_pos _ hp0, fun x hx hn => ?_⟩
    -- x less its product with l times t
    have lx : (less x t (dot l x) p).length = w := by rw [less_len (by rw [hx.1, vu.1])]; exact hx.1
    have ds : ∀ y : List Int, dot y (less x t (dot l x) p) % p = (dot y x - dot l x * dot y t) % p := fun y => by
      rw [dot_comm, dot_less (by rw [hx.1, vu.1]), dot_comm x y, dot_comm t y]
    have h0 := h (less x t (dot l x) p) ⟨lx, less_in hp0⟩ (nul_append.mpr ⟨fun r hr => ?_, fun r hr => ?_⟩)
    · rw [ds] at h0
      rw [dot_less (by rw [hv.1, hl.1]), ← h0]
      have e : (dot v t % p * dot l x) % p = (dot l x * dot v t) % p := by
        rw [Int.mul_comm]
        exact em_mul rfl (Int.emod_emod _ _)
      exact em_sub rfl e
    · rw [ds, em_sub (show dot r x % p = 0 % p by rw [hn r hr]; simp) (em_mul rfl (show dot r t % p = 0 % p by rw [nu r hr]; simp))]
      simp
    · rw [List.mem_singleton.mp hr, ds, em_sub rfl (em_mul rfl (show dot l t % p = 1 % p by rw [lu]; exact (Int.emod_eq_of_lt (by omega) hp.1).symm))]
      simp
theorem less_back {p n : Int} {w : Nat} {v l : List Int} (hv : Vec p w v) (hl : l.length = w) : together p (less v l n p) (times n p l) = v := by
  unfold together less times
  refine ext_getD (by simp [hv.1, hl]) fun k hk => ?_
  have hk : k < w := by simpa [hv.1, hl] using hk
  have kv : k < v.length := by rw [hv.1]; exact hk
  have kl : k < l.length := by rw [hl]; exact hk
  rw [List.getD_eq_getElem?_getD, List.getElem?_zipWith, List.getElem?_zipWith, List.getElem?_map, List.getD_eq_getElem?_getD, List.getElem?_eq_getElem kv, List.getElem?_eq_getElem kl]
  simp only [Option.map_some, Option.getD_some]
  have b := hv.2 _ (List.getElem_mem kv)
  rw [Int.emod_add_emod, Int.add_emod_emod, Int.mul_comm (l[k]) n]
  have : v[k] - n * l[k] + n * l[k] = v[k] := by omega
  rw [this]
  exact Int.emod_eq_of_lt b.1 b.2

/-! ### the rows of a base whose leads are in the first columns -/
theorem dot_app : ∀ {l x m y : List Int}, l.length = x.length → dot (l ++ m) (x ++ y) = dot l x + dot m y
  | [], [], m, y, _ => by show dot m y = 0 + dot m y; omega
  | [], _ :: _, _, _, h => by cases h
  | _ :: _, [], _, _, h => by cases h
  | a :: l, b :: x, m, y, h => by
    show dot (a :: (l ++ m)) (b :: (x ++ y)) = _
    rw [dot_cons, dot_cons, dot_app (by simpa using h)]; omega
theorem take_get {l : List Int} {c k : Nat} (h : k < c) : (l.take c).getD k 0 = l.getD k 0 := by
  rw [List.getD_eq_getElem?_getD, List.getElem?_take, if_pos h, ← List.getD_eq_getElem?_getD]
def headB (c : Nat) (B : Bs) : Bs := (B.filter fun q => decide (q.1 < c)).map fun q => (q.1, q.2.take c)
theorem headB_rref {p : Int} {w c : Nat} (hc : c ≤ w) {B : Bs} (R : Rref p w B) : Rref p c (headB c B) := by
  have mem : ∀ e ∈ headB c B, ∃ q ∈ B, q.1 < c ∧ e = (q.1, q.2.take c) := fun e he => by
    obtain ⟨q, hq, rfl⟩ := List.mem_map.mp he
    obtain ⟨h1, h2⟩ := List.mem_filter.mp hq
    exact ⟨q, h1, of_decide_eq_true h2, rfl⟩
  refine ⟨fun e he => ?_, fun e he => ?_, fun e he => ?_, fun e he => ?_, fun e he k hk => ?_, fun e he e' he' ne => ?_, ?_⟩
  · obtain ⟨q, hq, hl, rfl⟩ := mem e he
    show (q.2.take c).length = _
    rw [List.length_take, R.len q hq]; omega
  · obtain ⟨q, hq, hl, rfl⟩ := mem e he
    exact fun x hx => R.rng q hq x (List.mem_of_mem_take hx)
  · obtain ⟨q, hq, hl, rfl⟩ := mem e he
    exact hl
  · obtain ⟨q, hq, hl, rfl⟩ := mem e he
    show (q.2.take c).getD q.1 0 = 1
    rw [take_get hl]; exact R.one q hq
  · obtain ⟨q, hq, hl, rfl⟩ := mem e he
    have hk : k < q.1 := hk
    show (q.2.take c).getD k 0 = 0
    rw [take_get (by omega)]; exact R.zero q hq k hk
  · obtain ⟨q, hq, hl, rfl⟩ := mem e he
    obtain ⟨q', hq', hl', rfl⟩ := mem e' he'
    show (q.2.take c).getD q'.1 0 = 0
    rw [take_get hl']; exact R.oth q hq q' hq' ne
  · unfold headB
    rw [List.pairwise_map]
    exact R.srt.filter _
theorem head_cut_len (c : Nat) (B : Bs) : (headB c B).length + (cutB c B).length = B.length := by
  unfold headB cutB
  rw [List.length_map, List.length_map]
  induction B with
  | nil => rfl
  | cons q B ih =>
    by_cases h : q.1 < c
    · rw [List.filter_cons_of_pos (by simpa using h), List.filter_cons_of_neg (by simp; omega), List.length_cons, List.length_cons]; omega
    · rw [List.filter_cons_of_neg (by simpa using h), List.filter_cons_of_pos (by simp; omega), List.length_cons, List.length_cons]; omega
theorem headB_nul {p : Int} {w c : Nat} (hc : c ≤ w) {B : Bs} (R : Rref p w B) {z : List Int} (hz : z.length = c) : nul p (rowsOf (headB c B)) z ↔ nul p (rowsOf B) (z ++ zeros (w - c)) := by
  have key : ∀ q ∈ B, dot q.2 (z ++ zeros (w - c)) = dot (q.2.take c) z := fun q hq => by
    have e : q.2 = q.2.take c ++ q.2.drop c := (List.take_append_drop c q.2).symm
    conv => lhs; rw [e]
    rw [dot_app (by rw [List.length_take, R.len q hq, hz]; omega)]
    have : dot (q.2.drop c) (zeros (w - c)) = 0 := by
      rw [dot_comm]
      exact dot_zero fun k => by
        unfold zeros
        rw [List.getD_eq_getElem?_getD, List.getElem?_replicate]
        split <;> rfl
    rw [this]; omega
  rw [nul_rows, nul_rows]
  constructor
  · intro h q hq
    rw [key q hq]
    by_cases hl : q.1 < c
    · exact h (q.1, q.2.take c) (List.mem_map.mpr ⟨q, List.mem_filter.mpr ⟨hq, decide_eq_true hl⟩, rfl⟩)
    · rw [dot_zero fun k => ?_]
      · simp
      · rcases Nat.lt_or_ge k c with l | l
        · rw [take_get l]; exact R.zero q hq k (by omega)
        · rw [List.getD_eq_getElem?_getD, List.getElem?_eq_none (by rw [List.length_take]; omega)]; rfl
  · intro h e he
    obtain ⟨q, hq, rfl⟩ := List.mem_map.mp he
    have hq := (List.mem_filter.mp hq).1
    show dot (q.2.take c) z % p = 0
    rw [← key q hq]
    exact h q hq
/-- the nulls' base -/
theorem null_ex {p : Int} (hp : Fld p) {w : Nat} {B : Bs} (R : Rref p w B) : ∃ N, Rref p w N ∧ ∀ x, Vec p w x → (nul p (rowsOf N) x ↔ perp p w (nul p (rowsOf B)) x) := by
  obtain ⟨N, RN, _, hn⟩ := rref_ex hp (w := w) (rs := (nonLeads w B).map fun k => nullFor p w k B) fun r hr => by
    obtain ⟨k, _, rfl⟩ := List.mem_map.mp hr
    exact nullFor_vec hp.1
  refine ⟨N, RN, fun x hx => ?_⟩
  rw [hn x]
  refine Iff.trans ?_ (perp_iff hp.1 R hx)
  constructor
  · intro q k hk hl
    exact q _ (List.mem_map.mpr ⟨k, nonLeads_mem.mpr ⟨hk, hl⟩, rfl⟩)
  · intro q r hr
    obtain ⟨k, hk, rfl⟩ := List.mem_map.mp hr
    obtain ⟨h1, h2⟩ := nonLeads_mem.mp hk
    exact q k h1 h2
theorem rows_vec {p : Int} {w : Nat} {B : Bs} (R : Rref p w B) : ∀ r ∈ rowsOf B, Vec p w r := fun r hr => by
  obtain ⟨q, hq, rfl⟩ := List.mem_map.mp hr
  exact ⟨R.len q hq, R.rng q hq⟩
theorem split_vec {p : Int} {w c : Nat} (hc : c ≤ w) {z : List Int} (h : Vec p w z) : z = z.take c ++ z.drop c ∧ Vec p c (z.take c) ∧ Vec p (w - c) (z.drop c) :=
  ⟨(List.take_append_drop c z).symm, ⟨by rw [List.length_take, h.1]; omega, fun x hx => h.2 x (List.mem_of_mem_take hx)⟩, ⟨by rw [List.length_drop, h.1], fun x hx => h.2 x (List.mem_of_mem_drop hx)⟩⟩
theorem app_vec {p : Int} {a b : Nat} {x y : List Int} (hx : Vec p a x) (hy : Vec p b y) : Vec p (a + b) (x ++ y) := ⟨by rw [List.length_append, hx.1, hy.1], fun z hz => (List.mem_append.mp hz).elim (hx.2 z) (hy.2 z)⟩
/-- what two have in common, and what they have together, are no more than both -/
theorem dim_le {p : Int} (hp : Fld p) {w : Nat} {B1 B2 S C : Bs} (R1 : Rref p w B1) (R2 : Rref p w B2) (RS : Rref p w S) (RC : Rref p w C) (hS : ∀ x, Vec p w x → (nul p (rowsOf S) x ↔ nul p (rowsOf B1) x ∧ nul p (rowsOf B2) x))
    (hC : ∀ x, Vec p w x → (nul p (rowsOf C) x ↔ perp p w (fun y => perp p w (nul p (rowsOf B1)) y ∧ perp p w (nul p (rowsOf B2)) y) x)) : C.length + S.length ≤ B1.length + B2.length := by
  have hp0 : 0 < p := by have := hp.1; omega
  have v1 := rows_vec R1
  have v2 := rows_vec R2
  have z0 : Vec p w (zeros w) := ⟨by simp [zeros], fun x hx => by rw [List.eq_of_mem_replicate hx]; omega⟩
  have dz : ∀ l : List Int, dot l (zeros w) = 0 := fun l => by
    rw [dot_comm]
    exact dot_zero fun k => by
      unfold zeros
      rw [List.getD_eq_getElem?_getD, List.getElem?_replicate]
      split <;> rfl
  obtain ⟨T, RT, hTl, hT⟩ := rref_ex hp (w := w + w) (rs := ((rowsOf B1).map fun b => b ++ b) ++ ((rowsOf B2).map fun b => b ++ zeros w)) fun r hr => by
    rcases List.mem_append.mp hr with m | m
    · obtain ⟨b, hb, rfl⟩ := List.mem_map.mp m
      exact app_vec (v1 b hb) (v1 b hb)
    · obtain ⟨b, hb, rfl⟩ := List.mem_map.mp m
      exact app_vec (v2 b hb) z0
  have nT : ∀ x y : List Int, x.length = w → (nul p (rowsOf T) (x ++ y) ↔ (∀ b ∈ rowsOf B1, (dot b x + dot b y) % p = 0) ∧ nul p (rowsOf B2) x) := fun x y hx => by
    rw [hT, nul_append]
    refine and_congr ⟨fun h b hb => ?_, fun h r hr => ?_⟩ ⟨fun h b hb => ?_, fun h r hr => ?_⟩
    · have := h _ (List.mem_map.mpr ⟨b, hb, rfl⟩)
      rwa [dot_app (by rw [(v1 b hb).1, hx])] at this
    · obtain ⟨b, hb, rfl⟩ := List.mem_map.mp hr
      rw [dot_app (by rw [(v1 b hb).1, hx])]
      exact h b hb
    · have := h _ (List.mem_map.mpr ⟨b, hb, rfl⟩)
      rw [dot_app (by rw [(v2 b hb).1, hx]), dot_comm (zeros w) y, dz] at this
      simpa using this
    · obtain ⟨b, hb, rfl⟩ := List.mem_map.mp hr
      rw [dot_app (by rw [(v2 b hb).1, hx]), dot_comm (zeros w) y, dz]
      simpa using h b hb
  have ww : w + w - w = w := by omega
  have eS : S = headB w T := by
    refine rref_uniq hp.1 RS (headB_rref (by omega) RT) fun x hx => ?_
    rw [hS x hx, headB_nul (by omega) RT hx.1, ww, nT x _ hx.1]
    refine and_congr ⟨fun h b hb => ?_, fun h b hb => ?_⟩ Iff.rfl
    · rw [dz]; simpa using h b hb
    · have := h b hb
      rw [dz] at this
      simpa using this
  have RCut : Rref p w (cutB w T) := by
    have := cutB_rref (c := w) RT
    rwa [ww] at this
  have eC : C = cutB w T := by
    refine rref_uniq hp.1 RC RCut fun x hx => ?_
    rw [hC x hx, ← perp2 (rows_vec RCut) hx]
    refine perp_congr (fun y hy => ?_) x
    have pc := perp_cut hp.1 (c := w) (by omega) RT (y := y) (by rw [ww]; exact hy)
    rw [ww] at pc
    rw [pc]
    constructor
    · rintro ⟨h1, h2⟩ z hz hn
      obtain ⟨e, va, vb⟩ := split_vec (c := w) (by omega) hz
      rw [ww] at vb
      rw [e] at hn ⊢
      generalize z.take w = xa at va hn ⊢
      generalize z.drop w = xb at vb hn ⊢
      obtain ⟨n1, n2⟩ := (nT xa xb va.1).mp hn
      rw [dot_app (by rw [va.1]; simp [zeros]), dot_comm (zeros w) xa, dz, Int.zero_add]
      have s1 := h1 (together p xa xb) (together_vec hp0 va.1 vb.1) fun b hb => by
        rw [dot_comm, dot_together (by rw [va.1, vb.1]), dot_comm xa b, dot_comm xb b]
        exact n1 b hb
      rw [dot_comm, dot_together (by rw [va.1, vb.1]), dot_comm xa y, dot_comm xb y] at s1
      have s2 := h2 xa va n2
      have : (dot y xa + dot y xb) % p = (0 + dot y xb) % p := em_add (by rw [s2]; simp) rfl
      rw [s1] at this
      rw [← Int.zero_add (dot y xb), ← this]
    · intro h
      refine ⟨fun x2 hx2 hn => ?_, fun x1 hx1 hn => ?_⟩
      · have := h (zeros w ++ x2) (app_vec z0 hx2) ((nT _ _ z0.1).mpr ⟨fun b hb => by rw [dz, Int.zero_add]; exact hn b hb, fun b _ => by rw [dz]; simp⟩)
        rwa [dot_app (by simp [zeros]), dz, Int.zero_add] at this
      · have vt : Vec p w (times (p - 1) p x1) := times_vec hp0 hx1.1
        have dt : ∀ b : List Int, dot b (times (p - 1) p x1) % p = ((p - 1) * dot b x1) % p := fun b => by rw [dot_comm, dot_times, dot_comm]
        have := h (x1 ++ times (p - 1) p x1) (app_vec hx1 vt) ((nT _ _ hx1.1).mpr ⟨fun b hb => ?_, hn⟩)
        · rw [dot_app (by rw [hx1.1]; simp [zeros]), dot_comm (zeros w) x1, dz, Int.zero_add, dt] at this
          have e : ((p - 1) * dot y x1 + dot y x1) % p = (0 + dot y x1) % p := em_add (by rw [this]; simp) rfl
          rw [show (p - 1) * dot y x1 + dot y x1 = p * dot y x1 by rw [Int.sub_mul]; omega, Int.mul_emod_right, Int.zero_add] at e
          exact e.symm
        · rw [em_add rfl (dt b), show dot b x1 + (p - 1) * dot b x1 = p * dot b x1 by rw [Int.sub_mul]; omega, Int.mul_emod_right]
  have := head_cut_len w T
  rw [eS, eC]
  have e1 : (((rowsOf B1).map fun b => b ++ b) ++ ((rowsOf B2).map fun b => b ++ zeros w)).length = B1.length + B2.length := by
    rw [List.length_append, List.length_map, List.length_map]
    unfold rowsOf
    rw [List.length_map, List.length_map]
  omega
theorem dim_eq {p : Int} (hp : Fld p) {w : Nat} {B1 B2 S C : Bs} (R1 : Rref p w B1) (R2 : Rref p w B2) (RS : Rref p w S) (RC : Rref p w C) (hS : ∀ x, Vec p w x → (nul p (rowsOf S) x ↔ nul p (rowsOf B1) x ∧ nul p (rowsOf B2) x))
    (hC : ∀ x, Vec p w x → (nul p (rowsOf C) x ↔ perp p w (fun y => perp p w (nul p (rowsOf B1)) y ∧ perp p w (nul p (rowsOf B2)) y) x)) : C.length + S.length = B1.length + B2.length := by
  have le := dim_le hp R1 R2 RS RC hS hC
  obtain ⟨N1, Q1, n1⟩ := null_ex hp R1
  obtain ⟨N2, Q2, n2⟩ := null_ex hp R2
  obtain ⟨NS, QS, nS⟩ := null_ex hp RS
  obtain ⟨NC, QC, nC⟩ := null_ex hp RC
  have l1 := rank_nul hp R1 Q1 n1
  have l2 := rank_nul hp R2 Q2 n2
  have lS := rank_nul hp RS QS nS
  have lC := rank_nul hp RC QC nC
  have p1 : ∀ y, Vec p w y → (perp p w (nul p (rowsOf N1)) y ↔ nul p (rowsOf B1) y) := fun y hy => by rw [perp_congr n1 y, perp2 (rows_vec R1) hy]
  have p2 : ∀ y, Vec p w y → (perp p w (nul p (rowsOf N2)) y ↔ nul p (rowsOf B2) y) := fun y hy => by rw [perp_congr n2 y, perp2 (rows_vec R2) hy]
  -- what is in both, by the nulls' rows
  have both : ∀ x, Vec p w x → (nul p (rowsOf NC) x ↔ nul p (rowsOf N1) x ∧ nul p (rowsOf N2) x) := fun x hx => by
    rw [nC x hx, perp_congr hC x]
    have e : ∀ y, Vec p w y → ((perp p w (nul p (rowsOf B1)) y ∧ perp p w (nul p (rowsOf B2)) y) ↔ nul p (rowsOf N1 ++ rowsOf N2) y) := fun y hy => by rw [nul_append, n1 y hy, n2 y hy]
    rw [perp_congr (fun y hy => perp_congr e y) x, perp2 (fun r hr => (List.mem_append.mp hr).elim (rows_vec Q1 r) (rows_vec Q2 r)) hx, nul_append]
  have le2 := dim_le hp Q1 Q2 QC QS both fun x hx => by
    rw [nS x hx]
    refine perp_congr (fun y hy => ?_) x
    rw [hS y hy, p1 y hy, p2 y hy]
  omega
/-- columns put otherwise, the same many rows; those of the first columns, and those without -/
theorem cut_dim {p : Int} (hp : Fld p) {w : Nat} {cols : List Nat} (hn : cols.Nodup) (hl : ∀ j ∈ cols, j < w) {B S C : Bs} (R : Rref p w B) (RS : Rref p cols.length S) (RC : Rref p (w - cols.length) C)
    (hS : ∀ z, Vec p cols.length z → (nul p (rowsOf S) z ↔ nul p ((rowsOf B).map (turn cols)) z))
    (hC : ∀ u y, Vec p w u → Vec p (w - cols.length) y → turn (cols ++ restOf w cols) u = zeros cols.length ++ y → (perp p (w - cols.length) (nul p (rowsOf C)) y ↔ perp p w (nul p (rowsOf B)) u)) : C.length + S.length = B.length := by
  have hp0 : 0 < p := by have := hp.1; omega
  have sg := sg_perm hn hl
  have cl := col_len hn hl
  have rl := rest_len hn hl
  have sl : (cols ++ restOf w cols).length = w := by rw [List.length_append, rl]; omega
  generalize hsg : cols ++ restOf w cols = s at sg sl hC
  have vB := rows_vec R
  have vt : ∀ r ∈ (rowsOf B).map (turn s), Vec p w r := fun r hr => by
    obtain ⟨b, hb, rfl⟩ := List.mem_map.mp hr
    exact ⟨by rw [turn_len, sl], turn_in hp0 (vB b hb).2⟩
  obtain ⟨T, RT, hTl, hT⟩ := rref_ex hp vt
  have vT := rows_vec RT
  have lt : ((rowsOf B).map (turn s)).length = B.length := by rw [List.length_map]; unfold rowsOf; rw [List.length_map]
  have up : B.length ≤ T.length := by
    have := rank_le hp R (rs := (rowsOf T).map (unturn w s)) (fun r hr => by
      obtain ⟨t, ht, rfl⟩ := List.mem_map.mp hr
      exact unturn_vec hp0 (vT t ht).2) fun x hx => by
      have tx : nul p (rowsOf B) x ↔ nul p (rowsOf T) (turn s x) := by
        rw [hT]
        constructor
        · intro h r hr
          obtain ⟨b, hb, rfl⟩ := List.mem_map.mp hr
          rw [dot_turn sg (vB b hb).1 hx.1]
          exact h b hb
        · intro h b hb
          rw [← dot_turn sg (vB b hb).1 hx.1]
          exact h _ (List.mem_map.mpr ⟨b, hb, rfl⟩)
      rw [tx]
      have key : ∀ t ∈ rowsOf T, dot (unturn w s t) x = dot t (turn s x) := fun t ht => by
        rw [← dot_turn sg (unturn_vec hp0 (w := w) (sg := s) (vT t ht).2).1 hx.1, turn_unturn sg (vT t ht).1]
      constructor
      · intro h r hr
        obtain ⟨t, ht, rfl⟩ := List.mem_map.mp hr
        rw [key t ht]
        exact h t ht
      · intro h t ht
        rw [← key t ht]
        exact h _ (List.mem_map.mpr ⟨t, ht, rfl⟩)
    rw [List.length_map] at this
    unfold rowsOf at this
    rwa [List.length_map] at this
  have eC : C = cutB cols.length T := by
    have RCut := cutB_rref (c := cols.length) RT
    refine rref_uniq hp.1 RC RCut fun x hx => ?_
    rw [← perp2 (rows_vec RC) hx, ← perp2 (rows_vec RCut) hx]
    refine perp_congr (fun y hy => ?_) x
    have vz := zeros_vec hp0 cl hy
    have hu := unturn_vec hp0 (w := w) (sg := s) vz.2
    have hut := turn_unturn sg vz.1
    generalize unturn w s (zeros cols.length ++ y) = u at hu hut
    rw [hC u y hu hy hut, perp_cut hp.1 cl RT hy, ← hut, ← perp_turn hp0 sg vB hu]
    exact perp_congr (fun z _ => (hT z).symm) _
  have eS : S = headB cols.length T := by
    refine rref_uniq hp.1 RS (headB_rref cl RT) fun z hz => ?_
    rw [hS z hz, headB_nul cl RT hz.1, hT]
    have key : ∀ b ∈ rowsOf B, dot (turn s b) (z ++ zeros (w - cols.length)) = dot (turn cols b) z := fun b hb => by
      have e : turn s b = turn cols b ++ turn (restOf w cols) b := by rw [← hsg]; unfold turn; rw [List.map_append]
      rw [e, dot_app (by rw [turn_len, hz.1])]
      have : dot (turn (restOf w cols) b) (zeros (w - cols.length)) = 0 := by
        rw [dot_comm]
        exact dot_zero fun k => by
          unfold zeros
          rw [List.getD_eq_getElem?_getD, List.getElem?_replicate]
          split <;> rfl
      rw [this]; omega
    constructor
    · intro h r hr
      obtain ⟨b, hb, rfl⟩ := List.mem_map.mp hr
      rw [key b hb]
      exact h _ (List.mem_map.mpr ⟨b, hb, rfl⟩)
    · intro h r hr
      obtain ⟨b, hb, rfl⟩ := List.mem_map.mp hr
      rw [← key b hb]
      exact h _ (List.mem_map.mpr ⟨b, hb, rfl⟩)
  have := head_cut_len cols.length T
  rw [eS, eC]
  omega
/-- what follows from the common rows follows from both -/
theorem both_mem {p : Int} (hp : Fld p) {w : Nat} {B1 B2 C : Bs} (R1 : Rref p w B1) (R2 : Rref p w B2) (hC : ∀ x, Vec p w x → (nul p (rowsOf C) x ↔ perp p w (fun y => perp p w (nul p (rowsOf B1)) y ∧ perp p w (nul p (rowsOf B2)) y) x))
    {y : List Int} (hy : Vec p w y) (h : perp p w (nul p (rowsOf C)) y) : perp p w (nul p (rowsOf B1)) y ∧ perp p w (nul p (rowsOf B2)) y := by
  obtain ⟨N1, Q1, n1⟩ := null_ex hp R1
  obtain ⟨N2, Q2, n2⟩ := null_ex hp R2
  have e : ∀ y, Vec p w y → ((perp p w (nul p (rowsOf B1)) y ∧ perp p w (nul p (rowsOf B2)) y) ↔ nul p (rowsOf N1 ++ rowsOf N2) y) := fun y hy => by rw [nul_append, n1 y hy, n2 y hy]
  rw [perp_congr hC y, perp_congr (fun z hz => perp_congr e z) y, perp2 (fun r hr => (List.mem_append.mp hr).elim (rows_vec Q1 r) (rows_vec Q2 r)) hy] at h
  exact (e y hy).mpr h
/-- how what is without columns is told -/
def WoOk (p : Int) (w : Nat) (cols : List Nat) (rs : List (List Int)) (C : Bs) : Prop :=
  ∀ u y, Vec p w u → Vec p (w - cols.length) y → turn (cols ++ restOf w cols) u = zeros cols.length ++ y → (perp p (w - cols.length) (nul p (rowsOf C)) y ↔ perp p w (nul p rs) u)
theorem wo_at {p : Int} (hp : 1 < p) {w : Nat} {cols : List Nat} (hn : cols.Nodup) (hl : ∀ j ∈ cols, j < w) {y : List Int} (hy : Vec p (w - cols.length) y) : ∃ u, Vec p w u ∧ turn (cols ++ restOf w cols) u = zeros cols.length ++ y := by
  have vz := zeros_vec (by omega) (col_len hn hl) hy
  exact ⟨_, unturn_vec (by omega) (w := w) (sg := cols ++ restOf w cols) vz.2, turn_unturn (sg_perm hn hl) vz.1⟩
theorem wo_uniq {p : Int} (hp : 1 < p) {w : Nat} {cols : List Nat} (hn : cols.Nodup) (hl : ∀ j ∈ cols, j < w) {rs : List (List Int)} {C C' : Bs} (RC : Rref p (w - cols.length) C) (RC' : Rref p (w - cols.length) C') (h : WoOk p w cols rs C) (h' : WoOk p w cols rs C') : C = C' := by
  refine rref_uniq hp RC RC' fun x hx => ?_
  rw [← perp2 (rows_vec RC) hx, ← perp2 (rows_vec RC') hx]
  refine perp_congr (fun y hy => ?_) x
  obtain ⟨u, hu, hut⟩ := wo_at hp hn hl hy
  rw [h u y hu hy hut, h' u y hu hy hut]
/-- .. by all that has noughts there -/
theorem wo_all {p : Int} (hp : 1 < p) {w : Nat} {cols : List Nat} (hn : cols.Nodup) (hl : ∀ j ∈ cols, j < w) {rs ks : List (List Int)} {C : Bs} (RC : Rref p (w - cols.length) C) (h : WoOk p w cols rs C)
    (hk : ∀ v ∈ ks, Vec p w v) (hs : ∀ v, Vec p w v → (v ∈ ks ↔ perp p w (nul p rs) v)) {x : List Int} (hx : Vec p (w - cols.length) x) :
    nul p ((ks.filter fun v => cols.all fun j => v.getD j 0 == 0).map (turn (restOf w cols))) x ↔ nul p (rowsOf C) x := by
  rw [← perp2 (rows_vec RC) hx]
  have split : ∀ v, turn (cols ++ restOf w cols) v = turn cols v ++ turn (restOf w cols) v := fun v => by unfold turn; rw [List.map_append]
  have noughts : ∀ v : List Int, (cols.all fun j => v.getD j 0 == 0) = true ↔ turn cols v = zeros cols.length := fun v => by
    rw [List.all_eq_true]
    unfold turn zeros
    constructor
    · intro q
      apply List.eq_replicate_iff.mpr
      refine ⟨by simp, fun b hb => ?_⟩
      obtain ⟨j, hj, rfl⟩ := List.mem_map.mp hb
      simpa using q j hj
    · intro q j hj
      have := (List.eq_replicate_iff.mp q).2 (v.getD j 0) (List.mem_map.mpr ⟨j, hj, rfl⟩)
      simpa using this
  constructor
  · intro q y hy hpy
    obtain ⟨u, hu, hut⟩ := wo_at hp hn hl hy
    have hin := (hs u hu).mpr ((h u y hu hy hut).mp hpy)
    rw [split] at hut
    have e := List.append_inj hut (by rw [turn_len]; simp [zeros])
    have := q (turn (restOf w cols) u) (List.mem_map.mpr ⟨u, List.mem_filter.mpr ⟨hin, (noughts u).mpr e.1⟩, rfl⟩)
    rw [e.2] at this
    rw [dot_comm]
    exact this
  · intro q r hr
    obtain ⟨v, hv, rfl⟩ := List.mem_map.mp hr
    obtain ⟨h1, h2⟩ := List.mem_filter.mp hv
    have vv := hk v h1
    have vy : Vec p (w - cols.length) (turn (restOf w cols) v) := ⟨by rw [turn_len, rest_len hn hl], turn_in (by omega) vv.2⟩
    have := q _ vy ((h v _ vv vy (by rw [split, (noughts v).mp h2])).mpr ((hs v vv).mp h1))
    rw [dot_comm]
    exact this
/-! ### numbers put at places -/
def putAt (l : List (Nat × Int)) (x : List Int) : List Int := l.foldl (fun x q => x.set q.1 q.2) x
theorem putAt_len : ∀ {l : List (Nat × Int)} {x : List Int}, (putAt l x).length = x.length
  | [], _ => rfl
  | q :: l, x => by
    show (putAt l (x.set q.1 q.2)).length = _
    rw [putAt_len, List.length_set]
theorem putAt_out : ∀ {l : List (Nat × Int)} {x : List Int} {j : Nat}, (∀ q ∈ l, q.1 ≠ j) → (putAt l x).getD j 0 = x.getD j 0
  | [], _, _, _ => rfl
  | q :: l, x, j, h => by
    show (putAt l (x.set q.1 q.2)).getD j 0 = _
    rw [putAt_out fun r hr => h r (List.mem_cons_of_mem _ hr), getD_set_ne (h q List.mem_cons_self)]
theorem putAt_turn : ∀ {ix : List Nat} {ys x : List Int}, ix.Nodup → ix.length = ys.length → (∀ j ∈ ix, j < x.length) → turn ix (putAt (ix.zip ys) x) = ys
  | [], [], _, _, _, _ => rfl
  | [], _ :: _, _, _, h, _ => by cases h
  | _ :: _, [], _, _, h, _ => by cases h
  | i :: ix, y :: ys, x, hn, hl, hj => by
    have hn := List.nodup_cons.mp hn
    show (putAt (ix.zip ys) (x.set i y)).getD i 0 :: turn ix (putAt (ix.zip ys) (x.set i y)) = y :: ys
    rw [putAt_turn hn.2 (by simpa using hl) fun j h => by rw [List.length_set]; exact hj j (List.mem_cons_of_mem _ h), putAt_out fun q hq e => hn.1 (by
      rw [← e]
      exact (List.of_mem_zip (show (q.1, q.2) ∈ ix.zip ys from hq)).1), getD_set_eq (hj i List.mem_cons_self)]
theorem putAt_in {p : Int} : ∀ {l : List (Nat × Int)} {x : List Int}, InR p x → (∀ q ∈ l, 0 ≤ q.2 ∧ q.2 < p) → InR p (putAt l x)
  | [], _, h, _ => h
  | q :: l, x, h, hq => putAt_in (l := l) (inR_set h (hq q List.mem_cons_self)) fun r hr => hq r (List.mem_cons_of_mem _ hr)
/-- the whole row of one without its noughts -/
theorem whole_ok {p : Int} (hp : 0 < p) {w : Nat} {cols : List Nat} (hn : cols.Nodup) (hl : ∀ j ∈ cols, j < w) {y : List Int} (hy : Vec p (w - cols.length) y) :
    Vec p w (putAt ((restOf w cols).zip y) (zeros w)) ∧ turn (cols ++ restOf w cols) (putAt ((restOf w cols).zip y) (zeros w)) = zeros cols.length ++ y := by
  have rl := rest_len hn hl
  have rn : (restOf w cols).Nodup := List.nodup_range.filter _
  have rw' : ∀ j ∈ restOf w cols, j < w := fun j hj => List.mem_range.mp (List.mem_filter.mp hj).1
  have zw : (zeros w).length = w := by simp [zeros]
  refine ⟨⟨by rw [putAt_len, zw], putAt_in (fun x hx => by rw [List.eq_of_mem_replicate hx]; omega) fun q hq => hy.2 q.2 (List.of_mem_zip (show (q.1, q.2) ∈ (restOf w cols).zip y from hq)).2⟩, ?_⟩
  have e : ∀ v, turn (cols ++ restOf w cols) v = turn cols v ++ turn (restOf w cols) v := fun v => by unfold turn; rw [List.map_append]
  rw [e, putAt_turn rn (by rw [rl, hy.1]) fun j hj => by rw [zw]; exact rw' j hj]
  congr 1
  refine ext_getD (by rw [turn_len]; simp [zeros]) fun k hk => ?_
  rw [turn_len] at hk
  unfold turn
  rw [List.getD_eq_getElem?_getD, List.getElem?_map, List.getElem?_eq_getElem hk]
  simp only [Option.map_some, Option.getD_some]
  rw [putAt_out fun q hq e => ?_]
  · unfold zeros
    rw [List.getD_eq_getElem?_getD, List.getD_eq_getElem?_getD, List.getElem?_replicate, List.getElem?_replicate]
    rw [if_pos hk]
    split <;> rfl
  · have := (List.of_mem_zip (show (q.1, q.2) ∈ (restOf w cols).zip y from hq)).1
    rw [e] at this
    have := (List.mem_filter.mp this).2
    simp at this
open PySem PySem.Spec PyProof.Rows L2 Tr
local macro_rules | `(tactic| walk_at "tw") => `(tactic| ((conv => whnf); (repeat (refine wSeq.mk ?_; (conv => whnf)))))
local macro_rules | `(tactic| walk_at "tm") => `(tactic| (conv => whnf))
def row (l : List Int) : D := .tup (l.map .int)
def grid (g : List (List Int)) : D := .tup (g.map row)
def sp__law_state : SpT := spState
def sp__law_draw : SpT := spDraw
structure sp__law_prime (os : List O) (P : O → List O → Prop) : Prop where
  ex : ∃ a xs, os = [.lst a xs] ∧ DS xs ∧ ∀ p ys, p ∈ [2, 3, 5, 97, 997] → DS ys → P (.fz (.int p)) [.lst a ys]
structure sp__law_row (os : List O) (P : O → List O → Prop) : Prop where
  ex : ∃ a xs, ∃ w : Nat, ∃ base : Int, os = [.lst a xs, .fz (.int w), .fz (.int base)] ∧ DS xs ∧ w ≤ 1000 ∧ 2 ≤ base ∧ base ≤ 1000 ∧
  ∀ l ys, l.length = w → InR base l → DS ys → P (.fz (row l)) [.lst a ys, .fz (.int w), .fz (.int base)]
/-- a row, as a tuple or as a list -/
def lrow (l : List Int) : D := .lst (l.map .int)
def isRw (d : D) (l : List Int) : Prop := d = row l ∨ d = lrow l
structure sp__law_times (os : List O) (P : O → List O → Prop) : Prop where
  ex : ∃ d l n base, os = [.fz d, .fz (.int n), .fz (.int base)] ∧ isRw d l ∧ 0 < base ∧ base ≤ 1000 ∧ 0 ≤ n ∧ n ≤ base ∧ InR base l ∧ P (.fz (row (times n base l))) os
structure sp__law_together (os : List O) (P : O → List O → Prop) : Prop where
  ex : ∃ d l m base, os = [.fz d, .fz (row m), .fz (.int base)] ∧ isRw d l ∧ 0 < base ∧ P (.fz (row (together base l m))) os
structure sp__law_rows (os : List O) (P : O → List O → Prop) : Prop where
  ex : ∃ a xs, ∃ w : Nat, ∃ base : Int, ∃ many : Nat, os = [.lst a xs, .fz (.int w), .fz (.int base), .fz (.int many)] ∧ DS xs ∧ w ≤ 1000 ∧ 2 ≤ base ∧ base ≤ 1000 ∧ many ≤ 1000 ∧
  ∀ g ys, g.length = many → (∀ r ∈ g, r.length = w ∧ InR base r) → DS ys → P (.fz (grid g)) [.lst a ys, .fz (.int w), .fz (.int base), .fz (.int many)]
theorem len__law_state : ∀ os P, sp__law_state os P → os.length = 1 := spState_len
theorem len__law_draw : ∀ os P, sp__law_draw os P → os.length = 2 := spDraw_len
theorem len__law_prime : ∀ os P, sp__law_prime os P → os.length = 1 := fun os P ⟨_, _, e, _⟩ => by rw [e]; rfl
theorem len__law_row : ∀ os P, sp__law_row os P → os.length = 3 := fun os P ⟨_, _, _, _, e, _⟩ => by rw [e]; rfl
theorem len__law_times : ∀ os P, sp__law_times os P → os.length = 3 := fun os P ⟨_, _, _, _, e, _⟩ => by rw [e]; rfl
theorem len__law_together : ∀ os P, sp__law_together os P → os.length = 3 := fun os P ⟨_, _, _, _, e, _⟩ => by rw [e]; rfl
theorem len__law_rows : ∀ os P, sp__law_rows os P → os.length = 4 := fun os P ⟨_, _, _, _, _, e, _⟩ => by rw [e]; rfl
def pr (q : Nat × List Int) : D := .tup [.int q.1, row q.2]
def isPrs (o : O) (B : Bs) : Prop := o = .fz (.lst (B.map pr)) ∨ ∃ a, o = .lst a ((B.map pr).map .fz)
def primes : List Int := [2, 3, 5, 97, 997]
def leadOf : List Int → Option Nat
  | [] => none
  | x :: r => if x = 0 then (leadOf r).map (· + 1) else some 0
def leadD : Option Nat → D
  | some k => .int k
  | none => .non
def isLot (d : D) (rs : List (List Int)) : Prop := d = .tup (rs.map row) ∨ d = .lst (rs.map row)
structure sp_inverse (os : List O) (P : O → List O → Prop) : Prop where
  ex : ∃ n p, os = [.fz (.int n), .fz (.int p)] ∧ p ∈ primes ∧ 0 < n ∧ n < p ∧ ∀ r : Int, 0 ≤ r → r < p → n * r % p = 1 → P (.fz (.int r)) os
structure sp_lead_of (os : List O) (P : O → List O → Prop) : Prop where
  ex : ∃ l, os = [.fz (row l)] ∧ P (.fz (leadD (leadOf l))) os
structure sp_times_row (os : List O) (P : O → List O → Prop) : Prop where
  ex : ∃ l n base, os = [.fz (row l), .fz (.int n), .fz (.int base)] ∧ 0 < base ∧ base ≤ 1000 ∧ 0 ≤ n ∧ n < base ∧ InR base l ∧ P (.fz (row (times n base l))) os
structure sp_less_row (os : List O) (P : O → List O → Prop) : Prop where
  ex : ∃ l m n base, os = [.fz (row l), .fz (row m), .fz (.int n), .fz (.int base)] ∧ 0 < base ∧ base ≤ 1000 ∧ 0 ≤ n ∧ n < base ∧ InR base l ∧ InR base m ∧ P (.fz (row (less l m n base))) os
structure sp_cleared (os : List O) (P : O → List O → Prop) : Prop where
  ex : ∃ B z p w, os = [.fz (.lst (B.map pr)), .fz (row z), .fz (.int p)] ∧ 1 < p ∧ p ≤ 1000 ∧ Rref p w B ∧ Vec p w z ∧ P (.fz (row (clr p B z))) os
structure sp_laid_in (os : List O) (P : O → List O → Prop) : Prop where
  ex : ∃ B z p w, os = [.fz (.lst (B.map pr)), .fz (row z), .fz (.int p)] ∧ p ∈ primes ∧ Rref p w B ∧ Vec p w z ∧ B.length ≤ 1000 ∧
    ∀ o B', isPrs o B' → Rref p w B' → B'.length ≤ B.length + 1 → (∀ x, Vec p w x → (nul p (rowsOf B') x ↔ nul p (rowsOf B) x ∧ dot z x % p = 0)) → P o os
structure sp_laid_out (os : List O) (P : O → List O → Prop) : Prop where
  ex : ∃ d rs p w, os = [.fz d, .fz (.int p)] ∧ isLot d rs ∧ p ∈ primes ∧ (∀ r ∈ rs, Vec p w r) ∧ rs.length ≤ 1000 ∧
    ∀ o B, isPrs o B → Rref p w B → B.length ≤ rs.length → (∀ x, Vec p w x → (nul p (rowsOf B) x ↔ nul p rs x)) → P o os
structure sp_reduced (os : List O) (P : O → List O → Prop) : Prop where
  ex : ∃ d rs p w, os = [.fz d, .fz (.int p)] ∧ isLot d rs ∧ p ∈ primes ∧ (∀ r ∈ rs, Vec p w r) ∧ rs.length ≤ 1000 ∧
    ∀ B, Rref p w B → B.length ≤ rs.length → (∀ x, Vec p w x → (nul p (rowsOf B) x ↔ nul p rs x)) → P (.fz (grid (rowsOf B))) os
theorem len_inverse : ∀ os P, sp_inverse os P → os.length = 2 := fun os P ⟨_, _, e, _⟩ => by rw [e]; rfl
theorem len_lead_of : ∀ os P, sp_lead_of os P → os.length = 1 := fun os P ⟨_, e, _⟩ => by rw [e]; rfl
theorem len_times_row : ∀ os P, sp_times_row os P → os.length = 3 := fun os P ⟨_, _, _, e, _⟩ => by rw [e]; rfl
theorem len_less_row : ∀ os P, sp_less_row os P → os.length = 4 := fun os P ⟨_, _, _, _, e, _⟩ => by rw [e]; rfl
theorem len_cleared : ∀ os P, sp_cleared os P → os.length = 3 := fun os P ⟨_, _, _, _, e, _⟩ => by rw [e]; rfl
theorem len_laid_in : ∀ os P, sp_laid_in os P → os.length = 3 := fun os P ⟨_, _, _, _, e, _⟩ => by rw [e]; rfl
theorem len_laid_out : ∀ os P, sp_laid_out os P → os.length = 2 := fun os P ⟨_, _, _, _, e, _⟩ => by rw [e]; rfl
theorem len_reduced : ∀ os P, sp_reduced os P → os.length = 2 := fun os P ⟨_, _, _, _, e, _⟩ => by rw [e]; rfl
structure sp_follows (os : List O) (P : O → List O → Prop) : Prop where
  ex : ∃ d rs z p w, os = [.fz d, .fz (row z), .fz (.int p)] ∧ isLot d rs ∧ p ∈ primes ∧ (∀ r ∈ rs, Vec p w r) ∧ Vec p w z ∧ rs.length ≤ 1000 ∧
    ∀ b : Bool, (b = true ↔ ∀ x, Vec p w x → nul p rs x → dot z x % p = 0) → P (.fz (.bl b)) os
theorem len_follows : ∀ os P, sp_follows os P → os.length = 3 := fun os P ⟨_, _, _, _, _, e, _⟩ => by rw [e]; rfl
structure sp_null_for (os : List O) (P : O → List O → Prop) : Prop where
  ex : ∃ B, ∃ k w : Nat, ∃ p, os = [.fz (.lst (B.map pr)), .fz (.int k), .fz (.int w), .fz (.int p)] ∧ 1 < p ∧ p ≤ 1000 ∧ k < w ∧ w ≤ 1000 ∧ Rref p w B ∧ P (.fz (row (nullFor p w k B))) os
structure sp_nulls_of (os : List O) (P : O → List O → Prop) : Prop where
  ex : ∃ d rs, ∃ w : Nat, ∃ p, os = [.fz d, .fz (.int w), .fz (.int p)] ∧ isLot d rs ∧ p ∈ primes ∧ (∀ r ∈ rs, Vec p w r) ∧ rs.length ≤ 1000 ∧ w ≤ 400 ∧
    ∀ C, Rref p w C → C.length ≤ w → (∀ x, Vec p w x → (nul p (rowsOf C) x ↔ perp p w (nul p rs) x)) → P (.fz (grid (rowsOf C))) os
theorem len_null_for : ∀ os P, sp_null_for os P → os.length = 4 := fun os P ⟨_, _, _, _, e, _⟩ => by rw [e]; rfl
theorem len_nulls_of : ∀ os P, sp_nulls_of os P → os.length = 3 := fun os P ⟨_, _, _, _, e, _⟩ => by rw [e]; rfl
structure sp_common (os : List O) (P : O → List O → Prop) : Prop where
  ex : ∃ d rs e ts, ∃ w : Nat, ∃ p, os = [.fz d, .fz e, .fz (.int w), .fz (.int p)] ∧ isLot d rs ∧ isLot e ts ∧ p ∈ primes ∧ (∀ r ∈ rs, Vec p w r) ∧ (∀ r ∈ ts, Vec p w r) ∧ rs.length ≤ 1000 ∧ ts.length ≤ 1000 ∧ w ≤ 400 ∧
    ∀ C, Rref p w C → C.length ≤ w → (∀ x, Vec p w x → (nul p (rowsOf C) x ↔ perp p w (fun y => perp p w (nul p rs) y ∧ perp p w (nul p ts) y) x)) → P (.fz (grid (rowsOf C))) os
theorem len_common : ∀ os P, sp_common os P → os.length = 4 := fun os P ⟨_, _, _, _, _, _, e, _⟩ => by rw [e]; rfl
def cells (l : List Nat) : List D := l.map fun (j : Nat) => .int j
structure sp_without (os : List O) (P : O → List O → Prop) : Prop where
  ex : ∃ d rs cols, ∃ w : Nat, ∃ p, os = [.fz d, .fz (.tup (cells cols)), .fz (.int w), .fz (.int p)] ∧ isLot d rs ∧ p ∈ primes ∧ (∀ r ∈ rs, Vec p w r) ∧ rs.length ≤ 400 ∧ w ≤ 400 ∧ cols.Nodup ∧ (∀ j ∈ cols, j < w) ∧
    ∀ C, Rref p (w - cols.length) C → C.length ≤ w → (∀ u y, Vec p w u → Vec p (w - cols.length) y → turn (cols ++ restOf w cols) u = zeros cols.length ++ y → (perp p (w - cols.length) (nul p (rowsOf C)) y ↔ perp p w (nul p rs) u)) → P (.fz (grid (rowsOf C))) os
theorem len_without : ∀ os P, sp_without os P → os.length = 4 := fun os P ⟨_, _, _, _, _, e, _⟩ => by rw [e]; rfl
structure sp__law_inverse (os : List O) (P : O → List O → Prop) : Prop where
  ex : ∃ n p, os = [.fz (.int n), .fz (.int p)] ∧ p ∈ primes ∧ 0 < n ∧ n < p ∧ ∀ r : Int, 0 ≤ r → r < p → n * r % p = 1 → P (.fz (.int r)) os
structure sp__law_reduced (os : List O) (P : O → List O → Prop) : Prop where
  ex : ∃ d rs, ∃ w : Nat, ∃ p, os = [.fz d, .fz (.int w), .fz (.int p)] ∧ isLot d rs ∧ p ∈ primes ∧ (∀ r ∈ rs, Vec p w r) ∧ rs.length ≤ 1000 ∧ w ≤ 1000 ∧
    ∀ B, Rref p w B → (∀ x, nul p (rowsOf B) x ↔ nul p rs x) → P (.fz (grid (rowsOf B))) os
structure sp__law_alike (os : List O) (P : O → List O → Prop) : Prop where
  ex : ∃ g h, os = [.fz (grid g), .fz (grid h)] ∧ P (.fz (.bl (decide (g = h)))) os
theorem len__law_inverse : ∀ os P, sp__law_inverse os P → os.length = 2 := fun os P ⟨_, _, e, _⟩ => by rw [e]; rfl
theorem len__law_reduced : ∀ os P, sp__law_reduced os P → os.length = 3 := fun os P ⟨_, _, _, _, e, _⟩ => by rw [e]; rfl
theorem len__law_alike : ∀ os P, sp__law_alike os P → os.length = 2 := fun os P ⟨_, _, e, _⟩ => by rw [e]; rfl
/-- a dict of rows, each True -/
def kvOf (ks : List (List Int)) : List (List Key × D) := ks.map fun v => (v.map Sum.inl, .bl true)
structure sp__law_is_few (os : List O) (P : O → List O → Prop) : Prop where
  ex : ∃ p : Int, ∃ w : Nat, os = [.fz (.int p), .fz (.int w)] ∧ 2 ≤ p ∧ p ≤ 1000 ∧ w ≤ 1000 ∧ P (.fz (.bl (decide (p ^ (min w 12) ≤ 400)))) os
structure sp__law_all (os : List O) (P : O → List O → Prop) : Prop where
  ex : ∃ rs : List (List Int), ∃ w : Nat, ∃ p : Int, os = [.fz (grid rs), .fz (.int w), .fz (.int p)] ∧ p ∈ primes ∧ (∀ r ∈ rs, Vec p w r) ∧ 1 ≤ w ∧ w ≤ 1000 ∧ p ^ rs.length ≤ 400 ∧
    ∀ (a : Addr) (ks : List (List Int)), (∀ v ∈ ks, Vec p w v) → (∀ v, Vec p w v → (v ∈ ks ↔ perp p w (nul p rs) v)) → ks.length ≤ 400 → P (.dcT a (kvOf ks)) os
theorem len__law_is_few : ∀ os P, sp__law_is_few os P → os.length = 2 := fun os P ⟨_, _, e, _⟩ => by rw [e]; rfl
theorem len__law_all : ∀ os P, sp__law_all os P → os.length = 3 := fun os P ⟨_, _, _, e, _⟩ => by rw [e]; rfl
structure sp__law_few (os : List O) (P : O → List O → Prop) : Prop where
  ex : ∃ g : List (List Int), ∃ p : Int, os = [.fz (grid g), .fz (.int p)] ∧ 2 ≤ p ∧ p ≤ 1000 ∧ g.length ≤ 1000 ∧ P (.fz (.bl (decide (p ^ (min g.length 12) ≤ 400)))) os
structure sp__law_common_right (os : List O) (P : O → List O → Prop) : Prop where
  ex : ∃ rs ts : List (List Int), ∃ w : Nat, ∃ p : Int, os = [.fz (grid rs), .fz (grid ts), .fz (.int w), .fz (.int p)] ∧ p ∈ primes ∧ (∀ r ∈ rs, Vec p w r) ∧ (∀ r ∈ ts, Vec p w r) ∧ rs.length ≤ 100 ∧ ts.length ≤ 100 ∧ 1 ≤ w ∧ w ≤ 400 ∧ P (.fz (.bl true)) os
structure sp__law_without_right (os : List O) (P : O → List O → Prop) : Prop where
  ex : ∃ rs : List (List Int), ∃ cols : List Nat, ∃ w : Nat, ∃ p : Int, os = [.fz (grid rs), .fz (.tup (cells cols)), .fz (.int w), .fz (.int p)] ∧ p ∈ primes ∧ (∀ r ∈ rs, Vec p w r) ∧ rs.length ≤ 400 ∧ 1 ≤ w ∧ w ≤ 400 ∧ cols.Nodup ∧ (∀ j ∈ cols, j < w) ∧ P (.fz (.bl true)) os
def sp_law : SpT := lawSp 63
theorem len__law_few : ∀ os P, sp__law_few os P → os.length = 2 := fun os P ⟨_, _, e, _⟩ => by rw [e]; rfl
theorem len__law_common_right : ∀ os P, sp__law_common_right os P → os.length = 4 := fun os P ⟨_, _, _, _, e, _⟩ => by rw [e]; rfl
theorem len__law_without_right : ∀ os P, sp__law_without_right os P → os.length = 4 := fun os P ⟨_, _, _, _, e, _⟩ => by rw [e]; rfl
theorem len_law : ∀ os P, sp_law os P → os.length = 1 := lawSp_len
def wb__law_state : WS :=
  (wSeq (wSet 1 (wLc (wWalk (wFrz (wSl (wVar 0) wNoP (wSoP (wC (.int 63)))))) (gN 2) wYes (wFz (wC1 semAbs (wLook 2))) [2]))
    (wSeq (wIfS (wTst (wCmp semEq (wC1 semLen (wLook 1)) (wC (.int 0)))) (wSet 1 (wLst (wConsO (wFz (wC (.int 5))) wNilO))) wSkip)
    (wRet (wLst (wConsO (wMov 1) (wConsO (wFz (wC (.int 0))) (wConsO (wFz (wC (.int 1))) wNilO)))))))
def wb__law_draw : WS :=
  (wJn 0 0 2 (wSeq (wSet 2 (wMvIx 0 (wC (.int 0))))
    (wSeq (wSet 3 (wBin semMod (wIxL 0 (wC (.int 1))) (wC1 semLen (wLook 2))))
    (wSeq (wSet 4 (wFz (wIxL 2 (wVar 3))))
    (wSeq (wIfS (wTst (wCmpL semGe 4 (wC (.int 1000000000000000000)))) (wSeq (wSetIx 2 (wVar 3) (wBin semDiv (wVar 4) (wVar 1)))
    (wRet (wBin semMod (wVar 4) (wVar 1)))) wSkip)
    (wSeq (wSetIx 0 (wC (.int 1)) (wBin semAdd (wIxL 0 (wC (.int 1))) (wC (.int 1))))
    (wSeq (wSetIx 0 (wC (.int 2)) (wBin semMod (wFrz (wBin semAdd (wFrz (wBin semAdd (wFrz (wBin semMul (wIxL 0 (wC (.int 2))) (wC (.int 48271)))) (wVar 4))) (wC (.int 12345)))) (wC (.int 2147483647))))
    (wRet (wBin semMod (wFrz (wBin semDiv (wFrz (wBin semMod (wFrz (wBin semMul (wIxL 0 (wC (.int 2))) (wIxL 0 (wC (.int 2))))) (wC (.int 2147483629)))) (wC (.int 16)))) (wVar 1))))))))))
def wb__law_prime : WS :=
  (wRet (wFz (wIx (wFrz (wLst (wConsO (wFz (wC (.int 2))) (wConsO (wFz (wC (.int 3))) (wConsO (wFz (wC (.int 5))) (wConsO (wFz (wC (.int 97))) (wConsO (wFz (wC (.int 997))) wNilO))))))) (wFrz (wCallS sp__law_draw 0 (wCons (wC (.int 5)) wNil))))))
def wb__law_row : WS :=
  (wSeq (wSet 3 (wCallS sp__law_draw 0 (wCons (wC (.int 4)) wNil)))
    (wSeq (wSet 4 (wLst wNilO))
    (wSeq (wFor (wRng1 (wVar 1)) (gN 5) (wSeq (wSet 6 (wFz (wIx (wFrz (wLst (wConsO (wCallS sp__law_draw 0 (wCons (wVar 2) wNil)) (wConsO (wBin semSub (wVar 2) (wC (.int 1))) (wConsO (wBin semMod (wC (.int 1)) (wVar 2)) (wConsO (wCallS sp__law_draw 0 (wCons (wC (.int 2)) wNil)) wNilO)))))) (wFrz (wCallS sp__law_draw 0 (wCons (wC (.int 4)) wNil))))))
    (wApp 4 (wIf (wOr (wTst (wCmpL semGt 3 (wC (.int 0)))) (wTst (wCmp semEq (wFrz (wCallS sp__law_draw 0 (wCons (wC (.int 3)) wNil))) (wC (.int 0))))) (wFz (wVar 6)) (wFz (wC (.int 0)))))))
    (wRet (wO1 semTuple (wVar 4))))))
def wb__law_times : WS :=
  (wRet (wO1 semTuple (wFrz (wLc (wWalk (wVar 0)) (gN 3) wYes (wBin semMod (wFrz (wBin semMul (wVar 3) (wVar 1))) (wVar 2)) [3]))))
def wb__law_together : WS :=
  (wRet (wO1 semTuple (wFrz (wLc (wZip (wVar 0) (wVar 1)) (gT 2 (gsCons (gN 3) (gsCons (gN 1) gsNil))) wYes (wBin semMod (wFrz (wBin semAdd (wVar 3) (wVar 1))) (wVar 2)) [3, 1]))))
def wb__law_rows : WS :=
  (wSeq (wSet 4 (wLst wNilO))
    (wSeq (wFor (wRng1 (wVar 3)) (gN 5) (wSeq (wSet 6 (wCallS sp__law_row 0 (wCons (wVar 1) (wCons (wVar 2) wNil))))
    (wSeq (wSet 7 (wCallS sp__law_draw 0 (wCons (wC (.int 5)) wNil)))
    (wSeq (wIfS (wAnd (wTst (wCmpL semNe 4 (wFrz (wLst wNilO)))) (wTst (wCmpL semLt 7 (wC (.int 2))))) (wSeq (wSet 6 (wCall sp__law_times (wCons (wIxL 4 (wFrz (wCallS sp__law_draw 0 (wCons (wC1 semLen (wLook 4)) wNil)))) (wCons (wFrz (wCallS sp__law_draw 0 (wCons (wVar 2) wNil))) (wCons (wVar 2) wNil)))))
    (wSet 6 (wCall sp__law_together (wCons (wVar 6) (wCons (wIxL 4 (wFrz (wCallS sp__law_draw 0 (wCons (wC1 semLen (wLook 4)) wNil)))) (wCons (wVar 2) wNil)))))) wSkip)
    (wSeq (wIfS (wAnd (wTst (wCmpL semEq 7 (wC (.int 2)))) (wTst (wCmpL semNe 4 (wFrz (wLst wNilO))))) (wSet 6 (wFz (wIxL 4 (wFrz (wCallS sp__law_draw 0 (wCons (wC1 semLen (wLook 4)) wNil)))))) wSkip)
    (wApp 4 (wFz (wVar 6))))))))
    (wRet (wO1 semTuple (wVar 4)))))
def wb_less_row : WS :=
  (wRet (wO1 semTuple (wFrz (wLc (wZip (wVar 0) (wVar 1)) (gT 2 (gsCons (gN 4) (gsCons (gN 5) gsNil))) wYes (wBin semMod (wFrz (wBin semSub (wVar 4) (wFrz (wBin semMul (wVar 2) (wVar 5))))) (wVar 3)) [4, 5]))))
def wb_cleared : WS :=
  (wSeq (wFor (wWalk (wVar 0)) (gT 2 (gsCons (gN 3) (gsCons (gN 4) gsNil))) (wIfS (wTst (wCmp semNe (wIxL 1 (wVar 3)) (wC (.int 0)))) (wSet 1 (wCall sp_less_row (wCons (wVar 1) (wCons (wVar 4) (wCons (wIxL 1 (wVar 3)) (wCons (wVar 2) wNil)))))) wSkip))
    (wRetV 1))
def wb_lead_of : WS :=
  (wSeq (wFor (wEnum (wVar 0)) (gT 2 (gsCons (gN 1) (gsCons (gN 2) gsNil))) (wIfS (wTst (wCmpL semNe 2 (wC (.int 0)))) (wRetV 1) wSkip))
    (wRet (wFz (wC .non))))
def wb_times_row : WS :=
  (wRet (wO1 semTuple (wFrz (wLc (wWalk (wVar 0)) (gN 3) wYes (wBin semMod (wFrz (wBin semMul (wVar 3) (wVar 1))) (wVar 2)) [3]))))
def wb_inverse : WS :=
  (wSeq (wPar3 2 3 4 (wC (.int 1)) (wVar 0) (wFrz (wBin semSub (wVar 1) (wC (.int 2)))))
    (wSeq (wWhile (wTst (wCmpL semGt 4 (wC (.int 0)))) (wSeq (wIfS (wTst (wCmp semEq (wFrz (wBin semMod (wVar 4) (wC (.int 2)))) (wC (.int 1)))) (wSet 2 (wBin semMod (wFrz (wBin semMul (wVar 2) (wVar 3))) (wVar 1))) wSkip)
    (wSeq (wSet 3 (wBin semMod (wFrz (wBin semMul (wVar 3) (wVar 3))) (wVar 1)))
    (wSet 4 (wBin semDiv (wVar 4) (wC (.int 2)))))))
    (wRet (wBin semMod (wVar 2) (wVar 1)))))
def wb_laid_in : WS :=
  (wSeq (wSet 1 (wCall sp_cleared (wCons (wVar 0) (wCons (wVar 1) (wCons (wVar 2) wNil)))))
    (wSeq (wSet 3 (wCall sp_lead_of (wCons (wVar 1) wNil)))
    (wSeq (wIfS (wTst (wCmpL (semIs false) 3 (wC .non))) (wRetV 0) wSkip)
    (wSeq (wSet 1 (wCall sp_times_row (wCons (wVar 1) (wCons (wFrz (wCall sp_inverse (wCons (wIxL 1 (wVar 3)) (wCons (wVar 2) wNil)))) (wCons (wVar 2) wNil)))))
    (wSeq (wSet 4 (wLc (wWalk (wVar 0)) (gT 2 (gsCons (gN 5) (gsCons (gN 6) gsNil))) wYes (wFz (wTup (wCons (wVar 5) (wCons (wFrz (wCall sp_less_row (wCons (wVar 6) (wCons (wVar 1) (wCons (wIxL 6 (wVar 3)) (wCons (wVar 2) wNil)))))) wNil)))) [5, 6]))
    (wRet (wO1 semSortF (wFrz (wBin semAdd (wVar 4) (wFrz (wLst (wConsO (wFz (wTup (wCons (wVar 3) (wCons (wVar 1) wNil)))) wNilO))))))))))))
def wb_laid_out : WS :=
  (wSeq (wSet 2 (wLst wNilO))
    (wSeq (wFor (wWalk (wVar 0)) (gN 3) (wSet 2 (wCall sp_laid_in (wCons (wVar 2) (wCons (wFrz (wO1 semTuple (wVar 3))) (wCons (wVar 1) wNil))))))
    (wRetV 2)))
def wb_reduced : WS :=
  (wRet (wO1 semTuple (wFrz (wLc (wWalk (wFrz (wCall sp_laid_out (wCons (wVar 0) (wCons (wVar 1) wNil))))) (gT 2 (gsCons (gN 2) (gsCons (gN 3) gsNil))) wYes (wFz (wVar 3)) [2, 3]))))
def wb_null_for : WS :=
  (wSeq (wSet 4 (wBin semMul (wFrz (wLst (wConsO (wFz (wC (.int 0))) wNilO))) (wVar 2)))
    (wSeq (wSetIx 4 (wVar 1) (wFz (wC (.int 1))))
    (wSeq (wFor (wWalk (wVar 0)) (gT 2 (gsCons (gN 5) (gsCons (gN 6) gsNil))) (wSetIx 4 (wVar 5) (wBin semMod (wFrz (wBin semSub (wC (.int 0)) (wIxL 6 (wVar 1)))) (wVar 3))))
    (wRet (wO1 semTuple (wVar 4))))))
def wb_nulls_of : WS :=
  (wSeq (wSet 3 (wCall sp_laid_out (wCons (wVar 0) (wCons (wVar 2) wNil))))
    (wSeq (wSet 4 (wLc (wWalk (wVar 3)) (gT 2 (gsCons (gN 5) (gsCons (gN 6) gsNil))) wYes (wFz (wVar 5)) [5, 6]))
    (wRet (wCall sp_reduced (wCons (wFrz (wLc (wRng1 (wVar 1)) (gN 7) (wTst (wCmpL (semInD true) 7 (wLook 4))) (wCall sp_null_for (wCons (wVar 3) (wCons (wVar 7) (wCons (wVar 1) (wCons (wVar 2) wNil))))) [7])) (wCons (wVar 2) wNil))))))
def wb_common : WS :=
  (wRet (wCall sp_nulls_of (wCons (wFrz (wBin semAdd (wFrz (wCall sp_nulls_of (wCons (wVar 0) (wCons (wVar 2) (wCons (wVar 3) wNil))))) (wFrz (wCall sp_nulls_of (wCons (wVar 1) (wCons (wVar 2) (wCons (wVar 3) wNil))))))) (wCons (wVar 2) (wCons (wVar 3) wNil)))))
def wb__law_alike : WS :=
  (wSeq (wIfS (wOr (wNot (wTru (wIsi .tup (wLook 0)))) (wTst (wCmpL semNe 0 (wLook 1)))) (wRet (wFz (wC (.bl false)))) wSkip)
    (wSeq (wIfS (wTst (wCmp semNe (wFrz (wLc (wWalk (wVar 0)) (gN 2) (wNot (wTru (wIsi .tup (wLook 2)))) (wFz (wVar 2)) [2])) (wFrz (wLst wNilO)))) (wRet (wFz (wC (.bl false)))) wSkip)
    (wRet (wFz (wCmp semEq (wFrz (wLc (wWalk (wVar 0)) (gN 2) (wTst (wCmp semNe (wFrz (wLc (wWalk (wVar 2)) (gN 3) (wTru (wIsi .bl (wLook 3))) (wFz (wVar 3)) [3])) (wFrz (wLst wNilO)))) (wFz (wVar 2)) [2])) (wFrz (wLst wNilO)))))))
def wb__law_inverse : WS :=
  (wRet (wFz (wIx (wFrz (wLc (wRng2 (wC (.int 1)) (wVar 1)) (gN 2) (wTst (wCmp semEq (wFrz (wBin semMod (wFrz (wBin semMul (wVar 2) (wVar 0))) (wVar 1))) (wC (.int 1)))) (wFz (wVar 2)) [2])) (wC (.int 0)))))
def wb__law_reduced : WS :=
  (wSeq (wSet 3 (wLc (wWalk (wVar 0)) (gN 8) wYes (wFz (wFrz (wO1 semList (wVar 8)))) [8]))
    (wSeq (wSet 4 (wLst wNilO))
    (wSeq (wFor (wRng1 (wVar 1)) (gN 5) (wSeq (wSet 6 (wSl (wFrz (wLcH 3 (gN 8) (wTst (wCmp semNe (wIxL 8 (wVar 5)) (wC (.int 0)))) (wFz (wVar 8)) [8])) wNoP (wSoP (wC (.int 1)))))
    (wIfS (wTst (wCmpL semNe 6 (wFrz (wLst wNilO)))) (wSeq (wRem 3 (wIxL 6 (wC (.int 0))))
    (wSeq (wSet 7 (wCall sp__law_times (wCons (wIxL 6 (wC (.int 0))) (wCons (wFrz (wCall sp__law_inverse (wCons (wIx (wIxL 6 (wC (.int 0))) (wVar 5)) (wCons (wVar 2) wNil)))) (wCons (wVar 2) wNil)))))
    (wSeq (wSet 4 (wBin semAdd (wFrz (wLc (wWalk (wVar 4)) (gN 8) wYes (wCall sp__law_together (wCons (wVar 8) (wCons (wFrz (wCall sp__law_times (wCons (wVar 7) (wCons (wFrz (wBin semSub (wVar 2) (wIxL 8 (wVar 5)))) (wCons (wVar 2) wNil))))) (wCons (wVar 2) wNil)))) [8])) (wFrz (wLst (wConsO (wFz (wVar 7)) wNilO)))))
    (wSet 3 (wLcH 3 (gN 8) wYes (wFz (wFrz (wO1 semList (wFrz (wCall sp__law_together (wCons (wVar 8) (wCons (wFrz (wCall sp__law_times (wCons (wVar 7) (wCons (wFrz (wBin semSub (wVar 2) (wIxL 8 (wVar 5)))) (wCons (wVar 2) wNil))))) (wCons (wVar 2) wNil)))))))) [8]))))) wSkip)))
    (wRet (wO1 semTuple (wFrz (wLc (wWalk (wVar 4)) (gN 8) wYes (wO1 semTuple (wVar 8)) [8])))))))
def wb__law_is_few : WS :=
  (wSeq (wSet 2 (wFz (wC (.int 1))))
    (wSeq (wFor (wRng1 (wCmp semMin2 (wVar 1) (wC (.int 12)))) (gN 3) (wSet 2 (wBin semMul (wVar 2) (wVar 0))))
    (wRet (wFz (wCmpL semLe 2 (wC (.int 400)))))))
def wb__law_few : WS :=
  (wRet (wCall sp__law_is_few (wCons (wVar 1) (wCons (wC1 semLen (wLook 0)) wNil))))
def wb__law_all : WS :=
  (wSeq (wSet 3 (wDisp1T (wFrz (wBin semMul (wTup (wCons (wC (.int 0)) wNil)) (wVar 1))) (wC (.bl true))))
    (wSeq (wFor (wWalk (wVar 0)) (gN 4) (wFor (wWalk (wFrz (wListH 3))) (gN 5) (wFor (wRng2 (wC (.int 1)) (wVar 2)) (gN 6) (wSetK 3 (wFrz (wCall sp__law_together (wCons (wVar 5) (wCons (wFrz (wCall sp__law_times (wCons (wVar 4) (wCons (wVar 6) (wCons (wVar 2) wNil))))) (wCons (wVar 2) wNil))))) (wC (.bl true))))))
    (wRetV 3)))
def wb_follows : WS :=
  (wRet (wFz (wCmp (semIs false) (wFrz (wCall sp_lead_of (wCons (wFrz (wCall sp_cleared (wCons (wFrz (wCall sp_laid_out (wCons (wVar 0) (wCons (wVar 2) wNil)))) (wCons (wFrz (wO1 semTuple (wVar 1))) (wCons (wVar 2) wNil))))) wNil))) (wC .non))))
def wb__law_common_right : WS :=
  (wSeq (wSet 4 (wCall sp_common (wCons (wVar 0) (wCons (wVar 1) (wCons (wVar 2) (wCons (wVar 3) wNil))))))
    (wSeq (wIfS (wNot (wTru (wFrz (wCall sp__law_alike (wCons (wVar 4) (wCons (wFrz (wCall sp__law_reduced (wCons (wVar 4) (wCons (wVar 2) (wCons (wVar 3) wNil))))) wNil)))))) (wRet (wFz (wC (.bl false)))) wSkip)
    (wSeq (wIfS (wTst (wCmp semNe (wFrz (wCallK sp_common 0 4 [3, 2, 1, 0] wNil (wCons (wVar 3) (wCons (wVar 2) (wCons (wVar 0) (wCons (wVar 1) wNil)))))) (wLook 4))) (wRet (wFz (wC (.bl false)))) wSkip)
    (wSeq (wAsg (gT 2 (gsCons (gN 0) (gsCons (gN 5) gsNil))) (wTup (wCons (wFrz (wCall sp__law_reduced (wCons (wVar 0) (wCons (wVar 2) (wCons (wVar 3) wNil))))) (wCons (wFrz (wCall sp__law_reduced (wCons (wVar 1) (wCons (wVar 2) (wCons (wVar 3) wNil))))) wNil))))
    (wSeq (wSet 6 (wCall sp__law_reduced (wCons (wFrz (wBin semAdd (wVar 0) (wVar 1))) (wCons (wVar 2) (wCons (wVar 3) wNil)))))
    (wSeq (wIfS (wTst (wCmp semNe (wC1 semLen (wLook 4)) (wFrz (wBin semSub (wFrz (wBin semAdd (wC1 semLen (wLook 0)) (wC1 semLen (wLook 5)))) (wC1 semLen (wLook 6)))))) (wRet (wFz (wC (.bl false)))) wSkip)
    (wSeq (wIfS (wAnd (wTru (wFrz (wCall sp__law_few (wCons (wVar 0) (wCons (wVar 3) wNil))))) (wTru (wFrz (wCall sp__law_few (wCons (wVar 5) (wCons (wVar 3) wNil)))))) (wSeq (wSet 7 (wCall sp__law_all (wCons (wVar 5) (wCons (wVar 2) (wCons (wVar 3) wNil)))))
    (wSeq (wSet 8 (wLc (wWalk (wFrz (wCall sp__law_all (wCons (wVar 0) (wCons (wVar 2) (wCons (wVar 3) wNil)))))) (gN 9) (wTst (wCmpL (semInD false) 9 (wLook 7))) (wFz (wVar 9)) [9]))
    (wRet (wFz (wCmp semEq (wFrz (wCall sp__law_reduced (wCons (wVar 8) (wCons (wVar 2) (wCons (wVar 3) wNil))))) (wLook 4)))))) wSkip)
    (wRet (wFz (wCmp semEq (wFrz (wLc (wWalk (wVar 4)) (gN 9) (wOr (wNot (wTru (wFrz (wCall sp_follows (wCons (wVar 0) (wCons (wVar 9) (wCons (wVar 3) wNil))))))) (wNot (wTru (wFrz (wCall sp_follows (wCons (wVar 1) (wCons (wVar 9) (wCons (wVar 3) wNil)))))))) (wFz (wVar 9)) [9])) (wFrz (wLst wNilO))))))))))))
def wb_without : WS :=
  (wSeq (wSet 4 (wLc (wRng1 (wVar 2)) (gN 6) (wTst (wCmpL (semInD true) 6 (wLook 1))) (wFz (wVar 6)) [6]))
    (wSeq (wSet 5 (wLc (wWalk (wVar 0)) (gN 7) wYes (wO1 semTuple (wFrz (wLc (wWalk (wFrz (wBin semAdd (wFrz (wO1 semList (wVar 1))) (wVar 4)))) (gN 6) wYes (wFz (wIxL 7 (wVar 6))) [6]))) [7]))
    (wRet (wCall sp_reduced (wCons (wFrz (wLc (wWalk (wFrz (wCall sp_laid_out (wCons (wVar 5) (wCons (wVar 3) wNil))))) (gT 2 (gsCons (gN 8) (gsCons (gN 7) gsNil))) (wTst (wCmpL semGe 8 (wC1 semLen (wLook 1)))) (wSl (wVar 7) (wSoP (wC1 semLen (wLook 1))) wNoP) [8, 7])) (wCons (wVar 3) wNil))))))
def wb__law_without_right : WS :=
  (wSeq (wSet 4 (wCall sp_without (wCons (wVar 0) (wCons (wVar 1) (wCons (wVar 2) (wCons (wVar 3) wNil))))))
    (wSeq (wSet 5 (wLc (wRng1 (wVar 2)) (gN 11) (wTst (wCmpL (semInD true) 11 (wLook 1))) (wFz (wVar 11)) [11]))
    (wSeq (wIfS (wNot (wTru (wFrz (wCall sp__law_alike (wCons (wVar 4) (wCons (wFrz (wCall sp__law_reduced (wCons (wVar 4) (wCons (wC1 semLen (wLook 5)) (wCons (wVar 3) wNil))))) wNil)))))) (wRet (wFz (wC (.bl false)))) wSkip)
    (wSeq (wIfS (wTst (wCmp semNe (wFrz (wCallK sp_without 0 4 [1, 3, 2, 0] wNil (wCons (wVar 3) (wCons (wVar 0) (wCons (wVar 2) (wCons (wVar 1) wNil)))))) (wLook 4))) (wRet (wFz (wC (.bl false)))) wSkip)
    (wSeq (wSet 0 (wCall sp__law_reduced (wCons (wVar 0) (wCons (wVar 2) (wCons (wVar 3) wNil)))))
    (wSeq (wSet 6 (wCall sp__law_reduced (wCons (wFrz (wLc (wWalk (wVar 0)) (gN 9) wYes (wO1 semTuple (wFrz (wLc (wWalk (wVar 1)) (gN 11) wYes (wFz (wIxL 9 (wVar 11))) [11]))) [9])) (wCons (wC1 semLen (wLook 1)) (wCons (wVar 3) wNil)))))
    (wSeq (wIfS (wTst (wCmp semNe (wC1 semLen (wLook 4)) (wFrz (wBin semSub (wC1 semLen (wLook 0)) (wC1 semLen (wLook 6)))))) (wRet (wFz (wC (.bl false)))) wSkip)
    (wSeq (wIfS (wTru (wFrz (wCall sp__law_few (wCons (wVar 0) (wCons (wVar 3) wNil))))) (wSeq (wSet 7 (wCall sp__law_all (wCons (wVar 0) (wCons (wVar 2) (wCons (wVar 3) wNil)))))
    (wSeq (wSet 8 (wLc (wWalk (wVar 7)) (gN 9) (wTst (wCmp semEq (wFrz (wLc (wWalk (wVar 1)) (gN 11) (wTst (wCmp semNe (wIxL 9 (wVar 11)) (wC (.int 0)))) (wFz (wVar 11)) [11])) (wFrz (wLst wNilO)))) (wFz (wVar 9)) [9]))
    (wRet (wFz (wCmp semEq (wFrz (wCall sp__law_reduced (wCons (wFrz (wLc (wWalk (wVar 8)) (gN 9) wYes (wO1 semTuple (wFrz (wLc (wWalk (wVar 5)) (gN 11) wYes (wFz (wIxL 9 (wVar 11))) [11]))) [9])) (wCons (wC1 semLen (wLook 5)) (wCons (wVar 3) wNil))))) (wLook 4)))))) wSkip)
    (wSeq (wFor (wWalk (wVar 4)) (gN 9) (wSeq (wSet 10 (wBin semMul (wFrz (wLst (wConsO (wFz (wC (.int 0))) wNilO))) (wVar 2)))
    (wSeq (wFor (wZip (wVar 5) (wVar 9)) (gT 2 (gsCons (gN 11) (gsCons (gN 12) gsNil))) (wSetIx 10 (wVar 11) (wFz (wVar 12))))
    (wIfS (wNot (wTru (wFrz (wCall sp_follows (wCons (wVar 0) (wCons (wFrz (wO1 semTuple (wVar 10))) (wCons (wVar 3) wNil))))))) (wRet (wFz (wC (.bl false)))) wSkip))))
    (wRet (wFz (wC (.bl true)))))))))))))
def wb_law : WS :=
  (wSeq (wSet 1 (wCall sp__law_state (wCons (wVar 0) wNil)))
    (wSeq (wFor (wRng1 (wC (.int 4))) (gN 2) (wSeq (wSet 3 (wCallS sp__law_prime 1 wNil))
    (wSeq (wSet 4 (wBin semAdd (wC (.int 1)) (wFrz (wCallS sp__law_draw 1 (wCons (wIx (wFrz (wLst (wConsO (wFz (wC (.int 3))) (wConsO (wFz (wC (.int 6))) (wConsO (wFz (wC (.int 6))) (wConsO (wFz (wC (.int 40))) wNilO)))))) (wFrz (wCallS sp__law_draw 1 (wCons (wC (.int 4)) wNil)))) wNil)))))
    (wSeq (wSet 5 (wCallS sp__law_rows 1 (wCons (wVar 4) (wCons (wVar 3) (wCons (wFrz (wCallS sp__law_draw 1 (wCons (wC (.int 6)) wNil))) wNil)))))
    (wSeq (wSet 6 (wCallS sp__law_rows 1 (wCons (wVar 4) (wCons (wVar 3) (wCons (wFrz (wCallS sp__law_draw 1 (wCons (wC (.int 6)) wNil))) wNil)))))
    (wSeq (wIfS (wAnd (wTst (wCmpL semNe 5 (wTup wNil))) (wTst (wCmp semEq (wFrz (wCallS sp__law_draw 1 (wCons (wC (.int 2)) wNil))) (wC (.int 0))))) (wSeq (wSet 7 (wFz (wIxL 5 (wFrz (wCallS sp__law_draw 1 (wCons (wC1 semLen (wLook 5)) wNil))))))
    (wSet 6 (wBin semAdd (wVar 6) (wTup (wCons (wFrz (wCall sp__law_times (wCons (wVar 7) (wCons (wFrz (wBin semAdd (wC (.int 1)) (wFrz (wCallS sp__law_draw 1 (wCons (wFrz (wBin semSub (wVar 3) (wC (.int 1)))) wNil))))) (wCons (wVar 3) wNil))))) wNil))))) wSkip)
    (wSeq (wIfS (wNot (wTru (wFrz (wCall sp__law_common_right (wCons (wVar 5) (wCons (wVar 6) (wCons (wVar 4) (wCons (wVar 3) wNil)))))))) (wRet (wFz (wC (.bl false)))) wSkip)
    (wFor (wRng1 (wC (.int 2))) (gN 8) (wSeq (wSet 9 (wLc (wRng1 (wVar 4)) (gN 10) (wTst (wCmp semEq (wFrz (wCallS sp__law_draw 1 (wCons (wIx (wFrz (wLst (wConsO (wFz (wC (.int 2))) (wConsO (wFz (wC (.int 3))) wNilO)))) (wVar 8)) wNil))) (wC (.int 0)))) (wFz (wVar 10)) [10]))
    (wIfS (wNot (wTru (wFrz (wCall sp__law_without_right (wCons (wFrz (wBin semAdd (wVar 5) (wVar 6))) (wCons (wFrz (wO1 semTuple (wFrz (wSl (wVar 9) wNoP (wSoP (wFrz (wBin semSub (wVar 4) (wC (.int 1))))))))) (wCons (wVar 4) (wCons (wVar 3) wNil)))))))) (wRet (wFz (wC (.bl false)))) wSkip))))))))))
    (wRet (wFz (wAndV (wCmp semEq (wFrz (wCall sp_common (wCons (wTup wNil) (wCons (wTup (wCons (wTup (wCons (wC (.int 1)) wNil)) wNil)) (wCons (wC (.int 1)) (wCons (wC (.int 2)) wNil)))))) (wTup wNil)) (wCmp semEq (wFrz (wCall sp_without (wCons (wTup (wCons (wTup (wCons (wC (.int 1)) (wCons (wC (.int 2)) wNil))) wNil)) (wCons (wTup wNil) (wCons (wC (.int 2)) (wCons (wC (.int 3)) wNil)))))) (wTup (wCons (wTup (wCons (wC (.int 1)) (wCons (wC (.int 2)) wNil))) wNil))))))))
theorem does__law_state : ∀ os P, sp__law_state os P → wb__law_state (start0 3 os) (endsOf os P) := wState_does
theorem does__law_draw : ∀ os P, sp__law_draw os P → wb__law_draw (start0 5 os) (endsOf os P) := wDraw_does
theorem zip_in' {α β : Type} {l : List α} {m : List β} {x : α} {y : β} (h : (x, y) ∈ l.zip m) : x ∈ l ∧ y ∈ m := List.of_mem_zip h
theorem zip_curry {α β γ : Type} (f : α → β → γ) (l : List α) (m : List β) : (l.zip m).map (fun q => f q.1 q.2) = List.zipWith f l m := by
  rw [List.map_zip_eq_zipWith]
  rfl
theorem zip_in {l m : List Int} {q : Int × Int} (h : q ∈ l.zip m) : q.1 ∈ l ∧ q.2 ∈ m := List.of_mem_zip h
theorem does__law_prime : ∀ os P, sp__law_prime os P → wb__law_prime (start0 1 os) (endsOf os P) := by
  rintro os P ⟨a, xs, rfl, hd, k⟩
  walk_at "tw"
  refine ⟨by show 5 ≤ sizeLine; decide, fun b => ?_⟩
  walk_at "tw"
  refine draw_i hd (by decide) (by decide) fun n ys h0 h1 hy => ⟨_, _, rfl, ?_⟩
  walk_at "tw"
  refine ⟨.int ([2, 3, 5, 97, 997][n.toNat]'(by show n.toNat < 5; omega)), ?_, ?_⟩
  · exact atI_map D.int (xs := [2, 3, 5, 97, 997]) h0 h1
  · exact ⟨⟨rfl, trivial⟩, k _ _ (List.getElem_mem _) hy⟩
theorem does__law_times : ∀ os P, sp__law_times os P → wb__law_times (start0 4 os) (endsOf os P) := by
  rintro os P ⟨d, l, n, base, rfl, hd, hb, hb2, hn, hn2, hl, k⟩
  rcases hd with rfl | rfl
  all_goals
    walk_at "tw"
    refine lc_all D.int l (fun x => .fz (.int (x * n % base))) (fun x hx A B hA => ?_) ?_
    · refine ⟨fun _ => ?_, fun h => nomatch h⟩
      walk_at "tw"
      have := hl x hx
      exact ⟨cmul64 (by omega) (by omega) (by omega) (by omega), hb, hA⟩
    · intro b
      walk_at "tw"
      refine ⟨trivial, ?_⟩
      rw [frzL_mapfz]
      unfold row times at k
      rw [List.map_map] at k
      exact k
theorem together_eq (p : Int) (l m : List Int) : together p l m = (l.zip m).map fun q => (q.1 + q.2) % p := by
  rw [List.map_zip_eq_zipWith]
  rfl
theorem does__law_together : ∀ os P, sp__law_together os P → wb__law_together (start0 4 os) (endsOf os P) := by
  rintro os P ⟨d, l, m, base, rfl, hd, hb, k⟩
  rcases hd with rfl | rfl
  all_goals
    walk_at "tw"
    rw [zip_map2]
    refine lc_all _ (l.zip m) (fun q => .fz (.int ((q.1 + q.2) % base))) (fun q hq A B hA => ?_) ?_
    · walk_at "tw"
      refine ⟨rfl, fun _ => ?_, fun h => nomatch h⟩
      walk_at "tw"
      exact ⟨hb, hA⟩
    · intro b
      walk_at "tw"
      refine ⟨trivial, ?_⟩
      rw [frzL_mapfz]
      unfold row at k
      rw [together_eq, List.map_map] at k
      exact k
theorem does__law_row : ∀ os P, sp__law_row os P → wb__law_row (start0 7 os) (endsOf os P) := by
  rintro os P ⟨a, xs, w, base, rfl, hd, hw, hb, hb2, k⟩
  walk_at "tw"
  refine draw_i hd (by decide) (by decide) fun n ys h0 h1 hy => ⟨_, _, rfl, ?_⟩
  walk_at "tw"
  refine ⟨by show 0 ≤ sizeLine; decide, fun b => ?_⟩
  walk_at "tw"
  refine ⟨by omega, ?_⟩
  walk_at "tw"
  rw [Int.toNat_natCast]
  refine for_rng w (fun i ρ => ∃ ys l k num, DS ys ∧ l.length = i ∧ InR base l ∧ ρ = [some (.lst a ys), some (.fz (.int w)), some (.fz (.int base)), some (.fz (.int n)), some (.lst b (l.map fun x => .fz (.int x))), k, num]) ⟨ys, [], none, none, hy, rfl, (fun x hx => by cases hx), rfl⟩ ?_ ?_
  · rintro i ρ hi ⟨ys, l, kk, num, hy, hl, hr, rfl⟩ N hN
    walk_at "tw"
    refine draw_i hy (by omega) (by omega) fun n1 ys h10 h11 hy => ⟨_, _, rfl, ?_⟩
    walk_at "tw"
    refine ⟨by omega, ?_⟩
    refine draw_i hy (by omega) (by omega) fun n2 ys h20 h21 hy => ⟨_, _, rfl, ?_⟩
    walk_at "tw"
    refine ⟨by show 4 ≤ sizeLine; decide, fun c => ?_⟩
    walk_at "tw"
    refine draw_i hy (by omega) (by omega) fun n3 ys h30 h31 hy => ⟨_, _, rfl, ?_⟩
    walk_at "tw"
    refine ⟨.int ([n1, base - 1, 1 % base, n2][n3.toNat]'(by show n3.toNat < 4; omega)), atI_map D.int (xs := [n1, base - 1, 1 % base, n2]) h30 h31, ?_⟩
    have hx : 0 ≤ [n1, base - 1, 1 % base, n2][n3.toNat]'(by show n3.toNat < 4; omega) ∧ [n1, base - 1, 1 % base, n2][n3.toNat]'(by show n3.toNat < 4; omega) < base := by
      have := List.getElem_mem (l := [n1, base - 1, 1 % base, n2]) (show n3.toNat < 4 by omega)
      have e1 : 1 % base = 1 := Int.emod_eq_of_lt (by decide) (by omega)
      simp only [List.mem_cons, List.not_mem_nil, or_false] at this
      omega
    generalize [n1, base - 1, 1 % base, n2][n3.toNat]'(by show n3.toNat < 4; omega) = x at hx ⊢
    walk_at "tw"
    have fin : ∀ ys y, DS ys → 0 ≤ y → y < base → N [some (.lst a ys), some (.fz (.int w)), some (.fz (.int base)), some (.fz (.int n)), some (.lst b ((l.map fun x => .fz (.int x)) ++ [.fz (.int y)])), some (.fz (.int i)), some (.fz (.int x))] := fun ys y hy h1 h2 => by
      refine hN _ ⟨ys, l ++ [y], _, _, hy, by rw [List.length_append, hl]; rfl, fun z hz => ?_, by rw [List.map_append]; rfl⟩
      rcases List.mem_append.mp hz with h | h
      · exact hr z h
      · rw [List.mem_singleton.mp h]
        exact ⟨h1, h2⟩
    have lz : (l.map fun x => O.fz (.int x)).length < sizeLine := by
      rw [List.length_map]
      exact Nat.lt_of_le_of_lt (by omega : l.length ≤ 1000) (by decide)
    refine ⟨fun _ => ?_, fun _ => ?_⟩
    · walk_at "tw"
      refine ⟨fun _ => ?_, fun h => nomatch h⟩
      walk_at "tw"
      exact ⟨lz, fin _ _ hy hx.1 hx.2⟩
    · walk_at "tw"
      refine draw_i hy (by omega) (by omega) fun n4 ys h40 h41 hy => ⟨_, _, rfl, ?_⟩
      walk_at "tw"
      refine ⟨fun _ => ?_, fun _ => ?_⟩
      · walk_at "tw"
        exact ⟨lz, fin _ _ hy hx.1 hx.2⟩
      · walk_at "tw"
        exact ⟨lz, fin _ _ hy (by decide) (by omega)⟩
  · rintro ρ ⟨ys, l, kk, num, hy, hl, hr, rfl⟩
    walk_at "tw"
    refine ⟨⟨rfl, trivial⟩, ?_⟩
    rw [frzL_mapfz]
    exact k l ys hl hr hy

theorem row_eq (n : Nat) : EqM (n + 1) row := (eqM_int n).tup
theorem does__law_rows : ∀ os P, sp__law_rows os P → wb__law_rows (start0 8 os) (endsOf os P) := by
  rintro os P ⟨a, xs, w, base, many, rfl, hd, hw, hb, hb2, hm, k⟩
  walk_at "tw"
  refine ⟨by show 0 ≤ sizeLine; decide, fun b => ?_⟩
  walk_at "tw"
  refine ⟨by omega, ?_⟩
  walk_at "tw"
  rw [Int.toNat_natCast]
  refine for_rng many (fun i ρ => ∃ ys g k line way, DS ys ∧ g.length = i ∧ (∀ r ∈ g, r.length = w ∧ InR base r) ∧ ρ = [some (.lst a ys), some (.fz (.int w)), some (.fz (.int base)), some (.fz (.int many)), some (.lst b (g.map fun r => .fz (row r))), k, line, way]) ⟨xs, [], none, none, none, hd, rfl, (fun x hx => by cases hx), rfl⟩ ?_ ?_
  · rintro i ρ hi ⟨ys, g, kk, line, way, hy, hl, hr, rfl⟩ N hN
    have at_g : ∀ n : Int, 0 ≤ n → n < g.length → ∃ r, r ∈ g ∧ atI (g.map fun r => O.fz (row r)) n = some (.fz (row r)) := fun n h0 h1 => ⟨_, List.getElem_mem _, atI_map _ h0 h1⟩
    walk_at "tw"
    refine ⟨⟨a, ys, w, base, rfl, hy, hw, hb, hb2, fun l ys hll hlr hy => ⟨_, _, rfl, ?_⟩⟩⟩
    walk_at "tw"
    refine draw_i hy (by decide) (by decide) fun n ys h0 h1 hy => ⟨_, _, rfl, ?_⟩
    walk_at "tm"
    refine seq_mid (fun ρ => ∃ ys l, DS ys ∧ l.length = w ∧ InR base l ∧ ρ = [some (.lst a ys), some (.fz (.int w)), some (.fz (.int base)), some (.fz (.int many)), some (.lst b (g.map fun r => .fz (row r))), some (.fz (.int i)), some (.fz (row l)), some (.fz (.int n))]) (fun N1 hN1 => ?_) ?_
    · walk_at "tw"
      refine ⟨by show 0 ≤ sizeLine; decide, fun c => ?_⟩
      walk_at "tw"
      refine ⟨_, deq_lnil, ?_⟩
      walk_at "tw"
      refine ⟨fun hne => ?_, fun _ => ?_⟩
      · have hg : 0 < g.length := by
          rcases g with _ | ⟨r, g⟩
          · exact absurd hne Bool.false_ne_true
          · exact Nat.succ_pos _
        walk_at "tw"
        refine ⟨fun _ => ?_, fun _ => hN1 _ ⟨ys, l, hy, hll, hlr, rfl⟩⟩
        walk_at "tw"
        have lm : ((g.map row).length : Int) = g.length := by rw [List.length_map]
        refine ⟨g.map row, congrArg some (frzL_mapfz _ _), ?_⟩
        walk_at "tw"
        refine draw_i hy (by omega) (by omega) fun n1 ys h10 h11 hy => ⟨_, _, rfl, ?_⟩
        obtain ⟨r1, hr1, e1⟩ := at_g n1 h10 (by omega)
        walk_at "tw"
        refine ⟨n1, _, rfl, e1, ?_⟩
        walk_at "tw"
        refine draw_i hy (by omega) (by omega) fun n2 ys h20 h21 hy => ⟨_, _, rfl, ?_⟩
        walk_at "tw"
        refine ⟨⟨_, r1, n2, base, rfl, .inl rfl, by omega, by omega, h20, by omega, (hr r1 hr1).2, ?_⟩⟩
        walk_at "tw"
        refine ⟨g.map row, congrArg some (frzL_mapfz _ _), ?_⟩
        walk_at "tw"
        refine draw_i hy (by omega) (by omega) fun n3 ys h30 h31 hy => ⟨_, _, rfl, ?_⟩
        obtain ⟨r3, hr3, e3⟩ := at_g n3 h30 (by omega)
        walk_at "tw"
        refine ⟨n3, _, rfl, e3, ?_⟩
        walk_at "tw"
        refine ⟨⟨_, _, r3, base, rfl, .inl rfl, by omega, ?_⟩⟩
        refine hN1 _ ⟨ys, _, hy, ?_, ?_, rfl⟩
        · rw [together_eq, List.length_map, List.length_zip, times, List.length_map, (hr r1 hr1).1, (hr r3 hr3).1, Nat.min_self]
        · rw [together_eq]
          intro z hz
          obtain ⟨q, _, rfl⟩ := List.mem_map.mp hz
          exact ⟨Int.emod_nonneg _ (by omega), Int.emod_lt_of_pos _ (by omega)⟩
      · walk_at "tw"
        exact ⟨fun h => (nomatch h), fun _ => hN1 _ ⟨ys, l, hy, hll, hlr, rfl⟩⟩
    · rintro ρ ⟨ys, l, hy, hll, hlr, rfl⟩
      refine seq_mid (fun ρ => ∃ ys l, DS ys ∧ l.length = w ∧ InR base l ∧ ρ = [some (.lst a ys), some (.fz (.int w)), some (.fz (.int base)), some (.fz (.int many)), some (.lst b (g.map fun r => .fz (row r))), some (.fz (.int i)), some (.fz (row l)), some (.fz (.int n))]) (fun N1 hN1 => ?_) ?_
      · walk_at "tw"
        refine ⟨fun _ => ?_, fun _ => ?_⟩
        · walk_at "tw"
          refine ⟨by show 0 ≤ sizeLine; decide, fun c => ?_⟩
          walk_at "tw"
          refine ⟨_, deq_lnil, ?_⟩
          walk_at "tw"
          refine ⟨fun hne => ?_, fun _ => hN1 _ ⟨ys, l, hy, hll, hlr, rfl⟩⟩
          have hg : 0 < g.length := by
            rcases g with _ | ⟨r, g⟩
            · exact absurd hne Bool.false_ne_true
            · exact Nat.succ_pos _
          have lm : ((g.map row).length : Int) = g.length := by rw [List.length_map]
          walk_at "tw"
          refine ⟨g.map row, congrArg some (frzL_mapfz _ _), ?_⟩
          walk_at "tw"
          refine draw_i hy (by omega) (by omega) fun n1 ys h10 h11 hy => ⟨_, _, rfl, ?_⟩
          obtain ⟨r1, hr1, e1⟩ := at_g n1 h10 (by omega)
          walk_at "tw"
          refine ⟨n1, _, rfl, e1, ?_⟩
          exact hN1 _ ⟨ys, r1, hy, (hr r1 hr1).1, (hr r1 hr1).2, rfl⟩
        · walk_at "tw"
          exact ⟨fun h => (nomatch h), fun _ => hN1 _ ⟨ys, l, hy, hll, hlr, rfl⟩⟩
      · rintro ρ ⟨ys, l, hy, hll, hlr, rfl⟩
        walk_at "tw"
        refine ⟨by rw [List.length_map]; exact Nat.lt_of_le_of_lt (by omega : g.length ≤ 1000) (by decide), ?_⟩
        refine hN _ ⟨ys, g ++ [l], _, _, _, hy, by rw [List.length_append, hl]; rfl, fun r hr2 => ?_, by rw [List.map_append]; rfl⟩
        rcases List.mem_append.mp hr2 with h | h
        · exact hr r h
        · rw [List.mem_singleton.mp h]
          exact ⟨hll, hlr⟩
  · rintro ρ ⟨ys, g, kk, line, way, hy, hl, hr, rfl⟩
    walk_at "tw"
    refine ⟨⟨rfl, trivial⟩, ?_⟩
    rw [frzL_mapfz]
    exact k g ys hl hr hy

theorem prime_le {p : Int} (h : p ∈ primes) : 2 ≤ p ∧ p ≤ 1000 := by
  simp only [primes, List.mem_cons, List.not_mem_nil, or_false] at h
  omega
/-- what inverse does: at most 12 halvings -/
def invGo (p : Int) : Nat → Int → Int → Int → Int
  | 0, found, _, _ => found
  | k + 1, found, base, left => if 0 < left then invGo p k (if left % 2 = 1 then found * base % p else found) (base * base % p) (left / 2) else found
def invOk (p : Int) : Bool := (List.range p.toNat).all fun n => n == 0 || decide ((n : Int) * (invGo p 12 1 n (p - 2) % p) % p = 1)
theorem inv_ok : ∀ p ∈ primes, invOk p = true := by decide +kernel
theorem does_inverse : ∀ os P, sp_inverse os P → wb_inverse (start0 5 os) (endsOf os P) := by
  rintro os P ⟨n, p, rfl, hp, hn, hnp, k⟩
  obtain ⟨hp2, hp3⟩ := prime_le hp
  walk_at "tw"
  refine while_inv (fun j ρ => ∃ (i : Nat) (found base left : Int), j = i ∧ left < 2 ^ i ∧ 0 ≤ left ∧ 0 ≤ found ∧ found < 1000 ∧ 0 ≤ base ∧ base < 1000 ∧ i ≤ 12 ∧ invGo p i found base left = invGo p 12 1 n (p - 2) ∧ ρ = [some (.fz (.int n)), some (.fz (.int p)), some (.fz (.int found)), some (.fz (.int base)), some (.fz (.int left))]) (n := 12) ?_ ⟨12, 1, n, p - 2, rfl, by omega, by omega, by omega, by omega, by omega, by omega, by omega, rfl, rfl⟩
  rintro j ρ ⟨i, found, base, left, rfl, hl, hl0, hf0, hf1, hb0, hb1, hi, he, rfl⟩ N hN
  walk_at "tw"
  refine ⟨fun h => ?_, fun h => ?_⟩
  · have hpos : 0 < left := of_decide_eq_true h
    cases j with
    | zero => omega
    | succ i =>
      unfold invGo at he
      rw [if_pos hpos] at he
      have hl2 : left / 2 < 2 ^ i := by
        rw [Int.pow_succ] at hl
        omega
      have fin : ∀ f : Int, 0 ≤ f → f < 1000 → f = (if left % 2 = 1 then found * base % p else found) → N [some (.fz (.int n)), some (.fz (.int p)), some (.fz (.int f)), some (.fz (.int (base * base % p))), some (.fz (.int (left / 2)))] := fun f h0 h1 e => by
        refine hN i _ (Nat.lt_succ_self _) ⟨i, f, base * base % p, left / 2, rfl, hl2, by omega, h0, h1, Int.emod_nonneg _ (by omega), ?_, by omega, by rw [e]; exact he, rfl⟩
        have := Int.emod_lt_of_pos (base * base) (show 0 < p by omega)
        omega
      walk_at "tw"
      refine ⟨by decide, ?_⟩
      walk_at "tw"
      refine ⟨fun h2 => ?_, fun h2 => ?_⟩
      · have h2 : left % 2 = 1 := of_decide_eq_true h2
        walk_at "tw"
        refine ⟨cmul64 (by omega) (by omega) (by omega) (by omega), ?_⟩
        walk_at "tw"
        refine ⟨by omega, ?_⟩
        walk_at "tw"
        refine ⟨cmul64 (by omega) (by omega) (by omega) (by omega), ?_⟩
        walk_at "tw"
        refine ⟨by omega, ?_⟩
        walk_at "tw"
        refine ⟨cdiv64 (by decide) (by decide), ?_⟩
        refine fin _ (Int.emod_nonneg _ (by omega)) ?_ (by rw [if_pos h2])
        have := Int.emod_lt_of_pos (found * base) (show 0 < p by omega)
        omega
      · have h2 : ¬ left % 2 = 1 := of_decide_eq_false h2
        walk_at "tw"
        refine ⟨cmul64 (by omega) (by omega) (by omega) (by omega), ?_⟩
        walk_at "tw"
        refine ⟨by omega, ?_⟩
        walk_at "tw"
        refine ⟨cdiv64 (by decide) (by decide), ?_⟩
        exact fin _ hf0 hf1 (by rw [if_neg h2])
  · have hnot : ¬ 0 < left := of_decide_eq_false h
    have hfound : invGo p 12 1 n (p - 2) = found := by
      rw [← he]
      cases j with
      | zero => rfl
      | succ i => unfold invGo; rw [if_neg hnot]
    walk_at "tw"
    refine ⟨by omega, trivial, ?_⟩
    refine k (found % p) (Int.emod_nonneg _ (by omega)) (Int.emod_lt_of_pos _ (by omega)) ?_
    have ok := inv_ok p hp
    unfold invOk at ok
    rw [List.all_eq_true] at ok
    have := ok n.toNat (List.mem_range.mpr (by omega))
    rw [Bool.or_eq_true] at this
    rcases this with z | z
    · have : n.toNat = 0 := by simpa using z
      omega
    · have z := of_decide_eq_true z
      rwa [Int.toNat_of_nonneg (by omega), hfound] at z
theorem leadOf_snoc {l r : List Int} {x : Int} (h : ∀ y ∈ l, y = 0) : leadOf (l ++ x :: r) = if x = 0 then (leadOf r).map (· + (l.length + 1)) else some l.length := by
  induction l with
  | nil => rfl
  | cons a l ih =>
    have ha : a = 0 := h a List.mem_cons_self
    show (if a = 0 then (leadOf (l ++ x :: r)).map (· + 1) else some 0) = _
    rw [if_pos ha, ih fun y hy => h y (List.mem_cons_of_mem _ hy)]
    split
    · rw [Option.map_map]
      congr 1
    · rfl
theorem leadOf_none {l : List Int} : leadOf l = none ↔ ∀ k, l.getD k 0 = 0 := by
  induction l with
  | nil => simp [leadOf]
  | cons a l ih =>
    show (if a = 0 then (leadOf l).map (· + 1) else some 0) = none ↔ _
    constructor
    · intro h k
      split at h
      · rename_i e
        cases k with
        | zero => exact e
        | succ k => exact ih.mp (by simpa using h) k
      · cases h
    · intro h
      have h0 : a = 0 := h 0
      rw [if_pos h0, ih.mpr fun k => h (k + 1)]
      rfl
theorem leadOf_some {l : List Int} {k : Nat} (h : leadOf l = some k) : k < l.length ∧ l.getD k 0 ≠ 0 ∧ ∀ j, j < k → l.getD j 0 = 0 := by
  induction l generalizing k with
  | nil => cases h
  | cons a l ih =>
    have h : (if a = 0 then (leadOf l).map (· + 1) else some 0) = some k := h
    split at h
    · rename_i e
      obtain ⟨j, hj, rfl⟩ := Option.map_eq_some_iff.mp h
      obtain ⟨a1, a2, a3⟩ := ih hj
      refine ⟨by simpa using a1, a2, fun i hi => ?_⟩
      cases i with
      | zero => exact e
      | succ i => exact a3 i (by omega)
    · rename_i e
      cases h
      exact ⟨by simp, e, fun j hj => absurd hj (Nat.not_lt_zero _)⟩
theorem does_lead_of : ∀ os P, sp_lead_of os P → wb_lead_of (start0 3 os) (endsOf os P) := by
  rintro os P ⟨l, rfl, k⟩
  walk_at "tw"
  rw [enum_map]
  refine for_map0 (fun q : Int × Nat => .tup [.int q.2, .int q.1]) l.zipIdx (fun pre ρ => (∀ q ∈ pre, q.1 = 0) ∧ ∃ a b, ρ = [some (.fz (row l)), a, b]) ⟨(fun q hq => by cases hq), none, none, rfl⟩ ?_ ?_
  · rintro pre ⟨x, i⟩ post ρ hm ⟨hz, a, b, rfl⟩ N hN
    obtain ⟨hi, hx⟩ := zipIdx_at hm
    replace hi : i = pre.length := hi
    subst hi
    have el : l = pre.map (·.1) ++ x :: post.map (·.1) := by
      have := congrArg (List.map Prod.fst) hm
      rw [List.map_append, List.map_cons, List.zipIdx_map_fst] at this
      exact this
    walk_at "tw"
    refine ⟨rfl, ?_⟩
    walk_at "tw"
    refine ⟨fun h => ?_, fun h => ?_⟩
    · have h : (!decide (x = 0)) = true := h
      have hx : ¬ x = 0 := by simpa using h
      walk_at "tw"
      refine ⟨trivial, ?_⟩
      have e : leadOf l = some pre.length := by
        rw [el, leadOf_snoc (fun y hy => by obtain ⟨q, hq, rfl⟩ := List.mem_map.mp hy; exact hz q hq), if_neg hx, List.length_map]
      rw [e] at k
      exact k
    · have h : (!decide (x = 0)) = false := h
      have hx : x = 0 := by simpa using h
      refine hN _ ⟨fun q hq => ?_, _, _, rfl⟩
      rcases List.mem_append.mp hq with m | m
      · exact hz q m
      · rw [List.mem_singleton.mp m]; exact hx
  · rintro ρ ⟨hz, a, b, rfl⟩
    walk_at "tw"
    refine ⟨trivial, ?_⟩
    have e : leadOf l = none := leadOf_none.mpr fun j => by
      rw [List.getD_eq_getElem?_getD]
      cases q : l[j]? with
      | none => rfl
      | some y =>
        have := hz (y, j) (by
          have : l.zipIdx[j]? = some (y, j) := by rw [List.getElem?_zipIdx, q]; simp
          exact List.mem_of_getElem? this)
        exact this
    rw [e] at k
    exact k
theorem does_times_row : ∀ os P, sp_times_row os P → wb_times_row (start0 4 os) (endsOf os P) := by
  rintro os P ⟨l, n, base, rfl, hb, hb2, hn, hn2, hl, k⟩
  walk_at "tw"
  refine lc_all D.int l (fun x => .fz (.int (x * n % base))) (fun x hx A B hA => ?_) ?_
  · refine ⟨fun _ => ?_, fun h => nomatch h⟩
    walk_at "tw"
    have := hl x hx
    exact ⟨cmul64 (by omega) (by omega) (by omega) (by omega), hb, hA⟩
  · intro b
    walk_at "tw"
    refine ⟨trivial, ?_⟩
    rw [frzL_mapfz]
    unfold row times at k
    rw [List.map_map] at k
    exact k
theorem less_eq (l m : List Int) (n p : Int) : less l m n p = (l.zip m).map fun q => (q.1 - n * q.2) % p := by
  rw [List.map_zip_eq_zipWith]
  rfl
theorem does_less_row : ∀ os P, sp_less_row os P → wb_less_row (start0 6 os) (endsOf os P) := by
  rintro os P ⟨l, m, n, base, rfl, hb, hb2, hn, hn2, hl, hm, k⟩
  walk_at "tw"
  rw [zip_map2]
  refine lc_all _ (l.zip m) (fun q => .fz (.int ((q.1 - n * q.2) % base))) (fun q hq A B hA => ?_) ?_
  · have h2 := hm _ (zip_in hq).2
    walk_at "tw"
    refine ⟨rfl, fun _ => ?_, fun h => nomatch h⟩
    walk_at "tw"
    exact ⟨cmul64 (by omega) (by omega) (by omega) (by omega), hb, hA⟩
  · intro b
    walk_at "tw"
    refine ⟨trivial, ?_⟩
    rw [frzL_mapfz]
    unfold row at k
    rw [less_eq, List.map_map] at k
    exact k

theorem row_at {z : List Int} {k : Nat} (h : k < z.length) : atI (z.map D.int) (k : Int) = some (.int (z.getD k 0)) := by
  rw [atI_map D.int (by omega) (by omega)]
  simp [List.getD_eq_getElem?_getD, List.getElem?_eq_getElem h]
theorem does_cleared : ∀ os P, sp_cleared os P → wb_cleared (start0 5 os) (endsOf os P) := by
  rintro os P ⟨B, z, p, w, rfl, hp, hp2, R, hz, k⟩
  walk_at "tw"
  refine for_map0 pr B (fun pre ρ => Vec p w (clr p pre z) ∧ ∃ a b, ρ = [some (.fz (.lst (B.map pr))), some (.fz (row (clr p pre z))), some (.fz (.int p)), a, b]) ⟨hz, none, none, rfl⟩ ?_ ?_
  · rintro pre q post ρ hm ⟨hv, a, b, rfl⟩ N hN
    have hq : q ∈ B := by rw [hm]; exact List.mem_append_right _ List.mem_cons_self
    have hlt : q.1 < (clr p pre z).length := by rw [hv.1]; exact R.lt q hq
    have hb := inR_get (show 0 < p by omega) hv.2 q.1
    have e1 : clr p (pre ++ [q]) z = clr1 p (clr p pre z) q := by
      unfold clr
      rw [List.foldl_append]
      rfl
    have fin : ∀ y, y = clr1 p (clr p pre z) q → N [some (.fz (.lst (B.map pr))), some (.fz (row y)), some (.fz (.int p)), some (.fz (.int q.1)), some (.fz (row q.2))] := fun y hy => by
      refine hN _ ⟨?_, _, _, by rw [hy, ← e1]⟩
      rw [e1]
      exact clr1_vec hp hv (R.len q hq)
    walk_at "tw"
    refine ⟨rfl, ?_⟩
    walk_at "tw"
    refine ⟨_, row_at hlt, ?_⟩
    walk_at "tw"
    refine ⟨fun h => ?_, fun h => ?_⟩
    · have h : (!decide ((clr p pre z).getD q.1 0 = 0)) = true := h
      have h : (clr p pre z).getD q.1 0 ≠ 0 := by
        intro e
        rw [e] at h
        simp at h
      walk_at "tw"
      refine ⟨_, row_at hlt, ?_⟩
      walk_at "tw"
      refine ⟨⟨_, q.2, _, p, rfl, by omega, by omega, hb.1, hb.2, hv.2, R.rng q hq, ?_⟩⟩
      refine fin _ ?_
      unfold clr1
      rw [if_pos h]
    · have h : (!decide ((clr p pre z).getD q.1 0 = 0)) = false := h
      have h : (clr p pre z).getD q.1 0 = 0 := by
        rw [Bool.not_eq_false'] at h
        exact of_decide_eq_true h
      refine fin _ ?_
      unfold clr1
      rw [if_neg (by rw [h]; simp)]
  · rintro ρ ⟨hv, a, b, rfl⟩
    walk_at "tw"
    exact ⟨trivial, k⟩
theorem pr_fst (q : Nat × List Int) : (pr q).fst = q.1 := rfl
theorem does_laid_in : ∀ os P, sp_laid_in os P → wb_laid_in (start0 7 os) (endsOf os P) := by
  rintro os P ⟨B, z, p, w, rfl, hp, R, hz, hB, k⟩
  obtain ⟨hp2, hp3⟩ := prime_le hp
  have C := clrd (show 1 < p by omega) R hz
  walk_at "tw"
  refine ⟨⟨B, z, p, w, rfl, by omega, by omega, R, hz, ?_⟩⟩
  walk_at "tw"
  refine ⟨⟨_, rfl, ?_⟩⟩
  cases hl : leadOf (clr p B z) with
  | none =>
    walk_at "tw"
    refine ⟨fun _ => ?_, fun h => nomatch h⟩
    walk_at "tw"
    refine ⟨trivial, ?_⟩
    refine k _ B (.inl rfl) R (Nat.le_succ _) fun x hx => ⟨fun h => ⟨h, ?_⟩, fun h => h.1⟩
    rw [← C.dot x h, dot_zero (leadOf_none.mp hl)]; simp
  | some lead =>
    obtain ⟨h1, h2, h3⟩ := leadOf_some hl
    have hlw : lead < w := by rw [← C.vec.1]; exact h1
    have hb := inR_get (show 0 < p by omega) C.vec.2 lead
    walk_at "tw"
    refine ⟨fun h => (nomatch h), fun _ => ?_⟩
    walk_at "tw"
    refine ⟨_, row_at h1, ?_⟩
    walk_at "tw"
    refine ⟨⟨_, p, rfl, hp, by omega, hb.2, fun iv hi0 hi1 hiv => ?_⟩⟩
    walk_at "tw"
    refine ⟨⟨_, iv, p, rfl, by omega, by omega, hi0, hi1, C.vec.2, ?_⟩⟩
    have rl : (times iv p (clr p B z)).length = w := by rw [times_len]; exact C.vec.1
    have rr : InR p (times iv p (clr p B z)) := times_in (by omega)
    walk_at "tw"
    refine lc_all pr B (fun q => .fz (pr (q.1, less q.2 (times iv p (clr p B z)) (q.2.getD lead 0) p))) (fun q hq A Bb hA => ?_) ?_
    · have hbq := inR_get (show 0 < p by omega) (R.rng q hq) lead
      walk_at "tw"
      refine ⟨rfl, fun _ => ?_, fun h => nomatch h⟩
      walk_at "tw"
      refine ⟨_, row_at (by rw [R.len q hq]; exact hlw), ?_⟩
      walk_at "tw"
      refine ⟨⟨q.2, _, _, p, rfl, by omega, by omega, hbq.1, hbq.2, R.rng q hq, rr, ?_⟩⟩
      walk_at "tw"
      exact ⟨by show 2 ≤ sizeLine; decide, hA⟩
    intro a
    walk_at "tw"
    refine ⟨by show 2 ≤ sizeLine; decide, by show 1 ≤ sizeLine; decide, fun b => ?_⟩
    walk_at "tw"
    have ek : B.map (fun q => pr (q.1, less q.2 (times iv p (clr p B z)) (q.2.getD lead 0) p)) = (kept p (times iv p (clr p B z)) lead B).map pr := by
      unfold kept
      rw [List.map_map]
      rfl
    rw [frzL_mapfz, ek]
    have eall : (kept p (times iv p (clr p B z)) lead B).map pr ++ O.frzL [O.fz (.tup [leadD (some lead), row (times iv p (clr p B z))])] = (kept p (times iv p (clr p B z)) lead B ++ [(lead, times iv p (clr p B z))]).map pr := by
      rw [List.map_append]
      rfl
    have hne : ∀ q ∈ B, q.1 ≠ lead := fun q hq e => h2 (by rw [← e]; exact C.nought q hq)
    have hnd : ((kept p (times iv p (clr p B z)) lead B ++ [(lead, times iv p (clr p B z))]).map (·.1)).Nodup := by
      rw [List.map_append]
      refine List.nodup_append.mpr ⟨?_, by simp, fun a ha b hb e => ?_⟩
      · unfold kept
        rw [List.map_map]
        exact List.Pairwise.map _ (fun a b (h : a.1 < b.1) => Nat.ne_of_lt h) R.srt
      · have hb : b = lead := by simpa using hb
        obtain ⟨q, hq, rfl⟩ := List.mem_map.mp ha
        obtain ⟨q', hq', rfl⟩ := List.mem_map.mp hq
        exact hne q' hq' (e.trans hb)
    refine ⟨?_, fun a2 => ?_⟩
    · rw [List.length_map, kept, List.length_map]
      exact Nat.le_trans (show B.length + 1 ≤ 2000 by omega) (by decide)
    walk_at "tw"
    rw [O.frzL_map, eall]
    refine ⟨fun d hd => ?_, ?_, fun a3 es pm ps => ?_⟩
    · obtain ⟨q, _, rfl⟩ := List.mem_map.mp hd
      exact ⟨_, _, rfl⟩
    · rw [List.map_map]
      have : (D.fst ∘ pr) = fun q : Nat × List Int => (q.1 : Int) := rfl
      rw [this]
      have h4 := List.Pairwise.map (S := fun a b : Int => a ≠ b) (fun n : Nat => (n : Int)) (fun a b (h : a ≠ b) => fun e => h (Int.ofNat.inj e)) hnd
      rwa [List.map_map] at h4
    · obtain ⟨es', pm', rfl⟩ := perm_lift pr pm rfl
      rw [List.pairwise_map] at ps
      have ps' : es'.Pairwise fun a b => a.1 ≤ b.1 := ps.imp fun {a b} h => by
        have h : (a.1 : Int) ≤ b.1 := h
        omega
      obtain ⟨R', hn⟩ := lay_rref (show 1 < p by omega) R C.vec C.nought hlw h3 hiv pm' ps'
      refine ⟨trivial, ?_⟩
      refine k _ es' (.inr ⟨a3, rfl⟩) R' ?_ fun x hx => ?_
      · rw [pm'.length_eq, List.length_append, kept, List.length_map]
        exact Nat.le_refl _
      · rw [hn x]
        exact ⟨fun h => ⟨h.1, by rw [← C.dot x h.1]; exact h.2⟩, fun h => ⟨h.1, by rw [C.dot x h.1]; exact h.2⟩⟩

theorem nul_snoc {p : Int} {rs : List (List Int)} {r x : List Int} : nul p (rs ++ [r]) x ↔ nul p rs x ∧ dot r x % p = 0 := by
  unfold nul
  constructor
  · intro h
    exact ⟨fun s hs => h s (List.mem_append_left _ hs), h r (List.mem_append_right _ List.mem_cons_self)⟩
  · rintro ⟨h1, h2⟩ s hs
    rcases List.mem_append.mp hs with m | m
    · exact h1 s m
    · rw [List.mem_singleton.mp m]; exact h2
theorem does_laid_out : ∀ os P, sp_laid_out os P → wb_laid_out (start0 4 os) (endsOf os P) := by
  rintro os P ⟨d, rs, p, w, rfl, hd, hp, hr, hl, k⟩
  have main : ∀ a : Addr, wForL (gN 3) (wSet 2 (wCall sp_laid_in (wCons (wVar 2) (wCons (wFrz (wO1 semTuple (wVar 3))) (wCons (wVar 1) wNil))))) (rs.map row) [some (.fz d), some (.fz (.int p)), some (.lst a []), none]
      ((endsOf [.fz d, .fz (.int p)] P).on fun ρ' => wRetV 2 ρ' (endsOf [.fz d, .fz (.int p)] P)) := fun a => by
    refine for_map0 row rs (fun pre ρ => ∃ o B r, isPrs o B ∧ Rref p w B ∧ B.length ≤ pre.length ∧ (∀ x, Vec p w x → (nul p (rowsOf B) x ↔ nul p pre x)) ∧ ρ = [some (.fz d), some (.fz (.int p)), some o, r]) ⟨_, [], none, .inr ⟨a, rfl⟩, rref_nil, Nat.le_refl _, fun x _ => ⟨fun _ _ h => (by cases h), fun _ _ h => (by cases h)⟩, rfl⟩ ?_ ?_
    · rintro pre r post ρ hm ⟨o, B, r0, ho, R, hB, hn, rfl⟩ N hN
      have hr' := hr r (by rw [hm]; exact List.mem_append_right _ List.mem_cons_self)
      have hpl : pre.length ≤ rs.length := by rw [hm, List.length_append]; omega
      have fin : ∀ (o2 : O) (B' : Bs), isPrs o2 B' → Rref p w B' → B'.length ≤ B.length + 1 → (∀ x, Vec p w x → (nul p (rowsOf B') x ↔ nul p (rowsOf B) x ∧ dot r x % p = 0)) → N [some (.fz d), some (.fz (.int p)), some o2, some (.fz (row r))] := fun o2 B' h1 h2 h3 h4 => by
        refine hN _ ⟨o2, B', _, h1, h2, by rw [List.length_append]; show _ ≤ pre.length + 1; omega, fun x hx => ?_, rfl⟩
        rw [h4 x hx, hn x hx, nul_snoc]
      rcases ho with rfl | ⟨a2, rfl⟩
      · walk_at "tw"
        exact ⟨⟨B, r, p, w, rfl, hp, R, hr', by omega, fin⟩⟩
      · walk_at "tw"
        rw [O.frzL_map]
        exact ⟨⟨B, r, p, w, rfl, hp, R, hr', by omega, fin⟩⟩
    · rintro ρ ⟨o, B, r0, ho, R, hB, hn, rfl⟩
      walk_at "tw"
      exact ⟨trivial, k o B ho R hB hn⟩
  rcases hd with rfl | rfl
  · walk_at "tw"
    refine ⟨by show 0 ≤ sizeLine; decide, fun a => ?_⟩
    walk_at "tw"
    exact main a
  · walk_at "tw"
    refine ⟨by show 0 ≤ sizeLine; decide, fun a => ?_⟩
    walk_at "tw"
    exact main a
theorem does_reduced : ∀ os P, sp_reduced os P → wb_reduced (start0 4 os) (endsOf os P) := by
  rintro os P ⟨d, rs, p, w, rfl, hd, hp, hr, hl, k⟩
  walk_at "tw"
  refine ⟨⟨d, rs, p, w, rfl, hd, hp, hr, hl, fun o B ho R hB hn => ?_⟩⟩
  have fin := k B R hB hn
  rcases ho with rfl | ⟨a2, rfl⟩
  · walk_at "tw"
    refine lc_all pr B (fun q => .fz (row q.2)) (fun q hq A Bb hA => ?_) ?_
    · walk_at "tw"
      exact ⟨rfl, fun _ => hA, fun h => nomatch h⟩
    · intro b
      walk_at "tw"
      refine ⟨trivial, ?_⟩
      rw [frzL_mapfz]
      unfold grid rowsOf at fin
      rw [List.map_map] at fin
      exact fin
  · walk_at "tw"
    rw [O.frzL_map]
    refine lc_all pr B (fun q => .fz (row q.2)) (fun q hq A Bb hA => ?_) ?_
    · walk_at "tw"
      exact ⟨rfl, fun _ => hA, fun h => nomatch h⟩
    · intro b
      walk_at "tw"
      refine ⟨trivial, ?_⟩
      rw [frzL_mapfz]
      unfold grid rowsOf at fin
      rw [List.map_map] at fin
      exact fin
theorem grid_app (g h : List (List Int)) : D.tup (g.map row ++ h.map row) = grid (g ++ h) := by
  unfold grid
  rw [List.map_append]
theorem rowsOf_vec {p : Int} {w : Nat} {B : Bs} (R : Rref p w B) : ∀ r ∈ rowsOf B, Vec p w r := fun r hr => by
  obtain ⟨q, hq, rfl⟩ := List.mem_map.mp hr
  exact ⟨R.len q hq, R.rng q hq⟩
theorem rowsOf_len (B : Bs) : (rowsOf B).length = B.length := by unfold rowsOf; rw [List.length_map]
theorem does_follows : ∀ os P, sp_follows os P → wb_follows (start0 3 os) (endsOf os P) := by
  rintro os P ⟨d, rs, z, p, w, rfl, hd, hp, hr, hz, hl, k⟩
  obtain ⟨hp2, hp3⟩ := prime_le hp
  walk_at "tw"
  refine ⟨⟨d, rs, p, w, rfl, hd, hp, hr, hl, fun o B ho R hB hn => ?_⟩⟩
  have C := clrd (show 1 < p by omega) R hz
  have fin : ∀ b : Bool, (b = true ↔ leadOf (clr p B z) = none) → P (.fz (.bl b)) [.fz d, .fz (row z), .fz (.int p)] := fun b hb => by
    refine k b (hb.trans ?_)
    rw [leadOf_none]
    have e := clr_zero_iff (show 1 < p by omega) R hz
    constructor
    · intro h x hx hxn
      exact e.mp (fun j _ => h j) x hx ((hn x hx).mpr hxn)
    · intro h j
      by_cases hj : j < w
      · exact e.mpr (fun x hx hxn => h x hx ((hn x hx).mp hxn)) j hj
      · rw [List.getD_eq_getElem?_getD, List.getElem?_eq_none (by rw [C.vec.1]; omega)]; rfl
  have tail : ∀ o : Option Nat, leadOf (clr p B z) = o → semIs false (leadD o) .non fun u => P (.fz u) [.fz d, .fz (row z), .fz (.int p)] := fun o e => by
    cases o with
    | none => exact fin _ ⟨fun _ => e, fun _ => rfl⟩
    | some j => exact fin _ ⟨fun h => (nomatch h), fun h => (by rw [e] at h; cases h)⟩
  rcases ho with rfl | ⟨a2, rfl⟩
  · walk_at "tw"
    refine ⟨⟨B, z, p, w, rfl, by omega, by omega, R, hz, ?_⟩⟩
    walk_at "tw"
    refine ⟨⟨_, rfl, ?_⟩⟩
    have t := tail _ rfl
    cases hlo : leadOf (clr p B z) with
    | none =>
      rw [hlo] at t
      walk_at "tw"
      exact ⟨trivial, t⟩
    | some j =>
      rw [hlo] at t
      walk_at "tw"
      exact ⟨trivial, t⟩
  · walk_at "tw"
    rw [O.frzL_map]
    refine ⟨⟨B, z, p, w, rfl, by omega, by omega, R, hz, ?_⟩⟩
    walk_at "tw"
    refine ⟨⟨_, rfl, ?_⟩⟩
    have t := tail _ rfl
    cases hlo : leadOf (clr p B z) with
    | none =>
      rw [hlo] at t
      walk_at "tw"
      exact ⟨trivial, t⟩
    | some j =>
      rw [hlo] at t
      walk_at "tw"
      exact ⟨trivial, t⟩
theorem flat_zero (n : Nat) : (List.replicate n (O.frzL [O.fz (D.int 0)])).flatten.map O.fz = (List.replicate n (0 : Int)).map fun x => .fz (.int x) := by
  show (List.replicate n [D.int 0]).flatten.map O.fz = _
  induction n with
  | zero => rfl
  | succ n ih =>
    rw [List.replicate_succ, List.flatten_cons, List.map_append, ih, List.replicate_succ]
    rfl
theorem map_setI (x : List Int) (j : Nat) (v : Int) : (x.map fun x => O.fz (.int x)).set j (.fz (.int v)) = (x.set j v).map fun x => O.fz (.int x) := by
  rw [List.map_set]
theorem does_null_for : ∀ os P, sp_null_for os P → wb_null_for (start0 7 os) (endsOf os P) := by
  rintro os P ⟨B, j, w, p, rfl, hp, hp2, hj, hw, R, k⟩
  walk_at "tw"
  refine ⟨by show 1 ≤ sizeLine; decide, fun a => ?_⟩
  walk_at "tw"
  refine ⟨by omega, by omega, ?_, fun b => ?_⟩
  · show 1 * w ≤ sizeLine
    rw [Nat.one_mul]
    exact Nat.le_trans hw (by decide)
  walk_at "tw"
  refine ⟨j, j, rfl, ?_, ?_⟩
  · rw [show ((w : Int)).toNat = w from rfl, flat_zero, List.length_map, List.length_replicate, ixN_in (by omega) (by omega)]
    rfl
  rw [show ((w : Int)).toNat = w from rfl, flat_zero, map_setI]
  walk_at "tw"
  refine for_map0 pr B (fun pre ρ => ∃ x y, ρ = [some (.fz (.lst (B.map pr))), some (.fz (.int j)), some (.fz (.int w)), some (.fz (.int p)), some (.lst b ((nullGo p j pre ((List.replicate w 0).set j 1)).map fun x => .fz (.int x))), x, y]) ⟨none, none, rfl⟩ ?_ ?_
  · rintro pre q post ρ hm ⟨x, y, rfl⟩ N hN
    have hq : q ∈ B := by rw [hm]; exact List.mem_append_right _ List.mem_cons_self
    have hlw := R.lt q hq
    have ln : (nullGo p j pre ((List.replicate w 0).set j 1)).length = w := by rw [nullGo_len]; simp
    walk_at "tw"
    refine ⟨rfl, ?_⟩
    walk_at "tw"
    refine ⟨_, row_at (by rw [R.len q hq]; exact hj), ?_⟩
    walk_at "tw"
    refine ⟨by omega, ?_⟩
    walk_at "tw"
    refine ⟨q.1, q.1, rfl, ?_, ?_⟩
    · rw [List.length_map, ln, ixN_in (by omega) (by omega)]
      rfl
    rw [map_setI]
    refine hN _ ⟨some (.fz (.int q.1)), some (.fz (row q.2)), ?_⟩
    have e : nullGo p j (pre ++ [q]) ((List.replicate w 0).set j 1) = (nullGo p j pre ((List.replicate w 0).set j 1)).set q.1 ((0 - q.2.getD j 0) % p) := by
      unfold nullGo
      rw [List.foldl_append]
      rfl
    rw [e]
  · rintro ρ ⟨x, y, rfl⟩
    walk_at "tw"
    refine ⟨trivial, ?_⟩
    rw [frzL_mapfz]
    exact k

def isLead (k : Nat) (B : Bs) : Bool := B.any fun q => q.1 == k
theorem isLead_no {k : Nat} {B : Bs} : isLead k B = false ↔ notLead k B := by
  unfold isLead notLead
  rw [List.any_eq_false]
  simp
theorem ints_flat {α : Type} (f : α → Int) (l : List α) : (l.map fun x => D.int (f x)).all D.flat = true := by
  rw [List.all_map, List.all_eq_true]
  intro x _
  rfl
theorem ints_any {α : Type} (f : α → Int) (l : List α) (k : Int) : (l.map fun x => D.int (f x)).any (fun z => eqV z.v (D.int k).v) = l.any fun x => f x == k := by
  rw [List.any_map]
  rfl
theorem leads_any (k : Nat) (B : Bs) : (B.any fun q => (q.1 : Int) == (k : Int)) = isLead k B := by
  unfold isLead
  congr 1
  funext q
  rw [Bool.eq_iff_iff]
  simp
  omega
def nullRows (p : Int) (w : Nat) (B : Bs) : List (List Int) := ((List.range w).filter fun k => !isLead k B).map fun k => nullFor p w k B
theorem nullRows_fm (p : Int) (w : Nat) (B : Bs) : ((List.range w).filterMap fun k => if isLead k B = true then none else some (O.fz (row (nullFor p w k B)))) = (nullRows p w B).map fun r => O.fz (row r) := by
  unfold nullRows
  rw [List.map_map]
  induction List.range w with
  | nil => rfl
  | cons k l ih =>
    rw [List.filterMap_cons, List.filter_cons]
    cases h : isLead k B with
    | true => simpa using ih
    | false =>
      simp only [Bool.not_false, if_true, Bool.false_eq_true, if_false, List.map_cons]
      rw [ih]
      rfl
theorem nullRows_nul {p : Int} (hp : 1 < p) {w : Nat} {B : Bs} (R : Rref p w B) {x : List Int} (hx : Vec p w x) : nul p (nullRows p w B) x ↔ perp p w (nul p (rowsOf B)) x := by
  rw [show perp p w (nul p (rowsOf B)) x ↔ ∀ y, Vec p w y → nul p (rowsOf B) y → dot x y % p = 0 from Iff.rfl, ← perp_iff hp R hx]
  unfold nul nullRows
  constructor
  · intro h k hk hn
    exact h _ (List.mem_map.mpr ⟨k, List.mem_filter.mpr ⟨List.mem_range.mpr hk, by rw [isLead_no.mpr hn]; rfl⟩, rfl⟩)
  · intro h r hr
    obtain ⟨k, hk, rfl⟩ := List.mem_map.mp hr
    obtain ⟨h1, h2⟩ := List.mem_filter.mp hk
    exact h k (List.mem_range.mp h1) (isLead_no.mp (by simpa using h2))
theorem does_nulls_of : ∀ os P, sp_nulls_of os P → wb_nulls_of (start0 8 os) (endsOf os P) := by
  rintro os P ⟨d, rs, w, p, rfl, hd, hp, hr, hl, hw, k⟩
  obtain ⟨hp2, hp3⟩ := prime_le hp
  walk_at "tw"
  refine ⟨⟨d, rs, p, w, rfl, hd, hp, hr, hl, fun o B ho R hB hn => ?_⟩⟩
  rcases ho with rfl | ⟨a2, rfl⟩
  all_goals
    walk_at "tw"
    try rw [O.frzL_map]
    refine lc_all pr B (fun q => .fz (.int q.1)) (fun q hq A Bb hA => ?_) ?_
    · walk_at "tw"
      exact ⟨rfl, fun _ => hA, fun h => nomatch h⟩
    intro b
    walk_at "tw"
    refine ⟨by omega, ?_⟩
    rw [Int.toNat_natCast]
    refine lc_mapA (fun k : Nat => D.int k) (List.range w) (fun k => if isLead k B = true then none else some (O.fz (row (nullFor p w k B)))) (fun k hk A Bb hA hB => ?_) ?_
    · have hk := List.mem_range.mp hk
      walk_at "tw"
      refine ⟨B.map fun q => .int q.1, congrArg some (frzL_mapfz (fun q : Nat × List Int => D.int q.1) B), rfl, ints_flat (fun q : Nat × List Int => (q.1 : Int)) B, ?_⟩
      rw [ints_any (fun q : Nat × List Int => (q.1 : Int)), leads_any]
      cases hlk : isLead k B with
      | true =>
        walk_at "tw"
        exact ⟨fun h => (nomatch h), fun _ => hB (by rw [if_pos hlk])⟩
      | false =>
        walk_at "tw"
        refine ⟨fun _ => ?_, fun h => nomatch h⟩
        walk_at "tw"
        exact ⟨⟨B, k, w, p, rfl, by omega, hp3, hk, by omega, R, hA _ (by rw [if_neg (by rw [hlk]; exact Bool.false_ne_true)])⟩⟩
    intro c
    walk_at "tw"
    rw [nullRows_fm, frzL_mapfz]
    refine ⟨⟨_, nullRows p w B, p, w, rfl, .inr rfl, hp, fun r hr => ?_, ?_, fun C RC hC hnC => ?_⟩⟩
    · unfold nullRows at hr
      obtain ⟨k, _, rfl⟩ := List.mem_map.mp hr
      exact nullFor_vec (by omega)
    · unfold nullRows
      rw [List.length_map]
      refine Nat.le_trans (List.length_filter_le _ _) ?_
      rw [List.length_range]
      omega
    · walk_at "tw"
      refine ⟨trivial, k C RC (rref_len RC) fun x hx => ?_⟩
      rw [hnC x hx, nullRows_nul (by omega) R hx]
      exact perp_congr (fun y hy => hn y hy) x
theorem does_common : ∀ os P, sp_common os P → wb_common (start0 4 os) (endsOf os P) := by
  rintro os P ⟨d, rs, e, ts, w, p, rfl, hd, he, hp, hr, ht, hl, hl2, hw, k⟩
  walk_at "tw"
  refine ⟨⟨d, rs, w, p, rfl, hd, hp, hr, hl, hw, fun C RC hC hnC => ?_⟩⟩
  walk_at "tw"
  refine ⟨⟨e, ts, w, p, rfl, he, hp, ht, hl2, hw, fun C2 RC2 hC2 hnC2 => ?_⟩⟩
  walk_at "tw"
  refine ⟨?_, ?_⟩
  · rw [List.length_map, List.length_map, rowsOf_len, rowsOf_len]
    exact Nat.le_trans (show _ ≤ 1000 by omega) (by decide)
  walk_at "tw"
  refine ⟨⟨_, rowsOf C ++ rowsOf C2, w, p, rfl, .inl (by rw [List.map_append]), hp, fun r hr => ?_, ?_, hw, fun C3 RC3 hC3 hnC3 => ?_⟩⟩
  · rcases List.mem_append.mp hr with m | m
    · exact rowsOf_vec RC r m
    · exact rowsOf_vec RC2 r m
  · rw [List.length_append, rowsOf_len, rowsOf_len]; omega
  · walk_at "tw"
    refine ⟨trivial, k C3 RC3 hC3 fun x hx => ?_⟩
    rw [hnC3 x hx]
    refine perp_congr (fun y hy => ?_) x
    rw [nul_append, hnC y hy, hnC2 y hy]
/-- a comprehension whose names change at its first round -/
theorem lc_all2 {α : Type} {g : WG} {we : WO} {own : List Nat} {P : List O → TEnv → Prop} {ρ1 ρ2 : TEnv} (c : α → D) (ms : List α) (f : α → O)
    (step1 : ∀ m ∈ ms, ∀ (A : O → TEnv → Prop) (B : TEnv → Prop), A (f m) ρ2 → g (c m) ρ1 fun ρ1 => wYes ρ1 fun b ρ2 => br b (we ρ2 fun o ρ3 => A o (wipeE ρ3 own)) (B (wipeE ρ2 own)))
    (step2 : ∀ m ∈ ms, ∀ (A : O → TEnv → Prop) (B : TEnv → Prop), A (f m) ρ2 → g (c m) ρ2 fun ρ1 => wYes ρ1 fun b ρ2 => br b (we ρ2 fun o ρ3 => A o (wipeE ρ3 own)) (B (wipeE ρ2 own)))
    (fin1 : ms = [] → P [] ρ1) (fin2 : P (ms.map f) ρ2) : wLcL g wYes we own (ms.map c) ρ1 [] P := by
  cases ms with
  | nil => exact fin1 rfl
  | cons m ms =>
    have go : ∀ (rest done : List α), (∀ m ∈ rest, m ∈ (m :: ms) ∨ m ∈ ms ∨ True) → (∀ m' ∈ rest, ∀ (A : O → TEnv → Prop) (B : TEnv → Prop), A (f m') ρ2 → g (c m') ρ2 fun ρ1 => wYes ρ1 fun b ρ2 => br b (we ρ2 fun o ρ3 => A o (wipeE ρ3 own)) (B (wipeE ρ2 own))) → P ((done ++ rest).map f) ρ2 → wLcL g wYes we own (rest.map c) ρ2 (done.map f) P := by
      intro rest
      induction rest with
      | nil => intro done _ _ h; rwa [List.append_nil] at h
      | cons r rest ih =>
        intro done _ hst h
        refine hst r List.mem_cons_self (fun o ρ' => wLcL g wYes we own (rest.map c) ρ' (done.map f ++ [o]) P) (fun ρ' => wLcL g wYes we own (rest.map c) ρ' (done.map f) P) ?_
        have := ih (done ++ [r]) (fun _ _ => .inr (.inr trivial)) (fun m' hm' => hst m' (List.mem_cons_of_mem _ hm')) (by rwa [List.append_assoc])
        rwa [List.map_append] at this
    refine step1 m List.mem_cons_self (fun o ρ' => wLcL g wYes we own (ms.map c) ρ' ([] ++ [o]) P) (fun ρ' => wLcL g wYes we own (ms.map c) ρ' [] P) ?_
    exact go ms [m] (fun _ _ => .inr (.inr trivial)) (fun m' hm' => step2 m' (List.mem_cons_of_mem _ hm')) fin2
theorem cells_flat (l : List Nat) : (cells l).all D.flat = true := ints_flat (fun j : Nat => (j : Int)) l
theorem cells_any (l : List Nat) (k : Nat) : (cells l).any (fun z => eqV z.v (D.int k).v) = l.contains k := by
  unfold cells
  rw [ints_any (fun j : Nat => (j : Int)), Bool.eq_iff_iff, List.any_eq_true, List.contains_iff_mem]
  constructor
  · rintro ⟨j, hj, e⟩
    have e : (j : Int) = (k : Int) := by simpa using e
    have : j = k := by omega
    rw [← this]; exact hj
  · intro h
    exact ⟨k, h, by simp⟩
theorem rest_fm (w : Nat) (cols : List Nat) : ((List.range w).filterMap fun k => if cols.contains k = true then none else some (O.fz (D.int (k : Nat)))) = (restOf w cols).map fun k => O.fz (.int (k : Nat)) := by
  unfold restOf
  induction List.range w with
  | nil => rfl
  | cons k l ih =>
    rw [List.filterMap_cons, List.filter_cons]
    cases h : cols.contains k with
    | true => simpa using ih
    | false =>
      simp only [Bool.not_false, if_true, Bool.false_eq_true, if_false, List.map_cons]
      rw [ih]
theorem turn_row (sg : List Nat) (r : List Int) : (sg.map fun j => O.fz (D.int (r.getD j 0))) = (turn sg r).map fun x => O.fz (.int x) := by
  unfold turn
  rw [List.map_map]
  rfl
theorem cutG_drop {α : Type} (xs : List α) (c : Nat) : cutG xs (some (c : Int)) none = xs.drop c := by
  unfold cutG
  rw [HT.sIx_nat, HT.sIx_none]
  by_cases h : c ≤ xs.length
  · rw [Nat.min_eq_left h]
    exact List.take_of_length_le (by rw [List.length_drop]; omega)
  · rw [Nat.min_eq_right (by omega), List.drop_of_length_le (Nat.le_refl _), List.drop_of_length_le (by omega)]
    exact List.take_nil
theorem cut_fm (c : Nat) (B : Bs) : (B.filterMap fun q => if decide (c ≤ q.1) = true then some (O.fz (row (q.2.drop c))) else none) = (rowsOf (cutB c B)).map fun r => O.fz (row r) := by
  unfold rowsOf cutB
  rw [List.map_map, List.map_map]
  induction B with
  | nil => rfl
  | cons q B ih =>
    rw [List.filterMap_cons, List.filter_cons]
    by_cases h : c ≤ q.1
    · rw [if_pos (decide_eq_true h), if_pos (decide_eq_true h), List.map_cons, ih]
      rfl
    · rw [if_neg (by simpa using h), if_neg (by simpa using h), ih]
theorem does_without : ∀ os P, sp_without os P → wb_without (start0 9 os) (endsOf os P) := by
  rintro os P ⟨d, rs, cols, w, p, rfl, hd, hp, hr, hl, hw, hn, hc, k⟩
  obtain ⟨hp2, hp3⟩ := prime_le hp
  have sg := sg_perm hn hc
  have cl := col_len hn hc
  have walkd : ∀ {Q : List D → TEnv → Prop} {ρ : TEnv}, Q (rs.map row) ρ → (match d.walk with | some ds => Q ds ρ | none => False) := fun {Q ρ} h => by
    rcases hd with rfl | rfl <;> exact h
  walk_at "tw"
  refine ⟨by omega, ?_⟩
  rw [Int.toNat_natCast]
  refine lc_mapA (fun k : Nat => D.int k) (List.range w) (fun k => if cols.contains k = true then none else some (O.fz (D.int (k : Nat)))) (fun j hj A B hA hB => ?_) ?_
  · walk_at "tw"
    refine ⟨cells cols, rfl, rfl, cells_flat _, ?_⟩
    rw [cells_any]
    cases hc : cols.contains j with
    | true =>
      walk_at "tw"
      exact ⟨fun h => (nomatch h), fun _ => hB (by rw [hc]; rfl)⟩
    | false =>
      walk_at "tw"
      refine ⟨fun _ => ?_, fun h => nomatch h⟩
      walk_at "tw"
      exact hA _ (by rw [hc]; rfl)
  intro b
  rw [rest_fm]
  have eall : cells cols ++ (restOf w cols).map (fun k => D.int (k : Nat)) = (cols ++ restOf w cols).map fun k => D.int (k : Nat) := by
    unfold cells
    rw [List.map_append]
  have hall : ∀ j ∈ cols ++ restOf w cols, j < w := fun j hj => List.mem_range.mp (sg.mem_iff.mp hj)
  have hsz : (cells cols).length + ((restOf w cols).map fun k => D.int (k : Nat)).length ≤ sizeLine := by
    have : (cols ++ restOf w cols).length = w := by rw [sg.length_eq, List.length_range]
    rw [List.length_append] at this
    unfold cells
    rw [List.length_map, List.length_map]
    exact Nat.le_trans (show _ ≤ 400 by omega) (by decide)
  have vT : ∀ r ∈ rs.map (turn (cols ++ restOf w cols)), Vec p w r := fun r hm => by
    obtain ⟨r0, h0, rfl⟩ := List.mem_map.mp hm
    exact ⟨by rw [turn_len, sg.length_eq, List.length_range], turn_in (by omega) (hr r0 h0).2⟩
  -- behind the rows put otherwise
  have tail : ∀ (b2 : Addr) (x4 : Option O), wSeq (wSet 5 fun ρ Q => Q (.lst b2 ((rs.map (turn (cols ++ restOf w cols))).map fun r => .fz (row r))) ρ)
      (wRet (wCall sp_reduced (wCons (wFrz (wLc (wWalk (wFrz (wCall sp_laid_out (wCons (wVar 5) (wCons (wVar 3) wNil))))) (gT 2 (gsCons (gN 8) (gsCons (gN 7) gsNil))) (wTst (wCmpL semGe 8 (wC1 semLen (wLook 1)))) (wSl (wVar 7) (wSoP (wC1 semLen (wLook 1))) wNoP) [8, 7])) (wCons (wVar 3) wNil))))
      [some (.fz d), some (.fz (.tup (cells cols))), some (.fz (.int w)), some (.fz (.int p)), x4, none, none, none, none] (endsOf [.fz d, .fz (.tup (cells cols)), .fz (.int w), .fz (.int p)] P) := fun b2 x4 => by
    refine ⟨?_⟩
    walk_at "tw"
    rw [frzL_mapfz]
    refine ⟨⟨_, rs.map (turn (cols ++ restOf w cols)), p, w, rfl, .inr rfl, hp, vT, by rw [List.length_map]; omega, fun o B ho R hB hnB => ?_⟩⟩
    have fin : ∀ C, Rref p (w - cols.length) C → C.length ≤ (rowsOf (cutB cols.length B)).length → (∀ x, Vec p (w - cols.length) x → (nul p (rowsOf C) x ↔ nul p (rowsOf (cutB cols.length B)) x)) → P (.fz (grid (rowsOf C))) [.fz d, .fz (.tup (cells cols)), .fz (.int w), .fz (.int p)] := fun C RC hC hnC => by
      refine k C RC (Nat.le_trans (rref_len RC) (Nat.sub_le _ _)) fun u y hu hy e => ?_
      rw [perp_congr hnC y, perp_cut (by omega) cl R hy, ← e, perp_congr hnB]
      exact perp_turn (by omega) sg hr hu
    have R2 := cutB_rref (c := cols.length) R
    have l2 : (rowsOf (cutB cols.length B)).length ≤ 1000 := by
      rw [rowsOf_len]
      have := rref_len R2
      omega
    rcases ho with rfl | ⟨a2, rfl⟩
    all_goals
      walk_at "tw"
      try rw [O.frzL_map]
      refine lc_mapA pr B (fun q => if decide (cols.length ≤ q.1) = true then some (O.fz (row (q.2.drop cols.length))) else none) (fun q hq A Bb hA hB => ?_) ?_
      · walk_at "tw"
        refine ⟨rfl, ?_⟩
        walk_at "tw"
        refine ⟨cells cols, rfl, ?_⟩
        have el : ((cells cols).length : Int) = (cols.length : Int) := by unfold cells; rw [List.length_map]
        rw [el]
        walk_at "tw"
        refine ⟨fun h => ?_, fun h => ?_⟩
        · have h : (cols.length : Int) ≤ (q.1 : Int) := of_decide_eq_true h
          walk_at "tw"
          refine ⟨cells cols, rfl, ?_⟩
          rw [el]
          walk_at "tw"
          rw [cutG_drop]
          have hA := hA _ (by rw [if_pos (decide_eq_true (by omega))])
          unfold row at hA
          rw [List.map_drop] at hA
          exact hA
        · have h : ¬ (cols.length : Int) ≤ (q.1 : Int) := of_decide_eq_false h
          refine hB ?_
          rw [if_neg (fun e => h (by have := of_decide_eq_true e; omega))]
      intro c
      walk_at "tw"
      rw [cut_fm, frzL_mapfz]
      refine ⟨⟨_, rowsOf (cutB cols.length B), p, w - cols.length, rfl, .inr rfl, hp, rowsOf_vec R2, l2, fun C RC hC hnC => ?_⟩⟩
      walk_at "tw"
      exact ⟨trivial, fin C RC hC hnC⟩
  walk_at "tw"
  refine walkd ?_
  have inner : ∀ r ∈ rs, ∀ (j : Nat), j ∈ cols ++ restOf w cols → j < r.length := fun r hrm j hj => by rw [(hr r hrm).1]; exact hall j hj
  refine lc_all2 (ρ2 := [some (.fz d), some (.fz (.tup (cells cols))), some (.fz (.int w)), some (.fz (.int p)), some (.fz (.lst ((restOf w cols).map fun k => D.int (k : Nat)))), none, none, none, none]) row rs (fun r => .fz (row (turn (cols ++ restOf w cols) r))) (fun r hrm A B hA => ?_) (fun r hrm A B hA => ?_) (fun e => ?_) ?_
  · walk_at "tw"
    refine ⟨fun _ => ?_, fun h => nomatch h⟩
    walk_at "tw"
    intro a
    walk_at "tw"
    rw [O.frzL_map, frzL_mapfz]
    refine ⟨hsz, fun a2 => ?_⟩
    walk_at "tw"
    rw [O.frzL_map, eall]
    refine lc_all (fun k : Nat => D.int k) (cols ++ restOf w cols) (fun j => .fz (.int (r.getD j 0))) (fun j hj A2 B2 hA2 => ?_) ?_
    · walk_at "tw"
      refine ⟨fun _ => ?_, fun h => nomatch h⟩
      walk_at "tw"
      exact ⟨_, row_at (inner r hrm j hj), hA2⟩
    · intro c
      walk_at "tw"
      rw [turn_row, frzL_mapfz]
      exact hA
  · walk_at "tw"
    refine ⟨fun _ => ?_, fun h => nomatch h⟩
    walk_at "tw"
    intro a
    walk_at "tw"
    rw [O.frzL_map]
    refine ⟨hsz, fun a2 => ?_⟩
    walk_at "tw"
    rw [O.frzL_map, eall]
    refine lc_all (fun k : Nat => D.int k) (cols ++ restOf w cols) (fun j => .fz (.int (r.getD j 0))) (fun j hj A2 B2 hA2 => ?_) ?_
    · walk_at "tw"
      refine ⟨fun _ => ?_, fun h => nomatch h⟩
      walk_at "tw"
      exact ⟨_, row_at (inner r hrm j hj), hA2⟩
    · intro c
      walk_at "tw"
      rw [turn_row, frzL_mapfz]
      exact hA
  · intro c
    subst e
    exact (tail c _).go
  · intro c
    have := tail c (some (.fz (.lst ((restOf w cols).map fun k => D.int (k : Nat)))))
    rw [List.map_map] at this
    exact this.go
theorem deq_bl {n : Nat} (a b : Bool) : deq n (.bl a) (.bl b) = some (a == b) := by cases n <;> rfl
/-- a comprehension over range(n) by what holds -/
theorem lc_rng {g : WG} {wt : WT} {we : WO} {own : List Nat} {P : List O → TEnv → Prop} {ρ : TEnv} (n : Nat) (I : Nat → TEnv → List O → Prop) (h0 : I 0 ρ [])
    (step : ∀ k ρ acc, k < n → I k ρ acc → ∀ (A : O → TEnv → Prop) (B : TEnv → Prop), (∀ o ρ', I (k + 1) ρ' (acc ++ [o]) → A o ρ') → (∀ ρ', I (k + 1) ρ' acc → B ρ') → g (.int k) ρ fun ρ1 => wt ρ1 fun b ρ2 => br b (we ρ2 fun o ρ3 => A o (wipeE ρ3 own)) (B (wipeE ρ2 own)))
    (fin : ∀ ρ acc, I n ρ acc → P acc ρ) : wLcL g wt we own ((List.range n).map fun (k : Nat) => .int k) ρ [] P := by
  refine lc_inv ((List.range n).map fun (k : Nat) => D.int k) (fun pre ρ acc => I pre.length ρ acc) (fun pre d post ρ acc e h A B hA hB => ?_) (fun ρ acc h => ?_) _ [] ρ [] rfl h0
  · have hl := congrArg List.length e
    rw [List.length_map, List.length_range, List.length_append, List.length_cons] at hl
    have hd : d = .int (pre.length : Nat) := by
      have h1 : ((List.range n).map fun (k : Nat) => D.int k)[pre.length]? = some d := by
        rw [e, List.getElem?_append_right (Nat.le_refl _), Nat.sub_self]; rfl
      rw [List.getElem?_map, List.getElem?_range (by omega)] at h1
      exact (Option.some.inj h1).symm
    subst hd
    exact step pre.length ρ acc (by omega) h A B (fun o ρ' h' => hA o ρ' (by rw [List.length_append]; exact h')) (fun ρ' h' => hB ρ' (by rw [List.length_append]; exact h'))
  · exact fin ρ acc (by have h : I ((List.range n).map fun (k : Nat) => D.int k).length ρ acc := h; rw [List.length_map, List.length_range] at h; exact h)
theorem grid_eq (n : Nat) : EqM (n + 2) grid := ((eqM_int n).tup).tup
theorem grid_ne {B B' : Bs} (h : B = B') {A C : Prop} (hC : C) : br (!decide (rowsOf B = rowsOf B')) A C := by
  rw [decide_eq_true (congrArg rowsOf h)]
  exact ⟨fun h => (nomatch h), fun _ => hC⟩
/-- rows made one from each, while the draws go on -/
theorem lc_rows {g : WG} {we : WO} {own : List Nat} {P : List O → TEnv → Prop} {ys : List O} (ms : List (List Int)) (env : List O → TEnv) (R : List Int → List Int → Prop)
    (step : ∀ l ∈ ms, ∀ ys, DS ys → ∀ (A : O → TEnv → Prop) (B : TEnv → Prop), (∀ (u : List Int) (ys : List O), R l u → DS ys → A (.fz (row u)) (env ys)) → g (row l) (env ys) fun ρ1 => wYes ρ1 fun b ρ2 => br b (we ρ2 fun o ρ3 => A o (wipeE ρ3 own)) (B (wipeE ρ2 own)))
    (hy : DS ys) (fin : ∀ (us : List (List Int)) (ys : List O), us.length = ms.length → (∀ u ∈ us, ∃ l ∈ ms, R l u) → DS ys → P (us.map fun u => .fz (row u)) (env ys)) : wLcL g wYes we own (ms.map row) (env ys) [] P := by
  refine lc_inv (ms.map row) (fun pre ρ acc => ∃ ys us qs ps, DS ys ∧ ρ = env ys ∧ ms = qs ++ ps ∧ pre = qs.map row ∧ us.length = qs.length ∧ (∀ u ∈ us, ∃ l ∈ ms, R l u) ∧ acc = us.map fun u => O.fz (row u)) (fun pre d post ρ acc e h A B hA hB => ?_) (fun ρ acc h => ?_) (ms.map row) [] (env ys) [] rfl ⟨ys, [], [], ms, hy, rfl, rfl, rfl, rfl, fun _ h => (by cases h), rfl⟩
  · obtain ⟨ys, us, qs, ps, hy, rfl, e2, rfl, hl, hu, rfl⟩ := h
    rw [e2, List.map_append] at e
    have e3 := List.append_cancel_left e
    cases ps with
    | nil => cases e3
    | cons m ps =>
      rw [List.map_cons] at e3
      obtain ⟨rfl, _⟩ := List.cons.inj e3
      have hm : m ∈ ms := by rw [e2]; exact List.mem_append_right _ List.mem_cons_self
      refine step m hm ys hy A B fun u ys hr hy => hA _ _ ⟨ys, us ++ [u], qs ++ [m], ps, hy, rfl, by rw [e2, List.append_assoc]; rfl, by rw [List.map_append]; rfl, by rw [List.length_append, List.length_append, hl]; rfl, fun v hv => ?_, by rw [List.map_append]; rfl⟩
      rcases List.mem_append.mp hv with q | q
      · exact hu v q
      · rw [List.mem_singleton.mp q]; exact ⟨m, hm, hr⟩
  · obtain ⟨ys, us, qs, ps, hy, rfl, e2, e3, hl, hu, rfl⟩ := h
    have hl2 := congrArg List.length e3
    rw [List.length_map, List.length_map] at hl2
    exact fin us ys (by rw [hl, ← hl2]) hu hy
theorem zeros_rep (w : Nat) : D.tup (List.replicate ((w : Int)).toNat [D.int 0]).flatten = row (List.replicate w 0) := by
  rw [Int.toNat_natCast]
  unfold row
  congr 1
  induction w with
  | zero => rfl
  | succ w ih => rw [List.replicate_succ, List.flatten_cons, ih]; rfl
theorem inv_ex {p n : Int} (hp : p ∈ primes) (h0 : 0 < n) (h1 : n < p) : ∃ r : Int, 0 < r ∧ r < p ∧ n * r % p = 1 := by
  obtain ⟨hp2, hp3⟩ := prime_le hp
  have ok := inv_ok p hp
  unfold invOk at ok
  rw [List.all_eq_true] at ok
  have := ok n.toNat (List.mem_range.mpr (by omega))
  rw [Bool.or_eq_true] at this
  rcases this with z | z
  · have : n.toNat = 0 := by simpa using z
    omega
  · have z := of_decide_eq_true z
    rw [Int.toNat_of_nonneg (by omega)] at z
    have a := Int.emod_nonneg (invGo p 12 1 n (p - 2)) (show p ≠ 0 by omega)
    have b := Int.emod_lt_of_pos (invGo p 12 1 n (p - 2)) (show 0 < p by omega)
    refine ⟨_, ?_, b, z⟩
    rcases Int.lt_or_eq_of_le a with q | q
    · exact q
    · rw [← q] at z
      simp at z
theorem atI0 {α : Type} (x : α) (xs : List α) : atI (x :: xs) 0 = some x := atI_in (i := 0) (by decide) (by simp)
theorem erase_map {α β : Type} (f : α → β) : ∀ (l : List α) (i : Nat), (l.map f).eraseIdx i = (l.eraseIdx i).map f
  | [], _ => rfl
  | _ :: _, 0 => rfl
  | x :: l, i + 1 => congrArg (f x :: ·) (erase_map f l i)
theorem cutG_one {α : Type} (x : α) (xs : List α) : cutG (x :: xs) none (some 1) = [x] := by
  unfold cutG HT.sIx
  simp
theorem does__law_inverse : ∀ os P, sp__law_inverse os P → wb__law_inverse (start0 3 os) (endsOf os P) := by
  rintro os P ⟨n, p, rfl, hp, hn, hnp, k⟩
  obtain ⟨hp2, hp3⟩ := prime_le hp
  walk_at "tw"
  refine ⟨⟨by decide, by decide, by omega, by omega⟩, ?_⟩
  refine lc_mapA (fun j : Nat => D.int (1 + j)) (List.range (p - 1).toNat) (fun j => if ((1 : Int) + j) * n % p = 1 then some (.fz (.int (1 + j))) else none) (fun j hj A B hA hB => ?_) ?_
  · have hj := List.mem_range.mp hj
    walk_at "tw"
    refine ⟨cmul64 (by omega) (by omega) (by omega) (by omega), ?_⟩
    walk_at "tw"
    refine ⟨by omega, ?_⟩
    walk_at "tw"
    refine ⟨fun h => ?_, fun h => ?_⟩
    · exact hA _ (by rw [if_pos (of_decide_eq_true h)])
    · exact hB (by rw [if_neg (of_decide_eq_false h)])
  · intro b
    obtain ⟨r, hr0, hr1, hr⟩ := inv_ex hp hn hnp
    have mem : O.fz (.int r) ∈ (List.range (p - 1).toNat).filterMap fun j : Nat => if ((1 : Int) + j) * n % p = 1 then some (O.fz (.int (1 + j))) else none := by
      rw [List.mem_filterMap]
      refine ⟨(r - 1).toNat, List.mem_range.mpr (by omega), ?_⟩
      have e : (1 : Int) + ((r - 1).toNat : Nat) = r := by omega
      rw [e, if_pos (by rw [Int.mul_comm]; exact hr)]
    have all : ∀ o ∈ (List.range (p - 1).toNat).filterMap fun j : Nat => if ((1 : Int) + j) * n % p = 1 then some (O.fz (.int (1 + j))) else none, ∃ r : Int, o = .fz (.int r) ∧ 0 ≤ r ∧ r < p ∧ n * r % p = 1 := fun o ho => by
      obtain ⟨j, hj, e⟩ := List.mem_filterMap.mp ho
      have hj := List.mem_range.mp hj
      split at e
      · rename_i q
        exact ⟨1 + j, (Option.some.inj e).symm, by omega, by omega, by rw [Int.mul_comm]; exact q⟩
      · cases e
    generalize ((List.range (p - 1).toNat).filterMap fun j : Nat => if ((1 : Int) + j) * n % p = 1 then some (O.fz (.int (1 + j))) else none) = os at mem all
    cases os with
    | nil => cases mem
    | cons o os =>
      obtain ⟨r, rfl, h0, h1, h2⟩ := all o List.mem_cons_self
      walk_at "tw"
      refine ⟨.int r, atI0 _ _, ?_⟩
      exact ⟨trivial, k r h0 h1 h2⟩
theorem lrow_eq (n : Nat) : EqM (n + 1) lrow := (eqM_int n).lst
theorem does__law_reduced : ∀ os P, sp__law_reduced os P → wb__law_reduced (start0 9 os) (endsOf os P) := by
  rintro os P ⟨d, rs, w, p, rfl, hd, hp, hr, hl, hw, k⟩
  obtain ⟨hp2, hp3⟩ := prime_le hp
  have walkd : ∀ {Q : List D → TEnv → Prop} {ρ : TEnv}, Q (rs.map row) ρ → (match d.walk with | some ds => Q ds ρ | none => False) := fun {Q ρ} h => by
    rcases hd with rfl | rfl <;> exact h
  walk_at "tw"
  refine walkd ?_
  refine lc_all row rs (fun l => .fz (lrow l)) (fun l hl A B hA => ?_) ?_
  · walk_at "tw"
    refine ⟨fun _ => ?_, fun h => nomatch h⟩
    walk_at "tw"
    intro c
    walk_at "tw"
    rw [O.frzL_map]
    exact hA
  intro al
  walk_at "tw"
  refine ⟨by show 0 ≤ sizeLine; decide, fun ad => ?_⟩
  walk_at "tw"
  refine ⟨by omega, ?_⟩
  rw [Int.toNat_natCast]
  refine for_rng w (fun c ρ => ∃ B L al ad x5 x6 x7, Col p w c B L rs ∧ L.length ≤ 1000 ∧ ρ = [some (.fz d), some (.fz (.int w)), some (.fz (.int p)), some (.lst al ((L.map lrow).map .fz)), some (.lst ad ((B.map fun q => row q.2).map .fz)), x5, x6, x7, none])
    ⟨[], rs, al, ad, none, none, none, Col.start hr, hl, by rw [List.map_map]; rfl⟩ ?_ ?_
  · rintro c ρ hc ⟨B, L, al, ad, x5, x6, x7, C, hL, rfl⟩ N hN
    have hB := rref_len C.R
    walk_at "tw"
    refine ⟨L.map lrow, rfl, ?_⟩
    walk_at "tw"
    refine lc_mapA lrow L (fun l => if l.getD c 0 = 0 then none else some (O.fz (lrow l))) (fun l hl A Bb hA hBb => ?_) ?_
    · have vl := C.vec l hl
      walk_at "tw"
      refine ⟨rfl, ?_⟩
      walk_at "tw"
      refine ⟨_, row_at (by rw [vl.1]; exact hc), ?_⟩
      walk_at "tw"
      refine ⟨fun h => ?_, fun h => ?_⟩
      · have h : (!decide (l.getD c 0 = 0)) = true := h
        have h : ¬ l.getD c 0 = 0 := by simpa using h
        walk_at "tw"
        exact hA _ (by rw [if_neg h])
      · have h : (!decide (l.getD c 0 = 0)) = false := h
        have h : l.getD c 0 = 0 := by simpa using h
        exact hBb (by rw [if_pos h])
    walk_at "tw"
    refine ⟨rfl, fun b => ?_⟩
    walk_at "tw"
    rcases first_at c L with hz | ⟨j, z, hj, hz, hfirst⟩
    · have e : L.filterMap (fun l => if l.getD c 0 = 0 then none else some (O.fz (lrow l))) = [] := by
        rw [List.filterMap_eq_nil_iff]
        intro l hl
        rw [if_pos (hz l hl)]
      rw [e]
      intro b2
      walk_at "tw"
      refine ⟨by show 0 ≤ sizeLine; decide, fun b3 => ?_⟩
      walk_at "tw"
      refine ⟨_, deq_lnil, ?_⟩
      refine ⟨fun h => (nomatch h), fun _ => ?_⟩
      exact hN _ ⟨B, L, al, ad, _, _, _, C.skip hz, hL, rfl⟩
    · have e : ∃ rest, L.filterMap (fun l => if l.getD c 0 = 0 then none else some (O.fz (lrow l))) = O.fz (lrow z) :: rest := by
        clear hN
        have go : ∀ (M : List (List Int)) (j : Nat), M[j]? = some z → (∀ (m : Nat) (u : List Int), m < j → M[m]? = some u → u.getD c 0 = 0) → ∃ rest, M.filterMap (fun l => if l.getD c 0 = 0 then none else some (O.fz (lrow l))) = O.fz (lrow z) :: rest := by
          intro M
          induction M with
          | nil => intro j h; cases h
          | cons m M ih =>
            intro j h1 h2
            cases j with
            | zero =>
              cases h1
              exact ⟨_, by rw [List.filterMap_cons, if_neg hz]⟩
            | succ j =>
              obtain ⟨rest, e⟩ := ih j (by rw [List.getElem?_cons_succ] at h1; exact h1) fun m u hm hu => h2 (m + 1) u (by omega) (by rw [List.getElem?_cons_succ]; exact hu)
              exact ⟨rest, by rw [List.filterMap_cons, if_pos (h2 0 m (Nat.succ_pos _) rfl)]; exact e⟩
        exact go L j hj hfirst
      obtain ⟨rest, e⟩ := e
      rw [e]
      intro b2
      walk_at "tw"
      have e1 : cutG (O.frzL (O.fz (lrow z) :: rest)) none (some 1) = [lrow z] := cutG_one _ _
      rw [e1]
      refine ⟨by show 0 ≤ sizeLine; decide, fun b3 => ?_⟩
      walk_at "tw"
      refine ⟨_, deq_lnil, ?_⟩
      refine ⟨fun _ => ?_, fun h => (nomatch h)⟩
      have hjl : j < L.length := by
        by_cases q : j < L.length
        · exact q
        · rw [List.getElem?_eq_none (Nat.le_of_not_lt q)] at hj; cases hj
      have vz := C.vec z (List.mem_of_getElem? hj)
      have bz := inR_get (show 0 < p by omega) vz.2 c
      walk_at "tw"
      refine ⟨0, _, rfl, rfl, ?_⟩
      walk_at "tw"
      refine ⟨L.map lrow, j, rfl, by rw [List.length_map]; exact hjl, fun m u hm hu => ?_, ?_⟩
      · rw [List.getElem?_map] at hu
        obtain ⟨v, hv, rfl⟩ := Option.map_eq_some_iff.mp hu
        rw [lrow_eq 57]
        refine congrArg some ?_
        by_cases q : m = j
        · subst q
          rw [hj] at hv
          rw [Option.some.inj hv]
          simp
        · rw [decide_eq_false q]
          refine decide_eq_false fun e => hz ?_
          rw [← e]
          exact hfirst m v (by omega) hv
      rw [erase_map]
      walk_at "tw"
      refine ⟨0, _, rfl, rfl, ?_⟩
      walk_at "tw"
      refine ⟨0, _, rfl, rfl, ?_⟩
      walk_at "tw"
      refine ⟨_, row_at (by rw [vz.1]; exact hc), ?_⟩
      walk_at "tw"
      refine ⟨⟨_, p, rfl, hp, by omega, bz.2, fun iv hi0 hi1 hiv => ?_⟩⟩
      walk_at "tw"
      refine ⟨⟨_, z, iv, p, rfl, .inr rfl, by omega, by omega, hi0, by omega, vz.2, ?_⟩⟩
      have S := C.step (show 1 < p by omega) hc hj hiv
      have lu : (times iv p z).length = w := by rw [times_len]; exact vz.1
      have ru : InR p (times iv p z) := times_in (by omega)
      generalize hu : times iv p z = u at S lu ru
      walk_at "tw"
      rw [O.frzL_map]
      refine lc_all (fun q : Nat × List Int => row q.2) B (fun q => .fz (row (less q.2 u (q.2.getD c 0) p))) (fun q hq A Bb hA => ?_) ?_
      · have bq := inR_get (show 0 < p by omega) (C.R.rng q hq) c
        walk_at "tw"
        refine ⟨fun _ => ?_, fun h => nomatch h⟩
        walk_at "tw"
        refine ⟨_, row_at (by rw [C.R.len q hq]; exact hc), ?_⟩
        walk_at "tw"
        refine ⟨⟨_, u, p - q.2.getD c 0, p, rfl, .inl rfl, by omega, by omega, by omega, by omega, ru, ?_⟩⟩
        walk_at "tw"
        refine ⟨⟨_, q.2, _, p, rfl, .inl rfl, by omega, ?_⟩⟩
        walk_at "tw"
        rw [together_less]
        exact hA
      intro b4
      walk_at "tw"
      refine ⟨by show 1 ≤ sizeLine; decide, fun b5 => ?_⟩
      walk_at "tw"
      rw [frzL_mapfz]
      refine ⟨?_, fun ad2 => ?_⟩
      · rw [List.length_map]
        exact Nat.le_trans (show B.length + 1 ≤ 2000 by omega) (by decide)
      walk_at "tw"
      refine ⟨(L.eraseIdx j).map lrow, rfl, ?_⟩
      walk_at "tw"
      refine lc_all lrow (L.eraseIdx j) (fun l => .fz (lrow (less l u (l.getD c 0) p))) (fun l hl A Bb hA => ?_) ?_
      · have vl := C.vec l ((mem_erase hj).mpr (.inr hl))
        have bl := inR_get (show 0 < p by omega) vl.2 c
        walk_at "tw"
        refine ⟨rfl, ?_⟩
        walk_at "tw"
        refine ⟨fun _ => ?_, fun h => nomatch h⟩
        walk_at "tw"
        refine ⟨_, row_at (by rw [vl.1]; exact hc), ?_⟩
        walk_at "tw"
        refine ⟨⟨_, u, p - l.getD c 0, p, rfl, .inl rfl, by omega, by omega, by omega, by omega, ru, ?_⟩⟩
        walk_at "tw"
        refine ⟨⟨_, l, _, p, rfl, .inr rfl, by omega, ?_⟩⟩
        walk_at "tw"
        intro b6
        walk_at "tw"
        rw [O.frzL_map, together_less]
        exact hA
      walk_at "tw"
      refine ⟨rfl, fun al2 => ?_⟩
      walk_at "tw"
      refine hN _ ⟨_, _, al2, ad2, some (.fz (.int c)), some (.lst b2 [.fz (lrow z)]), some (.fz (row u)), S, ?_, ?_⟩
      · rw [List.length_map, List.length_eraseIdx]
        split <;> omega
      · have e4 : (B.map fun q => row (less q.2 u (q.2.getD c 0) p)) ++ O.frzL [O.fz (row u)] = (kept p u c B ++ [(c, u)]).map fun q => row q.2 := by
          rw [List.map_append, kept, List.map_map]
          rfl
        have e5 : (L.eraseIdx j).map (fun l => O.fz (lrow (less l u (l.getD c 0) p))) = (((L.eraseIdx j).map fun l => less l u (l.getD c 0) p).map lrow).map .fz := by
          rw [List.map_map, List.map_map]
          rfl
        rw [e4, e5]
        rfl
  · rintro ρ ⟨B, L, al, ad, x5, x6, x7, C, hL, rfl⟩
    walk_at "tw"
    rw [O.frzL_map]
    refine lc_all (fun q : Nat × List Int => row q.2) B (fun q => .fz (row q.2)) (fun q hq A Bb hA => ?_) ?_
    · walk_at "tw"
      exact ⟨fun _ => hA, fun h => nomatch h⟩
    · intro b
      walk_at "tw"
      refine ⟨trivial, ?_⟩
      rw [frzL_mapfz]
      have fin := k B C.R C.fin
      unfold grid rowsOf at fin
      rw [List.map_map] at fin
      exact fin
theorem all_false {α : Type} {l : List α} {f : α → Option O} (h : ∀ x ∈ l, f x = none) : l.filterMap f = [] := List.filterMap_eq_nil_iff.mpr h
theorem does__law_alike : ∀ os P, sp__law_alike os P → wb__law_alike (start0 4 os) (endsOf os P) := by
  rintro os P ⟨g, h, rfl, k⟩
  walk_at "tw"
  refine ⟨fun h => (nomatch h), fun _ => ?_⟩
  walk_at "tw"
  refine ⟨_, grid_eq 58 _ _, ?_⟩
  by_cases e : g = h
  · rw [decide_eq_true e] at k ⊢
    walk_at "tw"
    refine ⟨fun h => (nomatch h), fun _ => ?_⟩
    walk_at "tw"
    refine lc_mapA row g (fun _ => none) (fun l hl A B hA hB => ?_) ?_
    · walk_at "tw"
      exact ⟨fun h => (nomatch h), fun _ => hB rfl⟩
    intro b
    walk_at "tw"
    rw [all_false fun _ _ => rfl]
    refine ⟨by show 0 ≤ sizeLine; decide, fun b2 => ?_⟩
    walk_at "tw"
    refine ⟨_, deq_lnil, ?_⟩
    refine ⟨fun h => (nomatch h), fun _ => ?_⟩
    walk_at "tw"
    refine lc_mapA row g (fun _ => none) (fun l hl A B hA hB => ?_) ?_
    · walk_at "tw"
      refine lc_mapA D.int l (fun _ => none) (fun x hx A2 B2 hA2 hB2 => ?_) ?_
      · walk_at "tw"
        exact ⟨fun h => (nomatch h), fun _ => hB2 rfl⟩
      intro b3
      walk_at "tw"
      rw [all_false fun _ _ => rfl]
      refine ⟨by show 0 ≤ sizeLine; decide, fun b4 => ?_⟩
      walk_at "tw"
      refine ⟨_, deq_lnil, ?_⟩
      exact ⟨fun h => (nomatch h), fun _ => hB rfl⟩
    intro b3
    walk_at "tw"
    rw [all_false fun _ _ => rfl]
    refine ⟨by show 0 ≤ sizeLine; decide, fun b4 => ?_⟩
    walk_at "tw"
    refine ⟨_, deq_lnil, ?_⟩
    exact ⟨trivial, k⟩
  · rw [decide_eq_false e] at k ⊢
    walk_at "tw"
    refine ⟨fun _ => ?_, fun h => nomatch h⟩
    walk_at "tw"
    exact ⟨trivial, k⟩
theorem fld {p : Int} (h : p ∈ primes) : Fld p := ⟨by have := prime_le h; omega, fun n h0 h1 => inv_ex h h0 h1⟩
theorem keyL_ints : ∀ l : List Int, D.keyL (l.map D.int) = some (l.map Sum.inl)
  | [] => rfl
  | x :: l => by
    show (match D.key (.int x), D.keyL (l.map D.int) with
      | some k, some ks => some (k :: ks)
      | _, _ => none) = _
    rw [keyL_ints l]
    rfl
theorem row_keys (l : List Int) : (row l).keys = some (l.map Sum.inl) := keyL_ints l
theorem inl_inj : ∀ {l m : List Int}, (l.map (Sum.inl : Int → Key)) = m.map Sum.inl → l = m
  | [], [], _ => rfl
  | [], _ :: _, h => by cases h
  | _ :: _, [], h => by cases h
  | x :: l, y :: m, h => by
    rw [List.map_cons, List.map_cons] at h
    obtain ⟨h1, h2⟩ := List.cons.inj h
    rw [Sum.inl.inj h1, inl_inj h2]
theorem kT_inl (l : List Int) : kT (l.map Sum.inl) = row l := by
  unfold kT row
  rw [List.map_map]
  rfl
theorem kv_keys (ks : List (List Int)) : ((kvOf ks).map fun q => kT q.1) = ks.map row := by
  unfold kvOf
  rw [List.map_map]
  exact List.map_congr_left fun v _ => kT_inl v
theorem kv_get (ks : List (List Int)) (v : List Int) : (getG (kvOf ks) (v.map Sum.inl)).isSome = decide (v ∈ ks) := by
  induction ks with
  | nil => rfl
  | cons u ks ih =>
    show (getG ((u.map Sum.inl, D.bl true) :: kvOf ks) (v.map Sum.inl)).isSome = _
    by_cases e : u = v
    · subst e
      rw [getG_pos rfl, decide_eq_true List.mem_cons_self]
      rfl
    · rw [getG_neg (fun h => e (inl_inj h)), ih]
      rw [Bool.eq_iff_iff, decide_eq_true_iff, decide_eq_true_iff, List.mem_cons]
      exact ⟨fun h => .inr h, fun h => h.elim (fun q => absurd q.symm e) id⟩
theorem kv_put (ks : List (List Int)) (v : List Int) : putG (kvOf ks) (v.map Sum.inl) (.bl true) = kvOf (if v ∈ ks then ks else ks ++ [v]) := by
  have any : ((kvOf ks).any fun kv => decide (kv.1 = v.map Sum.inl)) = decide (v ∈ ks) := by
    rw [Bool.eq_iff_iff, decide_eq_true_iff, List.any_eq_true]
    constructor
    · rintro ⟨q, hq, h⟩
      obtain ⟨u, hu, rfl⟩ := List.mem_map.mp hq
      have := inl_inj (of_decide_eq_true h)
      rwa [← this]
    · intro h
      exact ⟨_, List.mem_map.mpr ⟨v, h, rfl⟩, decide_eq_true rfl⟩
  unfold putG
  rw [any]
  by_cases h : v ∈ ks
  · rw [if_pos (decide_eq_true h), if_pos h]
    unfold kvOf
    rw [List.map_map]
    refine List.map_congr_left fun u _ => ?_
    show (if (u.map Sum.inl : List Key) = v.map Sum.inl then ((u.map Sum.inl : List Key), D.bl true) else (u.map Sum.inl, .bl true)) = _
    split <;> rfl
  · rw [if_neg (by rw [decide_eq_false h]; exact Bool.false_ne_true), if_neg h]
    unfold kvOf
    rw [List.map_append]
    rfl
theorem kv_len (ks : List (List Int)) : (kvOf ks).length = ks.length := by unfold kvOf; rw [List.length_map]
theorem pow_mono {p : Int} (h : 1 ≤ p) {i j : Nat} (hij : i ≤ j) : p ^ i ≤ p ^ j := by
  induction j with
  | zero => rw [Nat.le_zero.mp hij]; exact Int.le_refl _
  | succ j ih =>
    rcases Nat.lt_or_ge i (j + 1) with q | q
    · have a := ih (by omega)
      have b : 0 ≤ p ^ j := by
        have : ∀ n : Nat, 0 ≤ p ^ n := fun n => by
          induction n with
          | zero => rw [Int.pow_zero]; decide
          | succ n ih => rw [Int.pow_succ]; exact Int.mul_nonneg ih (by omega)
        exact this j
      rw [Int.pow_succ]
      have c : p ^ j * 1 ≤ p ^ j * p := Int.mul_le_mul_of_nonneg_left h b
      omega
    · rw [show i = j + 1 by omega]; exact Int.le_refl _
theorem pow_pos' {p : Int} (h : 2 ≤ p) (n : Nat) : 1 ≤ p ^ n := by
  induction n with
  | zero => rw [Int.pow_zero]; exact Int.le_refl _
  | succ n ih =>
    rw [Int.pow_succ]
    have : p ^ n * 1 ≤ p ^ n * p := Int.mul_le_mul_of_nonneg_left (by omega) (by omega)
    omega
theorem pow_le' {p : Int} (h0 : 0 ≤ p) (h : p ≤ 1000) (n : Nat) : 0 ≤ p ^ n ∧ p ^ n ≤ 1000 ^ n := by
  induction n with
  | zero => rw [Int.pow_zero, Int.pow_zero]; exact ⟨by decide, Int.le_refl _⟩
  | succ n ih =>
    rw [Int.pow_succ, Int.pow_succ]
    exact ⟨Int.mul_nonneg ih.1 h0, Int.mul_le_mul ih.2 h h0 (by omega)⟩
theorem cmulBig {i j : Int} (h1 : 0 ≤ i) (h2 : i < 2 ^ 200) (h3 : 0 ≤ j) (h4 : j < 2 ^ 200) : CMulW i j := by
  have key : ∀ x : Int, 0 ≤ x → x < 2 ^ 200 → x.natAbs.log2 < 400000 := fun x h0 h1 => by
    by_cases e : x.natAbs = 0
    · rw [e]; decide
    · exact Nat.lt_trans ((Nat.log2_lt e).mpr (show x.natAbs < 2 ^ 200 by omega)) (by decide)
  have := key i h1 h2
  have := key j h3 h4
  unfold CMulW
  omega
theorem does__law_is_few : ∀ os P, sp__law_is_few os P → wb__law_is_few (start0 4 os) (endsOf os P) := by
  rintro os P ⟨p, w, rfl, hp, hp2, hw, k⟩
  walk_at "tw"
  have em : (if (12 : Int) < (w : Int) then (12 : Int) else (w : Int)) = ((min w 12 : Nat) : Int) := by
    split <;> omega
  refine ⟨?_, ?_⟩
  · rw [em]; omega
  rw [em, Int.toNat_natCast]
  refine for_rng (min w 12) (fun i ρ => ∃ x, ρ = [some (.fz (.int p)), some (.fz (.int w)), some (.fz (.int (p ^ i))), x]) ⟨none, by rw [Int.pow_zero]; rfl⟩ ?_ ?_
  · rintro i ρ hi ⟨x, rfl⟩ N hN
    have b := pow_le' (p := p) (by omega) hp2 i
    have b2 : (1000 : Int) ^ i ≤ 1000 ^ 12 := pow_mono (by decide) (by omega)
    walk_at "tw"
    refine ⟨cmulBig b.1 (Int.lt_of_le_of_lt (Int.le_trans b.2 b2) (by decide)) (by omega) (by omega), ?_⟩
    exact hN _ ⟨_, by rw [Int.pow_succ]⟩
  · rintro ρ ⟨x, rfl⟩
    walk_at "tw"
    exact ⟨trivial, k⟩
/-- what stands in the dict while a row is gone through -/
structure Mid (p : Int) (line : List Int) (ks0 pre ks : List (List Int)) (m : Nat) : Prop where
  snd : ∀ v ∈ ks, v ∈ ks0 ∨ ∃ t ∈ ks0, ∃ n : Int, v = together p t (times n p line)
  old : ∀ v ∈ ks0, v ∈ ks
  cpl : ∀ t ∈ pre, ∀ n : Int, 0 < n → n < p → together p t (times n p line) ∈ ks
  len : ks.length ≤ ks0.length + m
theorem Mid.put {p : Int} {line : List Int} {ks0 pre ks : List (List Int)} {m : Nat} (h : Mid p line ks0 pre ks m) {t : List Int} (ht : t ∈ ks0) (n : Int) :
    Mid p line ks0 pre (if together p t (times n p line) ∈ ks then ks else ks ++ [together p t (times n p line)]) (m + 1) ∧ together p t (times n p line) ∈ (if together p t (times n p line) ∈ ks then ks else ks ++ [together p t (times n p line)]) ∧ ∀ v ∈ ks, v ∈ (if together p t (times n p line) ∈ ks then ks else ks ++ [together p t (times n p line)]) := by
  have sub : ∀ v ∈ ks, v ∈ (if together p t (times n p line) ∈ ks then ks else ks ++ [together p t (times n p line)]) := fun v hv => by
    split
    · exact hv
    · exact List.mem_append_left _ hv
  refine ⟨⟨fun v hv => ?_, fun v hv => sub v (h.old v hv), fun t' ht' n' h1 h2 => sub _ (h.cpl t' ht' n' h1 h2), ?_⟩, ?_, sub⟩
  · split at hv
    · exact h.snd v hv
    · rcases List.mem_append.mp hv with q | q
      · exact h.snd v q
      · exact .inr ⟨t, ht, n, List.mem_singleton.mp q⟩
  · have := h.len
    split
    · omega
    · rw [List.length_append]; show ks.length + 1 ≤ _; omega
  · split
    · rename_i q; exact q
    · exact List.mem_append_right _ List.mem_cons_self
theorem does__law_all : ∀ os P, sp__law_all os P → wb__law_all (start0 7 os) (endsOf os P) := by
  rintro os P ⟨rs, w, p, rfl, hp, hr, hw0, hw, hfew, k⟩
  obtain ⟨hp2, hp3⟩ := prime_le hp
  have hp0 : 0 < p := by omega
  walk_at "tw"
  refine ⟨by show 1 ≤ sizeLine; decide, ?_⟩
  walk_at "tw"
  refine ⟨by omega, by omega, by decide, rfl, ?_⟩
  walk_at "tw"
  rw [zeros_rep]
  refine ⟨_, row_keys _, fun a => ?_⟩
  walk_at "tw"
  have pm : ∀ i, i ≤ rs.length → p ^ i ≤ 400 := fun i hi => Int.le_trans (pow_mono (by omega) hi) hfew
  refine for_map0 row rs (fun pre ρ => ∃ ks x4 x5 x6, (∀ v ∈ ks, Vec p w v) ∧ (∀ v, Vec p w v → (v ∈ ks ↔ perp p w (nul p pre) v)) ∧ ((ks.length : Nat) : Int) ≤ p ^ pre.length ∧ ρ = [some (.fz (grid rs)), some (.fz (.int w)), some (.fz (.int p)), some (.dcT a (kvOf ks)), x4, x5, x6])
    ⟨[List.replicate w 0], none, none, none, fun v hv => ?_, fun v hv => ?_, by rw [List.length_nil, Int.pow_zero]; exact Int.le_refl _, rfl⟩ ?_ ?_
  · rw [List.mem_singleton.mp hv]
    exact ⟨by simp, fun x hx => by rw [List.eq_of_mem_replicate hx]; omega⟩
  · rw [List.mem_singleton]
    constructor
    · rintro rfl x hx _
      rw [dot_zero fun j => by
        rw [List.getD_eq_getElem?_getD, List.getElem?_replicate]
        split <;> rfl]
      simp
    · intro h
      refine ext_getD (by simp [hv.1]) fun j hj => ?_
      rw [hv.1] at hj
      have := h (unitOf w j) (unit_vec (by omega)) fun _ q => (by cases q)
      unfold unitOf at this
      rw [dot_unit v hv.1 hj] at this
      have b := inR_get hp0 hv.2 j
      rw [Int.emod_eq_of_lt b.1 b.2] at this
      rw [this, List.getD_eq_getElem?_getD, List.getElem?_replicate]
      split <;> rfl
  · rintro pre line post ρ hm ⟨ks0, x4, x5, x6, hv0, hs0, hl0, rfl⟩ N hN
    have hline : line ∈ rs := by rw [hm]; exact List.mem_append_right _ List.mem_cons_self
    have vline := hr line hline
    have hpre : ∀ r ∈ pre, Vec p w r := fun r h => hr r (by rw [hm]; exact List.mem_append_left _ h)
    have hpl : pre.length + 1 ≤ rs.length := by rw [hm, List.length_append]; show _ ≤ pre.length + (post.length + 1); omega
    have hsz : ((ks0.length : Nat) : Int) * p ≤ 400 := by
      refine Int.le_trans (Int.mul_le_mul_of_nonneg_right hl0 (by omega)) ?_
      rw [← Int.pow_succ]
      exact pm _ hpl
    walk_at "tw"
    intro b
    walk_at "tw"
    rw [O.frzL_map, kv_keys]
    refine for_map0 row ks0 (fun pre2 ρ => ∃ ks x5 x6, Mid p line ks0 pre2 ks (pre2.length * (p - 1).toNat) ∧ ρ = [some (.fz (grid rs)), some (.fz (.int w)), some (.fz (.int p)), some (.dcT a (kvOf ks)), some (.fz (row line)), x5, x6])
      ⟨ks0, x5, x6, ⟨fun v hv => .inl hv, fun v hv => hv, fun t ht => (by cases ht), by simp⟩, rfl⟩ ?_ ?_
    · rintro pre2 t post2 ρ hm2 ⟨ks1, y5, y6, M1, rfl⟩ N2 hN2
      have ht : t ∈ ks0 := by rw [hm2]; exact List.mem_append_right _ List.mem_cons_self
      have vt := hv0 t ht
      have hpl2 : pre2.length + 1 ≤ ks0.length := by rw [hm2, List.length_append]; show _ ≤ pre2.length + (post2.length + 1); omega
      have bnd : ks0.length + (pre2.length + 1) * (p - 1).toNat ≤ 400 := by
        have e1 : (pre2.length + 1) * (p - 1).toNat ≤ ks0.length * (p - 1).toNat := Nat.mul_le_mul_right _ hpl2
        have e2 : ((ks0.length + ks0.length * (p - 1).toNat : Nat) : Int) = (ks0.length : Int) * p := by
          rw [Int.natCast_add, Int.natCast_mul, Int.toNat_of_nonneg (by omega), Int.mul_sub]; omega
        omega
      walk_at "tw"
      refine ⟨⟨by decide, by decide, by omega, by omega⟩, ?_⟩
      refine for_map0 (fun j : Nat => D.int (1 + j)) (List.range (p - 1).toNat) (fun pre3 ρ => ∃ ks x6, Mid p line ks0 pre2 ks (pre2.length * (p - 1).toNat + pre3.length) ∧ (∀ j ∈ pre3, together p t (times (1 + (j : Int)) p line) ∈ ks) ∧ ρ = [some (.fz (grid rs)), some (.fz (.int w)), some (.fz (.int p)), some (.dcT a (kvOf ks)), some (.fz (row line)), some (.fz (row t)), x6])
        ⟨ks1, y6, M1, fun j hj => (by cases hj), rfl⟩ ?_ ?_
      · rintro pre3 j post3 ρ hm3 ⟨ks2, z6, M2, hc2, rfl⟩ N3 hN3
        have hj : j ∈ List.range (p - 1).toNat := by rw [hm3]; exact List.mem_append_right _ List.mem_cons_self
        have hj := List.mem_range.mp hj
        have hpl3 : pre3.length + 1 ≤ (p - 1).toNat := by
          have := congrArg List.length hm3
          rw [List.length_range, List.length_append] at this
          have e : (j :: post3).length = post3.length + 1 := rfl
          omega
        have ln := M2.len
        have bnd2 : ks2.length < 400 := by
          have : (pre2.length + 1) * (p - 1).toNat = pre2.length * (p - 1).toNat + (p - 1).toNat := Nat.succ_mul _ _
          omega
        obtain ⟨M3, in3, sub3⟩ := M2.put ht (1 + (j : Int))
        walk_at "tw"
        refine ⟨⟨_, line, 1 + (j : Int), p, rfl, .inl rfl, hp0, hp3, by omega, by omega, vline.2, ?_⟩⟩
        walk_at "tw"
        refine ⟨⟨_, t, _, p, rfl, .inl rfl, hp0, ?_⟩⟩
        walk_at "tw"
        refine ⟨_, row_keys _, ?_, ?_⟩
        · rw [kv_len]
          exact Nat.lt_of_lt_of_le bnd2 (by decide)
        rw [kv_put]
        refine hN3 _ ⟨_, some (.fz (.int (1 + (j : Int)))), ?_, fun i hi => ?_, rfl⟩
        · rw [List.length_append]; exact M3
        · rcases List.mem_append.mp hi with q | q
          · exact sub3 _ (hc2 i q)
          · rw [List.mem_singleton.mp q]; exact in3
      · rintro ρ ⟨ks2, z6, M2, hc2, rfl⟩
        refine hN2 _ ⟨ks2, some (.fz (row t)), z6, ⟨M2.snd, M2.old, fun t' ht' n h1 h2 => ?_, ?_⟩, rfl⟩
        · rcases List.mem_append.mp ht' with q | q
          · exact M2.cpl t' q n h1 h2
          · rw [List.mem_singleton.mp q]
            have := hc2 (n - 1).toNat (List.mem_range.mpr (by omega))
            rwa [show (1 : Int) + ((n - 1).toNat : Nat) = n by omega] at this
        · have := M2.len
          rw [List.length_range] at this
          rw [List.length_append]
          show ks2.length ≤ ks0.length + (pre2.length + 1) * (p - 1).toNat
          rw [Nat.succ_mul]
          omega
    · rintro ρ ⟨ks1, y5, y6, M1, rfl⟩
      have vt : ∀ t ∈ ks0, ∀ n : Int, Vec p w (together p t (times n p line)) := fun t ht n => together_vec hp0 (hv0 t ht).1 (by rw [times_len, vline.1])
      have vks : ∀ v ∈ ks1, Vec p w v := fun v hv => by
        rcases M1.snd v hv with q | ⟨t, ht, n, rfl⟩
        · exact hv0 v q
        · exact vt t ht n
      refine hN _ ⟨ks1, some (.fz (row line)), y5, y6, vks, fun v hv => ⟨fun h => ?_, fun h => ?_⟩, ?_, rfl⟩
      · intro x hx hn
        have hn := nul_append.mp hn
        have base : ∀ t ∈ ks0, dot t x % p = 0 := fun t ht => (hs0 t (hv0 t ht)).mp ht x hx hn.1
        rcases M1.snd v h with q | ⟨t, ht, n, rfl⟩
        · exact base v q
        · rw [dot_together (by rw [times_len, (hv0 t ht).1, vline.1]), em_add (show dot t x % p = 0 % p by rw [base t ht]; simp) (dot_times.trans (em_mul rfl (show dot line x % p = 0 % p by rw [hn.2 line List.mem_cons_self]; simp)))]
          simp
      · obtain ⟨n, h0, h1, hn⟩ := perp_snoc (fld hp) hpre vline hv h
        have vl : Vec p w (less v line n p) := ⟨by rw [less_len (by rw [hv.1, vline.1])]; exact hv.1, less_in hp0⟩
        have hin := (hs0 _ vl).mpr hn
        have back := less_back (n := n) hv vline.1
        by_cases e : n = 0
        · subst e
          have : less v line 0 p = v := by
            refine ext_getD (by rw [less_len (by rw [hv.1, vline.1])]) fun j hj => ?_
            rw [less_len (by rw [hv.1, vline.1])] at hj
            rw [less_get (by rw [hv.1, vline.1]) hj, Int.zero_mul, Int.sub_zero]
            have b := inR_get hp0 hv.2 j
            exact Int.emod_eq_of_lt b.1 b.2
          rw [this] at hin
          exact M1.old v hin
        · rw [← back]
          exact M1.cpl _ hin n (by omega) h1
      · have := M1.len
        have e2 : ((ks0.length + ks0.length * (p - 1).toNat : Nat) : Int) = (ks0.length : Int) * p := by
          rw [Int.natCast_add, Int.natCast_mul, Int.toNat_of_nonneg (by omega), Int.mul_sub]; omega
        rw [List.length_append]
        show ((ks1.length : Nat) : Int) ≤ p ^ (pre.length + 1)
        rw [Int.pow_succ]
        have e3 : (ks0.length : Int) * p ≤ p ^ pre.length * p := Int.mul_le_mul_of_nonneg_right hl0 (by omega)
        omega
  · rintro ρ ⟨ks, x4, x5, x6, hv, hs, hl, rfl⟩
    walk_at "tw"
    refine ⟨trivial, k a ks hv hs ?_⟩
    have := pm rs.length (Nat.le_refl _)
    omega
theorem few_pow {p : Int} (hp : 2 ≤ p) {n : Nat} (h : p ^ (min n 12) ≤ 400) : p ^ n ≤ 400 := by
  rcases Nat.lt_or_ge n 12 with q | q
  · rwa [Nat.min_eq_left (by omega)] at h
  · rw [Nat.min_eq_right q] at h
    have : ∀ n : Nat, (2 : Int) ^ n ≤ p ^ n ∧ 0 ≤ p ^ n := fun n => by
      induction n with
      | zero => rw [Int.pow_zero, Int.pow_zero]; exact ⟨Int.le_refl _, by decide⟩
      | succ n ih =>
        rw [Int.pow_succ, Int.pow_succ]
        exact ⟨Int.mul_le_mul ih.1 hp (by decide) ih.2, Int.mul_nonneg ih.2 (by omega)⟩
    have a1 := (this 12).1
    have a2 : (2 : Int) ^ 12 = 4096 := by decide
    omega
theorem does__law_few : ∀ os P, sp__law_few os P → wb__law_few (start0 2 os) (endsOf os P) := by
  rintro os P ⟨g, p, rfl, hp, hp2, hl, k⟩
  walk_at "tw"
  refine ⟨_, rfl, ?_⟩
  walk_at "tw"
  rw [List.length_map]
  refine ⟨⟨p, g.length, rfl, hp, hp2, hl, ?_⟩⟩
  walk_at "tw"
  exact ⟨trivial, k⟩
theorem fm_filter {α : Type} (f : α → O) (q : α → Bool) (l : List α) : (l.filterMap fun v => if q v = true then some (f v) else none) = (l.filter q).map f := by
  induction l with
  | nil => rfl
  | cons v l ih =>
    rw [List.filterMap_cons, List.filter_cons]
    by_cases h : q v = true
    · rw [if_pos h, if_pos h, List.map_cons, ih]
    · rw [if_neg h, if_neg h, ih]
theorem does__law_common_right : ∀ os P, sp__law_common_right os P → wb__law_common_right (start0 10 os) (endsOf os P) := by
  rintro os P ⟨rs, ts, w, p, rfl, hp, hr, ht, hl, hl2, hw0, hw, k⟩
  obtain ⟨hp2, hp3⟩ := prime_le hp
  have hp1 : 1 < p := by omega
  walk_at "tw"
  refine ⟨⟨_, rs, _, ts, w, p, rfl, .inl rfl, .inl rfl, hp, hr, ht, by omega, by omega, hw, fun C RC hC nC => ?_⟩⟩
  have vC := rowsOf_vec RC
  have lC := rowsOf_len C
  walk_at "tw"
  refine ⟨⟨_, rowsOf C, w, p, rfl, .inl rfl, hp, vC, by omega, by omega, fun C2 R2 n2 => ?_⟩⟩
  have e2 : C2 = C := rref_uniq hp1 R2 RC fun x hx => n2 x
  subst e2
  walk_at "tw"
  refine ⟨⟨_, _, rfl, ?_⟩⟩
  rw [decide_eq_true rfl]
  walk_at "tw"
  refine ⟨fun h => (nomatch h), fun _ => ?_⟩
  walk_at "tw"
  refine ⟨rfl, rfl, ⟨⟨_, ts, _, rs, w, p, rfl, .inl rfl, .inl rfl, hp, ht, hr, by omega, by omega, hw, fun C3 R3 h3 n3 => ?_⟩⟩⟩
  have e3 : C3 = C2 := rref_uniq hp1 R3 RC fun x hx => by
    rw [n3 x hx, nC x hx]
    exact perp_congr (fun y _ => ⟨fun h => ⟨h.2, h.1⟩, fun h => ⟨h.2, h.1⟩⟩) x
  subst e3
  walk_at "tw"
  refine ⟨_, grid_eq 58 _ _, ?_⟩
  rw [decide_eq_true rfl]
  refine ⟨fun h => (nomatch h), fun _ => ?_⟩
  walk_at "tw"
  refine ⟨⟨_, rs, w, p, rfl, .inl rfl, hp, hr, by omega, by omega, fun B1 R1 n1 => ?_⟩⟩
  have l1 := rowsOf_len B1
  have w1 := rref_len R1
  have v1 := rowsOf_vec R1
  walk_at "tw"
  refine ⟨⟨_, ts, w, p, rfl, .inl rfl, hp, ht, by omega, by omega, fun B2 Q2 m2 => ?_⟩⟩
  have l2 := rowsOf_len B2
  have w2 := rref_len Q2
  have v2 := rowsOf_vec Q2
  walk_at "tw"
  refine ⟨by show 2 ≤ sizeLine; decide, rfl, ?_⟩
  walk_at "tw"
  refine ⟨?_, ?_⟩
  · rw [List.length_map, List.length_map, l1]
    exact Nat.le_trans (show B1.length + ts.length ≤ 1000 by omega) (by decide)
  walk_at "tw"
  refine ⟨⟨_, rowsOf B1 ++ ts, w, p, rfl, .inl (by rw [List.map_append]), hp, (fun r hr => (List.mem_append.mp hr).elim (v1 r) (ht r)), by rw [List.length_append]; omega, by omega, fun S RS nS => ?_⟩⟩
  have lS := rowsOf_len S
  have hCB : ∀ x, Vec p w x → (nul p (rowsOf C3) x ↔ perp p w (fun y => perp p w (nul p (rowsOf B1)) y ∧ perp p w (nul p (rowsOf B2)) y) x) := fun x hx => by
    rw [nC x hx]
    refine perp_congr (fun y hy => ?_) x
    rw [perp_congr (fun z _ => n1 z) y, perp_congr (fun z _ => m2 z) y]
  have dim := dim_eq (fld hp) R1 Q2 RS RC (fun x hx => by rw [nS x, nul_append, m2 x]) hCB
  walk_at "tw"
  refine ⟨_, rfl, ?_⟩
  walk_at "tw"
  refine ⟨_, rfl, ?_⟩
  walk_at "tw"
  refine ⟨_, rfl, ?_⟩
  walk_at "tw"
  refine ⟨_, rfl, ?_⟩
  have cnt : ((((rowsOf C3).map row).length : Nat) : Int) = (((rowsOf B1).map row).length : Nat) + (((rowsOf B2).map row).length : Nat) - (((rowsOf S).map row).length : Nat) := by
    rw [List.length_map, List.length_map, List.length_map, List.length_map]
    omega
  walk_at "tw"
  refine ⟨fun h => ?_, fun _ => ?_⟩
  · have h : (!decide (((((rowsOf C3).map row).length : Nat) : Int) = (((rowsOf B1).map row).length : Nat) + (((rowsOf B2).map row).length : Nat) - (((rowsOf S).map row).length : Nat))) = true := h
    rw [decide_eq_true cnt] at h
    cases h
  walk_at "tm"
  refine seq_mid (fun ρ => ρ = [some (.fz (grid (rowsOf B1))), some (.fz (grid ts)), some (.fz (.int w)), some (.fz (.int p)), some (.fz (grid (rowsOf C3))), some (.fz (grid (rowsOf B2))), some (.fz (grid (rowsOf S))), none, none, none]) (fun N1 hN1 => ?_) ?_
  · walk_at "tw"
    refine ⟨⟨rowsOf B1, p, rfl, hp2, hp3, by omega, ?_⟩⟩
    walk_at "tw"
    refine ⟨fun hf1 => ?_, fun _ => ?_⟩
    · have hf1 := few_pow hp2 (of_decide_eq_true hf1)
      walk_at "tw"
      refine ⟨⟨rowsOf B2, p, rfl, hp2, hp3, by omega, ?_⟩⟩
      walk_at "tw"
      refine ⟨fun hf2 => ?_, fun _ => hN1 _ rfl⟩
      have hf2 := few_pow hp2 (of_decide_eq_true hf2)
      walk_at "tw"
      refine ⟨⟨rowsOf B2, w, p, rfl, hp, v2, hw0, by omega, hf2, fun a2 ks2 hk2 hs2 hl2' => ?_⟩⟩
      walk_at "tw"
      refine ⟨⟨rowsOf B1, w, p, rfl, hp, v1, hw0, by omega, hf1, fun a1 ks1 hk1 hs1 hl1' => ?_⟩⟩
      walk_at "tw"
      rw [kv_keys]
      refine lc_mapA row ks1 (fun v => if decide (v ∈ ks2) = true then some (O.fz (row v)) else none) (fun v hv A B hA hB => ?_) ?_
      · walk_at "tw"
        refine ⟨_, row_keys v, ?_⟩
        rw [kv_get]
        walk_at "tw"
        refine ⟨fun h => ?_, fun h => ?_⟩
        · have h : decide (v ∈ ks2) = true := h
          walk_at "tw"
          exact hA _ (by rw [if_pos h])
        · exact hB (by rw [if_neg (by rw [show decide (v ∈ ks2) = false from h]; exact Bool.false_ne_true)])
      intro b
      rw [fm_filter (fun v => O.fz (row v)) (fun v => decide (v ∈ ks2))]
      walk_at "tw"
      rw [frzL_mapfz]
      refine ⟨⟨_, ks1.filter fun v => decide (v ∈ ks2), w, p, rfl, .inr rfl, hp, fun r hr => hk1 r (List.mem_filter.mp hr).1, Nat.le_trans (List.length_filter_le _ _) (by omega), by omega, fun D RD nD => ?_⟩⟩
      have eD : D = C3 := rref_uniq hp1 RD RC fun x hx => by
        rw [nD x, hCB x hx]
        constructor
        · intro h y hy hb
          have := h y (List.mem_filter.mpr ⟨(hs1 y hy).mpr hb.1, decide_eq_true ((hs2 y hy).mpr hb.2)⟩)
          rwa [dot_comm] at this
        · intro h y hy
          obtain ⟨h1, h2⟩ := List.mem_filter.mp hy
          have vy := hk1 y h1
          rw [dot_comm]
          exact h y vy ⟨(hs1 y vy).mp h1, (hs2 y vy).mp (of_decide_eq_true h2)⟩
      subst eD
      walk_at "tw"
      refine ⟨_, grid_eq 58 _ _, ?_⟩
      rw [decide_eq_true rfl]
      exact ⟨trivial, k⟩
    · walk_at "tw"
      exact ⟨fun h => (nomatch h), fun _ => hN1 _ rfl⟩
  rintro ρ rfl
  walk_at "tw"
  refine lc_mapA row (rowsOf C3) (fun _ => none) (fun c hc A B hA hB => ?_) ?_
  · have bm := both_mem (fld hp) R1 Q2 hCB (vC c hc) fun x hx hn => hn c hc
    walk_at "tw"
    refine ⟨⟨_, rowsOf B1, c, p, w, rfl, .inl rfl, hp, v1, vC c hc, by omega, fun b hb => ?_⟩⟩
    have eb : b = true := hb.mpr bm.1
    subst eb
    walk_at "tw"
    refine ⟨fun h => (nomatch h), fun _ => ?_⟩
    walk_at "tw"
    refine ⟨⟨_, ts, c, p, w, rfl, .inl rfl, hp, ht, vC c hc, by omega, fun b hb => ?_⟩⟩
    have eb : b = true := hb.mpr fun x hx hn => bm.2 x hx ((m2 x).mpr hn)
    subst eb
    walk_at "tw"
    exact ⟨fun h => (nomatch h), fun _ => hB rfl⟩
  intro b
  walk_at "tw"
  rw [all_false fun _ _ => rfl]
  refine ⟨by show 0 ≤ sizeLine; decide, fun b2 => ?_⟩
  walk_at "tw"
  refine ⟨_, deq_lnil, ?_⟩
  exact ⟨trivial, k⟩
theorem rest_lt {w : Nat} {cols : List Nat} {j : Nat} (h : j ∈ restOf w cols) : j < w := List.mem_range.mp (List.mem_filter.mp h).1
theorem all0 (cols : List Nat) (v : List Int) : (O.frzL (cols.filterMap fun j => if v.getD j 0 = 0 then none else some (O.fz (D.int (j : Nat))))).isEmpty = (cols.all fun j => v.getD j 0 == 0) := by
  induction cols with
  | nil => rfl
  | cons j cols ih =>
    rw [List.filterMap_cons, List.all_cons]
    by_cases h : v.getD j 0 = 0
    · rw [if_pos h, h]
      exact ih
    · rw [if_neg h]
      have : (v.getD j 0 == 0) = false := by simpa using h
      rw [this]
      rfl
theorem does__law_without_right : ∀ os P, sp__law_without_right os P → wb__law_without_right (start0 13 os) (endsOf os P) := by
  rintro os P ⟨rs, cols, w, p, rfl, hp, hr, hl, hw0, hw, hn, hc, k⟩
  obtain ⟨hp2, hp3⟩ := prime_le hp
  have hp1 : 1 < p := by omega
  have hp0 : 0 < p := by omega
  have cl := col_len hn hc
  have rl := rest_len hn hc
  walk_at "tw"
  refine ⟨⟨_, rs, cols, w, p, rfl, .inl rfl, hp, hr, by omega, hw, hn, hc, fun C RC hC nC => ?_⟩⟩
  have vC := rowsOf_vec RC
  have lC := rowsOf_len C
  have cC := rref_len RC
  walk_at "tw"
  refine ⟨by omega, ?_⟩
  rw [Int.toNat_natCast]
  refine lc_mapA (fun k : Nat => D.int k) (List.range w) (fun k => if cols.contains k = true then none else some (O.fz (D.int (k : Nat)))) (fun j hj A B hA hB => ?_) ?_
  · walk_at "tw"
    refine ⟨cells cols, rfl, rfl, cells_flat _, ?_⟩
    rw [cells_any]
    cases hc : cols.contains j with
    | true =>
      walk_at "tw"
      exact ⟨fun h => (nomatch h), fun _ => hB (by rw [hc]; rfl)⟩
    | false =>
      walk_at "tw"
      refine ⟨fun _ => ?_, fun h => nomatch h⟩
      walk_at "tw"
      exact hA _ (by rw [hc]; rfl)
  intro b
  rw [rest_fm]
  have er : ((((restOf w cols).map fun k => D.int (k : Nat)).length : Nat) : Int) = ((w - cols.length : Nat) : Int) := by rw [List.length_map, rl]
  walk_at "tw"
  refine ⟨(restOf w cols).map fun k => D.int (k : Nat), congrArg some (frzL_mapfz (fun k : Nat => D.int k) _), ?_⟩
  rw [er]
  walk_at "tw"
  refine ⟨⟨_, rowsOf C, w - cols.length, p, rfl, .inl rfl, hp, vC, by omega, by omega, fun C2 R2 n2 => ?_⟩⟩
  have e2 : C2 = C := rref_uniq hp1 R2 RC fun x hx => n2 x
  subst e2
  walk_at "tw"
  refine ⟨⟨_, _, rfl, ?_⟩⟩
  rw [decide_eq_true rfl]
  walk_at "tw"
  refine ⟨fun h => (nomatch h), fun _ => ?_⟩
  walk_at "tw"
  refine ⟨rfl, rfl, ⟨⟨_, rs, cols, w, p, rfl, .inl rfl, hp, hr, by omega, hw, hn, hc, fun C3 R3 h3 n3 => ?_⟩⟩⟩
  have e3 : C3 = C2 := wo_uniq hp1 hn hc R3 RC n3 nC
  subst e3
  walk_at "tw"
  refine ⟨_, grid_eq 58 _ _, ?_⟩
  rw [decide_eq_true rfl]
  refine ⟨fun h => (nomatch h), fun _ => ?_⟩
  walk_at "tw"
  refine ⟨⟨_, rs, w, p, rfl, .inl rfl, hp, hr, by omega, by omega, fun B RB nB => ?_⟩⟩
  have lB := rowsOf_len B
  have wB := rref_len RB
  have vB := rowsOf_vec RB
  have nCB : WoOk p w cols (rowsOf B) C3 := fun u y hu hy e => by
    rw [nC u y hu hy e]
    exact perp_congr (fun z _ => (nB z).symm) u
  walk_at "tw"
  refine lc_all row (rowsOf B) (fun r => .fz (row (turn cols r))) (fun r hr A Bb hA => ?_) ?_
  · have vr := vB r hr
    walk_at "tw"
    refine ⟨fun _ => ?_, fun h => nomatch h⟩
    walk_at "tw"
    refine lc_all (fun k : Nat => D.int k) cols (fun j => .fz (.int (r.getD j 0))) (fun j hj A2 B2 hA2 => ?_) ?_
    · walk_at "tw"
      refine ⟨fun _ => ?_, fun h => nomatch h⟩
      walk_at "tw"
      exact ⟨_, row_at (by rw [vr.1]; exact hc j hj), hA2⟩
    · intro c
      walk_at "tw"
      rw [turn_row, frzL_mapfz]
      exact hA
  intro b2
  walk_at "tw"
  refine ⟨cells cols, rfl, ?_⟩
  have ec : (((cells cols).length : Nat) : Int) = ((cols.length : Nat) : Int) := by unfold cells; rw [List.length_map]
  rw [ec]
  walk_at "tw"
  rw [frzL_mapfz]
  refine ⟨⟨_, (rowsOf B).map (turn cols), cols.length, p, rfl, .inr (by rw [List.map_map]; rfl), hp, fun r hr => ?_, by rw [List.length_map]; omega, by omega, fun S RS nS => ?_⟩⟩
  · obtain ⟨m, hm, rfl⟩ := List.mem_map.mp hr
    exact ⟨turn_len, turn_in hp0 (vB m hm).2⟩
  have dim := cut_dim (fld hp) hn hc RB RS RC (fun z _ => nS z) nCB
  have lS := rowsOf_len S
  walk_at "tw"
  refine ⟨_, rfl, ?_⟩
  walk_at "tw"
  refine ⟨_, rfl, ?_⟩
  walk_at "tw"
  refine ⟨_, rfl, ?_⟩
  have cnt : ((((rowsOf C3).map row).length : Nat) : Int) = (((rowsOf B).map row).length : Nat) - (((rowsOf S).map row).length : Nat) := by
    rw [List.length_map, List.length_map, List.length_map]
    omega
  walk_at "tw"
  refine ⟨fun h => ?_, fun _ => ?_⟩
  · have h : (!decide (((((rowsOf C3).map row).length : Nat) : Int) = (((rowsOf B).map row).length : Nat) - (((rowsOf S).map row).length : Nat))) = true := h
    rw [decide_eq_true cnt] at h
    cases h
  walk_at "tm"
  refine seq_mid (fun ρ => ρ = [some (.fz (grid (rowsOf B))), some (.fz (.tup (cells cols))), some (.fz (.int w)), some (.fz (.int p)), some (.fz (grid (rowsOf C3))), some (.lst b ((restOf w cols).map fun k => .fz (.int (k : Nat)))), some (.fz (grid (rowsOf S))), none, none, none, none, none, none]) (fun N1 hN1 => ?_) ?_
  · walk_at "tw"
    refine ⟨⟨rowsOf B, p, rfl, hp2, hp3, by omega, ?_⟩⟩
    walk_at "tw"
    refine ⟨fun hf => ?_, fun _ => hN1 _ rfl⟩
    have hf := few_pow hp2 (of_decide_eq_true hf)
    walk_at "tw"
    refine ⟨⟨rowsOf B, w, p, rfl, hp, vB, hw0, by omega, hf, fun a1 ks hk hs hkl => ?_⟩⟩
    walk_at "tw"
    rw [kv_keys]
    refine lc_mapA row ks (fun v => if (cols.all fun j => v.getD j 0 == 0) = true then some (O.fz (row v)) else none) (fun v hv A Bb hA hB => ?_) ?_
    · have vv := hk v hv
      walk_at "tw"
      refine lc_mapA (fun k : Nat => D.int k) cols (fun j => if v.getD j 0 = 0 then none else some (O.fz (D.int (j : Nat)))) (fun j hj A2 B2 hA2 hB2 => ?_) ?_
      · walk_at "tw"
        refine ⟨_, row_at (by rw [vv.1]; exact hc j hj), ?_⟩
        walk_at "tw"
        refine ⟨fun h => ?_, fun h => ?_⟩
        · have h : (!decide (v.getD j 0 = 0)) = true := h
          have h : ¬ v.getD j 0 = 0 := by simpa using h
          walk_at "tw"
          exact hA2 _ (by rw [if_neg h])
        · have h : (!decide (v.getD j 0 = 0)) = false := h
          have h : v.getD j 0 = 0 := by simpa using h
          exact hB2 (by rw [if_pos h])
      intro c
      walk_at "tw"
      refine ⟨by show 0 ≤ sizeLine; decide, fun c2 => ?_⟩
      walk_at "tw"
      refine ⟨_, deq_lnil, ?_⟩
      rw [all0]
      refine ⟨fun h => ?_, fun h => ?_⟩
      · walk_at "tw"
        exact hA _ (by rw [if_pos h])
      · exact hB (by rw [if_neg (by rw [h]; exact Bool.false_ne_true)])
    intro b3
    rw [fm_filter (fun v => O.fz (row v))]
    have ne : (ks.filter fun v => cols.all fun j => v.getD j 0 == 0) ≠ [] := fun e => by
      have z : Vec p w (List.replicate w 0) := ⟨by simp, fun x hx => by rw [List.eq_of_mem_replicate hx]; omega⟩
      have zk : ∀ j : Nat, (List.replicate w (0 : Int)).getD j 0 = 0 := fun j => by
        rw [List.getD_eq_getElem?_getD, List.getElem?_replicate]
        split <;> rfl
      have : List.replicate w (0 : Int) ∈ (ks.filter fun v => cols.all fun j => v.getD j 0 == 0) := List.mem_filter.mpr ⟨(hs _ z).mpr fun x hx _ => by rw [dot_zero zk]; simp, by
        rw [List.all_eq_true]
        intro j _
        rw [zk j]; rfl⟩
      rw [e] at this
      cases this
    have vdue : ∀ v ∈ (ks.filter fun v => cols.all fun j => v.getD j 0 == 0), Vec p w v := fun v hv => hk v (List.mem_filter.mp hv).1
    have ldue : (ks.filter fun v => cols.all fun j => v.getD j 0 == 0).length ≤ 400 := Nat.le_trans (List.length_filter_le _ _) hkl
    have wall := fun x (hx : Vec p (w - cols.length) x) => wo_all hp1 hn hc RC nCB hk hs hx
    generalize (ks.filter fun v => cols.all fun j => v.getD j 0 == 0) = due at ne vdue ldue wall
    walk_at "tw"
    rw [frzL_mapfz]
    refine lc_all2 (ρ2 := [some (.fz (grid (rowsOf B))), some (.fz (.tup (cells cols))), some (.fz (.int w)), some (.fz (.int p)), some (.fz (grid (rowsOf C3))), some (.fz (.lst ((restOf w cols).map fun k => D.int (k : Nat)))), some (.fz (grid (rowsOf S))), some (.fz (.dcT (kvOf ks))), some (.fz (.lst (due.map row))), none, none, none, none]) row due (fun r => .fz (row (turn (restOf w cols) r))) (fun r hr A Bb hA => ?_) (fun r hr A Bb hA => ?_) (fun e => absurd e ne) ?_
    · have vr := vdue r hr
      walk_at "tw"
      refine ⟨fun _ => ?_, fun h => nomatch h⟩
      walk_at "tw"
      rw [frzL_mapfz]
      refine lc_all (fun k : Nat => D.int k) (restOf w cols) (fun j => .fz (.int (r.getD j 0))) (fun j hj A2 B2 hA2 => ?_) ?_
      · walk_at "tw"
        refine ⟨fun _ => ?_, fun h => nomatch h⟩
        walk_at "tw"
        exact ⟨_, row_at (by rw [vr.1]; exact rest_lt hj), hA2⟩
      · intro c
        walk_at "tw"
        rw [turn_row, frzL_mapfz]
        exact hA
    · have vr := vdue r hr
      walk_at "tw"
      refine ⟨fun _ => ?_, fun h => nomatch h⟩
      walk_at "tw"
      refine lc_all (fun k : Nat => D.int k) (restOf w cols) (fun j => .fz (.int (r.getD j 0))) (fun j hj A2 B2 hA2 => ?_) ?_
      · walk_at "tw"
        refine ⟨fun _ => ?_, fun h => nomatch h⟩
        walk_at "tw"
        exact ⟨_, row_at (by rw [vr.1]; exact rest_lt hj), hA2⟩
      · intro c
        walk_at "tw"
        rw [turn_row, frzL_mapfz]
        exact hA
    intro b4
    walk_at "tw"
    refine ⟨_, rfl, ?_⟩
    rw [er]
    walk_at "tw"
    rw [frzL_mapfz]
    refine ⟨⟨_, due.map (turn (restOf w cols)), w - cols.length, p, rfl, .inr (by rw [List.map_map]; rfl), hp, fun r hr => ?_, by rw [List.length_map]; omega, by omega, fun E RE nE => ?_⟩⟩
    · obtain ⟨m, hm, rfl⟩ := List.mem_map.mp hr
      exact ⟨by rw [turn_len, rl], turn_in hp0 (vdue m hm).2⟩
    have eE : E = C3 := rref_uniq hp1 RE RC fun x hx => by rw [nE x, wall x hx]
    subst eE
    walk_at "tw"
    refine ⟨_, grid_eq 58 _ _, ?_⟩
    rw [decide_eq_true rfl]
    exact ⟨trivial, k⟩
  rintro ρ rfl
  walk_at "tw"
  refine for_map0 row (rowsOf C3) (fun pre ρ => ∃ r5 y9 y10 y11 y12, (r5 = .lst b ((restOf w cols).map fun k => .fz (.int (k : Nat))) ∨ r5 = .fz (.lst ((restOf w cols).map fun k => .int (k : Nat)))) ∧ ρ = [some (.fz (grid (rowsOf B))), some (.fz (.tup (cells cols))), some (.fz (.int w)), some (.fz (.int p)), some (.fz (grid (rowsOf C3))), some r5, some (.fz (grid (rowsOf S))), none, none, y9, y10, y11, y12]) ⟨_, none, none, none, none, .inl rfl, rfl⟩ ?_ ?_
  · rintro pre y post ρ hm ⟨r5, y9, y10, y11, y12, h5, rfl⟩ N2 hN2
    have hy : y ∈ rowsOf C3 := by rw [hm]; exact List.mem_append_right _ List.mem_cons_self
    have vy := vC y hy
    obtain ⟨wv, wt⟩ := whole_ok hp0 hn hc vy
    have tail : ∀ (a10 : Addr) (y11 y12 : Option O), wForL (gT 2 (gsCons (gN 11) (gsCons (gN 12) gsNil))) (wSetIx 10 (wVar 11) (wFz (wVar 12))) (((restOf w cols).zip y).map fun q => .tup [.int (q.1 : Nat), .int q.2])
        [some (.fz (grid (rowsOf B))), some (.fz (.tup (cells cols))), some (.fz (.int w)), some (.fz (.int p)), some (.fz (grid (rowsOf C3))), some (.fz (.lst ((restOf w cols).map fun k => .int (k : Nat)))), some (.fz (grid (rowsOf S))), none, none, some (.fz (row y)), some (.lst a10 ((zeros w).map fun z => .fz (.int z))), y11, y12]
        ((((endsOf [.fz (grid rs), .fz (.tup (cells cols)), .fz (.int w), .fz (.int p)] P).on fun ρ' => wRet (wFz (wC (.bl true))) ρ' (endsOf [.fz (grid rs), .fz (.tup (cells cols)), .fz (.int w), .fz (.int p)] P)).lp N2).on fun ρ' => wIfS (wNot (wTru (wFrz (wCall sp_follows (wCons (wVar 0) (wCons (wFrz (wO1 semTuple (wVar 10))) (wCons (wVar 3) wNil))))))) (wRet (wFz (wC (.bl false)))) wSkip ρ' (((endsOf [.fz (grid rs), .fz (.tup (cells cols)), .fz (.int w), .fz (.int p)] P).on fun ρ' => wRet (wFz (wC (.bl true))) ρ' (endsOf [.fz (grid rs), .fz (.tup (cells cols)), .fz (.int w), .fz (.int p)] P)).lp N2)) := fun a10 y11 y12 => by
      refine for_map0 (fun q : Nat × Int => .tup [.int (q.1 : Nat), .int q.2]) ((restOf w cols).zip y) (fun pre ρ => ∃ y11 y12, ρ = [some (.fz (grid (rowsOf B))), some (.fz (.tup (cells cols))), some (.fz (.int w)), some (.fz (.int p)), some (.fz (grid (rowsOf C3))), some (.fz (.lst ((restOf w cols).map fun k => .int (k : Nat)))), some (.fz (grid (rowsOf S))), none, none, some (.fz (row y)), some (.lst a10 ((putAt pre (zeros w)).map fun z => .fz (.int z))), y11, y12]) ⟨y11, y12, rfl⟩ ?_ ?_
      · rintro pre q post ρ hm2 ⟨z11, z12, rfl⟩ N3 hN3
        have hq : q ∈ (restOf w cols).zip y := by rw [hm2]; exact List.mem_append_right _ List.mem_cons_self
        have hj := rest_lt (List.of_mem_zip (show (q.1, q.2) ∈ (restOf w cols).zip y from hq)).1
        walk_at "tw"
        refine ⟨rfl, ?_⟩
        walk_at "tw"
        refine ⟨q.1, q.1, rfl, ?_, ?_⟩
        · rw [List.length_map, putAt_len, ixN_in (by omega) (by simp [zeros]; omega)]
          rfl
        rw [map_setI]
        refine hN3 _ ⟨some (.fz (.int (q.1 : Nat))), some (.fz (.int q.2)), ?_⟩
        have e : putAt (pre ++ [q]) (zeros w) = (putAt pre (zeros w)).set q.1 q.2 := by
          unfold putAt
          rw [List.foldl_append]
          rfl
        rw [e]
      · rintro ρ ⟨z11, z12, rfl⟩
        walk_at "tw"
        rw [frzL_mapfz]
        refine ⟨⟨_, rowsOf B, _, p, w, rfl, .inl rfl, hp, vB, wv, by omega, fun bb hb => ?_⟩⟩
        have eb : bb = true := hb.mpr fun x hx hxn => (nCB _ y wv vy wt).mp (fun z hz hzn => hzn y hy) x hx hxn
        subst eb
        walk_at "tw"
        exact ⟨fun h => (nomatch h), fun _ => hN2 _ ⟨_, _, _, _, _, .inr rfl, rfl⟩⟩
    have go : ∀ (a10 : Addr), (List.replicate ((w : Int)).toNat (O.frzL [O.fz (D.int 0)])).flatten.map O.fz = (zeros w).map fun z => O.fz (.int z) := fun a10 => by
      rw [Int.toNat_natCast, flat_zero]
      rfl
    rcases h5 with rfl | rfl
    all_goals
      walk_at "tw"
      refine ⟨by show 1 ≤ sizeLine; decide, fun a9 => ?_⟩
      walk_at "tw"
      refine ⟨by omega, by omega, ?_, fun a10 => ?_⟩
      · show 1 * w ≤ sizeLine
        rw [Nat.one_mul]
        exact Nat.le_trans hw (by decide)
      rw [go a10]
      walk_at "tw"
      try rw [frzL_mapfz]
      rw [zip_map2]
      exact tail a10 _ _
  · rintro ρ ⟨r5, y9, y10, y11, y12, h5, rfl⟩
    walk_at "tw"
    exact ⟨trivial, k⟩
theorem does_law : ∀ os P, sp_law os P → wb_law (start0 11 os) (endsOf os P) := by
  rintro os P ⟨ns, hns, rfl, k⟩
  walk_at "tw"
  refine ⟨ns, rfl, fun a xs hd => ?_⟩
  walk_at "tw"
  refine ⟨by decide, ?_⟩
  refine for_rng 4 (fun i ρ => ∃ ys x2 x3 x4 x5 x6 x7 x8 x9, DS ys ∧ ρ = [some (.fz (.frl (ns.map .int))), some (.lst a ys), x2, x3, x4, x5, x6, x7, x8, x9, none]) ⟨xs, none, none, none, none, none, none, none, none, hd, rfl⟩ ?_ ?_
  · rintro i ρ hi ⟨ys, x2, x3, x4, x5, x6, x7, x8, x9, hy, rfl⟩ N hN
    walk_at "tw"
    refine ⟨⟨a, ys, rfl, hy, fun p ys hpm hy => ⟨_, _, rfl, ?_⟩⟩⟩
    obtain ⟨hb, hb2⟩ := prime_le hpm
    have hb0 : 0 < p := by omega
    have hp1 : 1 < p := by omega
    walk_at "tw"
    refine ⟨by show 4 ≤ sizeLine; decide, fun c => ?_⟩
    walk_at "tw"
    refine draw_i hy (by decide) (by decide) fun n1 ys h10 h11 hy => ⟨_, _, rfl, ?_⟩
    walk_at "tw"
    refine ⟨.int ([3, 6, 6, (40 : Int)][n1.toNat]'(by show n1.toNat < 4; omega)), atI_map D.int (xs := [3, 6, 6, (40 : Int)]) h10 h11, ?_⟩
    have hm : 0 < [3, 6, 6, (40 : Int)][n1.toNat]'(by show n1.toNat < 4; omega) ∧ [3, 6, 6, (40 : Int)][n1.toNat]'(by show n1.toNat < 4; omega) ≤ 40 := by
      have := List.getElem_mem (l := [3, 6, 6, (40 : Int)]) (show n1.toNat < 4 by omega)
      simp only [List.mem_cons, List.not_mem_nil, or_false] at this
      omega
    generalize [3, 6, 6, (40 : Int)][n1.toNat]'(by show n1.toNat < 4; omega) = mx at hm ⊢
    walk_at "tw"
    refine draw_i hy (by omega) (by omega) fun wd ys hw0 hw1 hy => ⟨_, _, rfl, ?_⟩
    obtain ⟨wd, rfl⟩ := Int.eq_ofNat_of_zero_le hw0
    have ew : (1 : Int) + (wd : Int) = ((1 + wd : Nat) : Int) := rfl
    walk_at "tw"
    rw [ew]
    generalize hw : 1 + wd = w
    have hw1 : 1 ≤ w := by omega
    have hw3 : w ≤ 41 := by omega
    refine draw_i hy (by decide) (by decide) fun m1 ys hm10 hm11 hy => ⟨_, _, rfl, ?_⟩
    obtain ⟨m1, rfl⟩ := Int.eq_ofNat_of_zero_le hm10
    walk_at "tw"
    refine ⟨⟨a, ys, w, p, m1, rfl, hy, by omega, hb, hb2, by omega, fun g ys hgl hg hy => ⟨_, _, rfl, ?_⟩⟩⟩
    have vg : ∀ r ∈ g, Vec p w r := hg
    walk_at "tw"
    refine draw_i hy (by decide) (by decide) fun m2 ys hm20 hm21 hy => ⟨_, _, rfl, ?_⟩
    obtain ⟨m2, rfl⟩ := Int.eq_ofNat_of_zero_le hm20
    walk_at "tw"
    refine ⟨⟨a, ys, w, p, m2, rfl, hy, by omega, hb, hb2, by omega, fun h ys hhl hh hy => ⟨_, _, rfl, ?_⟩⟩⟩
    have vh : ∀ r ∈ h, Vec p w r := hh
    walk_at "tm"
    refine seq_mid (fun ρ => ∃ ys h x7, DS ys ∧ (∀ r ∈ h, Vec p w r) ∧ h.length ≤ 6 ∧ ρ = [some (.fz (.frl (ns.map .int))), some (.lst a ys), some (.fz (.int i)), some (.fz (.int p)), some (.fz (.int w)), some (.fz (grid g)), some (.fz (grid h)), x7, x8, x9, none]) (fun N1 hN1 => ?_) ?_
    · have skip : ∀ ys, DS ys → N1 [some (.fz (.frl (ns.map .int))), some (.lst a ys), some (.fz (.int i)), some (.fz (.int p)), some (.fz (.int w)), some (.fz (grid g)), some (.fz (grid h)), x7, x8, x9, none] := fun ys hy => hN1 _ ⟨ys, h, x7, hy, vh, by omega, rfl⟩
      walk_at "tw"
      refine ⟨by show 0 ≤ sizeLine; decide, ?_⟩
      walk_at "tw"
      refine ⟨_, deq_tnil, ?_⟩
      walk_at "tw"
      refine ⟨fun hne => ?_, fun _ => ⟨fun h => (nomatch h), fun _ => skip ys hy⟩⟩
      have hgp : 0 < g.length := by
        rcases g with _ | ⟨r, g⟩
        · cases hne
        · exact Nat.succ_pos _
      walk_at "tw"
      refine draw_i hy (by decide) (by decide) fun d1 ys _ _ hy => ⟨_, _, rfl, ?_⟩
      walk_at "tw"
      refine ⟨fun _ => ?_, fun _ => skip ys hy⟩
      walk_at "tw"
      refine ⟨_, rfl, ?_⟩
      have lm : ((g.map row).length : Int) = g.length := by rw [List.length_map]
      walk_at "tw"
      refine draw_i hy (by omega) (by omega) fun d2 ys h20 h21 hy => ⟨_, _, rfl, ?_⟩
      walk_at "tw"
      refine ⟨row (g[d2.toNat]'(by omega)), atI_map row h20 (by omega), ?_⟩
      have vr := vg (g[d2.toNat]'(by omega)) (List.getElem_mem _)
      generalize g[d2.toNat]'(by omega) = r at vr ⊢
      walk_at "tw"
      refine draw_i hy (by omega) (by omega) fun d3 ys h30 h31 hy => ⟨_, _, rfl, ?_⟩
      walk_at "tw"
      refine ⟨⟨_, r, 1 + d3, p, rfl, .inl rfl, hb0, hb2, by omega, by omega, vr.2, ?_⟩⟩
      walk_at "tw"
      refine ⟨by show 1 ≤ sizeLine; decide, ?_⟩
      walk_at "tw"
      refine ⟨?_, ?_⟩
      · rw [List.length_map]
        exact Nat.le_trans (show h.length + 1 ≤ 1000 by omega) (by decide)
      have e : D.tup (h.map row ++ [row (times (1 + d3) p r)]) = grid (h ++ [times (1 + d3) p r]) := grid_app h [times (1 + d3) p r]
      rw [e]
      refine hN1 _ ⟨ys, _, _, hy, fun v hv => ?_, by rw [List.length_append]; show h.length + 1 ≤ 6; omega, rfl⟩
      rcases List.mem_append.mp hv with q | q
      · exact vh v q
      · rw [List.mem_singleton.mp q]; exact times_vec hb0 vr.1
    clear hh vh hhl hm20 hm21
    rintro ρ ⟨ys, h, x7, hy, vh, hhl, rfl⟩
    walk_at "tw"
    refine ⟨⟨g, h, w, p, rfl, hpm, vg, vh, by omega, by omega, hw1, by omega, ?_⟩⟩
    walk_at "tw"
    refine ⟨fun h => (nomatch h), fun _ => ?_⟩
    walk_at "tw"
    refine ⟨by decide, ?_⟩
    refine for_rng 2 (fun j ρ => ∃ ys x8 x9, DS ys ∧ ρ = [some (.fz (.frl (ns.map .int))), some (.lst a ys), some (.fz (.int i)), some (.fz (.int p)), some (.fz (.int w)), some (.fz (grid g)), some (.fz (grid h)), x7, x8, x9, none]) ⟨ys, x8, x9, hy, rfl⟩ ?_ ?_
    · rintro j ρ hj ⟨ys, y8, y9, hy, rfl⟩ N2 hN2
      walk_at "tw"
      refine ⟨by omega, ?_⟩
      rw [Int.toNat_natCast]
      refine lc_rng w (fun q ρ acc => ∃ ys l, DS ys ∧ l.Nodup ∧ (∀ z ∈ l, z < q) ∧ acc = (l.map fun (z : Nat) => O.fz (.int z)) ∧ ρ = [some (.fz (.frl (ns.map .int))), some (.lst a ys), some (.fz (.int i)), some (.fz (.int p)), some (.fz (.int w)), some (.fz (grid g)), some (.fz (grid h)), x7, some (.fz (.int j)), y9, none]) ⟨ys, [], hy, List.nodup_nil, (fun q hq => by cases hq), rfl, rfl⟩ ?_ ?_
      · rintro q ρ acc hq ⟨ys, l, hy, hnd, hlt, rfl, rfl⟩ A B hA hB
        walk_at "tw"
        refine ⟨by show 2 ≤ sizeLine; decide, fun c => ?_⟩
        walk_at "tw"
        refine ⟨.int ([2, (3 : Int)][j]'(by show j < 2; omega)), ?_, ?_⟩
        · exact (atI_map D.int (xs := [2, (3 : Int)]) (i := (j : Int)) (by omega) (by show (j : Int) < 2; omega)).trans rfl
        have hmm : 2 ≤ [2, (3 : Int)][j]'(by show j < 2; omega) ∧ [2, (3 : Int)][j]'(by show j < 2; omega) ≤ 3 := by
          have := List.getElem_mem (l := [2, (3 : Int)]) (show j < 2 by omega)
          simp only [List.mem_cons, List.not_mem_nil, or_false] at this
          omega
        generalize [2, (3 : Int)][j]'(by show j < 2; omega) = mm at hmm ⊢
        walk_at "tw"
        refine draw_i hy (by omega) (by omega) fun dr ys _ _ hy => ⟨_, _, rfl, ?_⟩
        walk_at "tw"
        refine ⟨fun _ => ?_, fun _ => hB _ ⟨ys, l, hy, hnd, fun z hz => Nat.lt_succ_of_lt (hlt z hz), rfl, rfl⟩⟩
        walk_at "tw"
        refine hA _ _ ⟨ys, l ++ [q], hy, List.nodup_append.mpr ⟨hnd, by simp, fun x hx y hy e => ?_⟩, fun z hz => ?_, by rw [List.map_append]; rfl, rfl⟩
        · have : y = q := by simpa using hy
          have := hlt x hx
          omega
        · rcases List.mem_append.mp hz with m | m
          · exact Nat.lt_succ_of_lt (hlt z m)
          · rw [List.mem_singleton.mp m]; exact Nat.lt_succ_self _
      rintro ρ acc ⟨ys, l, hy, hnd, hlt, rfl, rfl⟩
      intro c
      walk_at "tw"
      refine ⟨?_, ?_⟩
      · rw [List.length_map, List.length_map]
        exact Nat.le_trans (show g.length + h.length ≤ 1000 by omega) (by decide)
      walk_at "tw"
      intro c2
      walk_at "tw"
      rw [O.frzL_map, frzL_mapfz (fun q : Nat => D.int q), cutG_map]
      generalize hcols : cutG l none (some ((w : Int) - 1)) = cols
      have cnd : cols.Nodup := by
        rw [← hcols]
        exact hnd.sublist ((List.take_sublist _ _).trans (List.drop_sublist _ _))
      have clt : ∀ q ∈ cols, q < w := fun q hq => hlt q (cutG_mem (hcols ▸ hq))
      have e : D.tup (g.map row ++ h.map row) = grid (g ++ h) := grid_app g h
      rw [e]
      refine ⟨⟨g ++ h, cols, w, p, rfl, hpm, (fun r hr => (List.mem_append.mp hr).elim (vg r) (vh r)), by rw [List.length_append]; omega, hw1, by omega, cnd, clt, ?_⟩⟩
      walk_at "tw"
      exact ⟨fun h => (nomatch h), fun _ => hN2 _ ⟨ys, _, _, hy, rfl⟩⟩
    · rintro ρ ⟨ys, y8, y9, hy, rfl⟩
      exact hN _ ⟨ys, _, _, _, _, _, _, _, _, hy, rfl⟩
  · rintro ρ ⟨ys, x2, x3, x4, x5, x6, x7, x8, x9, hy, rfl⟩
    walk_at "tw"
    refine ⟨by show 0 ≤ sizeLine; decide, ?_⟩
    walk_at "tw"
    refine ⟨by show 1 ≤ sizeLine; decide, ?_⟩
    walk_at "tw"
    refine ⟨by show 1 ≤ sizeLine; decide, ?_⟩
    walk_at "tw"
    have nov : ∀ {q : Int} {v : Nat} (r : List Int), r ∈ ([] : List (List Int)) → Vec q v r := fun r h => by cases h
    have v1 : ∀ r ∈ ([[1]] : List (List Int)), Vec 2 1 r := fun r hr => by
      rw [List.mem_singleton.mp hr]
      exact ⟨rfl, fun x hx => by simp at hx; omega⟩
    have v2 : ∀ r ∈ ([[1, 2]] : List (List Int)), Vec 3 2 r := fun r hr => by
      rw [List.mem_singleton.mp hr]
      exact ⟨rfl, fun x hx => by simp at hx; omega⟩
    refine ⟨⟨_, [], _, [[1]], 1, 2, rfl, .inl rfl, .inl rfl, by decide, nov, v1, by decide, by decide, by decide, fun C RC hC nC => ?_⟩⟩
    have eC : C = [] := rref_uniq (by decide) RC rref_nil fun x hx => by
      rw [nC x hx]
      refine ⟨fun _ _ h => (by cases h), fun _ y hy h => ?_⟩
      rw [dot_comm]
      exact h.1 x hx fun _ q => (by cases q)
    subst eC
    walk_at "tw"
    refine ⟨by show 0 ≤ sizeLine; decide, ?_⟩
    walk_at "tw"
    refine ⟨_, deq_tnil, ?_⟩
    walk_at "tw"
    refine ⟨fun _ => ?_, fun h => nomatch h⟩
    walk_at "tw"
    refine ⟨by show 2 ≤ sizeLine; decide, ?_⟩
    walk_at "tw"
    refine ⟨by show 1 ≤ sizeLine; decide, ?_⟩
    walk_at "tw"
    refine ⟨by show 0 ≤ sizeLine; decide, ?_⟩
    walk_at "tw"
    refine ⟨⟨_, [[1, 2]], [], 2, 3, rfl, .inl rfl, by decide, v2, by decide, by decide, List.nodup_nil, (fun q hq => by cases hq), fun C RC hC nC => ?_⟩⟩
    have RC : Rref 3 2 C := RC
    have R1 : Rref 3 2 [(0, [1, 2])] := by
      have m : ∀ q ∈ ([(0, [1, 2])] : Bs), q = (0, [1, 2]) := fun q hq => List.mem_singleton.mp hq
      refine ⟨fun q hq => ?_, fun q hq => ?_, fun q hq => ?_, fun q hq => ?_, fun q hq k hk => ?_, fun q hq q' hq' ne => ?_, List.pairwise_singleton _ _⟩
      · rw [m q hq]; rfl
      · rw [m q hq]; exact (v2 _ List.mem_cons_self).2
      · rw [m q hq]; decide
      · rw [m q hq]; rfl
      · rw [m q hq] at hk; exact absurd hk (Nat.not_lt_zero _)
      · rw [m q hq, m q' hq'] at ne; exact absurd rfl ne
    have er : restOf 2 [] = List.range 2 := by decide
    have eC : C = [(0, [1, 2])] := rref_uniq (by decide) RC R1 fun x hx => by
      rw [← perp2 (rowsOf_vec RC) hx, ← perp2 (rowsOf_vec R1) hx]
      refine perp_congr (fun y hy => ?_) x
      refine nC y y hy hy ?_
      rw [er]
      exact turn_self hy.1
    subst eC
    walk_at "tw"
    refine ⟨by show 2 ≤ sizeLine; decide, ?_⟩
    walk_at "tw"
    refine ⟨by show 1 ≤ sizeLine; decide, ?_⟩
    walk_at "tw"
    refine ⟨_, grid_eq 58 (rowsOf [(0, [1, 2])]) [[1, 2]], ?_⟩
    rw [decide_eq_true (show rowsOf [(0, [1, 2])] = [[1, 2]] by rfl)]
    exact ⟨trivial, k⟩
def topS (i : Nat) : Stmt := PySem.Challenge.pw_onetrace_k09_common_and_without.main.body.getD i (.Pass ⟨0, 0, 0, 0⟩)
abbrev s__law_state : Stmt := topS 16
abbrev N__law_state : List Str := ["script", "cells", "cell"]
theorem sc__law_state : FnScope N__law_state ["script"] (defScope s__law_state) := ⟨rfl, rfl, rfl, by decide +kernel, rfl, by decide +kernel, by decide +kernel⟩
abbrev s__law_draw : Stmt := topS 17
abbrev N__law_draw : List Str := ["state", "many", "cells", "at", "cell"]
theorem sc__law_draw : FnScope N__law_draw ["state", "many"] (defScope s__law_draw) := ⟨rfl, rfl, rfl, by decide +kernel, rfl, by decide +kernel, by decide +kernel⟩
abbrev s__law_prime : Stmt := topS 18
abbrev N__law_prime : List Str := ["state"]
theorem sc__law_prime : FnScope N__law_prime ["state"] (defScope s__law_prime) := ⟨rfl, rfl, rfl, by decide +kernel, rfl, by decide +kernel, by decide +kernel⟩
abbrev s__law_row : Stmt := topS 19
abbrev N__law_row : List Str := ["state", "wideness", "base", "way", "some", "k", "number"]
theorem sc__law_row : FnScope N__law_row ["state", "wideness", "base"] (defScope s__law_row) := ⟨rfl, rfl, rfl, by decide +kernel, rfl, by decide +kernel, by decide +kernel⟩
abbrev s__law_times : Stmt := topS 20
abbrev N__law_times : List Str := ["line", "n", "base", "number"]
theorem sc__law_times : FnScope N__law_times ["line", "n", "base"] (defScope s__law_times) := ⟨rfl, rfl, rfl, by decide +kernel, rfl, by decide +kernel, by decide +kernel⟩
abbrev s__law_together : Stmt := topS 21
abbrev N__law_together : List Str := ["line", "two", "base", "first"]
theorem sc__law_together : FnScope N__law_together ["line", "two", "base"] (defScope s__law_together) := ⟨rfl, rfl, rfl, by decide +kernel, rfl, by decide +kernel, by decide +kernel⟩
abbrev s__law_rows : Stmt := topS 22
abbrev N__law_rows : List Str := ["state", "wideness", "base", "many", "some", "k", "line", "way"]
theorem sc__law_rows : FnScope N__law_rows ["state", "wideness", "base", "many"] (defScope s__law_rows) := ⟨rfl, rfl, rfl, by decide +kernel, rfl, by decide +kernel, by decide +kernel⟩
abbrev s_less_row : Stmt := topS 5
abbrev N_less_row : List Str := ["row", "other", "n", "p", "number", "there"]
theorem sc_less_row : FnScope N_less_row ["row", "other", "n", "p"] (defScope s_less_row) := ⟨rfl, rfl, rfl, by decide +kernel, rfl, by decide +kernel, by decide +kernel⟩
abbrev s_cleared : Stmt := topS 6
abbrev N_cleared : List Str := ["pairs", "row", "p", "lead", "there"]
theorem sc_cleared : FnScope N_cleared ["pairs", "row", "p"] (defScope s_cleared) := ⟨rfl, rfl, rfl, by decide +kernel, rfl, by decide +kernel, by decide +kernel⟩
abbrev s_lead_of : Stmt := topS 3
abbrev N_lead_of : List Str := ["row", "at", "number"]
theorem sc_lead_of : FnScope N_lead_of ["row"] (defScope s_lead_of) := ⟨rfl, rfl, rfl, by decide +kernel, rfl, by decide +kernel, by decide +kernel⟩
abbrev s_times_row : Stmt := topS 4
abbrev N_times_row : List Str := ["row", "n", "p", "number"]
theorem sc_times_row : FnScope N_times_row ["row", "n", "p"] (defScope s_times_row) := ⟨rfl, rfl, rfl, by decide +kernel, rfl, by decide +kernel, by decide +kernel⟩
abbrev s_inverse : Stmt := topS 1
abbrev N_inverse : List Str := ["n", "p", "found", "base", "left"]
theorem sc_inverse : FnScope N_inverse ["n", "p"] (defScope s_inverse) := ⟨rfl, rfl, rfl, by decide +kernel, rfl, by decide +kernel, by decide +kernel⟩
abbrev s_laid_in : Stmt := topS 7
abbrev N_laid_in : List Str := ["pairs", "row", "p", "lead", "kept", "at", "there"]
theorem sc_laid_in : FnScope N_laid_in ["pairs", "row", "p"] (defScope s_laid_in) := ⟨rfl, rfl, rfl, by decide +kernel, rfl, by decide +kernel, by decide +kernel⟩
abbrev s_laid_out : Stmt := topS 8
abbrev N_laid_out : List Str := ["rows", "p", "pairs", "row"]
theorem sc_laid_out : FnScope N_laid_out ["rows", "p"] (defScope s_laid_out) := ⟨rfl, rfl, rfl, by decide +kernel, rfl, by decide +kernel, by decide +kernel⟩
abbrev s_reduced : Stmt := topS 9
abbrev N_reduced : List Str := ["rows", "p", "lead", "row"]
theorem sc_reduced : FnScope N_reduced ["rows", "p"] (defScope s_reduced) := ⟨rfl, rfl, rfl, by decide +kernel, rfl, by decide +kernel, by decide +kernel⟩
abbrev s_null_for : Stmt := topS 11
abbrev N_null_for : List Str := ["pairs", "spot", "width", "p", "found", "lead", "row"]
theorem sc_null_for : FnScope N_null_for ["pairs", "spot", "width", "p"] (defScope s_null_for) := ⟨rfl, rfl, rfl, by decide +kernel, rfl, by decide +kernel, by decide +kernel⟩
abbrev s_nulls_of : Stmt := topS 12
abbrev N_nulls_of : List Str := ["rows", "width", "p", "pairs", "leads", "lead", "row", "spot"]
theorem sc_nulls_of : FnScope N_nulls_of ["rows", "width", "p"] (defScope s_nulls_of) := ⟨rfl, rfl, rfl, by decide +kernel, rfl, by decide +kernel, by decide +kernel⟩
abbrev s_common : Stmt := topS 13
abbrev N_common : List Str := ["one", "other", "width", "p"]
theorem sc_common : FnScope N_common ["one", "other", "width", "p"] (defScope s_common) := ⟨rfl, rfl, rfl, by decide +kernel, rfl, by decide +kernel, by decide +kernel⟩
abbrev s__law_alike : Stmt := topS 25
abbrev N__law_alike : List Str := ["told", "wanted", "line", "number"]
theorem sc__law_alike : FnScope N__law_alike ["told", "wanted"] (defScope s__law_alike) := ⟨rfl, rfl, rfl, by decide +kernel, rfl, by decide +kernel, by decide +kernel⟩
abbrev s__law_inverse : Stmt := topS 23
abbrev N__law_inverse : List Str := ["n", "base", "k"]
theorem sc__law_inverse : FnScope N__law_inverse ["n", "base"] (defScope s__law_inverse) := ⟨rfl, rfl, rfl, by decide +kernel, rfl, by decide +kernel, by decide +kernel⟩
abbrev s__law_reduced : Stmt := topS 24
abbrev N__law_reduced : List Str := ["lot", "wideness", "base", "left", "done", "column", "picked", "unit", "line"]
theorem sc__law_reduced : FnScope N__law_reduced ["lot", "wideness", "base"] (defScope s__law_reduced) := ⟨rfl, rfl, rfl, by decide +kernel, rfl, by decide +kernel, by decide +kernel⟩
abbrev s__law_is_few : Stmt := topS 26
abbrev N__law_is_few : List Str := ["base", "times", "many", "k"]
theorem sc__law_is_few : FnScope N__law_is_few ["base", "times"] (defScope s__law_is_few) := ⟨rfl, rfl, rfl, by decide +kernel, rfl, by decide +kernel, by decide +kernel⟩
abbrev s__law_few : Stmt := topS 28
abbrev N__law_few : List Str := ["lot", "base"]
theorem sc__law_few : FnScope N__law_few ["lot", "base"] (defScope s__law_few) := ⟨rfl, rfl, rfl, by decide +kernel, rfl, by decide +kernel, by decide +kernel⟩
abbrev s__law_all : Stmt := topS 27
abbrev N__law_all : List Str := ["lot", "wideness", "base", "known", "line", "there", "n"]
theorem sc__law_all : FnScope N__law_all ["lot", "wideness", "base"] (defScope s__law_all) := ⟨rfl, rfl, rfl, by decide +kernel, rfl, by decide +kernel, by decide +kernel⟩
abbrev s_follows : Stmt := topS 10
abbrev N_follows : List Str := ["rows", "row", "p"]
theorem sc_follows : FnScope N_follows ["rows", "row", "p"] (defScope s_follows) := ⟨rfl, rfl, rfl, by decide +kernel, rfl, by decide +kernel, by decide +kernel⟩
abbrev s__law_common_right : Stmt := topS 29
abbrev N__law_common_right : List Str := ["first", "two", "wideness", "base", "told", "second", "both", "there", "due", "line"]
theorem sc__law_common_right : FnScope N__law_common_right ["first", "two", "wideness", "base"] (defScope s__law_common_right) := ⟨rfl, rfl, rfl, by decide +kernel, rfl, by decide +kernel, by decide +kernel⟩
abbrev s_without : Stmt := topS 14
abbrev N_without : List Str := ["rows", "columns", "width", "p", "rest", "turned", "at", "row", "lead"]
theorem sc_without : FnScope N_without ["rows", "columns", "width", "p"] (defScope s_without) := ⟨rfl, rfl, rfl, by decide +kernel, rfl, by decide +kernel, by decide +kernel⟩
abbrev s__law_without_right : Stmt := topS 30
abbrev N__law_without_right : List Str := ["lot", "spots", "wideness", "base", "told", "rest", "seen", "some", "due", "line", "whole", "at", "number"]
theorem sc__law_without_right : FnScope N__law_without_right ["lot", "spots", "wideness", "base"] (defScope s__law_without_right) := ⟨rfl, rfl, rfl, by decide +kernel, rfl, by decide +kernel, by decide +kernel⟩
abbrev s_law : Stmt := topS 31
abbrev N_law : List Str := ["script", "state", "turn", "base", "wide", "first", "two", "line", "k", "spots", "at"]
theorem sc_law : FnScope N_law ["script"] (defScope s_law) := ⟨rfl, rfl, rfl, by decide +kernel, rfl, by decide +kernel, by decide +kernel⟩
/-- what the top has written -/
structure Txt (K : PySem.W.Frag) (mg : Str → Option Value) where
  a__law_state : Addr
  fd__law_state : FuncData
  F__law_state : Fun K "_law_state" "_law_state" s__law_state a__law_state fd__law_state
  g__law_state : mg "_law_state" = some (.ref a__law_state)
  a__law_draw : Addr
  fd__law_draw : FuncData
  F__law_draw : Fun K "_law_draw" "_law_draw" s__law_draw a__law_draw fd__law_draw
  g__law_draw : mg "_law_draw" = some (.ref a__law_draw)
  a__law_prime : Addr
  fd__law_prime : FuncData
  F__law_prime : Fun K "_law_prime" "_law_prime" s__law_prime a__law_prime fd__law_prime
  g__law_prime : mg "_law_prime" = some (.ref a__law_prime)
  a__law_row : Addr
  fd__law_row : FuncData
  F__law_row : Fun K "_law_row" "_law_row" s__law_row a__law_row fd__law_row
  g__law_row : mg "_law_row" = some (.ref a__law_row)
  a__law_times : Addr
  fd__law_times : FuncData
  F__law_times : Fun K "_law_times" "_law_times" s__law_times a__law_times fd__law_times
  g__law_times : mg "_law_times" = some (.ref a__law_times)
  a__law_together : Addr
  fd__law_together : FuncData
  F__law_together : Fun K "_law_together" "_law_together" s__law_together a__law_together fd__law_together
  g__law_together : mg "_law_together" = some (.ref a__law_together)
  a__law_rows : Addr
  fd__law_rows : FuncData
  F__law_rows : Fun K "_law_rows" "_law_rows" s__law_rows a__law_rows fd__law_rows
  g__law_rows : mg "_law_rows" = some (.ref a__law_rows)
  a_less_row : Addr
  fd_less_row : FuncData
  F_less_row : Fun K "less_row" "less_row" s_less_row a_less_row fd_less_row
  g_less_row : mg "less_row" = some (.ref a_less_row)
  a_cleared : Addr
  fd_cleared : FuncData
  F_cleared : Fun K "cleared" "cleared" s_cleared a_cleared fd_cleared
  g_cleared : mg "cleared" = some (.ref a_cleared)
  a_lead_of : Addr
  fd_lead_of : FuncData
  F_lead_of : Fun K "lead_of" "lead_of" s_lead_of a_lead_of fd_lead_of
  g_lead_of : mg "lead_of" = some (.ref a_lead_of)
  a_times_row : Addr
  fd_times_row : FuncData
  F_times_row : Fun K "times_row" "times_row" s_times_row a_times_row fd_times_row
  g_times_row : mg "times_row" = some (.ref a_times_row)
  a_inverse : Addr
  fd_inverse : FuncData
  F_inverse : Fun K "inverse" "inverse" s_inverse a_inverse fd_inverse
  g_inverse : mg "inverse" = some (.ref a_inverse)
  a_laid_in : Addr
  fd_laid_in : FuncData
  F_laid_in : Fun K "laid_in" "laid_in" s_laid_in a_laid_in fd_laid_in
  g_laid_in : mg "laid_in" = some (.ref a_laid_in)
  a_laid_out : Addr
  fd_laid_out : FuncData
  F_laid_out : Fun K "laid_out" "laid_out" s_laid_out a_laid_out fd_laid_out
  g_laid_out : mg "laid_out" = some (.ref a_laid_out)
  a_reduced : Addr
  fd_reduced : FuncData
  F_reduced : Fun K "reduced" "reduced" s_reduced a_reduced fd_reduced
  g_reduced : mg "reduced" = some (.ref a_reduced)
  a_null_for : Addr
  fd_null_for : FuncData
  F_null_for : Fun K "null_for" "null_for" s_null_for a_null_for fd_null_for
  g_null_for : mg "null_for" = some (.ref a_null_for)
  a_nulls_of : Addr
  fd_nulls_of : FuncData
  F_nulls_of : Fun K "nulls_of" "nulls_of" s_nulls_of a_nulls_of fd_nulls_of
  g_nulls_of : mg "nulls_of" = some (.ref a_nulls_of)
  a_common : Addr
  fd_common : FuncData
  F_common : Fun K "common" "common" s_common a_common fd_common
  g_common : mg "common" = some (.ref a_common)
  a__law_alike : Addr
  fd__law_alike : FuncData
  F__law_alike : Fun K "_law_alike" "_law_alike" s__law_alike a__law_alike fd__law_alike
  g__law_alike : mg "_law_alike" = some (.ref a__law_alike)
  a__law_inverse : Addr
  fd__law_inverse : FuncData
  F__law_inverse : Fun K "_law_inverse" "_law_inverse" s__law_inverse a__law_inverse fd__law_inverse
  g__law_inverse : mg "_law_inverse" = some (.ref a__law_inverse)
  a__law_reduced : Addr
  fd__law_reduced : FuncData
  F__law_reduced : Fun K "_law_reduced" "_law_reduced" s__law_reduced a__law_reduced fd__law_reduced
  g__law_reduced : mg "_law_reduced" = some (.ref a__law_reduced)
  a__law_is_few : Addr
  fd__law_is_few : FuncData
  F__law_is_few : Fun K "_law_is_few" "_law_is_few" s__law_is_few a__law_is_few fd__law_is_few
  g__law_is_few : mg "_law_is_few" = some (.ref a__law_is_few)
  a__law_few : Addr
  fd__law_few : FuncData
  F__law_few : Fun K "_law_few" "_law_few" s__law_few a__law_few fd__law_few
  g__law_few : mg "_law_few" = some (.ref a__law_few)
  a__law_all : Addr
  fd__law_all : FuncData
  F__law_all : Fun K "_law_all" "_law_all" s__law_all a__law_all fd__law_all
  g__law_all : mg "_law_all" = some (.ref a__law_all)
  a_follows : Addr
  fd_follows : FuncData
  F_follows : Fun K "follows" "follows" s_follows a_follows fd_follows
  g_follows : mg "follows" = some (.ref a_follows)
  a__law_common_right : Addr
  fd__law_common_right : FuncData
  F__law_common_right : Fun K "_law_common_right" "_law_common_right" s__law_common_right a__law_common_right fd__law_common_right
  g__law_common_right : mg "_law_common_right" = some (.ref a__law_common_right)
  a_without : Addr
  fd_without : FuncData
  F_without : Fun K "without" "without" s_without a_without fd_without
  g_without : mg "without" = some (.ref a_without)
  a__law_without_right : Addr
  fd__law_without_right : FuncData
  F__law_without_right : Fun K "_law_without_right" "_law_without_right" s__law_without_right a__law_without_right fd__law_without_right
  g__law_without_right : mg "_law_without_right" = some (.ref a__law_without_right)
  a_law : Addr
  fd_law : FuncData
  F_law : Fun K "law" "law" s_law a_law fd_law
  g_law : mg "law" = some (.ref a_law)
  n_abs : mg "abs" = none
  n_len : mg "len" = none
  n_range : mg "range" = none
  n_tuple : mg "tuple" = none
  n_zip : mg "zip" = none
  n_enumerate : mg "enumerate" = none
  n_sorted : mg "sorted" = none
  n_isinstance : mg "isinstance" = none
  n_bool : mg "bool" = none
  n_list : mg "list" = none
  n_min : mg "min" = none
section
variable {P : Program} {w : World} {K : PySem.W.Frag} {mg : Str → Option Value} {base : Heap}
theorem b__law_state (T : Txt K mg) : Binds K T.fd__law_state ["script"] [] := T.F__law_state.binds (ps := ["script"]) fun _ _ _ _ _ _ us hl => match us, hl with | [_], _ => rfl
theorem b__law_draw (T : Txt K mg) : Binds K T.fd__law_draw ["state", "many"] [] := T.F__law_draw.binds (ps := ["state", "many"]) fun _ _ _ _ _ _ us hl => match us, hl with | [_, _], _ => rfl
theorem b__law_prime (T : Txt K mg) : Binds K T.fd__law_prime ["state"] [] := T.F__law_prime.binds (ps := ["state"]) fun _ _ _ _ _ _ us hl => match us, hl with | [_], _ => rfl
theorem b__law_row (T : Txt K mg) : Binds K T.fd__law_row ["state", "wideness", "base"] [] := T.F__law_row.binds (ps := ["state", "wideness", "base"]) fun _ _ _ _ _ _ us hl => match us, hl with | [_, _, _], _ => rfl
theorem b__law_times (T : Txt K mg) : Binds K T.fd__law_times ["line", "n", "base"] [] := T.F__law_times.binds (ps := ["line", "n", "base"]) fun _ _ _ _ _ _ us hl => match us, hl with | [_, _, _], _ => rfl
theorem b__law_together (T : Txt K mg) : Binds K T.fd__law_together ["line", "two", "base"] [] := T.F__law_together.binds (ps := ["line", "two", "base"]) fun _ _ _ _ _ _ us hl => match us, hl with | [_, _, _], _ => rfl
theorem b__law_rows (T : Txt K mg) : Binds K T.fd__law_rows ["state", "wideness", "base", "many"] [] := T.F__law_rows.binds (ps := ["state", "wideness", "base", "many"]) fun _ _ _ _ _ _ us hl => match us, hl with | [_, _, _, _], _ => rfl
theorem b_less_row (T : Txt K mg) : Binds K T.fd_less_row ["row", "other", "n", "p"] [] := T.F_less_row.binds (ps := ["row", "other", "n", "p"]) fun _ _ _ _ _ _ us hl => match us, hl with | [_, _, _, _], _ => rfl
theorem b_cleared (T : Txt K mg) : Binds K T.fd_cleared ["pairs", "row", "p"] [] := T.F_cleared.binds (ps := ["pairs", "row", "p"]) fun _ _ _ _ _ _ us hl => match us, hl with | [_, _, _], _ => rfl
theorem b_lead_of (T : Txt K mg) : Binds K T.fd_lead_of ["row"] [] := T.F_lead_of.binds (ps := ["row"]) fun _ _ _ _ _ _ us hl => match us, hl with | [_], _ => rfl
theorem b_times_row (T : Txt K mg) : Binds K T.fd_times_row ["row", "n", "p"] [] := T.F_times_row.binds (ps := ["row", "n", "p"]) fun _ _ _ _ _ _ us hl => match us, hl with | [_, _, _], _ => rfl
theorem b_inverse (T : Txt K mg) : Binds K T.fd_inverse ["n", "p"] [] := T.F_inverse.binds (ps := ["n", "p"]) fun _ _ _ _ _ _ us hl => match us, hl with | [_, _], _ => rfl
theorem b_laid_in (T : Txt K mg) : Binds K T.fd_laid_in ["pairs", "row", "p"] [] := T.F_laid_in.binds (ps := ["pairs", "row", "p"]) fun _ _ _ _ _ _ us hl => match us, hl with | [_, _, _], _ => rfl
theorem b_laid_out (T : Txt K mg) : Binds K T.fd_laid_out ["rows", "p"] [] := T.F_laid_out.binds (ps := ["rows", "p"]) fun _ _ _ _ _ _ us hl => match us, hl with | [_, _], _ => rfl
theorem b_reduced (T : Txt K mg) : Binds K T.fd_reduced ["rows", "p"] [] := T.F_reduced.binds (ps := ["rows", "p"]) fun _ _ _ _ _ _ us hl => match us, hl with | [_, _], _ => rfl
theorem b_null_for (T : Txt K mg) : Binds K T.fd_null_for ["pairs", "spot", "width", "p"] [] := T.F_null_for.binds (ps := ["pairs", "spot", "width", "p"]) fun _ _ _ _ _ _ us hl => match us, hl with | [_, _, _, _], _ => rfl
theorem b_nulls_of (T : Txt K mg) : Binds K T.fd_nulls_of ["rows", "width", "p"] [] := T.F_nulls_of.binds (ps := ["rows", "width", "p"]) fun _ _ _ _ _ _ us hl => match us, hl with | [_, _, _], _ => rfl
theorem b_common (T : Txt K mg) : Binds K T.fd_common ["one", "other", "width", "p"] [] := T.F_common.binds (ps := ["one", "other", "width", "p"]) fun _ _ _ _ _ _ us hl => match us, hl with | [_, _, _, _], _ => rfl
theorem b__law_alike (T : Txt K mg) : Binds K T.fd__law_alike ["told", "wanted"] [] := T.F__law_alike.binds (ps := ["told", "wanted"]) fun _ _ _ _ _ _ us hl => match us, hl with | [_, _], _ => rfl
theorem b__law_inverse (T : Txt K mg) : Binds K T.fd__law_inverse ["n", "base"] [] := T.F__law_inverse.binds (ps := ["n", "base"]) fun _ _ _ _ _ _ us hl => match us, hl with | [_, _], _ => rfl
theorem b__law_reduced (T : Txt K mg) : Binds K T.fd__law_reduced ["lot", "wideness", "base"] [] := T.F__law_reduced.binds (ps := ["lot", "wideness", "base"]) fun _ _ _ _ _ _ us hl => match us, hl with | [_, _, _], _ => rfl
theorem b__law_is_few (T : Txt K mg) : Binds K T.fd__law_is_few ["base", "times"] [] := T.F__law_is_few.binds (ps := ["base", "times"]) fun _ _ _ _ _ _ us hl => match us, hl with | [_, _], _ => rfl
theorem b__law_few (T : Txt K mg) : Binds K T.fd__law_few ["lot", "base"] [] := T.F__law_few.binds (ps := ["lot", "base"]) fun _ _ _ _ _ _ us hl => match us, hl with | [_, _], _ => rfl
theorem b__law_all (T : Txt K mg) : Binds K T.fd__law_all ["lot", "wideness", "base"] [] := T.F__law_all.binds (ps := ["lot", "wideness", "base"]) fun _ _ _ _ _ _ us hl => match us, hl with | [_, _, _], _ => rfl
theorem b_follows (T : Txt K mg) : Binds K T.fd_follows ["rows", "row", "p"] [] := T.F_follows.binds (ps := ["rows", "row", "p"]) fun _ _ _ _ _ _ us hl => match us, hl with | [_, _, _], _ => rfl
theorem b__law_common_right (T : Txt K mg) : Binds K T.fd__law_common_right ["first", "two", "wideness", "base"] [] := T.F__law_common_right.binds (ps := ["first", "two", "wideness", "base"]) fun _ _ _ _ _ _ us hl => match us, hl with | [_, _, _, _], _ => rfl
theorem b_without (T : Txt K mg) : Binds K T.fd_without ["rows", "columns", "width", "p"] [] := T.F_without.binds (ps := ["rows", "columns", "width", "p"]) fun _ _ _ _ _ _ us hl => match us, hl with | [_, _, _, _], _ => rfl
theorem b__law_without_right (T : Txt K mg) : Binds K T.fd__law_without_right ["lot", "spots", "wideness", "base"] [] := T.F__law_without_right.binds (ps := ["lot", "spots", "wideness", "base"]) fun _ _ _ _ _ _ us hl => match us, hl with | [_, _, _, _], _ => rfl
theorem b_law (T : Txt K mg) : Binds K T.fd_law ["script"] [] := T.F_law.binds (ps := ["script"]) fun _ _ _ _ _ _ us hl => match us, hl with | [_], _ => rfl
theorem kw_common_0_p_width_other_one (T : Txt K mg) : KwB K T.fd_common ["one", "other", "width", "p"] ["p", "width", "other", "one"] 0 [3, 2, 1, 0] := kwb_mk T.F_common rfl (by decide) fun _ _ _ _ _ _ us ws h1 h2 => match us, ws, h1, h2 with | [], [_, _, _, _], _, _ => rfl
theorem kw_without_0_p_rows_width_columns (T : Txt K mg) : KwB K T.fd_without ["rows", "columns", "width", "p"] ["p", "rows", "width", "columns"] 0 [1, 3, 2, 0] := kwb_mk T.F_without rfl (by decide) fun _ _ _ _ _ _ us ws h1 h2 => match us, ws, h1, h2 with | [], [_, _, _, _], _, _ => rfl
theorem body__law_state (T : Txt K mg) (cdv : Value) (A : Around) (outer : List Env) (s : Shared) (H : Hp) (E : XK) (hr : Room 0 (A.deeper (envOfC "_law_state" (defScope s__law_state) s.heap.objs.size T.a__law_state cdv))) :
    XSs (cxOf CX0 P w K mg base N__law_state "_law_state" (defScope s__law_state) T.a__law_state cdv A outer s H E).nox (defBody s__law_state) wb__law_state :=
  (xss_cons (xs_lc (i := 1) (own := [("cell", 2)]) (by rfl) sc__law_state.nd rfl rfl (sw_true rfl rfl rfl (by decide +kernel)) (xi_any (XO.toE (xo_sl (xe_pv (pv 0)) xp_none (xp_some xe_int)))) (blkOk_by (own := [("cell", 2)]) (N := N__law_state) (sc := defScope s__law_state) (by decide +kernel)) (fun _ _ _ _ _ => (xg_name (i := 2) (pg_name sc__law_state.nd rfl (.inl rfl)))) (fun _ _ _ _ _ => xts_nil) (fun _ _ _ _ _ => (XE.toO (xe_callB call_abs sem_abs (by rfl) T.n_abs (by decide +kernel) (xb_pv (pv 2))))) (by decide))
    (xss_cons (xs_if (xt_cmp (op_eqT hr.units) sem_eq (xe_callB cr_len sem_len (by rfl) T.n_len (by decide +kernel) (xb_pv (pv 1))) (XE.toB xe_int)) (xss_one (xs_set (i := 1) (ps_set (i := 1) sc__law_state.nd rfl (.inl rfl) (XO.pe (xo_lst (xao_cons (XE.toO xe_int) xao_nil)))) (fun _ _ _ h => h))) xss_nil)
    (xss_one (xs_ret (xo_lst (xao_cons (xo_mov (pv 1)) (xao_cons (XE.toO xe_int) (xao_cons (XE.toO xe_int) xao_nil))))))))
theorem ok__law_state (T : Txt K mg) : FnOk P w K mg base CX0 1 T.a__law_state T.fd__law_state ["script"] (liftSp K sp__law_state) :=
  fn_tree T.F__law_state sc__law_state len__law_state (body__law_state T) does__law_state
theorem body__law_draw (T : Txt K mg) (cdv : Value) (A : Around) (outer : List Env) (s : Shared) (H : Hp) (E : XK) (hr : Room 0 (A.deeper (envOfC "_law_draw" (defScope s__law_draw) s.heap.objs.size T.a__law_draw cdv))) :
    XSs (cxOf CX0 P w K mg base N__law_draw "_law_draw" (defScope s__law_draw) T.a__law_draw cdv A outer s H E).nox (defBody s__law_draw) wb__law_draw :=
  (xss_jn 0 0 2 (xss_cons (xs_set (i := 2) (ps_set (i := 2) sc__law_draw.nd rfl (.inl rfl) (XO.pe (xo_mvIx (i := 0) (pv 0) xe_int))) (fun _ _ _ h => h))
    (xss_cons (xs_set (i := 3) (ps_set (i := 3) sc__law_draw.nd rfl (.inl rfl) (XO.pe (xo_bin op_mod sem_mod (xe_ixL (i := 0) (pv 0) xe_int) (xe_callB cr_len sem_len (by rfl) T.n_len (by decide +kernel) (xb_pv (pv 2)))))) (fun _ _ _ h => h))
    (xss_cons (xs_set (i := 4) (ps_set (i := 4) sc__law_draw.nd rfl (.inl rfl) (XO.pe (XE.toO (xe_ixL (i := 2) (pv 2) (xe_pv (pv 3)))))) (fun _ _ _ h => h))
    (xss_cons (xs_if (xt_cmpL (i := 4) op_geT' sem_ge (pv 4) (XE.toB xe_int)) (xss_cons (xs_setIx (i := 2) (ps_asg (XO.pe (xo_bin op_fdivW sem_div (xe_pv (pv 4)) (xe_pv (pv 1)))) (pg_sub (pv 2) (XE.pe (xe_pv (pv 3))) set_list)))
    (xss_one (xs_ret (xo_bin op_mod sem_mod (xe_pv (pv 4)) (xe_pv (pv 1)))))) xss_nil)
    (xss_cons (xs_setIx (i := 0) (ps_asg (XO.pe (xo_bin op_addT sem_add (xe_ixL (i := 0) (pv 0) xe_int) xe_int)) (pg_sub (pv 0) (XE.pe xe_int) set_list)))
    (xss_cons (xs_setIx (i := 0) (ps_asg (XO.pe (xo_bin op_mod sem_mod (XO.toE (xo_bin op_addT sem_add (XO.toE (xo_bin op_addT sem_add (XO.toE (xo_bin op_mulT sem_mul (xe_ixL (i := 0) (pv 0) xe_int) xe_int)) (xe_pv (pv 4)))) xe_int)) xe_int)) (pg_sub (pv 0) (XE.pe xe_int) set_list)))
    (xss_one (xs_ret (xo_bin op_mod sem_mod (XO.toE (xo_bin op_fdivW sem_div (XO.toE (xo_bin op_mod sem_mod (XO.toE (xo_bin op_mulT sem_mul (xe_ixL (i := 0) (pv 0) xe_int) (xe_ixL (i := 0) (pv 0) xe_int))) xe_int)) xe_int)) (xe_pv (pv 1))))))))))))
theorem ok__law_draw (T : Txt K mg) : FnOk P w K mg base CX0 1 T.a__law_draw T.fd__law_draw ["state", "many"] (liftSp K sp__law_draw) :=
  fn_tree T.F__law_draw sc__law_draw len__law_draw (body__law_draw T) does__law_draw
theorem body__law_prime (T : Txt K mg) (G__law_draw : FnOk P w K mg base CX0 1 T.a__law_draw T.fd__law_draw ["state", "many"] (liftSp K sp__law_draw)) (cdv : Value) (A : Around) (outer : List Env) (s : Shared) (H : Hp) (E : XK) (hr : Room 1 (A.deeper (envOfC "_law_prime" (defScope s__law_prime) s.heap.objs.size T.a__law_prime cdv))) :
    XSs (cxOf CX0 P w K mg base N__law_prime "_law_prime" (defScope s__law_prime) T.a__law_prime cdv A outer s H E).nox (defBody s__law_prime) wb__law_prime :=
  (xss_one (xs_ret (XE.toO (xe_ix (XO.toE (xo_lst (xao_cons (XE.toO xe_int) (xao_cons (XE.toO xe_int) (xao_cons (XE.toO xe_int) (xao_cons (XE.toO xe_int) (xao_cons (XE.toO xe_int) xao_nil))))))) (XO.toE (xo_callS (i := 0) G__law_draw (hr.mono (by decide)) (by rfl) T.g__law_draw T.F__law_draw.kp (b__law_draw T) (pv 0) (xa_cons xe_int xa_nil)))))))
theorem ok__law_prime (T : Txt K mg) (G__law_draw : FnOk P w K mg base CX0 1 T.a__law_draw T.fd__law_draw ["state", "many"] (liftSp K sp__law_draw)) : FnOk P w K mg base CX0 2 T.a__law_prime T.fd__law_prime ["state"] (liftSp K sp__law_prime) :=
  fn_tree T.F__law_prime sc__law_prime len__law_prime (body__law_prime T G__law_draw) does__law_prime
theorem body__law_row (T : Txt K mg) (G__law_draw : FnOk P w K mg base CX0 1 T.a__law_draw T.fd__law_draw ["state", "many"] (liftSp K sp__law_draw)) (cdv : Value) (A : Around) (outer : List Env) (s : Shared) (H : Hp) (E : XK) (hr : Room 1 (A.deeper (envOfC "_law_row" (defScope s__law_row) s.heap.objs.size T.a__law_row cdv))) :
    XSs (cxOf CX0 P w K mg base N__law_row "_law_row" (defScope s__law_row) T.a__law_row cdv A outer s H E).nox (defBody s__law_row) wb__law_row :=
  (xss_cons (xs_set (i := 3) (ps_set (i := 3) sc__law_row.nd rfl (.inl rfl) (XO.pe (xo_callS (i := 0) G__law_draw (hr.mono (by decide)) (by rfl) T.g__law_draw T.F__law_draw.kp (b__law_draw T) (pv 0) (xa_cons xe_int xa_nil)))) (fun _ _ _ h => h))
    (xss_cons (xs_set (i := 4) (ps_set (i := 4) sc__law_row.nd rfl (.inl rfl) (XO.pe (xo_lst xao_nil))) (fun _ _ _ h => h))
    (xss_cons (xs_for PassesOwn.never (by rfl) (xi_rng1 (by rfl) T.n_range (xe_pv (pv 1))) (xg_name (i := 5) (pg_name sc__law_row.nd rfl (.inl rfl))) (xss_cons (xs_set (i := 6) (ps_set (i := 6) sc__law_row.nd rfl (.inl rfl) (XO.pe (XE.toO (xe_ix (XO.toE (xo_lst (xao_cons (xo_callS (i := 0) G__law_draw (hr.mono (by decide)) (by rfl) T.g__law_draw T.F__law_draw.kp (b__law_draw T) (pv 0) (xa_cons (xe_pv (pv 2)) xa_nil)) (xao_cons (xo_bin op_sub sem_sub (xe_pv (pv 2)) xe_int) (xao_cons (xo_bin op_mod sem_mod xe_int (xe_pv (pv 2))) (xao_cons (xo_callS (i := 0) G__law_draw (hr.mono (by decide)) (by rfl) T.g__law_draw T.F__law_draw.kp (b__law_draw T) (pv 0) (xa_cons xe_int xa_nil)) xao_nil)))))) (XO.toE (xo_callS (i := 0) G__law_draw (hr.mono (by decide)) (by rfl) T.g__law_draw T.F__law_draw.kp (b__law_draw T) (pv 0) (xa_cons xe_int xa_nil))))))) (fun _ _ _ h => h))
    (xss_one (xs_app (pv 4) (xo_if (XW.t (xw_or (xt_cmpL (i := 3) op_gtT' sem_gt (pv 3) (XE.toB xe_int)) (XT.o1 (xt_cmp (op_eqT hr.units) sem_eq (XO.toE (xo_callS (i := 0) G__law_draw (hr.mono (by decide)) (by rfl) T.g__law_draw T.F__law_draw.kp (b__law_draw T) (pv 0) (xa_cons xe_int xa_nil))) (XE.toB xe_int))))) (XE.toO (xe_pv (pv 6))) (XE.toO xe_int))))))
    (xss_one (xs_ret (xo_callTy call_tuple_of sem_tuple (by rfl) T.n_tuple (by decide +kernel) (xe_pv (pv 4))))))))
theorem ok__law_row (T : Txt K mg) (G__law_draw : FnOk P w K mg base CX0 1 T.a__law_draw T.fd__law_draw ["state", "many"] (liftSp K sp__law_draw)) : FnOk P w K mg base CX0 2 T.a__law_row T.fd__law_row ["state", "wideness", "base"] (liftSp K sp__law_row) :=
  fn_tree T.F__law_row sc__law_row len__law_row (body__law_row T G__law_draw) does__law_row
theorem body__law_times (T : Txt K mg) (cdv : Value) (A : Around) (outer : List Env) (s : Shared) (H : Hp) (E : XK) (hr : Room 0 (A.deeper (envOfC "_law_times" (defScope s__law_times) s.heap.objs.size T.a__law_times cdv))) :
    XSs (cxOf CX0 P w K mg base N__law_times "_law_times" (defScope s__law_times) T.a__law_times cdv A outer s H E).nox (defBody s__law_times) wb__law_times :=
  (xss_one (xs_ret (xo_callTy call_tuple_of sem_tuple (by rfl) T.n_tuple (by decide +kernel) (XO.toE (xo_lc (own := [("number", 3)]) (by rfl) sc__law_times.nd (xi_any (xe_pv (pv 0))) (blkOk_by (own := [("number", 3)]) (N := N__law_times) (sc := defScope s__law_times) (by decide +kernel)) (fun _ _ _ _ _ => (xg_name (i := 3) (pg_name sc__law_times.nd rfl (.inl rfl)))) (fun _ _ _ _ _ => xts_nil) (fun _ _ _ _ _ => (xo_bin op_mod sem_mod (XO.toE (xo_bin op_mulT sem_mul (xe_pv (pv 3)) (xe_pv (pv 1)))) (xe_pv (pv 2)))) (by decide))))))
theorem ok__law_times (T : Txt K mg) : FnOk P w K mg base CX0 1 T.a__law_times T.fd__law_times ["line", "n", "base"] (liftSp K sp__law_times) :=
  fn_tree T.F__law_times sc__law_times len__law_times (body__law_times T) does__law_times
theorem body__law_together (T : Txt K mg) (cdv : Value) (A : Around) (outer : List Env) (s : Shared) (H : Hp) (E : XK) (hr : Room 0 (A.deeper (envOfC "_law_together" (defScope s__law_together) s.heap.objs.size T.a__law_together cdv))) :
    XSs (cxOf CX0 P w K mg base N__law_together "_law_together" (defScope s__law_together) T.a__law_together cdv A outer s H E).nox (defBody s__law_together) wb__law_together :=
  (xss_one (xs_ret (xo_callTy call_tuple_of sem_tuple (by rfl) T.n_tuple (by decide +kernel) (XO.toE (xo_lc (own := [("first", 3), ("two", 1)]) (by rfl) sc__law_together.nd (xi_zip (by rfl) T.n_zip (xe_pv (pv 0)) (xe_pv (pv 1))) (blkOk_by (own := [("first", 3), ("two", 1)]) (N := N__law_together) (sc := defScope s__law_together) (by decide +kernel)) (fun _ _ _ _ _ => (xg_tup rfl (xgs_cons (xg_name (i := 3) (pg_name sc__law_together.nd rfl (.inl rfl))) (xgs_cons (xg_name (i := 1) (pg_name sc__law_together.nd rfl (.inl rfl))) xgs_nil)))) (fun _ _ _ _ _ => xts_nil) (fun _ _ _ _ _ => (xo_bin op_mod sem_mod (XO.toE (xo_bin op_addT sem_add (xe_pv (pv 3)) (xe_pv (pv 1)))) (xe_pv (pv 2)))) (by decide))))))
theorem ok__law_together (T : Txt K mg) : FnOk P w K mg base CX0 1 T.a__law_together T.fd__law_together ["line", "two", "base"] (liftSp K sp__law_together) :=
  fn_tree T.F__law_together sc__law_together len__law_together (body__law_together T) does__law_together
theorem body__law_rows (T : Txt K mg) (G__law_row : FnOk P w K mg base CX0 2 T.a__law_row T.fd__law_row ["state", "wideness", "base"] (liftSp K sp__law_row)) (G__law_draw : FnOk P w K mg base CX0 1 T.a__law_draw T.fd__law_draw ["state", "many"] (liftSp K sp__law_draw)) (G__law_times : FnOk P w K mg base CX0 1 T.a__law_times T.fd__law_times ["line", "n", "base"] (liftSp K sp__law_times)) (G__law_together : FnOk P w K mg base CX0 1 T.a__law_together T.fd__law_together ["line", "two", "base"] (liftSp K sp__law_together)) (cdv : Value) (A : Around) (outer : List Env) (s : Shared) (H : Hp) (E : XK) (hr : Room 2 (A.deeper (envOfC "_law_rows" (defScope s__law_rows) s.heap.objs.size T.a__law_rows cdv))) :
    XSs (cxOf CX0 P w K mg base N__law_rows "_law_rows" (defScope s__law_rows) T.a__law_rows cdv A outer s H E).nox (defBody s__law_rows) wb__law_rows :=
  (xss_cons (xs_set (i := 4) (ps_set (i := 4) sc__law_rows.nd rfl (.inl rfl) (XO.pe (xo_lst xao_nil))) (fun _ _ _ h => h))
    (xss_cons (xs_for PassesOwn.never (by rfl) (xi_rng1 (by rfl) T.n_range (xe_pv (pv 3))) (xg_name (i := 5) (pg_name sc__law_rows.nd rfl (.inl rfl))) (xss_cons (xs_set (i := 6) (ps_set (i := 6) sc__law_rows.nd rfl (.inl rfl) (XO.pe (xo_callS (i := 0) G__law_row (hr.mono (by decide)) (by rfl) T.g__law_row T.F__law_row.kp (b__law_row T) (pv 0) (xa_cons (xe_pv (pv 1)) (xa_cons (xe_pv (pv 2)) xa_nil))))) (fun _ _ _ h => h))
    (xss_cons (xs_set (i := 7) (ps_set (i := 7) sc__law_rows.nd rfl (.inl rfl) (XO.pe (xo_callS (i := 0) G__law_draw (hr.mono (by decide)) (by rfl) T.g__law_draw T.F__law_draw.kp (b__law_draw T) (pv 0) (xa_cons xe_int xa_nil)))) (fun _ _ _ h => h))
    (xss_cons (xs_if (XW.t (xw_and (xt_cmpL (i := 4) (op_neT hr.units) sem_ne (pv 4) (XE.toB (XO.toE (xo_lst xao_nil)))) (XT.w1 (xt_cmpL (i := 7) op_ltT' sem_lt (pv 7) (XE.toB xe_int))))) (xss_cons (xs_set (i := 6) (ps_set (i := 6) sc__law_rows.nd rfl (.inl rfl) (XO.pe (xo_call G__law_times (hr.mono (by decide)) (by rfl) T.g__law_times T.F__law_times.kp (b__law_times T) (xa_cons (xe_ixL (i := 4) (pv 4) (XO.toE (xo_callS (i := 0) G__law_draw (hr.mono (by decide)) (by rfl) T.g__law_draw T.F__law_draw.kp (b__law_draw T) (pv 0) (xa_cons (xe_callB cr_len sem_len (by rfl) T.n_len (by decide +kernel) (xb_pv (pv 4))) xa_nil)))) (xa_cons (XO.toE (xo_callS (i := 0) G__law_draw (hr.mono (by decide)) (by rfl) T.g__law_draw T.F__law_draw.kp (b__law_draw T) (pv 0) (xa_cons (xe_pv (pv 2)) xa_nil))) (xa_cons (xe_pv (pv 2)) xa_nil)))))) (fun _ _ _ h => h))
    (xss_one (xs_set (i := 6) (ps_set (i := 6) sc__law_rows.nd rfl (.inl rfl) (XO.pe (xo_call G__law_together (hr.mono (by decide)) (by rfl) T.g__law_together T.F__law_together.kp (b__law_together T) (xa_cons (xe_pv (pv 6)) (xa_cons (xe_ixL (i := 4) (pv 4) (XO.toE (xo_callS (i := 0) G__law_draw (hr.mono (by decide)) (by rfl) T.g__law_draw T.F__law_draw.kp (b__law_draw T) (pv 0) (xa_cons (xe_callB cr_len sem_len (by rfl) T.n_len (by decide +kernel) (xb_pv (pv 4))) xa_nil)))) (xa_cons (xe_pv (pv 2)) xa_nil)))))) (fun _ _ _ h => h)))) xss_nil)
    (xss_cons (xs_if (XW.t (xw_and (xt_cmpL (i := 7) (op_eqT hr.units) sem_eq (pv 7) (XE.toB xe_int)) (XT.w1 (xt_cmpL (i := 4) (op_neT hr.units) sem_ne (pv 4) (XE.toB (XO.toE (xo_lst xao_nil))))))) (xss_one (xs_set (i := 6) (ps_set (i := 6) sc__law_rows.nd rfl (.inl rfl) (XO.pe (XE.toO (xe_ixL (i := 4) (pv 4) (XO.toE (xo_callS (i := 0) G__law_draw (hr.mono (by decide)) (by rfl) T.g__law_draw T.F__law_draw.kp (b__law_draw T) (pv 0) (xa_cons (xe_callB cr_len sem_len (by rfl) T.n_len (by decide +kernel) (xb_pv (pv 4))) xa_nil))))))) (fun _ _ _ h => h))) xss_nil)
    (xss_one (xs_app (pv 4) (XE.toO (xe_pv (pv 6))))))))))
    (xss_one (xs_ret (xo_callTy call_tuple_of sem_tuple (by rfl) T.n_tuple (by decide +kernel) (xe_pv (pv 4)))))))
theorem ok__law_rows (T : Txt K mg) (G__law_row : FnOk P w K mg base CX0 2 T.a__law_row T.fd__law_row ["state", "wideness", "base"] (liftSp K sp__law_row)) (G__law_draw : FnOk P w K mg base CX0 1 T.a__law_draw T.fd__law_draw ["state", "many"] (liftSp K sp__law_draw)) (G__law_times : FnOk P w K mg base CX0 1 T.a__law_times T.fd__law_times ["line", "n", "base"] (liftSp K sp__law_times)) (G__law_together : FnOk P w K mg base CX0 1 T.a__law_together T.fd__law_together ["line", "two", "base"] (liftSp K sp__law_together)) : FnOk P w K mg base CX0 3 T.a__law_rows T.fd__law_rows ["state", "wideness", "base", "many"] (liftSp K sp__law_rows) :=
  fn_tree T.F__law_rows sc__law_rows len__law_rows (body__law_rows T G__law_row G__law_draw G__law_times G__law_together) does__law_rows
theorem body_less_row (T : Txt K mg) (cdv : Value) (A : Around) (outer : List Env) (s : Shared) (H : Hp) (E : XK) (hr : Room 0 (A.deeper (envOfC "less_row" (defScope s_less_row) s.heap.objs.size T.a_less_row cdv))) :
    XSs (cxOf CX0 P w K mg base N_less_row "less_row" (defScope s_less_row) T.a_less_row cdv A outer s H E).nox (defBody s_less_row) wb_less_row :=
  (xss_one (xs_ret (xo_callTy call_tuple_of sem_tuple (by rfl) T.n_tuple (by decide +kernel) (XO.toE (xo_lc (own := [("number", 4), ("there", 5)]) (by rfl) sc_less_row.nd (xi_zip (by rfl) T.n_zip (xe_pv (pv 0)) (xe_pv (pv 1))) (blkOk_by (own := [("number", 4), ("there", 5)]) (N := N_less_row) (sc := defScope s_less_row) (by decide +kernel)) (fun _ _ _ _ _ => (xg_tup rfl (xgs_cons (xg_name (i := 4) (pg_name sc_less_row.nd rfl (.inl rfl))) (xgs_cons (xg_name (i := 5) (pg_name sc_less_row.nd rfl (.inl rfl))) xgs_nil)))) (fun _ _ _ _ _ => xts_nil) (fun _ _ _ _ _ => (xo_bin op_mod sem_mod (XO.toE (xo_bin op_sub sem_sub (xe_pv (pv 4)) (XO.toE (xo_bin op_mulT sem_mul (xe_pv (pv 2)) (xe_pv (pv 5)))))) (xe_pv (pv 3)))) (by decide))))))
theorem ok_less_row (T : Txt K mg) : FnOk P w K mg base CX0 1 T.a_less_row T.fd_less_row ["row", "other", "n", "p"] (liftSp K sp_less_row) :=
  fn_tree T.F_less_row sc_less_row len_less_row (body_less_row T) does_less_row
theorem body_cleared (T : Txt K mg) (G_less_row : FnOk P w K mg base CX0 1 T.a_less_row T.fd_less_row ["row", "other", "n", "p"] (liftSp K sp_less_row)) (cdv : Value) (A : Around) (outer : List Env) (s : Shared) (H : Hp) (E : XK) (hr : Room 1 (A.deeper (envOfC "cleared" (defScope s_cleared) s.heap.objs.size T.a_cleared cdv))) :
    XSs (cxOf CX0 P w K mg base N_cleared "cleared" (defScope s_cleared) T.a_cleared cdv A outer s H E).nox (defBody s_cleared) wb_cleared :=
  (xss_cons (xs_for PassesOwn.never (by rfl) (xi_any (xe_pv (pv 0))) (xg_tup rfl (xgs_cons (xg_name (i := 3) (pg_name sc_cleared.nd rfl (.inl rfl))) (xgs_cons (xg_name (i := 4) (pg_name sc_cleared.nd rfl (.inl rfl))) xgs_nil))) (xss_one (xs_if (xt_cmp (op_neT hr.units) sem_ne (xe_ixL (i := 1) (pv 1) (xe_pv (pv 3))) (XE.toB xe_int)) (xss_one (xs_set (i := 1) (ps_set (i := 1) sc_cleared.nd rfl (.inl rfl) (XO.pe (xo_call G_less_row (hr.mono (by decide)) (by rfl) T.g_less_row T.F_less_row.kp (b_less_row T) (xa_cons (xe_pv (pv 1)) (xa_cons (xe_pv (pv 4)) (xa_cons (xe_ixL (i := 1) (pv 1) (xe_pv (pv 3))) (xa_cons (xe_pv (pv 2)) xa_nil))))))) (fun _ _ _ h => h))) xss_nil)))
    (xss_one (xs_retV (pv 1))))
theorem ok_cleared (T : Txt K mg) (G_less_row : FnOk P w K mg base CX0 1 T.a_less_row T.fd_less_row ["row", "other", "n", "p"] (liftSp K sp_less_row)) : FnOk P w K mg base CX0 2 T.a_cleared T.fd_cleared ["pairs", "row", "p"] (liftSp K sp_cleared) :=
  fn_tree T.F_cleared sc_cleared len_cleared (body_cleared T G_less_row) does_cleared
theorem body_lead_of (T : Txt K mg) (cdv : Value) (A : Around) (outer : List Env) (s : Shared) (H : Hp) (E : XK) (hr : Room 0 (A.deeper (envOfC "lead_of" (defScope s_lead_of) s.heap.objs.size T.a_lead_of cdv))) :
    XSs (cxOf CX0 P w K mg base N_lead_of "lead_of" (defScope s_lead_of) T.a_lead_of cdv A outer s H E).nox (defBody s_lead_of) wb_lead_of :=
  (xss_cons (xs_for PassesOwn.never (by rfl) (xi_enum (by rfl) T.n_enumerate (xe_pv (pv 0))) (xg_tup rfl (xgs_cons (xg_name (i := 1) (pg_name sc_lead_of.nd rfl (.inl rfl))) (xgs_cons (xg_name (i := 2) (pg_name sc_lead_of.nd rfl (.inl rfl))) xgs_nil))) (xss_one (xs_if (xt_cmpL (i := 2) (op_neT hr.units) sem_ne (pv 2) (XE.toB xe_int)) (xss_one (xs_retV (pv 1))) xss_nil)))
    (xss_one (xs_ret (XE.toO xe_non))))
theorem ok_lead_of (T : Txt K mg) : FnOk P w K mg base CX0 1 T.a_lead_of T.fd_lead_of ["row"] (liftSp K sp_lead_of) :=
  fn_tree T.F_lead_of sc_lead_of len_lead_of (body_lead_of T) does_lead_of
theorem body_times_row (T : Txt K mg) (cdv : Value) (A : Around) (outer : List Env) (s : Shared) (H : Hp) (E : XK) (hr : Room 0 (A.deeper (envOfC "times_row" (defScope s_times_row) s.heap.objs.size T.a_times_row cdv))) :
    XSs (cxOf CX0 P w K mg base N_times_row "times_row" (defScope s_times_row) T.a_times_row cdv A outer s H E).nox (defBody s_times_row) wb_times_row :=
  (xss_one (xs_ret (xo_callTy call_tuple_of sem_tuple (by rfl) T.n_tuple (by decide +kernel) (XO.toE (xo_lc (own := [("number", 3)]) (by rfl) sc_times_row.nd (xi_any (xe_pv (pv 0))) (blkOk_by (own := [("number", 3)]) (N := N_times_row) (sc := defScope s_times_row) (by decide +kernel)) (fun _ _ _ _ _ => (xg_name (i := 3) (pg_name sc_times_row.nd rfl (.inl rfl)))) (fun _ _ _ _ _ => xts_nil) (fun _ _ _ _ _ => (xo_bin op_mod sem_mod (XO.toE (xo_bin op_mulT sem_mul (xe_pv (pv 3)) (xe_pv (pv 1)))) (xe_pv (pv 2)))) (by decide))))))
theorem ok_times_row (T : Txt K mg) : FnOk P w K mg base CX0 1 T.a_times_row T.fd_times_row ["row", "n", "p"] (liftSp K sp_times_row) :=
  fn_tree T.F_times_row sc_times_row len_times_row (body_times_row T) does_times_row
theorem body_inverse (T : Txt K mg) (cdv : Value) (A : Around) (outer : List Env) (s : Shared) (H : Hp) (E : XK) (hr : Room 0 (A.deeper (envOfC "inverse" (defScope s_inverse) s.heap.objs.size T.a_inverse cdv))) :
    XSs (cxOf CX0 P w K mg base N_inverse "inverse" (defScope s_inverse) T.a_inverse cdv A outer s H E).nox (defBody s_inverse) wb_inverse :=
  (xss_cons (xs_par3 (i := 2) (j := 3) (l := 4) (ps_par3 (by rfl) sc_inverse.nd rfl rfl rfl (by decide) (by decide) (by decide) rfl rfl rfl (XA.pa (xa_cons xe_int (xa_cons (xe_pv (pv 0)) (xa_cons (XO.toE (xo_bin op_sub sem_sub (xe_pv (pv 1)) xe_int)) xa_nil)))) (by rfl)))
    (xss_cons (xs_while PassesOwn.never (xt_cmpL (i := 4) op_gtT' sem_gt (pv 4) (XE.toB xe_int)) (xss_cons (xs_if (xt_cmp (op_eqT hr.units) sem_eq (XO.toE (xo_bin op_mod sem_mod (xe_pv (pv 4)) xe_int)) (XE.toB xe_int)) (xss_one (xs_set (i := 2) (ps_set (i := 2) sc_inverse.nd rfl (.inl rfl) (XO.pe (xo_bin op_mod sem_mod (XO.toE (xo_bin op_mulT sem_mul (xe_pv (pv 2)) (xe_pv (pv 3)))) (xe_pv (pv 1))))) (fun _ _ _ h => h))) xss_nil)
    (xss_cons (xs_set (i := 3) (ps_set (i := 3) sc_inverse.nd rfl (.inl rfl) (XO.pe (xo_bin op_mod sem_mod (XO.toE (xo_bin op_mulT sem_mul (xe_pv (pv 3)) (xe_pv (pv 3)))) (xe_pv (pv 1))))) (fun _ _ _ h => h))
    (xss_one (xs_set (i := 4) (ps_set (i := 4) sc_inverse.nd rfl (.inl rfl) (XO.pe (xo_bin op_fdivW sem_div (xe_pv (pv 4)) xe_int))) (fun _ _ _ h => h))))))
    (xss_one (xs_ret (xo_bin op_mod sem_mod (xe_pv (pv 2)) (xe_pv (pv 1)))))))
theorem ok_inverse (T : Txt K mg) : FnOk P w K mg base CX0 1 T.a_inverse T.fd_inverse ["n", "p"] (liftSp K sp_inverse) :=
  fn_tree T.F_inverse sc_inverse len_inverse (body_inverse T) does_inverse
theorem body_laid_in (T : Txt K mg) (G_cleared : FnOk P w K mg base CX0 2 T.a_cleared T.fd_cleared ["pairs", "row", "p"] (liftSp K sp_cleared)) (G_lead_of : FnOk P w K mg base CX0 1 T.a_lead_of T.fd_lead_of ["row"] (liftSp K sp_lead_of)) (G_times_row : FnOk P w K mg base CX0 1 T.a_times_row T.fd_times_row ["row", "n", "p"] (liftSp K sp_times_row)) (G_inverse : FnOk P w K mg base CX0 1 T.a_inverse T.fd_inverse ["n", "p"] (liftSp K sp_inverse)) (G_less_row : FnOk P w K mg base CX0 1 T.a_less_row T.fd_less_row ["row", "other", "n", "p"] (liftSp K sp_less_row)) (cdv : Value) (A : Around) (outer : List Env) (s : Shared) (H : Hp) (E : XK) (hr : Room 2 (A.deeper (envOfC "laid_in" (defScope s_laid_in) s.heap.objs.size T.a_laid_in cdv))) :
    XSs (cxOf CX0 P w K mg base N_laid_in "laid_in" (defScope s_laid_in) T.a_laid_in cdv A outer s H E).nox (defBody s_laid_in) wb_laid_in :=
  (xss_cons (xs_set (i := 1) (ps_set (i := 1) sc_laid_in.nd rfl (.inr rfl) (XO.pe (xo_call G_cleared (hr.mono (by decide)) (by rfl) T.g_cleared T.F_cleared.kp (b_cleared T) (xa_cons (xe_pv (pv 0)) (xa_cons (xe_pv (pv 1)) (xa_cons (xe_pv (pv 2)) xa_nil)))))) (fun _ _ _ h => h))
    (xss_cons (xs_set (i := 3) (ps_set (i := 3) sc_laid_in.nd rfl (.inr rfl) (XO.pe (xo_call G_lead_of (hr.mono (by decide)) (by rfl) T.g_lead_of T.F_lead_of.kp (b_lead_of T) (xa_cons (xe_pv (pv 1)) xa_nil)))) (fun _ _ _ h => h))
    (xss_cons (xs_if (xt_cmpL (i := 3) op_isT (sem_is false) (pv 3) (XE.toB xe_non)) (xss_one (xs_retV (pv 0))) xss_nil)
    (xss_cons (xs_set (i := 1) (ps_set (i := 1) sc_laid_in.nd rfl (.inr rfl) (XO.pe (xo_call G_times_row (hr.mono (by decide)) (by rfl) T.g_times_row T.F_times_row.kp (b_times_row T) (xa_cons (xe_pv (pv 1)) (xa_cons (XO.toE (xo_call G_inverse (hr.mono (by decide)) (by rfl) T.g_inverse T.F_inverse.kp (b_inverse T) (xa_cons (xe_ixL (i := 1) (pv 1) (xe_pv (pv 3))) (xa_cons (xe_pv (pv 2)) xa_nil)))) (xa_cons (xe_pv (pv 2)) xa_nil)))))) (fun _ _ _ h => h))
    (xss_cons (xs_lc (i := 4) (own := [("at", 5), ("there", 6)]) (by rfl) sc_laid_in.nd rfl rfl (sw_true rfl rfl rfl (by decide +kernel)) (xi_any (xe_pv (pv 0))) (blkOk_by (own := [("at", 5), ("there", 6)]) (N := N_laid_in) (sc := defScope s_laid_in) (by decide +kernel)) (fun _ _ _ _ _ => (xg_tup rfl (xgs_cons (xg_name (i := 5) (pg_name sc_laid_in.nd rfl (.inl rfl))) (xgs_cons (xg_name (i := 6) (pg_name sc_laid_in.nd rfl (.inl rfl))) xgs_nil)))) (fun _ _ _ _ _ => xts_nil) (fun _ _ _ _ _ => (XE.toO (xe_tup (xa_cons (xe_pv (pv 5)) (xa_cons (XO.toE (xo_call G_less_row (hr.mono (by decide)) (by rfl) T.g_less_row T.F_less_row.kp (b_less_row T) (xa_cons (xe_pv (pv 6)) (xa_cons (xe_pv (pv 1)) (xa_cons (xe_ixL (i := 6) (pv 6) (xe_pv (pv 3))) (xa_cons (xe_pv (pv 2)) xa_nil)))))) xa_nil))))) (by decide))
    (xss_one (xs_ret (xo_callB cr_sortedF sem_sortF (by rfl) T.n_sorted (by decide +kernel) (XO.toE (xo_bin op_addT sem_add (xe_pv (pv 4)) (XO.toE (xo_lst (xao_cons (XE.toO (xe_tup (xa_cons (xe_pv (pv 3)) (xa_cons (xe_pv (pv 1)) xa_nil)))) xao_nil)))))))))))))
theorem ok_laid_in (T : Txt K mg) (G_cleared : FnOk P w K mg base CX0 2 T.a_cleared T.fd_cleared ["pairs", "row", "p"] (liftSp K sp_cleared)) (G_lead_of : FnOk P w K mg base CX0 1 T.a_lead_of T.fd_lead_of ["row"] (liftSp K sp_lead_of)) (G_times_row : FnOk P w K mg base CX0 1 T.a_times_row T.fd_times_row ["row", "n", "p"] (liftSp K sp_times_row)) (G_inverse : FnOk P w K mg base CX0 1 T.a_inverse T.fd_inverse ["n", "p"] (liftSp K sp_inverse)) (G_less_row : FnOk P w K mg base CX0 1 T.a_less_row T.fd_less_row ["row", "other", "n", "p"] (liftSp K sp_less_row)) : FnOk P w K mg base CX0 3 T.a_laid_in T.fd_laid_in ["pairs", "row", "p"] (liftSp K sp_laid_in) :=
  fn_tree T.F_laid_in sc_laid_in len_laid_in (body_laid_in T G_cleared G_lead_of G_times_row G_inverse G_less_row) does_laid_in
theorem body_laid_out (T : Txt K mg) (G_laid_in : FnOk P w K mg base CX0 3 T.a_laid_in T.fd_laid_in ["pairs", "row", "p"] (liftSp K sp_laid_in)) (cdv : Value) (A : Around) (outer : List Env) (s : Shared) (H : Hp) (E : XK) (hr : Room 3 (A.deeper (envOfC "laid_out" (defScope s_laid_out) s.heap.objs.size T.a_laid_out cdv))) :
    XSs (cxOf CX0 P w K mg base N_laid_out "laid_out" (defScope s_laid_out) T.a_laid_out cdv A outer s H E).nox (defBody s_laid_out) wb_laid_out :=
  (xss_cons (xs_set (i := 2) (ps_set (i := 2) sc_laid_out.nd rfl (.inl rfl) (XO.pe (xo_lst xao_nil))) (fun _ _ _ h => h))
    (xss_cons (xs_for PassesOwn.never (by rfl) (xi_any (xe_pv (pv 0))) (xg_name (i := 3) (pg_name sc_laid_out.nd rfl (.inl rfl))) (xss_one (xs_set (i := 2) (ps_set (i := 2) sc_laid_out.nd rfl (.inl rfl) (XO.pe (xo_call G_laid_in (hr.mono (by decide)) (by rfl) T.g_laid_in T.F_laid_in.kp (b_laid_in T) (xa_cons (xe_pv (pv 2)) (xa_cons (XO.toE (xo_callTy call_tuple_of sem_tuple (by rfl) T.n_tuple (by decide +kernel) (xe_pv (pv 3)))) (xa_cons (xe_pv (pv 1)) xa_nil)))))) (fun _ _ _ h => h))))
    (xss_one (xs_retV (pv 2)))))
theorem ok_laid_out (T : Txt K mg) (G_laid_in : FnOk P w K mg base CX0 3 T.a_laid_in T.fd_laid_in ["pairs", "row", "p"] (liftSp K sp_laid_in)) : FnOk P w K mg base CX0 4 T.a_laid_out T.fd_laid_out ["rows", "p"] (liftSp K sp_laid_out) :=
  fn_tree T.F_laid_out sc_laid_out len_laid_out (body_laid_out T G_laid_in) does_laid_out
theorem body_reduced (T : Txt K mg) (G_laid_out : FnOk P w K mg base CX0 4 T.a_laid_out T.fd_laid_out ["rows", "p"] (liftSp K sp_laid_out)) (cdv : Value) (A : Around) (outer : List Env) (s : Shared) (H : Hp) (E : XK) (hr : Room 4 (A.deeper (envOfC "reduced" (defScope s_reduced) s.heap.objs.size T.a_reduced cdv))) :
    XSs (cxOf CX0 P w K mg base N_reduced "reduced" (defScope s_reduced) T.a_reduced cdv A outer s H E).nox (defBody s_reduced) wb_reduced :=
  (xss_one (xs_ret (xo_callTy call_tuple_of sem_tuple (by rfl) T.n_tuple (by decide +kernel) (XO.toE (xo_lc (own := [("lead", 2), ("row", 3)]) (by rfl) sc_reduced.nd (xi_any (XO.toE (xo_call G_laid_out (hr.mono (by decide)) (by rfl) T.g_laid_out T.F_laid_out.kp (b_laid_out T) (xa_cons (xe_pv (pv 0)) (xa_cons (xe_pv (pv 1)) xa_nil))))) (blkOk_by (own := [("lead", 2), ("row", 3)]) (N := N_reduced) (sc := defScope s_reduced) (by decide +kernel)) (fun _ _ _ _ _ => (xg_tup rfl (xgs_cons (xg_name (i := 2) (pg_name sc_reduced.nd rfl (.inl rfl))) (xgs_cons (xg_name (i := 3) (pg_name sc_reduced.nd rfl (.inl rfl))) xgs_nil)))) (fun _ _ _ _ _ => xts_nil) (fun _ _ _ _ _ => (XE.toO (xe_pv (pv 3)))) (by decide))))))
theorem ok_reduced (T : Txt K mg) (G_laid_out : FnOk P w K mg base CX0 4 T.a_laid_out T.fd_laid_out ["rows", "p"] (liftSp K sp_laid_out)) : FnOk P w K mg base CX0 5 T.a_reduced T.fd_reduced ["rows", "p"] (liftSp K sp_reduced) :=
  fn_tree T.F_reduced sc_reduced len_reduced (body_reduced T G_laid_out) does_reduced
theorem body_null_for (T : Txt K mg) (cdv : Value) (A : Around) (outer : List Env) (s : Shared) (H : Hp) (E : XK) (hr : Room 0 (A.deeper (envOfC "null_for" (defScope s_null_for) s.heap.objs.size T.a_null_for cdv))) :
    XSs (cxOf CX0 P w K mg base N_null_for "null_for" (defScope s_null_for) T.a_null_for cdv A outer s H E).nox (defBody s_null_for) wb_null_for :=
  (xss_cons (xs_set (i := 4) (ps_set (i := 4) sc_null_for.nd rfl (.inl rfl) (XO.pe (xo_bin op_mulT sem_mul (XO.toE (xo_lst (xao_cons (XE.toO xe_int) xao_nil))) (xe_pv (pv 2))))) (fun _ _ _ h => h))
    (xss_cons (xs_setIx (i := 4) (ps_asg (XO.pe (XE.toO xe_int)) (pg_sub (pv 4) (XE.pe (xe_pv (pv 1))) set_list)))
    (xss_cons (xs_for PassesOwn.never (by rfl) (xi_any (xe_pv (pv 0))) (xg_tup rfl (xgs_cons (xg_name (i := 5) (pg_name sc_null_for.nd rfl (.inl rfl))) (xgs_cons (xg_name (i := 6) (pg_name sc_null_for.nd rfl (.inl rfl))) xgs_nil))) (xss_one (xs_setIx (i := 4) (ps_asg (XO.pe (xo_bin op_mod sem_mod (XO.toE (xo_bin op_sub sem_sub xe_int (xe_ixL (i := 6) (pv 6) (xe_pv (pv 1))))) (xe_pv (pv 3)))) (pg_sub (pv 4) (XE.pe (xe_pv (pv 5))) set_list)))))
    (xss_one (xs_ret (xo_callTy call_tuple_of sem_tuple (by rfl) T.n_tuple (by decide +kernel) (xe_pv (pv 4))))))))
theorem ok_null_for (T : Txt K mg) : FnOk P w K mg base CX0 1 T.a_null_for T.fd_null_for ["pairs", "spot", "width", "p"] (liftSp K sp_null_for) :=
  fn_tree T.F_null_for sc_null_for len_null_for (body_null_for T) does_null_for
theorem body_nulls_of (T : Txt K mg) (G_laid_out : FnOk P w K mg base CX0 4 T.a_laid_out T.fd_laid_out ["rows", "p"] (liftSp K sp_laid_out)) (G_reduced : FnOk P w K mg base CX0 5 T.a_reduced T.fd_reduced ["rows", "p"] (liftSp K sp_reduced)) (G_null_for : FnOk P w K mg base CX0 1 T.a_null_for T.fd_null_for ["pairs", "spot", "width", "p"] (liftSp K sp_null_for)) (cdv : Value) (A : Around) (outer : List Env) (s : Shared) (H : Hp) (E : XK) (hr : Room 5 (A.deeper (envOfC "nulls_of" (defScope s_nulls_of) s.heap.objs.size T.a_nulls_of cdv))) :
    XSs (cxOf CX0 P w K mg base N_nulls_of "nulls_of" (defScope s_nulls_of) T.a_nulls_of cdv A outer s H E).nox (defBody s_nulls_of) wb_nulls_of :=
  (xss_cons (xs_set (i := 3) (ps_set (i := 3) sc_nulls_of.nd rfl (.inr rfl) (XO.pe (xo_call G_laid_out (hr.mono (by decide)) (by rfl) T.g_laid_out T.F_laid_out.kp (b_laid_out T) (xa_cons (xe_pv (pv 0)) (xa_cons (xe_pv (pv 2)) xa_nil))))) (fun _ _ _ h => h))
    (xss_cons (xs_set (i := 4) (ps_set (i := 4) sc_nulls_of.nd rfl (.inr rfl) (XO.pe (xo_lc (own := [("lead", 5), ("row", 6)]) (by rfl) sc_nulls_of.nd (xi_any (xe_pv (pv 3))) (blkOk_by (own := [("lead", 5), ("row", 6)]) (N := N_nulls_of) (sc := defScope s_nulls_of) (by decide +kernel)) (fun _ _ _ _ _ => (xg_tup rfl (xgs_cons (xg_name (i := 5) (pg_name sc_nulls_of.nd rfl (.inl rfl))) (xgs_cons (xg_name (i := 6) (pg_name sc_nulls_of.nd rfl (.inl rfl))) xgs_nil)))) (fun _ _ _ _ _ => xts_nil) (fun _ _ _ _ _ => (XE.toO (xe_pv (pv 5)))) (by decide)))) (fun _ _ _ h => h))
    (xss_one (xs_ret (xo_call G_reduced (hr.mono (by decide)) (by rfl) T.g_reduced T.F_reduced.kp (b_reduced T) (xa_cons (XO.toE (xo_lc (own := [("spot", 7)]) (by rfl) sc_nulls_of.nd (xi_rng1 (by rfl) T.n_range (xe_pv (pv 1))) (blkOk_by (own := [("spot", 7)]) (N := N_nulls_of) (sc := defScope s_nulls_of) (by decide +kernel)) (fun _ _ _ _ _ => (xg_name (i := 7) (pg_name sc_nulls_of.nd rfl (.inl rfl)))) (fun _ _ _ _ _ => (xts_one (xt_cmpL (i := 7) (op_notInD hr.units) (sem_inD true) (pv 7) (xb_pv (pv 4))))) (fun _ _ _ _ _ => (xo_call G_null_for (hr.mono (by decide)) (by rfl) T.g_null_for T.F_null_for.kp (b_null_for T) (xa_cons (xe_pv (pv 3)) (xa_cons (xe_pv (pv 7)) (xa_cons (xe_pv (pv 1)) (xa_cons (xe_pv (pv 2)) xa_nil)))))) (by decide))) (xa_cons (xe_pv (pv 2)) xa_nil)))))))
theorem ok_nulls_of (T : Txt K mg) (G_laid_out : FnOk P w K mg base CX0 4 T.a_laid_out T.fd_laid_out ["rows", "p"] (liftSp K sp_laid_out)) (G_reduced : FnOk P w K mg base CX0 5 T.a_reduced T.fd_reduced ["rows", "p"] (liftSp K sp_reduced)) (G_null_for : FnOk P w K mg base CX0 1 T.a_null_for T.fd_null_for ["pairs", "spot", "width", "p"] (liftSp K sp_null_for)) : FnOk P w K mg base CX0 6 T.a_nulls_of T.fd_nulls_of ["rows", "width", "p"] (liftSp K sp_nulls_of) :=
  fn_tree T.F_nulls_of sc_nulls_of len_nulls_of (body_nulls_of T G_laid_out G_reduced G_null_for) does_nulls_of
theorem body_common (T : Txt K mg) (G_nulls_of : FnOk P w K mg base CX0 6 T.a_nulls_of T.fd_nulls_of ["rows", "width", "p"] (liftSp K sp_nulls_of)) (cdv : Value) (A : Around) (outer : List Env) (s : Shared) (H : Hp) (E : XK) (hr : Room 6 (A.deeper (envOfC "common" (defScope s_common) s.heap.objs.size T.a_common cdv))) :
    XSs (cxOf CX0 P w K mg base N_common "common" (defScope s_common) T.a_common cdv A outer s H E).nox (defBody s_common) wb_common :=
  (xss_one (xs_ret (xo_call G_nulls_of (hr.mono (by decide)) (by rfl) T.g_nulls_of T.F_nulls_of.kp (b_nulls_of T) (xa_cons (XO.toE (xo_bin op_addT sem_add (XO.toE (xo_call G_nulls_of (hr.mono (by decide)) (by rfl) T.g_nulls_of T.F_nulls_of.kp (b_nulls_of T) (xa_cons (xe_pv (pv 0)) (xa_cons (xe_pv (pv 2)) (xa_cons (xe_pv (pv 3)) xa_nil))))) (XO.toE (xo_call G_nulls_of (hr.mono (by decide)) (by rfl) T.g_nulls_of T.F_nulls_of.kp (b_nulls_of T) (xa_cons (xe_pv (pv 1)) (xa_cons (xe_pv (pv 2)) (xa_cons (xe_pv (pv 3)) xa_nil))))))) (xa_cons (xe_pv (pv 2)) (xa_cons (xe_pv (pv 3)) xa_nil))))))
theorem ok_common (T : Txt K mg) (G_nulls_of : FnOk P w K mg base CX0 6 T.a_nulls_of T.fd_nulls_of ["rows", "width", "p"] (liftSp K sp_nulls_of)) : FnOk P w K mg base CX0 7 T.a_common T.fd_common ["one", "other", "width", "p"] (liftSp K sp_common) :=
  fn_tree T.F_common sc_common len_common (body_common T G_nulls_of) does_common
theorem body__law_alike (T : Txt K mg) (cdv : Value) (A : Around) (outer : List Env) (s : Shared) (H : Hp) (E : XK) (hr : Room 0 (A.deeper (envOfC "_law_alike" (defScope s__law_alike) s.heap.objs.size T.a__law_alike cdv))) :
    XSs (cxOf CX0 P w K mg base N__law_alike "_law_alike" (defScope s__law_alike) T.a__law_alike cdv A outer s H E).nox (defBody s__law_alike) wb__law_alike :=
  (xss_cons (xs_if (XW.t (xw_or (xt_not (xt_tru (XE.toB (xe_isi (t := .tup) (by rfl) T.n_isinstance (by rfl) T.n_tuple (by decide +kernel) (xb_pv (pv 0)))))) (XT.o1 (xt_cmpL (i := 0) (op_neT hr.units) sem_ne (pv 0) (xb_pv (pv 1)))))) (xss_one (xs_ret (XE.toO xe_bl))) xss_nil)
    (xss_cons (xs_if (xt_cmp (op_neT hr.units) sem_ne (XO.toE (xo_lc (own := [("line", 2)]) (by rfl) sc__law_alike.nd (xi_any (xe_pv (pv 0))) (blkOk_by (own := [("line", 2)]) (N := N__law_alike) (sc := defScope s__law_alike) (by decide +kernel)) (fun _ _ _ _ _ => (xg_name (i := 2) (pg_name sc__law_alike.nd rfl (.inl rfl)))) (fun _ _ _ _ _ => (xts_one (xt_not (xt_tru (XE.toB (xe_isi (t := .tup) (by rfl) T.n_isinstance (by rfl) T.n_tuple (by decide +kernel) (xb_pv (pv 2)))))))) (fun _ _ _ _ _ => (XE.toO (xe_pv (pv 2)))) (by decide))) (XE.toB (XO.toE (xo_lst xao_nil)))) (xss_one (xs_ret (XE.toO xe_bl))) xss_nil)
    (xss_one (xs_ret (XE.toO (xe_cmp (op_eqT hr.units) sem_eq (XO.toE (xo_lc (own := [("line", 2)]) (by rfl) sc__law_alike.nd (xi_any (xe_pv (pv 0))) (blkOk_by (own := [("line", 2)]) (N := N__law_alike) (sc := defScope s__law_alike) (by decide +kernel)) (fun _ _ _ _ _ => (xg_name (i := 2) (pg_name sc__law_alike.nd rfl (.inl rfl)))) (fun _ _ _ _ _ => (xts_one (xt_cmp (op_neT hr.units) sem_ne (XO.toE (xo_lc (own := [("number", 3)]) (by rfl) sc__law_alike.nd (xi_any (xe_pv (pv 2))) (blkOk_by (own := [("number", 3)]) (N := N__law_alike) (sc := { kind := .function, names := [(".0", .local), ("line", .local)], isGenerator := false, isCoroutine := false }) (by decide +kernel)) (fun _ _ _ _ _ => (xg_name (i := 3) (pg_name sc__law_alike.nd rfl (.inl rfl)))) (fun _ _ _ _ _ => (xts_one (xt_tru (XE.toB (xe_isi (t := .bl) (by rfl) T.n_isinstance (by rfl) T.n_bool (by decide +kernel) (xb_pv (pv 3))))))) (fun _ _ _ _ _ => (XE.toO (xe_pv (pv 3)))) (by decide))) (XE.toB (XO.toE (xo_lst xao_nil)))))) (fun _ _ _ _ _ => (XE.toO (xe_pv (pv 2)))) (by decide))) (XE.toB (XO.toE (xo_lst xao_nil)))))))))
theorem ok__law_alike (T : Txt K mg) : FnOk P w K mg base CX0 1 T.a__law_alike T.fd__law_alike ["told", "wanted"] (liftSp K sp__law_alike) :=
  fn_tree T.F__law_alike sc__law_alike len__law_alike (body__law_alike T) does__law_alike
theorem body__law_inverse (T : Txt K mg) (cdv : Value) (A : Around) (outer : List Env) (s : Shared) (H : Hp) (E : XK) (hr : Room 0 (A.deeper (envOfC "_law_inverse" (defScope s__law_inverse) s.heap.objs.size T.a__law_inverse cdv))) :
    XSs (cxOf CX0 P w K mg base N__law_inverse "_law_inverse" (defScope s__law_inverse) T.a__law_inverse cdv A outer s H E).nox (defBody s__law_inverse) wb__law_inverse :=
  (xss_one (xs_ret (XE.toO (xe_ix (XO.toE (xo_lc (own := [("k", 2)]) (by rfl) sc__law_inverse.nd (xi_rng2 (by rfl) T.n_range xe_int (xe_pv (pv 1))) (blkOk_by (own := [("k", 2)]) (N := N__law_inverse) (sc := defScope s__law_inverse) (by decide +kernel)) (fun _ _ _ _ _ => (xg_name (i := 2) (pg_name sc__law_inverse.nd rfl (.inl rfl)))) (fun _ _ _ _ _ => (xts_one (xt_cmp (op_eqT hr.units) sem_eq (XO.toE (xo_bin op_mod sem_mod (XO.toE (xo_bin op_mulT sem_mul (xe_pv (pv 2)) (xe_pv (pv 0)))) (xe_pv (pv 1)))) (XE.toB xe_int)))) (fun _ _ _ _ _ => (XE.toO (xe_pv (pv 2)))) (by decide))) xe_int))))
theorem ok__law_inverse (T : Txt K mg) : FnOk P w K mg base CX0 1 T.a__law_inverse T.fd__law_inverse ["n", "base"] (liftSp K sp__law_inverse) :=
  fn_tree T.F__law_inverse sc__law_inverse len__law_inverse (body__law_inverse T) does__law_inverse
theorem body__law_reduced (T : Txt K mg) (G__law_times : FnOk P w K mg base CX0 1 T.a__law_times T.fd__law_times ["line", "n", "base"] (liftSp K sp__law_times)) (G__law_inverse : FnOk P w K mg base CX0 1 T.a__law_inverse T.fd__law_inverse ["n", "base"] (liftSp K sp__law_inverse)) (G__law_together : FnOk P w K mg base CX0 1 T.a__law_together T.fd__law_together ["line", "two", "base"] (liftSp K sp__law_together)) (cdv : Value) (A : Around) (outer : List Env) (s : Shared) (H : Hp) (E : XK) (hr : Room 1 (A.deeper (envOfC "_law_reduced" (defScope s__law_reduced) s.heap.objs.size T.a__law_reduced cdv))) :
    XSs (cxOf CX0 P w K mg base N__law_reduced "_law_reduced" (defScope s__law_reduced) T.a__law_reduced cdv A outer s H E).nox (defBody s__law_reduced) wb__law_reduced :=
  (xss_cons (xs_lc (i := 3) (own := [("line", 8)]) (by rfl) sc__law_reduced.nd rfl rfl (sw_true rfl rfl rfl (by decide +kernel)) (xi_any (xe_pv (pv 0))) (blkOk_by (own := [("line", 8)]) (N := N__law_reduced) (sc := defScope s__law_reduced) (by decide +kernel)) (fun _ _ _ _ _ => (xg_name (i := 8) (pg_name sc__law_reduced.nd rfl (.inl rfl)))) (fun _ _ _ _ _ => xts_nil) (fun _ _ _ _ _ => (XE.toO (XO.toE (xo_callTy call_list_of sem_list (by rfl) T.n_list (by decide +kernel) (xe_pv (pv 8)))))) (by decide))
    (xss_cons (xs_set (i := 4) (ps_set (i := 4) sc__law_reduced.nd rfl (.inl rfl) (XO.pe (xo_lst xao_nil))) (fun _ _ _ h => h))
    (xss_cons (xs_for PassesOwn.never (by rfl) (xi_rng1 (by rfl) T.n_range (xe_pv (pv 1))) (xg_name (i := 5) (pg_name sc__law_reduced.nd rfl (.inr rfl))) (xss_cons (xs_set (i := 6) (ps_set (i := 6) sc__law_reduced.nd rfl (.inl rfl) (XO.pe (xo_sl (XO.toE (xo_lcH (i := 3) (own := [("line", 8)]) (by rfl) sc__law_reduced.nd (pv 3) (blkOk_by (own := [("line", 8)]) (N := N__law_reduced) (sc := defScope s__law_reduced) (by decide +kernel)) (fun _ _ _ _ _ => (xg_name (i := 8) (pg_name sc__law_reduced.nd rfl (.inl rfl)))) (fun _ _ _ _ _ => (xts_one (xt_cmp (op_neT hr.units) sem_ne (xe_ixL (i := 8) (pv 8) (xe_pv (pv 5))) (XE.toB xe_int)))) (fun _ _ _ _ _ => (XE.toO (xe_pv (pv 8)))) (by decide))) xp_none (xp_some xe_int)))) (fun _ _ _ h => h))
    (xss_one (xs_if (xt_cmpL (i := 6) (op_neT hr.units) sem_ne (pv 6) (XE.toB (XO.toE (xo_lst xao_nil)))) (xss_cons (xs_rem hr.units (pv 3) (xe_ixL (i := 6) (pv 6) xe_int))
    (xss_cons (xs_set (i := 7) (ps_set (i := 7) sc__law_reduced.nd rfl (.inr rfl) (XO.pe (xo_call G__law_times (hr.mono (by decide)) (by rfl) T.g__law_times T.F__law_times.kp (b__law_times T) (xa_cons (xe_ixL (i := 6) (pv 6) xe_int) (xa_cons (XO.toE (xo_call G__law_inverse (hr.mono (by decide)) (by rfl) T.g__law_inverse T.F__law_inverse.kp (b__law_inverse T) (xa_cons (xe_ix (xe_ixL (i := 6) (pv 6) xe_int) (xe_pv (pv 5))) (xa_cons (xe_pv (pv 2)) xa_nil)))) (xa_cons (xe_pv (pv 2)) xa_nil)))))) (fun _ _ _ h => h))
    (xss_cons (xs_set (i := 4) (ps_set (i := 4) sc__law_reduced.nd rfl (.inl rfl) (XO.pe (xo_bin op_addT sem_add (XO.toE (xo_lc (own := [("line", 8)]) (by rfl) sc__law_reduced.nd (xi_any (xe_pv (pv 4))) (blkOk_by (own := [("line", 8)]) (N := N__law_reduced) (sc := defScope s__law_reduced) (by decide +kernel)) (fun _ _ _ _ _ => (xg_name (i := 8) (pg_name sc__law_reduced.nd rfl (.inl rfl)))) (fun _ _ _ _ _ => xts_nil) (fun _ _ _ _ _ => (xo_call G__law_together (hr.mono (by decide)) (by rfl) T.g__law_together T.F__law_together.kp (b__law_together T) (xa_cons (xe_pv (pv 8)) (xa_cons (XO.toE (xo_call G__law_times (hr.mono (by decide)) (by rfl) T.g__law_times T.F__law_times.kp (b__law_times T) (xa_cons (xe_pv (pv 7)) (xa_cons (XO.toE (xo_bin op_sub sem_sub (xe_pv (pv 2)) (xe_ixL (i := 8) (pv 8) (xe_pv (pv 5))))) (xa_cons (xe_pv (pv 2)) xa_nil))))) (xa_cons (xe_pv (pv 2)) xa_nil))))) (by decide))) (XO.toE (xo_lst (xao_cons (XE.toO (xe_pv (pv 7))) xao_nil)))))) (fun _ _ _ h => h))
    (xss_one (xs_lcH (i := 3) (j := 3) (own := [("line", 8)]) (by rfl) sc__law_reduced.nd rfl rfl (sw_true rfl rfl rfl (by decide +kernel)) (pv 3) (blkOk_by (own := [("line", 8)]) (N := N__law_reduced) (sc := defScope s__law_reduced) (by decide +kernel)) (fun _ _ _ _ _ => (xg_name (i := 8) (pg_name sc__law_reduced.nd rfl (.inl rfl)))) (fun _ _ _ _ _ => xts_nil) (fun _ _ _ _ _ => (XE.toO (XO.toE (xo_callTy call_list_of sem_list (by rfl) T.n_list (by decide +kernel) (XO.toE (xo_call G__law_together (hr.mono (by decide)) (by rfl) T.g__law_together T.F__law_together.kp (b__law_together T) (xa_cons (xe_pv (pv 8)) (xa_cons (XO.toE (xo_call G__law_times (hr.mono (by decide)) (by rfl) T.g__law_times T.F__law_times.kp (b__law_times T) (xa_cons (xe_pv (pv 7)) (xa_cons (XO.toE (xo_bin op_sub sem_sub (xe_pv (pv 2)) (xe_ixL (i := 8) (pv 8) (xe_pv (pv 5))))) (xa_cons (xe_pv (pv 2)) xa_nil))))) (xa_cons (xe_pv (pv 2)) xa_nil))))))))) (by decide)))))) xss_nil))))
    (xss_one (xs_ret (xo_callTy call_tuple_of sem_tuple (by rfl) T.n_tuple (by decide +kernel) (XO.toE (xo_lc (own := [("line", 8)]) (by rfl) sc__law_reduced.nd (xi_any (xe_pv (pv 4))) (blkOk_by (own := [("line", 8)]) (N := N__law_reduced) (sc := defScope s__law_reduced) (by decide +kernel)) (fun _ _ _ _ _ => (xg_name (i := 8) (pg_name sc__law_reduced.nd rfl (.inl rfl)))) (fun _ _ _ _ _ => xts_nil) (fun _ _ _ _ _ => (xo_callTy call_tuple_of sem_tuple (by rfl) T.n_tuple (by decide +kernel) (xe_pv (pv 8)))) (by decide)))))))))
theorem ok__law_reduced (T : Txt K mg) (G__law_times : FnOk P w K mg base CX0 1 T.a__law_times T.fd__law_times ["line", "n", "base"] (liftSp K sp__law_times)) (G__law_inverse : FnOk P w K mg base CX0 1 T.a__law_inverse T.fd__law_inverse ["n", "base"] (liftSp K sp__law_inverse)) (G__law_together : FnOk P w K mg base CX0 1 T.a__law_together T.fd__law_together ["line", "two", "base"] (liftSp K sp__law_together)) : FnOk P w K mg base CX0 2 T.a__law_reduced T.fd__law_reduced ["lot", "wideness", "base"] (liftSp K sp__law_reduced) :=
  fn_tree T.F__law_reduced sc__law_reduced len__law_reduced (body__law_reduced T G__law_times G__law_inverse G__law_together) does__law_reduced
theorem body__law_is_few (T : Txt K mg) (cdv : Value) (A : Around) (outer : List Env) (s : Shared) (H : Hp) (E : XK) (hr : Room 0 (A.deeper (envOfC "_law_is_few" (defScope s__law_is_few) s.heap.objs.size T.a__law_is_few cdv))) :
    XSs (cxOf CX0 P w K mg base N__law_is_few "_law_is_few" (defScope s__law_is_few) T.a__law_is_few cdv A outer s H E).nox (defBody s__law_is_few) wb__law_is_few :=
  (xss_cons (xs_set (i := 2) (ps_set (i := 2) sc__law_is_few.nd rfl (.inl rfl) (XO.pe (XE.toO xe_int))) (fun _ _ _ h => h))
    (xss_cons (xs_for PassesOwn.never (by rfl) (xi_rng1 (by rfl) T.n_range (xe_callB2 (call_min2 rfl) sem_min2 (by rfl) T.n_min (by decide +kernel) (xe_pv (pv 1)) xe_int)) (xg_name (i := 3) (pg_name sc__law_is_few.nd rfl (.inl rfl))) (xss_one (xs_set (i := 2) (ps_set (i := 2) sc__law_is_few.nd rfl (.inl rfl) (XO.pe (xo_bin op_mulT sem_mul (xe_pv (pv 2)) (xe_pv (pv 0))))) (fun _ _ _ h => h))))
    (xss_one (xs_ret (XE.toO (xe_cmpL (i := 2) op_leT' sem_le (pv 2) (XE.toB xe_int)))))))
theorem ok__law_is_few (T : Txt K mg) : FnOk P w K mg base CX0 1 T.a__law_is_few T.fd__law_is_few ["base", "times"] (liftSp K sp__law_is_few) :=
  fn_tree T.F__law_is_few sc__law_is_few len__law_is_few (body__law_is_few T) does__law_is_few
theorem body__law_few (T : Txt K mg) (G__law_is_few : FnOk P w K mg base CX0 1 T.a__law_is_few T.fd__law_is_few ["base", "times"] (liftSp K sp__law_is_few)) (cdv : Value) (A : Around) (outer : List Env) (s : Shared) (H : Hp) (E : XK) (hr : Room 1 (A.deeper (envOfC "_law_few" (defScope s__law_few) s.heap.objs.size T.a__law_few cdv))) :
    XSs (cxOf CX0 P w K mg base N__law_few "_law_few" (defScope s__law_few) T.a__law_few cdv A outer s H E).nox (defBody s__law_few) wb__law_few :=
  (xss_one (xs_ret (xo_call G__law_is_few (hr.mono (by decide)) (by rfl) T.g__law_is_few T.F__law_is_few.kp (b__law_is_few T) (xa_cons (xe_pv (pv 1)) (xa_cons (xe_callB cr_len sem_len (by rfl) T.n_len (by decide +kernel) (xb_pv (pv 0))) xa_nil)))))
theorem ok__law_few (T : Txt K mg) (G__law_is_few : FnOk P w K mg base CX0 1 T.a__law_is_few T.fd__law_is_few ["base", "times"] (liftSp K sp__law_is_few)) : FnOk P w K mg base CX0 2 T.a__law_few T.fd__law_few ["lot", "base"] (liftSp K sp__law_few) :=
  fn_tree T.F__law_few sc__law_few len__law_few (body__law_few T G__law_is_few) does__law_few
theorem body__law_all (T : Txt K mg) (G__law_together : FnOk P w K mg base CX0 1 T.a__law_together T.fd__law_together ["line", "two", "base"] (liftSp K sp__law_together)) (G__law_times : FnOk P w K mg base CX0 1 T.a__law_times T.fd__law_times ["line", "n", "base"] (liftSp K sp__law_times)) (cdv : Value) (A : Around) (outer : List Env) (s : Shared) (H : Hp) (E : XK) (hr : Room 1 (A.deeper (envOfC "_law_all" (defScope s__law_all) s.heap.objs.size T.a__law_all cdv))) :
    XSs (cxOf CX0 P w K mg base N__law_all "_law_all" (defScope s__law_all) T.a__law_all cdv A outer s H E).nox (defBody s__law_all) wb__law_all :=
  (xss_cons (xs_set (i := 3) (ps_set (i := 3) sc__law_all.nd rfl (.inl rfl) (XO.pe (xo_disp1T hr.units (XO.toE (xo_bin op_mulT sem_mul (xe_tup (xa_cons xe_int xa_nil)) (xe_pv (pv 1)))) xe_bl))) (fun _ _ _ h => h))
    (xss_cons (xs_for PassesOwn.never (by rfl) (xi_any (xe_pv (pv 0))) (xg_name (i := 4) (pg_name sc__law_all.nd rfl (.inl rfl))) (xss_one (xs_for PassesOwn.never (by rfl) (xi_any (XO.toE (xo_listH (i := 3) (by rfl) (by rfl) T.n_list (pv 3)))) (xg_name (i := 5) (pg_name sc__law_all.nd rfl (.inl rfl))) (xss_one (xs_for PassesOwn.never (by rfl) (xi_rng2 (by rfl) T.n_range xe_int (xe_pv (pv 2))) (xg_name (i := 6) (pg_name sc__law_all.nd rfl (.inl rfl))) (xss_one (xs_setK (i := 3) hr.units (pv 3) (XO.toE (xo_call G__law_together (hr.mono (by decide)) (by rfl) T.g__law_together T.F__law_together.kp (b__law_together T) (xa_cons (xe_pv (pv 5)) (xa_cons (XO.toE (xo_call G__law_times (hr.mono (by decide)) (by rfl) T.g__law_times T.F__law_times.kp (b__law_times T) (xa_cons (xe_pv (pv 4)) (xa_cons (xe_pv (pv 6)) (xa_cons (xe_pv (pv 2)) xa_nil))))) (xa_cons (xe_pv (pv 2)) xa_nil))))) xe_bl)))))))
    (xss_one (xs_retV (pv 3)))))
theorem ok__law_all (T : Txt K mg) (G__law_together : FnOk P w K mg base CX0 1 T.a__law_together T.fd__law_together ["line", "two", "base"] (liftSp K sp__law_together)) (G__law_times : FnOk P w K mg base CX0 1 T.a__law_times T.fd__law_times ["line", "n", "base"] (liftSp K sp__law_times)) : FnOk P w K mg base CX0 2 T.a__law_all T.fd__law_all ["lot", "wideness", "base"] (liftSp K sp__law_all) :=
  fn_tree T.F__law_all sc__law_all len__law_all (body__law_all T G__law_together G__law_times) does__law_all
theorem body_follows (T : Txt K mg) (G_lead_of : FnOk P w K mg base CX0 1 T.a_lead_of T.fd_lead_of ["row"] (liftSp K sp_lead_of)) (G_cleared : FnOk P w K mg base CX0 2 T.a_cleared T.fd_cleared ["pairs", "row", "p"] (liftSp K sp_cleared)) (G_laid_out : FnOk P w K mg base CX0 4 T.a_laid_out T.fd_laid_out ["rows", "p"] (liftSp K sp_laid_out)) (cdv : Value) (A : Around) (outer : List Env) (s : Shared) (H : Hp) (E : XK) (hr : Room 4 (A.deeper (envOfC "follows" (defScope s_follows) s.heap.objs.size T.a_follows cdv))) :
    XSs (cxOf CX0 P w K mg base N_follows "follows" (defScope s_follows) T.a_follows cdv A outer s H E).nox (defBody s_follows) wb_follows :=
  (xss_one (xs_ret (XE.toO (xe_cmp op_isT (sem_is false) (XO.toE (xo_call G_lead_of (hr.mono (by decide)) (by rfl) T.g_lead_of T.F_lead_of.kp (b_lead_of T) (xa_cons (XO.toE (xo_call G_cleared (hr.mono (by decide)) (by rfl) T.g_cleared T.F_cleared.kp (b_cleared T) (xa_cons (XO.toE (xo_call G_laid_out (hr.mono (by decide)) (by rfl) T.g_laid_out T.F_laid_out.kp (b_laid_out T) (xa_cons (xe_pv (pv 0)) (xa_cons (xe_pv (pv 2)) xa_nil)))) (xa_cons (XO.toE (xo_callTy call_tuple_of sem_tuple (by rfl) T.n_tuple (by decide +kernel) (xe_pv (pv 1)))) (xa_cons (xe_pv (pv 2)) xa_nil))))) xa_nil))) (XE.toB xe_non)))))
theorem ok_follows (T : Txt K mg) (G_lead_of : FnOk P w K mg base CX0 1 T.a_lead_of T.fd_lead_of ["row"] (liftSp K sp_lead_of)) (G_cleared : FnOk P w K mg base CX0 2 T.a_cleared T.fd_cleared ["pairs", "row", "p"] (liftSp K sp_cleared)) (G_laid_out : FnOk P w K mg base CX0 4 T.a_laid_out T.fd_laid_out ["rows", "p"] (liftSp K sp_laid_out)) : FnOk P w K mg base CX0 5 T.a_follows T.fd_follows ["rows", "row", "p"] (liftSp K sp_follows) :=
  fn_tree T.F_follows sc_follows len_follows (body_follows T G_lead_of G_cleared G_laid_out) does_follows
theorem body__law_common_right (T : Txt K mg) (G_common : FnOk P w K mg base CX0 7 T.a_common T.fd_common ["one", "other", "width", "p"] (liftSp K sp_common)) (G__law_alike : FnOk P w K mg base CX0 1 T.a__law_alike T.fd__law_alike ["told", "wanted"] (liftSp K sp__law_alike)) (G__law_reduced : FnOk P w K mg base CX0 2 T.a__law_reduced T.fd__law_reduced ["lot", "wideness", "base"] (liftSp K sp__law_reduced)) (G__law_few : FnOk P w K mg base CX0 2 T.a__law_few T.fd__law_few ["lot", "base"] (liftSp K sp__law_few)) (G__law_all : FnOk P w K mg base CX0 2 T.a__law_all T.fd__law_all ["lot", "wideness", "base"] (liftSp K sp__law_all)) (G_follows : FnOk P w K mg base CX0 5 T.a_follows T.fd_follows ["rows", "row", "p"] (liftSp K sp_follows)) (cdv : Value) (A : Around) (outer : List Env) (s : Shared) (H : Hp) (E : XK) (hr : Room 7 (A.deeper (envOfC "_law_common_right" (defScope s__law_common_right) s.heap.objs.size T.a__law_common_right cdv))) :
    XSs (cxOf CX0 P w K mg base N__law_common_right "_law_common_right" (defScope s__law_common_right) T.a__law_common_right cdv A outer s H E).nox (defBody s__law_common_right) wb__law_common_right :=
  (xss_cons (xs_set (i := 4) (ps_set (i := 4) sc__law_common_right.nd rfl (.inl rfl) (XO.pe (xo_call G_common (hr.mono (by decide)) (by rfl) T.g_common T.F_common.kp (b_common T) (xa_cons (xe_pv (pv 0)) (xa_cons (xe_pv (pv 1)) (xa_cons (xe_pv (pv 2)) (xa_cons (xe_pv (pv 3)) xa_nil))))))) (fun _ _ _ h => h))
    (xss_cons (xs_if (xt_not (xt_tru (XE.toB (XO.toE (xo_call G__law_alike (hr.mono (by decide)) (by rfl) T.g__law_alike T.F__law_alike.kp (b__law_alike T) (xa_cons (xe_pv (pv 4)) (xa_cons (XO.toE (xo_call G__law_reduced (hr.mono (by decide)) (by rfl) T.g__law_reduced T.F__law_reduced.kp (b__law_reduced T) (xa_cons (xe_pv (pv 4)) (xa_cons (xe_pv (pv 2)) (xa_cons (xe_pv (pv 3)) xa_nil))))) xa_nil))))))) (xss_one (xs_ret (XE.toO xe_bl))) xss_nil)
    (xss_cons (xs_if (xt_cmp (op_neT hr.units) sem_ne (XO.toE (xo_callK0 (ks := ["p", "width", "other", "one"]) G_common (hr.mono (by decide)) (by rfl) T.g_common T.F_common.kp (kw_common_0_p_width_other_one T) (xk_cons (xe_pv (pv 3)) (xk_cons (xe_pv (pv 2)) (xk_cons (xe_pv (pv 0)) (xk_cons (xe_pv (pv 1)) xk_nil)))))) (xb_pv (pv 4))) (xss_one (xs_ret (XE.toO xe_bl))) xss_nil)
    (xss_cons (xs_asg (ps_asg (XE.pe (xe_tup (xa_cons (XO.toE (xo_call G__law_reduced (hr.mono (by decide)) (by rfl) T.g__law_reduced T.F__law_reduced.kp (b__law_reduced T) (xa_cons (xe_pv (pv 0)) (xa_cons (xe_pv (pv 2)) (xa_cons (xe_pv (pv 3)) xa_nil))))) (xa_cons (XO.toE (xo_call G__law_reduced (hr.mono (by decide)) (by rfl) T.g__law_reduced T.F__law_reduced.kp (b__law_reduced T) (xa_cons (xe_pv (pv 1)) (xa_cons (xe_pv (pv 2)) (xa_cons (xe_pv (pv 3)) xa_nil))))) xa_nil)))) (XG.pg (xg_tup rfl (xgs_cons (xg_name (i := 0) (pg_name sc__law_common_right.nd rfl (.inr rfl))) (xgs_cons (xg_name (i := 5) (pg_name sc__law_common_right.nd rfl (.inl rfl))) xgs_nil))))))
    (xss_cons (xs_set (i := 6) (ps_set (i := 6) sc__law_common_right.nd rfl (.inl rfl) (XO.pe (xo_call G__law_reduced (hr.mono (by decide)) (by rfl) T.g__law_reduced T.F__law_reduced.kp (b__law_reduced T) (xa_cons (XO.toE (xo_bin op_addT sem_add (xe_pv (pv 0)) (xe_pv (pv 1)))) (xa_cons (xe_pv (pv 2)) (xa_cons (xe_pv (pv 3)) xa_nil)))))) (fun _ _ _ h => h))
    (xss_cons (xs_if (xt_cmp (op_neT hr.units) sem_ne (xe_callB cr_len sem_len (by rfl) T.n_len (by decide +kernel) (xb_pv (pv 4))) (XE.toB (XO.toE (xo_bin op_sub sem_sub (XO.toE (xo_bin op_addT sem_add (xe_callB cr_len sem_len (by rfl) T.n_len (by decide +kernel) (xb_pv (pv 0))) (xe_callB cr_len sem_len (by rfl) T.n_len (by decide +kernel) (xb_pv (pv 5))))) (xe_callB cr_len sem_len (by rfl) T.n_len (by decide +kernel) (xb_pv (pv 6))))))) (xss_one (xs_ret (XE.toO xe_bl))) xss_nil)
    (xss_cons (xs_if (XW.t (xw_and (xt_tru (XE.toB (XO.toE (xo_call G__law_few (hr.mono (by decide)) (by rfl) T.g__law_few T.F__law_few.kp (b__law_few T) (xa_cons (xe_pv (pv 0)) (xa_cons (xe_pv (pv 3)) xa_nil)))))) (XT.w1 (xt_tru (XE.toB (XO.toE (xo_call G__law_few (hr.mono (by decide)) (by rfl) T.g__law_few T.F__law_few.kp (b__law_few T) (xa_cons (xe_pv (pv 5)) (xa_cons (xe_pv (pv 3)) xa_nil))))))))) (xss_cons (xs_set (i := 7) (ps_set (i := 7) sc__law_common_right.nd rfl (.inr rfl) (XO.pe (xo_call G__law_all (hr.mono (by decide)) (by rfl) T.g__law_all T.F__law_all.kp (b__law_all T) (xa_cons (xe_pv (pv 5)) (xa_cons (xe_pv (pv 2)) (xa_cons (xe_pv (pv 3)) xa_nil)))))) (fun _ _ _ h => h))
    (xss_cons (xs_lc (i := 8) (own := [("line", 9)]) (by rfl) sc__law_common_right.nd rfl rfl (sw_true rfl rfl rfl (by decide +kernel)) (xi_any (XO.toE (xo_call G__law_all (hr.mono (by decide)) (by rfl) T.g__law_all T.F__law_all.kp (b__law_all T) (xa_cons (xe_pv (pv 0)) (xa_cons (xe_pv (pv 2)) (xa_cons (xe_pv (pv 3)) xa_nil)))))) (blkOk_by (own := [("line", 9)]) (N := N__law_common_right) (sc := defScope s__law_common_right) (by decide +kernel)) (fun _ _ _ _ _ => (xg_name (i := 9) (pg_name sc__law_common_right.nd rfl (.inl rfl)))) (fun _ _ _ _ _ => (xts_one (xt_cmpL (i := 9) (op_inD hr.units) (sem_inD false) (pv 9) (xb_pv (pv 7))))) (fun _ _ _ _ _ => (XE.toO (xe_pv (pv 9)))) (by decide))
    (xss_one (xs_ret (XE.toO (xe_cmp (op_eqT hr.units) sem_eq (XO.toE (xo_call G__law_reduced (hr.mono (by decide)) (by rfl) T.g__law_reduced T.F__law_reduced.kp (b__law_reduced T) (xa_cons (xe_pv (pv 8)) (xa_cons (xe_pv (pv 2)) (xa_cons (xe_pv (pv 3)) xa_nil))))) (xb_pv (pv 4)))))))) xss_nil)
    (xss_one (xs_ret (XE.toO (xe_cmp (op_eqT hr.units) sem_eq (XO.toE (xo_lc (own := [("line", 9)]) (by rfl) sc__law_common_right.nd (xi_any (xe_pv (pv 4))) (blkOk_by (own := [("line", 9)]) (N := N__law_common_right) (sc := defScope s__law_common_right) (by decide +kernel)) (fun _ _ _ _ _ => (xg_name (i := 9) (pg_name sc__law_common_right.nd rfl (.inl rfl)))) (fun _ _ _ _ _ => (xts_one (XW.t (xw_or (xt_not (xt_tru (XE.toB (XO.toE (xo_call G_follows (hr.mono (by decide)) (by rfl) T.g_follows T.F_follows.kp (b_follows T) (xa_cons (xe_pv (pv 0)) (xa_cons (xe_pv (pv 9)) (xa_cons (xe_pv (pv 3)) xa_nil)))))))) (XT.o1 (xt_not (xt_tru (XE.toB (XO.toE (xo_call G_follows (hr.mono (by decide)) (by rfl) T.g_follows T.F_follows.kp (b_follows T) (xa_cons (xe_pv (pv 1)) (xa_cons (xe_pv (pv 9)) (xa_cons (xe_pv (pv 3)) xa_nil))))))))))))) (fun _ _ _ _ _ => (XE.toO (xe_pv (pv 9)))) (by decide))) (XE.toB (XO.toE (xo_lst xao_nil))))))))))))))
theorem ok__law_common_right (T : Txt K mg) (G_common : FnOk P w K mg base CX0 7 T.a_common T.fd_common ["one", "other", "width", "p"] (liftSp K sp_common)) (G__law_alike : FnOk P w K mg base CX0 1 T.a__law_alike T.fd__law_alike ["told", "wanted"] (liftSp K sp__law_alike)) (G__law_reduced : FnOk P w K mg base CX0 2 T.a__law_reduced T.fd__law_reduced ["lot", "wideness", "base"] (liftSp K sp__law_reduced)) (G__law_few : FnOk P w K mg base CX0 2 T.a__law_few T.fd__law_few ["lot", "base"] (liftSp K sp__law_few)) (G__law_all : FnOk P w K mg base CX0 2 T.a__law_all T.fd__law_all ["lot", "wideness", "base"] (liftSp K sp__law_all)) (G_follows : FnOk P w K mg base CX0 5 T.a_follows T.fd_follows ["rows", "row", "p"] (liftSp K sp_follows)) : FnOk P w K mg base CX0 8 T.a__law_common_right T.fd__law_common_right ["first", "two", "wideness", "base"] (liftSp K sp__law_common_right) :=
  fn_tree T.F__law_common_right sc__law_common_right len__law_common_right (body__law_common_right T G_common G__law_alike G__law_reduced G__law_few G__law_all G_follows) does__law_common_right
theorem body_without (T : Txt K mg) (G_reduced : FnOk P w K mg base CX0 5 T.a_reduced T.fd_reduced ["rows", "p"] (liftSp K sp_reduced)) (G_laid_out : FnOk P w K mg base CX0 4 T.a_laid_out T.fd_laid_out ["rows", "p"] (liftSp K sp_laid_out)) (cdv : Value) (A : Around) (outer : List Env) (s : Shared) (H : Hp) (E : XK) (hr : Room 5 (A.deeper (envOfC "without" (defScope s_without) s.heap.objs.size T.a_without cdv))) :
    XSs (cxOf CX0 P w K mg base N_without "without" (defScope s_without) T.a_without cdv A outer s H E).nox (defBody s_without) wb_without :=
  (xss_cons (xs_set (i := 4) (ps_set (i := 4) sc_without.nd rfl (.inr rfl) (XO.pe (xo_lc (own := [("at", 6)]) (by rfl) sc_without.nd (xi_rng1 (by rfl) T.n_range (xe_pv (pv 2))) (blkOk_by (own := [("at", 6)]) (N := N_without) (sc := defScope s_without) (by decide +kernel)) (fun _ _ _ _ _ => (xg_name (i := 6) (pg_name sc_without.nd rfl (.inl rfl)))) (fun _ _ _ _ _ => (xts_one (xt_cmpL (i := 6) (op_notInD hr.units) (sem_inD true) (pv 6) (xb_pv (pv 1))))) (fun _ _ _ _ _ => (XE.toO (xe_pv (pv 6)))) (by decide)))) (fun _ _ _ h => h))
    (xss_cons (xs_lc (i := 5) (own := [("row", 7)]) (by rfl) sc_without.nd rfl rfl (sw_true rfl rfl rfl (by decide +kernel)) (xi_any (xe_pv (pv 0))) (blkOk_by (own := [("row", 7)]) (N := N_without) (sc := defScope s_without) (by decide +kernel)) (fun _ _ _ _ _ => (xg_name (i := 7) (pg_name sc_without.nd rfl (.inr rfl)))) (fun _ _ _ _ _ => xts_nil) (fun _ _ _ _ _ => (xo_callTy call_tuple_of sem_tuple (by rfl) T.n_tuple (by decide +kernel) (XO.toE (xo_lc (own := [("at", 6)]) (by rfl) sc_without.nd (xi_any (XO.toE (xo_bin op_addT sem_add (XO.toE (xo_callTy call_list_of sem_list (by rfl) T.n_list (by decide +kernel) (xe_pv (pv 1)))) (xe_pv (pv 4))))) (blkOk_by (own := [("at", 6)]) (N := N_without) (sc := { kind := .function, names := [(".0", .local), ("row", .cell), ("tuple", .globalImplicit), ("list", .globalImplicit), ("columns", .cell), ("rest", .cell)], isGenerator := false, isCoroutine := false }) (by decide +kernel)) (fun _ _ _ _ _ => (xg_name (i := 6) (pg_name sc_without.nd rfl (.inl rfl)))) (fun _ _ _ _ _ => xts_nil) (fun _ _ _ _ _ => (XE.toO (xe_ixL (i := 7) (pv 7) (xe_pv (pv 6))))) (by decide))))) (by decide))
    (xss_one (xs_ret (xo_call G_reduced (hr.mono (by decide)) (by rfl) T.g_reduced T.F_reduced.kp (b_reduced T) (xa_cons (XO.toE (xo_lc (own := [("lead", 8), ("row", 7)]) (by rfl) sc_without.nd (xi_any (XO.toE (xo_call G_laid_out (hr.mono (by decide)) (by rfl) T.g_laid_out T.F_laid_out.kp (b_laid_out T) (xa_cons (xe_pv (pv 5)) (xa_cons (xe_pv (pv 3)) xa_nil))))) (blkOk_by (own := [("lead", 8), ("row", 7)]) (N := N_without) (sc := defScope s_without) (by decide +kernel)) (fun _ _ _ _ _ => (xg_tup rfl (xgs_cons (xg_name (i := 8) (pg_name sc_without.nd rfl (.inl rfl))) (xgs_cons (xg_name (i := 7) (pg_name sc_without.nd rfl (.inl rfl))) xgs_nil)))) (fun _ _ _ _ _ => (xts_one (xt_cmpL (i := 8) op_geT' sem_ge (pv 8) (XE.toB (xe_callB cr_len sem_len (by rfl) T.n_len (by decide +kernel) (xb_pv (pv 1))))))) (fun _ _ _ _ _ => (xo_sl (xe_pv (pv 7)) (xp_some (xe_callB cr_len sem_len (by rfl) T.n_len (by decide +kernel) (xb_pv (pv 1)))) xp_none)) (by decide))) (xa_cons (xe_pv (pv 3)) xa_nil)))))))
theorem ok_without (T : Txt K mg) (G_reduced : FnOk P w K mg base CX0 5 T.a_reduced T.fd_reduced ["rows", "p"] (liftSp K sp_reduced)) (G_laid_out : FnOk P w K mg base CX0 4 T.a_laid_out T.fd_laid_out ["rows", "p"] (liftSp K sp_laid_out)) : FnOk P w K mg base CX0 6 T.a_without T.fd_without ["rows", "columns", "width", "p"] (liftSp K sp_without) :=
  fn_tree T.F_without sc_without len_without (body_without T G_reduced G_laid_out) does_without
theorem body__law_without_right (T : Txt K mg) (G_without : FnOk P w K mg base CX0 6 T.a_without T.fd_without ["rows", "columns", "width", "p"] (liftSp K sp_without)) (G__law_alike : FnOk P w K mg base CX0 1 T.a__law_alike T.fd__law_alike ["told", "wanted"] (liftSp K sp__law_alike)) (G__law_reduced : FnOk P w K mg base CX0 2 T.a__law_reduced T.fd__law_reduced ["lot", "wideness", "base"] (liftSp K sp__law_reduced)) (G__law_few : FnOk P w K mg base CX0 2 T.a__law_few T.fd__law_few ["lot", "base"] (liftSp K sp__law_few)) (G__law_all : FnOk P w K mg base CX0 2 T.a__law_all T.fd__law_all ["lot", "wideness", "base"] (liftSp K sp__law_all)) (G_follows : FnOk P w K mg base CX0 5 T.a_follows T.fd_follows ["rows", "row", "p"] (liftSp K sp_follows)) (cdv : Value) (A : Around) (outer : List Env) (s : Shared) (H : Hp) (E : XK) (hr : Room 6 (A.deeper (envOfC "_law_without_right" (defScope s__law_without_right) s.heap.objs.size T.a__law_without_right cdv))) :
    XSs (cxOf CX0 P w K mg base N__law_without_right "_law_without_right" (defScope s__law_without_right) T.a__law_without_right cdv A outer s H E).nox (defBody s__law_without_right) wb__law_without_right :=
  (xss_cons (xs_set (i := 4) (ps_set (i := 4) sc__law_without_right.nd rfl (.inl rfl) (XO.pe (xo_call G_without (hr.mono (by decide)) (by rfl) T.g_without T.F_without.kp (b_without T) (xa_cons (xe_pv (pv 0)) (xa_cons (xe_pv (pv 1)) (xa_cons (xe_pv (pv 2)) (xa_cons (xe_pv (pv 3)) xa_nil))))))) (fun _ _ _ h => h))
    (xss_cons (xs_set (i := 5) (ps_set (i := 5) sc__law_without_right.nd rfl (.inr rfl) (XO.pe (xo_lc (own := [("at", 11)]) (by rfl) sc__law_without_right.nd (xi_rng1 (by rfl) T.n_range (xe_pv (pv 2))) (blkOk_by (own := [("at", 11)]) (N := N__law_without_right) (sc := defScope s__law_without_right) (by decide +kernel)) (fun _ _ _ _ _ => (xg_name (i := 11) (pg_name sc__law_without_right.nd rfl (.inl rfl)))) (fun _ _ _ _ _ => (xts_one (xt_cmpL (i := 11) (op_notInD hr.units) (sem_inD true) (pv 11) (xb_pv (pv 1))))) (fun _ _ _ _ _ => (XE.toO (xe_pv (pv 11)))) (by decide)))) (fun _ _ _ h => h))
    (xss_cons (xs_if (xt_not (xt_tru (XE.toB (XO.toE (xo_call G__law_alike (hr.mono (by decide)) (by rfl) T.g__law_alike T.F__law_alike.kp (b__law_alike T) (xa_cons (xe_pv (pv 4)) (xa_cons (XO.toE (xo_call G__law_reduced (hr.mono (by decide)) (by rfl) T.g__law_reduced T.F__law_reduced.kp (b__law_reduced T) (xa_cons (xe_pv (pv 4)) (xa_cons (xe_callB cr_len sem_len (by rfl) T.n_len (by decide +kernel) (xb_pv (pv 5))) (xa_cons (xe_pv (pv 3)) xa_nil))))) xa_nil))))))) (xss_one (xs_ret (XE.toO xe_bl))) xss_nil)
    (xss_cons (xs_if (xt_cmp (op_neT hr.units) sem_ne (XO.toE (xo_callK0 (ks := ["p", "rows", "width", "columns"]) G_without (hr.mono (by decide)) (by rfl) T.g_without T.F_without.kp (kw_without_0_p_rows_width_columns T) (xk_cons (xe_pv (pv 3)) (xk_cons (xe_pv (pv 0)) (xk_cons (xe_pv (pv 2)) (xk_cons (xe_pv (pv 1)) xk_nil)))))) (xb_pv (pv 4))) (xss_one (xs_ret (XE.toO xe_bl))) xss_nil)
    (xss_cons (xs_set (i := 0) (ps_set (i := 0) sc__law_without_right.nd rfl (.inl rfl) (XO.pe (xo_call G__law_reduced (hr.mono (by decide)) (by rfl) T.g__law_reduced T.F__law_reduced.kp (b__law_reduced T) (xa_cons (xe_pv (pv 0)) (xa_cons (xe_pv (pv 2)) (xa_cons (xe_pv (pv 3)) xa_nil)))))) (fun _ _ _ h => h))
    (xss_cons (xs_set (i := 6) (ps_set (i := 6) sc__law_without_right.nd rfl (.inl rfl) (XO.pe (xo_call G__law_reduced (hr.mono (by decide)) (by rfl) T.g__law_reduced T.F__law_reduced.kp (b__law_reduced T) (xa_cons (XO.toE (xo_lc (own := [("line", 9)]) (by rfl) sc__law_without_right.nd (xi_any (xe_pv (pv 0))) (blkOk_by (own := [("line", 9)]) (N := N__law_without_right) (sc := defScope s__law_without_right) (by decide +kernel)) (fun _ _ _ _ _ => (xg_name (i := 9) (pg_name sc__law_without_right.nd rfl (.inr rfl)))) (fun _ _ _ _ _ => xts_nil) (fun _ _ _ _ _ => (xo_callTy call_tuple_of sem_tuple (by rfl) T.n_tuple (by decide +kernel) (XO.toE (xo_lc (own := [("at", 11)]) (by rfl) sc__law_without_right.nd (xi_any (xe_pv (pv 1))) (blkOk_by (own := [("at", 11)]) (N := N__law_without_right) (sc := { kind := .function, names := [(".0", .local), ("line", .cell), ("tuple", .globalImplicit), ("spots", .cell)], isGenerator := false, isCoroutine := false }) (by decide +kernel)) (fun _ _ _ _ _ => (xg_name (i := 11) (pg_name sc__law_without_right.nd rfl (.inl rfl)))) (fun _ _ _ _ _ => xts_nil) (fun _ _ _ _ _ => (XE.toO (xe_ixL (i := 9) (pv 9) (xe_pv (pv 11))))) (by decide))))) (by decide))) (xa_cons (xe_callB cr_len sem_len (by rfl) T.n_len (by decide +kernel) (xb_pv (pv 1))) (xa_cons (xe_pv (pv 3)) xa_nil)))))) (fun _ _ _ h => h))
    (xss_cons (xs_if (xt_cmp (op_neT hr.units) sem_ne (xe_callB cr_len sem_len (by rfl) T.n_len (by decide +kernel) (xb_pv (pv 4))) (XE.toB (XO.toE (xo_bin op_sub sem_sub (xe_callB cr_len sem_len (by rfl) T.n_len (by decide +kernel) (xb_pv (pv 0))) (xe_callB cr_len sem_len (by rfl) T.n_len (by decide +kernel) (xb_pv (pv 6))))))) (xss_one (xs_ret (XE.toO xe_bl))) xss_nil)
    (xss_cons (xs_if (xt_tru (XE.toB (XO.toE (xo_call G__law_few (hr.mono (by decide)) (by rfl) T.g__law_few T.F__law_few.kp (b__law_few T) (xa_cons (xe_pv (pv 0)) (xa_cons (xe_pv (pv 3)) xa_nil)))))) (xss_cons (xs_set (i := 7) (ps_set (i := 7) sc__law_without_right.nd rfl (.inl rfl) (XO.pe (xo_call G__law_all (hr.mono (by decide)) (by rfl) T.g__law_all T.F__law_all.kp (b__law_all T) (xa_cons (xe_pv (pv 0)) (xa_cons (xe_pv (pv 2)) (xa_cons (xe_pv (pv 3)) xa_nil)))))) (fun _ _ _ h => h))
    (xss_cons (xs_lc (i := 8) (own := [("line", 9)]) (by rfl) sc__law_without_right.nd rfl rfl (sw_true rfl rfl rfl (by decide +kernel)) (xi_any (xe_pv (pv 7))) (blkOk_by (own := [("line", 9)]) (N := N__law_without_right) (sc := defScope s__law_without_right) (by decide +kernel)) (fun _ _ _ _ _ => (xg_name (i := 9) (pg_name sc__law_without_right.nd rfl (.inr rfl)))) (fun _ _ _ _ _ => (xts_one (xt_cmp (op_eqT hr.units) sem_eq (XO.toE (xo_lc (own := [("at", 11)]) (by rfl) sc__law_without_right.nd (xi_any (xe_pv (pv 1))) (blkOk_by (own := [("at", 11)]) (N := N__law_without_right) (sc := { kind := .function, names := [(".0", .local), ("line", .cell), ("spots", .cell)], isGenerator := false, isCoroutine := false }) (by decide +kernel)) (fun _ _ _ _ _ => (xg_name (i := 11) (pg_name sc__law_without_right.nd rfl (.inl rfl)))) (fun _ _ _ _ _ => (xts_one (xt_cmp (op_neT hr.units) sem_ne (xe_ixL (i := 9) (pv 9) (xe_pv (pv 11))) (XE.toB xe_int)))) (fun _ _ _ _ _ => (XE.toO (xe_pv (pv 11)))) (by decide))) (XE.toB (XO.toE (xo_lst xao_nil)))))) (fun _ _ _ _ _ => (XE.toO (xe_pv (pv 9)))) (by decide))
    (xss_one (xs_ret (XE.toO (xe_cmp (op_eqT hr.units) sem_eq (XO.toE (xo_call G__law_reduced (hr.mono (by decide)) (by rfl) T.g__law_reduced T.F__law_reduced.kp (b__law_reduced T) (xa_cons (XO.toE (xo_lc (own := [("line", 9)]) (by rfl) sc__law_without_right.nd (xi_any (xe_pv (pv 8))) (blkOk_by (own := [("line", 9)]) (N := N__law_without_right) (sc := defScope s__law_without_right) (by decide +kernel)) (fun _ _ _ _ _ => (xg_name (i := 9) (pg_name sc__law_without_right.nd rfl (.inr rfl)))) (fun _ _ _ _ _ => xts_nil) (fun _ _ _ _ _ => (xo_callTy call_tuple_of sem_tuple (by rfl) T.n_tuple (by decide +kernel) (XO.toE (xo_lc (own := [("at", 11)]) (by rfl) sc__law_without_right.nd (xi_any (xe_pv (pv 5))) (blkOk_by (own := [("at", 11)]) (N := N__law_without_right) (sc := { kind := .function, names := [(".0", .local), ("line", .cell), ("tuple", .globalImplicit), ("rest", .cell)], isGenerator := false, isCoroutine := false }) (by decide +kernel)) (fun _ _ _ _ _ => (xg_name (i := 11) (pg_name sc__law_without_right.nd rfl (.inl rfl)))) (fun _ _ _ _ _ => xts_nil) (fun _ _ _ _ _ => (XE.toO (xe_ixL (i := 9) (pv 9) (xe_pv (pv 11))))) (by decide))))) (by decide))) (xa_cons (xe_callB cr_len sem_len (by rfl) T.n_len (by decide +kernel) (xb_pv (pv 5))) (xa_cons (xe_pv (pv 3)) xa_nil))))) (xb_pv (pv 4)))))))) xss_nil)
    (xss_cons (xs_for PassesOwn.never (by rfl) (xi_any (xe_pv (pv 4))) (xg_name (i := 9) (pg_name sc__law_without_right.nd rfl (.inl rfl))) (xss_cons (xs_set (i := 10) (ps_set (i := 10) sc__law_without_right.nd rfl (.inl rfl) (XO.pe (xo_bin op_mulT sem_mul (XO.toE (xo_lst (xao_cons (XE.toO xe_int) xao_nil))) (xe_pv (pv 2))))) (fun _ _ _ h => h))
    (xss_cons (xs_for PassesOwn.never (by rfl) (xi_zip (by rfl) T.n_zip (xe_pv (pv 5)) (xe_pv (pv 9))) (xg_tup rfl (xgs_cons (xg_name (i := 11) (pg_name sc__law_without_right.nd rfl (.inl rfl))) (xgs_cons (xg_name (i := 12) (pg_name sc__law_without_right.nd rfl (.inl rfl))) xgs_nil))) (xss_one (xs_setIx (i := 10) (ps_asg (XO.pe (XE.toO (xe_pv (pv 12)))) (pg_sub (pv 10) (XE.pe (xe_pv (pv 11))) set_list)))))
    (xss_one (xs_if (xt_not (xt_tru (XE.toB (XO.toE (xo_call G_follows (hr.mono (by decide)) (by rfl) T.g_follows T.F_follows.kp (b_follows T) (xa_cons (xe_pv (pv 0)) (xa_cons (XO.toE (xo_callTy call_tuple_of sem_tuple (by rfl) T.n_tuple (by decide +kernel) (xe_pv (pv 10)))) (xa_cons (xe_pv (pv 3)) xa_nil)))))))) (xss_one (xs_ret (XE.toO xe_bl))) xss_nil)))))
    (xss_one (xs_ret (XE.toO xe_bl))))))))))))
theorem ok__law_without_right (T : Txt K mg) (G_without : FnOk P w K mg base CX0 6 T.a_without T.fd_without ["rows", "columns", "width", "p"] (liftSp K sp_without)) (G__law_alike : FnOk P w K mg base CX0 1 T.a__law_alike T.fd__law_alike ["told", "wanted"] (liftSp K sp__law_alike)) (G__law_reduced : FnOk P w K mg base CX0 2 T.a__law_reduced T.fd__law_reduced ["lot", "wideness", "base"] (liftSp K sp__law_reduced)) (G__law_few : FnOk P w K mg base CX0 2 T.a__law_few T.fd__law_few ["lot", "base"] (liftSp K sp__law_few)) (G__law_all : FnOk P w K mg base CX0 2 T.a__law_all T.fd__law_all ["lot", "wideness", "base"] (liftSp K sp__law_all)) (G_follows : FnOk P w K mg base CX0 5 T.a_follows T.fd_follows ["rows", "row", "p"] (liftSp K sp_follows)) : FnOk P w K mg base CX0 7 T.a__law_without_right T.fd__law_without_right ["lot", "spots", "wideness", "base"] (liftSp K sp__law_without_right) :=
  fn_tree T.F__law_without_right sc__law_without_right len__law_without_right (body__law_without_right T G_without G__law_alike G__law_reduced G__law_few G__law_all G_follows) does__law_without_right
theorem body_law (T : Txt K mg) (G__law_state : FnOk P w K mg base CX0 1 T.a__law_state T.fd__law_state ["script"] (liftSp K sp__law_state)) (G__law_prime : FnOk P w K mg base CX0 2 T.a__law_prime T.fd__law_prime ["state"] (liftSp K sp__law_prime)) (G__law_draw : FnOk P w K mg base CX0 1 T.a__law_draw T.fd__law_draw ["state", "many"] (liftSp K sp__law_draw)) (G__law_rows : FnOk P w K mg base CX0 3 T.a__law_rows T.fd__law_rows ["state", "wideness", "base", "many"] (liftSp K sp__law_rows)) (G__law_times : FnOk P w K mg base CX0 1 T.a__law_times T.fd__law_times ["line", "n", "base"] (liftSp K sp__law_times)) (G__law_common_right : FnOk P w K mg base CX0 8 T.a__law_common_right T.fd__law_common_right ["first", "two", "wideness", "base"] (liftSp K sp__law_common_right)) (G__law_without_right : FnOk P w K mg base CX0 7 T.a__law_without_right T.fd__law_without_right ["lot", "spots", "wideness", "base"] (liftSp K sp__law_without_right)) (G_without : FnOk P w K mg base CX0 6 T.a_without T.fd_without ["rows", "columns", "width", "p"] (liftSp K sp_without)) (G_common : FnOk P w K mg base CX0 7 T.a_common T.fd_common ["one", "other", "width", "p"] (liftSp K sp_common)) (cdv : Value) (A : Around) (outer : List Env) (s : Shared) (H : Hp) (E : XK) (hr : Room 8 (A.deeper (envOfC "law" (defScope s_law) s.heap.objs.size T.a_law cdv))) :
    XSs (cxOf CX0 P w K mg base N_law "law" (defScope s_law) T.a_law cdv A outer s H E).nox (defBody s_law) wb_law :=
  (xss_cons (xs_set (i := 1) (ps_set (i := 1) sc_law.nd rfl (.inr rfl) (XO.pe (xo_call G__law_state (hr.mono (by decide)) (by rfl) T.g__law_state T.F__law_state.kp (b__law_state T) (xa_cons (xe_pv (pv 0)) xa_nil)))) (fun _ _ _ h => h))
    (xss_cons (xs_for PassesOwn.never (by rfl) (xi_rng1 (by rfl) T.n_range xe_int) (xg_name (i := 2) (pg_name sc_law.nd rfl (.inl rfl))) (xss_cons (xs_set (i := 3) (ps_set (i := 3) sc_law.nd rfl (.inl rfl) (XO.pe (xo_callS (i := 1) G__law_prime (hr.mono (by decide)) (by rfl) T.g__law_prime T.F__law_prime.kp (b__law_prime T) (pv 1) xa_nil))) (fun _ _ _ h => h))
    (xss_cons (xs_set (i := 4) (ps_set (i := 4) sc_law.nd rfl (.inl rfl) (XO.pe (xo_bin op_addT sem_add xe_int (XO.toE (xo_callS (i := 1) G__law_draw (hr.mono (by decide)) (by rfl) T.g__law_draw T.F__law_draw.kp (b__law_draw T) (pv 1) (xa_cons (xe_ix (XO.toE (xo_lst (xao_cons (XE.toO xe_int) (xao_cons (XE.toO xe_int) (xao_cons (XE.toO xe_int) (xao_cons (XE.toO xe_int) xao_nil)))))) (XO.toE (xo_callS (i := 1) G__law_draw (hr.mono (by decide)) (by rfl) T.g__law_draw T.F__law_draw.kp (b__law_draw T) (pv 1) (xa_cons xe_int xa_nil)))) xa_nil)))))) (fun _ _ _ h => h))
    (xss_cons (xs_set (i := 5) (ps_set (i := 5) sc_law.nd rfl (.inl rfl) (XO.pe (xo_callS (i := 1) G__law_rows (hr.mono (by decide)) (by rfl) T.g__law_rows T.F__law_rows.kp (b__law_rows T) (pv 1) (xa_cons (xe_pv (pv 4)) (xa_cons (xe_pv (pv 3)) (xa_cons (XO.toE (xo_callS (i := 1) G__law_draw (hr.mono (by decide)) (by rfl) T.g__law_draw T.F__law_draw.kp (b__law_draw T) (pv 1) (xa_cons xe_int xa_nil))) xa_nil)))))) (fun _ _ _ h => h))
    (xss_cons (xs_set (i := 6) (ps_set (i := 6) sc_law.nd rfl (.inl rfl) (XO.pe (xo_callS (i := 1) G__law_rows (hr.mono (by decide)) (by rfl) T.g__law_rows T.F__law_rows.kp (b__law_rows T) (pv 1) (xa_cons (xe_pv (pv 4)) (xa_cons (xe_pv (pv 3)) (xa_cons (XO.toE (xo_callS (i := 1) G__law_draw (hr.mono (by decide)) (by rfl) T.g__law_draw T.F__law_draw.kp (b__law_draw T) (pv 1) (xa_cons xe_int xa_nil))) xa_nil)))))) (fun _ _ _ h => h))
    (xss_cons (xs_if (XW.t (xw_and (xt_cmpL (i := 5) (op_neT hr.units) sem_ne (pv 5) (XE.toB (xe_tup xa_nil))) (XT.w1 (xt_cmp (op_eqT hr.units) sem_eq (XO.toE (xo_callS (i := 1) G__law_draw (hr.mono (by decide)) (by rfl) T.g__law_draw T.F__law_draw.kp (b__law_draw T) (pv 1) (xa_cons xe_int xa_nil))) (XE.toB xe_int))))) (xss_cons (xs_set (i := 7) (ps_set (i := 7) sc_law.nd rfl (.inl rfl) (XO.pe (XE.toO (xe_ixL (i := 5) (pv 5) (XO.toE (xo_callS (i := 1) G__law_draw (hr.mono (by decide)) (by rfl) T.g__law_draw T.F__law_draw.kp (b__law_draw T) (pv 1) (xa_cons (xe_callB cr_len sem_len (by rfl) T.n_len (by decide +kernel) (xb_pv (pv 5))) xa_nil))))))) (fun _ _ _ h => h))
    (xss_one (xs_set (i := 6) (ps_set (i := 6) sc_law.nd rfl (.inl rfl) (XO.pe (xo_bin op_addT sem_add (xe_pv (pv 6)) (xe_tup (xa_cons (XO.toE (xo_call G__law_times (hr.mono (by decide)) (by rfl) T.g__law_times T.F__law_times.kp (b__law_times T) (xa_cons (xe_pv (pv 7)) (xa_cons (XO.toE (xo_bin op_addT sem_add xe_int (XO.toE (xo_callS (i := 1) G__law_draw (hr.mono (by decide)) (by rfl) T.g__law_draw T.F__law_draw.kp (b__law_draw T) (pv 1) (xa_cons (XO.toE (xo_bin op_sub sem_sub (xe_pv (pv 3)) xe_int)) xa_nil))))) (xa_cons (xe_pv (pv 3)) xa_nil))))) xa_nil))))) (fun _ _ _ h => h)))) xss_nil)
    (xss_cons (xs_if (xt_not (xt_tru (XE.toB (XO.toE (xo_call G__law_common_right (hr.mono (by decide)) (by rfl) T.g__law_common_right T.F__law_common_right.kp (b__law_common_right T) (xa_cons (xe_pv (pv 5)) (xa_cons (xe_pv (pv 6)) (xa_cons (xe_pv (pv 4)) (xa_cons (xe_pv (pv 3)) xa_nil))))))))) (xss_one (xs_ret (XE.toO xe_bl))) xss_nil)
    (xss_one (xs_for PassesOwn.never (by rfl) (xi_rng1 (by rfl) T.n_range xe_int) (xg_name (i := 8) (pg_name sc_law.nd rfl (.inr rfl))) (xss_cons (xs_lc (i := 9) (own := [("at", 10)]) (by rfl) sc_law.nd rfl rfl (sw_true rfl rfl rfl (by decide +kernel)) (xi_rng1 (by rfl) T.n_range (xe_pv (pv 4))) (blkOk_by (own := [("at", 10)]) (N := N_law) (sc := defScope s_law) (by decide +kernel)) (fun _ _ _ _ _ => (xg_name (i := 10) (pg_name sc_law.nd rfl (.inl rfl)))) (fun _ _ _ _ _ => (xts_one (xt_cmp (op_eqT hr.units) sem_eq (XO.toE (xo_callS (i := 1) G__law_draw (hr.mono (by decide)) (by rfl) T.g__law_draw T.F__law_draw.kp (b__law_draw T) (pv 1) (xa_cons (xe_ix (XO.toE (xo_lst (xao_cons (XE.toO xe_int) (xao_cons (XE.toO xe_int) xao_nil)))) (xe_pv (pv 8))) xa_nil))) (XE.toB xe_int)))) (fun _ _ _ _ _ => (XE.toO (xe_pv (pv 10)))) (by decide))
    (xss_one (xs_if (xt_not (xt_tru (XE.toB (XO.toE (xo_call G__law_without_right (hr.mono (by decide)) (by rfl) T.g__law_without_right T.F__law_without_right.kp (b__law_without_right T) (xa_cons (XO.toE (xo_bin op_addT sem_add (xe_pv (pv 5)) (xe_pv (pv 6)))) (xa_cons (XO.toE (xo_callTy call_tuple_of sem_tuple (by rfl) T.n_tuple (by decide +kernel) (XO.toE (xo_sl (xe_pv (pv 9)) xp_none (xp_some (XO.toE (xo_bin op_sub sem_sub (xe_pv (pv 4)) xe_int))))))) (xa_cons (xe_pv (pv 4)) (xa_cons (xe_pv (pv 3)) xa_nil))))))))) (xss_one (xs_ret (XE.toO xe_bl))) xss_nil))))))))))))
    (xss_one (xs_ret (XE.toO (xe_and (xe_cmp (op_eqT hr.units) sem_eq (XO.toE (xo_call G_common (hr.mono (by decide)) (by rfl) T.g_common T.F_common.kp (b_common T) (xa_cons (xe_tup xa_nil) (xa_cons (xe_tup (xa_cons (xe_tup (xa_cons xe_int xa_nil)) xa_nil)) (xa_cons xe_int (xa_cons xe_int xa_nil)))))) (XE.toB (xe_tup xa_nil))) (xe_and1 (xe_cmp (op_eqT hr.units) sem_eq (XO.toE (xo_call G_without (hr.mono (by decide)) (by rfl) T.g_without T.F_without.kp (b_without T) (xa_cons (xe_tup (xa_cons (xe_tup (xa_cons xe_int (xa_cons xe_int xa_nil))) xa_nil)) (xa_cons (xe_tup xa_nil) (xa_cons xe_int (xa_cons xe_int xa_nil)))))) (XE.toB (xe_tup (xa_cons (xe_tup (xa_cons xe_int (xa_cons xe_int xa_nil))) xa_nil)))))))))))
theorem ok_law (T : Txt K mg) (G__law_state : FnOk P w K mg base CX0 1 T.a__law_state T.fd__law_state ["script"] (liftSp K sp__law_state)) (G__law_prime : FnOk P w K mg base CX0 2 T.a__law_prime T.fd__law_prime ["state"] (liftSp K sp__law_prime)) (G__law_draw : FnOk P w K mg base CX0 1 T.a__law_draw T.fd__law_draw ["state", "many"] (liftSp K sp__law_draw)) (G__law_rows : FnOk P w K mg base CX0 3 T.a__law_rows T.fd__law_rows ["state", "wideness", "base", "many"] (liftSp K sp__law_rows)) (G__law_times : FnOk P w K mg base CX0 1 T.a__law_times T.fd__law_times ["line", "n", "base"] (liftSp K sp__law_times)) (G__law_common_right : FnOk P w K mg base CX0 8 T.a__law_common_right T.fd__law_common_right ["first", "two", "wideness", "base"] (liftSp K sp__law_common_right)) (G__law_without_right : FnOk P w K mg base CX0 7 T.a__law_without_right T.fd__law_without_right ["lot", "spots", "wideness", "base"] (liftSp K sp__law_without_right)) (G_without : FnOk P w K mg base CX0 6 T.a_without T.fd_without ["rows", "columns", "width", "p"] (liftSp K sp_without)) (G_common : FnOk P w K mg base CX0 7 T.a_common T.fd_common ["one", "other", "width", "p"] (liftSp K sp_common)) : FnOk P w K mg base CX0 9 T.a_law T.fd_law ["script"] (liftSp K sp_law) :=
  fn_tree T.F_law sc_law len_law (body_law T G__law_state G__law_prime G__law_draw G__law_rows G__law_times G__law_common_right G__law_without_right G_without G_common) does_law
theorem all_ok (T : Txt K mg) : FnOk P w K mg base CX0 9 T.a_law T.fd_law ["script"] (liftSp K sp_law) := by
  have G__law_state := ok__law_state (P := P) (w := w) (base := base) T
  have G__law_draw := ok__law_draw (P := P) (w := w) (base := base) T
  have G__law_prime := ok__law_prime (P := P) (w := w) (base := base) T G__law_draw
  have G__law_row := ok__law_row (P := P) (w := w) (base := base) T G__law_draw
  have G__law_times := ok__law_times (P := P) (w := w) (base := base) T
  have G__law_together := ok__law_together (P := P) (w := w) (base := base) T
  have G__law_rows := ok__law_rows (P := P) (w := w) (base := base) T G__law_row G__law_draw G__law_times G__law_together
  have G_less_row := ok_less_row (P := P) (w := w) (base := base) T
  have G_cleared := ok_cleared (P := P) (w := w) (base := base) T G_less_row
  have G_lead_of := ok_lead_of (P := P) (w := w) (base := base) T
  have G_times_row := ok_times_row (P := P) (w := w) (base := base) T
  have G_inverse := ok_inverse (P := P) (w := w) (base := base) T
  have G_laid_in := ok_laid_in (P := P) (w := w) (base := base) T G_cleared G_lead_of G_times_row G_inverse G_less_row
  have G_laid_out := ok_laid_out (P := P) (w := w) (base := base) T G_laid_in
  have G_reduced := ok_reduced (P := P) (w := w) (base := base) T G_laid_out
  have G_null_for := ok_null_for (P := P) (w := w) (base := base) T
  have G_nulls_of := ok_nulls_of (P := P) (w := w) (base := base) T G_laid_out G_reduced G_null_for
  have G_common := ok_common (P := P) (w := w) (base := base) T G_nulls_of
  have G__law_alike := ok__law_alike (P := P) (w := w) (base := base) T
  have G__law_inverse := ok__law_inverse (P := P) (w := w) (base := base) T
  have G__law_reduced := ok__law_reduced (P := P) (w := w) (base := base) T G__law_times G__law_inverse G__law_together
  have G__law_is_few := ok__law_is_few (P := P) (w := w) (base := base) T
  have G__law_few := ok__law_few (P := P) (w := w) (base := base) T G__law_is_few
  have G__law_all := ok__law_all (P := P) (w := w) (base := base) T G__law_together G__law_times
  have G_follows := ok_follows (P := P) (w := w) (base := base) T G_lead_of G_cleared G_laid_out
  have G__law_common_right := ok__law_common_right (P := P) (w := w) (base := base) T G_common G__law_alike G__law_reduced G__law_few G__law_all G_follows
  have G_without := ok_without (P := P) (w := w) (base := base) T G_reduced G_laid_out
  have G__law_without_right := ok__law_without_right (P := P) (w := w) (base := base) T G_without G__law_alike G__law_reduced G__law_few G__law_all G_follows
  have G_law := ok_law (P := P) (w := w) (base := base) T G__law_state G__law_prime G__law_draw G__law_rows G__law_times G__law_common_right G__law_without_right G_without G_common
  exact G_law
end
theorem all_mk {l : PySem.W.OpenLaw} {w : World} {K : PySem.W.Frag} {h : Heap} {mg : Str → Option Value} {fa : Addr} (X : K.In h) (G : h.Ns mainGlobals mg) (hfa : mg "law" = some (.ref fa))
    {f__law_state : Addr} {od__law_state an__law_state : Option Addr} {sl__law_state : Array (Option Value)} {oc__law_state kV__law_state dc__law_state pm__law_state cd__law_state ct__law_state : Value}
    {f__law_draw : Addr} {od__law_draw an__law_draw : Option Addr} {sl__law_draw : Array (Option Value)} {oc__law_draw kV__law_draw dc__law_draw pm__law_draw cd__law_draw ct__law_draw : Value}
    {f__law_prime : Addr} {od__law_prime an__law_prime : Option Addr} {sl__law_prime : Array (Option Value)} {oc__law_prime kV__law_prime dc__law_prime pm__law_prime cd__law_prime ct__law_prime : Value}
    {f__law_row : Addr} {od__law_row an__law_row : Option Addr} {sl__law_row : Array (Option Value)} {oc__law_row kV__law_row dc__law_row pm__law_row cd__law_row ct__law_row : Value}
    {f__law_times : Addr} {od__law_times an__law_times : Option Addr} {sl__law_times : Array (Option Value)} {oc__law_times kV__law_times dc__law_times pm__law_times cd__law_times ct__law_times : Value}
    {f__law_together : Addr} {od__law_together an__law_together : Option Addr} {sl__law_together : Array (Option Value)} {oc__law_together kV__law_together dc__law_together pm__law_together cd__law_together ct__law_together : Value}
    {f__law_rows : Addr} {od__law_rows an__law_rows : Option Addr} {sl__law_rows : Array (Option Value)} {oc__law_rows kV__law_rows dc__law_rows pm__law_rows cd__law_rows ct__law_rows : Value}
    {f_less_row : Addr} {od_less_row an_less_row : Option Addr} {sl_less_row : Array (Option Value)} {oc_less_row kV_less_row dc_less_row pm_less_row cd_less_row ct_less_row : Value}
    {f_cleared : Addr} {od_cleared an_cleared : Option Addr} {sl_cleared : Array (Option Value)} {oc_cleared kV_cleared dc_cleared pm_cleared cd_cleared ct_cleared : Value}
    {f_lead_of : Addr} {od_lead_of an_lead_of : Option Addr} {sl_lead_of : Array (Option Value)} {oc_lead_of kV_lead_of dc_lead_of pm_lead_of cd_lead_of ct_lead_of : Value}
    {f_times_row : Addr} {od_times_row an_times_row : Option Addr} {sl_times_row : Array (Option Value)} {oc_times_row kV_times_row dc_times_row pm_times_row cd_times_row ct_times_row : Value}
    {f_inverse : Addr} {od_inverse an_inverse : Option Addr} {sl_inverse : Array (Option Value)} {oc_inverse kV_inverse dc_inverse pm_inverse cd_inverse ct_inverse : Value}
    {f_laid_in : Addr} {od_laid_in an_laid_in : Option Addr} {sl_laid_in : Array (Option Value)} {oc_laid_in kV_laid_in dc_laid_in pm_laid_in cd_laid_in ct_laid_in : Value}
    {f_laid_out : Addr} {od_laid_out an_laid_out : Option Addr} {sl_laid_out : Array (Option Value)} {oc_laid_out kV_laid_out dc_laid_out pm_laid_out cd_laid_out ct_laid_out : Value}
    {f_reduced : Addr} {od_reduced an_reduced : Option Addr} {sl_reduced : Array (Option Value)} {oc_reduced kV_reduced dc_reduced pm_reduced cd_reduced ct_reduced : Value}
    {f_null_for : Addr} {od_null_for an_null_for : Option Addr} {sl_null_for : Array (Option Value)} {oc_null_for kV_null_for dc_null_for pm_null_for cd_null_for ct_null_for : Value}
    {f_nulls_of : Addr} {od_nulls_of an_nulls_of : Option Addr} {sl_nulls_of : Array (Option Value)} {oc_nulls_of kV_nulls_of dc_nulls_of pm_nulls_of cd_nulls_of ct_nulls_of : Value}
    {f_common : Addr} {od_common an_common : Option Addr} {sl_common : Array (Option Value)} {oc_common kV_common dc_common pm_common cd_common ct_common : Value}
    {f__law_alike : Addr} {od__law_alike an__law_alike : Option Addr} {sl__law_alike : Array (Option Value)} {oc__law_alike kV__law_alike dc__law_alike pm__law_alike cd__law_alike ct__law_alike : Value}
    {f__law_inverse : Addr} {od__law_inverse an__law_inverse : Option Addr} {sl__law_inverse : Array (Option Value)} {oc__law_inverse kV__law_inverse dc__law_inverse pm__law_inverse cd__law_inverse ct__law_inverse : Value}
    {f__law_reduced : Addr} {od__law_reduced an__law_reduced : Option Addr} {sl__law_reduced : Array (Option Value)} {oc__law_reduced kV__law_reduced dc__law_reduced pm__law_reduced cd__law_reduced ct__law_reduced : Value}
    {f__law_is_few : Addr} {od__law_is_few an__law_is_few : Option Addr} {sl__law_is_few : Array (Option Value)} {oc__law_is_few kV__law_is_few dc__law_is_few pm__law_is_few cd__law_is_few ct__law_is_few : Value}
    {f__law_few : Addr} {od__law_few an__law_few : Option Addr} {sl__law_few : Array (Option Value)} {oc__law_few kV__law_few dc__law_few pm__law_few cd__law_few ct__law_few : Value}
    {f__law_all : Addr} {od__law_all an__law_all : Option Addr} {sl__law_all : Array (Option Value)} {oc__law_all kV__law_all dc__law_all pm__law_all cd__law_all ct__law_all : Value}
    {f_follows : Addr} {od_follows an_follows : Option Addr} {sl_follows : Array (Option Value)} {oc_follows kV_follows dc_follows pm_follows cd_follows ct_follows : Value}
    {f__law_common_right : Addr} {od__law_common_right an__law_common_right : Option Addr} {sl__law_common_right : Array (Option Value)} {oc__law_common_right kV__law_common_right dc__law_common_right pm__law_common_right cd__law_common_right ct__law_common_right : Value}
    {f_without : Addr} {od_without an_without : Option Addr} {sl_without : Array (Option Value)} {oc_without kV_without dc_without pm_without cd_without ct_without : Value}
    {f__law_without_right : Addr} {od__law_without_right an__law_without_right : Option Addr} {sl__law_without_right : Array (Option Value)} {oc__law_without_right kV__law_without_right dc__law_without_right pm__law_without_right cd__law_without_right ct__law_without_right : Value}
    {f_law : Addr} {od_law an_law : Option Addr} {sl_law : Array (Option Value)} {oc_law kV_law dc_law pm_law cd_law ct_law : Value}
    (a__law_state : PySem.W.nsIn K mainGlobals "_law_state" = some (some (.ref f__law_state))) (l__law_state : K.lookup f__law_state = some ⟨oc__law_state, od__law_state, .func (PySem.W.fnOf "_law_state" "_law_state" (defArgs s__law_state) (defBody s__law_state) (defScope s__law_state) .none kV__law_state dc__law_state pm__law_state an__law_state cd__law_state ct__law_state), sl__law_state⟩) (c__law_state : PySem.W.codeIn K cd__law_state "_law_state" = true) (k__law_state : PySem.W.keepIn K (.ref f__law_state) = true)
    (a__law_draw : PySem.W.nsIn K mainGlobals "_law_draw" = some (some (.ref f__law_draw))) (l__law_draw : K.lookup f__law_draw = some ⟨oc__law_draw, od__law_draw, .func (PySem.W.fnOf "_law_draw" "_law_draw" (defArgs s__law_draw) (defBody s__law_draw) (defScope s__law_draw) .none kV__law_draw dc__law_draw pm__law_draw an__law_draw cd__law_draw ct__law_draw), sl__law_draw⟩) (c__law_draw : PySem.W.codeIn K cd__law_draw "_law_draw" = true) (k__law_draw : PySem.W.keepIn K (.ref f__law_draw) = true)
    (a__law_prime : PySem.W.nsIn K mainGlobals "_law_prime" = some (some (.ref f__law_prime))) (l__law_prime : K.lookup f__law_prime = some ⟨oc__law_prime, od__law_prime, .func (PySem.W.fnOf "_law_prime" "_law_prime" (defArgs s__law_prime) (defBody s__law_prime) (defScope s__law_prime) .none kV__law_prime dc__law_prime pm__law_prime an__law_prime cd__law_prime ct__law_prime), sl__law_prime⟩) (c__law_prime : PySem.W.codeIn K cd__law_prime "_law_prime" = true) (k__law_prime : PySem.W.keepIn K (.ref f__law_prime) = true)
    (a__law_row : PySem.W.nsIn K mainGlobals "_law_row" = some (some (.ref f__law_row))) (l__law_row : K.lookup f__law_row = some ⟨oc__law_row, od__law_row, .func (PySem.W.fnOf "_law_row" "_law_row" (defArgs s__law_row) (defBody s__law_row) (defScope s__law_row) .none kV__law_row dc__law_row pm__law_row an__law_row cd__law_row ct__law_row), sl__law_row⟩) (c__law_row : PySem.W.codeIn K cd__law_row "_law_row" = true) (k__law_row : PySem.W.keepIn K (.ref f__law_row) = true)
    (a__law_times : PySem.W.nsIn K mainGlobals "_law_times" = some (some (.ref f__law_times))) (l__law_times : K.lookup f__law_times = some ⟨oc__law_times, od__law_times, .func (PySem.W.fnOf "_law_times" "_law_times" (defArgs s__law_times) (defBody s__law_times) (defScope s__law_times) .none kV__law_times dc__law_times pm__law_times an__law_times cd__law_times ct__law_times), sl__law_times⟩) (c__law_times : PySem.W.codeIn K cd__law_times "_law_times" = true) (k__law_times : PySem.W.keepIn K (.ref f__law_times) = true)
    (a__law_together : PySem.W.nsIn K mainGlobals "_law_together" = some (some (.ref f__law_together))) (l__law_together : K.lookup f__law_together = some ⟨oc__law_together, od__law_together, .func (PySem.W.fnOf "_law_together" "_law_together" (defArgs s__law_together) (defBody s__law_together) (defScope s__law_together) .none kV__law_together dc__law_together pm__law_together an__law_together cd__law_together ct__law_together), sl__law_together⟩) (c__law_together : PySem.W.codeIn K cd__law_together "_law_together" = true) (k__law_together : PySem.W.keepIn K (.ref f__law_together) = true)
    (a__law_rows : PySem.W.nsIn K mainGlobals "_law_rows" = some (some (.ref f__law_rows))) (l__law_rows : K.lookup f__law_rows = some ⟨oc__law_rows, od__law_rows, .func (PySem.W.fnOf "_law_rows" "_law_rows" (defArgs s__law_rows) (defBody s__law_rows) (defScope s__law_rows) .none kV__law_rows dc__law_rows pm__law_rows an__law_rows cd__law_rows ct__law_rows), sl__law_rows⟩) (c__law_rows : PySem.W.codeIn K cd__law_rows "_law_rows" = true) (k__law_rows : PySem.W.keepIn K (.ref f__law_rows) = true)
    (a_less_row : PySem.W.nsIn K mainGlobals "less_row" = some (some (.ref f_less_row))) (l_less_row : K.lookup f_less_row = some ⟨oc_less_row, od_less_row, .func (PySem.W.fnOf "less_row" "less_row" (defArgs s_less_row) (defBody s_less_row) (defScope s_less_row) .none kV_less_row dc_less_row pm_less_row an_less_row cd_less_row ct_less_row), sl_less_row⟩) (c_less_row : PySem.W.codeIn K cd_less_row "less_row" = true) (k_less_row : PySem.W.keepIn K (.ref f_less_row) = true)
    (a_cleared : PySem.W.nsIn K mainGlobals "cleared" = some (some (.ref f_cleared))) (l_cleared : K.lookup f_cleared = some ⟨oc_cleared, od_cleared, .func (PySem.W.fnOf "cleared" "cleared" (defArgs s_cleared) (defBody s_cleared) (defScope s_cleared) .none kV_cleared dc_cleared pm_cleared an_cleared cd_cleared ct_cleared), sl_cleared⟩) (c_cleared : PySem.W.codeIn K cd_cleared "cleared" = true) (k_cleared : PySem.W.keepIn K (.ref f_cleared) = true)
    (a_lead_of : PySem.W.nsIn K mainGlobals "lead_of" = some (some (.ref f_lead_of))) (l_lead_of : K.lookup f_lead_of = some ⟨oc_lead_of, od_lead_of, .func (PySem.W.fnOf "lead_of" "lead_of" (defArgs s_lead_of) (defBody s_lead_of) (defScope s_lead_of) .none kV_lead_of dc_lead_of pm_lead_of an_lead_of cd_lead_of ct_lead_of), sl_lead_of⟩) (c_lead_of : PySem.W.codeIn K cd_lead_of "lead_of" = true) (k_lead_of : PySem.W.keepIn K (.ref f_lead_of) = true)
    (a_times_row : PySem.W.nsIn K mainGlobals "times_row" = some (some (.ref f_times_row))) (l_times_row : K.lookup f_times_row = some ⟨oc_times_row, od_times_row, .func (PySem.W.fnOf "times_row" "times_row" (defArgs s_times_row) (defBody s_times_row) (defScope s_times_row) .none kV_times_row dc_times_row pm_times_row an_times_row cd_times_row ct_times_row), sl_times_row⟩) (c_times_row : PySem.W.codeIn K cd_times_row "times_row" = true) (k_times_row : PySem.W.keepIn K (.ref f_times_row) = true)
    (a_inverse : PySem.W.nsIn K mainGlobals "inverse" = some (some (.ref f_inverse))) (l_inverse : K.lookup f_inverse = some ⟨oc_inverse, od_inverse, .func (PySem.W.fnOf "inverse" "inverse" (defArgs s_inverse) (defBody s_inverse) (defScope s_inverse) .none kV_inverse dc_inverse pm_inverse an_inverse cd_inverse ct_inverse), sl_inverse⟩) (c_inverse : PySem.W.codeIn K cd_inverse "inverse" = true) (k_inverse : PySem.W.keepIn K (.ref f_inverse) = true)
    (a_laid_in : PySem.W.nsIn K mainGlobals "laid_in" = some (some (.ref f_laid_in))) (l_laid_in : K.lookup f_laid_in = some ⟨oc_laid_in, od_laid_in, .func (PySem.W.fnOf "laid_in" "laid_in" (defArgs s_laid_in) (defBody s_laid_in) (defScope s_laid_in) .none kV_laid_in dc_laid_in pm_laid_in an_laid_in cd_laid_in ct_laid_in), sl_laid_in⟩) (c_laid_in : PySem.W.codeIn K cd_laid_in "laid_in" = true) (k_laid_in : PySem.W.keepIn K (.ref f_laid_in) = true)
    (a_laid_out : PySem.W.nsIn K mainGlobals "laid_out" = some (some (.ref f_laid_out))) (l_laid_out : K.lookup f_laid_out = some ⟨oc_laid_out, od_laid_out, .func (PySem.W.fnOf "laid_out" "laid_out" (defArgs s_laid_out) (defBody s_laid_out) (defScope s_laid_out) .none kV_laid_out dc_laid_out pm_laid_out an_laid_out cd_laid_out ct_laid_out), sl_laid_out⟩) (c_laid_out : PySem.W.codeIn K cd_laid_out "laid_out" = true) (k_laid_out : PySem.W.keepIn K (.ref f_laid_out) = true)
    (a_reduced : PySem.W.nsIn K mainGlobals "reduced" = some (some (.ref f_reduced))) (l_reduced : K.lookup f_reduced = some ⟨oc_reduced, od_reduced, .func (PySem.W.fnOf "reduced" "reduced" (defArgs s_reduced) (defBody s_reduced) (defScope s_reduced) .none kV_reduced dc_reduced pm_reduced an_reduced cd_reduced ct_reduced), sl_reduced⟩) (c_reduced : PySem.W.codeIn K cd_reduced "reduced" = true) (k_reduced : PySem.W.keepIn K (.ref f_reduced) = true)
    (a_null_for : PySem.W.nsIn K mainGlobals "null_for" = some (some (.ref f_null_for))) (l_null_for : K.lookup f_null_for = some ⟨oc_null_for, od_null_for, .func (PySem.W.fnOf "null_for" "null_for" (defArgs s_null_for) (defBody s_null_for) (defScope s_null_for) .none kV_null_for dc_null_for pm_null_for an_null_for cd_null_for ct_null_for), sl_null_for⟩) (c_null_for : PySem.W.codeIn K cd_null_for "null_for" = true) (k_null_for : PySem.W.keepIn K (.ref f_null_for) = true)
    (a_nulls_of : PySem.W.nsIn K mainGlobals "nulls_of" = some (some (.ref f_nulls_of))) (l_nulls_of : K.lookup f_nulls_of = some ⟨oc_nulls_of, od_nulls_of, .func (PySem.W.fnOf "nulls_of" "nulls_of" (defArgs s_nulls_of) (defBody s_nulls_of) (defScope s_nulls_of) .none kV_nulls_of dc_nulls_of pm_nulls_of an_nulls_of cd_nulls_of ct_nulls_of), sl_nulls_of⟩) (c_nulls_of : PySem.W.codeIn K cd_nulls_of "nulls_of" = true) (k_nulls_of : PySem.W.keepIn K (.ref f_nulls_of) = true)
    (a_common : PySem.W.nsIn K mainGlobals "common" = some (some (.ref f_common))) (l_common : K.lookup f_common = some ⟨oc_common, od_common, .func (PySem.W.fnOf "common" "common" (defArgs s_common) (defBody s_common) (defScope s_common) .none kV_common dc_common pm_common an_common cd_common ct_common), sl_common⟩) (c_common : PySem.W.codeIn K cd_common "common" = true) (k_common : PySem.W.keepIn K (.ref f_common) = true)
    (a__law_alike : PySem.W.nsIn K mainGlobals "_law_alike" = some (some (.ref f__law_alike))) (l__law_alike : K.lookup f__law_alike = some ⟨oc__law_alike, od__law_alike, .func (PySem.W.fnOf "_law_alike" "_law_alike" (defArgs s__law_alike) (defBody s__law_alike) (defScope s__law_alike) .none kV__law_alike dc__law_alike pm__law_alike an__law_alike cd__law_alike ct__law_alike), sl__law_alike⟩) (c__law_alike : PySem.W.codeIn K cd__law_alike "_law_alike" = true) (k__law_alike : PySem.W.keepIn K (.ref f__law_alike) = true)
    (a__law_inverse : PySem.W.nsIn K mainGlobals "_law_inverse" = some (some (.ref f__law_inverse))) (l__law_inverse : K.lookup f__law_inverse = some ⟨oc__law_inverse, od__law_inverse, .func (PySem.W.fnOf "_law_inverse" "_law_inverse" (defArgs s__law_inverse) (defBody s__law_inverse) (defScope s__law_inverse) .none kV__law_inverse dc__law_inverse pm__law_inverse an__law_inverse cd__law_inverse ct__law_inverse), sl__law_inverse⟩) (c__law_inverse : PySem.W.codeIn K cd__law_inverse "_law_inverse" = true) (k__law_inverse : PySem.W.keepIn K (.ref f__law_inverse) = true)
    (a__law_reduced : PySem.W.nsIn K mainGlobals "_law_reduced" = some (some (.ref f__law_reduced))) (l__law_reduced : K.lookup f__law_reduced = some ⟨oc__law_reduced, od__law_reduced, .func (PySem.W.fnOf "_law_reduced" "_law_reduced" (defArgs s__law_reduced) (defBody s__law_reduced) (defScope s__law_reduced) .none kV__law_reduced dc__law_reduced pm__law_reduced an__law_reduced cd__law_reduced ct__law_reduced), sl__law_reduced⟩) (c__law_reduced : PySem.W.codeIn K cd__law_reduced "_law_reduced" = true) (k__law_reduced : PySem.W.keepIn K (.ref f__law_reduced) = true)
    (a__law_is_few : PySem.W.nsIn K mainGlobals "_law_is_few" = some (some (.ref f__law_is_few))) (l__law_is_few : K.lookup f__law_is_few = some ⟨oc__law_is_few, od__law_is_few, .func (PySem.W.fnOf "_law_is_few" "_law_is_few" (defArgs s__law_is_few) (defBody s__law_is_few) (defScope s__law_is_few) .none kV__law_is_few dc__law_is_few pm__law_is_few an__law_is_few cd__law_is_few ct__law_is_few), sl__law_is_few⟩) (c__law_is_few : PySem.W.codeIn K cd__law_is_few "_law_is_few" = true) (k__law_is_few : PySem.W.keepIn K (.ref f__law_is_few) = true)
    (a__law_few : PySem.W.nsIn K mainGlobals "_law_few" = some (some (.ref f__law_few))) (l__law_few : K.lookup f__law_few = some ⟨oc__law_few, od__law_few, .func (PySem.W.fnOf "_law_few" "_law_few" (defArgs s__law_few) (defBody s__law_few) (defScope s__law_few) .none kV__law_few dc__law_few pm__law_few an__law_few cd__law_few ct__law_few), sl__law_few⟩) (c__law_few : PySem.W.codeIn K cd__law_few "_law_few" = true) (k__law_few : PySem.W.keepIn K (.ref f__law_few) = true)
    (a__law_all : PySem.W.nsIn K mainGlobals "_law_all" = some (some (.ref f__law_all))) (l__law_all : K.lookup f__law_all = some ⟨oc__law_all, od__law_all, .func (PySem.W.fnOf "_law_all" "_law_all" (defArgs s__law_all) (defBody s__law_all) (defScope s__law_all) .none kV__law_all dc__law_all pm__law_all an__law_all cd__law_all ct__law_all), sl__law_all⟩) (c__law_all : PySem.W.codeIn K cd__law_all "_law_all" = true) (k__law_all : PySem.W.keepIn K (.ref f__law_all) = true)
    (a_follows : PySem.W.nsIn K mainGlobals "follows" = some (some (.ref f_follows))) (l_follows : K.lookup f_follows = some ⟨oc_follows, od_follows, .func (PySem.W.fnOf "follows" "follows" (defArgs s_follows) (defBody s_follows) (defScope s_follows) .none kV_follows dc_follows pm_follows an_follows cd_follows ct_follows), sl_follows⟩) (c_follows : PySem.W.codeIn K cd_follows "follows" = true) (k_follows : PySem.W.keepIn K (.ref f_follows) = true)
    (a__law_common_right : PySem.W.nsIn K mainGlobals "_law_common_right" = some (some (.ref f__law_common_right))) (l__law_common_right : K.lookup f__law_common_right = some ⟨oc__law_common_right, od__law_common_right, .func (PySem.W.fnOf "_law_common_right" "_law_common_right" (defArgs s__law_common_right) (defBody s__law_common_right) (defScope s__law_common_right) .none kV__law_common_right dc__law_common_right pm__law_common_right an__law_common_right cd__law_common_right ct__law_common_right), sl__law_common_right⟩) (c__law_common_right : PySem.W.codeIn K cd__law_common_right "_law_common_right" = true) (k__law_common_right : PySem.W.keepIn K (.ref f__law_common_right) = true)
    (a_without : PySem.W.nsIn K mainGlobals "without" = some (some (.ref f_without))) (l_without : K.lookup f_without = some ⟨oc_without, od_without, .func (PySem.W.fnOf "without" "without" (defArgs s_without) (defBody s_without) (defScope s_without) .none kV_without dc_without pm_without an_without cd_without ct_without), sl_without⟩) (c_without : PySem.W.codeIn K cd_without "without" = true) (k_without : PySem.W.keepIn K (.ref f_without) = true)
    (a__law_without_right : PySem.W.nsIn K mainGlobals "_law_without_right" = some (some (.ref f__law_without_right))) (l__law_without_right : K.lookup f__law_without_right = some ⟨oc__law_without_right, od__law_without_right, .func (PySem.W.fnOf "_law_without_right" "_law_without_right" (defArgs s__law_without_right) (defBody s__law_without_right) (defScope s__law_without_right) .none kV__law_without_right dc__law_without_right pm__law_without_right an__law_without_right cd__law_without_right ct__law_without_right), sl__law_without_right⟩) (c__law_without_right : PySem.W.codeIn K cd__law_without_right "_law_without_right" = true) (k__law_without_right : PySem.W.keepIn K (.ref f__law_without_right) = true)
    (a_law : PySem.W.nsIn K mainGlobals "law" = some (some (.ref f_law))) (l_law : K.lookup f_law = some ⟨oc_law, od_law, .func (PySem.W.fnOf "law" "law" (defArgs s_law) (defBody s_law) (defScope s_law) .none kV_law dc_law pm_law an_law cd_law ct_law), sl_law⟩) (c_law : PySem.W.codeIn K cd_law "law" = true) (k_law : PySem.W.keepIn K (.ref f_law) = true)
    (n_abs : PySem.W.nsIn K mainGlobals "abs" = some none)
    (n_len : PySem.W.nsIn K mainGlobals "len" = some none)
    (n_range : PySem.W.nsIn K mainGlobals "range" = some none)
    (n_tuple : PySem.W.nsIn K mainGlobals "tuple" = some none)
    (n_zip : PySem.W.nsIn K mainGlobals "zip" = some none)
    (n_enumerate : PySem.W.nsIn K mainGlobals "enumerate" = some none)
    (n_sorted : PySem.W.nsIn K mainGlobals "sorted" = some none)
    (n_isinstance : PySem.W.nsIn K mainGlobals "isinstance" = some none)
    (n_bool : PySem.W.nsIn K mainGlobals "bool" = some none)
    (n_list : PySem.W.nsIn K mainGlobals "list" = some none)
    (n_min : PySem.W.nsIn K mainGlobals "min" = some none)
    : ∃ fd : FuncData, (∀ (s : Shared) (v : Value), BindsTo s fd ⟨[v], []⟩ [("script", v)]) ∧ ∀ base : Heap, K.In base → base.Ns mainGlobals mg → FnOk l.prog w K mg base CX0 9 fa fd ["script"] (liftSp K sp_law) := by
  have e := hfa.symm.trans (PySem.W.mg_of X G a_law)
  cases e
  exact ⟨_, fun s v => .of_eq rfl, fun base _ _ => all_ok (T := { a__law_state := f__law_state, fd__law_state := _, F__law_state := fun_mk (st := s__law_state) l__law_state c__law_state k__law_state, g__law_state := PySem.W.mg_of X G a__law_state, a__law_draw := f__law_draw, fd__law_draw := _, F__law_draw := fun_mk (st := s__law_draw) l__law_draw c__law_draw k__law_draw, g__law_draw := PySem.W.mg_of X G a__law_draw, a__law_prime := f__law_prime, fd__law_prime := _, F__law_prime := fun_mk (st := s__law_prime) l__law_prime c__law_prime k__law_prime, g__law_prime := PySem.W.mg_of X G a__law_prime, a__law_row := f__law_row, fd__law_row := _, F__law_row := fun_mk (st := s__law_row) l__law_row c__law_row k__law_row, g__law_row := PySem.W.mg_of X G a__law_row, a__law_times := f__law_times, fd__law_times := _, F__law_times := fun_mk (st := s__law_times) l__law_times c__law_times k__law_times, g__law_times := PySem.W.mg_of X G a__law_times, a__law_together := f__law_together, fd__law_together := _, F__law_together := fun_mk (st := s__law_together) l__law_together c__law_together k__law_together, g__law_together := PySem.W.mg_of X G a__law_together, a__law_rows := f__law_rows, fd__law_rows := _, F__law_rows := fun_mk (st := s__law_rows) l__law_rows c__law_rows k__law_rows, g__law_rows := PySem.W.mg_of X G a__law_rows, a_less_row := f_less_row, fd_less_row := _, F_less_row := fun_mk (st := s_less_row) l_less_row c_less_row k_less_row, g_less_row := PySem.W.mg_of X G a_less_row, a_cleared := f_cleared, fd_cleared := _, F_cleared := fun_mk (st := s_cleared) l_cleared c_cleared k_cleared, g_cleared := PySem.W.mg_of X G a_cleared, a_lead_of := f_lead_of, fd_lead_of := _, F_lead_of := fun_mk (st := s_lead_of) l_lead_of c_lead_of k_lead_of, g_lead_of := PySem.W.mg_of X G a_lead_of, a_times_row := f_times_row, fd_times_row := _, F_times_row := fun_mk (st := s_times_row) l_times_row c_times_row k_times_row, g_times_row := PySem.W.mg_of X G a_times_row, a_inverse := f_inverse, fd_inverse := _, F_inverse := fun_mk (st := s_inverse) l_inverse c_inverse k_inverse, g_inverse := PySem.W.mg_of X G a_inverse, a_laid_in := f_laid_in, fd_laid_in := _, F_laid_in := fun_mk (st := s_laid_in) l_laid_in c_laid_in k_laid_in, g_laid_in := PySem.W.mg_of X G a_laid_in, a_laid_out := f_laid_out, fd_laid_out := _, F_laid_out := fun_mk (st := s_laid_out) l_laid_out c_laid_out k_laid_out, g_laid_out := PySem.W.mg_of X G a_laid_out, a_reduced := f_reduced, fd_reduced := _, F_reduced := fun_mk (st := s_reduced) l_reduced c_reduced k_reduced, g_reduced := PySem.W.mg_of X G a_reduced, a_null_for := f_null_for, fd_null_for := _, F_null_for := fun_mk (st := s_null_for) l_null_for c_null_for k_null_for, g_null_for := PySem.W.mg_of X G a_null_for, a_nulls_of := f_nulls_of, fd_nulls_of := _, F_nulls_of := fun_mk (st := s_nulls_of) l_nulls_of c_nulls_of k_nulls_of, g_nulls_of := PySem.W.mg_of X G a_nulls_of, a_common := f_common, fd_common := _, F_common := fun_mk (st := s_common) l_common c_common k_common, g_common := PySem.W.mg_of X G a_common, a__law_alike := f__law_alike, fd__law_alike := _, F__law_alike := fun_mk (st := s__law_alike) l__law_alike c__law_alike k__law_alike, g__law_alike := PySem.W.mg_of X G a__law_alike, a__law_inverse := f__law_inverse, fd__law_inverse := _, F__law_inverse := fun_mk (st := s__law_inverse) l__law_inverse c__law_inverse k__law_inverse, g__law_inverse := PySem.W.mg_of X G a__law_inverse, a__law_reduced := f__law_reduced, fd__law_reduced := _, F__law_reduced := fun_mk (st := s__law_reduced) l__law_reduced c__law_reduced k__law_reduced, g__law_reduced := PySem.W.mg_of X G a__law_reduced, a__law_is_few := f__law_is_few, fd__law_is_few := _, F__law_is_few := fun_mk (st := s__law_is_few) l__law_is_few c__law_is_few k__law_is_few, g__law_is_few := PySem.W.mg_of X G a__law_is_few, a__law_few := f__law_few, fd__law_few := _, F__law_few := fun_mk (st := s__law_few) l__law_few c__law_few k__law_few, g__law_few := PySem.W.mg_of X G a__law_few, a__law_all := f__law_all, fd__law_all := _, F__law_all := fun_mk (st := s__law_all) l__law_all c__law_all k__law_all, g__law_all := PySem.W.mg_of X G a__law_all, a_follows := f_follows, fd_follows := _, F_follows := fun_mk (st := s_follows) l_follows c_follows k_follows, g_follows := PySem.W.mg_of X G a_follows, a__law_common_right := f__law_common_right, fd__law_common_right := _, F__law_common_right := fun_mk (st := s__law_common_right) l__law_common_right c__law_common_right k__law_common_right, g__law_common_right := PySem.W.mg_of X G a__law_common_right, a_without := f_without, fd_without := _, F_without := fun_mk (st := s_without) l_without c_without k_without, g_without := PySem.W.mg_of X G a_without, a__law_without_right := f__law_without_right, fd__law_without_right := _, F__law_without_right := fun_mk (st := s__law_without_right) l__law_without_right c__law_without_right k__law_without_right, g__law_without_right := PySem.W.mg_of X G a__law_without_right, a_law := fa, fd_law := _, F_law := fun_mk (st := s_law) l_law c_law k_law, g_law := PySem.W.mg_of X G a_law, n_abs := PySem.W.mg_none_of X G n_abs, n_len := PySem.W.mg_none_of X G n_len, n_range := PySem.W.mg_none_of X G n_range, n_tuple := PySem.W.mg_none_of X G n_tuple, n_zip := PySem.W.mg_none_of X G n_zip, n_enumerate := PySem.W.mg_none_of X G n_enumerate, n_sorted := PySem.W.mg_none_of X G n_sorted, n_isinstance := PySem.W.mg_none_of X G n_isinstance, n_bool := PySem.W.mg_none_of X G n_bool, n_list := PySem.W.mg_none_of X G n_list, n_min := PySem.W.mg_none_of X G n_min })⟩
end Lw
open PySem PySem.W PyProof.Rows
set_option maxRecDepth 100000 in
set_option maxHeartbeats 0 in
theorem PySem.Challenge.cw_onetrace_k09_common_and_without_holds : PySem.Challenge.rw_onetrace_k09_common_and_without.Holds := by
  w_on; o_law; k_head; (case hw => w_witness2)
  k_fill
  refine L2.walk_of (l := PySem.Challenge.rw_onetrace_k09_common_and_without) (n := 63) (k := 9) (x := "script") (CX := fun _ => L2.CX0) (sp := fun w => Tr.liftSp _ Lw.sp_law) rfl (by decide) rfl ⟨rfl, by decide, by decide⟩ (fun w h Y => PySem.W.kIn_of Y) ?F (fun _ _ _ _ hl _ hS => Tr.law_end (by decide) hl hS) (fun _ _ _ _ _ h => h)
  case F =>
    intro w mg fa h KX G hmg
    refine' Lw.all_mk KX G hmg ?a__law_state ?l__law_state ?c__law_state ?k__law_state ?a__law_draw ?l__law_draw ?c__law_draw ?k__law_draw ?a__law_prime ?l__law_prime ?c__law_prime ?k__law_prime ?a__law_row ?l__law_row ?c__law_row ?k__law_row ?a__law_times ?l__law_times ?c__law_times ?k__law_times ?a__law_together ?l__law_together ?c__law_together ?k__law_together ?a__law_rows ?l__law_rows ?c__law_rows ?k__law_rows ?a_less_row ?l_less_row ?c_less_row ?k_less_row ?a_cleared ?l_cleared ?c_cleared ?k_cleared ?a_lead_of ?l_lead_of ?c_lead_of ?k_lead_of ?a_times_row ?l_times_row ?c_times_row ?k_times_row ?a_inverse ?l_inverse ?c_inverse ?k_inverse ?a_laid_in ?l_laid_in ?c_laid_in ?k_laid_in ?a_laid_out ?l_laid_out ?c_laid_out ?k_laid_out ?a_reduced ?l_reduced ?c_reduced ?k_reduced ?a_null_for ?l_null_for ?c_null_for ?k_null_for ?a_nulls_of ?l_nulls_of ?c_nulls_of ?k_nulls_of ?a_common ?l_common ?c_common ?k_common ?a__law_alike ?l__law_alike ?c__law_alike ?k__law_alike ?a__law_inverse ?l__law_inverse ?c__law_inverse ?k__law_inverse ?a__law_reduced ?l__law_reduced ?c__law_reduced ?k__law_reduced ?a__law_is_few ?l__law_is_few ?c__law_is_few ?k__law_is_few ?a__law_few ?l__law_few ?c__law_few ?k__law_few ?a__law_all ?l__law_all ?c__law_all ?k__law_all ?a_follows ?l_follows ?c_follows ?k_follows ?a__law_common_right ?l__law_common_right ?c__law_common_right ?k__law_common_right ?a_without ?l_without ?c_without ?k_without ?a__law_without_right ?l__law_without_right ?c__law_without_right ?k__law_without_right ?a_law ?l_law ?c_law ?k_law ?n_abs ?n_len ?n_range ?n_tuple ?n_zip ?n_enumerate ?n_sorted ?n_isinstance ?n_bool ?n_list ?n_min
    (case a__law_state => k_is); (case l__law_state => k_is); (case c__law_state => k_is); (case k__law_state => k_is); (case a__law_draw => k_is); (case l__law_draw => k_is); (case c__law_draw => k_is); (case k__law_draw => k_is); (case a__law_prime => k_is); (case l__law_prime => k_is); (case c__law_prime => k_is); (case k__law_prime => k_is); (case a__law_row => k_is); (case l__law_row => k_is); (case c__law_row => k_is); (case k__law_row => k_is); (case a__law_times => k_is); (case l__law_times => k_is); (case c__law_times => k_is); (case k__law_times => k_is); (case a__law_together => k_is); (case l__law_together => k_is); (case c__law_together => k_is); (case k__law_together => k_is); (case a__law_rows => k_is); (case l__law_rows => k_is); (case c__law_rows => k_is); (case k__law_rows => k_is); (case a_less_row => k_is); (case l_less_row => k_is); (case c_less_row => k_is); (case k_less_row => k_is); (case a_cleared => k_is); (case l_cleared => k_is); (case c_cleared => k_is); (case k_cleared => k_is); (case a_lead_of => k_is); (case l_lead_of => k_is); (case c_lead_of => k_is); (case k_lead_of => k_is); (case a_times_row => k_is); (case l_times_row => k_is); (case c_times_row => k_is); (case k_times_row => k_is); (case a_inverse => k_is); (case l_inverse => k_is); (case c_inverse => k_is); (case k_inverse => k_is); (case a_laid_in => k_is); (case l_laid_in => k_is); (case c_laid_in => k_is); (case k_laid_in => k_is); (case a_laid_out => k_is); (case l_laid_out => k_is); (case c_laid_out => k_is); (case k_laid_out => k_is); (case a_reduced => k_is); (case l_reduced => k_is); (case c_reduced => k_is); (case k_reduced => k_is); (case a_null_for => k_is); (case l_null_for => k_is); (case c_null_for => k_is); (case k_null_for => k_is); (case a_nulls_of => k_is); (case l_nulls_of => k_is); (case c_nulls_of => k_is); (case k_nulls_of => k_is); (case a_common => k_is); (case l_common => k_is); (case c_common => k_is); (case k_common => k_is); (case a__law_alike => k_is); (case l__law_alike => k_is); (case c__law_alike => k_is); (case k__law_alike => k_is); (case a__law_inverse => k_is); (case l__law_inverse => k_is); (case c__law_inverse => k_is); (case k__law_inverse => k_is); (case a__law_reduced => k_is); (case l__law_reduced => k_is); (case c__law_reduced => k_is); (case k__law_reduced => k_is); (case a__law_is_few => k_is); (case l__law_is_few => k_is); (case c__law_is_few => k_is); (case k__law_is_few => k_is); (case a__law_few => k_is); (case l__law_few => k_is); (case c__law_few => k_is); (case k__law_few => k_is); (case a__law_all => k_is); (case l__law_all => k_is); (case c__law_all => k_is); (case k__law_all => k_is); (case a_follows => k_is); (case l_follows => k_is); (case c_follows => k_is); (case k_follows => k_is); (case a__law_common_right => k_is); (case l__law_common_right => k_is); (case c__law_common_right => k_is); (case k__law_common_right => k_is); (case a_without => k_is); (case l_without => k_is); (case c_without => k_is); (case k_without => k_is); (case a__law_without_right => k_is); (case l__law_without_right => k_is); (case c__law_without_right => k_is); (case k__law_without_right => k_is); (case a_law => k_is); (case l_law => k_is); (case c_law => k_is); (case k_law => k_is); (case n_abs => k_is); (case n_len => k_is); (case n_range => k_is); (case n_tuple => k_is); (case n_zip => k_is); (case n_enumerate => k_is); (case n_sorted => k_is); (case n_isinstance => k_is); (case n_bool => k_is); (case n_list => k_is); (case n_min => k_is)
